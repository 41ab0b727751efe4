import PyProof.Rows.All
import Wide.All
import OpenK.AllK
import Wide.FinOn
import KE.KStateDown
import Lean
import HandS.ForMost
import HandS.More
import HandS.TupAny
import HandS.IsInst
import HandS.Rev
import HandS.NoneIn
import HandS.Walk
import KE.GoesMore
import PyProof.NeKinds
import PyProof.StrOps2
import HandS.WordsExc
import HandS.Defaults
import HandS.Head0
import HandS.Head1
import HandS.Head2
import HandS.HeadEnd
import HandS.HeadHook1
import HandS.HeadHook2
import PySem.Challenge.RW_askladder_k84_whole_taking_turns
set_option Elab.async false
set_option linter.all false
set_option maxRecDepth 100000
set_option maxHeartbeats 4000000
/-! L1 -/
namespace AL
open PySem PySem.Spec PyProof.Rows L2
/-! ### the symbolic heap: Z frozen, L mutable -/
abbrev Lx := List (Addr × HO)
structure SH (Z : Hp) (L : Lx) (H : Hp) : Prop where
  z : Same Z H
  l : ∀ a o, (a, o) ∈ L → H a = some o
  nd : (L.map Prod.fst).Nodup
  sep : ∀ a o, (a, o) ∈ L → Z a = none
/-- where an object is found -/
inductive In (Z : Hp) (L : Lx) (a : Addr) (o : HO) : Prop where
  | l (h : (a, o) ∈ L)
  | z (h : Z a = some o)
variable {Z Z1 Z2 : Hp} {L L1 L2 M : Lx} {H : Hp} {a b p : Addr} {o u : HO}
theorem SH.at (S : SH Z L H) (h : In Z L a o) : H a = some o := by
  cases h with
  | l h => exact S.l _ _ h
  | z h => exact S.z _ _ h
theorem Same.app (h : Same Z Z1) (e : Z a = some o) : Z1 a = some o := h _ _ e
/-- L with o at a -/
inductive Wr : Lx → Addr → HO → Lx → Prop where
  | here {a o u r} : Wr ((a, u) :: r) a o ((a, o) :: r)
  | next {e L a o L1} (h : Wr L a o L1) : Wr (e :: L) a o (e :: L1)
theorem Wr.keys (w : Wr L a o L1) : L1.map Prod.fst = L.map Prod.fst := by
  induction w with
  | here => rfl
  | next _ ih => simp [ih]
theorem Wr.mem (w : Wr L a o L1) : a ∈ L.map Prod.fst ∧ ((L.map Prod.fst).Nodup → ∀ b u, (b, u) ∈ L1 → (b = a ∧ u = o) ∨ (b ≠ a ∧ (b, u) ∈ L)) := by
  induction w with
  | @here a o u r =>
    refine ⟨by simp, fun nd b v hm => ?_⟩
    rcases List.mem_cons.mp hm with e | hm
    · cases e; exact .inl ⟨rfl, rfl⟩
    · obtain ⟨n1, _⟩ := List.nodup_cons.mp (show (a :: r.map Prod.fst).Nodup from nd)
      exact .inr ⟨fun e => n1 (e ▸ List.mem_map.mpr ⟨_, hm, rfl⟩), List.mem_cons_of_mem _ hm⟩
  | @next e L a o L1 h ih =>
    refine ⟨List.mem_cons_of_mem _ ih.1, fun nd b v hm => ?_⟩
    obtain ⟨n1, n2⟩ := List.nodup_cons.mp (show (e.1 :: L.map Prod.fst).Nodup from nd)
    rcases List.mem_cons.mp hm with q | hm
    · subst q
      exact .inr ⟨fun z => n1 (by rw [show (b, v).1 = a from z]; exact ih.1), List.mem_cons_self⟩
    · rcases ih.2 n2 b v hm with q | ⟨q, q2⟩
      · exact .inl q
      · exact .inr ⟨q, List.mem_cons_of_mem _ q2⟩
theorem SH.key (S : SH Z L H) (h : a ∈ L.map Prod.fst) : ∃ o, H a = some o := by
  obtain ⟨⟨b, o⟩, hm, rfl⟩ := List.mem_map.mp h
  exact ⟨o, S.l _ _ hm⟩
theorem SH.zkey (S : SH Z L H) (h : a ∈ L.map Prod.fst) : Z a = none := by
  obtain ⟨⟨b, o⟩, hm, rfl⟩ := List.mem_map.mp h
  exact S.sep _ _ hm
theorem SH.wr (S : SH Z L H) (w : Wr L a o L1) : SH Z L1 (upd H a o) := by
  obtain ⟨w1, w2⟩ := w.mem
  refine ⟨fun b u e => ?_, fun b u hm => ?_, by rw [w.keys]; exact S.nd, fun b u hm => ?_⟩
  · rw [upd_ne (fun q => by subst q; rw [S.zkey w1] at e; cases e)]; exact S.z _ _ e
  · rcases w2 S.nd b u hm with ⟨rfl, rfl⟩ | ⟨n, m⟩
    · exact upd_same
    · rw [upd_ne n]; exact S.l _ _ m
  · rcases w2 S.nd b u hm with ⟨rfl, rfl⟩ | ⟨n, m⟩
    · exact S.zkey w1
    · exact S.sep _ _ m
theorem SH.nokey (S : SH Z L H) (hp : H p = none) : p ∉ L.map Prod.fst := fun h => by
  obtain ⟨o, e⟩ := S.key h
  rw [hp] at e; cases e
theorem SH.znone (S : SH Z L H) (hp : H p = none) : Z p = none := Same.free S.z hp
theorem SH.new (S : SH Z L H) (hp : H p = none) : SH Z ((p, o) :: L) (upd H p o) := by
  refine ⟨fun b u e => ?_, fun b u hm => ?_, List.nodup_cons.mpr ⟨S.nokey hp, S.nd⟩, fun b u hm => ?_⟩
  · rw [upd_ne (ne_of_none (S.z _ _ e) hp)]; exact S.z _ _ e
  · rcases List.mem_cons.mp hm with q | hm
    · cases q; exact upd_same
    · rw [upd_ne (ne_of_none (S.l _ _ hm) hp)]; exact S.l _ _ hm
  · rcases List.mem_cons.mp hm with q | hm
    · cases q; exact S.znone hp
    · exact S.sep _ _ hm
theorem SH.unt (S : SH Z L H) (hp : H p = none) : SH Z L (upd H p o) :=
  ⟨fun b u e => by rw [upd_ne (ne_of_none (S.z _ _ e) hp)]; exact S.z _ _ e, fun b u hm => by rw [upd_ne (ne_of_none (S.l _ _ hm) hp)]; exact S.l _ _ hm, S.nd, S.sep⟩
theorem SH.sub (S : SH Z L H) (h : L1.Sublist L) : SH Z L1 H :=
  ⟨S.z, fun b u hm => S.l _ _ (h.subset hm), (h.map _).nodup S.nd, fun b u hm => S.sep _ _ (h.subset hm)⟩
theorem SH.perm (S : SH Z L H) (h : L.Perm L1) : SH Z L1 H :=
  ⟨S.z, fun b u hm => S.l _ _ (h.mem_iff.mpr hm), (h.map _).nodup_iff.mp S.nd, fun b u hm => S.sep _ _ (h.mem_iff.mpr hm)⟩
theorem SH.tail {e} (S : SH Z (e :: L) H) : SH Z L H := S.sub (List.sublist_cons_self _ _)
theorem Same.add (h : Z p = none) : Same Z (upd Z p o) := fun b u e => by rw [upd_ne (ne_of_none e h)]; exact e
/-- freeze the first -/
theorem SH.frz (S : SH Z ((p, o) :: L) H) : SH (upd Z p o) L H ∧ Same Z (upd Z p o) := by
  have zp : Z p = none := S.sep _ _ List.mem_cons_self
  obtain ⟨n1, n2⟩ := List.nodup_cons.mp (show (p :: L.map Prod.fst).Nodup from S.nd)
  refine ⟨⟨fun b u e => ?_, fun b u hm => S.l _ _ (List.mem_cons_of_mem _ hm), n2, fun b u hm => ?_⟩, Same.add zp⟩
  · by_cases q : b = p
    · subst q; rw [upd_same] at e; cases e; exact S.l _ _ List.mem_cons_self
    · rw [upd_ne q] at e; exact S.z _ _ e
  · rw [upd_ne (fun q => n1 (by rw [← q]; exact List.mem_map.mpr ⟨_, hm, rfl⟩))]; exact S.sep _ _ (List.mem_cons_of_mem _ hm)
/-- freeze several: the entries of M in front -/
def fz (Z : Hp) : Lx → Hp
  | [] => Z
  | (p, o) :: r => fz (upd Z p o) r
theorem SH.frzs : ∀ {M : Lx} {Z : Hp}, SH Z (M ++ L) H → SH (fz Z M) L H ∧ Same Z (fz Z M) ∧ ∀ a o, (a, o) ∈ M → fz Z M a = some o
  | [], Z, S => ⟨S, Same.refl _, fun _ _ h => by cases h⟩
  | (p, o) :: r, Z, S => by
    obtain ⟨S1, h1⟩ := SH.frz (show SH Z ((p, o) :: (r ++ L)) H from S)
    obtain ⟨S2, h2, h3⟩ := SH.frzs (M := r) S1
    refine ⟨S2, h1.trans h2, fun a u hm => ?_⟩
    rcases List.mem_cons.mp hm with q | hm
    · cases q; exact h2 _ _ upd_same
    · exact h3 _ _ hm
/-- one taken out, frozen -/
inductive Pick : Lx → Addr → HO → Lx → Prop where
  | here {p o r} : Pick ((p, o) :: r) p o r
  | next {e L p o L1} (h : Pick L p o L1) : Pick (e :: L) p o (e :: L1)
theorem Pick.perm (h : Pick L p o L1) : L.Perm ((p, o) :: L1) := by
  induction h with
  | here => exact List.Perm.refl _
  | next _ ih => exact (List.Perm.cons _ ih).trans (List.Perm.swap _ _ _)
theorem SH.pick (S : SH Z L H) (h : Pick L p o L1) : SH (upd Z p o) L1 H ∧ Same Z (upd Z p o) ∧ upd Z p o p = some o := by
  obtain ⟨S1, h1⟩ := (S.perm h.perm).frz
  exact ⟨S1, h1, upd_same⟩
/-- all that stands ahead, nothing mutable known -/
theorem SH.of (H : Hp) : SH H [] H := ⟨Same.refl _, fun _ _ h => (nomatch h), List.nodup_nil, fun _ _ h => (nomatch h)⟩
end AL
/-! T1 -/
namespace AL
open PySem PySem.Spec PyProof.Rows L2
/-! ### the text by places -/
def top (i : Nat) : Stmt := PySem.Challenge.pw_askladder_k84_whole_taking_turns.main.body.getD i (.Pass ⟨0, 0, 0, 0⟩)
abbrev s_named : Stmt := (top 2)
abbrev s_all_parts : Stmt := (top 3)
abbrev s_body_of : Stmt := (top 4)
abbrev s_end_begins : Stmt := (top 5)
abbrev s_hear_begins : Stmt := (top 6)
abbrev s_begun_with : Stmt := (top 7)
abbrev s_bodies_in : Stmt := (top 8)
abbrev s_pieces : Stmt := (top 9)
abbrev s_coded : Stmt := (top 11)
abbrev s_names_bound : Stmt := (top 12)
abbrev s_deed_of : Stmt := (top 13)
abbrev s_row_of : Stmt := (top 14)
abbrev s_part_code : Stmt := (top 15)
abbrev s_code_of : Stmt := (top 16)
abbrev s_atoms_of : Stmt := (top 18)
abbrev s_args_of : Stmt := (top 19)
abbrev s_weight_of : Stmt := (top 20)
abbrev s_weight_in : Stmt := (top 21)
abbrev s_param_weights : Stmt := (top 22)
abbrev s_goes_on_last : Stmt := (top 23)
abbrev s_hold_words : Stmt := (top 24)
abbrev s_Hold_init : Stmt := (inClass (top 27) 0)
abbrev s_summed_up : Stmt := (top 28)
abbrev s_worth : Stmt := (top 29)
abbrev s_made : Stmt := (top 30)
abbrev s_with_name : Stmt := (top 31)
abbrev s_as_told : Stmt := (top 32)
abbrev s_heard_by : Stmt := (top 33)
abbrev s_keeps_in : Stmt := (top 34)
abbrev s_Walk_init : Stmt := (inClass (top 35) 0)
abbrev s_Walk_begin : Stmt := (inClass (top 35) 1)
abbrev s_Walk_turn : Stmt := (inClass (top 35) 2)
abbrev s_Walk_pass_on : Stmt := (inClass (top 35) 3)
abbrev s_Walk_wait : Stmt := (inClass (top 35) 4)
abbrev s_Walk_ask : Stmt := (inClass (top 35) 5)
abbrev s_Walk_go_on : Stmt := (inClass (top 35) 6)
abbrev s_Walk_bind : Stmt := (inClass (top 35) 7)
abbrev s_Walk_give : Stmt := (inClass (top 35) 8)
abbrev s_Walk_steps : Stmt := (inClass (top 35) 10)
abbrev s_Walk_end : Stmt := (inClass (top 35) 11)
abbrev s_Walk_book : Stmt := (inClass (top 35) 12)
abbrev s_Frame_init : Stmt := (inClass (top 37) 0)
abbrev s_Keep_init : Stmt := (inClass (top 38) 0)
abbrev s_Pass_init : Stmt := (inClass (top 39) 0)
abbrev s_Screen_init : Stmt := (inClass (top 40) 0)
abbrev s_Cut_init : Stmt := (inClass (top 41) 0)
abbrev s_is_counted : Stmt := (top 42)
abbrev s_copied : Stmt := (top 43)
abbrev s_Machine_init : Stmt := (inClass (top 44) 0)
abbrev s_Machine_begin : Stmt := (inClass (top 44) 1)
abbrev s_Machine_step : Stmt := (inClass (top 44) 2)
abbrev s_Machine_turn : Stmt := (inClass (top 44) 3)
abbrev s_Machine_worth : Stmt := (inClass (top 44) 4)
abbrev s_Machine_do_row : Stmt := (inClass (top 44) 5)
abbrev s_Machine_made : Stmt := (inClass (top 44) 6)
abbrev s_Machine_wait : Stmt := (inClass (top 44) 7)
abbrev s_Machine_is_screened : Stmt := (inClass (top 44) 8)
abbrev s_Machine_leave : Stmt := (inClass (top 44) 9)
abbrev s_Machine_put_keep : Stmt := (inClass (top 44) 10)
abbrev s_Machine_bind : Stmt := (inClass (top 44) 11)
abbrev s_Machine_give : Stmt := (inClass (top 44) 12)
abbrev s_Machine_seen_from : Stmt := (inClass (top 44) 13)
abbrev s_Machine_keeps_beneath : Stmt := (inClass (top 44) 14)
abbrev s_Machine_ask : Stmt := (inClass (top 44) 15)
abbrev s_Machine_go_last : Stmt := (inClass (top 44) 16)
abbrev s_Machine_go_on : Stmt := (inClass (top 44) 17)
abbrev s_by_rows : Stmt := (top 45)
abbrev s_ran : Stmt := (top 47)
abbrev s_Flight_init : Stmt := (inClass (top 49) 0)
abbrev s_Flight_with_note : Stmt := (inClass (top 49) 1)
abbrev s_Stairs_init : Stmt := (inClass (top 50) 0)
abbrev s_Stairs_begin : Stmt := (inClass (top 50) 1)
abbrev s_Stairs_put_flight : Stmt := (inClass (top 50) 2)
abbrev s_Stairs_take_flight : Stmt := (inClass (top 50) 3)
abbrev s_Stairs_turn : Stmt := (inClass (top 50) 4)
abbrev s_Stairs_behind : Stmt := (inClass (top 50) 5)
abbrev s_Stairs_wait : Stmt := (inClass (top 50) 6)
abbrev s_Stairs_ask : Stmt := (inClass (top 50) 7)
abbrev s_Stairs_go_on : Stmt := (inClass (top 50) 8)
abbrev s_Stairs_bind : Stmt := (inClass (top 50) 9)
abbrev s_Stairs_give : Stmt := (inClass (top 50) 10)
abbrev s_Stairs_steps : Stmt := (inClass (top 50) 13)
abbrev s_Stairs_end : Stmt := (inClass (top 50) 14)
abbrev s_Stairs_book : Stmt := (inClass (top 50) 15)
abbrev s_by_stairs : Stmt := (top 51)
abbrev s_l_deal : Stmt := (top 53)
abbrev s_l_draw : Stmt := (top 54)
abbrev s_l_words : Stmt := (top 55)
abbrev s_l_closed : Stmt := (top 56)
abbrev s_l_ways : Stmt := (top 57)
abbrev s_l_keeper : Stmt := (top 58)
abbrev s_l_player : Stmt := (top 59)
abbrev s_l_due : Stmt := (top 60)
abbrev s_law : Stmt := (top 61)
/-! ### the facts asked of the head -/
def fa0 : List He.Fa := [.glo "named", .glo "all_parts", .glo "body_of", .glo "end_begins", .glo "hear_begins", .glo "begun_with", .glo "bodies_in", .glo "pieces", .glo "coded", .glo "names_bound", .glo "deed_of", .glo "row_of", .glo "part_code", .glo "code_of", .glo "atoms_of", .glo "args_of", .glo "weight_of", .glo "weight_in", .glo "param_weights", .glo "goes_on_last"]
def fa1 : List He.Fa := [.glo "hold_words", .glo "summed_up", .glo "worth", .glo "made", .glo "with_name", .glo "as_told", .glo "heard_by", .glo "keeps_in", .glo "is_counted", .glo "copied", .glo "by_rows", .glo "ran", .glo "by_stairs", .glo "_law_deal", .glo "_law_draw", .glo "_law_words", .glo "_law_closed", .glo "_law_ways", .glo "_law_keeper", .glo "_law_player"]
def fa2 : List He.Fa := [.glo "_law_due", .glo "law", .glo "Hold", .glo "Walk", .glo "Frame", .glo "Keep", .glo "Pass", .glo "Screen", .glo "Cut", .glo "Machine", .glo "Flight", .glo "Stairs", .free "isinstance", .free "len", .free "list", .free "reversed", .free "tuple", .free "dict", .free "sum", .free "enumerate"]
def fa3 : List He.Fa := [.free "max", .free "min", .free "range", .free "zip", .free "int", .free "str", .int "MODULUS" 1000000000, .cls "Hold", .mkr "Hold", .cls "Walk", .mkr "Walk", .cls "Frame", .mkr "Frame", .cls "Keep", .mkr "Keep", .cls "Pass", .mkr "Pass", .cls "Screen", .mkr "Screen", .cls "Cut"]
def fa4 : List He.Fa := [.mkr "Cut", .cls "Machine", .mkr "Machine", .cls "Flight", .mkr "Flight", .cls "Stairs", .mkr "Stairs", .noat "Hold" "number", .noat "Hold" "held", .noat "Walk" "program", .noat "Walk" "listed", .noat "Walk" "hears", .noat "Walk" "stands", .noat "Walk" "taken", .noat "Walk" "held", .noat "Walk" "finish", .noat "Walk" "noted", .noat "Frame" "part", .noat "Frame" "rows", .noat "Frame" "at"]
def fa5 : List He.Fa := [.noat "Frame" "slots", .noat "Keep" "name", .noat "Keep" "note", .noat "Pass" "many", .noat "Screen" "deep", .noat "Screen" "number", .noat "Cut" "number", .noat "Cut" "once", .noat "Cut" "cut", .noat "Cut" "marked", .noat "Machine" "code", .noat "Machine" "how", .noat "Machine" "hears", .noat "Machine" "bound", .noat "Machine" "stands", .noat "Machine" "taken", .noat "Machine" "held", .noat "Machine" "finish", .noat "Machine" "pages", .noat "Machine" "copies"]
def fa6 : List He.Fa := [.noat "Machine" "greatest", .noat "Machine" "grown", .noat "Flight" "keeper", .noat "Flight" "note", .noat "Flight" "parts", .noat "Stairs" "program", .noat "Stairs" "listed", .noat "Stairs" "hears", .noat "Stairs" "row", .noat "Stairs" "heard", .noat "Stairs" "taken", .noat "Stairs" "held", .noat "Stairs" "finish", .noat "Stairs" "rows_noted", .meth "Walk" "begin", .meth "Walk" "turn", .meth "Walk" "pass_on", .meth "Walk" "wait", .meth "Walk" "ask", .meth "Walk" "go_on"]
def fa7 : List He.Fa := [.meth "Walk" "bind", .meth "Walk" "give", .meth "Walk" "steps", .meth "Walk" "end", .meth "Walk" "book", .meth "Machine" "begin", .meth "Machine" "step", .meth "Machine" "turn", .meth "Machine" "worth", .meth "Machine" "do_row", .meth "Machine" "made", .meth "Machine" "wait", .meth "Machine" "is_screened", .meth "Machine" "leave", .meth "Machine" "put_keep", .meth "Machine" "bind", .meth "Machine" "give", .meth "Machine" "seen_from", .meth "Machine" "keeps_beneath", .meth "Machine" "ask"]
def fa8 : List He.Fa := [.meth "Machine" "go_last", .meth "Machine" "go_on", .meth "Flight" "with_note", .meth "Stairs" "begin", .meth "Stairs" "put_flight", .meth "Stairs" "take_flight", .meth "Stairs" "turn", .meth "Stairs" "behind", .meth "Stairs" "wait", .meth "Stairs" "ask", .meth "Stairs" "go_on", .meth "Stairs" "bind", .meth "Stairs" "give", .meth "Stairs" "steps", .meth "Stairs" "end", .meth "Stairs" "book"]
abbrev at_named : Str × Option Str := ("named", none)
def d_named : He.DefD := ⟨at_named, "named", "named", defArgs s_named, defBody s_named, defScope s_named, [], []⟩
abbrev at_all_parts : Str × Option Str := ("all_parts", none)
def d_all_parts : He.DefD := ⟨at_all_parts, "all_parts", "all_parts", defArgs s_all_parts, defBody s_all_parts, defScope s_all_parts, [], []⟩
abbrev at_body_of : Str × Option Str := ("body_of", none)
def d_body_of : He.DefD := ⟨at_body_of, "body_of", "body_of", defArgs s_body_of, defBody s_body_of, defScope s_body_of, [], []⟩
abbrev at_end_begins : Str × Option Str := ("end_begins", none)
def d_end_begins : He.DefD := ⟨at_end_begins, "end_begins", "end_begins", defArgs s_end_begins, defBody s_end_begins, defScope s_end_begins, [], []⟩
abbrev at_hear_begins : Str × Option Str := ("hear_begins", none)
def d_hear_begins : He.DefD := ⟨at_hear_begins, "hear_begins", "hear_begins", defArgs s_hear_begins, defBody s_hear_begins, defScope s_hear_begins, [], []⟩
abbrev at_begun_with : Str × Option Str := ("begun_with", none)
def d_begun_with : He.DefD := ⟨at_begun_with, "begun_with", "begun_with", defArgs s_begun_with, defBody s_begun_with, defScope s_begun_with, [], []⟩
abbrev at_bodies_in : Str × Option Str := ("bodies_in", none)
def d_bodies_in : He.DefD := ⟨at_bodies_in, "bodies_in", "bodies_in", defArgs s_bodies_in, defBody s_bodies_in, defScope s_bodies_in, [], []⟩
abbrev at_pieces : Str × Option Str := ("pieces", none)
def d_pieces : He.DefD := ⟨at_pieces, "pieces", "pieces", defArgs s_pieces, defBody s_pieces, defScope s_pieces, [], []⟩
abbrev at_coded : Str × Option Str := ("coded", none)
def d_coded : He.DefD := ⟨at_coded, "coded", "coded", defArgs s_coded, defBody s_coded, defScope s_coded, [], []⟩
abbrev at_names_bound : Str × Option Str := ("names_bound", none)
def d_names_bound : He.DefD := ⟨at_names_bound, "names_bound", "names_bound", defArgs s_names_bound, defBody s_names_bound, defScope s_names_bound, [], []⟩
abbrev at_deed_of : Str × Option Str := ("deed_of", none)
def d_deed_of : He.DefD := ⟨at_deed_of, "deed_of", "deed_of", defArgs s_deed_of, defBody s_deed_of, defScope s_deed_of, [], []⟩
abbrev at_row_of : Str × Option Str := ("row_of", none)
def d_row_of : He.DefD := ⟨at_row_of, "row_of", "row_of", defArgs s_row_of, defBody s_row_of, defScope s_row_of, [], []⟩
abbrev at_part_code : Str × Option Str := ("part_code", none)
def d_part_code : He.DefD := ⟨at_part_code, "part_code", "part_code", defArgs s_part_code, defBody s_part_code, defScope s_part_code, [], []⟩
abbrev at_code_of : Str × Option Str := ("code_of", none)
def d_code_of : He.DefD := ⟨at_code_of, "code_of", "code_of", defArgs s_code_of, defBody s_code_of, defScope s_code_of, [], []⟩
abbrev at_atoms_of : Str × Option Str := ("atoms_of", none)
def d_atoms_of : He.DefD := ⟨at_atoms_of, "atoms_of", "atoms_of", defArgs s_atoms_of, defBody s_atoms_of, defScope s_atoms_of, [], []⟩
abbrev at_args_of : Str × Option Str := ("args_of", none)
def d_args_of : He.DefD := ⟨at_args_of, "args_of", "args_of", defArgs s_args_of, defBody s_args_of, defScope s_args_of, [], []⟩
abbrev at_weight_of : Str × Option Str := ("weight_of", none)
def d_weight_of : He.DefD := ⟨at_weight_of, "weight_of", "weight_of", defArgs s_weight_of, defBody s_weight_of, defScope s_weight_of, [], []⟩
abbrev at_weight_in : Str × Option Str := ("weight_in", none)
def d_weight_in : He.DefD := ⟨at_weight_in, "weight_in", "weight_in", defArgs s_weight_in, defBody s_weight_in, defScope s_weight_in, [], []⟩
abbrev at_param_weights : Str × Option Str := ("param_weights", none)
def d_param_weights : He.DefD := ⟨at_param_weights, "param_weights", "param_weights", defArgs s_param_weights, defBody s_param_weights, defScope s_param_weights, [], []⟩
abbrev at_goes_on_last : Str × Option Str := ("goes_on_last", none)
def d_goes_on_last : He.DefD := ⟨at_goes_on_last, "goes_on_last", "goes_on_last", defArgs s_goes_on_last, defBody s_goes_on_last, defScope s_goes_on_last, [], []⟩
abbrev at_hold_words : Str × Option Str := ("hold_words", none)
def d_hold_words : He.DefD := ⟨at_hold_words, "hold_words", "hold_words", defArgs s_hold_words, defBody s_hold_words, defScope s_hold_words, [], []⟩
abbrev at_Hold_init : Str × Option Str := ("Hold", some "__init__")
def d_Hold_init : He.DefD := ⟨at_Hold_init, "__init__", "Hold.__init__", defArgs s_Hold_init, defBody s_Hold_init, defScope s_Hold_init, [], []⟩
abbrev at_summed_up : Str × Option Str := ("summed_up", none)
def d_summed_up : He.DefD := ⟨at_summed_up, "summed_up", "summed_up", defArgs s_summed_up, defBody s_summed_up, defScope s_summed_up, [], []⟩
abbrev at_worth : Str × Option Str := ("worth", none)
def d_worth : He.DefD := ⟨at_worth, "worth", "worth", defArgs s_worth, defBody s_worth, defScope s_worth, [], []⟩
abbrev at_made : Str × Option Str := ("made", none)
def d_made : He.DefD := ⟨at_made, "made", "made", defArgs s_made, defBody s_made, defScope s_made, [], []⟩
abbrev at_with_name : Str × Option Str := ("with_name", none)
def d_with_name : He.DefD := ⟨at_with_name, "with_name", "with_name", defArgs s_with_name, defBody s_with_name, defScope s_with_name, [], []⟩
abbrev at_as_told : Str × Option Str := ("as_told", none)
def d_as_told : He.DefD := ⟨at_as_told, "as_told", "as_told", defArgs s_as_told, defBody s_as_told, defScope s_as_told, [], []⟩
abbrev at_heard_by : Str × Option Str := ("heard_by", none)
def d_heard_by : He.DefD := ⟨at_heard_by, "heard_by", "heard_by", defArgs s_heard_by, defBody s_heard_by, defScope s_heard_by, [], []⟩
abbrev at_keeps_in : Str × Option Str := ("keeps_in", none)
def d_keeps_in : He.DefD := ⟨at_keeps_in, "keeps_in", "keeps_in", defArgs s_keeps_in, defBody s_keeps_in, defScope s_keeps_in, [], []⟩
abbrev at_Walk_init : Str × Option Str := ("Walk", some "__init__")
def d_Walk_init : He.DefD := ⟨at_Walk_init, "__init__", "Walk.__init__", defArgs s_Walk_init, defBody s_Walk_init, defScope s_Walk_init, [], []⟩
abbrev at_Walk_begin : Str × Option Str := ("Walk", some "begin")
def d_Walk_begin : He.DefD := ⟨at_Walk_begin, "begin", "Walk.begin", defArgs s_Walk_begin, defBody s_Walk_begin, defScope s_Walk_begin, [], []⟩
abbrev at_Walk_turn : Str × Option Str := ("Walk", some "turn")
def d_Walk_turn : He.DefD := ⟨at_Walk_turn, "turn", "Walk.turn", defArgs s_Walk_turn, defBody s_Walk_turn, defScope s_Walk_turn, [], []⟩
abbrev at_Walk_pass_on : Str × Option Str := ("Walk", some "pass_on")
def d_Walk_pass_on : He.DefD := ⟨at_Walk_pass_on, "pass_on", "Walk.pass_on", defArgs s_Walk_pass_on, defBody s_Walk_pass_on, defScope s_Walk_pass_on, [], []⟩
abbrev at_Walk_wait : Str × Option Str := ("Walk", some "wait")
def d_Walk_wait : He.DefD := ⟨at_Walk_wait, "wait", "Walk.wait", defArgs s_Walk_wait, defBody s_Walk_wait, defScope s_Walk_wait, [], []⟩
abbrev at_Walk_ask : Str × Option Str := ("Walk", some "ask")
def d_Walk_ask : He.DefD := ⟨at_Walk_ask, "ask", "Walk.ask", defArgs s_Walk_ask, defBody s_Walk_ask, defScope s_Walk_ask, [], []⟩
abbrev at_Walk_go_on : Str × Option Str := ("Walk", some "go_on")
def d_Walk_go_on : He.DefD := ⟨at_Walk_go_on, "go_on", "Walk.go_on", defArgs s_Walk_go_on, defBody s_Walk_go_on, defScope s_Walk_go_on, [], []⟩
abbrev at_Walk_bind : Str × Option Str := ("Walk", some "bind")
def d_Walk_bind : He.DefD := ⟨at_Walk_bind, "bind", "Walk.bind", defArgs s_Walk_bind, defBody s_Walk_bind, defScope s_Walk_bind, [], []⟩
abbrev at_Walk_give : Str × Option Str := ("Walk", some "give")
def d_Walk_give : He.DefD := ⟨at_Walk_give, "give", "Walk.give", defArgs s_Walk_give, defBody s_Walk_give, defScope s_Walk_give, [], []⟩
abbrev at_Walk_steps : Str × Option Str := ("Walk", some "steps")
def d_Walk_steps : He.DefD := ⟨at_Walk_steps, "steps", "Walk.steps", defArgs s_Walk_steps, defBody s_Walk_steps, defScope s_Walk_steps, [], []⟩
abbrev at_Walk_end : Str × Option Str := ("Walk", some "end")
def d_Walk_end : He.DefD := ⟨at_Walk_end, "end", "Walk.end", defArgs s_Walk_end, defBody s_Walk_end, defScope s_Walk_end, [], []⟩
abbrev at_Walk_book : Str × Option Str := ("Walk", some "book")
def d_Walk_book : He.DefD := ⟨at_Walk_book, "book", "Walk.book", defArgs s_Walk_book, defBody s_Walk_book, defScope s_Walk_book, [], []⟩
abbrev at_Frame_init : Str × Option Str := ("Frame", some "__init__")
def d_Frame_init : He.DefD := ⟨at_Frame_init, "__init__", "Frame.__init__", defArgs s_Frame_init, defBody s_Frame_init, defScope s_Frame_init, [], []⟩
abbrev at_Keep_init : Str × Option Str := ("Keep", some "__init__")
def d_Keep_init : He.DefD := ⟨at_Keep_init, "__init__", "Keep.__init__", defArgs s_Keep_init, defBody s_Keep_init, defScope s_Keep_init, [], []⟩
abbrev at_Pass_init : Str × Option Str := ("Pass", some "__init__")
def d_Pass_init : He.DefD := ⟨at_Pass_init, "__init__", "Pass.__init__", defArgs s_Pass_init, defBody s_Pass_init, defScope s_Pass_init, [], []⟩
abbrev at_Screen_init : Str × Option Str := ("Screen", some "__init__")
def d_Screen_init : He.DefD := ⟨at_Screen_init, "__init__", "Screen.__init__", defArgs s_Screen_init, defBody s_Screen_init, defScope s_Screen_init, [], []⟩
abbrev at_Cut_init : Str × Option Str := ("Cut", some "__init__")
def d_Cut_init : He.DefD := ⟨at_Cut_init, "__init__", "Cut.__init__", defArgs s_Cut_init, defBody s_Cut_init, defScope s_Cut_init, [], []⟩
abbrev at_is_counted : Str × Option Str := ("is_counted", none)
def d_is_counted : He.DefD := ⟨at_is_counted, "is_counted", "is_counted", defArgs s_is_counted, defBody s_is_counted, defScope s_is_counted, [], []⟩
abbrev at_copied : Str × Option Str := ("copied", none)
def d_copied : He.DefD := ⟨at_copied, "copied", "copied", defArgs s_copied, defBody s_copied, defScope s_copied, [], []⟩
abbrev at_Machine_init : Str × Option Str := ("Machine", some "__init__")
def d_Machine_init : He.DefD := ⟨at_Machine_init, "__init__", "Machine.__init__", defArgs s_Machine_init, defBody s_Machine_init, defScope s_Machine_init, [], []⟩
abbrev at_Machine_begin : Str × Option Str := ("Machine", some "begin")
def d_Machine_begin : He.DefD := ⟨at_Machine_begin, "begin", "Machine.begin", defArgs s_Machine_begin, defBody s_Machine_begin, defScope s_Machine_begin, [], []⟩
abbrev at_Machine_step : Str × Option Str := ("Machine", some "step")
def d_Machine_step : He.DefD := ⟨at_Machine_step, "step", "Machine.step", defArgs s_Machine_step, defBody s_Machine_step, defScope s_Machine_step, [], []⟩
abbrev at_Machine_turn : Str × Option Str := ("Machine", some "turn")
def d_Machine_turn : He.DefD := ⟨at_Machine_turn, "turn", "Machine.turn", defArgs s_Machine_turn, defBody s_Machine_turn, defScope s_Machine_turn, [], []⟩
abbrev at_Machine_worth : Str × Option Str := ("Machine", some "worth")
def d_Machine_worth : He.DefD := ⟨at_Machine_worth, "worth", "Machine.worth", defArgs s_Machine_worth, defBody s_Machine_worth, defScope s_Machine_worth, [], []⟩
abbrev at_Machine_do_row : Str × Option Str := ("Machine", some "do_row")
def d_Machine_do_row : He.DefD := ⟨at_Machine_do_row, "do_row", "Machine.do_row", defArgs s_Machine_do_row, defBody s_Machine_do_row, defScope s_Machine_do_row, [], []⟩
abbrev at_Machine_made : Str × Option Str := ("Machine", some "made")
def d_Machine_made : He.DefD := ⟨at_Machine_made, "made", "Machine.made", defArgs s_Machine_made, defBody s_Machine_made, defScope s_Machine_made, [], []⟩
abbrev at_Machine_wait : Str × Option Str := ("Machine", some "wait")
def d_Machine_wait : He.DefD := ⟨at_Machine_wait, "wait", "Machine.wait", defArgs s_Machine_wait, defBody s_Machine_wait, defScope s_Machine_wait, [], []⟩
abbrev at_Machine_is_screened : Str × Option Str := ("Machine", some "is_screened")
def d_Machine_is_screened : He.DefD := ⟨at_Machine_is_screened, "is_screened", "Machine.is_screened", defArgs s_Machine_is_screened, defBody s_Machine_is_screened, defScope s_Machine_is_screened, [], []⟩
abbrev at_Machine_leave : Str × Option Str := ("Machine", some "leave")
def d_Machine_leave : He.DefD := ⟨at_Machine_leave, "leave", "Machine.leave", defArgs s_Machine_leave, defBody s_Machine_leave, defScope s_Machine_leave, [], []⟩
abbrev at_Machine_put_keep : Str × Option Str := ("Machine", some "put_keep")
def d_Machine_put_keep : He.DefD := ⟨at_Machine_put_keep, "put_keep", "Machine.put_keep", defArgs s_Machine_put_keep, defBody s_Machine_put_keep, defScope s_Machine_put_keep, [], []⟩
abbrev at_Machine_bind : Str × Option Str := ("Machine", some "bind")
def d_Machine_bind : He.DefD := ⟨at_Machine_bind, "bind", "Machine.bind", defArgs s_Machine_bind, defBody s_Machine_bind, defScope s_Machine_bind, [], []⟩
abbrev at_Machine_give : Str × Option Str := ("Machine", some "give")
def d_Machine_give : He.DefD := ⟨at_Machine_give, "give", "Machine.give", defArgs s_Machine_give, defBody s_Machine_give, defScope s_Machine_give, [], []⟩
abbrev at_Machine_seen_from : Str × Option Str := ("Machine", some "seen_from")
def d_Machine_seen_from : He.DefD := ⟨at_Machine_seen_from, "seen_from", "Machine.seen_from", defArgs s_Machine_seen_from, defBody s_Machine_seen_from, defScope s_Machine_seen_from, [], []⟩
abbrev at_Machine_keeps_beneath : Str × Option Str := ("Machine", some "keeps_beneath")
def d_Machine_keeps_beneath : He.DefD := ⟨at_Machine_keeps_beneath, "keeps_beneath", "Machine.keeps_beneath", defArgs s_Machine_keeps_beneath, defBody s_Machine_keeps_beneath, defScope s_Machine_keeps_beneath, [], []⟩
abbrev at_Machine_ask : Str × Option Str := ("Machine", some "ask")
def d_Machine_ask : He.DefD := ⟨at_Machine_ask, "ask", "Machine.ask", defArgs s_Machine_ask, defBody s_Machine_ask, defScope s_Machine_ask, [], []⟩
abbrev at_Machine_go_last : Str × Option Str := ("Machine", some "go_last")
def d_Machine_go_last : He.DefD := ⟨at_Machine_go_last, "go_last", "Machine.go_last", defArgs s_Machine_go_last, defBody s_Machine_go_last, defScope s_Machine_go_last, [], []⟩
abbrev at_Machine_go_on : Str × Option Str := ("Machine", some "go_on")
def d_Machine_go_on : He.DefD := ⟨at_Machine_go_on, "go_on", "Machine.go_on", defArgs s_Machine_go_on, defBody s_Machine_go_on, defScope s_Machine_go_on, [], []⟩
abbrev at_by_rows : Str × Option Str := ("by_rows", none)
def d_by_rows : He.DefD := ⟨at_by_rows, "by_rows", "by_rows", defArgs s_by_rows, defBody s_by_rows, defScope s_by_rows, [], []⟩
abbrev at_ran : Str × Option Str := ("ran", none)
def d_ran : He.DefD := ⟨at_ran, "ran", "ran", defArgs s_ran, defBody s_ran, defScope s_ran, [], []⟩
abbrev at_Flight_init : Str × Option Str := ("Flight", some "__init__")
def d_Flight_init : He.DefD := ⟨at_Flight_init, "__init__", "Flight.__init__", defArgs s_Flight_init, defBody s_Flight_init, defScope s_Flight_init, [], []⟩
abbrev at_Flight_with_note : Str × Option Str := ("Flight", some "with_note")
def d_Flight_with_note : He.DefD := ⟨at_Flight_with_note, "with_note", "Flight.with_note", defArgs s_Flight_with_note, defBody s_Flight_with_note, defScope s_Flight_with_note, [], []⟩
abbrev at_Stairs_init : Str × Option Str := ("Stairs", some "__init__")
def d_Stairs_init : He.DefD := ⟨at_Stairs_init, "__init__", "Stairs.__init__", defArgs s_Stairs_init, defBody s_Stairs_init, defScope s_Stairs_init, [], []⟩
abbrev at_Stairs_begin : Str × Option Str := ("Stairs", some "begin")
def d_Stairs_begin : He.DefD := ⟨at_Stairs_begin, "begin", "Stairs.begin", defArgs s_Stairs_begin, defBody s_Stairs_begin, defScope s_Stairs_begin, [], []⟩
abbrev at_Stairs_put_flight : Str × Option Str := ("Stairs", some "put_flight")
def d_Stairs_put_flight : He.DefD := ⟨at_Stairs_put_flight, "put_flight", "Stairs.put_flight", defArgs s_Stairs_put_flight, defBody s_Stairs_put_flight, defScope s_Stairs_put_flight, [], []⟩
abbrev at_Stairs_take_flight : Str × Option Str := ("Stairs", some "take_flight")
def d_Stairs_take_flight : He.DefD := ⟨at_Stairs_take_flight, "take_flight", "Stairs.take_flight", defArgs s_Stairs_take_flight, defBody s_Stairs_take_flight, defScope s_Stairs_take_flight, [], []⟩
abbrev at_Stairs_turn : Str × Option Str := ("Stairs", some "turn")
def d_Stairs_turn : He.DefD := ⟨at_Stairs_turn, "turn", "Stairs.turn", defArgs s_Stairs_turn, defBody s_Stairs_turn, defScope s_Stairs_turn, [], []⟩
abbrev at_Stairs_behind : Str × Option Str := ("Stairs", some "behind")
def d_Stairs_behind : He.DefD := ⟨at_Stairs_behind, "behind", "Stairs.behind", defArgs s_Stairs_behind, defBody s_Stairs_behind, defScope s_Stairs_behind, [], []⟩
abbrev at_Stairs_wait : Str × Option Str := ("Stairs", some "wait")
def d_Stairs_wait : He.DefD := ⟨at_Stairs_wait, "wait", "Stairs.wait", defArgs s_Stairs_wait, defBody s_Stairs_wait, defScope s_Stairs_wait, [], []⟩
abbrev at_Stairs_ask : Str × Option Str := ("Stairs", some "ask")
def d_Stairs_ask : He.DefD := ⟨at_Stairs_ask, "ask", "Stairs.ask", defArgs s_Stairs_ask, defBody s_Stairs_ask, defScope s_Stairs_ask, [], []⟩
abbrev at_Stairs_go_on : Str × Option Str := ("Stairs", some "go_on")
def d_Stairs_go_on : He.DefD := ⟨at_Stairs_go_on, "go_on", "Stairs.go_on", defArgs s_Stairs_go_on, defBody s_Stairs_go_on, defScope s_Stairs_go_on, [], []⟩
abbrev at_Stairs_bind : Str × Option Str := ("Stairs", some "bind")
def d_Stairs_bind : He.DefD := ⟨at_Stairs_bind, "bind", "Stairs.bind", defArgs s_Stairs_bind, defBody s_Stairs_bind, defScope s_Stairs_bind, [], []⟩
abbrev at_Stairs_give : Str × Option Str := ("Stairs", some "give")
def d_Stairs_give : He.DefD := ⟨at_Stairs_give, "give", "Stairs.give", defArgs s_Stairs_give, defBody s_Stairs_give, defScope s_Stairs_give, [], []⟩
abbrev at_Stairs_steps : Str × Option Str := ("Stairs", some "steps")
def d_Stairs_steps : He.DefD := ⟨at_Stairs_steps, "steps", "Stairs.steps", defArgs s_Stairs_steps, defBody s_Stairs_steps, defScope s_Stairs_steps, [], []⟩
abbrev at_Stairs_end : Str × Option Str := ("Stairs", some "end")
def d_Stairs_end : He.DefD := ⟨at_Stairs_end, "end", "Stairs.end", defArgs s_Stairs_end, defBody s_Stairs_end, defScope s_Stairs_end, [], []⟩
abbrev at_Stairs_book : Str × Option Str := ("Stairs", some "book")
def d_Stairs_book : He.DefD := ⟨at_Stairs_book, "book", "Stairs.book", defArgs s_Stairs_book, defBody s_Stairs_book, defScope s_Stairs_book, [], []⟩
abbrev at_by_stairs : Str × Option Str := ("by_stairs", none)
def d_by_stairs : He.DefD := ⟨at_by_stairs, "by_stairs", "by_stairs", defArgs s_by_stairs, defBody s_by_stairs, defScope s_by_stairs, [], []⟩
abbrev at_l_deal : Str × Option Str := ("_law_deal", none)
def d_l_deal : He.DefD := ⟨at_l_deal, "_law_deal", "_law_deal", defArgs s_l_deal, defBody s_l_deal, defScope s_l_deal, [], []⟩
abbrev at_l_draw : Str × Option Str := ("_law_draw", none)
def d_l_draw : He.DefD := ⟨at_l_draw, "_law_draw", "_law_draw", defArgs s_l_draw, defBody s_l_draw, defScope s_l_draw, [], []⟩
abbrev at_l_words : Str × Option Str := ("_law_words", none)
def d_l_words : He.DefD := ⟨at_l_words, "_law_words", "_law_words", defArgs s_l_words, defBody s_l_words, defScope s_l_words, [], []⟩
abbrev at_l_closed : Str × Option Str := ("_law_closed", none)
def d_l_closed : He.DefD := ⟨at_l_closed, "_law_closed", "_law_closed", defArgs s_l_closed, defBody s_l_closed, defScope s_l_closed, [], []⟩
abbrev at_l_ways : Str × Option Str := ("_law_ways", none)
def d_l_ways : He.DefD := ⟨at_l_ways, "_law_ways", "_law_ways", defArgs s_l_ways, defBody s_l_ways, defScope s_l_ways, [], []⟩
abbrev at_l_keeper : Str × Option Str := ("_law_keeper", none)
def d_l_keeper : He.DefD := ⟨at_l_keeper, "_law_keeper", "_law_keeper", defArgs s_l_keeper, defBody s_l_keeper, defScope s_l_keeper, [], []⟩
abbrev at_l_player : Str × Option Str := ("_law_player", none)
def d_l_player : He.DefD := ⟨at_l_player, "_law_player", "_law_player", defArgs s_l_player, defBody s_l_player, defScope s_l_player, [], []⟩
abbrev at_l_due : Str × Option Str := ("_law_due", none)
def d_l_due : He.DefD := ⟨at_l_due, "_law_due", "_law_due", defArgs s_l_due, defBody s_l_due, defScope s_l_due, [], []⟩
abbrev at_law : Str × Option Str := ("law", none)
def d_law : He.DefD := ⟨at_law, "law", "law", defArgs s_law, defBody s_law, defScope s_law, [], []⟩
def fn0 : List He.DefD := [d_named, d_all_parts, d_body_of, d_end_begins, d_hear_begins, d_begun_with, d_bodies_in, d_pieces, d_coded, d_names_bound, d_deed_of, d_row_of, d_part_code, d_code_of, d_atoms_of, d_args_of, d_weight_of, d_weight_in, d_param_weights, d_goes_on_last]
def fn1 : List He.DefD := [d_hold_words, d_Hold_init, d_summed_up, d_worth, d_made, d_with_name, d_as_told, d_heard_by, d_keeps_in, d_Walk_init, d_Walk_begin, d_Walk_turn, d_Walk_pass_on, d_Walk_wait, d_Walk_ask, d_Walk_go_on, d_Walk_bind, d_Walk_give, d_Walk_steps, d_Walk_end]
def fn2 : List He.DefD := [d_Walk_book, d_Frame_init, d_Keep_init, d_Pass_init, d_Screen_init, d_Cut_init, d_is_counted, d_copied, d_Machine_init, d_Machine_begin, d_Machine_step, d_Machine_turn, d_Machine_worth, d_Machine_do_row, d_Machine_made, d_Machine_wait, d_Machine_is_screened, d_Machine_leave, d_Machine_put_keep, d_Machine_bind]
def fn3 : List He.DefD := [d_Machine_give, d_Machine_seen_from, d_Machine_keeps_beneath, d_Machine_ask, d_Machine_go_last, d_Machine_go_on, d_by_rows, d_ran, d_Flight_init, d_Flight_with_note, d_Stairs_init, d_Stairs_begin, d_Stairs_put_flight, d_Stairs_take_flight, d_Stairs_turn, d_Stairs_behind, d_Stairs_wait, d_Stairs_ask, d_Stairs_go_on, d_Stairs_bind]
def fn4 : List He.DefD := [d_Stairs_give, d_Stairs_steps, d_Stairs_end, d_Stairs_book, d_by_stairs, d_l_deal, d_l_draw, d_l_words, d_l_closed, d_l_ways, d_l_keeper, d_l_player, d_l_due, d_law]
/-- isinstance of own instances against own classes -/
def isiX (K : PySem.W.Frag) (x y : Str) (b : Bool) : Bool := decide (PySem.W.kitOne K (.ref (He.ga K x)) (.ref (He.ga K y)) = some b)
def isiT (K : PySem.W.Frag) (x : Str) (t : String) (b : Bool) : Bool := decide (PySem.W.kitOne K (.ref (He.ga K x)) (.type t) = some b)
def isiB (K : PySem.W.Frag) (t : String) (y : Str) (b : Bool) : Bool := decide (PySem.W.kitOne K (.type t) (.ref (He.ga K y)) = some b)
def insX (K : PySem.W.Frag) (x : Str) : Bool := decide (PySem.W.findIn K (.ref (He.ga K x)) "__class__" = some (some (.builtin "object.__class__"))) && decide (PySem.W.mroIn K (He.ga K x) (.type "object") = some true)
def glX (K : PySem.W.Frag) : Bool := decide (PySem.W.specialIn K (.builtin "object.__class__") "__get__" = some (some (.builtin "getset_descriptor.__get__"))) && decide (PySem.W.takesIn K (.builtin "object.__class__") = some true)
def exB (K : PySem.W.Frag) : Bool := glX K && isiX K "Frame" "Frame" true && isiX K "Frame" "Keep" false && isiX K "Frame" "Pass" false && isiX K "Frame" "Screen" false && isiX K "Keep" "Frame" false && isiX K "Keep" "Keep" true && isiX K "Keep" "Pass" false && isiX K "Keep" "Screen" false && isiX K "Pass" "Frame" false && isiX K "Pass" "Keep" false && isiX K "Pass" "Pass" true && isiX K "Pass" "Screen" false && insX K "Frame" && insX K "Keep" && insX K "Pass" && isiB K "int" "Hold" false && isiB K "int" "Cut" false && isiB K "NoneType" "Cut" false
structure Tx (K : PySem.W.Frag) (mg : Str → Option Value) : Prop where
  h : ∃ h : Heap, K.In h ∧ h.Ns mainGlobals mg
  a0 : ∀ f ∈ fa0, f.ok K = true
  a1 : ∀ f ∈ fa1, f.ok K = true
  a2 : ∀ f ∈ fa2, f.ok K = true
  a3 : ∀ f ∈ fa3, f.ok K = true
  a4 : ∀ f ∈ fa4, f.ok K = true
  a5 : ∀ f ∈ fa5, f.ok K = true
  a6 : ∀ f ∈ fa6, f.ok K = true
  a7 : ∀ f ∈ fa7, f.ok K = true
  a8 : ∀ f ∈ fa8, f.ok K = true
  n0 : ∀ d ∈ fn0, ∃ fd, FunD K d.name d.qual d.params d.body d.scope (d.dvs K) (d.kws K) (He.fAd K d.at_) fd
  n1 : ∀ d ∈ fn1, ∃ fd, FunD K d.name d.qual d.params d.body d.scope (d.dvs K) (d.kws K) (He.fAd K d.at_) fd
  n2 : ∀ d ∈ fn2, ∃ fd, FunD K d.name d.qual d.params d.body d.scope (d.dvs K) (d.kws K) (He.fAd K d.at_) fd
  n3 : ∀ d ∈ fn3, ∃ fd, FunD K d.name d.qual d.params d.body d.scope (d.dvs K) (d.kws K) (He.fAd K d.at_) fd
  n4 : ∀ d ∈ fn4, ∃ fd, FunD K d.name d.qual d.params d.body d.scope (d.dvs K) (d.kws K) (He.fAd K d.at_) fd
  ex : exB K = true
variable {K : PySem.W.Frag} {mg : Str → Option Value}
theorem g_named (T : Tx K mg) : mg "named" = some (.ref (He.ga K "named")) := by
  obtain ⟨h, X, G⟩ := T.h
  exact He.glo_ok X G (T.a0 _ (List.mem_of_getElem? (i := 0) rfl))
theorem g_all_parts (T : Tx K mg) : mg "all_parts" = some (.ref (He.ga K "all_parts")) := by
  obtain ⟨h, X, G⟩ := T.h
  exact He.glo_ok X G (T.a0 _ (List.mem_of_getElem? (i := 1) rfl))
theorem g_body_of (T : Tx K mg) : mg "body_of" = some (.ref (He.ga K "body_of")) := by
  obtain ⟨h, X, G⟩ := T.h
  exact He.glo_ok X G (T.a0 _ (List.mem_of_getElem? (i := 2) rfl))
theorem g_end_begins (T : Tx K mg) : mg "end_begins" = some (.ref (He.ga K "end_begins")) := by
  obtain ⟨h, X, G⟩ := T.h
  exact He.glo_ok X G (T.a0 _ (List.mem_of_getElem? (i := 3) rfl))
theorem g_hear_begins (T : Tx K mg) : mg "hear_begins" = some (.ref (He.ga K "hear_begins")) := by
  obtain ⟨h, X, G⟩ := T.h
  exact He.glo_ok X G (T.a0 _ (List.mem_of_getElem? (i := 4) rfl))
theorem g_begun_with (T : Tx K mg) : mg "begun_with" = some (.ref (He.ga K "begun_with")) := by
  obtain ⟨h, X, G⟩ := T.h
  exact He.glo_ok X G (T.a0 _ (List.mem_of_getElem? (i := 5) rfl))
theorem g_bodies_in (T : Tx K mg) : mg "bodies_in" = some (.ref (He.ga K "bodies_in")) := by
  obtain ⟨h, X, G⟩ := T.h
  exact He.glo_ok X G (T.a0 _ (List.mem_of_getElem? (i := 6) rfl))
theorem g_pieces (T : Tx K mg) : mg "pieces" = some (.ref (He.ga K "pieces")) := by
  obtain ⟨h, X, G⟩ := T.h
  exact He.glo_ok X G (T.a0 _ (List.mem_of_getElem? (i := 7) rfl))
theorem g_coded (T : Tx K mg) : mg "coded" = some (.ref (He.ga K "coded")) := by
  obtain ⟨h, X, G⟩ := T.h
  exact He.glo_ok X G (T.a0 _ (List.mem_of_getElem? (i := 8) rfl))
theorem g_names_bound (T : Tx K mg) : mg "names_bound" = some (.ref (He.ga K "names_bound")) := by
  obtain ⟨h, X, G⟩ := T.h
  exact He.glo_ok X G (T.a0 _ (List.mem_of_getElem? (i := 9) rfl))
theorem g_deed_of (T : Tx K mg) : mg "deed_of" = some (.ref (He.ga K "deed_of")) := by
  obtain ⟨h, X, G⟩ := T.h
  exact He.glo_ok X G (T.a0 _ (List.mem_of_getElem? (i := 10) rfl))
theorem g_row_of (T : Tx K mg) : mg "row_of" = some (.ref (He.ga K "row_of")) := by
  obtain ⟨h, X, G⟩ := T.h
  exact He.glo_ok X G (T.a0 _ (List.mem_of_getElem? (i := 11) rfl))
theorem g_part_code (T : Tx K mg) : mg "part_code" = some (.ref (He.ga K "part_code")) := by
  obtain ⟨h, X, G⟩ := T.h
  exact He.glo_ok X G (T.a0 _ (List.mem_of_getElem? (i := 12) rfl))
theorem g_code_of (T : Tx K mg) : mg "code_of" = some (.ref (He.ga K "code_of")) := by
  obtain ⟨h, X, G⟩ := T.h
  exact He.glo_ok X G (T.a0 _ (List.mem_of_getElem? (i := 13) rfl))
theorem g_atoms_of (T : Tx K mg) : mg "atoms_of" = some (.ref (He.ga K "atoms_of")) := by
  obtain ⟨h, X, G⟩ := T.h
  exact He.glo_ok X G (T.a0 _ (List.mem_of_getElem? (i := 14) rfl))
theorem g_args_of (T : Tx K mg) : mg "args_of" = some (.ref (He.ga K "args_of")) := by
  obtain ⟨h, X, G⟩ := T.h
  exact He.glo_ok X G (T.a0 _ (List.mem_of_getElem? (i := 15) rfl))
theorem g_weight_of (T : Tx K mg) : mg "weight_of" = some (.ref (He.ga K "weight_of")) := by
  obtain ⟨h, X, G⟩ := T.h
  exact He.glo_ok X G (T.a0 _ (List.mem_of_getElem? (i := 16) rfl))
theorem g_weight_in (T : Tx K mg) : mg "weight_in" = some (.ref (He.ga K "weight_in")) := by
  obtain ⟨h, X, G⟩ := T.h
  exact He.glo_ok X G (T.a0 _ (List.mem_of_getElem? (i := 17) rfl))
theorem g_param_weights (T : Tx K mg) : mg "param_weights" = some (.ref (He.ga K "param_weights")) := by
  obtain ⟨h, X, G⟩ := T.h
  exact He.glo_ok X G (T.a0 _ (List.mem_of_getElem? (i := 18) rfl))
theorem g_goes_on_last (T : Tx K mg) : mg "goes_on_last" = some (.ref (He.ga K "goes_on_last")) := by
  obtain ⟨h, X, G⟩ := T.h
  exact He.glo_ok X G (T.a0 _ (List.mem_of_getElem? (i := 19) rfl))
theorem g_hold_words (T : Tx K mg) : mg "hold_words" = some (.ref (He.ga K "hold_words")) := by
  obtain ⟨h, X, G⟩ := T.h
  exact He.glo_ok X G (T.a1 _ (List.mem_of_getElem? (i := 0) rfl))
theorem g_summed_up (T : Tx K mg) : mg "summed_up" = some (.ref (He.ga K "summed_up")) := by
  obtain ⟨h, X, G⟩ := T.h
  exact He.glo_ok X G (T.a1 _ (List.mem_of_getElem? (i := 1) rfl))
theorem g_worth (T : Tx K mg) : mg "worth" = some (.ref (He.ga K "worth")) := by
  obtain ⟨h, X, G⟩ := T.h
  exact He.glo_ok X G (T.a1 _ (List.mem_of_getElem? (i := 2) rfl))
theorem g_made (T : Tx K mg) : mg "made" = some (.ref (He.ga K "made")) := by
  obtain ⟨h, X, G⟩ := T.h
  exact He.glo_ok X G (T.a1 _ (List.mem_of_getElem? (i := 3) rfl))
theorem g_with_name (T : Tx K mg) : mg "with_name" = some (.ref (He.ga K "with_name")) := by
  obtain ⟨h, X, G⟩ := T.h
  exact He.glo_ok X G (T.a1 _ (List.mem_of_getElem? (i := 4) rfl))
theorem g_as_told (T : Tx K mg) : mg "as_told" = some (.ref (He.ga K "as_told")) := by
  obtain ⟨h, X, G⟩ := T.h
  exact He.glo_ok X G (T.a1 _ (List.mem_of_getElem? (i := 5) rfl))
theorem g_heard_by (T : Tx K mg) : mg "heard_by" = some (.ref (He.ga K "heard_by")) := by
  obtain ⟨h, X, G⟩ := T.h
  exact He.glo_ok X G (T.a1 _ (List.mem_of_getElem? (i := 6) rfl))
theorem g_keeps_in (T : Tx K mg) : mg "keeps_in" = some (.ref (He.ga K "keeps_in")) := by
  obtain ⟨h, X, G⟩ := T.h
  exact He.glo_ok X G (T.a1 _ (List.mem_of_getElem? (i := 7) rfl))
theorem g_is_counted (T : Tx K mg) : mg "is_counted" = some (.ref (He.ga K "is_counted")) := by
  obtain ⟨h, X, G⟩ := T.h
  exact He.glo_ok X G (T.a1 _ (List.mem_of_getElem? (i := 8) rfl))
theorem g_copied (T : Tx K mg) : mg "copied" = some (.ref (He.ga K "copied")) := by
  obtain ⟨h, X, G⟩ := T.h
  exact He.glo_ok X G (T.a1 _ (List.mem_of_getElem? (i := 9) rfl))
theorem g_by_rows (T : Tx K mg) : mg "by_rows" = some (.ref (He.ga K "by_rows")) := by
  obtain ⟨h, X, G⟩ := T.h
  exact He.glo_ok X G (T.a1 _ (List.mem_of_getElem? (i := 10) rfl))
theorem g_ran (T : Tx K mg) : mg "ran" = some (.ref (He.ga K "ran")) := by
  obtain ⟨h, X, G⟩ := T.h
  exact He.glo_ok X G (T.a1 _ (List.mem_of_getElem? (i := 11) rfl))
theorem g_by_stairs (T : Tx K mg) : mg "by_stairs" = some (.ref (He.ga K "by_stairs")) := by
  obtain ⟨h, X, G⟩ := T.h
  exact He.glo_ok X G (T.a1 _ (List.mem_of_getElem? (i := 12) rfl))
theorem g_law_deal (T : Tx K mg) : mg "_law_deal" = some (.ref (He.ga K "_law_deal")) := by
  obtain ⟨h, X, G⟩ := T.h
  exact He.glo_ok X G (T.a1 _ (List.mem_of_getElem? (i := 13) rfl))
theorem g_law_draw (T : Tx K mg) : mg "_law_draw" = some (.ref (He.ga K "_law_draw")) := by
  obtain ⟨h, X, G⟩ := T.h
  exact He.glo_ok X G (T.a1 _ (List.mem_of_getElem? (i := 14) rfl))
theorem g_law_words (T : Tx K mg) : mg "_law_words" = some (.ref (He.ga K "_law_words")) := by
  obtain ⟨h, X, G⟩ := T.h
  exact He.glo_ok X G (T.a1 _ (List.mem_of_getElem? (i := 15) rfl))
theorem g_law_closed (T : Tx K mg) : mg "_law_closed" = some (.ref (He.ga K "_law_closed")) := by
  obtain ⟨h, X, G⟩ := T.h
  exact He.glo_ok X G (T.a1 _ (List.mem_of_getElem? (i := 16) rfl))
theorem g_law_ways (T : Tx K mg) : mg "_law_ways" = some (.ref (He.ga K "_law_ways")) := by
  obtain ⟨h, X, G⟩ := T.h
  exact He.glo_ok X G (T.a1 _ (List.mem_of_getElem? (i := 17) rfl))
theorem g_law_keeper (T : Tx K mg) : mg "_law_keeper" = some (.ref (He.ga K "_law_keeper")) := by
  obtain ⟨h, X, G⟩ := T.h
  exact He.glo_ok X G (T.a1 _ (List.mem_of_getElem? (i := 18) rfl))
theorem g_law_player (T : Tx K mg) : mg "_law_player" = some (.ref (He.ga K "_law_player")) := by
  obtain ⟨h, X, G⟩ := T.h
  exact He.glo_ok X G (T.a1 _ (List.mem_of_getElem? (i := 19) rfl))
theorem g_law_due (T : Tx K mg) : mg "_law_due" = some (.ref (He.ga K "_law_due")) := by
  obtain ⟨h, X, G⟩ := T.h
  exact He.glo_ok X G (T.a2 _ (List.mem_of_getElem? (i := 0) rfl))
theorem g_law (T : Tx K mg) : mg "law" = some (.ref (He.ga K "law")) := by
  obtain ⟨h, X, G⟩ := T.h
  exact He.glo_ok X G (T.a2 _ (List.mem_of_getElem? (i := 1) rfl))
theorem g_Hold (T : Tx K mg) : mg "Hold" = some (.ref (He.ga K "Hold")) := by
  obtain ⟨h, X, G⟩ := T.h
  exact He.glo_ok X G (T.a2 _ (List.mem_of_getElem? (i := 2) rfl))
theorem g_Walk (T : Tx K mg) : mg "Walk" = some (.ref (He.ga K "Walk")) := by
  obtain ⟨h, X, G⟩ := T.h
  exact He.glo_ok X G (T.a2 _ (List.mem_of_getElem? (i := 3) rfl))
theorem g_Frame (T : Tx K mg) : mg "Frame" = some (.ref (He.ga K "Frame")) := by
  obtain ⟨h, X, G⟩ := T.h
  exact He.glo_ok X G (T.a2 _ (List.mem_of_getElem? (i := 4) rfl))
theorem g_Keep (T : Tx K mg) : mg "Keep" = some (.ref (He.ga K "Keep")) := by
  obtain ⟨h, X, G⟩ := T.h
  exact He.glo_ok X G (T.a2 _ (List.mem_of_getElem? (i := 5) rfl))
theorem g_Pass (T : Tx K mg) : mg "Pass" = some (.ref (He.ga K "Pass")) := by
  obtain ⟨h, X, G⟩ := T.h
  exact He.glo_ok X G (T.a2 _ (List.mem_of_getElem? (i := 6) rfl))
theorem g_Screen (T : Tx K mg) : mg "Screen" = some (.ref (He.ga K "Screen")) := by
  obtain ⟨h, X, G⟩ := T.h
  exact He.glo_ok X G (T.a2 _ (List.mem_of_getElem? (i := 7) rfl))
theorem g_Cut (T : Tx K mg) : mg "Cut" = some (.ref (He.ga K "Cut")) := by
  obtain ⟨h, X, G⟩ := T.h
  exact He.glo_ok X G (T.a2 _ (List.mem_of_getElem? (i := 8) rfl))
theorem g_Machine (T : Tx K mg) : mg "Machine" = some (.ref (He.ga K "Machine")) := by
  obtain ⟨h, X, G⟩ := T.h
  exact He.glo_ok X G (T.a2 _ (List.mem_of_getElem? (i := 9) rfl))
theorem g_Flight (T : Tx K mg) : mg "Flight" = some (.ref (He.ga K "Flight")) := by
  obtain ⟨h, X, G⟩ := T.h
  exact He.glo_ok X G (T.a2 _ (List.mem_of_getElem? (i := 10) rfl))
theorem g_Stairs (T : Tx K mg) : mg "Stairs" = some (.ref (He.ga K "Stairs")) := by
  obtain ⟨h, X, G⟩ := T.h
  exact He.glo_ok X G (T.a2 _ (List.mem_of_getElem? (i := 11) rfl))
theorem b_isinstance (T : Tx K mg) : mg "isinstance" = none := by
  obtain ⟨h, X, G⟩ := T.h
  exact He.free_ok X G (T.a2 _ (List.mem_of_getElem? (i := 12) rfl))
theorem b_len (T : Tx K mg) : mg "len" = none := by
  obtain ⟨h, X, G⟩ := T.h
  exact He.free_ok X G (T.a2 _ (List.mem_of_getElem? (i := 13) rfl))
theorem b_list (T : Tx K mg) : mg "list" = none := by
  obtain ⟨h, X, G⟩ := T.h
  exact He.free_ok X G (T.a2 _ (List.mem_of_getElem? (i := 14) rfl))
theorem b_reversed (T : Tx K mg) : mg "reversed" = none := by
  obtain ⟨h, X, G⟩ := T.h
  exact He.free_ok X G (T.a2 _ (List.mem_of_getElem? (i := 15) rfl))
theorem b_tuple (T : Tx K mg) : mg "tuple" = none := by
  obtain ⟨h, X, G⟩ := T.h
  exact He.free_ok X G (T.a2 _ (List.mem_of_getElem? (i := 16) rfl))
theorem b_dict (T : Tx K mg) : mg "dict" = none := by
  obtain ⟨h, X, G⟩ := T.h
  exact He.free_ok X G (T.a2 _ (List.mem_of_getElem? (i := 17) rfl))
theorem b_sum (T : Tx K mg) : mg "sum" = none := by
  obtain ⟨h, X, G⟩ := T.h
  exact He.free_ok X G (T.a2 _ (List.mem_of_getElem? (i := 18) rfl))
theorem b_enumerate (T : Tx K mg) : mg "enumerate" = none := by
  obtain ⟨h, X, G⟩ := T.h
  exact He.free_ok X G (T.a2 _ (List.mem_of_getElem? (i := 19) rfl))
theorem b_max (T : Tx K mg) : mg "max" = none := by
  obtain ⟨h, X, G⟩ := T.h
  exact He.free_ok X G (T.a3 _ (List.mem_of_getElem? (i := 0) rfl))
theorem b_min (T : Tx K mg) : mg "min" = none := by
  obtain ⟨h, X, G⟩ := T.h
  exact He.free_ok X G (T.a3 _ (List.mem_of_getElem? (i := 1) rfl))
theorem b_range (T : Tx K mg) : mg "range" = none := by
  obtain ⟨h, X, G⟩ := T.h
  exact He.free_ok X G (T.a3 _ (List.mem_of_getElem? (i := 2) rfl))
theorem b_zip (T : Tx K mg) : mg "zip" = none := by
  obtain ⟨h, X, G⟩ := T.h
  exact He.free_ok X G (T.a3 _ (List.mem_of_getElem? (i := 3) rfl))
theorem b_int (T : Tx K mg) : mg "int" = none := by
  obtain ⟨h, X, G⟩ := T.h
  exact He.free_ok X G (T.a3 _ (List.mem_of_getElem? (i := 4) rfl))
theorem b_str (T : Tx K mg) : mg "str" = none := by
  obtain ⟨h, X, G⟩ := T.h
  exact He.free_ok X G (T.a3 _ (List.mem_of_getElem? (i := 5) rfl))
theorem i_MODULUS (T : Tx K mg) : ∃ t, mg "MODULUS" = some (.int 1000000000 t) := by
  obtain ⟨h, X, G⟩ := T.h
  exact He.int_ok X G (T.a3 _ (List.mem_of_getElem? (i := 6) rfl))
theorem c_Hold (T : Tx K mg) : Cls K (He.ga K "Hold") := He.cls_ok (T.a3 _ (List.mem_of_getElem? (i := 7) rfl))
theorem k_Hold (T : Tx K mg) : Mk K (He.ga K "Hold") (He.ma K (He.ga K "Hold") "__init__") := He.mkr_ok (T.a3 _ (List.mem_of_getElem? (i := 8) rfl))
theorem c_Walk (T : Tx K mg) : Cls K (He.ga K "Walk") := He.cls_ok (T.a3 _ (List.mem_of_getElem? (i := 9) rfl))
theorem k_Walk (T : Tx K mg) : Mk K (He.ga K "Walk") (He.ma K (He.ga K "Walk") "__init__") := He.mkr_ok (T.a3 _ (List.mem_of_getElem? (i := 10) rfl))
theorem c_Frame (T : Tx K mg) : Cls K (He.ga K "Frame") := He.cls_ok (T.a3 _ (List.mem_of_getElem? (i := 11) rfl))
theorem k_Frame (T : Tx K mg) : Mk K (He.ga K "Frame") (He.ma K (He.ga K "Frame") "__init__") := He.mkr_ok (T.a3 _ (List.mem_of_getElem? (i := 12) rfl))
theorem c_Keep (T : Tx K mg) : Cls K (He.ga K "Keep") := He.cls_ok (T.a3 _ (List.mem_of_getElem? (i := 13) rfl))
theorem k_Keep (T : Tx K mg) : Mk K (He.ga K "Keep") (He.ma K (He.ga K "Keep") "__init__") := He.mkr_ok (T.a3 _ (List.mem_of_getElem? (i := 14) rfl))
theorem c_Pass (T : Tx K mg) : Cls K (He.ga K "Pass") := He.cls_ok (T.a3 _ (List.mem_of_getElem? (i := 15) rfl))
theorem k_Pass (T : Tx K mg) : Mk K (He.ga K "Pass") (He.ma K (He.ga K "Pass") "__init__") := He.mkr_ok (T.a3 _ (List.mem_of_getElem? (i := 16) rfl))
theorem c_Screen (T : Tx K mg) : Cls K (He.ga K "Screen") := He.cls_ok (T.a3 _ (List.mem_of_getElem? (i := 17) rfl))
theorem k_Screen (T : Tx K mg) : Mk K (He.ga K "Screen") (He.ma K (He.ga K "Screen") "__init__") := He.mkr_ok (T.a3 _ (List.mem_of_getElem? (i := 18) rfl))
theorem c_Cut (T : Tx K mg) : Cls K (He.ga K "Cut") := He.cls_ok (T.a3 _ (List.mem_of_getElem? (i := 19) rfl))
theorem k_Cut (T : Tx K mg) : Mk K (He.ga K "Cut") (He.ma K (He.ga K "Cut") "__init__") := He.mkr_ok (T.a4 _ (List.mem_of_getElem? (i := 0) rfl))
theorem c_Machine (T : Tx K mg) : Cls K (He.ga K "Machine") := He.cls_ok (T.a4 _ (List.mem_of_getElem? (i := 1) rfl))
theorem k_Machine (T : Tx K mg) : Mk K (He.ga K "Machine") (He.ma K (He.ga K "Machine") "__init__") := He.mkr_ok (T.a4 _ (List.mem_of_getElem? (i := 2) rfl))
theorem c_Flight (T : Tx K mg) : Cls K (He.ga K "Flight") := He.cls_ok (T.a4 _ (List.mem_of_getElem? (i := 3) rfl))
theorem k_Flight (T : Tx K mg) : Mk K (He.ga K "Flight") (He.ma K (He.ga K "Flight") "__init__") := He.mkr_ok (T.a4 _ (List.mem_of_getElem? (i := 4) rfl))
theorem c_Stairs (T : Tx K mg) : Cls K (He.ga K "Stairs") := He.cls_ok (T.a4 _ (List.mem_of_getElem? (i := 5) rfl))
theorem k_Stairs (T : Tx K mg) : Mk K (He.ga K "Stairs") (He.ma K (He.ga K "Stairs") "__init__") := He.mkr_ok (T.a4 _ (List.mem_of_getElem? (i := 6) rfl))
theorem na_Hold_number (T : Tx K mg) : NoAttr K (He.ga K "Hold") "number" := He.noat_ok (T.a4 _ (List.mem_of_getElem? (i := 7) rfl))
theorem na_Hold_held (T : Tx K mg) : NoAttr K (He.ga K "Hold") "held" := He.noat_ok (T.a4 _ (List.mem_of_getElem? (i := 8) rfl))
theorem na_Walk_program (T : Tx K mg) : NoAttr K (He.ga K "Walk") "program" := He.noat_ok (T.a4 _ (List.mem_of_getElem? (i := 9) rfl))
theorem na_Walk_listed (T : Tx K mg) : NoAttr K (He.ga K "Walk") "listed" := He.noat_ok (T.a4 _ (List.mem_of_getElem? (i := 10) rfl))
theorem na_Walk_hears (T : Tx K mg) : NoAttr K (He.ga K "Walk") "hears" := He.noat_ok (T.a4 _ (List.mem_of_getElem? (i := 11) rfl))
theorem na_Walk_stands (T : Tx K mg) : NoAttr K (He.ga K "Walk") "stands" := He.noat_ok (T.a4 _ (List.mem_of_getElem? (i := 12) rfl))
theorem na_Walk_taken (T : Tx K mg) : NoAttr K (He.ga K "Walk") "taken" := He.noat_ok (T.a4 _ (List.mem_of_getElem? (i := 13) rfl))
theorem na_Walk_held (T : Tx K mg) : NoAttr K (He.ga K "Walk") "held" := He.noat_ok (T.a4 _ (List.mem_of_getElem? (i := 14) rfl))
theorem na_Walk_finish (T : Tx K mg) : NoAttr K (He.ga K "Walk") "finish" := He.noat_ok (T.a4 _ (List.mem_of_getElem? (i := 15) rfl))
theorem na_Walk_noted (T : Tx K mg) : NoAttr K (He.ga K "Walk") "noted" := He.noat_ok (T.a4 _ (List.mem_of_getElem? (i := 16) rfl))
theorem na_Frame_part (T : Tx K mg) : NoAttr K (He.ga K "Frame") "part" := He.noat_ok (T.a4 _ (List.mem_of_getElem? (i := 17) rfl))
theorem na_Frame_rows (T : Tx K mg) : NoAttr K (He.ga K "Frame") "rows" := He.noat_ok (T.a4 _ (List.mem_of_getElem? (i := 18) rfl))
theorem na_Frame_at (T : Tx K mg) : NoAttr K (He.ga K "Frame") "at" := He.noat_ok (T.a4 _ (List.mem_of_getElem? (i := 19) rfl))
theorem na_Frame_slots (T : Tx K mg) : NoAttr K (He.ga K "Frame") "slots" := He.noat_ok (T.a5 _ (List.mem_of_getElem? (i := 0) rfl))
theorem na_Keep_name (T : Tx K mg) : NoAttr K (He.ga K "Keep") "name" := He.noat_ok (T.a5 _ (List.mem_of_getElem? (i := 1) rfl))
theorem na_Keep_note (T : Tx K mg) : NoAttr K (He.ga K "Keep") "note" := He.noat_ok (T.a5 _ (List.mem_of_getElem? (i := 2) rfl))
theorem na_Pass_many (T : Tx K mg) : NoAttr K (He.ga K "Pass") "many" := He.noat_ok (T.a5 _ (List.mem_of_getElem? (i := 3) rfl))
theorem na_Screen_deep (T : Tx K mg) : NoAttr K (He.ga K "Screen") "deep" := He.noat_ok (T.a5 _ (List.mem_of_getElem? (i := 4) rfl))
theorem na_Screen_number (T : Tx K mg) : NoAttr K (He.ga K "Screen") "number" := He.noat_ok (T.a5 _ (List.mem_of_getElem? (i := 5) rfl))
theorem na_Cut_number (T : Tx K mg) : NoAttr K (He.ga K "Cut") "number" := He.noat_ok (T.a5 _ (List.mem_of_getElem? (i := 6) rfl))
theorem na_Cut_once (T : Tx K mg) : NoAttr K (He.ga K "Cut") "once" := He.noat_ok (T.a5 _ (List.mem_of_getElem? (i := 7) rfl))
theorem na_Cut_cut (T : Tx K mg) : NoAttr K (He.ga K "Cut") "cut" := He.noat_ok (T.a5 _ (List.mem_of_getElem? (i := 8) rfl))
theorem na_Cut_marked (T : Tx K mg) : NoAttr K (He.ga K "Cut") "marked" := He.noat_ok (T.a5 _ (List.mem_of_getElem? (i := 9) rfl))
theorem na_Machine_code (T : Tx K mg) : NoAttr K (He.ga K "Machine") "code" := He.noat_ok (T.a5 _ (List.mem_of_getElem? (i := 10) rfl))
theorem na_Machine_how (T : Tx K mg) : NoAttr K (He.ga K "Machine") "how" := He.noat_ok (T.a5 _ (List.mem_of_getElem? (i := 11) rfl))
theorem na_Machine_hears (T : Tx K mg) : NoAttr K (He.ga K "Machine") "hears" := He.noat_ok (T.a5 _ (List.mem_of_getElem? (i := 12) rfl))
theorem na_Machine_bound (T : Tx K mg) : NoAttr K (He.ga K "Machine") "bound" := He.noat_ok (T.a5 _ (List.mem_of_getElem? (i := 13) rfl))
theorem na_Machine_stands (T : Tx K mg) : NoAttr K (He.ga K "Machine") "stands" := He.noat_ok (T.a5 _ (List.mem_of_getElem? (i := 14) rfl))
theorem na_Machine_taken (T : Tx K mg) : NoAttr K (He.ga K "Machine") "taken" := He.noat_ok (T.a5 _ (List.mem_of_getElem? (i := 15) rfl))
theorem na_Machine_held (T : Tx K mg) : NoAttr K (He.ga K "Machine") "held" := He.noat_ok (T.a5 _ (List.mem_of_getElem? (i := 16) rfl))
theorem na_Machine_finish (T : Tx K mg) : NoAttr K (He.ga K "Machine") "finish" := He.noat_ok (T.a5 _ (List.mem_of_getElem? (i := 17) rfl))
theorem na_Machine_pages (T : Tx K mg) : NoAttr K (He.ga K "Machine") "pages" := He.noat_ok (T.a5 _ (List.mem_of_getElem? (i := 18) rfl))
theorem na_Machine_copies (T : Tx K mg) : NoAttr K (He.ga K "Machine") "copies" := He.noat_ok (T.a5 _ (List.mem_of_getElem? (i := 19) rfl))
theorem na_Machine_greatest (T : Tx K mg) : NoAttr K (He.ga K "Machine") "greatest" := He.noat_ok (T.a6 _ (List.mem_of_getElem? (i := 0) rfl))
theorem na_Machine_grown (T : Tx K mg) : NoAttr K (He.ga K "Machine") "grown" := He.noat_ok (T.a6 _ (List.mem_of_getElem? (i := 1) rfl))
theorem na_Flight_keeper (T : Tx K mg) : NoAttr K (He.ga K "Flight") "keeper" := He.noat_ok (T.a6 _ (List.mem_of_getElem? (i := 2) rfl))
theorem na_Flight_note (T : Tx K mg) : NoAttr K (He.ga K "Flight") "note" := He.noat_ok (T.a6 _ (List.mem_of_getElem? (i := 3) rfl))
theorem na_Flight_parts (T : Tx K mg) : NoAttr K (He.ga K "Flight") "parts" := He.noat_ok (T.a6 _ (List.mem_of_getElem? (i := 4) rfl))
theorem na_Stairs_program (T : Tx K mg) : NoAttr K (He.ga K "Stairs") "program" := He.noat_ok (T.a6 _ (List.mem_of_getElem? (i := 5) rfl))
theorem na_Stairs_listed (T : Tx K mg) : NoAttr K (He.ga K "Stairs") "listed" := He.noat_ok (T.a6 _ (List.mem_of_getElem? (i := 6) rfl))
theorem na_Stairs_hears (T : Tx K mg) : NoAttr K (He.ga K "Stairs") "hears" := He.noat_ok (T.a6 _ (List.mem_of_getElem? (i := 7) rfl))
theorem na_Stairs_row (T : Tx K mg) : NoAttr K (He.ga K "Stairs") "row" := He.noat_ok (T.a6 _ (List.mem_of_getElem? (i := 8) rfl))
theorem na_Stairs_heard (T : Tx K mg) : NoAttr K (He.ga K "Stairs") "heard" := He.noat_ok (T.a6 _ (List.mem_of_getElem? (i := 9) rfl))
theorem na_Stairs_taken (T : Tx K mg) : NoAttr K (He.ga K "Stairs") "taken" := He.noat_ok (T.a6 _ (List.mem_of_getElem? (i := 10) rfl))
theorem na_Stairs_held (T : Tx K mg) : NoAttr K (He.ga K "Stairs") "held" := He.noat_ok (T.a6 _ (List.mem_of_getElem? (i := 11) rfl))
theorem na_Stairs_finish (T : Tx K mg) : NoAttr K (He.ga K "Stairs") "finish" := He.noat_ok (T.a6 _ (List.mem_of_getElem? (i := 12) rfl))
theorem na_Stairs_rows_noted (T : Tx K mg) : NoAttr K (He.ga K "Stairs") "rows_noted" := He.noat_ok (T.a6 _ (List.mem_of_getElem? (i := 13) rfl))
theorem m_Walk_begin (T : Tx K mg) : Meth K (He.ga K "Walk") "begin" (He.ma K (He.ga K "Walk") "begin") := He.meth_ok (T.a6 _ (List.mem_of_getElem? (i := 14) rfl))
theorem m_Walk_turn (T : Tx K mg) : Meth K (He.ga K "Walk") "turn" (He.ma K (He.ga K "Walk") "turn") := He.meth_ok (T.a6 _ (List.mem_of_getElem? (i := 15) rfl))
theorem m_Walk_pass_on (T : Tx K mg) : Meth K (He.ga K "Walk") "pass_on" (He.ma K (He.ga K "Walk") "pass_on") := He.meth_ok (T.a6 _ (List.mem_of_getElem? (i := 16) rfl))
theorem m_Walk_wait (T : Tx K mg) : Meth K (He.ga K "Walk") "wait" (He.ma K (He.ga K "Walk") "wait") := He.meth_ok (T.a6 _ (List.mem_of_getElem? (i := 17) rfl))
theorem m_Walk_ask (T : Tx K mg) : Meth K (He.ga K "Walk") "ask" (He.ma K (He.ga K "Walk") "ask") := He.meth_ok (T.a6 _ (List.mem_of_getElem? (i := 18) rfl))
theorem m_Walk_go_on (T : Tx K mg) : Meth K (He.ga K "Walk") "go_on" (He.ma K (He.ga K "Walk") "go_on") := He.meth_ok (T.a6 _ (List.mem_of_getElem? (i := 19) rfl))
theorem m_Walk_bind (T : Tx K mg) : Meth K (He.ga K "Walk") "bind" (He.ma K (He.ga K "Walk") "bind") := He.meth_ok (T.a7 _ (List.mem_of_getElem? (i := 0) rfl))
theorem m_Walk_give (T : Tx K mg) : Meth K (He.ga K "Walk") "give" (He.ma K (He.ga K "Walk") "give") := He.meth_ok (T.a7 _ (List.mem_of_getElem? (i := 1) rfl))
theorem m_Walk_steps (T : Tx K mg) : Meth K (He.ga K "Walk") "steps" (He.ma K (He.ga K "Walk") "steps") := He.meth_ok (T.a7 _ (List.mem_of_getElem? (i := 2) rfl))
theorem m_Walk_end (T : Tx K mg) : Meth K (He.ga K "Walk") "end" (He.ma K (He.ga K "Walk") "end") := He.meth_ok (T.a7 _ (List.mem_of_getElem? (i := 3) rfl))
theorem m_Walk_book (T : Tx K mg) : Meth K (He.ga K "Walk") "book" (He.ma K (He.ga K "Walk") "book") := He.meth_ok (T.a7 _ (List.mem_of_getElem? (i := 4) rfl))
theorem m_Machine_begin (T : Tx K mg) : Meth K (He.ga K "Machine") "begin" (He.ma K (He.ga K "Machine") "begin") := He.meth_ok (T.a7 _ (List.mem_of_getElem? (i := 5) rfl))
theorem m_Machine_step (T : Tx K mg) : Meth K (He.ga K "Machine") "step" (He.ma K (He.ga K "Machine") "step") := He.meth_ok (T.a7 _ (List.mem_of_getElem? (i := 6) rfl))
theorem m_Machine_turn (T : Tx K mg) : Meth K (He.ga K "Machine") "turn" (He.ma K (He.ga K "Machine") "turn") := He.meth_ok (T.a7 _ (List.mem_of_getElem? (i := 7) rfl))
theorem m_Machine_worth (T : Tx K mg) : Meth K (He.ga K "Machine") "worth" (He.ma K (He.ga K "Machine") "worth") := He.meth_ok (T.a7 _ (List.mem_of_getElem? (i := 8) rfl))
theorem m_Machine_do_row (T : Tx K mg) : Meth K (He.ga K "Machine") "do_row" (He.ma K (He.ga K "Machine") "do_row") := He.meth_ok (T.a7 _ (List.mem_of_getElem? (i := 9) rfl))
theorem m_Machine_made (T : Tx K mg) : Meth K (He.ga K "Machine") "made" (He.ma K (He.ga K "Machine") "made") := He.meth_ok (T.a7 _ (List.mem_of_getElem? (i := 10) rfl))
theorem m_Machine_wait (T : Tx K mg) : Meth K (He.ga K "Machine") "wait" (He.ma K (He.ga K "Machine") "wait") := He.meth_ok (T.a7 _ (List.mem_of_getElem? (i := 11) rfl))
theorem m_Machine_is_screened (T : Tx K mg) : Meth K (He.ga K "Machine") "is_screened" (He.ma K (He.ga K "Machine") "is_screened") := He.meth_ok (T.a7 _ (List.mem_of_getElem? (i := 12) rfl))
theorem m_Machine_leave (T : Tx K mg) : Meth K (He.ga K "Machine") "leave" (He.ma K (He.ga K "Machine") "leave") := He.meth_ok (T.a7 _ (List.mem_of_getElem? (i := 13) rfl))
theorem m_Machine_put_keep (T : Tx K mg) : Meth K (He.ga K "Machine") "put_keep" (He.ma K (He.ga K "Machine") "put_keep") := He.meth_ok (T.a7 _ (List.mem_of_getElem? (i := 14) rfl))
theorem m_Machine_bind (T : Tx K mg) : Meth K (He.ga K "Machine") "bind" (He.ma K (He.ga K "Machine") "bind") := He.meth_ok (T.a7 _ (List.mem_of_getElem? (i := 15) rfl))
theorem m_Machine_give (T : Tx K mg) : Meth K (He.ga K "Machine") "give" (He.ma K (He.ga K "Machine") "give") := He.meth_ok (T.a7 _ (List.mem_of_getElem? (i := 16) rfl))
theorem m_Machine_seen_from (T : Tx K mg) : Meth K (He.ga K "Machine") "seen_from" (He.ma K (He.ga K "Machine") "seen_from") := He.meth_ok (T.a7 _ (List.mem_of_getElem? (i := 17) rfl))
theorem m_Machine_keeps_beneath (T : Tx K mg) : Meth K (He.ga K "Machine") "keeps_beneath" (He.ma K (He.ga K "Machine") "keeps_beneath") := He.meth_ok (T.a7 _ (List.mem_of_getElem? (i := 18) rfl))
theorem m_Machine_ask (T : Tx K mg) : Meth K (He.ga K "Machine") "ask" (He.ma K (He.ga K "Machine") "ask") := He.meth_ok (T.a7 _ (List.mem_of_getElem? (i := 19) rfl))
theorem m_Machine_go_last (T : Tx K mg) : Meth K (He.ga K "Machine") "go_last" (He.ma K (He.ga K "Machine") "go_last") := He.meth_ok (T.a8 _ (List.mem_of_getElem? (i := 0) rfl))
theorem m_Machine_go_on (T : Tx K mg) : Meth K (He.ga K "Machine") "go_on" (He.ma K (He.ga K "Machine") "go_on") := He.meth_ok (T.a8 _ (List.mem_of_getElem? (i := 1) rfl))
theorem m_Flight_with_note (T : Tx K mg) : Meth K (He.ga K "Flight") "with_note" (He.ma K (He.ga K "Flight") "with_note") := He.meth_ok (T.a8 _ (List.mem_of_getElem? (i := 2) rfl))
theorem m_Stairs_begin (T : Tx K mg) : Meth K (He.ga K "Stairs") "begin" (He.ma K (He.ga K "Stairs") "begin") := He.meth_ok (T.a8 _ (List.mem_of_getElem? (i := 3) rfl))
theorem m_Stairs_put_flight (T : Tx K mg) : Meth K (He.ga K "Stairs") "put_flight" (He.ma K (He.ga K "Stairs") "put_flight") := He.meth_ok (T.a8 _ (List.mem_of_getElem? (i := 4) rfl))
theorem m_Stairs_take_flight (T : Tx K mg) : Meth K (He.ga K "Stairs") "take_flight" (He.ma K (He.ga K "Stairs") "take_flight") := He.meth_ok (T.a8 _ (List.mem_of_getElem? (i := 5) rfl))
theorem m_Stairs_turn (T : Tx K mg) : Meth K (He.ga K "Stairs") "turn" (He.ma K (He.ga K "Stairs") "turn") := He.meth_ok (T.a8 _ (List.mem_of_getElem? (i := 6) rfl))
theorem m_Stairs_behind (T : Tx K mg) : Meth K (He.ga K "Stairs") "behind" (He.ma K (He.ga K "Stairs") "behind") := He.meth_ok (T.a8 _ (List.mem_of_getElem? (i := 7) rfl))
theorem m_Stairs_wait (T : Tx K mg) : Meth K (He.ga K "Stairs") "wait" (He.ma K (He.ga K "Stairs") "wait") := He.meth_ok (T.a8 _ (List.mem_of_getElem? (i := 8) rfl))
theorem m_Stairs_ask (T : Tx K mg) : Meth K (He.ga K "Stairs") "ask" (He.ma K (He.ga K "Stairs") "ask") := He.meth_ok (T.a8 _ (List.mem_of_getElem? (i := 9) rfl))
theorem m_Stairs_go_on (T : Tx K mg) : Meth K (He.ga K "Stairs") "go_on" (He.ma K (He.ga K "Stairs") "go_on") := He.meth_ok (T.a8 _ (List.mem_of_getElem? (i := 10) rfl))
theorem m_Stairs_bind (T : Tx K mg) : Meth K (He.ga K "Stairs") "bind" (He.ma K (He.ga K "Stairs") "bind") := He.meth_ok (T.a8 _ (List.mem_of_getElem? (i := 11) rfl))
theorem m_Stairs_give (T : Tx K mg) : Meth K (He.ga K "Stairs") "give" (He.ma K (He.ga K "Stairs") "give") := He.meth_ok (T.a8 _ (List.mem_of_getElem? (i := 12) rfl))
theorem m_Stairs_steps (T : Tx K mg) : Meth K (He.ga K "Stairs") "steps" (He.ma K (He.ga K "Stairs") "steps") := He.meth_ok (T.a8 _ (List.mem_of_getElem? (i := 13) rfl))
theorem m_Stairs_end (T : Tx K mg) : Meth K (He.ga K "Stairs") "end" (He.ma K (He.ga K "Stairs") "end") := He.meth_ok (T.a8 _ (List.mem_of_getElem? (i := 14) rfl))
theorem m_Stairs_book (T : Tx K mg) : Meth K (He.ga K "Stairs") "book" (He.ma K (He.ga K "Stairs") "book") := He.meth_ok (T.a8 _ (List.mem_of_getElem? (i := 15) rfl))
theorem F_named (T : Tx K mg) : ∃ fd, FunD K "named" "named" (defArgs s_named) (defBody s_named) (defScope s_named) [] [] (He.fAd K at_named) fd := T.n0 d_named (List.mem_of_getElem? (i := 0) rfl)
theorem F_all_parts (T : Tx K mg) : ∃ fd, FunD K "all_parts" "all_parts" (defArgs s_all_parts) (defBody s_all_parts) (defScope s_all_parts) [] [] (He.fAd K at_all_parts) fd := T.n0 d_all_parts (List.mem_of_getElem? (i := 1) rfl)
theorem F_body_of (T : Tx K mg) : ∃ fd, FunD K "body_of" "body_of" (defArgs s_body_of) (defBody s_body_of) (defScope s_body_of) [] [] (He.fAd K at_body_of) fd := T.n0 d_body_of (List.mem_of_getElem? (i := 2) rfl)
theorem F_end_begins (T : Tx K mg) : ∃ fd, FunD K "end_begins" "end_begins" (defArgs s_end_begins) (defBody s_end_begins) (defScope s_end_begins) [] [] (He.fAd K at_end_begins) fd := T.n0 d_end_begins (List.mem_of_getElem? (i := 3) rfl)
theorem F_hear_begins (T : Tx K mg) : ∃ fd, FunD K "hear_begins" "hear_begins" (defArgs s_hear_begins) (defBody s_hear_begins) (defScope s_hear_begins) [] [] (He.fAd K at_hear_begins) fd := T.n0 d_hear_begins (List.mem_of_getElem? (i := 4) rfl)
theorem F_begun_with (T : Tx K mg) : ∃ fd, FunD K "begun_with" "begun_with" (defArgs s_begun_with) (defBody s_begun_with) (defScope s_begun_with) [] [] (He.fAd K at_begun_with) fd := T.n0 d_begun_with (List.mem_of_getElem? (i := 5) rfl)
theorem F_bodies_in (T : Tx K mg) : ∃ fd, FunD K "bodies_in" "bodies_in" (defArgs s_bodies_in) (defBody s_bodies_in) (defScope s_bodies_in) [] [] (He.fAd K at_bodies_in) fd := T.n0 d_bodies_in (List.mem_of_getElem? (i := 6) rfl)
theorem F_pieces (T : Tx K mg) : ∃ fd, FunD K "pieces" "pieces" (defArgs s_pieces) (defBody s_pieces) (defScope s_pieces) [] [] (He.fAd K at_pieces) fd := T.n0 d_pieces (List.mem_of_getElem? (i := 7) rfl)
theorem F_coded (T : Tx K mg) : ∃ fd, FunD K "coded" "coded" (defArgs s_coded) (defBody s_coded) (defScope s_coded) [] [] (He.fAd K at_coded) fd := T.n0 d_coded (List.mem_of_getElem? (i := 8) rfl)
theorem F_names_bound (T : Tx K mg) : ∃ fd, FunD K "names_bound" "names_bound" (defArgs s_names_bound) (defBody s_names_bound) (defScope s_names_bound) [] [] (He.fAd K at_names_bound) fd := T.n0 d_names_bound (List.mem_of_getElem? (i := 9) rfl)
theorem F_deed_of (T : Tx K mg) : ∃ fd, FunD K "deed_of" "deed_of" (defArgs s_deed_of) (defBody s_deed_of) (defScope s_deed_of) [] [] (He.fAd K at_deed_of) fd := T.n0 d_deed_of (List.mem_of_getElem? (i := 10) rfl)
theorem F_row_of (T : Tx K mg) : ∃ fd, FunD K "row_of" "row_of" (defArgs s_row_of) (defBody s_row_of) (defScope s_row_of) [] [] (He.fAd K at_row_of) fd := T.n0 d_row_of (List.mem_of_getElem? (i := 11) rfl)
theorem F_part_code (T : Tx K mg) : ∃ fd, FunD K "part_code" "part_code" (defArgs s_part_code) (defBody s_part_code) (defScope s_part_code) [] [] (He.fAd K at_part_code) fd := T.n0 d_part_code (List.mem_of_getElem? (i := 12) rfl)
theorem F_code_of (T : Tx K mg) : ∃ fd, FunD K "code_of" "code_of" (defArgs s_code_of) (defBody s_code_of) (defScope s_code_of) [] [] (He.fAd K at_code_of) fd := T.n0 d_code_of (List.mem_of_getElem? (i := 13) rfl)
theorem F_atoms_of (T : Tx K mg) : ∃ fd, FunD K "atoms_of" "atoms_of" (defArgs s_atoms_of) (defBody s_atoms_of) (defScope s_atoms_of) [] [] (He.fAd K at_atoms_of) fd := T.n0 d_atoms_of (List.mem_of_getElem? (i := 14) rfl)
theorem F_args_of (T : Tx K mg) : ∃ fd, FunD K "args_of" "args_of" (defArgs s_args_of) (defBody s_args_of) (defScope s_args_of) [] [] (He.fAd K at_args_of) fd := T.n0 d_args_of (List.mem_of_getElem? (i := 15) rfl)
theorem F_weight_of (T : Tx K mg) : ∃ fd, FunD K "weight_of" "weight_of" (defArgs s_weight_of) (defBody s_weight_of) (defScope s_weight_of) [] [] (He.fAd K at_weight_of) fd := T.n0 d_weight_of (List.mem_of_getElem? (i := 16) rfl)
theorem F_weight_in (T : Tx K mg) : ∃ fd, FunD K "weight_in" "weight_in" (defArgs s_weight_in) (defBody s_weight_in) (defScope s_weight_in) [] [] (He.fAd K at_weight_in) fd := T.n0 d_weight_in (List.mem_of_getElem? (i := 17) rfl)
theorem F_param_weights (T : Tx K mg) : ∃ fd, FunD K "param_weights" "param_weights" (defArgs s_param_weights) (defBody s_param_weights) (defScope s_param_weights) [] [] (He.fAd K at_param_weights) fd := T.n0 d_param_weights (List.mem_of_getElem? (i := 18) rfl)
theorem F_goes_on_last (T : Tx K mg) : ∃ fd, FunD K "goes_on_last" "goes_on_last" (defArgs s_goes_on_last) (defBody s_goes_on_last) (defScope s_goes_on_last) [] [] (He.fAd K at_goes_on_last) fd := T.n0 d_goes_on_last (List.mem_of_getElem? (i := 19) rfl)
theorem F_hold_words (T : Tx K mg) : ∃ fd, FunD K "hold_words" "hold_words" (defArgs s_hold_words) (defBody s_hold_words) (defScope s_hold_words) [] [] (He.fAd K at_hold_words) fd := T.n1 d_hold_words (List.mem_of_getElem? (i := 0) rfl)
theorem F_Hold_init (T : Tx K mg) : ∃ fd, FunD K "__init__" "Hold.__init__" (defArgs s_Hold_init) (defBody s_Hold_init) (defScope s_Hold_init) [] [] (He.fAd K at_Hold_init) fd := T.n1 d_Hold_init (List.mem_of_getElem? (i := 1) rfl)
theorem F_summed_up (T : Tx K mg) : ∃ fd, FunD K "summed_up" "summed_up" (defArgs s_summed_up) (defBody s_summed_up) (defScope s_summed_up) [] [] (He.fAd K at_summed_up) fd := T.n1 d_summed_up (List.mem_of_getElem? (i := 2) rfl)
theorem F_worth (T : Tx K mg) : ∃ fd, FunD K "worth" "worth" (defArgs s_worth) (defBody s_worth) (defScope s_worth) [] [] (He.fAd K at_worth) fd := T.n1 d_worth (List.mem_of_getElem? (i := 3) rfl)
theorem F_made (T : Tx K mg) : ∃ fd, FunD K "made" "made" (defArgs s_made) (defBody s_made) (defScope s_made) [] [] (He.fAd K at_made) fd := T.n1 d_made (List.mem_of_getElem? (i := 4) rfl)
theorem F_with_name (T : Tx K mg) : ∃ fd, FunD K "with_name" "with_name" (defArgs s_with_name) (defBody s_with_name) (defScope s_with_name) [] [] (He.fAd K at_with_name) fd := T.n1 d_with_name (List.mem_of_getElem? (i := 5) rfl)
theorem F_as_told (T : Tx K mg) : ∃ fd, FunD K "as_told" "as_told" (defArgs s_as_told) (defBody s_as_told) (defScope s_as_told) [] [] (He.fAd K at_as_told) fd := T.n1 d_as_told (List.mem_of_getElem? (i := 6) rfl)
theorem F_heard_by (T : Tx K mg) : ∃ fd, FunD K "heard_by" "heard_by" (defArgs s_heard_by) (defBody s_heard_by) (defScope s_heard_by) [] [] (He.fAd K at_heard_by) fd := T.n1 d_heard_by (List.mem_of_getElem? (i := 7) rfl)
theorem F_keeps_in (T : Tx K mg) : ∃ fd, FunD K "keeps_in" "keeps_in" (defArgs s_keeps_in) (defBody s_keeps_in) (defScope s_keeps_in) [] [] (He.fAd K at_keeps_in) fd := T.n1 d_keeps_in (List.mem_of_getElem? (i := 8) rfl)
theorem F_Walk_init (T : Tx K mg) : ∃ fd, FunD K "__init__" "Walk.__init__" (defArgs s_Walk_init) (defBody s_Walk_init) (defScope s_Walk_init) [] [] (He.fAd K at_Walk_init) fd := T.n1 d_Walk_init (List.mem_of_getElem? (i := 9) rfl)
theorem F_Walk_begin (T : Tx K mg) : ∃ fd, FunD K "begin" "Walk.begin" (defArgs s_Walk_begin) (defBody s_Walk_begin) (defScope s_Walk_begin) [] [] (He.fAd K at_Walk_begin) fd := T.n1 d_Walk_begin (List.mem_of_getElem? (i := 10) rfl)
theorem F_Walk_turn (T : Tx K mg) : ∃ fd, FunD K "turn" "Walk.turn" (defArgs s_Walk_turn) (defBody s_Walk_turn) (defScope s_Walk_turn) [] [] (He.fAd K at_Walk_turn) fd := T.n1 d_Walk_turn (List.mem_of_getElem? (i := 11) rfl)
theorem F_Walk_pass_on (T : Tx K mg) : ∃ fd, FunD K "pass_on" "Walk.pass_on" (defArgs s_Walk_pass_on) (defBody s_Walk_pass_on) (defScope s_Walk_pass_on) [] [] (He.fAd K at_Walk_pass_on) fd := T.n1 d_Walk_pass_on (List.mem_of_getElem? (i := 12) rfl)
theorem F_Walk_wait (T : Tx K mg) : ∃ fd, FunD K "wait" "Walk.wait" (defArgs s_Walk_wait) (defBody s_Walk_wait) (defScope s_Walk_wait) [] [] (He.fAd K at_Walk_wait) fd := T.n1 d_Walk_wait (List.mem_of_getElem? (i := 13) rfl)
theorem F_Walk_ask (T : Tx K mg) : ∃ fd, FunD K "ask" "Walk.ask" (defArgs s_Walk_ask) (defBody s_Walk_ask) (defScope s_Walk_ask) [] [] (He.fAd K at_Walk_ask) fd := T.n1 d_Walk_ask (List.mem_of_getElem? (i := 14) rfl)
theorem F_Walk_go_on (T : Tx K mg) : ∃ fd, FunD K "go_on" "Walk.go_on" (defArgs s_Walk_go_on) (defBody s_Walk_go_on) (defScope s_Walk_go_on) [] [] (He.fAd K at_Walk_go_on) fd := T.n1 d_Walk_go_on (List.mem_of_getElem? (i := 15) rfl)
theorem F_Walk_bind (T : Tx K mg) : ∃ fd, FunD K "bind" "Walk.bind" (defArgs s_Walk_bind) (defBody s_Walk_bind) (defScope s_Walk_bind) [] [] (He.fAd K at_Walk_bind) fd := T.n1 d_Walk_bind (List.mem_of_getElem? (i := 16) rfl)
theorem F_Walk_give (T : Tx K mg) : ∃ fd, FunD K "give" "Walk.give" (defArgs s_Walk_give) (defBody s_Walk_give) (defScope s_Walk_give) [] [] (He.fAd K at_Walk_give) fd := T.n1 d_Walk_give (List.mem_of_getElem? (i := 17) rfl)
theorem F_Walk_steps (T : Tx K mg) : ∃ fd, FunD K "steps" "Walk.steps" (defArgs s_Walk_steps) (defBody s_Walk_steps) (defScope s_Walk_steps) [] [] (He.fAd K at_Walk_steps) fd := T.n1 d_Walk_steps (List.mem_of_getElem? (i := 18) rfl)
theorem F_Walk_end (T : Tx K mg) : ∃ fd, FunD K "end" "Walk.end" (defArgs s_Walk_end) (defBody s_Walk_end) (defScope s_Walk_end) [] [] (He.fAd K at_Walk_end) fd := T.n1 d_Walk_end (List.mem_of_getElem? (i := 19) rfl)
theorem F_Walk_book (T : Tx K mg) : ∃ fd, FunD K "book" "Walk.book" (defArgs s_Walk_book) (defBody s_Walk_book) (defScope s_Walk_book) [] [] (He.fAd K at_Walk_book) fd := T.n2 d_Walk_book (List.mem_of_getElem? (i := 0) rfl)
theorem F_Frame_init (T : Tx K mg) : ∃ fd, FunD K "__init__" "Frame.__init__" (defArgs s_Frame_init) (defBody s_Frame_init) (defScope s_Frame_init) [] [] (He.fAd K at_Frame_init) fd := T.n2 d_Frame_init (List.mem_of_getElem? (i := 1) rfl)
theorem F_Keep_init (T : Tx K mg) : ∃ fd, FunD K "__init__" "Keep.__init__" (defArgs s_Keep_init) (defBody s_Keep_init) (defScope s_Keep_init) [] [] (He.fAd K at_Keep_init) fd := T.n2 d_Keep_init (List.mem_of_getElem? (i := 2) rfl)
theorem F_Pass_init (T : Tx K mg) : ∃ fd, FunD K "__init__" "Pass.__init__" (defArgs s_Pass_init) (defBody s_Pass_init) (defScope s_Pass_init) [] [] (He.fAd K at_Pass_init) fd := T.n2 d_Pass_init (List.mem_of_getElem? (i := 3) rfl)
theorem F_Screen_init (T : Tx K mg) : ∃ fd, FunD K "__init__" "Screen.__init__" (defArgs s_Screen_init) (defBody s_Screen_init) (defScope s_Screen_init) [] [] (He.fAd K at_Screen_init) fd := T.n2 d_Screen_init (List.mem_of_getElem? (i := 4) rfl)
theorem F_Cut_init (T : Tx K mg) : ∃ fd, FunD K "__init__" "Cut.__init__" (defArgs s_Cut_init) (defBody s_Cut_init) (defScope s_Cut_init) [] [] (He.fAd K at_Cut_init) fd := T.n2 d_Cut_init (List.mem_of_getElem? (i := 5) rfl)
theorem F_is_counted (T : Tx K mg) : ∃ fd, FunD K "is_counted" "is_counted" (defArgs s_is_counted) (defBody s_is_counted) (defScope s_is_counted) [] [] (He.fAd K at_is_counted) fd := T.n2 d_is_counted (List.mem_of_getElem? (i := 6) rfl)
theorem F_copied (T : Tx K mg) : ∃ fd, FunD K "copied" "copied" (defArgs s_copied) (defBody s_copied) (defScope s_copied) [] [] (He.fAd K at_copied) fd := T.n2 d_copied (List.mem_of_getElem? (i := 7) rfl)
theorem F_Machine_init (T : Tx K mg) : ∃ fd, FunD K "__init__" "Machine.__init__" (defArgs s_Machine_init) (defBody s_Machine_init) (defScope s_Machine_init) [] [] (He.fAd K at_Machine_init) fd := T.n2 d_Machine_init (List.mem_of_getElem? (i := 8) rfl)
theorem F_Machine_begin (T : Tx K mg) : ∃ fd, FunD K "begin" "Machine.begin" (defArgs s_Machine_begin) (defBody s_Machine_begin) (defScope s_Machine_begin) [] [] (He.fAd K at_Machine_begin) fd := T.n2 d_Machine_begin (List.mem_of_getElem? (i := 9) rfl)
theorem F_Machine_step (T : Tx K mg) : ∃ fd, FunD K "step" "Machine.step" (defArgs s_Machine_step) (defBody s_Machine_step) (defScope s_Machine_step) [] [] (He.fAd K at_Machine_step) fd := T.n2 d_Machine_step (List.mem_of_getElem? (i := 10) rfl)
theorem F_Machine_turn (T : Tx K mg) : ∃ fd, FunD K "turn" "Machine.turn" (defArgs s_Machine_turn) (defBody s_Machine_turn) (defScope s_Machine_turn) [] [] (He.fAd K at_Machine_turn) fd := T.n2 d_Machine_turn (List.mem_of_getElem? (i := 11) rfl)
theorem F_Machine_worth (T : Tx K mg) : ∃ fd, FunD K "worth" "Machine.worth" (defArgs s_Machine_worth) (defBody s_Machine_worth) (defScope s_Machine_worth) [] [] (He.fAd K at_Machine_worth) fd := T.n2 d_Machine_worth (List.mem_of_getElem? (i := 12) rfl)
theorem F_Machine_do_row (T : Tx K mg) : ∃ fd, FunD K "do_row" "Machine.do_row" (defArgs s_Machine_do_row) (defBody s_Machine_do_row) (defScope s_Machine_do_row) [] [] (He.fAd K at_Machine_do_row) fd := T.n2 d_Machine_do_row (List.mem_of_getElem? (i := 13) rfl)
theorem F_Machine_made (T : Tx K mg) : ∃ fd, FunD K "made" "Machine.made" (defArgs s_Machine_made) (defBody s_Machine_made) (defScope s_Machine_made) [] [] (He.fAd K at_Machine_made) fd := T.n2 d_Machine_made (List.mem_of_getElem? (i := 14) rfl)
theorem F_Machine_wait (T : Tx K mg) : ∃ fd, FunD K "wait" "Machine.wait" (defArgs s_Machine_wait) (defBody s_Machine_wait) (defScope s_Machine_wait) [] [] (He.fAd K at_Machine_wait) fd := T.n2 d_Machine_wait (List.mem_of_getElem? (i := 15) rfl)
theorem F_Machine_is_screened (T : Tx K mg) : ∃ fd, FunD K "is_screened" "Machine.is_screened" (defArgs s_Machine_is_screened) (defBody s_Machine_is_screened) (defScope s_Machine_is_screened) [] [] (He.fAd K at_Machine_is_screened) fd := T.n2 d_Machine_is_screened (List.mem_of_getElem? (i := 16) rfl)
theorem F_Machine_leave (T : Tx K mg) : ∃ fd, FunD K "leave" "Machine.leave" (defArgs s_Machine_leave) (defBody s_Machine_leave) (defScope s_Machine_leave) [] [] (He.fAd K at_Machine_leave) fd := T.n2 d_Machine_leave (List.mem_of_getElem? (i := 17) rfl)
theorem F_Machine_put_keep (T : Tx K mg) : ∃ fd, FunD K "put_keep" "Machine.put_keep" (defArgs s_Machine_put_keep) (defBody s_Machine_put_keep) (defScope s_Machine_put_keep) [] [] (He.fAd K at_Machine_put_keep) fd := T.n2 d_Machine_put_keep (List.mem_of_getElem? (i := 18) rfl)
theorem F_Machine_bind (T : Tx K mg) : ∃ fd, FunD K "bind" "Machine.bind" (defArgs s_Machine_bind) (defBody s_Machine_bind) (defScope s_Machine_bind) [] [] (He.fAd K at_Machine_bind) fd := T.n2 d_Machine_bind (List.mem_of_getElem? (i := 19) rfl)
theorem F_Machine_give (T : Tx K mg) : ∃ fd, FunD K "give" "Machine.give" (defArgs s_Machine_give) (defBody s_Machine_give) (defScope s_Machine_give) [] [] (He.fAd K at_Machine_give) fd := T.n3 d_Machine_give (List.mem_of_getElem? (i := 0) rfl)
theorem F_Machine_seen_from (T : Tx K mg) : ∃ fd, FunD K "seen_from" "Machine.seen_from" (defArgs s_Machine_seen_from) (defBody s_Machine_seen_from) (defScope s_Machine_seen_from) [] [] (He.fAd K at_Machine_seen_from) fd := T.n3 d_Machine_seen_from (List.mem_of_getElem? (i := 1) rfl)
theorem F_Machine_keeps_beneath (T : Tx K mg) : ∃ fd, FunD K "keeps_beneath" "Machine.keeps_beneath" (defArgs s_Machine_keeps_beneath) (defBody s_Machine_keeps_beneath) (defScope s_Machine_keeps_beneath) [] [] (He.fAd K at_Machine_keeps_beneath) fd := T.n3 d_Machine_keeps_beneath (List.mem_of_getElem? (i := 2) rfl)
theorem F_Machine_ask (T : Tx K mg) : ∃ fd, FunD K "ask" "Machine.ask" (defArgs s_Machine_ask) (defBody s_Machine_ask) (defScope s_Machine_ask) [] [] (He.fAd K at_Machine_ask) fd := T.n3 d_Machine_ask (List.mem_of_getElem? (i := 3) rfl)
theorem F_Machine_go_last (T : Tx K mg) : ∃ fd, FunD K "go_last" "Machine.go_last" (defArgs s_Machine_go_last) (defBody s_Machine_go_last) (defScope s_Machine_go_last) [] [] (He.fAd K at_Machine_go_last) fd := T.n3 d_Machine_go_last (List.mem_of_getElem? (i := 4) rfl)
theorem F_Machine_go_on (T : Tx K mg) : ∃ fd, FunD K "go_on" "Machine.go_on" (defArgs s_Machine_go_on) (defBody s_Machine_go_on) (defScope s_Machine_go_on) [] [] (He.fAd K at_Machine_go_on) fd := T.n3 d_Machine_go_on (List.mem_of_getElem? (i := 5) rfl)
theorem F_by_rows (T : Tx K mg) : ∃ fd, FunD K "by_rows" "by_rows" (defArgs s_by_rows) (defBody s_by_rows) (defScope s_by_rows) [] [] (He.fAd K at_by_rows) fd := T.n3 d_by_rows (List.mem_of_getElem? (i := 6) rfl)
theorem F_ran (T : Tx K mg) : ∃ fd, FunD K "ran" "ran" (defArgs s_ran) (defBody s_ran) (defScope s_ran) [] [] (He.fAd K at_ran) fd := T.n3 d_ran (List.mem_of_getElem? (i := 7) rfl)
theorem F_Flight_init (T : Tx K mg) : ∃ fd, FunD K "__init__" "Flight.__init__" (defArgs s_Flight_init) (defBody s_Flight_init) (defScope s_Flight_init) [] [] (He.fAd K at_Flight_init) fd := T.n3 d_Flight_init (List.mem_of_getElem? (i := 8) rfl)
theorem F_Flight_with_note (T : Tx K mg) : ∃ fd, FunD K "with_note" "Flight.with_note" (defArgs s_Flight_with_note) (defBody s_Flight_with_note) (defScope s_Flight_with_note) [] [] (He.fAd K at_Flight_with_note) fd := T.n3 d_Flight_with_note (List.mem_of_getElem? (i := 9) rfl)
theorem F_Stairs_init (T : Tx K mg) : ∃ fd, FunD K "__init__" "Stairs.__init__" (defArgs s_Stairs_init) (defBody s_Stairs_init) (defScope s_Stairs_init) [] [] (He.fAd K at_Stairs_init) fd := T.n3 d_Stairs_init (List.mem_of_getElem? (i := 10) rfl)
theorem F_Stairs_begin (T : Tx K mg) : ∃ fd, FunD K "begin" "Stairs.begin" (defArgs s_Stairs_begin) (defBody s_Stairs_begin) (defScope s_Stairs_begin) [] [] (He.fAd K at_Stairs_begin) fd := T.n3 d_Stairs_begin (List.mem_of_getElem? (i := 11) rfl)
theorem F_Stairs_put_flight (T : Tx K mg) : ∃ fd, FunD K "put_flight" "Stairs.put_flight" (defArgs s_Stairs_put_flight) (defBody s_Stairs_put_flight) (defScope s_Stairs_put_flight) [] [] (He.fAd K at_Stairs_put_flight) fd := T.n3 d_Stairs_put_flight (List.mem_of_getElem? (i := 12) rfl)
theorem F_Stairs_take_flight (T : Tx K mg) : ∃ fd, FunD K "take_flight" "Stairs.take_flight" (defArgs s_Stairs_take_flight) (defBody s_Stairs_take_flight) (defScope s_Stairs_take_flight) [] [] (He.fAd K at_Stairs_take_flight) fd := T.n3 d_Stairs_take_flight (List.mem_of_getElem? (i := 13) rfl)
theorem F_Stairs_turn (T : Tx K mg) : ∃ fd, FunD K "turn" "Stairs.turn" (defArgs s_Stairs_turn) (defBody s_Stairs_turn) (defScope s_Stairs_turn) [] [] (He.fAd K at_Stairs_turn) fd := T.n3 d_Stairs_turn (List.mem_of_getElem? (i := 14) rfl)
theorem F_Stairs_behind (T : Tx K mg) : ∃ fd, FunD K "behind" "Stairs.behind" (defArgs s_Stairs_behind) (defBody s_Stairs_behind) (defScope s_Stairs_behind) [] [] (He.fAd K at_Stairs_behind) fd := T.n3 d_Stairs_behind (List.mem_of_getElem? (i := 15) rfl)
theorem F_Stairs_wait (T : Tx K mg) : ∃ fd, FunD K "wait" "Stairs.wait" (defArgs s_Stairs_wait) (defBody s_Stairs_wait) (defScope s_Stairs_wait) [] [] (He.fAd K at_Stairs_wait) fd := T.n3 d_Stairs_wait (List.mem_of_getElem? (i := 16) rfl)
theorem F_Stairs_ask (T : Tx K mg) : ∃ fd, FunD K "ask" "Stairs.ask" (defArgs s_Stairs_ask) (defBody s_Stairs_ask) (defScope s_Stairs_ask) [] [] (He.fAd K at_Stairs_ask) fd := T.n3 d_Stairs_ask (List.mem_of_getElem? (i := 17) rfl)
theorem F_Stairs_go_on (T : Tx K mg) : ∃ fd, FunD K "go_on" "Stairs.go_on" (defArgs s_Stairs_go_on) (defBody s_Stairs_go_on) (defScope s_Stairs_go_on) [] [] (He.fAd K at_Stairs_go_on) fd := T.n3 d_Stairs_go_on (List.mem_of_getElem? (i := 18) rfl)
theorem F_Stairs_bind (T : Tx K mg) : ∃ fd, FunD K "bind" "Stairs.bind" (defArgs s_Stairs_bind) (defBody s_Stairs_bind) (defScope s_Stairs_bind) [] [] (He.fAd K at_Stairs_bind) fd := T.n3 d_Stairs_bind (List.mem_of_getElem? (i := 19) rfl)
theorem F_Stairs_give (T : Tx K mg) : ∃ fd, FunD K "give" "Stairs.give" (defArgs s_Stairs_give) (defBody s_Stairs_give) (defScope s_Stairs_give) [] [] (He.fAd K at_Stairs_give) fd := T.n4 d_Stairs_give (List.mem_of_getElem? (i := 0) rfl)
theorem F_Stairs_steps (T : Tx K mg) : ∃ fd, FunD K "steps" "Stairs.steps" (defArgs s_Stairs_steps) (defBody s_Stairs_steps) (defScope s_Stairs_steps) [] [] (He.fAd K at_Stairs_steps) fd := T.n4 d_Stairs_steps (List.mem_of_getElem? (i := 1) rfl)
theorem F_Stairs_end (T : Tx K mg) : ∃ fd, FunD K "end" "Stairs.end" (defArgs s_Stairs_end) (defBody s_Stairs_end) (defScope s_Stairs_end) [] [] (He.fAd K at_Stairs_end) fd := T.n4 d_Stairs_end (List.mem_of_getElem? (i := 2) rfl)
theorem F_Stairs_book (T : Tx K mg) : ∃ fd, FunD K "book" "Stairs.book" (defArgs s_Stairs_book) (defBody s_Stairs_book) (defScope s_Stairs_book) [] [] (He.fAd K at_Stairs_book) fd := T.n4 d_Stairs_book (List.mem_of_getElem? (i := 3) rfl)
theorem F_by_stairs (T : Tx K mg) : ∃ fd, FunD K "by_stairs" "by_stairs" (defArgs s_by_stairs) (defBody s_by_stairs) (defScope s_by_stairs) [] [] (He.fAd K at_by_stairs) fd := T.n4 d_by_stairs (List.mem_of_getElem? (i := 4) rfl)
theorem F_l_deal (T : Tx K mg) : ∃ fd, FunD K "_law_deal" "_law_deal" (defArgs s_l_deal) (defBody s_l_deal) (defScope s_l_deal) [] [] (He.fAd K at_l_deal) fd := T.n4 d_l_deal (List.mem_of_getElem? (i := 5) rfl)
theorem F_l_draw (T : Tx K mg) : ∃ fd, FunD K "_law_draw" "_law_draw" (defArgs s_l_draw) (defBody s_l_draw) (defScope s_l_draw) [] [] (He.fAd K at_l_draw) fd := T.n4 d_l_draw (List.mem_of_getElem? (i := 6) rfl)
theorem F_l_words (T : Tx K mg) : ∃ fd, FunD K "_law_words" "_law_words" (defArgs s_l_words) (defBody s_l_words) (defScope s_l_words) [] [] (He.fAd K at_l_words) fd := T.n4 d_l_words (List.mem_of_getElem? (i := 7) rfl)
theorem F_l_closed (T : Tx K mg) : ∃ fd, FunD K "_law_closed" "_law_closed" (defArgs s_l_closed) (defBody s_l_closed) (defScope s_l_closed) [] [] (He.fAd K at_l_closed) fd := T.n4 d_l_closed (List.mem_of_getElem? (i := 8) rfl)
theorem F_l_ways (T : Tx K mg) : ∃ fd, FunD K "_law_ways" "_law_ways" (defArgs s_l_ways) (defBody s_l_ways) (defScope s_l_ways) [] [] (He.fAd K at_l_ways) fd := T.n4 d_l_ways (List.mem_of_getElem? (i := 9) rfl)
theorem F_l_keeper (T : Tx K mg) : ∃ fd, FunD K "_law_keeper" "_law_keeper" (defArgs s_l_keeper) (defBody s_l_keeper) (defScope s_l_keeper) [] [] (He.fAd K at_l_keeper) fd := T.n4 d_l_keeper (List.mem_of_getElem? (i := 10) rfl)
theorem F_l_player (T : Tx K mg) : ∃ fd, FunD K "_law_player" "_law_player" (defArgs s_l_player) (defBody s_l_player) (defScope s_l_player) [] [] (He.fAd K at_l_player) fd := T.n4 d_l_player (List.mem_of_getElem? (i := 11) rfl)
theorem F_l_due (T : Tx K mg) : ∃ fd, FunD K "_law_due" "_law_due" (defArgs s_l_due) (defBody s_l_due) (defScope s_l_due) [] [] (He.fAd K at_l_due) fd := T.n4 d_l_due (List.mem_of_getElem? (i := 12) rfl)
theorem F_law (T : Tx K mg) : ∃ fd, FunD K "law" "law" (defArgs s_law) (defBody s_law) (defScope s_law) [] [] (He.fAd K at_law) fd := T.n4 d_law (List.mem_of_getElem? (i := 13) rfl)
theorem sc_named : FnScope ["rows", "name", "row"] ["rows", "name"] (defScope s_named) := ⟨rfl, rfl, rfl, by decide +kernel, rfl, by decide +kernel, by decide +kernel⟩
theorem sc_all_parts : FnScope ["program", "found", "keeper", "hear", "function"] ["program"] (defScope s_all_parts) := ⟨rfl, rfl, rfl, by decide +kernel, rfl, by decide +kernel, by decide +kernel⟩
theorem sc_body_of : FnScope ["program", "part", "keeper"] ["program", "part"] (defScope s_body_of) := ⟨rfl, rfl, rfl, by decide +kernel, rfl, by decide +kernel, by decide +kernel⟩
theorem sc_end_begins : FnScope ["keeper", "x", "n", "body"] ["keeper"] (defScope s_end_begins) := ⟨rfl, rfl, rfl, by decide +kernel, rfl, by decide +kernel, by decide +kernel⟩
theorem sc_hear_begins : FnScope ["asks", "keeper", "hear", "q", "x", "h", "n", "body"] ["asks", "keeper", "hear"] (defScope s_hear_begins) := ⟨rfl, rfl, rfl, by decide +kernel, rfl, by decide +kernel, by decide +kernel⟩
theorem sc_begun_with : FnScope ["program", "part", "keeper"] ["program", "part"] (defScope s_begun_with) := ⟨rfl, rfl, rfl, by decide +kernel, rfl, by decide +kernel, by decide +kernel⟩
theorem sc_bodies_in : FnScope ["piece"] ["piece"] (defScope s_bodies_in) := ⟨rfl, rfl, rfl, by decide +kernel, rfl, by decide +kernel, by decide +kernel⟩
theorem sc_pieces : FnScope ["body", "found", "left", "piece"] ["body"] (defScope s_pieces) := ⟨rfl, rfl, rfl, by decide +kernel, rfl, by decide +kernel, by decide +kernel⟩
theorem sc_coded : FnScope ["slots", "atom"] ["slots", "atom"] (defScope s_coded) := ⟨rfl, rfl, rfl, by decide +kernel, rfl, by decide +kernel, by decide +kernel⟩
theorem sc_names_bound : FnScope ["piece"] ["piece"] (defScope s_names_bound) := ⟨rfl, rfl, rfl, by decide +kernel, rfl, by decide +kernel, by decide +kernel⟩
theorem sc_deed_of : FnScope ["piece", "slots", "word", "atom", "args"] ["piece", "slots"] (defScope s_deed_of) := ⟨rfl, rfl, rfl, by decide +kernel, rfl, by decide +kernel, by decide +kernel⟩
theorem sc_row_of : FnScope ["piece", "slots", "more", "at", "other"] ["piece", "slots", "more", "at"] (defScope s_row_of) := ⟨rfl, rfl, rfl, by decide +kernel, rfl, by decide +kernel, by decide +kernel⟩
theorem sc_part_code : FnScope ["program", "part", "slots", "name", "kind", "many", "rows", "left", "piece", "more", "body"] ["program", "part"] (defScope s_part_code) := ⟨rfl, rfl, rfl, by decide +kernel, rfl, by decide +kernel, by decide +kernel⟩
theorem sc_code_of : FnScope ["program", "found", "part"] ["program"] (defScope s_code_of) := ⟨rfl, rfl, rfl, by decide +kernel, rfl, by decide +kernel, by decide +kernel⟩
theorem sc_atoms_of : FnScope ["piece", "word"] ["piece"] (defScope s_atoms_of) := ⟨rfl, rfl, rfl, by decide +kernel, rfl, by decide +kernel, by decide +kernel⟩
theorem sc_args_of : FnScope ["piece"] ["piece"] (defScope s_args_of) := ⟨rfl, rfl, rfl, by decide +kernel, rfl, by decide +kernel, by decide +kernel⟩
theorem sc_weight_of : FnScope ["piece", "x", "words", "f", "args", "k", "atom", "found", "atoms"] ["piece", "x", "words"] (defScope s_weight_of) := ⟨rfl, rfl, rfl, by decide +kernel, rfl, by decide +kernel, by decide +kernel⟩
theorem sc_weight_in : FnScope ["body", "x", "words", "built", "piece", "one", "inner"] ["body", "x", "words"] (defScope s_weight_in) := ⟨rfl, rfl, rfl, by decide +kernel, rfl, by decide +kernel, by decide +kernel⟩
theorem sc_param_weights : FnScope ["program", "words", "f", "params", "kind", "body", "k", "param", "more"] ["program"] (defScope s_param_weights) := ⟨rfl, rfl, rfl, by decide +kernel, rfl, by decide +kernel, by decide +kernel⟩
theorem sc_goes_on_last : FnScope ["body", "h", "built", "piece", "one", "inner", "used"] ["body", "h"] (defScope s_goes_on_last) := ⟨rfl, rfl, rfl, by decide +kernel, rfl, by decide +kernel, by decide +kernel⟩
theorem sc_hold_words : FnScope ["program", "words", "found", "keeper", "q", "x", "h", "n", "body", "weight", "word"] ["program"] (defScope s_hold_words) := ⟨rfl, rfl, rfl, by decide +kernel, rfl, by decide +kernel, by decide +kernel⟩
theorem sc_Hold_init : FnScope ["self", "number", "held"] ["self", "number", "held"] (defScope s_Hold_init) := ⟨rfl, rfl, rfl, by decide +kernel, rfl, by decide +kernel, by decide +kernel⟩
theorem sc_summed_up : FnScope ["sign", "one", "other"] ["sign", "one", "other"] (defScope s_summed_up) := ⟨rfl, rfl, rfl, by decide +kernel, rfl, by decide +kernel, by decide +kernel⟩
theorem sc_worth : FnScope ["names", "atom"] ["names", "atom"] (defScope s_worth) := ⟨rfl, rfl, rfl, by decide +kernel, rfl, by decide +kernel, by decide +kernel⟩
theorem sc_made : FnScope ["piece", "names"] ["piece", "names"] (defScope s_made) := ⟨rfl, rfl, rfl, by decide +kernel, rfl, by decide +kernel, by decide +kernel⟩
theorem sc_with_name : FnScope ["names", "x", "thing", "found"] ["names", "x", "thing"] (defScope s_with_name) := ⟨rfl, rfl, rfl, by decide +kernel, rfl, by decide +kernel, by decide +kernel⟩
theorem sc_as_told : FnScope ["thing", "one"] ["thing"] (defScope s_as_told) := ⟨rfl, rfl, rfl, by decide +kernel, rfl, by decide +kernel, by decide +kernel⟩
theorem sc_heard_by : FnScope ["program", "found", "keeper", "hear"] ["program"] (defScope s_heard_by) := ⟨rfl, rfl, rfl, by decide +kernel, rfl, by decide +kernel, by decide +kernel⟩
theorem sc_keeps_in : FnScope ["steps", "step"] ["steps"] (defScope s_keeps_in) := ⟨rfl, rfl, rfl, by decide +kernel, rfl, by decide +kernel, by decide +kernel⟩
theorem sc_Walk_init : FnScope ["self", "program", "f", "args", "part"] ["self", "program", "f", "args"] (defScope s_Walk_init) := ⟨rfl, rfl, rfl, by decide +kernel, rfl, by decide +kernel, by decide +kernel⟩
theorem sc_Walk_begin : FnScope ["self", "part", "things", "names", "own", "thing"] ["self", "part", "things"] (defScope s_Walk_begin) := ⟨rfl, rfl, rfl, by decide +kernel, rfl, by decide +kernel, by decide +kernel⟩
theorem sc_Walk_turn : FnScope ["self", "word", "part", "n", "names", "piece"] ["self"] (defScope s_Walk_turn) := ⟨rfl, rfl, rfl, by decide +kernel, rfl, by decide +kernel, by decide +kernel⟩
theorem sc_Walk_pass_on : FnScope ["self", "part", "n", "names", "piece", "row"] ["self", "part", "n", "names", "piece"] (defScope s_Walk_pass_on) := ⟨rfl, rfl, rfl, by decide +kernel, rfl, by decide +kernel, by decide +kernel⟩
theorem sc_Walk_wait : FnScope ["self", "names", "piece", "atom"] ["self", "names", "piece"] (defScope s_Walk_wait) := ⟨rfl, rfl, rfl, by decide +kernel, rfl, by decide +kernel, by decide +kernel⟩
theorem sc_Walk_ask : FnScope ["self", "q", "thing", "at", "hold"] ["self", "q", "thing"] (defScope s_Walk_ask) := ⟨rfl, rfl, rfl, by decide +kernel, rfl, by decide +kernel, by decide +kernel⟩
theorem sc_Walk_go_on : FnScope ["self", "hold", "thing", "note"] ["self", "hold", "thing", "note"] (defScope s_Walk_go_on) := ⟨rfl, rfl, rfl, by decide +kernel, rfl, by decide +kernel, by decide +kernel⟩
theorem sc_Walk_bind : FnScope ["self", "thing", "word", "part", "n", "names"] ["self", "thing"] (defScope s_Walk_bind) := ⟨rfl, rfl, rfl, by decide +kernel, rfl, by decide +kernel, by decide +kernel⟩
theorem sc_Walk_give : FnScope ["self", "thing", "word", "name", "note"] ["self", "thing"] (defScope s_Walk_give) := ⟨rfl, rfl, rfl, by decide +kernel, rfl, by decide +kernel, by decide +kernel⟩
theorem sc_Walk_steps : FnScope ["self"] ["self"] (defScope s_Walk_steps) := ⟨rfl, rfl, rfl, by decide +kernel, rfl, by decide +kernel, by decide +kernel⟩
theorem sc_Walk_end : FnScope ["self"] ["self"] (defScope s_Walk_end) := ⟨rfl, rfl, rfl, by decide +kernel, rfl, by decide +kernel, by decide +kernel⟩
theorem sc_Walk_book : FnScope ["self"] ["self"] (defScope s_Walk_book) := ⟨rfl, rfl, rfl, by decide +kernel, rfl, by decide +kernel, by decide +kernel⟩
theorem sc_Frame_init : FnScope ["self", "part", "rows", "at", "slots"] ["self", "part", "rows", "at", "slots"] (defScope s_Frame_init) := ⟨rfl, rfl, rfl, by decide +kernel, rfl, by decide +kernel, by decide +kernel⟩
theorem sc_Keep_init : FnScope ["self", "name", "note"] ["self", "name", "note"] (defScope s_Keep_init) := ⟨rfl, rfl, rfl, by decide +kernel, rfl, by decide +kernel, by decide +kernel⟩
theorem sc_Pass_init : FnScope ["self", "many"] ["self", "many"] (defScope s_Pass_init) := ⟨rfl, rfl, rfl, by decide +kernel, rfl, by decide +kernel, by decide +kernel⟩
theorem sc_Screen_init : FnScope ["self", "deep", "number"] ["self", "deep", "number"] (defScope s_Screen_init) := ⟨rfl, rfl, rfl, by decide +kernel, rfl, by decide +kernel, by decide +kernel⟩
theorem sc_Cut_init : FnScope ["self", "number", "once", "cut"] ["self", "number", "once", "cut"] (defScope s_Cut_init) := ⟨rfl, rfl, rfl, by decide +kernel, rfl, by decide +kernel, by decide +kernel⟩
theorem sc_is_counted : FnScope ["step"] ["step"] (defScope s_is_counted) := ⟨rfl, rfl, rfl, by decide +kernel, rfl, by decide +kernel, by decide +kernel⟩
theorem sc_copied : FnScope ["step", "thing"] ["step"] (defScope s_copied) := ⟨rfl, rfl, rfl, by decide +kernel, rfl, by decide +kernel, by decide +kernel⟩
theorem sc_Machine_init : FnScope ["self", "program", "f", "args", "bound"] ["self", "program", "f", "args", "bound"] (defScope s_Machine_init) := ⟨rfl, rfl, rfl, by decide +kernel, rfl, by decide +kernel, by decide +kernel⟩
theorem sc_Machine_begin : FnScope ["self", "part", "things", "many", "rows"] ["self", "part", "things"] (defScope s_Machine_begin) := ⟨rfl, rfl, rfl, by decide +kernel, rfl, by decide +kernel, by decide +kernel⟩
theorem sc_Machine_step : FnScope ["self"] ["self"] (defScope s_Machine_step) := ⟨rfl, rfl, rfl, by decide +kernel, rfl, by decide +kernel, by decide +kernel⟩
theorem sc_Machine_turn : FnScope ["self", "one", "frame", "row"] ["self"] (defScope s_Machine_turn) := ⟨rfl, rfl, rfl, by decide +kernel, rfl, by decide +kernel, by decide +kernel⟩
theorem sc_Machine_worth : FnScope ["self", "frame", "atom"] ["self", "frame", "atom"] (defScope s_Machine_worth) := ⟨rfl, rfl, rfl, by decide +kernel, rfl, by decide +kernel, by decide +kernel⟩
theorem sc_Machine_do_row : FnScope ["self", "frame", "row", "things"] ["self", "frame", "row"] (defScope s_Machine_do_row) := ⟨rfl, rfl, rfl, by decide +kernel, rfl, by decide +kernel, by decide +kernel⟩
theorem sc_Machine_made : FnScope ["self", "frame", "row"] ["self", "frame", "row"] (defScope s_Machine_made) := ⟨rfl, rfl, rfl, by decide +kernel, rfl, by decide +kernel, by decide +kernel⟩
theorem sc_Machine_wait : FnScope ["self", "frame", "row", "atom", "hold", "thing", "note", "things"] ["self", "frame", "row"] (defScope s_Machine_wait) := ⟨rfl, rfl, rfl, by decide +kernel, rfl, by decide +kernel, by decide +kernel⟩
theorem sc_Machine_is_screened : FnScope ["self", "frame"] ["self", "frame"] (defScope s_Machine_is_screened) := ⟨rfl, rfl, rfl, by decide +kernel, rfl, by decide +kernel, by decide +kernel⟩
theorem sc_Machine_leave : FnScope ["self", "frame", "row"] ["self", "frame", "row"] (defScope s_Machine_leave) := ⟨rfl, rfl, rfl, by decide +kernel, rfl, by decide +kernel, by decide +kernel⟩
theorem sc_Machine_put_keep : FnScope ["self", "keep"] ["self", "keep"] (defScope s_Machine_put_keep) := ⟨rfl, rfl, rfl, by decide +kernel, rfl, by decide +kernel, by decide +kernel⟩
theorem sc_Machine_bind : FnScope ["self", "thing", "frame"] ["self", "thing"] (defScope s_Machine_bind) := ⟨rfl, rfl, rfl, by decide +kernel, rfl, by decide +kernel, by decide +kernel⟩
theorem sc_Machine_give : FnScope ["self", "thing", "many", "turn", "keep"] ["self", "thing"] (defScope s_Machine_give) := ⟨rfl, rfl, rfl, by decide +kernel, rfl, by decide +kernel, by decide +kernel⟩
theorem sc_Machine_seen_from : FnScope ["self", "at"] ["self", "at"] (defScope s_Machine_seen_from) := ⟨rfl, rfl, rfl, by decide +kernel, rfl, by decide +kernel, by decide +kernel⟩
theorem sc_Machine_keeps_beneath : FnScope ["self", "at", "many"] ["self", "at"] (defScope s_Machine_keeps_beneath) := ⟨rfl, rfl, rfl, by decide +kernel, rfl, by decide +kernel, by decide +kernel⟩
theorem sc_Machine_ask : FnScope ["self", "q", "thing", "at", "keep", "part", "how", "hold"] ["self", "q", "thing"] (defScope s_Machine_ask) := ⟨rfl, rfl, rfl, by decide +kernel, rfl, by decide +kernel, by decide +kernel⟩
theorem sc_Machine_go_last : FnScope ["self", "thing", "note", "screen", "at"] ["self", "thing", "note"] (defScope s_Machine_go_last) := ⟨rfl, rfl, rfl, by decide +kernel, rfl, by decide +kernel, by decide +kernel⟩
theorem sc_Machine_go_on : FnScope ["self", "hold", "thing", "note", "cut", "step"] ["self", "hold", "thing", "note"] (defScope s_Machine_go_on) := ⟨rfl, rfl, rfl, by decide +kernel, rfl, by decide +kernel, by decide +kernel⟩
theorem sc_by_rows : FnScope ["program", "f", "args", "bound", "machine"] ["program", "f", "args", "bound"] (defScope s_by_rows) := ⟨rfl, rfl, rfl, by decide +kernel, rfl, by decide +kernel, by decide +kernel⟩
theorem sc_ran : FnScope ["program", "f", "args", "bound", "walk", "end"] ["program", "f", "args", "bound"] (defScope s_ran) := ⟨rfl, rfl, rfl, by decide +kernel, rfl, by decide +kernel, by decide +kernel⟩
theorem sc_Flight_init : FnScope ["self", "keeper", "note", "parts"] ["self", "keeper", "note", "parts"] (defScope s_Flight_init) := ⟨rfl, rfl, rfl, by decide +kernel, rfl, by decide +kernel, by decide +kernel⟩
theorem sc_Flight_with_note : FnScope ["self", "note"] ["self", "note"] (defScope s_Flight_with_note) := ⟨rfl, rfl, rfl, by decide +kernel, rfl, by decide +kernel, by decide +kernel⟩
theorem sc_Stairs_init : FnScope ["self", "program", "f", "args", "part", "ask"] ["self", "program", "f", "args"] (defScope s_Stairs_init) := ⟨rfl, rfl, rfl, by decide +kernel, rfl, by decide +kernel, by decide +kernel⟩
theorem sc_Stairs_begin : FnScope ["self", "part", "things", "names", "own", "thing"] ["self", "part", "things"] (defScope s_Stairs_begin) := ⟨rfl, rfl, rfl, by decide +kernel, rfl, by decide +kernel, by decide +kernel⟩
theorem sc_Stairs_put_flight : FnScope ["self", "flight", "q"] ["self", "flight"] (defScope s_Stairs_put_flight) := ⟨rfl, rfl, rfl, by decide +kernel, rfl, by decide +kernel, by decide +kernel⟩
theorem sc_Stairs_take_flight : FnScope ["self", "flight", "q"] ["self"] (defScope s_Stairs_take_flight) := ⟨rfl, rfl, rfl, by decide +kernel, rfl, by decide +kernel, by decide +kernel⟩
theorem sc_Stairs_turn : FnScope ["self", "part", "n", "names", "piece"] ["self"] (defScope s_Stairs_turn) := ⟨rfl, rfl, rfl, by decide +kernel, rfl, by decide +kernel, by decide +kernel⟩
theorem sc_Stairs_behind : FnScope ["self", "part", "n", "names", "piece", "things"] ["self", "part", "n", "names", "piece"] (defScope s_Stairs_behind) := ⟨rfl, rfl, rfl, by decide +kernel, rfl, by decide +kernel, by decide +kernel⟩
theorem sc_Stairs_wait : FnScope ["self", "names", "piece", "atom"] ["self", "names", "piece"] (defScope s_Stairs_wait) := ⟨rfl, rfl, rfl, by decide +kernel, rfl, by decide +kernel, by decide +kernel⟩
theorem sc_Stairs_ask : FnScope ["self", "q", "thing", "number", "cut", "hold"] ["self", "q", "thing"] (defScope s_Stairs_ask) := ⟨rfl, rfl, rfl, by decide +kernel, rfl, by decide +kernel, by decide +kernel⟩
theorem sc_Stairs_go_on : FnScope ["self", "hold", "thing", "note", "flight"] ["self", "hold", "thing", "note"] (defScope s_Stairs_go_on) := ⟨rfl, rfl, rfl, by decide +kernel, rfl, by decide +kernel, by decide +kernel⟩
theorem sc_Stairs_bind : FnScope ["self", "thing", "part", "n", "names"] ["self", "thing"] (defScope s_Stairs_bind) := ⟨rfl, rfl, rfl, by decide +kernel, rfl, by decide +kernel, by decide +kernel⟩
theorem sc_Stairs_give : FnScope ["self", "thing", "flight"] ["self", "thing"] (defScope s_Stairs_give) := ⟨rfl, rfl, rfl, by decide +kernel, rfl, by decide +kernel, by decide +kernel⟩
theorem sc_Stairs_steps : FnScope ["self"] ["self"] (defScope s_Stairs_steps) := ⟨rfl, rfl, rfl, by decide +kernel, rfl, by decide +kernel, by decide +kernel⟩
theorem sc_Stairs_end : FnScope ["self"] ["self"] (defScope s_Stairs_end) := ⟨rfl, rfl, rfl, by decide +kernel, rfl, by decide +kernel, by decide +kernel⟩
theorem sc_Stairs_book : FnScope ["self"] ["self"] (defScope s_Stairs_book) := ⟨rfl, rfl, rfl, by decide +kernel, rfl, by decide +kernel, by decide +kernel⟩
theorem sc_by_stairs : FnScope ["program", "f", "args", "bound", "stairs", "end"] ["program", "f", "args", "bound"] (defScope s_by_stairs) := ⟨rfl, rfl, rfl, by decide +kernel, rfl, by decide +kernel, by decide +kernel⟩
theorem sc_l_deal : FnScope ["_law_script", "_law_base", "_law_one", "_law_some", "_law_number"] ["_law_script", "_law_base"] (defScope s_l_deal) := ⟨rfl, rfl, rfl, by decide +kernel, rfl, by decide +kernel, by decide +kernel⟩
theorem sc_l_draw : FnScope ["_law_deal_here", "_law_many", "_law_number", "_law_one", "_law_other"] ["_law_deal_here", "_law_many"] (defScope s_l_draw) := ⟨rfl, rfl, rfl, by decide +kernel, rfl, by decide +kernel, by decide +kernel⟩
theorem sc_l_words : FnScope ["_law_deal_here", "_law_many", "_law_letters", "_law_k", "_law_core", "_law_at", "_law_turn", "_law_found", "_law_own"] ["_law_deal_here", "_law_many"] (defScope s_l_words) := ⟨rfl, rfl, rfl, by decide +kernel, rfl, by decide +kernel, by decide +kernel⟩
theorem sc_l_closed : FnScope ["_law_heads", "_law_body", "_law_head"] ["_law_heads", "_law_body"] (defScope s_l_closed) := ⟨rfl, rfl, rfl, by decide +kernel, rfl, by decide +kernel, by decide +kernel⟩
theorem sc_l_ways : FnScope ["_law_program", "_law_f", "_law_args", "_law_bound", "_law_found", "_law_row"] ["_law_program", "_law_f", "_law_args", "_law_bound"] (defScope s_l_ways) := ⟨rfl, rfl, rfl, by decide +kernel, rfl, by decide +kernel, by decide +kernel⟩
theorem sc_l_keeper : FnScope ["_law_words_here", "_law_name", "_law_q", "_law_pile", "_law_x", "_law_h", "_law_n", "_law_y", "_law_s", "_law_first", "_law_others", "_law_num", "_law_note", "_law_more", "_law_split", "_law_body", "_law_adding", "_law_end"] ["_law_words_here", "_law_name", "_law_q", "_law_pile"] (defScope s_l_keeper) := ⟨rfl, rfl, rfl, by decide +kernel, rfl, by decide +kernel, by decide +kernel⟩
theorem sc_l_player : FnScope ["_law_words_here", "_law_q", "_law_deeds", "_law_heads", "_law_own", "_law_k", "_law_deed"] ["_law_words_here", "_law_q", "_law_deeds"] (defScope s_l_player) := ⟨rfl, rfl, rfl, by decide +kernel, rfl, by decide +kernel, by decide +kernel⟩
theorem sc_l_due : FnScope ["_law_deeds", "_law_pile", "_law_told", "_law_total", "_law_row", "_law_at", "_law_own"] ["_law_deeds", "_law_pile"] (defScope s_l_due) := ⟨rfl, rfl, rfl, by decide +kernel, rfl, by decide +kernel, by decide +kernel⟩
theorem sc_law : FnScope ["_law_script", "_law_deal_here", "_law_words_here", "_law_num", "_law_deeds", "_law_k", "_law_deed", "_law_one", "_law_q", "_law_name", "_law_pile", "_law_kept", "_law_main", "_law_player_here", "_law_program", "_law_told", "_law_total"] ["_law_script"] (defScope s_law) := ⟨rfl, rfl, rfl, by decide +kernel, rfl, by decide +kernel, by decide +kernel⟩
end AL
/-! H6 -/
namespace AL
open PySem PySem.W PySem.Calls PyProof.Rows HandSHeadRun
/-! ### the head -/
def loose : List PySem.Str := (["_wall", "__name__", "named", "all_parts", "body_of", "end_begins", "hear_begins", "begun_with", "bodies_in", "pieces", "coded", "names_bound", "deed_of", "row_of", "part_code", "code_of", "atoms_of", "args_of", "weight_of", "weight_in", "param_weights", "goes_on_last", "hold_words", "MODULUS", "Hold", "summed_up", "worth", "made", "with_name", "as_told"] : List PySem.Str) ++ (["heard_by", "keeps_in", "Walk", "Frame", "Keep", "Pass", "Screen", "Cut", "is_counted", "copied", "Machine", "by_rows", "ran", "Flight", "Stairs", "by_stairs", "_law_deal", "_law_draw", "_law_words", "_law_closed", "_law_ways", "_law_keeper", "_law_player", "_law_due"] : List PySem.Str)
def gFa : List He.Fa := fa0 ++ fa1 ++ fa2 ++ fa3 ++ fa4 ++ fa5 ++ fa6 ++ fa7 ++ fa8
def gDa : List He.DefD := fn0 ++ fn1 ++ fn2 ++ fn3 ++ fn4
abbrev R : OpenRow := OpenLaw.row PySem.Challenge.rw_askladder_k84_whole_taking_turns
abbrev qv : Program := view R.prog [61]
/-- the store below the thousandth place, all that the head has laid: which of it the names reach is not asked (that costs most of a run) -/
def low (g : Addr → Option Obj) : Frag := He.frG g (List.range 1000)
def obAll (g : Addr → Option Obj) : He.AlD × Bool := (He.obsD gFa gDa (low g), exB (low g))
def hk : Hook where
  α := He.AlD × Bool
  obs := fun s => obAll s.heap.get?
  val := fun _ => (He.valD gDa, true)
  says := fun _ h => ∃ K : Frag, K.In h ∧ He.SaysD gFa gDa K ∧ exB K = true
  of := fun _ s e => ⟨low s.heap.get?, He.frG_in, congrArg Prod.fst e, congrArg Prod.snd e⟩
  keeps := fun _ _ _ h k => h.imp fun _ z => ⟨z.1.keeps k, z.2⟩
def ob (s : SharedT) : He.AlD × Bool := obAll (getT s)
theorem ob_eq (s : SharedT) : ob s = hk.obs s.abs := congrArg obAll (funext (getT_eq s))
/-- the head's end, seen by f, is v -/
abbrev Ends (w : World) {α : Type} (f : SharedT → α) (v : α) : Prop := ∀ os : OsState, (endF (stepQ (denQ tabQ) R.prog w) 6000 R.prog w os).map f = some v
end AL
/-! Rx -/
namespace AL
open PySem PySem.W PySem.Calls PyProof.Rows HandSHeadRun
theorem run_x (w : World) : Ends w (fun s => (looksF R.prog (boot_heap w.params) s.abs, exB (low (getT s)), gFa.all fun f => f.ok (low (getT s)))) (true, true, true) := by
  intro os
  kernel_rfl
end AL
/-! Ry -/
namespace AL
open PySem PySem.W PySem.Calls PyProof.Rows HandSHeadRun
theorem run_y (w : World) : Ends w (fun s => seenQ qv loose (importedModules R.prog.main.body) (fun s => xlAt qv [] s && recOk R.toRowW.records s) s.abs) (openGood qv loose) := by
  intro os
  kernel_rfl
end AL
/-! Rz -/
namespace AL
open PySem PySem.W PySem.Calls PyProof.Rows HandSHeadRun
theorem run_z (w : World) : Ends w (fun s => He.obsD [] gDa (low (getT s))) (He.valD gDa) := by
  intro os
  kernel_rfl
end AL
/-! H7 -/
namespace AL
open PySem PySem.W PySem.Calls PyProof.Rows HandSHeadRun
/-- the three looks are at the same end -/
theorem run_all_head (w : World) : RunEq R qv hk ob 6000 loose w := by
  intro os
  have x := run_x w os
  have y := run_y w os
  have z := run_z w os
  revert x y z
  cases endF (stepQ (denQ tabQ) R.prog w) 6000 R.prog w os with
  | none => exact fun x => nomatch x
  | some s =>
    intro x y z
    have x := Option.some.inj x
    have z : He.obsD [] gDa (low (getT s)) = He.valD gDa := Option.some.inj z
    have x1 := congrArg (fun z : Bool × Bool × Bool => z.1) x
    have x2 := congrArg (fun z : Bool × Bool × Bool => z.2.1) x
    have x3 : (gFa.all fun f => f.ok (low (getT s))) = true := congrArg (fun z : Bool × Bool × Bool => z.2.2) x
    have x4 : He.obsD gFa gDa (low (getT s)) = He.valD gDa := by
      rw [← z]
      show ((gFa.all fun f => f.ok (low (getT s))) && _, _) = _
      rw [x3]
      rfl
    exact congrArg some (Prod.ext x1 (Prod.ext (Option.some.inj y) (Prod.ext x4 x2)))
end AL
/-! A2 -/
namespace AL
open PySem PySem.Spec PyProof.Rows L2
/-! ### classes: their attributes by places -/
structure Cd where
  nm : Str
  names : List Str
def Cd.C (c : Cd) (K : PySem.W.Frag) : Addr := He.ga K c.nm
def Cd.ob (c : Cd) (K : PySem.W.Frag) (dx : Addr) (vs : List V) : HO := .ins (c.C K) dx (c.names.zip vs)
structure CdOk (K : PySem.W.Frag) (c : Cd) : Prop where
  cls : Cls K (c.C K)
  na : ∀ (i : Nat) f, c.names[i]? = some f → NoAttr K (c.C K) f
  nd : c.names.Nodup
  len : c.names.length < 1000
theorem lookup_zip : ∀ {ns : List Str} {vs : List V} {i : Nat} {f : Str} {v : V}, ns.Nodup → ns[i]? = some f → vs[i]? = some v → (ns.zip vs).lookup f = some v
  | [], _, _, _, _, _, h, _ => by simp at h
  | _ :: _, [], _, _, _, _, _, h => by simp at h
  | n :: ns, w :: vs, 0, f, v, _, h1, h2 => by
    simp at h1 h2; subst h1; subst h2
    rw [List.zip_cons_cons, List.lookup_cons, beq_self_eq_true]
  | n :: ns, w :: vs, i + 1, f, v, nd, h1, h2 => by
    obtain ⟨n1, n2⟩ := List.nodup_cons.mp nd
    have h1' : ns[i]? = some f := by simpa using h1
    have hne : (f == n) = false := beq_eq_false_iff_ne.mpr fun e => n1 (e ▸ List.mem_of_getElem? h1')
    rw [List.zip_cons_cons, List.lookup_cons, hne]
    exact lookup_zip n2 h1' (by simpa using h2)
theorem lookup_zip_none : ∀ {ns : List Str} {vs : List V} {f : Str}, f ∉ ns → (ns.zip vs).lookup f = none
  | [], _, _, _ => rfl
  | _ :: _, [], _, _ => rfl
  | n :: ns, w :: vs, f, h => by
    have hne : (f == n) = false := beq_eq_false_iff_ne.mpr fun e => h (by rw [e]; exact List.mem_cons_self)
    rw [List.zip_cons_cons, List.lookup_cons, hne]
    exact lookup_zip_none fun m => h (List.mem_cons_of_mem _ m)
theorem putF_zip : ∀ {ns : List Str} {vs : List V} {i : Nat} {f : Str} {v : V}, ns.Nodup → ns[i]? = some f → i < vs.length → putF f v (ns.zip vs) = ns.zip (vs.set i v)
  | [], _, _, _, _, _, h, _ => by simp at h
  | _ :: _, [], _, _, _, _, _, h => by simp at h
  | n :: ns, w :: vs, 0, f, v, _, h1, _ => by
    simp at h1; subst h1
    show (if n = n then (n, v) :: ns.zip vs else _) = _
    rw [if_pos rfl] <;> rfl
  | n :: ns, w :: vs, i + 1, f, v, nd, h1, h2 => by
    obtain ⟨n1, n2⟩ := List.nodup_cons.mp nd
    have h1' : ns[i]? = some f := by simpa using h1
    show (if n = f then (n, v) :: ns.zip vs else (n, w) :: putF f v (ns.zip vs)) = _
    rw [if_neg fun e => n1 (by rw [e]; exact List.mem_of_getElem? h1'), putF_zip n2 h1' (by simpa using h2)] <;> rfl
theorem putF_zip_new : ∀ {ns : List Str} {vs : List V} {f : Str} {v : V}, ns.Nodup → ns[vs.length]? = some f → putF f v (ns.zip vs) = ns.zip (vs ++ [v])
  | [], vs, _, _, _, h => by simp at h
  | n :: ns, [], f, v, _, h1 => by
    simp at h1; subst h1
    show [(n, v)] = (n, v) :: ns.zip []
    cases ns <;> rfl
  | n :: ns, w :: vs, f, v, nd, h1 => by
    obtain ⟨n1, n2⟩ := List.nodup_cons.mp nd
    have h1' : ns[vs.length]? = some f := by simpa using h1
    show (if n = f then (n, v) :: ns.zip vs else (n, w) :: putF f v (ns.zip vs)) = _
    rw [if_neg fun e => n1 (by rw [e]; exact List.mem_of_getElem? h1'), putF_zip_new n2 h1'] <;> rfl
/-- x.f, the i-th attribute of the class -/
def kAt (K : PySem.W.Frag) (c : Cd) (i : Nat) (x : V) (H : Hp) (Q : VK) : Prop := ∃ a dx vs v, x = .ref a ∧ H a = some (c.ob K dx vs) ∧ vs[i]? = some v ∧ Q v H
def tAt (K : PySem.W.Frag) (c : Cd) (i : Nat) (ta : TE) : TE := fun σ H Q => ta σ H fun x H1 => kAt K c i x H1 Q
/-- x.f = y: there already, or the next one (in __init__) -/
def setA (vs : List V) (i : Nat) (y : V) : List V := if i < vs.length then vs.set i y else vs ++ [y]
def kSt (K : PySem.W.Frag) (c : Cd) (i : Nat) (x y : V) (H : Hp) (N : Hp → Prop) : Prop := ∃ a dx vs, x = .ref a ∧ H a = some (c.ob K dx vs) ∧ i ≤ vs.length ∧ N (upd H a (c.ob K dx (setA vs i y)))
def sSt (K : PySem.W.Frag) (c : Cd) (i : Nat) (ta tv : TE) : TS := fun D σ H => tv σ H fun y H1 => ta σ H1 fun x H2 => kSt K c i x y H2 (D.nx σ)
section
variable {X : Cx} {e o value : Expr} {f : Str} {pos pos' : Pos} {ta tv : TE}
theorem pe_at {c : Cd} {i : Nat} (ok : CdOk X.K c) (he : PE X e ta) (hi : c.names[i]? = some f := by rfl) (hb : attributeBase e f X.env (eval e X.env) = eval e X.env := by rfl) : PE X (.Attribute e f pos) (tAt X.K c i ta) := by
  refine ⟨fun pins s σ H Q I h => ?_⟩
  refine attr_of hb (thn (he.run pins s σ H _ I h) fun u s1 ⟨x, H1, I1, rx, a, dx, vs, v, ex, ea, l, q⟩ => ?_)
  subst ex
  obtain rfl : u = Value.ref a := rx
  exact getattr_ok I1 ea ok.cls (ok.na _ _ hi) (lookup_zip ok.nd hi l) fun u' s2 I2 ru => ⟨v, H1, I2, ru, q⟩
theorem ps_at {c : Cd} {i : Nat} (ok : CdOk X.K c) (ha : PE X o ta) (hv : PE X value tv) (hi : c.names[i]? = some f := by rfl) (hs : swapsWith value (some (.Attribute o f pos')) pos.line X.env = pure false := by rfl) : PS X (.Assign [.Attribute o f pos'] value pos) (sSt X.K c i ta tv) := by
  refine ⟨fun pins s σ H D I h => ?_⟩
  refine plainObj_wpAny_Assign_Attribute (thn (hv.run pins s σ H _ I h) fun u s1 ⟨y, H1, I1, ry, q⟩ => thn (ha.run pins s1 σ H1 _ I1 q) fun ov s2 ⟨x, H2, I2, rx, a, dx, vs, ex, ea, l, q2⟩ => ?_) hs
  subst ex
  obtain rfl : ov = Value.ref a := rx
  have hl : (c.names.zip vs).length < 1000 := Nat.lt_of_le_of_lt (by rw [List.length_zip]; exact Nat.min_le_left _ _) ok.len
  have e : putF f y (c.names.zip vs) = c.names.zip (setA vs i y) := by
    unfold setA
    by_cases h : i < vs.length
    · rw [if_pos h, putF_zip ok.nd hi h]
    · have e : i = vs.length := by omega
      rw [if_neg h, putF_zip_new ok.nd (by rw [← e]; exact hi)]
  refine setattr_ok I2 ea ok.cls (ok.na _ _ hi) hl ry fun s3 I3 => ⟨σ, _, ?_, q2⟩
  rw [e] at I3
  exact I3
end
/-! ### defs, methods, classes called -/
def tCal (sp : Sp) (t : TA) : TE := fun σ H Q => t σ H fun vs H1 => sp vs H1 Q E0
def kMet (K : PySem.W.Frag) (c : Cd) (sp : Sp) (t : TA) (x : V) (σ : L2.St) (H : Hp) (Q : VK) : Prop := ∃ a dx vs, x = .ref a ∧ H a = some (c.ob K dx vs) ∧ t σ H fun us H2 => sp (x :: us) H2 Q E0
def tMet (K : PySem.W.Frag) (c : Cd) (sp : Sp) (ta : TE) (t : TA) : TE := fun σ H Q => ta σ H fun x H1 => kMet K c sp t x σ H1 Q
structure Cal (P : Program) (w : World) (K : PySem.W.Frag) (mg : Str → Option Value) (base : Heap) (k : Nat) (x : Str) (ps : List Str) (sp : Sp) : Prop where
  ex : ∃ f fd, mg x = some (.ref f) ∧ FnOk P w K mg base CX0 k f fd ps sp ∧ Binds K fd ps [] ∧ PySem.W.keepIn K (.ref f) = true
structure Met (P : Program) (w : World) (K : PySem.W.Frag) (mg : Str → Option Value) (base : Heap) (k : Nat) (c : Cd) (m : Str) (ps : List Str) (sp : Sp) : Prop where
  ex : ∃ f fd, Meth K (c.C K) m f ∧ FnOk P w K mg base CX0 k f fd ps sp ∧ Binds K fd ps []
structure Mak (P : Program) (w : World) (K : PySem.W.Frag) (mg : Str → Option Value) (base : Heap) (k : Nat) (c : Cd) (ps : List Str) (sp : Sp) : Prop where
  ex : ∃ f fd, mg c.nm = some (.ref (c.C K)) ∧ Mk K (c.C K) f ∧ FnOk P w K mg base CX0 k f fd ps sp ∧ Binds K fd ps []
section
variable {X : Cx} {x m : Str} {p pos apos : Pos} {e o : Expr} {es : List Expr} {t : TA} {ta : TE} {k j : Nat} {ps : List Str} {sp : Sp}
theorem pe_cal (G : Cal X.prog X.w X.K X.mg X.base k x ps sp) (hr : Room j X.A) (ha : PA X (e :: es) t) (hj : k ≤ j := by decide) (hg : Gl X x := by rfl) (hdb : (x == ("__debug__" : Str)) = false := by decide)
    (he : starEach (e :: es) X.env = (false, eval e X.env) :: starEach es X.env := by rfl) (hpl : (backTo pos (starEach es X.env)).any (·.1) = false := by rfl) : PE X (.Call (.Name x p) (e :: es) [] pos) (tCal sp t) := by
  obtain ⟨f, fd, hm, F, b, kp⟩ := G.ex
  have h : PE X (.Call (.Name x p) (e :: es) [] pos) (tCall sp [] E0 t) := pe_call F (hr.mono hj) hg hm kp b .nil pass0 ha hdb he hpl
  have q : tCall sp [] E0 t = tCal sp t := by
    funext σ H Q
    show (t σ H fun vs H1 => sp (vs ++ []) H1 Q E0) = t σ H fun vs H1 => sp vs H1 Q E0
    simp only [List.append_nil]
  rw [← q]; exact h
theorem pe_met {c : Cd} (ok : CdOk X.K c) (G : Met X.prog X.w X.K X.mg X.base k c m ps sp) (hr : Room j X.A) (hmn : m ∉ c.names) (he : PE X o ta) (ha : PA X (e :: es) t) (hj : k ≤ j := by decide)
    (hst : starEach (e :: es) X.env = (false, eval e X.env) :: starEach es X.env := by rfl) (hpl : (backTo pos (starEach es X.env)).any (·.1) = false := by rfl) {pl : Sem Bool}
    (ht : eval (.Call (.Attribute o m apos) (e :: es) [] pos) X.env = (do
      let ov ← eval o X.env
      standAt apos.atName
      let (f, first) ← holding [ov] (getMethod ov m pl)
      callWith pos f first (backTo pos (starEach (e :: es) X.env)) (backToKw pos (keywordEach [] X.env))) := by rfl) :
    PE X (.Call (.Attribute o m apos) (e :: es) [] pos) (tMet X.K c sp ta t) := by
  obtain ⟨f, fd, hm, F, b⟩ := G.ex
  refine ⟨fun pins s σ H Q I h => ?_⟩
  refine PySem.W.methodCall_KW (pl := pl) (thn (he.run pins s σ H _ I h) fun u s1 ⟨x, H1, I1, rx, a, dx, fs, ex, ea, q⟩ => ?_) ht
  subst ex
  obtain rfl : u = Value.ref a := rx
  refine getmeth_ok I1 ea ok.cls hm (lookup_zip_none hmn) ?_
  refine PySem.W.callWith_K (first := [.ref a]) (h₀ := X.base) I.ok.mod.kin hm.kp (thn (ha.run pos pins s1 σ H1 _ I1 q) fun us s2 ⟨vs, H2, I2, r, q2⟩ => ⟨I2.kIn, ?_⟩) hst hpl
  exact run_fn (us := .ref a :: us) (vs := .ref a :: vs) F (hr.mono hj) b (.nil) pass0 I2 (.cons rfl r) (by rw [List.append_nil]; exact q2)
theorem pe_met0 {c : Cd} (ok : CdOk X.K c) (G : Met X.prog X.w X.K X.mg X.base k c m ps sp) (hr : Room j X.A) (hmn : m ∉ c.names) (he : PE X o ta) (hj : k ≤ j := by decide) {pl : Sem Bool}
    (ht : eval (.Call (.Attribute o m apos) [] [] pos) X.env = (do
      let ov ← eval o X.env
      standAt apos.atName
      let (f, first) ← holding [ov] (getMethod ov m pl)
      callWith pos f first (backTo pos (starEach [] X.env)) (backToKw pos (keywordEach [] X.env))) := by rfl) :
    PE X (.Call (.Attribute o m apos) [] [] pos) (tMet X.K c sp ta tNil) := by
  obtain ⟨f, fd, hm, F, b⟩ := G.ex
  refine ⟨fun pins s σ H Q I h => ?_⟩
  refine PySem.W.methodCall_KW (pl := pl) (thn (he.run pins s σ H _ I h) fun u s1 ⟨x, H1, I1, rx, a, dx, fs, ex, ea, q⟩ => ?_) ht
  subst ex
  obtain rfl : u = Value.ref a := rx
  refine getmeth_ok I1 ea ok.cls hm (lookup_zip_none hmn) ?_
  refine PySem.W.callWith_K0 (first := [.ref a]) I1.kIn hm.kp ?_
  exact run_fn (us := [.ref a]) (vs := [.ref a]) F (hr.mono hj) b (.nil) pass0 I1 (.cons rfl .nil) (by rw [List.append_nil]; exact q)
/-- C(..) -/
def tMak (K : PySem.W.Frag) (c : Cd) (sp : Sp) (t : TA) : TE := fun σ H Q => t σ H fun vs H1 => ∀ x dx, H1 x = none → H1 dx = none → dx ≠ x → sp (.ref x :: vs) (upd (upd H1 dx (.own x)) x (c.ob K dx [])) (fun v H2 => v = .non ∧ Q (.ref x) H2) E0
theorem zip_nil (ns : List Str) : ns.zip ([] : List V) = [] := by cases ns <;> rfl
theorem pe_mak {c : Cd} (G : Mak X.prog X.w X.K X.mg X.base k c ps sp) (hr : Room j X.A) (ha : PA X (e :: es) t) (hx : c.nm = x := by rfl) (hj : k + 1 ≤ j := by decide) (hg : Gl X x := by rfl) (hdb : (x == ("__debug__" : Str)) = false := by decide)
    (he : starEach (e :: es) X.env = (false, eval e X.env) :: starEach es X.env := by rfl) (hpl : (backTo pos (starEach es X.env)).any (·.1) = false := by rfl) : PE X (.Call (.Name x p) (e :: es) [] pos) (tMak X.K c sp t) := by
  obtain ⟨f, fd, hm, M, F, b⟩ := G.ex
  subst hx
  have h : PE X (.Call (.Name c.nm p) (e :: es) [] pos) (tMake (c.C X.K) sp [] E0 t) := pe_make M F (hr.mono hj) hg hm b .nil pass0 ha hdb he hpl
  have q : tMake (c.C X.K) sp [] E0 t = tMak X.K c sp t := by
    funext σ H Q
    unfold tMake tMak Cd.ob
    simp only [List.append_nil, zip_nil]
  rw [← q]; exact h
end
/-! ### a def by its body -/
section
variable {P : Program} {w : World} {K : PySem.W.Frag} {mg : Str → Option Value} {base : Heap} {x qual : Str} {st : Stmt} {f : Addr} {N ps : List Str} {k : Nat} {sp : Sp}
abbrev Bd0 (x qual : Str) (st : Stmt) (ps : List Str) : Prop := ∀ (kV doc pm : Value) (an : Option Addr) (cdv ct : Value) (us : List Value), us.length = ps.length →
  bindArgs (PySem.W.fnOf x qual (defArgs st) (defBody st) (defScope st) .none kV doc pm an cdv ct) ⟨us, []⟩ = pure (ps.zip us)
abbrev Body (P : Program) (w : World) (K : PySem.W.Frag) (mg : Str → Option Value) (base : Heap) (qual : Str) (st : Stmt) (f : Addr) (N : List Str) (k : Nat) (sp : Sp) : Prop :=
  ∀ (cdv : Value) (A : Around) (outer : List Env) (s : Shared) (H : Hp) (vs : List V) (Q : VK) (E : XK), Room k (A.deeper (envOfC qual (defScope st) s.heap.objs.size f cdv)) → sp vs H Q E →
      ∃ t, PSs (cxOf CX0 P w K mg base N qual (defScope st) f cdv A outer s H E).nox (defBody st) t ∧ t ⟨fun _ H' => Q .non H', Q, fun _ _ => False, fun _ _ => False⟩ (start N vs) H
theorem mk_fn {fd : FuncData} (F : FunD K x qual (defArgs st) (defBody st) (defScope st) [] [] f fd) (S : FnScope N ps (defScope st)) (len : ∀ vs H Q E, sp vs H Q E → vs.length = ps.length)
    (hb : Body P w K mg base qual st f N k sp) : FnOk P w K mg base CX0 (k + 1) f fd ps sp := by
  refine F.ok S len fun cdv A outer s H vs Q E hr h => ?_
  obtain ⟨t, h1, h2⟩ := hb cdv A outer s H vs Q E hr h
  exact ⟨t, h1.nox, h2⟩
theorem mk_cal (F : ∃ fd, FunD K x qual (defArgs st) (defBody st) (defScope st) [] [] f fd) (g : mg x = some (.ref f)) (S : FnScope N ps (defScope st)) (bd : Bd0 x qual st ps) (len : ∀ vs H Q E, sp vs H Q E → vs.length = ps.length)
    (hb : Body P w K mg base qual st f N k sp) : Cal P w K mg base (k + 1) x ps sp := by
  obtain ⟨fd, F⟩ := F
  exact ⟨f, fd, g, mk_fn F S len hb, F.bindsN bd, F.kp⟩
theorem mk_met {c : Cd} (F : ∃ fd, FunD K x qual (defArgs st) (defBody st) (defScope st) [] [] f fd) (g : Meth K (c.C K) x f) (S : FnScope N ps (defScope st)) (bd : Bd0 x qual st ps) (len : ∀ vs H Q E, sp vs H Q E → vs.length = ps.length)
    (hb : Body P w K mg base qual st f N k sp) : Met P w K mg base (k + 1) c x ps sp := by
  obtain ⟨fd, F⟩ := F
  exact ⟨f, fd, g, mk_fn F S len hb, F.bindsN bd⟩
theorem mk_mak {c : Cd} (F : ∃ fd, FunD K x qual (defArgs st) (defBody st) (defScope st) [] [] f fd) (g : mg c.nm = some (.ref (c.C K))) (M : Mk K (c.C K) f) (S : FnScope N ps (defScope st)) (bd : Bd0 x qual st ps) (len : ∀ vs H Q E, sp vs H Q E → vs.length = ps.length)
    (hb : Body P w K mg base qual st f N k sp) : Mak P w K mg base (k + 1) c ps sp := by
  obtain ⟨fd, F⟩ := F
  exact ⟨f, fd, g, M, mk_fn F S len hb, F.bindsN bd⟩
end
end AL
/-! A3 -/
namespace AL
open PySem PySem.Spec PyProof.Rows L2
/-! ### the reading, step by step -/
inductive SetR : L2.St → Nat → V → L2.St → Prop where
  | z {y v r} : SetR (y :: r) 0 v (some v :: r)
  | s {y v r n r1} (h : SetR r n v r1) : SetR (y :: r) (n + 1) v (y :: r1)
theorem SetR.eq {σ σ1 : L2.St} {i : Nat} {v : V} (h : SetR σ i v σ1) : σ.set i (some v) = σ1 := by
  induction h with
  | z => rfl
  | s _ ih => rw [List.set_cons_succ, ih]
/-- a list with one more, without its last -/
inductive AppR : List V → V → List V → Prop where
  | z {y} : AppR [] y [y]
  | s {x r y r1} (h : AppR r y r1) : AppR (x :: r) y (x :: r1)
  | any {xs y} : AppR xs y (xs ++ [y])
theorem AppR.eq {xs ys : List V} {y : V} (h : AppR xs y ys) : xs ++ [y] = ys := by
  induction h with
  | z => rfl
  | s _ ih => rw [List.cons_append, ih]
  | any => rfl
inductive PopR : List V → List V → V → Prop where
  | z {y} : PopR [y] [] y
  | s {x r y r1} (h : PopR r r1 y) : PopR (x :: r) (x :: r1) y
  | any {xs y} : PopR (xs ++ [y]) xs y
theorem PopR.eq {xs ys : List V} {y : V} (h : PopR xs ys y) : xs = ys ++ [y] := by
  induction h with
  | z => rfl
  | s _ ih => rw [List.cons_append, ih]
  | any => rfl
inductive SetAR : List V → Nat → V → List V → Prop where
  | nil {y} : SetAR [] 0 y [y]
  | here {x r y} : SetAR (x :: r) 0 y (y :: r)
  | next {x r i y r1} (h : SetAR r i y r1) : SetAR (x :: r) (i + 1) y (x :: r1)
theorem SetAR.eq {xs ys : List V} {i : Nat} {y : V} (h : SetAR xs i y ys) : i ≤ xs.length ∧ setA xs i y = ys := by
  induction h with
  | nil => exact ⟨Nat.le_refl _, rfl⟩
  | here => exact ⟨Nat.zero_le _, by simp [setA]⟩
  | @next x r i y r1 h ih =>
    obtain ⟨h1, h2⟩ := ih
    refine ⟨by rw [List.length_cons]; omega, ?_⟩
    unfold setA at h2 ⊢
    by_cases hi : i < r.length
    · rw [if_pos hi] at h2
      rw [if_pos (by rw [List.length_cons]; omega), List.set_cons_succ, h2]
    · rw [if_neg hi] at h2
      rw [if_neg (by rw [List.length_cons]; omega), List.cons_append, h2]
section
variable {N B C : L2.St → Hp → Prop} {R : VK} {σ σ1 : L2.St} {H : Hp} {t u : TS} {te ta tb tv tl : TE} {g : TG} {tc td : TT} {Q : VK} {QB : Bool → Hp → Prop} {v x y z : V} {i n : Nat} {b : Bool} {K : PySem.W.Frag}
variable {Z : Hp} {L L1 : Lx} {a p q : Addr} {xs ys : List V} {o : HO}
theorem w_seq (h : t ⟨u ⟨N, R, B, C⟩, R, B, C⟩ σ H) : tSeq t u ⟨N, R, B, C⟩ σ H := h
theorem w_next (h : N σ H) : tNext ⟨N, R, B, C⟩ σ H := h
theorem w_brk (h : B σ H) : tBreak ⟨N, R, B, C⟩ σ H := h
theorem w_cont (h : C σ H) : tCont ⟨N, R, B, C⟩ σ H := h
theorem w_asg (h : te σ H fun x H1 => g x σ H1 N) : tAsg te g ⟨N, R, B, C⟩ σ H := h
theorem w_gname (hs : SetR σ i v σ1) (h : N σ1 H) : gName i v σ H N := by
  show N (σ.set i (some v)) H
  rw [hs.eq]; exact h
theorem w_gtup {tg : TGs} {k : Nat} (S : SH Z L H) (h : In Z L a (.tup xs)) (hl : xs.length = k) (q : tg xs σ H N) : gTup K k tg (.ref a) σ H N := ⟨a, xs, rfl, SqT.of (S.at h), hl, q⟩
theorem w_gunl {tg : TGs} {k : Nat} (S : SH Z L H) (h : In Z L a (.lst xs)) (hl : xs.length = k) (q : tg xs σ H N) : gUnl K k tg (.ref a) σ H N := ⟨a, xs, rfl, SqL.of (S.at h), hl, q⟩
theorem w_gcons {tg : TG} {tgs : TGs} (h : tg v σ H fun σ1 H1 => tgs xs σ1 H1 N) : gCons tg tgs (v :: xs) σ H N := ⟨v, xs, rfl, h⟩
theorem w_gnil (h : N σ H) : gNil [] σ H N := ⟨rfl, h⟩
theorem w_drop (h : te σ H fun _ H1 => N σ H1) : tDrop te ⟨N, R, B, C⟩ σ H := h
theorem w_ret (h : te σ H R) : tRet te ⟨N, R, B, C⟩ σ H := h
theorem w_retN (h : R .non H) : tRetN ⟨N, R, B, C⟩ σ H := h
theorem w_if (h : tc σ H fun b H1 => if b = true then t ⟨N, R, B, C⟩ σ H1 else u ⟨N, R, B, C⟩ σ H1) : tIfS tc t u ⟨N, R, B, C⟩ σ H := h
theorem if_T {A1 A2 : Prop} (h : b = true) (q : A1) : if b = true then A1 else A2 := by rw [if_pos h]; exact q
theorem if_F {A1 A2 : Prop} (h : b = false) (q : A2) : if b = true then A1 else A2 := by rw [if_neg (by rw [h]; exact Bool.false_ne_true)]; exact q
theorem w_par {i j : Nat} {t2 : TA} {σ2 : L2.St} (h : t2 σ H fun vs H1 => ∃ v w, vs = [v, w] ∧ N ((σ.set i (some v)).set j (some w)) H1) : tPar i j t2 ⟨N, R, B, C⟩ σ H := h
/-! tests -/
def kB (x : V) (H : Hp) (Q : Bool → Hp → Prop) : Prop := ∃ k, x = .bl k ∧ Q k H
theorem w_test (h : te σ H fun x H1 => kB x H1 QB) : tTest te σ H QB := h
theorem w_tB (h : te σ H fun x H1 => kB x H1 QB) : tB te σ H QB := h
theorem k_b (q : QB b H) : kB (.bl b) H QB := ⟨b, rfl, q⟩
theorem w_and (h : tc σ H fun c H1 => if c = true then td σ H1 QB else QB false H1) : tAnd tc td σ H QB := h
theorem w_or (h : tc σ H fun c H1 => if c = true then QB true H1 else td σ H1 QB) : tOr tc td σ H QB := h
theorem w_not (h : tc σ H fun c H1 => QB (!c) H1) : tNot tc σ H QB := h
theorem w_andV (h : ta σ H fun x H1 => ∃ c, x = .bl c ∧ if c = true then tb σ H1 Q else Q (.bl false) H1) : tAndV ta tb σ H Q := h
theorem k_andV {c : Bool} {A1 : Bool → Prop} (q : A1 c) : ∃ c', V.bl c = .bl c' ∧ A1 c' := ⟨c, rfl, q⟩
theorem w_notV (h : ta σ H fun x H1 => ∃ c, x = .bl c ∧ Q (.bl (!c)) H1) : tNotV ta σ H Q := h
def tTruth (K : PySem.W.Frag) (ta : TE) : TT := fun σ H Q => ta σ H fun x H1 => ∃ k, TruV K x H1 k ∧ Q k H1
theorem w_truth (h : ta σ H fun x H1 => ∃ k, TruV K x H1 k ∧ QB k H1) : tTruth K ta σ H QB := h
theorem k_truB (q : QB b H) : ∃ k, TruV K (.bl b) H k ∧ QB k H := ⟨b, rfl, q⟩
theorem w_ifx {tif : TT} (h : tif σ H fun c H1 => if c = true then ta σ H1 Q else tb σ H1 Q) : (fun σ H Q => tif σ H fun c H1 => if c = true then ta σ H1 Q else tb σ H1 Q : TE) σ H Q := h
/-! expressions -/
theorem w_var (h : σ[i]? = some (some v)) (q : Q v H) : tVar i σ H Q := ⟨v, h, q⟩
theorem w_c (q : Q v H) : tC v σ H Q := q
theorem w_op {r : R2} (h : ta σ H fun x H1 => tb σ H1 fun y H2 => r x y H2 Q) : tOp r ta tb σ H Q := h
theorem w_un {r : V → Hp → VK → Prop} (h : ta σ H fun x H1 => r x H1 Q) : tUn r ta σ H Q := h
theorem k_I0 {g : Int → Int → V} {i j : Int} (q : Q (g i j) H) : rI0 g (.int i) (.int j) H Q := ⟨i, j, rfl, rfl, q⟩
theorem k_I {cc : Int → Int → Prop} {g : Int → Int → V} {i j : Int} (hc : cc i j) (q : Q (g i j) H) : rI cc g (.int i) (.int j) H Q := ⟨i, j, rfl, rfl, hc, q⟩
theorem k_U {g : Int → V} {i : Int} (q : Q (g i) H) : rU g (.int i) H Q := ⟨i, rfl, q⟩
theorem k_eq (hs : scal x y = true) (q : Q (.bl (decide (x = y))) H) : rEq x y H Q := ⟨hs, q⟩
theorem k_ne (hs : scal x y = true) (q : Q (.bl (!decide (x = y))) H) : rNe x y H Q := ⟨hs, q⟩
def rIsNon : R2 := fun x y H Q => y = .non ∧ Q (.bl (decide (x = .non))) H
def rNotNon : R2 := fun x y H Q => y = .non ∧ Q (.bl (!decide (x = .non))) H
theorem op_isNon {X : Cx} : OpR X (compareOp .Is) rIsNon := op_isN
theorem op_notNon {X : Cx} : OpR X (compareOp .IsNot) rNotNon := op_notN
theorem k_isNon (q : Q (.bl (decide (x = .non))) H) : rIsNon x .non H Q := ⟨rfl, q⟩
theorem k_notNon (q : Q (.bl (!decide (x = .non))) H) : rNotNon x .non H Q := ⟨rfl, q⟩
/-- a new thing -/
def kNew (n : Nat) (ob : HO) (H : Hp) (Q : VK) : Prop := n ≤ sizeLine ∧ ∀ p, H p = none → Q (.ref p) (upd H p ob)
theorem w_tup {t2 : TA} (h : t2 σ H fun xs H1 => kNew xs.length (.tup xs) H1 Q) : tTup t2 σ H Q := h
theorem w_lst {t2 : TA} (h : t2 σ H fun xs H1 => kNew xs.length (.lst xs) H1 Q) : tLst t2 σ H Q := h
theorem w_tcons {te : TE} {tr : TA} {QL : List V → Hp → Prop} (h : te σ H fun x H1 => tr σ H1 fun xs H2 => QL (x :: xs) H2) : tCons te tr σ H QL := h
theorem w_tnil {QL : List V → Hp → Prop} (h : QL [] H) : tNil σ H QL := h
theorem k_new {ob : HO} (S : SH Z L H) (hl : n ≤ sizeLine) (q : ∀ p H1, SH Z ((p, ob) :: L) H1 → Q (.ref p) H1) : kNew n ob H Q := ⟨hl, fun p hp => q p _ (S.new hp)⟩
/-! fields -/
theorem w_at {c : Cd} (h : ta σ H fun x H1 => kAt K c i x H1 Q) : tAt K c i ta σ H Q := h
theorem k_at {c : Cd} {dx : Addr} (S : SH Z L H) (h : In Z L a (c.ob K dx xs)) (hv : xs[i]? = some v) (q : Q v H) : kAt K c i (.ref a) H Q := ⟨a, dx, xs, v, rfl, S.at h, hv, q⟩
theorem w_st {c : Cd} (h : tv σ H fun y H1 => ta σ H1 fun x H2 => kSt K c i x y H2 (N σ)) : sSt K c i ta tv ⟨N, R, B, C⟩ σ H := h
theorem k_st {c : Cd} {dx : Addr} {NN : Hp → Prop} (S : SH Z L H) (h : (a, c.ob K dx xs) ∈ L) (he : SetAR xs i y ys) (hw : Wr L a (c.ob K dx ys) L1) (q : ∀ H1, SH Z L1 H1 → NN H1) : kSt K c i (.ref a) y H NN :=
  ⟨a, dx, xs, rfl, S.l _ _ h, he.eq.1, by rw [he.eq.2]; exact q _ (S.wr hw)⟩
theorem w_cal {sp : Sp} {t2 : TA} (h : t2 σ H fun vs H1 => sp vs H1 Q E0) : tCal sp t2 σ H Q := h
theorem w_met {c : Cd} {sp : Sp} {t2 : TA} (h : ta σ H fun x H1 => kMet K c sp t2 x σ H1 Q) : tMet K c sp ta t2 σ H Q := h
theorem k_met {c : Cd} {sp : Sp} {t2 : TA} {dx : Addr} (S : SH Z L H) (h : In Z L a (c.ob K dx xs)) (q : t2 σ H fun us H2 => sp (.ref a :: us) H2 Q E0) : kMet K c sp t2 (.ref a) σ H Q := ⟨a, dx, xs, rfl, S.at h, q⟩
def kMak (K : PySem.W.Frag) (c : Cd) (sp : Sp) (vs : List V) (H1 : Hp) (Q : VK) : Prop := ∀ x dx, H1 x = none → H1 dx = none → dx ≠ x → sp (.ref x :: vs) (upd (upd H1 dx (.own x)) x (c.ob K dx [])) (fun v H2 => v = .non ∧ Q (.ref x) H2) E0
theorem w_mak {c : Cd} {sp : Sp} {t2 : TA} (h : t2 σ H fun vs H1 => kMak K c sp vs H1 Q) : tMak K c sp t2 σ H Q := h
theorem k_mak {c : Cd} {sp : Sp} {vs : List V} (S : SH Z L H) (q : ∀ x dx H1, SH Z ((x, c.ob K dx []) :: L) H1 → sp (.ref x :: vs) H1 (fun v H2 => v = .non ∧ Q (.ref x) H2) E0) : kMak K c sp vs H Q := fun x dx hx hd ne =>
  q x dx _ ((S.unt hd).new (by rw [upd_ne ne.symm]; exact hx))
/-! items, slices -/
theorem k_ixL {j : Int} (S : SH Z L H) (h : In Z L a (.lst xs)) (hv : atI xs j = some v) (q : Q v H) : rIxL K (.ref a) (.int j) H Q := ⟨a, xs, j, v, rfl, rfl, SqL.of (S.at h), hv, q⟩
theorem k_ixT {j : Int} (S : SH Z L H) (h : In Z L a (.tup xs)) (hv : atI xs j = some v) (q : Q v H) : rIxT K (.ref a) (.int j) H Q := ⟨a, xs, j, v, rfl, rfl, SqT.of (S.at h), hv, q⟩
/-- a list's or a tuple's item -/
def rIxA (K : PySem.W.Frag) : R2 := fun x y H Q => rIxL K x y H Q ∨ rIxT K x y H Q
theorem ix_any {X : Cx} : IxR X (rIxA X.K) := ix_list.or ix_tup
theorem k_ixA_l {j : Int} (S : SH Z L H) (h : In Z L a (.lst xs)) (hv : atI xs j = some v) (q : Q v H) : rIxA K (.ref a) (.int j) H Q := .inl (k_ixL S h hv q)
theorem k_ixA_t {j : Int} (S : SH Z L H) (h : In Z L a (.tup xs)) (hv : atI xs j = some v) (q : Q v H) : rIxA K (.ref a) (.int j) H Q := .inr (k_ixT S h hv q)
theorem w_sl {r : V → Option Int → Option Int → Hp → VK → Prop} {to1 to2 : TO} (h : te σ H fun x H1 => to1 σ H1 fun l H2 => to2 σ H2 fun u H3 => r x l u H3 Q) : tSl r te to1 to2 σ H Q := h
theorem w_nopart {QO : Option Int → Hp → Prop} (h : QO none H) : tNoPart σ H QO := h
def kPart (x : V) (H : Hp) (QO : Option Int → Hp → Prop) : Prop := ∃ i, x = .int i ∧ QO (some i) H
theorem w_part {QO : Option Int → Hp → Prop} (h : te σ H fun x H1 => kPart x H1 QO) : tPart te σ H QO := h
theorem k_part {QO : Option Int → Hp → Prop} {j : Int} (h : QO (some j) H) : kPart (.int j) H QO := ⟨j, rfl, h⟩
theorem k_slL {lo hi : Option Int} (S : SH Z L H) (h : In Z L a (.lst xs)) (he : cutV xs lo hi = ys) (q : ∀ p H1, SH Z ((p, .lst ys) :: L) H1 → Q (.ref p) H1) : rSlL K (.ref a) lo hi H Q :=
  ⟨a, xs, rfl, SqL.of (S.at h), fun p hp => by rw [he]; exact q p _ (S.new hp)⟩
theorem k_slT {lo hi : Option Int} (S : SH Z L H) (h : In Z L a (.tup xs)) (hn : ¬ (HT.sIx xs.length 0 lo = 0 ∧ HT.sIx xs.length xs.length hi = xs.length)) (he : cutV xs lo hi = ys) (q : ∀ p H1, SH Z ((p, .tup ys) :: L) H1 → Q (.ref p) H1) : rSlT K (.ref a) lo hi H Q :=
  ⟨a, xs, rfl, SqT.of (S.at h), hn, fun p hp => by rw [he]; exact q p _ (S.new hp)⟩
/-- a list's or a tuple's slice -/
def rSlA (K : PySem.W.Frag) : V → Option Int → Option Int → Hp → VK → Prop := fun x lo hi H Q => rSlL K x lo hi H Q ∨ rSlT K x lo hi H Q
theorem sl_any {X : Cx} : SlR X (rSlA X.K) := sl_list.or sl_tup
/-! in -/
theorem k_in {neg : Bool} (S : SH Z L H) (h : In Z L a (.tup xs)) (hx : flatV x = true) (hs : xs.all flatV = true) (q : Q (.bl (if neg then !inV x xs else inV x xs)) H) : rIn K neg x (.ref a) H Q := ⟨a, xs, rfl, .inr (SqT.of (S.at h)), hx, hs, q⟩
theorem k_inL {neg : Bool} (S : SH Z L H) (h : In Z L a (.lst xs)) (hx : flatV x = true) (hs : xs.all flatV = true) (q : Q (.bl (if neg then !inV x xs else inV x xs)) H) : rIn K neg x (.ref a) H Q := ⟨a, xs, rfl, .inl (SqL.of (S.at h)), hx, hs, q⟩
/-! + -/
theorem k_catT (S : SH Z L H) (h : In Z L a (.tup xs)) (h2 : In Z L p (.tup ys)) (hn : xs ≠ []) (hm : ys ≠ []) (hl : xs.length + ys.length ≤ sizeLine) {zs : List V} (he : xs ++ ys = zs) (q : ∀ p1 H1, SH Z ((p1, .tup zs) :: L) H1 → Q (.ref p1) H1) : rCatT K (.ref a) (.ref p) H Q :=
  ⟨a, p, xs, ys, rfl, rfl, SqT.of (S.at h), SqT.of (S.at h2), hn, hl, fun e => absurd e hm, fun _ p1 hp => by rw [he]; exact q p1 _ (S.new hp)⟩
theorem k_catL (S : SH Z L H) (h : In Z L a (.lst xs)) (h2 : In Z L p (.lst ys)) (hl : xs.length + ys.length ≤ sizeLine) {zs : List V} (he : xs ++ ys = zs) (q : ∀ p1 H1, SH Z ((p1, .lst zs) :: L) H1 → Q (.ref p1) H1) : rCat (.ref a) (.ref p) H Q :=
  ⟨a, p, xs, ys, rfl, rfl, S.at h, S.at h2, hl, fun p1 hp => by rw [he]; exact q p1 _ (S.new hp)⟩
def rAddS : R2 := fun x y H Q => ∃ i j, x = .str i ∧ y = .str j ∧ i.length + j.length ≤ sizeLine ∧ Q (.str (i ++ j)) H
theorem op_addS {X : Cx} : OpR X (binaryOp .Add) rAddS := op_add_str
theorem k_rep {j : Int} (S : SH Z L H) (h : In Z L a (.lst xs)) (h1 : -(2 ^ 63) ≤ j) (h2 : j < 2 ^ 63) (hl : xs.length * j.toNat ≤ sizeLine) (q : ∀ p1 H1, SH Z ((p1, .lst (List.replicate j.toNat xs).flatten) :: L) H1 → Q (.ref p1) H1) : rRep (.ref a) (.int j) H Q :=
  ⟨a, j, xs, rfl, rfl, S.at h, h1, h2, hl, fun p1 hp => q p1 _ (S.new hp)⟩
/-! built-ins -/
theorem w_cb {r : List V → Hp → VK → Prop} {t2 : TA} (h : t2 σ H fun vs H1 => r vs H1 Q) : tCB r t2 σ H Q := h
def rLenA : List V → Hp → VK → Prop := fun xs H Q => ∃ a n, xs = [.ref a] ∧ ((∃ ys, H a = some (.lst ys) ∧ n = ys.length) ∨ (∃ ys, H a = some (.tup ys) ∧ n = ys.length) ∨ (∃ kvs, H a = some (.dK kvs) ∧ n = kvs.length)) ∧ Q (.int (n : Nat)) H
theorem call_lenA {X : Cx} : CallR X (.builtin "len") rLenA := by
  intro pins s σ H xs us Q I r h
  obtain ⟨a, n, rfl, h, q⟩ := h
  rcases h with ⟨ys, e, rfl⟩ | ⟨ys, e, rfl⟩ | ⟨ys, e, rfl⟩
  · exact call_len_seq pins s σ H _ us Q I r ⟨a, ys, rfl, .inl (SqL.of e), q⟩
  · exact call_len_seq pins s σ H _ us Q I r ⟨a, ys, rfl, .inr (SqT.of e), q⟩
  · exact call_lenD pins s σ H _ us Q I r ⟨a, ys, rfl, e, q⟩
theorem k_lenL (S : SH Z L H) (h : In Z L a (.lst xs)) (q : Q (.int (xs.length : Nat)) H) : rLenA [.ref a] H Q := ⟨a, _, rfl, .inl ⟨xs, S.at h, rfl⟩, q⟩
theorem k_lenT (S : SH Z L H) (h : In Z L a (.tup xs)) (q : Q (.int (xs.length : Nat)) H) : rLenA [.ref a] H Q := ⟨a, _, rfl, .inr (.inl ⟨xs, S.at h, rfl⟩), q⟩
theorem k_lenD {kvs : List (Key × V)} (S : SH Z L H) (h : In Z L a (.dK kvs)) (q : Q (.int (kvs.length : Nat)) H) : rLenA [.ref a] H Q := ⟨a, _, rfl, .inr (.inr ⟨kvs, S.at h, rfl⟩), q⟩
/-- list(x), tuple(x), dict(x) of lists, tuples, dicts that stand -/
def rListOf : List V → Hp → VK → Prop := fun xs H Q => ∃ a ys, xs = [.ref a] ∧ (H a = some (.lst ys) ∨ H a = some (.tup ys)) ∧ ∀ l, H l = none → Q (.ref l) (upd H l (.lst ys))
theorem call_listOf {X : Cx} : CallR X (.type "list") rListOf := by
  intro pins s σ H xs us Q I r h
  obtain ⟨a, ys, rfl, h, q⟩ := h
  exact call_list_of pins s σ H _ us Q I r ⟨a, ys, rfl, h.imp SqL.of SqT.of, q⟩
theorem k_listOfL (S : SH Z L H) (h : In Z L a (.lst xs)) (q : ∀ p H1, SH Z ((p, .lst xs) :: L) H1 → Q (.ref p) H1) : rListOf [.ref a] H Q := ⟨a, xs, rfl, .inl (S.at h), fun p hp => q p _ (S.new hp)⟩
theorem k_listOfT (S : SH Z L H) (h : In Z L a (.tup xs)) (q : ∀ p H1, SH Z ((p, .lst xs) :: L) H1 → Q (.ref p) H1) : rListOf [.ref a] H Q := ⟨a, xs, rfl, .inr (S.at h), fun p hp => q p _ (S.new hp)⟩
def rTupleOf : List V → Hp → VK → Prop := fun xs H Q => ∃ a ys, xs = [.ref a] ∧ H a = some (.lst ys) ∧ ∀ l, H l = none → Q (.ref l) (upd H l (.tup ys))
theorem call_tupleOf {X : Cx} : CallR X (.type "tuple") rTupleOf := by
  intro pins s σ H xs us Q I r h
  obtain ⟨a, ys, rfl, h, q⟩ := h
  exact call_tuple_of pins s σ H _ us Q I r ⟨a, ys, rfl, .inl ⟨SqL.of h, q⟩⟩
theorem k_tupleOf (S : SH Z L H) (h : In Z L a (.lst xs)) (q : ∀ p H1, SH Z ((p, .tup xs) :: L) H1 → Q (.ref p) H1) : rTupleOf [.ref a] H Q := ⟨a, xs, rfl, S.at h, fun p hp => q p _ (S.new hp)⟩
def rDictOf : List V → Hp → VK → Prop := fun xs H Q => ∃ a kvs, xs = [.ref a] ∧ H a = some (.dK kvs) ∧ ∀ l, H l = none → Q (.ref l) (upd H l (.dK kvs))
theorem call_dictOf {X : Cx} : CallR X (.type "dict") rDictOf := by
  intro pins s σ H xs us Q I r h
  obtain ⟨a, kvs, rfl, h, q⟩ := h
  obtain ⟨u, rfl, ru⟩ := vals1 r
  cases ru
  exact d_copyOf I (.inl h) fun p s' hp I' => ⟨.ref p, _, I', rfl, q p hp⟩
theorem k_dictOf {kvs : List (Key × V)} (S : SH Z L H) (h : In Z L a (.dK kvs)) (q : ∀ p H1, SH Z ((p, .dK kvs) :: L) H1 → Q (.ref p) H1) : rDictOf [.ref a] H Q := ⟨a, kvs, rfl, S.at h, fun p hp => q p _ (S.new hp)⟩
def rIntB : List V → Hp → VK → Prop := fun xs H Q => (∃ i, xs = [.int i] ∧ Q (.int i) H) ∨ ∃ k, xs = [.bl k] ∧ Q (.int (if k then 1 else 0)) H
theorem call_intB {X : Cx} : CallR X (.type "int") rIntB := call_int1
theorem k_intB (q : Q (.int (if b then 1 else 0)) H) : rIntB [.bl b] H Q := .inr ⟨b, rfl, q⟩
theorem k_isi {cv : V} {tt uu : Value} (hc : ClsV cv uu) (ht : TyX K H x tt) (e : PySem.W.kitOne K tt uu = some b) (q : Q (.bl b) H) : rIsi K [x, cv] H Q := ⟨x, cv, tt, uu, b, rfl, hc, ht, e, q⟩
theorem w_bm {T : String} {r : V → List V → Hp → VK → Prop} {t2 : TA} (h : te σ H fun x H1 => tyV K T x H1 ∧ t2 σ H1 fun xs H2 => r x xs H2 Q) : tBM K T r te t2 σ H Q := h
theorem w_bm0 {T : String} {r : V → List V → Hp → VK → Prop} (h : te σ H fun x H1 => tyV K T x H1 ∧ r x [] H1 Q) : tBM0 K T r te σ H Q := h
theorem k_tyL {A1 : Prop} (S : SH Z L H) (h : In Z L a (.lst xs)) (q : A1) : tyV K "list" (.ref a) H ∧ A1 := ⟨.inl ⟨rfl, _, SqL.of (S.at h)⟩, q⟩
theorem k_app (S : SH Z L H) (h : (a, HO.lst xs) ∈ L) (hl : xs.length < sizeLine) (ha : AppR xs y ys) (hw : Wr L a (.lst ys) L1) (q : ∀ H1, SH Z L1 H1 → Q .non H1) : rAppend (.ref a) [y] H Q := ⟨a, xs, y, rfl, rfl, S.l _ _ h, hl, by rw [ha.eq]; exact q _ (S.wr hw)⟩
theorem k_pop (S : SH Z L H) (h : (a, HO.lst xs) ∈ L) (e : PopR xs ys v) (hw : Wr L a (.lst ys) L1) (q : ∀ H1, SH Z L1 H1 → Q v H1) : rPop (.ref a) [] H Q :=
  ⟨a, xs, v, rfl, rfl, S.l _ _ h, by rw [e.eq]; simp, by rw [e.eq, List.dropLast_concat]; exact q _ (S.wr hw)⟩
theorem k_ext (S : SH Z L H) (h : (a, HO.lst xs) ∈ L) (h2 : In Z L p (.lst ys)) (hl : xs.length + ys.length ≤ sizeLine) (hw : Wr L a (.lst (xs ++ ys)) L1) (q : ∀ H1, SH Z L1 H1 → Q .non H1) : rExtend (.ref a) [.ref p] H Q :=
  ⟨a, p, xs, ys, rfl, rfl, S.l _ _ h, S.at h2, hl, q _ (S.wr hw)⟩
/-! dicts -/
theorem w_dget {td ty : TE} (h : td σ H fun x H1 => ty σ H1 fun y H2 => ∃ a v, x = .ref a ∧ DGet H2 a y (some v) ∧ Q v H2) : tDGet td ty σ H Q := h
theorem k_dgetS {kvs : List (Key × V)} {f : Str} {Q2 : V → Prop} (S : SH Z L H) (h : In Z L a (.dK kvs)) (hv : valV kvs (.inr f) = some v) (q : Q2 v) : ∃ a' v', V.ref a = .ref a' ∧ DGet H a' (.str f) (some v') ∧ Q2 v' :=
  ⟨a, v, rfl, by rw [← hv]; exact DGet.k (k := .inr f) (S.at h), q⟩
def keyOf : V → Key
  | .int i => .inl i
  | .str x => .inr x
  | _ => .inl 0
theorem k_dgetT {kvs : List (List Key × V)} {Q2 : V → Prop} (S : SH Z L H) (h : In Z L a (.dT kvs)) (hk : In Z L p (.tup xs)) (hx : (xs.map keyOf).map kV = xs) (hv : valV kvs (xs.map keyOf) = some v) (q : Q2 v) : ∃ a' v', V.ref a = .ref a' ∧ DGet H a' (.ref p) (some v') ∧ Q2 v' :=
  ⟨a, v, rfl, by rw [← hv]; exact DGet.t (k := xs.map keyOf) (S.at h) (by rw [hx]; exact S.at hk), q⟩
theorem w_dput {td ty : TE} (h : tv σ H fun v H1 => td σ H1 fun x H2 => ty σ H2 fun y H3 => ∃ a H4, x = .ref a ∧ DPut H3 a y v H4 ∧ N σ H4) : sDPut td ty tv ⟨N, R, B, C⟩ σ H := h
theorem k_dputS {kvs : List (Key × V)} {f : Str} {NN : Hp → Prop} (S : SH Z L H) (h : (a, HO.dK kvs) ∈ L) (hl : kvs.length < sizeLine) (hw : Wr L a (.dK (putK kvs (.inr f) v)) L1) (q : ∀ H1, SH Z L1 H1 → NN H1) : ∃ a' H4, V.ref a = .ref a' ∧ DPut H a' (.str f) v H4 ∧ NN H4 :=
  ⟨a, _, rfl, DPut.k (k := .inr f) (S.l _ _ h) hl, q _ (S.wr hw)⟩
theorem k_dputT {kvs : List (List Key × V)} {NN : Hp → Prop} (S : SH Z L H) (h : (a, HO.dT kvs) ∈ L) (hk : In Z L p (.tup xs)) (hx : (xs.map keyOf).map kV = xs) (hl : kvs.length < sizeLine) (hw : Wr L a (.dT (putK kvs (xs.map keyOf) v)) L1) (q : ∀ H1, SH Z L1 H1 → NN H1) : ∃ a' H4, V.ref a = .ref a' ∧ DPut H a' (.ref p) v H4 ∧ NN H4 :=
  ⟨a, _, rfl, DPut.t (k := xs.map keyOf) (S.l _ _ h) (by rw [hx]; exact S.at hk) hl, q _ (S.wr hw)⟩
theorem w_newK (S : SH Z L H) (q : ∀ p H1, SH Z ((p, .dK []) :: L) H1 → Q (.ref p) H1) : tDNewK σ H Q := fun p hp => q p _ (S.new hp)
theorem w_newT (S : SH Z L H) (q : ∀ p H1, SH Z ((p, .dT []) :: L) H1 → Q (.ref p) H1) : tDNewT σ H Q := fun p hp => q p _ (S.new hp)
end
end AL
/-! A4 -/
namespace AL
open PySem PySem.Spec PyProof.Rows L2
section
variable {K : PySem.W.Frag} {mg : Str → Option Value}
def cHold : Cd := ⟨"Hold", ["number", "held"]⟩
theorem ok_cHold (T : Tx K mg) : CdOk K cHold where
  cls := c_Hold T
  na := fun i f h => match i, h with
    | 0, h => by
      have e : ("number" : Str) = f := Option.some.inj h
      subst e
      exact na_Hold_number T
    | 1, h => by
      have e : ("held" : Str) = f := Option.some.inj h
      subst e
      exact na_Hold_held T
    | n + 2, h => by
      have e : (none : Option Str) = some f := h
      cases e
  nd := by decide +kernel
  len := by decide
def cWalk : Cd := ⟨"Walk", ["program", "listed", "hears", "stands", "taken", "held", "finish", "noted"]⟩
theorem ok_cWalk (T : Tx K mg) : CdOk K cWalk where
  cls := c_Walk T
  na := fun i f h => match i, h with
    | 0, h => by
      have e : ("program" : Str) = f := Option.some.inj h
      subst e
      exact na_Walk_program T
    | 1, h => by
      have e : ("listed" : Str) = f := Option.some.inj h
      subst e
      exact na_Walk_listed T
    | 2, h => by
      have e : ("hears" : Str) = f := Option.some.inj h
      subst e
      exact na_Walk_hears T
    | 3, h => by
      have e : ("stands" : Str) = f := Option.some.inj h
      subst e
      exact na_Walk_stands T
    | 4, h => by
      have e : ("taken" : Str) = f := Option.some.inj h
      subst e
      exact na_Walk_taken T
    | 5, h => by
      have e : ("held" : Str) = f := Option.some.inj h
      subst e
      exact na_Walk_held T
    | 6, h => by
      have e : ("finish" : Str) = f := Option.some.inj h
      subst e
      exact na_Walk_finish T
    | 7, h => by
      have e : ("noted" : Str) = f := Option.some.inj h
      subst e
      exact na_Walk_noted T
    | n + 8, h => by
      have e : (none : Option Str) = some f := h
      cases e
  nd := by decide +kernel
  len := by decide
def cFrame : Cd := ⟨"Frame", ["part", "rows", "at", "slots"]⟩
theorem ok_cFrame (T : Tx K mg) : CdOk K cFrame where
  cls := c_Frame T
  na := fun i f h => match i, h with
    | 0, h => by
      have e : ("part" : Str) = f := Option.some.inj h
      subst e
      exact na_Frame_part T
    | 1, h => by
      have e : ("rows" : Str) = f := Option.some.inj h
      subst e
      exact na_Frame_rows T
    | 2, h => by
      have e : ("at" : Str) = f := Option.some.inj h
      subst e
      exact na_Frame_at T
    | 3, h => by
      have e : ("slots" : Str) = f := Option.some.inj h
      subst e
      exact na_Frame_slots T
    | n + 4, h => by
      have e : (none : Option Str) = some f := h
      cases e
  nd := by decide +kernel
  len := by decide
def cKeep : Cd := ⟨"Keep", ["name", "note"]⟩
theorem ok_cKeep (T : Tx K mg) : CdOk K cKeep where
  cls := c_Keep T
  na := fun i f h => match i, h with
    | 0, h => by
      have e : ("name" : Str) = f := Option.some.inj h
      subst e
      exact na_Keep_name T
    | 1, h => by
      have e : ("note" : Str) = f := Option.some.inj h
      subst e
      exact na_Keep_note T
    | n + 2, h => by
      have e : (none : Option Str) = some f := h
      cases e
  nd := by decide +kernel
  len := by decide
def cPass : Cd := ⟨"Pass", ["many"]⟩
theorem ok_cPass (T : Tx K mg) : CdOk K cPass where
  cls := c_Pass T
  na := fun i f h => match i, h with
    | 0, h => by
      have e : ("many" : Str) = f := Option.some.inj h
      subst e
      exact na_Pass_many T
    | n + 1, h => by
      have e : (none : Option Str) = some f := h
      cases e
  nd := by decide +kernel
  len := by decide
def cScreen : Cd := ⟨"Screen", ["deep", "number"]⟩
theorem ok_cScreen (T : Tx K mg) : CdOk K cScreen where
  cls := c_Screen T
  na := fun i f h => match i, h with
    | 0, h => by
      have e : ("deep" : Str) = f := Option.some.inj h
      subst e
      exact na_Screen_deep T
    | 1, h => by
      have e : ("number" : Str) = f := Option.some.inj h
      subst e
      exact na_Screen_number T
    | n + 2, h => by
      have e : (none : Option Str) = some f := h
      cases e
  nd := by decide +kernel
  len := by decide
def cCut : Cd := ⟨"Cut", ["number", "once", "cut", "marked"]⟩
theorem ok_cCut (T : Tx K mg) : CdOk K cCut where
  cls := c_Cut T
  na := fun i f h => match i, h with
    | 0, h => by
      have e : ("number" : Str) = f := Option.some.inj h
      subst e
      exact na_Cut_number T
    | 1, h => by
      have e : ("once" : Str) = f := Option.some.inj h
      subst e
      exact na_Cut_once T
    | 2, h => by
      have e : ("cut" : Str) = f := Option.some.inj h
      subst e
      exact na_Cut_cut T
    | 3, h => by
      have e : ("marked" : Str) = f := Option.some.inj h
      subst e
      exact na_Cut_marked T
    | n + 4, h => by
      have e : (none : Option Str) = some f := h
      cases e
  nd := by decide +kernel
  len := by decide
def cMachine : Cd := ⟨"Machine", ["code", "how", "hears", "bound", "stands", "taken", "held", "finish", "pages", "copies", "greatest", "grown"]⟩
theorem ok_cMachine (T : Tx K mg) : CdOk K cMachine where
  cls := c_Machine T
  na := fun i f h => match i, h with
    | 0, h => by
      have e : ("code" : Str) = f := Option.some.inj h
      subst e
      exact na_Machine_code T
    | 1, h => by
      have e : ("how" : Str) = f := Option.some.inj h
      subst e
      exact na_Machine_how T
    | 2, h => by
      have e : ("hears" : Str) = f := Option.some.inj h
      subst e
      exact na_Machine_hears T
    | 3, h => by
      have e : ("bound" : Str) = f := Option.some.inj h
      subst e
      exact na_Machine_bound T
    | 4, h => by
      have e : ("stands" : Str) = f := Option.some.inj h
      subst e
      exact na_Machine_stands T
    | 5, h => by
      have e : ("taken" : Str) = f := Option.some.inj h
      subst e
      exact na_Machine_taken T
    | 6, h => by
      have e : ("held" : Str) = f := Option.some.inj h
      subst e
      exact na_Machine_held T
    | 7, h => by
      have e : ("finish" : Str) = f := Option.some.inj h
      subst e
      exact na_Machine_finish T
    | 8, h => by
      have e : ("pages" : Str) = f := Option.some.inj h
      subst e
      exact na_Machine_pages T
    | 9, h => by
      have e : ("copies" : Str) = f := Option.some.inj h
      subst e
      exact na_Machine_copies T
    | 10, h => by
      have e : ("greatest" : Str) = f := Option.some.inj h
      subst e
      exact na_Machine_greatest T
    | 11, h => by
      have e : ("grown" : Str) = f := Option.some.inj h
      subst e
      exact na_Machine_grown T
    | n + 12, h => by
      have e : (none : Option Str) = some f := h
      cases e
  nd := by decide +kernel
  len := by decide
def cFlight : Cd := ⟨"Flight", ["keeper", "note", "parts"]⟩
theorem ok_cFlight (T : Tx K mg) : CdOk K cFlight where
  cls := c_Flight T
  na := fun i f h => match i, h with
    | 0, h => by
      have e : ("keeper" : Str) = f := Option.some.inj h
      subst e
      exact na_Flight_keeper T
    | 1, h => by
      have e : ("note" : Str) = f := Option.some.inj h
      subst e
      exact na_Flight_note T
    | 2, h => by
      have e : ("parts" : Str) = f := Option.some.inj h
      subst e
      exact na_Flight_parts T
    | n + 3, h => by
      have e : (none : Option Str) = some f := h
      cases e
  nd := by decide +kernel
  len := by decide
def cStairs : Cd := ⟨"Stairs", ["program", "listed", "hears", "row", "heard", "taken", "held", "finish", "rows_noted"]⟩
theorem ok_cStairs (T : Tx K mg) : CdOk K cStairs where
  cls := c_Stairs T
  na := fun i f h => match i, h with
    | 0, h => by
      have e : ("program" : Str) = f := Option.some.inj h
      subst e
      exact na_Stairs_program T
    | 1, h => by
      have e : ("listed" : Str) = f := Option.some.inj h
      subst e
      exact na_Stairs_listed T
    | 2, h => by
      have e : ("hears" : Str) = f := Option.some.inj h
      subst e
      exact na_Stairs_hears T
    | 3, h => by
      have e : ("row" : Str) = f := Option.some.inj h
      subst e
      exact na_Stairs_row T
    | 4, h => by
      have e : ("heard" : Str) = f := Option.some.inj h
      subst e
      exact na_Stairs_heard T
    | 5, h => by
      have e : ("taken" : Str) = f := Option.some.inj h
      subst e
      exact na_Stairs_taken T
    | 6, h => by
      have e : ("held" : Str) = f := Option.some.inj h
      subst e
      exact na_Stairs_held T
    | 7, h => by
      have e : ("finish" : Str) = f := Option.some.inj h
      subst e
      exact na_Stairs_finish T
    | 8, h => by
      have e : ("rows_noted" : Str) = f := Option.some.inj h
      subst e
      exact na_Stairs_rows_noted T
    | n + 9, h => by
      have e : (none : Option Str) = some f := h
      cases e
  nd := by decide +kernel
  len := by decide
end
end AL
/-! A5 -/
namespace AL
open PySem PySem.Spec PyProof.Rows L2
/-! ### the layer's rules with the written part named, so that goals stay short -/
section
variable {X : Cx} {K : PySem.W.Frag} {e o a b : Expr} {es : List Expr} {te ta to : TE} {t : TA} {pos apos cpos p : Pos} {T id : String} {name : Str} {r : V → List V → Hp → VK → Prop} {tg : Expr}
theorem ix_anyK (hK : X.K = K := by rfl) : IxR X (rIxA K) := by subst hK; exact ix_any
theorem op_in_seqK (hK : X.K = K := by rfl) : OpR X (compareOp .In) (rIn K false) := by subst hK; exact op_in_seq
theorem op_notIn_seqK (hK : X.K = K := by rfl) : OpR X (compareOp .NotIn) (rIn K true) := by subst hK; exact op_notIn_seq
theorem op_catTK (hK : X.K = K := by rfl) : OpR X (binaryOp .Add) (rCatT K) := by subst hK; exact op_catT
theorem op_eqDK (hu : X.A.units + 64 < cLine) (hK : X.K = K := by rfl) : OpR X (compareOp .Eq) (rEqD K) := by subst hK; exact op_eqD hu
theorem op_neDK (hu : X.A.units + 64 < cLine) (hK : X.K = K := by rfl) : OpR X (compareOp .NotEq) (rNeD K) := by subst hK; exact op_neD hu
theorem sl_listK (hK : X.K = K := by rfl) : SlR X (rSlL K) := by subst hK; exact sl_list
theorem sl_tupK (hK : X.K = K := by rfl) : SlR X (rSlT K) := by subst hK; exact sl_tup
theorem call_isiK (hK : X.K = K := by rfl) : CallR X (.builtin "isinstance") (rIsi K) := by subst hK; exact call_isi
theorem call_isiTK (hK : X.K = K := by rfl) : CallR X (.builtin "isinstance") (rIsiT K) := by subst hK; exact call_isiT
/-- a built-in type's method, asked with things or with none; the rule at X.K is the library's -/
theorem pe_bmK (h : PE X (.Call (.Attribute o name apos) (e :: es) [] cpos) (tBM X.K T r to t)) (hK : X.K = K := by rfl) : PE X (.Call (.Attribute o name apos) (e :: es) [] cpos) (tBM K T r to t) := hK ▸ h
theorem pe_bm0K (h : PE X (.Call (.Attribute o name apos) [] [] cpos) (tBM0 X.K T r to)) (hK : X.K = K := by rfl) : PE X (.Call (.Attribute o name apos) [] [] cpos) (tBM0 K T r to) := hK ▸ h
theorem pg_tupK {k : Nat} {ts : TGs} {n : Nat} (hc : X.calm = true) (h : PGs X es ts) (hn : (assignEach es X.env).length = n := by rfl) (hst : (assignEach es X.env).findIdx? (·.1) = none := by rfl) (hK : X.K = K := by rfl) : PG X (.Tuple es k pos) (gTup K n ts) := by
  subst hK; exact pg_tup hc h hn hst
theorem pg_unlK {k : Nat} {ts : TGs} {n : Nat} (hc : X.calm = true) (h : PGs X es ts) (hn : (assignEach es X.env).length = n := by rfl) (hst : (assignEach es X.env).findIdx? (·.1) = none := by rfl) (hK : X.K = K := by rfl) : PG X (.Tuple es k pos) (gUnl K n ts) := by
  subst hK; exact pg_unl hc h hn hst
theorem pi_tupK (hl : PE X e te) (hK : X.K = K := by rfl) : PI X tg e (iTup K te) := by subst hK; exact pi_tup hl
theorem pi_listK (hl : PE X e te) (hK : X.K = K := by rfl) : PI X tg e (iList K te) := by subst hK; exact pi_list hl
theorem pt_tru (ha : PE X a ta) (he : ∀ whole, isTrue a X.env whole = (do let v ← whole; standAt a.pos; holding [v] (truthy v))) (hK : X.K = K := by rfl) : PT X a (tTruth K ta) := by subst hK; exact pt_truth ha he
theorem pi_zipK {e2 : Expr} {tpos : Pos} {elts : List Expr} {kk : Nat} (hg : Gl X "zip") (hm : X.mg "zip" = none) (ha : PA X [e, e2] t) (hK : X.K = K := by rfl)
    (hs : starEach [e, e2] X.env = (false, eval e X.env) :: starEach [e2] X.env := by rfl) (hpl : (backTo pos (starEach [e2] X.env)).any (·.1) = false := by rfl) : PI X (.Tuple elts kk tpos) (.Call (.Name "zip" p) [e, e2] [] pos) (iZip K t) := by
  subst hK; exact pi_zip hg hm ha hs hpl
theorem pi_reversedK (hg : Gl X "reversed") (hm : X.mg "reversed" = none) (ha : PA X [e] t) (hK : X.K = K := by rfl) (hs : starEach [e] X.env = [(false, eval e X.env)] := by rfl) : PI X tg (.Call (.Name "reversed" p) [e] [] pos) (iRev K t) := by
  subst hK; exact pi_reversed hg hm ha hs
theorem pi_enumK {tpos : Pos} {elts : List Expr} {kk : Nat} (hg : Gl X "enumerate") (hm : X.mg "enumerate" = none) (ha : PA X [e] t) (hK : X.K = K := by rfl) (hs : starEach [e] X.env = [(false, eval e X.env)] := by rfl) : PI X (.Tuple elts kk tpos) (.Call (.Name "enumerate" p) [e] [] pos) (iEnum K t) := by
  subst hK; exact pi_enum hg hm ha hs
theorem atI_zero {α : Type} {x : α} {r : List α} : atI (x :: r) 0 = some x := atI_nat (j := 0) rfl
theorem lt_line {n : Nat} (h : n ≤ 100000) : n < sizeLine := Nat.lt_of_le_of_lt h (by rw [sizeLine_eq]; decide)
theorem le_line {n : Nat} (h : n ≤ 100000) : n ≤ sizeLine := Nat.le_of_lt (lt_line h)
theorem dlen0 {κ : Type} {kv : List (κ × V)} (h : kv.length + 0 ≤ 100000) : kv.length < sizeLine := lt_line h
theorem dlen1 {κ : Type} [DecidableEq κ] {kv : List (κ × V)} {k : κ} {v : V} {c n : Nat} (h : kv.length + (c + 1) ≤ n) : (putK kv k v).length + c ≤ n := by
  have := length_putK kv k v
  omega
/-- what is never come to -/
def tNev : TE := fun _ _ _ => False
theorem pe_nev : PE X e tNev := ⟨fun _ _ _ _ _ _ h => h.elim⟩
def tNevT : TT := fun _ _ _ => False
theorem pt_nev : PT X e tNevT := ⟨fun _ _ _ _ _ _ h => h.elim⟩
end
end AL
/-! A6 -/
namespace AL
open PySem PySem.Spec PyProof.Rows L2
/-! ### rules of our own -/
section
variable {X : Cx} {K : PySem.W.Frag}
/-! xs != ys of lists whose lengths differ, or both without things -/
def rNeN : R2 := fun x y H Q => ∃ a b xs ys, x = .ref a ∧ y = .ref b ∧ H a = some (.lst xs) ∧ H b = some (.lst ys) ∧ (xs = [] → ys = [] → Q (.bl false) H) ∧ (xs.length ≠ ys.length → Q (.bl true) H) ∧ (xs.length = ys.length → xs = [] ∧ ys = [])
theorem op_neN (hu : X.A.units < cLine) : OpR X (compareOp .NotEq) rNeN := by
  rintro pins s σ H _ _ v u Q I rx ry ⟨a, b, xs, ys, rfl, rfl, h1, h2, q1, q2, q3⟩
  change v = Value.ref a at rx
  change u = Value.ref b at ry
  subst rx ry
  obtain ⟨i1, r1, p1, z1⟩ := I.list (SqL.of (K := X.K) h1)
  obtain ⟨i2, r2, p2, z2⟩ := I.list (SqL.of (K := X.K) h2)
  have l1 := r1.length
  have l2 := r2.length
  by_cases hl : xs.length = ys.length
  · obtain ⟨e1, e2⟩ := q3 hl
    subst e1; subst e2
    have e1 : i1 = [] := List.length_eq_zero_iff.mp (by simpa using l1.symm)
    have e2 : i2 = [] := List.length_eq_zero_iff.mp (by simpa using l2.symm)
    subst e1; subst e2
    exact SeqAt.RcNeAt.lists (e := fun _ => true) p1.isList p2.isList rfl hu (fun j hj => by simp at hj) X.prog X.w _ _ ⟨.bl false, H, I, rfl, q1 rfl rfl⟩
  · have hs : (i1.toArray.size != i2.toArray.size) = true := by
      simp only [List.size_toArray, bne_iff_ne, ne_eq]
      omega
    exact SeqAt.RcNeAt.lists_lengths p1.isList p2.isList hs hu X.prog X.w _ _ ⟨.bl true, H, I, rfl, q2 hl⟩
/-! z * n, n nought or one -/
def rMulS : R2 := fun x y H Q => ∃ z i, x = .str z ∧ y = .int i ∧ (i = 0 ∨ i = 1) ∧ z.length = 1 ∧ Q (.str (if i = 1 then z else Str.empty)) H
theorem op_mulS : OpR X (binaryOp .Mult) rMulS := by
  rintro pins s σ H _ _ v u Q I rx ry ⟨z, i, rfl, rfl, hi, hz, q⟩
  obtain ⟨t, rfl⟩ := rx
  obtain ⟨t', rfl⟩ := ry
  rcases hi with rfl | rfl
  · exact P.mul_str_none (by decide) (by decide) ⟨.str Str.empty, H, I.tok _, ⟨_, rfl⟩, q⟩
  · exact P.mul_str (by decide) (fun _ h => by simp at h) (fun _ h => by simp at h) (by
      rw [if_neg (by decide), if_pos (by simp)]
      exact ⟨.str z, H, I, ⟨_, rfl⟩, q⟩)
end
/-! enumerate(t), t a tuple without things: its first turn is its end -/
/-- what iter(t) lays, and what enumerate lays over an iterator -/
abbrev tupIt (t : Addr) : Obj := { cls := .type "tuple_iterator", data := .fields #[.ref t, .int 0 0] }
abbrev enumOb (it : Addr) : Obj := { cls := .type "enumerate", data := .fields #[.none, .bool false, .ref it, rawInt 0, .none, .none] }
/-- the store with both -/
abbrev both (h : Heap) (t : Addr) : Heap := (h.push (tupIt t)).push (enumOb h.objs.size)
section
variable {h : Heap} {t b : Addr} {o : Obj}
theorem both_old (e : h.get? b = some o) : (both h t).get? b = some o := Heap.get?_push_of_some _ (Heap.get?_push_of_some _ e)
theorem both_it : (both h t).IsTupleIter h.objs.size t 0 := ⟨_, Heap.get?_push_of_some _ (Heap.get?_push_size _ rfl), rfl, rfl⟩
theorem both_enum : IsEnum (both h t) (h.objs.size + 1) h.objs.size 0 .none := by
  have e := Heap.get?_push_size (h.push (tupIt t)) (o := enumOb h.objs.size) rfl
  rwa [Heap.size_push] at e
end
theorem enum_new (t : Addr) (vs : Array Value) : Meets (Builtin.«enumerate.__new__» ⟨[.type "enumerate", .ref t], []⟩)
    (fun _ R s => s.heap.IsTuple t vs ∧ R (.ok (.ret (.ref (s.heap.objs.size + 1)))) { s with heap := both s.heap t }) := by
  refine .of_wp fun P w A R ⟨hp, gs, dr, k, os⟩ ⟨tu, fin⟩ => ?_
  have go : ∀ {A' : Around} {E Q : Value → Shared → Prop}, Q (.ref hp.objs.size) ⟨hp.push (tupIt t), gs, dr, k, os⟩ → wpAny (model P w) A' (pyIter (.ref t)) Q E ⟨hp, gs, dr, k, os⟩ :=
    (begins_tuple t vs).iter P w _ _ ⟨hp, gs, dr, k, os⟩ _ tu
  have n : (hp.push (tupIt t)).objs.size = hp.objs.size + 1 := Heap.size_push ..
  have sub := sub_enumerate
  change R (.ok (.ret (.ref (hp.objs.size + 1)))) ⟨both hp t, gs, dr, k, os⟩ at fin
  rw [← n] at fin
  wp_walk using go
  apply wpAny_stack_any
  intro st
  apply wpAny_pure
  split
  · rename_i c _ _ _ _ _
    rcases c == Value.type "enumerate" with _ | _ <;> (wp_walk using go; exact ⟨_, rfl, fin⟩)
  · wp_walk using go
    exact ⟨_, rfl, fin⟩
section
variable {P : Program} {w : World} {K : PySem.W.Frag} {tg : Expr}
/-- enumerate(t) called -/
theorem enum_call {A : Around} {E Q : Value → Shared → Prop} {s : Shared} {t : Addr} {vs : Array Value} (tu : s.heap.IsTuple t vs) (q : Q (.ref (s.heap.objs.size + 1)) { s with heap := both s.heap t }) :
    wpAny (model P w) A (call (.type "enumerate") [.ref t]) Q E s :=
  callType_new F.called_enumerate (by decide) (F.typeCall_enumerate_1 _) (F.newCall_enumerate_1 _) (fun v => F.args_object_init_2 v _) F.entry_enumerate_new (enum_new t vs) ⟨tu, ⟨_, both_enum, rfl⟩, q⟩
def ItNo (K : PySem.W.Frag) (a : Addr) : It := ⟨fun _ _ => False, fun _ _ _ _ => False, fun i H => i = 0 ∧ SqT K H a []⟩
/-- e goes through it, it through a; i things are drawn -/
structure EnumAt (e it a : Addr) (i : Nat) (h : Heap) : Prop where
  outer : ∃ old, IsEnum h e it ((i : Nat) : Int) old
  inner : h.IsTupleIter it a i
  two : e ≠ it
theorem EnumAt.tuple_ne {e it a : Addr} {h : Heap} {vs : Array Value} (n : EnumAt e it a 0 h) (tu : h.IsTuple a vs) : a ≠ it := by
  rintro rfl
  obtain ⟨_, x, c, _⟩ := n.inner
  obtain ⟨_, y, d, _⟩ := tu
  rw [x] at y
  cases y
  simp [c] at d
theorem turn_enumT (a e it : Addr) : Turn P w K tg (ItNo K a) [e, it] e (EnumAt e it a) where
  mem := List.mem_cons_self
  item := fun _ _ _ _ _ _ _ _ _ _ _ _ _ _ no => no.elim
  self := fun _ _ _ _ _ n q => n.outer.elim fun _ x => wpAny_pyIter_enum x q
  keep := fun _ _ _ n k => ⟨n.outer.imp fun _ x => k e (by simp) _ x, n.inner.at fun o x => k it (by simp) o x, n.two⟩
  obj := fun i h n b m => by
    have : b = e ∨ b = it := by simpa using m
    rcases this with rfl | rfl
    · exact n.outer.elim fun _ x => ⟨_, x, nofun⟩
    · exact n.inner.elim fun o x => ⟨o, x.1, fun v y => nomatch x.2.2.symm.trans y⟩
  done := by
    rintro X rfl rfl rfl calm _ pins s σ H E J far n ⟨rfl, sq⟩
    obtain ⟨its, zs, tu, _⟩ := J.tuple sq
    have : its = [] := List.length_eq_zero_iff.mp (by simpa using zs.length.symm)
    subst this
    obtain ⟨f0, f1, _, f3, f4, f5⟩ := far it (by simp)
    obtain ⟨_, x⟩ := n.outer
    exact wpAny_pyNext_enum_endD (Draws.tuple (A := X.A.in1) (J.ok.hd calm) it a (n.tuple_ne tu) #[]) x ⟨n.inner, tu⟩ fun g k => ⟨rfl, J.turned (t' := s.toks) k f0 f1 f3 f4 f5⟩
def iEnumT (K : PySem.W.Frag) (ta : TA) : TI := fun σ H R => ta σ H fun vs H1 => ∃ a, vs = [.ref a] ∧ SqT K H1 a [] ∧ R (ItNo K a) H1
theorem pi_enumT {X : Cx} {e : Expr} {ta : TA} {p pos : Pos} (gl : Gl X "enumerate") (ml : X.mg "enumerate" = none) (ha : PA X [e] ta) (hK : X.K = K := by rfl) (one : starEach [e] X.env = [(false, eval e X.env)] := by rfl) :
    PI X tg (.Call (.Name "enumerate" p) [e] [] pos) (iEnumT K ta) := by
  subst hK
  constructor
  intro pins s σ H R J h
  refine Call_ (ld_blt J gl ml boot_enumerate ?_)
  refine PyProof.Rows.callWith_type1 (thn (ha.run pos pins s σ H _ J h) ?_) one rfl
  rintro us t ⟨_, H1, J1, r, a, rfl, sq, q⟩
  obtain ⟨u, rfl, ru⟩ := vals1 r
  change u = Value.ref a at ru
  subst ru
  obtain ⟨its, zs, tu, _⟩ := J1.tuple sq
  refine enum_call (vs := its.toArray) tu (wpAny_pyIter_enum both_enum ?_)
  refine ⟨_, [t.heap.objs.size + 1, t.heap.objs.size], EnumAt _ _ a, _, H1, rfl, J1.kept (t' := t.toks) fun _ _ => both_old, turn_enumT a _ _, ⟨⟨.none, both_enum⟩, both_it, Nat.succ_ne_self _⟩, fun b m => ?_, q⟩
  have up : t.heap.objs.size ≤ b := by
    simp only [List.mem_cons, List.not_mem_nil, or_false] at m
    rcases m with rfl | rfl
    · exact Nat.le_succ _
    · exact Nat.le_refl _
  exact J1.fpOk up (J1.hok.fresh up)
end
end AL
/-! A7 -/
namespace AL
open PySem PySem.Spec PyProof.Rows L2
/-! list(reversed(xs)): the things of xs, the last one first, in a list of their own -/
/-- what a list is in the store -/
abbrev lsObj (vs : Array Value) (c : Nat := 0) : Obj := { cls := .type "list", data := .seq vs c }
/-- it goes through the list l from behind, and nothing is drawn yet -/
structure Back (h : Heap) (it l : Addr) (vs : Array Value) : Prop where
  turn : h.IsRevIter it l ((vs.size : Int) - 1)
  row : h.IsList l vs
  two : l ≠ it
  few : vs.size ≤ sizeLine
/-- g comes behind h: at S lie the things of vs, the last one first; it may have moved, all else is kept -/
structure Poured (h g : Heap) (it S : Addr) (vs out : Array Value) (c : Nat) : Prop where
  rest : ∀ x o, x ≠ S ∧ x ≠ it → h.get? x = some o → g.get? x = some o
  made : g.get? S = some (lsObj out c)
  what : ItemsOf (fun i v => vs[vs.size - 1 - i]? = some v) out vs.size
theorem Back.on {h g : Heap} {it l : Addr} {vs : Array Value} (b : Back h it l vs) (k : ∀ x o, x = it ∨ x = l → h.get? x = some o → g.get? x = some o) : Back g it l vs :=
  ⟨b.turn.at fun o => k it o (.inl rfl), b.row.at fun o => k l o (.inr rfl), b.two, b.few⟩
theorem Back.old {h : Heap} {it l : Addr} {vs : Array Value} (b : Back h it l vs) : it < h.objs.size ∧ l < h.objs.size :=
  ⟨b.turn.elim fun _ z => Heap.lt_size z.1, b.row.elim fun _ z => Heap.lt_size z.1⟩
/-- what the machine asks of a built-in's last step -/
abbrev Last (P : Program) (w : World) (A : Around) (R : Result → Shared → Prop) : Fin → Shared → Prop :=
  fun f t => match f with | .done r => R (.ok r) t | .again c => c.quiet = true ∧ codeAny (model P w) A c R t
section
variable {P : Program} {w : World} {A : Around} {s : Shared} {it l S : Addr} {vs : Array Value} {R : Result → Shared → Prop} {E : Value → Shared → Prop}
/-- no room is asked for ahead of time -/
theorem hint_back {Q : Bool → Shared → Prop} (b : Back s.heap it l vs) (q : Q false s) : wpAny (model P w) A (Builtin.List.listLengthHint (.ref it)) Q E s := by
  have ty : s.TypeIs (.ref it) "list_reverseiterator" := b.turn.typeIs
  obtain ⟨id, e⟩ : ∃ id : String, "list_reverseiterator.__length_hint__" = id := ⟨_, rfl⟩
  have no := RT.nolen_lri
  have ys := RT.hint_lri
  have cut : splitId id = some ("list_reverseiterator", "__length_hint__") := by subst e; decide +kernel
  have own : isSubtype (.type "list_reverseiterator") (.type "list_reverseiterator") = pure true := by rw [isSubtype_type]; kernel_rfl
  rw [e] at ys
  unfold Builtin.List.listLengthHint
  repeat (first | rw [cut] | wp_step)
  subst e
  wp_walk
  exact q
/-- list.extend over it, S holding nothing so far -/
theorem extend_back {c0 : Nat} (hh : A.handled = none) (b : Back s.heap it l vs) (n1 : S ≠ it) (n2 : S ≠ l) (e : s.heap.get? S = some (lsObj #[] c0))
    (q : ∀ g tk out c, Poured s.heap g it S vs out c → R (.ok (.ret .none)) { s with heap := g, toks := tk }) :
    wpAny (model P w) A.in1 (Builtin.List.listExtendWith (.ref S) (.ref it) .none) (Last P w A R) (fun x t => R (.error x) t) s := by
  have ty : s.TypeIs (.ref it) "list_reverseiterator" := b.turn.typeIs
  have other : Builtin.List.listSameRef (.ref S) (.ref it) = false := beq_false_of_ne n1
  have out : S ∉ [it, l] := fun z => by cases z with | head => exact n1 rfl | tail _ z => exact n2 (List.mem_singleton.mp z)
  have b0 : s.heap.IsRevIter it l ((vs.size : Int) - 1 - ((0 : Nat) : Int)) := by rw [Int.natCast_zero, Int.sub_zero]; exact b.turn
  unfold Builtin.List.listExtendWith
  wp_walk using wpAny_pyIter_revIter b.turn, hint_back b
  refine ⟨plainId_quiet F.plain_extend_loop _, codeAny_extend_loopS (Walks.listRev (A := A.in1) hh it l b.two vs).toS b.few S out _ vs.size 0 s #[] c0 rfl (Nat.zero_le _) ⟨Nat.zero_le _, b0, b.row⟩ e (ItemsOf.nil _) fun t xs c m h1 h2 => ?_⟩
  rw [m.eq_with]
  exact q t.heap t.toks xs c ⟨fun x o n => m.heap x o (by simp [n.1, n.2]), h1, h2⟩
/-- list's own init, S being new -/
theorem init_back (hh : A.handled = none) (b : Back s.heap it l vs) (n1 : S ≠ it) (n2 : S ≠ l) (e : s.heap.get? S = some (lsObj #[]))
    (q : ∀ g tk out c, Poured s.heap g it S vs out c → R (.ok (.ret .none)) { s with heap := g, toks := tk }) :
    wpAny (model P w) A.in1 (Builtin.«list.__init__» ⟨[.ref S, .ref it], []⟩) (Last P w A R) (fun x t => R (.error x) t) s := by
  have k : ∀ x o, x ≠ S → s.heap.get? x = some o → (s.heap.update S (Obj.mapSeq fun _ => #[])).get? x = some o := fun x o n z => by
    rw [Heap.get?_update_other _ _ (Ne.symm n)]
    exact z
  have b2 : Back (s.heap.update S (Obj.mapSeq fun _ => #[])) it l vs := b.on fun x o n => k x o (by rcases n with rfl | rfl; exact Ne.symm n1; exact Ne.symm n2)
  have e2 : (s.heap.update S (Obj.mapSeq fun _ => #[])).get? S = some (lsObj #[]) := Heap.get?_update_self _ e rfl
  have f := extend_back (P := P) (w := w) (R := R) (s := { s with heap := s.heap.update S (Obj.mapSeq fun _ => #[]) }) hh b2 n1 n2 e2 fun g tk out c z => q g tk out c ⟨fun x o n y => z.rest x o n (k x o n.1 y), z.made, z.what⟩
  unfold Builtin.«list.__init__»
  wp_walk using f
end
/-- list(it): a list at the next free place -/
theorem list_back {P : Program} {w : World} {A : Around} {s : Shared} {it l : Addr} {vs : Array Value} {E : Value → Shared → Prop} {Q : Value → Shared → Prop} (hh : A.handled = none) (b : Back s.heap it l vs)
    (q : ∀ g tk out c, Poured s.heap g it s.heap.objs.size vs out c → Q (.ref s.heap.objs.size) { s with heap := g, toks := tk }) : wpAny (model P w) A (call (.type "list") [.ref it]) Q E s := by
  have e : (s.heap.push (lsObj #[])).get? s.heap.objs.size = some (lsObj #[]) := Heap.get?_push_size _ rfl
  have up : ∀ x o, s.heap.get? x = some o → (s.heap.push (lsObj #[])).get? x = some o := fun _ _ => Heap.get?_push_of_some _
  refine callType_codes (Q₁ := fun v t => v = .ref s.heap.objs.size ∧ t = { s with heap := s.heap.push (lsObj #[]) }) F.called_list (F.typeCall_list_1 _) F.entry_list_init (code_list_new _ ⟨rfl, rfl⟩) ?_
  rintro _ _ ⟨rfl, rfl⟩
  refine ⟨⟨_, e, rfl⟩, F.args_list_init_2 _ _, init_back hh (b.on fun x o _ => up x o) (Nat.ne_of_gt b.old.1) (Nat.ne_of_gt b.old.2) e fun g tk out c z => ⟨rfl, q g tk out c ⟨fun x o n y => ?_, z.made, z.what⟩⟩⟩
  exact z.rest x o n (up x o y)
section
variable {X : Cx} {K : PySem.W.Frag} {pins : List (Addr × Obj)} {σ : L2.St} {H : Hp} {t : Shared} {p p2 pos pos2 : Pos}
/-- nm(x), nm a built-in type: x is worked out, then the type is called with it -/
theorem by_type {nm : Str} {T : String} {x : Expr} {Q E : Value → Shared → Prop} (J : Inv X pins σ H t) (hg : Gl X nm) (hm : X.mg nm = none) (hb : bootBuiltins nm = some (.type T)) (n1 : nm ≠ "__name__") (n2 : (nm == ("__debug__" : Str)) = false)
    (one : starEach [x] X.env = (false, eval x X.env) :: starEach [] X.env) (q : wpAny (model X.prog X.w) X.A (eval x X.env) (fun u r => wpAny (model X.prog X.w) X.A (call (.type T) [u]) Q E r) E t) :
    wpAny (model X.prog X.w) X.A (eval (.Call (.Name nm p) [x] [] pos) X.env) Q E t :=
  Call_ (ld_blt J hg hm hb (PyProof.Rows.callWith_type1 (args_cons (thn q fun u _ z => args_nil (Q := fun us r => wpAny (model X.prog X.w) X.A (call (.type T) (u :: us)) Q E r) z) one) one rfl) n1 n2)
/-- list(it), it just come from reversed(l) -/
theorem lay_back {a : Addr} {xs : List V} {its : List Value} {Q : VK} (J : Inv X pins σ H t) (hc : X.calm = true) (zs : Vals xs its) (pl : PlainL t.heap a its.toArray) (few : xs.length ≤ sizeLine)
    (q : ∀ l, H l = none → Q (.ref l) (upd H l (.lst xs.reverse))) :
    wpAny (model X.prog X.w) X.A (call (.type "list") [.ref t.heap.objs.size]) (EP X pins σ Q) X.xe { t with heap := t.heap.push (revObj a ((its.toArray.size : Int) - 1)) } := by
  generalize eg : t.heap.push (revObj a ((its.toArray.size : Int) - 1)) = g0
  have up : ∀ b o, t.heap.get? b = some o → g0.get? b = some o := by subst eg; exact fun _ _ => Heap.get?_push_of_some _
  have J2 := J.kept (t' := t.toks) up
  have b : Back g0 t.heap.objs.size a its.toArray := by
    subst eg
    exact ⟨⟨_, Heap.get?_push_size _ rfl, rfl, rfl⟩, pl.isList.push _, Nat.ne_of_lt (pl.isList.elim fun _ z => Heap.lt_size z.1), by rw [List.size_toArray, ← zs.length]; exact few⟩
  refine list_back (s := { t with heap := g0 }) (J.ok.hd hc) b fun g tk out c z => ?_
  have free : FpOk X pins H t.heap.objs.size := J.fpOk (Nat.le_refl _) (J.hok.fresh (Nat.le_refl _))
  refine ⟨.ref _, _, Inv.turnedNew J2 (ch := [t.heap.objs.size]) (ob := .lst xs.reverse) (fun x o n e => z.rest x o ⟨Nat.ne_of_lt (Heap.lt_size e), fun y => n (y ▸ List.mem_singleton_self _)⟩ e)
    (fun x n => List.mem_singleton.mp n ▸ free) (Nat.le_refl _) ⟨by rw [List.length_reverse]; exact few, out.toList, c, RT.vals_rev zs z.what, ?_⟩, rfl, q _ (J2.hok.fresh (Nat.le_refl _))⟩
  rw [Array.toArray_toList]
  exact z.made
def tLstRev (K : PySem.W.Frag) (te : TE) : TE := fun σ H Q => te σ H fun v H1 => ∃ (a : Addr) (xs : List V), v = .ref a ∧ SqL K H1 a xs ∧ ∀ l, H1 l = none → Q (.ref l) (upd H1 l (.lst xs.reverse))
theorem pe_listRev {e : Expr} {te : TE} (calm : X.calm = true) (gl : Gl X "list") (ml : X.mg "list" = none) (gr : Gl X "reversed") (mr : X.mg "reversed" = none) (he : PE X e te) (hK : X.K = K := by rfl)
    (inner : starEach [e] X.env = (false, eval e X.env) :: starEach [] X.env := by rfl)
    (outer : starEach [.Call (.Name "reversed" p2) [e] [] pos2] X.env = (false, eval (.Call (.Name "reversed" p2) [e] [] pos2) X.env) :: starEach [] X.env := by rfl) :
    PE X (.Call (.Name "list" p) [.Call (.Name "reversed" p2) [e] [] pos2] [] pos) (tLstRev K te) := by
  subst hK
  constructor
  intro pins t σ H Q J h
  refine by_type J gl ml (T := "list") (by decide +kernel) (by decide) (by decide) outer (by_type J gr mr boot_reversed (by decide) (by decide) inner (thn (he.run pins t σ H _ J h) ?_))
  rintro u t ⟨_, H1, J1, r, a, xs, rfl, sq, q⟩
  change u = Value.ref a at r
  subst r
  obtain ⟨its, zs, pl, few⟩ := J1.list sq
  exact call_reversed_list pl.isList (lay_back J1 calm zs pl few q)
end
section
variable {σ : L2.St} {H : Hp} {te : TE} {Q : VK} {K : PySem.W.Frag} {Z : Hp} {L : Lx} {a : Addr} {xs ys : List V}
def kListRev (K : PySem.W.Frag) (v : V) (H1 : Hp) (Q : VK) : Prop := ∃ (a : Addr) (xs : List V), v = .ref a ∧ SqL K H1 a xs ∧ ∀ l, H1 l = none → Q (.ref l) (upd H1 l (.lst xs.reverse))
theorem w_listRev (h : te σ H fun v H1 => kListRev K v H1 Q) : tLstRev K te σ H Q := h
theorem k_listRev (S : SH Z L H) (h : In Z L a (.lst xs)) (e : xs.reverse = ys) (q : ∀ p H1, SH Z ((p, .lst ys) :: L) H1 → Q (.ref p) H1) : kListRev K (.ref a) H Q :=
  ⟨a, xs, rfl, SqL.of (S.at h), fun l hl => by rw [e]; exact q l _ (S.new hl)⟩
end
end AL
/-! A8 -/
namespace AL
open PySem PySem.Spec PyProof.Rows L2
/-! ### loops and comprehensions -/
inductive SetN : L2.St → Nat → L2.St → Prop where
  | z {y r} : SetN (y :: r) 0 (none :: r)
  | s {y r n r1} (h : SetN r n r1) : SetN (y :: r) (n + 1) (y :: r1)
theorem SetN.eq {σ σ1 : L2.St} {i : Nat} (h : SetN σ i σ1) : σ.set i none = σ1 := by
  induction h with
  | z => rfl
  | s _ ih => rw [List.set_cons_succ, ih]
inductive WipeR : L2.St → List Nat → L2.St → Prop where
  | nil {σ} : WipeR σ [] σ
  | cons {σ v vs σ1 σ2} (h : WipeR σ vs σ1) (h2 : SetN σ1 v σ2) : WipeR σ (v :: vs) σ2
theorem WipeR.eq {σ σ1 : L2.St} {vs : List Nat} (h : WipeR σ vs σ1) : wipe σ vs = σ1 := by
  induction h with
  | nil => rfl
  | cons _ h2 ih => show (wipe _ _).set _ none = _; rw [ih, h2.eq]
section
variable {N B C : L2.St → Hp → Prop} {R : VK} {σ σ1 σw : L2.St} {H : Hp} {tb : TS} {te ta tl : TE} {tt tc : TT} {g : TG} {Q : VK} {QI : It → Hp → Prop} {vs : List Nat} {K : PySem.W.Frag}
variable {Z : Hp} {L L1 : Lx} {a b : Addr} {xs ys : List V} {wi : TI}
theorem k_wipe {A1 : Prop} {s1 s2 : L2.St} {v : List Nat} (h : wipe s1 v = wipe s2 v) (q : A1) : wipe s1 v = wipe s2 v ∧ A1 := ⟨h, q⟩
theorem w_yes {QB : Bool → Hp → Prop} (q : QB true H) : tYes σ H QB := q
/-- the loop's clause, the turns being J's: that of a loop whose iterator is there -/
abbrev ForK (J : It) (g : TG) (tb : TS) (N : L2.St → Hp → Prop) (R : VK) (σ : L2.St) (H1 : Hp) : Prop := tFor (fun _ H k => k J H) g tb ⟨N, R, N, N⟩ σ H1
theorem w_for (h : wi σ H fun J H1 => ForK J g tb N R σ H1) : tFor wi g tb ⟨N, R, B, C⟩ σ H := h
theorem w_iTup (h : tl σ H fun x H1 => ∃ a, x = .ref a ∧ (∃ xs, SqT K H1 a xs) ∧ QI (Itt K a) H1) : iTup K tl σ H QI := h
theorem w_iList (h : tl σ H fun x H1 => ∃ a, x = .ref a ∧ (∃ xs, SqL K H1 a xs) ∧ QI (Itl K a) H1) : iList K tl σ H QI := h
theorem k_for {J : It} {n : Nat} {G : Hp → Prop} {Y : Nat → Hp → V → Hp → Prop} (w : L2.Walk J n G Y) (Pv : Nat → L2.St → Hp → Prop) (h0 : Pv 0 σ H) (hG : ∀ i σ H, i ≤ n → Pv i σ H → G H)
    (hs : ∀ i x σ H H', i < n → Pv i σ H → Y i H x H' → g x σ H' fun σ2 H2 => tb ⟨Pv (i + 1), R, N, Pv (i + 1)⟩ σ2 H2) (hd : ∀ σ H, Pv n σ H → N σ H) : ForK J g tb N R σ H :=
  for_it w (D := ⟨N, R, N, N⟩) Pv h0 hG hs hd
/-- for x in a tuple -/
theorem k_for_tup (S : SH Z L H) (h : In Z L a (.tup xs)) (Pv : Nat → L2.St → Hp → Prop) (h0 : Pv 0 σ H) (hG : ∀ i σ H, Pv i σ H → H a = some (.tup xs))
    (hs : ∀ i x σ H, xs[i]? = some x → Pv i σ H → g x σ H fun σ2 H2 => tb ⟨Pv (i + 1), R, N, Pv (i + 1)⟩ σ2 H2) (hd : ∀ σ H, Pv xs.length σ H → N σ H) :
    ∃ a', V.ref a = .ref a' ∧ (∃ xs, SqT K H a' xs) ∧ ForK (Itt K a') g tb N R σ H :=
  ⟨a, rfl, ⟨xs, SqT.of (S.at h)⟩, k_for (n := xs.length) (walk_tup (xs := xs)) Pv h0 (fun i σ H _ p => SqT.of (hG i σ H p)) (fun i x σ H H' _ p y => by obtain ⟨rfl, y⟩ := y; exact hs i x σ H' y p) hd⟩
theorem k_for_list (S : SH Z L H) (h : In Z L a (.lst xs)) (Pv : Nat → L2.St → Hp → Prop) (h0 : Pv 0 σ H) (hG : ∀ i σ H, Pv i σ H → H a = some (.lst xs))
    (hs : ∀ i x σ H, xs[i]? = some x → Pv i σ H → g x σ H fun σ2 H2 => tb ⟨Pv (i + 1), R, N, Pv (i + 1)⟩ σ2 H2) (hd : ∀ σ H, Pv xs.length σ H → N σ H) :
    ∃ a', V.ref a = .ref a' ∧ (∃ xs, SqL K H a' xs) ∧ ForK (Itl K a') g tb N R σ H :=
  ⟨a, rfl, ⟨xs, SqL.of (S.at h)⟩, k_for (n := xs.length) (walk_list (xs := xs)) Pv h0 (fun i σ H _ p => SqL.of (hG i σ H p)) (fun i x σ H H' _ p y => by obtain ⟨rfl, y⟩ := y; exact hs i x σ H' y p) hd⟩
/-- for a, b in zip(list, list) -/
theorem w_iZip {ta : TA} (h : ta σ H fun vs H1 => ∃ a b xs ys, vs = [.ref a, .ref b] ∧ SqL K H1 a xs ∧ SqL K H1 b ys ∧ QI (Itz K a b) H1) : iZip K ta σ H QI := h
theorem k_for_zip (S : SH Z L H) (h : In Z L a (.lst xs)) (h2 : In Z L b (.lst ys)) (hl : xs.length = ys.length) (Pv : Nat → L2.St → Hp → Prop) (h0 : Pv 0 σ H) (hG : ∀ i σ H, Pv i σ H → H a = some (.lst xs) ∧ H b = some (.lst ys))
    (hs : ∀ i x y σ H, xs[i]? = some x → ys[i]? = some y → Pv i σ H → ∀ t, H t = none → g (.ref t) σ (upd H t (.tup [x, y])) fun σ2 H2 => tb ⟨Pv (i + 1), R, N, Pv (i + 1)⟩ σ2 H2) (hd : ∀ σ H, Pv xs.length σ H → N σ H) :
    ∃ a' b' xs ys, [V.ref a, V.ref b] = [.ref a', .ref b'] ∧ SqL K H a' xs ∧ SqL K H b' ys ∧ ForK (Itz K a' b') g tb N R σ H :=
  ⟨a, b, xs, ys, rfl, SqL.of (S.at h), SqL.of (S.at h2), k_for (n := xs.length) (walk_zip (xs := xs) (ys := ys) (by omega)) Pv h0 (fun i σ H _ p => ⟨SqL.of (hG i σ H p).1, SqL.of (hG i σ H p).2⟩)
    (fun i x σ H H' _ p y => by obtain ⟨t, x1, y1, rfl, ht, rfl, e1, e2⟩ := y; exact hs i x1 y1 σ H e1 e2 p t ht) hd⟩
theorem w_iRev {ta : TA} (h : ta σ H fun vs H1 => ∃ (a : Addr) (xs : List V), vs = [.ref a] ∧ SqL K H1 a xs ∧ QI (Itv K a xs.length) H1) : iRev K ta σ H QI := h
theorem k_for_rev (S : SH Z L H) (h : In Z L a (.lst xs)) (Pv : Nat → L2.St → Hp → Prop) (h0 : Pv 0 σ H) (hG : ∀ i σ H, Pv i σ H → H a = some (.lst xs))
    (hs : ∀ i x σ H, i < xs.length → xs[xs.length - 1 - i]? = some x → Pv i σ H → g x σ H fun σ2 H2 => tb ⟨Pv (i + 1), R, N, Pv (i + 1)⟩ σ2 H2) (hd : ∀ σ H, Pv xs.length σ H → N σ H) :
    ∃ (a' : Addr) (xs : List V), [V.ref a] = [.ref a'] ∧ SqL K H a' xs ∧ ForK (Itv K a' xs.length) g tb N R σ H :=
  ⟨a, xs, rfl, SqL.of (S.at h), k_for (n := xs.length) (walk_rev (xs := xs)) Pv h0 (fun i σ H _ p => SqL.of (hG i σ H p)) (fun i x σ H H' hi p y => by obtain ⟨rfl, y⟩ := y; exact hs i x σ H' hi y p) hd⟩
theorem w_iEnum {ta : TA} (h : ta σ H fun vs H1 => ∃ a xs, vs = [.ref a] ∧ SqL K H1 a xs ∧ QI (Ite K a) H1) : iEnum K ta σ H QI := h
theorem k_for_enum (S : SH Z L H) (h : In Z L a (.lst xs)) (Pv : Nat → L2.St → Hp → Prop) (h0 : Pv 0 σ H) (hG : ∀ i σ H, Pv i σ H → H a = some (.lst xs))
    (hs : ∀ i x σ H, xs[i]? = some x → Pv i σ H → ∀ t, H t = none → g (.ref t) σ (upd H t (.tup [.int (i : Nat), x])) fun σ2 H2 => tb ⟨Pv (i + 1), R, N, Pv (i + 1)⟩ σ2 H2) (hd : ∀ σ H, Pv xs.length σ H → N σ H) :
    ∃ a' xs, [V.ref a] = [.ref a'] ∧ SqL K H a' xs ∧ ForK (Ite K a') g tb N R σ H :=
  ⟨a, xs, rfl, SqL.of (S.at h), k_for (n := xs.length) (walk_enum (xs := xs)) Pv h0 (fun i σ H _ p => SqL.of (hG i σ H p)) (fun i x σ H H' _ p y => by
    obtain ⟨t, x1, y1, rfl, ht, rfl, e1, e2⟩ := y
    obtain rfl : V.int (i : Nat) = x1 := Option.some.inj e1
    exact hs i y1 σ H e2 p t ht) hd⟩
theorem w_iRng1 {ta : TA} (h : ta σ H fun vs H1 => ∃ j : Int, vs = [.int j] ∧ -(2 ^ 62) ≤ j ∧ j < 2 ^ 62 ∧ QI (Itr 0 j.toNat) H1) : iRng1 ta σ H QI := h
theorem k_for_rng {j : Int} (h1 : 0 ≤ j) (h2 : j < 1000000) (Pv : Nat → L2.St → Hp → Prop) (h0 : Pv 0 σ H)
    (hs : ∀ (i : Nat) σ H, (i : Int) < j → Pv i σ H → g (.int i) σ H fun σ2 H2 => tb ⟨Pv (i + 1), R, N, Pv (i + 1)⟩ σ2 H2) (hd : ∀ σ H, Pv j.toNat σ H → N σ H) :
    ∃ j' : Int, [V.int j] = [.int j'] ∧ -(2 ^ 62) ≤ j' ∧ j' < 2 ^ 62 ∧ ForK (Itr 0 j'.toNat) g tb N R σ H :=
  ⟨j, rfl, by omega, by omega, k_for (n := j.toNat) (walk_range) Pv h0 (fun _ _ _ _ _ => True.intro) (fun i x σ H H' hi p y => by
    obtain ⟨rfl, rfl⟩ := y
    have e : V.int ((0 : Int) + ((i : Nat) : Int)) = V.int (i : Nat) := by rw [Int.zero_add]
    show g (V.int ((0 : Int) + ((i : Nat) : Int))) _ _ _
    rw [e]
    exact hs i σ H' (by omega) p) hd⟩
/-! while -/
theorem w_while (W : Nat → L2.St → Hp → Prop) (m : Nat) (w0 : W m σ H) (hs : ∀ m σ H, W m σ H → tc σ H fun b H1 => if b = true then (∃ N1 : L2.St → Hp → Prop, (∀ σ' H', N1 σ' H' → ∃ m', m' < m ∧ W m' σ' H') ∧ tb ⟨N1, R, N, N1⟩ σ H1) else N σ H1) :
    tWhile tc tb ⟨N, R, B, C⟩ σ H := ⟨W, ⟨m, w0⟩, hs⟩
theorem k_turn {W : Nat → L2.St → Hp → Prop} {m : Nat} (h : tb ⟨fun σ' H' => ∃ m', m' < m ∧ W m' σ' H', R, N, fun σ' H' => ∃ m', m' < m ∧ W m' σ' H'⟩ σ H) : ∃ N1 : L2.St → Hp → Prop, (∀ σ' H', N1 σ' H' → ∃ m', m' < m ∧ W m' σ' H') ∧ tb ⟨N1, R, N, N1⟩ σ H := ⟨_, fun _ _ z => z, h⟩
/-! comprehensions -/
def kApp (D : Addr) (y : V) (H : Hp) (NN : Hp → Prop) : Prop := ∃ acc, H D = some (.lst acc) ∧ acc.length < sizeLine ∧ NN (upd H D (.lst (acc ++ [y])))
/-- the clause of a comprehension whose iterator is there; Qd of the new list's place -/
abbrev LcK (J : It) (g : TG) (tt : TT) (te : TE) (vs : List Nat) (σ : L2.St) (H1 : Hp) (Qd : Addr → Hp → Prop) : Prop :=
  tLc (fun _ H k => k J H) g tt te vs σ H1 fun v H => match v with | .ref D => Qd D H | _ => True
theorem w_lc (h : wi σ H fun J H1 => LcK J g tt te vs σ H1 fun D => Q (.ref D)) : tLc wi g tt te vs σ H Q := h
theorem k_lc {J : It} {n : Nat} {G : Hp → Prop} {Y : Nat → Hp → V → Hp → Prop} {Qd : Addr → Hp → Prop} (w : L2.Walk J n G Y) (S : SH Z L H) (hw : WipeR σ vs σw) (Pv : Addr → Nat → Hp → Prop) (h0 : ∀ D H1, SH Z ((D, .lst []) :: L) H1 → Pv D 0 H1) (hG : ∀ D i H, i ≤ n → Pv D i H → G H)
    (hs : ∀ D i x H H', i < n → Pv D i H → Y i H x H' → g x σw H' fun σ2 H2 => wipe σ2 vs = wipe σw vs ∧ tt σ2 H2 fun b H3 =>
      if b = true then te σ2 H3 fun y H4 => kApp D y H4 (Pv D (i + 1)) else Pv D (i + 1) H3) (hww : WipeR σw vs σw) (hd : ∀ D H, Pv D n H → Qd D H) :
    LcK J g tt te vs σ H Qd := by
  intro D hD
  have e1 := hw.eq
  have e2 := hww.eq
  refine lc_it w (Pv D) (h0 D _ (S.new hD)) (hG D) (fun i x H H' hi p y => ?_) (hd D)
  have q := hs D i x H H' hi p y
  rw [e2] at q
  rw [e1]
  exact q
/-- the new item -/
theorem k_lcapp {D : Addr} {acc : List V} {y : V} {NN : Hp → Prop} (S : SH Z L H) (h : (D, HO.lst acc) ∈ L) (hl : acc.length < sizeLine) (ha : AppR acc y ys) (hw : Wr L D (.lst ys) L1) (q : ∀ H1, SH Z L1 H1 → NN H1) : kApp D y H NN := ⟨acc, S.l _ _ h, hl, by rw [ha.eq]; exact q _ (S.wr hw)⟩
/-- [.. for x in a tuple ..] -/
theorem k_lc_tup {Qd : Addr → Hp → Prop} (S : SH Z L H) (h : In Z L a (.tup xs)) (hw : WipeR σ vs σw) (Pv : Addr → Nat → Hp → Prop) (h0 : ∀ D H1, SH Z ((D, .lst []) :: L) H1 → Pv D 0 H1) (hG : ∀ D i H, Pv D i H → H a = some (.tup xs))
    (hs : ∀ D i x H, xs[i]? = some x → Pv D i H → g x σw H fun σ2 H2 => wipe σ2 vs = wipe σw vs ∧ tt σ2 H2 fun b H3 =>
      if b = true then te σ2 H3 fun y H4 => kApp D y H4 (Pv D (i + 1)) else Pv D (i + 1) H3) (hww : WipeR σw vs σw) (hd : ∀ D H, Pv D xs.length H → Qd D H) :
    ∃ a', V.ref a = .ref a' ∧ (∃ xs, SqT K H a' xs) ∧ LcK (Itt K a') g tt te vs σ H Qd :=
  ⟨a, rfl, ⟨xs, SqT.of (S.at h)⟩, k_lc (n := xs.length) (walk_tup (xs := xs)) S hw Pv h0 (fun D i H _ p => SqT.of (hG D i H p)) (fun D i x H H' _ p y => by obtain ⟨rfl, y⟩ := y; exact hs D i x H' y p) hww hd⟩
theorem k_lc_list {Qd : Addr → Hp → Prop} (S : SH Z L H) (h : In Z L a (.lst xs)) (hw : WipeR σ vs σw) (Pv : Addr → Nat → Hp → Prop) (h0 : ∀ D H1, SH Z ((D, .lst []) :: L) H1 → Pv D 0 H1) (hG : ∀ D i H, Pv D i H → H a = some (.lst xs))
    (hs : ∀ D i x H, xs[i]? = some x → Pv D i H → g x σw H fun σ2 H2 => wipe σ2 vs = wipe σw vs ∧ tt σ2 H2 fun b H3 =>
      if b = true then te σ2 H3 fun y H4 => kApp D y H4 (Pv D (i + 1)) else Pv D (i + 1) H3) (hww : WipeR σw vs σw) (hd : ∀ D H, Pv D xs.length H → Qd D H) :
    ∃ a', V.ref a = .ref a' ∧ (∃ xs, SqL K H a' xs) ∧ LcK (Itl K a') g tt te vs σ H Qd :=
  ⟨a, rfl, ⟨xs, SqL.of (S.at h)⟩, k_lc (n := xs.length) (walk_list (xs := xs)) S hw Pv h0 (fun D i H _ p => SqL.of (hG D i H p)) (fun D i x H H' _ p y => by obtain ⟨rfl, y⟩ := y; exact hs D i x H' y p) hww hd⟩
theorem k_lc_rev {Qd : Addr → Hp → Prop} (S : SH Z L H) (h : In Z L a (.lst xs)) (hw : WipeR σ vs σw) (Pv : Addr → Nat → Hp → Prop) (h0 : ∀ D H1, SH Z ((D, .lst []) :: L) H1 → Pv D 0 H1) (hG : ∀ D i H, Pv D i H → H a = some (.lst xs))
    (hs : ∀ D i x H, i < xs.length → xs[xs.length - 1 - i]? = some x → Pv D i H → g x σw H fun σ2 H2 => wipe σ2 vs = wipe σw vs ∧ tt σ2 H2 fun b H3 =>
      if b = true then te σ2 H3 fun y H4 => kApp D y H4 (Pv D (i + 1)) else Pv D (i + 1) H3) (hww : WipeR σw vs σw) (hd : ∀ D H, Pv D xs.length H → Qd D H) :
    ∃ (a' : Addr) (xs : List V), [V.ref a] = [.ref a'] ∧ SqL K H a' xs ∧ LcK (Itv K a' xs.length) g tt te vs σ H Qd :=
  ⟨a, xs, rfl, SqL.of (S.at h), k_lc (n := xs.length) (walk_rev (xs := xs)) S hw Pv h0 (fun D i H _ p => SqL.of (hG D i H p)) (fun D i x H H' hi p y => by obtain ⟨rfl, y⟩ := y; exact hs D i x H' hi y p) hww hd⟩
theorem k_lc_rng {Qd : Addr → Hp → Prop} {j : Int} (h1 : 0 ≤ j) (h2 : j < 1000000) (S : SH Z L H) (hw : WipeR σ vs σw) (Pv : Addr → Nat → Hp → Prop) (h0 : ∀ D H1, SH Z ((D, .lst []) :: L) H1 → Pv D 0 H1)
    (hs : ∀ D (i : Nat) H, (i : Int) < j → Pv D i H → g (.int i) σw H fun σ2 H2 => wipe σ2 vs = wipe σw vs ∧ tt σ2 H2 fun b H3 =>
      if b = true then te σ2 H3 fun y H4 => kApp D y H4 (Pv D (i + 1)) else Pv D (i + 1) H3) (hww : WipeR σw vs σw) (hd : ∀ D H, Pv D j.toNat H → Qd D H) :
    ∃ j' : Int, [V.int j] = [.int j'] ∧ -(2 ^ 62) ≤ j' ∧ j' < 2 ^ 62 ∧ LcK (Itr 0 j'.toNat) g tt te vs σ H Qd :=
  ⟨j, rfl, by omega, by omega, k_lc (n := j.toNat) (walk_range) S hw Pv h0 (fun _ _ _ _ _ => True.intro) (fun D i x H H' hi p y => by
    obtain ⟨rfl, rfl⟩ := y
    have e : V.int ((0 : Int) + ((i : Nat) : Int)) = V.int (i : Nat) := by rw [Int.zero_add]
    show g (V.int ((0 : Int) + ((i : Nat) : Int))) _ _ _
    rw [e]
    exact hs D i H' (by omega) p) hww hd⟩
end
end AL
/-! A9 -/
namespace AL
open PySem PySem.Spec PyProof.Rows L2
/-! ### loops over a few written things, turn by turn -/
/-- for x in the things that are left; o: what stands at a (a tuple, a list), which stays -/
def Unr (a : Addr) (o : HO) (g : TG) (tb : TS) (N : L2.St → Hp → Prop) (R : VK) : List V → L2.St → Hp → Prop
  | [], σ, H => N σ H
  | x :: r, σ, H => g x σ H fun σ2 H2 => tb ⟨fun σ' H' => H' a = some o ∧ Unr a o g tb N R r σ' H', R, N, fun σ' H' => H' a = some o ∧ Unr a o g tb N R r σ' H'⟩ σ2 H2
def UnrZ (a b : Addr) (o u : HO) (g : TG) (tb : TS) (N : L2.St → Hp → Prop) (R : VK) : List (V × V) → L2.St → Hp → Prop
  | [], σ, H => N σ H
  | x :: r, σ, H => ∀ t, H t = none → g (.ref t) σ (upd H t (.tup [x.1, x.2])) fun σ2 H2 => tb ⟨fun σ' H' => (H' a = some o ∧ H' b = some u) ∧ UnrZ a b o u g tb N R r σ' H', R, N, fun σ' H' => (H' a = some o ∧ H' b = some u) ∧ UnrZ a b o u g tb N R r σ' H'⟩ σ2 H2
/-- a comprehension's block -/
def UnrC (a : Addr) (o : HO) (g : TG) (tt : TT) (te : TE) (vs : List Nat) (σw : L2.St) (D : Addr) (Qd : Addr → Hp → Prop) : List V → Hp → Prop
  | [], H => Qd D H
  | x :: r, H => g x σw H fun σ2 H2 => wipe σ2 vs = wipe σw vs ∧ tt σ2 H2 fun b H3 =>
      if b = true then te σ2 H3 fun y H4 => kApp D y H4 fun H5 => H5 a = some o ∧ UnrC a o g tt te vs σw D Qd r H5 else H3 a = some o ∧ UnrC a o g tt te vs σw D Qd r H3
section
variable {N B C : L2.St → Hp → Prop} {R : VK} {σ σ1 σw : L2.St} {H : Hp} {tb : TS} {te ta tl : TE} {tt tc : TT} {g : TG} {Q : VK} {vs : List Nat} {K : PySem.W.Frag} {Z : Hp} {L L1 : Lx} {a b t : Addr} {xs ys r : List V} {x y : V} {o u : HO}
theorem w_unr (h : g x σ H fun σ2 H2 => tb ⟨fun σ' H' => H' a = some o ∧ Unr a o g tb N R r σ' H', R, N, fun σ' H' => H' a = some o ∧ Unr a o g tb N R r σ' H'⟩ σ2 H2) : Unr a o g tb N R (x :: r) σ H := h
theorem w_unr0 (h : N σ H) : Unr a o g tb N R [] σ H := h
theorem k_unr (S : SH Z L H) (h : In Z L a o) (q : Unr a o g tb N R r σ H) : H a = some o ∧ Unr a o g tb N R r σ H := ⟨S.at h, q⟩
theorem w_unrz {z : V × V} {rr : List (V × V)} (S : SH Z L H) (h : ∀ t H1, SH Z ((t, .tup [z.1, z.2]) :: L) H1 → g (.ref t) σ H1 fun σ2 H2 => tb ⟨fun σ' H' => (H' a = some o ∧ H' b = some u) ∧ UnrZ a b o u g tb N R rr σ' H', R, N, fun σ' H' => (H' a = some o ∧ H' b = some u) ∧ UnrZ a b o u g tb N R rr σ' H'⟩ σ2 H2) : UnrZ a b o u g tb N R (z :: rr) σ H :=
  fun t ht => h t _ (S.new ht)
theorem w_unrz0 (h : N σ H) : UnrZ a b o u g tb N R [] σ H := h
theorem k_unrz {rr : List (V × V)} (S : SH Z L H) (h : In Z L a o) (h2 : In Z L b u) (q : UnrZ a b o u g tb N R rr σ H) : (H a = some o ∧ H b = some u) ∧ UnrZ a b o u g tb N R rr σ H := ⟨⟨S.at h, S.at h2⟩, q⟩
theorem w_unrc {D : Addr} {Qd : Addr → Hp → Prop} (h : g x σw H fun σ2 H2 => wipe σ2 vs = wipe σw vs ∧ tt σ2 H2 fun b H3 =>
      if b = true then te σ2 H3 fun y H4 => kApp D y H4 fun H5 => H5 a = some o ∧ UnrC a o g tt te vs σw D Qd r H5 else H3 a = some o ∧ UnrC a o g tt te vs σw D Qd r H3) : UnrC a o g tt te vs σw D Qd (x :: r) H := h
theorem w_unrc0 {D : Addr} {Qd : Addr → Hp → Prop} (h : Qd D H) : UnrC a o g tt te vs σw D Qd [] H := h
theorem k_unrc {D : Addr} {Qd : Addr → Hp → Prop} (S : SH Z L H) (h : In Z L a o) (q : UnrC a o g tt te vs σw D Qd r H) : H a = some o ∧ UnrC a o g tt te vs σw D Qd r H := ⟨S.at h, q⟩
theorem drop_get {α : Type} {l : List α} {i : Nat} {x : α} (h : l[i]? = some x) : l.drop i = x :: l.drop (i + 1) := by
  obtain ⟨hi, e⟩ := List.getElem?_eq_some_iff.mp h
  rw [List.drop_eq_getElem_cons hi, e]
theorem u_for_tup (S : SH Z L H) (h : In Z L a (.tup xs)) (q : Unr a (.tup xs) g tb N R xs σ H) : ∃ a', V.ref a = .ref a' ∧ (∃ xs, SqT K H a' xs) ∧ ForK (Itt K a') g tb N R σ H :=
  k_for_tup S h (fun i σ H => H a = some (.tup xs) ∧ Unr a (.tup xs) g tb N R (xs.drop i) σ H) ⟨S.at h, q⟩ (fun _ _ _ p => p.1) (fun i x σ H hx p => by
    have p2 := p.2
    rw [drop_get hx] at p2
    exact p2) (fun σ H p => by
    have p2 := p.2
    rw [List.drop_length] at p2
    exact p2)
theorem u_for_list (S : SH Z L H) (h : In Z L a (.lst xs)) (q : Unr a (.lst xs) g tb N R xs σ H) : ∃ a', V.ref a = .ref a' ∧ (∃ xs, SqL K H a' xs) ∧ ForK (Itl K a') g tb N R σ H :=
  k_for_list S h (fun i σ H => H a = some (.lst xs) ∧ Unr a (.lst xs) g tb N R (xs.drop i) σ H) ⟨S.at h, q⟩ (fun _ _ _ p => p.1) (fun i x σ H hx p => by
    have p2 := p.2
    rw [drop_get hx] at p2
    exact p2) (fun σ H p => by
    have p2 := p.2
    rw [List.drop_length] at p2
    exact p2)
theorem u_for_rev (S : SH Z L H) (h : In Z L a (.lst xs)) (q : Unr a (.lst xs) g tb N R xs.reverse σ H) : ∃ (a' : Addr) (xs : List V), [V.ref a] = [.ref a'] ∧ SqL K H a' xs ∧ ForK (Itv K a' xs.length) g tb N R σ H :=
  k_for_rev S h (fun i σ H => H a = some (.lst xs) ∧ Unr a (.lst xs) g tb N R (xs.reverse.drop i) σ H) ⟨S.at h, q⟩ (fun _ _ _ p => p.1) (fun i x σ H hi hx p => by
    have p2 := p.2
    rw [drop_get (x := x) (by rw [List.getElem?_reverse hi]; exact hx)] at p2
    exact p2) (fun σ H p => by
    have p2 := p.2
    rw [← List.length_reverse, List.drop_length] at p2
    exact p2)
theorem u_for_zip (S : SH Z L H) (h : In Z L a (.lst xs)) (h2 : In Z L b (.lst ys)) (hl : xs.length = ys.length) (q : UnrZ a b (.lst xs) (.lst ys) g tb N R (xs.zip ys) σ H) :
    ∃ a' b' xs ys, [V.ref a, V.ref b] = [.ref a', .ref b'] ∧ SqL K H a' xs ∧ SqL K H b' ys ∧ ForK (Itz K a' b') g tb N R σ H :=
  k_for_zip S h h2 hl (fun i σ H => (H a = some (.lst xs) ∧ H b = some (.lst ys)) ∧ UnrZ a b (.lst xs) (.lst ys) g tb N R ((xs.zip ys).drop i) σ H) ⟨⟨S.at h, S.at h2⟩, q⟩ (fun _ _ _ p => p.1) (fun i x y σ H hx hy p => by
    have p2 := p.2
    rw [drop_get (x := (x, y)) (by rw [List.getElem?_zip_eq_some]; exact ⟨hx, hy⟩)] at p2
    exact p2) (fun σ H p => by
    have p2 := p.2
    rw [List.drop_of_length_le (by rw [List.length_zip]; omega)] at p2
    exact p2)
theorem u_lc_tup {Qd : Addr → Hp → Prop} (S : SH Z L H) (h : In Z L a (.tup xs)) (hw : WipeR σ vs σw) (hww : WipeR σw vs σw) (q : ∀ D H1, SH Z ((D, .lst []) :: L) H1 → UnrC a (.tup xs) g tt te vs σw D Qd xs H1) :
    ∃ a', V.ref a = .ref a' ∧ (∃ xs, SqT K H a' xs) ∧ LcK (Itt K a') g tt te vs σ H Qd :=
  k_lc_tup S h hw (fun D i H => H a = some (.tup xs) ∧ UnrC a (.tup xs) g tt te vs σw D Qd (xs.drop i) H) (fun D H S1 => ⟨S1.at (by cases h with | l h => exact .l (List.mem_cons_of_mem _ h) | z h => exact .z h), q D H S1⟩) (fun _ _ _ p => p.1) (fun D i x H hx p => by
    have p2 := p.2
    rw [drop_get hx] at p2
    exact p2) hww (fun D H p => by
    have p2 := p.2
    rw [List.drop_length] at p2
    exact p2)
theorem u_lc_list {Qd : Addr → Hp → Prop} (S : SH Z L H) (h : In Z L a (.lst xs)) (hw : WipeR σ vs σw) (hww : WipeR σw vs σw) (q : ∀ D H1, SH Z ((D, .lst []) :: L) H1 → UnrC a (.lst xs) g tt te vs σw D Qd xs H1) :
    ∃ a', V.ref a = .ref a' ∧ (∃ xs, SqL K H a' xs) ∧ LcK (Itl K a') g tt te vs σ H Qd :=
  k_lc_list S h hw (fun D i H => H a = some (.lst xs) ∧ UnrC a (.lst xs) g tt te vs σw D Qd (xs.drop i) H) (fun D H S1 => ⟨S1.at (by cases h with | l h => exact .l (List.mem_cons_of_mem _ h) | z h => exact .z h), q D H S1⟩) (fun _ _ _ p => p.1) (fun D i x H hx p => by
    have p2 := p.2
    rw [drop_get hx] at p2
    exact p2) hww (fun D H p => by
    have p2 := p.2
    rw [List.drop_length] at p2
    exact p2)
theorem u_lc_rev {Qd : Addr → Hp → Prop} (S : SH Z L H) (h : In Z L a (.lst xs)) (hw : WipeR σ vs σw) (hww : WipeR σw vs σw) (q : ∀ D H1, SH Z ((D, .lst []) :: L) H1 → UnrC a (.lst xs) g tt te vs σw D Qd xs.reverse H1) :
    ∃ (a' : Addr) (xs : List V), [V.ref a] = [.ref a'] ∧ SqL K H a' xs ∧ LcK (Itv K a' xs.length) g tt te vs σ H Qd :=
  k_lc_rev S h hw (fun D i H => H a = some (.lst xs) ∧ UnrC a (.lst xs) g tt te vs σw D Qd (xs.reverse.drop i) H) (fun D H S1 => ⟨S1.at (by cases h with | l h => exact .l (List.mem_cons_of_mem _ h) | z h => exact .z h), q D H S1⟩) (fun _ _ _ p => p.1) (fun D i x H hi hx p => by
    have p2 := p.2
    rw [drop_get (x := x) (by rw [List.getElem?_reverse hi]; exact hx)] at p2
    exact p2) hww (fun D H p => by
    have p2 := p.2
    rw [← List.length_reverse, List.drop_length] at p2
    exact p2)
end
end AL
/-! A10 -/
namespace AL
open PySem PySem.Spec PyProof.Rows L2
section
variable {X : Cx} {K : PySem.W.Frag}
theorem cr_sumK (hc : X.calm = true) (hK : X.K = K := by rfl) : CallR X (.builtin "sum") (rSum K) := by subst hK; exact cr_sum hc
theorem cr_maxK (hc : X.calm = true) (hK : X.K = K := by rfl) : CallR X (.builtin "max") (rMax K) := by subst hK; exact cr_max hc
def rMx2 : List V → Hp → VK → Prop := fun xs H Q => ∃ i j, xs = [.int i, .int j] ∧ Q (.int (if j > i then j else i)) H
def rMn2 : List V → Hp → VK → Prop := fun xs H Q => ∃ i j, xs = [.int i, .int j] ∧ Q (.int (if j < i then j else i)) H
theorem call_mx2 (hc : X.calm = true) : CallR X (.builtin "max") rMx2 := call_max2 hc
theorem call_mn2 (hc : X.calm = true) : CallR X (.builtin "min") rMn2 := call_min2 hc
end
section
variable {N B C : L2.St → Hp → Prop} {R : VK} {σ σ1 σw : L2.St} {H : Hp} {tb : TS} {te ta tl : TE} {tt tc : TT} {g : TG} {Q : VK} {QI : It → Hp → Prop} {vs : List Nat} {K : PySem.W.Frag}
variable {Z : Hp} {L L1 : Lx} {a b : Addr} {xs ys : List V} {wi : TI}
theorem k_mx2 {i j : Int} (q : Q (.int (if j > i then j else i)) H) : rMx2 [.int i, .int j] H Q := ⟨i, j, rfl, q⟩
theorem k_mn2 {i j : Int} (q : Q (.int (if j < i then j else i)) H) : rMn2 [.int i, .int j] H Q := ⟨i, j, rfl, q⟩
theorem w_orV (h : ta σ H fun x H1 => ∃ c, x = .bl c ∧ if c = true then Q (.bl true) H1 else te σ H1 Q) : tOrV ta te σ H Q := h
theorem w_iEnumT {ta : TA} (h : ta σ H fun vs H1 => ∃ a, vs = [.ref a] ∧ SqT K H1 a [] ∧ QI (ItNo K a) H1) : iEnumT K ta σ H QI := h
theorem k_for_no (S : SH Z L H) (h : In Z L a (.tup [])) (q : N σ H) : ∃ a', [V.ref a] = [.ref a'] ∧ SqT K H a' [] ∧ ForK (ItNo K a') g tb N R σ H :=
  ⟨a, rfl, SqT.of (S.at h), fun i m σ' H' => i = 0 ∧ σ' = σ ∧ H' = H, ⟨0, rfl, rfl, rfl⟩, fun i m σ' H' ⟨e1, e2, e3⟩ => by subst e1; subst e2; subst e3; exact .inl ⟨⟨rfl, SqT.of (S.at h)⟩, q⟩⟩
theorem k_lc_no {Qd : Addr → Hp → Prop} (S : SH Z L H) (h : In Z L a (.tup [])) (q : ∀ D H1, SH Z ((D, .lst []) :: L) H1 → Qd D H1) :
    ∃ a', [V.ref a] = [.ref a'] ∧ SqT K H a' [] ∧ LcK (ItNo K a') g tt te vs σ H Qd :=
  ⟨a, rfl, SqT.of (S.at h), fun D hD => ⟨fun i m H' => i = 0 ∧ H' = upd H D (.lst []), ⟨0, rfl, rfl⟩, fun i m H' ⟨e1, e2⟩ => by
    subst e1; subst e2
    have S1 := S.new (o := .lst []) hD
    refine .inl ⟨⟨rfl, SqT.of (S1.at ?_)⟩, q D _ S1⟩
    cases h with
    | l h => exact .l (List.mem_cons_of_mem _ h)
    | z h => exact .z h⟩⟩
theorem k_sum {ns : List Int} (S : SH Z L H) (h : In Z L a (.lst (ns.map V.int))) (q : Q (.int ns.sum) H) : rSum K [.ref a] H Q := ⟨a, ns, rfl, SqL.of (S.at h), q⟩
theorem k_max {ns : List Int} (S : SH Z L H) (h : In Z L a (.lst (ns.map V.int))) (hn : 0 < ns.length) (q : ∀ m, m ∈ ns → (∀ y, y ∈ ns → y ≤ m) → Q (.int m) H) : rMax K [.ref a] H Q := ⟨a, ns, rfl, SqL.of (S.at h), hn, q⟩
end
end AL
/-! A11 -/
namespace AL
open PySem PySem.Spec PyProof.Rows L2
section
variable {X : Cx} {K : PySem.W.Frag}
theorem op_catAK (hK : X.K = K := by rfl) : OpR X (binaryOp .Add) (L2.rCatA K) := by subst hK; exact op_catA
end
section
variable {X : Cx} {K : PySem.W.Frag} {x m f : Str} {p pos apos pos' : Pos} {e o value : Expr} {es : List Expr} {t : TA} {ta tv : TE} {k j : Nat} {ps : List Str} {sp : Sp}
theorem pe_atK {c : Cd} {i : Nat} (ok : CdOk K c) (he : PE X e ta) (hK : X.K = K := by rfl) (hi : c.names[i]? = some f := by rfl) (hb : attributeBase e f X.env (eval e X.env) = eval e X.env := by rfl) : PE X (.Attribute e f pos) (tAt K c i ta) := by
  subst hK; exact pe_at ok he hi hb
theorem ps_atK {c : Cd} {i : Nat} (ok : CdOk K c) (ha : PE X o ta) (hv : PE X value tv) (hK : X.K = K := by rfl) (hi : c.names[i]? = some f := by rfl) (hs : swapsWith value (some (.Attribute o f pos')) pos.line X.env = pure false := by rfl) : PS X (.Assign [.Attribute o f pos'] value pos) (sSt K c i ta tv) := by
  subst hK; exact ps_at ok ha hv hi hs
theorem pe_metK {c : Cd} (ok : CdOk K c) (G : Met X.prog X.w K X.mg X.base k c m ps sp) (hr : Room j X.A) (hmn : m ∉ c.names) (he : PE X o ta) (ha : PA X (e :: es) t) (hK : X.K = K := by rfl) (hj : k ≤ j := by decide)
    (hst : starEach (e :: es) X.env = (false, eval e X.env) :: starEach es X.env := by rfl) (hpl : (backTo pos (starEach es X.env)).any (·.1) = false := by rfl) {pl : Sem Bool}
    (ht : eval (.Call (.Attribute o m apos) (e :: es) [] pos) X.env = (do
      let ov ← eval o X.env
      standAt apos.atName
      let (f, first) ← holding [ov] (getMethod ov m pl)
      callWith pos f first (backTo pos (starEach (e :: es) X.env)) (backToKw pos (keywordEach [] X.env))) := by rfl) :
    PE X (.Call (.Attribute o m apos) (e :: es) [] pos) (tMet K c sp ta t) := by
  subst hK; exact pe_met ok G hr hmn he ha hj hst hpl ht
theorem pe_met0K {c : Cd} (ok : CdOk K c) (G : Met X.prog X.w K X.mg X.base k c m ps sp) (hr : Room j X.A) (hmn : m ∉ c.names) (he : PE X o ta) (hK : X.K = K := by rfl) (hj : k ≤ j := by decide) {pl : Sem Bool}
    (ht : eval (.Call (.Attribute o m apos) [] [] pos) X.env = (do
      let ov ← eval o X.env
      standAt apos.atName
      let (f, first) ← holding [ov] (getMethod ov m pl)
      callWith pos f first (backTo pos (starEach [] X.env)) (backToKw pos (keywordEach [] X.env))) := by rfl) :
    PE X (.Call (.Attribute o m apos) [] [] pos) (tMet K c sp ta tNil) := by
  subst hK; exact pe_met0 ok G hr hmn he hj ht
theorem pe_makK {c : Cd} (G : Mak X.prog X.w K X.mg X.base k c ps sp) (hr : Room j X.A) (ha : PA X (e :: es) t) (hK : X.K = K := by rfl) (hx : c.nm = x := by rfl) (hj : k + 1 ≤ j := by decide) (hg : Gl X x := by rfl) (hdb : (x == ("__debug__" : Str)) = false := by decide)
    (he : starEach (e :: es) X.env = (false, eval e X.env) :: starEach es X.env := by rfl) (hpl : (backTo pos (starEach es X.env)).any (·.1) = false := by rfl) : PE X (.Call (.Name x p) (e :: es) [] pos) (tMak K c sp t) := by
  subst hK; exact pe_mak G hr ha hx hj hg hdb he hpl
end
section
variable {K : PySem.W.Frag} {Q : VK} {Z : Hp} {L : Lx} {H : Hp} {a p : Addr} {xs ys : List V}
theorem k_catA (S : SH Z L H) (h : In Z L a (.tup xs)) (h2 : In Z L p (.tup ys)) (hl : xs.length + ys.length ≤ sizeLine)
    (q0 : xs = [] → Q (.ref p) H) (q1 : ys = [] → Q (.ref a) H) (q2 : ∀ p1 H1, SH Z ((p1, .tup (xs ++ ys)) :: L) H1 → Q (.ref p1) H1) : L2.rCatA K (.ref a) (.ref p) H Q :=
  ⟨a, p, xs, ys, rfl, rfl, SqT.of (S.at h), SqT.of (S.at h2), hl, q0, fun _ => q1, fun _ _ p1 hp => q2 p1 _ (S.new hp)⟩
/-- all but the first -/
theorem k_slT1 {x : V} (S : SH Z L H) (h : In Z L a (.tup (x :: xs))) (q : ∀ p H1, SH Z ((p, .tup xs) :: L) H1 → Q (.ref p) H1) : rSlT K (.ref a) (some 1) none H Q := by
  have e : HT.sIx (x :: xs).length 0 (some 1) = 1 := by
    rw [show (some 1 : Option Int) = some ((1 : Nat) : Int) from rfl, HT.sIx_nat, List.length_cons]
    omega
  refine k_slT (ys := xs) S h (fun ⟨h1, _⟩ => by rw [e] at h1; cases h1) ?_ q
  unfold cutV
  rw [e, HT.sIx_none]
  simp
end
end AL
set_option hygiene false in
local macro_rules | `(tactic| array_mem_dec) => `(tactic| assumption)
set_option hygiene false in
local macro_rules | `(tactic| array_mem_dec) => `(tactic| ((with_reducible apply List.mem_cons_of_mem); array_mem_dec))
set_option hygiene false in
local macro_rules | `(tactic| array_mem_dec) => `(tactic| exact List.mem_cons_self)
set_option hygiene false in
local macro_rules | `(tactic| wtm_at "mem") => `(tactic| first | array_mem_dec | fail)
set_option hygiene false in
local macro_rules | `(tactic| wtm_at "z_") => `(tactic| (refine AL.Same.app (by assumption) ?_; wtm_at "z_"))
set_option hygiene false in
local macro_rules | `(tactic| wtm_at "z_") => `(tactic| assumption)
set_option hygiene false in
local macro_rules | `(tactic| wtm_at "z") => `(tactic| first | wtm_at "z_" | fail)
set_option hygiene false in
local macro_rules | `(tactic| sizeOf_list_dec) => `(tactic| exact AL.In.z (by wtm_at "z"))
set_option hygiene false in
local macro_rules | `(tactic| sizeOf_list_dec) => `(tactic| exact AL.In.l (by wtm_at "mem"))
set_option hygiene false in
local macro_rules | `(tactic| wtm_at "in") => `(tactic| first | sizeOf_list_dec | fail)
set_option hygiene false in
local macro_rules | `(tactic| wtm_at "wr_") => `(tactic| ((with_reducible apply AL.Wr.next); wtm_at "wr_"))
set_option hygiene false in
local macro_rules | `(tactic| wtm_at "wr_") => `(tactic| with_reducible exact AL.Wr.here)
set_option hygiene false in
local macro_rules | `(tactic| wtm_at "wr") => `(tactic| first | wtm_at "wr_" | fail)
set_option hygiene false in
local macro_rules | `(tactic| wtm_at "setr_") => `(tactic| (apply AL.SetR.s; wtm_at "setr_"))
set_option hygiene false in
local macro_rules | `(tactic| wtm_at "setr_") => `(tactic| exact AL.SetR.z)
set_option hygiene false in
local macro_rules | `(tactic| wtm_at "setr") => `(tactic| first | wtm_at "setr_" | fail)
set_option hygiene false in
local macro_rules | `(tactic| wtm_at "seta_") => `(tactic| ((with_reducible apply AL.SetAR.next); wtm_at "seta_"))
set_option hygiene false in
local macro_rules | `(tactic| wtm_at "seta_") => `(tactic| with_reducible exact AL.SetAR.here)
set_option hygiene false in
local macro_rules | `(tactic| wtm_at "seta_") => `(tactic| with_reducible exact AL.SetAR.nil)
set_option hygiene false in
local macro_rules | `(tactic| wtm_at "seta") => `(tactic| first | wtm_at "seta_" | fail)
set_option hygiene false in
local macro_rules | `(tactic| wtm_at "sub_") => `(tactic| ((with_reducible apply List.Sublist.cons); wtm_at "sub_"))
set_option hygiene false in
local macro_rules | `(tactic| wtm_at "sub_") => `(tactic| ((apply List.Sublist.cons₂); wtm_at "sub_"))
set_option hygiene false in
local macro_rules | `(tactic| wtm_at "sub_") => `(tactic| exact List.nil_sublist _)
set_option hygiene false in
local macro_rules | `(tactic| wtm_at "sub_") => `(tactic| exact List.Sublist.refl _)
set_option hygiene false in
local macro_rules | `(tactic| wtm_at "sub") => `(tactic| first | wtm_at "sub_" | fail)
set_option hygiene false in
local macro_rules | `(tactic| wtm_at "setn_") => `(tactic| (apply AL.SetN.s; wtm_at "setn_"))
set_option hygiene false in
local macro_rules | `(tactic| wtm_at "setn_") => `(tactic| exact AL.SetN.z)
set_option hygiene false in
local macro_rules | `(tactic| wtm_at "setn") => `(tactic| first | wtm_at "setn_" | fail)
set_option hygiene false in
local macro_rules | `(tactic| wtm_at "wipe_") => `(tactic| exact AL.WipeR.cons (by wtm_at "wipe_") (by wtm_at "setn"))
set_option hygiene false in
local macro_rules | `(tactic| wtm_at "wipe_") => `(tactic| exact AL.WipeR.nil)
set_option hygiene false in
local macro_rules | `(tactic| wtm_at "wipe") => `(tactic| first | wtm_at "wipe_" | fail)
set_option hygiene false in
local macro_rules | `(tactic| wtm_at "app_") => `(tactic| exact AL.AppR.any)
set_option hygiene false in
local macro_rules | `(tactic| wtm_at "app_") => `(tactic| ((with_reducible apply AL.AppR.s); wtm_at "app_"))
set_option hygiene false in
local macro_rules | `(tactic| wtm_at "app_") => `(tactic| with_reducible exact AL.AppR.z)
set_option hygiene false in
local macro_rules | `(tactic| wtm_at "app") => `(tactic| first | wtm_at "app_" | fail)
set_option hygiene false in
local macro_rules | `(tactic| wtm_at "pop_") => `(tactic| ((with_reducible apply AL.PopR.s); wtm_at "pop_"))
set_option hygiene false in
local macro_rules | `(tactic| wtm_at "pop_") => `(tactic| with_reducible exact AL.PopR.z)
set_option hygiene false in
local macro_rules | `(tactic| wtm_at "pop_") => `(tactic| with_reducible exact AL.PopR.any)
set_option hygiene false in
local macro_rules | `(tactic| wtm_at "pop") => `(tactic| first | wtm_at "pop_" | fail)
set_option hygiene false in
local macro_rules | `(tactic| wtm_at "sx") => `(tactic| (simp only [List.length_cons, List.length_nil]; decide))
set_option hygiene false in
local macro_rules | `(tactic| wtm_at "len_") => `(tactic| (rw [sizeLine_eq]; first | (simp only [List.length_cons, List.length_nil, List.length_append]; omega) | omega))
set_option hygiene false in
local macro_rules | `(tactic| wtm_at "len_") => `(tactic| (show (_ : Nat) ≤ sizeLine; decide))
set_option hygiene false in
local macro_rules | `(tactic| wtm_at "len_") => `(tactic| decide)
set_option hygiene false in
local macro_rules | `(tactic| wtm_at "len") => `(tactic| first | wtm_at "len_" | fail)
set_option hygiene false in
local macro_rules | `(tactic| wtm_at "dlen") => `(tactic| (refine AL.dlen0 ?_; (repeat (refine AL.dlen1 ?_)); first | omega | (simp only [List.length_cons, List.length_nil, List.length_append]; omega)))
set_option hygiene false in
local macro_rules | `(tactic| wtm_at "pick_") => `(tactic| ((with_reducible apply AL.Pick.next); wtm_at "pick_"))
set_option hygiene false in
local macro_rules | `(tactic| wtm_at "pick_") => `(tactic| with_reducible exact AL.Pick.here)
set_option hygiene false in
local macro_rules | `(tactic| wtm_at "pick") => `(tactic| first | wtm_at "pick_" | fail)
set_option hygiene false in
local macro_rules | `(tactic| wtm_at "sel_") => `(tactic| (refine AL.Sel.pick (by wtm_at "pick") ?_; wtm_at "sel_"))
set_option hygiene false in
local macro_rules | `(tactic| wtm_at "sel_") => `(tactic| (refine AL.Sel.sub ?_; wtm_at "sub"))
set_option hygiene false in
local macro_rules | `(tactic| wtm_at "sel") => `(tactic| first | wtm_at "sel_" | fail)
set_option hygiene false in
local macro_rules | `(tactic| wtm_at "lit_") => `(tactic| exact AL.len_nil)
set_option hygiene false in
local macro_rules | `(tactic| wtm_at "lit_") => `(tactic| exact AL.len_ne)
set_option hygiene false in
local macro_rules | `(tactic| wtm_at "lit_") => `(tactic| assumption)
set_option hygiene false in
local macro_rules | `(tactic| wtm_at "lit_") => `(tactic| decide +kernel)
set_option hygiene false in
local macro_rules | `(tactic| wtm_at "lit") => `(tactic| first | wtm_at "lit_" | fail)
set_option hygiene false in
local macro_rules | `(tactic| wtm_at "at_") => `(tactic| exact AL.atI_one)
set_option hygiene false in
local macro_rules | `(tactic| wtm_at "at_") => `(tactic| exact L2.atI_last _ _)
set_option hygiene false in
local macro_rules | `(tactic| wtm_at "at_") => `(tactic| exact L2.atI_nat (by assumption))
set_option hygiene false in
local macro_rules | `(tactic| wtm_at "at_") => `(tactic| assumption)
set_option hygiene false in
local macro_rules | `(tactic| wtm_at "at_") => `(tactic| exact AL.atI_zero)
set_option hygiene false in
local macro_rules | `(tactic| wtm_at "at_") => `(tactic| rfl)
set_option hygiene false in
local macro_rules | `(tactic| wtm_at "at") => `(tactic| first | wtm_at "at_" | fail)
set_option hygiene false in
local macro_rules | `(tactic| wtm_at "val_") => `(tactic| rfl)
set_option hygiene false in
local macro_rules | `(tactic| wtm_at "val_") => `(tactic| exact AL.dk_left)
set_option hygiene false in
local macro_rules | `(tactic| wtm_at "val_") => `(tactic| exact AL.dk_seed)
set_option hygiene false in
local macro_rules | `(tactic| wtm_at "val_") => `(tactic| exact AL.dk_number)
set_option hygiene false in
local macro_rules | `(tactic| wtm_at "val_") => `(tactic| assumption)
set_option hygiene false in
local macro_rules | `(tactic| wtm_at "val") => `(tactic| first | wtm_at "val_" | fail)
set_option hygiene false in
local macro_rules | `(tactic| wtm_at "w1") => `(tactic| first
  | ((with_reducible apply AL.w_var); (focus rfl))
  | with_reducible refine AL.w_c ?_
  | with_reducible refine AL.w_tcons ?_
  | with_reducible refine AL.w_tnil ?_
  | with_reducible refine AL.w_op ?_
  | with_reducible refine AL.w_at ?_
  | with_reducible refine AL.w_seq ?_
  | with_reducible refine AL.w_asg ?_
  | ((with_reducible apply AL.w_gname); (focus (wtm_at "setr")))
  | with_reducible refine AL.w_test ?_
  | with_reducible refine AL.w_if ?_
  | with_reducible refine AL.w_cal ?_
  | with_reducible refine AL.w_met ?_
  | with_reducible refine AL.w_cb ?_
  | with_reducible refine AL.w_tup ?_
  | with_reducible refine AL.w_lst ?_
  | with_reducible refine AL.w_ret ?_
  | with_reducible refine AL.w_bm ?_
  | with_reducible refine AL.w_bm0 ?_
  | with_reducible refine AL.w_st ?_
  | with_reducible refine AL.w_drop ?_
  | with_reducible refine AL.w_dget ?_
  | with_reducible refine AL.w_dput ?_
  | with_reducible refine AL.w_and ?_
  | with_reducible refine AL.w_or ?_
  | with_reducible refine AL.w_not ?_
  | with_reducible refine AL.w_truth ?_
  | with_reducible refine AL.w_tB ?_
  | with_reducible refine AL.w_mak ?_
  | with_reducible refine AL.w_next ?_
  | with_reducible refine AL.w_retN ?_
  | with_reducible refine AL.w_gcons ?_
  | with_reducible refine AL.w_gsub ?_
  | with_reducible refine AL.w_gnil ?_
  | with_reducible refine AL.w_sl ?_
  | with_reducible refine AL.w_nopart ?_
  | with_reducible refine AL.w_part ?_
  | with_reducible refine AL.w_un ?_
  | with_reducible refine AL.w_andV ?_
  | with_reducible refine AL.w_notV ?_
  | with_reducible refine AL.w_brk ?_
  | with_reducible refine AL.w_cont ?_
  | with_reducible refine AL.w_par ?_
  | with_reducible refine AL.w_for ?_
  | with_reducible refine AL.w_lc ?_
  | with_reducible refine AL.w_yes ?_
  | with_reducible refine AL.w_iTup ?_
  | with_reducible refine AL.w_iList ?_
  | with_reducible refine AL.w_iZip ?_
  | with_reducible refine AL.w_iRev ?_
  | with_reducible refine AL.w_iEnum ?_
  | with_reducible refine AL.w_iRng1 ?_
  | with_reducible refine AL.w_listRev ?_
  | with_reducible refine AL.w_unr ?_
  | with_reducible refine AL.w_unr0 ?_
  | with_reducible refine AL.w_unrz0 ?_
  | with_reducible refine AL.w_unrc ?_
  | with_reducible refine AL.w_unrc0 ?_
  | with_reducible refine AL.w_orV ?_
  | with_reducible refine AL.w_iEnumT ?_)
set_option hygiene false in
local macro_rules | `(tactic| wtm_at "k1") => `(tactic| first
  | ((with_reducible apply AL.k_b))
  | ((with_reducible apply AL.if_T); (focus (wtm_at "lit")))
  | ((with_reducible apply AL.if_F); (focus (wtm_at "lit")))
  | ((with_reducible apply AL.k_eq); (focus rfl))
  | ((with_reducible apply AL.k_ne); (focus rfl))
  | ((with_reducible apply AL.k_at); (focus assumption); (focus (wtm_at "in")); (focus rfl))
  | ((with_reducible apply AL.k_ixA_t); (focus assumption); (focus (wtm_at "in")); (focus (wtm_at "at")))
  | ((with_reducible apply AL.k_ixA_l); (focus assumption); (focus (wtm_at "in")); (focus (wtm_at "at")))
  | ((with_reducible apply AL.k_new); (focus assumption); (focus (wtm_at "len")); intro p H S)
  | ((with_reducible apply AL.k_st); (focus assumption); (focus (wtm_at "mem")); (focus (wtm_at "seta")); (focus (wtm_at "wr")); intro H S)
  | ((with_reducible apply AL.k_met); (focus assumption); (focus (wtm_at "in")))
  | ((with_reducible apply AL.k_I0))
  | ((with_reducible apply AL.k_in); (focus assumption); (focus (wtm_at "in")); (focus rfl); (focus rfl))
  | ((with_reducible apply AL.k_inL); (focus assumption); (focus (wtm_at "in")); (focus rfl); (focus rfl))
  | ((with_reducible apply AL.k_tyL); (focus assumption); (focus (wtm_at "in")))
  | ((with_reducible apply AL.k_app); (focus assumption); (focus (wtm_at "mem")); (focus (wtm_at "len")); (focus (wtm_at "app")); (focus (wtm_at "wr")); intro H S)
  | ((with_reducible apply AL.k_pop); (focus assumption); (focus (wtm_at "mem")); (focus (wtm_at "pop")); (focus (wtm_at "wr")); intro H S)
  | ((with_reducible apply AL.k_truB))
  | ((with_reducible apply AL.k_isNon))
  | ((with_reducible apply AL.k_notNon))
  | ((with_reducible apply AL.k_andV))
  | ((with_reducible apply AL.k_part))
  | ((with_reducible apply AL.w_newK); (focus assumption); intro p H S)
  | ((with_reducible apply AL.w_newT); (focus assumption); intro p H S)
  | ((with_reducible apply AL.k_mak); (focus assumption); intro x dx H S)
  | ((with_reducible apply AL.w_gtup); (focus assumption); (focus (wtm_at "in")); (focus rfl))
  | ((with_reducible apply AL.w_gunl); (focus assumption); (focus (wtm_at "in")); (focus rfl))
  | ((with_reducible apply AL.k_lenL); (focus assumption); (focus (wtm_at "in")))
  | ((with_reducible apply AL.k_lenT); (focus assumption); (focus (wtm_at "in")))
  | ((with_reducible apply AL.k_lenD); (focus assumption); (focus (wtm_at "in")))
  | ((with_reducible apply AL.k_listOfL); (focus assumption); (focus (wtm_at "in")); intro p H S)
  | ((with_reducible apply AL.k_listOfT); (focus assumption); (focus (wtm_at "in")); intro p H S)
  | ((with_reducible apply AL.k_tupleOf); (focus assumption); (focus (wtm_at "in")); intro p H S)
  | ((with_reducible apply AL.k_dictOf); (focus assumption); (focus (wtm_at "in")); intro p H S)
  | ((with_reducible apply AL.k_intB))
  | ((with_reducible apply AL.k_U))
  | ((with_reducible apply AL.k_wipe); (focus rfl))
  | ((with_reducible apply AL.k_lcapp); (focus assumption); (focus (wtm_at "mem")); (focus (wtm_at "len")); (focus (wtm_at "app")); (focus (wtm_at "wr")); intro H S)
  | ((with_reducible apply AL.k_listRev); (focus assumption); (focus (wtm_at "in")); (focus rfl); intro p H S)
  | ((with_reducible apply AL.k_dgetS); (focus assumption); (focus (wtm_at "in")); (focus (wtm_at "val")))
  | ((with_reducible apply AL.k_dgetT); (focus assumption); (focus (wtm_at "in")); (focus (wtm_at "in")); (focus rfl); (focus (wtm_at "val")))
  | ((with_reducible apply AL.k_dputS); (focus assumption); (focus (wtm_at "mem")); (focus (wtm_at "dlen")); (focus (wtm_at "wr")); intro H S)
  | ((with_reducible apply AL.k_dputT); (focus assumption); (focus (wtm_at "mem")); (focus (wtm_at "in")); (focus rfl); (focus (wtm_at "dlen")); (focus (wtm_at "wr")); intro H S)
  | ((with_reducible apply AL.k_mx2))
  | ((with_reducible apply AL.k_mn2))
  | ((with_reducible apply AL.k_for_no); (focus assumption); (focus (wtm_at "in")))
  | ((with_reducible apply AL.k_lc_no); (focus assumption); (focus (wtm_at "in")); intro D H S)
  | ((with_reducible apply AL.k_unr); (focus assumption); (focus (wtm_at "in")))
  | ((with_reducible apply AL.k_unrc); (focus assumption); (focus (wtm_at "in")))
  | ((with_reducible apply AL.k_unrz); (focus assumption); (focus (wtm_at "in")); (focus (wtm_at "in")))
  | ((with_reducible apply AL.w_unrz); (focus assumption); intro t H S))
set_option hygiene false in
local macro_rules | `(tactic| wtm_at "un_") => `(tactic| ((with_reducible apply AL.u_lc_rev); (focus assumption); (focus (wtm_at "in")); (focus (wtm_at "wipe")); (focus (wtm_at "wipe")); intro D H S))
set_option hygiene false in
local macro_rules | `(tactic| wtm_at "un_") => `(tactic| ((with_reducible apply AL.u_lc_list); (focus assumption); (focus (wtm_at "in")); (focus (wtm_at "wipe")); (focus (wtm_at "wipe")); intro D H S))
set_option hygiene false in
local macro_rules | `(tactic| wtm_at "un_") => `(tactic| ((with_reducible apply AL.u_lc_tup); (focus assumption); (focus (wtm_at "in")); (focus (wtm_at "wipe")); (focus (wtm_at "wipe")); intro D H S))
set_option hygiene false in
local macro_rules | `(tactic| wtm_at "un_") => `(tactic| ((with_reducible apply AL.u_for_zip); (focus assumption); (focus (wtm_at "in")); (focus (wtm_at "in")); (focus rfl)))
set_option hygiene false in
local macro_rules | `(tactic| wtm_at "un_") => `(tactic| ((with_reducible apply AL.u_for_rev); (focus assumption); (focus (wtm_at "in"))))
set_option hygiene false in
local macro_rules | `(tactic| wtm_at "un_") => `(tactic| ((with_reducible apply AL.u_for_list); (focus assumption); (focus (wtm_at "in"))))
set_option hygiene false in
local macro_rules | `(tactic| wtm_at "un_") => `(tactic| ((with_reducible apply AL.u_for_tup); (focus assumption); (focus (wtm_at "in"))))
set_option hygiene false in
local macro_rules | `(tactic| wtm_at "un") => `(tactic| first | wtm_at "un_" | fail)
set_option hygiene false in
local macro_rules | `(tactic| array_get_dec) => `(tactic| ((with_reducible apply AL.w_unrz); (focus assumption); intro t H S))
set_option hygiene false in
local macro_rules | `(tactic| array_get_dec) => `(tactic| ((with_reducible apply AL.k_unrz); (focus assumption); (focus (wtm_at "in")); (focus (wtm_at "in"))))
set_option hygiene false in
local macro_rules | `(tactic| array_get_dec) => `(tactic| ((with_reducible apply AL.k_unrc); (focus assumption); (focus (wtm_at "in"))))
set_option hygiene false in
local macro_rules | `(tactic| array_get_dec) => `(tactic| ((with_reducible apply AL.k_unr); (focus assumption); (focus (wtm_at "in"))))
set_option hygiene false in
local macro_rules | `(tactic| array_get_dec) => `(tactic| ((with_reducible apply AL.k_lc_no); (focus assumption); (focus (wtm_at "in")); intro D H S))
set_option hygiene false in
local macro_rules | `(tactic| array_get_dec) => `(tactic| ((with_reducible apply AL.k_for_no); (focus assumption); (focus (wtm_at "in"))))
set_option hygiene false in
local macro_rules | `(tactic| array_get_dec) => `(tactic| ((with_reducible apply AL.k_mn2)))
set_option hygiene false in
local macro_rules | `(tactic| array_get_dec) => `(tactic| ((with_reducible apply AL.k_mx2)))
set_option hygiene false in
local macro_rules | `(tactic| array_get_dec) => `(tactic| ((with_reducible apply AL.k_dputT); (focus assumption); (focus (wtm_at "mem")); (focus (wtm_at "in")); (focus rfl); (focus (wtm_at "dlen")); (focus (wtm_at "wr")); intro H S))
set_option hygiene false in
local macro_rules | `(tactic| array_get_dec) => `(tactic| ((with_reducible apply AL.k_dputS); (focus assumption); (focus (wtm_at "mem")); (focus (wtm_at "dlen")); (focus (wtm_at "wr")); intro H S))
set_option hygiene false in
local macro_rules | `(tactic| array_get_dec) => `(tactic| ((with_reducible apply AL.k_dgetT); (focus assumption); (focus (wtm_at "in")); (focus (wtm_at "in")); (focus rfl); (focus (wtm_at "val"))))
set_option hygiene false in
local macro_rules | `(tactic| array_get_dec) => `(tactic| ((with_reducible apply AL.k_dgetS); (focus assumption); (focus (wtm_at "in")); (focus (wtm_at "val"))))
set_option hygiene false in
local macro_rules | `(tactic| array_get_dec) => `(tactic| ((with_reducible apply AL.k_listRev); (focus assumption); (focus (wtm_at "in")); (focus rfl); intro p H S))
set_option hygiene false in
local macro_rules | `(tactic| array_get_dec) => `(tactic| ((with_reducible apply AL.k_lcapp); (focus assumption); (focus (wtm_at "mem")); (focus (wtm_at "len")); (focus (wtm_at "app")); (focus (wtm_at "wr")); intro H S))
set_option hygiene false in
local macro_rules | `(tactic| array_get_dec) => `(tactic| ((with_reducible apply AL.k_wipe); (focus rfl)))
set_option hygiene false in
local macro_rules | `(tactic| array_get_dec) => `(tactic| ((with_reducible apply AL.k_U)))
set_option hygiene false in
local macro_rules | `(tactic| array_get_dec) => `(tactic| ((with_reducible apply AL.k_intB)))
set_option hygiene false in
local macro_rules | `(tactic| array_get_dec) => `(tactic| ((with_reducible apply AL.k_dictOf); (focus assumption); (focus (wtm_at "in")); intro p H S))
set_option hygiene false in
local macro_rules | `(tactic| array_get_dec) => `(tactic| ((with_reducible apply AL.k_tupleOf); (focus assumption); (focus (wtm_at "in")); intro p H S))
set_option hygiene false in
local macro_rules | `(tactic| array_get_dec) => `(tactic| ((with_reducible apply AL.k_listOfT); (focus assumption); (focus (wtm_at "in")); intro p H S))
set_option hygiene false in
local macro_rules | `(tactic| array_get_dec) => `(tactic| ((with_reducible apply AL.k_listOfL); (focus assumption); (focus (wtm_at "in")); intro p H S))
set_option hygiene false in
local macro_rules | `(tactic| array_get_dec) => `(tactic| ((with_reducible apply AL.k_lenD); (focus assumption); (focus (wtm_at "in"))))
set_option hygiene false in
local macro_rules | `(tactic| array_get_dec) => `(tactic| ((with_reducible apply AL.k_lenT); (focus assumption); (focus (wtm_at "in"))))
set_option hygiene false in
local macro_rules | `(tactic| array_get_dec) => `(tactic| ((with_reducible apply AL.k_lenL); (focus assumption); (focus (wtm_at "in"))))
set_option hygiene false in
local macro_rules | `(tactic| array_get_dec) => `(tactic| ((with_reducible apply AL.w_gunl); (focus assumption); (focus (wtm_at "in")); (focus rfl)))
set_option hygiene false in
local macro_rules | `(tactic| array_get_dec) => `(tactic| ((with_reducible apply AL.w_gtup); (focus assumption); (focus (wtm_at "in")); (focus rfl)))
set_option hygiene false in
local macro_rules | `(tactic| array_get_dec) => `(tactic| ((with_reducible apply AL.k_mak); (focus assumption); intro x dx H S))
set_option hygiene false in
local macro_rules | `(tactic| array_get_dec) => `(tactic| ((with_reducible apply AL.w_newT); (focus assumption); intro p H S))
set_option hygiene false in
local macro_rules | `(tactic| array_get_dec) => `(tactic| ((with_reducible apply AL.w_newK); (focus assumption); intro p H S))
set_option hygiene false in
local macro_rules | `(tactic| array_get_dec) => `(tactic| ((with_reducible apply AL.k_part)))
set_option hygiene false in
local macro_rules | `(tactic| array_get_dec) => `(tactic| ((with_reducible apply AL.k_andV)))
set_option hygiene false in
local macro_rules | `(tactic| array_get_dec) => `(tactic| ((with_reducible apply AL.k_notNon)))
set_option hygiene false in
local macro_rules | `(tactic| array_get_dec) => `(tactic| ((with_reducible apply AL.k_isNon)))
set_option hygiene false in
local macro_rules | `(tactic| array_get_dec) => `(tactic| ((with_reducible apply AL.k_truB)))
set_option hygiene false in
local macro_rules | `(tactic| array_get_dec) => `(tactic| ((with_reducible apply AL.k_pop); (focus assumption); (focus (wtm_at "mem")); (focus (wtm_at "pop")); (focus (wtm_at "wr")); intro H S))
set_option hygiene false in
local macro_rules | `(tactic| array_get_dec) => `(tactic| ((with_reducible apply AL.k_app); (focus assumption); (focus (wtm_at "mem")); (focus (wtm_at "len")); (focus (wtm_at "app")); (focus (wtm_at "wr")); intro H S))
set_option hygiene false in
local macro_rules | `(tactic| array_get_dec) => `(tactic| ((with_reducible apply AL.k_tyL); (focus assumption); (focus (wtm_at "in"))))
set_option hygiene false in
local macro_rules | `(tactic| array_get_dec) => `(tactic| ((with_reducible apply AL.k_inL); (focus assumption); (focus (wtm_at "in")); (focus rfl); (focus rfl)))
set_option hygiene false in
local macro_rules | `(tactic| array_get_dec) => `(tactic| ((with_reducible apply AL.k_in); (focus assumption); (focus (wtm_at "in")); (focus rfl); (focus rfl)))
set_option hygiene false in
local macro_rules | `(tactic| array_get_dec) => `(tactic| ((with_reducible apply AL.k_I0)))
set_option hygiene false in
local macro_rules | `(tactic| array_get_dec) => `(tactic| ((with_reducible apply AL.k_met); (focus assumption); (focus (wtm_at "in"))))
set_option hygiene false in
local macro_rules | `(tactic| array_get_dec) => `(tactic| ((with_reducible apply AL.k_st); (focus assumption); (focus (wtm_at "mem")); (focus (wtm_at "seta")); (focus (wtm_at "wr")); intro H S))
set_option hygiene false in
local macro_rules | `(tactic| array_get_dec) => `(tactic| ((with_reducible apply AL.k_new); (focus assumption); (focus (wtm_at "len")); intro p H S))
set_option hygiene false in
local macro_rules | `(tactic| array_get_dec) => `(tactic| ((with_reducible apply AL.k_ixA_l); (focus assumption); (focus (wtm_at "in")); (focus (wtm_at "at"))))
set_option hygiene false in
local macro_rules | `(tactic| array_get_dec) => `(tactic| ((with_reducible apply AL.k_ixA_t); (focus assumption); (focus (wtm_at "in")); (focus (wtm_at "at"))))
set_option hygiene false in
local macro_rules | `(tactic| array_get_dec) => `(tactic| ((with_reducible apply AL.k_at); (focus assumption); (focus (wtm_at "in")); (focus rfl)))
set_option hygiene false in
local macro_rules | `(tactic| array_get_dec) => `(tactic| ((with_reducible apply AL.k_ne); (focus rfl)))
set_option hygiene false in
local macro_rules | `(tactic| array_get_dec) => `(tactic| ((with_reducible apply AL.k_eq); (focus rfl)))
set_option hygiene false in
local macro_rules | `(tactic| array_get_dec) => `(tactic| ((with_reducible apply AL.if_F); (focus (wtm_at "lit"))))
set_option hygiene false in
local macro_rules | `(tactic| array_get_dec) => `(tactic| ((with_reducible apply AL.if_T); (focus (wtm_at "lit"))))
set_option hygiene false in
local macro_rules | `(tactic| array_get_dec) => `(tactic| ((with_reducible apply AL.k_b)))
set_option hygiene false in
local macro_rules | `(tactic| array_get_dec) => `(tactic| with_reducible refine AL.w_iEnumT ?_)
set_option hygiene false in
local macro_rules | `(tactic| array_get_dec) => `(tactic| with_reducible refine AL.w_orV ?_)
set_option hygiene false in
local macro_rules | `(tactic| array_get_dec) => `(tactic| with_reducible refine AL.w_unrc0 ?_)
set_option hygiene false in
local macro_rules | `(tactic| array_get_dec) => `(tactic| with_reducible refine AL.w_unrc ?_)
set_option hygiene false in
local macro_rules | `(tactic| array_get_dec) => `(tactic| with_reducible refine AL.w_unrz0 ?_)
set_option hygiene false in
local macro_rules | `(tactic| array_get_dec) => `(tactic| with_reducible refine AL.w_unr0 ?_)
set_option hygiene false in
local macro_rules | `(tactic| array_get_dec) => `(tactic| with_reducible refine AL.w_unr ?_)
set_option hygiene false in
local macro_rules | `(tactic| array_get_dec) => `(tactic| with_reducible refine AL.w_listRev ?_)
set_option hygiene false in
local macro_rules | `(tactic| array_get_dec) => `(tactic| with_reducible refine AL.w_iRng1 ?_)
set_option hygiene false in
local macro_rules | `(tactic| array_get_dec) => `(tactic| with_reducible refine AL.w_iEnum ?_)
set_option hygiene false in
local macro_rules | `(tactic| array_get_dec) => `(tactic| with_reducible refine AL.w_iRev ?_)
set_option hygiene false in
local macro_rules | `(tactic| array_get_dec) => `(tactic| with_reducible refine AL.w_iZip ?_)
set_option hygiene false in
local macro_rules | `(tactic| array_get_dec) => `(tactic| with_reducible refine AL.w_iList ?_)
set_option hygiene false in
local macro_rules | `(tactic| array_get_dec) => `(tactic| with_reducible refine AL.w_iTup ?_)
set_option hygiene false in
local macro_rules | `(tactic| array_get_dec) => `(tactic| with_reducible refine AL.w_yes ?_)
set_option hygiene false in
local macro_rules | `(tactic| array_get_dec) => `(tactic| with_reducible refine AL.w_lc ?_)
set_option hygiene false in
local macro_rules | `(tactic| array_get_dec) => `(tactic| with_reducible refine AL.w_for ?_)
set_option hygiene false in
local macro_rules | `(tactic| array_get_dec) => `(tactic| with_reducible refine AL.w_par ?_)
set_option hygiene false in
local macro_rules | `(tactic| array_get_dec) => `(tactic| with_reducible refine AL.w_cont ?_)
set_option hygiene false in
local macro_rules | `(tactic| array_get_dec) => `(tactic| with_reducible refine AL.w_brk ?_)
set_option hygiene false in
local macro_rules | `(tactic| array_get_dec) => `(tactic| with_reducible refine AL.w_notV ?_)
set_option hygiene false in
local macro_rules | `(tactic| array_get_dec) => `(tactic| with_reducible refine AL.w_andV ?_)
set_option hygiene false in
local macro_rules | `(tactic| array_get_dec) => `(tactic| with_reducible refine AL.w_un ?_)
set_option hygiene false in
local macro_rules | `(tactic| array_get_dec) => `(tactic| with_reducible refine AL.w_part ?_)
set_option hygiene false in
local macro_rules | `(tactic| array_get_dec) => `(tactic| with_reducible refine AL.w_nopart ?_)
set_option hygiene false in
local macro_rules | `(tactic| array_get_dec) => `(tactic| with_reducible refine AL.w_sl ?_)
set_option hygiene false in
local macro_rules | `(tactic| array_get_dec) => `(tactic| with_reducible refine AL.w_gnil ?_)
set_option hygiene false in
local macro_rules | `(tactic| array_get_dec) => `(tactic| with_reducible refine AL.w_gsub ?_)
set_option hygiene false in
local macro_rules | `(tactic| array_get_dec) => `(tactic| with_reducible refine AL.w_gcons ?_)
set_option hygiene false in
local macro_rules | `(tactic| array_get_dec) => `(tactic| with_reducible refine AL.w_retN ?_)
set_option hygiene false in
local macro_rules | `(tactic| array_get_dec) => `(tactic| with_reducible refine AL.w_next ?_)
set_option hygiene false in
local macro_rules | `(tactic| array_get_dec) => `(tactic| with_reducible refine AL.w_mak ?_)
set_option hygiene false in
local macro_rules | `(tactic| array_get_dec) => `(tactic| with_reducible refine AL.w_tB ?_)
set_option hygiene false in
local macro_rules | `(tactic| array_get_dec) => `(tactic| with_reducible refine AL.w_truth ?_)
set_option hygiene false in
local macro_rules | `(tactic| array_get_dec) => `(tactic| with_reducible refine AL.w_not ?_)
set_option hygiene false in
local macro_rules | `(tactic| array_get_dec) => `(tactic| with_reducible refine AL.w_or ?_)
set_option hygiene false in
local macro_rules | `(tactic| array_get_dec) => `(tactic| with_reducible refine AL.w_and ?_)
set_option hygiene false in
local macro_rules | `(tactic| array_get_dec) => `(tactic| with_reducible refine AL.w_dput ?_)
set_option hygiene false in
local macro_rules | `(tactic| array_get_dec) => `(tactic| with_reducible refine AL.w_dget ?_)
set_option hygiene false in
local macro_rules | `(tactic| array_get_dec) => `(tactic| with_reducible refine AL.w_drop ?_)
set_option hygiene false in
local macro_rules | `(tactic| array_get_dec) => `(tactic| with_reducible refine AL.w_st ?_)
set_option hygiene false in
local macro_rules | `(tactic| array_get_dec) => `(tactic| with_reducible refine AL.w_bm0 ?_)
set_option hygiene false in
local macro_rules | `(tactic| array_get_dec) => `(tactic| with_reducible refine AL.w_bm ?_)
set_option hygiene false in
local macro_rules | `(tactic| array_get_dec) => `(tactic| with_reducible refine AL.w_ret ?_)
set_option hygiene false in
local macro_rules | `(tactic| array_get_dec) => `(tactic| with_reducible refine AL.w_lst ?_)
set_option hygiene false in
local macro_rules | `(tactic| array_get_dec) => `(tactic| with_reducible refine AL.w_tup ?_)
set_option hygiene false in
local macro_rules | `(tactic| array_get_dec) => `(tactic| with_reducible refine AL.w_cb ?_)
set_option hygiene false in
local macro_rules | `(tactic| array_get_dec) => `(tactic| with_reducible refine AL.w_met ?_)
set_option hygiene false in
local macro_rules | `(tactic| array_get_dec) => `(tactic| with_reducible refine AL.w_cal ?_)
set_option hygiene false in
local macro_rules | `(tactic| array_get_dec) => `(tactic| with_reducible refine AL.w_if ?_)
set_option hygiene false in
local macro_rules | `(tactic| array_get_dec) => `(tactic| with_reducible refine AL.w_test ?_)
set_option hygiene false in
local macro_rules | `(tactic| array_get_dec) => `(tactic| ((with_reducible apply AL.w_gname); (focus (wtm_at "setr"))))
set_option hygiene false in
local macro_rules | `(tactic| array_get_dec) => `(tactic| with_reducible refine AL.w_asg ?_)
set_option hygiene false in
local macro_rules | `(tactic| array_get_dec) => `(tactic| with_reducible refine AL.w_seq ?_)
set_option hygiene false in
local macro_rules | `(tactic| array_get_dec) => `(tactic| with_reducible refine AL.w_at ?_)
set_option hygiene false in
local macro_rules | `(tactic| array_get_dec) => `(tactic| with_reducible refine AL.w_op ?_)
set_option hygiene false in
local macro_rules | `(tactic| array_get_dec) => `(tactic| with_reducible refine AL.w_tnil ?_)
set_option hygiene false in
local macro_rules | `(tactic| array_get_dec) => `(tactic| with_reducible refine AL.w_tcons ?_)
set_option hygiene false in
local macro_rules | `(tactic| array_get_dec) => `(tactic| with_reducible refine AL.w_c ?_)
set_option hygiene false in
local macro_rules | `(tactic| array_get_dec) => `(tactic| ((with_reducible apply AL.w_var); (focus rfl)))
set_option hygiene false in
local macro_rules | `(tactic| wtm_at "wp") => `(tactic| repeat array_get_dec)
/-! B1 -/
namespace AL
open PySem PySem.Spec PyProof.Rows L2
/-! ### bodies as data -/
inductive Bd where
  | give (a : V)
  | sum (x s : Str) (a b : V) (nx : Bd)
  | empty (x : Str) (k : V) (nx : Bd)
  | put (x : Str) (a r : V) (nx : Bd)
  | last (x : Str) (r a : V) (nx : Bd)
  | ask (x q : Str) (a : V) (nx : Bd)
  | keep (x k : Str) (a : V) (f : Str) (args : V) (nx : Bd)
  | go (x : Str) (h a b : V) (nx : Bd)
  | tell (a : V) (nx : Bd)
  | iff (a : V) (one other : Bd)
  | case (r : V) (one : Bd) (x y : Str) (other : Bd)
/-- it stands at v; args of a keep: a tuple without things -/
def BdAt (Z : Hp) : Bd → V → Prop
  | .give a, v => ∃ p, v = .ref p ∧ Z p = some (.tup [.str "give", a])
  | .sum x s a b nx, v => ∃ p w, v = .ref p ∧ Z p = some (.tup [.str "sum", .str x, .str s, a, b, w]) ∧ BdAt Z nx w
  | .empty x k nx, v => ∃ p w, v = .ref p ∧ Z p = some (.tup [.str "empty", .str x, k, w]) ∧ BdAt Z nx w
  | .put x a r nx, v => ∃ p w, v = .ref p ∧ Z p = some (.tup [.str "put", .str x, a, r, w]) ∧ BdAt Z nx w
  | .last x r a nx, v => ∃ p w, v = .ref p ∧ Z p = some (.tup [.str "last", .str x, r, a, w]) ∧ BdAt Z nx w
  | .ask x q a nx, v => ∃ p w, v = .ref p ∧ Z p = some (.tup [.str "ask", .str x, .str q, a, w]) ∧ BdAt Z nx w
  | .keep x k a f g nx, v => ∃ p w, v = .ref p ∧ Z p = some (.tup [.str "keep", .str x, .str k, a, .str f, g, w]) ∧ (∃ e, g = .ref e ∧ Z e = some (.tup [])) ∧ BdAt Z nx w
  | .go x h a b nx, v => ∃ p w, v = .ref p ∧ Z p = some (.tup [.str "go", .str x, h, a, b, w]) ∧ BdAt Z nx w
  | .tell a nx, v => ∃ p w, v = .ref p ∧ Z p = some (.tup [.str "tell", a, w]) ∧ BdAt Z nx w
  | .iff a b1 b2, v => ∃ p w1 w2, v = .ref p ∧ Z p = some (.tup [.str "if", a, w1, w2]) ∧ BdAt Z b1 w1 ∧ BdAt Z b2 w2
  | .case r b1 x y b2, v => ∃ p w1 w2, v = .ref p ∧ Z p = some (.tup [.str "case", r, w1, .str x, .str y, w2]) ∧ BdAt Z b1 w1 ∧ BdAt Z b2 w2
theorem BdAt.mono {Z Z1 : Hp} (hs : Same Z Z1) : ∀ {b : Bd} {v : V}, BdAt Z b v → BdAt Z1 b v
  | .give a, v, ⟨p, e, h⟩ => ⟨p, e, hs _ _ h⟩
  | .sum .., v, ⟨p, w, e, h, n⟩ => ⟨p, w, e, hs _ _ h, n.mono hs⟩
  | .empty .., v, ⟨p, w, e, h, n⟩ => ⟨p, w, e, hs _ _ h, n.mono hs⟩
  | .put .., v, ⟨p, w, e, h, n⟩ => ⟨p, w, e, hs _ _ h, n.mono hs⟩
  | .last .., v, ⟨p, w, e, h, n⟩ => ⟨p, w, e, hs _ _ h, n.mono hs⟩
  | .ask .., v, ⟨p, w, e, h, n⟩ => ⟨p, w, e, hs _ _ h, n.mono hs⟩
  | .keep .., v, ⟨p, w, e, h, ⟨a, e2, h2⟩, n⟩ => ⟨p, w, e, hs _ _ h, ⟨a, e2, hs _ _ h2⟩, n.mono hs⟩
  | .go .., v, ⟨p, w, e, h, n⟩ => ⟨p, w, e, hs _ _ h, n.mono hs⟩
  | .tell .., v, ⟨p, w, e, h, n⟩ => ⟨p, w, e, hs _ _ h, n.mono hs⟩
  | .iff .., v, ⟨p, w1, w2, e, h, n1, n2⟩ => ⟨p, w1, w2, e, hs _ _ h, n1.mono hs, n2.mono hs⟩
  | .case .., v, ⟨p, w1, w2, e, h, n1, n2⟩ => ⟨p, w1, w2, e, hs _ _ h, n1.mono hs, n2.mono hs⟩
def Bd.kids : Bd → List Bd
  | .give _ => []
  | .sum _ _ _ _ n => [n]
  | .empty _ _ n => [n]
  | .put _ _ _ n => [n]
  | .last _ _ _ n => [n]
  | .ask _ _ _ n => [n]
  | .keep _ _ _ _ _ n => [n]
  | .go _ _ _ _ n => [n]
  | .tell _ n => [n]
  | .iff _ a b => [a, b]
  | .case _ a _ _ b => [a, b]
/-- all pieces, in the text's order -/
def Bd.pcs : Bd → List Bd
  | .give a => [.give a]
  | .sum x s a b n => .sum x s a b n :: n.pcs
  | .empty x k n => .empty x k n :: n.pcs
  | .put x a r n => .put x a r n :: n.pcs
  | .last x r a n => .last x r a n :: n.pcs
  | .ask x q a n => .ask x q a n :: n.pcs
  | .keep x k a f g n => .keep x k a f g n :: n.pcs
  | .go x h a b n => .go x h a b n :: n.pcs
  | .tell a n => .tell a n :: n.pcs
  | .iff a b1 b2 => .iff a b1 b2 :: (b1.pcs ++ b2.pcs)
  | .case r b1 x y b2 => .case r b1 x y b2 :: (b1.pcs ++ b2.pcs)
theorem Bd.pcs_eq (b : Bd) : b.pcs = b :: b.kids.flatMap Bd.pcs := by
  cases b <;> simp [Bd.pcs, Bd.kids]
theorem Bd.pcs_pos (b : Bd) : 0 < b.pcs.length := by rw [b.pcs_eq]; simp
abbrev BdsAt (Z : Hp) (bs : List Bd) (vs : List V) : Prop := Paired (BdAt Z) bs vs
theorem BdsAt.mono {Z Z1 : Hp} (hs : Same Z Z1) {bs : List Bd} {vs : List V} (h : BdsAt Z bs vs) : BdsAt Z1 bs vs := Paired.mapP h fun _ _ q => BdAt.mono hs q
theorem Paired.app {α β : Type} {F : α → β → Prop} : ∀ {a c : List α} {b d : List β}, Paired F a b → Paired F c d → Paired F (a ++ c) (b ++ d)
  | _, _, _, _, .nil, h => h
  | _, _, _, _, .cons r t, h => .cons r (Paired.app t h)
theorem Paired.get {α β : Type} {F : α → β → Prop} : ∀ {l : List α} {m : List β}, Paired F l m → ∀ {i : Nat} {x : α}, l[i]? = some x → ∃ y, m[i]? = some y ∧ F x y
  | _, _, .nil, i, x, e => by simp at e
  | _, _, .cons r _, 0, x, e => by simp at e; subst e; exact ⟨_, rfl, r⟩
  | _, _, .cons _ t, i + 1, x, e => by simpa using Paired.get t (i := i) (x := x) (by simpa using e)
section
variable {P : Program} {w : World} {K : PySem.W.Frag} {mg : Str → Option Value} {base : Heap}
/-! ### bodies_in -/
def spBodiesIn : Sp := fun vs H Q _ => ∃ (Z : Hp) (L : Lx) (b : Bd) (v : V), vs = [v] ∧ SH Z L H ∧ BdAt Z b v ∧ ∀ r H1 ws, SH Z ((r, .lst ws) :: L) H1 → BdsAt Z b.kids ws → Q (.ref r) H1
theorem ok_bodies_in (T : Tx K mg) : Cal P w K mg base 1 "bodies_in" ["piece"] spBodiesIn := by
  refine mk_cal (F_bodies_in T) (g_bodies_in T) sc_bodies_in (fun _ _ _ _ _ _ us hl => match us, hl with | [_], _ => rfl) ?len ?body
  case len =>
    rintro vs H Q E ⟨Z, L, b, v, rfl, _⟩
    rfl
  case body =>
    rintro cdv A outer s H vs Q E hr ⟨Z, L, b, v, rfl, S, hb, q⟩
    refine ⟨_, (pss_cons (ps_if (pt_cmpR op_eq (pe_ix (ix_anyK (K := K)) (pv 0) pe_int (fun _ _ => rfl)) pe_str (nomark _)) (pss_one (ps_ret (pe_lst pa_nil))) pss_nil) (pss_cons (ps_if (pt_cmpR op_eq (pe_ix (ix_anyK (K := K)) (pv 0) pe_int (fun _ _ => rfl)) pe_str (nomark _)) (pss_one (ps_ret (pe_lst (pa_cons (pe_ix (ix_anyK (K := K)) (pv 0) pe_int (fun _ _ => rfl)) (pa_cons (pe_ix (ix_anyK (K := K)) (pv 0) pe_int (fun _ _ => rfl)) pa_nil))))) pss_nil) (pss_cons (ps_if (pt_cmpR op_eq (pe_ix (ix_anyK (K := K)) (pv 0) pe_int (fun _ _ => rfl)) pe_str (nomark _)) (pss_one (ps_ret (pe_lst (pa_cons (pe_ix (ix_anyK (K := K)) (pv 0) pe_int (fun _ _ => rfl)) (pa_cons (pe_ix (ix_anyK (K := K)) (pv 0) pe_int (fun _ _ => rfl)) pa_nil))))) pss_nil) (pss_one (ps_ret (pe_lst (pa_cons (pe_ix (ix_anyK (K := K)) (pv 0) (pe_un un_neg pe_int) (fun _ _ => rfl)) pa_nil))))))), ?_⟩
    show (_ : TS) _ ([some _] : L2.St) _
    cases b with
    | give a =>
      obtain ⟨p, rfl, hp⟩ := hb
      wtm_at "wp"
      exact q _ _ _ (by assumption) .nil
    | iff a b1 b2 =>
      obtain ⟨p, w1, w2, rfl, hp, h1, h2⟩ := hb
      wtm_at "wp"
      exact q _ _ _ (by assumption) (.cons h1 (.cons h2 .nil))
    | case r b1 x y b2 =>
      obtain ⟨p, w1, w2, rfl, hp, h1, h2⟩ := hb
      wtm_at "wp"
      exact q _ _ _ (by assumption) (.cons h1 (.cons h2 .nil))
    | keep x k a f g nx =>
      obtain ⟨p, w1, rfl, hp, _, h1⟩ := hb
      wtm_at "wp"
      exact q _ _ _ (by assumption) (.cons h1 .nil)
    | _ =>
      obtain ⟨p, w1, rfl, hp, h1⟩ := hb
      wtm_at "wp"
      exact q _ _ _ (by assumption) (.cons h1 .nil)
/-! ### named -/
def spNamed : Sp := fun vs H Q _ => ∃ (Z : Hp) (L : Lx) (a : Addr) (nm : Str) (rs t : List (Str × Addr)) (n1 : Str) (r : Addr), vs = [.ref a, .str nm] ∧ SH Z L H ∧ Z a = some (.tup (rs.map fun q => .ref q.2)) ∧
  (∀ q ∈ rs, ∃ xs, Z q.2 = some (.tup (.str q.1 :: xs))) ∧ rs.length ≤ 10 ∧ rs.filter (fun q => decide (q.1 = nm)) = (n1, r) :: t ∧ ∀ H1, SH Z L H1 → Q (.ref r) H1
theorem ok_named (T : Tx K mg) : Cal P w K mg base 1 "named" ["rows", "name"] spNamed := by
  refine mk_cal (F_named T) (g_named T) sc_named (fun _ _ _ _ _ _ us hl => match us, hl with | [_, _], _ => rfl) ?len ?body
  case len =>
    rintro vs H Q E ⟨Z, L, a, nm, rs, t, n1, r, rfl, _⟩
    rfl
  case body =>
    rintro cdv A outer s H vs Q E hr ⟨Z, L, a, nm, rs, t, n1, r, rfl, S, ha, hrs, hl, hf, q⟩
    refine ⟨_, (pss_one (ps_ret (pe_ix (ix_anyK (K := K)) (pe_lc (own := [("row", 2)]) (g := gName 2) (by rfl) sc_named.nd (pi_tupK (K := K) (pv 0)) (blkOk_by (own := [("row", 2)]) (N := ["rows", "name", "row"]) (sc := defScope s_named) (by decide +kernel)) (fun _ _ _ _ _ => (pg_name (i := 2) sc_named.nd rfl (Or.inl rfl))) (fun _ _ _ _ _ => pts_one (pt_cmpR op_eq (pe_ix (ix_anyK (K := K)) (pv 2) pe_int (fun _ _ => rfl)) (pv 1) (nomark _))) (fun _ _ _ _ _ => (pv 2))) pe_int (fun _ _ => rfl)))), ?_⟩
    show (_ : TS) _ ([some _, some _, none] : L2.St) _
    wtm_at "wp"
    refine k_lc_tup (xs := rs.map fun q => .ref q.2) S (.z ha) (by wtm_at "wipe") (fun D i H => SH Z ((D, .lst (((rs.take i).filter fun q => decide (q.1 = nm)).map fun q => V.ref q.2)) :: L) H) (fun D H S => S) (fun D i H S => S.z _ _ ha) ?_ (by wtm_at "wipe") ?_
    · intro D i x H hx S
      rw [List.getElem?_map] at hx
      cases e : rs[i]? with
      | none => rw [e] at hx; cases hx
      | some q1 =>
        rw [e] at hx
        obtain rfl : V.ref q1.2 = x := Option.some.inj hx
        obtain ⟨xs, hq⟩ := hrs q1 (List.mem_of_getElem? e)
        have et : rs.take (i + 1) = rs.take i ++ [q1] := by rw [List.take_add_one, e]; rfl
        wtm_at "wp"
        by_cases hc : q1.1 = nm
        · refine if_T (decide_eq_true (by rw [hc])) ?_
          wtm_at "wp"
          refine k_lcapp S (by wtm_at "mem") (ha := .any) (hl := lt_line (by
            rw [List.length_map]
            refine Nat.le_trans (List.length_filter_le _ _) ?_
            rw [List.length_take]
            omega)) (hw := by wtm_at "wr") (q := fun H1 S => ?_)
          rw [et, List.filter_append, List.filter_cons, if_pos (decide_eq_true hc), List.filter_nil, List.map_append]
          exact S
        · refine if_F (decide_eq_false fun z => hc (V.str.inj z)) ?_
          rw [et, List.filter_append, List.filter_cons, if_neg (by rw [decide_eq_false hc]; exact Bool.false_ne_true), List.filter_nil, List.append_nil]
          exact S
    · intro D H S
      rw [List.length_map, List.take_length, hf] at S
      wtm_at "wp"
      exact q _ (S.sub (by wtm_at "sub"))
/-! ### pieces -/
theorem pcs_sum (bs : List Bd) : (bs.flatMap Bd.pcs).length = (bs.map fun b => b.pcs.length).sum := by
  induction bs with
  | nil => rfl
  | cons b r ih => rw [List.flatMap_cons, List.length_append, List.map_cons, List.sum_cons, ih]
theorem pcs_le (bs : List Bd) : bs.length ≤ (bs.flatMap Bd.pcs).length := by
  induction bs with
  | nil => exact Nat.le_refl _
  | cons b r ih =>
    have := b.pcs_pos
    rw [List.flatMap_cons, List.length_append, List.length_cons]
    omega
def spPieces : Sp := fun vs H Q _ => ∃ (Z : Hp) (L : Lx) (b : Bd) (v : V), vs = [v] ∧ SH Z L H ∧ BdAt Z b v ∧ b.pcs.length ≤ 1000 ∧ ∀ r H1 ws, SH Z ((r, .lst ws) :: L) H1 → BdsAt Z b.pcs ws → Q (.ref r) H1
theorem ok_pieces (T : Tx K mg) : Cal P w K mg base 2 "pieces" ["body"] spPieces := by
  refine mk_cal (F_pieces T) (g_pieces T) sc_pieces (fun _ _ _ _ _ _ us hl => match us, hl with | [_], _ => rfl) ?len ?body
  case len =>
    rintro vs H Q E ⟨Z, L, b, v, rfl, _⟩
    rfl
  case body =>
    rintro cdv A outer s H vs Q E hr ⟨Z, L, b, v, rfl, S, hb, hlen, q⟩
    refine ⟨_, (pss_cons (ps_set (i := 1) sc_pieces.nd rfl (Or.inl rfl) (pe_lst pa_nil)) (pss_cons (ps_set (i := 2) sc_pieces.nd rfl (Or.inl rfl) (pe_lst (pa_cons (pv 0) pa_nil))) (pss_cons (ps_while PassesOwn.never (pt_cmpR op_gt (pe_callB call_lenA (by rfl) (b_len T) (by decide +kernel) (pa_cons (pv 2) pa_nil)) pe_int (nomark _)) (pss_cons (ps_set (i := 3) sc_pieces.nd rfl (Or.inl rfl) (pe_bm0K (K := K) (pe_bm0 PySem.F.plainAttrs_list PySem.F.slot_list_pop PySem.F.type_list_pop mt_pop (pv 2)))) (pss_cons (ps_expr (pe_bmK (K := K) (pe_bm PySem.F.plainAttrs_list PySem.F.slot_list_append PySem.F.type_list_append mt_append (pv 1) (pa_cons (pv 3) pa_nil)))) (pss_one (ps_expr (pe_bmK (K := K) (pe_bm PySem.F.plainAttrs_list PySem.F.slot_list_extend PySem.F.type_list_extend mt_extend (pv 2) (pa_cons (pe_listRev (K := K) rfl (by rfl) (b_list T) (by rfl) (b_reversed T) (pe_cal (ok_bodies_in T) hr (pa_cons (pv 3) pa_nil))) pa_nil)))))))) (pss_one (ps_ret (pv 1)))))), ?_⟩
    show (_ : TS) _ ([some _, none, none, none] : L2.St) _
    wtm_at "wp"
    rename_i f H1 S1
    refine w_while (fun m σ H => ∃ (dn td : List Bd) (wd wt : List V) (pc : Option V), σ = [some v, some (.ref f), some (.ref p), pc] ∧ SH Z ((p, .lst wt.reverse) :: (f, .lst wd) :: L) H ∧ BdsAt Z dn wd ∧ BdsAt Z td wt ∧ dn ++ td.flatMap Bd.pcs = b.pcs ∧ m = (td.flatMap Bd.pcs).length)
      _ ⟨[], [b], [], [v], none, rfl, S, .nil, .cons hb .nil, by simp, rfl⟩ ?_
    rintro m σ H ⟨dn, td, wd, wt, pc, rfl, S, h1, h2, he, rfl⟩
    have ht : td.length = wt.length := h2.length
    have hd : dn.length = wd.length := h1.length
    have hn := congrArg List.length he
    rw [List.length_append] at hn
    wtm_at "wp"
    cases h2 with
    | nil =>
      refine if_F (by rfl) ?_
      rw [List.flatMap_nil, List.append_nil] at he
      subst he
      wtm_at "wp"
      exact q _ _ _ (S.sub (by wtm_at "sub")) h1
    | @cons t w ts wts hw hws =>
      refine if_T (by rw [List.length_reverse]; exact decide_eq_true (by rw [List.length_cons]; omega)) ?_
      refine k_turn ?_
      have hp : t.pcs.length + (ts.flatMap Bd.pcs).length = ((t :: ts).flatMap Bd.pcs).length := by rw [List.flatMap_cons, List.length_append]
      have hk : 1 + (t.kids.flatMap Bd.pcs).length = t.pcs.length := by rw [t.pcs_eq, List.length_cons]; omega
      have l1 := pcs_le t.kids
      have l2 := pcs_le ts
      wtm_at "wp"
      rw [List.reverse_cons] at S
      wtm_at "wp"
      wtm_at "wp"
      refine ⟨Z, _, t, w, rfl, S, hw, fun r H wk S hwk => ?_⟩
      have hkl : t.kids.length = wk.length := hwk.length
      wtm_at "wp"
      refine k_ext S (by wtm_at "mem") (by wtm_at "in") (le_line (by simp only [List.length_reverse, List.length_cons] at ht ⊢; omega)) (by wtm_at "wr") (fun H S => ?_)
      refine ⟨_, ?_, dn ++ [t], t.kids ++ ts, wd ++ [w], wk ++ wts, _, rfl, ?_, Paired.app h1 (.cons hw .nil), Paired.app hwk hws, ?_, rfl⟩
      · rw [List.flatMap_append, List.length_append]
        omega
      · rw [List.reverse_append]
        exact S.sub (by wtm_at "sub")
      · rw [List.flatMap_append, ← he, List.flatMap_cons, t.pcs_eq, List.append_assoc]
        rfl
end
end AL
/-! B2 -/
namespace AL
open PySem PySem.Spec PyProof.Rows L2
/-! ### the program: one ask, one keeper with one hear, two functions without params -/
structure Pg where
  (q K f0 f1 hx hh hn ex en : Str)
  (hb eb b0 b1 : Bd)
structure PgA where
  (asks ask kps kp en hs hr fns fn0 fn1 e0 e1 : Addr)
  (n1 n2 note kt kg k0 k1 hbv ebv b0v b1v : V)
structure ProgAt (Z : Hp) (g : Pg) (a : PgA) (p : Addr) : Prop where
  h0 : Z p = some (.tup [.ref a.asks, .ref a.kps, .ref a.fns])
  h1 : Z a.asks = some (.tup [.ref a.ask])
  h2 : Z a.ask = some (.tup [.str g.q, a.n1, a.n2])
  h3 : Z a.kps = some (.tup [.ref a.kp])
  h4 : Z a.kp = some (.tup [.str g.K, a.note, a.kt, a.kg, .ref a.en, .ref a.hs])
  h5 : Z a.en = some (.tup [.str g.ex, .str g.en, a.ebv])
  h6 : Z a.hs = some (.tup [.ref a.hr])
  h7 : Z a.hr = some (.tup [.str g.q, .str g.hx, .str g.hh, .str g.hn, a.hbv])
  h8 : Z a.fns = some (.tup [.ref a.fn0, .ref a.fn1])
  h9 : Z a.fn0 = some (.tup [.str g.f0, .ref a.e0, a.k0, a.b0v])
  h10 : Z a.e0 = some (.tup [])
  h11 : Z a.fn1 = some (.tup [.str g.f1, .ref a.e1, a.k1, a.b1v])
  h12 : Z a.e1 = some (.tup [])
  bh : BdAt Z g.hb a.hbv
  be : BdAt Z g.eb a.ebv
  b0 : BdAt Z g.b0 a.b0v
  b1 : BdAt Z g.b1 a.b1v
  ne : g.f0 ≠ g.f1
theorem ProgAt.mono {Z Z1 : Hp} (hs : Same Z Z1) {g : Pg} {a : PgA} {p : Addr} (h : ProgAt Z g a p) : ProgAt Z1 g a p :=
  ⟨hs _ _ h.h0, hs _ _ h.h1, hs _ _ h.h2, hs _ _ h.h3, hs _ _ h.h4, hs _ _ h.h5, hs _ _ h.h6, hs _ _ h.h7, hs _ _ h.h8, hs _ _ h.h9, hs _ _ h.h10, hs _ _ h.h11, hs _ _ h.h12,
    h.bh.mono hs, h.be.mono hs, h.b0.mono hs, h.b1.mono hs, h.ne⟩
/-- its parts -/
inductive Pt where
  | en | hr | d0 | d1
  deriving DecidableEq
def Pt.tup (g : Pg) : Pt → List V
  | .en => [.str "end", .str g.K]
  | .hr => [.str "hear", .str g.K, .str g.q]
  | .d0 => [.str "def", .str g.f0]
  | .d1 => [.str "def", .str g.f1]
def Pt.body (g : Pg) : Pt → Bd
  | .en => g.eb
  | .hr => g.hb
  | .d0 => g.b0
  | .d1 => g.b1
def Pt.own (g : Pg) : Pt → List Str
  | .en => [g.ex, g.en]
  | .hr => [g.hx, g.hh, g.hn]
  | .d0 => []
  | .d1 => []
def PtAt (Z : Hp) (g : Pg) (t : Pt) (v : V) : Prop := ∃ p, v = .ref p ∧ Z p = some (.tup (t.tup g))
theorem PtAt.mono {Z Z1 : Hp} (hs : Same Z Z1) {g : Pg} {t : Pt} {v : V} (h : PtAt Z g t v) : PtAt Z1 g t v := by
  obtain ⟨p, e, h⟩ := h
  exact ⟨p, e, hs _ _ h⟩
section
variable {P : Program} {w : World} {K : PySem.W.Frag} {mg : Str → Option Value} {base : Heap}
/-! ### all_parts -/
def spAllParts : Sp := fun vs H Q _ => ∃ (Z : Hp) (L : Lx) (g : Pg) (a : PgA) (p : Addr), vs = [.ref p] ∧ SH Z L H ∧ ProgAt Z g a p ∧
  ∀ r Z1 H1 t0 t1 t2 t3, Same Z Z1 → SH Z1 L H1 → Z1 r = some (.lst [.ref t0, .ref t1, .ref t2, .ref t3]) → Z1 t0 = some (.tup (Pt.en.tup g)) → Z1 t1 = some (.tup (Pt.hr.tup g)) → Z1 t2 = some (.tup (Pt.d0.tup g)) → Z1 t3 = some (.tup (Pt.d1.tup g)) → Q (.ref r) H1
theorem ok_all_parts (T : Tx K mg) : Cal P w K mg base 1 "all_parts" ["program"] spAllParts := by
  refine mk_cal (F_all_parts T) (g_all_parts T) sc_all_parts (fun _ _ _ _ _ _ us hl => match us, hl with | [_], _ => rfl) ?len ?body
  case len =>
    rintro vs H Q E ⟨Z, L, g, a, p, rfl, _⟩
    rfl
  case body =>
    rintro cdv A outer s H vs Q E hr ⟨Z, L, g, a, p, rfl, S, A1, q⟩
    refine ⟨_, (pss_cons (ps_set (i := 1) sc_all_parts.nd rfl (Or.inl rfl) (pe_lst pa_nil)) (pss_cons (ps_for PassesOwn.never rfl (pi_tupK (K := K) (pe_ix (ix_anyK (K := K)) (pv 0) pe_int (fun _ _ => rfl))) (pg_name (i := 2) sc_all_parts.nd rfl (Or.inl rfl)) (pss_cons (ps_expr (pe_bmK (K := K) (pe_bm PySem.F.plainAttrs_list PySem.F.slot_list_append PySem.F.type_list_append mt_append (pv 1) (pa_cons (pe_tup (pa_cons pe_str (pa_cons (pe_ix (ix_anyK (K := K)) (pv 2) pe_int (fun _ _ => rfl)) pa_nil))) pa_nil)))) (pss_one (ps_for PassesOwn.never rfl (pi_tupK (K := K) (pe_ix (ix_anyK (K := K)) (pv 2) pe_int (fun _ _ => rfl))) (pg_name (i := 3) sc_all_parts.nd rfl (Or.inl rfl)) (pss_one (ps_expr (pe_bmK (K := K) (pe_bm PySem.F.plainAttrs_list PySem.F.slot_list_append PySem.F.type_list_append mt_append (pv 1) (pa_cons (pe_tup (pa_cons pe_str (pa_cons (pe_ix (ix_anyK (K := K)) (pv 2) pe_int (fun _ _ => rfl)) (pa_cons (pe_ix (ix_anyK (K := K)) (pv 3) pe_int (fun _ _ => rfl)) pa_nil)))) pa_nil))))))))) (pss_cons (ps_for PassesOwn.never rfl (pi_tupK (K := K) (pe_ix (ix_anyK (K := K)) (pv 0) pe_int (fun _ _ => rfl))) (pg_name (i := 4) sc_all_parts.nd rfl (Or.inl rfl)) (pss_one (ps_expr (pe_bmK (K := K) (pe_bm PySem.F.plainAttrs_list PySem.F.slot_list_append PySem.F.type_list_append mt_append (pv 1) (pa_cons (pe_tup (pa_cons pe_str (pa_cons (pe_ix (ix_anyK (K := K)) (pv 4) pe_int (fun _ _ => rfl)) pa_nil))) pa_nil)))))) (pss_one (ps_ret (pv 1)))))), ?_⟩
    show (_ : TS) _ ([some _, none, none, none, none] : L2.St) _
    obtain ⟨h0, h1, h2, h3, h4, h5, h6, h7, h8, h9, h10, h11, h12, bh, be, b0, b1, ne⟩ := A1
    wtm_at "wp"
    wtm_at "un"
    wtm_at "wp"
    wtm_at "un"
    wtm_at "wp"
    wtm_at "un"
    wtm_at "wp"
    obtain ⟨S2, hs, hz⟩ := SH.frzs (M := [_, _, _, _, _]) S
    exact q _ _ _ _ _ _ _ hs S2 (hz _ _ (by wtm_at "mem")) (hz _ _ (by wtm_at "mem")) (hz _ _ (by wtm_at "mem")) (hz _ _ (by wtm_at "mem")) (hz _ _ (by wtm_at "mem"))
/-! ### named, for the rows of the program -/
section
variable {Z : Hp} {L : Lx} {H : Hp} {Q : VK} {E : XK} {rows r r0 r1 : Addr} {nm n0 n1 : Str} {xs ys : List V}
theorem use_named1 (S : SH Z L H) (h : Z rows = some (.tup [.ref r])) (h2 : Z r = some (.tup (.str nm :: xs))) (q : ∀ H1, SH Z L H1 → Q (.ref r) H1) : spNamed [.ref rows, .str nm] H Q E :=
  ⟨Z, L, rows, nm, [(nm, r)], [], nm, r, rfl, S, h, fun q hq => by obtain rfl := List.mem_singleton.mp hq; exact ⟨_, h2⟩, (by show 1 ≤ 10; decide), by simp, q⟩
theorem use_named2a (S : SH Z L H) (h : Z rows = some (.tup [.ref r0, .ref r1])) (h2 : Z r0 = some (.tup (.str n0 :: xs))) (h3 : Z r1 = some (.tup (.str n1 :: ys))) (ne : n0 ≠ n1) (q : ∀ H1, SH Z L H1 → Q (.ref r0) H1) : spNamed [.ref rows, .str n0] H Q E :=
  ⟨Z, L, rows, n0, [(n0, r0), (n1, r1)], [], n0, r0, rfl, S, h, fun q hq => by
    rcases List.mem_cons.mp hq with rfl | hq
    · exact ⟨_, h2⟩
    · obtain rfl := List.mem_singleton.mp hq
      exact ⟨_, h3⟩, (by show 2 ≤ 10; decide), by simp [ne.symm], q⟩
theorem use_named2b (S : SH Z L H) (h : Z rows = some (.tup [.ref r0, .ref r1])) (h2 : Z r0 = some (.tup (.str n0 :: xs))) (h3 : Z r1 = some (.tup (.str n1 :: ys))) (ne : n0 ≠ n1) (q : ∀ H1, SH Z L H1 → Q (.ref r1) H1) : spNamed [.ref rows, .str n1] H Q E :=
  ⟨Z, L, rows, n1, [(n0, r0), (n1, r1)], [], n1, r1, rfl, S, h, fun q hq => by
    rcases List.mem_cons.mp hq with rfl | hq
    · exact ⟨_, h2⟩
    · obtain rfl := List.mem_singleton.mp hq
      exact ⟨_, h3⟩, (by show 2 ≤ 10; decide), by simp [ne], q⟩
end
/-! ### body_of -/
def spBodyOf : Sp := fun vs H Q _ => ∃ (Z : Hp) (L : Lx) (g : Pg) (a : PgA) (p : Addr) (t : Pt) (v : V), vs = [.ref p, v] ∧ SH Z L H ∧ ProgAt Z g a p ∧ PtAt Z g t v ∧ ∀ r H1, SH Z L H1 → BdAt Z (t.body g) r → Q r H1
theorem ok_body_of (T : Tx K mg) : Cal P w K mg base 2 "body_of" ["program", "part"] spBodyOf := by
  refine mk_cal (F_body_of T) (g_body_of T) sc_body_of (fun _ _ _ _ _ _ us hl => match us, hl with | [_, _], _ => rfl) ?len ?body
  case len =>
    rintro vs H Q E ⟨Z, L, g, a, p, t, v, rfl, _⟩
    rfl
  case body =>
    rintro cdv A outer s H vs Q E hr ⟨Z, L, g, a, p, t, v, rfl, S, A1, ⟨x, rfl, hx⟩, q⟩
    refine ⟨_, (pss_cons (ps_if (pt_cmpR op_eq (pe_ix (ix_anyK (K := K)) (pv 1) pe_int (fun _ _ => rfl)) pe_str (nomark _)) (pss_one (ps_ret (pe_ix (ix_anyK (K := K)) (pe_cal (ok_named T) hr (pa_cons (pe_ix (ix_anyK (K := K)) (pv 0) pe_int (fun _ _ => rfl)) (pa_cons (pe_ix (ix_anyK (K := K)) (pv 1) pe_int (fun _ _ => rfl)) pa_nil))) pe_int (fun _ _ => rfl)))) pss_nil) (pss_cons (ps_set (i := 2) sc_body_of.nd rfl (Or.inl rfl) (pe_cal (ok_named T) hr (pa_cons (pe_ix (ix_anyK (K := K)) (pv 0) pe_int (fun _ _ => rfl)) (pa_cons (pe_ix (ix_anyK (K := K)) (pv 1) pe_int (fun _ _ => rfl)) pa_nil)))) (pss_cons (ps_if (pt_cmpR op_eq (pe_ix (ix_anyK (K := K)) (pv 1) pe_int (fun _ _ => rfl)) pe_str (nomark _)) (pss_one (ps_ret (pe_ix (ix_anyK (K := K)) (pe_ix (ix_anyK (K := K)) (pv 2) pe_int (fun _ _ => rfl)) pe_int (fun _ _ => rfl)))) pss_nil) (pss_one (ps_ret (pe_ix (ix_anyK (K := K)) (pe_cal (ok_named T) hr (pa_cons (pe_ix (ix_anyK (K := K)) (pv 2) pe_int (fun _ _ => rfl)) (pa_cons (pe_ix (ix_anyK (K := K)) (pv 1) pe_int (fun _ _ => rfl)) pa_nil))) pe_int (fun _ _ => rfl))))))), ?_⟩
    show (_ : TS) _ ([some _, some _, none] : L2.St) _
    obtain ⟨h0, h1, h2, h3, h4, h5, h6, h7, h8, h9, h10, h11, h12, bh, be, b0, b1, ne⟩ := A1
    cases t with
    | en =>
      replace hx : Z x = some (.tup [.str "end", .str g.K]) := hx
      wtm_at "wp"
      refine use_named1 S h3 h4 fun H S => ?_
      wtm_at "wp"
      exact q _ _ S be
    | hr =>
      replace hx : Z x = some (.tup [.str "hear", .str g.K, .str g.q]) := hx
      wtm_at "wp"
      refine use_named1 S h3 h4 fun H S => ?_
      wtm_at "wp"
      refine use_named1 S h6 h7 fun H S => ?_
      wtm_at "wp"
      exact q _ _ S bh
    | d0 =>
      replace hx : Z x = some (.tup [.str "def", .str g.f0]) := hx
      wtm_at "wp"
      refine use_named2a S h8 h9 h11 ne fun H S => ?_
      wtm_at "wp"
      exact q _ _ S b0
    | d1 =>
      replace hx : Z x = some (.tup [.str "def", .str g.f1]) := hx
      wtm_at "wp"
      refine use_named2b S h8 h9 h11 ne fun H S => ?_
      wtm_at "wp"
      exact q _ _ S b1
/-! ### what a part begins with -/
def OwnAt (Z : Hp) (ns : List Str) (vs : List V) : Prop := Paired (fun n v => ∃ t k, v = .ref t ∧ Z t = some (.tup [.str n, k])) ns vs
def spEndBegins : Sp := fun vs H Q _ => ∃ (Z : Hp) (L : Lx) (g : Pg) (a : PgA) (p : Addr), vs = [.ref a.kp] ∧ SH Z L H ∧ ProgAt Z g a p ∧ ∀ r Z1 H1 ws, Same Z Z1 → SH Z1 L H1 → Z1 r = some (.lst ws) → OwnAt Z1 [g.ex, g.en] ws → Q (.ref r) H1
theorem ok_end_begins (T : Tx K mg) : Cal P w K mg base 1 "end_begins" ["keeper"] spEndBegins := by
  refine mk_cal (F_end_begins T) (g_end_begins T) sc_end_begins (fun _ _ _ _ _ _ us hl => match us, hl with | [_], _ => rfl) ?len ?body
  case len =>
    rintro vs H Q E ⟨Z, L, g, a, p, rfl, _⟩
    rfl
  case body =>
    rintro cdv A outer s H vs Q E hr ⟨Z, L, g, a, p, rfl, S, A1, q⟩
    refine ⟨_, (pss_cons (ps_asg (pe_ix (ix_anyK (K := K)) (pv 0) pe_int (fun _ _ => rfl)) (pg_tupK (K := K) (by rfl) (pgs_cons (pg_name (i := 1) sc_end_begins.nd rfl (Or.inl rfl)) (pgs_cons (pg_name (i := 2) sc_end_begins.nd rfl (Or.inl rfl)) (pgs_cons (pg_name (i := 3) sc_end_begins.nd rfl (Or.inl rfl)) pgs_nil))))) (pss_one (ps_ret (pe_lst (pa_cons (pe_tup (pa_cons (pv 1) (pa_cons (pe_ix (ix_anyK (K := K)) (pv 0) pe_int (fun _ _ => rfl)) pa_nil))) (pa_cons (pe_tup (pa_cons (pv 2) (pa_cons (pe_ix (ix_anyK (K := K)) (pv 0) pe_int (fun _ _ => rfl)) pa_nil))) pa_nil)))))), ?_⟩
    show (_ : TS) _ ([some _, none, none, none] : L2.St) _
    obtain ⟨h0, h1, h2, h3, h4, h5, h6, h7, h8, h9, h10, h11, h12, bh, be, b0, b1, ne⟩ := A1
    wtm_at "wp"
    obtain ⟨S2, hs, hz⟩ := SH.frzs (M := [_, _, _]) S
    exact q _ _ _ _ hs S2 (hz _ _ (by wtm_at "mem")) (.cons ⟨_, _, rfl, hz _ _ (by wtm_at "mem")⟩ (.cons ⟨_, _, rfl, hz _ _ (by wtm_at "mem")⟩ .nil))
def spHearBegins : Sp := fun vs H Q _ => ∃ (Z : Hp) (L : Lx) (g : Pg) (a : PgA) (p : Addr), vs = [.ref a.asks, .ref a.kp, .ref a.hr] ∧ SH Z L H ∧ ProgAt Z g a p ∧ ∀ r Z1 H1 ws, Same Z Z1 → SH Z1 L H1 → Z1 r = some (.lst ws) → OwnAt Z1 [g.hx, g.hh, g.hn] ws → Q (.ref r) H1
theorem ok_hear_begins (T : Tx K mg) : Cal P w K mg base 2 "hear_begins" ["asks", "keeper", "hear"] spHearBegins := by
  refine mk_cal (F_hear_begins T) (g_hear_begins T) sc_hear_begins (fun _ _ _ _ _ _ us hl => match us, hl with | [_, _, _], _ => rfl) ?len ?body
  case len =>
    rintro vs H Q E ⟨Z, L, g, a, p, rfl, _⟩
    rfl
  case body =>
    rintro cdv A outer s H vs Q E hr ⟨Z, L, g, a, p, rfl, S, A1, q⟩
    refine ⟨_, (pss_cons (ps_asg (pv 2) (pg_tupK (K := K) (by rfl) (pgs_cons (pg_name (i := 3) sc_hear_begins.nd rfl (Or.inl rfl)) (pgs_cons (pg_name (i := 4) sc_hear_begins.nd rfl (Or.inl rfl)) (pgs_cons (pg_name (i := 5) sc_hear_begins.nd rfl (Or.inl rfl)) (pgs_cons (pg_name (i := 6) sc_hear_begins.nd rfl (Or.inl rfl)) (pgs_cons (pg_name (i := 7) sc_hear_begins.nd rfl (Or.inl rfl)) pgs_nil))))))) (pss_one (ps_ret (pe_lst (pa_cons (pe_tup (pa_cons (pv 4) (pa_cons (pe_ix (ix_anyK (K := K)) (pe_cal (ok_named T) hr (pa_cons (pv 0) (pa_cons (pv 3) pa_nil))) pe_int (fun _ _ => rfl)) pa_nil))) (pa_cons (pe_tup (pa_cons (pv 5) (pa_cons (pe_tup (pa_cons pe_str (pa_cons (pe_ix (ix_anyK (K := K)) (pv 1) pe_int (fun _ _ => rfl)) (pa_cons (pv 3) pa_nil)))) pa_nil))) (pa_cons (pe_tup (pa_cons (pv 6) (pa_cons (pe_ix (ix_anyK (K := K)) (pv 1) pe_int (fun _ _ => rfl)) pa_nil))) pa_nil))))))), ?_⟩
    show (_ : TS) _ ([some _, some _, some _, none, none, none, none, none] : L2.St) _
    obtain ⟨h0, h1, h2, h3, h4, h5, h6, h7, h8, h9, h10, h11, h12, bh, be, b0, b1, ne⟩ := A1
    wtm_at "wp"
    refine use_named1 S h1 h2 fun H S => ?_
    wtm_at "wp"
    obtain ⟨S2, hs, hz⟩ := SH.frzs (M := [_, _, _, _, _]) S
    exact q _ _ _ _ hs S2 (hz _ _ (by wtm_at "mem")) (.cons ⟨_, _, rfl, hz _ _ (by wtm_at "mem")⟩ (.cons ⟨_, _, rfl, hz _ _ (by wtm_at "mem")⟩ (.cons ⟨_, _, rfl, hz _ _ (by wtm_at "mem")⟩ .nil)))
def spBegunWith : Sp := fun vs H Q _ => ∃ (Z : Hp) (L : Lx) (g : Pg) (a : PgA) (p : Addr) (t : Pt) (v : V), vs = [.ref p, v] ∧ SH Z L H ∧ ProgAt Z g a p ∧ PtAt Z g t v ∧ ∀ r Z1 H1 ws, Same Z Z1 → SH Z1 L H1 → Z1 r = some (.lst ws) → OwnAt Z1 (t.own g) ws → Q (.ref r) H1
theorem ok_begun_with (T : Tx K mg) : Cal P w K mg base 3 "begun_with" ["program", "part"] spBegunWith := by
  refine mk_cal (F_begun_with T) (g_begun_with T) sc_begun_with (fun _ _ _ _ _ _ us hl => match us, hl with | [_, _], _ => rfl) ?len ?body
  case len =>
    rintro vs H Q E ⟨Z, L, g, a, p, t, v, rfl, _⟩
    rfl
  case body =>
    rintro cdv A outer s H vs Q E hr ⟨Z, L, g, a, p, t, v, rfl, S, A1, ⟨x, rfl, hx⟩, q⟩
    refine ⟨_, (pss_cons (ps_if (pt_cmpR op_eq (pe_ix (ix_anyK (K := K)) (pv 1) pe_int (fun _ _ => rfl)) pe_str (nomark _)) (pss_one (ps_ret (pe_callTy call_listOf (by rfl) (b_list T) (by decide +kernel) (pa_cons (pe_ix (ix_anyK (K := K)) (pe_cal (ok_named T) hr (pa_cons (pe_ix (ix_anyK (K := K)) (pv 0) pe_int (fun _ _ => rfl)) (pa_cons (pe_ix (ix_anyK (K := K)) (pv 1) pe_int (fun _ _ => rfl)) pa_nil))) pe_int (fun _ _ => rfl)) pa_nil)))) pss_nil) (pss_cons (ps_set (i := 2) sc_begun_with.nd rfl (Or.inl rfl) (pe_cal (ok_named T) hr (pa_cons (pe_ix (ix_anyK (K := K)) (pv 0) pe_int (fun _ _ => rfl)) (pa_cons (pe_ix (ix_anyK (K := K)) (pv 1) pe_int (fun _ _ => rfl)) pa_nil)))) (pss_cons (ps_if (pt_cmpR op_eq (pe_ix (ix_anyK (K := K)) (pv 1) pe_int (fun _ _ => rfl)) pe_str (nomark _)) (pss_one (ps_ret (pe_cal (ok_end_begins T) hr (pa_cons (pv 2) pa_nil)))) pss_nil) (pss_one (ps_ret (pe_cal (ok_hear_begins T) hr (pa_cons (pe_ix (ix_anyK (K := K)) (pv 0) pe_int (fun _ _ => rfl)) (pa_cons (pv 2) (pa_cons (pe_cal (ok_named T) hr (pa_cons (pe_ix (ix_anyK (K := K)) (pv 2) pe_int (fun _ _ => rfl)) (pa_cons (pe_ix (ix_anyK (K := K)) (pv 1) pe_int (fun _ _ => rfl)) pa_nil))) pa_nil))))))))), ?_⟩
    show (_ : TS) _ ([some _, some _, none] : L2.St) _
    have A2 := A1
    obtain ⟨h0, h1, h2, h3, h4, h5, h6, h7, h8, h9, h10, h11, h12, bh, be, b0, b1, ne⟩ := A1
    cases t with
    | en =>
      replace hx : Z x = some (.tup [.str "end", .str g.K]) := hx
      wtm_at "wp"
      refine use_named1 S h3 h4 fun H S => ?_
      wtm_at "wp"
      refine ⟨Z, _, g, a, p, rfl, S, A2, fun r Z1 H ws hs S hr hw => ?_⟩
      exact q _ _ _ _ hs (S.sub (by wtm_at "sub")) hr hw
    | hr =>
      replace hx : Z x = some (.tup [.str "hear", .str g.K, .str g.q]) := hx
      wtm_at "wp"
      refine use_named1 S h3 h4 fun H S => ?_
      wtm_at "wp"
      refine use_named1 S h6 h7 fun H S => ?_
      wtm_at "wp"
      refine ⟨Z, _, g, a, p, rfl, S, A2, fun r Z1 H ws hs S hr hw => ?_⟩
      exact q _ _ _ _ hs (S.sub (by wtm_at "sub")) hr hw
    | d0 =>
      replace hx : Z x = some (.tup [.str "def", .str g.f0]) := hx
      wtm_at "wp"
      refine use_named2a S h8 h9 h11 ne fun H S => ?_
      wtm_at "wp"
      obtain ⟨S2, hs, hz⟩ := SH.frzs (M := [_]) S
      exact q _ _ _ _ hs S2 (hz _ _ (by wtm_at "mem")) .nil
    | d1 =>
      replace hx : Z x = some (.tup [.str "def", .str g.f1]) := hx
      wtm_at "wp"
      refine use_named2b S h8 h9 h11 ne fun H S => ?_
      wtm_at "wp"
      obtain ⟨S2, hs, hz⟩ := SH.frzs (M := [_]) S
      exact q _ _ _ _ hs S2 (hz _ _ (by wtm_at "mem")) .nil
end
end AL
/-! B3 -/
namespace AL
open PySem PySem.Spec PyProof.Rows L2
/-! ### code: atoms, rows -/
abbrev KVs := List (Key × V)
inductive Cdd where
  | slot (i : Nat) | lit (i : Int)
def Cdd.tup : Cdd → List V
  | .slot i => [.str "slot", .int (i : Nat)]
  | .lit i => [.str "lit", .int i]
def CddAt (Z : Hp) (c : Cdd) (v : V) : Prop := ∃ p, v = .ref p ∧ Z p = some (.tup c.tup)
/-- the name's slot -/
abbrev Lk (kv : KVs) (n : Str) (i : Nat) : Prop := valV kv (.inr n) = some (.int (i : Nat))
inductive Cod (kv : KVs) : V → Cdd → Prop where
  | slot {n i} (h : Lk kv n i) : Cod kv (.str n) (.slot i)
  | lit {i} : Cod kv (.int i) (.lit i)
inductive Rw where
  | give (c : Cdd)
  | tell (c : Cdd)
  | iff (c : Cdd) (at_ : Nat)
  | case (c : Cdd) (s1 s2 at_ : Nat)
  | sum (x : Nat) (s : Str) (a b : Cdd)
  | empty (x : Nat) (k : V)
  | put (x : Nat) (a r : Cdd)
  | last (x : Nat) (r a : Cdd)
  | ask (x : Nat) (q : Str) (a : Cdd)
  | keep (x : Nat) (k : Str) (a : Cdd) (f : Str)
  | go (x : Nat) (h a b : Cdd)
/-- the rows that bind one name: their word, their slot, what stands behind it -/
def RwTail (Z : Hp) : Rw → List V → Prop
  | .sum _ s a b, ws => ∃ v1 v2, ws = [.str s, v1, v2] ∧ CddAt Z a v1 ∧ CddAt Z b v2
  | .empty _ k, ws => ws = [k]
  | .put _ a r, ws => ∃ v1 v2, ws = [v1, v2] ∧ CddAt Z a v1 ∧ CddAt Z r v2
  | .last _ r a, ws => ∃ v1 v2, ws = [v1, v2] ∧ CddAt Z r v1 ∧ CddAt Z a v2
  | .ask _ q a, ws => ∃ v1, ws = [.str q, v1] ∧ CddAt Z a v1
  | .keep _ k a f, ws => ∃ v1 e, ws = [.str k, v1, .str f, .ref e] ∧ CddAt Z a v1 ∧ Z e = some (.tup [])
  | .go _ h a b, ws => ∃ v1 v2 v3, ws = [v1, v2, v3] ∧ CddAt Z h v1 ∧ CddAt Z a v2 ∧ CddAt Z b v3
  | _, _ => False
def Rw.word : Rw → Str
  | .give _ => "give" | .tell _ => "tell" | .iff _ _ => "if" | .case _ _ _ _ => "case" | .sum _ _ _ _ => "sum" | .empty _ _ => "empty" | .put _ _ _ => "put" | .last _ _ _ => "last"
  | .ask _ _ _ => "ask" | .keep _ _ _ _ => "keep" | .go _ _ _ _ => "go"
def Rw.x : Rw → Nat
  | .sum x _ _ _ => x | .empty x _ => x | .put x _ _ => x | .last x _ _ => x | .ask x _ _ => x | .keep x _ _ _ => x | .go x _ _ _ => x | _ => 0
def RwAt (Z : Hp) : Rw → V → Prop
  | .give c, v => ∃ p w, v = .ref p ∧ Z p = some (.tup [.str "give", w]) ∧ CddAt Z c w
  | .tell c, v => ∃ p w, v = .ref p ∧ Z p = some (.tup [.str "tell", w]) ∧ CddAt Z c w
  | .iff c n, v => ∃ p w, v = .ref p ∧ Z p = some (.tup [.str "if", w, .int (n : Nat)]) ∧ CddAt Z c w
  | .case c s1 s2 n, v => ∃ p w, v = .ref p ∧ Z p = some (.tup [.str "case", w, .int (s1 : Nat), .int (s2 : Nat), .int (n : Nat)]) ∧ CddAt Z c w
  | .sum x s a b, v => ∃ p ws, v = .ref p ∧ Z p = some (.tup (.str "sum" :: .int (x : Nat) :: ws)) ∧ RwTail Z (.sum x s a b) ws
  | .empty x k, v => ∃ p ws, v = .ref p ∧ Z p = some (.tup (.str "empty" :: .int (x : Nat) :: ws)) ∧ RwTail Z (.empty x k) ws
  | .put x a r, v => ∃ p ws, v = .ref p ∧ Z p = some (.tup (.str "put" :: .int (x : Nat) :: ws)) ∧ RwTail Z (.put x a r) ws
  | .last x r a, v => ∃ p ws, v = .ref p ∧ Z p = some (.tup (.str "last" :: .int (x : Nat) :: ws)) ∧ RwTail Z (.last x r a) ws
  | .ask x q a, v => ∃ p ws, v = .ref p ∧ Z p = some (.tup (.str "ask" :: .int (x : Nat) :: ws)) ∧ RwTail Z (.ask x q a) ws
  | .keep x k a f, v => ∃ p ws, v = .ref p ∧ Z p = some (.tup (.str "keep" :: .int (x : Nat) :: ws)) ∧ RwTail Z (.keep x k a f) ws
  | .go x h a b, v => ∃ p ws, v = .ref p ∧ Z p = some (.tup (.str "go" :: .int (x : Nat) :: ws)) ∧ RwTail Z (.go x h a b) ws
theorem CddAt.mono {Z Z1 : Hp} (hs : Same Z Z1) {c : Cdd} {v : V} (h : CddAt Z c v) : CddAt Z1 c v := by
  obtain ⟨p, e, h⟩ := h
  exact ⟨p, e, hs _ _ h⟩
theorem RwTail.mono {Z Z1 : Hp} (hs : Same Z Z1) {r : Rw} {ws : List V} (h : RwTail Z r ws) : RwTail Z1 r ws := by
  cases r with
  | sum x s a b => obtain ⟨v1, v2, e, h1, h2⟩ := h; exact ⟨v1, v2, e, h1.mono hs, h2.mono hs⟩
  | empty x k => exact h
  | put x a r => obtain ⟨v1, v2, e, h1, h2⟩ := h; exact ⟨v1, v2, e, h1.mono hs, h2.mono hs⟩
  | last x r a => obtain ⟨v1, v2, e, h1, h2⟩ := h; exact ⟨v1, v2, e, h1.mono hs, h2.mono hs⟩
  | ask x q a => obtain ⟨v1, e, h1⟩ := h; exact ⟨v1, e, h1.mono hs⟩
  | keep x k a f => obtain ⟨v1, e1, e, h1, h2⟩ := h; exact ⟨v1, e1, e, h1.mono hs, hs _ _ h2⟩
  | go x hh a b => obtain ⟨v1, v2, v3, e, h1, h2, h3⟩ := h; exact ⟨v1, v2, v3, e, h1.mono hs, h2.mono hs, h3.mono hs⟩
  | _ => exact h.elim
theorem RwAt.mono {Z Z1 : Hp} (hs : Same Z Z1) {r : Rw} {v : V} (h : RwAt Z r v) : RwAt Z1 r v := by
  cases r with
  | give c => obtain ⟨p, w, e, h1, h2⟩ := h; exact ⟨p, w, e, hs _ _ h1, h2.mono hs⟩
  | tell c => obtain ⟨p, w, e, h1, h2⟩ := h; exact ⟨p, w, e, hs _ _ h1, h2.mono hs⟩
  | iff c n => obtain ⟨p, w, e, h1, h2⟩ := h; exact ⟨p, w, e, hs _ _ h1, h2.mono hs⟩
  | case c s1 s2 n => obtain ⟨p, w, e, h1, h2⟩ := h; exact ⟨p, w, e, hs _ _ h1, h2.mono hs⟩
  | _ => obtain ⟨p, w, e, h1, h2⟩ := h; exact ⟨p, w, e, hs _ _ h1, h2.mono hs⟩
abbrev RwsAt (Z : Hp) (rs : List Rw) (vs : List V) : Prop := Paired (RwAt Z) rs vs
theorem RwsAt.mono {Z Z1 : Hp} (hs : Same Z Z1) {rs : List Rw} {vs : List V} (h : RwsAt Z rs vs) : RwsAt Z1 rs vs := Paired.mapP h fun _ _ q => RwAt.mono hs q
/-- what a piece binds, from the left -/
def Bd.bnd : Bd → List Str
  | .give _ => []
  | .tell _ _ => []
  | .iff _ _ _ => []
  | .case _ _ x y _ => [x, y]
  | .sum x _ _ _ _ => [x]
  | .empty x _ _ => [x]
  | .put x _ _ _ => [x]
  | .last x _ _ _ => [x]
  | .ask x _ _ _ => [x]
  | .keep x _ _ _ _ _ => [x]
  | .go x _ _ _ _ => [x]
/-- a piece's row; kv the slots, mo those with the bound ones -/
inductive RowR (kv mo : KVs) (at_ : Nat) : Bd → Rw → Prop where
  | give {a c} (h : Cod kv a c) : RowR kv mo at_ (.give a) (.give c)
  | tell {a c n} (h : Cod kv a c) : RowR kv mo at_ (.tell a n) (.tell c)
  | iff {a c b1 b2} (h : Cod kv a c) (hl : b1.pcs.length ≤ 1000) : RowR kv mo at_ (.iff a b1 b2) (.iff c (at_ + 1 + b1.pcs.length))
  | case {a c b1 x y s1 s2 b2} (h : Cod kv a c) (h1 : Lk mo x s1) (h2 : Lk mo y s2) (hl : b1.pcs.length ≤ 1000) : RowR kv mo at_ (.case a b1 x y b2) (.case c s1 s2 (at_ + 1 + b1.pcs.length))
  | sum {x i s a b ca cb n} (h : Lk mo x i) (h1 : Cod kv a ca) (h2 : Cod kv b cb) : RowR kv mo at_ (.sum x s a b n) (.sum i s ca cb)
  | empty {x i k n} (h : Lk mo x i) : RowR kv mo at_ (.empty x k n) (.empty i k)
  | put {x i a r ca cr n} (h : Lk mo x i) (h1 : Cod kv a ca) (h2 : Cod kv r cr) : RowR kv mo at_ (.put x a r n) (.put i ca cr)
  | last {x i r a cr ca n} (h : Lk mo x i) (h1 : Cod kv r cr) (h2 : Cod kv a ca) : RowR kv mo at_ (.last x r a n) (.last i cr ca)
  | ask {x i q a ca n} (h : Lk mo x i) (h1 : Cod kv a ca) : RowR kv mo at_ (.ask x q a n) (.ask i q ca)
  | keep {x i k a ca f g n} (h : Lk mo x i) (h1 : Cod kv a ca) : RowR kv mo at_ (.keep x k a f g n) (.keep i k ca f)
  | go {x i hh a b ch ca cb n} (h : Lk mo x i) (h1 : Cod kv hh ch) (h2 : Cod kv a ca) (h3 : Cod kv b cb) : RowR kv mo at_ (.go x hh a b n) (.go i ch ca cb)
section
variable {P : Program} {w : World} {K : PySem.W.Frag} {mg : Str → Option Value} {base : Heap}
/-! ### coded -/
def spCoded : Sp := fun vs H Q _ => ∃ (Z : Hp) (L : Lx) (d : Addr) (kv : KVs) (a : V) (c : Cdd), vs = [.ref d, a] ∧ SH Z L H ∧ In Z L d (.dK kv) ∧ Cod kv a c ∧ ∀ r H1, SH Z ((r, .tup c.tup) :: L) H1 → Q (.ref r) H1
theorem k_isiStr {Z : Hp} {L : Lx} {H : Hp} {x : Str} {Q : VK} (q : Q (.bl true) H) : rIsi K [.str x, .ty "str"] H Q := k_isi (.ty "str") (.base (.str x)) (kit_ty (by decide +kernel)) q
theorem k_isiStrI {Z : Hp} {L : Lx} {H : Hp} {i : Int} {Q : VK} (q : Q (.bl false) H) : rIsi K [.int i, .ty "str"] H Q := k_isi (.ty "str") (.base (.int i)) (kit_ty (by decide +kernel)) q
theorem ok_coded (T : Tx K mg) : Cal P w K mg base 1 "coded" ["slots", "atom"] spCoded := by
  refine mk_cal (F_coded T) (g_coded T) sc_coded (fun _ _ _ _ _ _ us hl => match us, hl with | [_, _], _ => rfl) ?len ?body
  case len =>
    rintro vs H Q E ⟨Z, L, d, kv, a, c, rfl, _⟩
    rfl
  case body =>
    rintro cdv A outer s H vs Q E hr ⟨Z, L, d, kv, a, c, rfl, S, hd, hc, q⟩
    refine ⟨_, (pss_cons (ps_if (pt_tru (K := K) (pe_callB (call_isiK (K := K)) (by rfl) (b_isinstance T) (by decide +kernel) (pa_cons (pv 1) (pa_cons (pe_bltn (v := .ty "str") (by rfl) (b_str T) (by decide +kernel) rfl) pa_nil))) (by intro _; rfl)) (pss_one (ps_ret (pe_tup (pa_cons pe_str (pa_cons (pe_dget (hu_of hr) (pv 0) (pv 1) (fun _ _ => rfl)) pa_nil))))) pss_nil) (pss_one (ps_ret (pe_tup (pa_cons pe_str (pa_cons (pv 1) pa_nil)))))), ?_⟩
    show (_ : TS) _ ([some _, some _] : L2.St) _
    cases hc with
    | @slot n i h =>
      wtm_at "wp"
      refine k_isiStr (Z := Z) (L := L) ?_
      wtm_at "wp"
      refine k_dgetS S hd h ?_
      wtm_at "wp"
      exact q _ _ S
    | @lit i =>
      wtm_at "wp"
      refine k_isiStrI (Z := Z) (L := L) ?_
      wtm_at "wp"
      exact q _ _ S
/-! ### names_bound -/
def spNamesBound : Sp := fun vs H Q _ => ∃ (Z : Hp) (L : Lx) (b : Bd) (v : V), vs = [v] ∧ SH Z L H ∧ BdAt Z b v ∧ ∀ r H1, SH Z ((r, .lst (b.bnd.map V.str)) :: L) H1 → Q (.ref r) H1
theorem ok_names_bound (T : Tx K mg) : Cal P w K mg base 1 "names_bound" ["piece"] spNamesBound := by
  refine mk_cal (F_names_bound T) (g_names_bound T) sc_names_bound (fun _ _ _ _ _ _ us hl => match us, hl with | [_], _ => rfl) ?len ?body
  case len =>
    rintro vs H Q E ⟨Z, L, b, v, rfl, _⟩
    rfl
  case body =>
    rintro cdv A outer s H vs Q E hr ⟨Z, L, b, v, rfl, S, hb, q⟩
    refine ⟨_, (pss_cons (ps_if (pt_cmpR (op_in_seqK (K := K)) (pe_ix (ix_anyK (K := K)) (pv 0) pe_int (fun _ _ => rfl)) (pe_tup (pa_cons pe_str (pa_cons pe_str (pa_cons pe_str pa_nil)))) (by first | rfl | exact nomark _)) (pss_one (ps_ret (pe_lst pa_nil))) pss_nil) (pss_cons (ps_if (pt_cmpR op_eq (pe_ix (ix_anyK (K := K)) (pv 0) pe_int (fun _ _ => rfl)) pe_str (nomark _)) (pss_one (ps_ret (pe_lst (pa_cons (pe_ix (ix_anyK (K := K)) (pv 0) pe_int (fun _ _ => rfl)) (pa_cons (pe_ix (ix_anyK (K := K)) (pv 0) pe_int (fun _ _ => rfl)) pa_nil))))) pss_nil) (pss_one (ps_ret (pe_lst (pa_cons (pe_ix (ix_anyK (K := K)) (pv 0) pe_int (fun _ _ => rfl)) pa_nil)))))), ?_⟩
    show (_ : TS) _ ([some _] : L2.St) _
    cases b with
    | give a =>
      obtain ⟨p, rfl, hp⟩ := hb
      wtm_at "wp"
      exact q _ _ (S.sub (by wtm_at "sub"))
    | iff a b1 b2 =>
      obtain ⟨p, w1, w2, rfl, hp, h1, h2⟩ := hb
      wtm_at "wp"
      exact q _ _ (S.sub (by wtm_at "sub"))
    | case r b1 x y b2 =>
      obtain ⟨p, w1, w2, rfl, hp, h1, h2⟩ := hb
      wtm_at "wp"
      exact q _ _ (S.sub (by wtm_at "sub"))
    | keep x k a f g nx =>
      obtain ⟨p, w1, rfl, hp, _, h1⟩ := hb
      wtm_at "wp"
      exact q _ _ (S.sub (by wtm_at "sub"))
    | _ =>
      obtain ⟨p, w1, rfl, hp, h1⟩ := hb
      wtm_at "wp"
      exact q _ _ (S.sub (by wtm_at "sub"))
/-! ### deed_of -/
theorem CddAt.of {Z : Hp} {c : Cdd} {p : Addr} (h : Z p = some (.tup c.tup)) : CddAt Z c (.ref p) := ⟨p, rfl, h⟩
def spDeedOf : Sp := fun vs H Q _ => ∃ (Z : Hp) (L : Lx) (b : Bd) (v : V) (d : Addr) (kv mo : KVs) (at_ : Nat) (rw : Rw), vs = [v, .ref d] ∧ SH Z L H ∧ BdAt Z b v ∧ In Z L d (.dK kv) ∧ RowR kv mo at_ b rw ∧ b.bnd.length = 1 ∧
  ∀ r Z1 H1 ws, Same Z Z1 → SH Z1 L H1 → Z1 r = some (.tup ws) → RwTail Z1 rw ws → ws ≠ [] → ws.length ≤ 10 → Q (.ref r) H1
theorem ok_deed_of (T : Tx K mg) : Cal P w K mg base 2 "deed_of" ["piece", "slots"] spDeedOf := by
  refine mk_cal (F_deed_of T) (g_deed_of T) sc_deed_of (fun _ _ _ _ _ _ us hl => match us, hl with | [_, _], _ => rfl) ?len ?body
  case len =>
    rintro vs H Q E ⟨Z, L, b, v, d, kv, mo, at_, rw, rfl, _⟩
    rfl
  case body =>
    rintro cdv A outer s H vs Q E hr ⟨Z, L, b, v, d, kv, mo, at_, rw, rfl, S, hb, hd, hR, hn, q⟩
    refine ⟨_, (pss_cons (ps_set (i := 2) sc_deed_of.nd rfl (Or.inl rfl) (pe_ix (ix_anyK (K := K)) (pv 0) pe_int (fun _ _ => rfl))) (pss_cons (ps_if (pt_cmpR op_eq (pv 2) pe_str (nomark _)) (pss_one (ps_ret (pe_tup (pa_cons (pe_ix (ix_anyK (K := K)) (pv 0) pe_int (fun _ _ => rfl)) pa_nil)))) pss_nil) (pss_cons (ps_if (pt_cmpR op_eq (pv 2) pe_str (nomark _)) (pss_one (ps_ret (pe_tup (pa_cons (pe_ix (ix_anyK (K := K)) (pv 0) pe_int (fun _ _ => rfl)) (pa_cons (pe_cal (ok_coded T) hr (pa_cons (pv 1) (pa_cons (pe_ix (ix_anyK (K := K)) (pv 0) pe_int (fun _ _ => rfl)) pa_nil))) (pa_cons (pe_cal (ok_coded T) hr (pa_cons (pv 1) (pa_cons (pe_ix (ix_anyK (K := K)) (pv 0) pe_int (fun _ _ => rfl)) pa_nil))) pa_nil)))))) pss_nil) (pss_cons (ps_if (pt_cmpR op_eq (pv 2) pe_str (nomark _)) (pss_one (ps_ret (pe_tup (pa_cons (pe_ix (ix_anyK (K := K)) (pv 0) pe_int (fun _ _ => rfl)) (pa_cons (pe_callTy call_tupleOf (by rfl) (b_tuple T) (by decide +kernel) (pa_cons (pe_lc (own := [("atom", 3)]) (g := gName 3) (tt := tYes) (by rfl) sc_deed_of.nd (pi_listK (K := K) (pe_ix (ix_anyK (K := K)) (pv 0) pe_int (fun _ _ => rfl))) (blkOk_by (own := [("atom", 3)]) (N := ["piece", "slots", "word", "atom", "args"]) (sc := defScope s_deed_of) (by decide +kernel)) (fun _ _ _ _ _ => (pg_name (i := 3) sc_deed_of.nd rfl (Or.inl rfl))) (fun _ _ _ _ _ => pts_nil) (fun _ _ _ _ _ => (pe_cal (ok_coded T) hr (pa_cons (pv 1) (pa_cons (pv 3) pa_nil))))) pa_nil)) pa_nil))))) pss_nil) (pss_cons (ps_if (pt_cmpR op_eq (pv 2) pe_str (nomark _)) (pss_one (ps_ret (pe_tup (pa_cons (pe_ix (ix_anyK (K := K)) (pv 0) pe_int (fun _ _ => rfl)) (pa_cons (pe_cal (ok_coded T) hr (pa_cons (pv 1) (pa_cons (pe_ix (ix_anyK (K := K)) (pv 0) pe_int (fun _ _ => rfl)) pa_nil))) pa_nil))))) pss_nil) (pss_cons (ps_if (pt_cmpR op_eq (pv 2) pe_str (nomark _)) (pss_cons (ps_set (i := 4) sc_deed_of.nd rfl (Or.inl rfl) (pe_callTy call_tupleOf (by rfl) (b_tuple T) (by decide +kernel) (pa_cons (pe_lc (own := [("atom", 3)]) (g := gName 3) (tt := tYes) (by rfl) sc_deed_of.nd (pi_tupK (K := K) (pe_ix (ix_anyK (K := K)) (pv 0) pe_int (fun _ _ => rfl))) (blkOk_by (own := [("atom", 3)]) (N := ["piece", "slots", "word", "atom", "args"]) (sc := defScope s_deed_of) (by decide +kernel)) (fun _ _ _ _ _ => (pg_name (i := 3) sc_deed_of.nd rfl (Or.inl rfl))) (fun _ _ _ _ _ => pts_nil) (fun _ _ _ _ _ => (pe_cal (ok_coded T) hr (pa_cons (pv 1) (pa_cons (pv 3) pa_nil))))) pa_nil))) (pss_one (ps_ret (pe_tup (pa_cons (pe_ix (ix_anyK (K := K)) (pv 0) pe_int (fun _ _ => rfl)) (pa_cons (pe_cal (ok_coded T) hr (pa_cons (pv 1) (pa_cons (pe_ix (ix_anyK (K := K)) (pv 0) pe_int (fun _ _ => rfl)) pa_nil))) (pa_cons (pe_ix (ix_anyK (K := K)) (pv 0) pe_int (fun _ _ => rfl)) (pa_cons (pv 4) pa_nil)))))))) pss_nil) (pss_one (ps_ret (pe_callTy call_tupleOf (by rfl) (b_tuple T) (by decide +kernel) (pa_cons (pe_lc (own := [("atom", 3)]) (g := gName 3) (tt := tYes) (by rfl) sc_deed_of.nd (pi_tupK (K := K) (pe_slice (sl_tupK (K := K)) (pv 0) (po_some pe_int) (po_some (pe_un un_neg pe_int)))) (blkOk_by (own := [("atom", 3)]) (N := ["piece", "slots", "word", "atom", "args"]) (sc := defScope s_deed_of) (by decide +kernel)) (fun _ _ _ _ _ => (pg_name (i := 3) sc_deed_of.nd rfl (Or.inl rfl))) (fun _ _ _ _ _ => pts_nil) (fun _ _ _ _ _ => (pe_cal (ok_coded T) hr (pa_cons (pv 1) (pa_cons (pv 3) pa_nil))))) pa_nil)))))))))), ?_⟩
    show (_ : TS) _ ([some _, some _, none, none, none] : L2.St) _
    have hd' : ∀ M : Lx, In Z (M ++ L) d (.dK kv) := fun M => by
      cases hd with
      | l h => exact .l (List.mem_append_right _ h)
      | z h => exact .z h
    cases hR with
    | give h => simp [Bd.bnd] at hn
    | tell h => simp [Bd.bnd] at hn
    | iff h hl => simp [Bd.bnd] at hn
    | case h h1 h2 hl => simp [Bd.bnd] at hn
    | @sum x i sg a b ca cb nx h h1 h2 =>
      obtain ⟨p, w1, rfl, hp, _⟩ := hb
      wtm_at "wp"
      refine ⟨Z, _, d, kv, a, ca, rfl, S, hd' [], h1, fun p H S => ?_⟩
      wtm_at "wp"
      refine ⟨Z, _, d, kv, b, cb, rfl, S, hd' [_], h2, fun p H S => ?_⟩
      wtm_at "wp"
      obtain ⟨S2, hs, hz⟩ := SH.frzs (M := [_, _, _]) S
      exact q _ _ _ _ hs S2 (hz _ _ (by wtm_at "mem")) ⟨_, _, rfl, .of (hz _ _ (by wtm_at "mem")), .of (hz _ _ (by wtm_at "mem"))⟩ (by simp) (by simp)
    | @empty x i k nx h =>
      obtain ⟨p, w1, rfl, hp, _⟩ := hb
      wtm_at "wp"
      obtain ⟨S2, hs, hz⟩ := SH.frzs (M := [_]) S
      exact q _ _ _ _ hs S2 (hz _ _ (by wtm_at "mem")) rfl (by simp) (by simp)
    | @put x i a r ca cr nx h h1 h2 =>
      obtain ⟨p, w1, rfl, hp, _⟩ := hb
      wtm_at "wp"
      refine k_slT S (.z hp) (by wtm_at "sx") (ys := [a, r]) rfl fun p H S => ?_
      wtm_at "un"
      wtm_at "wp"
      refine ⟨Z, _, d, kv, a, ca, rfl, S, hd' [_, _], h1, fun p H S => ?_⟩
      wtm_at "wp"
      refine ⟨Z, _, d, kv, r, cr, rfl, S, hd' [_, _, _], h2, fun p H S => ?_⟩
      wtm_at "wp"
      obtain ⟨S2, hs, hz⟩ := SH.frzs (M := [_, _, _, _, _]) S
      exact q _ _ _ _ hs S2 (hz _ _ (by wtm_at "mem")) ⟨_, _, rfl, .of (hz _ _ (by wtm_at "mem")), .of (hz _ _ (by wtm_at "mem"))⟩ (by simp) (by simp)
    | @last x i r a cr ca nx h h1 h2 =>
      obtain ⟨p, w1, rfl, hp, _⟩ := hb
      wtm_at "wp"
      refine k_slT S (.z hp) (by wtm_at "sx") (ys := [r, a]) rfl fun p H S => ?_
      wtm_at "un"
      wtm_at "wp"
      refine ⟨Z, _, d, kv, r, cr, rfl, S, hd' [_, _], h1, fun p H S => ?_⟩
      wtm_at "wp"
      refine ⟨Z, _, d, kv, a, ca, rfl, S, hd' [_, _, _], h2, fun p H S => ?_⟩
      wtm_at "wp"
      obtain ⟨S2, hs, hz⟩ := SH.frzs (M := [_, _, _, _, _]) S
      exact q _ _ _ _ hs S2 (hz _ _ (by wtm_at "mem")) ⟨_, _, rfl, .of (hz _ _ (by wtm_at "mem")), .of (hz _ _ (by wtm_at "mem"))⟩ (by simp) (by simp)
    | @ask x i qq a ca nx h h1 =>
      obtain ⟨p, w1, rfl, hp, _⟩ := hb
      wtm_at "wp"
      refine ⟨Z, _, d, kv, a, ca, rfl, S, hd' [], h1, fun p H S => ?_⟩
      wtm_at "wp"
      obtain ⟨S2, hs, hz⟩ := SH.frzs (M := [_, _]) S
      exact q _ _ _ _ hs S2 (hz _ _ (by wtm_at "mem")) ⟨_, rfl, .of (hz _ _ (by wtm_at "mem"))⟩ (by simp) (by simp)
    | @keep x i k a ca f g nx h h1 =>
      obtain ⟨p, w1, rfl, hp, ⟨e, rfl, he⟩, _⟩ := hb
      wtm_at "wp"
      wtm_at "un"
      wtm_at "wp"
      refine ⟨Z, _, d, kv, a, ca, rfl, S, hd' [_, _], h1, fun p H S => ?_⟩
      wtm_at "wp"
      obtain ⟨S2, hs, hz⟩ := SH.frzs (M := [_, _, _, _]) S
      exact q _ _ _ _ hs S2 (hz _ _ (by wtm_at "mem")) ⟨_, _, rfl, .of (hz _ _ (by wtm_at "mem")), hz _ _ (by wtm_at "mem")⟩ (by simp) (by simp)
    | @go x i hh a b ch ca cb nx h h1 h2 h3 =>
      obtain ⟨p, w1, rfl, hp, _⟩ := hb
      wtm_at "wp"
      refine k_slT S (.z hp) (by wtm_at "sx") (ys := [hh, a, b]) rfl fun p H S => ?_
      wtm_at "un"
      wtm_at "wp"
      refine ⟨Z, _, d, kv, hh, ch, rfl, S, hd' [_, _], h1, fun p H S => ?_⟩
      wtm_at "wp"
      refine ⟨Z, _, d, kv, a, ca, rfl, S, hd' [_, _, _], h2, fun p H S => ?_⟩
      wtm_at "wp"
      refine ⟨Z, _, d, kv, b, cb, rfl, S, hd' [_, _, _, _], h3, fun p H S => ?_⟩
      wtm_at "wp"
      obtain ⟨S2, hs, hz⟩ := SH.frzs (M := [_, _, _, _, _, _]) S
      exact q _ _ _ _ hs S2 (hz _ _ (by wtm_at "mem")) ⟨_, _, _, rfl, .of (hz _ _ (by wtm_at "mem")), .of (hz _ _ (by wtm_at "mem")), .of (hz _ _ (by wtm_at "mem"))⟩ (by simp) (by simp)
end
end AL
/-! B4 -/
namespace AL
open PySem PySem.Spec PyProof.Rows L2
section
variable {P : Program} {w : World} {K : PySem.W.Frag} {mg : Str → Option Value} {base : Heap}
/-! ### row_of -/
def spRowOf : Sp := fun vs H Q _ => ∃ (Z : Hp) (L : Lx) (b : Bd) (v : V) (d m : Addr) (kv mo : KVs) (at_ : Nat) (rw : Rw), vs = [v, .ref d, .ref m, .int (at_ : Nat)] ∧ SH Z L H ∧ BdAt Z b v ∧ Z d = some (.dK kv) ∧ Z m = some (.dK mo) ∧ RowR kv mo at_ b rw ∧
  ∀ r Z1 H1, Same Z Z1 → SH Z1 L H1 → RwAt Z1 rw r → Q r H1
theorem intN (a : Nat) : ((a : Nat) : Int) + 1 = ((a + 1 : Nat) : Int) := by omega
theorem intA (a b : Nat) : ((a : Nat) : Int) + 1 + (b : Nat) = ((a + 1 + b : Nat) : Int) := by omega
theorem ok_row_of (T : Tx K mg) : Cal P w K mg base 3 "row_of" ["piece", "slots", "more", "at"] spRowOf := by
  refine mk_cal (F_row_of T) (g_row_of T) sc_row_of (fun _ _ _ _ _ _ us hl => match us, hl with | [_, _, _, _], _ => rfl) ?len ?body
  case len =>
    rintro vs H Q E ⟨Z, L, b, v, d, m, kv, mo, at_, rw, rfl, _⟩
    rfl
  case body =>
    rintro cdv A outer s H vs Q E hr ⟨Z, L, b, v, d, m, kv, mo, at_, rw, rfl, S, hb, hd, hm, hR, q⟩
    refine ⟨_, (pss_cons (ps_if (PW.pt (pw_or (pt_cmpR op_eq (pe_ix (ix_anyK (K := K)) (pv 0) pe_int (fun _ _ => rfl)) pe_str (nomark _)) (pw_or1 (pt_cmpR op_eq (pe_ix (ix_anyK (K := K)) (pv 0) pe_int (fun _ _ => rfl)) pe_str (nomark _))))) (pss_one (ps_ret (pe_tup (pa_cons (pe_ix (ix_anyK (K := K)) (pv 0) pe_int (fun _ _ => rfl)) (pa_cons (pe_cal (ok_coded T) hr (pa_cons (pv 1) (pa_cons (pe_ix (ix_anyK (K := K)) (pv 0) pe_int (fun _ _ => rfl)) pa_nil))) pa_nil))))) pss_nil) (pss_cons (ps_if (pt_cmpR op_eq (pe_ix (ix_anyK (K := K)) (pv 0) pe_int (fun _ _ => rfl)) pe_str (nomark _)) (pss_one (ps_ret (pe_tup (pa_cons pe_str (pa_cons (pe_cal (ok_coded T) hr (pa_cons (pv 1) (pa_cons (pe_ix (ix_anyK (K := K)) (pv 0) pe_int (fun _ _ => rfl)) pa_nil))) (pa_cons (pe_op op_add (pe_op op_add (pv 3) pe_int) (pe_callB call_lenA (by rfl) (b_len T) (by decide +kernel) (pa_cons (pe_cal (ok_pieces T) hr (pa_cons (pe_ix (ix_anyK (K := K)) (pv 0) pe_int (fun _ _ => rfl)) pa_nil)) pa_nil))) pa_nil)))))) pss_nil) (pss_cons (ps_if (pt_cmpR op_eq (pe_ix (ix_anyK (K := K)) (pv 0) pe_int (fun _ _ => rfl)) pe_str (nomark _)) (pss_cons (ps_set (i := 4) sc_row_of.nd rfl (Or.inl rfl) (pe_op op_add (pe_op op_add (pv 3) pe_int) (pe_callB call_lenA (by rfl) (b_len T) (by decide +kernel) (pa_cons (pe_cal (ok_pieces T) hr (pa_cons (pe_ix (ix_anyK (K := K)) (pv 0) pe_int (fun _ _ => rfl)) pa_nil)) pa_nil)))) (pss_one (ps_ret (pe_tup (pa_cons pe_str (pa_cons (pe_cal (ok_coded T) hr (pa_cons (pv 1) (pa_cons (pe_ix (ix_anyK (K := K)) (pv 0) pe_int (fun _ _ => rfl)) pa_nil))) (pa_cons (pe_dget (hu_of hr) (pv 2) (pe_ix (ix_anyK (K := K)) (pv 0) pe_int (fun _ _ => rfl)) (fun _ _ => rfl)) (pa_cons (pe_dget (hu_of hr) (pv 2) (pe_ix (ix_anyK (K := K)) (pv 0) pe_int (fun _ _ => rfl)) (fun _ _ => rfl)) (pa_cons (pv 4) pa_nil))))))))) pss_nil) (pss_one (ps_ret (pe_op (op_catTK (K := K)) (pe_tup (pa_cons (pe_ix (ix_anyK (K := K)) (pv 0) pe_int (fun _ _ => rfl)) (pa_cons (pe_dget (hu_of hr) (pv 2) (pe_ix (ix_anyK (K := K)) (pv 0) pe_int (fun _ _ => rfl)) (fun _ _ => rfl)) pa_nil))) (pe_cal (ok_deed_of T) hr (pa_cons (pv 0) (pa_cons (pv 1) pa_nil))))))))), ?_⟩
    show (_ : TS) _ ([some _, some _, some _, some _, none] : L2.St) _
    have hb0 := hb
    have hR0 := hR
    cases hR with
    | @give a c h =>
      obtain ⟨p, rfl, hp⟩ := hb
      wtm_at "wp"
      refine ⟨Z, _, d, kv, a, c, rfl, S, .z hd, h, fun p H S => ?_⟩
      wtm_at "wp"
      obtain ⟨S2, hs, hz⟩ := SH.frzs (M := [_, _]) S
      exact q _ _ _ hs S2 ⟨_, _, rfl, hz _ _ (by wtm_at "mem"), .of (hz _ _ (by wtm_at "mem"))⟩
    | @tell a c n h =>
      obtain ⟨p, w1, rfl, hp, hn⟩ := hb
      wtm_at "wp"
      refine ⟨Z, _, d, kv, a, c, rfl, S, .z hd, h, fun p H S => ?_⟩
      wtm_at "wp"
      obtain ⟨S2, hs, hz⟩ := SH.frzs (M := [_, _]) S
      exact q _ _ _ hs S2 ⟨_, _, rfl, hz _ _ (by wtm_at "mem"), .of (hz _ _ (by wtm_at "mem"))⟩
    | @iff a c b1 b2 h hl =>
      obtain ⟨p, w1, w2, rfl, hp, h1, h2⟩ := hb
      wtm_at "wp"
      refine ⟨Z, _, d, kv, a, c, rfl, S, .z hd, h, fun p H S => ?_⟩
      wtm_at "wp"
      refine ⟨Z, _, b1, w1, rfl, S, h1, hl, fun p H ws S hw => ?_⟩
      wtm_at "wp"
      obtain ⟨S2, hs, hz⟩ := SH.frzs (M := [_, _, _]) S
      refine q _ _ _ hs S2 ⟨_, _, rfl, ?_, .of (hz _ _ (by wtm_at "mem"))⟩
      have e := hw.length
      rw [e, ← intA]
      exact hz _ _ (by wtm_at "mem")
    | @case a c b1 x y s1 s2 b2 h hx hy hl =>
      obtain ⟨p, w1, w2, rfl, hp, h1, h2⟩ := hb
      wtm_at "wp"
      refine ⟨Z, _, b1, w1, rfl, S, h1, hl, fun p H ws S hw => ?_⟩
      wtm_at "wp"
      refine ⟨Z, _, d, kv, a, c, rfl, S, .z hd, h, fun p H S => ?_⟩
      wtm_at "wp"
      obtain ⟨S2, hs, hz⟩ := SH.frzs (M := [_, _, _]) S
      refine q _ _ _ hs S2 ⟨_, _, rfl, ?_, .of (hz _ _ (by wtm_at "mem"))⟩
      have e := hw.length
      rw [e, ← intA]
      exact hz _ _ (by wtm_at "mem")
    | @keep x i k a ca f g nx h h1 =>
      obtain ⟨p, w1, rfl, hp, hg, hn⟩ := hb
      wtm_at "wp"
      refine ⟨Z, _, _, _, d, kv, mo, at_, _, rfl, S, hb0, .z hd, hR0, rfl, fun r Z1 H ws hs S hw ht hne hlen => ?_⟩
      refine k_catT S (by wtm_at "in") (.z hw) (by simp) hne (by wtm_at "len") rfl fun p H S => ?_
      wtm_at "wp"
      obtain ⟨S2, hs2, hz⟩ := SH.frzs (M := [_, _]) S
      exact q _ _ _ (hs.trans hs2) S2 ⟨_, _, rfl, hz _ _ (by wtm_at "mem"), ht.mono hs2⟩
    | _ =>
      obtain ⟨p, w1, rfl, hp, hn⟩ := hb
      wtm_at "wp"
      refine ⟨Z, _, _, _, d, kv, mo, at_, _, rfl, S, hb0, .z hd, hR0, rfl, fun r Z1 H ws hs S hw ht hne hlen => ?_⟩
      refine k_catT S (by wtm_at "in") (.z hw) (by simp) hne (by wtm_at "len") rfl fun p H S => ?_
      wtm_at "wp"
      obtain ⟨S2, hs2, hz⟩ := SH.frzs (M := [_, _]) S
      exact q _ _ _ (hs.trans hs2) S2 ⟨_, _, rfl, hz _ _ (by wtm_at "mem"), ht.mono hs2⟩
end
end AL
/-! B5 -/
namespace AL
open PySem PySem.Spec PyProof.Rows L2
def bndKv : KVs → List Str → Nat → KVs
  | kv, [], _ => kv
  | kv, n :: ns, m => bndKv (putK kv (.inr n) (.int (m : Nat))) ns (m + 1)
theorem bndKv_app (kv : KVs) (n : Str) : ∀ (ns : List Str) (kv : KVs) (m : Nat), bndKv kv (ns ++ [n]) m = putK (bndKv kv ns m) (.inr n) (.int ((m + ns.length : Nat)))
  | [], kv, m => rfl
  | x :: ns, kv, m => by
    show bndKv _ (ns ++ [n]) (m + 1) = putK (bndKv _ ns (m + 1)) _ _
    rw [bndKv_app kv n ns, List.length_cons]
    congr 3
    omega
theorem bndKv_len : ∀ (ns : List Str) (kv : KVs) (m : Nat), (bndKv kv ns m).length ≤ kv.length + ns.length
  | [], kv, m => Nat.le_refl _
  | x :: ns, kv, m => by
    have h1 := bndKv_len ns (putK kv (.inr x) (.int (m : Nat))) (m + 1)
    have h2 := length_putK kv (.inr x) (.int (m : Nat))
    show (bndKv _ ns (m + 1)).length ≤ _
    rw [List.length_cons]
    omega
theorem bndKv_val {n : Str} : ∀ (ns : List Str) (kv : KVs) (m : Nat), n ∉ ns → valV (bndKv kv ns m) (.inr n) = valV kv (.inr n)
  | [], kv, m, _ => rfl
  | x :: ns, kv, m, h => by
    show valV (bndKv _ ns (m + 1)) _ = _
    rw [bndKv_val ns _ _ (fun q => h (List.mem_cons_of_mem _ q)), valV_put, if_neg (fun e => h (by rw [Sum.inr.inj e]; exact List.mem_cons_self))]
theorem bndKv_len2 : ∀ (ns : List Str) (kv : KVs) (m : Nat), ns.Nodup → (∀ n ∈ ns, valV kv (.inr n) = none) → (bndKv kv ns m).length = kv.length + ns.length
  | [], kv, m, _, _ => rfl
  | x :: ns, kv, m, nd, h => by
    obtain ⟨n1, n2⟩ := List.nodup_cons.mp nd
    show (bndKv _ ns (m + 1)).length = _
    rw [bndKv_len2 ns _ _ n2 (fun n hn => by rw [valV_put, if_neg (fun e => n1 (by rw [← Sum.inr.inj e]; exact hn))]; exact h n (List.mem_cons_of_mem _ hn)), putK_new _ (h x List.mem_cons_self), List.length_append, List.length_cons, List.length_cons, List.length_nil]
    omega
/-- the code of a stack of bodies -/
inductive CodeR : List (Bd × KVs) → Nat → Nat → List Rw → Nat → Prop where
  | nil {m at_} : CodeR [] m at_ [] m
  | cons {b kv st m at_ rw rws m'} (hk : kv.length ≤ 1000) (hs : st.length ≤ 1000) (ha : at_ ≤ 1000) (hR : RowR kv (bndKv kv b.bnd m) at_ b rw)
      (h : CodeR (b.kids.map (fun x => (x, bndKv kv b.bnd m)) ++ st) (m + b.bnd.length) (at_ + 1) rws m') : CodeR ((b, kv) :: st) m at_ (rw :: rws) m'
def CoAt (Z : Hp) (rws : List Rw) (m : Nat) (v : V) : Prop := ∃ p rp ws, v = .ref p ∧ Z p = some (.tup [.int (m : Nat), .ref rp]) ∧ Z rp = some (.lst ws) ∧ RwsAt Z rws ws
theorem CoAt.mono {Z Z1 : Hp} (hs : Same Z Z1) {rws : List Rw} {m : Nat} {v : V} (h : CoAt Z rws m v) : CoAt Z1 rws m v := by
  obtain ⟨p, rp, ws, e, h1, h2, h3⟩ := h
  exact ⟨p, rp, ws, e, hs _ _ h1, hs _ _ h2, h3.mono hs⟩
/-- an entry of the stack -/
def StAt (Z : Hp) (e : Bd × KVs) (v : V) : Prop := ∃ t w d, v = .ref t ∧ Z t = some (.tup [w, .ref d]) ∧ BdAt Z e.1 w ∧ Z d = some (.dK e.2)
theorem StAt.mono {Z Z1 : Hp} (hs : Same Z Z1) {e : Bd × KVs} {v : V} (h : StAt Z e v) : StAt Z1 e v := by
  obtain ⟨t, w, d, e, h1, h2, h3⟩ := h
  exact ⟨t, w, d, e, hs _ _ h1, h2.mono hs, hs _ _ h3⟩
theorem Bd.kids2 (b : Bd) : b.kids = [] ∨ (∃ x, b.kids = [x]) ∨ ∃ x y, b.kids = [x, y] := by
  cases b <;> simp [Bd.kids]
theorem Bd.bnd2 (b : Bd) : b.bnd.length ≤ 2 := by
  cases b <;> simp [Bd.bnd]
theorem k_neE {K : PySem.W.Frag} {Z : Hp} {L : Lx} {H : Hp} {a b : Addr} {Q : VK} (S : SH Z L H) (h : In Z L a (.lst [])) (h2 : In Z L b (.lst [])) (q : Q (.bl false) H) : rNeN (.ref a) (.ref b) H Q :=
  ⟨a, b, [], [], rfl, rfl, S.at h, S.at h2, fun _ _ => q, fun e => absurd rfl e, fun _ => ⟨rfl, rfl⟩⟩
theorem k_neC {K : PySem.W.Frag} {Z : Hp} {L : Lx} {H : Hp} {a b : Addr} {xs : List V} {Q : VK} (S : SH Z L H) (h : In Z L a (.lst xs)) (hn : xs ≠ []) (h2 : In Z L b (.lst [])) (q : Q (.bl true) H) : rNeN (.ref a) (.ref b) H Q :=
  ⟨a, b, xs, [], rfl, rfl, S.at h, S.at h2, fun e => absurd e hn, fun _ => q, fun e => absurd (List.length_eq_zero_iff.mp e) hn⟩
section
variable {P : Program} {w : World} {K : PySem.W.Frag} {mg : Str → Option Value} {base : Heap}
def spPartCode : Sp := fun vs H Q _ => ∃ (Z : Hp) (L : Lx) (g : Pg) (a : PgA) (pg : Addr) (t : Pt) (v : V) (rws : List Rw) (m : Nat), vs = [.ref pg, v] ∧ SH Z L H ∧ ProgAt Z g a pg ∧ PtAt Z g t v ∧ (t.own g).Nodup ∧
  CodeR [(t.body g, bndKv [] (t.own g) 0)] (t.own g).length 0 rws m ∧ ∀ r Z1 H1, Same Z Z1 → SH Z1 L H1 → CoAt Z1 rws m r → Q r H1
theorem Pt.own3 (g : Pg) (t : Pt) : (t.own g).length ≤ 3 := by cases t <;> simp [Pt.own]
theorem ok_part_code (T : Tx K mg) : Cal P w K mg base 4 "part_code" ["program", "part"] spPartCode := by
  refine mk_cal (F_part_code T) (g_part_code T) sc_part_code (fun _ _ _ _ _ _ us hl => match us, hl with | [_, _], _ => rfl) ?len ?body
  case len =>
    rintro vs H Q E ⟨Z, L, g, a, pg, t, v, rws, m, rfl, _⟩
    rfl
  case body =>
    rintro cdv A outer s H vs Q E hr ⟨Z, L, g, a, pg, t, v, rws, m, rfl, S, A1, ht, nd, hC, q⟩
    refine ⟨_, (pss_cons (ps_set (i := 2) sc_part_code.nd rfl (Or.inl rfl) pe_dnewK) (pss_cons (ps_for PassesOwn.never rfl (pi_listK (K := K) (pe_cal (ok_begun_with T) hr (pa_cons (pv 0) (pa_cons (pv 1) pa_nil)))) (pg_tupK (K := K) (by rfl) (pgs_cons (pg_name (i := 3) sc_part_code.nd rfl (Or.inl rfl)) (pgs_cons (pg_name (i := 4) sc_part_code.nd rfl (Or.inl rfl)) pgs_nil))) (pss_one (ps_dput (hu_of hr) (pv 2) (pv 3) (pe_callB call_lenA (by rfl) (b_len T) (by decide +kernel) (pa_cons (pv 2) pa_nil)) rfl))) (pss_cons (ps_set (i := 5) sc_part_code.nd rfl (Or.inl rfl) (pe_callB call_lenA (by rfl) (b_len T) (by decide +kernel) (pa_cons (pv 2) pa_nil))) (pss_cons (ps_set (i := 6) sc_part_code.nd rfl (Or.inl rfl) (pe_lst pa_nil)) (pss_cons (ps_set (i := 7) sc_part_code.nd rfl (Or.inl rfl) (pe_lst (pa_cons (pe_tup (pa_cons (pe_cal (ok_body_of T) hr (pa_cons (pv 0) (pa_cons (pv 1) pa_nil))) (pa_cons (pv 2) pa_nil))) pa_nil))) (pss_cons (ps_while PassesOwn.never (pt_cmpR (op_neN hr.units0) (pv 7) (pe_lst pa_nil) (nomark _)) (pss_cons (ps_asg (pe_bm0K (K := K) (pe_bm0 PySem.F.plainAttrs_list PySem.F.slot_list_pop PySem.F.type_list_pop mt_pop (pv 7))) (pg_tupK (K := K) (by rfl) (pgs_cons (pg_name (i := 8) sc_part_code.nd rfl (Or.inl rfl)) (pgs_cons (pg_name (i := 2) sc_part_code.nd rfl (Or.inl rfl)) pgs_nil)))) (pss_cons (ps_set (i := 9) sc_part_code.nd rfl (Or.inr rfl) (pe_callTy call_dictOf (by rfl) (b_dict T) (by decide +kernel) (pa_cons (pv 2) pa_nil))) (pss_cons (ps_for PassesOwn.never rfl (pi_listK (K := K) (pe_cal (ok_names_bound T) hr (pa_cons (pv 8) pa_nil))) (pg_name (i := 3) sc_part_code.nd rfl (Or.inl rfl)) (pss_cons (ps_dput (hu_of hr) (pv 9) (pv 3) (pv 5) rfl) (pss_one (ps_set (i := 5) sc_part_code.nd rfl (Or.inl rfl) (pe_op op_add (pv 5) pe_int))))) (pss_cons (ps_expr (pe_bmK (K := K) (pe_bm PySem.F.plainAttrs_list PySem.F.slot_list_append PySem.F.type_list_append mt_append (pv 6) (pa_cons (pe_cal (ok_row_of T) hr (pa_cons (pv 8) (pa_cons (pv 2) (pa_cons (pv 9) (pa_cons (pe_callB call_lenA (by rfl) (b_len T) (by decide +kernel) (pa_cons (pv 6) pa_nil)) pa_nil))))) pa_nil)))) (pss_one (ps_expr (pe_bmK (K := K) (pe_bm PySem.F.plainAttrs_list PySem.F.slot_list_extend PySem.F.type_list_extend mt_extend (pv 7) (pa_cons (pe_lc (own := [("body", 10)]) (g := gName 10) (tt := tYes) (by rfl) sc_part_code.nd (pi_reversedK (K := K) (by rfl) (b_reversed T) (pa_cons (pe_cal (ok_bodies_in T) hr (pa_cons (pv 8) pa_nil)) pa_nil)) (blkOk_by (own := [("body", 10)]) (N := ["program", "part", "slots", "name", "kind", "many", "rows", "left", "piece", "more", "body"]) (sc := defScope s_part_code) (by decide +kernel)) (fun _ _ _ _ _ => (pg_name (i := 10) sc_part_code.nd rfl (Or.inl rfl))) (fun _ _ _ _ _ => pts_nil) (fun _ _ _ _ _ => (pe_tup (pa_cons (pv 10) (pa_cons (pv 9) pa_nil))))) pa_nil)))))))))) (pss_one (ps_ret (pe_tup (pa_cons (pv 5) (pa_cons (pv 6) pa_nil))))))))))), ?_⟩
    show (_ : TS) _ ([some _, some _, none, none, none, none, none, none, none, none, none] : L2.St) _
    wtm_at "wp"
    rename Addr => sl
    refine ⟨Z, _, g, a, pg, t, v, rfl, S, A1, ht, fun r Z1 H ws hs S hr hw => ?_⟩
    have hwl : (t.own g).length = ws.length := hw.length
    have h3 := t.own3 g
    refine k_for_list S (.z hr) (fun i σ H => ∃ nm kd, σ = [some (.ref pg), some v, some (.ref sl), nm, kd, none, none, none, none, none, none] ∧ SH Z1 ((sl, .dK (bndKv [] ((t.own g).take i) 0)) :: L) H) ⟨_, _, rfl, S⟩ (fun i σ H ⟨_, _, _, S⟩ => S.at (.z hr)) ?_ ?_
    · rintro i x σ H hx ⟨nm, kd, rfl, S⟩
      obtain ⟨n, hn, tt, k, rfl, htt⟩ : ∃ n, (t.own g)[i]? = some n ∧ ∃ tt k, x = .ref tt ∧ Z1 tt = some (.tup [.str n, k]) := by
        have hi : i < ws.length := (List.getElem?_eq_some_iff.mp hx).1
        obtain ⟨y, hy, hF⟩ := Paired.get hw (i := i) (x := (t.own g)[i]'(by omega)) (List.getElem?_eq_getElem (by omega))
        rw [hx] at hy
        obtain rfl := Option.some.inj hy
        exact ⟨_, List.getElem?_eq_getElem (by omega), hF⟩
      have et : (t.own g).take (i + 1) = (t.own g).take i ++ [n] := by rw [List.take_add_one, hn]; rfl
      have hi : i < (t.own g).length := (List.getElem?_eq_some_iff.mp hn).1
      have el : (bndKv [] ((t.own g).take i) 0).length = i := by
        rw [bndKv_len2 _ _ _ ((List.take_sublist _ _).nodup nd) (fun _ _ => rfl), List.length_take, List.length_nil]
        omega
      wtm_at "wp"
      refine ⟨_, _, rfl, ?_⟩
      rw [et, bndKv_app []]
      rw [el] at S
      rw [show 0 + ((t.own g).take i).length = i by rw [List.length_take]; omega]
      exact S
    · rintro σ H ⟨nm, kd, rfl, S⟩
      rw [← hwl, List.take_length] at S
      wtm_at "wp"
      have el : (bndKv [] (t.own g) 0).length = (t.own g).length := by rw [bndKv_len2 _ _ _ nd (fun _ _ => rfl)]; simp
      rename Addr => ra
      obtain ⟨S, hs2, hz2⟩ := S.pick (p := sl) (by wtm_at "pick")
      refine ⟨_, _, g, a, pg, t, v, rfl, S, A1.mono (hs.trans hs2), ht.mono (hs.trans hs2), fun bv H S hb => ?_⟩
      wtm_at "wp"
      rename_i tp _ _
      rename Addr => lf
      obtain ⟨S, hs3, hz3⟩ := S.pick (p := tp) (by wtm_at "pick")
      rw [el]
      refine w_while (fun n σ H => ∃ (Z2 : Hp) (st : List (Bd × KVs)) (wt : List V) (dn rs : List Rw) (wd : List V) (mn : Nat) (sv nm kd pc mo bd : Option V),
        σ = [some (.ref pg), some v, sv, nm, kd, some (.int (mn : Nat)), some (.ref ra), some (.ref lf), pc, mo, bd] ∧ Same Z Z2 ∧ SH Z2 ((lf, .lst wt.reverse) :: (ra, .lst wd) :: L) H ∧ Paired (StAt Z2) st wt ∧ RwsAt Z2 dn wd ∧ CodeR st mn dn.length rs m ∧ dn ++ rs = rws ∧ n = rs.length)
        _ ⟨_, [(t.body g, bndKv [] (t.own g) 0)], [.ref tp], [], rws, [], (t.own g).length, _, _, _, _, _, _, rfl, (hs.trans hs2).trans hs3, S, .cons ⟨tp, bv, sl, rfl, hz3, hb.mono hs3, hs3 _ _ hz2⟩ .nil, .nil, hC, rfl, rfl⟩ ?_
      rintro n σ H ⟨Z2, st, wt, dn, rs, wd, mn, sv, nm, kd, pc, mo, bd, rfl, hsZ, S, hst, hdn, hC, he, rfl⟩
      wtm_at "wp"
      have hdl : dn.length = wd.length := hdn.length
      cases hC with
      | nil =>
        cases hst
        refine k_neE (K := K) S (by wtm_at "in") (by wtm_at "in") ?_
        rw [List.append_nil] at he
        subst he
        wtm_at "wp"
        obtain ⟨S, hs4, hz4⟩ := S.pick (p := ra) (by wtm_at "pick")
        obtain ⟨S, hs5, hz5⟩ := S.pick (by wtm_at "pick")
        exact q _ _ _ ((hsZ.trans hs4).trans hs5) (S.sub (by wtm_at "sub")) ⟨_, _, _, rfl, hz5, hs5 _ _ hz4, hdn.mono (hs4.trans hs5)⟩
      | @cons b kv st _ _ rw rws2 _ hk hsl ha hR h =>
        obtain ⟨w1, wts, rfl, ⟨tu, pcv, sd, rfl, htu, hpc, hsd⟩, hst1⟩ : ∃ w1 wts, wt = w1 :: wts ∧ StAt Z2 (b, kv) w1 ∧ Paired (StAt Z2) st wts := by
          cases hst with
          | cons h1 h2 => exact ⟨_, _, rfl, h1, h2⟩
        have hsl2 : st.length = wts.length := hst1.length
        refine k_neC (K := K) S (by wtm_at "in") (by simp) (by wtm_at "in") ?_
        wtm_at "wp"
        refine k_turn ?_
        rw [List.reverse_cons] at S
        wtm_at "wp"
        rename Addr => md
        refine ⟨Z2, _, b, pcv, rfl, S, hpc, fun nl H S => ?_⟩
        have hb2 := b.bnd2
        have hkl : kv.length ≤ 1000 := hk
        wtm_at "wp"
        refine k_for_list S (by wtm_at "in") (fun i σ H => ∃ nm, σ = [some (.ref pg), some v, some (.ref sd), nm, kd, some (.int ((mn + i : Nat))), some (.ref ra), some (.ref lf), some pcv, some (.ref md), bd] ∧
          SH Z2 ((nl, .lst (b.bnd.map V.str)) :: (md, .dK (bndKv kv (b.bnd.take i) mn)) :: (lf, .lst wts.reverse) :: (ra, .lst wd) :: L) H) ⟨_, rfl, S.sub (by wtm_at "sub")⟩ (fun i σ H ⟨_, _, S⟩ => S.at (.l (by wtm_at "mem"))) ?_ ?_
        · rintro i x σ H hx ⟨nm, rfl, S⟩
          rw [List.getElem?_map] at hx
          obtain ⟨n, hn, rfl⟩ : ∃ n, b.bnd[i]? = some n ∧ V.str n = x := by
            cases e : b.bnd[i]? with
            | none => rw [e] at hx; cases hx
            | some n => rw [e] at hx; exact ⟨n, rfl, Option.some.inj hx⟩
          have et : b.bnd.take (i + 1) = b.bnd.take i ++ [n] := by rw [List.take_add_one, hn]; rfl
          have hi : i < b.bnd.length := (List.getElem?_eq_some_iff.mp hn).1
          have el2 := bndKv_len (b.bnd.take i) kv mn
          have el3 : (b.bnd.take i).length = i := by rw [List.length_take]; omega
          wtm_at "wp"
          refine ⟨_, by rw [show ((mn + (i + 1) : Nat) : Int) = ((mn + i : Nat) : Int) + 1 by omega], ?_⟩
          rw [et, bndKv_app [], el3]
          exact S
        · rintro σ H ⟨nm, rfl, S⟩
          rw [List.length_map, List.take_length] at S
          rw [List.length_map]
          obtain ⟨S, hs4, hz4⟩ := S.pick (p := md) (by wtm_at "pick")
          wtm_at "wp"
          refine ⟨_, _, b, pcv, sd, md, kv, _, dn.length, rw, by rw [hdl], S, hpc.mono hs4, hs4 _ _ hsd, hz4, hR, fun rv Z4 H hs5 S hrv => ?_⟩
          wtm_at "wp"
          refine ⟨_, _, b, pcv, rfl, S, hpc.mono (hs4.trans hs5), fun kl H ks S hks => ?_⟩
          wtm_at "wp"
          have hkl2 : b.kids.length = ks.length := hks.length
          have hk3 : b.kids.length ≤ 2 := by rcases b.kids2 with e | ⟨_, e⟩ | ⟨_, _, e⟩ <;> simp [e]
          have hm4 := hz4
          refine k_lc_rev S (by wtm_at "in") (by wtm_at "wipe") (fun D i H => ∃ Z5 ts, Same Z4 Z5 ∧ SH Z5 ((D, .lst ts) :: (kl, .lst ks) :: (lf, .lst wts.reverse) :: (ra, .lst (wd ++ [rv])) :: L) H ∧ ts.length ≤ i ∧
            Paired (StAt Z5) ((b.kids.drop (b.kids.length - i)).map fun x => (x, bndKv kv b.bnd mn)) ts.reverse) (fun D H S => ⟨_, _, Same.refl _, S.sub (by wtm_at "sub"), Nat.le_refl _, by simp; exact .nil⟩) (fun D i H ⟨_, _, _, S, _⟩ => S.at (.l (by wtm_at "mem"))) ?_ (by wtm_at "wipe") ?_
          · rintro D i x H hi hx ⟨Z5, ts, hs6, S, hts, hpp⟩
            obtain ⟨kb, hkb, hkbx⟩ : ∃ kb, b.kids[b.kids.length - 1 - i]? = some kb ∧ BdAt Z4 kb x := by
              obtain ⟨y, hy, hF⟩ := Paired.get hks (i := b.kids.length - 1 - i) (x := b.kids[b.kids.length - 1 - i]'(by omega)) (List.getElem?_eq_getElem (by omega))
              rw [hkl2, hx] at hy
              obtain rfl := Option.some.inj hy
              exact ⟨_, List.getElem?_eq_getElem (by omega), hF⟩
            wtm_at "wp"
            obtain ⟨S, hs7, hz7⟩ := S.pick (p := p) (by wtm_at "pick")
            refine ⟨_, _, hs6.trans hs7, S, by rw [List.length_append]; simp; omega, ?_⟩
            rw [List.reverse_append]
            have ed : b.kids.drop (b.kids.length - (i + 1)) = kb :: b.kids.drop (b.kids.length - i) := by
              have e1 : b.kids.length - (i + 1) = b.kids.length - 1 - i := by omega
              rw [e1, drop_get hkb]
              congr 2
              omega
            rw [ed, List.map_cons]
            exact .cons ⟨_, _, _, rfl, hz7, hkbx.mono (hs6.trans hs7), (hs6.trans hs7) _ _ (hs5 _ _ hz4)⟩ (Paired.mapP hpp fun _ _ q => StAt.mono hs7 q)
          · rintro D H ⟨Z5, ts, hs6, S, hts, hpp⟩
            wtm_at "wp"
            refine k_ext S (by wtm_at "mem") (by wtm_at "in") (le_line (by simp only [List.length_reverse]; omega)) (by wtm_at "wr") (fun H S => ?_)
            rw [show b.kids.length - ks.length = 0 by omega, List.drop_zero] at hpp
            have hsA := (hs4.trans hs5).trans hs6
            refine ⟨_, by rw [List.length_cons]; exact Nat.lt_succ_self _, Z5, b.kids.map (fun x => (x, bndKv kv b.bnd mn)) ++ st, ts.reverse ++ wts, dn ++ [rw], rws2, wd ++ [rv], mn + b.bnd.length, _, _, _, _, _, _, rfl, hsZ.trans hsA, ?_, ?_, ?_, ?_, ?_, rfl⟩
            · rw [List.reverse_append, List.reverse_reverse]
              exact S.sub (by wtm_at "sub")
            · exact Paired.app hpp (Paired.mapP hst1 fun _ _ q => StAt.mono hsA q)
            · exact Paired.app (hdn.mono hsA) (.cons (hrv.mono hs6) .nil)
            · rw [List.length_append]
              exact h
            · rw [List.append_assoc]
              exact he
end
end AL
/-! B6 -/
namespace AL
open PySem PySem.Spec PyProof.Rows L2
abbrev KTs := List (List Key × V)
def Pt.key (g : Pg) (t : Pt) : List Key := (t.tup g).map keyOf
structure CodesAt (Z : Hp) (g : Pg) (rf : Pt → List Rw) (mf : Pt → Nat) (r : Addr) : Prop where
  h : ∃ kvs : KTs, Z r = some (.dT kvs) ∧ ∀ t, ∃ v, valV kvs (Pt.key g t) = some v ∧ CoAt Z (rf t) (mf t) v
theorem CodesAt.mono {Z Z1 : Hp} (hs : Same Z Z1) {g : Pg} {rf : Pt → List Rw} {mf : Pt → Nat} {r : Addr} (h : CodesAt Z g rf mf r) : CodesAt Z1 g rf mf r := by
  obtain ⟨kvs, h1, h2⟩ := h.h
  exact ⟨kvs, hs _ _ h1, fun t => let ⟨v, e, c⟩ := h2 t; ⟨v, e, c.mono hs⟩⟩
theorem Pt.key_inj {g : Pg} (ne : g.f0 ≠ g.f1) {t u : Pt} (h : Pt.key g t = Pt.key g u) : t = u := by
  cases t <;> cases u <;> first | rfl | (exfalso; revert h; simp [Pt.key, Pt.tup, keyOf, ne, ne.symm]; try exact fun z => absurd z (by decide))
section
variable {P : Program} {w : World} {K : PySem.W.Frag} {mg : Str → Option Value} {base : Heap}
structure CodeOk (g : Pg) (rf : Pt → List Rw) (mf : Pt → Nat) : Prop where
  nd : ∀ t : Pt, (t.own g).Nodup
  c : ∀ t : Pt, CodeR [(t.body g, bndKv [] (t.own g) 0)] (t.own g).length 0 (rf t) (mf t)
def spCodeOf : Sp := fun vs H Q _ => ∃ (Z : Hp) (L : Lx) (g : Pg) (a : PgA) (pg : Addr) (rf : Pt → List Rw) (mf : Pt → Nat), vs = [.ref pg] ∧ SH Z L H ∧ ProgAt Z g a pg ∧ CodeOk g rf mf ∧
  ∀ r Z1 H1, Same Z Z1 → SH Z1 L H1 → CodesAt Z1 g rf mf r → Q (.ref r) H1
theorem ok_code_of (T : Tx K mg) : Cal P w K mg base 5 "code_of" ["program"] spCodeOf := by
  refine mk_cal (F_code_of T) (g_code_of T) sc_code_of (fun _ _ _ _ _ _ us hl => match us, hl with | [_], _ => rfl) ?len ?body
  case len =>
    rintro vs H Q E ⟨Z, L, g, a, pg, rf, mf, rfl, _⟩
    rfl
  case body =>
    rintro cdv A outer s H vs Q E hr ⟨Z, L, g, a, pg, rf, mf, rfl, S, A1, C, q⟩
    refine ⟨_, (pss_cons (ps_set (i := 1) sc_code_of.nd rfl (Or.inl rfl) pe_dnewT) (pss_cons (ps_for PassesOwn.never rfl (pi_listK (K := K) (pe_cal (ok_all_parts T) hr (pa_cons (pv 0) pa_nil))) (pg_name (i := 2) sc_code_of.nd rfl (Or.inl rfl)) (pss_one (ps_dput (hu_of hr) (pv 1) (pv 2) (pe_cal (ok_part_code T) hr (pa_cons (pv 0) (pa_cons (pv 2) pa_nil))) rfl))) (pss_one (ps_ret (pv 1))))), ?_⟩
    show (_ : TS) _ ([some _, none, none] : L2.St) _
    wtm_at "wp"
    rename Addr => fd
    refine ⟨Z, _, g, a, pg, rfl, S, A1, fun r Z1 H t0 t1 t2 t3 hs S hr h0 h1 h2 h3 => ?_⟩
    wtm_at "un"
    wtm_at "wp"
    refine ⟨Z1, _, g, a, pg, .en, _, _, _, rfl, S, A1.mono hs, ⟨_, rfl, h0⟩, C.nd .en, C.c .en, fun v0 Z2 H hs2 S c0 => ?_⟩
    replace h0 := hs2 _ _ h0
    replace hr := hs2 _ _ hr
    replace h0 : Z2 t0 = some (.tup [.str "end", .str g.K]) := h0
    wtm_at "wp"
    refine ⟨Z2, _, g, a, pg, .hr, _, _, _, rfl, S, A1.mono (hs.trans hs2), ⟨_, rfl, hs2 _ _ h1⟩, C.nd .hr, C.c .hr, fun v1 Z3 H hs3 S c1 => ?_⟩
    replace hr := hs3 _ _ hr
    replace h1 : Z3 t1 = some (.tup [.str "hear", .str g.K, .str g.q]) := hs3 _ _ (hs2 _ _ h1)
    wtm_at "wp"
    refine ⟨Z3, _, g, a, pg, .d0, _, _, _, rfl, S, A1.mono ((hs.trans hs2).trans hs3), ⟨_, rfl, hs3 _ _ (hs2 _ _ h2)⟩, C.nd .d0, C.c .d0, fun v2 Z4 H hs4 S c2 => ?_⟩
    replace hr := hs4 _ _ hr
    replace h2 : Z4 t2 = some (.tup [.str "def", .str g.f0]) := hs4 _ _ (hs3 _ _ (hs2 _ _ h2))
    wtm_at "wp"
    refine ⟨Z4, _, g, a, pg, .d1, _, _, _, rfl, S, A1.mono (((hs.trans hs2).trans hs3).trans hs4), ⟨_, rfl, hs4 _ _ (hs3 _ _ (hs2 _ _ h3))⟩, C.nd .d1, C.c .d1, fun v3 Z5 H hs5 S c3 => ?_⟩
    replace hr := hs5 _ _ hr
    replace h3 : Z5 t3 = some (.tup [.str "def", .str g.f1]) := hs5 _ _ (hs4 _ _ (hs3 _ _ (hs2 _ _ h3)))
    wtm_at "wp"
    obtain ⟨S, hs6, hz⟩ := S.pick (p := fd) (by wtm_at "pick")
    refine q _ _ _ ((((hs.trans hs2).trans hs3).trans hs4).trans (hs5.trans hs6)) S ⟨_, hz, fun t => ?_⟩
    have A2 := A1.ne
    have n01 : Pt.key g .en ≠ Pt.key g .hr := fun e => by cases Pt.key_inj A2 e
    have n02 : Pt.key g .en ≠ Pt.key g .d0 := fun e => by cases Pt.key_inj A2 e
    have n03 : Pt.key g .en ≠ Pt.key g .d1 := fun e => by cases Pt.key_inj A2 e
    have n12 : Pt.key g .hr ≠ Pt.key g .d0 := fun e => by cases Pt.key_inj A2 e
    have n13 : Pt.key g .hr ≠ Pt.key g .d1 := fun e => by cases Pt.key_inj A2 e
    have n23 : Pt.key g .d0 ≠ Pt.key g .d1 := fun e => by cases Pt.key_inj A2 e
    show ∃ v, valV (putK (putK (putK (putK [] (Pt.key g .en) v0) (Pt.key g .hr) v1) (Pt.key g .d0) v2) (Pt.key g .d1) v3) _ = some v ∧ _
    simp only [valV_put]
    cases t with
    | en => rw [if_neg n03, if_neg n02, if_neg n01, if_pos rfl]; exact ⟨_, rfl, c0.mono (((hs3.trans hs4).trans hs5).trans hs6)⟩
    | hr => rw [if_neg n13, if_neg n12, if_pos rfl]; exact ⟨_, rfl, c1.mono ((hs4.trans hs5).trans hs6)⟩
    | d0 => rw [if_neg n23, if_pos rfl]; exact ⟨_, rfl, c2.mono (hs5.trans hs6)⟩
    | d1 => rw [if_pos rfl]; exact ⟨_, rfl, c3.mono hs6⟩
end
end AL
/-! B7 -/
namespace AL
open PySem PySem.Spec PyProof.Rows L2
/-! ### often -/
def isA : V → Bool
  | .str _ => true
  | .int _ => true
  | _ => false
def Bd.atoms : Bd → List V
  | .give a => [a]
  | .tell a _ => [a]
  | .iff a _ _ => [a]
  | .case a _ _ _ _ => [a]
  | .empty _ _ _ => []
  | .ask _ _ a _ => [a]
  | .keep _ _ a _ _ _ => [a]
  | .sum _ _ a b _ => [a, b]
  | .put _ a r _ => [a, r]
  | .last _ r a _ => [r, a]
  | .go _ h a b _ => [h, a, b]
/-- atoms are names or ints; behind a go stands a give -/
def Bd.okA (b : Bd) : Prop := (∀ a ∈ b.atoms, isA a = true) ∧ ∀ x h a c nx, b = .go x h a c nx → PyData.strOk x = true ∧ ∃ z, nx = .give z ∧ isA z = true ∧ ∀ s, z = .str s → PyData.strOk s = true
theorem scalA {v : V} {h : Str} (e : isA v = true) : scal v (.str h) = true := by
  cases v <;> first | rfl | cases e
theorem flatA {v : V} (e : isA v = true) : flatV v = true := by
  cases v <;> first | rfl | cases e
theorem fl10 (b : Bd) (h : Str) : 2 * (b.atoms.filter fun v => decide (v = V.str h)).length ≤ 10 := by
  have h1 := List.length_filter_le (fun v => decide (v = V.str h)) b.atoms
  have h2 : b.atoms.length ≤ 3 := by cases b <;> simp [Bd.atoms]
  omega
theorem cast1 {Q : VK} {H : Hp} {n : Nat} (h : Q (.int ((2 * n : Nat) : Int)) H) : Q (.int (([] : List Int).sum + 2 * (n : Int))) H := by
  rw [show ([] : List Int).sum + 2 * (n : Int) = ((2 * n : Nat) : Int) by simp]
  exact h
theorem cast2 {Q : VK} {H : Hp} {n : Nat} {b : Bool} (h : Q (.int (((if b = true then 1 else 0) + 2 * n : Nat) : Int)) H) : Q (.int ((([] : List Int).sum + if b = true then 1 else 0) + 2 * (n : Int))) H := by
  rw [show (([] : List Int).sum + if b = true then 1 else 0) + 2 * (n : Int) = (((if b = true then 1 else 0) + 2 * n : Nat) : Int) by cases b <;> simp]
  exact h
section
variable {P : Program} {w : World} {K : PySem.W.Frag} {mg : Str → Option Value} {base : Heap}
def spAtomsOf : Sp := fun vs H Q _ => ∃ (Z : Hp) (L : Lx) (b : Bd) (v : V), vs = [v] ∧ SH Z L H ∧ BdAt Z b v ∧ ∀ r H1, SH Z ((r, .lst b.atoms) :: L) H1 → Q (.ref r) H1
theorem ok_atoms_of (T : Tx K mg) : Cal P w K mg base 1 "atoms_of" ["piece"] spAtomsOf := by
  refine mk_cal (F_atoms_of T) (g_atoms_of T) sc_atoms_of (fun _ _ _ _ _ _ us hl => match us, hl with | [_], _ => rfl) ?len ?body
  case len =>
    rintro vs H Q E ⟨Z, L, b, v, rfl, _⟩
    rfl
  case body =>
    rintro cdv A outer s H vs Q E hr ⟨Z, L, b, v, rfl, S, hb, q⟩
    refine ⟨_, (pss_cons (ps_set (i := 1) sc_atoms_of.nd rfl (Or.inl rfl) (pe_ix (ix_anyK (K := K)) (pv 0) pe_int (fun _ _ => rfl))) (pss_cons (ps_if (pt_cmpR (op_in_seqK (K := K)) (pv 1) (pe_tup (pa_cons pe_str (pa_cons pe_str (pa_cons pe_str (pa_cons pe_str pa_nil))))) (by first | rfl | exact nomark _)) (pss_one (ps_ret (pe_lst (pa_cons (pe_ix (ix_anyK (K := K)) (pv 0) pe_int (fun _ _ => rfl)) pa_nil)))) pss_nil) (pss_cons (ps_if (PW.pt (pw_or (pt_cmpR op_eq (pv 1) pe_str (nomark _)) (pw_or1 (pt_cmpR op_eq (pv 1) pe_str (nomark _))))) (pss_one (ps_ret (pe_lst pa_nil))) pss_nil) (pss_cons (ps_if (PW.pt (pw_or (pt_cmpR op_eq (pv 1) pe_str (nomark _)) (pw_or1 (pt_cmpR op_eq (pv 1) pe_str (nomark _))))) (pss_one (ps_ret (pe_lst (pa_cons (pe_ix (ix_anyK (K := K)) (pv 0) pe_int (fun _ _ => rfl)) pa_nil)))) pss_nil) (pss_cons (ps_if (pt_cmpR op_eq (pv 1) pe_str (nomark _)) (pss_one (ps_ret (pe_lst (pa_cons (pe_ix (ix_anyK (K := K)) (pv 0) pe_int (fun _ _ => rfl)) (pa_cons (pe_ix (ix_anyK (K := K)) (pv 0) pe_int (fun _ _ => rfl)) pa_nil))))) pss_nil) (pss_one (ps_ret (pe_callTy call_listOf (by rfl) (b_list T) (by decide +kernel) (pa_cons (pe_slice (sl_tupK (K := K)) (pv 0) (po_some pe_int) (po_some (pe_un un_neg pe_int))) pa_nil))))))))), ?_⟩
    show (_ : TS) _ ([some _, none] : L2.St) _
    cases b with
    | give a =>
      obtain ⟨p, rfl, hp⟩ := hb
      wtm_at "wp"
      exact q _ _ (S.sub (by wtm_at "sub"))
    | iff a b1 b2 =>
      obtain ⟨p, w1, w2, rfl, hp, h1, h2⟩ := hb
      wtm_at "wp"
      exact q _ _ (S.sub (by wtm_at "sub"))
    | case r b1 x y b2 =>
      obtain ⟨p, w1, w2, rfl, hp, h1, h2⟩ := hb
      wtm_at "wp"
      exact q _ _ (S.sub (by wtm_at "sub"))
    | put x a r nx =>
      obtain ⟨p, w1, rfl, hp, h1⟩ := hb
      wtm_at "wp"
      refine k_slT S (.z hp) (by wtm_at "sx") (ys := [a, r]) rfl fun p H S => ?_
      wtm_at "wp"
      exact q _ _ (S.sub (by wtm_at "sub"))
    | last x r a nx =>
      obtain ⟨p, w1, rfl, hp, h1⟩ := hb
      wtm_at "wp"
      refine k_slT S (.z hp) (by wtm_at "sx") (ys := [r, a]) rfl fun p H S => ?_
      wtm_at "wp"
      exact q _ _ (S.sub (by wtm_at "sub"))
    | go x h a b nx =>
      obtain ⟨p, w1, rfl, hp, h1⟩ := hb
      wtm_at "wp"
      refine k_slT S (.z hp) (by wtm_at "sx") (ys := [h, a, b]) rfl fun p H S => ?_
      wtm_at "wp"
      exact q _ _ (S.sub (by wtm_at "sub"))
    | _ =>
      obtain ⟨p, w1, rfl, hp, h1⟩ := hb
      wtm_at "wp"
      exact q _ _ (S.sub (by wtm_at "sub"))
def spArgsOf : Sp := fun vs H Q _ => ∃ (Z : Hp) (L : Lx) (b : Bd) (v : V), vs = [v] ∧ SH Z L H ∧ BdAt Z b v ∧ ∀ r f e Z1 H1, Same Z Z1 → SH Z1 L H1 → Z1 r = some (.tup [f, .ref e]) → Z1 e = some (.tup []) → Q (.ref r) H1
theorem ok_args_of (T : Tx K mg) : Cal P w K mg base 1 "args_of" ["piece"] spArgsOf := by
  refine mk_cal (F_args_of T) (g_args_of T) sc_args_of (fun _ _ _ _ _ _ us hl => match us, hl with | [_], _ => rfl) ?len ?body
  case len =>
    rintro vs H Q E ⟨Z, L, b, v, rfl, _⟩
    rfl
  case body =>
    rintro cdv A outer s H vs Q E hr ⟨Z, L, b, v, rfl, S, hb, q⟩
    refine ⟨_, (pss_cons (ps_if (pt_cmpR op_eq (pe_ix (ix_anyK (K := K)) (pv 0) pe_int (fun _ _ => rfl)) pe_str (nomark _)) (pss_one (ps_ret (pe_tup (pa_cons (pe_ix (ix_anyK (K := K)) (pv 0) pe_int (fun _ _ => rfl)) (pa_cons (pe_ix (ix_anyK (K := K)) (pv 0) pe_int (fun _ _ => rfl)) pa_nil))))) pss_nil) (pss_cons (ps_if (pt_cmpR op_eq (pe_ix (ix_anyK (K := K)) (pv 0) pe_int (fun _ _ => rfl)) pe_str (nomark _)) (pss_one (ps_ret (pe_tup (pa_cons (pe_ix (ix_anyK (K := K)) (pv 0) pe_int (fun _ _ => rfl)) (pa_cons (pe_ix (ix_anyK (K := K)) (pv 0) pe_int (fun _ _ => rfl)) pa_nil))))) pss_nil) (pss_one (ps_ret (pe_tup (pa_cons pe_non (pa_cons (pe_tup pa_nil) pa_nil))))))), ?_⟩
    show (_ : TS) _ ([some _] : L2.St) _
    cases b with
    | give a =>
      obtain ⟨p, rfl, hp⟩ := hb
      wtm_at "wp"
      obtain ⟨S2, hs, hz⟩ := SH.frzs (M := [_, _]) S
      exact q _ _ _ _ _ hs S2 (hz _ _ (by wtm_at "mem")) (hz _ _ (by wtm_at "mem"))
    | iff a b1 b2 =>
      obtain ⟨p, w1, w2, rfl, hp, h1, h2⟩ := hb
      wtm_at "wp"
      obtain ⟨S2, hs, hz⟩ := SH.frzs (M := [_, _]) S
      exact q _ _ _ _ _ hs S2 (hz _ _ (by wtm_at "mem")) (hz _ _ (by wtm_at "mem"))
    | case r b1 x y b2 =>
      obtain ⟨p, w1, w2, rfl, hp, h1, h2⟩ := hb
      wtm_at "wp"
      obtain ⟨S2, hs, hz⟩ := SH.frzs (M := [_, _]) S
      exact q _ _ _ _ _ hs S2 (hz _ _ (by wtm_at "mem")) (hz _ _ (by wtm_at "mem"))
    | keep x k a f g nx =>
      obtain ⟨p, w1, rfl, hp, ⟨e, rfl, he⟩, h1⟩ := hb
      wtm_at "wp"
      obtain ⟨S2, hs, hz⟩ := SH.frzs (M := [_]) S
      exact q _ _ _ _ _ hs S2 (hz _ _ (by wtm_at "mem")) (hs _ _ he)
    | _ =>
      obtain ⟨p, w1, rfl, hp, h1⟩ := hb
      wtm_at "wp"
      obtain ⟨S2, hs, hz⟩ := SH.frzs (M := [_, _]) S
      exact q _ _ _ _ _ hs S2 (hz _ _ (by wtm_at "mem")) (hz _ _ (by wtm_at "mem"))
/-- the hold is once among two atoms -/
def Bd.uses (b : Bd) (h : Str) : Prop := (∃ x r nx, b = .last x r (.str h) nx ∧ r ≠ .str h) ∨ ∃ x r nx, b = .put x (.str h) r nx ∧ r ≠ .str h
theorem lc_filter {K : PySem.W.Frag} {σ σw : L2.St} {Z : Hp} {L : Lx} {H : Hp} {a : Addr} {xs : List V} {x : Str} {g : TG} {tt : TT} {te : TE} {vs : List Nat} {Qd : Addr → Hp → Prop} (S : SH Z L H) (h : In Z L a (.lst xs)) (hl : xs.length ≤ 10) (hw : WipeR σ vs σw) (hww : WipeR σw vs σw)
    (hs : ∀ D v H NN, v ∈ xs → (v = .str x → kApp D v H NN) → (v ≠ .str x → NN H) → g v σw H fun σ2 H2 => wipe σ2 vs = wipe σw vs ∧ tt σ2 H2 fun b H3 => if b = true then te σ2 H3 fun y H4 => kApp D y H4 NN else NN H3)
    (hd : ∀ D H1, SH Z ((D, .lst (xs.filter fun v => decide (v = .str x))) :: L) H1 → Qd D H1) :
    ∃ a', V.ref a = .ref a' ∧ (∃ xs, SqL K H a' xs) ∧ LcK (Itl K a') g tt te vs σ H Qd := by
  refine k_lc_list S h hw (fun D i H => SH Z ((D, .lst ((xs.take i).filter fun v => decide (v = .str x))) :: L) H) (fun D H S => S) (fun D i H S => S.at (by cases h with | l h => exact .l (List.mem_cons_of_mem _ h) | z h => exact .z h)) ?_ hww (fun D H S => by rw [List.take_length] at S; exact hd D H S)
  intro D i v H hx S
  have et : xs.take (i + 1) = xs.take i ++ [v] := by rw [List.take_add_one, hx]; rfl
  refine hs D v H _ (List.mem_of_getElem? hx) (fun e => ?_) (fun e => ?_)
  · refine k_lcapp S (by wtm_at "mem") (ha := .any) (hl := lt_line (by
      refine Nat.le_trans (List.length_filter_le _ _) ?_
      rw [List.length_take]
      omega)) (hw := by wtm_at "wr") (q := fun H1 S => ?_)
    rw [et, List.filter_append, List.filter_cons, if_pos (decide_eq_true e), List.filter_nil]
    exact S
  · rw [et, List.filter_append, List.filter_cons, if_neg (by rw [decide_eq_false e]; exact Bool.false_ne_true), List.filter_nil, List.append_nil]
    exact S
def spWeightOf : Sp := fun vs H Q _ => ∃ (Z : Hp) (L : Lx) (b : Bd) (v : V) (h : Str) (wv : V), vs = [v, .str h, wv] ∧ SH Z L H ∧ BdAt Z b v ∧ b.okA ∧ ∀ (n : Nat) Z1 H1, n ≤ 10 → (b.uses h → n = 2) → Same Z Z1 → SH Z1 L H1 → Q (.int n) H1
theorem ok_weight_of (T : Tx K mg) : Cal P w K mg base 2 "weight_of" ["piece", "x", "words"] spWeightOf := by
  refine mk_cal (F_weight_of T) (g_weight_of T) sc_weight_of (fun _ _ _ _ _ _ us hl => match us, hl with | [_, _, _], _ => rfl) ?len ?body
  case len =>
    rintro vs H Q E ⟨Z, L, b, v, h, wv, rfl, _⟩
    rfl
  case body =>
    rintro cdv A outer s H vs Q E hr ⟨Z, L, b, v, h, wv, rfl, S, hb, ⟨ok, _⟩, q⟩
    refine ⟨_, (pss_cons (ps_asg (pe_cal (ok_args_of T) hr (pa_cons (pv 0) pa_nil)) (pg_tupK (K := K) (by rfl) (pgs_cons (pg_name (i := 3) sc_weight_of.nd rfl (Or.inr rfl)) (pgs_cons (pg_name (i := 4) sc_weight_of.nd rfl (Or.inl rfl)) pgs_nil)))) (pss_cons (ps_set (i := 7) sc_weight_of.nd rfl (Or.inl rfl) (pe_callB (cr_sumK (K := K) rfl) (by rfl) (b_sum T) (by decide +kernel) (pa_cons (pe_lc (own := [("k", 5), ("atom", 6)]) (g := gTup K 2 (gCons (gName 5) (gCons (gName 6) gNil))) (by rfl) sc_weight_of.nd (pi_enumT (K := K) (by rfl) (b_enumerate T) (pa_cons (pv 4) pa_nil)) (blkOk_by (own := [("k", 5), ("atom", 6)]) (N := ["piece", "x", "words", "f", "args", "k", "atom", "found", "atoms"]) (sc := defScope s_weight_of) (by decide +kernel)) (fun _ _ _ _ _ => (pg_tupK (K := K) (by rfl) (pgs_cons (pg_name (i := 5) sc_weight_of.nd rfl (Or.inl rfl)) (pgs_cons (pg_name (i := 6) sc_weight_of.nd rfl (Or.inl rfl)) pgs_nil)))) (fun _ _ _ _ _ => pts_one (pt_cmpR op_eq (pv 6) (pv 1) (nomark _))) (fun _ _ _ _ _ => pe_nev)) pa_nil))) (pss_cons (ps_set (i := 8) sc_weight_of.nd rfl (Or.inl rfl) (pe_cal (ok_atoms_of T) hr (pa_cons (pv 0) pa_nil))) (pss_cons (ps_if (pt_cmpR op_eq (pe_ix (ix_anyK (K := K)) (pv 0) pe_int (fun _ _ => rfl)) pe_str (nomark _)) (pss_cons (ps_set (i := 7) sc_weight_of.nd rfl (Or.inl rfl) (pe_op op_add (pv 7) (pe_callTy call_intB (by rfl) (b_int T) (by decide +kernel) (pa_cons (pe_cmpR op_eq (pe_ix (ix_anyK (K := K)) (pv 8) pe_int (fun _ _ => rfl)) (pv 1) (nomark _)) pa_nil)))) (pss_one (ps_set (i := 8) sc_weight_of.nd rfl (Or.inl rfl) (pe_slice (sl_listK (K := K)) (pv 8) (po_some pe_int) po_none)))) pss_nil) (pss_one (ps_ret (pe_op op_add (pv 7) (pe_op op_mul pe_int (pe_callB call_lenA (by rfl) (b_len T) (by decide +kernel) (pa_cons (pe_lc (own := [("atom", 6)]) (g := gName 6) (by rfl) sc_weight_of.nd (pi_listK (K := K) (pv 8)) (blkOk_by (own := [("atom", 6)]) (N := ["piece", "x", "words", "f", "args", "k", "atom", "found", "atoms"]) (sc := defScope s_weight_of) (by decide +kernel)) (fun _ _ _ _ _ => (pg_name (i := 6) sc_weight_of.nd rfl (Or.inl rfl))) (fun _ _ _ _ _ => pts_one (pt_cmpR op_eq (pv 6) (pv 1) (nomark _))) (fun _ _ _ _ _ => (pv 6))) pa_nil)))))))))), ?_⟩
    show (_ : TS) _ ([some _, some _, some _, none, none, none, none, none, none] : L2.St) _
    have hb0 := hb
    wtm_at "wp"
    refine ⟨Z, _, b, v, rfl, S, hb, fun r f e Z1 H hs S h1 h2 => ?_⟩
    wtm_at "wp"
    refine k_sum (ns := []) S (by wtm_at "in") ?_
    wtm_at "wp"
    refine ⟨Z1, _, b, v, rfl, S, hb.mono hs, fun ar H S => ?_⟩
    replace hb := hb.mono hs
    have key : ∀ {xs : List V}, xs.length ≤ 3 → (xs.filter fun v => decide (v = V.str h)).length ≤ 3 := fun hl => Nat.le_trans (List.length_filter_le _ _) hl
    cases b with
    | give a =>
      obtain ⟨p, rfl, hp⟩ := hb
      wtm_at "wp"
      refine lc_filter (x := h) S (by wtm_at "in") (by first | (simp [Bd.atoms]; done) | (show (_ : Nat) ≤ _; decide)) (by wtm_at "wipe") (by wtm_at "wipe") (fun D v H NN hv h1 h2 => ?_) (fun D H S => ?_)
      · wtm_at "wp"
        refine k_eq (scalA (ok v hv)) ?_
        wtm_at "wp"
        by_cases e : v = .str h
        · refine if_T (decide_eq_true e) ?_
          wtm_at "wp"
          exact h1 e
        · exact if_F (decide_eq_false e) (h2 e)
      · wtm_at "wp"
        refine k_I (.inl ⟨by decide, by decide⟩) ?_
        wtm_at "wp"
        refine cast1 ?_
        exact q _ _ _ (fl10 _ _) (by rintro (⟨_, _, _, e, ne⟩ | ⟨_, _, _, e, ne⟩) <;> cases e <;> simp [Bd.atoms, ne]) hs (S.sub (by wtm_at "sub"))
    | iff a b1 b2 =>
      obtain ⟨p, w1, w2, rfl, hp, h1, h2⟩ := hb
      wtm_at "wp"
      refine lc_filter (x := h) S (by wtm_at "in") (by first | (simp [Bd.atoms]; done) | (show (_ : Nat) ≤ _; decide)) (by wtm_at "wipe") (by wtm_at "wipe") (fun D v H NN hv h1 h2 => ?_) (fun D H S => ?_)
      · wtm_at "wp"
        refine k_eq (scalA (ok v hv)) ?_
        wtm_at "wp"
        by_cases e : v = .str h
        · refine if_T (decide_eq_true e) ?_
          wtm_at "wp"
          exact h1 e
        · exact if_F (decide_eq_false e) (h2 e)
      · wtm_at "wp"
        refine k_I (.inl ⟨by decide, by decide⟩) ?_
        wtm_at "wp"
        refine cast1 ?_
        exact q _ _ _ (fl10 _ _) (by rintro (⟨_, _, _, e, ne⟩ | ⟨_, _, _, e, ne⟩) <;> cases e <;> simp [Bd.atoms, ne]) hs (S.sub (by wtm_at "sub"))
    | case r b1 x y b2 =>
      obtain ⟨p, w1, w2, rfl, hp, h1, h2⟩ := hb
      wtm_at "wp"
      refine lc_filter (x := h) S (by wtm_at "in") (by first | (simp [Bd.atoms]; done) | (show (_ : Nat) ≤ _; decide)) (by wtm_at "wipe") (by wtm_at "wipe") (fun D v H NN hv h1 h2 => ?_) (fun D H S => ?_)
      · wtm_at "wp"
        refine k_eq (scalA (ok v hv)) ?_
        wtm_at "wp"
        by_cases e : v = .str h
        · refine if_T (decide_eq_true e) ?_
          wtm_at "wp"
          exact h1 e
        · exact if_F (decide_eq_false e) (h2 e)
      · wtm_at "wp"
        refine k_I (.inl ⟨by decide, by decide⟩) ?_
        wtm_at "wp"
        refine cast1 ?_
        exact q _ _ _ (fl10 _ _) (by rintro (⟨_, _, _, e, ne⟩ | ⟨_, _, _, e, ne⟩) <;> cases e <;> simp [Bd.atoms, ne]) hs (S.sub (by wtm_at "sub"))
    | go x hh a c nx =>
      obtain ⟨p, w1, rfl, hp, h1⟩ := hb
      wtm_at "wp"
      refine k_eq (scalA (ok hh (by simp [Bd.atoms]))) ?_
      wtm_at "wp"
      refine k_slL S (by wtm_at "in") (ys := [a, c]) rfl fun p H S => ?_
      wtm_at "wp"
      refine lc_filter (x := h) S (by wtm_at "in") (by show 2 ≤ 10; decide) (by wtm_at "wipe") (by wtm_at "wipe") (fun D v H NN hv h1 h2 => ?_) (fun D H S => ?_)
      · wtm_at "wp"
        refine k_eq (scalA (ok v (List.mem_cons_of_mem _ hv))) ?_
        wtm_at "wp"
        by_cases e : v = .str h
        · refine if_T (decide_eq_true e) ?_
          wtm_at "wp"
          exact h1 e
        · exact if_F (decide_eq_false e) (h2 e)
      · wtm_at "wp"
        refine k_I (.inl ⟨by decide, by decide⟩) ?_
        wtm_at "wp"
        refine cast2 ?_
        refine q _ _ _ ?_ (by rintro (⟨_, _, _, e, ne⟩ | ⟨_, _, _, e, ne⟩) <;> cases e) hs (S.sub (by wtm_at "sub"))
        have l1 := List.length_filter_le (fun v => decide (v = V.str h)) [a, c]
        have l2 : [a, c].length = 2 := rfl
        split <;> omega
    | _ =>
      obtain ⟨p, w1, rfl, hp, h1⟩ := hb
      wtm_at "wp"
      refine lc_filter (x := h) S (by wtm_at "in") (by first | (simp [Bd.atoms]; done) | (show (_ : Nat) ≤ _; decide)) (by wtm_at "wipe") (by wtm_at "wipe") (fun D v H NN hv h1 h2 => ?_) (fun D H S => ?_)
      · wtm_at "wp"
        refine k_eq (scalA (ok v hv)) ?_
        wtm_at "wp"
        by_cases e : v = .str h
        · refine if_T (decide_eq_true e) ?_
          wtm_at "wp"
          exact h1 e
        · exact if_F (decide_eq_false e) (h2 e)
      · wtm_at "wp"
        refine k_I (.inl ⟨by decide, by decide⟩) ?_
        wtm_at "wp"
        refine cast1 ?_
        exact q _ _ _ (fl10 _ _) (by rintro (⟨_, _, _, e, ne⟩ | ⟨_, _, _, e, ne⟩) <;> cases e <;> simp [Bd.atoms, ne]) hs (S.sub (by wtm_at "sub"))
end
end AL
/-! B8 -/
namespace AL
open PySem PySem.Spec PyProof.Rows L2
/-! ### the forest behind n pieces -/
def Fst : Nat → List Bd → List Bd
  | 0, fs => fs
  | _ + 1, [] => []
  | n + 1, f :: fs => Fst n (f.kids ++ fs)
theorem flat_cons (f : Bd) (fs : List Bd) : (f :: fs).flatMap Bd.pcs = f :: (f.kids ++ fs).flatMap Bd.pcs := by
  rw [List.flatMap_cons, f.pcs_eq, List.flatMap_append]; rfl
theorem Fst.step : ∀ {n : Nat} {fs r : List Bd} {p : Bd}, Fst n fs = p :: r → Fst (n + 1) fs = p.kids ++ r
  | 0, fs, r, p, h => by
    obtain rfl : fs = p :: r := h
    rfl
  | n + 1, [], r, p, h => by cases h
  | n + 1, f :: fs, r, p, h => Fst.step (n := n) (fs := f.kids ++ fs) h
theorem Fst.get : ∀ {n : Nat} {fs : List Bd} {p : Bd}, (fs.flatMap Bd.pcs)[n]? = some p → ∃ r, Fst n fs = p :: r
  | n, [], p, h => by simp at h
  | 0, f :: fs, p, h => by
    rw [flat_cons] at h
    obtain rfl : f = p := by simpa using h
    exact ⟨fs, rfl⟩
  | n + 1, f :: fs, p, h => by
    rw [flat_cons] at h
    exact Fst.get (n := n) (fs := f.kids ++ fs) (by simpa using h)
theorem Fst.all : ∀ {n : Nat} {fs : List Bd}, (fs.flatMap Bd.pcs).length ≤ n → Fst n fs = []
  | 0, [], _ => rfl
  | 0, f :: fs, h => by rw [flat_cons] at h; simp at h
  | n + 1, [], _ => rfl
  | n + 1, f :: fs, h => by
    rw [flat_cons, List.length_cons] at h
    exact Fst.all (n := n) (fs := f.kids ++ fs) (by omega)
theorem Paired.split {α β : Type} {F : α → β → Prop} : ∀ {a c : List α} {m : List β}, Paired F (a ++ c) m → ∃ x y, m = x ++ y ∧ Paired F a x ∧ Paired F c y
  | [], c, m, h => ⟨[], m, rfl, .nil, h⟩
  | a :: as, c, m, h => by
    cases h with
    | cons h1 h2 =>
      obtain ⟨x, y, rfl, q1, q2⟩ := Paired.split (a := as) h2
      exact ⟨_ :: x, y, rfl, .cons h1 q1, q2⟩
theorem Paired.all {α β : Type} {F : α → β → Prop} {G : β → Prop} (h : ∀ a b, F a b → G b) : ∀ {l : List α} {m : List β}, Paired F l m → ∀ b ∈ m, G b
  | _, _, .nil, b, hb => by cases hb
  | _, _, .cons r t, b, hb => by
    rcases List.mem_cons.mp hb with rfl | hb
    · exact h _ _ r
    · exact Paired.all h t b hb
abbrev WtR (h : Str) : Bd → Nat → Prop := fun p n => n ≤ 2 ∧ (p.uses h → n = 2)
def natV (ns : List Nat) : List V := ns.map fun n => V.int (n : Nat)
section
variable {P : Program} {w : World} {K : PySem.W.Frag} {mg : Str → Option Value} {base : Heap}
def spWeightIn : Sp := fun vs H Q _ => ∃ (Z : Hp) (L : Lx) (b : Bd) (v : V) (h : Str) (wv : V), vs = [v, .str h, wv] ∧ SH Z L H ∧ BdAt Z b v ∧ b.pcs.length ≤ 1000 ∧ (∀ p ∈ b.pcs, p.okA) ∧ ∀ (n : Nat) Z1 H1, n ≤ 2 → (b.uses h → n = 2) → Same Z Z1 → SH Z1 L H1 → Q (.int n) H1
theorem ok_weight_in (T : Tx K mg) : Cal P w K mg base 3 "weight_in" ["body", "x", "words"] spWeightIn := by
  refine mk_cal (F_weight_in T) (g_weight_in T) sc_weight_in (fun _ _ _ _ _ _ us hl => match us, hl with | [_, _, _], _ => rfl) ?len ?body
  case len =>
    rintro vs H Q E ⟨Z, L, b, v, h, wv, rfl, _⟩
    rfl
  case body =>
    rintro cdv A outer s H vs Q E hr ⟨Z, L, b, v, h, wv, rfl, S, hb, hlen, ok, q⟩
    refine ⟨_, (pss_cons (ps_set (i := 3) sc_weight_in.nd rfl (Or.inr rfl) (pe_lst pa_nil)) (pss_cons (ps_for PassesOwn.never rfl (pi_reversedK (K := K) (by rfl) (b_reversed T) (pa_cons (pe_cal (ok_pieces T) hr (pa_cons (pv 0) pa_nil)) pa_nil)) (pg_name (i := 4) sc_weight_in.nd rfl (Or.inl rfl)) (pss_cons (ps_setLc (i := 6) (own := [("one", 5)]) (g := gName 5) (tt := tYes) (by rfl) sc_weight_in.nd rfl rfl (sw_true rfl rfl rfl (by decide +kernel)) (pi_listK (K := K) (pe_cal (ok_bodies_in T) hr (pa_cons (pv 4) pa_nil))) (blkOk_by (own := [("one", 5)]) (N := ["body", "x", "words", "built", "piece", "one", "inner"]) (sc := defScope s_weight_in) (by decide +kernel)) (fun _ _ _ _ _ => (pg_name (i := 5) sc_weight_in.nd rfl (Or.inl rfl))) (fun _ _ _ _ _ => pts_nil) (fun _ _ _ _ _ => (pe_bm0K (K := K) (pe_bm0 PySem.F.plainAttrs_list PySem.F.slot_list_pop PySem.F.type_list_pop mt_pop (pv 3))))) (pss_one (ps_expr (pe_bmK (K := K) (pe_bm PySem.F.plainAttrs_list PySem.F.slot_list_append PySem.F.type_list_append mt_append (pv 3) (pa_cons (pe_callB (call_mn2 rfl) (by rfl) (b_min T) (by decide +kernel) (pa_cons pe_int (pa_cons (pe_op op_add (pe_cal (ok_weight_of T) hr (pa_cons (pv 4) (pa_cons (pv 1) (pa_cons (pv 2) pa_nil)))) (pe_callB (cr_maxK (K := K) rfl) (by rfl) (b_max T) (by decide +kernel) (pa_cons (pe_op op_cat (pv 6) (pe_lst (pa_cons pe_int pa_nil))) pa_nil))) pa_nil))) pa_nil))))))) (pss_one (ps_ret (pe_ix (ix_anyK (K := K)) (pv 3) pe_int (fun _ _ => rfl)))))), ?_⟩
    show (_ : TS) _ ([some _, some _, some _, none, none, none, none] : L2.St) _
    wtm_at "wp"
    rename Addr => bu
    refine ⟨Z, _, b, v, rfl, S, hb, hlen, fun pl H ps S hps => ?_⟩
    have hpl : b.pcs.length = ps.length := hps.length
    wtm_at "wp"
    refine k_for_rev S (by wtm_at "in") (fun i σ H => ∃ (Z1 : Hp) (ns : List Nat) (pc inn : Option V), σ = [some v, some (.str h), some wv, some (.ref bu), pc, none, inn] ∧ Same Z Z1 ∧
      SH Z1 ((pl, .lst ps) :: (bu, .lst (natV ns).reverse) :: L) H ∧ ns.length ≤ i ∧ Paired (WtR h) (Fst (ps.length - i) [b]) ns) ⟨Z, [], _, _, rfl, Same.refl _, S, Nat.le_refl _, by rw [Nat.sub_zero, Fst.all (by rw [List.flatMap_cons, List.flatMap_nil, List.append_nil]; omega)]; exact .nil⟩ (fun i σ H ⟨_, _, _, _, _, _, S, _, _⟩ => S.at (.l (by wtm_at "mem"))) ?_ ?_
    · rintro i x σ H hi hx ⟨Z1, ns, pc, inn, rfl, hs, S, hnl, hpp⟩
      obtain ⟨p0, hp0, hbx⟩ : ∃ p0, b.pcs[ps.length - 1 - i]? = some p0 ∧ BdAt Z1 p0 x := by
        obtain ⟨y, hy, hF⟩ := Paired.get hps (i := ps.length - 1 - i) (x := b.pcs[ps.length - 1 - i]'(by omega)) (List.getElem?_eq_getElem (by omega))
        rw [hx] at hy
        obtain rfl := Option.some.inj hy
        exact ⟨_, List.getElem?_eq_getElem (by omega), hF.mono hs⟩
      have okp := ok p0 (List.mem_of_getElem? hp0)
      obtain ⟨rr, hrr⟩ := Fst.get (fs := [b]) (n := ps.length - 1 - i) (p := p0) (by simpa using hp0)
      rw [show ps.length - i = (ps.length - 1 - i) + 1 by omega, Fst.step hrr] at hpp
      obtain ⟨k1, r1, rfl, hk1, hr1⟩ := Paired.split hpp
      wtm_at "wp"
      refine ⟨Z1, _, p0, x, rfl, S, hbx, fun kl H ks S hks => ?_⟩
      have hkl : p0.kids.length = ks.length := hks.length
      have hk1l : p0.kids.length = k1.length := hk1.length
      have hk3 : p0.kids.length ≤ 2 := by rcases p0.kids2 with e | ⟨_, e⟩ | ⟨_, _, e⟩ <;> simp [e]
      refine k_lc_list S (by wtm_at "in") (by wtm_at "wipe") (fun D j H => SH Z1 ((D, .lst (natV (k1.take j))) :: (kl, .lst ks) :: (pl, .lst ps) :: (bu, .lst (natV (k1.drop j ++ r1)).reverse) :: L) H) (fun D H S => S) (fun D j H S => S.at (.l (by wtm_at "mem"))) ?_ (by wtm_at "wipe") ?_
      · intro D j y H hy S
        have hj : j < ks.length := (List.getElem?_eq_some_iff.mp hy).1
        obtain ⟨n, hn⟩ : ∃ n, k1[j]? = some n := ⟨_, List.getElem?_eq_getElem (by omega)⟩
        rw [drop_get hn, List.cons_append, show natV (n :: (k1.drop (j + 1) ++ r1)) = V.int (n : Nat) :: natV (k1.drop (j + 1) ++ r1) from rfl, List.reverse_cons] at S
        have et : natV (k1.take (j + 1)) = natV (k1.take j) ++ [V.int (n : Nat)] := by rw [List.take_add_one, hn]; simp [natV]
        have el : (natV (k1.take j)).length ≤ 2 := by rw [natV, List.length_map, List.length_take]; omega
        wtm_at "wp"
        rw [et]
        exact S
      · intro D H S
        rw [← hkl, hk1l, List.take_length, List.drop_length, List.nil_append] at S
        wtm_at "wp"
        refine ⟨Z1, _, p0, x, h, wv, rfl, S, hbx, okp, fun n Z2 H hn hu hs2 S => ?_⟩
        wtm_at "wp"
        refine k_catL S (by wtm_at "in") (by wtm_at "in") (le_line (by rw [natV, List.length_map]; simp; omega)) (zs := ((k1 ++ [0]).map fun n => ((n : Nat) : Int)).map V.int) (by simp [natV]) fun p H S => ?_
        wtm_at "wp"
        refine k_max S (by wtm_at "in") (by simp) fun m hm hle => ?_
        obtain ⟨k, hk, rfl⟩ := List.mem_map.mp hm
        have hk2 : k ≤ 2 := by
          rcases List.mem_append.mp hk with hk | hk
          · exact (Paired.all (G := fun n => n ≤ 2) (fun _ _ q => q.1) hk1) k hk
          · simp at hk; omega
        rw [List.length_append] at hnl
        wtm_at "wp"
        refine k_app S (by wtm_at "mem") (lt_line (by rw [List.length_reverse, natV, List.length_map]; omega)) .any (by wtm_at "wr") fun H S => ?_
        have e2 : (if ((n : Nat) : Int) + ((k : Nat) : Int) < 2 then ((n : Nat) : Int) + ((k : Nat) : Int) else 2) = ((if n + k < 2 then n + k else 2 : Nat) : Int) := by split <;> split <;> omega
        rw [e2] at S
        refine ⟨Z2, (if n + k < 2 then n + k else 2) :: r1, _, _, rfl, hs.trans hs2, ?_, by rw [List.length_cons]; omega, ?_⟩
        · rw [show natV ((if n + k < 2 then n + k else 2) :: r1) = V.int ((if n + k < 2 then n + k else 2 : Nat) : Int) :: natV r1 from rfl, List.reverse_cons]
          exact S.sub (by wtm_at "sub")
        · rw [show ps.length - (i + 1) = ps.length - 1 - i by omega, hrr]
          exact .cons ⟨by split <;> omega, fun u => by have := hu u; split <;> omega⟩ hr1
    · rintro σ H ⟨Z1, ns, pc, inn, rfl, hs, S, hnl, hpp⟩
      rw [Nat.sub_self] at hpp
      cases hpp with
      | cons h1 h2 =>
        cases h2
        wtm_at "wp"
        exact q _ _ _ h1.1 h1.2 hs (S.sub (by wtm_at "sub"))
end
end AL
/-! B9 -/
namespace AL
open PySem PySem.Spec PyProof.Rows L2
abbrev GoR (h : Str) : Bd → Bool → Prop := fun p c => p.uses h → c = false
def blV (ns : List Bool) : List V := ns.map V.bl
def Bd.word : Bd → Str
  | .give _ => "give" | .tell _ _ => "tell" | .iff _ _ _ => "if" | .case _ _ _ _ _ => "case" | .sum _ _ _ _ _ => "sum" | .empty _ _ _ => "empty" | .put _ _ _ _ => "put" | .last _ _ _ _ => "last"
  | .ask _ _ _ _ => "ask" | .keep _ _ _ _ _ _ => "keep" | .go _ _ _ _ _ => "go"
theorem BdAt.head {Z : Hp} {b : Bd} {v : V} (h : BdAt Z b v) : ∃ p xs, v = .ref p ∧ Z p = some (.tup (.str b.word :: xs)) := by
  cases b with
  | give a => obtain ⟨p, e, h⟩ := h; exact ⟨p, _, e, h⟩
  | iff a b1 b2 => obtain ⟨p, w1, w2, e, h, _⟩ := h; exact ⟨p, _, e, h⟩
  | case a b1 x y b2 => obtain ⟨p, w1, w2, e, h, _⟩ := h; exact ⟨p, _, e, h⟩
  | _ => obtain ⟨p, w1, e, h, _⟩ := h; exact ⟨p, _, e, h⟩
theorem Bd.word_go {b : Bd} (h : b.word = "go") : ∃ x hh a c nx, b = .go x hh a c nx := by
  cases b <;> first | exact ⟨_, _, _, _, _, rfl⟩ | exact absurd h (by simp only [Bd.word]; decide)
theorem if_share {tc : TT} {t u : TS} {N B C : L2.St → Hp → Prop} {R : VK} {σ : L2.St} {H : Hp} (F : Hp → Prop) (hF : ∀ H, F H → u ⟨N, R, B, C⟩ σ H) (h : (∀ H, F H → u ⟨N, R, B, C⟩ σ H) → tc σ H fun b H1 => if b = true then t ⟨N, R, B, C⟩ σ H1 else u ⟨N, R, B, C⟩ σ H1) : tIfS tc t u ⟨N, R, B, C⟩ σ H := h hF
theorem uses_mem {b : Bd} {h : Str} (u : b.uses h) : V.str h ∈ b.atoms := by
  rcases u with ⟨x, r, nx, rfl, _⟩ | ⟨x, r, nx, rfl, _⟩ <;> simp [Bd.atoms]
theorem inV_mem {x : V} {xs : List V} (h : x ∈ xs) (hx : flatV x = true) : inV x xs = true := by
  refine List.any_eq_true.mpr ⟨x, h, ?_⟩
  cases x <;> first | rfl | (simp [eqV]; done) | cases hx
theorem dpA {K : PySem.W.Frag} {H : Hp} {v : V} {s : Str} (e : isA v = true) (h : ∀ s, v = .str s → PyData.strOk s = true) (hs : PyData.strOk s = true) : ∃ d : PyData, Dp K H v d ∧ SeqAt.shaped (.tuple [.str s, d]) = true := by
  cases v with
  | str x => exact ⟨_, .str x, by simp [SeqAt.shaped, PyData.canLay0, PyData.canLayAll0, PyData.depth, PyData.depthAll, hs, h x rfl]⟩
  | int i => exact ⟨_, .int i, by simp [SeqAt.shaped, PyData.canLay0, PyData.canLayAll0, PyData.depth, PyData.depthAll, hs]⟩
  | _ => cases e
section
variable {P : Program} {w : World} {K : PySem.W.Frag} {mg : Str → Option Value} {base : Heap}
def spGoesOnLast : Sp := fun vs H Q _ => ∃ (Z : Hp) (L : Lx) (b : Bd) (v : V) (h : Str), vs = [v, .str h] ∧ SH Z L H ∧ BdAt Z b v ∧ b.pcs.length ≤ 1000 ∧ (∀ p ∈ b.pcs, p.okA) ∧ ∀ (c : Bool) Z1 H1, (b.uses h → c = false) → Same Z Z1 → SH Z1 L H1 → Q (.bl c) H1
theorem ok_goes_on_last (T : Tx K mg) : Cal P w K mg base 3 "goes_on_last" ["body", "h"] spGoesOnLast := by
  refine mk_cal (F_goes_on_last T) (g_goes_on_last T) sc_goes_on_last (fun _ _ _ _ _ _ us hl => match us, hl with | [_, _], _ => rfl) ?len ?body
  case len =>
    rintro vs H Q E ⟨Z, L, b, v, h, rfl, _⟩
    rfl
  case body =>
    rintro cdv A outer s H vs Q E hr ⟨Z, L, b, v, h, rfl, S, hb, hlen, ok, q⟩
    refine ⟨_, (pss_cons (ps_set (i := 2) sc_goes_on_last.nd rfl (Or.inr rfl) (pe_lst pa_nil)) (pss_cons (ps_for PassesOwn.never rfl (pi_reversedK (K := K) (by rfl) (b_reversed T) (pa_cons (pe_cal (ok_pieces T) hr (pa_cons (pv 0) pa_nil)) pa_nil)) (pg_name (i := 3) sc_goes_on_last.nd rfl (Or.inl rfl)) (pss_cons (ps_setLc (i := 5) (own := [("one", 4)]) (g := gName 4) (tt := tYes) (by rfl) sc_goes_on_last.nd rfl rfl (sw_true rfl rfl rfl (by decide +kernel)) (pi_listK (K := K) (pe_cal (ok_bodies_in T) hr (pa_cons (pv 3) pa_nil))) (blkOk_by (own := [("one", 4)]) (N := ["body", "h", "built", "piece", "one", "inner", "used"]) (sc := defScope s_goes_on_last) (by decide +kernel)) (fun _ _ _ _ _ => (pg_name (i := 4) sc_goes_on_last.nd rfl (Or.inl rfl))) (fun _ _ _ _ _ => pts_nil) (fun _ _ _ _ _ => (pe_bm0K (K := K) (pe_bm0 PySem.F.plainAttrs_list PySem.F.slot_list_pop PySem.F.type_list_pop mt_pop (pv 2))))) (pss_one (ps_if (PW.pt (pw_and (pt_cmpR op_eq (pe_ix (ix_anyK (K := K)) (pv 3) pe_int (fun _ _ => rfl)) pe_str (nomark _)) (pw_and (pt_cmpR op_eq (pe_ix (ix_anyK (K := K)) (pv 3) pe_int (fun _ _ => rfl)) (pv 1) (nomark _)) (pw_and1 (pt_cmpR (op_eqDK (K := K) hr.units) (pe_ix (ix_anyK (K := K)) (pv 3) (pe_un un_neg pe_int) (fun _ _ => rfl)) (pe_tup (pa_cons pe_str (pa_cons (pe_ix (ix_anyK (K := K)) (pv 3) pe_int (fun _ _ => rfl)) pa_nil))) (nomark _)))))) (pss_one (ps_expr (pe_bmK (K := K) (pe_bm PySem.F.plainAttrs_list PySem.F.slot_list_append PySem.F.type_list_append mt_append (pv 2) (pa_cons (pe_cmpR (op_notIn_seqK (K := K)) (pv 1) (pe_slice (sl_tupK (K := K)) (pv 3) (po_some pe_int) (po_some pe_int)) (by first | rfl | exact nomark _)) pa_nil))))) (pss_cons (ps_set (i := 6) sc_goes_on_last.nd rfl (Or.inl rfl) (pe_or (pe_cmpR (op_in_seqK (K := K)) (pv 1) (pe_cal (ok_atoms_of T) hr (pa_cons (pv 3) pa_nil)) (by first | rfl | exact nomark _)) (pe_one (pe_cmpR (op_in_seqK (K := K)) (pv 1) (pe_ix (ix_anyK (K := K)) (pe_cal (ok_args_of T) hr (pa_cons (pv 3) pa_nil)) pe_int (fun _ _ => rfl)) (by first | rfl | exact nomark _))))) (pss_one (ps_expr (pe_bmK (K := K) (pe_bm PySem.F.plainAttrs_list PySem.F.slot_list_append PySem.F.type_list_append mt_append (pv 2) (pa_cons (pe_and (pe_not (pv 6)) (pe_and (pe_cmpR (op_neN hr.units0) (pv 5) (pe_lst pa_nil) (nomark _)) (pe_one (pe_cmpR (op_notIn_seqK (K := K)) pe_bl (pv 5) (by first | rfl | exact nomark _))))) pa_nil)))))))))) (pss_one (ps_ret (pe_ix (ix_anyK (K := K)) (pv 2) pe_int (fun _ _ => rfl)))))), ?_⟩
    show (_ : TS) _ ([some _, some _, none, none, none, none, none] : L2.St) _
    wtm_at "wp"
    rename Addr => bu
    refine ⟨Z, _, b, v, rfl, S, hb, hlen, fun pl H ps S hps => ?_⟩
    have hpl : b.pcs.length = ps.length := hps.length
    wtm_at "wp"
    refine k_for_rev S (by wtm_at "in") (fun i σ H => ∃ (Z1 : Hp) (ns : List Bool) (pc inn us : Option V), σ = [some v, some (.str h), some (.ref bu), pc, none, inn, us] ∧ Same Z Z1 ∧
      SH Z1 ((pl, .lst ps) :: (bu, .lst (blV ns).reverse) :: L) H ∧ ns.length ≤ i ∧ Paired (GoR h) (Fst (ps.length - i) [b]) ns) ⟨Z, [], _, _, _, rfl, Same.refl _, S, Nat.le_refl _, by rw [Nat.sub_zero, Fst.all (by rw [List.flatMap_cons, List.flatMap_nil, List.append_nil]; omega)]; exact .nil⟩ (fun i σ H ⟨_, _, _, _, _, _, _, S, _, _⟩ => S.at (.l (by wtm_at "mem"))) ?_ ?_
    · rintro i x σ H hi hx ⟨Z1, ns, pc, inn, us, rfl, hs, S, hnl, hpp⟩
      obtain ⟨p0, hp0, hbx⟩ : ∃ p0, b.pcs[ps.length - 1 - i]? = some p0 ∧ BdAt Z1 p0 x := by
        obtain ⟨y, hy, hF⟩ := Paired.get hps (i := ps.length - 1 - i) (x := b.pcs[ps.length - 1 - i]'(by omega)) (List.getElem?_eq_getElem (by omega))
        rw [hx] at hy
        obtain rfl := Option.some.inj hy
        exact ⟨_, List.getElem?_eq_getElem (by omega), hF.mono hs⟩
      have okp := ok p0 (List.mem_of_getElem? hp0)
      obtain ⟨rr, hrr⟩ := Fst.get (fs := [b]) (n := ps.length - 1 - i) (p := p0) (by simpa using hp0)
      rw [show ps.length - i = (ps.length - 1 - i) + 1 by omega, Fst.step hrr] at hpp
      obtain ⟨k1, r1, rfl, hk1, hr1⟩ := Paired.split hpp
      wtm_at "wp"
      refine ⟨Z1, _, p0, x, rfl, S, hbx, fun kl H ks S hks => ?_⟩
      have hkl : p0.kids.length = ks.length := hks.length
      have hk1l : p0.kids.length = k1.length := hk1.length
      have hk3 : p0.kids.length ≤ 2 := by rcases p0.kids2 with e | ⟨_, e⟩ | ⟨_, _, e⟩ <;> simp [e]
      refine k_lc_list S (by wtm_at "in") (by wtm_at "wipe") (fun D j H => SH Z1 ((D, .lst (blV (k1.take j))) :: (kl, .lst ks) :: (pl, .lst ps) :: (bu, .lst (blV (k1.drop j ++ r1)).reverse) :: L) H) (fun D H S => S) (fun D j H S => S.at (.l (by wtm_at "mem"))) ?_ (by wtm_at "wipe") ?_
      · intro D j y H hy S
        have hj : j < ks.length := (List.getElem?_eq_some_iff.mp hy).1
        obtain ⟨n, hn⟩ : ∃ n, k1[j]? = some n := ⟨_, List.getElem?_eq_getElem (by omega)⟩
        rw [drop_get hn, List.cons_append, show blV (n :: (k1.drop (j + 1) ++ r1)) = V.bl n :: blV (k1.drop (j + 1) ++ r1) from rfl, List.reverse_cons] at S
        have et : blV (k1.take (j + 1)) = blV (k1.take j) ++ [V.bl n] := by rw [List.take_add_one, hn]; simp [blV]
        have el : (blV (k1.take j)).length ≤ 2 := by rw [blV, List.length_map, List.length_take]; omega
        wtm_at "wp"
        rw [et]
        exact S
      · intro D H S
        rw [← hkl, hk1l, List.take_length, List.drop_length, List.nil_append] at S
        rw [List.length_append] at hnl
        have hrl : (blV r1).reverse.length ≤ 1000 := by rw [List.length_reverse, blV, List.length_map]; omega
        have fin : ∀ (c : Bool) (Z2 : Hp) (L2 : Lx) (H : Hp) (pc inn us : Option V), GoR h p0 c → Same Z1 Z2 → SH Z2 ((pl, .lst ps) :: (bu, .lst ((blV r1).reverse ++ [.bl c])) :: L) H →
            ∃ (Z1 : Hp) (ns : List Bool) (pc' inn' us' : Option V), [some v, some (.str h), some (.ref bu), pc, none, inn, us] = [some v, some (.str h), some (.ref bu), pc', none, inn', us'] ∧ Same Z Z1 ∧
      SH Z1 ((pl, .lst ps) :: (bu, .lst (blV ns).reverse) :: L) H ∧ ns.length ≤ i + 1 ∧ Paired (GoR h) (Fst (ps.length - (i + 1)) [b]) ns := fun c Z2 L2 H pc inn us hc hs2 S =>
          ⟨Z2, c :: r1, pc, inn, us, rfl, hs.trans hs2, by rw [show blV (c :: r1) = .bl c :: blV r1 from rfl, List.reverse_cons]; exact S, by rw [List.length_cons]; omega, by rw [show ps.length - (i + 1) = ps.length - 1 - i by omega, hrr]; exact .cons hc hr1⟩
        wtm_at "w1"
        refine if_share (fun H => SH Z1 ((D, .lst (blV k1)) :: (pl, .lst ps) :: (bu, .lst (blV r1).reverse) :: L) H) ?_ fun els => ?_
        · intro H S
          wtm_at "wp"
          refine ⟨Z1, _, p0, x, rfl, S, hbx, fun ar H S => ?_⟩
          wtm_at "wp"
          have hat : p0.atoms.all flatV = true := List.all_eq_true.mpr fun a ha => flatA (okp.1 a ha)
          refine k_inL S (by wtm_at "in") rfl hat ?_
          wtm_at "wp"
          by_cases e : inV (V.str h) p0.atoms = true
          · refine if_T e ?_
            wtm_at "wp"
            refine fin _ _ L _ _ _ _ (fun _ => rfl) (Same.refl _) (S.sub (by wtm_at "sub"))
          · refine if_F (Bool.eq_false_iff.mpr e) ?_
            have nu : ¬ p0.uses h := fun u => e (inV_mem (uses_mem u) rfl)
            wtm_at "wp"
            refine ⟨Z1, _, p0, x, rfl, S, hbx, fun r f e1 Z2 H hs2 S h1 h2 => ?_⟩
            wtm_at "wp"
            refine if_T (by rfl) ?_
            wtm_at "wp"
            cases k1 with
            | nil =>
              refine k_neE (K := K) S (by wtm_at "in") (by wtm_at "in") ?_
              wtm_at "wp"
              refine fin _ _ L _ _ _ _ (fun u => absurd u nu) hs2 (S.sub (by wtm_at "sub"))
            | cons c1 k2 =>
              refine k_neC (K := K) S (by wtm_at "in") (by simp [blV]) (by wtm_at "in") ?_
              wtm_at "wp"
              refine k_inL S (by wtm_at "in") rfl (by simp [blV, flatV]) ?_
              wtm_at "wp"
              refine fin _ _ L _ _ _ _ (fun u => absurd u nu) hs2 (S.sub (by wtm_at "sub"))
        · by_cases hw : p0.word = "go"
          · obtain ⟨x1, hh, a1, c1, nx, rfl⟩ := Bd.word_go hw
            obtain ⟨sx, z, rfl, hz, sz⟩ := okp.2 _ _ _ _ _ rfl
            have nu : ¬ (Bd.go x1 hh a1 c1 (.give z)).uses h := by rintro (⟨_, _, _, e, _⟩ | ⟨_, _, _, e, _⟩) <;> cases e
            obtain ⟨p, w1, rfl, hp, p2, rfl, hp2⟩ := hbx
            wtm_at "wp"
            refine k_eq (scalA (okp.1 hh (by simp [Bd.atoms]))) ?_
            wtm_at "wp"
            by_cases e1 : hh = .str h
            · refine if_T (decide_eq_true e1) ?_
              wtm_at "wp"
              obtain ⟨d1, hd1, hs1⟩ := dpA (K := K) (H := H) hz sz (s := "give") (by decide +kernel)
              refine ⟨_, _, .tup (SqT.of (S.at (.z hp2))) (.cons (.str _) (.cons hd1 .nil)), .tup (SqT.of (S.at (.l (by wtm_at "mem")))) (.cons (.str _) (.cons (.str x1) .nil)), hs1, by simp [SeqAt.shaped, PyData.canLay0, PyData.canLayAll0, PyData.depth, PyData.depthAll, sx]; decide +kernel, ?_⟩
              wtm_at "wp"
              split
              · wtm_at "wp"
                refine k_slT S (.z hp) (by wtm_at "sx") (ys := [a1, c1]) rfl fun p H S => ?_
                wtm_at "wp"
                refine k_in S (by wtm_at "in") rfl (by simp [flatA (okp.1 a1 (by simp [Bd.atoms])), flatA (okp.1 c1 (by simp [Bd.atoms]))]) ?_
                wtm_at "wp"
                exact fin _ _ L _ _ _ _ (fun u => absurd u nu) (Same.refl _) (S.sub (by wtm_at "sub"))
              · exact els _ (S.sub (by wtm_at "sub"))
            · refine if_F (decide_eq_false e1) ?_
              exact if_F rfl (els _ (S.sub (by wtm_at "sub")))
          · obtain ⟨p, xs, rfl, hp⟩ := hbx.head
            wtm_at "wp"
            refine if_F (decide_eq_false fun z => hw (V.str.inj z)) ?_
            exact if_F rfl (els _ (S.sub (by wtm_at "sub")))
    · rintro σ H ⟨Z1, ns, pc, inn, us, rfl, hs, S, hnl, hpp⟩
      rw [Nat.sub_self] at hpp
      cases hpp with
      | cons h1 h2 =>
        cases h2
        wtm_at "wp"
        exact q _ _ _ h1 hs (S.sub (by wtm_at "sub"))
/-! ### param_weights, hold_words -/
def spParamWeights : Sp := fun vs H Q _ => ∃ (Z : Hp) (L : Lx) (g : Pg) (a : PgA) (pg : Addr), vs = [.ref pg] ∧ SH Z L H ∧ ProgAt Z g a pg ∧ ∀ r H1, SH Z L H1 → Q r H1
theorem ok_param_weights (T : Tx K mg) : Cal P w K mg base 4 "param_weights" ["program"] spParamWeights := by
  refine mk_cal (F_param_weights T) (g_param_weights T) sc_param_weights (fun _ _ _ _ _ _ us hl => match us, hl with | [_], _ => rfl) ?len ?body
  case len =>
    rintro vs H Q E ⟨Z, L, g, a, pg, rfl, _⟩
    rfl
  case body =>
    rintro cdv A outer s H vs Q E hr ⟨Z, L, g, a, pg, rfl, S, A1, q⟩
    refine ⟨_, (pss_cons (ps_set (i := 1) sc_param_weights.nd rfl (Or.inl rfl) pe_dnewT) (pss_cons (ps_for PassesOwn.never rfl (pi_tupK (K := K) (pe_ix (ix_anyK (K := K)) (pv 0) pe_int (fun _ _ => rfl))) (pg_tupK (K := K) (by rfl) (pgs_cons (pg_name (i := 2) sc_param_weights.nd rfl (Or.inl rfl)) (pgs_cons (pg_name (i := 3) sc_param_weights.nd rfl (Or.inl rfl)) (pgs_cons (pg_name (i := 4) sc_param_weights.nd rfl (Or.inl rfl)) (pgs_cons (pg_name (i := 5) sc_param_weights.nd rfl (Or.inl rfl)) pgs_nil))))) (pss_one (ps_for PassesOwn.never rfl (pi_enumT (K := K) (by rfl) (b_enumerate T) (pa_cons (pv 3) pa_nil)) (pg_tupK (K := K) (by rfl) (pgs_cons (pg_name (i := 6) sc_param_weights.nd rfl (Or.inl rfl)) (pgs_cons (pg_name (i := 7) sc_param_weights.nd rfl (Or.inl rfl)) pgs_nil))) pss_never))) (pss_cons (ps_set (i := 8) sc_param_weights.nd rfl (Or.inl rfl) pe_bl) (pss_cons (ps_while PassesOwn.never (pt_tru (K := K) (pv 8) (by intro _; rfl)) (pss_cons (ps_set (i := 8) sc_param_weights.nd rfl (Or.inl rfl) pe_bl) (pss_one (ps_for PassesOwn.never rfl (pi_tupK (K := K) (pe_ix (ix_anyK (K := K)) (pv 0) pe_int (fun _ _ => rfl))) (pg_tupK (K := K) (by rfl) (pgs_cons (pg_name (i := 2) sc_param_weights.nd rfl (Or.inl rfl)) (pgs_cons (pg_name (i := 3) sc_param_weights.nd rfl (Or.inl rfl)) (pgs_cons (pg_name (i := 4) sc_param_weights.nd rfl (Or.inl rfl)) (pgs_cons (pg_name (i := 5) sc_param_weights.nd rfl (Or.inl rfl)) pgs_nil))))) (pss_one (ps_for PassesOwn.never rfl (pi_enumT (K := K) (by rfl) (b_enumerate T) (pa_cons (pv 3) pa_nil)) (pg_tupK (K := K) (by rfl) (pgs_cons (pg_name (i := 6) sc_param_weights.nd rfl (Or.inl rfl)) (pgs_cons (pg_name (i := 7) sc_param_weights.nd rfl (Or.inl rfl)) pgs_nil))) pss_never)))))) (pss_one (ps_ret (pv 1))))))), ?_⟩
    show (_ : TS) _ ([some _, none, none, none, none, none, none, none, none] : L2.St) _
    obtain ⟨h0, h1, h2, h3, h4, h5, h6, h7, h8, h9, h10, h11, h12, bh, be, b0, b1, ne⟩ := A1
    wtm_at "wp"
    wtm_at "un"
    wtm_at "wp"
    refine w_while (fun n σ H => ∃ o2 o3 o4 o5 o6 o7, SH Z ((p, .dT []) :: L) H ∧ ((n = 1 ∧ σ = [some (.ref pg), some (.ref p), o2, o3, o4, o5, o6, o7, some (.bl true)]) ∨ (n = 0 ∧ σ = [some (.ref pg), some (.ref p), o2, o3, o4, o5, o6, o7, some (.bl false)]))) 1 ⟨_, _, _, _, _, _, S, .inl ⟨rfl, rfl⟩⟩ ?_
    rintro n σ H ⟨o2, o3, o4, o5, o6, o7, S, ⟨rfl, rfl⟩ | ⟨rfl, rfl⟩⟩
    · wtm_at "wp"
      refine k_turn ?_
      wtm_at "wp"
      wtm_at "un"
      wtm_at "wp"
      exact ⟨0, Nat.zero_lt_one, _, _, _, _, _, _, S, .inr ⟨rfl, rfl⟩⟩
    · wtm_at "wp"
      exact q _ _ (S.sub (by wtm_at "sub"))
def spHoldWords : Sp := fun vs H Q _ => ∃ (Z : Hp) (L : Lx) (g : Pg) (a : PgA) (pg : Addr), vs = [.ref pg] ∧ SH Z L H ∧ ProgAt Z g a pg ∧ g.hb.pcs.length ≤ 1000 ∧ (∀ p ∈ g.hb.pcs, p.okA) ∧ g.hb.uses g.hh ∧
  ∀ r Z1 H1, Same Z Z1 → SH Z1 L H1 → Z1 r = some (.dT [([.inr g.K, .inr g.q], .str "often")]) → Q (.ref r) H1
theorem ok_hold_words (T : Tx K mg) : Cal P w K mg base 5 "hold_words" ["program"] spHoldWords := by
  refine mk_cal (F_hold_words T) (g_hold_words T) sc_hold_words (fun _ _ _ _ _ _ us hl => match us, hl with | [_], _ => rfl) ?len ?body
  case len =>
    rintro vs H Q E ⟨Z, L, g, a, pg, rfl, _⟩
    rfl
  case body =>
    rintro cdv A outer s H vs Q E hr ⟨Z, L, g, a, pg, rfl, S, A1, hl, ok, us, q⟩
    refine ⟨_, (pss_cons (ps_set (i := 1) sc_hold_words.nd rfl (Or.inl rfl) (pe_cal (ok_param_weights T) hr (pa_cons (pv 0) pa_nil))) (pss_cons (ps_set (i := 2) sc_hold_words.nd rfl (Or.inl rfl) pe_dnewT) (pss_cons (ps_for PassesOwn.never rfl (pi_tupK (K := K) (pe_ix (ix_anyK (K := K)) (pv 0) pe_int (fun _ _ => rfl))) (pg_name (i := 3) sc_hold_words.nd rfl (Or.inl rfl)) (pss_one (ps_for PassesOwn.never rfl (pi_tupK (K := K) (pe_ix (ix_anyK (K := K)) (pv 3) pe_int (fun _ _ => rfl))) (pg_tupK (K := K) (by rfl) (pgs_cons (pg_name (i := 4) sc_hold_words.nd rfl (Or.inl rfl)) (pgs_cons (pg_name (i := 5) sc_hold_words.nd rfl (Or.inl rfl)) (pgs_cons (pg_name (i := 6) sc_hold_words.nd rfl (Or.inl rfl)) (pgs_cons (pg_name (i := 7) sc_hold_words.nd rfl (Or.inl rfl)) (pgs_cons (pg_name (i := 8) sc_hold_words.nd rfl (Or.inl rfl)) pgs_nil)))))) (pss_cons (ps_set (i := 9) sc_hold_words.nd rfl (Or.inl rfl) (pe_cal (ok_weight_in T) hr (pa_cons (pv 8) (pa_cons (pv 6) (pa_cons (pv 1) pa_nil))))) (pss_cons (ps_set (i := 10) sc_hold_words.nd rfl (Or.inl rfl) (pe_ix (ix_anyK (K := K)) (pe_lst (pa_cons pe_str (pa_cons pe_str (pa_cons pe_str pa_nil)))) (pv 9) (fun _ _ => rfl))) (pss_cons (ps_if (PW.pt (pw_and (pt_cmpR op_gt (pv 9) pe_int (nomark _)) (pw_and1 (pt_tru (K := K) (pe_cal (ok_goes_on_last T) hr (pa_cons (pv 8) (pa_cons (pv 6) pa_nil))) (by intro _; rfl))))) (pss_one (ps_set (i := 10) sc_hold_words.nd rfl (Or.inl rfl) pe_str)) pss_nil) (pss_one (ps_dput (hu_of hr) (pv 2) (pe_tup (pa_cons (pe_ix (ix_anyK (K := K)) (pv 3) pe_int (fun _ _ => rfl)) (pa_cons (pv 4) pa_nil))) (pv 10) rfl)))))))) (pss_one (ps_ret (pv 2)))))), ?_⟩
    show (_ : TS) _ ([some _, none, none, none, none, none, none, none, none, none, none] : L2.St) _
    have A2 := A1
    obtain ⟨h0, h1, h2, h3, h4, h5, h6, h7, h8, h9, h10, h11, h12, bh, be, b0, b1, ne⟩ := A1
    wtm_at "wp"
    refine ⟨Z, _, g, a, pg, rfl, S, A2, fun wd H S => ?_⟩
    wtm_at "wp"
    rename Addr => fd
    wtm_at "un"
    wtm_at "wp"
    wtm_at "un"
    wtm_at "wp"
    refine ⟨Z, _, g.hb, a.hbv, g.hh, wd, rfl, S, bh, hl, ok, fun n Z1 H hn hu hs S => ?_⟩
    obtain rfl := hu us
    replace h3 := hs _ _ h3
    replace h4 := hs _ _ h4
    replace h6 := hs _ _ h6
    wtm_at "wp"
    refine ⟨Z1, _, g.hb, a.hbv, g.hh, rfl, S, bh.mono hs, hl, ok, fun c Z2 H hc hs2 S => ?_⟩
    obtain rfl := hc us
    replace h3 := hs2 _ _ h3
    replace h4 := hs2 _ _ h4
    replace h6 := hs2 _ _ h6
    wtm_at "wp"
    obtain ⟨S, hs3, hz⟩ := S.pick (p := fd) (by wtm_at "pick")
    exact q _ _ _ ((hs.trans hs2).trans hs3) (S.sub (by wtm_at "sub")) hz
end
end AL
/-! C0 -/
namespace AL
open PySem PySem.Spec PyProof.Rows L2
/-! ### the known entries chosen anew -/
inductive Sel : Lx → Lx → Prop where
  | sub {L L1} (h : L1.Sublist L) : Sel L L1
  | pick {L L1 L2 p o} (h : Pick L p o L1) (h2 : Sel L1 L2) : Sel L ((p, o) :: L2)
theorem Sel.ok {Z : Hp} {H : Hp} : ∀ {L L1 : Lx}, Sel L L1 → ∀ {L0 : Lx}, SH Z (L ++ L0) H → SH Z (L1 ++ L0) H := by
  intro L L1 h
  induction h with
  | sub h => intro L0 S; exact S.sub (h.append_right _)
  | @pick L L1 L2 p o h h2 ih =>
    intro L0 S
    have S1 : SH Z ((p, o) :: (L1 ++ L0)) H := S.perm (by
      have := (h.perm).append_right L0
      exact this)
    have S2 : SH Z (L1 ++ ((p, o) :: L0)) H := S1.perm (List.perm_middle.symm)
    have S3 := ih S2
    exact S3.perm List.perm_middle
theorem SH.sel {Z : Hp} {L L1 : Lx} {H : Hp} (S : SH Z L H) (h : Sel L L1) : SH Z L1 H := by
  have := Sel.ok h (L0 := []) (Z := Z) (H := H) (by rw [List.append_nil]; exact S)
  rw [List.append_nil] at this
  exact this
theorem atI_one {α : Type} {x y : α} {r : List α} : atI (x :: y :: r) 1 = some y := atI_nat (j := 1) rfl
theorem len_ne {xs : List V} {y : V} : decide (V.int ((xs ++ [y]).length : Nat) = V.int 0) = false := decide_eq_false fun e => by
  have := V.int.inj e
  rw [List.length_append, List.length_cons] at this
  omega
theorem len_nil : decide (V.int (([] : List V).length : Nat) = V.int 0) = true := decide_eq_true rfl
theorem Pt.keyV (g : Pg) (t : Pt) : ((t.tup g).map keyOf).map kV = t.tup g := by cases t <;> rfl
theorem k_dgetP {Z : Hp} {L : Lx} {H : Hp} {a p : Addr} {kvs : KTs} {Q2 : V → Prop} {g : Pg} {t : Pt} {v : V} (S : SH Z L H) (h : In Z L a (.dT kvs)) (hk : In Z L p (.tup (t.tup g))) (hv : valV kvs (Pt.key g t) = some v) (q : Q2 v) : ∃ a' v', V.ref a = .ref a' ∧ DGet H a' (.ref p) (some v') ∧ Q2 v' :=
  k_dgetT S h hk (Pt.keyV g t) hv q
theorem k_dputP {Z : Hp} {L L1 : Lx} {H : Hp} {a p : Addr} {kvs : KTs} {NN : Hp → Prop} {g : Pg} {t : Pt} {v : V} (S : SH Z L H) (h : (a, HO.dT kvs) ∈ L) (hk : In Z L p (.tup (t.tup g))) (hl : kvs.length < sizeLine) (hw : Wr L a (.dT (putK kvs (Pt.key g t) v)) L1) (q : ∀ H1, SH Z L1 H1 → NN H1) : ∃ a' H4, V.ref a = .ref a' ∧ DPut H a' (.ref p) v H4 ∧ NN H4 :=
  k_dputT S h hk (Pt.keyV g t) hl hw q
/-- the pieces of each part -/
def ListedAt (Z : Hp) (g : Pg) (r : Addr) : Prop := ∃ kvs : KTs, Z r = some (.dT kvs) ∧ ∀ t : Pt, ∃ l ws, valV kvs (Pt.key g t) = some (.ref l) ∧ Z l = some (.lst ws) ∧ BdsAt Z (t.body g).pcs ws
theorem ListedAt.mono {Z Z1 : Hp} (hs : Same Z Z1) {g : Pg} {r : Addr} (h : ListedAt Z g r) : ListedAt Z1 g r := by
  obtain ⟨kvs, h1, h2⟩ := h
  exact ⟨kvs, hs _ _ h1, fun t => let ⟨l, ws, e, h3, h4⟩ := h2 t; ⟨l, ws, e, hs _ _ h3, h4.mono hs⟩⟩
def HearsAt (Z : Hp) (g : Pg) (r : Addr) : Prop := ∃ l, Z r = some (.dK [(.inr g.K, .ref l)]) ∧ Z l = some (.lst [.str g.q])
theorem HearsAt.mono {Z Z1 : Hp} (hs : Same Z Z1) {g : Pg} {r : Addr} (h : HearsAt Z g r) : HearsAt Z1 g r := by
  obtain ⟨l, h1, h2⟩ := h
  exact ⟨l, hs _ _ h1, hs _ _ h2⟩
end AL
/-! C1 -/
namespace AL
open PySem PySem.Spec PyProof.Rows L2
/-! ### the program's run, plainly -/
structure Hd where
  num : Nat
  at_ : Nat
  env : List (Str × Int)
inductive AV where
  | int (i : Int)
  | hold (h : Hd)
  | row (hs : List Hd)
abbrev AEnv := List (Str × AV)
def eget : AEnv → Str → Option AV
  | [], _ => none
  | (y, v) :: r, x => if x = y then some v else eget r x
def aw (env : AEnv) : V → Option AV
  | .int i => some (.int i)
  | .str x => eget env x
  | _ => none
def ienv (e : List (Str × Int)) : AEnv := e.map fun p => (p.1, .int p.2)
structure AF where
  t : Pt
  n : Nat
  env : AEnv
inductive Ev where
  | tell (i : Int) | keep | ask | go (num : Nat) | ended
structure AS where
  low : List AF
  note : Option (List Hd)
  top : AF
  held : Nat
  ev : List Ev
def Pt.pc (g : Pg) (t : Pt) (n : Nat) : Option Bd := (t.body g).pcs[n]?
/-- a sum's value -/
def sumV (s : Str) (i j : Int) : Int :=
  if s = "+" then (i + j) % 1000000000 else if s = "-" then (i - j) % 1000000000 else if s = "*" then (i * j) % 1000000000 else if s = "<" then (if i < j then 1 else 0) else if i = j then 1 else 0
inductive AMade (env : AEnv) : Bd → Str → AV → Prop where
  | empty {x k nx} : AMade env (.empty x k nx) x (.row [])
  | sum {x s a b nx i j} (ha : aw env a = some (.int i)) (hb : aw env b = some (.int j)) (h1 : -(2 ^ 62) < i ∧ i < 2 ^ 62) (h2 : -(2 ^ 62) < j ∧ j < 2 ^ 62) : AMade env (.sum x s a b nx) x (.int (sumV s i j))
  | put {x a r nx h hs} (ha : aw env a = some (.hold h)) (hr : aw env r = some (.row hs)) (hl : hs.length ≤ 1000) : AMade env (.put x a r nx) x (.row (h :: hs))
  | last {x r a nx h hs} (hr : aw env r = some (.row hs)) (ha : aw env a = some (.hold h)) (hl : hs.length ≤ 1000) : AMade env (.last x r a nx) x (.row (hs ++ [h]))
inductive AStep (g : Pg) : AS → AS → Prop where
  | mk {low nt t n env hd ev b x av} (hp : Pt.pc g t n = some b) (hm : AMade env b x av) : AStep g ⟨low, nt, ⟨t, n, env⟩, hd, ev⟩ ⟨low, nt, ⟨t, n + 1, (x, av) :: env⟩, hd, ev⟩
  | tell {low nt t n env hd ev a nx i} (hp : Pt.pc g t n = some (.tell a nx)) (ha : aw env a = some (.int i)) : AStep g ⟨low, nt, ⟨t, n, env⟩, hd, ev⟩ ⟨low, nt, ⟨t, n + 1, env⟩, hd, ev ++ [.tell i]⟩
  | iff {low nt t n env hd ev a b1 b2 i} (hp : Pt.pc g t n = some (.iff a b1 b2)) (hl : b1.pcs.length ≤ 1000) (ha : aw env a = some (.int i)) : AStep g ⟨low, nt, ⟨t, n, env⟩, hd, ev⟩ ⟨low, nt, ⟨t, n + 1 + (if i = 0 then b1.pcs.length else 0), env⟩, hd, ev⟩
  | case0 {low nt t n env hd ev r b1 x y b2} (hp : Pt.pc g t n = some (.case r b1 x y b2)) (hr : aw env r = some (.row [])) (hx : eget env x = none) (hy : eget env y = none) : AStep g ⟨low, nt, ⟨t, n, env⟩, hd, ev⟩ ⟨low, nt, ⟨t, n + 1, env⟩, hd, ev⟩
  | case1 {low nt t n env hd ev r b1 x y b2 h hs} (hp : Pt.pc g t n = some (.case r b1 x y b2)) (hl : b1.pcs.length ≤ 1000) (hr : aw env r = some (.row (h :: hs))) : AStep g ⟨low, nt, ⟨t, n, env⟩, hd, ev⟩ ⟨low, nt, ⟨t, n + 1 + b1.pcs.length, (y, .row hs) :: (x, .hold h) :: env⟩, hd, ev⟩
  | keep {low t n env hd ev x a gs nx hs} (hp : Pt.pc g t n = some (.keep x g.K a g.f1 gs nx)) (ha : aw env a = some (.row hs)) : AStep g ⟨low, none, ⟨t, n, env⟩, hd, ev⟩ ⟨⟨t, n, env⟩ :: low, some hs, ⟨.d1, 0, []⟩, hd, ev ++ [.keep]⟩
  | ask {low n env hd ev hs x a nx i} (hp : Pt.pc g .d1 n = some (.ask x g.q a nx)) (ha : aw (ienv env) a = some (.int i)) : AStep g ⟨low, some hs, ⟨.d1, n, ienv env⟩, hd, ev⟩ ⟨low, none, ⟨.hr, 0, [(g.hn, .row hs), (g.hh, .hold ⟨hd, n, env⟩), (g.hx, .int i)]⟩, hd + 1, ev ++ [.ask]⟩
  | go {low t n env hd ev x hh a b nx h i hs y q c nx2} (hp : Pt.pc g t n = some (.go x hh a b nx)) (hh_ : aw env hh = some (.hold h)) (ha : aw env a = some (.int i)) (hb : aw env b = some (.row hs)) (hp2 : Pt.pc g .d1 h.at_ = some (.ask y q c nx2)) :
      AStep g ⟨low, none, ⟨t, n, env⟩, hd, ev⟩ ⟨⟨t, n, env⟩ :: low, some hs, ⟨.d1, h.at_ + 1, ienv ((y, i) :: h.env)⟩, hd, ev ++ [.go h.num]⟩
  | giveK {low hs t n env hd ev a i} (hp : Pt.pc g t n = some (.give a)) (ha : aw env a = some (.int i)) : AStep g ⟨low, some hs, ⟨t, n, env⟩, hd, ev⟩ ⟨low, none, ⟨.en, 0, [(g.en, .row hs), (g.ex, .int i)]⟩, hd, ev ++ [.ended]⟩
  | giveP {low t2 n2 env2 t n env hd ev a i b x} (hp : Pt.pc g t n = some (.give a)) (ha : aw env a = some (.int i)) (hp2 : Pt.pc g t2 n2 = some b) (hw : (∃ k a f gs nx, b = .keep x k a f gs nx) ∨ ∃ h a c nx, b = .go x h a c nx) :
      AStep g ⟨⟨t2, n2, env2⟩ :: low, none, ⟨t, n, env⟩, hd, ev⟩ ⟨low, none, ⟨t2, n2 + 1, (x, .int i) :: env2⟩, hd, ev⟩
/-- the last turn: the value -/
def AEnd (g : Pg) (s : AS) (i : Int) : Prop := s.low = [] ∧ s.note = none ∧ ∃ a, Pt.pc g s.top.t s.top.n = some (.give a) ∧ aw s.top.env a = some (.int i)
/-- k turns to the end; nothing grows too large on the way -/
def SmallH (env : AEnv) : Prop := ∀ x h, eget env x = some (.hold h) → h.env.length ≤ 900
def AFit (s : AS) : Prop := s.low.length ≤ 500 ∧ s.ev.length ≤ 2000 ∧ s.top.env.length ≤ 100 ∧ (∀ f ∈ s.low, f.env.length ≤ 100) ∧ s.top.n ≤ 1000 ∧ SmallH s.top.env
inductive ARun (g : Pg) : AS → Nat → List Ev → Int → Prop where
  | fin {s i} (hf : AFit s) (h : AEnd g s i) : ARun g s 1 s.ev i
  | step {s s1 k ev i} (hf : AFit s) (h : AStep g s s1) (r : ARun g s1 k ev i) : ARun g s (k + 1) ev i
end AL
/-! C2 -/
namespace AL
open PySem PySem.Spec PyProof.Rows L2
/-! ### values as the walk keeps them -/
def IEnvAt (kvs : KVs) (e : List (Str × Int)) : Prop := kvs.length ≤ e.length ∧ ∀ x a, eget (ienv e) x = some a → ∃ i : Int, a = .int i ∧ valV kvs (.inr x) = some (.int i)
section
variable (K : PySem.W.Frag) (Z : Hp) (g : Pg)
def WHd (h : Hd) (p : Addr) : Prop := ∃ dx t k s kn pv nm kvs, Z p = some (cHold.ob K dx [.int (h.num : Nat), .ref t]) ∧ Z t = some (.tup [.ref k, .ref s]) ∧ Z k = some (.tup [.str "keep", .str g.K, kn]) ∧
  Z s = some (.tup [.str "part", pv, .int (h.at_ : Nat), .ref nm]) ∧ PtAt Z g .d1 pv ∧ Z nm = some (.dK kvs) ∧ IEnvAt kvs h.env
def WHv (h : Hd) (v : V) : Prop := ∃ p, v = .ref p ∧ WHd K Z g h p
end
section
variable {K : PySem.W.Frag} {Z Z1 : Hp} {g : Pg}
theorem WHd.mono (hs : Same Z Z1) {h : Hd} {p : Addr} (q : WHd K Z g h p) : WHd K Z1 g h p := by
  obtain ⟨dx, t, k, s, kn, pv, nm, kvs, h1, h2, h3, h4, h5, h6, h7⟩ := q
  exact ⟨dx, t, k, s, kn, pv, nm, kvs, hs _ _ h1, hs _ _ h2, hs _ _ h3, hs _ _ h4, h5.mono hs, hs _ _ h6, h7⟩
theorem WHv.mono (hs : Same Z Z1) {h : Hd} {v : V} (q : WHv K Z g h v) : WHv K Z1 g h v := by
  obtain ⟨p, e, h⟩ := q
  exact ⟨p, e, h.mono hs⟩
end
/-- how a hold stands -/
structure HRel where
  R : Hp → Hd → V → Prop
  mono : ∀ {Z Z1 : Hp} {h : Hd} {v : V}, Same Z Z1 → R Z h v → R Z1 h v
def GV (R : HRel) (Z : Hp) : AV → V → Prop
  | .int i, v => v = .int i
  | .hold h, v => R.R Z h v
  | .row hs, v => ∃ p vs, v = .ref p ∧ Z p = some (.tup vs) ∧ Paired (R.R Z) hs vs
structure GEnv (R : HRel) (Z : Hp) (env : AEnv) (kvs : KVs) : Prop where
  len : kvs.length ≤ env.length
  v : ∀ x a, eget env x = some a → ∃ v, valV kvs (.inr x) = some v ∧ GV R Z a v
def WRel (K : PySem.W.Frag) (g : Pg) : HRel := ⟨fun Z h v => WHv K Z g h v, fun hs q => WHv.mono hs q⟩
abbrev WV (K : PySem.W.Frag) (Z : Hp) (g : Pg) : AV → V → Prop := GV (WRel K g) Z
abbrev WEnv (K : PySem.W.Frag) (Z : Hp) (g : Pg) : AEnv → KVs → Prop := GEnv (WRel K g) Z
section
variable {R : HRel} {Z Z1 : Hp}
theorem GV.mono (hs : Same Z Z1) {a : AV} {v : V} (q : GV R Z a v) : GV R Z1 a v := by
  cases a with
  | int i => exact q
  | hold h => exact R.mono hs q
  | row r => obtain ⟨p, vs, e, h1, h2⟩ := q; exact ⟨p, vs, e, hs _ _ h1, Paired.mapP h2 fun _ _ z => R.mono hs z⟩
theorem GEnv.mono (hs : Same Z Z1) {e : AEnv} {kvs : KVs} (q : GEnv R Z e kvs) : GEnv R Z1 e kvs :=
  ⟨q.len, fun x a h => let ⟨v, h1, h2⟩ := q.v x a h; ⟨v, h1, h2.mono hs⟩⟩
theorem GEnv.put {e : AEnv} {kvs : KVs} (q : GEnv R Z e kvs) {x : Str} {a : AV} {v : V} (h : GV R Z a v) : GEnv R Z ((x, a) :: e) (putK kvs (.inr x) v) := by
  refine ⟨?_, fun y b hb => ?_⟩
  · have := length_putK kvs (.inr x) v
    have := q.len
    rw [List.length_cons]; omega
  · rw [valV_put]
    unfold eget at hb
    by_cases hy : y = x
    · rw [if_pos hy] at hb
      cases hb
      exact ⟨v, by rw [if_pos (by rw [hy])], h⟩
    · rw [if_neg hy] at hb
      rw [if_neg fun z => hy (Sum.inr.inj z)]
      exact q.v y b hb
theorem GEnv.nil : GEnv R Z [] [] := ⟨Nat.le_refl _, fun x a h => by cases h⟩
theorem WV.mono {K : PySem.W.Frag} {g : Pg} (hs : Same Z Z1) {a : AV} {v : V} (q : WV K Z g a v) : WV K Z1 g a v := GV.mono hs q
theorem WEnv.mono {K : PySem.W.Frag} {g : Pg} (hs : Same Z Z1) {e : AEnv} {kvs : KVs} (q : WEnv K Z g e kvs) : WEnv K Z1 g e kvs := GEnv.mono hs q
theorem WEnv.nil {K : PySem.W.Frag} {g : Pg} : WEnv K Z g [] [] := GEnv.nil
theorem WEnv.put {K : PySem.W.Frag} {g : Pg} {e : AEnv} {kvs : KVs} (q : WEnv K Z g e kvs) {x : Str} {a : AV} {v : V} (h : WV K Z g a v) : WEnv K Z g ((x, a) :: e) (putK kvs (.inr x) v) := GEnv.put q h
/-- an atom's value -/
inductive AtV (kvs : KVs) : V → V → Prop where
  | int {i} : AtV kvs (.int i) (.int i)
  | str {x v} (h : valV kvs (.inr x) = some v) : AtV kvs (.str x) v
theorem GEnv.at {e : AEnv} {kvs : KVs} (q : GEnv R Z e kvs) {a : V} {av : AV} (h : aw e a = some av) : ∃ v, AtV kvs a v ∧ GV R Z av v := by
  cases a with
  | int i => cases h; exact ⟨_, .int, rfl⟩
  | str x => obtain ⟨v, h1, h2⟩ := q.v x av h; exact ⟨v, .str h1, h2⟩
  | _ => cases h
theorem WEnv.at {K : PySem.W.Frag} {g : Pg} {e : AEnv} {kvs : KVs} (q : WEnv K Z g e kvs) {a : V} {av : AV} (h : aw e a = some av) : ∃ v, AtV kvs a v ∧ WV K Z g av v := GEnv.at q h
end
section
variable {P : Program} {w : World} {K : PySem.W.Frag} {mg : Str → Option Value} {base : Heap}
/-! ### Hold -/
def spHoldInit : Sp := fun vs H Q _ => ∃ (Z : Hp) (L : Lx) (me dx : Addr) (n v : V), vs = [.ref me, n, v] ∧ SH Z ((me, cHold.ob K dx []) :: L) H ∧ ∀ H1, SH Z ((me, cHold.ob K dx [n, v]) :: L) H1 → Q .non H1
theorem ok_Hold_init (T : Tx K mg) : Mak P w K mg base 1 cHold ["self", "number", "held"] (spHoldInit (K := K)) := by
  refine mk_mak (c := cHold) (F_Hold_init T) (g_Hold T) (k_Hold T) sc_Hold_init (fun _ _ _ _ _ _ us hl => match us, hl with | [_, _, _], _ => rfl) ?len ?body
  case len =>
    rintro vs H Q E ⟨Z, L, me, dx, n, v, rfl, _⟩
    rfl
  case body =>
    rintro cdv A outer s H vs Q E hr ⟨Z, L, me, dx, n, v, rfl, S, q⟩
    refine ⟨_, (pss_cons (ps_atK (K := K) (c := cHold) (i := 0) (ok_cHold T) (pv 0) (pv 1)) (pss_one (ps_atK (K := K) (c := cHold) (i := 1) (ok_cHold T) (pv 0) (pv 2)))), ?_⟩
    show (_ : TS) _ ([some _, some _, some _] : L2.St) _
    wtm_at "wp"
    exact q _ S
/-! ### summed_up -/
def spSummedUp : Sp := fun vs H Q _ => ∃ (Z : Hp) (L : Lx) (s : Str) (i j : Int), vs = [.str s, .int i, .int j] ∧ SH Z L H ∧ (-(2 ^ 62) < i ∧ i < 2 ^ 62) ∧ (-(2 ^ 62) < j ∧ j < 2 ^ 62) ∧ ∀ H1, SH Z L H1 → Q (.int (sumV s i j)) H1
theorem ok_summed_up (T : Tx K mg) : Cal P w K mg base 1 "summed_up" ["sign", "one", "other"] spSummedUp := by
  refine mk_cal (F_summed_up T) (g_summed_up T) sc_summed_up (fun _ _ _ _ _ _ us hl => match us, hl with | [_, _, _], _ => rfl) ?len ?body
  case len =>
    rintro vs H Q E ⟨Z, L, s, i, j, rfl, _⟩
    rfl
  case body =>
    rintro cdv A outer s H vs Q E hr ⟨Z, L, sg, i, j, rfl, S, h1, h2, q⟩
    obtain ⟨tM, hM⟩ := i_MODULUS T
    refine ⟨_, (pss_cons (ps_if (pt_cmpR op_eq (pv 0) pe_str (nomark _)) (pss_one (ps_ret (pe_op op_mod (pe_op op_add (pv 1) (pv 2)) (pe_glob (v := .int 1000000000) rfl hM ⟨_, rfl⟩)))) pss_nil) (pss_cons (ps_if (pt_cmpR op_eq (pv 0) pe_str (nomark _)) (pss_one (ps_ret (pe_op op_mod (pe_op op_sub (pv 1) (pv 2)) (pe_glob (v := .int 1000000000) rfl hM ⟨_, rfl⟩)))) pss_nil) (pss_cons (ps_if (pt_cmpR op_eq (pv 0) pe_str (nomark _)) (pss_one (ps_ret (pe_op op_mod (pe_op op_mul (pv 1) (pv 2)) (pe_glob (v := .int 1000000000) rfl hM ⟨_, rfl⟩)))) pss_nil) (pss_cons (ps_if (pt_cmpR op_eq (pv 0) pe_str (nomark _)) (pss_one (ps_ret (pe_callTy call_intB (by rfl) (b_int T) (by decide +kernel) (pa_cons (pe_cmpR op_lt (pv 1) (pv 2) (nomark _)) pa_nil)))) pss_nil) (pss_one (ps_ret (pe_callTy call_intB (by rfl) (b_int T) (by decide +kernel) (pa_cons (pe_cmpR op_eq (pv 1) (pv 2) (nomark _)) pa_nil)))))))), ?_⟩
    show (_ : TS) _ ([some _, some _, some _] : L2.St) _
    have st : ∀ {a b : Str}, a ≠ b → decide (V.str a = V.str b) = false := fun h => decide_eq_false fun z => h (V.str.inj z)
    have sy : ∀ {a b : Str}, a = b → decide (V.str a = V.str b) = true := fun h => decide_eq_true (by rw [h])
    unfold sumV at q
    wtm_at "wp"
    by_cases e1 : sg = "+"
    · refine if_T (sy e1) ?_
      rw [if_pos e1] at q
      wtm_at "wp"
      refine k_I (by decide) ?_
      exact q _ S
    refine if_F (st e1) ?_
    rw [if_neg e1] at q
    wtm_at "wp"
    by_cases e2 : sg = "-"
    · refine if_T (sy e2) ?_
      rw [if_pos e2] at q
      wtm_at "wp"
      refine k_I (by decide) ?_
      exact q _ S
    refine if_F (st e2) ?_
    rw [if_neg e2] at q
    wtm_at "wp"
    by_cases e3 : sg = "*"
    · refine if_T (sy e3) ?_
      rw [if_pos e3] at q
      wtm_at "wp"
      refine k_I (.inl (by omega)) ?_
      wtm_at "wp"
      refine k_I (by decide) ?_
      exact q _ S
    refine if_F (st e3) ?_
    rw [if_neg e3] at q
    wtm_at "wp"
    by_cases e4 : sg = "<"
    · refine if_T (sy e4) ?_
      rw [if_pos e4] at q
      wtm_at "wp"
      rw [show (if decide (i < j) = true then (1 : Int) else 0) = if i < j then 1 else 0 by simp]
      exact q _ S
    refine if_F (st e4) ?_
    rw [if_neg e4] at q
    wtm_at "wp"
    rw [show (if decide (V.int i = V.int j) = true then (1 : Int) else 0) = if i = j then 1 else 0 by simp]
    exact q _ S
def spWorth : Sp := fun vs H Q _ => ∃ (Z : Hp) (L : Lx) (nm : Addr) (kvs : KVs) (a v : V), vs = [.ref nm, a] ∧ SH Z L H ∧ Z nm = some (.dK kvs) ∧ AtV kvs a v ∧ ∀ H1, SH Z L H1 → Q v H1
theorem ok_worth (T : Tx K mg) : Cal P w K mg base 1 "worth" ["names", "atom"] spWorth := by
  refine mk_cal (F_worth T) (g_worth T) sc_worth (fun _ _ _ _ _ _ us hl => match us, hl with | [_, _], _ => rfl) ?len ?body
  case len =>
    rintro vs H Q E ⟨Z, L, nm, kvs, a, v, rfl, _⟩
    rfl
  case body =>
    rintro cdv A outer s H vs Q E hr ⟨Z, L, nm, kvs, a, v, rfl, S, hn, ha, q⟩
    refine ⟨_, (pss_cons (ps_if (pt_tru (K := K) (pe_callB (call_isiK (K := K)) (by rfl) (b_isinstance T) (by decide +kernel) (pa_cons (pv 1) (pa_cons (pe_bltn (v := .ty "str") (by rfl) (b_str T) (by decide +kernel) rfl) pa_nil))) (by intro _; rfl)) (pss_one (ps_ret (pe_dget (hu_of hr) (pv 0) (pv 1) (fun _ _ => rfl)))) pss_nil) (pss_one (ps_ret (pv 1)))), ?_⟩
    show (_ : TS) _ ([some _, some _] : L2.St) _
    cases ha with
    | int =>
      wtm_at "wp"
      refine k_isiStrI (Z := Z) (L := L) ?_
      wtm_at "wp"
      exact q _ S
    | @str x v h =>
      wtm_at "wp"
      refine k_isiStr (Z := Z) (L := L) ?_
      wtm_at "wp"
      exact q _ S
def spWithName : Sp := fun vs H Q _ => ∃ (Z : Hp) (L : Lx) (nm : Addr) (kvs : KVs) (x : Str) (v : V), vs = [.ref nm, .str x, v] ∧ SH Z L H ∧ Z nm = some (.dK kvs) ∧ kvs.length ≤ 1000 ∧ ∀ r Z1 H1, Same Z Z1 → SH Z1 L H1 → Z1 r = some (.dK (putK kvs (.inr x) v)) → Q (.ref r) H1
theorem ok_with_name (T : Tx K mg) : Cal P w K mg base 1 "with_name" ["names", "x", "thing"] spWithName := by
  refine mk_cal (F_with_name T) (g_with_name T) sc_with_name (fun _ _ _ _ _ _ us hl => match us, hl with | [_, _, _], _ => rfl) ?len ?body
  case len =>
    rintro vs H Q E ⟨Z, L, nm, kvs, x, v, rfl, _⟩
    rfl
  case body =>
    rintro cdv A outer s H vs Q E hr ⟨Z, L, nm, kvs, x, v, rfl, S, hn, hl, q⟩
    refine ⟨_, (pss_cons (ps_set (i := 3) sc_with_name.nd rfl (Or.inl rfl) (pe_callTy call_dictOf (by rfl) (b_dict T) (by decide +kernel) (pa_cons (pv 0) pa_nil))) (pss_cons (ps_dput (hu_of hr) (pv 3) (pv 1) (pv 2) rfl) (pss_one (ps_ret (pv 3))))), ?_⟩
    show (_ : TS) _ ([some _, some _, some _, none] : L2.St) _
    wtm_at "wp"
    obtain ⟨S, hs, hz⟩ := S.pick (by wtm_at "pick")
    exact q _ _ _ hs S hz
/-! ### as_told: ints only -/
def spAsTold : Sp := fun vs H Q _ => ∃ (Z : Hp) (L : Lx) (i : Int), vs = [.int i] ∧ SH Z L H ∧ ∀ H1, SH Z L H1 → Q (.int i) H1
def spHeardBy : Sp := fun vs H Q _ => ∃ (Z : Hp) (L : Lx) (g : Pg) (a : PgA) (pg : Addr), vs = [.ref pg] ∧ SH Z L H ∧ ProgAt Z g a pg ∧ ∀ r l Z1 H1, Same Z Z1 → SH Z1 L H1 → Z1 r = some (.dK [(.inr g.K, .ref l)]) → Z1 l = some (.lst [.str g.q]) → Q (.ref r) H1
theorem ok_heard_by (T : Tx K mg) : Cal P w K mg base 1 "heard_by" ["program"] spHeardBy := by
  refine mk_cal (F_heard_by T) (g_heard_by T) sc_heard_by (fun _ _ _ _ _ _ us hl => match us, hl with | [_], _ => rfl) ?len ?body
  case len =>
    rintro vs H Q E ⟨Z, L, g, a, pg, rfl, _⟩
    rfl
  case body =>
    rintro cdv A outer s H vs Q E hr ⟨Z, L, g, a, pg, rfl, S, A1, q⟩
    refine ⟨_, (pss_cons (ps_set (i := 1) sc_heard_by.nd rfl (Or.inl rfl) pe_dnewK) (pss_cons (ps_for PassesOwn.never rfl (pi_tupK (K := K) (pe_ix (ix_anyK (K := K)) (pv 0) pe_int (fun _ _ => rfl))) (pg_name (i := 2) sc_heard_by.nd rfl (Or.inl rfl)) (pss_one (ps_dput (hu_of hr) (pv 1) (pe_ix (ix_anyK (K := K)) (pv 2) pe_int (fun _ _ => rfl)) (pe_lc (own := [("hear", 3)]) (g := gName 3) (tt := tYes) (by rfl) sc_heard_by.nd (pi_tupK (K := K) (pe_ix (ix_anyK (K := K)) (pv 2) pe_int (fun _ _ => rfl))) (blkOk_by (own := [("hear", 3)]) (N := ["program", "found", "keeper", "hear"]) (sc := defScope s_heard_by) (by decide +kernel)) (fun _ _ _ _ _ => (pg_name (i := 3) sc_heard_by.nd rfl (Or.inl rfl))) (fun _ _ _ _ _ => pts_nil) (fun _ _ _ _ _ => (pe_ix (ix_anyK (K := K)) (pv 3) pe_int (fun _ _ => rfl)))) rfl))) (pss_one (ps_ret (pv 1))))), ?_⟩
    show (_ : TS) _ ([some _, none, none, none] : L2.St) _
    obtain ⟨h0, h1, h2, h3, h4, h5, h6, h7, h8, h9, h10, h11, h12, bh, be, b0, b1, ne⟩ := A1
    wtm_at "wp"
    wtm_at "un"
    wtm_at "wp"
    wtm_at "un"
    wtm_at "wp"
    obtain ⟨S2, hs, hz⟩ := SH.frzs (M := [_, _]) S
    exact q _ _ _ _ hs S2 (hz _ _ (by wtm_at "mem")) (hz _ _ (by wtm_at "mem"))
end
end AL
/-! C3 -/
namespace AL
open PySem PySem.Spec PyProof.Rows L2
section
variable {P : Program} {w : World} {K : PySem.W.Frag} {mg : Str → Option Value} {base : Heap}
theorem exB_of (T : Tx K mg) {t : String} {y : Str} {b : Bool} (h : exB K = true → isiB K t y b = true) : PySem.W.kitOne K (.type t) (.ref (He.ga K y)) = some b := of_decide_eq_true (h T.ex)
theorem ok_as_told (T : Tx K mg) : Cal P w K mg base 1 "as_told" ["thing"] spAsTold := by
  refine mk_cal (F_as_told T) (g_as_told T) sc_as_told (fun _ _ _ _ _ _ us hl => match us, hl with | [_], _ => rfl) ?len ?body
  case len =>
    rintro vs H Q E ⟨Z, L, i, rfl, _⟩
    rfl
  case body =>
    rintro cdv A outer s H vs Q E hr ⟨Z, L, i, rfl, S, q⟩
    refine ⟨_, (pss_cons (ps_if (pt_tru (K := K) (pe_callB (call_isiK (K := K)) (by rfl) (b_isinstance T) (by decide +kernel) (pa_cons (pv 0) (pa_cons (pe_glob (v := .ref (He.ga K "Hold")) rfl (g_Hold T) rfl) pa_nil))) (by intro _; rfl)) (pss_one ps_never) pss_nil) (pss_cons (ps_if (pt_tru (K := K) (pe_callB (call_isiK (K := K)) (by rfl) (b_isinstance T) (by decide +kernel) (pa_cons (pv 0) (pa_cons (pe_bltn (v := .ty "tuple") (by rfl) (b_tuple T) (by decide +kernel) rfl) pa_nil))) (by intro _; rfl)) (pss_one ps_never) pss_nil) (pss_one (ps_ret (pv 0))))), ?_⟩
    show (_ : TS) _ ([some _, none] : L2.St) _
    wtm_at "wp"
    refine k_isi (.own _) (.base (.int i)) (exB_of T (b := false) (y := "Hold") (by intro h; simp only [exB, Bool.and_eq_true] at h; simp only [h])) ?_
    wtm_at "wp"
    refine k_isi (.ty "tuple") (.base (.int i)) (b := false) (kit_ty (by decide +kernel)) ?_
    wtm_at "wp"
    exact q _ S
/-! ### made -/
def spMade : Sp := fun vs H Q _ => ∃ (R : HRel) (Z : Hp) (L : Lx) (b : Bd) (v : V) (nm : Addr) (kvs : KVs) (env : AEnv) (x : Str) (av : AV), vs = [v, .ref nm] ∧ SH Z L H ∧ BdAt Z b v ∧ Z nm = some (.dK kvs) ∧ GEnv R Z env kvs ∧ AMade env b x av ∧
  ∀ r Z1 H1, Same Z Z1 → SH Z1 L H1 → GV R Z1 av r → Q r H1
theorem ok_made (T : Tx K mg) : Cal P w K mg base 2 "made" ["piece", "names"] spMade := by
  refine mk_cal (F_made T) (g_made T) sc_made (fun _ _ _ _ _ _ us hl => match us, hl with | [_, _], _ => rfl) ?len ?body
  case len =>
    rintro vs H Q E ⟨R, Z, L, b, v, nm, kvs, env, x, av, rfl, _⟩
    rfl
  case body =>
    rintro cdv A outer s H vs Q E hr ⟨R, Z, L, b, v, nm, kvs, env, x, av, rfl, S, hb, hn, he, hm, q⟩
    refine ⟨_, (pss_cons (ps_if (pt_cmpR op_eq (pe_ix (ix_anyK (K := K)) (pv 0) pe_int (fun _ _ => rfl)) pe_str (nomark _)) (pss_one (ps_ret (pe_cal (ok_worth T) hr (pa_cons (pv 1) (pa_cons (pe_ix (ix_anyK (K := K)) (pv 0) pe_int (fun _ _ => rfl)) pa_nil))))) pss_nil) (pss_cons (ps_if (pt_cmpR op_eq (pe_ix (ix_anyK (K := K)) (pv 0) pe_int (fun _ _ => rfl)) pe_str (nomark _)) (pss_one (ps_ret (pe_cal (ok_summed_up T) hr (pa_cons (pe_ix (ix_anyK (K := K)) (pv 0) pe_int (fun _ _ => rfl)) (pa_cons (pe_cal (ok_worth T) hr (pa_cons (pv 1) (pa_cons (pe_ix (ix_anyK (K := K)) (pv 0) pe_int (fun _ _ => rfl)) pa_nil))) (pa_cons (pe_cal (ok_worth T) hr (pa_cons (pv 1) (pa_cons (pe_ix (ix_anyK (K := K)) (pv 0) pe_int (fun _ _ => rfl)) pa_nil))) pa_nil)))))) pss_nil) (pss_cons (ps_if (pt_cmpR op_eq (pe_ix (ix_anyK (K := K)) (pv 0) pe_int (fun _ _ => rfl)) pe_str (nomark _)) (pss_one (ps_ret (pe_op (op_catAK (K := K)) (pe_tup (pa_cons (pe_cal (ok_worth T) hr (pa_cons (pv 1) (pa_cons (pe_ix (ix_anyK (K := K)) (pv 0) pe_int (fun _ _ => rfl)) pa_nil))) pa_nil)) (pe_cal (ok_worth T) hr (pa_cons (pv 1) (pa_cons (pe_ix (ix_anyK (K := K)) (pv 0) pe_int (fun _ _ => rfl)) pa_nil)))))) pss_nil) (pss_cons (ps_if (pt_cmpR op_eq (pe_ix (ix_anyK (K := K)) (pv 0) pe_int (fun _ _ => rfl)) pe_str (nomark _)) (pss_one (ps_ret (pe_op (op_catAK (K := K)) (pe_cal (ok_worth T) hr (pa_cons (pv 1) (pa_cons (pe_ix (ix_anyK (K := K)) (pv 0) pe_int (fun _ _ => rfl)) pa_nil))) (pe_tup (pa_cons (pe_cal (ok_worth T) hr (pa_cons (pv 1) (pa_cons (pe_ix (ix_anyK (K := K)) (pv 0) pe_int (fun _ _ => rfl)) pa_nil))) pa_nil))))) pss_nil) (pss_one (ps_ret (pe_tup pa_nil))))))), ?_⟩
    show (_ : TS) _ ([some _, some _] : L2.St) _
    cases hm with
    | @empty _ k nx =>
      obtain ⟨p, w1, rfl, hp, h1⟩ := hb
      wtm_at "wp"
      obtain ⟨S, hs, hz⟩ := S.pick (by wtm_at "pick")
      exact q _ _ _ hs S ⟨_, _, rfl, hz, .nil⟩
    | @sum _ sg a b nx i j ha hb2 h1 h2 =>
      obtain ⟨p, w1, rfl, hp, hnx⟩ := hb
      obtain ⟨va, ka, ra⟩ := he.at ha
      obtain ⟨vb, kb, rb⟩ := he.at hb2
      obtain rfl : va = .int i := ra
      obtain rfl : vb = .int j := rb
      wtm_at "wp"
      refine ⟨Z, _, nm, kvs, a, _, rfl, S, hn, ka, fun H S => ?_⟩
      wtm_at "wp"
      refine ⟨Z, _, nm, kvs, b, _, rfl, S, hn, kb, fun H S => ?_⟩
      wtm_at "wp"
      refine ⟨Z, _, sg, i, j, rfl, S, h1, h2, fun H S => ?_⟩
      exact q _ _ _ (Same.refl _) S rfl
    | @put _ a r nx h hs ha hr hl =>
      obtain ⟨p, w1, rfl, hp, hnx⟩ := hb
      obtain ⟨va, ka, ra⟩ := he.at ha
      obtain ⟨vr, kr, pr, ws, rfl, hpr, hws⟩ := he.at hr
      have hwl : hs.length = ws.length := hws.length
      wtm_at "wp"
      refine ⟨Z, _, nm, kvs, a, _, rfl, S, hn, ka, fun H S => ?_⟩
      wtm_at "wp"
      refine ⟨Z, _, nm, kvs, r, _, rfl, S, hn, kr, fun H S => ?_⟩
      wtm_at "wp"
      refine k_catA S (by wtm_at "in") (.z hpr) (le_line (by rw [List.length_cons, List.length_nil]; omega)) (fun e => by cases e) (fun e => ?_) (fun p1 H S => ?_)
      · subst e
        obtain ⟨S, hs1, hz⟩ := S.pick (by wtm_at "pick")
        cases hws
        exact q _ _ _ hs1 S ⟨_, _, rfl, hz, .cons (R.mono hs1 ra) .nil⟩
      · obtain ⟨S, hs1, hz⟩ := S.pick (by wtm_at "pick")
        exact q _ _ _ hs1 (S.sub (by wtm_at "sub")) ⟨_, _, rfl, hz, .cons (R.mono hs1 ra) (Paired.mapP hws fun _ _ z => R.mono hs1 z)⟩
    | @last _ r a nx h hs hr ha hl =>
      obtain ⟨p, w1, rfl, hp, hnx⟩ := hb
      obtain ⟨va, ka, ra⟩ := he.at ha
      obtain ⟨vr, kr, pr, ws, rfl, hpr, hws⟩ := he.at hr
      have hwl : hs.length = ws.length := hws.length
      wtm_at "wp"
      refine ⟨Z, _, nm, kvs, r, _, rfl, S, hn, kr, fun H S => ?_⟩
      wtm_at "wp"
      refine ⟨Z, _, nm, kvs, a, _, rfl, S, hn, ka, fun H S => ?_⟩
      wtm_at "wp"
      refine k_catA S (.z hpr) (by wtm_at "in") (le_line (by rw [List.length_cons, List.length_nil]; omega)) (fun e => ?_) (fun e => by cases e) (fun p1 H S => ?_)
      · subst e
        obtain ⟨S, hs1, hz⟩ := S.pick (by wtm_at "pick")
        cases hws
        exact q _ _ _ hs1 S ⟨_, _, rfl, hz, .cons (R.mono hs1 ra) .nil⟩
      · obtain ⟨S, hs1, hz⟩ := S.pick (by wtm_at "pick")
        exact q _ _ _ hs1 (S.sub (by wtm_at "sub")) ⟨_, _, rfl, hz, Paired.app (Paired.mapP hws fun _ _ z => R.mono hs1 z) (.cons (R.mono hs1 ra) .nil)⟩
/-! ### the walk's frames -/
def WF (K : PySem.W.Frag) (Z : Hp) (g : Pg) (f : AF) (v : V) : Prop := ∃ p pa nm kvs, v = .ref p ∧ Z p = some (.tup [.str "part", .ref pa, .int (f.n : Nat), .ref nm]) ∧ Z pa = some (.tup (f.t.tup g)) ∧ Z nm = some (.dK kvs) ∧ WEnv K Z g f.env kvs
theorem WF.mono {Z Z1 : Hp} {g : Pg} (hs : Same Z Z1) {f : AF} {v : V} (h : WF K Z g f v) : WF K Z1 g f v := by
  obtain ⟨p, pa, nm, kvs, e, h1, h2, h3, h4⟩ := h
  exact ⟨p, pa, nm, kvs, e, hs _ _ h1, hs _ _ h2, hs _ _ h3, h4.mono hs⟩
/-! ### Walk.begin -/
def envOf (own : List Str) (avs : List AV) : AEnv := (own.zip avs).reverse
def spWalkBegin : Sp := fun vs H Q _ => ∃ (Z : Hp) (L : Lx) (g : Pg) (a : PgA) (pg me dx st th pa : Addr) (li he tk hd fin no : V) (stv ths : List V) (t : Pt) (avs : List AV), vs = [.ref me, .ref pa, .ref th] ∧
  SH Z ((me, cWalk.ob K dx [.ref pg, li, he, .ref st, tk, hd, fin, no]) :: (st, .lst stv) :: (th, .lst ths) :: L) H ∧ ProgAt Z g a pg ∧ Z pa = some (.tup (t.tup g)) ∧ stv.length ≤ 5000 ∧ Paired (WV K Z g) avs ths ∧ avs.length = (t.own g).length ∧
  ∀ topv Z1 H1, Same Z Z1 → SH Z1 ((me, cWalk.ob K dx [.ref pg, li, he, .ref st, tk, hd, fin, no]) :: (st, .lst (stv ++ [topv])) :: L) H1 → WF K Z1 g ⟨t, 0, envOf (t.own g) avs⟩ topv → Q .non H1
theorem ok_Walk_begin (T : Tx K mg) : Met P w K mg base 4 cWalk "begin" ["self", "part", "things"] (spWalkBegin (K := K)) := by
  refine mk_met (c := cWalk) (F_Walk_begin T) (m_Walk_begin T) sc_Walk_begin (fun _ _ _ _ _ _ us hl => match us, hl with | [_, _, _], _ => rfl) ?len ?body
  case len =>
    rintro vs H Q E ⟨Z, L, g, a, pg, me, dx, st, th, pa, li, he, tk, hd, fin, no, stv, ths, t, avs, rfl, _⟩
    rfl
  case body =>
    rintro cdv A outer s H vs Q E hr ⟨Z, L, g, a, pg, me, dx, st, th, pa, li, he, tk, hd, fin, no, stv, ths, t, avs, rfl, S, A1, hpa, hl, hp, hal, q⟩
    refine ⟨_, (pss_cons (ps_set (i := 3) sc_Walk_begin.nd rfl (Or.inl rfl) pe_dnewK) (pss_cons (ps_for PassesOwn.never rfl (pi_zipK (K := K) (by rfl) (b_zip T) (pa_cons (pe_cal (ok_begun_with T) hr (pa_cons (pe_atK (K := K) (c := cWalk) (i := 0) (ok_cWalk T) (pv 0)) (pa_cons (pv 1) pa_nil))) (pa_cons (pv 2) pa_nil))) (pg_tupK (K := K) (by rfl) (pgs_cons (pg_name (i := 4) sc_Walk_begin.nd rfl (Or.inl rfl)) (pgs_cons (pg_name (i := 5) sc_Walk_begin.nd rfl (Or.inl rfl)) pgs_nil))) (pss_one (ps_dput (hu_of hr) (pv 3) (pe_ix (ix_anyK (K := K)) (pv 4) pe_int (fun _ _ => rfl)) (pv 5) rfl))) (pss_one (ps_expr (pe_bmK (K := K) (pe_bm PySem.F.plainAttrs_list PySem.F.slot_list_append PySem.F.type_list_append mt_append (pe_atK (K := K) (c := cWalk) (i := 3) (ok_cWalk T) (pv 0)) (pa_cons (pe_tup (pa_cons pe_str (pa_cons (pv 1) (pa_cons pe_int (pa_cons (pv 3) pa_nil))))) pa_nil))))))), ?_⟩
    show (_ : TS) _ ([some _, some _, some _, none, none, none] : L2.St) _
    wtm_at "wp"
    rename Addr => nm
    refine ⟨Z, _, g, a, pg, t, _, rfl, S, A1, ⟨pa, rfl, hpa⟩, fun r Z1 H ws hs S hr hw => ?_⟩
    replace hp := Paired.mapP hp fun _ _ z => WV.mono hs z
    wtm_at "wp"
    cases t with
    | en =>
      obtain ⟨_, _⟩ | ⟨⟨t0, k0, rfl, ht0⟩, _ | ⟨⟨t1, k1, rfl, ht1⟩, _ | _⟩⟩ := hw
      match avs, hal, hp with
      | [a0, a1], _, .cons p0 (.cons p1 .nil) =>
        wtm_at "un"
        simp only [List.zip_cons_cons, List.zip_nil_right, List.zip_nil_left]
        wtm_at "wp"
        rename Addr => tp
        obtain ⟨S, hs1, hz1⟩ := S.pick (p := nm) (by wtm_at "pick")
        obtain ⟨S, hs2, hz2⟩ := S.pick (p := tp) (by wtm_at "pick")
        refine q _ _ _ ((hs.trans hs1).trans hs2) (S.sel (by wtm_at "sel")) ⟨tp, pa, nm, _, rfl, hz2, hs2 _ _ (hs1 _ _ (hs _ _ hpa)), hs2 _ _ hz1, ?_⟩
        exact ((WEnv.nil.put p0).put p1).mono (hs1.trans hs2)
    | hr =>
      obtain ⟨_, _⟩ | ⟨⟨t0, k0, rfl, ht0⟩, _ | ⟨⟨t1, k1, rfl, ht1⟩, _ | ⟨⟨t2, k2, rfl, ht2⟩, _ | _⟩⟩⟩ := hw
      match avs, hal, hp with
      | [a0, a1, a2], _, .cons p0 (.cons p1 (.cons p2 .nil)) =>
        wtm_at "un"
        simp only [List.zip_cons_cons, List.zip_nil_right, List.zip_nil_left]
        wtm_at "wp"
        rename Addr => tp
        obtain ⟨S, hs1, hz1⟩ := S.pick (p := nm) (by wtm_at "pick")
        obtain ⟨S, hs2, hz2⟩ := S.pick (p := tp) (by wtm_at "pick")
        refine q _ _ _ ((hs.trans hs1).trans hs2) (S.sel (by wtm_at "sel")) ⟨tp, pa, nm, _, rfl, hz2, hs2 _ _ (hs1 _ _ (hs _ _ hpa)), hs2 _ _ hz1, ?_⟩
        exact (((WEnv.nil.put p0).put p1).put p2).mono (hs1.trans hs2)
    | d0 =>
      cases hw
      match avs, hal, hp with
      | [], _, .nil =>
        wtm_at "un"
        simp only [List.zip_cons_cons, List.zip_nil_right, List.zip_nil_left]
        wtm_at "wp"
        rename Addr => tp
        obtain ⟨S, hs1, hz1⟩ := S.pick (p := nm) (by wtm_at "pick")
        obtain ⟨S, hs2, hz2⟩ := S.pick (p := tp) (by wtm_at "pick")
        exact q _ _ _ ((hs.trans hs1).trans hs2) (S.sel (by wtm_at "sel")) ⟨tp, pa, nm, _, rfl, hz2, hs2 _ _ (hs1 _ _ (hs _ _ hpa)), hs2 _ _ hz1, WEnv.nil⟩
    | d1 =>
      cases hw
      match avs, hal, hp with
      | [], _, .nil =>
        wtm_at "un"
        simp only [List.zip_cons_cons, List.zip_nil_right, List.zip_nil_left]
        wtm_at "wp"
        rename Addr => tp
        obtain ⟨S, hs1, hz1⟩ := S.pick (p := nm) (by wtm_at "pick")
        obtain ⟨S, hs2, hz2⟩ := S.pick (p := tp) (by wtm_at "pick")
        exact q _ _ _ ((hs.trans hs1).trans hs2) (S.sel (by wtm_at "sel")) ⟨tp, pa, nm, _, rfl, hz2, hs2 _ _ (hs1 _ _ (hs _ _ hpa)), hs2 _ _ hz1, WEnv.nil⟩
end
end AL
/-! C4 -/
namespace AL
open PySem PySem.Spec PyProof.Rows L2
/-- a piece that binds what it waits for -/
inductive BdX : Bd → Str → Prop where
  | keep {x k a f gs nx} : BdX (.keep x k a f gs nx) x
  | go {x h a b nx} : BdX (.go x h a b nx) x
  | ask {x q a nx} : BdX (.ask x q a nx) x
theorem BdX.at {Z : Hp} {b : Bd} {x : Str} {v : V} (h : BdX b x) (hb : BdAt Z b v) : ∃ p wd xs, v = .ref p ∧ Z p = some (.tup (wd :: .str x :: xs)) := by
  cases h with
  | keep => obtain ⟨p, w1, e, h, _⟩ := hb; exact ⟨p, _, _, e, h⟩
  | go => obtain ⟨p, w1, e, h, _⟩ := hb; exact ⟨p, _, _, e, h⟩
  | ask => obtain ⟨p, w1, e, h, _⟩ := hb; exact ⟨p, _, _, e, h⟩
def Ev.tup (g : Pg) : Ev → List V
  | .tell i => [.str "tell", .int i]
  | .keep => [.str "keep", .str g.K]
  | .ask => [.str "ask", .str g.q, .int 0]
  | .go n => [.str "go", .int (n : Nat)]
  | .ended => [.str "ended", .str g.K]
def EvAt (Z : Hp) (g : Pg) (e : Ev) (v : V) : Prop := ∃ p, v = .ref p ∧ Z p = some (.tup (e.tup g))
theorem EvAt.mono {Z Z1 : Hp} (hs : Same Z Z1) {g : Pg} {e : Ev} {v : V} (h : EvAt Z g e v) : EvAt Z1 g e v := by
  obtain ⟨p, h1, h2⟩ := h
  exact ⟨p, h1, hs _ _ h2⟩
section
variable {P : Program} {w : World} {K : PySem.W.Frag} {mg : Str → Option Value} {base : Heap}
/-! ### Walk.bind -/
def spWalkBind : Sp := fun vs H Q _ => ∃ (Z : Hp) (L : Lx) (g : Pg) (me dx st li : Addr) (pg he tk hd fin no v pv : V) (bs : List V) (f : AF) (b : Bd) (x : Str) (av : AV), vs = [.ref me, v] ∧
  SH Z ((me, cWalk.ob K dx [pg, .ref li, he, .ref st, tk, hd, fin, no]) :: (st, .lst (bs ++ [pv])) :: L) H ∧ ListedAt Z g li ∧ WF K Z g f pv ∧ Pt.pc g f.t f.n = some b ∧ BdX b x ∧ WV K Z g av v ∧ f.env.length ≤ 1000 ∧ bs.length ≤ 5000 ∧
  ∀ pv' Z1 H1, Same Z Z1 → SH Z1 ((me, cWalk.ob K dx [pg, .ref li, he, .ref st, tk, hd, fin, no]) :: (st, .lst (bs ++ [pv'])) :: L) H1 → WF K Z1 g ⟨f.t, f.n + 1, (x, av) :: f.env⟩ pv' → Q .non H1
theorem ok_Walk_bind (T : Tx K mg) : Met P w K mg base 2 cWalk "bind" ["self", "thing"] (spWalkBind (K := K)) := by
  refine mk_met (c := cWalk) (F_Walk_bind T) (m_Walk_bind T) sc_Walk_bind (fun _ _ _ _ _ _ us hl => match us, hl with | [_, _], _ => rfl) ?len ?body
  case len =>
    rintro vs H Q E ⟨Z, L, g, me, dx, st, li, pg, he, tk, hd, fin, no, v, pv, bs, f, b, x, av, rfl, _⟩
    rfl
  case body =>
    rintro cdv A outer s H vs Q E hr ⟨Z, L, g, me, dx, st, li, pg, he, tk, hd, fin, no, v, pv, bs, f, b, x, av, rfl, S, hli, ⟨p, pa, nm, kvs, rfl, hp, hpa, hnm, henv⟩, hpc, hbx, hv, hle, hbl, q⟩
    refine ⟨_, (pss_cons (ps_asg (pe_bm0K (K := K) (pe_bm0 PySem.F.plainAttrs_list PySem.F.slot_list_pop PySem.F.type_list_pop mt_pop (pe_atK (K := K) (c := cWalk) (i := 3) (ok_cWalk T) (pv 0)))) (pg_tupK (K := K) (by rfl) (pgs_cons (pg_name (i := 2) sc_Walk_bind.nd rfl (Or.inl rfl)) (pgs_cons (pg_name (i := 3) sc_Walk_bind.nd rfl (Or.inl rfl)) (pgs_cons (pg_name (i := 4) sc_Walk_bind.nd rfl (Or.inl rfl)) (pgs_cons (pg_name (i := 5) sc_Walk_bind.nd rfl (Or.inl rfl)) pgs_nil)))))) (pss_one (ps_expr (pe_bmK (K := K) (pe_bm PySem.F.plainAttrs_list PySem.F.slot_list_append PySem.F.type_list_append mt_append (pe_atK (K := K) (c := cWalk) (i := 3) (ok_cWalk T) (pv 0)) (pa_cons (pe_tup (pa_cons (pv 2) (pa_cons (pv 3) (pa_cons (pe_op op_add (pv 4) pe_int) (pa_cons (pe_cal (ok_with_name T) hr (pa_cons (pv 5) (pa_cons (pe_ix (ix_anyK (K := K)) (pe_ix (ix_anyK (K := K)) (pe_dget (hu_of hr) (pe_atK (K := K) (c := cWalk) (i := 1) (ok_cWalk T) (pv 0)) (pv 3) (fun _ _ => rfl)) (pv 4) (fun _ _ => rfl)) pe_int (fun _ _ => rfl)) (pa_cons (pv 1) pa_nil)))) pa_nil))))) pa_nil)))))), ?_⟩
    show (_ : TS) _ ([some _, some _, none, none, none, none] : L2.St) _
    obtain ⟨lkv, hlk, hall⟩ := hli
    obtain ⟨l, ws, hl1, hl2, hl3⟩ := hall f.t
    obtain ⟨pw, hw1, hw2⟩ := Paired.get hl3 hpc
    obtain ⟨pp, wd, xs, rfl, hpp⟩ := hbx.at hw2
    have hkl := henv.len
    wtm_at "wp"
    refine k_dgetP S (.z hlk) (.z hpa) hl1 ?_
    wtm_at "wp"
    refine ⟨Z, _, nm, kvs, x, v, rfl, S, hnm, by omega, fun r Z1 H hs S hr => ?_⟩
    wtm_at "wp"
    obtain ⟨S, hs1, hz1⟩ := S.pick (by wtm_at "pick")
    refine q _ _ _ (hs.trans hs1) S ⟨_, pa, r, _, rfl, hz1, hs1 _ _ (hs _ _ hpa), hs1 _ _ hr, ?_⟩
    exact ((henv.mono hs).put (hv.mono hs)).mono hs1
/-! ### Walk.give -/
def spWalkGive : Sp := fun vs H Q _ => ∃ (Z : Hp) (L : Lx) (g : Pg) (a : PgA) (pg me dx st no li : Addr) (he tk hd fin : V) (bs nov : List V) (low : List AF) (note : Option (List Hd)) (i : Int), vs = [.ref me, .int i] ∧
  SH Z ((me, cWalk.ob K dx [.ref pg, .ref li, he, .ref st, tk, hd, fin, .ref no]) :: (st, .lst bs) :: (no, .lst nov) :: L) H ∧ ProgAt Z g a pg ∧ ListedAt Z g li ∧ bs.length ≤ 5000 ∧ nov.length ≤ 5000 ∧
  ((∃ hs b0 kp nv, note = some hs ∧ bs = b0 ++ [.ref kp] ∧ Z kp = some (.tup [.str "keep", .str g.K, nv]) ∧ WV K Z g (.row hs) nv ∧
      ∀ topv ev Z1 H1, Same Z Z1 → SH Z1 ((me, cWalk.ob K dx [.ref pg, .ref li, he, .ref st, tk, hd, fin, .ref no]) :: (st, .lst (b0 ++ [topv])) :: (no, .lst (nov ++ [ev])) :: L) H1 → EvAt Z1 g .ended ev → WF K Z1 g ⟨.en, 0, [(g.en, .row hs), (g.ex, .int i)]⟩ topv → Q .non H1) ∨
   (∃ f b x b0 fv, note = none ∧ bs = b0 ++ [fv] ∧ WF K Z g f fv ∧ Pt.pc g f.t f.n = some b ∧ BdX b x ∧ f.env.length ≤ 1000 ∧
      ∀ topv Z1 H1, Same Z Z1 → SH Z1 ((me, cWalk.ob K dx [.ref pg, .ref li, he, .ref st, tk, hd, fin, .ref no]) :: (st, .lst (b0 ++ [topv])) :: (no, .lst nov) :: L) H1 → WF K Z1 g ⟨f.t, f.n + 1, (x, .int i) :: f.env⟩ topv → Q .non H1) ∨
   (bs = [] ∧ ∀ fp Z1 H1, Same Z Z1 → SH Z1 ((me, cWalk.ob K dx [.ref pg, .ref li, he, .ref st, tk, hd, .ref fp, .ref no]) :: (st, .lst bs) :: (no, .lst nov) :: L) H1 → Z1 fp = some (.tup [.str "gave", .int i]) → Q .non H1))
theorem ok_Walk_give (T : Tx K mg) : Met P w K mg base 5 cWalk "give" ["self", "thing"] (spWalkGive (K := K)) := by
  refine mk_met (c := cWalk) (F_Walk_give T) (m_Walk_give T) sc_Walk_give (fun _ _ _ _ _ _ us hl => match us, hl with | [_, _], _ => rfl) ?len ?body
  case len =>
    rintro vs H Q E ⟨Z, L, g, a, pg, me, dx, st, no, li, he, tk, hd, fin, bs, nov, low, note, i, rfl, _⟩
    rfl
  case body =>
    rintro cdv A outer s H vs Q E hr ⟨Z, L, g, a, pg, me, dx, st, no, li, he, tk, hd, fin, bs, nov, low, note, i, rfl, S, A1, hli, hbl, hnl, hc⟩
    refine ⟨_, (pss_one (ps_if (pt_cmpR op_eq (pe_callB call_lenA (by rfl) (b_len T) (by decide +kernel) (pa_cons (pe_atK (K := K) (c := cWalk) (i := 3) (ok_cWalk T) (pv 0)) pa_nil)) pe_int (nomark _)) (pss_one (ps_atK (K := K) (c := cWalk) (i := 6) (ok_cWalk T) (pv 0) (pe_tup (pa_cons pe_str (pa_cons (pe_cal (ok_as_told T) hr (pa_cons (pv 1) pa_nil)) pa_nil))))) (pss_one (ps_if (pt_cmpR op_eq (pe_ix (ix_anyK (K := K)) (pe_ix (ix_anyK (K := K)) (pe_atK (K := K) (c := cWalk) (i := 3) (ok_cWalk T) (pv 0)) (pe_un un_neg pe_int) (fun _ _ => rfl)) pe_int (fun _ _ => rfl)) pe_str (nomark _)) (pss_one (ps_expr (pe_metK (K := K) (ok_cWalk T) (ok_Walk_bind T) hr (by decide +kernel) (pv 0) (pa_cons (pv 1) pa_nil)))) (pss_cons (ps_asg (pe_bm0K (K := K) (pe_bm0 PySem.F.plainAttrs_list PySem.F.slot_list_pop PySem.F.type_list_pop mt_pop (pe_atK (K := K) (c := cWalk) (i := 3) (ok_cWalk T) (pv 0)))) (pg_tupK (K := K) (by rfl) (pgs_cons (pg_name (i := 2) sc_Walk_give.nd rfl (Or.inl rfl)) (pgs_cons (pg_name (i := 3) sc_Walk_give.nd rfl (Or.inl rfl)) (pgs_cons (pg_name (i := 4) sc_Walk_give.nd rfl (Or.inl rfl)) pgs_nil))))) (pss_cons (ps_expr (pe_bmK (K := K) (pe_bm PySem.F.plainAttrs_list PySem.F.slot_list_append PySem.F.type_list_append mt_append (pe_atK (K := K) (c := cWalk) (i := 7) (ok_cWalk T) (pv 0)) (pa_cons (pe_tup (pa_cons pe_str (pa_cons (pv 3) pa_nil))) pa_nil)))) (pss_one (ps_expr (pe_metK (K := K) (ok_cWalk T) (ok_Walk_begin T) hr (by decide +kernel) (pv 0) (pa_cons (pe_tup (pa_cons pe_str (pa_cons (pv 3) pa_nil))) (pa_cons (pe_lst (pa_cons (pv 1) (pa_cons (pv 4) pa_nil))) pa_nil))))))))))), ?_⟩
    show (_ : TS) _ ([some _, some _, none, none, none] : L2.St) _
    rcases hc with ⟨hs, b0, kp, nv, rfl, rfl, hkp, hnv, q⟩ | ⟨f, b, x, b0, fv, rfl, rfl, hf, hpc, hbx, hle, q⟩ | ⟨rfl, q⟩
    · rw [List.length_append] at hbl
      wtm_at "wp"
      rename_i ap _ _ _ _ pt _ _
      obtain ⟨S, hs1, hz1⟩ := S.pick (p := ap) (by wtm_at "pick")
      obtain ⟨S, hs2, hz2⟩ := S.pick (p := pt) (by wtm_at "pick")
      have hsA := hs1.trans hs2
      refine ⟨_, (no, .lst (nov ++ [.ref ap])) :: L, g, a, pg, me, dx, st, p, pt, _, _, _, _, _, _, b0, [.int i, nv], .en, [.int i, .row hs], rfl, S.sel (by wtm_at "sel"), A1.mono hsA, hz2, by omega, .cons rfl (.cons (hnv.mono hsA) .nil), rfl, fun topv Z1 H hs3 S hf => ?_⟩
      exact q _ _ _ _ (hsA.trans hs3) S ⟨_, rfl, hs3 _ _ (hs2 _ _ hz1)⟩ hf
    · rw [List.length_append] at hbl
      obtain ⟨p, pa, nm, kvs, rfl, hp, hpa, hnm, henv⟩ := hf
      wtm_at "wp"
      refine ⟨Z, _, g, me, dx, st, li, _, _, _, _, _, _, _, _, b0, f, b, x, .int i, rfl, S, hli, ⟨p, pa, nm, kvs, rfl, hp, hpa, hnm, henv⟩, hpc, hbx, rfl, hle, by omega, fun pv' Z1 H hs S hf2 => ?_⟩
      wtm_at "wp"
      exact q _ _ _ hs S hf2
    · wtm_at "wp"
      refine ⟨Z, _, i, rfl, S, fun H S => ?_⟩
      wtm_at "wp"
      obtain ⟨S, hs1, hz1⟩ := S.pick (p := p) (by wtm_at "pick")
      exact q _ _ _ hs1 S hz1
/-! ### Walk.go_on -/
def spWalkGoOn : Sp := fun vs H Q _ => ∃ (Z : Hp) (L : Lx) (g : Pg) (me dx st no li : Addr) (pg he tk hd fin hv nv : V) (bs nov : List V) (h : Hd) (hs : List Hd) (i : Int) (y q c : _) (nx : Bd), vs = [.ref me, hv, .int i, nv] ∧
  SH Z ((me, cWalk.ob K dx [pg, .ref li, he, .ref st, tk, hd, fin, .ref no]) :: (st, .lst bs) :: (no, .lst nov) :: L) H ∧ ListedAt Z g li ∧ bs.length ≤ 4000 ∧ nov.length ≤ 5000 ∧ WHv K Z g h hv ∧ WV K Z g (.row hs) nv ∧ Pt.pc g .d1 h.at_ = some (.ask y q c nx) ∧ h.env.length ≤ 1000 ∧
  ∀ kp topv ev Z1 H1, Same Z Z1 → SH Z1 ((me, cWalk.ob K dx [pg, .ref li, he, .ref st, tk, hd, fin, .ref no]) :: (st, .lst (bs ++ [.ref kp, topv])) :: (no, .lst (nov ++ [ev])) :: L) H1 → EvAt Z1 g (.go h.num) ev → Z1 kp = some (.tup [.str "keep", .str g.K, nv]) →
    WF K Z1 g ⟨.d1, h.at_ + 1, ienv ((y, i) :: h.env)⟩ topv → Q .non H1
theorem IEnvAt.env {K : PySem.W.Frag} {Z : Hp} {g : Pg} {kvs : KVs} {e : List (Str × Int)} (h : IEnvAt kvs e) : WEnv K Z g (ienv e) kvs :=
  ⟨by have := h.1; simpa [ienv] using this, fun x a hx => let ⟨i, e1, h1⟩ := h.2 x a hx; ⟨_, h1, by subst e1; rfl⟩⟩
theorem ok_Walk_go_on (T : Tx K mg) : Met P w K mg base 3 cWalk "go_on" ["self", "hold", "thing", "note"] (spWalkGoOn (K := K)) := by
  refine mk_met (c := cWalk) (F_Walk_go_on T) (m_Walk_go_on T) sc_Walk_go_on (fun _ _ _ _ _ _ us hl => match us, hl with | [_, _, _, _], _ => rfl) ?len ?body
  case len =>
    rintro vs H Q E ⟨Z, L, g, me, dx, st, no, li, pg, he, tk, hd, fin, hv, nv, bs, nov, h, hs, i, y, qq, c, nx, rfl, _⟩
    rfl
  case body =>
    rintro cdv A outer s H vs Q E hr ⟨Z, L, g, me, dx, st, no, li, pg, he, tk, hd, fin, hv, nv, bs, nov, h, hs, i, y, qq, c, nx, rfl, S, hli, hbl, hnl, ⟨hp, rfl, hdx, t, k, sp, kn, pav, nm, kvs, h1, h2, h3, h4, h5, h6, h7⟩, hnv, hpc, hle, q⟩
    refine ⟨_, (pss_cons (ps_expr (pe_bmK (K := K) (pe_bm PySem.F.plainAttrs_list PySem.F.slot_list_append PySem.F.type_list_append mt_append (pe_atK (K := K) (c := cWalk) (i := 7) (ok_cWalk T) (pv 0)) (pa_cons (pe_tup (pa_cons pe_str (pa_cons (pe_atK (K := K) (c := cHold) (i := 0) (ok_cHold T) (pv 1)) pa_nil))) pa_nil)))) (pss_cons (ps_expr (pe_bmK (K := K) (pe_bm PySem.F.plainAttrs_list PySem.F.slot_list_append PySem.F.type_list_append mt_append (pe_atK (K := K) (c := cWalk) (i := 3) (ok_cWalk T) (pv 0)) (pa_cons (pe_tup (pa_cons pe_str (pa_cons (pe_ix (ix_anyK (K := K)) (pe_ix (ix_anyK (K := K)) (pe_atK (K := K) (c := cHold) (i := 1) (ok_cHold T) (pv 1)) pe_int (fun _ _ => rfl)) pe_int (fun _ _ => rfl)) (pa_cons (pv 3) pa_nil)))) pa_nil)))) (pss_cons (ps_expr (pe_bmK (K := K) (pe_bm PySem.F.plainAttrs_list PySem.F.slot_list_extend PySem.F.type_list_extend mt_extend (pe_atK (K := K) (c := cWalk) (i := 3) (ok_cWalk T) (pv 0)) (pa_cons (pe_callTy call_listOf (by rfl) (b_list T) (by decide +kernel) (pa_cons (pe_slice (sl_tupK (K := K)) (pe_atK (K := K) (c := cHold) (i := 1) (ok_cHold T) (pv 1)) (po_some pe_int) po_none) pa_nil)) pa_nil)))) (pss_one (ps_expr (pe_metK (K := K) (ok_cWalk T) (ok_Walk_bind T) hr (by decide +kernel) (pv 0) (pa_cons (pv 2) pa_nil))))))), ?_⟩
    show (_ : TS) _ ([some _, some _, some _, some _] : L2.St) _
    obtain ⟨pa, rfl, hpa⟩ := h5
    wtm_at "wp"
    rename_i ep _ _ _ _ _ _
    rename Addr => kp
    refine k_slT1 S (.z h2) fun p H S => ?_
    wtm_at "wp"
    refine k_ext S (by wtm_at "mem") (by wtm_at "in") (le_line (by simp only [List.length_append, List.length_cons, List.length_nil]; omega)) (by wtm_at "wr") fun H S => ?_
    obtain ⟨S, hs1, hz1⟩ := S.pick (p := ep) (by wtm_at "pick")
    obtain ⟨S, hs2, hz2⟩ := S.pick (p := kp) (by wtm_at "pick")
    have hsA := hs1.trans hs2
    wtm_at "wp"
    refine ⟨_, (no, .lst (nov ++ [.ref ep])) :: L, g, me, dx, st, li, _, _, _, _, _, _, _, .ref sp, bs ++ [.ref kp], ⟨.d1, h.at_, ienv h.env⟩, _, y, .int i, rfl, S.sel (by wtm_at "sel"), hli.mono hsA, ⟨sp, pa, nm, kvs, rfl, hsA _ _ h4, hsA _ _ hpa, hsA _ _ h6, h7.env⟩, hpc, .ask, rfl, by simpa [ienv] using hle, by rw [List.length_append, List.length_cons, List.length_nil]; omega, fun pv' Z1 H hs3 S hf => ?_⟩
    wtm_at "wp"
    rw [List.append_assoc] at S
    exact q _ _ _ _ _ (hsA.trans hs3) (S.sel (by wtm_at "sel")) ⟨_, rfl, hs3 _ _ (hs2 _ _ hz1)⟩ (hs3 _ _ hz2) hf
end
end AL
/-! C5 -/
namespace AL
open PySem PySem.Spec PyProof.Rows L2
theorem IEnvAt.of {K : PySem.W.Frag} {Z : Hp} {g : Pg} {kvs : KVs} {e : List (Str × Int)} (h : WEnv K Z g (ienv e) kvs) : IEnvAt kvs e := by
  refine ⟨by have := h.len; simpa [ienv] using this, fun x a hx => ?_⟩
  have : ∀ e : List (Str × Int), eget (ienv e) x = some a → ∃ i, a = .int i := by
    intro e
    induction e with
    | nil => intro h; cases h
    | cons p r ih =>
      intro h
      unfold ienv at h
      rw [List.map_cons] at h
      unfold eget at h
      split at h
      · cases h; exact ⟨_, rfl⟩
      · exact ih h
  obtain ⟨i, rfl⟩ := this e hx
  obtain ⟨v, h1, h2⟩ := h.v x _ hx
  obtain rfl : v = .int i := h2
  exact ⟨i, rfl, h1⟩
theorem cut_from {xs ys : List V} : cutV (xs ++ ys) (some (xs.length : Nat)) none = ys := by
  unfold cutV
  rw [HT.sIx_nat, HT.sIx_none]
  simp
theorem cut_to {xs ys : List V} : cutV (xs ++ ys) none (some (xs.length : Nat)) = xs := by
  unfold cutV
  rw [HT.sIx_nat, HT.sIx_none]
  simp
theorem atI_mid {xs ys : List V} {y : V} : atI (xs ++ y :: ys) (xs.length : Nat) = some y := atI_nat (by simp)
theorem atI_mid1 {xs ys : List V} {x y : V} : atI (xs ++ x :: y :: ys) ((xs.length + 1 : Nat) : Int) = some y := atI_nat (by simp)
section
variable {P : Program} {w : World} {K : PySem.W.Frag} {mg : Str → Option Value} {base : Heap}
/-! ### keeps_in: no keep -/
def spKeepsIn : Sp := fun vs H Q _ => ∃ (Z : Hp) (L : Lx) (g : Pg) (st : Addr) (bs : List V) (fs : List AF), vs = [.ref st] ∧ SH Z L H ∧ In Z L st (.lst bs) ∧ Paired (WF K Z g) fs bs ∧ ∀ H1, SH Z L H1 → Q (.int 0) H1
theorem ok_keeps_in (T : Tx K mg) : Cal P w K mg base 1 "keeps_in" ["steps"] (spKeepsIn (K := K)) := by
  refine mk_cal (F_keeps_in T) (g_keeps_in T) sc_keeps_in (fun _ _ _ _ _ _ us hl => match us, hl with | [_], _ => rfl) ?len ?body
  case len =>
    rintro vs H Q E ⟨Z, L, g, st, bs, fs, rfl, _⟩
    rfl
  case body =>
    rintro cdv A outer s H vs Q E hr ⟨Z, L, g, st, bs, fs, rfl, S, hin, hp, q⟩
    refine ⟨_, (pss_one (ps_ret (pe_callB call_lenA (by rfl) (b_len T) (by decide +kernel) (pa_cons (pe_lc (own := [("step", 1)]) (g := gName 1) (by rfl) sc_keeps_in.nd (pi_listK (K := K) (pv 0)) (blkOk_by (own := [("step", 1)]) (N := ["steps", "step"]) (sc := defScope s_keeps_in) (by decide +kernel)) (fun _ _ _ _ _ => (pg_name (i := 1) sc_keeps_in.nd rfl (Or.inl rfl))) (fun _ _ _ _ _ => pts_one (pt_cmpR op_eq (pe_ix (ix_anyK (K := K)) (pv 1) pe_int (fun _ _ => rfl)) pe_str (nomark _))) (fun _ _ _ _ _ => (pv 1))) pa_nil)))), ?_⟩
    show (_ : TS) _ ([some _, none] : L2.St) _
    wtm_at "wp"
    refine k_lc_list S hin (by wtm_at "wipe") (fun D i H => SH Z ((D, .lst []) :: L) H) (fun D H S => S) (fun D i H S => S.at (by cases hin with | l h => exact .l (List.mem_cons_of_mem _ h) | z h => exact .z h)) ?_ (by wtm_at "wipe") ?_
    · intro D i x H hx S
      obtain ⟨f, hf⟩ : ∃ f, WF K Z g f x := by
        have hi : i < bs.length := (List.getElem?_eq_some_iff.mp hx).1
        have hl : fs.length = bs.length := hp.length
        obtain ⟨y, hy, hF⟩ := Paired.get hp (i := i) (x := fs[i]'(by omega)) (List.getElem?_eq_getElem (by omega))
        rw [hx] at hy
        obtain rfl := Option.some.inj hy
        exact ⟨_, hF⟩
      obtain ⟨p, pa, nm, kvs, rfl, h1, h2, h3, h4⟩ := hf
      wtm_at "wp"
      exact S
    · intro D H S
      wtm_at "wp"
      exact q _ (S.sub (by wtm_at "sub"))
/-! ### Walk.ask -/
def spWalkAsk : Sp := fun vs H Q _ => ∃ (Z : Hp) (L : Lx) (g : Pg) (a : PgA) (pg me mx st no li he kp : Addr) (tk fin nv topv : V) (b0 nov : List V) (fs : List AF) (hd n : Nat) (env : List (Str × Int)) (hs : List Hd) (i : Int), vs = [.ref me, .str g.q, .int i] ∧
  SH Z ((me, cWalk.ob K mx [.ref pg, .ref li, .ref he, .ref st, tk, .int (hd : Nat), fin, .ref no]) :: (st, .lst (b0 ++ [.ref kp, topv])) :: (no, .lst nov) :: L) H ∧ ProgAt Z g a pg ∧ HearsAt Z g he ∧ b0.length ≤ 4000 ∧ nov.length ≤ 5000 ∧
  Paired (WF K Z g) fs b0 ∧ Z kp = some (.tup [.str "keep", .str g.K, nv]) ∧ WV K Z g (.row hs) nv ∧ WF K Z g ⟨.d1, n, ienv env⟩ topv ∧
  ∀ st2 topv2 ev Z1 H1, Same Z Z1 → SH Z1 ((me, cWalk.ob K mx [.ref pg, .ref li, .ref he, .ref st2, tk, .int ((hd + 1 : Nat) : Int), fin, .ref no]) :: (st2, .lst (b0 ++ [topv2])) :: (no, .lst (nov ++ [ev])) :: L) H1 → EvAt Z1 g .ask ev →
    WF K Z1 g ⟨.hr, 0, [(g.hn, .row hs), (g.hh, .hold ⟨hd, n, env⟩), (g.hx, .int i)]⟩ topv2 → Q .non H1
theorem ok_Walk_ask (T : Tx K mg) : Met P w K mg base 5 cWalk "ask" ["self", "q", "thing"] (spWalkAsk (K := K)) := by
  refine mk_met (c := cWalk) (F_Walk_ask T) (m_Walk_ask T) sc_Walk_ask (fun _ _ _ _ _ _ us hl => match us, hl with | [_, _, _], _ => rfl) ?len ?body
  case len =>
    rintro vs H Q E ⟨Z, L, g, a, pg, me, mx, st, no, li, he, kp, tk, fin, nv, topv, b0, nov, fs, hd, n, env, hs, i, rfl, _⟩
    rfl
  case body =>
    rintro cdv A outer s H vs Q E hr ⟨Z, L, g, a, pg, me, mx, st, no, li, he, kp, tk, fin, nv, topv, b0, nov, fs, hd, n, env, hs, i, rfl, S, A1, ⟨hl, hh1, hh2⟩, hbl, hnl, hfs, hkp, hnv, ⟨tp, pa, nm, kvs, rfl, htp, hpa, hnm, henv⟩, q⟩
    refine ⟨_, (pss_cons (ps_set (i := 3) sc_Walk_ask.nd rfl (Or.inl rfl) (pe_op op_sub (pe_callB call_lenA (by rfl) (b_len T) (by decide +kernel) (pa_cons (pe_atK (K := K) (c := cWalk) (i := 3) (ok_cWalk T) (pv 0)) pa_nil)) pe_int)) (pss_cons (ps_while PassesOwn.never (PW.pt (pw_and (pt_cmpR op_ge (pv 3) pe_int (nomark _)) (pw_and1 (PW.pt (pw_or (pt_cmpR op_eq (pe_ix (ix_anyK (K := K)) (pe_ix (ix_anyK (K := K)) (pe_atK (K := K) (c := cWalk) (i := 3) (ok_cWalk T) (pv 0)) (pv 3) (fun _ _ => rfl)) pe_int (fun _ _ => rfl)) pe_str (nomark _)) (pw_or1 (pt_cmpR (op_notIn_seqK (K := K)) (pv 1) (pe_dget (hu_of hr) (pe_atK (K := K) (c := cWalk) (i := 2) (ok_cWalk T) (pv 0)) (pe_ix (ix_anyK (K := K)) (pe_ix (ix_anyK (K := K)) (pe_atK (K := K) (c := cWalk) (i := 3) (ok_cWalk T) (pv 0)) (pv 3) (fun _ _ => rfl)) pe_int (fun _ _ => rfl)) (fun _ _ => rfl)) (by first | rfl | exact nomark _)))))))) (pss_one (ps_set (i := 3) sc_Walk_ask.nd rfl (Or.inl rfl) (pe_op op_sub (pv 3) pe_int)))) (pss_cons (ps_if (pt_cmpR op_lt (pv 3) pe_int (nomark _)) (pss_cons (ps_atK (K := K) (c := cWalk) (i := 6) (ok_cWalk T) (pv 0) (pe_tup (pa_cons pe_str (pa_cons (pv 1) (pa_cons (pe_cal (ok_as_told T) hr (pa_cons (pv 2) pa_nil)) pa_nil))))) (pss_one ps_retN)) pss_nil) (pss_cons (ps_set (i := 4) sc_Walk_ask.nd rfl (Or.inl rfl) (pe_makK (K := K) (c := cHold) (ok_Hold_init T) hr (pa_cons (pe_atK (K := K) (c := cWalk) (i := 5) (ok_cWalk T) (pv 0)) (pa_cons (pe_callTy call_tupleOf (by rfl) (b_tuple T) (by decide +kernel) (pa_cons (pe_slice (sl_listK (K := K)) (pe_atK (K := K) (c := cWalk) (i := 3) (ok_cWalk T) (pv 0)) (po_some (pv 3)) po_none) pa_nil)) pa_nil)))) (pss_cons (ps_atK (K := K) (c := cWalk) (i := 5) (ok_cWalk T) (pv 0) (pe_op op_add (pe_atK (K := K) (c := cWalk) (i := 5) (ok_cWalk T) (pv 0)) pe_int)) (pss_cons (ps_atK (K := K) (c := cWalk) (i := 3) (ok_cWalk T) (pv 0) (pe_slice (sl_listK (K := K)) (pe_atK (K := K) (c := cWalk) (i := 3) (ok_cWalk T) (pv 0)) po_none (po_some (pv 3)))) (pss_cons (ps_expr (pe_bmK (K := K) (pe_bm PySem.F.plainAttrs_list PySem.F.slot_list_append PySem.F.type_list_append mt_append (pe_atK (K := K) (c := cWalk) (i := 7) (ok_cWalk T) (pv 0)) (pa_cons (pe_tup (pa_cons pe_str (pa_cons (pv 1) (pa_cons (pe_cal (ok_keeps_in T) hr (pa_cons (pe_atK (K := K) (c := cWalk) (i := 3) (ok_cWalk T) (pv 0)) pa_nil)) pa_nil)))) pa_nil)))) (pss_one (ps_expr (pe_metK (K := K) (ok_cWalk T) (ok_Walk_begin T) hr (by decide +kernel) (pv 0) (pa_cons (pe_tup (pa_cons pe_str (pa_cons (pe_ix (ix_anyK (K := K)) (pe_ix (ix_anyK (K := K)) (pe_atK (K := K) (c := cHold) (i := 1) (ok_cHold T) (pv 4)) pe_int (fun _ _ => rfl)) pe_int (fun _ _ => rfl)) (pa_cons (pv 1) pa_nil)))) (pa_cons (pe_lst (pa_cons (pv 2) (pa_cons (pv 4) (pa_cons (pe_ix (ix_anyK (K := K)) (pe_ix (ix_anyK (K := K)) (pe_atK (K := K) (c := cHold) (i := 1) (ok_cHold T) (pv 4)) pe_int (fun _ _ => rfl)) pe_int (fun _ _ => rfl)) pa_nil)))) pa_nil)))))))))))), ?_⟩
    show (_ : TS) _ ([some _, some _, some _, none, none] : L2.St) _
    wtm_at "wp"
    have e1 : ((b0 ++ [V.ref kp, V.ref tp]).length : Int) - 1 = ((b0.length + 1 : Nat) : Int) := by rw [List.length_append, List.length_cons, List.length_cons, List.length_nil]; omega
    rw [e1]
    refine w_while (fun m σ H => SH Z ((me, cWalk.ob K mx [.ref pg, .ref li, .ref he, .ref st, tk, .int (hd : Nat), fin, .ref no]) :: (st, .lst (b0 ++ [.ref kp, .ref tp])) :: (no, .lst nov) :: L) H ∧
      ((m = 1 ∧ σ = [some (.ref me), some (.str g.q), some (.int i), some (.int ((b0.length + 1 : Nat) : Int)), none]) ∨ (m = 0 ∧ σ = [some (.ref me), some (.str g.q), some (.int i), some (.int (b0.length : Nat)), none]))) 1 ⟨S, .inl ⟨rfl, rfl⟩⟩ ?_
    rintro m σ H ⟨S, ⟨rfl, rfl⟩ | ⟨rfl, rfl⟩⟩
    · have a1 : atI (b0 ++ [V.ref kp, V.ref tp]) ((b0.length + 1 : Nat) : Int) = some (V.ref tp) := atI_mid1
      wtm_at "wp"
      refine k_turn ?_
      wtm_at "wp"
      exact ⟨0, Nat.zero_lt_one, S, .inr ⟨rfl, by rw [show ((b0.length + 1 : Nat) : Int) - 1 = (b0.length : Nat) by omega]⟩⟩
    · have a1 : atI (b0 ++ [V.ref kp, V.ref tp]) ((b0.length : Nat) : Int) = some (V.ref kp) := atI_mid
      have hv : valV [((.inr g.K : Key), V.ref hl)] (.inr g.K) = some (.ref hl) := valV_pos rfl
      have hq : inV (V.str g.q) [V.str g.q] = true := inV_mem List.mem_cons_self rfl
      wtm_at "wp"
      refine if_F (by rw [if_pos rfl, hq]; rfl) ?_
      wtm_at "wp"
      refine if_F (decide_eq_false (by omega)) ?_
      wtm_at "wp"
      refine k_slL S (by wtm_at "in") (ys := [.ref kp, .ref tp]) cut_from fun p H S => ?_
      wtm_at "wp"
      refine ⟨Z, _, x, dx, _, _, rfl, S, fun H S => ⟨rfl, ?_⟩⟩
      wtm_at "wp"
      refine k_slL S (by wtm_at "in") (ys := b0) cut_to fun st2 H S => ?_
      wtm_at "wp"
      refine ⟨Z, _, g, st2, b0, fs, rfl, S, by wtm_at "in", hfs, fun H S => ?_⟩
      wtm_at "wp"
      obtain ⟨S, hs1, hz1⟩ := S.pick (o := .tup [.str "ask", .str g.q, .int 0]) (by wtm_at "pick")
      obtain ⟨S, hs2, hz2⟩ := S.pick (o := .tup [.str "hear", .str g.K, .str g.q]) (by wtm_at "pick")
      obtain ⟨S, hs3, hz3⟩ := S.pick (o := .tup [.ref kp, .ref tp]) (by wtm_at "pick")
      obtain ⟨S, hs4, hz4⟩ := S.pick (p := x) (by wtm_at "pick")
      have hsA := ((hs1.trans hs2).trans hs3).trans hs4
      refine ⟨_, (no, .lst (nov ++ [_])) :: L, g, a, pg, me, mx, st2, p, _, _, _, _, _, _, _, b0, [.int i, .ref x, nv], .hr, [.int i, .hold ⟨hd, n, env⟩, .row hs], rfl, S.sel (by wtm_at "sel"), A1.mono hsA, hs4 _ _ (hs3 _ _ hz2), by omega, .cons rfl (.cons ⟨x, rfl, _, _, kp, tp, nv, _, nm, kvs, hz4, hs4 _ _ hz3, hsA _ _ hkp, hsA _ _ htp, ⟨pa, rfl, hsA _ _ hpa⟩, hsA _ _ hnm, .of henv⟩ (.cons (hnv.mono hsA) .nil)), rfl, fun topv Z1 H hs5 S hf => ?_⟩
      exact q _ _ _ _ _ (hsA.trans hs5) S ⟨_, rfl, hs5 _ _ (hs4 _ _ (hs3 _ _ (hs2 _ _ hz1)))⟩ hf
end
end AL
/-! C6 -/
namespace AL
open PySem PySem.Spec PyProof.Rows L2
theorem Paired.rev {α β : Type} {F : α → β → Prop} : ∀ {a : List α} {b : List β}, Paired F a b → Paired F a.reverse b.reverse
  | _, _, .nil => .nil
  | _, _, .cons r t => by
    rw [List.reverse_cons, List.reverse_cons]
    exact Paired.app (Paired.rev t) (.cons r .nil)
/-- tell, if, case -/
inductive APass (env : AEnv) (n : Nat) : Bd → Nat → AEnv → List Ev → Prop where
  | tell {a nx i} (ha : aw env a = some (.int i)) : APass env n (.tell a nx) (n + 1) env [.tell i]
  | iff {a b1 b2 i} (hl : b1.pcs.length ≤ 1000) (ha : aw env a = some (.int i)) : APass env n (.iff a b1 b2) (n + 1 + (if i = 0 then b1.pcs.length else 0)) env []
  | case0 {r b1 x y b2} (hr : aw env r = some (.row [])) : APass env n (.case r b1 x y b2) (n + 1) env []
  | case1 {r b1 x y b2 h hs} (hl : b1.pcs.length ≤ 1000) (hr : aw env r = some (.row (h :: hs))) : APass env n (.case r b1 x y b2) (n + 1 + b1.pcs.length) ((y, .row hs) :: (x, .hold h) :: env) []
section
variable {P : Program} {w : World} {K : PySem.W.Frag} {mg : Str → Option Value} {base : Heap}
/-! ### Walk.pass_on -/
def spWalkPassOn : Sp := fun vs H Q _ => ∃ (Z : Hp) (L : Lx) (g : Pg) (me mx st no pa nm : Addr) (pg li he tk hd fin pcv : V) (bs nov : List V) (t : Pt) (n n2 : Nat) (env env2 : AEnv) (kvs : KVs) (b : Bd) (evs : List Ev), vs = [.ref me, .ref pa, .int (n : Nat), .ref nm, pcv] ∧
  SH Z ((me, cWalk.ob K mx [pg, li, he, .ref st, tk, hd, fin, .ref no]) :: (st, .lst bs) :: (no, .lst nov) :: L) H ∧ BdAt Z b pcv ∧ Z pa = some (.tup (t.tup g)) ∧ Z nm = some (.dK kvs) ∧ WEnv K Z g env kvs ∧ env.length ≤ 900 ∧ bs.length ≤ 4000 ∧ nov.length ≤ 5000 ∧ APass env n b n2 env2 evs ∧
  ∀ topv ew Z1 H1, Same Z Z1 → SH Z1 ((me, cWalk.ob K mx [pg, li, he, .ref st, tk, hd, fin, .ref no]) :: (st, .lst (bs ++ [topv])) :: (no, .lst (nov ++ ew)) :: L) H1 → Paired (EvAt Z1 g) evs ew → WF K Z1 g ⟨t, n2, env2⟩ topv → Q .non H1
theorem ok_Walk_pass_on (T : Tx K mg) : Met P w K mg base 3 cWalk "pass_on" ["self", "part", "n", "names", "piece"] (spWalkPassOn (K := K)) := by
  refine mk_met (c := cWalk) (F_Walk_pass_on T) (m_Walk_pass_on T) sc_Walk_pass_on (fun _ _ _ _ _ _ us hl => match us, hl with | [_, _, _, _, _], _ => rfl) ?len ?body
  case len =>
    rintro vs H Q E ⟨Z, L, g, me, mx, st, no, pa, nm, pg, li, he, tk, hd, fin, pcv, bs, nov, t, n, n2, env, env2, kvs, b, evs, rfl, _⟩
    rfl
  case body =>
    rintro cdv A outer s H vs Q E hr ⟨Z, L, g, me, mx, st, no, pa, nm, pg, li, he, tk, hd, fin, pcv, bs, nov, t, n, n2, env, env2, kvs, b, evs, rfl, S, hb, hpa, hnm, henv, hel, hbl, hnl, hp, q⟩
    refine ⟨_, (pss_cons (ps_if (pt_cmpR op_eq (pe_ix (ix_anyK (K := K)) (pv 4) pe_int (fun _ _ => rfl)) pe_str (nomark _)) (pss_cons (ps_expr (pe_bmK (K := K) (pe_bm PySem.F.plainAttrs_list PySem.F.slot_list_append PySem.F.type_list_append mt_append (pe_atK (K := K) (c := cWalk) (i := 7) (ok_cWalk T) (pv 0)) (pa_cons (pe_tup (pa_cons pe_str (pa_cons (pe_cal (ok_worth T) hr (pa_cons (pv 3) (pa_cons (pe_ix (ix_anyK (K := K)) (pv 4) pe_int (fun _ _ => rfl)) pa_nil))) pa_nil))) pa_nil)))) (pss_one (ps_set (i := 2) sc_Walk_pass_on.nd rfl (Or.inl rfl) (pe_op op_add (pv 2) pe_int)))) (pss_one (ps_if (pt_cmpR op_eq (pe_ix (ix_anyK (K := K)) (pv 4) pe_int (fun _ _ => rfl)) pe_str (nomark _)) (pss_one (ps_set (i := 2) sc_Walk_pass_on.nd rfl (Or.inl rfl) (pe_op op_add (pe_op op_add (pv 2) pe_int) (pe_op op_mul (pe_callB call_lenA (by rfl) (b_len T) (by decide +kernel) (pa_cons (pe_cal (ok_pieces T) hr (pa_cons (pe_ix (ix_anyK (K := K)) (pv 4) pe_int (fun _ _ => rfl)) pa_nil)) pa_nil)) (pe_callTy call_intB (by rfl) (b_int T) (by decide +kernel) (pa_cons (pe_cmpR op_eq (pe_cal (ok_worth T) hr (pa_cons (pv 3) (pa_cons (pe_ix (ix_anyK (K := K)) (pv 4) pe_int (fun _ _ => rfl)) pa_nil))) pe_int (nomark _)) pa_nil)))))) (pss_cons (ps_set (i := 5) sc_Walk_pass_on.nd rfl (Or.inl rfl) (pe_cal (ok_worth T) hr (pa_cons (pv 3) (pa_cons (pe_ix (ix_anyK (K := K)) (pv 4) pe_int (fun _ _ => rfl)) pa_nil)))) (pss_one (ps_if (pt_cmpR op_eq (pe_callB call_lenA (by rfl) (b_len T) (by decide +kernel) (pa_cons (pv 5) pa_nil)) pe_int (nomark _)) (pss_one (ps_set (i := 2) sc_Walk_pass_on.nd rfl (Or.inl rfl) (pe_op op_add (pv 2) pe_int))) (pss_cons (ps_set (i := 2) sc_Walk_pass_on.nd rfl (Or.inl rfl) (pe_op op_add (pe_op op_add (pv 2) pe_int) (pe_callB call_lenA (by rfl) (b_len T) (by decide +kernel) (pa_cons (pe_cal (ok_pieces T) hr (pa_cons (pe_ix (ix_anyK (K := K)) (pv 4) pe_int (fun _ _ => rfl)) pa_nil)) pa_nil)))) (pss_one (ps_set (i := 3) sc_Walk_pass_on.nd rfl (Or.inl rfl) (pe_cal (ok_with_name T) hr (pa_cons (pe_cal (ok_with_name T) hr (pa_cons (pv 3) (pa_cons (pe_ix (ix_anyK (K := K)) (pv 4) pe_int (fun _ _ => rfl)) (pa_cons (pe_ix (ix_anyK (K := K)) (pv 5) pe_int (fun _ _ => rfl)) pa_nil)))) (pa_cons (pe_ix (ix_anyK (K := K)) (pv 4) pe_int (fun _ _ => rfl)) (pa_cons (pe_slice (sl_tupK (K := K)) (pv 5) (po_some pe_int) po_none) pa_nil))))))))))))) (pss_one (ps_expr (pe_bmK (K := K) (pe_bm PySem.F.plainAttrs_list PySem.F.slot_list_append PySem.F.type_list_append mt_append (pe_atK (K := K) (c := cWalk) (i := 3) (ok_cWalk T) (pv 0)) (pa_cons (pe_tup (pa_cons pe_str (pa_cons (pv 1) (pa_cons (pv 2) (pa_cons (pv 3) pa_nil))))) pa_nil)))))), ?_⟩
    show (_ : TS) _ ([some _, some _, some _, some _, some _, none] : L2.St) _
    have hkl := henv.len
    cases hp with
    | @tell a nx i ha =>
      obtain ⟨p, w1, rfl, hp, hn⟩ := hb
      obtain ⟨va, ka, ra⟩ := henv.at ha
      obtain rfl : va = .int i := ra
      wtm_at "wp"
      refine ⟨Z, _, nm, kvs, a, _, rfl, S, hnm, ka, fun H S => ?_⟩
      wtm_at "wp"
      obtain ⟨S, hs1, hz1⟩ := S.pick (o := .tup [.str "tell", .int i]) (by wtm_at "pick")
      obtain ⟨S, hs2, hz2⟩ := S.pick (by wtm_at "pick")
      exact q _ [_] _ _ (hs1.trans hs2) S (.cons ⟨_, rfl, hs2 _ _ hz1⟩ .nil) ⟨_, pa, nm, kvs, rfl, hz2, hs2 _ _ (hs1 _ _ hpa), hs2 _ _ (hs1 _ _ hnm), henv.mono (hs1.trans hs2)⟩
    | @iff a b1 b2 i hl ha =>
      obtain ⟨p, w1, w2, rfl, hp, h1, h2⟩ := hb
      obtain ⟨va, ka, ra⟩ := henv.at ha
      obtain rfl : va = .int i := ra
      wtm_at "wp"
      refine ⟨Z, _, b1, w1, rfl, S, h1, hl, fun r H ws S hw => ?_⟩
      have hwl : b1.pcs.length = ws.length := hw.length
      wtm_at "wp"
      refine ⟨Z, _, nm, kvs, a, _, rfl, S, hnm, ka, fun H S => ?_⟩
      wtm_at "wp"
      refine k_I (.inr (by split <;> decide)) ?_
      have e1 : ((n : Nat) : Int) + 1 + ((ws.length : Nat) : Int) * (if decide (V.int i = V.int 0) = true then 1 else 0) = ((n + 1 + (if i = 0 then b1.pcs.length else 0) : Nat) : Int) := by
        rw [hwl]
        by_cases h0 : i = 0
        · subst h0; simp
        · have : V.int i ≠ V.int 0 := fun z => h0 (V.int.inj z)
          simp [h0, this]
      refine k_I0 ?_
      rw [e1]
      wtm_at "wp"
      obtain ⟨S, hs2, hz2⟩ := S.pick (by wtm_at "pick")
      exact q _ [] _ _ hs2 (by rw [List.append_nil]; exact S.sel (by wtm_at "sel")) .nil ⟨_, pa, nm, kvs, rfl, hz2, hs2 _ _ hpa, hs2 _ _ hnm, henv.mono hs2⟩
    | @case0 r b1 x y b2 hr =>
      obtain ⟨p, w1, w2, rfl, hp, h1, h2⟩ := hb
      obtain ⟨va, ka, rp, rv, rfl, hrp, hrv⟩ := henv.at hr
      cases hrv
      wtm_at "wp"
      refine ⟨Z, _, nm, kvs, r, _, rfl, S, hnm, ka, fun H S => ?_⟩
      wtm_at "wp"
      obtain ⟨S, hs2, hz2⟩ := S.pick (by wtm_at "pick")
      exact q _ [] _ _ hs2 (by rw [List.append_nil]; exact S) .nil ⟨_, pa, nm, kvs, rfl, hz2, hs2 _ _ hpa, hs2 _ _ hnm, henv.mono hs2⟩
    | @case1 r b1 x y b2 h hs hl hr =>
      obtain ⟨p, w1, w2, rfl, hp, h1, h2⟩ := hb
      obtain ⟨va, ka, rp, rv, rfl, hrp, hrv⟩ := henv.at hr
      obtain ⟨hv, rvs, rfl, hv1, hv2⟩ : ∃ hv rvs, rv = hv :: rvs ∧ WHv K Z g h hv ∧ Paired (WHv K Z g) hs rvs := by
        cases hrv with
        | cons a b => exact ⟨_, _, rfl, a, b⟩
      wtm_at "wp"
      refine ⟨Z, _, nm, kvs, r, _, rfl, S, hnm, ka, fun H S => ?_⟩
      wtm_at "wp"
      refine if_F (decide_eq_false fun z => by have := V.int.inj z; rw [List.length_cons] at this; omega) ?_
      wtm_at "wp"
      refine ⟨Z, _, b1, w1, rfl, S, h1, hl, fun r H ws S hw => ?_⟩
      have hwl : b1.pcs.length = ws.length := hw.length
      wtm_at "wp"
      refine ⟨Z, _, nm, kvs, x, hv, rfl, S, hnm, by omega, fun n1 Z1 H hs1 S hn1 => ?_⟩
      have hlp := length_putK kvs (.inr x) hv
      replace hp := hs1 _ _ hp
      replace hrp := hs1 _ _ hrp
      wtm_at "wp"
      refine k_slT1 S (.z hrp) fun rp2 H S => ?_
      wtm_at "wp"
      obtain ⟨S, hs2, hz2⟩ := S.pick (p := rp2) (by wtm_at "pick")
      refine ⟨_, _, n1, _, y, _, rfl, S, hs2 _ _ hn1, by omega, fun n2 Z2 H hs3 S hn2 => ?_⟩
      wtm_at "wp"
      obtain ⟨S, hs4, hz4⟩ := S.pick (by wtm_at "pick")
      have hsB := (hs2.trans hs3).trans hs4
      have hsA := hs1.trans hsB
      refine q _ [] _ _ hsA (by rw [List.append_nil]; exact S.sel (by wtm_at "sel")) .nil ⟨_, pa, n2, _, rfl, (by show _ = some (HO.tup [.str "part", .ref pa, .int ((n + 1 + b1.pcs.length : Nat) : Int), .ref n2]); rw [hwl, ← intA]; exact hz4), hsA _ _ hpa, hs4 _ _ hn2, ?_⟩
      exact ((henv.mono hsA).put (a := .hold h) (hv1.mono hsA)).put (a := .row hs) ⟨rp2, rvs, rfl, hs4 _ _ (hs3 _ _ hz2), Paired.mapP hv2 fun _ _ z => WHv.mono hsA z⟩
end
end AL
/-! C7 -/
namespace AL
open PySem PySem.Spec PyProof.Rows L2
def WBase (K : PySem.W.Frag) (Z : Hp) (g : Pg) (low : List AF) : Option (List Hd) → List V → Prop
  | none, bs => Paired (WF K Z g) low bs.reverse
  | some hs, bs => ∃ b0 kp nv, bs = b0 ++ [.ref kp] ∧ Z kp = some (.tup [.str "keep", .str g.K, nv]) ∧ WV K Z g (.row hs) nv ∧ Paired (WF K Z g) low b0.reverse
def WStk (K : PySem.W.Frag) (Z : Hp) (g : Pg) (s : AS) (stv : List V) : Prop := ∃ bs topv, stv = bs ++ [topv] ∧ WF K Z g s.top topv ∧ WBase K Z g s.low s.note bs
theorem WBase.mono {K : PySem.W.Frag} {Z Z1 : Hp} {g : Pg} (hs : Same Z Z1) {low : List AF} {nt : Option (List Hd)} {bs : List V} (h : WBase K Z g low nt bs) : WBase K Z1 g low nt bs := by
  cases nt with
  | none => exact Paired.mapP h fun _ _ z => WF.mono hs z
  | some r => obtain ⟨b0, kp, nv, e, h1, h2, h3⟩ := h; exact ⟨b0, kp, nv, e, hs _ _ h1, h2.mono hs, Paired.mapP h3 fun _ _ z => WF.mono hs z⟩
theorem WStk.mono {K : PySem.W.Frag} {Z Z1 : Hp} {g : Pg} (hs : Same Z Z1) {s : AS} {stv : List V} (h : WStk K Z g s stv) : WStk K Z1 g s stv := by
  obtain ⟨bs, topv, e, h1, h2⟩ := h
  exact ⟨bs, topv, e, h1.mono hs, h2.mono hs⟩
theorem WBase.len {K : PySem.W.Frag} {Z : Hp} {g : Pg} {low : List AF} {nt : Option (List Hd)} {bs : List V} (h : WBase K Z g low nt bs) : bs.length ≤ low.length + 1 := by
  cases nt with
  | none => have := Paired.length h; rw [List.length_reverse] at this; omega
  | some r => obtain ⟨b0, kp, nv, rfl, h1, h2, h3⟩ := h; have := Paired.length h3; rw [List.length_reverse] at this; rw [List.length_append, List.length_cons, List.length_nil]; omega
def Bd.waits : Bd → Prop
  | .keep _ _ _ _ _ _ => True | .ask _ _ _ _ => True | .go _ _ _ _ _ => True | _ => False
theorem Paired.snoc_rev {α β : Type} {F : α → β → Prop} {a : List α} {b : List β} {x : α} {y : β} (h : Paired F a b.reverse) (r : F x y) : Paired F (x :: a) (b ++ [y]).reverse := by
  rw [List.reverse_append]
  exact .cons r h
section
variable {P : Program} {w : World} {K : PySem.W.Frag} {mg : Str → Option Value} {base : Heap}
def spWalkWait : Sp := fun vs H Q _ => ∃ (Z : Hp) (L : Lx) (g : Pg) (a : PgA) (pg me mx st no nm li he : Addr) (tk fin pcv topv : V) (bs nov : List V) (kvs : KVs) (b : Bd) (low : List AF) (note : Option (List Hd)) (t : Pt) (n hd : Nat) (env : AEnv) (ev : List Ev) (s' : AS),
  vs = [.ref me, .ref nm, pcv] ∧
  SH Z ((me, cWalk.ob K mx [.ref pg, .ref li, .ref he, .ref st, tk, .int (hd : Nat), fin, .ref no]) :: (st, .lst (bs ++ [topv])) :: (no, .lst nov) :: L) H ∧ ProgAt Z g a pg ∧ ListedAt Z g li ∧ HearsAt Z g he ∧ low.length ≤ 2000 ∧ nov.length ≤ 4000 ∧
  WF K Z g ⟨t, n, env⟩ topv ∧ Z nm = some (.dK kvs) ∧ WEnv K Z g env kvs ∧ BdAt Z b pcv ∧ Pt.pc g t n = some b ∧ b.waits ∧ WBase K Z g low note bs ∧ AStep g ⟨low, note, ⟨t, n, env⟩, hd, ev⟩ s' ∧ (∀ av h, eget env av = some (.hold h) → h.env.length ≤ 900) ∧
  ∀ st2 stv2 evs ew Z1 H1, Same Z Z1 → SH Z1 ((me, cWalk.ob K mx [.ref pg, .ref li, .ref he, .ref st2, tk, .int (s'.held : Nat), fin, .ref no]) :: (st2, .lst stv2) :: (no, .lst (nov ++ ew)) :: L) H1 → WStk K Z1 g s' stv2 → s'.ev = ev ++ evs → Paired (EvAt Z1 g) evs ew → Q .non H1
theorem aw_hold {env : AEnv} {a : V} {h : Hd} (e : aw env a = some (.hold h)) : ∃ x, eget env x = some (.hold h) := by
  cases a with
  | str x => exact ⟨x, e⟩
  | int i => cases e
  | _ => cases e
theorem ok_Walk_wait (T : Tx K mg) : Met P w K mg base 6 cWalk "wait" ["self", "names", "piece"] (spWalkWait (K := K)) := by
  refine mk_met (c := cWalk) (F_Walk_wait T) (m_Walk_wait T) sc_Walk_wait (fun _ _ _ _ _ _ us hl => match us, hl with | [_, _, _], _ => rfl) ?len ?body
  case len =>
    rintro vs H Q E ⟨Z, L, g, a, pg, me, mx, st, no, nm, li, he, tk, fin, pcv, topv, bs, nov, kvs, b, low, note, t, n, hd, env, ev, s', rfl, _⟩
    rfl
  case body =>
    rintro cdv A outer s H vs Q E hr ⟨Z, L, g, a, pg, me, mx, st, no, nm, li, he, tk, fin, pcv, topv, bs, nov, kvs, b, low, note, t, n, hd, env, ev, s', rfl, S, A1, hli, hhe, hll, hnl, htop, hnm, henv, hb, hpc, hwt, hbase, hst, hhl, q⟩
    refine ⟨_, (pss_one (ps_if (pt_cmpR op_eq (pe_ix (ix_anyK (K := K)) (pv 2) pe_int (fun _ _ => rfl)) pe_str (nomark _)) (pss_one (ps_expr (pe_metK (K := K) (ok_cWalk T) (ok_Walk_begin T) hr (by decide +kernel) (pv 0) (pa_cons (pe_tup (pa_cons pe_str (pa_cons (pe_ix (ix_anyK (K := K)) (pv 2) pe_int (fun _ _ => rfl)) pa_nil))) (pa_cons (pe_lc (own := [("atom", 3)]) (g := gName 3) (tt := tYes) (by rfl) sc_Walk_wait.nd (pi_listK (K := K) (pe_ix (ix_anyK (K := K)) (pv 2) pe_int (fun _ _ => rfl))) (blkOk_by (own := [("atom", 3)]) (N := ["self", "names", "piece", "atom"]) (sc := defScope s_Walk_wait) (by decide +kernel)) (fun _ _ _ _ _ => (pg_name (i := 3) sc_Walk_wait.nd rfl (Or.inl rfl))) (fun _ _ _ _ _ => pts_nil) (fun _ _ _ _ _ => (pe_cal (ok_worth T) hr (pa_cons (pv 1) (pa_cons (pv 3) pa_nil))))) pa_nil))))) (pss_one (ps_if (pt_cmpR op_eq (pe_ix (ix_anyK (K := K)) (pv 2) pe_int (fun _ _ => rfl)) pe_str (nomark _)) (pss_cons (ps_expr (pe_bmK (K := K) (pe_bm PySem.F.plainAttrs_list PySem.F.slot_list_append PySem.F.type_list_append mt_append (pe_atK (K := K) (c := cWalk) (i := 3) (ok_cWalk T) (pv 0)) (pa_cons (pe_tup (pa_cons pe_str (pa_cons (pe_ix (ix_anyK (K := K)) (pv 2) pe_int (fun _ _ => rfl)) (pa_cons (pe_cal (ok_worth T) hr (pa_cons (pv 1) (pa_cons (pe_ix (ix_anyK (K := K)) (pv 2) pe_int (fun _ _ => rfl)) pa_nil))) pa_nil)))) pa_nil)))) (pss_cons (ps_expr (pe_bmK (K := K) (pe_bm PySem.F.plainAttrs_list PySem.F.slot_list_append PySem.F.type_list_append mt_append (pe_atK (K := K) (c := cWalk) (i := 7) (ok_cWalk T) (pv 0)) (pa_cons (pe_tup (pa_cons pe_str (pa_cons (pe_ix (ix_anyK (K := K)) (pv 2) pe_int (fun _ _ => rfl)) pa_nil))) pa_nil)))) (pss_one (ps_expr (pe_metK (K := K) (ok_cWalk T) (ok_Walk_begin T) hr (by decide +kernel) (pv 0) (pa_cons (pe_tup (pa_cons pe_str (pa_cons (pe_ix (ix_anyK (K := K)) (pv 2) pe_int (fun _ _ => rfl)) pa_nil))) (pa_cons (pe_lc (own := [("atom", 3)]) (g := gName 3) (tt := tYes) (by rfl) sc_Walk_wait.nd (pi_tupK (K := K) (pe_ix (ix_anyK (K := K)) (pv 2) pe_int (fun _ _ => rfl))) (blkOk_by (own := [("atom", 3)]) (N := ["self", "names", "piece", "atom"]) (sc := defScope s_Walk_wait) (by decide +kernel)) (fun _ _ _ _ _ => (pg_name (i := 3) sc_Walk_wait.nd rfl (Or.inl rfl))) (fun _ _ _ _ _ => pts_nil) (fun _ _ _ _ _ => (pe_cal (ok_worth T) hr (pa_cons (pv 1) (pa_cons (pv 3) pa_nil))))) pa_nil))))))) (pss_one (ps_if (pt_cmpR op_eq (pe_ix (ix_anyK (K := K)) (pv 2) pe_int (fun _ _ => rfl)) pe_str (nomark _)) (pss_one (ps_expr (pe_metK (K := K) (ok_cWalk T) (ok_Walk_ask T) hr (by decide +kernel) (pv 0) (pa_cons (pe_ix (ix_anyK (K := K)) (pv 2) pe_int (fun _ _ => rfl)) (pa_cons (pe_cal (ok_worth T) hr (pa_cons (pv 1) (pa_cons (pe_ix (ix_anyK (K := K)) (pv 2) pe_int (fun _ _ => rfl)) pa_nil))) pa_nil))))) (pss_one (ps_expr (pe_metK (K := K) (ok_cWalk T) (ok_Walk_go_on T) hr (by decide +kernel) (pv 0) (pa_cons (pe_cal (ok_worth T) hr (pa_cons (pv 1) (pa_cons (pe_ix (ix_anyK (K := K)) (pv 2) pe_int (fun _ _ => rfl)) pa_nil))) (pa_cons (pe_cal (ok_worth T) hr (pa_cons (pv 1) (pa_cons (pe_ix (ix_anyK (K := K)) (pv 2) pe_int (fun _ _ => rfl)) pa_nil))) (pa_cons (pe_cal (ok_worth T) hr (pa_cons (pv 1) (pa_cons (pe_ix (ix_anyK (K := K)) (pv 2) pe_int (fun _ _ => rfl)) pa_nil))) pa_nil)))))))))))), ?_⟩
    show (_ : TS) _ ([some _, some _, some _, none] : L2.St) _
    have hbl := hbase.len
    cases hst with
    | @keep _ _ _ _ _ _ x av gs nx hs hp ha =>
      rw [hpc] at hp
      obtain rfl := Option.some.inj hp
      obtain ⟨p, w1, rfl, hpp, ⟨e, rfl, he0⟩, hnx⟩ := hb
      obtain ⟨va, ka, ra⟩ := henv.at ha
      wtm_at "wp"
      refine ⟨Z, _, nm, kvs, av, va, rfl, S, hnm, ka, fun H S => ?_⟩
      wtm_at "wp"
      wtm_at "un"
      wtm_at "wp"
      obtain ⟨S, hs1, hz1⟩ := S.pick (o := .tup [.str "keep", .str g.K, va]) (by wtm_at "pick")
      obtain ⟨S, hs2, hz2⟩ := S.pick (o := .tup [.str "keep", .str g.K]) (by wtm_at "pick")
      obtain ⟨S, hs3, hz3⟩ := S.pick (o := .tup [.str "def", .str g.f1]) (by wtm_at "pick")
      have hsA := (hs1.trans hs2).trans hs3
      refine ⟨_, (no, .lst (nov ++ [_])) :: L, g, a, pg, me, mx, st, D, p, _, _, _, _, _, _, bs ++ [topv] ++ [.ref _], [], .d1, [], rfl, S.sel (by wtm_at "sel"), A1.mono hsA, hz3, by simp only [List.length_append, List.length_cons, List.length_nil]; omega, .nil, rfl, fun tv Z1 H hs4 S hf => ?_⟩
      have hsB := hsA.trans hs4
      exact q _ _ [.keep] [_] _ _ hsB S ⟨_, tv, rfl, hf, bs ++ [topv], _, va, rfl, hs4 _ _ (hs3 _ _ (hs2 _ _ hz1)), ra.mono hsB, Paired.snoc_rev (Paired.mapP hbase fun _ _ z => WF.mono hsB z) (htop.mono hsB)⟩ rfl (.cons ⟨_, rfl, hs4 _ _ (hs3 _ _ hz2)⟩ .nil)
    | @ask _ _ env _ _ hs x av nx i hp ha =>
      rw [hpc] at hp
      obtain rfl := Option.some.inj hp
      obtain ⟨p, w1, rfl, hpp, hnx⟩ := hb
      obtain ⟨va, ka, ra⟩ := henv.at ha
      obtain rfl : va = .int i := ra
      obtain ⟨b0, kp, nv, rfl, hkp, hnv, hlow⟩ := hbase
      wtm_at "wp"
      refine ⟨Z, _, nm, kvs, av, _, rfl, S, hnm, ka, fun H S => ?_⟩
      wtm_at "wp"
      rw [List.append_assoc] at S
      have hfs := Paired.rev hlow
      rw [List.reverse_reverse] at hfs
      rw [List.length_append] at hbl
      refine ⟨Z, L, g, a, pg, me, mx, st, no, li, he, kp, tk, fin, nv, topv, b0, nov, low.reverse, hd, n, env, hs, i, rfl, S, A1, hhe, by omega, by omega, hfs, hkp, hnv, htop, fun st2 tv ev1 Z1 H hs1 S hev hf => ?_⟩
      exact q _ _ [.ask] [_] _ _ hs1 S ⟨b0, tv, rfl, hf, Paired.mapP hlow fun _ _ z => WF.mono hs1 z⟩ rfl (.cons hev .nil)
    | @go _ _ _ _ _ _ x hh av bv nx h i hs y qq c nx2 hp hh_ ha hb2 hp2 =>
      rw [hpc] at hp
      obtain rfl := Option.some.inj hp
      obtain ⟨p, w1, rfl, hpp, hnx⟩ := hb
      obtain ⟨vh, kh, rh⟩ := henv.at hh_
      obtain ⟨va, ka, ra⟩ := henv.at ha
      obtain rfl : va = .int i := ra
      obtain ⟨vb, kb, rb⟩ := henv.at hb2
      wtm_at "wp"
      refine ⟨Z, _, nm, kvs, hh, _, rfl, S, hnm, kh, fun H S => ?_⟩
      wtm_at "wp"
      refine ⟨Z, _, nm, kvs, av, _, rfl, S, hnm, ka, fun H S => ?_⟩
      wtm_at "wp"
      refine ⟨Z, _, nm, kvs, bv, _, rfl, S, hnm, kb, fun H S => ?_⟩
      wtm_at "wp"
      obtain ⟨xh, hxh⟩ := aw_hold hh_
      refine ⟨Z, L, g, me, mx, st, no, li, _, _, _, _, _, vh, vb, bs ++ [topv], nov, h, hs, i, y, qq, c, nx2, rfl, S, hli, by simp only [List.length_append, List.length_cons, List.length_nil]; omega, by omega, rh, rb, hp2, by have := hhl _ _ hxh; omega, fun kp tv ev1 Z1 H hs1 S hev hkp hf => ?_⟩
      rw [show bs ++ [topv] ++ [V.ref kp, tv] = (bs ++ [topv] ++ [V.ref kp]) ++ [tv] by simp] at S
      exact q _ _ [.go h.num] [_] _ _ hs1 S ⟨_, tv, rfl, hf, bs ++ [topv], kp, vb, rfl, hkp, rb.mono hs1, Paired.snoc_rev (Paired.mapP hbase fun _ _ z => WF.mono hs1 z) (htop.mono hs1)⟩ rfl (.cons hev .nil)
    | mk hp hm => rw [hpc] at hp; obtain rfl := Option.some.inj hp; cases hm <;> exact hwt.elim
    | tell hp _ => rw [hpc] at hp; obtain rfl := Option.some.inj hp; exact hwt.elim
    | iff hp _ _ => rw [hpc] at hp; obtain rfl := Option.some.inj hp; exact hwt.elim
    | case0 hp _ _ _ => rw [hpc] at hp; obtain rfl := Option.some.inj hp; exact hwt.elim
    | case1 hp _ _ => rw [hpc] at hp; obtain rfl := Option.some.inj hp; exact hwt.elim
    | giveK hp _ => rw [hpc] at hp; obtain rfl := Option.some.inj hp; exact hwt.elim
    | giveP hp _ _ _ => rw [hpc] at hp; obtain rfl := Option.some.inj hp; exact hwt.elim
end
end AL
/-! C8 -/
namespace AL
open PySem PySem.Spec PyProof.Rows L2
section
variable {P : Program} {w : World} {K : PySem.W.Frag} {mg : Str → Option Value} {base : Heap}
def spWalkTurn : Sp := fun vs H Q _ => ∃ (Z : Hp) (L : Lx) (g : Pg) (a : PgA) (pg me mx st no li he : Addr) (tk : Nat) (stv nov : List V) (s : AS),
  vs = [.ref me] ∧
  SH Z ((me, cWalk.ob K mx [.ref pg, .ref li, .ref he, .ref st, .int (tk : Nat), .int (s.held : Nat), .non, .ref no]) :: (st, .lst stv) :: (no, .lst nov) :: L) H ∧ ProgAt Z g a pg ∧ ListedAt Z g li ∧ HearsAt Z g he ∧ AFit s ∧ nov.length ≤ 3000 ∧ WStk K Z g s stv ∧
  ((∃ s', AStep g s s' ∧ ∀ st2 stv2 evs ew Z1 H1, Same Z Z1 → SH Z1 ((me, cWalk.ob K mx [.ref pg, .ref li, .ref he, .ref st2, .int ((tk + 1 : Nat) : Int), .int (s'.held : Nat), .non, .ref no]) :: (st2, .lst stv2) :: (no, .lst (nov ++ ew)) :: L) H1 → WStk K Z1 g s' stv2 → s'.ev = s.ev ++ evs → Paired (EvAt Z1 g) evs ew → Q (.bl true) H1) ∨
   (∃ i, AEnd g s i ∧ ∀ fp st2 Z1 H1, Same Z Z1 → SH Z1 ((me, cWalk.ob K mx [.ref pg, .ref li, .ref he, .ref st2, .int ((tk + 1 : Nat) : Int), .int (s.held : Nat), .ref fp, .ref no]) :: (st2, .lst []) :: (no, .lst nov) :: L) H1 → Z1 fp = some (.tup [.str "gave", .int i]) → Q (.bl false) H1))
theorem ok_Walk_turn (T : Tx K mg) : Met P w K mg base 7 cWalk "turn" ["self"] (spWalkTurn (K := K)) := by
  refine mk_met (c := cWalk) (F_Walk_turn T) (m_Walk_turn T) sc_Walk_turn (fun _ _ _ _ _ _ us hl => match us, hl with | [_], _ => rfl) ?len ?body
  case len =>
    rintro vs H Q E ⟨Z, L, g, a, pg, me, mx, st, no, li, he, tk, stv, nov, s, rfl, _⟩
    rfl
  case body =>
    rintro cdv A outer s H vs Q E hr ⟨Z, L, g, a, pg, me, mx, st, no, li, he, tk, stv, nov, ⟨low, note, ⟨t, n, env⟩, hd, ev⟩, rfl, S, A1, hli, hhe, ⟨hf1, hf2, hf3, hf4, hf5, hhl⟩, hnl, ⟨bs, topv, rfl, htop, hbase⟩, hc⟩
    refine ⟨_, (pss_cons (ps_if (pt_cmpR op_isNon (pe_atK (K := K) (c := cWalk) (i := 6) (ok_cWalk T) (pv 0)) pe_non (nomark _)) (pss_cons (ps_atK (K := K) (c := cWalk) (i := 4) (ok_cWalk T) (pv 0) (pe_op op_add (pe_atK (K := K) (c := cWalk) (i := 4) (ok_cWalk T) (pv 0)) pe_int)) (pss_cons (ps_asg (pe_bm0K (K := K) (pe_bm0 PySem.F.plainAttrs_list PySem.F.slot_list_pop PySem.F.type_list_pop mt_pop (pe_atK (K := K) (c := cWalk) (i := 3) (ok_cWalk T) (pv 0)))) (pg_tupK (K := K) (by rfl) (pgs_cons (pg_name (i := 1) sc_Walk_turn.nd rfl (Or.inl rfl)) (pgs_cons (pg_name (i := 2) sc_Walk_turn.nd rfl (Or.inl rfl)) (pgs_cons (pg_name (i := 3) sc_Walk_turn.nd rfl (Or.inl rfl)) (pgs_cons (pg_name (i := 4) sc_Walk_turn.nd rfl (Or.inl rfl)) pgs_nil)))))) (pss_cons (ps_set (i := 5) sc_Walk_turn.nd rfl (Or.inl rfl) (pe_ix (ix_anyK (K := K)) (pe_dget (hu_of hr) (pe_atK (K := K) (c := cWalk) (i := 1) (ok_cWalk T) (pv 0)) (pv 2) (fun _ _ => rfl)) (pv 3) (fun _ _ => rfl))) (pss_one (ps_if (pt_cmpR (op_in_seqK (K := K)) (pe_ix (ix_anyK (K := K)) (pv 5) pe_int (fun _ _ => rfl)) (pe_tup (pa_cons pe_str (pa_cons pe_str (pa_cons pe_str (pa_cons pe_str (pa_cons pe_str pa_nil)))))) (by first | rfl | exact nomark _)) (pss_one (ps_expr (pe_bmK (K := K) (pe_bm PySem.F.plainAttrs_list PySem.F.slot_list_append PySem.F.type_list_append mt_append (pe_atK (K := K) (c := cWalk) (i := 3) (ok_cWalk T) (pv 0)) (pa_cons (pe_tup (pa_cons (pv 1) (pa_cons (pv 2) (pa_cons (pe_op op_add (pv 3) pe_int) (pa_cons (pe_cal (ok_with_name T) hr (pa_cons (pv 4) (pa_cons (pe_ix (ix_anyK (K := K)) (pv 5) pe_int (fun _ _ => rfl)) (pa_cons (pe_cal (ok_made T) hr (pa_cons (pv 5) (pa_cons (pv 4) pa_nil))) pa_nil)))) pa_nil))))) pa_nil))))) (pss_one (ps_if (pt_cmpR (op_in_seqK (K := K)) (pe_ix (ix_anyK (K := K)) (pv 5) pe_int (fun _ _ => rfl)) (pe_tup (pa_cons pe_str (pa_cons pe_str (pa_cons pe_str pa_nil)))) (by first | rfl | exact nomark _)) (pss_one (ps_expr (pe_metK (K := K) (ok_cWalk T) (ok_Walk_pass_on T) hr (by decide +kernel) (pv 0) (pa_cons (pv 2) (pa_cons (pv 3) (pa_cons (pv 4) (pa_cons (pv 5) pa_nil))))))) (pss_one (ps_if (pt_cmpR op_eq (pe_ix (ix_anyK (K := K)) (pv 5) pe_int (fun _ _ => rfl)) pe_str (nomark _)) (pss_one (ps_expr (pe_metK (K := K) (ok_cWalk T) (ok_Walk_give T) hr (by decide +kernel) (pv 0) (pa_cons (pe_cal (ok_worth T) hr (pa_cons (pv 4) (pa_cons (pe_ix (ix_anyK (K := K)) (pv 5) pe_int (fun _ _ => rfl)) pa_nil))) pa_nil)))) (pss_cons (ps_expr (pe_bmK (K := K) (pe_bm PySem.F.plainAttrs_list PySem.F.slot_list_append PySem.F.type_list_append mt_append (pe_atK (K := K) (c := cWalk) (i := 3) (ok_cWalk T) (pv 0)) (pa_cons (pe_tup (pa_cons (pv 1) (pa_cons (pv 2) (pa_cons (pv 3) (pa_cons (pv 4) pa_nil))))) pa_nil)))) (pss_one (ps_expr (pe_metK (K := K) (ok_cWalk T) (ok_Walk_wait T) hr (by decide +kernel) (pv 0) (pa_cons (pv 4) (pa_cons (pv 5) pa_nil))))))))))))))) pss_nil) (pss_one (ps_ret (pe_cmpR op_isNon (pe_atK (K := K) (c := cWalk) (i := 6) (ok_cWalk T) (pv 0)) pe_non (nomark _))))), ?_⟩
    show (_ : TS) _ ([some _, none, none, none, none, none] : L2.St) _
    have htop0 := htop
    obtain ⟨tp, pa, nm, kvs, rfl, htp, hpa, hnm, henv⟩ := htop
    have hkl := henv.len
    have hbl := hbase.len
    have hli0 := hli
    obtain ⟨lkv, hlk, hall⟩ := hli
    obtain ⟨l, ws, hl1, hl2, hl3⟩ := hall t
    rcases hc with ⟨s', hst, q⟩ | ⟨i, hend, q⟩
    · have hst0 := hst
      simp only [← intN tk] at q
      wtm_at "wp"
      refine k_dgetP S (.z hlk) (.z hpa) hl1 ?_
      cases hst with
      | @mk _ _ _ _ _ _ _ b x av hp hm =>
        obtain ⟨pw, hw1, hb⟩ := Paired.get hl3 hp
        have hm0 := hm
        cases hm <;> (
          have hb0 := hb
          obtain ⟨p, w1, rfl, hpp, hnx⟩ := hb
          wtm_at "wp"
          refine ⟨_, Z, _, _, _, nm, kvs, env, _, _, rfl, S, hb0, hnm, henv, hm0, fun r Z1 H hs1 S hr => ?_⟩
          wtm_at "wp"
          refine ⟨Z1, _, nm, kvs, _, r, rfl, S, hs1 _ _ hnm, by omega, fun n2 Z2 H hs2 S hn2 => ?_⟩
          wtm_at "wp"
          obtain ⟨S, hs3, hz3⟩ := S.pick (by wtm_at "pick")
          have hsB := hs2.trans hs3
          have hsA := hs1.trans hsB
          exact q _ _ [] [] _ _ hsA (by rw [List.append_nil]; exact S.sub (by wtm_at "sub")) ⟨bs, _, rfl, ⟨_, pa, n2, _, rfl, hz3, hsA _ _ hpa, hs3 _ _ hn2, (henv.mono hsA).put (hr.mono hsB)⟩, hbase.mono hsA⟩ (by simp) .nil)
      | @tell _ _ _ _ _ _ _ av nx i hp ha =>
        obtain ⟨pw, hw1, hb⟩ := Paired.get hl3 hp
        have hb0 := hb
        obtain ⟨p, w1, rfl, hpp, hnx⟩ := hb
        wtm_at "wp"
        refine ⟨Z, _, g, me, mx, st, no, pa, nm, _, _, _, _, _, _, _, bs, nov, t, n, _, env, _, kvs, _, [.tell i], rfl, S.sel (by wtm_at "sel"), hb0, hpa, hnm, henv, by exact Nat.le_trans hf3 (by decide), by omega, by omega, .tell ha, fun topv ew Z1 H hs1 S hev hf => ?_⟩
        wtm_at "wp"
        exact q _ _ [.tell i] ew _ _ hs1 S ⟨bs, topv, rfl, hf, hbase.mono hs1⟩ (by simp) hev
      | @iff _ _ _ _ _ _ _ av b1 b2 i hp hl ha =>
        obtain ⟨pw, hw1, hb⟩ := Paired.get hl3 hp
        have hb0 := hb
        obtain ⟨p, w1, w2, rfl, hpp, hx1, hx2⟩ := hb
        wtm_at "wp"
        refine ⟨Z, _, g, me, mx, st, no, pa, nm, _, _, _, _, _, _, _, bs, nov, t, n, _, env, _, kvs, _, [], rfl, S.sel (by wtm_at "sel"), hb0, hpa, hnm, henv, by exact Nat.le_trans hf3 (by decide), by omega, by omega, .iff hl ha, fun topv ew Z1 H hs1 S hev hf => ?_⟩
        wtm_at "wp"
        exact q _ _ [] ew _ _ hs1 S ⟨bs, topv, rfl, hf, hbase.mono hs1⟩ (by simp) hev
      | @case0 _ _ _ _ _ _ _ r b1 x y b2 hp hr2 _ _ =>
        obtain ⟨pw, hw1, hb⟩ := Paired.get hl3 hp
        have hb0 := hb
        obtain ⟨p, w1, w2, rfl, hpp, hx1, hx2⟩ := hb
        wtm_at "wp"
        refine ⟨Z, _, g, me, mx, st, no, pa, nm, _, _, _, _, _, _, _, bs, nov, t, n, _, env, _, kvs, _, [], rfl, S.sel (by wtm_at "sel"), hb0, hpa, hnm, henv, by exact Nat.le_trans hf3 (by decide), by omega, by omega, .case0 hr2, fun topv ew Z1 H hs1 S hev hf => ?_⟩
        wtm_at "wp"
        exact q _ _ [] ew _ _ hs1 S ⟨bs, topv, rfl, hf, hbase.mono hs1⟩ (by simp) hev
      | @case1 _ _ _ _ _ _ _ r b1 x y b2 h hs hp hl hr2 =>
        obtain ⟨pw, hw1, hb⟩ := Paired.get hl3 hp
        have hb0 := hb
        obtain ⟨p, w1, w2, rfl, hpp, hx1, hx2⟩ := hb
        wtm_at "wp"
        refine ⟨Z, _, g, me, mx, st, no, pa, nm, _, _, _, _, _, _, _, bs, nov, t, n, _, env, _, kvs, _, [], rfl, S.sel (by wtm_at "sel"), hb0, hpa, hnm, henv, by exact Nat.le_trans hf3 (by decide), by omega, by omega, .case1 hl hr2, fun topv ew Z1 H hs1 S hev hf => ?_⟩
        wtm_at "wp"
        exact q _ _ [] ew _ _ hs1 S ⟨bs, topv, rfl, hf, hbase.mono hs1⟩ (by simp) hev
      | @keep _ _ _ _ _ _ x av gs nx hs hp ha =>
        obtain ⟨pw, hw1, hb⟩ := Paired.get hl3 hp
        have hb0 := hb
        obtain ⟨p, w1, rfl, hpp, ⟨e0, rfl, he0⟩, hnx⟩ := hb
        wtm_at "wp"
        obtain ⟨S, hs1, hz1⟩ := S.pick (p := _) (o := .tup [.str "part", .ref pa, .int (n : Nat), .ref nm]) (by wtm_at "pick")
        refine ⟨_, _, g, a, pg, me, mx, st, no, nm, li, he, _, _, _, _, bs, nov, kvs, _, _, _, t, n, hd, _, ev, _, rfl, S.sel (by wtm_at "sel"), A1.mono hs1, hli0.mono hs1, hhe.mono hs1, by exact Nat.le_trans hf1 (by decide), by omega, ⟨_, pa, nm, kvs, rfl, hz1, hs1 _ _ hpa, hs1 _ _ hnm, henv.mono hs1⟩, hs1 _ _ hnm, henv.mono hs1, hb0.mono hs1, hp, True.intro, hbase.mono hs1, hst0, hhl, fun st2 stv2 evs ew Z1 H hs2 S hstk hev hpe => ?_⟩
        wtm_at "wp"
        exact q _ _ evs ew _ _ (hs1.trans hs2) S hstk hev hpe
      | @ask _ _ env _ _ hs x av nx i hp ha =>
        obtain ⟨pw, hw1, hb⟩ := Paired.get hl3 hp
        have hb0 := hb
        obtain ⟨p, w1, rfl, hpp, hnx⟩ := hb
        wtm_at "wp"
        obtain ⟨S, hs1, hz1⟩ := S.pick (p := _) (o := .tup [.str "part", .ref pa, .int (n : Nat), .ref nm]) (by wtm_at "pick")
        refine ⟨_, _, g, a, pg, me, mx, st, no, nm, li, he, _, _, _, _, bs, nov, kvs, _, _, _, .d1, n, hd, _, ev, _, rfl, S.sel (by wtm_at "sel"), A1.mono hs1, hli0.mono hs1, hhe.mono hs1, by exact Nat.le_trans hf1 (by decide), by omega, ⟨_, pa, nm, kvs, rfl, hz1, hs1 _ _ hpa, hs1 _ _ hnm, henv.mono hs1⟩, hs1 _ _ hnm, henv.mono hs1, hb0.mono hs1, hp, True.intro, hbase.mono hs1, hst0, hhl, fun st2 stv2 evs ew Z1 H hs2 S hstk hev hpe => ?_⟩
        wtm_at "wp"
        exact q _ _ evs ew _ _ (hs1.trans hs2) S hstk hev hpe
      | @go _ _ _ _ _ _ x hh av bv nx h i hs y qq c nx2 hp hh_ ha hb2 hp2 =>
        obtain ⟨pw, hw1, hb⟩ := Paired.get hl3 hp
        have hb0 := hb
        obtain ⟨p, w1, rfl, hpp, hnx⟩ := hb
        wtm_at "wp"
        obtain ⟨S, hs1, hz1⟩ := S.pick (p := _) (o := .tup [.str "part", .ref pa, .int (n : Nat), .ref nm]) (by wtm_at "pick")
        refine ⟨_, _, g, a, pg, me, mx, st, no, nm, li, he, _, _, _, _, bs, nov, kvs, _, _, _, t, n, hd, _, ev, _, rfl, S.sel (by wtm_at "sel"), A1.mono hs1, hli0.mono hs1, hhe.mono hs1, by exact Nat.le_trans hf1 (by decide), by omega, ⟨_, pa, nm, kvs, rfl, hz1, hs1 _ _ hpa, hs1 _ _ hnm, henv.mono hs1⟩, hs1 _ _ hnm, henv.mono hs1, hb0.mono hs1, hp, True.intro, hbase.mono hs1, hst0, hhl, fun st2 stv2 evs ew Z1 H hs2 S hstk hev hpe => ?_⟩
        wtm_at "wp"
        exact q _ _ evs ew _ _ (hs1.trans hs2) S hstk hev hpe
      | @giveK _ hs _ _ _ _ _ av i hp ha =>
        obtain ⟨pw, hw1, hb⟩ := Paired.get hl3 hp
        obtain ⟨p, rfl, hpp⟩ := hb
        obtain ⟨va, ka, ra⟩ := henv.at ha
        obtain rfl : va = .int i := ra
        obtain ⟨b0, kp, nv, rfl, hkp, hnv, hlow⟩ := hbase
        wtm_at "wp"
        refine ⟨Z, _, nm, kvs, av, _, rfl, S, hnm, ka, fun H S => ?_⟩
        wtm_at "wp"
        refine ⟨Z, L, g, a, pg, me, mx, st, no, li, _, _, _, _, b0 ++ [.ref kp], nov, low, some hs, i, rfl, S.sel (by wtm_at "sel"), A1, hli0, by omega, by omega, .inl ⟨hs, b0, kp, nv, rfl, rfl, hkp, hnv, fun topv ev1 Z1 H hs1 S hev hf => ?_⟩⟩
        wtm_at "wp"
        exact q _ _ [.ended] [_] _ _ hs1 S ⟨b0, topv, rfl, hf, Paired.mapP hlow fun _ _ z => WF.mono hs1 z⟩ rfl (.cons hev .nil)
      | @giveP low2 t2 n2 env2 _ _ _ _ _ av i b x hp ha hp2 hw =>
        obtain ⟨pw, hw1, hb⟩ := Paired.get hl3 hp
        obtain ⟨p, rfl, hpp⟩ := hb
        obtain ⟨va, ka, ra⟩ := henv.at ha
        obtain rfl : va = .int i := ra
        obtain ⟨fv, b0, rfl, hfv, hlow⟩ : ∃ fv b0, bs = b0 ++ [fv] ∧ WF K Z g ⟨t2, n2, env2⟩ fv ∧ Paired (WF K Z g) low2 b0.reverse := by
          have hb : Paired (WF K Z g) (⟨t2, n2, env2⟩ :: low2) bs.reverse := hbase
          generalize hbr : bs.reverse = br at hb
          cases hb with
          | @cons _ fv _ r h1 h2 =>
            refine ⟨fv, r.reverse, ?_, h1, by rw [List.reverse_reverse]; exact h2⟩
            have := congrArg List.reverse hbr
            rw [List.reverse_reverse, List.reverse_cons] at this
            exact this
        have hbx : BdX b x := by
          rcases hw with ⟨_, _, _, _, _, rfl⟩ | ⟨_, _, _, _, rfl⟩
          · exact .keep
          · exact .go
        wtm_at "wp"
        refine ⟨Z, _, nm, kvs, av, _, rfl, S, hnm, ka, fun H S => ?_⟩
        wtm_at "wp"
        refine ⟨Z, L, g, a, pg, me, mx, st, no, li, _, _, _, _, b0 ++ [fv], nov, low2, none, i, rfl, S.sel (by wtm_at "sel"), A1, hli0, by omega, by omega, .inr (.inl ⟨⟨t2, n2, env2⟩, b, x, b0, fv, rfl, rfl, hfv, hp2, hbx, Nat.le_trans (hf4 _ List.mem_cons_self) (by decide), fun topv Z1 H hs1 S hf => ?_⟩)⟩
        wtm_at "wp"
        exact q _ _ [] [] _ _ hs1 (by rw [List.append_nil]; exact S) ⟨b0, topv, rfl, hf, Paired.mapP hlow fun _ _ z => WF.mono hs1 z⟩ (by simp) .nil
    · obtain ⟨e1, e2, av, hp, ha⟩ := hend
      simp only [← intN tk] at q
      obtain rfl : low = [] := e1
      obtain rfl : note = none := e2
      obtain rfl : bs = [] := by
        have hb : Paired (WF K Z g) [] bs.reverse := hbase
        generalize hbr : bs.reverse = br at hb
        cases hb
        simpa using hbr
      obtain ⟨pw, hw1, hb⟩ := Paired.get hl3 hp
      obtain ⟨p, rfl, hpp⟩ := hb
      obtain ⟨va, ka, ra⟩ := henv.at ha
      obtain rfl : va = .int i := ra
      wtm_at "wp"
      refine k_dgetP S (.z hlk) (.z hpa) hl1 ?_
      wtm_at "wp"
      refine ⟨Z, _, nm, kvs, av, _, rfl, S, hnm, ka, fun H S => ?_⟩
      wtm_at "wp"
      refine ⟨Z, L, g, a, pg, me, mx, st, no, li, _, _, _, _, [], nov, [], none, i, rfl, S.sel (by wtm_at "sel"), A1, hli0, by decide, by omega, .inr (.inr ⟨rfl, fun fp Z1 H hs1 S hfp => ?_⟩)⟩
      wtm_at "wp"
      exact q _ _ _ _ hs1 S hfp
end
end AL
/-! C9 -/
namespace AL
open PySem PySem.Spec PyProof.Rows L2
theorem listed4 {Z : Hp} {g : Pg} {li l0 l1 l2 l3 : Addr} {w0 w1 w2 w3 : List V} (ne : g.f0 ≠ g.f1) (h : Z li = some (.dT (putK (putK (putK (putK [] (Pt.key g .en) (.ref l0)) (Pt.key g .hr) (.ref l1)) (Pt.key g .d0) (.ref l2)) (Pt.key g .d1) (.ref l3))))
    (h0 : Z l0 = some (.lst w0)) (h1 : Z l1 = some (.lst w1)) (h2 : Z l2 = some (.lst w2)) (h3 : Z l3 = some (.lst w3)) (q0 : BdsAt Z (Pt.body g .en).pcs w0) (q1 : BdsAt Z (Pt.body g .hr).pcs w1) (q2 : BdsAt Z (Pt.body g .d0).pcs w2) (q3 : BdsAt Z (Pt.body g .d1).pcs w3) : ListedAt Z g li := by
  refine ⟨_, h, fun t => ?_⟩
  have n01 : Pt.key g .en ≠ Pt.key g .hr := fun e => by cases Pt.key_inj ne e
  have n02 : Pt.key g .en ≠ Pt.key g .d0 := fun e => by cases Pt.key_inj ne e
  have n03 : Pt.key g .en ≠ Pt.key g .d1 := fun e => by cases Pt.key_inj ne e
  have n12 : Pt.key g .hr ≠ Pt.key g .d0 := fun e => by cases Pt.key_inj ne e
  have n13 : Pt.key g .hr ≠ Pt.key g .d1 := fun e => by cases Pt.key_inj ne e
  have n23 : Pt.key g .d0 ≠ Pt.key g .d1 := fun e => by cases Pt.key_inj ne e
  simp only [valV_put]
  cases t with
  | en => rw [if_neg n03, if_neg n02, if_neg n01, if_pos rfl]; exact ⟨_, _, rfl, h0, q0⟩
  | hr => rw [if_neg n13, if_neg n12, if_pos rfl]; exact ⟨_, _, rfl, h1, q1⟩
  | d0 => rw [if_neg n23, if_pos rfl]; exact ⟨_, _, rfl, h2, q2⟩
  | d1 => rw [if_pos rfl]; exact ⟨_, _, rfl, h3, q3⟩
section
variable {P : Program} {w : World} {K : PySem.W.Frag} {mg : Str → Option Value} {base : Heap}
def spWalkInit : Sp := fun vs H Q _ => ∃ (Z : Hp) (L : Lx) (g : Pg) (a : PgA) (pg me mx ar : Addr), vs = [.ref me, .ref pg, .str g.f0, .ref ar] ∧
  SH Z ((me, cWalk.ob K mx []) :: L) H ∧ ProgAt Z g a pg ∧ Z ar = some (.lst []) ∧ (∀ t : Pt, (t.body g).pcs.length ≤ 1000) ∧
  ∀ li he st no topv Z1 H1, Same Z Z1 → SH Z1 ((me, cWalk.ob K mx [.ref pg, .ref li, .ref he, .ref st, .int 0, .int 0, .non, .ref no]) :: (st, .lst [topv]) :: (no, .lst []) :: L) H1 → ListedAt Z1 g li → HearsAt Z1 g he → WF K Z1 g ⟨.d0, 0, []⟩ topv → Q .non H1
theorem ok_Walk_init (T : Tx K mg) : Mak P w K mg base 5 cWalk ["self", "program", "f", "args"] (spWalkInit (K := K)) := by
  refine mk_mak (c := cWalk) (F_Walk_init T) (g_Walk T) (k_Walk T) sc_Walk_init (fun _ _ _ _ _ _ us hl => match us, hl with | [_, _, _, _], _ => rfl) ?len ?body
  case len =>
    rintro vs H Q E ⟨Z, L, g, a, pg, me, mx, ar, rfl, _⟩
    rfl
  case body =>
    rintro cdv A outer s H vs Q E hr ⟨Z, L, g, a, pg, me, mx, ar, rfl, S, A1, har, hpl, q⟩
    refine ⟨_, (pss_cons (ps_atK (K := K) (c := cWalk) (i := 0) (ok_cWalk T) (pv 0) (pv 1)) (pss_cons (ps_atK (K := K) (c := cWalk) (i := 1) (ok_cWalk T) (pv 0) pe_dnewT) (pss_cons (ps_for PassesOwn.never rfl (pi_listK (K := K) (pe_cal (ok_all_parts T) hr (pa_cons (pv 1) pa_nil))) (pg_name (i := 4) sc_Walk_init.nd rfl (Or.inl rfl)) (pss_one (ps_dput (hu_of hr) (pe_atK (K := K) (c := cWalk) (i := 1) (ok_cWalk T) (pv 0)) (pv 4) (pe_cal (ok_pieces T) hr (pa_cons (pe_cal (ok_body_of T) hr (pa_cons (pv 1) (pa_cons (pv 4) pa_nil))) pa_nil)) rfl))) (pss_cons (ps_atK (K := K) (c := cWalk) (i := 2) (ok_cWalk T) (pv 0) (pe_cal (ok_heard_by T) hr (pa_cons (pv 1) pa_nil))) (pss_cons (ps_atK (K := K) (c := cWalk) (i := 3) (ok_cWalk T) (pv 0) (pe_lst pa_nil)) (pss_cons (ps_atK (K := K) (c := cWalk) (i := 4) (ok_cWalk T) (pv 0) pe_int) (pss_cons (ps_atK (K := K) (c := cWalk) (i := 5) (ok_cWalk T) (pv 0) pe_int) (pss_cons (ps_atK (K := K) (c := cWalk) (i := 6) (ok_cWalk T) (pv 0) pe_non) (pss_cons (ps_atK (K := K) (c := cWalk) (i := 7) (ok_cWalk T) (pv 0) (pe_lst pa_nil)) (pss_one (ps_expr (pe_metK (K := K) (ok_cWalk T) (ok_Walk_begin T) hr (by decide +kernel) (pv 0) (pa_cons (pe_tup (pa_cons pe_str (pa_cons (pv 2) pa_nil))) (pa_cons (pe_callTy call_listOf (by rfl) (b_list T) (by decide +kernel) (pa_cons (pv 3) pa_nil)) pa_nil)))))))))))))), ?_⟩
    show (_ : TS) _ ([some _, some _, some _, some _, none] : L2.St) _
    wtm_at "wp"
    rename Addr => li
    refine ⟨Z, _, g, a, pg, rfl, S, A1, fun r Z1 H t0 t1 t2 t3 hs S hr h0 h1 h2 h3 => ?_⟩
    have A2 := A1.mono hs
    have har1 := hs _ _ har
    wtm_at "un"
    wtm_at "wp"
    refine ⟨Z1, _, g, a, pg, .en, _, rfl, S, A2, ⟨t0, rfl, h0⟩, fun v0 H S b0 => ?_⟩
    wtm_at "wp"
    refine ⟨Z1, _, _, _, rfl, S, b0, hpl .en, fun l0 H w0 S q0 => ?_⟩
    wtm_at "wp"
    refine ⟨Z1, _, g, a, pg, .hr, _, rfl, S, A2, ⟨t1, rfl, h1⟩, fun v1 H S b1 => ?_⟩
    wtm_at "wp"
    refine ⟨Z1, _, _, _, rfl, S, b1, hpl .hr, fun l1 H w1 S q1 => ?_⟩
    wtm_at "wp"
    refine ⟨Z1, _, g, a, pg, .d0, _, rfl, S, A2, ⟨t2, rfl, h2⟩, fun v2 H S b2 => ?_⟩
    wtm_at "wp"
    refine ⟨Z1, _, _, _, rfl, S, b2, hpl .d0, fun l2 H w2 S q2 => ?_⟩
    wtm_at "wp"
    refine ⟨Z1, _, g, a, pg, .d1, _, rfl, S, A2, ⟨t3, rfl, h3⟩, fun v3 H S b3 => ?_⟩
    wtm_at "wp"
    refine ⟨Z1, _, _, _, rfl, S, b3, hpl .d1, fun l3 H w3 S q3 => ?_⟩
    wtm_at "wp"
    obtain ⟨S, hs1, hz1⟩ := S.pick (p := l0) (by wtm_at "pick")
    obtain ⟨S, hs2, hz2⟩ := S.pick (p := l1) (by wtm_at "pick")
    obtain ⟨S, hs3, hz3⟩ := S.pick (p := l2) (by wtm_at "pick")
    obtain ⟨S, hs4, hz4⟩ := S.pick (p := l3) (by wtm_at "pick")
    obtain ⟨S, hs5, hz5⟩ := S.pick (p := li) (by wtm_at "pick")
    have hsA := (((hs1.trans hs2).trans hs3).trans hs4).trans hs5
    have A3 := A2.mono hsA
    have har2 := hsA _ _ har1
    have hli := listed4 (g := g) A1.ne hz5 (hs5 _ _ (hs4 _ _ (hs3 _ _ (hs2 _ _ hz1)))) (hs5 _ _ (hs4 _ _ (hs3 _ _ hz2))) (hs5 _ _ (hs4 _ _ hz3)) (hs5 _ _ hz4) (BdsAt.mono hsA q0) (BdsAt.mono hsA q1) (BdsAt.mono hsA q2) (BdsAt.mono hsA q3)
    clear hz1 hz2 hz3 hz4 hz5 q0 q1 q2 q3
    generalize hZg : upd _ _ _ = Zg at S A3 har2 hsA hli
    clear hZg
    refine ⟨Zg, _, g, a, pg, rfl, S, A3, fun he hl Z2 H hs6 S hr2 hl2 => ?_⟩
    have har3 := hs6 _ _ har2
    wtm_at "wp"
    obtain ⟨S, hs7, hz7⟩ := S.pick (o := .tup [.str "def", .str g.f0]) (by wtm_at "pick")
    have hs67 := hs6.trans hs7
    refine ⟨_, (_, .lst []) :: L, g, a, pg, me, mx, _, p, _, _, _, _, _, _, _, [], [], .d0, [], rfl, S.sel (by wtm_at "sel"), A3.mono hs67, hz7, by decide, .nil, rfl, fun topv Z3 H hs8 S hf => ?_⟩
    wtm_at "wp"
    exact q _ _ _ _ _ _ _ (((hs.trans hsA).trans hs67).trans hs8) (S.sel (by wtm_at "sel")) (hli.mono (hs67.trans hs8)) ⟨hl, hs8 _ _ (hs7 _ _ hr2), hs8 _ _ (hs7 _ _ hl2)⟩ hf
def spWalkGet (i : Nat) : Sp := fun vs H Q _ => ∃ (Z : Hp) (L : Lx) (me mx : Addr) (xs : List V) (v : V), vs = [.ref me] ∧ SH Z L H ∧ In Z L me (cWalk.ob K mx xs) ∧ xs[i]? = some v ∧ Q v H
theorem ok_Walk_steps (T : Tx K mg) : Met P w K mg base 1 cWalk "steps" ["self"] (spWalkGet (K := K) 4) := by
  refine mk_met (c := cWalk) (F_Walk_steps T) (m_Walk_steps T) sc_Walk_steps (fun _ _ _ _ _ _ us hl => match us, hl with | [_], _ => rfl) ?len ?body
  case len =>
    rintro vs H Q E ⟨Z, L, me, mx, xs, v, rfl, _⟩
    rfl
  case body =>
    rintro cdv A outer s H vs Q E hr ⟨Z, L, me, mx, xs, v, rfl, S, hin, hx, q⟩
    refine ⟨_, (pss_one (ps_ret (pe_atK (K := K) (c := cWalk) (i := 4) (ok_cWalk T) (pv 0)))), ?_⟩
    show (_ : TS) _ ([some _] : L2.St) _
    wtm_at "wp"
    exact k_at S hin hx q
theorem ok_Walk_end (T : Tx K mg) : Met P w K mg base 1 cWalk "end" ["self"] (spWalkGet (K := K) 6) := by
  refine mk_met (c := cWalk) (F_Walk_end T) (m_Walk_end T) sc_Walk_end (fun _ _ _ _ _ _ us hl => match us, hl with | [_], _ => rfl) ?len ?body
  case len =>
    rintro vs H Q E ⟨Z, L, me, mx, xs, v, rfl, _⟩
    rfl
  case body =>
    rintro cdv A outer s H vs Q E hr ⟨Z, L, me, mx, xs, v, rfl, S, hin, hx, q⟩
    refine ⟨_, (pss_one (ps_ret (pe_atK (K := K) (c := cWalk) (i := 6) (ok_cWalk T) (pv 0)))), ?_⟩
    show (_ : TS) _ ([some _] : L2.St) _
    wtm_at "wp"
    exact k_at S hin hx q
def spWalkBook : Sp := fun vs H Q _ => ∃ (Z : Hp) (L : Lx) (me mx no : Addr) (xs nov : List V), vs = [.ref me] ∧ SH Z L H ∧ In Z L me (cWalk.ob K mx xs) ∧ xs[7]? = some (.ref no) ∧ In Z L no (.lst nov) ∧ ∀ r Z1 H1, Same Z Z1 → SH Z1 L H1 → Z1 r = some (.lst nov) → Q (.ref r) H1
theorem ok_Walk_book (T : Tx K mg) : Met P w K mg base 1 cWalk "book" ["self"] (spWalkBook (K := K)) := by
  refine mk_met (c := cWalk) (F_Walk_book T) (m_Walk_book T) sc_Walk_book (fun _ _ _ _ _ _ us hl => match us, hl with | [_], _ => rfl) ?len ?body
  case len =>
    rintro vs H Q E ⟨Z, L, me, mx, no, xs, nov, rfl, _⟩
    rfl
  case body =>
    rintro cdv A outer s H vs Q E hr ⟨Z, L, me, mx, no, xs, nov, rfl, S, hin, hx, hno, q⟩
    refine ⟨_, (pss_one (ps_ret (pe_callTy call_listOf (by rfl) (b_list T) (by decide +kernel) (pa_cons (pe_atK (K := K) (c := cWalk) (i := 7) (ok_cWalk T) (pv 0)) pa_nil)))), ?_⟩
    show (_ : TS) _ ([some _] : L2.St) _
    wtm_at "wp"
    refine k_at S hin hx ?_
    wtm_at "wp"
    refine k_listOfL S hno fun p H S => ?_
    obtain ⟨S, hs1, hz1⟩ := S.pick (by wtm_at "pick")
    exact q _ _ _ hs1 S hz1
/-! ### ran -/
def AS0 : AS := ⟨[], none, ⟨.d0, 0, []⟩, 0, []⟩
def RunAt (Z : Hp) (g : Pg) (k : Nat) (evs : List Ev) (i : Int) (r : V) : Prop := ∃ p e b ws, r = .ref p ∧ Z p = some (.tup [.ref e, .int (k : Nat), .ref b]) ∧ Z e = some (.tup [.str "gave", .int i]) ∧ Z b = some (.lst ws) ∧ Paired (EvAt Z g) evs ws
def spRan : Sp := fun vs H Q _ => ∃ (Z : Hp) (L : Lx) (g : Pg) (a : PgA) (pg ar : Addr) (k : Nat) (evs : List Ev) (i : Int), vs = [.ref pg, .str g.f0, .ref ar, .int 600] ∧ SH Z L H ∧ ProgAt Z g a pg ∧ Z ar = some (.lst []) ∧ (∀ t : Pt, (t.body g).pcs.length ≤ 1000) ∧
  ARun g AS0 k evs i ∧ k < 600 ∧ ∀ r Z1 H1, Same Z Z1 → SH Z1 L H1 → RunAt Z1 g k evs i r → Q r H1
theorem ok_ran (T : Tx K mg) : Cal P w K mg base 8 "ran" ["program", "f", "args", "bound"] (spRan) := by
  refine mk_cal (F_ran T) (g_ran T) sc_ran (fun _ _ _ _ _ _ us hl => match us, hl with | [_, _, _, _], _ => rfl) ?len ?body
  case len =>
    rintro vs H Q E ⟨Z, L, g, a, pg, ar, k, evs, i, rfl, _⟩
    rfl
  case body =>
    rintro cdv A outer s H vs Q E hr ⟨Z, L, g, a, pg, ar, k, evs, i, rfl, S, A1, har, hpl, hrun, hk, q⟩
    refine ⟨_, (pss_cons (ps_set (i := 4) sc_ran.nd rfl (Or.inl rfl) (pe_makK (K := K) (c := cWalk) (ok_Walk_init T) hr (pa_cons (pv 0) (pa_cons (pv 1) (pa_cons (pv 2) pa_nil))))) (pss_cons (ps_while PassesOwn.never (PW.pt (pw_and (pt_cmpR op_lt (pe_met0K (K := K) (ok_cWalk T) (ok_Walk_steps T) hr (by decide +kernel) (pv 4)) (pv 3) (nomark _)) (pw_and1 (pt_cmpR op_isNon (pe_met0K (K := K) (ok_cWalk T) (ok_Walk_end T) hr (by decide +kernel) (pv 4)) pe_non (nomark _))))) (pss_one (ps_expr (pe_met0K (K := K) (ok_cWalk T) (ok_Walk_turn T) hr (by decide +kernel) (pv 4))))) (pss_cons (ps_set (i := 5) sc_ran.nd rfl (Or.inl rfl) (pe_met0K (K := K) (ok_cWalk T) (ok_Walk_end T) hr (by decide +kernel) (pv 4))) (pss_cons (ps_if (pt_cmpR op_isNon (pv 5) pe_non (nomark _)) (pss_one (ps_set (i := 5) sc_ran.nd rfl (Or.inl rfl) (pe_tup (pa_cons pe_str pa_nil)))) pss_nil) (pss_one (ps_ret (pe_tup (pa_cons (pv 5) (pa_cons (pe_met0K (K := K) (ok_cWalk T) (ok_Walk_steps T) hr (by decide +kernel) (pv 4)) (pa_cons (pe_met0K (K := K) (ok_cWalk T) (ok_Walk_book T) hr (by decide +kernel) (pv 4)) pa_nil)))))))))), ?_⟩
    show (_ : TS) _ ([some _, some _, some _, some _, none, none] : L2.St) _
    wtm_at "wp"
    refine ⟨Z, _, g, a, pg, x, dx, ar, rfl, S, A1, har, hpl, fun li he st no topv Z1 H hs S hli hhe hf => ⟨rfl, ?_⟩⟩
    wtm_at "wp"
    refine w_while (fun m σ H => σ = [some (.ref pg), some (.str g.f0), some (.ref ar), some (.int 600), some (.ref x), none] ∧
      ((∃ Z2 st stv nov s tk, Same Z1 Z2 ∧ SH Z2 ((x, cWalk.ob K dx [.ref pg, .ref li, .ref he, .ref st, .int (tk : Nat), .int (s.held : Nat), .non, .ref no]) :: (st, .lst stv) :: (no, .lst nov) :: L) H ∧ WStk K Z2 g s stv ∧ Paired (EvAt Z2 g) s.ev nov ∧ ARun g s m evs i ∧ tk + m = k) ∨
       (m = 0 ∧ ∃ Z2 st fp hd nov, Same Z1 Z2 ∧ SH Z2 ((x, cWalk.ob K dx [.ref pg, .ref li, .ref he, .ref st, .int (k : Nat), hd, .ref fp, .ref no]) :: (no, .lst nov) :: L) H ∧ Z2 fp = some (.tup [.str "gave", .int i]) ∧ Paired (EvAt Z2 g) evs nov)))
      k ⟨rfl, .inl ⟨Z1, st, [topv], [], AS0, 0, Same.refl _, S, ⟨[], topv, rfl, hf, .nil⟩, .nil, hrun, by omega⟩⟩ ?_
    rintro m σ H ⟨rfl, ⟨Z2, st, stv, nov, s, tk, hs2, S, hstk, hev, hrun, hm⟩ | ⟨rfl, Z2, st, fp, hd, nov, hs2, S, hfp, hev⟩⟩
    · wtm_at "wp"
      refine ⟨Z2, _, x, dx, _, _, rfl, S, by wtm_at "in", rfl, ?_⟩
      wtm_at "wp"
      have hkm : tk < 600 := by
        have : 1 ≤ m := by cases hrun <;> omega
        omega
      refine if_T (decide_eq_true (by omega)) ?_
      wtm_at "wp"
      refine ⟨Z2, _, x, dx, _, _, rfl, S, by wtm_at "in", rfl, ?_⟩
      wtm_at "wp"
      refine k_turn ?_
      wtm_at "wp"
      have hnl := hev.length
      cases hrun with
      | fin hf h =>
        refine ⟨Z2, L, g, a, pg, x, dx, st, no, li, he, tk, stv, nov, s, rfl, S, A1.mono (hs.trans hs2), hli.mono hs2, hhe.mono hs2, hf, by have := hf.2.1; omega, hstk, .inr ⟨i, h, fun fp st2 Z3 H hs3 S hfp => ?_⟩⟩
        wtm_at "wp"
        rw [hm] at S
        exact ⟨0, Nat.zero_lt_one, rfl, .inr ⟨rfl, Z3, st2, fp, _, nov, hs2.trans hs3, S.sel (by wtm_at "sel"), hfp, Paired.mapP hev fun _ _ z => EvAt.mono hs3 z⟩⟩
      | @step _ s1 m1 _ _ hf h hr =>
        refine ⟨Z2, L, g, a, pg, x, dx, st, no, li, he, tk, stv, nov, s, rfl, S, A1.mono (hs.trans hs2), hli.mono hs2, hhe.mono hs2, hf, by have := hf.2.1; omega, hstk, .inl ⟨s1, h, fun st2 stv2 evs2 ew Z3 H hs3 S hstk2 hev2 hpe => ?_⟩⟩
        wtm_at "wp"
        exact ⟨m1, Nat.lt_succ_self _, rfl, .inl ⟨Z3, st2, stv2, _, s1, tk + 1, hs2.trans hs3, S, hstk2, by rw [hev2]; exact Paired.app (Paired.mapP hev fun _ _ z => EvAt.mono hs3 z) hpe, hr, by omega⟩⟩
    · wtm_at "wp"
      refine ⟨Z2, _, x, dx, _, _, rfl, S, by wtm_at "in", rfl, ?_⟩
      wtm_at "wp"
      refine if_T (decide_eq_true (by omega)) ?_
      wtm_at "wp"
      refine ⟨Z2, _, x, dx, _, _, rfl, S, by wtm_at "in", rfl, ?_⟩
      wtm_at "wp"
      refine if_F (by rfl) ?_
      wtm_at "wp"
      refine ⟨Z2, _, x, dx, _, _, rfl, S, by wtm_at "in", rfl, ?_⟩
      wtm_at "wp"
      refine if_F (by rfl) ?_
      wtm_at "wp"
      refine ⟨Z2, _, x, dx, _, _, rfl, S, by wtm_at "in", rfl, ?_⟩
      wtm_at "wp"
      refine ⟨Z2, _, x, dx, no, _, nov, rfl, S, by wtm_at "in", rfl, by wtm_at "in", fun r Z3 H hs3 S hr => ?_⟩
      wtm_at "wp"
      obtain ⟨S, hs4, hz4⟩ := S.pick (by wtm_at "pick")
      have hsB := hs3.trans hs4
      exact q _ _ _ (((hs.trans hs2).trans hs3).trans hs4) (S.sub (by wtm_at "sub")) ⟨_, fp, r, nov, rfl, hz4, hsB _ _ hfp, hs4 _ _ hr, Paired.mapP hev fun _ _ z => EvAt.mono hsB z⟩
end
end AL
/-! D1 -/
namespace AL
open PySem PySem.Spec PyProof.Rows L2
/-! ### the stairs: holds -/
def SHd (K : PySem.W.Frag) (g : Pg) (Z : Hp) (h : Hd) (v : V) : Prop := ∃ p dx cl fl dfl pl tp pa nm kvs nv, v = .ref p ∧ Z p = some (cHold.ob K dx [.int (h.num : Nat), .ref cl]) ∧ Z cl = some (.lst [.ref fl]) ∧ Z fl = some (cFlight.ob K dfl [.str g.K, nv, .ref pl]) ∧ Z pl = some (.lst [.ref tp]) ∧
  Z tp = some (.tup [.ref pa, .int (h.at_ : Nat), .ref nm]) ∧ Z pa = some (.tup (Pt.d1.tup g)) ∧ Z nm = some (.dK kvs) ∧ IEnvAt kvs h.env
theorem SHd.mono {K : PySem.W.Frag} {g : Pg} {Z Z1 : Hp} {h : Hd} {v : V} (hs : Same Z Z1) (q : SHd K g Z h v) : SHd K g Z1 h v := by
  obtain ⟨p, dx, cl, fl, dfl, pl, tp, pa, nm, kvs, nv, e, h1, h2, h3, h4, h5, h6, h7, h8⟩ := q
  exact ⟨p, dx, cl, fl, dfl, pl, tp, pa, nm, kvs, nv, e, hs _ _ h1, hs _ _ h2, hs _ _ h3, hs _ _ h4, hs _ _ h5, hs _ _ h6, hs _ _ h7, h8⟩
def SRel (K : PySem.W.Frag) (g : Pg) : HRel := ⟨SHd K g, SHd.mono⟩
def SF (K : PySem.W.Frag) (Z : Hp) (g : Pg) (f : AF) (v : V) : Prop := ∃ p pa nm kvs, v = .ref p ∧ Z p = some (.tup [.ref pa, .int (f.n : Nat), .ref nm]) ∧ Z pa = some (.tup (f.t.tup g)) ∧ Z nm = some (.dK kvs) ∧ GEnv (SRel K g) Z f.env kvs
theorem SF.mono {K : PySem.W.Frag} {Z Z1 : Hp} {g : Pg} (hs : Same Z Z1) {f : AF} {v : V} (h : SF K Z g f v) : SF K Z1 g f v := by
  obtain ⟨p, pa, nm, kvs, e, h1, h2, h3, h4⟩ := h
  exact ⟨p, pa, nm, kvs, e, hs _ _ h1, hs _ _ h2, hs _ _ h3, h4.mono hs⟩
section
variable {P : Program} {w : World} {K : PySem.W.Frag} {mg : Str → Option Value} {base : Heap}
def spFlightInit : Sp := fun vs H Q _ => ∃ (Z : Hp) (L : Lx) (me dx : Addr) (a b c : V), vs = [.ref me, a, b, c] ∧ SH Z ((me, cFlight.ob K dx []) :: L) H ∧ ∀ H1, SH Z ((me, cFlight.ob K dx [a, b, c]) :: L) H1 → Q .non H1
theorem ok_Flight_init (T : Tx K mg) : Mak P w K mg base 1 cFlight ["self", "keeper", "note", "parts"] (spFlightInit (K := K)) := by
  refine mk_mak (c := cFlight) (F_Flight_init T) (g_Flight T) (k_Flight T) sc_Flight_init (fun _ _ _ _ _ _ us hl => match us, hl with | [_, _, _, _], _ => rfl) ?len ?body
  case len =>
    rintro vs H Q E ⟨Z, L, me, dx, a, b, c, rfl, _⟩
    rfl
  case body =>
    rintro cdv A outer s H vs Q E hr ⟨Z, L, me, dx, a, b, c, rfl, S, q⟩
    refine ⟨_, (pss_cons (ps_atK (K := K) (c := cFlight) (i := 0) (ok_cFlight T) (pv 0) (pv 1)) (pss_cons (ps_atK (K := K) (c := cFlight) (i := 1) (ok_cFlight T) (pv 0) (pv 2)) (pss_one (ps_atK (K := K) (c := cFlight) (i := 2) (ok_cFlight T) (pv 0) (pv 3))))), ?_⟩
    show (_ : TS) _ ([some _, some _, some _, some _] : L2.St) _
    wtm_at "wp"
    exact q _ S
def spWithNote : Sp := fun vs H Q _ => ∃ (Z : Hp) (L : Lx) (fl d pl : Addr) (kp n0 nv : V) (ps : List V), vs = [.ref fl, nv] ∧ SH Z L H ∧ In Z L fl (cFlight.ob K d [kp, n0, .ref pl]) ∧ In Z L pl (.lst ps) ∧
  ∀ f2 d2 p2 H1, SH Z ((f2, cFlight.ob K d2 [kp, nv, .ref p2]) :: (p2, .lst ps) :: L) H1 → Q (.ref f2) H1
theorem ok_Flight_with_note (T : Tx K mg) : Met P w K mg base 3 cFlight "with_note" ["self", "note"] (spWithNote (K := K)) := by
  refine mk_met (c := cFlight) (F_Flight_with_note T) (m_Flight_with_note T) sc_Flight_with_note (fun _ _ _ _ _ _ us hl => match us, hl with | [_, _], _ => rfl) ?len ?body
  case len =>
    rintro vs H Q E ⟨Z, L, fl, d, pl, kp, n0, nv, ps, rfl, _⟩
    rfl
  case body =>
    rintro cdv A outer s H vs Q E hr ⟨Z, L, fl, d, pl, kp, n0, nv, ps, rfl, S, hf, hp, q⟩
    refine ⟨_, (pss_one (ps_ret (pe_makK (K := K) (c := cFlight) (ok_Flight_init T) hr (pa_cons (pe_atK (K := K) (c := cFlight) (i := 0) (ok_cFlight T) (pv 0)) (pa_cons (pv 1) (pa_cons (pe_callTy call_listOf (by rfl) (b_list T) (by decide +kernel) (pa_cons (pe_atK (K := K) (c := cFlight) (i := 2) (ok_cFlight T) (pv 0)) pa_nil)) pa_nil)))))), ?_⟩
    show (_ : TS) _ ([some _, some _] : L2.St) _
    wtm_at "wp"
    refine k_at S hf rfl ?_
    wtm_at "wp"
    refine k_at S hf rfl ?_
    wtm_at "wp"
    refine k_listOfL S hp fun p2 H S => ?_
    wtm_at "wp"
    exact ⟨Z, _, x, dx, _, _, _, rfl, S, fun H S => ⟨rfl, q _ _ _ _ S⟩⟩
def HeardAt (Z : Hp) (g : Pg) (r hq : Addr) : Prop := Z r = some (.dK [(.inr g.q, .ref hq)])
def spPutFlight : Sp := fun vs H Q _ => ∃ (Z : Hp) (L : Lx) (g : Pg) (me mx rw hq f d he hd : Addr) (pg li tk hn fin no : V) (fs hl xs : List V), vs = [.ref me, .ref f] ∧
  SH Z ((me, cStairs.ob K mx [pg, li, .ref he, .ref rw, .ref hd, tk, hn, fin, no]) :: (rw, .lst fs) :: (hq, .lst hl) :: L) H ∧ In Z L f (cFlight.ob K d (.str g.K :: xs)) ∧ HearsAt Z g he ∧ HeardAt Z g hd hq ∧ fs.length ≤ 10 ∧ hl.length ≤ 10 ∧
  ∀ H1, SH Z ((me, cStairs.ob K mx [pg, li, .ref he, .ref rw, .ref hd, tk, hn, fin, no]) :: (rw, .lst (fs ++ [.ref f])) :: (hq, .lst (hl ++ [.int (fs.length : Nat)])) :: L) H1 → Q .non H1
theorem ok_Stairs_put_flight (T : Tx K mg) : Met P w K mg base 1 cStairs "put_flight" ["self", "flight"] (spPutFlight (K := K)) := by
  refine mk_met (c := cStairs) (F_Stairs_put_flight T) (m_Stairs_put_flight T) sc_Stairs_put_flight (fun _ _ _ _ _ _ us hl => match us, hl with | [_, _], _ => rfl) ?len ?body
  case len =>
    rintro vs H Q E ⟨Z, L, g, me, mx, rw, hq, f, d, he, hd, pg, li, tk, hn, fin, no, fs, hl, xs, rfl, _⟩
    rfl
  case body =>
    rintro cdv A outer s H vs Q E hr ⟨Z, L, g, me, mx, rw, hq, f, d, he, hd, pg, li, tk, hn, fin, no, fs, hl, xs, rfl, S, hf, ⟨l, hh1, hh2⟩, hhd, hfl, hhl, q⟩
    refine ⟨_, (pss_cons (ps_for PassesOwn.never rfl (pi_listK (K := K) (pe_dget (hu_of hr) (pe_atK (K := K) (c := cStairs) (i := 2) (ok_cStairs T) (pv 0)) (pe_atK (K := K) (c := cFlight) (i := 0) (ok_cFlight T) (pv 1)) (fun _ _ => rfl))) (pg_name (i := 2) sc_Stairs_put_flight.nd rfl (Or.inl rfl)) (pss_one (ps_expr (pe_bmK (K := K) (pe_bm PySem.F.plainAttrs_list PySem.F.slot_list_append PySem.F.type_list_append mt_append (pe_dget (hu_of hr) (pe_atK (K := K) (c := cStairs) (i := 4) (ok_cStairs T) (pv 0)) (pv 2) (fun _ _ => rfl)) (pa_cons (pe_callB call_lenA (by rfl) (b_len T) (by decide +kernel) (pa_cons (pe_atK (K := K) (c := cStairs) (i := 3) (ok_cStairs T) (pv 0)) pa_nil)) pa_nil)))))) (pss_one (ps_expr (pe_bmK (K := K) (pe_bm PySem.F.plainAttrs_list PySem.F.slot_list_append PySem.F.type_list_append mt_append (pe_atK (K := K) (c := cStairs) (i := 3) (ok_cStairs T) (pv 0)) (pa_cons (pv 1) pa_nil)))))), ?_⟩
    show (_ : TS) _ ([some _, some _, none] : L2.St) _
    have hf2 : In Z ((me, cStairs.ob K mx [pg, li, .ref he, .ref rw, .ref hd, tk, hn, fin, no]) :: (rw, .lst fs) :: (hq, .lst hl) :: L) f (cFlight.ob K d (.str g.K :: xs)) := by
      cases hf with
      | l h => exact .l (List.mem_cons_of_mem _ (List.mem_cons_of_mem _ (List.mem_cons_of_mem _ h)))
      | z h => exact .z h
    have hv : valV [((.inr g.K : Key), V.ref l)] (.inr g.K) = some (.ref l) := valV_pos rfl
    have hv2 : valV [((.inr g.q : Key), V.ref hq)] (.inr g.q) = some (.ref hq) := valV_pos rfl
    replace hhd : Z hd = some (.dK [(.inr g.q, .ref hq)]) := hhd
    wtm_at "wp"
    refine k_at S hf2 rfl ?_
    wtm_at "wp"
    wtm_at "un"
    wtm_at "wp"
    exact q _ S
def spTakeFlight : Sp := fun vs H Q _ => ∃ (Z : Hp) (L : Lx) (g : Pg) (me mx rw hq f d he hd : Addr) (pg li tk hn fin no v : V) (fs hl xs : List V), vs = [.ref me] ∧
  SH Z ((me, cStairs.ob K mx [pg, li, .ref he, .ref rw, .ref hd, tk, hn, fin, no]) :: (rw, .lst (fs ++ [.ref f])) :: (hq, .lst (hl ++ [v])) :: L) H ∧ In Z L f (cFlight.ob K d (.str g.K :: xs)) ∧ HearsAt Z g he ∧ HeardAt Z g hd hq ∧
  ∀ H1, SH Z ((me, cStairs.ob K mx [pg, li, .ref he, .ref rw, .ref hd, tk, hn, fin, no]) :: (rw, .lst fs) :: (hq, .lst hl) :: L) H1 → Q (.ref f) H1
theorem ok_Stairs_take_flight (T : Tx K mg) : Met P w K mg base 1 cStairs "take_flight" ["self"] (spTakeFlight (K := K)) := by
  refine mk_met (c := cStairs) (F_Stairs_take_flight T) (m_Stairs_take_flight T) sc_Stairs_take_flight (fun _ _ _ _ _ _ us hl => match us, hl with | [_], _ => rfl) ?len ?body
  case len =>
    rintro vs H Q E ⟨Z, L, g, me, mx, rw, hq, f, d, he, hd, pg, li, tk, hn, fin, no, v, fs, hl, xs, rfl, _⟩
    rfl
  case body =>
    rintro cdv A outer s H vs Q E hr ⟨Z, L, g, me, mx, rw, hq, f, d, he, hd, pg, li, tk, hn, fin, no, v, fs, hl, xs, rfl, S, hf, ⟨l, hh1, hh2⟩, hhd, q⟩
    refine ⟨_, (pss_cons (ps_set (i := 1) sc_Stairs_take_flight.nd rfl (Or.inl rfl) (pe_bm0K (K := K) (pe_bm0 PySem.F.plainAttrs_list PySem.F.slot_list_pop PySem.F.type_list_pop mt_pop (pe_atK (K := K) (c := cStairs) (i := 3) (ok_cStairs T) (pv 0))))) (pss_cons (ps_for PassesOwn.never rfl (pi_listK (K := K) (pe_dget (hu_of hr) (pe_atK (K := K) (c := cStairs) (i := 2) (ok_cStairs T) (pv 0)) (pe_atK (K := K) (c := cFlight) (i := 0) (ok_cFlight T) (pv 1)) (fun _ _ => rfl))) (pg_name (i := 2) sc_Stairs_take_flight.nd rfl (Or.inl rfl)) (pss_one (ps_expr (pe_bm0K (K := K) (pe_bm0 PySem.F.plainAttrs_list PySem.F.slot_list_pop PySem.F.type_list_pop mt_pop (pe_dget (hu_of hr) (pe_atK (K := K) (c := cStairs) (i := 4) (ok_cStairs T) (pv 0)) (pv 2) (fun _ _ => rfl))))))) (pss_one (ps_ret (pv 1))))), ?_⟩
    show (_ : TS) _ ([some _, none, none] : L2.St) _
    have hf2 : In Z ((me, cStairs.ob K mx [pg, li, .ref he, .ref rw, .ref hd, tk, hn, fin, no]) :: (rw, .lst fs) :: (hq, .lst (hl ++ [v])) :: L) f (cFlight.ob K d (.str g.K :: xs)) := by
      cases hf with
      | l h => exact .l (List.mem_cons_of_mem _ (List.mem_cons_of_mem _ (List.mem_cons_of_mem _ h)))
      | z h => exact .z h
    have hv : valV [((.inr g.K : Key), V.ref l)] (.inr g.K) = some (.ref l) := valV_pos rfl
    have hv2 : valV [((.inr g.q : Key), V.ref hq)] (.inr g.q) = some (.ref hq) := valV_pos rfl
    replace hhd : Z hd = some (.dK [(.inr g.q, .ref hq)]) := hhd
    wtm_at "wp"
    refine k_at S hf2 rfl ?_
    wtm_at "wp"
    wtm_at "un"
    wtm_at "wp"
    exact q _ S
end
end AL
/-! D2 -/
namespace AL
open PySem PySem.Spec PyProof.Rows L2
section
variable {P : Program} {w : World} {K : PySem.W.Frag} {mg : Str → Option Value} {base : Heap}
/-! ### Stairs.begin -/
def spStairsBegin : Sp := fun vs H Q _ => ∃ (Z : Hp) (L : Lx) (g : Pg) (a : PgA) (pg me mx rw f d pl th pa : Addr) (li he hd tk hn fin no k0 n0 : V) (fs ps ths : List V) (t : Pt) (avs : List AV), vs = [.ref me, .ref pa, .ref th] ∧
  SH Z ((me, cStairs.ob K mx [.ref pg, li, he, .ref rw, hd, tk, hn, fin, no]) :: (rw, .lst (fs ++ [.ref f])) :: (f, cFlight.ob K d [k0, n0, .ref pl]) :: (pl, .lst ps) :: (th, .lst ths) :: L) H ∧ ProgAt Z g a pg ∧ Z pa = some (.tup (t.tup g)) ∧ ps.length ≤ 5000 ∧ Paired (GV (SRel K g) Z) avs ths ∧ avs.length = (t.own g).length ∧
  ∀ topv Z1 H1, Same Z Z1 → SH Z1 ((me, cStairs.ob K mx [.ref pg, li, he, .ref rw, hd, tk, hn, fin, no]) :: (rw, .lst (fs ++ [.ref f])) :: (f, cFlight.ob K d [k0, n0, .ref pl]) :: (pl, .lst (ps ++ [topv])) :: L) H1 → SF K Z1 g ⟨t, 0, envOf (t.own g) avs⟩ topv → Q .non H1
theorem ok_Stairs_begin (T : Tx K mg) : Met P w K mg base 4 cStairs "begin" ["self", "part", "things"] (spStairsBegin (K := K)) := by
  refine mk_met (c := cStairs) (F_Stairs_begin T) (m_Stairs_begin T) sc_Stairs_begin (fun _ _ _ _ _ _ us hl => match us, hl with | [_, _, _], _ => rfl) ?len ?body
  case len =>
    rintro vs H Q E ⟨Z, L, g, a, pg, me, mx, rw, f, d, pl, th, pa, li, he, hd, tk, hn, fin, no, k0, n0, fs, ps, ths, t, avs, rfl, _⟩
    rfl
  case body =>
    rintro cdv A outer s H vs Q E hr ⟨Z, L, g, a, pg, me, mx, rw, f, d, pl, th, pa, li, he, hd, tk, hn, fin, no, k0, n0, fs, ps, ths, t, avs, rfl, S, A1, hpa, hl, hp, hal, q⟩
    refine ⟨_, (pss_cons (ps_set (i := 3) sc_Stairs_begin.nd rfl (Or.inl rfl) pe_dnewK) (pss_cons (ps_for PassesOwn.never rfl (pi_zipK (K := K) (by rfl) (b_zip T) (pa_cons (pe_cal (ok_begun_with T) hr (pa_cons (pe_atK (K := K) (c := cStairs) (i := 0) (ok_cStairs T) (pv 0)) (pa_cons (pv 1) pa_nil))) (pa_cons (pv 2) pa_nil))) (pg_tupK (K := K) (by rfl) (pgs_cons (pg_name (i := 4) sc_Stairs_begin.nd rfl (Or.inl rfl)) (pgs_cons (pg_name (i := 5) sc_Stairs_begin.nd rfl (Or.inl rfl)) pgs_nil))) (pss_one (ps_dput (hu_of hr) (pv 3) (pe_ix (ix_anyK (K := K)) (pv 4) pe_int (fun _ _ => rfl)) (pv 5) rfl))) (pss_one (ps_expr (pe_bmK (K := K) (pe_bm PySem.F.plainAttrs_list PySem.F.slot_list_append PySem.F.type_list_append mt_append (pe_atK (K := K) (c := cFlight) (i := 2) (ok_cFlight T) (pe_ix (ix_anyK (K := K)) (pe_atK (K := K) (c := cStairs) (i := 3) (ok_cStairs T) (pv 0)) (pe_un un_neg pe_int) (fun _ _ => rfl))) (pa_cons (pe_tup (pa_cons (pv 1) (pa_cons pe_int (pa_cons (pv 3) pa_nil)))) pa_nil))))))), ?_⟩
    show (_ : TS) _ ([some _, some _, some _, none, none, none] : L2.St) _
    wtm_at "wp"
    rename Addr => nm
    refine ⟨Z, _, g, a, pg, t, _, rfl, S, A1, ⟨pa, rfl, hpa⟩, fun r Z1 H ws hs S hr hw => ?_⟩
    replace hp := Paired.mapP hp fun _ _ z => GV.mono hs z
    wtm_at "wp"
    cases t with
    | en =>
      obtain ⟨_, _⟩ | ⟨⟨t0, k0, rfl, ht0⟩, _ | ⟨⟨t1, k1, rfl, ht1⟩, _ | _⟩⟩ := hw
      match avs, hal, hp with
      | [a0, a1], _, .cons p0 (.cons p1 .nil) =>
        wtm_at "un"
        simp only [List.zip_cons_cons, List.zip_nil_right, List.zip_nil_left]
        wtm_at "wp"
        rename Addr => tp
        obtain ⟨S, hs1, hz1⟩ := S.pick (p := nm) (by wtm_at "pick")
        obtain ⟨S, hs2, hz2⟩ := S.pick (p := tp) (by wtm_at "pick")
        refine q _ _ _ ((hs.trans hs1).trans hs2) (S.sel (by wtm_at "sel")) ⟨tp, pa, nm, _, rfl, hz2, hs2 _ _ (hs1 _ _ (hs _ _ hpa)), hs2 _ _ hz1, ?_⟩
        exact ((GEnv.nil.put p0).put p1).mono (hs1.trans hs2)
    | hr =>
      obtain ⟨_, _⟩ | ⟨⟨t0, k0, rfl, ht0⟩, _ | ⟨⟨t1, k1, rfl, ht1⟩, _ | ⟨⟨t2, k2, rfl, ht2⟩, _ | _⟩⟩⟩ := hw
      match avs, hal, hp with
      | [a0, a1, a2], _, .cons p0 (.cons p1 (.cons p2 .nil)) =>
        wtm_at "un"
        simp only [List.zip_cons_cons, List.zip_nil_right, List.zip_nil_left]
        wtm_at "wp"
        rename Addr => tp
        obtain ⟨S, hs1, hz1⟩ := S.pick (p := nm) (by wtm_at "pick")
        obtain ⟨S, hs2, hz2⟩ := S.pick (p := tp) (by wtm_at "pick")
        refine q _ _ _ ((hs.trans hs1).trans hs2) (S.sel (by wtm_at "sel")) ⟨tp, pa, nm, _, rfl, hz2, hs2 _ _ (hs1 _ _ (hs _ _ hpa)), hs2 _ _ hz1, ?_⟩
        exact (((GEnv.nil.put p0).put p1).put p2).mono (hs1.trans hs2)
    | d0 =>
      cases hw
      match avs, hal, hp with
      | [], _, .nil =>
        wtm_at "un"
        simp only [List.zip_cons_cons, List.zip_nil_right, List.zip_nil_left]
        wtm_at "wp"
        rename Addr => tp
        obtain ⟨S, hs1, hz1⟩ := S.pick (p := nm) (by wtm_at "pick")
        obtain ⟨S, hs2, hz2⟩ := S.pick (p := tp) (by wtm_at "pick")
        exact q _ _ _ ((hs.trans hs1).trans hs2) (S.sel (by wtm_at "sel")) ⟨tp, pa, nm, _, rfl, hz2, hs2 _ _ (hs1 _ _ (hs _ _ hpa)), hs2 _ _ hz1, GEnv.nil⟩
    | d1 =>
      cases hw
      match avs, hal, hp with
      | [], _, .nil =>
        wtm_at "un"
        simp only [List.zip_cons_cons, List.zip_nil_right, List.zip_nil_left]
        wtm_at "wp"
        rename Addr => tp
        obtain ⟨S, hs1, hz1⟩ := S.pick (p := nm) (by wtm_at "pick")
        obtain ⟨S, hs2, hz2⟩ := S.pick (p := tp) (by wtm_at "pick")
        exact q _ _ _ ((hs.trans hs1).trans hs2) (S.sel (by wtm_at "sel")) ⟨tp, pa, nm, _, rfl, hz2, hs2 _ _ (hs1 _ _ (hs _ _ hpa)), hs2 _ _ hz1, GEnv.nil⟩
/-! ### Stairs.bind -/
def spStairsBind : Sp := fun vs H Q _ => ∃ (Z : Hp) (L : Lx) (g : Pg) (me mx rw f d pl li : Addr) (pg he hd tk hn fin no k0 n0 v pv : V) (fs ps : List V) (fr : AF) (b : Bd) (x : Str) (av : AV), vs = [.ref me, v] ∧
  SH Z ((me, cStairs.ob K mx [pg, .ref li, he, .ref rw, hd, tk, hn, fin, no]) :: (rw, .lst (fs ++ [.ref f])) :: (f, cFlight.ob K d [k0, n0, .ref pl]) :: (pl, .lst (ps ++ [pv])) :: L) H ∧ ListedAt Z g li ∧ SF K Z g fr pv ∧ Pt.pc g fr.t fr.n = some b ∧ BdX b x ∧ GV (SRel K g) Z av v ∧ fr.env.length ≤ 1000 ∧ ps.length ≤ 5000 ∧
  ∀ pv' Z1 H1, Same Z Z1 → SH Z1 ((me, cStairs.ob K mx [pg, .ref li, he, .ref rw, hd, tk, hn, fin, no]) :: (rw, .lst (fs ++ [.ref f])) :: (f, cFlight.ob K d [k0, n0, .ref pl]) :: (pl, .lst (ps ++ [pv'])) :: L) H1 → SF K Z1 g ⟨fr.t, fr.n + 1, (x, av) :: fr.env⟩ pv' → Q .non H1
theorem ok_Stairs_bind (T : Tx K mg) : Met P w K mg base 2 cStairs "bind" ["self", "thing"] (spStairsBind (K := K)) := by
  refine mk_met (c := cStairs) (F_Stairs_bind T) (m_Stairs_bind T) sc_Stairs_bind (fun _ _ _ _ _ _ us hl => match us, hl with | [_, _], _ => rfl) ?len ?body
  case len =>
    rintro vs H Q E ⟨Z, L, g, me, mx, rw, f, d, pl, li, pg, he, hd, tk, hn, fin, no, k0, n0, v, pav, fs, ps, fr, b, x, av, rfl, _⟩
    rfl
  case body =>
    rintro cdv A outer s H vs Q E hr ⟨Z, L, g, me, mx, rw, f, d, pl, li, pg, he, hd, tk, hn, fin, no, k0, n0, v, pav, fs, ps, fr, b, x, av, rfl, S, hli, ⟨p, pa, nm, kvs, rfl, hp, hpa, hnm, henv⟩, hpc, hbx, hv, hle, hbl, q⟩
    refine ⟨_, (pss_cons (ps_asg (pe_bm0K (K := K) (pe_bm0 PySem.F.plainAttrs_list PySem.F.slot_list_pop PySem.F.type_list_pop mt_pop (pe_atK (K := K) (c := cFlight) (i := 2) (ok_cFlight T) (pe_ix (ix_anyK (K := K)) (pe_atK (K := K) (c := cStairs) (i := 3) (ok_cStairs T) (pv 0)) (pe_un un_neg pe_int) (fun _ _ => rfl))))) (pg_tupK (K := K) (by rfl) (pgs_cons (pg_name (i := 2) sc_Stairs_bind.nd rfl (Or.inl rfl)) (pgs_cons (pg_name (i := 3) sc_Stairs_bind.nd rfl (Or.inl rfl)) (pgs_cons (pg_name (i := 4) sc_Stairs_bind.nd rfl (Or.inl rfl)) pgs_nil))))) (pss_one (ps_expr (pe_bmK (K := K) (pe_bm PySem.F.plainAttrs_list PySem.F.slot_list_append PySem.F.type_list_append mt_append (pe_atK (K := K) (c := cFlight) (i := 2) (ok_cFlight T) (pe_ix (ix_anyK (K := K)) (pe_atK (K := K) (c := cStairs) (i := 3) (ok_cStairs T) (pv 0)) (pe_un un_neg pe_int) (fun _ _ => rfl))) (pa_cons (pe_tup (pa_cons (pv 2) (pa_cons (pe_op op_add (pv 3) pe_int) (pa_cons (pe_cal (ok_with_name T) hr (pa_cons (pv 4) (pa_cons (pe_ix (ix_anyK (K := K)) (pe_ix (ix_anyK (K := K)) (pe_dget (hu_of hr) (pe_atK (K := K) (c := cStairs) (i := 1) (ok_cStairs T) (pv 0)) (pv 2) (fun _ _ => rfl)) (pv 3) (fun _ _ => rfl)) pe_int (fun _ _ => rfl)) (pa_cons (pv 1) pa_nil)))) pa_nil)))) pa_nil)))))), ?_⟩
    show (_ : TS) _ ([some _, some _, none, none, none] : L2.St) _
    obtain ⟨lkv, hlk, hall⟩ := hli
    obtain ⟨l, ws, hl1, hl2, hl3⟩ := hall fr.t
    obtain ⟨pw, hw1, hw2⟩ := Paired.get hl3 hpc
    obtain ⟨pp, wd, xs, rfl, hpp⟩ := hbx.at hw2
    have hkl := henv.len
    wtm_at "wp"
    refine k_dgetP S (.z hlk) (.z hpa) hl1 ?_
    wtm_at "wp"
    refine ⟨Z, _, nm, kvs, x, v, rfl, S, hnm, by omega, fun r Z1 H hs S hr => ?_⟩
    wtm_at "wp"
    obtain ⟨S, hs1, hz1⟩ := S.pick (by wtm_at "pick")
    refine q _ _ _ (hs.trans hs1) S ⟨_, pa, r, _, rfl, hz1, hs1 _ _ (hs _ _ hpa), hs1 _ _ hr, ?_⟩
    exact ((henv.mono hs).put (hv.mono hs)).mono hs1
end
end AL
/-! D3 -/
namespace AL
open PySem PySem.Spec PyProof.Rows L2
inductive ABeh (env : AEnv) (n : Nat) : Bd → Nat → AEnv → List Ev → Prop where
  | pass {b n2 env2 evs} (h : APass env n b n2 env2 evs) : ABeh env n b n2 env2 evs
  | mk {b x av} (h : AMade env b x av) : ABeh env n b (n + 1) ((x, av) :: env) []
section
variable {P : Program} {w : World} {K : PySem.W.Frag} {mg : Str → Option Value} {base : Heap}
def spStairsBehind : Sp := fun vs H Q _ => ∃ (Z : Hp) (L : Lx) (g : Pg) (me mx no pa nm : Addr) (x0 x1 x2 x3 x4 x5 x6 x7 pcv : V) (nov : List V) (t : Pt) (n n2 : Nat) (env env2 : AEnv) (kvs : KVs) (b : Bd) (evs : List Ev), vs = [.ref me, .ref pa, .int (n : Nat), .ref nm, pcv] ∧
  SH Z ((me, cStairs.ob K mx [x0, x1, x2, x3, x4, x5, x6, x7, .ref no]) :: (no, .lst nov) :: L) H ∧ BdAt Z b pcv ∧ Z pa = some (.tup (t.tup g)) ∧ Z nm = some (.dK kvs) ∧ GEnv (SRel K g) Z env kvs ∧ env.length ≤ 900 ∧ nov.length ≤ 5000 ∧ ABeh env n b n2 env2 evs ∧
  ∀ r ew Z1 H1, Same Z Z1 → SH Z1 ((me, cStairs.ob K mx [x0, x1, x2, x3, x4, x5, x6, x7, .ref no]) :: (no, .lst (nov ++ ew)) :: L) H1 → Paired (EvAt Z1 g) evs ew → SF K Z1 g ⟨t, n2, env2⟩ r → Q r H1
theorem ok_Stairs_behind (T : Tx K mg) : Met P w K mg base 3 cStairs "behind" ["self", "part", "n", "names", "piece"] (spStairsBehind (K := K)) := by
  refine mk_met (c := cStairs) (F_Stairs_behind T) (m_Stairs_behind T) sc_Stairs_behind (fun _ _ _ _ _ _ us hl => match us, hl with | [_, _, _, _, _], _ => rfl) ?len ?body
  case len =>
    rintro vs H Q E ⟨Z, L, g, me, mx, no, pa, nm, x0, x1, x2, x3, x4, x5, x6, x7, pcv, nov, t, n, n2, env, env2, kvs, b, evs, rfl, _⟩
    rfl
  case body =>
    rintro cdv A outer s H vs Q E hr ⟨Z, L, g, me, mx, no, pa, nm, x0, x1, x2, x3, x4, x5, x6, x7, pcv, nov, t, n, n2, env, env2, kvs, b, evs, rfl, S, hb, hpa, hnm, henv, hel, hnl, hp, q⟩
    refine ⟨_, (pss_cons (ps_if (pt_cmpR op_eq (pe_ix (ix_anyK (K := K)) (pv 4) pe_int (fun _ _ => rfl)) pe_str (nomark _)) (pss_cons (ps_expr (pe_bmK (K := K) (pe_bm PySem.F.plainAttrs_list PySem.F.slot_list_append PySem.F.type_list_append mt_append (pe_atK (K := K) (c := cStairs) (i := 8) (ok_cStairs T) (pv 0)) (pa_cons (pe_tup (pa_cons pe_str (pa_cons (pe_cal (ok_worth T) hr (pa_cons (pv 3) (pa_cons (pe_ix (ix_anyK (K := K)) (pv 4) pe_int (fun _ _ => rfl)) pa_nil))) pa_nil))) pa_nil)))) (pss_one (ps_ret (pe_tup (pa_cons (pv 1) (pa_cons (pe_op op_add (pv 2) pe_int) (pa_cons (pv 3) pa_nil))))))) pss_nil) (pss_cons (ps_if (pt_cmpR op_eq (pe_ix (ix_anyK (K := K)) (pv 4) pe_int (fun _ _ => rfl)) pe_str (nomark _)) (pss_one (ps_ret (pe_tup (pa_cons (pv 1) (pa_cons (pe_op op_add (pe_op op_add (pv 2) pe_int) (pe_op op_mul (pe_callB call_lenA (by rfl) (b_len T) (by decide +kernel) (pa_cons (pe_cal (ok_pieces T) hr (pa_cons (pe_ix (ix_anyK (K := K)) (pv 4) pe_int (fun _ _ => rfl)) pa_nil)) pa_nil)) (pe_callTy call_intB (by rfl) (b_int T) (by decide +kernel) (pa_cons (pe_cmpR op_eq (pe_cal (ok_worth T) hr (pa_cons (pv 3) (pa_cons (pe_ix (ix_anyK (K := K)) (pv 4) pe_int (fun _ _ => rfl)) pa_nil))) pe_int (nomark _)) pa_nil)))) (pa_cons (pv 3) pa_nil)))))) pss_nil) (pss_cons (ps_if (pt_cmpR op_eq (pe_ix (ix_anyK (K := K)) (pv 4) pe_int (fun _ _ => rfl)) pe_str (nomark _)) (pss_cons (ps_set (i := 5) sc_Stairs_behind.nd rfl (Or.inl rfl) (pe_cal (ok_worth T) hr (pa_cons (pv 3) (pa_cons (pe_ix (ix_anyK (K := K)) (pv 4) pe_int (fun _ _ => rfl)) pa_nil)))) (pss_cons (ps_if (pt_cmpR op_eq (pe_callB call_lenA (by rfl) (b_len T) (by decide +kernel) (pa_cons (pv 5) pa_nil)) pe_int (nomark _)) (pss_one (ps_ret (pe_tup (pa_cons (pv 1) (pa_cons (pe_op op_add (pv 2) pe_int) (pa_cons (pv 3) pa_nil)))))) pss_nil) (pss_cons (ps_set (i := 3) sc_Stairs_behind.nd rfl (Or.inl rfl) (pe_cal (ok_with_name T) hr (pa_cons (pe_cal (ok_with_name T) hr (pa_cons (pv 3) (pa_cons (pe_ix (ix_anyK (K := K)) (pv 4) pe_int (fun _ _ => rfl)) (pa_cons (pe_ix (ix_anyK (K := K)) (pv 5) pe_int (fun _ _ => rfl)) pa_nil)))) (pa_cons (pe_ix (ix_anyK (K := K)) (pv 4) pe_int (fun _ _ => rfl)) (pa_cons (pe_slice (sl_tupK (K := K)) (pv 5) (po_some pe_int) po_none) pa_nil))))) (pss_one (ps_ret (pe_tup (pa_cons (pv 1) (pa_cons (pe_op op_add (pe_op op_add (pv 2) pe_int) (pe_callB call_lenA (by rfl) (b_len T) (by decide +kernel) (pa_cons (pe_cal (ok_pieces T) hr (pa_cons (pe_ix (ix_anyK (K := K)) (pv 4) pe_int (fun _ _ => rfl)) pa_nil)) pa_nil))) (pa_cons (pv 3) pa_nil))))))))) pss_nil) (pss_one (ps_ret (pe_tup (pa_cons (pv 1) (pa_cons (pe_op op_add (pv 2) pe_int) (pa_cons (pe_cal (ok_with_name T) hr (pa_cons (pv 3) (pa_cons (pe_ix (ix_anyK (K := K)) (pv 4) pe_int (fun _ _ => rfl)) (pa_cons (pe_cal (ok_made T) hr (pa_cons (pv 4) (pa_cons (pv 3) pa_nil))) pa_nil)))) pa_nil))))))))), ?_⟩
    show (_ : TS) _ ([some _, some _, some _, some _, some _, none] : L2.St) _
    have hkl := henv.len
    rcases hp with hp | hm
    · cases hp with
      | @tell a nx i ha =>
        obtain ⟨p, w1, rfl, hp, hn⟩ := hb
        obtain ⟨va, ka, ra⟩ := henv.at ha
        obtain rfl : va = .int i := ra
        wtm_at "wp"
        refine ⟨Z, _, nm, kvs, a, _, rfl, S, hnm, ka, fun H S => ?_⟩
        wtm_at "wp"
        obtain ⟨S, hs1, hz1⟩ := S.pick (o := .tup [.str "tell", .int i]) (by wtm_at "pick")
        obtain ⟨S, hs2, hz2⟩ := S.pick (by wtm_at "pick")
        exact q _ [_] _ _ (hs1.trans hs2) S (.cons ⟨_, rfl, hs2 _ _ hz1⟩ .nil) ⟨_, pa, nm, kvs, rfl, hz2, hs2 _ _ (hs1 _ _ hpa), hs2 _ _ (hs1 _ _ hnm), henv.mono (hs1.trans hs2)⟩
      | @iff a b1 b2 i hl ha =>
        obtain ⟨p, w1, w2, rfl, hp, h1, h2⟩ := hb
        obtain ⟨va, ka, ra⟩ := henv.at ha
        obtain rfl : va = .int i := ra
        wtm_at "wp"
        refine ⟨Z, _, b1, w1, rfl, S, h1, hl, fun r H ws S hw => ?_⟩
        have hwl : b1.pcs.length = ws.length := hw.length
        wtm_at "wp"
        refine ⟨Z, _, nm, kvs, a, _, rfl, S, hnm, ka, fun H S => ?_⟩
        wtm_at "wp"
        refine k_I (.inr (by split <;> decide)) ?_
        have e1 : ((n : Nat) : Int) + 1 + ((ws.length : Nat) : Int) * (if decide (V.int i = V.int 0) = true then 1 else 0) = ((n + 1 + (if i = 0 then b1.pcs.length else 0) : Nat) : Int) := by
          rw [hwl]
          by_cases h0 : i = 0
          · subst h0; simp
          · have : V.int i ≠ V.int 0 := fun z => h0 (V.int.inj z)
            simp [h0, this]
        refine k_I0 ?_
        rw [e1]
        wtm_at "wp"
        obtain ⟨S, hs2, hz2⟩ := S.pick (by wtm_at "pick")
        exact q _ [] _ _ hs2 (by rw [List.append_nil]; exact S.sel (by wtm_at "sel")) .nil ⟨_, pa, nm, kvs, rfl, hz2, hs2 _ _ hpa, hs2 _ _ hnm, henv.mono hs2⟩
      | @case0 r b1 x y b2 hr =>
        obtain ⟨p, w1, w2, rfl, hp, h1, h2⟩ := hb
        obtain ⟨va, ka, rp, rv, rfl, hrp, hrv⟩ := henv.at hr
        cases hrv
        wtm_at "wp"
        refine ⟨Z, _, nm, kvs, r, _, rfl, S, hnm, ka, fun H S => ?_⟩
        wtm_at "wp"
        obtain ⟨S, hs2, hz2⟩ := S.pick (by wtm_at "pick")
        exact q _ [] _ _ hs2 (by rw [List.append_nil]; exact S) .nil ⟨_, pa, nm, kvs, rfl, hz2, hs2 _ _ hpa, hs2 _ _ hnm, henv.mono hs2⟩
      | @case1 r b1 x y b2 h hs hl hr =>
        obtain ⟨p, w1, w2, rfl, hp, h1, h2⟩ := hb
        obtain ⟨va, ka, rp, rv, rfl, hrp, hrv⟩ := henv.at hr
        obtain ⟨hv, rvs, rfl, hv1, hv2⟩ : ∃ hv rvs, rv = hv :: rvs ∧ (SRel K g).R Z h hv ∧ Paired ((SRel K g).R Z) hs rvs := by
          cases hrv with
          | cons a b => exact ⟨_, _, rfl, a, b⟩
        wtm_at "wp"
        refine ⟨Z, _, nm, kvs, r, _, rfl, S, hnm, ka, fun H S => ?_⟩
        wtm_at "wp"
        refine if_F (decide_eq_false fun z => by have := V.int.inj z; rw [List.length_cons] at this; omega) ?_
        wtm_at "wp"
        refine ⟨Z, _, nm, kvs, x, hv, rfl, S, hnm, by omega, fun n1 Z1 H hs1 S hn1 => ?_⟩
        have hlp := length_putK kvs (.inr x) hv
        replace hp := hs1 _ _ hp
        replace hrp := hs1 _ _ hrp
        wtm_at "wp"
        refine k_slT1 S (.z hrp) fun rp2 H S => ?_
        wtm_at "wp"
        obtain ⟨S, hs2, hz2⟩ := S.pick (p := rp2) (by wtm_at "pick")
        refine ⟨_, _, n1, _, y, _, rfl, S, hs2 _ _ hn1, by omega, fun n2 Z2 H hs3 S hn2 => ?_⟩
        have hsC := hs1.trans (hs2.trans hs3)
        replace hp := hs3 _ _ (hs2 _ _ hp)
        wtm_at "wp"
        refine ⟨Z2, _, b1, w1, rfl, S, h1.mono hsC, hl, fun r H ws S hw => ?_⟩
        have hwl : b1.pcs.length = ws.length := hw.length
        wtm_at "wp"
        obtain ⟨S, hs4, hz4⟩ := S.pick (by wtm_at "pick")
        have hsA := hsC.trans hs4
        refine q _ [] _ _ hsA (by rw [List.append_nil]; exact S.sel (by wtm_at "sel")) .nil ⟨_, pa, n2, _, rfl, (by show _ = some (HO.tup [.ref pa, .int ((n + 1 + b1.pcs.length : Nat) : Int), .ref n2]); rw [hwl, ← intA]; exact hz4), hsA _ _ hpa, hs4 _ _ hn2, ?_⟩
        exact ((henv.mono hsA).put (a := .hold h) ((SRel K g).mono hsA hv1)).put (a := .row hs) ⟨rp2, rvs, rfl, hs4 _ _ (hs3 _ _ hz2), Paired.mapP hv2 fun _ _ z => (SRel K g).mono hsA z⟩
    · have hm0 := hm
      cases hm <;> (
        have hb0 := hb
        obtain ⟨p, w1, rfl, hpp, hnx⟩ := hb
        wtm_at "wp"
        refine ⟨_, Z, _, _, _, nm, kvs, env, _, _, rfl, S, hb0, hnm, henv, hm0, fun r Z1 H hs1 S hr => ?_⟩
        wtm_at "wp"
        refine ⟨Z1, _, nm, kvs, _, r, rfl, S, hs1 _ _ hnm, by omega, fun n2 Z2 H hs2 S hn2 => ?_⟩
        wtm_at "wp"
        obtain ⟨S, hs3, hz3⟩ := S.pick (by wtm_at "pick")
        have hsB := hs2.trans hs3
        have hsA := hs1.trans hsB
        exact q _ [] _ _ hsA (by rw [List.append_nil]; exact S.sub (by wtm_at "sub")) .nil ⟨_, pa, n2, _, rfl, hz3, hsA _ _ hpa, hs3 _ _ hn2, (henv.mono hsA).put (hr.mono hsB)⟩)
end
end AL
/-! D4 -/
namespace AL
open PySem PySem.Spec PyProof.Rows L2
section
variable {P : Program} {w : World} {K : PySem.W.Frag} {mg : Str → Option Value} {base : Heap}
def spStairsGive : Sp := fun vs H Q _ => ∃ (Z : Hp) (L : Lx) (g : Pg) (a : PgA) (pg me mx rw f0 d0 p0 hq no li he hd : Addr) (tk hn fin : V) (nov : List V) (i : Int), vs = [.ref me, .int i] ∧ ProgAt Z g a pg ∧ ListedAt Z g li ∧ HearsAt Z g he ∧ HeardAt Z g hd hq ∧ nov.length ≤ 5000 ∧
  ((∃ ps fv f b x, SH Z ((me, cStairs.ob K mx [.ref pg, .ref li, .ref he, .ref rw, .ref hd, tk, hn, fin, .ref no]) :: (rw, .lst [.ref f0]) :: (f0, cFlight.ob K d0 [.non, .int 0, .ref p0]) :: (p0, .lst (ps ++ [fv])) :: (hq, .lst []) :: (no, .lst nov) :: L) H ∧
      SF K Z g f fv ∧ Pt.pc g f.t f.n = some b ∧ BdX b x ∧ f.env.length ≤ 1000 ∧ ps.length ≤ 4000 ∧
      ∀ topv Z1 H1, Same Z Z1 → SH Z1 ((me, cStairs.ob K mx [.ref pg, .ref li, .ref he, .ref rw, .ref hd, tk, hn, fin, .ref no]) :: (rw, .lst [.ref f0]) :: (f0, cFlight.ob K d0 [.non, .int 0, .ref p0]) :: (p0, .lst (ps ++ [topv])) :: (hq, .lst []) :: (no, .lst nov) :: L) H1 → SF K Z1 g ⟨f.t, f.n + 1, (x, .int i) :: f.env⟩ topv → Q .non H1) ∨
   (SH Z ((me, cStairs.ob K mx [.ref pg, .ref li, .ref he, .ref rw, .ref hd, tk, hn, fin, .ref no]) :: (rw, .lst [.ref f0]) :: (f0, cFlight.ob K d0 [.non, .int 0, .ref p0]) :: (p0, .lst []) :: (hq, .lst []) :: (no, .lst nov) :: L) H ∧
      ∀ fp Z1 H1, Same Z Z1 → SH Z1 ((me, cStairs.ob K mx [.ref pg, .ref li, .ref he, .ref rw, .ref hd, tk, hn, .ref fp, .ref no]) :: (no, .lst nov) :: L) H1 → Z1 fp = some (.tup [.str "gave", .int i]) → Q .non H1) ∨
   (∃ f1 d1 p1 nv hs ps, SH Z ((me, cStairs.ob K mx [.ref pg, .ref li, .ref he, .ref rw, .ref hd, tk, hn, fin, .ref no]) :: (rw, .lst [.ref f0, .ref f1]) :: (f0, cFlight.ob K d0 [.non, .int 0, .ref p0]) :: (p0, .lst ps) :: (hq, .lst [.int 1]) :: (no, .lst nov) :: (f1, cFlight.ob K d1 [.str g.K, nv, .ref p1]) :: (p1, .lst []) :: L) H ∧
      GV (SRel K g) Z (.row hs) nv ∧ ps.length ≤ 4000 ∧
      ∀ topv ev Z1 H1, Same Z Z1 → SH Z1 ((me, cStairs.ob K mx [.ref pg, .ref li, .ref he, .ref rw, .ref hd, tk, hn, fin, .ref no]) :: (rw, .lst [.ref f0]) :: (f0, cFlight.ob K d0 [.non, .int 0, .ref p0]) :: (p0, .lst (ps ++ [topv])) :: (hq, .lst []) :: (no, .lst (nov ++ [ev])) :: L) H1 → EvAt Z1 g .ended ev → SF K Z1 g ⟨.en, 0, [(g.en, .row hs), (g.ex, .int i)]⟩ topv → Q .non H1))
theorem ok_Stairs_give (T : Tx K mg) : Met P w K mg base 5 cStairs "give" ["self", "thing"] (spStairsGive (K := K)) := by
  refine mk_met (c := cStairs) (F_Stairs_give T) (m_Stairs_give T) sc_Stairs_give (fun _ _ _ _ _ _ us hl => match us, hl with | [_, _], _ => rfl) ?len ?body
  case len =>
    rintro vs H Q E ⟨Z, L, g, a, pg, me, mx, rw, f0, d0, p0, hq, no, li, he, hd, tk, hn, fin, nov, i, rfl, _⟩
    rfl
  case body =>
    rintro cdv A outer s H vs Q E hr ⟨Z, L, g, a, pg, me, mx, rw, f0, d0, p0, hq, no, li, he, hd, tk, hn, fin, nov, i, rfl, A1, hli, hhe, hhd, hnl, hc⟩
    refine ⟨_, (pss_one (ps_if (pt_cmpR op_gt (pe_callB call_lenA (by rfl) (b_len T) (by decide +kernel) (pa_cons (pe_atK (K := K) (c := cFlight) (i := 2) (ok_cFlight T) (pe_ix (ix_anyK (K := K)) (pe_atK (K := K) (c := cStairs) (i := 3) (ok_cStairs T) (pv 0)) (pe_un un_neg pe_int) (fun _ _ => rfl))) pa_nil)) pe_int (nomark _)) (pss_one (ps_expr (pe_metK (K := K) (ok_cStairs T) (ok_Stairs_bind T) hr (by decide +kernel) (pv 0) (pa_cons (pv 1) pa_nil)))) (pss_one (ps_if (pt_cmpR op_eq (pe_callB call_lenA (by rfl) (b_len T) (by decide +kernel) (pa_cons (pe_atK (K := K) (c := cStairs) (i := 3) (ok_cStairs T) (pv 0)) pa_nil)) pe_int (nomark _)) (pss_one (ps_atK (K := K) (c := cStairs) (i := 7) (ok_cStairs T) (pv 0) (pe_tup (pa_cons pe_str (pa_cons (pe_cal (ok_as_told T) hr (pa_cons (pv 1) pa_nil)) pa_nil))))) (pss_cons (ps_set (i := 2) sc_Stairs_give.nd rfl (Or.inl rfl) (pe_met0K (K := K) (ok_cStairs T) (ok_Stairs_take_flight T) hr (by decide +kernel) (pv 0))) (pss_cons (ps_expr (pe_bmK (K := K) (pe_bm PySem.F.plainAttrs_list PySem.F.slot_list_append PySem.F.type_list_append mt_append (pe_atK (K := K) (c := cStairs) (i := 8) (ok_cStairs T) (pv 0)) (pa_cons (pe_tup (pa_cons pe_str (pa_cons (pe_atK (K := K) (c := cFlight) (i := 0) (ok_cFlight T) (pv 2)) pa_nil))) pa_nil)))) (pss_one (ps_expr (pe_metK (K := K) (ok_cStairs T) (ok_Stairs_begin T) hr (by decide +kernel) (pv 0) (pa_cons (pe_tup (pa_cons pe_str (pa_cons (pe_atK (K := K) (c := cFlight) (i := 0) (ok_cFlight T) (pv 2)) pa_nil))) (pa_cons (pe_lst (pa_cons (pv 1) (pa_cons (pe_atK (K := K) (c := cFlight) (i := 1) (ok_cFlight T) (pv 2)) pa_nil))) pa_nil))))))))))), ?_⟩
    show (_ : TS) _ ([some _, some _, none] : L2.St) _
    have a1 : ∀ {x : V}, atI [x] (-1) = some x := fun {x} => atI_last [] x
    have a2 : ∀ {x y : V}, atI [x, y] (-1) = some y := fun {x y} => atI_last [x] y
    rcases hc with ⟨ps, fv, f, b, x, S, hf, hpc, hbx, hle, hpl, q⟩ | ⟨S, q⟩ | ⟨f1, d1, p1, nv, hs, ps, S, hnv, hpl, q⟩
    · wtm_at "wp"
      refine if_T (decide_eq_true (by rw [List.length_append, List.length_cons]; omega)) ?_
      wtm_at "wp"
      refine ⟨Z, (hq, .lst []) :: (no, .lst nov) :: L, g, me, mx, rw, f0, d0, p0, li, _, _, _, _, _, _, _, _, _, _, fv, [], ps, f, b, x, .int i, rfl, S, hli, hf, hpc, hbx, rfl, hle, by omega, fun pv' Z1 H hs S hf2 => ?_⟩
      wtm_at "wp"
      exact q _ _ _ hs S hf2
    · wtm_at "wp"
      refine ⟨Z, _, i, rfl, S, fun H S => ?_⟩
      wtm_at "wp"
      obtain ⟨S, hs1, hz1⟩ := S.pick (p := p) (by wtm_at "pick")
      exact q _ _ _ hs1 (S.sub (by wtm_at "sub")) hz1
    · wtm_at "wp"
      refine if_F (decide_eq_false fun z => by have := V.int.inj z; simp at this) ?_
      wtm_at "wp"
      refine ⟨Z, (f0, cFlight.ob K d0 [.non, .int 0, .ref p0]) :: (p0, .lst ps) :: (no, .lst nov) :: (f1, cFlight.ob K d1 [.str g.K, nv, .ref p1]) :: L, g, me, mx, rw, hq, f1, d1, he, hd, _, _, _, _, _, _, .int 1, [.ref f0], [], [nv, .ref p1], rfl, (by simp only [List.cons_append, List.nil_append]; exact S.sel (by wtm_at "sel")), by wtm_at "in", hhe, hhd, fun H S => ?_⟩
      wtm_at "wp"
      obtain ⟨S, hs1, hz1⟩ := S.pick (o := .tup [.str "ended", .str g.K]) (by wtm_at "pick")
      obtain ⟨S, hs2, hz2⟩ := S.pick (o := .tup [.str "end", .str g.K]) (by wtm_at "pick")
      have hsA := hs1.trans hs2
      refine ⟨_, (hq, .lst []) :: (no, .lst (nov ++ [_])) :: L, g, a, pg, me, mx, rw, f0, d0, p0, _, _, _, _, _, _, _, _, _, _, _, [], ps, [.int i, nv], .en, [.int i, .row hs], rfl, (by simp only [List.cons_append, List.nil_append]; exact S.sel (by wtm_at "sel")), A1.mono hsA, hz2, by omega, .cons rfl (.cons (hnv.mono hsA) .nil), rfl, fun topv Z1 H hs3 S hf => ?_⟩
      wtm_at "wp"
      exact q _ _ _ _ (hsA.trans hs3) S ⟨_, rfl, hs3 _ _ (hs2 _ _ hz1)⟩ hf
end
end AL
/-! D5 -/
namespace AL
open PySem PySem.Spec PyProof.Rows L2
section
variable {P : Program} {w : World} {K : PySem.W.Frag} {mg : Str → Option Value} {base : Heap}
theorem IEnvAt.genv {R : HRel} {Z : Hp} {kvs : KVs} {e : List (Str × Int)} (h : IEnvAt kvs e) : GEnv R Z (ienv e) kvs :=
  ⟨by have := h.1; simpa [ienv] using this, fun x a hx => let ⟨i, e1, h1⟩ := h.2 x a hx; ⟨_, h1, by subst e1; rfl⟩⟩
def spStairsGoOn : Sp := fun vs H Q _ => ∃ (Z : Hp) (L : Lx) (g : Pg) (me mx rw f0 d0 p0 hq no li he hd : Addr) (pg tk hn fin hv nv : V) (ps nov : List V) (h : Hd) (i : Int) (y q c : _) (nx : Bd), vs = [.ref me, hv, .int i, nv] ∧
  SH Z ((me, cStairs.ob K mx [pg, .ref li, .ref he, .ref rw, .ref hd, tk, hn, fin, .ref no]) :: (rw, .lst [.ref f0]) :: (f0, cFlight.ob K d0 [.non, .int 0, .ref p0]) :: (p0, .lst ps) :: (hq, .lst []) :: (no, .lst nov) :: L) H ∧
  ListedAt Z g li ∧ HearsAt Z g he ∧ HeardAt Z g hd hq ∧ nov.length ≤ 5000 ∧ SHd K g Z h hv ∧ Pt.pc g .d1 h.at_ = some (.ask y q c nx) ∧ h.env.length ≤ 1000 ∧
  ∀ f2 d2 p2 topv ev Z1 H1, Same Z Z1 → SH Z1 ((me, cStairs.ob K mx [pg, .ref li, .ref he, .ref rw, .ref hd, tk, hn, fin, .ref no]) :: (rw, .lst [.ref f0, .ref f2]) :: (f0, cFlight.ob K d0 [.non, .int 0, .ref p0]) :: (p0, .lst ps) :: (hq, .lst [.int 1]) :: (no, .lst (nov ++ [ev])) :: (f2, cFlight.ob K d2 [.str g.K, nv, .ref p2]) :: (p2, .lst [topv]) :: L) H1 →
    EvAt Z1 g (.go h.num) ev → SF K Z1 g ⟨.d1, h.at_ + 1, ienv ((y, i) :: h.env)⟩ topv → Q .non H1
theorem ok_Stairs_go_on (T : Tx K mg) : Met P w K mg base 4 cStairs "go_on" ["self", "hold", "thing", "note"] (spStairsGoOn (K := K)) := by
  refine mk_met (c := cStairs) (F_Stairs_go_on T) (m_Stairs_go_on T) sc_Stairs_go_on (fun _ _ _ _ _ _ us hl => match us, hl with | [_, _, _, _], _ => rfl) ?len ?body
  case len =>
    rintro vs H Q E ⟨Z, L, g, me, mx, rw, f0, d0, p0, hq, no, li, he, hd, pg, tk, hn, fin, hv, nv, ps, nov, h, i, y, qq, c, nx, rfl, _⟩
    rfl
  case body =>
    rintro cdv A outer s H vs Q E hr ⟨Z, L, g, me, mx, rw, f0, d0, p0, hq, no, li, he, hd, pg, tk, hn, fin, hv, nv, ps, nov, h, i, y, qq, c, nx, rfl, S, hli, hhe, hhd, hnl, ⟨hp, hdx, cl, fl, dfl, pl, tp, pa, nm, kvs, n0, rfl, h1, h2, h3, h4, h5, h6, h7, h8⟩, hpc, hle, q⟩
    refine ⟨_, (pss_cons (ps_expr (pe_bmK (K := K) (pe_bm PySem.F.plainAttrs_list PySem.F.slot_list_append PySem.F.type_list_append mt_append (pe_atK (K := K) (c := cStairs) (i := 8) (ok_cStairs T) (pv 0)) (pa_cons (pe_tup (pa_cons pe_str (pa_cons (pe_atK (K := K) (c := cHold) (i := 0) (ok_cHold T) (pv 1)) pa_nil))) pa_nil)))) (pss_cons (ps_expr (pe_metK (K := K) (ok_cStairs T) (ok_Stairs_put_flight T) hr (by decide +kernel) (pv 0) (pa_cons (pe_metK (K := K) (ok_cFlight T) (ok_Flight_with_note T) hr (by decide +kernel) (pe_ix (ix_anyK (K := K)) (pe_atK (K := K) (c := cHold) (i := 1) (ok_cHold T) (pv 1)) pe_int (fun _ _ => rfl)) (pa_cons (pv 3) pa_nil)) pa_nil))) (pss_cons (ps_for PassesOwn.never rfl (pi_listK (K := K) (pe_slice (sl_listK (K := K)) (pe_atK (K := K) (c := cHold) (i := 1) (ok_cHold T) (pv 1)) (po_some pe_int) po_none)) (pg_name (i := 4) sc_Stairs_go_on.nd rfl (Or.inl rfl)) (pss_one (ps_expr (pe_metK (K := K) (ok_cStairs T) (ok_Stairs_put_flight T) hr (by decide +kernel) (pv 0) (pa_cons (pe_metK (K := K) (ok_cFlight T) (ok_Flight_with_note T) hr (by decide +kernel) (pv 4) (pa_cons (pe_atK (K := K) (c := cFlight) (i := 1) (ok_cFlight T) (pv 4)) pa_nil)) pa_nil))))) (pss_one (ps_expr (pe_metK (K := K) (ok_cStairs T) (ok_Stairs_bind T) hr (by decide +kernel) (pv 0) (pa_cons (pv 2) pa_nil))))))), ?_⟩
    show (_ : TS) _ ([some _, some _, some _, some _, none] : L2.St) _
    wtm_at "wp"
    obtain ⟨S, hs1, hz1⟩ := S.pick (o := .tup [.str "go", .int (h.num : Nat)]) (by wtm_at "pick")
    replace h1 := hs1 _ _ h1
    replace h2 := hs1 _ _ h2
    replace h3 := hs1 _ _ h3
    replace h4 := hs1 _ _ h4
    refine ⟨_, _, fl, dfl, pl, _, _, _, _, rfl, S, .z h3, .z h4, fun f2 d2 p2 H S => ?_⟩
    wtm_at "wp"
    refine ⟨_, (f0, cFlight.ob K d0 [.non, .int 0, .ref p0]) :: (p0, .lst ps) :: (no, .lst (nov ++ [_])) :: (f2, cFlight.ob K d2 [.str g.K, nv, .ref p2]) :: (p2, .lst [.ref tp]) :: L, g, me, mx, rw, hq, f2, d2, he, hd, _, _, _, _, _, _, [.ref f0], [], _, rfl, S.sel (by wtm_at "sel"), by wtm_at "in", hhe.mono hs1, hs1 _ _ hhd, by simp, by simp, fun H S => ?_⟩
    wtm_at "wp"
    refine k_slL S (.z h2) (ys := []) rfl fun e0 H S => ?_
    wtm_at "un"
    wtm_at "wp"
    refine ⟨_, (f0, cFlight.ob K d0 [.non, .int 0, .ref p0]) :: (p0, .lst ps) :: (hq, .lst [.int 1]) :: (no, .lst (nov ++ [_])) :: L, g, me, mx, rw, f2, d2, p2, li, _, _, _, _, _, _, _, _, _, _, .ref tp, [.ref f0], [], ⟨.d1, h.at_, ienv h.env⟩, _, y, .int i, rfl, (by simp only [List.cons_append, List.nil_append] at S ⊢; exact S.sel (by wtm_at "sel")), hli.mono hs1, ⟨tp, pa, nm, kvs, rfl, hs1 _ _ h5, hs1 _ _ h6, hs1 _ _ h7, h8.genv⟩, hpc, .ask, rfl, by simpa [ienv] using hle, by decide, fun pv' Z1 H hs3 S hf => ?_⟩
    wtm_at "wp"
    exact q _ _ _ _ _ _ _ (hs1.trans hs3) (by simp only [List.cons_append, List.nil_append] at S; exact S.sel (by wtm_at "sel")) ⟨_, rfl, hs3 _ _ hz1⟩ hf
end
end AL
/-! D6 -/
namespace AL
open PySem PySem.Spec PyProof.Rows L2
theorem IEnvAt.ofG {R : HRel} {Z : Hp} {kvs : KVs} {e : List (Str × Int)} (h : GEnv R Z (ienv e) kvs) : IEnvAt kvs e := by
  refine ⟨by have := h.len; simpa [ienv] using this, fun x a hx => ?_⟩
  have : ∀ e : List (Str × Int), eget (ienv e) x = some a → ∃ i, a = .int i := by
    intro e
    induction e with
    | nil => intro h; cases h
    | cons p r ih =>
      intro h
      unfold ienv at h
      rw [List.map_cons] at h
      unfold eget at h
      split at h
      · cases h; exact ⟨_, rfl⟩
      · exact ih h
  obtain ⟨i, rfl⟩ := this e hx
  obtain ⟨v, h1, h2⟩ := h.v x _ hx
  obtain rfl : v = .int i := h2
  exact ⟨i, rfl, h1⟩
section
variable {P : Program} {w : World} {K : PySem.W.Frag} {mg : Str → Option Value} {base : Heap}
def spStairsAsk : Sp := fun vs H Q _ => ∃ (Z : Hp) (L : Lx) (g : Pg) (a : PgA) (pg me mx rw f0 d0 p0 hq no li he hd f1 d1 p1 : Addr) (tk fin nv tv : V) (ps nov : List V) (hn n : Nat) (env : List (Str × Int)) (hs : List Hd) (i : Int), vs = [.ref me, .str g.q, .int i] ∧
  SH Z ((me, cStairs.ob K mx [.ref pg, .ref li, .ref he, .ref rw, .ref hd, tk, .int (hn : Nat), fin, .ref no]) :: (rw, .lst [.ref f0, .ref f1]) :: (f0, cFlight.ob K d0 [.non, .int 0, .ref p0]) :: (p0, .lst ps) :: (hq, .lst [.int 1]) :: (no, .lst nov) :: (f1, cFlight.ob K d1 [.str g.K, nv, .ref p1]) :: (p1, .lst [tv]) :: L) H ∧
  ProgAt Z g a pg ∧ HearsAt Z g he ∧ HeardAt Z g hd hq ∧ nov.length ≤ 5000 ∧ ps.length ≤ 4000 ∧ GV (SRel K g) Z (.row hs) nv ∧ SF K Z g ⟨.d1, n, ienv env⟩ tv ∧
  ∀ topv ev Z1 H1, Same Z Z1 → SH Z1 ((me, cStairs.ob K mx [.ref pg, .ref li, .ref he, .ref rw, .ref hd, tk, .int ((hn + 1 : Nat) : Int), fin, .ref no]) :: (rw, .lst [.ref f0]) :: (f0, cFlight.ob K d0 [.non, .int 0, .ref p0]) :: (p0, .lst (ps ++ [topv])) :: (hq, .lst []) :: (no, .lst (nov ++ [ev])) :: L) H1 →
    EvAt Z1 g .ask ev → SF K Z1 g ⟨.hr, 0, [(g.hn, .row hs), (g.hh, .hold ⟨hn, n, env⟩), (g.hx, .int i)]⟩ topv → Q .non H1
theorem ok_Stairs_ask (T : Tx K mg) : Met P w K mg base 5 cStairs "ask" ["self", "q", "thing"] (spStairsAsk (K := K)) := by
  refine mk_met (c := cStairs) (F_Stairs_ask T) (m_Stairs_ask T) sc_Stairs_ask (fun _ _ _ _ _ _ us hl => match us, hl with | [_, _, _], _ => rfl) ?len ?body
  case len =>
    rintro vs H Q E ⟨Z, L, g, a, pg, me, mx, rw, f0, d0, p0, hq, no, li, he, hd, f1, d1, p1, tk, fin, nv, tv, ps, nov, hn, n, env, hs, i, rfl, _⟩
    rfl
  case body =>
    rintro cdv A outer s H vs Q E hr ⟨Z, L, g, a, pg, me, mx, rw, f0, d0, p0, hq, no, li, he, hd, f1, d1, p1, tk, fin, nv, tv, ps, nov, hn, n, env, hs, i, rfl, S, A1, hhe, hhd, hnl, hpl, hnv, ⟨tp, pa, nm, kvs, rfl, htp, hpa, hnm, henv⟩, q⟩
    refine ⟨_, (pss_cons (ps_if (pt_cmpR op_eq (pe_callB call_lenA (by rfl) (b_len T) (by decide +kernel) (pa_cons (pe_dget (hu_of hr) (pe_atK (K := K) (c := cStairs) (i := 4) (ok_cStairs T) (pv 0)) (pv 1) (fun _ _ => rfl)) pa_nil)) pe_int (nomark _)) (pss_cons (ps_atK (K := K) (c := cStairs) (i := 7) (ok_cStairs T) (pv 0) (pe_tup (pa_cons pe_str (pa_cons (pv 1) (pa_cons (pe_cal (ok_as_told T) hr (pa_cons (pv 2) pa_nil)) pa_nil))))) (pss_one ps_retN)) pss_nil) (pss_cons (ps_set (i := 3) sc_Stairs_ask.nd rfl (Or.inl rfl) (pe_ix (ix_anyK (K := K)) (pe_dget (hu_of hr) (pe_atK (K := K) (c := cStairs) (i := 4) (ok_cStairs T) (pv 0)) (pv 1) (fun _ _ => rfl)) (pe_un un_neg pe_int) (fun _ _ => rfl))) (pss_cons (ps_set (i := 4) sc_Stairs_ask.nd rfl (Or.inl rfl) (pe_lst pa_nil)) (pss_cons (ps_while PassesOwn.never (pt_cmpR op_gt (pe_callB call_lenA (by rfl) (b_len T) (by decide +kernel) (pa_cons (pe_atK (K := K) (c := cStairs) (i := 3) (ok_cStairs T) (pv 0)) pa_nil)) (pv 3) (nomark _)) (pss_one (ps_expr (pe_bmK (K := K) (pe_bm PySem.F.plainAttrs_list PySem.F.slot_list_insert PySem.F.type_list_insert mt_insert (pv 4) (pa_cons pe_int (pa_cons (pe_met0K (K := K) (ok_cStairs T) (ok_Stairs_take_flight T) hr (by decide +kernel) (pv 0)) pa_nil))))))) (pss_cons (ps_set (i := 5) sc_Stairs_ask.nd rfl (Or.inl rfl) (pe_makK (K := K) (c := cHold) (ok_Hold_init T) hr (pa_cons (pe_atK (K := K) (c := cStairs) (i := 6) (ok_cStairs T) (pv 0)) (pa_cons (pv 4) pa_nil)))) (pss_cons (ps_atK (K := K) (c := cStairs) (i := 6) (ok_cStairs T) (pv 0) (pe_op op_add (pe_atK (K := K) (c := cStairs) (i := 6) (ok_cStairs T) (pv 0)) pe_int)) (pss_cons (ps_expr (pe_bmK (K := K) (pe_bm PySem.F.plainAttrs_list PySem.F.slot_list_append PySem.F.type_list_append mt_append (pe_atK (K := K) (c := cStairs) (i := 8) (ok_cStairs T) (pv 0)) (pa_cons (pe_tup (pa_cons pe_str (pa_cons (pv 1) (pa_cons (pe_op op_sub (pv 3) pe_int) pa_nil)))) pa_nil)))) (pss_one (ps_expr (pe_metK (K := K) (ok_cStairs T) (ok_Stairs_begin T) hr (by decide +kernel) (pv 0) (pa_cons (pe_tup (pa_cons pe_str (pa_cons (pe_atK (K := K) (c := cFlight) (i := 0) (ok_cFlight T) (pe_ix (ix_anyK (K := K)) (pv 4) pe_int (fun _ _ => rfl))) (pa_cons (pv 1) pa_nil)))) (pa_cons (pe_lst (pa_cons (pv 2) (pa_cons (pv 5) (pa_cons (pe_atK (K := K) (c := cFlight) (i := 1) (ok_cFlight T) (pe_ix (ix_anyK (K := K)) (pv 4) pe_int (fun _ _ => rfl))) pa_nil)))) pa_nil)))))))))))), ?_⟩
    show (_ : TS) _ ([some _, some _, some _, none, none, none] : L2.St) _
    have hv2 : valV [((.inr g.q : Key), V.ref hq)] (.inr g.q) = some (.ref hq) := valV_pos rfl
    have hhd0 := hhd
    replace hhd : Z hd = some (.dK [(.inr g.q, .ref hq)]) := hhd
    wtm_at "wp"
    rename Addr => ct
    refine w_while (fun m σ H => σ = [some (.ref me), some (.str g.q), some (.int i), some (.int 1), some (.ref ct), none] ∧
      ((m = 1 ∧ SH Z ((ct, .lst []) :: (me, cStairs.ob K mx [.ref pg, .ref li, .ref he, .ref rw, .ref hd, tk, .int (hn : Nat), fin, .ref no]) :: (rw, .lst [.ref f0, .ref f1]) :: (f0, cFlight.ob K d0 [.non, .int 0, .ref p0]) :: (p0, .lst ps) :: (hq, .lst [.int 1]) :: (no, .lst nov) :: (f1, cFlight.ob K d1 [.str g.K, nv, .ref p1]) :: (p1, .lst [.ref tp]) :: L) H) ∨
       (m = 0 ∧ SH Z ((ct, .lst [.ref f1]) :: (me, cStairs.ob K mx [.ref pg, .ref li, .ref he, .ref rw, .ref hd, tk, .int (hn : Nat), fin, .ref no]) :: (rw, .lst [.ref f0]) :: (f0, cFlight.ob K d0 [.non, .int 0, .ref p0]) :: (p0, .lst ps) :: (hq, .lst []) :: (no, .lst nov) :: (f1, cFlight.ob K d1 [.str g.K, nv, .ref p1]) :: (p1, .lst [.ref tp]) :: L) H))) 1 ⟨rfl, .inl ⟨rfl, S⟩⟩ ?_
    rintro m σ H ⟨rfl, ⟨rfl, S⟩ | ⟨rfl, S⟩⟩
    · wtm_at "wp"
      refine k_turn ?_
      wtm_at "wp"
      refine ⟨Z, (ct, .lst []) :: (f0, cFlight.ob K d0 [.non, .int 0, .ref p0]) :: (p0, .lst ps) :: (no, .lst nov) :: (f1, cFlight.ob K d1 [.str g.K, nv, .ref p1]) :: (p1, .lst [.ref tp]) :: L, g, me, mx, rw, hq, f1, d1, he, hd, _, _, _, _, _, _, .int 1, [.ref f0], [], [nv, .ref p1], rfl, (by simp only [List.cons_append, List.nil_append]; exact S.sel (by wtm_at "sel")), by wtm_at "in", hhe, hhd0, fun H S => ?_⟩
      wtm_at "wp"
      refine ⟨ct, [], 0, .ref f1, rfl, rfl, S.at (by wtm_at "in"), lt_line (by decide), by decide, by decide, ?_⟩
      exact ⟨0, Nat.zero_lt_one, rfl, .inr ⟨rfl, SH.sel (S.wr (o := .lst [.ref f1]) (by wtm_at "wr")) (by wtm_at "sel")⟩⟩
    · wtm_at "wp"
      refine if_F (decide_eq_false (by simp)) ?_
      wtm_at "wp"
      refine ⟨Z, _, x, dx, _, _, rfl, S, fun H S => ⟨rfl, ?_⟩⟩
      wtm_at "wp"
      obtain ⟨S, hs1, hz1⟩ := S.pick (o := .tup [.str "ask", .str g.q, .int (1 - 1)]) (by wtm_at "pick")
      obtain ⟨S, hs2, hz2⟩ := S.pick (o := .tup [.str "hear", .str g.K, .str g.q]) (by wtm_at "pick")
      obtain ⟨S, hs3, hz3⟩ := S.pick (p := ct) (by wtm_at "pick")
      obtain ⟨S, hs4, hz4⟩ := S.pick (p := f1) (by wtm_at "pick")
      obtain ⟨S, hs5, hz5⟩ := S.pick (p := p1) (by wtm_at "pick")
      obtain ⟨S, hs6, hz6⟩ := S.pick (p := x) (by wtm_at "pick")
      have hs56 := hs5.trans hs6
      have hs36 := (hs3.trans hs4).trans hs56
      have hsA := (hs1.trans hs2).trans hs36
      refine ⟨_, (hq, .lst []) :: (no, .lst (nov ++ [_])) :: L, g, a, pg, me, mx, rw, f0, d0, p0, _, _, _, _, _, _, _, _, _, _, _, [], ps, [.int i, .ref x, nv], .hr, [.int i, .hold ⟨hn, n, env⟩, .row hs], rfl, (by simp only [List.cons_append, List.nil_append]; exact S.sel (by wtm_at "sel")), A1.mono hsA, hs36 _ _ hz2, by omega, .cons rfl (.cons ⟨x, _, ct, f1, d1, p1, tp, pa, nm, kvs, nv, rfl, hz6, hs56 _ _ (hs4 _ _ hz3), hs56 _ _ hz4, hs6 _ _ hz5, hsA _ _ htp, hsA _ _ hpa, hsA _ _ hnm, .ofG henv⟩ (.cons (hnv.mono hsA) .nil)), rfl, fun topv Z1 H hs7 S hf => ?_⟩
      wtm_at "wp"
      exact q _ _ _ _ (hsA.trans hs7) S ⟨_, rfl, hs7 _ _ (hs36 _ _ (hs2 _ _ hz1))⟩ hf
end
end AL
/-! D7 -/
namespace AL
open PySem PySem.Spec PyProof.Rows L2
/-- the stairs' flights; what stands behind the object itself -/
def SRep (K : PySem.W.Frag) (Z : Hp) (g : Pg) (low : List AF) (top : AF) (rw f0 d0 p0 hq no : Addr) (nov : List V) (L M : Lx) : Option (List Hd) → Prop
  | none => ∃ lows topv, M = (rw, .lst [.ref f0]) :: (f0, cFlight.ob K d0 [.non, .int 0, .ref p0]) :: (p0, .lst (lows ++ [topv])) :: (hq, .lst []) :: (no, .lst nov) :: L ∧ Paired (SF K Z g) low lows.reverse ∧ SF K Z g top topv
  | some hs => ∃ lows topv f1 d1 p1 nv, M = (rw, .lst [.ref f0, .ref f1]) :: (f0, cFlight.ob K d0 [.non, .int 0, .ref p0]) :: (p0, .lst lows) :: (hq, .lst [.int 1]) :: (no, .lst nov) :: (f1, cFlight.ob K d1 [.str g.K, nv, .ref p1]) :: (p1, .lst [topv]) :: L ∧
      Paired (SF K Z g) low lows.reverse ∧ SF K Z g top topv ∧ GV (SRel K g) Z (.row hs) nv
section
variable {P : Program} {w : World} {K : PySem.W.Frag} {mg : Str → Option Value} {base : Heap}
def spStairsWait : Sp := fun vs H Q _ => ∃ (Z : Hp) (L M : Lx) (g : Pg) (a : PgA) (pg me mx rw f0 d0 p0 hq no nm li he hd : Addr) (tk fin pcv : V) (nov : List V) (kvs : KVs) (b : Bd) (low : List AF) (note : Option (List Hd)) (t : Pt) (n hn : Nat) (env : AEnv) (ev : List Ev) (s' : AS),
  vs = [.ref me, .ref nm, pcv] ∧
  SH Z ((me, cStairs.ob K mx [.ref pg, .ref li, .ref he, .ref rw, .ref hd, tk, .int (hn : Nat), fin, .ref no]) :: M) H ∧ SRep K Z g low ⟨t, n, env⟩ rw f0 d0 p0 hq no nov L M note ∧ ProgAt Z g a pg ∧ ListedAt Z g li ∧ HearsAt Z g he ∧ HeardAt Z g hd hq ∧ low.length ≤ 2000 ∧ nov.length ≤ 4000 ∧
  Z nm = some (.dK kvs) ∧ GEnv (SRel K g) Z env kvs ∧ BdAt Z b pcv ∧ Pt.pc g t n = some b ∧ b.waits ∧ AStep g ⟨low, note, ⟨t, n, env⟩, hn, ev⟩ s' ∧ (∀ av h, eget env av = some (.hold h) → h.env.length ≤ 900) ∧
  ∀ M2 evs ew Z1 H1, Same Z Z1 → SH Z1 ((me, cStairs.ob K mx [.ref pg, .ref li, .ref he, .ref rw, .ref hd, tk, .int (s'.held : Nat), fin, .ref no]) :: M2) H1 → SRep K Z1 g s'.low s'.top rw f0 d0 p0 hq no (nov ++ ew) L M2 s'.note → s'.ev = ev ++ evs → Paired (EvAt Z1 g) evs ew → Q .non H1
theorem ok_Stairs_wait (T : Tx K mg) : Met P w K mg base 6 cStairs "wait" ["self", "names", "piece"] (spStairsWait (K := K)) := by
  refine mk_met (c := cStairs) (F_Stairs_wait T) (m_Stairs_wait T) sc_Stairs_wait (fun _ _ _ _ _ _ us hl => match us, hl with | [_, _, _], _ => rfl) ?len ?body
  case len =>
    rintro vs H Q E ⟨Z, L, M, g, a, pg, me, mx, rw, f0, d0, p0, hq, no, nm, li, he, hd, tk, fin, pcv, nov, kvs, b, low, note, t, n, hn, env, ev, s', rfl, _⟩
    rfl
  case body =>
    rintro cdv A outer s H vs Q E hr ⟨Z, L, M, g, a, pg, me, mx, rw, f0, d0, p0, hq, no, nm, li, he, hd, tk, fin, pcv, nov, kvs, b, low, note, t, n, hn, env, ev, s', rfl, S, hrep, A1, hli, hhe, hhd, hll, hnl, hnm, henv, hb, hpc, hwt, hst, hhl, q⟩
    refine ⟨_, (pss_one (ps_if (pt_cmpR op_eq (pe_ix (ix_anyK (K := K)) (pv 2) pe_int (fun _ _ => rfl)) pe_str (nomark _)) (pss_one (ps_expr (pe_metK (K := K) (ok_cStairs T) (ok_Stairs_begin T) hr (by decide +kernel) (pv 0) (pa_cons (pe_tup (pa_cons pe_str (pa_cons (pe_ix (ix_anyK (K := K)) (pv 2) pe_int (fun _ _ => rfl)) pa_nil))) (pa_cons (pe_lc (own := [("atom", 3)]) (g := gName 3) (tt := tYes) (by rfl) sc_Stairs_wait.nd (pi_listK (K := K) (pe_ix (ix_anyK (K := K)) (pv 2) pe_int (fun _ _ => rfl))) (blkOk_by (own := [("atom", 3)]) (N := ["self", "names", "piece", "atom"]) (sc := defScope s_Stairs_wait) (by decide +kernel)) (fun _ _ _ _ _ => (pg_name (i := 3) sc_Stairs_wait.nd rfl (Or.inl rfl))) (fun _ _ _ _ _ => pts_nil) (fun _ _ _ _ _ => (pe_cal (ok_worth T) hr (pa_cons (pv 1) (pa_cons (pv 3) pa_nil))))) pa_nil))))) (pss_one (ps_if (pt_cmpR op_eq (pe_ix (ix_anyK (K := K)) (pv 2) pe_int (fun _ _ => rfl)) pe_str (nomark _)) (pss_one (ps_expr (pe_metK (K := K) (ok_cStairs T) (ok_Stairs_ask T) hr (by decide +kernel) (pv 0) (pa_cons (pe_ix (ix_anyK (K := K)) (pv 2) pe_int (fun _ _ => rfl)) (pa_cons (pe_cal (ok_worth T) hr (pa_cons (pv 1) (pa_cons (pe_ix (ix_anyK (K := K)) (pv 2) pe_int (fun _ _ => rfl)) pa_nil))) pa_nil))))) (pss_one (ps_if (pt_cmpR op_eq (pe_ix (ix_anyK (K := K)) (pv 2) pe_int (fun _ _ => rfl)) pe_str (nomark _)) (pss_cons (ps_expr (pe_bmK (K := K) (pe_bm PySem.F.plainAttrs_list PySem.F.slot_list_append PySem.F.type_list_append mt_append (pe_atK (K := K) (c := cStairs) (i := 8) (ok_cStairs T) (pv 0)) (pa_cons (pe_tup (pa_cons pe_str (pa_cons (pe_ix (ix_anyK (K := K)) (pv 2) pe_int (fun _ _ => rfl)) pa_nil))) pa_nil)))) (pss_cons (ps_expr (pe_metK (K := K) (ok_cStairs T) (ok_Stairs_put_flight T) hr (by decide +kernel) (pv 0) (pa_cons (pe_makK (K := K) (c := cFlight) (ok_Flight_init T) hr (pa_cons (pe_ix (ix_anyK (K := K)) (pv 2) pe_int (fun _ _ => rfl)) (pa_cons (pe_cal (ok_worth T) hr (pa_cons (pv 1) (pa_cons (pe_ix (ix_anyK (K := K)) (pv 2) pe_int (fun _ _ => rfl)) pa_nil))) (pa_cons (pe_lst pa_nil) pa_nil)))) pa_nil))) (pss_one (ps_expr (pe_metK (K := K) (ok_cStairs T) (ok_Stairs_begin T) hr (by decide +kernel) (pv 0) (pa_cons (pe_tup (pa_cons pe_str (pa_cons (pe_ix (ix_anyK (K := K)) (pv 2) pe_int (fun _ _ => rfl)) pa_nil))) (pa_cons (pe_lc (own := [("atom", 3)]) (g := gName 3) (tt := tYes) (by rfl) sc_Stairs_wait.nd (pi_tupK (K := K) (pe_ix (ix_anyK (K := K)) (pv 2) pe_int (fun _ _ => rfl))) (blkOk_by (own := [("atom", 3)]) (N := ["self", "names", "piece", "atom"]) (sc := defScope s_Stairs_wait) (by decide +kernel)) (fun _ _ _ _ _ => (pg_name (i := 3) sc_Stairs_wait.nd rfl (Or.inl rfl))) (fun _ _ _ _ _ => pts_nil) (fun _ _ _ _ _ => (pe_cal (ok_worth T) hr (pa_cons (pv 1) (pa_cons (pv 3) pa_nil))))) pa_nil))))))) (pss_one (ps_expr (pe_metK (K := K) (ok_cStairs T) (ok_Stairs_go_on T) hr (by decide +kernel) (pv 0) (pa_cons (pe_cal (ok_worth T) hr (pa_cons (pv 1) (pa_cons (pe_ix (ix_anyK (K := K)) (pv 2) pe_int (fun _ _ => rfl)) pa_nil))) (pa_cons (pe_cal (ok_worth T) hr (pa_cons (pv 1) (pa_cons (pe_ix (ix_anyK (K := K)) (pv 2) pe_int (fun _ _ => rfl)) pa_nil))) (pa_cons (pe_cal (ok_worth T) hr (pa_cons (pv 1) (pa_cons (pe_ix (ix_anyK (K := K)) (pv 2) pe_int (fun _ _ => rfl)) pa_nil))) pa_nil)))))))))))), ?_⟩
    show (_ : TS) _ ([some _, some _, some _, none] : L2.St) _
    cases hst with
    | @keep _ _ _ _ _ _ x av gs nx hs hp ha =>
      rw [hpc] at hp
      obtain rfl := Option.some.inj hp
      obtain ⟨p, w1, rfl, hpp, ⟨e, rfl, he0⟩, hnx⟩ := hb
      obtain ⟨va, ka, ra⟩ := henv.at ha
      obtain ⟨lows, topv, rfl, hlow, htop⟩ := hrep
      wtm_at "wp"
      refine ⟨Z, _, nm, kvs, av, va, rfl, S, hnm, ka, fun H S => ?_⟩
      wtm_at "wp"
      obtain ⟨pl, hpl⟩ : ∃ pl, pl = p := ⟨_, rfl⟩
      rw [← hpl] at S ⊢
      clear hpl
      refine ⟨Z, _, x, dx, _, _, _, rfl, S, fun H S => ⟨rfl, ?_⟩⟩
      wtm_at "wp"
      obtain ⟨S, hs1, hz1⟩ := S.pick (o := .tup [.str "keep", .str g.K]) (by wtm_at "pick")
      replace hpp := hs1 _ _ hpp
      replace he0 := hs1 _ _ he0
      refine ⟨_, (f0, cFlight.ob K d0 [.non, .int 0, .ref p0]) :: (p0, .lst (lows ++ [topv])) :: (no, .lst (nov ++ [_])) :: (x, cFlight.ob K dx [.str g.K, va, .ref pl]) :: (pl, .lst []) :: L, g, me, mx, rw, hq, x, dx, he, hd, _, _, _, _, _, _, [.ref f0], [], _, rfl, S.sel (by wtm_at "sel"), by wtm_at "in", hhe.mono hs1, hs1 _ _ hhd, by simp, by simp, fun H S => ?_⟩
      wtm_at "wp"
      wtm_at "un"
      wtm_at "wp"
      obtain ⟨S, hs2, hz2⟩ := S.pick (o := .tup [.str "def", .str g.f1]) (by wtm_at "pick")
      have hsA := hs1.trans hs2
      refine ⟨_, (f0, cFlight.ob K d0 [.non, .int 0, .ref p0]) :: (p0, .lst (lows ++ [topv])) :: (hq, .lst [.int 1]) :: (no, .lst (nov ++ [_])) :: L, g, a, pg, me, mx, rw, x, dx, pl, D, _, _, _, _, _, _, _, _, _, _, [.ref f0], [], [], .d1, [], rfl, (by simp only [List.cons_append, List.nil_append] at S ⊢; exact S.sel (by wtm_at "sel")), A1.mono hsA, hz2, by decide, .nil, rfl, fun tv Z1 H hs3 S hf => ?_⟩
      have hsB := hsA.trans hs3
      wtm_at "wp"
      exact q _ [.keep] [_] _ _ hsB (by simp only [List.cons_append, List.nil_append] at S; exact S.sel (by wtm_at "sel")) ⟨lows ++ [topv], tv, x, dx, pl, va, rfl, Paired.snoc_rev (Paired.mapP hlow fun _ _ z => SF.mono hsB z) (htop.mono hsB), hf, ra.mono hsB⟩ rfl (.cons ⟨_, rfl, hs3 _ _ (hs2 _ _ hz1)⟩ .nil)
    | @ask _ _ env _ _ hs x av nx i hp ha =>
      rw [hpc] at hp
      obtain rfl := Option.some.inj hp
      obtain ⟨p, w1, rfl, hpp, hnx⟩ := hb
      obtain ⟨va, ka, ra⟩ := henv.at ha
      obtain rfl : va = .int i := ra
      obtain ⟨lows, topv, f1, d1, p1, nv, rfl, hlow, htop, hnv⟩ := hrep
      have hlw := hlow.length
      rw [List.length_reverse] at hlw
      wtm_at "wp"
      refine ⟨Z, _, nm, kvs, av, _, rfl, S, hnm, ka, fun H S => ?_⟩
      wtm_at "wp"
      refine ⟨Z, L, g, a, pg, me, mx, rw, f0, d0, p0, hq, no, li, he, hd, f1, d1, p1, tk, fin, nv, topv, lows, nov, hn, n, env, hs, i, rfl, S, A1, hhe, hhd, by omega, by omega, hnv, htop, fun tv ev1 Z1 H hs1 S hev hf => ?_⟩
      exact q _ [.ask] [_] _ _ hs1 S ⟨lows, tv, rfl, Paired.mapP hlow fun _ _ z => SF.mono hs1 z, hf⟩ rfl (.cons hev .nil)
    | @go _ _ _ _ _ _ x hh av bv nx h i hs y qq c nx2 hp hh_ ha hb2 hp2 =>
      rw [hpc] at hp
      obtain rfl := Option.some.inj hp
      obtain ⟨p, w1, rfl, hpp, hnx⟩ := hb
      obtain ⟨vh, kh, rh⟩ := henv.at hh_
      obtain ⟨va, ka, ra⟩ := henv.at ha
      obtain rfl : va = .int i := ra
      obtain ⟨vb, kb, rb⟩ := henv.at hb2
      obtain ⟨xh, hxh⟩ := aw_hold hh_
      obtain ⟨lows, topv, rfl, hlow, htop⟩ := hrep
      wtm_at "wp"
      refine ⟨Z, _, nm, kvs, hh, _, rfl, S, hnm, kh, fun H S => ?_⟩
      wtm_at "wp"
      refine ⟨Z, _, nm, kvs, av, _, rfl, S, hnm, ka, fun H S => ?_⟩
      wtm_at "wp"
      refine ⟨Z, _, nm, kvs, bv, _, rfl, S, hnm, kb, fun H S => ?_⟩
      wtm_at "wp"
      refine ⟨Z, L, g, me, mx, rw, f0, d0, p0, hq, no, li, he, hd, _, _, _, _, vh, vb, lows ++ [topv], nov, h, i, y, qq, c, nx2, rfl, S, hli, hhe, hhd, by omega, rh, hp2, by have := hhl _ _ hxh; omega, fun f2 d2 p2 tv ev1 Z1 H hs1 S hev hf => ?_⟩
      exact q _ [.go h.num] [_] _ _ hs1 S ⟨lows ++ [topv], tv, f2, d2, p2, vb, rfl, Paired.snoc_rev (Paired.mapP hlow fun _ _ z => SF.mono hs1 z) (htop.mono hs1), hf, rb.mono hs1⟩ rfl (.cons hev .nil)
    | mk hp hm => rw [hpc] at hp; obtain rfl := Option.some.inj hp; cases hm <;> exact hwt.elim
    | tell hp _ => rw [hpc] at hp; obtain rfl := Option.some.inj hp; exact hwt.elim
    | iff hp _ _ => rw [hpc] at hp; obtain rfl := Option.some.inj hp; exact hwt.elim
    | case0 hp _ _ _ => rw [hpc] at hp; obtain rfl := Option.some.inj hp; exact hwt.elim
    | case1 hp _ _ => rw [hpc] at hp; obtain rfl := Option.some.inj hp; exact hwt.elim
    | giveK hp _ => rw [hpc] at hp; obtain rfl := Option.some.inj hp; exact hwt.elim
    | giveP hp _ _ _ => rw [hpc] at hp; obtain rfl := Option.some.inj hp; exact hwt.elim
end
end AL
/-! D8 -/
namespace AL
open PySem PySem.Spec PyProof.Rows L2
section
variable {P : Program} {w : World} {K : PySem.W.Frag} {mg : Str → Option Value} {base : Heap}
def spStairsTurn : Sp := fun vs H Q _ => ∃ (Z : Hp) (L M : Lx) (g : Pg) (a : PgA) (pg me mx rw f0 d0 p0 hq no li he hd : Addr) (tk : Nat) (nov : List V) (s : AS),
  vs = [.ref me] ∧
  SH Z ((me, cStairs.ob K mx [.ref pg, .ref li, .ref he, .ref rw, .ref hd, .int (tk : Nat), .int (s.held : Nat), .non, .ref no]) :: M) H ∧ SRep K Z g s.low s.top rw f0 d0 p0 hq no nov L M s.note ∧ ProgAt Z g a pg ∧ ListedAt Z g li ∧ HearsAt Z g he ∧ HeardAt Z g hd hq ∧ AFit s ∧ nov.length ≤ 3000 ∧
  ((∃ s', AStep g s s' ∧ ∀ M2 evs ew Z1 H1, Same Z Z1 → SH Z1 ((me, cStairs.ob K mx [.ref pg, .ref li, .ref he, .ref rw, .ref hd, .int ((tk + 1 : Nat) : Int), .int (s'.held : Nat), .non, .ref no]) :: M2) H1 → SRep K Z1 g s'.low s'.top rw f0 d0 p0 hq no (nov ++ ew) L M2 s'.note → s'.ev = s.ev ++ evs → Paired (EvAt Z1 g) evs ew → Q (.bl true) H1) ∨
   (∃ i, AEnd g s i ∧ ∀ fp Z1 H1, Same Z Z1 → SH Z1 ((me, cStairs.ob K mx [.ref pg, .ref li, .ref he, .ref rw, .ref hd, .int ((tk + 1 : Nat) : Int), .int (s.held : Nat), .ref fp, .ref no]) :: (no, .lst nov) :: L) H1 → Z1 fp = some (.tup [.str "gave", .int i]) → Q (.bl false) H1))
theorem ok_Stairs_turn (T : Tx K mg) : Met P w K mg base 7 cStairs "turn" ["self"] (spStairsTurn (K := K)) := by
  refine mk_met (c := cStairs) (F_Stairs_turn T) (m_Stairs_turn T) sc_Stairs_turn (fun _ _ _ _ _ _ us hl => match us, hl with | [_], _ => rfl) ?len ?body
  case len =>
    rintro vs H Q E ⟨Z, L, M, g, a, pg, me, mx, rw, f0, d0, p0, hq, no, li, he, hd, tk, nov, s, rfl, _⟩
    rfl
  case body =>
    rintro cdv A outer s H vs Q E hr ⟨Z, L, M, g, a, pg, me, mx, rw, f0, d0, p0, hq, no, li, he, hd, tk, nov, ⟨low, note, ⟨t, n, env⟩, hn, ev⟩, rfl, S, hrep, A1, hli, hhe, hhd, ⟨hf1, hf2, hf3, hf4, hf5, hhl⟩, hnl, hc⟩
    refine ⟨_, (pss_cons (ps_if (pt_cmpR op_isNon (pe_atK (K := K) (c := cStairs) (i := 7) (ok_cStairs T) (pv 0)) pe_non (nomark _)) (pss_cons (ps_atK (K := K) (c := cStairs) (i := 5) (ok_cStairs T) (pv 0) (pe_op op_add (pe_atK (K := K) (c := cStairs) (i := 5) (ok_cStairs T) (pv 0)) pe_int)) (pss_cons (ps_asg (pe_bm0K (K := K) (pe_bm0 PySem.F.plainAttrs_list PySem.F.slot_list_pop PySem.F.type_list_pop mt_pop (pe_atK (K := K) (c := cFlight) (i := 2) (ok_cFlight T) (pe_ix (ix_anyK (K := K)) (pe_atK (K := K) (c := cStairs) (i := 3) (ok_cStairs T) (pv 0)) (pe_un un_neg pe_int) (fun _ _ => rfl))))) (pg_tupK (K := K) (by rfl) (pgs_cons (pg_name (i := 1) sc_Stairs_turn.nd rfl (Or.inl rfl)) (pgs_cons (pg_name (i := 2) sc_Stairs_turn.nd rfl (Or.inl rfl)) (pgs_cons (pg_name (i := 3) sc_Stairs_turn.nd rfl (Or.inl rfl)) pgs_nil))))) (pss_cons (ps_set (i := 4) sc_Stairs_turn.nd rfl (Or.inl rfl) (pe_ix (ix_anyK (K := K)) (pe_dget (hu_of hr) (pe_atK (K := K) (c := cStairs) (i := 1) (ok_cStairs T) (pv 0)) (pv 1) (fun _ _ => rfl)) (pv 2) (fun _ _ => rfl))) (pss_one (ps_if (pt_cmpR op_eq (pe_ix (ix_anyK (K := K)) (pv 4) pe_int (fun _ _ => rfl)) pe_str (nomark _)) (pss_one (ps_expr (pe_metK (K := K) (ok_cStairs T) (ok_Stairs_give T) hr (by decide +kernel) (pv 0) (pa_cons (pe_cal (ok_worth T) hr (pa_cons (pv 3) (pa_cons (pe_ix (ix_anyK (K := K)) (pv 4) pe_int (fun _ _ => rfl)) pa_nil))) pa_nil)))) (pss_one (ps_if (pt_cmpR (op_in_seqK (K := K)) (pe_ix (ix_anyK (K := K)) (pv 4) pe_int (fun _ _ => rfl)) (pe_tup (pa_cons pe_str (pa_cons pe_str (pa_cons pe_str (pa_cons pe_str pa_nil))))) (by first | rfl | exact nomark _)) (pss_cons (ps_expr (pe_bmK (K := K) (pe_bm PySem.F.plainAttrs_list PySem.F.slot_list_append PySem.F.type_list_append mt_append (pe_atK (K := K) (c := cFlight) (i := 2) (ok_cFlight T) (pe_ix (ix_anyK (K := K)) (pe_atK (K := K) (c := cStairs) (i := 3) (ok_cStairs T) (pv 0)) (pe_un un_neg pe_int) (fun _ _ => rfl))) (pa_cons (pe_tup (pa_cons (pv 1) (pa_cons (pv 2) (pa_cons (pv 3) pa_nil)))) pa_nil)))) (pss_one (ps_expr (pe_metK (K := K) (ok_cStairs T) (ok_Stairs_wait T) hr (by decide +kernel) (pv 0) (pa_cons (pv 3) (pa_cons (pv 4) pa_nil)))))) (pss_one (ps_expr (pe_bmK (K := K) (pe_bm PySem.F.plainAttrs_list PySem.F.slot_list_append PySem.F.type_list_append mt_append (pe_atK (K := K) (c := cFlight) (i := 2) (ok_cFlight T) (pe_ix (ix_anyK (K := K)) (pe_atK (K := K) (c := cStairs) (i := 3) (ok_cStairs T) (pv 0)) (pe_un un_neg pe_int) (fun _ _ => rfl))) (pa_cons (pe_metK (K := K) (ok_cStairs T) (ok_Stairs_behind T) hr (by decide +kernel) (pv 0) (pa_cons (pv 1) (pa_cons (pv 2) (pa_cons (pv 3) (pa_cons (pv 4) pa_nil))))) pa_nil)))))))))))) pss_nil) (pss_one (ps_ret (pe_cmpR op_isNon (pe_atK (K := K) (c := cStairs) (i := 7) (ok_cStairs T) (pv 0)) pe_non (nomark _))))), ?_⟩
    show (_ : TS) _ ([some _, none, none, none, none] : L2.St) _
    have hli0 := hli
    obtain ⟨lkv, hlk, hall⟩ := hli
    obtain ⟨l, ws, hl1, hl2, hl3⟩ := hall t
    cases note with
    | none =>
      obtain ⟨lows, topv, rfl, hlow, ⟨tp, pa, nm, kvs, rfl, htp, hpa, hnm, henv⟩⟩ := hrep
      have hkl := henv.len
      have hlw := hlow.length
      have hf1' : low.length ≤ 500 := hf1
      rw [List.length_reverse] at hlw
      rcases hc with ⟨s', hst, q⟩ | ⟨i, hend, q⟩
      · have hst0 := hst
        simp only [← intN tk] at q
        wtm_at "wp"
        refine k_dgetP S (.z hlk) (.z hpa) hl1 ?_
        cases hst with
        | @mk _ _ _ _ _ _ _ b x av hp hm =>
          obtain ⟨pw, hw1, hb⟩ := Paired.get hl3 hp
          have hm0 := hm
          cases hm <;> (
            have hb0 := hb
            obtain ⟨p, w1, rfl, hpp, hnx⟩ := hb
            wtm_at "wp"
            refine ⟨Z, (rw, .lst [.ref f0]) :: (f0, cFlight.ob K d0 [.non, .int 0, .ref p0]) :: (p0, .lst lows) :: (hq, .lst []) :: L, g, me, mx, no, pa, nm, _, _, _, _, _, _, _, _, _, nov, t, n, _, env, _, kvs, _, [], rfl, S.sel (by wtm_at "sel"), hb0, hpa, hnm, henv, by exact Nat.le_trans hf3 (by decide), by omega, .mk hm0, fun r ew Z1 H hs1 S hev hf => ?_⟩
            wtm_at "wp"
            exact q _ [] ew _ _ hs1 (S.sel (by wtm_at "sel")) ⟨lows, r, rfl, Paired.mapP hlow fun _ _ z => SF.mono hs1 z, hf⟩ (by simp) hev)
        | @tell _ _ _ _ _ _ _ av nx i hp ha =>
          obtain ⟨pw, hw1, hb⟩ := Paired.get hl3 hp
          have hb0 := hb
          obtain ⟨p, w1, rfl, hpp, hnx⟩ := hb
          wtm_at "wp"
          refine ⟨Z, (rw, .lst [.ref f0]) :: (f0, cFlight.ob K d0 [.non, .int 0, .ref p0]) :: (p0, .lst lows) :: (hq, .lst []) :: L, g, me, mx, no, pa, nm, _, _, _, _, _, _, _, _, _, nov, t, n, _, env, _, kvs, _, [.tell i], rfl, S.sel (by wtm_at "sel"), hb0, hpa, hnm, henv, by exact Nat.le_trans hf3 (by decide), by omega, .pass (.tell ha), fun r ew Z1 H hs1 S hev hf => ?_⟩
          wtm_at "wp"
          exact q _ [.tell i] ew _ _ hs1 (S.sel (by wtm_at "sel")) ⟨lows, r, rfl, Paired.mapP hlow fun _ _ z => SF.mono hs1 z, hf⟩ (by simp) hev
        | @iff _ _ _ _ _ _ _ av b1 b2 i hp hl ha =>
          obtain ⟨pw, hw1, hb⟩ := Paired.get hl3 hp
          have hb0 := hb
          obtain ⟨p, w1, w2, rfl, hpp, hx1, hx2⟩ := hb
          wtm_at "wp"
          refine ⟨Z, (rw, .lst [.ref f0]) :: (f0, cFlight.ob K d0 [.non, .int 0, .ref p0]) :: (p0, .lst lows) :: (hq, .lst []) :: L, g, me, mx, no, pa, nm, _, _, _, _, _, _, _, _, _, nov, t, n, _, env, _, kvs, _, [], rfl, S.sel (by wtm_at "sel"), hb0, hpa, hnm, henv, by exact Nat.le_trans hf3 (by decide), by omega, .pass (.iff hl ha), fun r ew Z1 H hs1 S hev hf => ?_⟩
          wtm_at "wp"
          exact q _ [] ew _ _ hs1 (S.sel (by wtm_at "sel")) ⟨lows, r, rfl, Paired.mapP hlow fun _ _ z => SF.mono hs1 z, hf⟩ (by simp) hev
        | @case0 _ _ _ _ _ _ _ r b1 x y b2 hp hr2 _ _ =>
          obtain ⟨pw, hw1, hb⟩ := Paired.get hl3 hp
          have hb0 := hb
          obtain ⟨p, w1, w2, rfl, hpp, hx1, hx2⟩ := hb
          wtm_at "wp"
          refine ⟨Z, (rw, .lst [.ref f0]) :: (f0, cFlight.ob K d0 [.non, .int 0, .ref p0]) :: (p0, .lst lows) :: (hq, .lst []) :: L, g, me, mx, no, pa, nm, _, _, _, _, _, _, _, _, _, nov, t, n, _, env, _, kvs, _, [], rfl, S.sel (by wtm_at "sel"), hb0, hpa, hnm, henv, by exact Nat.le_trans hf3 (by decide), by omega, .pass (.case0 hr2), fun r ew Z1 H hs1 S hev hf => ?_⟩
          wtm_at "wp"
          exact q _ [] ew _ _ hs1 (S.sel (by wtm_at "sel")) ⟨lows, r, rfl, Paired.mapP hlow fun _ _ z => SF.mono hs1 z, hf⟩ (by simp) hev
        | @case1 _ _ _ _ _ _ _ r b1 x y b2 h hs hp hl hr2 =>
          obtain ⟨pw, hw1, hb⟩ := Paired.get hl3 hp
          have hb0 := hb
          obtain ⟨p, w1, w2, rfl, hpp, hx1, hx2⟩ := hb
          wtm_at "wp"
          refine ⟨Z, (rw, .lst [.ref f0]) :: (f0, cFlight.ob K d0 [.non, .int 0, .ref p0]) :: (p0, .lst lows) :: (hq, .lst []) :: L, g, me, mx, no, pa, nm, _, _, _, _, _, _, _, _, _, nov, t, n, _, env, _, kvs, _, [], rfl, S.sel (by wtm_at "sel"), hb0, hpa, hnm, henv, by exact Nat.le_trans hf3 (by decide), by omega, .pass (.case1 hl hr2), fun r ew Z1 H hs1 S hev hf => ?_⟩
          wtm_at "wp"
          exact q _ [] ew _ _ hs1 (S.sel (by wtm_at "sel")) ⟨lows, r, rfl, Paired.mapP hlow fun _ _ z => SF.mono hs1 z, hf⟩ (by simp) hev
        | @keep _ _ _ _ _ _ x av gs nx hs hp ha =>
          obtain ⟨pw, hw1, hb⟩ := Paired.get hl3 hp
          have hb0 := hb
          obtain ⟨p, w1, rfl, hpp, ⟨e0, rfl, he0⟩, hnx⟩ := hb
          wtm_at "wp"
          obtain ⟨S, hs1, hz1⟩ := S.pick (p := _) (o := .tup [.ref pa, .int (n : Nat), .ref nm]) (by wtm_at "pick")
          have htop2 : SF K _ g ⟨t, n, _⟩ _ := ⟨_, pa, nm, kvs, rfl, hz1, hs1 _ _ hpa, hs1 _ _ hnm, henv.mono hs1⟩
          refine ⟨_, L, _, g, a, pg, me, mx, rw, f0, d0, p0, hq, no, nm, li, he, hd, _, _, _, nov, kvs, _, _, none, t, n, hn, _, ev, _, rfl, S.sel (by wtm_at "sel"), ⟨lows, _, rfl, Paired.mapP hlow fun _ _ z => SF.mono hs1 z, htop2⟩, A1.mono hs1, hli0.mono hs1, hhe.mono hs1, hs1 _ _ hhd, by omega, by omega, hs1 _ _ hnm, henv.mono hs1, hb0.mono hs1, hp, True.intro, hst0, hhl, fun M2 evs ew Z1 H hs2 S hrp hev hpe => ?_⟩
          wtm_at "wp"
          exact q _ evs ew _ _ (hs1.trans hs2) S hrp hev hpe
        | @go _ _ _ _ _ _ x hh av bv nx h i hs y qq c nx2 hp hh_ ha hb2 hp2 =>
          obtain ⟨pw, hw1, hb⟩ := Paired.get hl3 hp
          have hb0 := hb
          obtain ⟨p, w1, rfl, hpp, hnx⟩ := hb
          wtm_at "wp"
          obtain ⟨S, hs1, hz1⟩ := S.pick (p := _) (o := .tup [.ref pa, .int (n : Nat), .ref nm]) (by wtm_at "pick")
          have htop2 : SF K _ g ⟨t, n, _⟩ _ := ⟨_, pa, nm, kvs, rfl, hz1, hs1 _ _ hpa, hs1 _ _ hnm, henv.mono hs1⟩
          refine ⟨_, L, _, g, a, pg, me, mx, rw, f0, d0, p0, hq, no, nm, li, he, hd, _, _, _, nov, kvs, _, _, none, t, n, hn, _, ev, _, rfl, S.sel (by wtm_at "sel"), ⟨lows, _, rfl, Paired.mapP hlow fun _ _ z => SF.mono hs1 z, htop2⟩, A1.mono hs1, hli0.mono hs1, hhe.mono hs1, hs1 _ _ hhd, by omega, by omega, hs1 _ _ hnm, henv.mono hs1, hb0.mono hs1, hp, True.intro, hst0, hhl, fun M2 evs ew Z1 H hs2 S hrp hev hpe => ?_⟩
          wtm_at "wp"
          exact q _ evs ew _ _ (hs1.trans hs2) S hrp hev hpe
        | @giveP low2 t2 n2 env2 _ _ _ _ _ av i b x hp ha hp2 hw =>
          obtain ⟨pw, hw1, hb⟩ := Paired.get hl3 hp
          obtain ⟨p, rfl, hpp⟩ := hb
          obtain ⟨va, ka, ra⟩ := henv.at ha
          obtain rfl : va = .int i := ra
          obtain ⟨fv, l0, rfl, hfv, hlow⟩ : ∃ fv l0, lows = l0 ++ [fv] ∧ SF K Z g ⟨t2, n2, env2⟩ fv ∧ Paired (SF K Z g) low2 l0.reverse := by
            generalize hbr : lows.reverse = br at hlow
            cases hlow with
            | @cons _ fv _ r h1 h2 =>
              refine ⟨fv, r.reverse, ?_, h1, by rw [List.reverse_reverse]; exact h2⟩
              have := congrArg List.reverse hbr
              rw [List.reverse_reverse, List.reverse_cons] at this
              exact this
          have hbx : BdX b x := by
            rcases hw with ⟨_, _, _, _, _, rfl⟩ | ⟨_, _, _, _, rfl⟩
            · exact .keep
            · exact .go
          rw [List.length_append] at hlw
          wtm_at "wp"
          refine ⟨Z, _, nm, kvs, av, _, rfl, S, hnm, ka, fun H S => ?_⟩
          wtm_at "wp"
          refine ⟨Z, L, g, a, pg, me, mx, rw, f0, d0, p0, hq, no, li, he, hd, _, _, _, nov, i, rfl, A1, hli0, hhe, hhd, by omega, .inl ⟨l0, fv, ⟨t2, n2, env2⟩, b, x, S, hfv, hp2, hbx, Nat.le_trans (hf4 _ List.mem_cons_self) (by decide), by omega, fun topv Z1 H hs1 S hf => ?_⟩⟩
          wtm_at "wp"
          exact q _ [] [] _ _ hs1 S ⟨l0, topv, by rw [List.append_nil], Paired.mapP hlow fun _ _ z => SF.mono hs1 z, hf⟩ (by simp) .nil
      · obtain ⟨e1, e2, av, hp, ha⟩ := hend
        simp only [← intN tk] at q
        obtain rfl : low = [] := e1
        obtain rfl : lows = [] := by
          generalize hbr : lows.reverse = br at hlow
          cases hlow
          simpa using hbr
        obtain ⟨pw, hw1, hb⟩ := Paired.get hl3 hp
        obtain ⟨p, rfl, hpp⟩ := hb
        obtain ⟨va, ka, ra⟩ := henv.at ha
        obtain rfl : va = .int i := ra
        wtm_at "wp"
        refine k_dgetP S (.z hlk) (.z hpa) hl1 ?_
        wtm_at "wp"
        refine ⟨Z, _, nm, kvs, av, _, rfl, S, hnm, ka, fun H S => ?_⟩
        wtm_at "wp"
        refine ⟨Z, L, g, a, pg, me, mx, rw, f0, d0, p0, hq, no, li, he, hd, _, _, _, nov, i, rfl, A1, hli0, hhe, hhd, by omega, .inr (.inl ⟨S, fun fp Z1 H hs1 S hfp => ?_⟩)⟩
        wtm_at "wp"
        exact q _ _ _ hs1 S hfp
    | some hs =>
      obtain ⟨lows, topv, f1, d1, p1, nv, rfl, hlow, ⟨tp, pa, nm, kvs, rfl, htp, hpa, hnm, henv⟩, hnv⟩ := hrep
      have hkl := henv.len
      have hlw := hlow.length
      have hf1' : low.length ≤ 500 := hf1
      rw [List.length_reverse] at hlw
      rcases hc with ⟨s', hst, q⟩ | ⟨i, hend, q⟩
      · have hst0 := hst
        simp only [← intN tk] at q
        wtm_at "wp"
        refine k_dgetP S (.z hlk) (.z hpa) hl1 ?_
        cases hst with
        | @mk _ _ _ _ _ _ _ b x av hp hm =>
          obtain ⟨pw, hw1, hb⟩ := Paired.get hl3 hp
          have hm0 := hm
          cases hm <;> (
            have hb0 := hb
            obtain ⟨p, w1, rfl, hpp, hnx⟩ := hb
            wtm_at "wp"
            refine ⟨Z, (rw, .lst [.ref f0, .ref f1]) :: (f0, cFlight.ob K d0 [.non, .int 0, .ref p0]) :: (p0, .lst lows) :: (hq, .lst [.int 1]) :: (f1, cFlight.ob K d1 [.str g.K, nv, .ref p1]) :: (p1, .lst []) :: L, g, me, mx, no, pa, nm, _, _, _, _, _, _, _, _, _, nov, t, n, _, env, _, kvs, _, [], rfl, S.sel (by wtm_at "sel"), hb0, hpa, hnm, henv, by exact Nat.le_trans hf3 (by decide), by omega, .mk hm0, fun r ew Z1 H hs1 S hev hf => ?_⟩
            wtm_at "wp"
            exact q _ [] ew _ _ hs1 (S.sel (by wtm_at "sel")) ⟨lows, r, f1, d1, p1, nv, rfl, Paired.mapP hlow fun _ _ z => SF.mono hs1 z, hf, hnv.mono hs1⟩ (by simp) hev)
        | @tell _ _ _ _ _ _ _ av nx i hp ha =>
          obtain ⟨pw, hw1, hb⟩ := Paired.get hl3 hp
          have hb0 := hb
          obtain ⟨p, w1, rfl, hpp, hnx⟩ := hb
          wtm_at "wp"
          refine ⟨Z, (rw, .lst [.ref f0, .ref f1]) :: (f0, cFlight.ob K d0 [.non, .int 0, .ref p0]) :: (p0, .lst lows) :: (hq, .lst [.int 1]) :: (f1, cFlight.ob K d1 [.str g.K, nv, .ref p1]) :: (p1, .lst []) :: L, g, me, mx, no, pa, nm, _, _, _, _, _, _, _, _, _, nov, t, n, _, env, _, kvs, _, [.tell i], rfl, S.sel (by wtm_at "sel"), hb0, hpa, hnm, henv, by exact Nat.le_trans hf3 (by decide), by omega, .pass (.tell ha), fun r ew Z1 H hs1 S hev hf => ?_⟩
          wtm_at "wp"
          exact q _ [.tell i] ew _ _ hs1 (S.sel (by wtm_at "sel")) ⟨lows, r, f1, d1, p1, nv, rfl, Paired.mapP hlow fun _ _ z => SF.mono hs1 z, hf, hnv.mono hs1⟩ (by simp) hev
        | @iff _ _ _ _ _ _ _ av b1 b2 i hp hl ha =>
          obtain ⟨pw, hw1, hb⟩ := Paired.get hl3 hp
          have hb0 := hb
          obtain ⟨p, w1, w2, rfl, hpp, hx1, hx2⟩ := hb
          wtm_at "wp"
          refine ⟨Z, (rw, .lst [.ref f0, .ref f1]) :: (f0, cFlight.ob K d0 [.non, .int 0, .ref p0]) :: (p0, .lst lows) :: (hq, .lst [.int 1]) :: (f1, cFlight.ob K d1 [.str g.K, nv, .ref p1]) :: (p1, .lst []) :: L, g, me, mx, no, pa, nm, _, _, _, _, _, _, _, _, _, nov, t, n, _, env, _, kvs, _, [], rfl, S.sel (by wtm_at "sel"), hb0, hpa, hnm, henv, by exact Nat.le_trans hf3 (by decide), by omega, .pass (.iff hl ha), fun r ew Z1 H hs1 S hev hf => ?_⟩
          wtm_at "wp"
          exact q _ [] ew _ _ hs1 (S.sel (by wtm_at "sel")) ⟨lows, r, f1, d1, p1, nv, rfl, Paired.mapP hlow fun _ _ z => SF.mono hs1 z, hf, hnv.mono hs1⟩ (by simp) hev
        | @case0 _ _ _ _ _ _ _ r b1 x y b2 hp hr2 _ _ =>
          obtain ⟨pw, hw1, hb⟩ := Paired.get hl3 hp
          have hb0 := hb
          obtain ⟨p, w1, w2, rfl, hpp, hx1, hx2⟩ := hb
          wtm_at "wp"
          refine ⟨Z, (rw, .lst [.ref f0, .ref f1]) :: (f0, cFlight.ob K d0 [.non, .int 0, .ref p0]) :: (p0, .lst lows) :: (hq, .lst [.int 1]) :: (f1, cFlight.ob K d1 [.str g.K, nv, .ref p1]) :: (p1, .lst []) :: L, g, me, mx, no, pa, nm, _, _, _, _, _, _, _, _, _, nov, t, n, _, env, _, kvs, _, [], rfl, S.sel (by wtm_at "sel"), hb0, hpa, hnm, henv, by exact Nat.le_trans hf3 (by decide), by omega, .pass (.case0 hr2), fun r ew Z1 H hs1 S hev hf => ?_⟩
          wtm_at "wp"
          exact q _ [] ew _ _ hs1 (S.sel (by wtm_at "sel")) ⟨lows, r, f1, d1, p1, nv, rfl, Paired.mapP hlow fun _ _ z => SF.mono hs1 z, hf, hnv.mono hs1⟩ (by simp) hev
        | @case1 _ _ _ _ _ _ _ r b1 x y b2 h hs hp hl hr2 =>
          obtain ⟨pw, hw1, hb⟩ := Paired.get hl3 hp
          have hb0 := hb
          obtain ⟨p, w1, w2, rfl, hpp, hx1, hx2⟩ := hb
          wtm_at "wp"
          refine ⟨Z, (rw, .lst [.ref f0, .ref f1]) :: (f0, cFlight.ob K d0 [.non, .int 0, .ref p0]) :: (p0, .lst lows) :: (hq, .lst [.int 1]) :: (f1, cFlight.ob K d1 [.str g.K, nv, .ref p1]) :: (p1, .lst []) :: L, g, me, mx, no, pa, nm, _, _, _, _, _, _, _, _, _, nov, t, n, _, env, _, kvs, _, [], rfl, S.sel (by wtm_at "sel"), hb0, hpa, hnm, henv, by exact Nat.le_trans hf3 (by decide), by omega, .pass (.case1 hl hr2), fun r ew Z1 H hs1 S hev hf => ?_⟩
          wtm_at "wp"
          exact q _ [] ew _ _ hs1 (S.sel (by wtm_at "sel")) ⟨lows, r, f1, d1, p1, nv, rfl, Paired.mapP hlow fun _ _ z => SF.mono hs1 z, hf, hnv.mono hs1⟩ (by simp) hev
        | @ask _ _ env _ _ hs x av nx i hp ha =>
          obtain ⟨pw, hw1, hb⟩ := Paired.get hl3 hp
          have hb0 := hb
          obtain ⟨p, w1, rfl, hpp, hnx⟩ := hb
          wtm_at "wp"
          obtain ⟨S, hs1, hz1⟩ := S.pick (p := _) (o := .tup [.ref pa, .int (n : Nat), .ref nm]) (by wtm_at "pick")
          have htop2 : SF K _ g ⟨.d1, n, _⟩ _ := ⟨_, pa, nm, kvs, rfl, hz1, hs1 _ _ hpa, hs1 _ _ hnm, henv.mono hs1⟩
          refine ⟨_, L, _, g, a, pg, me, mx, rw, f0, d0, p0, hq, no, nm, li, he, hd, _, _, _, nov, kvs, _, _, (some _), .d1, n, hn, _, ev, _, rfl, S.sel (by wtm_at "sel"), ⟨lows, _, f1, d1, p1, nv, rfl, Paired.mapP hlow fun _ _ z => SF.mono hs1 z, htop2, hnv.mono hs1⟩, A1.mono hs1, hli0.mono hs1, hhe.mono hs1, hs1 _ _ hhd, by omega, by omega, hs1 _ _ hnm, henv.mono hs1, hb0.mono hs1, hp, True.intro, hst0, hhl, fun M2 evs ew Z1 H hs2 S hrp hev hpe => ?_⟩
          wtm_at "wp"
          exact q _ evs ew _ _ (hs1.trans hs2) S hrp hev hpe
        | @giveK _ hs _ _ _ _ _ av i hp ha =>
          obtain ⟨pw, hw1, hb⟩ := Paired.get hl3 hp
          obtain ⟨p, rfl, hpp⟩ := hb
          obtain ⟨va, ka, ra⟩ := henv.at ha
          obtain rfl : va = .int i := ra
          wtm_at "wp"
          refine ⟨Z, _, nm, kvs, av, _, rfl, S, hnm, ka, fun H S => ?_⟩
          wtm_at "wp"
          refine ⟨Z, L, g, a, pg, me, mx, rw, f0, d0, p0, hq, no, li, he, hd, _, _, _, nov, i, rfl, A1, hli0, hhe, hhd, by omega, .inr (.inr ⟨f1, d1, p1, nv, hs, lows, S, hnv, by omega, fun topv ev1 Z1 H hs1 S hev hf => ?_⟩)⟩
          wtm_at "wp"
          exact q _ [.ended] [_] _ _ hs1 S ⟨lows, topv, rfl, Paired.mapP hlow fun _ _ z => SF.mono hs1 z, hf⟩ rfl (.cons hev .nil)
      · cases hend.2.1
end
end AL
/-! D9 -/
namespace AL
open PySem PySem.Spec PyProof.Rows L2
section
variable {P : Program} {w : World} {K : PySem.W.Frag} {mg : Str → Option Value} {base : Heap}
def spStairsGet (i : Nat) : Sp := fun vs H Q _ => ∃ (Z : Hp) (L : Lx) (me mx : Addr) (xs : List V) (v : V), vs = [.ref me] ∧ SH Z L H ∧ In Z L me (cStairs.ob K mx xs) ∧ xs[i]? = some v ∧ Q v H
theorem ok_Stairs_steps (T : Tx K mg) : Met P w K mg base 1 cStairs "steps" ["self"] (spStairsGet (K := K) 5) := by
  refine mk_met (c := cStairs) (F_Stairs_steps T) (m_Stairs_steps T) sc_Stairs_steps (fun _ _ _ _ _ _ us hl => match us, hl with | [_], _ => rfl) ?len ?body
  case len =>
    rintro vs H Q E ⟨Z, L, me, mx, xs, v, rfl, _⟩
    rfl
  case body =>
    rintro cdv A outer s H vs Q E hr ⟨Z, L, me, mx, xs, v, rfl, S, hin, hx, q⟩
    refine ⟨_, (pss_one (ps_ret (pe_atK (K := K) (c := cStairs) (i := 5) (ok_cStairs T) (pv 0)))), ?_⟩
    show (_ : TS) _ ([some _] : L2.St) _
    wtm_at "wp"
    exact k_at S hin hx q
theorem ok_Stairs_end (T : Tx K mg) : Met P w K mg base 1 cStairs "end" ["self"] (spStairsGet (K := K) 7) := by
  refine mk_met (c := cStairs) (F_Stairs_end T) (m_Stairs_end T) sc_Stairs_end (fun _ _ _ _ _ _ us hl => match us, hl with | [_], _ => rfl) ?len ?body
  case len =>
    rintro vs H Q E ⟨Z, L, me, mx, xs, v, rfl, _⟩
    rfl
  case body =>
    rintro cdv A outer s H vs Q E hr ⟨Z, L, me, mx, xs, v, rfl, S, hin, hx, q⟩
    refine ⟨_, (pss_one (ps_ret (pe_atK (K := K) (c := cStairs) (i := 7) (ok_cStairs T) (pv 0)))), ?_⟩
    show (_ : TS) _ ([some _] : L2.St) _
    wtm_at "wp"
    exact k_at S hin hx q
def spStairsBook : Sp := fun vs H Q _ => ∃ (Z : Hp) (L : Lx) (me mx no : Addr) (xs nov : List V), vs = [.ref me] ∧ SH Z L H ∧ In Z L me (cStairs.ob K mx xs) ∧ xs[8]? = some (.ref no) ∧ In Z L no (.lst nov) ∧ ∀ r Z1 H1, Same Z Z1 → SH Z1 L H1 → Z1 r = some (.lst nov) → Q (.ref r) H1
theorem ok_Stairs_book (T : Tx K mg) : Met P w K mg base 1 cStairs "book" ["self"] (spStairsBook (K := K)) := by
  refine mk_met (c := cStairs) (F_Stairs_book T) (m_Stairs_book T) sc_Stairs_book (fun _ _ _ _ _ _ us hl => match us, hl with | [_], _ => rfl) ?len ?body
  case len =>
    rintro vs H Q E ⟨Z, L, me, mx, no, xs, nov, rfl, _⟩
    rfl
  case body =>
    rintro cdv A outer s H vs Q E hr ⟨Z, L, me, mx, no, xs, nov, rfl, S, hin, hx, hno, q⟩
    refine ⟨_, (pss_one (ps_ret (pe_callTy call_listOf (by rfl) (b_list T) (by decide +kernel) (pa_cons (pe_atK (K := K) (c := cStairs) (i := 8) (ok_cStairs T) (pv 0)) pa_nil)))), ?_⟩
    show (_ : TS) _ ([some _] : L2.St) _
    wtm_at "wp"
    refine k_at S hin hx ?_
    wtm_at "wp"
    refine k_listOfL S hno fun p H S => ?_
    obtain ⟨S, hs1, hz1⟩ := S.pick (by wtm_at "pick")
    exact q _ _ _ hs1 S hz1
def spStairsInit : Sp := fun vs H Q _ => ∃ (Z : Hp) (L : Lx) (g : Pg) (a : PgA) (pg me mx ar : Addr), vs = [.ref me, .ref pg, .str g.f0, .ref ar] ∧
  SH Z ((me, cStairs.ob K mx []) :: L) H ∧ ProgAt Z g a pg ∧ Z ar = some (.lst []) ∧ (∀ t : Pt, (t.body g).pcs.length ≤ 1000) ∧
  ∀ li he rw hd f0 d0 p0 hq no M Z1 H1, Same Z Z1 → SH Z1 ((me, cStairs.ob K mx [.ref pg, .ref li, .ref he, .ref rw, .ref hd, .int 0, .int 0, .non, .ref no]) :: M) H1 → SRep K Z1 g [] ⟨.d0, 0, []⟩ rw f0 d0 p0 hq no [] L M none → ListedAt Z1 g li → HearsAt Z1 g he → HeardAt Z1 g hd hq → Q .non H1
theorem ok_Stairs_init (T : Tx K mg) : Mak P w K mg base 5 cStairs ["self", "program", "f", "args"] (spStairsInit (K := K)) := by
  refine mk_mak (c := cStairs) (F_Stairs_init T) (g_Stairs T) (k_Stairs T) sc_Stairs_init (fun _ _ _ _ _ _ us hl => match us, hl with | [_, _, _, _], _ => rfl) ?len ?body
  case len =>
    rintro vs H Q E ⟨Z, L, g, a, pg, me, mx, ar, rfl, _⟩
    rfl
  case body =>
    rintro cdv A outer s H vs Q E hr ⟨Z, L, g, a, pg, me, mx, ar, rfl, S, A1, har, hpl, q⟩
    refine ⟨_, (pss_cons (ps_atK (K := K) (c := cStairs) (i := 0) (ok_cStairs T) (pv 0) (pv 1)) (pss_cons (ps_atK (K := K) (c := cStairs) (i := 1) (ok_cStairs T) (pv 0) pe_dnewT) (pss_cons (ps_for PassesOwn.never rfl (pi_listK (K := K) (pe_cal (ok_all_parts T) hr (pa_cons (pv 1) pa_nil))) (pg_name (i := 4) sc_Stairs_init.nd rfl (Or.inl rfl)) (pss_one (ps_dput (hu_of hr) (pe_atK (K := K) (c := cStairs) (i := 1) (ok_cStairs T) (pv 0)) (pv 4) (pe_cal (ok_pieces T) hr (pa_cons (pe_cal (ok_body_of T) hr (pa_cons (pv 1) (pa_cons (pv 4) pa_nil))) pa_nil)) rfl))) (pss_cons (ps_atK (K := K) (c := cStairs) (i := 2) (ok_cStairs T) (pv 0) (pe_cal (ok_heard_by T) hr (pa_cons (pv 1) pa_nil))) (pss_cons (ps_atK (K := K) (c := cStairs) (i := 3) (ok_cStairs T) (pv 0) (pe_lst (pa_cons (pe_makK (K := K) (c := cFlight) (ok_Flight_init T) hr (pa_cons pe_non (pa_cons pe_int (pa_cons (pe_lst pa_nil) pa_nil)))) pa_nil))) (pss_cons (ps_atK (K := K) (c := cStairs) (i := 4) (ok_cStairs T) (pv 0) pe_dnewK) (pss_cons (ps_for PassesOwn.never rfl (pi_tupK (K := K) (pe_ix (ix_anyK (K := K)) (pv 1) pe_int (fun _ _ => rfl))) (pg_name (i := 5) sc_Stairs_init.nd rfl (Or.inl rfl)) (pss_one (ps_dput (hu_of hr) (pe_atK (K := K) (c := cStairs) (i := 4) (ok_cStairs T) (pv 0)) (pe_ix (ix_anyK (K := K)) (pv 5) pe_int (fun _ _ => rfl)) (pe_lst pa_nil) rfl))) (pss_cons (ps_atK (K := K) (c := cStairs) (i := 5) (ok_cStairs T) (pv 0) pe_int) (pss_cons (ps_atK (K := K) (c := cStairs) (i := 6) (ok_cStairs T) (pv 0) pe_int) (pss_cons (ps_atK (K := K) (c := cStairs) (i := 7) (ok_cStairs T) (pv 0) pe_non) (pss_cons (ps_atK (K := K) (c := cStairs) (i := 8) (ok_cStairs T) (pv 0) (pe_lst pa_nil)) (pss_one (ps_expr (pe_metK (K := K) (ok_cStairs T) (ok_Stairs_begin T) hr (by decide +kernel) (pv 0) (pa_cons (pe_tup (pa_cons pe_str (pa_cons (pv 2) pa_nil))) (pa_cons (pe_callTy call_listOf (by rfl) (b_list T) (by decide +kernel) (pa_cons (pv 3) pa_nil)) pa_nil)))))))))))))))), ?_⟩
    show (_ : TS) _ ([some _, some _, some _, some _, none, none] : L2.St) _
    wtm_at "wp"
    rename Addr => li
    refine ⟨Z, _, g, a, pg, rfl, S, A1, fun r Z1 H t0 t1 t2 t3 hs S hr h0 h1 h2 h3 => ?_⟩
    have A2 := A1.mono hs
    have har1 := hs _ _ har
    wtm_at "un"
    wtm_at "wp"
    refine ⟨Z1, _, g, a, pg, .en, _, rfl, S, A2, ⟨t0, rfl, h0⟩, fun v0 H S b0 => ?_⟩
    wtm_at "wp"
    refine ⟨Z1, _, _, _, rfl, S, b0, hpl .en, fun l0 H w0 S q0 => ?_⟩
    wtm_at "wp"
    refine ⟨Z1, _, g, a, pg, .hr, _, rfl, S, A2, ⟨t1, rfl, h1⟩, fun v1 H S b1 => ?_⟩
    wtm_at "wp"
    refine ⟨Z1, _, _, _, rfl, S, b1, hpl .hr, fun l1 H w1 S q1 => ?_⟩
    wtm_at "wp"
    refine ⟨Z1, _, g, a, pg, .d0, _, rfl, S, A2, ⟨t2, rfl, h2⟩, fun v2 H S b2 => ?_⟩
    wtm_at "wp"
    refine ⟨Z1, _, _, _, rfl, S, b2, hpl .d0, fun l2 H w2 S q2 => ?_⟩
    wtm_at "wp"
    refine ⟨Z1, _, g, a, pg, .d1, _, rfl, S, A2, ⟨t3, rfl, h3⟩, fun v3 H S b3 => ?_⟩
    wtm_at "wp"
    refine ⟨Z1, _, _, _, rfl, S, b3, hpl .d1, fun l3 H w3 S q3 => ?_⟩
    wtm_at "wp"
    obtain ⟨S, hs1, hz1⟩ := S.pick (p := l0) (by wtm_at "pick")
    obtain ⟨S, hs2, hz2⟩ := S.pick (p := l1) (by wtm_at "pick")
    obtain ⟨S, hs3, hz3⟩ := S.pick (p := l2) (by wtm_at "pick")
    obtain ⟨S, hs4, hz4⟩ := S.pick (p := l3) (by wtm_at "pick")
    obtain ⟨S, hs5, hz5⟩ := S.pick (p := li) (by wtm_at "pick")
    have hsA := (((hs1.trans hs2).trans hs3).trans hs4).trans hs5
    have A3 := A2.mono hsA
    have har2 := hsA _ _ har1
    have hli := listed4 (g := g) A1.ne hz5 (hs5 _ _ (hs4 _ _ (hs3 _ _ (hs2 _ _ hz1)))) (hs5 _ _ (hs4 _ _ (hs3 _ _ hz2))) (hs5 _ _ (hs4 _ _ hz3)) (hs5 _ _ hz4) (BdsAt.mono hsA q0) (BdsAt.mono hsA q1) (BdsAt.mono hsA q2) (BdsAt.mono hsA q3)
    clear hz1 hz2 hz3 hz4 hz5 q0 q1 q2 q3
    generalize hZg : upd _ _ _ = Zg at S A3 har2 hsA hli
    clear hZg
    have A4 := A3
    refine ⟨Zg, _, g, a, pg, rfl, S, A3, fun he hl Z2 H hs6 S hr2 hl2 => ?_⟩
    have har3 := hs6 _ _ har2
    obtain ⟨z0, z1, z2, _, _, _, _, _, _, _, _, _, _, _, _, _, _, _⟩ := A3.mono hs6
    wtm_at "wp"
    obtain ⟨pl, hpl0⟩ : ∃ pl, pl = p := ⟨_, rfl⟩
    rw [← hpl0] at S ⊢
    clear hpl0
    refine ⟨Z2, _, x, dx, _, _, _, rfl, S, fun H S => ⟨rfl, ?_⟩⟩
    wtm_at "wp"
    wtm_at "un"
    wtm_at "wp"
    obtain ⟨S, hs7, hz7⟩ := S.pick (o := .tup [.str "def", .str g.f0]) (by wtm_at "pick")
    obtain ⟨S, hs8, hz8⟩ := S.pick (o := .dK (putK [] (.inr g.q) _)) (by wtm_at "pick")
    have hs78 := hs7.trans hs8
    have hsB := hs6.trans hs78
    refine ⟨_, (_, .lst []) :: (_, .lst []) :: L, g, a, pg, me, mx, _, x, dx, pl, p, _, _, _, _, _, _, _, _, _, _, [], [], [], .d0, [], rfl, (by simp only [List.nil_append]; exact S.sel (by wtm_at "sel")), A4.mono hsB, hs8 _ _ hz7, by decide, .nil, rfl, fun topv Z3 H hs9 S hf => ?_⟩
    wtm_at "wp"
    exact q _ _ _ _ x dx pl _ _ _ _ _ (((hs.trans hsA).trans hsB).trans hs9) (by simp only [List.nil_append] at S ⊢; exact S.sel (by wtm_at "sel")) ⟨[], topv, rfl, .nil, hf⟩ (hli.mono (hsB.trans hs9)) ⟨hl, hs9 _ _ (hs78 _ _ hr2), hs9 _ _ (hs78 _ _ hl2)⟩ (hs9 _ _ hz8)
end
end AL
/-! E1 -/
namespace AL
open PySem PySem.Spec PyProof.Rows L2
section
variable {P : Program} {w : World} {K : PySem.W.Frag} {mg : Str → Option Value} {base : Heap}
def spByStairs : Sp := fun vs H Q _ => ∃ (Z : Hp) (L : Lx) (g : Pg) (a : PgA) (pg ar : Addr) (k : Nat) (evs : List Ev) (i : Int), vs = [.ref pg, .str g.f0, .ref ar, .int 600] ∧ SH Z L H ∧ ProgAt Z g a pg ∧ Z ar = some (.lst []) ∧ (∀ t : Pt, (t.body g).pcs.length ≤ 1000) ∧
  ARun g AS0 k evs i ∧ k < 600 ∧ ∀ r Z1 H1, Same Z Z1 → SH Z1 L H1 → RunAt Z1 g k evs i r → Q r H1
theorem ok_by_stairs (T : Tx K mg) : Cal P w K mg base 8 "by_stairs" ["program", "f", "args", "bound"] spByStairs := by
  refine mk_cal (F_by_stairs T) (g_by_stairs T) sc_by_stairs (fun _ _ _ _ _ _ us hl => match us, hl with | [_, _, _, _], _ => rfl) ?len ?body
  case len =>
    rintro vs H Q E ⟨Z, L, g, a, pg, ar, k, evs, i, rfl, _⟩
    rfl
  case body =>
    rintro cdv A outer s H vs Q E hr ⟨Z, L, g, a, pg, ar, k, evs, i, rfl, S, A1, har, hpl, hrun, hk, q⟩
    refine ⟨_, (pss_cons (ps_set (i := 4) sc_by_stairs.nd rfl (Or.inl rfl) (pe_makK (K := K) (c := cStairs) (ok_Stairs_init T) hr (pa_cons (pv 0) (pa_cons (pv 1) (pa_cons (pv 2) pa_nil))))) (pss_cons (ps_while PassesOwn.never (PW.pt (pw_and (pt_cmpR op_lt (pe_met0K (K := K) (ok_cStairs T) (ok_Stairs_steps T) hr (by decide +kernel) (pv 4)) (pv 3) (nomark _)) (pw_and1 (pt_cmpR op_isNon (pe_met0K (K := K) (ok_cStairs T) (ok_Stairs_end T) hr (by decide +kernel) (pv 4)) pe_non (nomark _))))) (pss_one (ps_expr (pe_met0K (K := K) (ok_cStairs T) (ok_Stairs_turn T) hr (by decide +kernel) (pv 4))))) (pss_cons (ps_set (i := 5) sc_by_stairs.nd rfl (Or.inl rfl) (pe_met0K (K := K) (ok_cStairs T) (ok_Stairs_end T) hr (by decide +kernel) (pv 4))) (pss_cons (ps_if (pt_cmpR op_isNon (pv 5) pe_non (nomark _)) (pss_one (ps_set (i := 5) sc_by_stairs.nd rfl (Or.inl rfl) (pe_tup (pa_cons pe_str pa_nil)))) pss_nil) (pss_one (ps_ret (pe_tup (pa_cons (pv 5) (pa_cons (pe_met0K (K := K) (ok_cStairs T) (ok_Stairs_steps T) hr (by decide +kernel) (pv 4)) (pa_cons (pe_met0K (K := K) (ok_cStairs T) (ok_Stairs_book T) hr (by decide +kernel) (pv 4)) pa_nil)))))))))), ?_⟩
    show (_ : TS) _ ([some _, some _, some _, some _, none, none] : L2.St) _
    wtm_at "wp"
    refine ⟨Z, _, g, a, pg, x, dx, ar, rfl, S, A1, har, hpl, fun li he rw hd f0 d0 p0 hq no M1 Z1 H hs S hrep hli hhe hhd => ⟨rfl, ?_⟩⟩
    wtm_at "wp"
    refine w_while (fun m σ H => σ = [some (.ref pg), some (.str g.f0), some (.ref ar), some (.int 600), some (.ref x), none] ∧
      ((∃ Z2 M nov s tk, Same Z1 Z2 ∧ SH Z2 ((x, cStairs.ob K dx [.ref pg, .ref li, .ref he, .ref rw, .ref hd, .int (tk : Nat), .int (s.held : Nat), .non, .ref no]) :: M) H ∧ SRep K Z2 g s.low s.top rw f0 d0 p0 hq no nov L M s.note ∧ Paired (EvAt Z2 g) s.ev nov ∧ ARun g s m evs i ∧ tk + m = k) ∨
       (m = 0 ∧ ∃ Z2 fp hn nov, Same Z1 Z2 ∧ SH Z2 ((x, cStairs.ob K dx [.ref pg, .ref li, .ref he, .ref rw, .ref hd, .int (k : Nat), hn, .ref fp, .ref no]) :: (no, .lst nov) :: L) H ∧ Z2 fp = some (.tup [.str "gave", .int i]) ∧ Paired (EvAt Z2 g) evs nov)))
      k ⟨rfl, .inl ⟨Z1, M1, [], AS0, 0, Same.refl _, S, hrep, .nil, hrun, by omega⟩⟩ ?_
    rintro m σ H ⟨rfl, ⟨Z2, M, nov, s, tk, hs2, S, hstk, hev, hrun, hm⟩ | ⟨rfl, Z2, fp, hn, nov, hs2, S, hfp, hev⟩⟩
    · wtm_at "wp"
      refine ⟨Z2, _, x, dx, _, _, rfl, S, by wtm_at "in", rfl, ?_⟩
      wtm_at "wp"
      have hkm : tk < 600 := by
        have : 1 ≤ m := by cases hrun <;> omega
        omega
      refine if_T (decide_eq_true (by omega)) ?_
      wtm_at "wp"
      refine ⟨Z2, _, x, dx, _, _, rfl, S, by wtm_at "in", rfl, ?_⟩
      wtm_at "wp"
      refine k_turn ?_
      wtm_at "wp"
      have hnl := hev.length
      cases hrun with
      | fin hf h =>
        refine ⟨Z2, L, M, g, a, pg, x, dx, rw, f0, d0, p0, hq, no, li, he, hd, tk, nov, s, rfl, S, hstk, A1.mono (hs.trans hs2), hli.mono hs2, hhe.mono hs2, hs2 _ _ hhd, hf, by have := hf.2.1; omega, .inr ⟨i, h, fun fp Z3 H hs3 S hfp => ?_⟩⟩
        wtm_at "wp"
        rw [hm] at S
        exact ⟨0, Nat.zero_lt_one, rfl, .inr ⟨rfl, Z3, fp, _, nov, hs2.trans hs3, S.sel (by wtm_at "sel"), hfp, Paired.mapP hev fun _ _ z => EvAt.mono hs3 z⟩⟩
      | @step _ s1 m1 _ _ hf h hr =>
        refine ⟨Z2, L, M, g, a, pg, x, dx, rw, f0, d0, p0, hq, no, li, he, hd, tk, nov, s, rfl, S, hstk, A1.mono (hs.trans hs2), hli.mono hs2, hhe.mono hs2, hs2 _ _ hhd, hf, by have := hf.2.1; omega, .inl ⟨s1, h, fun M2 evs2 ew Z3 H hs3 S hstk2 hev2 hpe => ?_⟩⟩
        wtm_at "wp"
        exact ⟨m1, Nat.lt_succ_self _, rfl, .inl ⟨Z3, M2, _, s1, tk + 1, hs2.trans hs3, S, hstk2, by rw [hev2]; exact Paired.app (Paired.mapP hev fun _ _ z => EvAt.mono hs3 z) hpe, hr, by omega⟩⟩
    · wtm_at "wp"
      refine ⟨Z2, _, x, dx, _, _, rfl, S, by wtm_at "in", rfl, ?_⟩
      wtm_at "wp"
      refine if_T (decide_eq_true (by omega)) ?_
      wtm_at "wp"
      refine ⟨Z2, _, x, dx, _, _, rfl, S, by wtm_at "in", rfl, ?_⟩
      wtm_at "wp"
      refine if_F (by rfl) ?_
      wtm_at "wp"
      refine ⟨Z2, _, x, dx, _, _, rfl, S, by wtm_at "in", rfl, ?_⟩
      wtm_at "wp"
      refine if_F (by rfl) ?_
      wtm_at "wp"
      refine ⟨Z2, _, x, dx, _, _, rfl, S, by wtm_at "in", rfl, ?_⟩
      wtm_at "wp"
      refine ⟨Z2, _, x, dx, no, _, nov, rfl, S, by wtm_at "in", rfl, by wtm_at "in", fun r Z3 H hs3 S hr => ?_⟩
      wtm_at "wp"
      obtain ⟨S, hs4, hz4⟩ := S.pick (by wtm_at "pick")
      have hsB := hs3.trans hs4
      exact q _ _ _ (((hs.trans hs2).trans hs3).trans hs4) (S.sub (by wtm_at "sub")) ⟨_, fp, r, nov, rfl, hz4, hsB _ _ hfp, hs4 _ _ hr, Paired.mapP hev fun _ _ z => EvAt.mono hsB z⟩
end
end AL
/-! E2 -/
namespace AL
open PySem PySem.Spec PyProof.Rows L2
section
variable {P : Program} {w : World} {K : PySem.W.Frag} {mg : Str → Option Value} {base : Heap}
def spFrameInit : Sp := fun vs H Q _ => ∃ (Z : Hp) (L : Lx) (me dx : Addr) (a b c d : V), vs = [.ref me, a, b, c, d] ∧ SH Z ((me, cFrame.ob K dx []) :: L) H ∧ ∀ H1, SH Z ((me, cFrame.ob K dx [a, b, c, d]) :: L) H1 → Q .non H1
theorem ok_Frame_init (T : Tx K mg) : Mak P w K mg base 1 cFrame ["self", "part", "rows", "at", "slots"] (spFrameInit (K := K)) := by
  refine mk_mak (c := cFrame) (F_Frame_init T) (g_Frame T) (k_Frame T) sc_Frame_init (fun _ _ _ _ _ _ us hl => match us, hl with | [_, _, _, _, _], _ => rfl) ?len ?body
  case len =>
    rintro vs H Q E ⟨Z, L, me, dx, a, b, c, d, rfl, _⟩
    rfl
  case body =>
    rintro cdv A outer s H vs Q E hr ⟨Z, L, me, dx, a, b, c, d, rfl, S, q⟩
    refine ⟨_, (pss_cons (ps_atK (K := K) (c := cFrame) (i := 0) (ok_cFrame T) (pv 0) (pv 1)) (pss_cons (ps_atK (K := K) (c := cFrame) (i := 1) (ok_cFrame T) (pv 0) (pv 2)) (pss_cons (ps_atK (K := K) (c := cFrame) (i := 2) (ok_cFrame T) (pv 0) (pv 3)) (pss_one (ps_atK (K := K) (c := cFrame) (i := 3) (ok_cFrame T) (pv 0) (pv 4)))))), ?_⟩
    show (_ : TS) _ ([some _, some _, some _, some _, some _] : L2.St) _
    wtm_at "wp"
    exact q _ S
def spKeepInit : Sp := fun vs H Q _ => ∃ (Z : Hp) (L : Lx) (me dx : Addr) (a b : V), vs = [.ref me, a, b] ∧ SH Z ((me, cKeep.ob K dx []) :: L) H ∧ ∀ H1, SH Z ((me, cKeep.ob K dx [a, b]) :: L) H1 → Q .non H1
theorem ok_Keep_init (T : Tx K mg) : Mak P w K mg base 1 cKeep ["self", "name", "note"] (spKeepInit (K := K)) := by
  refine mk_mak (c := cKeep) (F_Keep_init T) (g_Keep T) (k_Keep T) sc_Keep_init (fun _ _ _ _ _ _ us hl => match us, hl with | [_, _, _], _ => rfl) ?len ?body
  case len =>
    rintro vs H Q E ⟨Z, L, me, dx, a, b, rfl, _⟩
    rfl
  case body =>
    rintro cdv A outer s H vs Q E hr ⟨Z, L, me, dx, a, b, rfl, S, q⟩
    refine ⟨_, (pss_cons (ps_atK (K := K) (c := cKeep) (i := 0) (ok_cKeep T) (pv 0) (pv 1)) (pss_one (ps_atK (K := K) (c := cKeep) (i := 1) (ok_cKeep T) (pv 0) (pv 2)))), ?_⟩
    show (_ : TS) _ ([some _, some _, some _] : L2.St) _
    wtm_at "wp"
    exact q _ S
def spPassInit : Sp := fun vs H Q _ => ∃ (Z : Hp) (L : Lx) (me dx : Addr) (a : V), vs = [.ref me, a] ∧ SH Z ((me, cPass.ob K dx []) :: L) H ∧ ∀ H1, SH Z ((me, cPass.ob K dx [a]) :: L) H1 → Q .non H1
theorem ok_Pass_init (T : Tx K mg) : Mak P w K mg base 1 cPass ["self", "many"] (spPassInit (K := K)) := by
  refine mk_mak (c := cPass) (F_Pass_init T) (g_Pass T) (k_Pass T) sc_Pass_init (fun _ _ _ _ _ _ us hl => match us, hl with | [_, _], _ => rfl) ?len ?body
  case len =>
    rintro vs H Q E ⟨Z, L, me, dx, a, rfl, _⟩
    rfl
  case body =>
    rintro cdv A outer s H vs Q E hr ⟨Z, L, me, dx, a, rfl, S, q⟩
    refine ⟨_, (pss_one (ps_atK (K := K) (c := cPass) (i := 0) (ok_cPass T) (pv 0) (pv 1))), ?_⟩
    show (_ : TS) _ ([some _, some _] : L2.St) _
    wtm_at "wp"
    exact q _ S
def spCutInit : Sp := fun vs H Q _ => ∃ (Z : Hp) (L : Lx) (me dx : Addr) (a b c : V), vs = [.ref me, a, b, c] ∧ SH Z ((me, cCut.ob K dx []) :: L) H ∧ ∀ H1, SH Z ((me, cCut.ob K dx [a, b, c, .bl false]) :: L) H1 → Q .non H1
theorem ok_Cut_init (T : Tx K mg) : Mak P w K mg base 1 cCut ["self", "number", "once", "cut"] (spCutInit (K := K)) := by
  refine mk_mak (c := cCut) (F_Cut_init T) (g_Cut T) (k_Cut T) sc_Cut_init (fun _ _ _ _ _ _ us hl => match us, hl with | [_, _, _, _], _ => rfl) ?len ?body
  case len =>
    rintro vs H Q E ⟨Z, L, me, dx, a, b, c, rfl, _⟩
    rfl
  case body =>
    rintro cdv A outer s H vs Q E hr ⟨Z, L, me, dx, a, b, c, rfl, S, q⟩
    refine ⟨_, (pss_cons (ps_atK (K := K) (c := cCut) (i := 0) (ok_cCut T) (pv 0) (pv 1)) (pss_cons (ps_atK (K := K) (c := cCut) (i := 1) (ok_cCut T) (pv 0) (pv 2)) (pss_cons (ps_atK (K := K) (c := cCut) (i := 2) (ok_cCut T) (pv 0) (pv 3)) (pss_one (ps_atK (K := K) (c := cCut) (i := 3) (ok_cCut T) (pv 0) pe_bl))))), ?_⟩
    show (_ : TS) _ ([some _, some _, some _, some _] : L2.St) _
    wtm_at "wp"
    exact q _ S
end
end AL
/-! E3 -/
namespace AL
open PySem PySem.Spec PyProof.Rows L2
/-! ### the piece at a place of the text, its slots, how many slots there are ahead of it -/
def scAt : List (Bd × KVs) → Nat → Nat → Option (Bd × KVs × Nat)
  | [], _, _ => none
  | (b, kv) :: _, m, 0 => some (b, kv, m)
  | (b, kv) :: st, m, j + 1 => scAt (b.kids.map (fun x => (x, bndKv kv b.bnd m)) ++ st) (m + b.bnd.length) j
abbrev stP (st : List (Bd × KVs)) : List Bd := st.flatMap fun e => e.1.pcs
theorem stP_kids (ks : List Bd) (kv : KVs) : stP (ks.map fun x => (x, kv)) = ks.flatMap Bd.pcs := by
  induction ks with
  | nil => rfl
  | cons k r ih => simp only [stP, List.map_cons, List.flatMap_cons] at ih ⊢; rw [ih]
theorem stP_next (b : Bd) (kv kv2 : KVs) (st : List (Bd × KVs)) : stP ((b, kv) :: st) = b :: stP (b.kids.map (fun x => (x, kv2)) ++ st) := by
  show b.pcs ++ stP st = _
  rw [show stP (b.kids.map (fun x => (x, kv2)) ++ st) = (b.kids.map fun x => (x, kv2)).flatMap (fun e => e.1.pcs) ++ stP st from List.flatMap_append, show (b.kids.map fun x => (x, kv2)).flatMap (fun e => e.1.pcs) = b.kids.flatMap Bd.pcs from stP_kids _ _, b.pcs_eq]
  rfl
theorem scAt_pc {b : Bd} {kv : KVs} {mj : Nat} : ∀ {j : Nat} {st : List (Bd × KVs)} {m : Nat}, scAt st m j = some (b, kv, mj) → (stP st)[j]? = some b
  | _, [], _, h => by simp [scAt] at h
  | 0, (c, k) :: st, m, h => by
    simp only [scAt, Option.some.injEq, Prod.mk.injEq] at h
    rw [stP_next c k k, h.1]; rfl
  | j + 1, (c, k) :: st, m, h => by
    rw [stP_next c k (bndKv k c.bnd m), List.getElem?_cons_succ]
    exact scAt_pc (j := j) h
theorem scAt_ex {b : Bd} : ∀ {j : Nat} {st : List (Bd × KVs)} {m : Nat}, (stP st)[j]? = some b → ∃ kv mj, scAt st m j = some (b, kv, mj)
  | _, [], _, h => by simp [stP] at h
  | 0, (c, k) :: st, m, h => by
    rw [stP_next c k k] at h
    obtain rfl : c = b := by simpa using h
    exact ⟨_, _, rfl⟩
  | j + 1, (c, k) :: st, m, h => by
    rw [stP_next c k (bndKv k c.bnd m), List.getElem?_cons_succ] at h
    exact scAt_ex (j := j) h
theorem CodeR.le {st : List (Bd × KVs)} {m at_ m' : Nat} {rws : List Rw} (h : CodeR st m at_ rws m') : m ≤ m' := by
  induction h with
  | nil => exact Nat.le_refl _
  | cons _ _ _ _ _ ih => omega
theorem scAt_row {b : Bd} {kv : KVs} {mj : Nat} : ∀ {j : Nat} {st : List (Bd × KVs)} {m at_ m' : Nat} {rws : List Rw}, CodeR st m at_ rws m' → scAt st m j = some (b, kv, mj) →
    ∃ rw, rws[j]? = some rw ∧ RowR kv (bndKv kv b.bnd mj) (at_ + j) b rw ∧ mj + b.bnd.length ≤ m'
  | _, [], _, _, _, _, _, h => by simp [scAt] at h
  | 0, (c, k) :: st, m, at_, m', rws, hc, h => by
    simp only [scAt, Option.some.injEq, Prod.mk.injEq] at h
    obtain ⟨rfl, rfl, rfl⟩ := h
    cases hc with
    | cons hk hs ha hR h => exact ⟨_, rfl, hR, h.le⟩
  | j + 1, (c, k) :: st, m, at_, m', rws, hc, h => by
    cases hc with
    | cons hk hs ha hR h2 =>
      obtain ⟨rw, h3, h4, h5⟩ := scAt_row (j := j) h2 h
      exact ⟨rw, by rw [List.getElem?_cons_succ]; exact h3, by rw [show at_ + (j + 1) = at_ + 1 + j by omega]; exact h4, h5⟩
theorem bndKv_lt : ∀ (ns : List Str) (kv : KVs) (m : Nat), (∀ x i, Lk kv x i → i < m) → ∀ x i, Lk (bndKv kv ns m) x i → i < m + ns.length
  | [], kv, m, h, x, i, q => h x i q
  | n :: ns, kv, m, h, x, i, q => by
    have := bndKv_lt ns (putK kv (.inr n) (.int (m : Nat))) (m + 1) (fun y j e => by
      unfold Lk at e
      rw [valV_put] at e
      by_cases hy : (Sum.inr y : Key) = .inr n
      · rw [if_pos hy] at e
        have : ((m : Nat) : Int) = ((j : Nat) : Int) := V.int.inj (Option.some.inj e)
        omega
      · rw [if_neg hy] at e
        have := h y j e
        omega) x i q
    rw [List.length_cons]; omega
theorem scAt_lt {b : Bd} {kv : KVs} {mj : Nat} : ∀ {j : Nat} {st : List (Bd × KVs)} {m : Nat}, (∀ e ∈ st, ∀ x i, Lk e.2 x i → i < m) → scAt st m j = some (b, kv, mj) → ∀ x i, Lk kv x i → i < mj
  | _, [], _, _, h => by simp [scAt] at h
  | 0, (c, k) :: st, m, h0, h => by
    simp only [scAt, Option.some.injEq, Prod.mk.injEq] at h
    obtain ⟨rfl, rfl, rfl⟩ := h
    exact h0 _ List.mem_cons_self
  | j + 1, (c, k) :: st, m, h0, h => by
    refine scAt_lt (j := j) (fun e he x i q => ?_) h
    rcases List.mem_append.mp he with he | he
    · obtain ⟨y, _, rfl⟩ := List.mem_map.mp he
      exact bndKv_lt _ _ _ (h0 _ List.mem_cons_self) x i q
    · have := h0 _ (List.mem_cons_of_mem _ he) x i q
      omega
theorem scAt_kid {b k : Bd} {ks : List Bd} {kv : KVs} {mj : Nat} : ∀ {j : Nat} {st : List (Bd × KVs)} {m : Nat}, scAt st m j = some (b, kv, mj) → b.kids = k :: ks → scAt st m (j + 1) = some (k, bndKv kv b.bnd mj, mj + b.bnd.length)
  | _, [], _, h, _ => by simp [scAt] at h
  | 0, (c, k) :: st, m, h, e => by
    simp only [scAt, Option.some.injEq, Prod.mk.injEq] at h
    obtain ⟨rfl, rfl, rfl⟩ := h
    show scAt (c.kids.map _ ++ st) _ 0 = _
    rw [e]; rfl
  | j + 1, (c, k) :: st, m, h, e => scAt_kid (j := j) (st := c.kids.map _ ++ st) h e
theorem scAt_skip : ∀ (N : Nat) (st1 st : List (Bd × KVs)) (m : Nat), (stP st1).length = N → ∃ m2, ∀ j, scAt (st1 ++ st) m (N + j) = scAt st m2 j
  | N, [], st, m, h => ⟨m, fun j => by
    obtain rfl : 0 = N := h
    rw [Nat.zero_add]; rfl⟩
  | 0, (c, k) :: r, st, m, h => by
    rw [stP_next c k k] at h
    simp at h
  | N + 1, (c, k) :: r, st, m, h => by
    rw [stP_next c k (bndKv k c.bnd m), List.length_cons] at h
    obtain ⟨m2, h2⟩ := scAt_skip N (c.kids.map (fun x => (x, bndKv k c.bnd m)) ++ r) st (m + c.bnd.length) (by omega)
    refine ⟨m2, fun j => ?_⟩
    rw [show N + 1 + j = (N + j) + 1 by omega, ← h2 j, List.append_assoc]
    rfl
theorem scAt_kid2 {b k1 k2 : Bd} {kv : KVs} {mj : Nat} : ∀ {j : Nat} {st : List (Bd × KVs)} {m : Nat}, scAt st m j = some (b, kv, mj) → b.kids = [k1, k2] → ∃ m2, scAt st m (j + 1 + k1.pcs.length) = some (k2, bndKv kv b.bnd mj, m2)
  | _, [], _, h, _ => by simp [scAt] at h
  | 0, (c, k) :: st, m, h, e => by
    simp only [scAt, Option.some.injEq, Prod.mk.injEq] at h
    obtain ⟨rfl, rfl, rfl⟩ := h
    obtain ⟨m2, h2⟩ := scAt_skip k1.pcs.length [(k1, bndKv k c.bnd m)] ((k2, bndKv k c.bnd m) :: st) (m + c.bnd.length) (by simp [stP])
    refine ⟨m2, ?_⟩
    rw [show 0 + 1 + k1.pcs.length = (k1.pcs.length + 0) + 1 by omega]
    show scAt (c.kids.map _ ++ st) _ _ = _
    rw [e]
    exact h2 0
  | j + 1, (c, k) :: st, m, h, e => by
    obtain ⟨m2, h2⟩ := scAt_kid2 (j := j) (st := c.kids.map _ ++ st) h e
    refine ⟨m2, ?_⟩
    rw [show j + 1 + 1 + k1.pcs.length = (j + 1 + k1.pcs.length) + 1 by omega]
    exact h2
end AL
/-! E4 -/
namespace AL
open PySem PySem.Spec PyProof.Rows L2
/-! ### slots -/
def ScP (g : Pg) (t : Pt) (n : Nat) : Option (Bd × KVs × Nat) := scAt [(t.body g, bndKv [] (t.own g) 0)] (t.own g).length n
theorem stP_one (b : Bd) (kv : KVs) : stP [(b, kv)] = b.pcs := by simp [stP]
structure ScI (g : Pg) (rf : Pt → List Rw) (mf : Pt → Nat) (t : Pt) (n : Nat) (b : Bd) (kv : KVs) (m : Nat) (rw : Rw) : Prop where
  sc : ScP g t n = some (b, kv, m)
  row : (rf t)[n]? = some rw
  R : RowR kv (bndKv kv b.bnd m) n b rw
  le : m + b.bnd.length ≤ mf t
  lt : ∀ x i, Lk kv x i → i < m
theorem CodeOk.at {g : Pg} {rf : Pt → List Rw} {mf : Pt → Nat} (C : CodeOk g rf mf) {t : Pt} {n : Nat} {b : Bd} (h : Pt.pc g t n = some b) : ∃ kv m rw, ScI g rf mf t n b kv m rw := by
  have h1 : (stP [(t.body g, bndKv [] (t.own g) 0)])[n]? = some b := by rw [stP_one]; exact h
  obtain ⟨kv, m, h2⟩ := scAt_ex (m := (t.own g).length) h1
  obtain ⟨rw, h3, h4, h5⟩ := scAt_row (C.c t) h2
  refine ⟨kv, m, rw, h2, h3, by rw [Nat.zero_add] at h4; exact h4, h5, scAt_lt (fun e he x i q => ?_) h2⟩
  obtain rfl := List.mem_singleton.mp he
  have := bndKv_lt (t.own g) [] 0 (fun x i q => by cases q) x i q
  omega
theorem CodeOk.pc {g : Pg} {t : Pt} {n : Nat} {b : Bd} {kv : KVs} {m : Nat} (h : ScP g t n = some (b, kv, m)) : Pt.pc g t n = some b := by
  have := scAt_pc h
  rw [stP_one] at this
  exact this
structure SlR (R : HRel) (Z : Hp) (g : Pg) (mf : Pt → Nat) (t : Pt) (n : Nat) (env : AEnv) (svs : List V) : Prop where
  len : svs.length = mf t
  sc : ∃ b kv m, ScP g t n = some (b, kv, m) ∧ ∀ x i a, Lk kv x i → eget env x = some a → ∃ v, svs[i]? = some v ∧ GV R Z a v
  all : ∀ v ∈ svs, (v = .non ∨ ∃ i, v = .int i) ∨ ∃ p ∈ env, GV R Z p.2 v
/-- a coded atom's value -/
inductive CV (svs : List V) : Cdd → V → Prop where
  | slot {i v} (h : svs[i]? = some v) : CV svs (.slot i) v
  | lit {i} : CV svs (.lit i) (.int i)
section
variable {R : HRel} {Z Z1 : Hp} {g : Pg} {rf : Pt → List Rw} {mf : Pt → Nat} {t : Pt} {n m : Nat} {env : AEnv} {svs : List V} {b k k2 : Bd} {kv : KVs} {rw : Rw} {x y : Str} {a c : AV} {v w : V}
theorem SlR.mono (hs : Same Z Z1) (h : SlR R Z g mf t n env svs) : SlR R Z1 g mf t n env svs := by
  obtain ⟨b, kv, m, h1, h2⟩ := h.sc
  exact ⟨h.len, ⟨b, kv, m, h1, fun x i a l e => let ⟨v, h3, h4⟩ := h2 x i a l e; ⟨v, h3, h4.mono hs⟩⟩, fun v hv => (h.all v hv).imp id fun ⟨p, hp, q⟩ => ⟨p, hp, q.mono hs⟩⟩
theorem SlR.get (h : SlR R Z g mf t n env svs) (I : ScI g rf mf t n b kv m rw) : ∀ x i a, Lk kv x i → eget env x = some a → ∃ v, svs[i]? = some v ∧ GV R Z a v := by
  obtain ⟨b1, kv1, m1, h1, h2⟩ := h.sc
  rw [I.sc] at h1
  simp only [Option.some.injEq, Prod.mk.injEq] at h1
  obtain ⟨_, rfl, _⟩ := h1
  exact h2
theorem SlR.val {a : V} {cd : Cdd} {av : AV} (h : SlR R Z g mf t n env svs) (I : ScI g rf mf t n b kv m rw) (hc : Cod kv a cd) (ha : aw env a = some av) : ∃ v, CV svs cd v ∧ GV R Z av v := by
  cases hc with
  | slot l => obtain ⟨v, h1, h2⟩ := h.get I _ _ _ l ha; exact ⟨v, .slot h1, h2⟩
  | lit => cases ha; exact ⟨_, .lit, rfl⟩
theorem Lk_put {kv : KVs} {x y : Str} {i m : Nat} : Lk (putK kv (.inr x) (.int (m : Nat))) y i ↔ (y = x ∧ i = m) ∨ (y ≠ x ∧ Lk kv y i) := by
  unfold Lk
  rw [valV_put]
  by_cases e : y = x
  · rw [if_pos (by rw [e])]
    constructor
    · intro h
      have : ((m : Nat) : Int) = ((i : Nat) : Int) := V.int.inj (Option.some.inj h)
      exact .inl ⟨e, by omega⟩
    · rintro (⟨_, rfl⟩ | ⟨h, _⟩)
      · rfl
      · exact absurd e h
  · rw [if_neg (fun q => e (Sum.inr.inj q))]
    exact ⟨fun h => .inr ⟨e, h⟩, fun h => h.elim (fun q => absurd q.1 e) (·.2)⟩
theorem eget_cons {e : AEnv} {x y : Str} {a : AV} : eget ((x, a) :: e) y = if y = x then some a else eget e y := rfl
/-- to the first body, nothing bound -/
theorem SlR.next0 {ks : List Bd} (h : SlR R Z g mf t n env svs) (I : ScI g rf mf t n b kv m rw) (hk : b.kids = k :: ks) (hb : b.bnd = []) : SlR R Z g mf t (n + 1) env svs := by
  have h1 := scAt_kid I.sc hk
  rw [hb] at h1
  exact ⟨h.len, ⟨_, _, _, h1, h.get I⟩, h.all⟩
theorem SlR.next2 (h : SlR R Z g mf t n env svs) (I : ScI g rf mf t n b kv m rw) (hk : b.kids = [k, k2]) (hb : b.bnd = []) : SlR R Z g mf t (n + 1 + k.pcs.length) env svs := by
  obtain ⟨m2, h1⟩ := scAt_kid2 I.sc hk
  rw [hb] at h1
  exact ⟨h.len, ⟨_, _, _, h1, h.get I⟩, h.all⟩
/-- to the first body, the names unbound -/
theorem SlR.nextU {ks : List Bd} (h : SlR R Z g mf t n env svs) (I : ScI g rf mf t n b kv m rw) (hk : b.kids = k :: ks) (hb : b.bnd = [x, y]) (hx : eget env x = none) (hy : eget env y = none) : SlR R Z g mf t (n + 1) env svs := by
  have h1 := scAt_kid I.sc hk
  rw [hb] at h1
  refine ⟨h.len, ⟨_, _, _, h1, fun z i a l e => ?_⟩, h.all⟩
  rcases Lk_put.mp l with ⟨rfl, _⟩ | ⟨_, l⟩
  · rw [hy] at e; cases e
  rcases Lk_put.mp l with ⟨rfl, _⟩ | ⟨_, l⟩
  · rw [hx] at e; cases e
  exact h.get I _ _ _ l e
theorem all_set {P : V → Prop} (h : ∀ u ∈ svs, P u) (hv : P v) (i : Nat) : ∀ u ∈ svs.set i v, P u := fun u hu => by
  rcases List.mem_or_eq_of_mem_set hu with q | rfl
  · exact h u q
  · exact hv
theorem SlR.lt1 (h : SlR R Z g mf t n env svs) (I : ScI g rf mf t n b kv m rw) (hb : b.bnd = [x]) : m < svs.length := by
  have := I.le
  rw [hb, List.length_cons, List.length_nil] at this
  have := h.len
  omega
theorem SlR.bind1 {ks : List Bd} (h : SlR R Z g mf t n env svs) (I : ScI g rf mf t n b kv m rw) (hk : b.kids = k :: ks) (hb : b.bnd = [x]) (hv : GV R Z a v) : SlR R Z g mf t (n + 1) ((x, a) :: env) (svs.set m v) := by
  have h1 := scAt_kid I.sc hk
  rw [hb] at h1
  have hm := h.lt1 I hb
  refine ⟨by rw [List.length_set]; exact h.len, ⟨_, _, _, h1, fun z i a2 l e => ?_⟩, all_set (fun u hu => (h.all u hu).imp id fun ⟨p, hp, q⟩ => ⟨p, List.mem_cons_of_mem _ hp, q⟩) (.inr ⟨_, List.mem_cons_self, hv⟩) _⟩
  rw [eget_cons] at e
  rcases Lk_put.mp l with ⟨rfl, rfl⟩ | ⟨ne, l⟩
  · rw [if_pos rfl] at e
    cases e
    exact ⟨v, by rw [List.getElem?_set_self hm], hv⟩
  · rw [if_neg ne] at e
    obtain ⟨u, h3, h4⟩ := h.get I _ _ _ l e
    have := I.lt _ _ l
    exact ⟨u, by rw [List.getElem?_set_ne (by omega)]; exact h3, h4⟩
theorem SlR.bind2 (h : SlR R Z g mf t n env svs) (I : ScI g rf mf t n b kv m rw) (hk : b.kids = [k, k2]) (hb : b.bnd = [x, y]) (ne : x ≠ y) (hv : GV R Z a v) (hw : GV R Z c w) :
    SlR R Z g mf t (n + 1 + k.pcs.length) ((y, c) :: (x, a) :: env) ((svs.set m v).set (m + 1) w) := by
  obtain ⟨m2, h1⟩ := scAt_kid2 I.sc hk
  rw [hb] at h1
  have hm : m + 1 < svs.length := by
    have := I.le
    rw [hb] at this
    have := h.len
    simp at *
    omega
  refine ⟨by rw [List.length_set, List.length_set]; exact h.len, ⟨_, _, _, h1, fun z i a2 l e => ?_⟩, all_set (all_set (fun u hu => (h.all u hu).imp id fun ⟨p, hp, q⟩ => ⟨p, List.mem_cons_of_mem _ (List.mem_cons_of_mem _ hp), q⟩) (.inr ⟨_, List.mem_cons_of_mem _ List.mem_cons_self, hv⟩) _) (.inr ⟨_, List.mem_cons_self, hw⟩) _⟩
  rw [eget_cons] at e
  rcases Lk_put.mp l with ⟨rfl, rfl⟩ | ⟨n1, l⟩
  · rw [if_pos rfl] at e
    cases e
    exact ⟨w, by rw [List.getElem?_set_self (by rw [List.length_set]; exact hm)], hw⟩
  rw [if_neg n1, eget_cons] at e
  rcases Lk_put.mp l with ⟨rfl, rfl⟩ | ⟨n2, l⟩
  · rw [if_pos rfl] at e
    cases e
    exact ⟨v, by rw [List.getElem?_set_ne (by omega), List.getElem?_set_self (by omega)], hv⟩
  · rw [if_neg n2] at e
    obtain ⟨u, h3, h4⟩ := h.get I _ _ _ l e
    have := I.lt _ _ l
    exact ⟨u, by rw [List.getElem?_set_ne (by omega), List.getElem?_set_ne (by omega)]; exact h3, h4⟩
end
/-! ### slots of ints -/
structure SlI (g : Pg) (mf : Pt → Nat) (t : Pt) (n : Nat) (env : List (Str × Int)) (svs : List V) : Prop where
  len : svs.length = mf t
  sc : ∃ b kv m, ScP g t n = some (b, kv, m) ∧ ∀ x i j, Lk kv x i → eget (ienv env) x = some (.int j) → svs[i]? = some (.int j)
  all : ∀ v ∈ svs, v = .non ∨ ∃ i, v = .int i
theorem ienv_int : ∀ {e : List (Str × Int)} {x : Str} {a : AV}, eget (ienv e) x = some a → ∃ i, a = .int i
  | [], _, _, h => by cases h
  | (y, i) :: r, x, a, h => by
    have h : eget ((y, .int i) :: ienv r) x = some a := h
    rw [eget_cons] at h
    by_cases e : x = y
    · rw [if_pos e] at h; cases h; exact ⟨_, rfl⟩
    · rw [if_neg e] at h; exact ienv_int h
theorem SlR.toI {R : HRel} {Z : Hp} {g : Pg} {mf : Pt → Nat} {t : Pt} {n : Nat} {e : List (Str × Int)} {svs : List V} (h : SlR R Z g mf t n (ienv e) svs) : SlI g mf t n e svs := by
  obtain ⟨b, kv, m, h1, h2⟩ := h.sc
  refine ⟨h.len, ⟨b, kv, m, h1, fun x i j l q => ?_⟩, fun v hv => ?_⟩
  · obtain ⟨v, h3, h4⟩ := h2 x i _ l q
    obtain rfl : v = .int j := h4
    exact h3
  · rcases h.all v hv with q | ⟨p, hp, q⟩
    · exact q
    · obtain ⟨z, _, rfl⟩ := List.mem_map.mp hp
      exact .inr ⟨_, q⟩
theorem SlI.toR {R : HRel} {Z : Hp} {g : Pg} {mf : Pt → Nat} {t : Pt} {n : Nat} {e : List (Str × Int)} {svs : List V} (h : SlI g mf t n e svs) : SlR R Z g mf t n (ienv e) svs := by
  obtain ⟨b, kv, m, h1, h2⟩ := h.sc
  refine ⟨h.len, ⟨b, kv, m, h1, fun x i a l q => ?_⟩, fun v hv => .inl (h.all v hv)⟩
  obtain ⟨j, rfl⟩ := ienv_int q
  exact ⟨_, h2 x i j l q, rfl⟩
/-! ### the machine: holds -/
section
variable (K : PySem.W.Frag) (g : Pg) (rf : Pt → List Rw) (mf : Pt → Nat)
def MHd (Z : Hp) (h : Hd) (v : V) : Prop := ∃ p dx cl kp dk f df pa rp sl nv svs ws, v = .ref p ∧ Z p = some (cCut.ob K dx [.int (h.num : Nat), .bl false, .ref cl, .bl false]) ∧ Z cl = some (.lst [.ref kp, .ref f]) ∧ Z kp = some (cKeep.ob K dk [.str g.K, nv]) ∧
  Z f = some (cFrame.ob K df [.ref pa, .ref rp, .int (h.at_ : Nat), .ref sl]) ∧ Z pa = some (.tup (Pt.d1.tup g)) ∧ Z rp = some (.lst ws) ∧ RwsAt Z (rf .d1) ws ∧ Z sl = some (.lst svs) ∧ SlI g mf .d1 h.at_ h.env svs
theorem MHd.mono {Z Z1 : Hp} {h : Hd} {v : V} (hs : Same Z Z1) (q : MHd K g rf mf Z h v) : MHd K g rf mf Z1 h v := by
  obtain ⟨p, dx, cl, kp, dk, f, df, pa, rp, sl, nv, svs, ws, e, h1, h2, h3, h4, h5, h6, h7, h8, h9⟩ := q
  exact ⟨p, dx, cl, kp, dk, f, df, pa, rp, sl, nv, svs, ws, e, hs _ _ h1, hs _ _ h2, hs _ _ h3, hs _ _ h4, hs _ _ h5, hs _ _ h6, h7.mono hs, hs _ _ h8, h9⟩
def MRel : HRel := ⟨MHd K g rf mf, MHd.mono K g rf mf⟩
structure FrOk (Z : Hp) (f : AF) (pa rp : Addr) (svs : List V) : Prop where
  pa : Z pa = some (.tup (f.t.tup g))
  rp : ∃ ws, Z rp = some (.lst ws) ∧ RwsAt Z (rf f.t) ws
  sl : SlR (MRel K g rf mf) Z g mf f.t f.n f.env svs
/-- a piece that puts something on the ladder and waits -/
inductive BdW : Bd → Str → Prop where
  | keep {x k a f gs nx} : BdW (.keep x k a f gs nx) x
  | go {x h a b nx} : BdW (.go x h a b nx) x
def Tail (f : AF) : Prop := ∃ b x, Pt.pc g f.t f.n = some b ∧ BdW b x ∧ b.kids = [.give (.str x)]
def NonT (f : AF) : Prop := ∃ b x y s a c nx, Pt.pc g f.t f.n = some b ∧ BdW b x ∧ b.kids = [.sum y s a c nx] ∧ PyData.strOk s = true
/-- the ladder beneath -/
inductive MLow (Z : Hp) : List AF → List V → Lx → Prop where
  | nil : MLow Z [] [] []
  | base {fs p d} (ht : ∀ f ∈ fs, Tail g f) : MLow Z fs [.ref p] [(p, cPass.ob K d [.int (fs.length : Nat)])]
  | step {fs f low p d fr df pa rp sl svs stv M} (ht : ∀ f ∈ fs, Tail g f) (hn : NonT g f) (hf : FrOk K g rf mf Z f pa rp svs) (h : MLow Z low stv M) :
      MLow Z (fs ++ f :: low) (stv ++ [.ref fr] ++ [.ref p]) ((p, cPass.ob K d [.int (fs.length : Nat)]) :: (fr, cFrame.ob K df [.ref pa, .ref rp, .int (f.n : Nat), .ref sl]) :: (sl, .lst svs) :: M)
def MRepF (Z : Hp) (low : List AF) (top : AF) (st f d pa rp sl : Addr) (svs : List V) (L M : Lx) : Option (List Hd) → Prop
  | none => ∃ stv Ml, M = (st, .lst (stv ++ [.ref f])) :: (f, cFrame.ob K d [.ref pa, .ref rp, .int (top.n : Nat), .ref sl]) :: (sl, .lst svs) :: (Ml ++ L) ∧ MLow K g rf mf Z low stv Ml ∧ FrOk K g rf mf Z top pa rp svs
  | some hs => ∃ stv Ml kp dk nv, M = (st, .lst (stv ++ [.ref kp] ++ [.ref f])) :: (f, cFrame.ob K d [.ref pa, .ref rp, .int (top.n : Nat), .ref sl]) :: (sl, .lst svs) :: (kp, cKeep.ob K dk [.str g.K, nv]) :: (Ml ++ L) ∧
      MLow K g rf mf Z low stv Ml ∧ FrOk K g rf mf Z top pa rp svs ∧ GV (MRel K g rf mf) Z (.row hs) nv
def MRep (Z : Hp) (low : List AF) (top : AF) (st : Addr) (L M : Lx) (nt : Option (List Hd)) : Prop := ∃ f d pa rp sl svs, MRepF K g rf mf Z low top st f d pa rp sl svs L M nt
end
section
variable {K : PySem.W.Frag} {g : Pg} {rf : Pt → List Rw} {mf : Pt → Nat} {Z Z1 : Hp}
theorem FrOk.mono (hs : Same Z Z1) {f : AF} {pa rp : Addr} {svs : List V} (h : FrOk K g rf mf Z f pa rp svs) : FrOk K g rf mf Z1 f pa rp svs :=
  ⟨hs _ _ h.pa, let ⟨ws, h1, h2⟩ := h.rp; ⟨ws, hs _ _ h1, h2.mono hs⟩, h.sl.mono hs⟩
theorem MLow.mono (hs : Same Z Z1) {low : List AF} {stv : List V} {M : Lx} (h : MLow K g rf mf Z low stv M) : MLow K g rf mf Z1 low stv M := by
  induction h with
  | nil => exact .nil
  | base ht => exact .base ht
  | step ht hn hf _ ih => exact .step ht hn (hf.mono hs) ih
theorem MLow.len {low : List AF} {stv : List V} {M : Lx} (h : MLow K g rf mf Z low stv M) : stv.length ≤ 2 * low.length + 1 := by
  induction h with
  | nil => simp
  | base ht => simp
  | step ht hn hf _ ih => simp only [List.length_append, List.length_cons, List.length_nil]; omega
theorem MLow.top {fr : AF} {low : List AF} {stv : List V} {M : Lx} (h : MLow K g rf mf Z (fr :: low) stv M) : ∃ xs p d ys, stv = xs ++ [.ref p] ∧ (p, cPass.ob K d ys) ∈ M := by
  generalize e : fr :: low = l at h
  cases h with
  | nil => cases e
  | @base fs p d ht => exact ⟨[], p, d, _, rfl, List.mem_cons_self⟩
  | @step fs f low p d fr df pa rp sl svs stv M ht hn hf h => exact ⟨_, p, d, _, rfl, List.mem_cons_self⟩
/-- what stands on the ladder: parts, keeps, passes -/
def ElAt (K : PySem.W.Frag) (Z : Hp) (L : Lx) (v : V) : Prop := ∃ a d xs, v = .ref a ∧ (In Z L a (cFrame.ob K d xs) ∨ In Z L a (cKeep.ob K d xs) ∨ In Z L a (cPass.ob K d xs))
theorem ElAt.up {L L1 : Lx} {v : V} (h : ElAt K Z L v) (hl : ∀ e ∈ L, e ∈ L1) : ElAt K Z L1 v := by
  obtain ⟨a, d, xs, e, h⟩ := h
  have up : ∀ {o}, In Z L a o → In Z L1 a o := fun h => by
    cases h with
    | l h => exact .l (hl _ h)
    | z h => exact .z h
  exact ⟨a, d, xs, e, h.imp up (Or.imp up up)⟩
/-- parts and passes alone -/
def LwAt (K : PySem.W.Frag) (Z : Hp) (L : Lx) (v : V) : Prop := ∃ a d xs, v = .ref a ∧ (In Z L a (cFrame.ob K d xs) ∨ In Z L a (cPass.ob K d xs))
theorem LwAt.el {L : Lx} {v : V} (h : LwAt K Z L v) : ElAt K Z L v := by
  obtain ⟨a, d, xs, e, h⟩ := h
  exact ⟨a, d, xs, e, h.imp id .inr⟩
theorem LwAt.up {L L1 : Lx} {v : V} (h : LwAt K Z L v) (hl : ∀ e ∈ L, e ∈ L1) : LwAt K Z L1 v := by
  obtain ⟨a, d, xs, e, h⟩ := h
  have up : ∀ {o}, In Z L a o → In Z L1 a o := fun h => by
    cases h with
    | l h => exact .l (hl _ h)
    | z h => exact .z h
  exact ⟨a, d, xs, e, h.imp up up⟩
theorem MLow.lw {low : List AF} {stv : List V} {M : Lx} (h : MLow K g rf mf Z low stv M) : ∀ v ∈ stv, LwAt K Z M v := by
  induction h with
  | nil => intro v hv; cases hv
  | base ht => intro v hv; obtain rfl := List.mem_singleton.mp hv; exact ⟨_, _, _, rfl, .inr (.l List.mem_cons_self)⟩
  | step ht hn hf _ ih =>
    intro v hv
    rcases List.mem_append.mp hv with hv | hv
    · rcases List.mem_append.mp hv with hv | hv
      · exact (ih v hv).up fun e he => List.mem_cons_of_mem _ (List.mem_cons_of_mem _ (List.mem_cons_of_mem _ he))
      · obtain rfl := List.mem_singleton.mp hv
        exact ⟨_, _, _, rfl, .inl (.l (List.mem_cons_of_mem _ List.mem_cons_self))⟩
    · obtain rfl := List.mem_singleton.mp hv
      exact ⟨_, _, _, rfl, .inr (.l List.mem_cons_self)⟩
end
end AL
/-! E5 -/
namespace AL
open PySem PySem.Spec PyProof.Rows L2
/-- what isinstance looks up of an instance of the class C: its __class__ is object's own -/
structure InsT (K : PySem.W.Frag) (C : Addr) : Prop where
  cl : Cls K C
  looks : PySem.W.findIn K (.ref C) "__class__" = some (some (.builtin "object.__class__")) ∧ PySem.W.specialIn K (.builtin "object.__class__") "__get__" = some (some (.builtin "getset_descriptor.__get__"))
  takes : PySem.W.takesIn K (.builtin "object.__class__") = some true ∧ PySem.W.mroIn K C (.type "object") = some true
section
variable {K : PySem.W.Frag} {mg : Str → Option Value}
theorem insT_of (T : Tx K mg) {x : Str} (c : Cls K (He.ga K x)) (h : exB K = true → insX K x = true) : InsT K (He.ga K x) := by
  have h1 := h T.ex
  have h2 := T.ex
  simp only [insX, Bool.and_eq_true] at h1
  have h3 : glX K = true := by simp only [exB, Bool.and_eq_true] at h2; simp only [h2]
  simp only [glX, Bool.and_eq_true] at h3
  exact ⟨c, ⟨of_decide_eq_true h1.1, of_decide_eq_true h3.1⟩, of_decide_eq_true h3.2, of_decide_eq_true h1.2⟩
theorem isi_of (T : Tx K mg) {x y : Str} {b : Bool} (h : exB K = true → isiX K x y b = true) : PySem.W.kitOne K (.ref (He.ga K x)) (.ref (He.ga K y)) = some b := of_decide_eq_true (h T.ex)
theorem ins_Frame (T : Tx K mg) : InsT K (He.ga K "Frame") := insT_of T (c_Frame T) (by intro h; simp only [exB, Bool.and_eq_true] at h; simp only [h])
theorem ins_Keep (T : Tx K mg) : InsT K (He.ga K "Keep") := insT_of T (c_Keep T) (by intro h; simp only [exB, Bool.and_eq_true] at h; simp only [h])
theorem ins_Pass (T : Tx K mg) : InsT K (He.ga K "Pass") := insT_of T (c_Pass T) (by intro h; simp only [exB, Bool.and_eq_true] at h; simp only [h])
theorem i_FF (T : Tx K mg) : PySem.W.kitOne K (.ref (He.ga K "Frame")) (.ref (He.ga K "Frame")) = some true := isi_of T (by intro h; simp only [exB, Bool.and_eq_true] at h; simp only [h])
theorem i_FK (T : Tx K mg) : PySem.W.kitOne K (.ref (He.ga K "Frame")) (.ref (He.ga K "Keep")) = some false := isi_of T (by intro h; simp only [exB, Bool.and_eq_true] at h; simp only [h])
theorem i_FP (T : Tx K mg) : PySem.W.kitOne K (.ref (He.ga K "Frame")) (.ref (He.ga K "Pass")) = some false := isi_of T (by intro h; simp only [exB, Bool.and_eq_true] at h; simp only [h])
theorem i_FS (T : Tx K mg) : PySem.W.kitOne K (.ref (He.ga K "Frame")) (.ref (He.ga K "Screen")) = some false := isi_of T (by intro h; simp only [exB, Bool.and_eq_true] at h; simp only [h])
theorem i_KF (T : Tx K mg) : PySem.W.kitOne K (.ref (He.ga K "Keep")) (.ref (He.ga K "Frame")) = some false := isi_of T (by intro h; simp only [exB, Bool.and_eq_true] at h; simp only [h])
theorem i_KK (T : Tx K mg) : PySem.W.kitOne K (.ref (He.ga K "Keep")) (.ref (He.ga K "Keep")) = some true := isi_of T (by intro h; simp only [exB, Bool.and_eq_true] at h; simp only [h])
theorem i_KP (T : Tx K mg) : PySem.W.kitOne K (.ref (He.ga K "Keep")) (.ref (He.ga K "Pass")) = some false := isi_of T (by intro h; simp only [exB, Bool.and_eq_true] at h; simp only [h])
theorem i_KS (T : Tx K mg) : PySem.W.kitOne K (.ref (He.ga K "Keep")) (.ref (He.ga K "Screen")) = some false := isi_of T (by intro h; simp only [exB, Bool.and_eq_true] at h; simp only [h])
theorem i_PF (T : Tx K mg) : PySem.W.kitOne K (.ref (He.ga K "Pass")) (.ref (He.ga K "Frame")) = some false := isi_of T (by intro h; simp only [exB, Bool.and_eq_true] at h; simp only [h])
theorem i_PK (T : Tx K mg) : PySem.W.kitOne K (.ref (He.ga K "Pass")) (.ref (He.ga K "Keep")) = some false := isi_of T (by intro h; simp only [exB, Bool.and_eq_true] at h; simp only [h])
theorem i_PP (T : Tx K mg) : PySem.W.kitOne K (.ref (He.ga K "Pass")) (.ref (He.ga K "Pass")) = some true := isi_of T (by intro h; simp only [exB, Bool.and_eq_true] at h; simp only [h])
theorem i_PS (T : Tx K mg) : PySem.W.kitOne K (.ref (He.ga K "Pass")) (.ref (He.ga K "Screen")) = some false := isi_of T (by intro h; simp only [exB, Bool.and_eq_true] at h; simp only [h])
theorem ty_ins {c : Cd} {H : Hp} {a dx : Addr} {xs : List V} (I : InsT K (He.ga K c.nm)) (h : H a = some (c.ob K dx xs)) : TyX K H (.ref a) (.ref (He.ga K c.nm)) := .base (TyOf.ins h I.cl I.looks.1 I.looks.2 I.takes.1 I.takes.2)
/-- isinstance of an own instance -/
theorem k_isiO {c : Cd} {Z : Hp} {L : Lx} {H : Hp} {a dx C : Addr} {xs : List V} {b : Bool} {Q : VK} (I : InsT K (He.ga K c.nm)) (e : PySem.W.kitOne K (.ref (He.ga K c.nm)) (.ref C) = some b) (S : SH Z L H) (h : In Z L a (c.ob K dx xs)) (q : Q (.bl b) H) : rIsi K [.ref a, .ref C] H Q :=
  k_isi (.own _) (ty_ins I (S.at h)) e q
theorem k_isiT {Z : Hp} {L : Lx} {H : Hp} {x : V} {tp : Addr} {cs : List V} {us : List Value} {t : Value} {b : Bool} {Q : VK} (S : SH Z L H) (ht : In Z L tp (.tup cs)) (hc : Paired ClsV cs us) (hty : TyX K H x t) (e : PySem.W.kitAny K t us = some b) (q : Q (.bl b) H) : rIsiT K [x, .ref tp] H Q :=
  ⟨x, tp, cs, t, us, b, rfl, S.at ht, hc, hty, e, q⟩
theorem any2 {t c d : Value} {b1 b2 : Bool} (h1 : PySem.W.kitOne K t c = some b1) (h2 : PySem.W.kitOne K t d = some b2) : PySem.W.kitAny K t [c, d] = some (b1 || b2) := by
  show (match PySem.W.kitOne K t c with | some true => some true | some false => (match PySem.W.kitOne K t d with | some true => some true | some false => some false | none => none) | none => none) = _
  rw [h1, h2]
  cases b1 <;> cases b2 <;> rfl
end
section
variable {P : Program} {w : World} {K : PySem.W.Frag} {mg : Str → Option Value} {base : Heap}
/-- parts and keeps -/
def FkAt (K : PySem.W.Frag) (Z : Hp) (L : Lx) (v : V) : Prop := ∃ a d xs, v = .ref a ∧ (In Z L a (cFrame.ob K d xs) ∨ In Z L a (cKeep.ob K d xs))
def spIsCounted : Sp := fun vs H Q _ => ∃ (Z : Hp) (L : Lx) (v : V), vs = [v] ∧ SH Z L H ∧ ((FkAt K Z L v ∧ ∀ H1, SH Z L H1 → Q (.bl true) H1) ∨ (ElAt K Z L v ∧ ∀ b H1, SH Z L H1 → Q (.bl b) H1))
theorem ok_is_counted (T : Tx K mg) : Cal P w K mg base 1 "is_counted" ["step"] (spIsCounted (K := K)) := by
  refine mk_cal (F_is_counted T) (g_is_counted T) sc_is_counted (fun _ _ _ _ _ _ us hl => match us, hl with | [_], _ => rfl) ?len ?body
  case len =>
    rintro vs H Q E ⟨Z, L, v, rfl, _⟩
    rfl
  case body =>
    rintro cdv A outer s H vs Q E hr ⟨Z, L, v, rfl, S, hc⟩
    refine ⟨_, (pss_one (ps_ret (pe_callB (call_isiTK (K := K)) (by rfl) (b_isinstance T) (by decide +kernel) (pa_cons (pv 0) (pa_cons (pe_tup (pa_cons (pe_glob (v := .ref (He.ga K "Frame")) rfl (g_Frame T) rfl) (pa_cons (pe_glob (v := .ref (He.ga K "Keep")) rfl (g_Keep T) rfl) pa_nil))) pa_nil))))), ?_⟩
    show (_ : TS) _ ([some _] : L2.St) _
    wtm_at "wp"
    rcases hc with ⟨⟨a, d, xs, rfl, he | he⟩, q⟩ | ⟨⟨a, d, xs, rfl, he | he | he⟩, q⟩
    · exact k_isiT S (by wtm_at "in") (.cons (.own _) (.cons (.own _) .nil)) (ty_ins (ins_Frame T) (S.tail.at he)) (any2 (i_FF T) (i_FK T)) (q _ S.tail)
    · exact k_isiT S (by wtm_at "in") (.cons (.own _) (.cons (.own _) .nil)) (ty_ins (ins_Keep T) (S.tail.at he)) (any2 (i_KF T) (i_KK T)) (q _ S.tail)
    · exact k_isiT S (by wtm_at "in") (.cons (.own _) (.cons (.own _) .nil)) (ty_ins (ins_Frame T) (S.tail.at he)) (any2 (i_FF T) (i_FK T)) (q _ _ S.tail)
    · exact k_isiT S (by wtm_at "in") (.cons (.own _) (.cons (.own _) .nil)) (ty_ins (ins_Keep T) (S.tail.at he)) (any2 (i_KF T) (i_KK T)) (q _ _ S.tail)
    · exact k_isiT S (by wtm_at "in") (.cons (.own _) (.cons (.own _) .nil)) (ty_ins (ins_Pass T) (S.tail.at he)) (any2 (i_PF T) (i_PK T)) (q _ _ S.tail)
def spCopied : Sp := fun vs H Q _ => ∃ (Z : Hp) (L : Lx) (a : Addr), vs = [.ref a] ∧ SH Z L H ∧
  ((∃ d pa rp n sl svs, Z a = some (cFrame.ob K d [pa, rp, n, .ref sl]) ∧ Z sl = some (.lst svs) ∧ (∀ v ∈ svs, v = .non ∨ ∃ i, v = .int i) ∧ ∀ f d s2 H1, SH Z ((f, cFrame.ob K d [pa, rp, n, .ref s2]) :: (s2, .lst svs) :: L) H1 → Q (.ref f) H1) ∨
   (∃ d nm nv, Z a = some (cKeep.ob K d [nm, nv]) ∧ ∀ k d2 H1, SH Z ((k, cKeep.ob K d2 [nm, nv]) :: L) H1 → Q (.ref k) H1))
theorem ok_copied (T : Tx K mg) : Cal P w K mg base 3 "copied" ["step"] (spCopied (K := K)) := by
  refine mk_cal (F_copied T) (g_copied T) sc_copied (fun _ _ _ _ _ _ us hl => match us, hl with | [_], _ => rfl) ?len ?body
  case len =>
    rintro vs H Q E ⟨Z, L, a, rfl, _⟩
    rfl
  case body =>
    rintro cdv A outer s H vs Q E hr ⟨Z, L, a, rfl, S, hc⟩
    refine ⟨_, (pss_cons (ps_if (pt_tru (K := K) (pe_callB (call_isiK (K := K)) (by rfl) (b_isinstance T) (by decide +kernel) (pa_cons (pv 0) (pa_cons (pe_glob (v := .ref (He.ga K "Frame")) rfl (g_Frame T) rfl) pa_nil))) (by intro _; rfl)) (pss_cons (ps_for PassesOwn.never rfl (pi_listK (K := K) (pe_atK (K := K) (c := cFrame) (i := 3) (ok_cFrame T) (pv 0))) (pg_name (i := 1) sc_copied.nd rfl (Or.inl rfl)) (pss_one (ps_if (PW.pt (pw_and (pt_tru (K := K) (pe_callB (call_isiK (K := K)) (by rfl) (b_isinstance T) (by decide +kernel) (pa_cons (pv 1) (pa_cons (pe_glob (v := .ref (He.ga K "Cut")) rfl (g_Cut T) rfl) pa_nil))) (by intro _; rfl)) (pw_and1 (pt_tru (K := K) (pe_atK (K := K) (c := cCut) (i := 1) (ok_cCut T) (pv 1)) (by intro _; rfl))))) (pss_one (ps_atK (K := K) (c := cCut) (i := 3) (ok_cCut T) (pv 1) pe_bl)) pss_nil))) (pss_one (ps_ret (pe_makK (K := K) (c := cFrame) (ok_Frame_init T) hr (pa_cons (pe_atK (K := K) (c := cFrame) (i := 0) (ok_cFrame T) (pv 0)) (pa_cons (pe_atK (K := K) (c := cFrame) (i := 1) (ok_cFrame T) (pv 0)) (pa_cons (pe_atK (K := K) (c := cFrame) (i := 2) (ok_cFrame T) (pv 0)) (pa_cons (pe_callTy call_listOf (by rfl) (b_list T) (by decide +kernel) (pa_cons (pe_atK (K := K) (c := cFrame) (i := 3) (ok_cFrame T) (pv 0)) pa_nil)) pa_nil)))))))) pss_nil) (pss_cons (ps_if (pt_tru (K := K) (pe_callB (call_isiK (K := K)) (by rfl) (b_isinstance T) (by decide +kernel) (pa_cons (pv 0) (pa_cons (pe_glob (v := .ref (He.ga K "Keep")) rfl (g_Keep T) rfl) pa_nil))) (by intro _; rfl)) (pss_one (ps_ret (pe_makK (K := K) (c := cKeep) (ok_Keep_init T) hr (pa_cons (pe_atK (K := K) (c := cKeep) (i := 0) (ok_cKeep T) (pv 0)) (pa_cons (pe_atK (K := K) (c := cKeep) (i := 1) (ok_cKeep T) (pv 0)) pa_nil))))) pss_nil) (pss_cons (ps_if (pt_tru (K := K) (pe_callB (call_isiK (K := K)) (by rfl) (b_isinstance T) (by decide +kernel) (pa_cons (pv 0) (pa_cons (pe_glob (v := .ref (He.ga K "Pass")) rfl (g_Pass T) rfl) pa_nil))) (by intro _; rfl)) (pss_one (ps_ret (pe_makK (K := K) (c := cPass) (ok_Pass_init T) hr (pa_cons (pe_atK (K := K) (c := cPass) (i := 0) (ok_cPass T) (pv 0)) pa_nil)))) pss_nil) (pss_one ps_never)))), ?_⟩
    show (_ : TS) _ ([some _, none] : L2.St) _
    wtm_at "wp"
    rcases hc with ⟨d, pa, rp, n, sl, svs, ha, hsl, hall, q⟩ | ⟨d, nm, nv, ha, q⟩
    · refine k_isiO (c := cFrame) (ins_Frame T) (i_FF T) S (.z ha) ?_
      wtm_at "wp"
      refine k_for_list S (.z hsl) (fun i σ H => ∃ th, σ = [some (.ref a), th] ∧ SH Z L H) ⟨_, rfl, S⟩ (fun i σ H ⟨_, _, S⟩ => S.at (.z hsl)) ?_ ?_
      · rintro i x σ H hx ⟨th, rfl, S⟩
        wtm_at "wp"
        rcases hall x (List.mem_of_getElem? hx) with rfl | ⟨i, rfl⟩
        · refine k_isi (.own _) (.base .non) (exB_of T (b := false) (y := "Cut") (by intro h; simp only [exB, Bool.and_eq_true] at h; simp only [h])) ?_
          wtm_at "wp"
          exact ⟨_, rfl, S⟩
        · refine k_isi (.own _) (.base (.int i)) (exB_of T (b := false) (y := "Cut") (by intro h; simp only [exB, Bool.and_eq_true] at h; simp only [h])) ?_
          wtm_at "wp"
          exact ⟨_, rfl, S⟩
      · rintro σ H ⟨th, rfl, S⟩
        wtm_at "wp"
        obtain ⟨s2, hs2⟩ : ∃ s2, s2 = p := ⟨_, rfl⟩
        rw [← hs2] at S ⊢
        clear hs2
        exact ⟨Z, _, x, dx, _, _, _, _, rfl, S, fun H S => ⟨rfl, q _ _ _ _ S⟩⟩
    · refine k_isiO (c := cKeep) (ins_Keep T) (i_KF T) S (.z ha) ?_
      wtm_at "wp"
      refine k_isiO (c := cKeep) (ins_Keep T) (i_KK T) S (.z ha) ?_
      wtm_at "wp"
      exact ⟨Z, _, x, dx, _, _, rfl, S, fun H S => ⟨rfl, q _ _ _ S⟩⟩
end
end AL
/-! E6 -/
namespace AL
open PySem PySem.Spec PyProof.Rows L2
section
variable {P : Program} {w : World} {K : PySem.W.Frag} {mg : Str → Option Value} {base : Heap}
/-! ### Machine.worth -/
def spMWorth : Sp := fun vs H Q _ => ∃ (Z : Hp) (L : Lx) (me f d sl : Addr) (a1 a2 a3 cv v : V) (svs : List V) (c : Cdd), vs = [.ref me, .ref f, cv] ∧ SH Z L H ∧ In Z L f (cFrame.ob K d [a1, a2, a3, .ref sl]) ∧ In Z L sl (.lst svs) ∧ CddAt Z c cv ∧ CV svs c v ∧ ∀ H1, SH Z L H1 → Q v H1
theorem ok_Machine_worth (T : Tx K mg) : Met P w K mg base 1 cMachine "worth" ["self", "frame", "atom"] (spMWorth (K := K)) := by
  refine mk_met (c := cMachine) (F_Machine_worth T) (m_Machine_worth T) sc_Machine_worth (fun _ _ _ _ _ _ us hl => match us, hl with | [_, _, _], _ => rfl) ?len ?body
  case len =>
    rintro vs H Q E ⟨Z, L, me, f, d, sl, a1, a2, a3, cv, v, svs, c, rfl, _⟩
    rfl
  case body =>
    rintro cdv A outer s H vs Q E hr ⟨Z, L, me, f, d, sl, a1, a2, a3, cv, v, svs, c, rfl, S, hf, hsl, ⟨p, rfl, hp⟩, hv, q⟩
    refine ⟨_, (pss_cons (ps_if (pt_cmpR op_eq (pe_ix (ix_anyK (K := K)) (pv 2) pe_int (fun _ _ => rfl)) pe_str (nomark _)) (pss_one (ps_ret (pe_ix (ix_anyK (K := K)) (pe_atK (K := K) (c := cFrame) (i := 3) (ok_cFrame T) (pv 1)) (pe_ix (ix_anyK (K := K)) (pv 2) pe_int (fun _ _ => rfl)) (fun _ _ => rfl)))) pss_nil) (pss_one (ps_ret (pe_ix (ix_anyK (K := K)) (pv 2) pe_int (fun _ _ => rfl))))), ?_⟩
    show (_ : TS) _ ([some _, some _, some _] : L2.St) _
    cases hv with
    | @slot i _ h =>
      replace hp : Z p = some (.tup [.str "slot", .int (i : Nat)]) := hp
      wtm_at "wp"
      refine k_at S hf rfl ?_
      wtm_at "wp"
      refine k_ixA_l S hsl (L2.atI_nat h) ?_
      wtm_at "wp"
      exact q _ S
    | @lit i =>
      replace hp : Z p = some (.tup [.str "lit", .int i]) := hp
      wtm_at "wp"
      exact q _ S
/-! ### Machine.made -/
def spMMade : Sp := fun vs H Q _ => ∃ (R : HRel) (Z : Hp) (L : Lx) (me mx f d sl : Addr) (a1 a2 a3 rv : V) (svs xm : List V) (g : Pg) (rf : Pt → List Rw) (mf : Pt → Nat) (t : Pt) (n m : Nat) (env : AEnv) (b : Bd) (kv : KVs) (rw : Rw) (x : Str) (av : AV), vs = [.ref me, .ref f, rv] ∧
  SH Z L H ∧ In Z L me (cMachine.ob K mx xm) ∧ In Z L f (cFrame.ob K d [a1, a2, a3, .ref sl]) ∧ In Z L sl (.lst svs) ∧ RwAt Z rw rv ∧ ScI g rf mf t n b kv m rw ∧ SlR R Z g mf t n env svs ∧ AMade env b x av ∧
  ∀ r Z1 H1, Same Z Z1 → SH Z1 L H1 → GV R Z1 av r → Q r H1
theorem In.mono {Z Z1 : Hp} {L : Lx} {a : Addr} {o : HO} (hs : Same Z Z1) (h : In Z L a o) : In Z1 L a o := by
  cases h with
  | l h => exact .l h
  | z h => exact .z (hs _ _ h)
theorem In.up1 {Z : Hp} {L : Lx} {e : Addr × HO} {a : Addr} {o : HO} (h : In Z L a o) : In Z (e :: L) a o := by
  cases h with
  | l h => exact .l (List.mem_cons_of_mem _ h)
  | z h => exact .z h
theorem ok_Machine_made (T : Tx K mg) : Met P w K mg base 2 cMachine "made" ["self", "frame", "row"] (spMMade (K := K)) := by
  refine mk_met (c := cMachine) (F_Machine_made T) (m_Machine_made T) sc_Machine_made (fun _ _ _ _ _ _ us hl => match us, hl with | [_, _, _], _ => rfl) ?len ?body
  case len =>
    rintro vs H Q E ⟨R, Z, L, me, mx, f, d, sl, a1, a2, a3, rv, svs, xm, g, rf, mf, t, n, m, env, b, kv, rw, x, av, rfl, _⟩
    rfl
  case body =>
    rintro cdv A outer s H vs Q E hr ⟨R, Z, L, me, mx, f, d, sl, a1, a2, a3, rv, svs, xm, g, rf, mf, t, n, m, env, b, kv, rw, x, av, rfl, S, hme, hf, hsl, hrw, I, hS, hm, q⟩
    refine ⟨_, (pss_cons (ps_if (pt_cmpR op_eq (pe_ix (ix_anyK (K := K)) (pv 2) pe_int (fun _ _ => rfl)) pe_str (nomark _)) (pss_one (ps_ret (pe_metK (K := K) (ok_cMachine T) (ok_Machine_worth T) hr (by decide +kernel) (pv 0) (pa_cons (pv 1) (pa_cons (pe_ix (ix_anyK (K := K)) (pv 2) pe_int (fun _ _ => rfl)) pa_nil))))) pss_nil) (pss_cons (ps_if (pt_cmpR op_eq (pe_ix (ix_anyK (K := K)) (pv 2) pe_int (fun _ _ => rfl)) pe_str (nomark _)) (pss_one (ps_ret (pe_cal (ok_summed_up T) hr (pa_cons (pe_ix (ix_anyK (K := K)) (pv 2) pe_int (fun _ _ => rfl)) (pa_cons (pe_metK (K := K) (ok_cMachine T) (ok_Machine_worth T) hr (by decide +kernel) (pv 0) (pa_cons (pv 1) (pa_cons (pe_ix (ix_anyK (K := K)) (pv 2) pe_int (fun _ _ => rfl)) pa_nil))) (pa_cons (pe_metK (K := K) (ok_cMachine T) (ok_Machine_worth T) hr (by decide +kernel) (pv 0) (pa_cons (pv 1) (pa_cons (pe_ix (ix_anyK (K := K)) (pv 2) pe_int (fun _ _ => rfl)) pa_nil))) pa_nil)))))) pss_nil) (pss_cons (ps_if (pt_cmpR op_eq (pe_ix (ix_anyK (K := K)) (pv 2) pe_int (fun _ _ => rfl)) pe_str (nomark _)) (pss_one (ps_ret (pe_op (op_catAK (K := K)) (pe_tup (pa_cons (pe_metK (K := K) (ok_cMachine T) (ok_Machine_worth T) hr (by decide +kernel) (pv 0) (pa_cons (pv 1) (pa_cons (pe_ix (ix_anyK (K := K)) (pv 2) pe_int (fun _ _ => rfl)) pa_nil))) pa_nil)) (pe_metK (K := K) (ok_cMachine T) (ok_Machine_worth T) hr (by decide +kernel) (pv 0) (pa_cons (pv 1) (pa_cons (pe_ix (ix_anyK (K := K)) (pv 2) pe_int (fun _ _ => rfl)) pa_nil)))))) pss_nil) (pss_cons (ps_if (pt_cmpR op_eq (pe_ix (ix_anyK (K := K)) (pv 2) pe_int (fun _ _ => rfl)) pe_str (nomark _)) (pss_one (ps_ret (pe_op (op_catAK (K := K)) (pe_metK (K := K) (ok_cMachine T) (ok_Machine_worth T) hr (by decide +kernel) (pv 0) (pa_cons (pv 1) (pa_cons (pe_ix (ix_anyK (K := K)) (pv 2) pe_int (fun _ _ => rfl)) pa_nil))) (pe_tup (pa_cons (pe_metK (K := K) (ok_cMachine T) (ok_Machine_worth T) hr (by decide +kernel) (pv 0) (pa_cons (pv 1) (pa_cons (pe_ix (ix_anyK (K := K)) (pv 2) pe_int (fun _ _ => rfl)) pa_nil))) pa_nil))))) pss_nil) (pss_one (ps_ret (pe_tup pa_nil))))))), ?_⟩
    show (_ : TS) _ ([some _, some _, some _] : L2.St) _
    have R1 := I.R
    cases hm with
    | @empty _ k nx =>
      generalize bndKv _ _ _ = mo at R1
      cases R1
      obtain ⟨p, ws, rfl, hp, rfl⟩ := hrw
      wtm_at "wp"
      obtain ⟨S, hs, hz⟩ := S.pick (by wtm_at "pick")
      exact q _ _ _ hs S ⟨_, _, rfl, hz, .nil⟩
    | @sum _ sg a b nx i j ha hb2 h1 h2 =>
      generalize bndKv _ _ _ = mo at R1
      cases R1 with
      | sum hx c1 c2 =>
      obtain ⟨p, ws, rfl, hp, w1, w2, rfl, hw1, hw2⟩ := hrw
      obtain ⟨va, ka, ra⟩ := hS.val I c1 ha
      obtain ⟨vb, kb, rb⟩ := hS.val I c2 hb2
      obtain rfl : va = .int i := ra
      obtain rfl : vb = .int j := rb
      wtm_at "wp"
      refine k_met S hme ?_
      wtm_at "wp"
      refine ⟨Z, L, me, f, d, sl, a1, a2, a3, _, _, svs, _, rfl, S, hf, hsl, hw1, ka, fun H S => ?_⟩
      wtm_at "wp"
      refine k_met S hme ?_
      wtm_at "wp"
      refine ⟨Z, L, me, f, d, sl, a1, a2, a3, _, _, svs, _, rfl, S, hf, hsl, hw2, kb, fun H S => ?_⟩
      wtm_at "wp"
      refine ⟨Z, _, sg, i, j, rfl, S, h1, h2, fun H S => ?_⟩
      exact q _ _ _ (Same.refl _) S rfl
    | @put _ a r nx h hs ha hr hl =>
      generalize bndKv _ _ _ = mo at R1
      cases R1 with
      | put hx c1 c2 =>
      obtain ⟨p, ws, rfl, hp, w1, w2, rfl, hw1, hw2⟩ := hrw
      obtain ⟨va, ka, ra⟩ := hS.val I c1 ha
      obtain ⟨vr, kr, pr, ws, rfl, hpr, hws⟩ := hS.val I c2 hr
      have hwl : hs.length = ws.length := hws.length
      wtm_at "wp"
      refine k_met S hme ?_
      wtm_at "wp"
      refine ⟨Z, L, me, f, d, sl, a1, a2, a3, _, _, svs, _, rfl, S, hf, hsl, hw1, ka, fun H S => ?_⟩
      wtm_at "wp"
      refine k_met S hme.up1 ?_
      wtm_at "wp"
      refine ⟨Z, _, me, f, d, sl, a1, a2, a3, _, _, svs, _, rfl, S, hf.up1, hsl.up1, hw2, kr, fun H S => ?_⟩
      wtm_at "wp"
      refine k_catA S (by wtm_at "in") (.z hpr) (le_line (by rw [List.length_cons, List.length_nil]; omega)) (fun e => by cases e) (fun e => ?_) (fun p1 H S => ?_)
      · subst e
        obtain ⟨S, hs1, hz⟩ := S.pick (by wtm_at "pick")
        cases hws
        exact q _ _ _ hs1 S ⟨_, _, rfl, hz, .cons (R.mono hs1 ra) .nil⟩
      · obtain ⟨S, hs1, hz⟩ := S.pick (by wtm_at "pick")
        exact q _ _ _ hs1 (S.sub (by wtm_at "sub")) ⟨_, _, rfl, hz, .cons (R.mono hs1 ra) (Paired.mapP hws fun _ _ z => R.mono hs1 z)⟩
    | @last _ r a nx h hs hr ha hl =>
      generalize bndKv _ _ _ = mo at R1
      cases R1 with
      | last hx c1 c2 =>
      obtain ⟨p, ws, rfl, hp, w1, w2, rfl, hw1, hw2⟩ := hrw
      obtain ⟨va, ka, ra⟩ := hS.val I c2 ha
      obtain ⟨vr, kr, pr, ws, rfl, hpr, hws⟩ := hS.val I c1 hr
      have hwl : hs.length = ws.length := hws.length
      wtm_at "wp"
      refine k_met S hme ?_
      wtm_at "wp"
      refine ⟨Z, L, me, f, d, sl, a1, a2, a3, _, _, svs, _, rfl, S, hf, hsl, hw1, kr, fun H S => ?_⟩
      wtm_at "wp"
      refine k_met S hme ?_
      wtm_at "wp"
      refine ⟨Z, L, me, f, d, sl, a1, a2, a3, _, _, svs, _, rfl, S, hf, hsl, hw2, ka, fun H S => ?_⟩
      wtm_at "wp"
      refine k_catA S (.z hpr) (by wtm_at "in") (le_line (by rw [List.length_cons, List.length_nil]; omega)) (fun e => ?_) (fun e => by cases e) (fun p1 H S => ?_)
      · subst e
        obtain ⟨S, hs1, hz⟩ := S.pick (by wtm_at "pick")
        cases hws
        exact q _ _ _ hs1 S ⟨_, _, rfl, hz, .cons (R.mono hs1 ra) .nil⟩
      · obtain ⟨S, hs1, hz⟩ := S.pick (by wtm_at "pick")
        exact q _ _ _ hs1 (S.sub (by wtm_at "sub")) ⟨_, _, rfl, hz, Paired.app (Paired.mapP hws fun _ _ z => R.mono hs1 z) (.cons (R.mono hs1 ra) .nil)⟩
end
end AL
/-! E7 -/
namespace AL
open PySem PySem.Spec PyProof.Rows L2
section
variable {N : L2.St → Hp → Prop} {σ : L2.St} {H : Hp} {to ti : TE} {t : TSet} {v : V} {Z : Hp} {L L1 : Lx} {a : Addr} {xs : List V} {i : Nat}
theorem w_gsub (h : to σ H fun o H1 => ti σ H1 fun i H2 => t o i v H2 fun H3 => N σ H3) : gSub to ti t v σ H N := h
theorem k_setL {NN : Hp → Prop} (S : SH Z L H) (h : (a, HO.lst xs) ∈ L) (hi : i < xs.length) (hw : Wr L a (.lst (xs.set i v)) L1) (q : ∀ H1, SH Z L1 H1 → NN H1) : rSetL (.ref a) (.int (i : Nat)) v H NN :=
  ⟨a, xs, _, i, rfl, rfl, S.l _ _ h, by unfold ixN; simp [hi], q _ (S.wr hw)⟩
end
theorem bndKv_get : ∀ (ns : List Str) (kv : KVs) (m : Nat) (x : Str) (i : Nat), Lk (bndKv kv ns m) x i → Lk kv x i ∨ ∃ j, i = m + j ∧ ns[j]? = some x
  | [], kv, m, x, i, h => .inl h
  | n :: ns, kv, m, x, i, h => by
    rcases bndKv_get ns (putK kv (.inr n) (.int (m : Nat))) (m + 1) x i h with h | ⟨j, rfl, hj⟩
    · rcases Lk_put.mp h with ⟨rfl, rfl⟩ | ⟨_, h⟩
      · exact .inr ⟨0, rfl, rfl⟩
      · exact .inl h
    · exact .inr ⟨j + 1, by omega, by rw [List.getElem?_cons_succ]; exact hj⟩
theorem eget_app : ∀ (e e2 : AEnv) (x : Str), eget (e ++ e2) x = match eget e x with | some a => some a | none => eget e2 x
  | [], e2, x => rfl
  | (y, a) :: r, e2, x => by
    rw [List.cons_append, eget_cons, eget_cons]
    by_cases h : x = y
    · rw [if_pos h, if_pos h]
    · rw [if_neg h, if_neg h]; exact eget_app r e2 x
theorem eget_none {e : AEnv} {x : Str} (h : ∀ p ∈ e, p.1 ≠ x) : eget e x = none := by
  induction e with
  | nil => rfl
  | cons p r ih =>
    obtain ⟨y, a⟩ := p
    rw [eget_cons, if_neg (fun q => h _ List.mem_cons_self q.symm)]
    exact ih fun p hp => h p (List.mem_cons_of_mem _ hp)
theorem envOf_get {x : Str} {a : AV} : ∀ {ns : List Str} {as : List AV} {j : Nat}, ns.Nodup → ns[j]? = some x → eget (envOf ns as) x = some a → as[j]? = some a
  | [], _, _, _, h, _ => by simp at h
  | n :: ns, [], _, _, _, h => by simp [envOf, eget] at h
  | n :: ns, b :: bs, 0, nd, h1, h2 => by
    obtain rfl : n = x := by simpa using h1
    obtain ⟨n1, _⟩ := List.nodup_cons.mp nd
    rw [envOf, List.zip_cons_cons, List.reverse_cons, eget_app, eget_none (fun p hp e => n1 (by rw [← e]; exact (List.of_mem_zip (List.mem_reverse.mp hp)).1)), eget_cons, if_pos rfl] at h2
    simpa using h2
  | n :: ns, b :: bs, j + 1, nd, h1, h2 => by
    obtain ⟨n1, n2⟩ := List.nodup_cons.mp nd
    have h1 : ns[j]? = some x := by simpa using h1
    have hne : x ≠ n := fun e => n1 (by rw [← e]; exact List.mem_of_getElem? h1)
    rw [envOf, List.zip_cons_cons, List.reverse_cons, eget_app, eget_cons, if_neg hne] at h2
    have h3 : eget (envOf ns bs) x = some a := by
      show eget (ns.zip bs).reverse x = some a
      cases e : eget (ns.zip bs).reverse x with
      | none => rw [e] at h2; cases h2
      | some c => rw [e] at h2; exact h2
    simpa using envOf_get n2 h1 h3
theorem Paired.get2 {α β : Type} {F : α → β → Prop} : ∀ {l : List α} {m : List β}, Paired F l m → ∀ {y : β}, y ∈ m → ∃ (i : Nat) (x : α), l[i]? = some x ∧ m[i]? = some y ∧ F x y
  | _, _, .nil, _, h => by cases h
  | _, _, .cons r t, y, h => by
    rcases List.mem_cons.mp h with rfl | h
    · exact ⟨0, _, rfl, rfl, r⟩
    · obtain ⟨i, x, h1, h2, h3⟩ := Paired.get2 t h
      exact ⟨i + 1, x, by simpa using h1, by simpa using h2, h3⟩
theorem SlR.begin {R : HRel} {Z : Hp} {g : Pg} {rf : Pt → List Rw} {mf : Pt → Nat} {t : Pt} {avs : List AV} {ths : List V} (C : CodeOk g rf mf) (hp : Paired (GV R Z) avs ths) (hal : avs.length = (t.own g).length) :
    SlR R Z g mf t 0 (envOf (t.own g) avs) (ths ++ List.replicate (mf t - ths.length) .non) := by
  have hl : avs.length = ths.length := hp.length
  have hm := (C.c t).le
  refine ⟨by rw [List.length_append, List.length_replicate]; omega, ⟨_, _, _, rfl, fun x i a l e => ?_⟩, fun v hv => ?_⟩
  · rcases bndKv_get _ _ _ _ _ l with l | ⟨j, rfl, hj⟩
    · cases l
    have h1 := envOf_get (C.nd t) hj e
    obtain ⟨v, h2, h3⟩ := Paired.get hp h1
    refine ⟨v, ?_, h3⟩
    rw [Nat.zero_add, List.getElem?_append_left (List.getElem?_eq_some_iff.mp h2).1]
    exact h2
  · rcases List.mem_append.mp hv with hv | hv
    · obtain ⟨i, a, h1, h2, h3⟩ := Paired.get2 hp hv
      have hi : i < (t.own g).length := by have := (List.getElem?_eq_some_iff.mp h1).1; omega
      refine .inr ⟨((t.own g)[i], a), ?_, h3⟩
      rw [envOf, List.mem_reverse]
      exact List.mem_of_getElem? (i := i) (by rw [List.getElem?_zip_eq_some]; exact ⟨List.getElem?_eq_getElem hi, h1⟩)
    · exact .inl (.inl (List.eq_of_mem_replicate hv))
def HowAt (Z : Hp) (g : Pg) (r : Addr) : Prop := Z r = some (.dT [([.inr g.K, .inr g.q], .str "often")])
/-- the row of a piece that binds one name -/
theorem BdX.row {Z : Hp} {b : Bd} {x : Str} {kv : KVs} {m n : Nat} {rw : Rw} {v : V} (hx : BdX b x) (hR : RowR kv (bndKv kv b.bnd m) n b rw) (h : RwAt Z rw v) : b.bnd = [x] ∧ (∃ k, b.kids = [k]) ∧ ∃ p wd ws, v = .ref p ∧ Z p = some (.tup (.str wd :: .int (m : Nat) :: ws)) := by
  have lk : ∀ {i}, Lk (bndKv kv [x] m) x i → i = m := fun l => by
    rcases Lk_put.mp l with ⟨_, e⟩ | ⟨e, _⟩
    · exact e
    · exact absurd rfl e
  cases hx <;> (cases hR with
    | _ hx => first | (obtain ⟨p, ws, e, h1, _⟩ := h; obtain rfl := lk hx; exact ⟨rfl, ⟨_, rfl⟩, p, _, ws, e, h1⟩))
theorem AMade.row {Z : Hp} {b : Bd} {x : Str} {av : AV} {env : AEnv} {kv : KVs} {m n : Nat} {rw : Rw} {v : V} (hx : AMade env b x av) (hR : RowR kv (bndKv kv b.bnd m) n b rw) (h : RwAt Z rw v) : b.bnd = [x] ∧ (∃ k, b.kids = [k]) ∧ ∃ p wd ws, v = .ref p ∧ Z p = some (.tup (.str wd :: .int (m : Nat) :: ws)) ∧ wd ≠ "tell" ∧ wd ≠ "if" ∧ wd ≠ "case" := by
  have lk : ∀ {i}, Lk (bndKv kv [x] m) x i → i = m := fun l => by
    rcases Lk_put.mp l with ⟨_, e⟩ | ⟨e, _⟩
    · exact e
    · exact absurd rfl e
  cases hx <;> (cases hR with
    | _ hx => first | (obtain ⟨p, ws, e, h1, _⟩ := h; obtain rfl := lk hx; exact ⟨rfl, ⟨_, rfl⟩, p, _, ws, e, h1, by decide, by decide, by decide⟩))
section
variable {P : Program} {w : World} {K : PySem.W.Frag} {mg : Str → Option Value} {base : Heap}
/-! ### Machine.step -/
def spMStep : Sp := fun vs H Q _ => ∃ (Z : Hp) (L : Lx) (me mx co ho he : Addr) (st hn fin no cp gr gw : V) (tk : Nat), vs = [.ref me] ∧ SH Z ((me, cMachine.ob K mx [.ref co, .ref ho, .ref he, .int 600, st, .int (tk : Nat), hn, fin, no, cp, gr, gw]) :: L) H ∧ tk < 600 ∧
  ∀ H1, SH Z ((me, cMachine.ob K mx [.ref co, .ref ho, .ref he, .int 600, st, .int ((tk + 1 : Nat) : Int), hn, fin, no, cp, gr, gw]) :: L) H1 → Q (.bl true) H1
theorem ok_Machine_step (T : Tx K mg) : Met P w K mg base 1 cMachine "step" ["self"] (spMStep (K := K)) := by
  refine mk_met (c := cMachine) (F_Machine_step T) (m_Machine_step T) sc_Machine_step (fun _ _ _ _ _ _ us hl => match us, hl with | [_], _ => rfl) ?len ?body
  case len =>
    rintro vs H Q E ⟨Z, L, me, mx, co, ho, he, st, hn, fin, no, cp, gr, gw, tk, rfl, _⟩
    rfl
  case body =>
    rintro cdv A outer s H vs Q E hr ⟨Z, L, me, mx, co, ho, he, st, hn, fin, no, cp, gr, gw, tk, rfl, S, hk, q⟩
    refine ⟨_, (pss_cons (ps_if (pt_cmpR op_eq (pe_atK (K := K) (c := cMachine) (i := 5) (ok_cMachine T) (pv 0)) (pe_atK (K := K) (c := cMachine) (i := 3) (ok_cMachine T) (pv 0)) (nomark _)) (pss_cons (ps_atK (K := K) (c := cMachine) (i := 7) (ok_cMachine T) (pv 0) (pe_tup (pa_cons pe_str pa_nil))) (pss_one (ps_ret pe_bl))) pss_nil) (pss_cons (ps_atK (K := K) (c := cMachine) (i := 5) (ok_cMachine T) (pv 0) (pe_op op_add (pe_atK (K := K) (c := cMachine) (i := 5) (ok_cMachine T) (pv 0)) pe_int)) (pss_one (ps_ret pe_bl)))), ?_⟩
    show (_ : TS) _ ([some _] : L2.St) _
    simp only [← intN tk] at q
    wtm_at "wp"
    refine if_F (decide_eq_false fun z => by have := V.int.inj z; omega) ?_
    wtm_at "wp"
    exact q _ S
/-! ### Machine.begin -/
def spMBegin : Sp := fun vs H Q _ => ∃ (Z : Hp) (L : Lx) (g : Pg) (rf : Pt → List Rw) (mf : Pt → Nat) (me mx co ho he st pa th : Addr) (tk hn fin no cp gr gw : V) (xs ths : List V) (t : Pt) (avs : List AV), vs = [.ref me, .ref pa, .ref th] ∧
  SH Z ((me, cMachine.ob K mx [.ref co, .ref ho, .ref he, .int 600, .ref st, tk, hn, fin, no, cp, gr, gw]) :: (st, .lst xs) :: (th, .lst ths) :: L) H ∧ CodesAt Z g rf mf co ∧ CodeOk g rf mf ∧ mf t ≤ 5000 ∧ Z pa = some (.tup (t.tup g)) ∧ xs.length ≤ 5000 ∧ Paired (GV (MRel K g rf mf) Z) avs ths ∧ avs.length = (t.own g).length ∧
  ∀ f d rp sl svs Z1 H1, Same Z Z1 → SH Z1 ((me, cMachine.ob K mx [.ref co, .ref ho, .ref he, .int 600, .ref st, tk, hn, fin, no, cp, gr, .bl true]) :: (st, .lst (xs ++ [.ref f])) :: (f, cFrame.ob K d [.ref pa, .ref rp, .int 0, .ref sl]) :: (sl, .lst svs) :: L) H1 → FrOk K g rf mf Z1 ⟨t, 0, envOf (t.own g) avs⟩ pa rp svs → Q .non H1
theorem ok_Machine_begin (T : Tx K mg) : Met P w K mg base 3 cMachine "begin" ["self", "part", "things"] (spMBegin (K := K)) := by
  refine mk_met (c := cMachine) (F_Machine_begin T) (m_Machine_begin T) sc_Machine_begin (fun _ _ _ _ _ _ us hl => match us, hl with | [_, _, _], _ => rfl) ?len ?body
  case len =>
    rintro vs H Q E ⟨Z, L, g, rf, mf, me, mx, co, ho, he, st, pa, th, tk, hn, fin, no, cp, gr, gw, xs, ths, t, avs, rfl, _⟩
    rfl
  case body =>
    rintro cdv A outer s H vs Q E hr ⟨Z, L, g, rf, mf, me, mx, co, ho, he, st, pa, th, tk, hn, fin, no, cp, gr, gw, xs, ths, t, avs, rfl, S, ⟨ckv, hco, hcs⟩, C, hmf, hpa, hxl, hp, hal, q⟩
    refine ⟨_, (pss_cons (ps_asg (pe_dget (hu_of hr) (pe_atK (K := K) (c := cMachine) (i := 0) (ok_cMachine T) (pv 0)) (pv 1) (fun _ _ => rfl)) (pg_tupK (K := K) (by rfl) (pgs_cons (pg_name (i := 3) sc_Machine_begin.nd rfl (Or.inl rfl)) (pgs_cons (pg_name (i := 4) sc_Machine_begin.nd rfl (Or.inl rfl)) pgs_nil)))) (pss_cons (ps_atK (K := K) (c := cMachine) (i := 11) (ok_cMachine T) (pv 0) pe_bl) (pss_one (ps_expr (pe_bmK (K := K) (pe_bm PySem.F.plainAttrs_list PySem.F.slot_list_append PySem.F.type_list_append mt_append (pe_atK (K := K) (c := cMachine) (i := 4) (ok_cMachine T) (pv 0)) (pa_cons (pe_makK (K := K) (c := cFrame) (ok_Frame_init T) hr (pa_cons (pv 1) (pa_cons (pv 4) (pa_cons pe_int (pa_cons (pe_op op_cat (pv 2) (pe_op op_rep (pe_lst (pa_cons pe_non pa_nil)) (pe_op op_sub (pv 3) (pe_callB call_lenA (by rfl) (b_len T) (by decide +kernel) (pa_cons (pv 2) pa_nil))))) pa_nil))))) pa_nil))))))), ?_⟩
    show (_ : TS) _ ([some _, some _, some _, none, none] : L2.St) _
    obtain ⟨cv, hcv, cp2, rp, ws, rfl, hc1, hc2, hc3⟩ := hcs t
    have hl : avs.length = ths.length := hp.length
    have hm := (C.c t).le
    wtm_at "wp"
    refine k_dgetP S (.z hco) (.z hpa) hcv ?_
    wtm_at "wp"
    refine k_rep S (by wtm_at "in") (by omega) (by omega) (le_line (by simp only [List.length_cons, List.length_nil]; omega)) fun rl H S => ?_
    wtm_at "wp"
    rw [show (((mf t : Nat) : Int) - ((ths.length : Nat) : Int)).toNat = mf t - ths.length by omega, List.flatten_replicate_singleton] at S
    refine k_catL S (by wtm_at "in") (by wtm_at "in") (le_line (by rw [List.length_replicate]; omega)) rfl fun sl H S => ?_
    wtm_at "wp"
    refine ⟨Z, _, x, dx, _, _, _, _, rfl, S, fun H S => ⟨rfl, ?_⟩⟩
    wtm_at "wp"
    exact q _ _ _ _ _ _ _ (Same.refl _) (S.sel (by wtm_at "sel")) ⟨hpa, ⟨ws, hc2, hc3⟩, SlR.begin C hp hal⟩
/-! ### Machine.bind -/
def spMBind : Sp := fun vs H Q _ => ∃ (Z : Hp) (L : Lx) (g : Pg) (rf : Pt → List Rw) (mf : Pt → Nat) (me mx co ho he st f d pa rp sl : Addr) (tk hn fin no cp gr gw v : V) (xs svs : List V) (t : Pt) (n : Nat) (env : AEnv) (b : Bd) (x : Str) (av : AV), vs = [.ref me, v] ∧
  SH Z ((me, cMachine.ob K mx [.ref co, .ref ho, .ref he, .int 600, .ref st, tk, hn, fin, no, cp, gr, gw]) :: (st, .lst (xs ++ [.ref f])) :: (f, cFrame.ob K d [.ref pa, .ref rp, .int (n : Nat), .ref sl]) :: (sl, .lst svs) :: L) H ∧ CodeOk g rf mf ∧ FrOk K g rf mf Z ⟨t, n, env⟩ pa rp svs ∧ Pt.pc g t n = some b ∧ BdX b x ∧ GV (MRel K g rf mf) Z av v ∧
  ∀ svs2 H1, SH Z ((me, cMachine.ob K mx [.ref co, .ref ho, .ref he, .int 600, .ref st, tk, hn, fin, no, cp, gr, gw]) :: (st, .lst (xs ++ [.ref f])) :: (f, cFrame.ob K d [.ref pa, .ref rp, .int ((n + 1 : Nat) : Int), .ref sl]) :: (sl, .lst svs2) :: L) H1 → FrOk K g rf mf Z ⟨t, n + 1, (x, av) :: env⟩ pa rp svs2 → Q .non H1
theorem ok_Machine_bind (T : Tx K mg) : Met P w K mg base 1 cMachine "bind" ["self", "thing"] (spMBind (K := K)) := by
  refine mk_met (c := cMachine) (F_Machine_bind T) (m_Machine_bind T) sc_Machine_bind (fun _ _ _ _ _ _ us hl => match us, hl with | [_, _], _ => rfl) ?len ?body
  case len =>
    rintro vs H Q E ⟨Z, L, g, rf, mf, me, mx, co, ho, he, st, f, d, pa, rp, sl, tk, hn, fin, no, cp, gr, gw, v, xs, svs, t, n, env, b, x, av, rfl, _⟩
    rfl
  case body =>
    rintro cdv A outer s H vs Q E hr ⟨Z, L, g, rf, mf, me, mx, co, ho, he, st, f, d, pa, rp, sl, tk, hn, fin, no, cp, gr, gw, v, xs, svs, t, n, env, b, x, av, rfl, S, C, ⟨hpa, ⟨ws, hrp, hws⟩, hsl⟩, hpc, hbx, hv, q⟩
    refine ⟨_, (pss_cons (ps_set (i := 2) sc_Machine_bind.nd rfl (Or.inl rfl) (pe_ix (ix_anyK (K := K)) (pe_atK (K := K) (c := cMachine) (i := 4) (ok_cMachine T) (pv 0)) (pe_un un_neg pe_int) (fun _ _ => rfl))) (pss_cons (ps_asg (pv 1) (pg_sub (pe_atK (K := K) (c := cFrame) (i := 3) (ok_cFrame T) (pv 2)) (pe_ix (ix_anyK (K := K)) (pe_ix (ix_anyK (K := K)) (pe_atK (K := K) (c := cFrame) (i := 1) (ok_cFrame T) (pv 2)) (pe_atK (K := K) (c := cFrame) (i := 2) (ok_cFrame T) (pv 2)) (fun _ _ => rfl)) pe_int (fun _ _ => rfl)) set_list)) (pss_one (ps_atK (K := K) (c := cFrame) (i := 2) (ok_cFrame T) (pv 2) (pe_op op_add (pe_atK (K := K) (c := cFrame) (i := 2) (ok_cFrame T) (pv 2)) pe_int))))), ?_⟩
    show (_ : TS) _ ([some _, some _, none] : L2.St) _
    obtain ⟨kv, m, rw, I⟩ := C.at hpc
    obtain ⟨rv, hrv, hrw⟩ := Paired.get hws I.row
    obtain ⟨hb1, ⟨k, hk⟩, p, wd, rs, rfl, hp⟩ := hbx.row I.R hrw
    simp only [← intN n] at q
    wtm_at "wp"
    refine k_setL S (by wtm_at "mem") (hsl.lt1 I hb1) (by wtm_at "wr") fun H S => ?_
    wtm_at "wp"
    exact q _ _ S ⟨hpa, ⟨ws, hrp, hws⟩, hsl.bind1 I hk hb1 hv⟩
end
end AL
/-! E8 -/
namespace AL
open PySem PySem.Spec PyProof.Rows L2
inductive ABehM (env : AEnv) (n : Nat) : Bd → Nat → AEnv → List Ev → Prop where
  | tell {a nx i} (ha : aw env a = some (.int i)) : ABehM env n (.tell a nx) (n + 1) env [.tell i]
  | iff {a b1 b2 i} (ha : aw env a = some (.int i)) : ABehM env n (.iff a b1 b2) (n + 1 + (if i = 0 then b1.pcs.length else 0)) env []
  | case0 {r b1 x y b2} (hr : aw env r = some (.row [])) (hx : eget env x = none) (hy : eget env y = none) : ABehM env n (.case r b1 x y b2) (n + 1) env []
  | case1 {r b1 x y b2 h hs} (hr : aw env r = some (.row (h :: hs))) (ne : x ≠ y) : ABehM env n (.case r b1 x y b2) (n + 1 + b1.pcs.length) ((y, .row hs) :: (x, .hold h) :: env) []
  | mk {b x av} (h : AMade env b x av) : ABehM env n b (n + 1) ((x, av) :: env) []
section
variable {P : Program} {w : World} {K : PySem.W.Frag} {mg : Str → Option Value} {base : Heap}
/-! ### Machine.do_row -/
def spMDoRow : Sp := fun vs H Q _ => ∃ (R : HRel) (Z : Hp) (L : Lx) (g : Pg) (rf : Pt → List Rw) (mf : Pt → Nat) (me mx co ho he no f d sl : Addr) (st tk hn fin cp gr gw a1 a2 rv : V) (nov svs : List V) (t : Pt) (n n2 m : Nat) (env env2 : AEnv) (b : Bd) (kv : KVs) (rw : Rw) (evs : List Ev), vs = [.ref me, .ref f, rv] ∧
  SH Z ((me, cMachine.ob K mx [.ref co, .ref ho, .ref he, .int 600, st, tk, hn, fin, .ref no, cp, gr, gw]) :: (no, .lst nov) :: (f, cFrame.ob K d [a1, a2, .int (n : Nat), .ref sl]) :: (sl, .lst svs) :: L) H ∧ RwAt Z rw rv ∧ ScI g rf mf t n b kv m rw ∧ SlR R Z g mf t n env svs ∧ ABehM env n b n2 env2 evs ∧ nov.length ≤ 5000 ∧
  ∀ ew svs2 Z1 H1, Same Z Z1 → SH Z1 ((me, cMachine.ob K mx [.ref co, .ref ho, .ref he, .int 600, st, tk, hn, fin, .ref no, cp, gr, gw]) :: (no, .lst (nov ++ ew)) :: (f, cFrame.ob K d [a1, a2, .int (n2 : Nat), .ref sl]) :: (sl, .lst svs2) :: L) H1 → Paired (EvAt Z1 g) evs ew → SlR R Z1 g mf t n2 env2 svs2 → Q .non H1
theorem ok_Machine_do_row (T : Tx K mg) : Met P w K mg base 3 cMachine "do_row" ["self", "frame", "row"] (spMDoRow (K := K)) := by
  refine mk_met (c := cMachine) (F_Machine_do_row T) (m_Machine_do_row T) sc_Machine_do_row (fun _ _ _ _ _ _ us hl => match us, hl with | [_, _, _], _ => rfl) ?len ?body
  case len =>
    rintro vs H Q E ⟨R, Z, L, g, rf, mf, me, mx, co, ho, he, no, f, d, sl, st, tk, hn, fin, cp, gr, gw, a1, a2, rv, nov, svs, t, n, n2, m, env, env2, b, kv, rw, evs, rfl, _⟩
    rfl
  case body =>
    rintro cdv A outer s H vs Q E hr ⟨R, Z, L, g, rf, mf, me, mx, co, ho, he, no, f, d, sl, st, tk, hn, fin, cp, gr, gw, a1, a2, rv, nov, svs, t, n, n2, m, env, env2, b, kv, rw, evs, rfl, S, hrw, I, hS, hb, hnl, q⟩
    refine ⟨_, (pss_cons (ps_atK (K := K) (c := cFrame) (i := 2) (ok_cFrame T) (pv 1) (pe_op op_add (pe_atK (K := K) (c := cFrame) (i := 2) (ok_cFrame T) (pv 1)) pe_int)) (pss_one (ps_if (pt_cmpR op_eq (pe_ix (ix_anyK (K := K)) (pv 2) pe_int (fun _ _ => rfl)) pe_str (nomark _)) (pss_one (ps_expr (pe_bmK (K := K) (pe_bm PySem.F.plainAttrs_list PySem.F.slot_list_append PySem.F.type_list_append mt_append (pe_atK (K := K) (c := cMachine) (i := 8) (ok_cMachine T) (pv 0)) (pa_cons (pe_tup (pa_cons pe_str (pa_cons (pe_metK (K := K) (ok_cMachine T) (ok_Machine_worth T) hr (by decide +kernel) (pv 0) (pa_cons (pv 1) (pa_cons (pe_ix (ix_anyK (K := K)) (pv 2) pe_int (fun _ _ => rfl)) pa_nil))) pa_nil))) pa_nil))))) (pss_one (ps_if (pt_cmpR op_eq (pe_ix (ix_anyK (K := K)) (pv 2) pe_int (fun _ _ => rfl)) pe_str (nomark _)) (pss_one (ps_if (pt_cmpR op_eq (pe_metK (K := K) (ok_cMachine T) (ok_Machine_worth T) hr (by decide +kernel) (pv 0) (pa_cons (pv 1) (pa_cons (pe_ix (ix_anyK (K := K)) (pv 2) pe_int (fun _ _ => rfl)) pa_nil))) pe_int (nomark _)) (pss_one (ps_atK (K := K) (c := cFrame) (i := 2) (ok_cFrame T) (pv 1) (pe_ix (ix_anyK (K := K)) (pv 2) pe_int (fun _ _ => rfl)))) pss_nil)) (pss_one (ps_if (pt_cmpR op_eq (pe_ix (ix_anyK (K := K)) (pv 2) pe_int (fun _ _ => rfl)) pe_str (nomark _)) (pss_cons (ps_set (i := 3) sc_Machine_do_row.nd rfl (Or.inl rfl) (pe_metK (K := K) (ok_cMachine T) (ok_Machine_worth T) hr (by decide +kernel) (pv 0) (pa_cons (pv 1) (pa_cons (pe_ix (ix_anyK (K := K)) (pv 2) pe_int (fun _ _ => rfl)) pa_nil)))) (pss_one (ps_if (pt_cmpR op_gt (pe_callB call_lenA (by rfl) (b_len T) (by decide +kernel) (pa_cons (pv 3) pa_nil)) pe_int (nomark _)) (pss_cons (ps_asg (pe_ix (ix_anyK (K := K)) (pv 3) pe_int (fun _ _ => rfl)) (pg_sub (pe_atK (K := K) (c := cFrame) (i := 3) (ok_cFrame T) (pv 1)) (pe_ix (ix_anyK (K := K)) (pv 2) pe_int (fun _ _ => rfl)) set_list)) (pss_cons (ps_asg (pe_slice (sl_tupK (K := K)) (pv 3) (po_some pe_int) po_none) (pg_sub (pe_atK (K := K) (c := cFrame) (i := 3) (ok_cFrame T) (pv 1)) (pe_ix (ix_anyK (K := K)) (pv 2) pe_int (fun _ _ => rfl)) set_list)) (pss_one (ps_atK (K := K) (c := cFrame) (i := 2) (ok_cFrame T) (pv 1) (pe_ix (ix_anyK (K := K)) (pv 2) pe_int (fun _ _ => rfl)))))) pss_nil))) (pss_one (ps_asg (pe_metK (K := K) (ok_cMachine T) (ok_Machine_made T) hr (by decide +kernel) (pv 0) (pa_cons (pv 1) (pa_cons (pv 2) pa_nil))) (pg_sub (pe_atK (K := K) (c := cFrame) (i := 3) (ok_cFrame T) (pv 1)) (pe_ix (ix_anyK (K := K)) (pv 2) pe_int (fun _ _ => rfl)) set_list)))))))))), ?_⟩
    show (_ : TS) _ ([some _, some _, some _, none] : L2.St) _
    have R1 := I.R
    cases hb with
    | @tell a nx i ha =>
      generalize bndKv _ _ _ = mo at R1
      cases R1 with
      | tell c1 =>
      obtain ⟨p, w1, rfl, hp, hw1⟩ := hrw
      obtain ⟨va, ka, ra⟩ := hS.val I c1 ha
      obtain rfl : va = .int i := ra
      simp only [← intN n] at q
      wtm_at "wp"
      refine ⟨Z, _, me, f, d, sl, _, _, _, _, _, svs, _, rfl, S, by wtm_at "in", by wtm_at "in", hw1, ka, fun H S => ?_⟩
      wtm_at "wp"
      obtain ⟨S, hs1, hz1⟩ := S.pick (o := .tup [.str "tell", .int i]) (by wtm_at "pick")
      exact q [_] _ _ _ hs1 (S.sel (by wtm_at "sel")) (.cons ⟨_, rfl, hz1⟩ .nil) ((hS.mono hs1).next0 I rfl rfl)
    | @iff a b1 b2 i ha =>
      generalize bndKv _ _ _ = mo at R1
      cases R1 with
      | iff c1 hl =>
      obtain ⟨p, w1, rfl, hp, hw1⟩ := hrw
      obtain ⟨va, ka, ra⟩ := hS.val I c1 ha
      obtain rfl : va = .int i := ra
      wtm_at "wp"
      refine ⟨Z, _, me, f, d, sl, _, _, _, _, _, svs, _, rfl, S, by wtm_at "in", by wtm_at "in", hw1, ka, fun H S => ?_⟩
      wtm_at "wp"
      by_cases e : i = 0
      · subst e
        refine if_T (by rfl) ?_
        wtm_at "wp"
        exact q [] _ _ _ (Same.refl _) (by rw [List.append_nil, if_pos rfl]; exact S) .nil (by rw [if_pos rfl]; exact hS.next2 I rfl rfl)
      · refine if_F (decide_eq_false fun z => e (V.int.inj z)) ?_
        wtm_at "wp"
        refine q [] _ _ _ (Same.refl _) (by rw [List.append_nil, if_neg e, Nat.add_zero]; simp only [← intN n]; exact S) .nil (by rw [if_neg e, Nat.add_zero]; exact hS.next0 I rfl rfl)
    | @case0 r b1 x y b2 hr2 hx hy =>
      generalize bndKv _ _ _ = mo at R1
      cases R1 with
      | case c1 l1 l2 hl =>
      obtain ⟨p, w1, rfl, hp, hw1⟩ := hrw
      obtain ⟨va, ka, rp, rvs, rfl, hrp, hrv⟩ := hS.val I c1 hr2
      cases hrv
      simp only [← intN n] at q
      wtm_at "wp"
      refine ⟨Z, _, me, f, d, sl, _, _, _, _, _, svs, _, rfl, S, by wtm_at "in", by wtm_at "in", hw1, ka, fun H S => ?_⟩
      wtm_at "wp"
      exact q [] _ _ _ (Same.refl _) (by rw [List.append_nil]; exact S) .nil (hS.nextU I rfl rfl hx hy)
    | @case1 r b1 x y b2 h hs hr2 ne =>
      cases R1 with
      | @case _ cc _ _ _ s1 s2 _ c1 l1 l2 hl =>
      obtain rfl : s2 = m + 1 := by
        rcases (Lk_put (kv := putK kv (.inr x) (.int (m : Nat))) (x := y) (m := m + 1)).mp l2 with ⟨_, e⟩ | ⟨e, _⟩
        · exact e
        · exact absurd rfl e
      obtain rfl : s1 = m := by
        rcases (Lk_put (kv := putK kv (.inr x) (.int (m : Nat))) (x := y) (m := m + 1)).mp l1 with ⟨e, _⟩ | ⟨_, l⟩
        · exact absurd e ne
        rcases Lk_put.mp l with ⟨_, e⟩ | ⟨e, _⟩
        · exact e
        · exact absurd rfl e
      have hlen := I.le
      have hl2 := hS.len
      simp only [Bd.bnd, List.length_cons, List.length_nil] at hlen
      obtain ⟨p, w1, rfl, hp, hw1⟩ := hrw
      obtain ⟨va, ka, rp, rvs0, rfl, hrp, hrv⟩ := hS.val I c1 hr2
      obtain ⟨hv, rvs, rfl, hv1, hv2⟩ : ∃ hv rvs, rvs0 = hv :: rvs ∧ R.R Z h hv ∧ Paired (R.R Z) hs rvs := by
        cases hrv with
        | cons a b => exact ⟨_, _, rfl, a, b⟩
      wtm_at "wp"
      refine ⟨Z, _, me, f, d, sl, _, _, _, _, _, svs, _, rfl, S, by wtm_at "in", by wtm_at "in", hw1, ka, fun H S => ?_⟩
      wtm_at "wp"
      refine if_T (decide_eq_true (by rw [List.length_cons]; omega)) ?_
      wtm_at "wp"
      refine k_setL S (by wtm_at "mem") (by omega) (by wtm_at "wr") fun H S => ?_
      wtm_at "wp"
      refine k_slT1 S (.z hrp) fun rp2 H S => ?_
      wtm_at "wp"
      refine k_setL S (by wtm_at "mem") (by rw [List.length_set]; omega) (by wtm_at "wr") fun H S => ?_
      wtm_at "wp"
      obtain ⟨S, hs1, hz1⟩ := S.pick (p := rp2) (by wtm_at "pick")
      exact q [] _ _ _ hs1 (by rw [List.append_nil]; exact S) .nil ((hS.mono hs1).bind2 I rfl rfl ne (a := .hold h) (c := .row hs) (R.mono hs1 hv1) ⟨rp2, rvs, rfl, hz1, Paired.mapP hv2 fun _ _ z => R.mono hs1 z⟩)
    | mk hm =>
      obtain ⟨hb1, ⟨k, hk⟩, p, wd, rs, rfl, hp, n1, n2, n3⟩ := hm.row R1 hrw
      simp only [← intN n] at q
      wtm_at "wp"
      refine if_F (decide_eq_false fun z => n1 (V.str.inj z)) ?_
      wtm_at "wp"
      refine if_F (decide_eq_false fun z => n2 (V.str.inj z)) ?_
      wtm_at "wp"
      refine if_F (decide_eq_false fun z => n3 (V.str.inj z)) ?_
      wtm_at "wp"
      refine ⟨R, Z, _, me, mx, f, d, sl, _, _, _, _, svs, _, g, rf, mf, t, n, m, env, b, kv, rw, _, _, rfl, S, by wtm_at "in", by wtm_at "in", by wtm_at "in", hrw, I, hS, hm, fun r Z1 H hs1 S hr1 => ?_⟩
      replace hp := hs1 _ _ hp
      wtm_at "wp"
      refine k_setL S (by wtm_at "mem") (hS.lt1 I hb1) (by wtm_at "wr") fun H S => ?_
      wtm_at "wp"
      exact q [] _ _ _ hs1 (by rw [List.append_nil]; exact S) .nil ((hS.mono hs1).bind1 I hk hb1 hr1)
/-! ### Machine.put_keep -/
def spMPutKeep : Sp := fun vs H Q _ => ∃ (Z : Hp) (L : Lx) (me mx co ho he st y d : Addr) (tk hn fin no cp gr gw kv : V) (xs ys : List V), vs = [.ref me, kv] ∧
  SH Z ((me, cMachine.ob K mx [.ref co, .ref ho, .ref he, .int 600, .ref st, tk, hn, fin, no, cp, gr, gw]) :: (st, .lst (xs ++ [.ref y])) :: L) H ∧ xs.length ≤ 5000 ∧
  ((In Z L y (cPass.ob K d ys) ∧ ∀ H1, SH Z ((me, cMachine.ob K mx [.ref co, .ref ho, .ref he, .int 600, .ref st, tk, hn, fin, no, cp, gr, gw]) :: (st, .lst (xs ++ [.ref y] ++ [kv])) :: L) H1 → Q .non H1) ∨
   (In Z L y (cFrame.ob K d ys) ∧ ∀ p dp H1, SH Z ((me, cMachine.ob K mx [.ref co, .ref ho, .ref he, .int 600, .ref st, tk, hn, fin, no, cp, gr, gw]) :: (st, .lst (xs ++ [.ref y] ++ [.ref p] ++ [kv])) :: (p, cPass.ob K dp [.int 0]) :: L) H1 → Q .non H1))
theorem ok_Machine_put_keep (T : Tx K mg) : Met P w K mg base 3 cMachine "put_keep" ["self", "keep"] (spMPutKeep (K := K)) := by
  refine mk_met (c := cMachine) (F_Machine_put_keep T) (m_Machine_put_keep T) sc_Machine_put_keep (fun _ _ _ _ _ _ us hl => match us, hl with | [_, _], _ => rfl) ?len ?body
  case len =>
    rintro vs H Q E ⟨Z, L, me, mx, co, ho, he, st, y, d, tk, hn, fin, no, cp, gr, gw, kv, xs, ys, rfl, _⟩
    rfl
  case body =>
    rintro cdv A outer s H vs Q E hr ⟨Z, L, me, mx, co, ho, he, st, y, d, tk, hn, fin, no, cp, gr, gw, kv, xs, ys, rfl, S, hxl, hc⟩
    refine ⟨_, (pss_cons (ps_if (PW.pt (pw_or (pt_cmpR op_eq (pe_callB call_lenA (by rfl) (b_len T) (by decide +kernel) (pa_cons (pe_atK (K := K) (c := cMachine) (i := 4) (ok_cMachine T) (pv 0)) pa_nil)) pe_int (nomark _)) (pw_or1 (pt_not (pt_tru (K := K) (pe_callB (call_isiK (K := K)) (by rfl) (b_isinstance T) (by decide +kernel) (pa_cons (pe_ix (ix_anyK (K := K)) (pe_atK (K := K) (c := cMachine) (i := 4) (ok_cMachine T) (pv 0)) (pe_un un_neg pe_int) (fun _ _ => rfl)) (pa_cons (pe_glob (v := .ref (He.ga K "Pass")) rfl (g_Pass T) rfl) pa_nil))) (by intro _; rfl)))))) (pss_one (ps_expr (pe_bmK (K := K) (pe_bm PySem.F.plainAttrs_list PySem.F.slot_list_append PySem.F.type_list_append mt_append (pe_atK (K := K) (c := cMachine) (i := 4) (ok_cMachine T) (pv 0)) (pa_cons (pe_makK (K := K) (c := cPass) (ok_Pass_init T) hr (pa_cons pe_int pa_nil)) pa_nil))))) pss_nil) (pss_one (ps_expr (pe_bmK (K := K) (pe_bm PySem.F.plainAttrs_list PySem.F.slot_list_append PySem.F.type_list_append mt_append (pe_atK (K := K) (c := cMachine) (i := 4) (ok_cMachine T) (pv 0)) (pa_cons (pv 1) pa_nil)))))), ?_⟩
    show (_ : TS) _ ([some _, some _] : L2.St) _
    wtm_at "wp"
    rcases hc with ⟨hy, q⟩ | ⟨hy, q⟩
    · refine k_isiO (c := cPass) (ins_Pass T) (i_PP T) S hy.up1.up1 ?_
      wtm_at "wp"
      exact q _ S
    · refine k_isiO (c := cFrame) (ins_Frame T) (i_FP T) S hy.up1.up1 ?_
      wtm_at "wp"
      refine ⟨Z, _, x, dx, _, rfl, S, fun H S => ⟨rfl, ?_⟩⟩
      wtm_at "wp"
      exact q _ _ _ (S.sel (by wtm_at "sel"))
end
end AL
/-! E9 -/
namespace AL
open PySem PySem.Spec PyProof.Rows L2
def Cdd.pd : Cdd → PyData
  | .slot i => .tuple [.str "slot", .int (i : Nat)]
  | .lit i => .tuple [.str "lit", .int i]
theorem CddAt.dp {K : PySem.W.Frag} {Z : Hp} {L : Lx} {H : Hp} {c : Cdd} {v : V} (S : SH Z L H) (h : CddAt Z c v) : Dp K H v c.pd := by
  obtain ⟨p, rfl, hp⟩ := h
  cases c with
  | slot i => exact .tup (SqT.of (S.at (.z hp))) (.cons (.str _) (.cons (.int _) .nil))
  | lit i => exact .tup (SqT.of (S.at (.z hp))) (.cons (.str _) (.cons (.int _) .nil))
section
variable {P : Program} {w : World} {K : PySem.W.Frag} {mg : Str → Option Value} {base : Heap}
/-! ### Machine.leave -/
def spMLeave : Sp := fun vs H Q _ => ∃ (Z : Hp) (L Ml : Lx) (g : Pg) (rf : Pt → List Rw) (mf : Pt → Nat) (me mx co ho he st f d rp sl pr : Addr) (tk hn fin no cp gr gw a1 nv : V) (stv rws svs ws : List V) (low : List AF) (fr : AF) (wd : Str) (n m : Nat), vs = [.ref me, .ref f, .ref pr] ∧
  SH Z ((me, cMachine.ob K mx [.ref co, .ref ho, .ref he, .int 600, .ref st, tk, hn, fin, no, cp, gr, gw]) :: (st, .lst (stv ++ [.ref f])) :: (f, cFrame.ob K d [a1, .ref rp, .int (n : Nat), .ref sl]) :: (sl, .lst svs) :: (Ml ++ L)) H ∧ MLow K g rf mf Z low stv Ml ∧ Z pr = some (.tup (.str wd :: .int (m : Nat) :: ws)) ∧ Z rp = some (.lst rws) ∧ rws[n + 1]? = some nv ∧ stv.length ≤ 5000 ∧
  ((RwAt Z (.give (.slot m)) nv ∧ Tail g fr ∧ ∀ stv2 Ml2 H1, SH Z ((me, cMachine.ob K mx [.ref co, .ref ho, .ref he, .int 600, .ref st, tk, hn, fin, no, cp, gr, gw]) :: (st, .lst stv2) :: (Ml2 ++ L)) H1 → MLow K g rf mf Z (fr :: low) stv2 Ml2 → Q .non H1) ∨
   (∃ i s a b, RwAt Z (.sum i s a b) nv ∧ PyData.strOk s = true ∧ ∀ H1, SH Z ((me, cMachine.ob K mx [.ref co, .ref ho, .ref he, .int 600, .ref st, tk, hn, fin, no, cp, gr, gw]) :: (st, .lst (stv ++ [.ref f])) :: (f, cFrame.ob K d [a1, .ref rp, .int (n : Nat), .ref sl]) :: (sl, .lst svs) :: (Ml ++ L)) H1 → Q .non H1))
theorem ok_Machine_leave (T : Tx K mg) : Met P w K mg base 3 cMachine "leave" ["self", "frame", "row"] (spMLeave (K := K)) := by
  refine mk_met (c := cMachine) (F_Machine_leave T) (m_Machine_leave T) sc_Machine_leave (fun _ _ _ _ _ _ us hl => match us, hl with | [_, _, _], _ => rfl) ?len ?body
  case len =>
    rintro vs H Q E ⟨Z, L, Ml, g, rf, mf, me, mx, co, ho, he, st, f, d, rp, sl, pr, tk, hn, fin, no, cp, gr, gw, a1, nv, stv, rws, svs, ws, low, fr, wd, n, m, rfl, _⟩
    rfl
  case body =>
    rintro cdv A outer s H vs Q E hr ⟨Z, L, Ml, g, rf, mf, me, mx, co, ho, he, st, f, d, rp, sl, pr, tk, hn, fin, no, cp, gr, gw, a1, nv, stv, rws, svs, ws, low, fr, wd, n, m, rfl, S, hlow, hp, hrp, hnv, hsl, hc⟩
    refine ⟨_, (pss_cons (ps_if (pt_cmpR (op_neDK (K := K) hr.units) (pe_ix (ix_anyK (K := K)) (pe_atK (K := K) (c := cFrame) (i := 1) (ok_cFrame T) (pv 1)) (pe_op op_add (pe_atK (K := K) (c := cFrame) (i := 2) (ok_cFrame T) (pv 1)) pe_int) (fun _ _ => rfl)) (pe_tup (pa_cons pe_str (pa_cons (pe_tup (pa_cons pe_str (pa_cons (pe_ix (ix_anyK (K := K)) (pv 2) pe_int (fun _ _ => rfl)) pa_nil))) pa_nil))) (nomark _)) (pss_one ps_retN) pss_nil) (pss_cons (ps_expr (pe_bm0K (K := K) (pe_bm0 PySem.F.plainAttrs_list PySem.F.slot_list_pop PySem.F.type_list_pop mt_pop (pe_atK (K := K) (c := cMachine) (i := 4) (ok_cMachine T) (pv 0))))) (pss_one (ps_if (PW.pt (pw_and (pt_cmpR op_gt (pe_callB call_lenA (by rfl) (b_len T) (by decide +kernel) (pa_cons (pe_atK (K := K) (c := cMachine) (i := 4) (ok_cMachine T) (pv 0)) pa_nil)) pe_int (nomark _)) (pw_and1 (pt_tru (K := K) (pe_callB (call_isiK (K := K)) (by rfl) (b_isinstance T) (by decide +kernel) (pa_cons (pe_ix (ix_anyK (K := K)) (pe_atK (K := K) (c := cMachine) (i := 4) (ok_cMachine T) (pv 0)) (pe_un un_neg pe_int) (fun _ _ => rfl)) (pa_cons (pe_glob (v := .ref (He.ga K "Pass")) rfl (g_Pass T) rfl) pa_nil))) (by intro _; rfl))))) (pss_one (ps_atK (K := K) (c := cPass) (i := 0) (ok_cPass T) (pe_ix (ix_anyK (K := K)) (pe_atK (K := K) (c := cMachine) (i := 4) (ok_cMachine T) (pv 0)) (pe_un un_neg pe_int) (fun _ _ => rfl)) (pe_op op_add (pe_atK (K := K) (c := cPass) (i := 0) (ok_cPass T) (pe_ix (ix_anyK (K := K)) (pe_atK (K := K) (c := cMachine) (i := 4) (ok_cMachine T) (pv 0)) (pe_un un_neg pe_int) (fun _ _ => rfl))) pe_int))) (pss_one (ps_expr (pe_bmK (K := K) (pe_bm PySem.F.plainAttrs_list PySem.F.slot_list_append PySem.F.type_list_append mt_append (pe_atK (K := K) (c := cMachine) (i := 4) (ok_cMachine T) (pv 0)) (pa_cons (pe_makK (K := K) (c := cPass) (ok_Pass_init T) hr (pa_cons pe_int pa_nil)) pa_nil))))))))), ?_⟩
    show (_ : TS) _ ([some _, some _, some _] : L2.St) _
    have hix : atI rws (((n : Nat) : Int) + 1) = some nv := by rw [intN]; exact L2.atI_nat hnv
    wtm_at "wp"
    rcases hc with ⟨⟨pn, w1, rfl, hpn, pc, rfl, hpc⟩, ht, q⟩ | ⟨i, s, a, b, ⟨pn, ws, rfl, hpn, v1, v2, rfl, hv1, hv2⟩, sok, q⟩
    · replace hpc : Z pc = some (.tup [.str "slot", .int (m : Nat)]) := hpc
      refine ⟨.tuple [.str "give", .tuple [.str "slot", .int (m : Nat)]], .tuple [.str "give", .tuple [.str "slot", .int (m : Nat)]], .tup (SqT.of (S.at (.z hpn))) (.cons (.str _) (.cons (.tup (SqT.of (S.at (.z hpc))) (.cons (.str _) (.cons (.int _) .nil))) .nil)),
        .tup (SqT.of (S.at (.l (by wtm_at "mem")))) (.cons (.str _) (.cons (.tup (SqT.of (S.at (.l (by wtm_at "mem")))) (.cons (.str _) (.cons (.int _) .nil))) .nil)), by simp [SeqAt.shaped, PyData.canLay0, PyData.canLayAll0, PyData.depth, PyData.depthAll]; decide +kernel, by simp [SeqAt.shaped, PyData.canLay0, PyData.canLayAll0, PyData.depth, PyData.depthAll]; decide +kernel, ?_⟩
      rw [SeqAt.eqv_refl _ (by simp [PyData.canLay0, PyData.canLayAll0]; decide +kernel)]
      wtm_at "wp"
      cases hlow with
      | nil =>
        wtm_at "wp"
        refine ⟨Z, _, x, dx, _, rfl, S, fun H S => ⟨rfl, ?_⟩⟩
        wtm_at "wp"
        refine q _ _ _ ?_ (.base (fs := [fr]) (p := x) (d := dx) fun f hf => by obtain rfl := List.mem_singleton.mp hf; exact ht)
        simp only [List.nil_append, List.cons_append] at S ⊢
        exact S.sel (by wtm_at "sel")
      | @base fs p dp hfs =>
        simp only [List.cons_append, List.nil_append] at S
        wtm_at "wp"
        refine k_isiO (c := cPass) (ins_Pass T) (i_PP T) S (by wtm_at "in") ?_
        wtm_at "wp"
        rw [intN] at S
        refine q _ _ _ (by simp only [List.nil_append, List.cons_append]; exact S.sel (by wtm_at "sel")) (.base (fs := fr :: low) (p := p) (d := dp) fun f hf => by
          rcases List.mem_cons.mp hf with rfl | hf
          · exact ht
          · exact hfs f hf)
      | @step fs f1 low p dp fr1 df pa1 rp1 sl1 svs1 stv M1 hfs hn1 hf1 hlow =>
        simp only [List.cons_append] at S
        wtm_at "wp"
        refine if_T (decide_eq_true (by simp only [List.length_append, List.length_cons]; omega)) ?_
        wtm_at "wp"
        refine k_isiO (c := cPass) (ins_Pass T) (i_PP T) S (by wtm_at "in") ?_
        wtm_at "wp"
        rw [intN] at S
        refine q _ _ _ (by simp only [List.nil_append, List.cons_append]; exact S.sel (by wtm_at "sel")) (.step (fs := fr :: fs) (p := p) (d := dp) (fun f hf => by
          rcases List.mem_cons.mp hf with rfl | hf
          · exact ht
          · exact hfs f hf) hn1 hf1 hlow)
    · refine ⟨.tuple [.str "sum", .int (i : Nat), .str s, a.pd, b.pd], .tuple [.str "give", .tuple [.str "slot", .int (m : Nat)]], .tup (SqT.of (S.at (.z hpn))) (.cons (.str _) (.cons (.int _) (.cons (.str _) (.cons (hv1.dp S) (.cons (hv2.dp S) .nil))))),
        .tup (SqT.of (S.at (.l (by wtm_at "mem")))) (.cons (.str _) (.cons (.tup (SqT.of (S.at (.l (by wtm_at "mem")))) (.cons (.str _) (.cons (.int _) .nil))) .nil)), ?_, by simp [SeqAt.shaped, PyData.canLay0, PyData.canLayAll0, PyData.depth, PyData.depthAll]; decide +kernel, ?_⟩
      · cases a <;> cases b <;> (simp [Cdd.pd, SeqAt.shaped, PyData.canLay0, PyData.canLayAll0, PyData.depth, PyData.depthAll, sok]; decide +kernel)
      · rw [show PyData.eqv (.tuple [.str "sum", .int (i : Nat), .str s, a.pd, b.pd]) (.tuple [.str "give", .tuple [.str "slot", .int (m : Nat)]]) = false by
          have : (("sum" : Str) == ("give" : Str)) = false := by decide
          simp [PyData.eqv, PyData.eqvAll, this]]
        wtm_at "wp"
        exact q _ (S.sub (by wtm_at "sub"))
end
end AL
/-! F0 -/
namespace AL
open PySem PySem.Spec PyProof.Rows L2
section
variable {K : PySem.W.Frag} {mg : Str → Option Value}
theorem k_isiS (T : Tx K mg) {Z : Hp} {L : Lx} {H : Hp} {v : V} {Q : VK} (S : SH Z L H) (h : ElAt K Z L v) (q : Q (.bl false) H) : rIsi K [v, .ref (He.ga K "Screen")] H Q := by
  obtain ⟨a, d, xs, rfl, h | h | h⟩ := h
  · exact k_isiO (c := cFrame) (ins_Frame T) (i_FS T) S h q
  · exact k_isiO (c := cKeep) (ins_Keep T) (i_KS T) S h q
  · exact k_isiO (c := cPass) (ins_Pass T) (i_PS T) S h q
theorem k_isiLK (T : Tx K mg) {Z : Hp} {L : Lx} {H : Hp} {v : V} {Q : VK} (S : SH Z L H) (h : LwAt K Z L v) (q : Q (.bl false) H) : rIsi K [v, .ref (He.ga K "Keep")] H Q := by
  obtain ⟨a, d, xs, rfl, h | h⟩ := h
  · exact k_isiO (c := cFrame) (ins_Frame T) (i_FK T) S h q
  · exact k_isiO (c := cPass) (ins_Pass T) (i_PK T) S h q
end
section
variable {P : Program} {w : World} {K : PySem.W.Frag} {mg : Str → Option Value} {base : Heap}
/-! ### Machine.seen_from -/
def spMSeen : Sp := fun vs H Q _ => ∃ (Z : Hp) (L : Lx) (me mx st : Addr) (ms xs : List V) (j : Int), vs = [.ref me, .int j] ∧ SH Z L H ∧ In Z L me (cMachine.ob K mx ms) ∧ ms[4]? = some (.ref st) ∧ In Z L st (.lst xs) ∧ (j = -1 ∨ ∃ (k : Nat) (v : V), j = (k : Int) ∧ xs[k]? = some v ∧ ElAt K Z L v) ∧
  ∀ H1, SH Z L H1 → Q (.int j) H1
theorem ok_Machine_seen_from (T : Tx K mg) : Met P w K mg base 1 cMachine "seen_from" ["self", "at"] (spMSeen (K := K)) := by
  refine mk_met (c := cMachine) (F_Machine_seen_from T) (m_Machine_seen_from T) sc_Machine_seen_from (fun _ _ _ _ _ _ us hl => match us, hl with | [_, _], _ => rfl) ?len ?body
  case len =>
    rintro vs H Q E ⟨Z, L, me, mx, st, ms, xs, j, rfl, _⟩
    rfl
  case body =>
    rintro cdv A outer s H vs Q E hr ⟨Z, L, me, mx, st, ms, xs, j, rfl, S, hme, hms, hst, hj, q⟩
    refine ⟨_, (pss_cons (ps_while PassesOwn.never (PW.pt (pw_and (pt_cmpR op_ge (pv 1) pe_int (nomark _)) (pw_and1 (pt_tru (K := K) (pe_callB (call_isiK (K := K)) (by rfl) (b_isinstance T) (by decide +kernel) (pa_cons (pe_ix (ix_anyK (K := K)) (pe_atK (K := K) (c := cMachine) (i := 4) (ok_cMachine T) (pv 0)) (pv 1) (fun _ _ => rfl)) (pa_cons (pe_glob (v := .ref (He.ga K "Screen")) rfl (g_Screen T) rfl) pa_nil))) (by intro _; rfl))))) (pss_one (ps_set (i := 1) sc_Machine_seen_from.nd rfl (Or.inl rfl) (pe_op op_sub (pe_op op_sub (pv 1) (pe_atK (K := K) (c := cScreen) (i := 0) (ok_cScreen T) (pe_ix (ix_anyK (K := K)) (pe_atK (K := K) (c := cMachine) (i := 4) (ok_cMachine T) (pv 0)) (pv 1) (fun _ _ => rfl)))) pe_int)))) (pss_one (ps_ret (pv 1)))), ?_⟩
    show (_ : TS) _ ([some _, some _] : L2.St) _
    wtm_at "wp"
    refine w_while (fun m σ H => σ = [some (.ref me), some (.int j)] ∧ SH Z L H) 0 ⟨rfl, S⟩ ?_
    rintro m σ H ⟨rfl, S⟩
    rcases hj with rfl | ⟨k, v, rfl, hv, hel⟩
    · wtm_at "wp"
      exact q _ S
    · wtm_at "wp"
      refine k_at S hme hms ?_
      wtm_at "wp"
      refine k_ixA_l S hst (L2.atI_nat hv) ?_
      wtm_at "wp"
      refine k_isiS T S hel ?_
      wtm_at "wp"
      exact q _ S
/-! ### Machine.keeps_beneath -/
def spMBeneath : Sp := fun vs H Q _ => ∃ (Z : Hp) (L : Lx) (me mx st : Addr) (ms xs : List V) (k : Nat), vs = [.ref me, .int (k : Nat)] ∧ SH Z L H ∧ In Z L me (cMachine.ob K mx ms) ∧ ms[4]? = some (.ref st) ∧ In Z L st (.lst xs) ∧ (∀ i, i < k → ∃ v, xs[i]? = some v ∧ LwAt K Z L v) ∧
  ∀ H1, SH Z L H1 → Q (.int 0) H1
theorem ok_Machine_keeps_beneath (T : Tx K mg) : Met P w K mg base 2 cMachine "keeps_beneath" ["self", "at"] (spMBeneath (K := K)) := by
  refine mk_met (c := cMachine) (F_Machine_keeps_beneath T) (m_Machine_keeps_beneath T) sc_Machine_keeps_beneath (fun _ _ _ _ _ _ us hl => match us, hl with | [_, _], _ => rfl) ?len ?body
  case len =>
    rintro vs H Q E ⟨Z, L, me, mx, st, ms, xs, k, rfl, _⟩
    rfl
  case body =>
    rintro cdv A outer s H vs Q E hr ⟨Z, L, me, mx, st, ms, xs, k, rfl, S, hme, hms, hst, hall, q⟩
    refine ⟨_, (pss_cons (ps_set (i := 2) sc_Machine_keeps_beneath.nd rfl (Or.inl rfl) pe_int) (pss_cons (ps_set (i := 1) sc_Machine_keeps_beneath.nd rfl (Or.inl rfl) (pe_metK (K := K) (ok_cMachine T) (ok_Machine_seen_from T) hr (by decide +kernel) (pv 0) (pa_cons (pe_op op_sub (pv 1) pe_int) pa_nil))) (pss_cons (ps_while PassesOwn.never (pt_cmpR op_ge (pv 1) pe_int (nomark _)) (pss_cons (ps_set (i := 2) sc_Machine_keeps_beneath.nd rfl (Or.inl rfl) (pe_op op_add (pv 2) (pe_callTy call_intB (by rfl) (b_int T) (by decide +kernel) (pa_cons (pe_callB (call_isiK (K := K)) (by rfl) (b_isinstance T) (by decide +kernel) (pa_cons (pe_ix (ix_anyK (K := K)) (pe_atK (K := K) (c := cMachine) (i := 4) (ok_cMachine T) (pv 0)) (pv 1) (fun _ _ => rfl)) (pa_cons (pe_glob (v := .ref (He.ga K "Keep")) rfl (g_Keep T) rfl) pa_nil))) pa_nil)))) (pss_one (ps_set (i := 1) sc_Machine_keeps_beneath.nd rfl (Or.inl rfl) (pe_metK (K := K) (ok_cMachine T) (ok_Machine_seen_from T) hr (by decide +kernel) (pv 0) (pa_cons (pe_op op_sub (pv 1) pe_int) pa_nil)))))) (pss_one (ps_ret (pv 2)))))), ?_⟩
    show (_ : TS) _ ([some _, some _, none] : L2.St) _
    have hprev : ∀ n, n ≤ k → (((n : Nat) : Int) - 1 = -1 ∨ ∃ (j : Nat) (v : V), ((n : Nat) : Int) - 1 = (j : Int) ∧ xs[j]? = some v ∧ ElAt K Z L v) := fun n hn => by
      cases n with
      | zero => exact .inl rfl
      | succ n =>
        obtain ⟨v, h1, h2⟩ := hall n (by omega)
        exact .inr ⟨n, v, by omega, h1, h2.el⟩
    wtm_at "wp"
    refine k_met S hme ?_
    wtm_at "wp"
    refine ⟨Z, L, me, mx, st, ms, xs, _, rfl, S, hme, hms, hst, hprev k (Nat.le_refl _), fun H S => ?_⟩
    wtm_at "wp"
    refine w_while (fun m σ H => m ≤ k ∧ σ = [some (.ref me), some (.int (((m : Nat) : Int) - 1)), some (.int 0)] ∧ SH Z L H) k ⟨Nat.le_refl _, rfl, S⟩ ?_
    rintro m σ H ⟨hm, rfl, S⟩
    cases m with
    | zero =>
      wtm_at "wp"
      exact q _ S
    | succ m =>
      obtain ⟨v, h1, h2⟩ := hall m (by omega)
      have e1 : (((m + 1 : Nat) : Int) - 1) = (m : Int) := by omega
      rw [e1]
      wtm_at "wp"
      refine k_turn ?_
      wtm_at "wp"
      refine k_at S hme hms ?_
      wtm_at "wp"
      refine k_ixA_l S hst (L2.atI_nat h1) ?_
      wtm_at "wp"
      refine k_isiLK T S h2 ?_
      wtm_at "wp"
      refine k_met S hme ?_
      wtm_at "wp"
      refine ⟨Z, L, me, mx, st, ms, xs, _, rfl, S, hme, hms, hst, hprev m (by omega), fun H S => ?_⟩
      wtm_at "wp"
      exact ⟨m, Nat.lt_succ_self _, by omega, rfl, S⟩
/-! ### Machine.ask -/
def spMAsk : Sp := fun vs H Q _ => ∃ (Z : Hp) (L Ml : Lx) (g : Pg) (rf : Pt → List Rw) (mf : Pt → Nat) (me mx co ho he st no f d pa rp sl kp dk : Addr) (tk fin cp gr gw nv : V) (stv nov svs : List V) (low : List AF) (hn n : Nat) (env : List (Str × Int)) (hs : List Hd) (i : Int), vs = [.ref me, .str g.q, .int i] ∧
  SH Z ((me, cMachine.ob K mx [.ref co, .ref ho, .ref he, .int 600, .ref st, tk, .int (hn : Nat), fin, .ref no, cp, gr, gw]) :: (no, .lst nov) :: (st, .lst (stv ++ [.ref kp] ++ [.ref f])) :: (f, cFrame.ob K d [.ref pa, .ref rp, .int (n : Nat), .ref sl]) :: (sl, .lst svs) :: (kp, cKeep.ob K dk [.str g.K, nv]) :: (Ml ++ L)) H ∧
  MLow K g rf mf Z low stv Ml ∧ FrOk K g rf mf Z ⟨.d1, n, ienv env⟩ pa rp svs ∧ GV (MRel K g rf mf) Z (.row hs) nv ∧ CodesAt Z g rf mf co ∧ HowAt Z g ho ∧ HearsAt Z g he ∧ CodeOk g rf mf ∧ mf .hr ≤ 5000 ∧ stv.length ≤ 4000 ∧ nov.length ≤ 5000 ∧
  ∀ st2 f2 d2 pa2 rp2 sl2 svs2 ev Z1 H1, Same Z Z1 → SH Z1 ((me, cMachine.ob K mx [.ref co, .ref ho, .ref he, .int 600, .ref st2, tk, .int ((hn + 1 : Nat) : Int), fin, .ref no, cp, gr, .bl true]) :: (no, .lst (nov ++ [ev])) :: (st2, .lst (stv ++ [.ref f2])) :: (f2, cFrame.ob K d2 [.ref pa2, .ref rp2, .int 0, .ref sl2]) :: (sl2, .lst svs2) :: (Ml ++ L)) H1 →
    EvAt Z1 g .ask ev → FrOk K g rf mf Z1 ⟨.hr, 0, [(g.hn, .row hs), (g.hh, .hold ⟨hn, n, env⟩), (g.hx, .int i)]⟩ pa2 rp2 svs2 → Q .non H1
theorem ok_Machine_ask (T : Tx K mg) : Met P w K mg base 4 cMachine "ask" ["self", "q", "thing"] (spMAsk (K := K)) := by
  refine mk_met (c := cMachine) (F_Machine_ask T) (m_Machine_ask T) sc_Machine_ask (fun _ _ _ _ _ _ us hl => match us, hl with | [_, _, _], _ => rfl) ?len ?body
  case len =>
    rintro vs H Q E ⟨Z, L, Ml, g, rf, mf, me, mx, co, ho, he, st, no, f, d, pa, rp, sl, kp, dk, tk, fin, cp, gr, gw, nv, stv, nov, svs, low, hn, n, env, hs, i, rfl, _⟩
    rfl
  case body =>
    rintro cdv A outer s H vs Q E hr ⟨Z, L, Ml, g, rf, mf, me, mx, co, ho, he, st, no, f, d, pa, rp, sl, kp, dk, tk, fin, cp, gr, gw, nv, stv, nov, svs, low, hn, n, env, hs, i, rfl, S, hlow, hfr, hnv, hco, hho, ⟨hl, hh1, hh2⟩, C, hmf, hsl, hnl, q⟩
    refine ⟨_, (pss_cons (ps_set (i := 3) sc_Machine_ask.nd rfl (Or.inl rfl) (pe_metK (K := K) (ok_cMachine T) (ok_Machine_seen_from T) hr (by decide +kernel) (pv 0) (pa_cons (pe_op op_sub (pe_callB call_lenA (by rfl) (b_len T) (by decide +kernel) (pa_cons (pe_atK (K := K) (c := cMachine) (i := 4) (ok_cMachine T) (pv 0)) pa_nil)) pe_int) pa_nil))) (pss_cons (ps_while PassesOwn.never (PW.pt (pw_and (pt_cmpR op_ge (pv 3) pe_int (nomark _)) (pw_and1 (pt_not (PW.pt (pw_and (pt_tru (K := K) (pe_callB (call_isiK (K := K)) (by rfl) (b_isinstance T) (by decide +kernel) (pa_cons (pe_ix (ix_anyK (K := K)) (pe_atK (K := K) (c := cMachine) (i := 4) (ok_cMachine T) (pv 0)) (pv 3) (fun _ _ => rfl)) (pa_cons (pe_glob (v := .ref (He.ga K "Keep")) rfl (g_Keep T) rfl) pa_nil))) (by intro _; rfl)) (pw_and1 (pt_cmpR (op_in_seqK (K := K)) (pv 1) (pe_dget (hu_of hr) (pe_atK (K := K) (c := cMachine) (i := 2) (ok_cMachine T) (pv 0)) (pe_atK (K := K) (c := cKeep) (i := 0) (ok_cKeep T) (pe_ix (ix_anyK (K := K)) (pe_atK (K := K) (c := cMachine) (i := 4) (ok_cMachine T) (pv 0)) (pv 3) (fun _ _ => rfl))) (fun _ _ => rfl)) (by first | rfl | exact nomark _))))))))) (pss_one (ps_set (i := 3) sc_Machine_ask.nd rfl (Or.inl rfl) (pe_metK (K := K) (ok_cMachine T) (ok_Machine_seen_from T) hr (by decide +kernel) (pv 0) (pa_cons (pe_op op_sub (pv 3) pe_int) pa_nil))))) (pss_cons (ps_if (pt_cmpR op_lt (pv 3) pe_int (nomark _)) (pss_cons (ps_atK (K := K) (c := cMachine) (i := 7) (ok_cMachine T) (pv 0) (pe_tup (pa_cons pe_str (pa_cons (pv 1) (pa_cons (pv 2) pa_nil))))) (pss_one ps_retN)) pss_nil) (pss_cons (ps_set (i := 4) sc_Machine_ask.nd rfl (Or.inl rfl) (pe_ix (ix_anyK (K := K)) (pe_atK (K := K) (c := cMachine) (i := 4) (ok_cMachine T) (pv 0)) (pv 3) (fun _ _ => rfl))) (pss_cons (ps_expr (pe_bmK (K := K) (pe_bm PySem.F.plainAttrs_list PySem.F.slot_list_append PySem.F.type_list_append mt_append (pe_atK (K := K) (c := cMachine) (i := 8) (ok_cMachine T) (pv 0)) (pa_cons (pe_tup (pa_cons pe_str (pa_cons (pv 1) (pa_cons (pe_metK (K := K) (ok_cMachine T) (ok_Machine_keeps_beneath T) hr (by decide +kernel) (pv 0) (pa_cons (pv 3) pa_nil)) pa_nil)))) pa_nil)))) (pss_cons (ps_set (i := 5) sc_Machine_ask.nd rfl (Or.inl rfl) (pe_tup (pa_cons pe_str (pa_cons (pe_atK (K := K) (c := cKeep) (i := 0) (ok_cKeep T) (pv 4)) (pa_cons (pv 1) pa_nil))))) (pss_cons (ps_set (i := 6) sc_Machine_ask.nd rfl (Or.inl rfl) (pe_dget (hu_of hr) (pe_atK (K := K) (c := cMachine) (i := 1) (ok_cMachine T) (pv 0)) (pe_tup (pa_cons (pe_atK (K := K) (c := cKeep) (i := 0) (ok_cKeep T) (pv 4)) (pa_cons (pv 1) pa_nil))) (fun _ _ => rfl))) (pss_cons (ps_if (pt_cmpR op_eq (pv 6) pe_str (nomark _)) (pss_cons ps_never (pss_one (ps_expr (pe_metK (K := K) (ok_cMachine T) (ok_Machine_begin T) hr (by decide +kernel) (pv 0) (pa_cons (pv 5) (pa_cons (pe_lst (pa_cons (pv 2) (pa_cons pe_non (pa_cons (pe_atK (K := K) (c := cKeep) (i := 1) (ok_cKeep T) (pv 4)) pa_nil)))) pa_nil)))))) (pss_cons (ps_set (i := 7) sc_Machine_ask.nd rfl (Or.inl rfl) (pe_makK (K := K) (c := cCut) (ok_Cut_init T) hr (pa_cons (pe_atK (K := K) (c := cMachine) (i := 6) (ok_cMachine T) (pv 0)) (pa_cons (pe_cmpR op_eq (pv 6) pe_str (nomark _)) (pa_cons (pe_slice (sl_listK (K := K)) (pe_atK (K := K) (c := cMachine) (i := 4) (ok_cMachine T) (pv 0)) (po_some (pv 3)) po_none) pa_nil))))) (pss_cons (ps_atK (K := K) (c := cMachine) (i := 4) (ok_cMachine T) (pv 0) (pe_slice (sl_listK (K := K)) (pe_atK (K := K) (c := cMachine) (i := 4) (ok_cMachine T) (pv 0)) po_none (po_some (pv 3)))) (pss_one (ps_expr (pe_metK (K := K) (ok_cMachine T) (ok_Machine_begin T) hr (by decide +kernel) (pv 0) (pa_cons (pv 5) (pa_cons (pe_lst (pa_cons (pv 2) (pa_cons (pv 7) (pa_cons (pe_atK (K := K) (c := cKeep) (i := 1) (ok_cKeep T) (pv 4)) pa_nil)))) pa_nil)))))))) (pss_one (ps_atK (K := K) (c := cMachine) (i := 6) (ok_cMachine T) (pv 0) (pe_op op_add (pe_atK (K := K) (c := cMachine) (i := 6) (ok_cMachine T) (pv 0)) pe_int))))))))))), ?_⟩
    show (_ : TS) _ ([some _, some _, some _, none, none, none, none, none] : L2.St) _
    simp only [← intN hn] at q
    rw [List.append_assoc, List.cons_append, List.nil_append] at S
    have e1 : ((stv ++ [V.ref kp, V.ref f]).length : Int) - 1 = ((stv.length + 1 : Nat) : Int) := by rw [List.length_append, List.length_cons, List.length_cons, List.length_nil]; omega
    have x1 : (stv ++ [V.ref kp, V.ref f])[stv.length + 1]? = some (.ref f) := by simp
    have x0 : (stv ++ [V.ref kp, V.ref f])[stv.length]? = some (.ref kp) := by simp
    have a1 : atI (stv ++ [V.ref kp, V.ref f]) ((stv.length + 1 : Nat) : Int) = some (V.ref f) := L2.atI_nat x1
    have a0 : atI (stv ++ [V.ref kp, V.ref f]) ((stv.length : Nat) : Int) = some (V.ref kp) := L2.atI_nat x0
    have hlw := hlow.lw
    wtm_at "wp"
    rw [e1]
    refine ⟨Z, _, me, mx, st, _, _, _, rfl, S, by wtm_at "in", rfl, by wtm_at "in", .inr ⟨_, _, rfl, x1, f, d, _, rfl, .inl (by wtm_at "in")⟩, fun H S => ?_⟩
    wtm_at "wp"
    refine w_while (fun m σ H => SH Z ((me, cMachine.ob K mx [.ref co, .ref ho, .ref he, .int 600, .ref st, tk, .int (hn : Nat), fin, .ref no, cp, gr, gw]) :: (no, .lst nov) :: (st, .lst (stv ++ [.ref kp, .ref f])) :: (f, cFrame.ob K d [.ref pa, .ref rp, .int (n : Nat), .ref sl]) :: (sl, .lst svs) :: (kp, cKeep.ob K dk [.str g.K, nv]) :: (Ml ++ L)) H ∧
      ((m = 1 ∧ σ = [some (.ref me), some (.str g.q), some (.int i), some (.int ((stv.length + 1 : Nat) : Int)), none, none, none, none]) ∨ (m = 0 ∧ σ = [some (.ref me), some (.str g.q), some (.int i), some (.int (stv.length : Nat)), none, none, none, none]))) 1 ⟨S, .inl ⟨rfl, rfl⟩⟩ ?_
    rintro m σ H ⟨S, ⟨rfl, rfl⟩ | ⟨rfl, rfl⟩⟩
    · wtm_at "wp"
      refine k_isiO (c := cFrame) (ins_Frame T) (i_FK T) S (by wtm_at "in") ?_
      wtm_at "wp"
      refine k_turn ?_
      wtm_at "wp"
      refine ⟨Z, _, me, mx, st, _, _, _, rfl, S, by wtm_at "in", rfl, by wtm_at "in", .inr ⟨stv.length, _, by omega, x0, kp, dk, _, rfl, .inr (.inl (by wtm_at "in"))⟩, fun H S => ?_⟩
      wtm_at "wp"
      exact ⟨0, Nat.zero_lt_one, S, .inr ⟨rfl, by rw [show ((stv.length + 1 : Nat) : Int) - 1 = (stv.length : Nat) by omega]⟩⟩
    · have hv : valV [((.inr g.K : Key), V.ref hl)] (.inr g.K) = some (.ref hl) := valV_pos rfl
      have hq : inV (V.str g.q) [V.str g.q] = true := inV_mem List.mem_cons_self rfl
      wtm_at "wp"
      refine k_isiO (c := cKeep) (ins_Keep T) (i_KK T) S (by wtm_at "in") ?_
      wtm_at "wp"
      refine if_F (b := !(if false = true then !inV (V.str g.q) [V.str g.q] else inV (V.str g.q) [V.str g.q])) (by rw [hq]; rfl) ?_
      wtm_at "wp"
      refine if_F (decide_eq_false (by omega)) ?_
      wtm_at "wp"
      refine ⟨Z, _, me, mx, st, _, _, stv.length, rfl, S, by wtm_at "in", rfl, by wtm_at "in", fun i hi => ⟨stv[i], by rw [List.getElem?_append_left hi, List.getElem?_eq_getElem hi], (hlw _ (List.getElem_mem hi)).up fun e he => ?_⟩, fun H S => ?_⟩
      · exact List.mem_cons_of_mem _ (List.mem_cons_of_mem _ (List.mem_cons_of_mem _ (List.mem_cons_of_mem _ (List.mem_cons_of_mem _ (List.mem_cons_of_mem _ (List.mem_append_left _ he))))))
      have hw : valV [([(.inr g.K : Key), .inr g.q], V.str "often")] ([V.str g.K, .str g.q].map keyOf) = some (.str "often") := valV_pos rfl
      replace hho : Z ho = some (.dT [([.inr g.K, .inr g.q], .str "often")]) := hho
      wtm_at "wp"
      refine k_slL S (by wtm_at "in") (ys := [.ref kp, .ref f]) cut_from fun cl H S => ?_
      wtm_at "wp"
      refine ⟨Z, _, x, dx, _, _, _, rfl, S, fun H S => ⟨rfl, ?_⟩⟩
      wtm_at "wp"
      refine k_slL S (by wtm_at "in") (ys := stv) cut_to fun st2 H S => ?_
      wtm_at "wp"
      obtain ⟨S, hs1, hz1⟩ := S.pick (o := .tup [.str "ask", .str g.q, .int 0]) (by wtm_at "pick")
      obtain ⟨S, hs2, hz2⟩ := S.pick (o := .tup [.str "hear", .str g.K, .str g.q]) (by wtm_at "pick")
      obtain ⟨S, hs3, hz3⟩ := S.pick (p := cl) (by wtm_at "pick")
      obtain ⟨S, hs4, hz4⟩ := S.pick (p := x) (by wtm_at "pick")
      obtain ⟨S, hs5, hz5⟩ := S.pick (p := f) (by wtm_at "pick")
      obtain ⟨S, hs6, hz6⟩ := S.pick (p := sl) (by wtm_at "pick")
      obtain ⟨S, hs7, hz7⟩ := S.pick (p := kp) (by wtm_at "pick")
      have h67 := hs6.trans hs7
      have h57 := hs5.trans h67
      have h47 := hs4.trans h57
      have h37 := hs3.trans h47
      have h27 := hs2.trans h37
      have hsA := hs1.trans h27
      obtain ⟨hpa, ⟨ws, hrp, hws⟩, hsl0⟩ := hfr
      have hhd : MHd K g rf mf _ ⟨hn, n, env⟩ (.ref x) := ⟨x, dx, cl, kp, dk, f, d, pa, rp, sl, nv, svs, ws, rfl, h57 _ _ hz4, h47 _ _ hz3, hz7, h67 _ _ hz5, hsA _ _ hpa, hsA _ _ hrp, hws.mono hsA, hs7 _ _ hz6, hsl0.toI⟩
      refine ⟨_, (no, .lst (nov ++ [_])) :: (Ml ++ L), g, rf, mf, me, mx, co, ho, he, st2, _, p, tk, _, fin, _, cp, gr, gw, stv, [.int i, .ref x, nv], .hr, [.int i, .hold ⟨hn, n, env⟩, .row hs], rfl, S.sel (by wtm_at "sel"), hco.mono hsA, C, hmf, h37 _ _ hz2, by omega, .cons rfl (.cons hhd (.cons (hnv.mono hsA) .nil)), rfl, fun f2 d2 rp2 sl2 svs2 Z1 H hs8 S hf2 => ?_⟩
      wtm_at "wp"
      exact q _ _ _ _ _ _ _ _ _ _ (hsA.trans hs8) (S.sel (by wtm_at "sel")) ⟨_, rfl, hs8 _ _ (h27 _ _ hz1)⟩ hf2
end
end AL
/-! F1 -/
namespace AL
open PySem PySem.Spec PyProof.Rows L2
theorem cutV_1 {x : V} {xs : List V} : cutV (x :: xs) (some 1) none = xs := by
  have e : HT.sIx (x :: xs).length 0 (some 1) = 1 := by
    rw [show (some 1 : Option Int) = some ((1 : Nat) : Int) from rfl, HT.sIx_nat, List.length_cons]
    omega
  unfold cutV
  rw [e, HT.sIx_none]
  simp
section
variable {P : Program} {w : World} {K : PySem.W.Frag} {mg : Str → Option Value} {base : Heap}
/-! ### Machine.go_on -/
def spMGoOn : Sp := fun vs H Q _ => ∃ (Z : Hp) (L : Lx) (g : Pg) (rf : Pt → List Rw) (mf : Pt → Nat) (me mx co ho he st no b d : Addr) (tk hn fin gr gw hv nv : V) (cp : Int) (xs nov ys : List V) (h : Hd) (i : Int) (y q : Str) (c : V) (nx : Bd), vs = [.ref me, hv, .int i, nv] ∧
  SH Z ((me, cMachine.ob K mx [.ref co, .ref ho, .ref he, .int 600, .ref st, tk, hn, fin, .ref no, .int cp, gr, gw]) :: (no, .lst nov) :: (st, .lst (xs ++ [.ref b])) :: L) H ∧ CodeOk g rf mf ∧ xs.length ≤ 4000 ∧ nov.length ≤ 5000 ∧ MHd K g rf mf Z h hv ∧ Pt.pc g .d1 h.at_ = some (.ask y q c nx) ∧
  ((In Z L b (cPass.ob K d ys) ∧ ∀ f d2 pa rp sl svs kp dk ev cp2 Z1 H1, Same Z Z1 → SH Z1 ((me, cMachine.ob K mx [.ref co, .ref ho, .ref he, .int 600, .ref st, tk, hn, fin, .ref no, .int cp2, gr, .bl true]) :: (no, .lst (nov ++ [ev])) :: (st, .lst (xs ++ [.ref b] ++ [.ref kp] ++ [.ref f])) :: (f, cFrame.ob K d2 [.ref pa, .ref rp, .int ((h.at_ + 1 : Nat) : Int), .ref sl]) :: (sl, .lst svs) :: (kp, cKeep.ob K dk [.str g.K, nv]) :: L) H1 →
      EvAt Z1 g (.go h.num) ev → FrOk K g rf mf Z1 ⟨.d1, h.at_ + 1, ienv ((y, i) :: h.env)⟩ pa rp svs → Q .non H1) ∨
   (In Z L b (cFrame.ob K d ys) ∧ ∀ p dp f d2 pa rp sl svs kp dk ev cp2 Z1 H1, Same Z Z1 → SH Z1 ((me, cMachine.ob K mx [.ref co, .ref ho, .ref he, .int 600, .ref st, tk, hn, fin, .ref no, .int cp2, gr, .bl true]) :: (no, .lst (nov ++ [ev])) :: (st, .lst (xs ++ [.ref b] ++ [.ref p] ++ [.ref kp] ++ [.ref f])) :: (f, cFrame.ob K d2 [.ref pa, .ref rp, .int ((h.at_ + 1 : Nat) : Int), .ref sl]) :: (sl, .lst svs) :: (kp, cKeep.ob K dk [.str g.K, nv]) :: (p, cPass.ob K dp [.int 0]) :: L) H1 →
      EvAt Z1 g (.go h.num) ev → FrOk K g rf mf Z1 ⟨.d1, h.at_ + 1, ienv ((y, i) :: h.env)⟩ pa rp svs → Q .non H1))
theorem ok_Machine_go_on (T : Tx K mg) : Met P w K mg base 4 cMachine "go_on" ["self", "hold", "thing", "note"] (spMGoOn (K := K)) := by
  refine mk_met (c := cMachine) (F_Machine_go_on T) (m_Machine_go_on T) sc_Machine_go_on (fun _ _ _ _ _ _ us hl => match us, hl with | [_, _, _, _], _ => rfl) ?len ?body
  case len =>
    rintro vs H Q E ⟨Z, L, g, rf, mf, me, mx, co, ho, he, st, no, b, d, tk, hn, fin, gr, gw, hv, nv, cp, xs, nov, ys, h, i, y, qq, c, nx, rfl, _⟩
    rfl
  case body =>
    rintro cdv A outer s H vs Q E hr ⟨Z, L, g, rf, mf, me, mx, co, ho, he, st, no, b, d, tk, hn, fin, gr, gw, hv, nv, cp, xs, nov, ys, h, i, y, qq, c, nx, rfl, S, C, hxl, hnl, ⟨hp, dh, cl, kp0, dk0, f0, df0, pa, rp, sl0, nv0, svs, ws, rfl, h1, h2, h3, h4, h5, h6, h7, h8, h9⟩, hpc, hc⟩
    refine ⟨_, (pss_cons (ps_expr (pe_bmK (K := K) (pe_bm PySem.F.plainAttrs_list PySem.F.slot_list_append PySem.F.type_list_append mt_append (pe_atK (K := K) (c := cMachine) (i := 8) (ok_cMachine T) (pv 0)) (pa_cons (pe_tup (pa_cons pe_str (pa_cons (pe_atK (K := K) (c := cCut) (i := 0) (ok_cCut T) (pv 1)) pa_nil))) pa_nil)))) (pss_cons (ps_set (i := 4) sc_Machine_go_on.nd rfl (Or.inl rfl) (pe_atK (K := K) (c := cCut) (i := 2) (ok_cCut T) (pv 1))) (pss_cons (ps_if (PW.pt (pw_or (pt_not (pt_tru (K := K) (pe_atK (K := K) (c := cCut) (i := 1) (ok_cCut T) (pv 1)) (by intro _; rfl))) (pw_or1 (pt_tru (K := K) (pe_atK (K := K) (c := cCut) (i := 3) (ok_cCut T) (pv 1)) (by intro _; rfl))))) (pss_cons (ps_setLc (i := 4) (own := [("step", 5)]) (g := gName 5) (tt := tYes) (by rfl) sc_Machine_go_on.nd rfl rfl (sw_true rfl rfl rfl (by decide +kernel)) (pi_listK (K := K) (pv 4)) (blkOk_by (own := [("step", 5)]) (N := ["self", "hold", "thing", "note", "cut", "step"]) (sc := defScope s_Machine_go_on) (by decide +kernel)) (fun _ _ _ _ _ => (pg_name (i := 5) sc_Machine_go_on.nd rfl (Or.inl rfl))) (fun _ _ _ _ _ => pts_nil) (fun _ _ _ _ _ => (pe_cal (ok_copied T) hr (pa_cons (pv 5) pa_nil)))) (pss_one (ps_atK (K := K) (c := cMachine) (i := 9) (ok_cMachine T) (pv 0) (pe_op op_add (pe_atK (K := K) (c := cMachine) (i := 9) (ok_cMachine T) (pv 0)) (pe_callB call_lenA (by rfl) (b_len T) (by decide +kernel) (pa_cons (pe_lc (own := [("step", 5)]) (g := gName 5) (by rfl) sc_Machine_go_on.nd (pi_listK (K := K) (pv 4)) (blkOk_by (own := [("step", 5)]) (N := ["self", "hold", "thing", "note", "cut", "step"]) (sc := defScope s_Machine_go_on) (by decide +kernel)) (fun _ _ _ _ _ => (pg_name (i := 5) sc_Machine_go_on.nd rfl (Or.inl rfl))) (fun _ _ _ _ _ => pts_one (pt_tru (K := K) (pe_cal (ok_is_counted T) hr (pa_cons (pv 5) pa_nil)) (by intro _; rfl))) (fun _ _ _ _ _ => (pv 5))) pa_nil)))))) pss_nil) (pss_cons (ps_atK (K := K) (c := cKeep) (i := 1) (ok_cKeep T) (pe_ix (ix_anyK (K := K)) (pv 4) pe_int (fun _ _ => rfl)) (pv 3)) (pss_cons (ps_expr (pe_metK (K := K) (ok_cMachine T) (ok_Machine_put_keep T) hr (by decide +kernel) (pv 0) (pa_cons (pe_ix (ix_anyK (K := K)) (pv 4) pe_int (fun _ _ => rfl)) pa_nil))) (pss_cons (ps_expr (pe_bmK (K := K) (pe_bm PySem.F.plainAttrs_list PySem.F.slot_list_extend PySem.F.type_list_extend mt_extend (pe_atK (K := K) (c := cMachine) (i := 4) (ok_cMachine T) (pv 0)) (pa_cons (pe_slice (sl_listK (K := K)) (pv 4) (po_some pe_int) po_none) pa_nil)))) (pss_cons (ps_atK (K := K) (c := cMachine) (i := 11) (ok_cMachine T) (pv 0) pe_bl) (pss_one (ps_expr (pe_metK (K := K) (ok_cMachine T) (ok_Machine_bind T) hr (by decide +kernel) (pv 0) (pa_cons (pv 2) pa_nil))))))))))), ?_⟩
    show (_ : TS) _ ([some _, some _, some _, some _, none, none] : L2.St) _
    wtm_at "wp"
    wtm_at "un"
    wtm_at "wp"
    refine ⟨Z, _, kp0, rfl, S, .inr ⟨dk0, _, _, h3, fun kp dk H S => ?_⟩⟩
    wtm_at "wp"
    refine ⟨Z, _, f0, rfl, S, .inl ⟨df0, _, _, _, sl0, svs, h4, h8, h9.all, fun f df sl H S => ?_⟩⟩
    wtm_at "wp"
    wtm_at "un"
    wtm_at "wp"
    refine ⟨Z, _, _, rfl, S, .inl ⟨⟨kp, dk, _, rfl, .inr (by wtm_at "in")⟩, fun H S => ?_⟩⟩
    wtm_at "wp"
    refine ⟨Z, _, _, rfl, S, .inl ⟨⟨f, df, _, rfl, .inl (by wtm_at "in")⟩, fun H S => ?_⟩⟩
    wtm_at "wp"

    obtain ⟨S, hs1, hz1⟩ := S.pick (o := .tup [.str "go", .int (h.num : Nat)]) (by wtm_at "pick")
    rcases hc with ⟨hy, q⟩ | ⟨hy, q⟩
    · refine ⟨_, (no, .lst (nov ++ [_])) :: (f, cFrame.ob K df [.ref pa, .ref rp, .int (h.at_ : Nat), .ref sl]) :: (sl, .lst svs) :: (kp, cKeep.ob K dk [.str g.K, nv]) :: (_, .lst [.ref kp, .ref f]) :: (_, .lst [.ref kp, .ref f]) :: L, me, mx, co, ho, he, st, b, d, _, _, _, _, _, _, _, _, xs, ys, rfl, S.sel (by wtm_at "sel"), by omega, .inl ⟨((((((hy.mono hs1).up1).up1).up1).up1).up1).up1, fun H S => ?_⟩⟩
      wtm_at "wp"
      refine k_slL S (by wtm_at "in") cutV_1 fun e1 H S => ?_
      wtm_at "wp"
      refine k_ext S (by wtm_at "mem") (by wtm_at "in") (le_line (by simp only [List.length_append, List.length_cons, List.length_nil]; omega)) (by wtm_at "wr") fun H S => ?_
      wtm_at "wp"
      refine ⟨_, (no, .lst (nov ++ [_])) :: (kp, cKeep.ob K dk [.str g.K, nv]) :: L, g, rf, mf, me, mx, co, ho, he, st, f, df, pa, rp, sl, _, _, _, _, _, _, _, _, xs ++ [.ref b] ++ [.ref kp], svs, .d1, h.at_, ienv h.env, _, y, .int i, rfl, S.sel (by wtm_at "sel"), C, ⟨hs1 _ _ h5, ⟨ws, hs1 _ _ h6, h7.mono hs1⟩, h9.toR⟩, hpc, .ask, rfl, fun svs2 H S hf2 => ?_⟩
      wtm_at "wp"
      exact q _ _ _ _ _ _ _ _ _ _ _ _ hs1 (S.sel (by wtm_at "sel")) ⟨_, rfl, hz1⟩ hf2
    · refine ⟨_, (no, .lst (nov ++ [_])) :: (f, cFrame.ob K df [.ref pa, .ref rp, .int (h.at_ : Nat), .ref sl]) :: (sl, .lst svs) :: (kp, cKeep.ob K dk [.str g.K, nv]) :: (_, .lst [.ref kp, .ref f]) :: (_, .lst [.ref kp, .ref f]) :: L, me, mx, co, ho, he, st, b, d, _, _, _, _, _, _, _, _, xs, ys, rfl, S.sel (by wtm_at "sel"), by omega, .inr ⟨((((((hy.mono hs1).up1).up1).up1).up1).up1).up1, fun p dp H S => ?_⟩⟩
      wtm_at "wp"
      refine k_slL S (by wtm_at "in") cutV_1 fun e1 H S => ?_
      wtm_at "wp"
      refine k_ext S (by wtm_at "mem") (by wtm_at "in") (le_line (by simp only [List.length_append, List.length_cons, List.length_nil]; omega)) (by wtm_at "wr") fun H S => ?_
      wtm_at "wp"
      refine ⟨_, (no, .lst (nov ++ [_])) :: (kp, cKeep.ob K dk [.str g.K, nv]) :: (p, cPass.ob K dp [.int 0]) :: L, g, rf, mf, me, mx, co, ho, he, st, f, df, pa, rp, sl, _, _, _, _, _, _, _, _, xs ++ [.ref b] ++ [.ref p] ++ [.ref kp], svs, .d1, h.at_, ienv h.env, _, y, .int i, rfl, S.sel (by wtm_at "sel"), C, ⟨hs1 _ _ h5, ⟨ws, hs1 _ _ h6, h7.mono hs1⟩, h9.toR⟩, hpc, .ask, rfl, fun svs2 H S hf2 => ?_⟩
      wtm_at "wp"
      exact q _ _ _ _ _ _ _ _ _ _ _ _ _ _ hs1 (S.sel (by wtm_at "sel")) ⟨_, rfl, hz1⟩ hf2
end
end AL
/-! F2 -/
namespace AL
open PySem PySem.Spec PyProof.Rows L2
section
variable {P : Program} {w : World} {K : PySem.W.Frag} {mg : Str → Option Value} {base : Heap}
/-! ### Machine.give -/
def spMGive : Sp := fun vs H Q _ => ∃ (Z : Hp) (L : Lx) (g : Pg) (rf : Pt → List Rw) (mf : Pt → Nat) (me mx co ho he st no : Addr) (hn cp gr gw : V) (nov stv : List V) (tk c : Nat) (i : Int), vs = [.ref me, .int i] ∧ CodesAt Z g rf mf co ∧ CodeOk g rf mf ∧ mf .en ≤ 5000 ∧ nov.length ≤ 5000 ∧ stv.length ≤ 4000 ∧ tk + c < 600 ∧
  ((∃ kp dk nv hs, SH Z ((me, cMachine.ob K mx [.ref co, .ref ho, .ref he, .int 600, .ref st, .int (tk : Nat), hn, .non, .ref no, cp, gr, gw]) :: (no, .lst nov) :: (st, .lst (stv ++ [.ref kp])) :: (kp, cKeep.ob K dk [.str g.K, nv]) :: L) H ∧ GV (MRel K g rf mf) Z (.row hs) nv ∧
      ∀ f2 d2 pa rp sl svs ev Z1 H1, Same Z Z1 → SH Z1 ((me, cMachine.ob K mx [.ref co, .ref ho, .ref he, .int 600, .ref st, .int (tk : Nat), hn, .non, .ref no, cp, gr, .bl true]) :: (no, .lst (nov ++ [ev])) :: (st, .lst (stv ++ [.ref f2])) :: (f2, cFrame.ob K d2 [.ref pa, .ref rp, .int 0, .ref sl]) :: (sl, .lst svs) :: L) H1 → EvAt Z1 g .ended ev →
        FrOk K g rf mf Z1 ⟨.en, 0, [(g.en, .row hs), (g.ex, .int i)]⟩ pa rp svs → Q .non H1) ∨
   (SH Z ((me, cMachine.ob K mx [.ref co, .ref ho, .ref he, .int 600, .ref st, .int (tk : Nat), hn, .non, .ref no, cp, gr, gw]) :: (no, .lst nov) :: (st, .lst []) :: L) H ∧ c = 0 ∧
      ∀ fp Z1 H1, Same Z Z1 → SH Z1 ((me, cMachine.ob K mx [.ref co, .ref ho, .ref he, .int 600, .ref st, .int ((tk + c : Nat) : Int), hn, .ref fp, .ref no, cp, gr, gw]) :: (no, .lst nov) :: L) H1 → Z1 fp = some (.tup [.str "gave", .int i]) → Q .non H1) ∨
   (∃ p d, SH Z ((me, cMachine.ob K mx [.ref co, .ref ho, .ref he, .int 600, .ref st, .int (tk : Nat), hn, .non, .ref no, cp, gr, gw]) :: (no, .lst nov) :: (st, .lst [.ref p]) :: (p, cPass.ob K d [.int (c : Nat)]) :: L) H ∧
      ∀ fp Z1 H1, Same Z Z1 → SH Z1 ((me, cMachine.ob K mx [.ref co, .ref ho, .ref he, .int 600, .ref st, .int ((tk + c : Nat) : Int), hn, .ref fp, .ref no, cp, gr, gw]) :: (no, .lst nov) :: L) H1 → Z1 fp = some (.tup [.str "gave", .int i]) → Q .non H1) ∨
   (∃ p d fr df pa rp sl svs f b x, SH Z ((me, cMachine.ob K mx [.ref co, .ref ho, .ref he, .int 600, .ref st, .int (tk : Nat), hn, .non, .ref no, cp, gr, gw]) :: (no, .lst nov) :: (st, .lst (stv ++ [.ref fr] ++ [.ref p])) :: (p, cPass.ob K d [.int (c : Nat)]) :: (fr, cFrame.ob K df [.ref pa, .ref rp, .int ((AF.n f : Nat) : Int), .ref sl]) :: (sl, .lst svs) :: L) H ∧
      FrOk K g rf mf Z f pa rp svs ∧ Pt.pc g f.t f.n = some b ∧ BdX b x ∧
      ∀ svs2 H1, SH Z ((me, cMachine.ob K mx [.ref co, .ref ho, .ref he, .int 600, .ref st, .int ((tk + c : Nat) : Int), hn, .non, .ref no, cp, gr, gw]) :: (no, .lst nov) :: (st, .lst (stv ++ [.ref fr])) :: (fr, cFrame.ob K df [.ref pa, .ref rp, .int ((f.n + 1 : Nat) : Int), .ref sl]) :: (sl, .lst svs2) :: L) H1 →
        FrOk K g rf mf Z ⟨f.t, f.n + 1, (x, .int i) :: f.env⟩ pa rp svs2 → Q .non H1))
theorem ok_Machine_give (T : Tx K mg) : Met P w K mg base 4 cMachine "give" ["self", "thing"] (spMGive (K := K)) := by
  refine mk_met (c := cMachine) (F_Machine_give T) (m_Machine_give T) sc_Machine_give (fun _ _ _ _ _ _ us hl => match us, hl with | [_, _], _ => rfl) ?len ?body
  case len =>
    rintro vs H Q E ⟨Z, L, g, rf, mf, me, mx, co, ho, he, st, no, hn, cp, gr, gw, nov, stv, tk, c, i, rfl, _⟩
    rfl
  case body =>
    rintro cdv A outer s H vs Q E hr ⟨Z, L, g, rf, mf, me, mx, co, ho, he, st, no, hn, cp, gr, gw, nov, stv, tk, c, i, rfl, hco, C, hmf, hnl, hsl, htk, hc⟩
    refine ⟨_, (pss_cons (ps_while PassesOwn.never (PW.pt (pw_and (pt_cmpR op_gt (pe_callB call_lenA (by rfl) (b_len T) (by decide +kernel) (pa_cons (pe_atK (K := K) (c := cMachine) (i := 4) (ok_cMachine T) (pv 0)) pa_nil)) pe_int (nomark _)) (pw_and1 (pt_tru (K := K) (pe_callB (call_isiK (K := K)) (by rfl) (b_isinstance T) (by decide +kernel) (pa_cons (pe_ix (ix_anyK (K := K)) (pe_atK (K := K) (c := cMachine) (i := 4) (ok_cMachine T) (pv 0)) (pe_un un_neg pe_int) (fun _ _ => rfl)) (pa_cons (pe_glob (v := .ref (He.ga K "Pass")) rfl (g_Pass T) rfl) pa_nil))) (by intro _; rfl))))) (pss_cons (ps_set (i := 2) sc_Machine_give.nd rfl (Or.inl rfl) (pe_atK (K := K) (c := cPass) (i := 0) (ok_cPass T) (pe_bm0K (K := K) (pe_bm0 PySem.F.plainAttrs_list PySem.F.slot_list_pop PySem.F.type_list_pop mt_pop (pe_atK (K := K) (c := cMachine) (i := 4) (ok_cMachine T) (pv 0)))))) (pss_one (ps_for PassesOwn.never rfl (pi_range1 rfl (b_range T) (pa_cons (pv 2) pa_nil)) (pg_name (i := 3) sc_Machine_give.nd rfl (Or.inl rfl)) (pss_one (ps_if (pt_not (pt_tru (K := K) (pe_met0K (K := K) (ok_cMachine T) (ok_Machine_step T) hr (by decide +kernel) (pv 0)) (by intro _; rfl))) (pss_one ps_retN) pss_nil)))))) (pss_one (ps_if (pt_cmpR op_eq (pe_callB call_lenA (by rfl) (b_len T) (by decide +kernel) (pa_cons (pe_atK (K := K) (c := cMachine) (i := 4) (ok_cMachine T) (pv 0)) pa_nil)) pe_int (nomark _)) (pss_one (ps_atK (K := K) (c := cMachine) (i := 7) (ok_cMachine T) (pv 0) (pe_tup (pa_cons pe_str (pa_cons (pv 1) pa_nil))))) (pss_one (ps_if (pt_tru (K := K) (pe_callB (call_isiK (K := K)) (by rfl) (b_isinstance T) (by decide +kernel) (pa_cons (pe_ix (ix_anyK (K := K)) (pe_atK (K := K) (c := cMachine) (i := 4) (ok_cMachine T) (pv 0)) (pe_un un_neg pe_int) (fun _ _ => rfl)) (pa_cons (pe_glob (v := .ref (He.ga K "Keep")) rfl (g_Keep T) rfl) pa_nil))) (by intro _; rfl)) (pss_cons (ps_set (i := 4) sc_Machine_give.nd rfl (Or.inl rfl) (pe_bm0K (K := K) (pe_bm0 PySem.F.plainAttrs_list PySem.F.slot_list_pop PySem.F.type_list_pop mt_pop (pe_atK (K := K) (c := cMachine) (i := 4) (ok_cMachine T) (pv 0))))) (pss_cons (ps_expr (pe_bmK (K := K) (pe_bm PySem.F.plainAttrs_list PySem.F.slot_list_append PySem.F.type_list_append mt_append (pe_atK (K := K) (c := cMachine) (i := 8) (ok_cMachine T) (pv 0)) (pa_cons (pe_tup (pa_cons pe_str (pa_cons (pe_atK (K := K) (c := cKeep) (i := 0) (ok_cKeep T) (pv 4)) pa_nil))) pa_nil)))) (pss_one (ps_expr (pe_metK (K := K) (ok_cMachine T) (ok_Machine_begin T) hr (by decide +kernel) (pv 0) (pa_cons (pe_tup (pa_cons pe_str (pa_cons (pe_atK (K := K) (c := cKeep) (i := 0) (ok_cKeep T) (pv 4)) pa_nil))) (pa_cons (pe_lst (pa_cons (pv 1) (pa_cons (pe_atK (K := K) (c := cKeep) (i := 1) (ok_cKeep T) (pv 4)) pa_nil))) pa_nil))))))) (pss_one (ps_expr (pe_metK (K := K) (ok_cMachine T) (ok_Machine_bind T) hr (by decide +kernel) (pv 0) (pa_cons (pv 1) pa_nil))))))))), ?_⟩
    show (_ : TS) _ ([some _, some _, none, none, none] : L2.St) _
    rcases hc with ⟨kp, dk, nv, hs, S, hnv, q⟩ | ⟨S, rfl, q⟩ | ⟨p, d, S, q⟩ | ⟨p, d, fr, df, pa, rp, sl, svs, f, b, x, S, hf, hpc, hbx, q⟩
    · wtm_at "wp"
      refine w_while (fun m σ H => σ = [some (.ref me), some (.int i), none, none, none] ∧ SH Z ((me, cMachine.ob K mx [.ref co, .ref ho, .ref he, .int 600, .ref st, .int (tk : Nat), hn, .non, .ref no, cp, gr, gw]) :: (no, .lst nov) :: (st, .lst (stv ++ [.ref kp])) :: (kp, cKeep.ob K dk [.str g.K, nv]) :: L) H) 0 ⟨rfl, S⟩ ?_
      rintro m σ H ⟨rfl, S⟩
      wtm_at "wp"
      refine if_T (decide_eq_true (by simp only [List.length_append, List.length_cons]; omega)) ?_
      wtm_at "wp"
      refine k_isiO (c := cKeep) (ins_Keep T) (i_KP T) S (by wtm_at "in") ?_
      wtm_at "wp"
      refine k_isiO (c := cKeep) (ins_Keep T) (i_KK T) S (by wtm_at "in") ?_
      wtm_at "wp"
      obtain ⟨S, hs1, hz1⟩ := S.pick (o := .tup [.str "ended", .str g.K]) (by wtm_at "pick")
      obtain ⟨S, hs2, hz2⟩ := S.pick (o := .tup [.str "end", .str g.K]) (by wtm_at "pick")
      have hsA := hs1.trans hs2
      refine ⟨_, (no, .lst (nov ++ [_])) :: L, g, rf, mf, me, mx, co, ho, he, st, _, p, _, _, _, _, _, _, _, stv, [.int i, nv], .en, [.int i, .row hs], rfl, S.sel (by wtm_at "sel"), hco.mono hsA, C, hmf, hz2, by omega, .cons rfl (.cons (hnv.mono hsA) .nil), rfl, fun f2 d2 rp sl svs Z1 H hs3 S hf2 => ?_⟩
      exact q _ _ _ _ _ _ _ _ _ (hsA.trans hs3) (S.sel (by wtm_at "sel")) ⟨_, rfl, hs3 _ _ (hs2 _ _ hz1)⟩ hf2
    · simp only [Nat.add_zero] at q
      wtm_at "wp"
      refine w_while (fun m σ H => σ = [some (.ref me), some (.int i), none, none, none] ∧ SH Z ((me, cMachine.ob K mx [.ref co, .ref ho, .ref he, .int 600, .ref st, .int (tk : Nat), hn, .non, .ref no, cp, gr, gw]) :: (no, .lst nov) :: (st, .lst []) :: L) H) 0 ⟨rfl, S⟩ ?_
      rintro m σ H ⟨rfl, S⟩
      wtm_at "wp"
      obtain ⟨S, hs1, hz1⟩ := S.pick (o := .tup [.str "gave", .int i]) (by wtm_at "pick")
      exact q _ _ _ hs1 (S.sel (by wtm_at "sel")) hz1
    · wtm_at "wp"
      refine w_while (fun m σ H => (m = 1 ∧ σ = [some (.ref me), some (.int i), none, none, none] ∧ SH Z ((me, cMachine.ob K mx [.ref co, .ref ho, .ref he, .int 600, .ref st, .int (tk : Nat), hn, .non, .ref no, cp, gr, gw]) :: (no, .lst nov) :: (st, .lst ([.ref p])) :: (p, cPass.ob K d [.int (c : Nat)]) :: L) H) ∨
        (m = 0 ∧ ∃ mv tv, σ = [some (.ref me), some (.int i), mv, tv, none] ∧ SH Z ((me, cMachine.ob K mx [.ref co, .ref ho, .ref he, .int 600, .ref st, .int ((tk + c : Nat) : Int), hn, .non, .ref no, cp, gr, gw]) :: (no, .lst nov) :: (st, .lst ([])) :: L) H)) 1 (.inl ⟨rfl, rfl, S⟩) ?_
      rintro m σ H (⟨rfl, rfl, S⟩ | ⟨rfl, mv, tv, rfl, S⟩)
      · wtm_at "wp"
        refine k_isiO (c := cPass) (ins_Pass T) (i_PP T) S (by wtm_at "in") ?_
        wtm_at "wp"
        refine k_turn ?_
        wtm_at "wp"
        refine k_for_rng (by omega) (by omega) (fun n σ H => ∃ tv, σ = [some (.ref me), some (.int i), some (.int (c : Nat)), tv, none] ∧ SH Z ((me, cMachine.ob K mx [.ref co, .ref ho, .ref he, .int 600, .ref st, .int ((tk + n : Nat) : Int), hn, .non, .ref no, cp, gr, gw]) :: (no, .lst nov) :: (st, .lst ([])) :: (p, cPass.ob K d [.int (c : Nat)]) :: L) H) ⟨_, rfl, S⟩ ?_ ?_
        · rintro n σ H hn ⟨tv, rfl, S⟩
          wtm_at "wp"
          refine ⟨Z, _, me, mx, co, ho, he, _, _, _, _, _, _, _, tk + n, rfl, S, by omega, fun H S => ?_⟩
          wtm_at "wp"
          exact ⟨_, rfl, S⟩
        · rintro σ H ⟨tv, rfl, S⟩
          exact ⟨0, Nat.zero_lt_one, .inr ⟨rfl, _, _, rfl, S.sel (by wtm_at "sel")⟩⟩
      · wtm_at "wp"
        obtain ⟨S, hs1, hz1⟩ := S.pick (o := .tup [.str "gave", .int i]) (by wtm_at "pick")
        exact q _ _ _ hs1 (S.sel (by wtm_at "sel")) hz1
    · wtm_at "wp"
      refine w_while (fun m σ H => (m = 1 ∧ σ = [some (.ref me), some (.int i), none, none, none] ∧ SH Z ((me, cMachine.ob K mx [.ref co, .ref ho, .ref he, .int 600, .ref st, .int (tk : Nat), hn, .non, .ref no, cp, gr, gw]) :: (no, .lst nov) :: (st, .lst (stv ++ [.ref fr] ++ [.ref p])) :: (p, cPass.ob K d [.int (c : Nat)]) :: (fr, cFrame.ob K df [.ref pa, .ref rp, .int ((AF.n f : Nat) : Int), .ref sl]) :: (sl, .lst svs) :: L) H) ∨
        (m = 0 ∧ ∃ mv tv, σ = [some (.ref me), some (.int i), mv, tv, none] ∧ SH Z ((me, cMachine.ob K mx [.ref co, .ref ho, .ref he, .int 600, .ref st, .int ((tk + c : Nat) : Int), hn, .non, .ref no, cp, gr, gw]) :: (no, .lst nov) :: (st, .lst (stv ++ [.ref fr])) :: (fr, cFrame.ob K df [.ref pa, .ref rp, .int ((AF.n f : Nat) : Int), .ref sl]) :: (sl, .lst svs) :: L) H)) 1 (.inl ⟨rfl, rfl, S⟩) ?_
      rintro m σ H (⟨rfl, rfl, S⟩ | ⟨rfl, mv, tv, rfl, S⟩)
      · wtm_at "wp"
        refine if_T (decide_eq_true (by simp only [List.length_append, List.length_cons]; omega)) ?_
        wtm_at "wp"
        refine k_isiO (c := cPass) (ins_Pass T) (i_PP T) S (by wtm_at "in") ?_
        wtm_at "wp"
        refine k_turn ?_
        wtm_at "wp"
        refine k_for_rng (by omega) (by omega) (fun n σ H => ∃ tv, σ = [some (.ref me), some (.int i), some (.int (c : Nat)), tv, none] ∧ SH Z ((me, cMachine.ob K mx [.ref co, .ref ho, .ref he, .int 600, .ref st, .int ((tk + n : Nat) : Int), hn, .non, .ref no, cp, gr, gw]) :: (no, .lst nov) :: (st, .lst (stv ++ [.ref fr])) :: (p, cPass.ob K d [.int (c : Nat)]) :: (fr, cFrame.ob K df [.ref pa, .ref rp, .int ((AF.n f : Nat) : Int), .ref sl]) :: (sl, .lst svs) :: L) H) ⟨_, rfl, S⟩ ?_ ?_
        · rintro n σ H hn ⟨tv, rfl, S⟩
          wtm_at "wp"
          refine ⟨Z, _, me, mx, co, ho, he, _, _, _, _, _, _, _, tk + n, rfl, S, by omega, fun H S => ?_⟩
          wtm_at "wp"
          exact ⟨_, rfl, S⟩
        · rintro σ H ⟨tv, rfl, S⟩
          exact ⟨0, Nat.zero_lt_one, .inr ⟨rfl, _, _, rfl, S.sel (by wtm_at "sel")⟩⟩
      · wtm_at "wp"
        refine if_T (decide_eq_true (by simp only [List.length_append, List.length_cons]; omega)) ?_
        wtm_at "wp"
        refine k_isiO (c := cFrame) (ins_Frame T) (i_FP T) S (by wtm_at "in") ?_
        wtm_at "wp"
        refine k_isiO (c := cFrame) (ins_Frame T) (i_FK T) S (by wtm_at "in") ?_
        wtm_at "wp"
        refine ⟨Z, (no, .lst nov) :: L, g, rf, mf, me, mx, co, ho, he, st, fr, df, pa, rp, sl, _, _, _, _, _, _, _, _, stv, svs, f.t, f.n, f.env, b, x, .int i, rfl, S.sel (by wtm_at "sel"), C, hf, hpc, hbx, rfl, fun svs2 H S hf2 => ?_⟩
        wtm_at "wp"
        exact q _ _ (S.sel (by wtm_at "sel")) hf2
end
end AL
/-! F3 -/
namespace AL
open PySem PySem.Spec PyProof.Rows L2
/-- what the machine asks of a program -/
structure MOk (g : Pg) : Prop where
  w : ∀ t n b x, Pt.pc g t n = some b → BdW b x → b.kids = [.give (.str x)] ∨ ∃ y s a c nx, b.kids = [.sum y s a c nx] ∧ PyData.strOk s = true
  c : ∀ t n r b1 x y b2, Pt.pc g t n = some (.case r b1 x y b2) → x ≠ y
theorem BdW.bx {b : Bd} {x : Str} (h : BdW b x) : BdX b x := by
  cases h with
  | keep => exact .keep
  | go => exact .go
theorem BdX.bnd {b : Bd} {x : Str} (h : BdX b x) : b.bnd = [x] := by cases h <;> rfl
theorem next_give {Z : Hp} {g : Pg} {rf : Pt → List Rw} {mf : Pt → Nat} {t : Pt} {n m : Nat} {b : Bd} {kv : KVs} {rw : Rw} {x : Str} {ws : List V} (C : CodeOk g rf mf) (I : ScI g rf mf t n b kv m rw) (hx : BdX b x) (hk : b.kids = [.give (.str x)]) (hws : RwsAt Z (rf t) ws) :
    ∃ nv, ws[n + 1]? = some nv ∧ RwAt Z (.give (.slot m)) nv := by
  have h1 := scAt_kid I.sc hk
  obtain ⟨kv2, m2, rw2, I2⟩ := C.at (CodeOk.pc (t := t) h1)
  have h3 := I2.sc.symm.trans h1
  simp only [Option.some.injEq, Prod.mk.injEq, true_and] at h3
  obtain ⟨rfl, rfl⟩ := h3
  obtain ⟨nv, h4, h5⟩ := Paired.get hws I2.row
  refine ⟨nv, h4, ?_⟩
  have R2 := I2.R
  generalize bndKv (bndKv kv b.bnd m) _ _ = mo at R2
  cases R2 with
  | give c1 =>
    rw [hx.bnd] at c1
    cases c1 with
    | slot l =>
      rcases Lk_put.mp l with ⟨_, e⟩ | ⟨e, _⟩
      · rw [e] at h5; exact h5
      · exact absurd rfl e
theorem next_sum {Z : Hp} {g : Pg} {rf : Pt → List Rw} {mf : Pt → Nat} {t : Pt} {n m : Nat} {b : Bd} {kv : KVs} {rw : Rw} {y s : Str} {a c : V} {nx : Bd} {ws : List V} (C : CodeOk g rf mf) (I : ScI g rf mf t n b kv m rw) (hk : b.kids = [.sum y s a c nx]) (hws : RwsAt Z (rf t) ws) :
    ∃ nv i ca cb, ws[n + 1]? = some nv ∧ RwAt Z (.sum i s ca cb) nv := by
  have h1 := scAt_kid I.sc hk
  obtain ⟨kv2, m2, rw2, I2⟩ := C.at (CodeOk.pc (t := t) h1)
  obtain ⟨nv, h4, h5⟩ := Paired.get hws I2.row
  have R2 := I2.R
  generalize bndKv kv2 _ _ = mo at R2
  cases R2 with
  | sum _ _ _ => exact ⟨nv, _, _, _, h4, h5⟩
theorem SH.swap {Z : Hp} {H : Hp} (P X Ml L : Lx) (S : SH Z (P ++ (X ++ (Ml ++ L))) H) : SH Z (P ++ (Ml ++ (X ++ L))) H := by
  refine S.perm (List.Perm.append_left P ?_)
  rw [← List.append_assoc, ← List.append_assoc]
  exact List.Perm.append_right L List.perm_append_comm
theorem SH.swapb {Z : Hp} {H : Hp} (P X Ml L : Lx) (S : SH Z (P ++ (Ml ++ (X ++ L))) H) : SH Z (P ++ (X ++ (Ml ++ L))) H := SH.swap P Ml X L S
section
variable {P : Program} {w : World} {K : PySem.W.Frag} {mg : Str → Option Value} {base : Heap}
/-! ### Machine.is_screened -/
def spMScreened : Sp := fun vs H Q _ => ∃ (Z : Hp) (L : Lx) (g : Pg) (me mx f d pa ho : Addr) (t : Pt) (a1 a2 a3 : V) (ms : List V), vs = [.ref me, .ref f] ∧ SH Z L H ∧ In Z L me (cMachine.ob K mx ms) ∧ ms[1]? = some (.ref ho) ∧ HowAt Z g ho ∧ In Z L f (cFrame.ob K d [.ref pa, a1, a2, a3]) ∧ Z pa = some (.tup (t.tup g)) ∧
  ∀ H1, SH Z L H1 → Q (.bl false) H1
theorem ok_Machine_is_screened (T : Tx K mg) : Met P w K mg base 1 cMachine "is_screened" ["self", "frame"] (spMScreened (K := K)) := by
  refine mk_met (c := cMachine) (F_Machine_is_screened T) (m_Machine_is_screened T) sc_Machine_is_screened (fun _ _ _ _ _ _ us hl => match us, hl with | [_, _], _ => rfl) ?len ?body
  case len =>
    rintro vs H Q E ⟨Z, L, g, me, mx, f, d, pa, ho, t, a1, a2, a3, ms, rfl, _⟩
    rfl
  case body =>
    rintro cdv A outer s H vs Q E hr ⟨Z, L, g, me, mx, f, d, pa, ho, t, a1, a2, a3, ms, rfl, S, hme, hms, hho, hf, hpa, q⟩
    refine ⟨_, (pss_one (ps_ret (pe_and (pe_cmpR op_eq (pe_ix (ix_anyK (K := K)) (pe_atK (K := K) (c := cFrame) (i := 0) (ok_cFrame T) (pv 1)) pe_int (fun _ _ => rfl)) pe_str (nomark _)) (pe_one (pe_cmpR op_eq (pe_dget (hu_of hr) (pe_atK (K := K) (c := cMachine) (i := 1) (ok_cMachine T) (pv 0)) (pe_slice (sl_tupK (K := K)) (pe_atK (K := K) (c := cFrame) (i := 0) (ok_cFrame T) (pv 1)) (po_some pe_int) po_none) (fun _ _ => rfl)) pe_str (nomark _)))))), ?_⟩
    show (_ : TS) _ ([some _, some _] : L2.St) _
    have hw : valV [([(.inr g.K : Key), .inr g.q], V.str "often")] ([V.str g.K, .str g.q].map keyOf) = some (.str "often") := valV_pos rfl
    replace hho : Z ho = some (.dT [([.inr g.K, .inr g.q], .str "often")]) := hho
    wtm_at "wp"
    refine k_at S hf rfl ?_
    cases t with
    | hr =>
      replace hpa : Z pa = some (.tup [.str "hear", .str g.K, .str g.q]) := hpa
      wtm_at "wp"
      refine k_at S hme hms ?_
      wtm_at "wp"
      refine k_at S hf rfl ?_
      wtm_at "wp"
      refine k_slT1 S (.z hpa) fun p H S => ?_
      wtm_at "wp"
      exact q _ (S.sub (by wtm_at "sub"))
    | en =>
      replace hpa : Z pa = some (.tup [.str "end", .str g.K]) := hpa
      wtm_at "wp"
      exact q _ S
    | d0 =>
      replace hpa : Z pa = some (.tup [.str "def", .str g.f0]) := hpa
      wtm_at "wp"
      exact q _ S
    | d1 =>
      replace hpa : Z pa = some (.tup [.str "def", .str g.f1]) := hpa
      wtm_at "wp"
      exact q _ S
end
end AL
/-! F4 -/
namespace AL
open PySem PySem.Spec PyProof.Rows L2
theorem if_share2 {tc : TT} {t u : TS} {N B C : L2.St → Hp → Prop} {R : VK} {σ : L2.St} {H : Hp} (F : Hp → Prop) (hF : ∀ H, F H → u ⟨N, R, B, C⟩ σ H) (h : ∀ U : Hp → Prop, (∀ H, F H → U H) → tc σ H fun b H1 => if b = true then t ⟨N, R, B, C⟩ σ H1 else U H1) : tIfS tc t u ⟨N, R, B, C⟩ σ H := h (fun H => u ⟨N, R, B, C⟩ σ H) hF
section
variable {P : Program} {w : World} {K : PySem.W.Frag} {mg : Str → Option Value} {base : Heap}
/-! ### Machine.wait -/
def spMWait : Sp := fun vs H Q _ => ∃ (Z : Hp) (L M : Lx) (g : Pg) (rf : Pt → List Rw) (mf : Pt → Nat) (me mx co ho he st no f d pa rp sl : Addr) (tk gr gw rv : V) (cp : Int) (nov svs : List V) (b : Bd) (kv : KVs) (m : Nat) (rw : Rw) (low : List AF) (note : Option (List Hd)) (t : Pt) (n hn : Nat) (env : AEnv) (ev : List Ev) (s' : AS),
  vs = [.ref me, .ref f, rv] ∧
  SH Z ((me, cMachine.ob K mx [.ref co, .ref ho, .ref he, .int 600, .ref st, tk, .int (hn : Nat), .non, .ref no, .int cp, gr, gw]) :: (no, .lst nov) :: M) H ∧ MRepF K g rf mf Z low ⟨t, n, env⟩ st f d pa rp sl svs L M note ∧ CodesAt Z g rf mf co ∧ HowAt Z g ho ∧ HearsAt Z g he ∧ CodeOk g rf mf ∧ MOk g ∧ (∀ t, mf t ≤ 5000) ∧ low.length ≤ 1000 ∧ nov.length ≤ 4000 ∧
  RwAt Z rw rv ∧ ScI g rf mf t n b kv m rw ∧ b.waits ∧ AStep g ⟨low, note, ⟨t, n, env⟩, hn, ev⟩ s' ∧
  ∀ M2 st2 cp2 evs ew Z1 H1, Same Z Z1 → SH Z1 ((me, cMachine.ob K mx [.ref co, .ref ho, .ref he, .int 600, .ref st2, tk, .int (s'.held : Nat), .non, .ref no, .int cp2, gr, .bl true]) :: (no, .lst (nov ++ ew)) :: M2) H1 → MRep K g rf mf Z1 s'.low s'.top st2 L M2 s'.note → s'.ev = ev ++ evs → Paired (EvAt Z1 g) evs ew → Q .non H1
theorem ok_Machine_wait (T : Tx K mg) : Met P w K mg base 5 cMachine "wait" ["self", "frame", "row"] (spMWait (K := K)) := by
  refine mk_met (c := cMachine) (F_Machine_wait T) (m_Machine_wait T) sc_Machine_wait (fun _ _ _ _ _ _ us hl => match us, hl with | [_, _, _], _ => rfl) ?len ?body
  case len =>
    rintro vs H Q E ⟨Z, L, M, g, rf, mf, me, mx, co, ho, he, st, no, f, d, pa, rp, sl, tk, gr, gw, rv, cp, nov, svs, b, kv, m, rw, low, note, t, n, hn, env, ev, s', rfl, _⟩
    rfl
  case body =>
    rintro cdv A outer s H vs Q E hr ⟨Z, L, M, g, rf, mf, me, mx, co, ho, he, st, no, f, d, pa, rp, sl, tk, gr, gw, rv, cp, nov, svs, b, kv, m, rw, low, note, t, n, hn, env, ev, s', rfl, S, hrep, hco, hho, hhe, C, MO, hmf, hll, hnl, hrw, I, hwt, hst, q⟩
    refine ⟨_, (pss_one (ps_if (pt_cmpR op_eq (pe_ix (ix_anyK (K := K)) (pv 2) pe_int (fun _ _ => rfl)) pe_str (nomark _)) (pss_one (ps_expr (pe_metK (K := K) (ok_cMachine T) (ok_Machine_ask T) hr (by decide +kernel) (pv 0) (pa_cons (pe_ix (ix_anyK (K := K)) (pv 2) pe_int (fun _ _ => rfl)) (pa_cons (pe_metK (K := K) (ok_cMachine T) (ok_Machine_worth T) hr (by decide +kernel) (pv 0) (pa_cons (pv 1) (pa_cons (pe_ix (ix_anyK (K := K)) (pv 2) pe_int (fun _ _ => rfl)) pa_nil))) pa_nil))))) (pss_one (ps_if (PW.pt (pw_and (pt_cmpR op_eq (pe_ix (ix_anyK (K := K)) (pv 2) pe_int (fun _ _ => rfl)) pe_str (nomark _)) (pw_and (pt_cmpR (op_eqDK (K := K) hr.units) (pe_ix (ix_anyK (K := K)) (pv 2) pe_int (fun _ _ => rfl)) (pe_tup (pa_cons pe_str (pa_cons pe_int pa_nil))) (nomark _)) (pw_and1 (pt_tru (K := K) (pe_metK (K := K) (ok_cMachine T) (ok_Machine_is_screened T) hr (by decide +kernel) (pv 0) (pa_cons (pv 1) pa_nil)) (by intro _; rfl)))))) (pss_one ps_never) (pss_one (ps_if (pt_cmpR op_eq (pe_ix (ix_anyK (K := K)) (pv 2) pe_int (fun _ _ => rfl)) pe_str (nomark _)) (pss_cons (ps_asg (pe_lc (own := [("atom", 3)]) (g := gName 3) (tt := tYes) (by rfl) sc_Machine_wait.nd (pi_tupK (K := K) (pe_slice (sl_tupK (K := K)) (pv 2) (po_some pe_int) po_none)) (blkOk_by (own := [("atom", 3)]) (N := ["self", "frame", "row", "atom", "hold", "thing", "note", "things"]) (sc := defScope s_Machine_wait) (by decide +kernel)) (fun _ _ _ _ _ => (pg_name (i := 3) sc_Machine_wait.nd rfl (Or.inl rfl))) (fun _ _ _ _ _ => pts_nil) (fun _ _ _ _ _ => (pe_metK (K := K) (ok_cMachine T) (ok_Machine_worth T) hr (by decide +kernel) (pv 0) (pa_cons (pv 1) (pa_cons (pv 3) pa_nil))))) (pg_unlK (K := K) (by rfl) (pgs_cons (pg_name (i := 4) sc_Machine_wait.nd rfl (Or.inl rfl)) (pgs_cons (pg_name (i := 5) sc_Machine_wait.nd rfl (Or.inl rfl)) (pgs_cons (pg_name (i := 6) sc_Machine_wait.nd rfl (Or.inl rfl)) pgs_nil))))) (pss_cons (ps_expr (pe_metK (K := K) (ok_cMachine T) (ok_Machine_leave T) hr (by decide +kernel) (pv 0) (pa_cons (pv 1) (pa_cons (pv 2) pa_nil)))) (pss_one (ps_expr (pe_metK (K := K) (ok_cMachine T) (ok_Machine_go_on T) hr (by decide +kernel) (pv 0) (pa_cons (pv 4) (pa_cons (pv 5) (pa_cons (pv 6) pa_nil)))))))) (pss_one (ps_if (pt_cmpR op_eq (pe_ix (ix_anyK (K := K)) (pv 2) pe_int (fun _ _ => rfl)) pe_str (nomark _)) (pss_cons (ps_setLc (i := 7) (own := [("atom", 3)]) (g := gName 3) (tt := tYes) (by rfl) sc_Machine_wait.nd rfl rfl (sw_true rfl rfl rfl (by decide +kernel)) (pi_tupK (K := K) (pe_ix (ix_anyK (K := K)) (pv 2) pe_int (fun _ _ => rfl))) (blkOk_by (own := [("atom", 3)]) (N := ["self", "frame", "row", "atom", "hold", "thing", "note", "things"]) (sc := defScope s_Machine_wait) (by decide +kernel)) (fun _ _ _ _ _ => (pg_name (i := 3) sc_Machine_wait.nd rfl (Or.inl rfl))) (fun _ _ _ _ _ => pts_nil) (fun _ _ _ _ _ => (pe_metK (K := K) (ok_cMachine T) (ok_Machine_worth T) hr (by decide +kernel) (pv 0) (pa_cons (pv 1) (pa_cons (pv 3) pa_nil))))) (pss_cons (ps_expr (pe_metK (K := K) (ok_cMachine T) (ok_Machine_leave T) hr (by decide +kernel) (pv 0) (pa_cons (pv 1) (pa_cons (pv 2) pa_nil)))) (pss_one (ps_expr (pe_metK (K := K) (ok_cMachine T) (ok_Machine_begin T) hr (by decide +kernel) (pv 0) (pa_cons (pe_tup (pa_cons pe_str (pa_cons (pe_ix (ix_anyK (K := K)) (pv 2) pe_int (fun _ _ => rfl)) pa_nil))) (pa_cons (pv 7) pa_nil))))))) (pss_cons (ps_set (i := 6) sc_Machine_wait.nd rfl (Or.inl rfl) (pe_metK (K := K) (ok_cMachine T) (ok_Machine_worth T) hr (by decide +kernel) (pv 0) (pa_cons (pv 1) (pa_cons (pe_ix (ix_anyK (K := K)) (pv 2) pe_int (fun _ _ => rfl)) pa_nil)))) (pss_cons (ps_setLc (i := 7) (own := [("atom", 3)]) (g := gName 3) (tt := tYes) (by rfl) sc_Machine_wait.nd rfl rfl (sw_true rfl rfl rfl (by decide +kernel)) (pi_tupK (K := K) (pe_ix (ix_anyK (K := K)) (pv 2) pe_int (fun _ _ => rfl))) (blkOk_by (own := [("atom", 3)]) (N := ["self", "frame", "row", "atom", "hold", "thing", "note", "things"]) (sc := defScope s_Machine_wait) (by decide +kernel)) (fun _ _ _ _ _ => (pg_name (i := 3) sc_Machine_wait.nd rfl (Or.inl rfl))) (fun _ _ _ _ _ => pts_nil) (fun _ _ _ _ _ => (pe_metK (K := K) (ok_cMachine T) (ok_Machine_worth T) hr (by decide +kernel) (pv 0) (pa_cons (pv 1) (pa_cons (pv 3) pa_nil))))) (pss_cons (ps_expr (pe_metK (K := K) (ok_cMachine T) (ok_Machine_leave T) hr (by decide +kernel) (pv 0) (pa_cons (pv 1) (pa_cons (pv 2) pa_nil)))) (pss_cons (ps_expr (pe_bmK (K := K) (pe_bm PySem.F.plainAttrs_list PySem.F.slot_list_append PySem.F.type_list_append mt_append (pe_atK (K := K) (c := cMachine) (i := 8) (ok_cMachine T) (pv 0)) (pa_cons (pe_tup (pa_cons pe_str (pa_cons (pe_ix (ix_anyK (K := K)) (pv 2) pe_int (fun _ _ => rfl)) pa_nil))) pa_nil)))) (pss_cons (ps_expr (pe_metK (K := K) (ok_cMachine T) (ok_Machine_put_keep T) hr (by decide +kernel) (pv 0) (pa_cons (pe_makK (K := K) (c := cKeep) (ok_Keep_init T) hr (pa_cons (pe_ix (ix_anyK (K := K)) (pv 2) pe_int (fun _ _ => rfl)) (pa_cons (pv 6) pa_nil))) pa_nil))) (pss_one (ps_expr (pe_metK (K := K) (ok_cMachine T) (ok_Machine_begin T) hr (by decide +kernel) (pv 0) (pa_cons (pe_tup (pa_cons pe_str (pa_cons (pe_ix (ix_anyK (K := K)) (pv 2) pe_int (fun _ _ => rfl)) pa_nil))) (pa_cons (pv 7) pa_nil)))))))))))))))))), ?_⟩
    show (_ : TS) _ ([some _, some _, some _, none, none, none, none, none] : L2.St) _
    have hpc := CodeOk.pc I.sc
    have R1 := I.R
    cases hst with
    | @keep _ _ _ _ _ _ x av gs nx hs hp ha =>
      rw [hpc] at hp
      obtain rfl := Option.some.inj hp
      obtain ⟨stv, Ml, rfl, hlow, hfr⟩ := hrep
      have hfr0 := hfr
      obtain ⟨hpa, ⟨ws, hrp, hws⟩, hsl⟩ := hfr
      have hlw := hlow.len
      cases R1 with
      | @keep _ ri _ _ _ _ _ _ lx c1 =>
      obtain rfl : ri = m := by
        rcases Lk_put.mp lx with ⟨_, e⟩ | ⟨e, _⟩
        · exact e
        · exact absurd rfl e
      obtain ⟨p, rs, rfl, hpp, v1, e0, rfl, hv1, he0⟩ := hrw
      obtain ⟨va, ka, ra⟩ := hsl.val I c1 ha
      wtm_at "wp"
      refine ⟨Z, _, me, f, d, sl, _, _, _, _, _, svs, _, rfl, S, by wtm_at "in", by wtm_at "in", hv1, ka, fun H S => ?_⟩
      wtm_at "wp"
      wtm_at "un"
      wtm_at "wp"
      rename Addr => tl
      rcases MO.w _ _ _ _ hpc .keep with hk | ⟨y, s, a1, c1, nx1, hk, sok⟩
      · obtain ⟨nv, hn1, hn2⟩ := next_give C I .keep hk hws
        refine ⟨Z, (no, .lst nov) :: (tl, .lst []) :: L, Ml, g, rf, mf, me, mx, co, ho, he, st, f, d, rp, sl, p, _, _, _, _, _, _, _, _, nv, stv, ws, svs, _, low, ⟨t, n, env⟩, _, n, _, rfl, SH.swap [_, _, _, _] [_, _] Ml L (by simp only [List.cons_append, List.nil_append]; exact S.sel (by wtm_at "sel")), hlow, hpp, hrp, hn1, by omega, .inl ⟨hn2, ⟨_, _, hpc, .keep, hk⟩, fun stv2 Ml2 H S hlow2 => ?_⟩⟩
        replace S := SH.swapb [_, _] [_, _] Ml2 L S
        simp only [List.cons_append, List.nil_append] at S
        obtain ⟨xs, pp, dp, ys, rfl, hpm⟩ := hlow2.top
        have hlw2 := hlow2.len
        simp only [List.length_append, List.length_cons, List.length_nil] at hlw2
        wtm_at "wp"
        refine ⟨Z, _, x, dx, _, _, rfl, S, fun H S => ⟨rfl, ?_⟩⟩
        wtm_at "wp"
        obtain ⟨S, hs1, hz1⟩ := S.pick (o := .tup [.str "keep", .str g.K]) (by wtm_at "pick")
        replace hpp := hs1 _ _ hpp
        refine ⟨_, (no, .lst (nov ++ [_])) :: (tl, .lst []) :: (x, cKeep.ob K dx [.str g.K, va]) :: (Ml2 ++ L), me, mx, co, ho, he, st, pp, dp, _, _, _, _, _, _, _, _, xs, ys, rfl, S.sel (by wtm_at "sel"), by omega, .inl ⟨.l (List.mem_cons_of_mem _ (List.mem_cons_of_mem _ (List.mem_cons_of_mem _ (List.mem_append_left _ hpm)))), fun H S => ?_⟩⟩
        wtm_at "wp"
        obtain ⟨S, hs2, hz2⟩ := S.pick (o := .tup [.str "def", .str g.f1]) (by wtm_at "pick")
        have hsA := hs1.trans hs2
        refine ⟨_, (no, .lst (nov ++ [_])) :: (x, cKeep.ob K dx [.str g.K, va]) :: (Ml2 ++ L), g, rf, mf, me, mx, co, ho, he, st, _, tl, _, _, _, _, _, _, _, xs ++ [.ref pp] ++ [.ref x], [], .d1, [], rfl, S.sel (by wtm_at "sel"), hco.mono hsA, C, hmf .d1, hz2, by simp only [List.length_append, List.length_cons, List.length_nil]; omega, .nil, rfl, fun f2 d2 rp2 sl2 svs2 Z1 H hs3 S hf2 => ?_⟩
        have hsB := hsA.trans hs3
        wtm_at "wp"
        exact q _ _ _ [.keep] [_] _ _ hsB (S.sel (by wtm_at "sel")) ⟨f2, d2, _, rp2, sl2, svs2, xs ++ [.ref pp], Ml2, x, dx, va, rfl, hlow2.mono hsB, hf2, ra.mono hsB⟩ rfl (.cons ⟨_, rfl, hs3 _ _ (hs2 _ _ hz1)⟩ .nil)
      · obtain ⟨nv, si, ca, cb, hn1, hn2⟩ := next_sum C I hk hws
        refine ⟨Z, (no, .lst nov) :: (tl, .lst []) :: L, Ml, g, rf, mf, me, mx, co, ho, he, st, f, d, rp, sl, p, _, _, _, _, _, _, _, _, nv, stv, ws, svs, _, low, ⟨t, n, env⟩, _, n, _, rfl, SH.swap [_, _, _, _] [_, _] Ml L (by simp only [List.cons_append, List.nil_append]; exact S.sel (by wtm_at "sel")), hlow, hpp, hrp, hn1, by omega, .inr ⟨_, _, _, _, hn2, sok, fun H S => ?_⟩⟩
        replace S := SH.swapb [_, _, _, _] [_, _] Ml L S
        simp only [List.cons_append, List.nil_append] at S
        wtm_at "wp"
        refine ⟨Z, _, x, dx, _, _, rfl, S, fun H S => ⟨rfl, ?_⟩⟩
        wtm_at "wp"
        obtain ⟨S, hs1, hz1⟩ := S.pick (o := .tup [.str "keep", .str g.K]) (by wtm_at "pick")
        replace hpp := hs1 _ _ hpp
        refine ⟨_, (no, .lst (nov ++ [_])) :: (tl, .lst []) :: (x, cKeep.ob K dx [.str g.K, va]) :: (f, cFrame.ob K d [.ref pa, .ref rp, .int (n : Nat), .ref sl]) :: (sl, .lst svs) :: (Ml ++ L), me, mx, co, ho, he, st, f, d, _, _, _, _, _, _, _, _, stv, _, rfl, S.sel (by wtm_at "sel"), by omega, .inr ⟨by wtm_at "in", fun pp dp H S => ?_⟩⟩
        wtm_at "wp"
        obtain ⟨S, hs2, hz2⟩ := S.pick (o := .tup [.str "def", .str g.f1]) (by wtm_at "pick")
        have hsA := hs1.trans hs2
        refine ⟨_, (no, .lst (nov ++ [_])) :: (x, cKeep.ob K dx [.str g.K, va]) :: (pp, cPass.ob K dp [.int 0]) :: (f, cFrame.ob K d [.ref pa, .ref rp, .int (n : Nat), .ref sl]) :: (sl, .lst svs) :: (Ml ++ L), g, rf, mf, me, mx, co, ho, he, st, _, tl, _, _, _, _, _, _, _, stv ++ [.ref f] ++ [.ref pp] ++ [.ref x], [], .d1, [], rfl, S.sel (by wtm_at "sel"), hco.mono hsA, C, hmf .d1, hz2, by simp only [List.length_append, List.length_cons, List.length_nil]; omega, .nil, rfl, fun f2 d2 rp2 sl2 svs2 Z1 H hs3 S hf2 => ?_⟩
        have hsB := hsA.trans hs3
        have hm : MLow K g rf mf Z1 (⟨t, n, env⟩ :: low) (stv ++ [.ref f] ++ [.ref pp]) ((pp, cPass.ob K dp [.int 0]) :: (f, cFrame.ob K d [.ref pa, .ref rp, .int (n : Nat), .ref sl]) :: (sl, .lst svs) :: Ml) := MLow.step (fs := []) (f := ⟨t, n, env⟩) (fun _ h => by cases h) ⟨_, _, _, _, _, _, _, hpc, .keep, hk, sok⟩ (hfr0.mono hsB) (hlow.mono hsB)
        wtm_at "wp"
        exact q _ _ _ [.keep] [_] _ _ hsB (by simp only [List.cons_append]; exact S.sel (by wtm_at "sel")) ⟨f2, d2, _, rp2, sl2, svs2, stv ++ [.ref f] ++ [.ref pp], (pp, cPass.ob K dp [.int 0]) :: (f, cFrame.ob K d [.ref pa, .ref rp, .int (n : Nat), .ref sl]) :: (sl, .lst svs) :: Ml, x, dx, va, rfl, hm, hf2, ra.mono hsB⟩ rfl (.cons ⟨_, rfl, hs3 _ _ (hs2 _ _ hz1)⟩ .nil)
    | @ask _ _ env _ _ hs x av nx i hp ha =>
      rw [hpc] at hp
      obtain rfl := Option.some.inj hp
      obtain ⟨stv, Ml, kp, dk, nv, rfl, hlow, hfr, hnv⟩ := hrep
      have hfr0 := hfr
      obtain ⟨hpa, ⟨ws, hrp, hws⟩, hsl⟩ := hfr
      have hlw := hlow.len
      cases R1 with
      | ask lx c1 =>
      obtain ⟨p, rs, rfl, hpp, v1, rfl, hv1⟩ := hrw
      obtain ⟨va, ka, ra⟩ := hsl.val I c1 ha
      obtain rfl : va = .int i := ra
      wtm_at "wp"
      refine ⟨Z, _, me, f, d, sl, _, _, _, _, _, svs, _, rfl, S, by wtm_at "in", by wtm_at "in", hv1, ka, fun H S => ?_⟩
      wtm_at "wp"
      refine ⟨Z, L, Ml, g, rf, mf, me, mx, co, ho, he, st, no, f, d, pa, rp, sl, kp, dk, _, _, _, _, _, nv, stv, nov, svs, low, hn, n, env, hs, i, rfl, S, hlow, hfr0, hnv, hco, hho, hhe, C, hmf .hr, by omega, by omega, fun st2 f2 d2 pa2 rp2 sl2 svs2 ev1 Z1 H hs1 S hev hf2 => ?_⟩
      exact q _ _ _ [.ask] [_] _ _ hs1 S ⟨f2, d2, pa2, rp2, sl2, svs2, stv, Ml, rfl, hlow.mono hs1, hf2⟩ rfl (.cons hev .nil)
    | @go _ _ _ _ _ _ x hh av bv nx h i hs y qq c nx2 hp hh_ ha hb2 hp2 =>
      rw [hpc] at hp
      obtain rfl := Option.some.inj hp
      obtain ⟨stv, Ml, rfl, hlow, hfr⟩ := hrep
      have hfr0 := hfr
      obtain ⟨hpa, ⟨ws, hrp, hws⟩, hsl⟩ := hfr
      have hlw := hlow.len
      cases R1 with
      | @go _ ri _ _ _ ch _ _ _ lx c1 c2 c3 =>
      obtain rfl : ri = m := by
        rcases Lk_put.mp lx with ⟨_, e⟩ | ⟨e, _⟩
        · exact e
        · exact absurd rfl e
      obtain ⟨p, rs, rfl, hpp, v1, v2, v3, rfl, hv1, hv2, hv3⟩ := hrw
      replace hpp : Z p = some (.tup [.str "go", .int (ri : Nat), v1, v2, v3]) := hpp
      obtain ⟨vh, kh, rh⟩ := hsl.val I c1 hh_
      obtain ⟨va, ka, ra⟩ := hsl.val I c2 ha
      obtain rfl : va = .int i := ra
      obtain ⟨vb, kb, rb⟩ := hsl.val I c3 hb2
      refine if_share2 (fun H => SH Z ((me, cMachine.ob K mx [.ref co, .ref ho, .ref he, .int 600, .ref st, tk, .int (hn : Nat), .non, .ref no, .int cp, gr, gw]) :: (no, .lst nov) :: (st, .lst (stv ++ [.ref f])) :: (f, cFrame.ob K d [.ref pa, .ref rp, .int (n : Nat), .ref sl]) :: (sl, .lst svs) :: (Ml ++ L)) H) (fun H S => ?_) fun U hU => ?_
      · refine if_share2 (fun H => SH Z ((me, cMachine.ob K mx [.ref co, .ref ho, .ref he, .int 600, .ref st, tk, .int (hn : Nat), .non, .ref no, .int cp, gr, gw]) :: (no, .lst nov) :: (st, .lst (stv ++ [.ref f])) :: (f, cFrame.ob K d [.ref pa, .ref rp, .int (n : Nat), .ref sl]) :: (sl, .lst svs) :: (Ml ++ L)) H) (fun H S => ?_) fun U hU => ?_
        · wtm_at "wp"
          refine k_slT S (.z hpp) (by wtm_at "sx") (ys := [v1, v2, v3]) rfl fun p H S => ?_
          wtm_at "un"
          wtm_at "wp"
          refine ⟨Z, _, me, f, d, sl, _, _, _, _, _, svs, _, rfl, S, by wtm_at "in", by wtm_at "in", hv1, kh, fun H S => ?_⟩
          wtm_at "wp"
          refine ⟨Z, _, me, f, d, sl, _, _, _, _, _, svs, _, rfl, S, by wtm_at "in", by wtm_at "in", hv2, ka, fun H S => ?_⟩
          wtm_at "wp"
          refine ⟨Z, _, me, f, d, sl, _, _, _, _, _, svs, _, rfl, S, by wtm_at "in", by wtm_at "in", hv3, kb, fun H S => ?_⟩
          wtm_at "wp"
          rcases MO.w _ _ _ _ hpc .go with hk | ⟨y1, s1, a1, b1, nx1, hk, sok⟩
          · obtain ⟨nv, hn1, hn2⟩ := next_give C I .go hk hws
            refine ⟨Z, (no, .lst nov) :: L, Ml, g, rf, mf, me, mx, co, ho, he, st, f, d, rp, sl, _, _, _, _, _, _, _, _, _, nv, stv, ws, svs, _, low, ⟨t, n, env⟩, _, n, _, rfl, SH.swap [_, _, _, _] [_] Ml L (by simp only [List.cons_append, List.nil_append]; exact S.sel (by wtm_at "sel")), hlow, hpp, hrp, hn1, by omega, .inl ⟨hn2, ⟨_, _, hpc, .go, hk⟩, fun stv2 Ml2 H S hlow2 => ?_⟩⟩
            replace S := SH.swapb [_, _] [_] Ml2 L S
            simp only [List.cons_append, List.nil_append] at S
            obtain ⟨xs, pp, dp, ys, rfl, hpm⟩ := hlow2.top
            have hlw2 := hlow2.len
            simp only [List.length_append, List.length_cons, List.length_nil] at hlw2
            wtm_at "wp"
            refine ⟨Z, Ml2 ++ L, g, rf, mf, me, mx, co, ho, he, st, no, pp, dp, tk, _, _, gr, gw, vh, vb, cp, xs, nov, ys, h, i, y, qq, c, nx2, rfl, S.sel (by wtm_at "sel"), C, by omega, by omega, rh, hp2, .inl ⟨.l (List.mem_append_left _ hpm), fun f2 d2 pa2 rp2 sl2 svs2 kp dk ev1 cp2 Z1 H hs1 S hev hf2 => ?_⟩⟩
            exact q _ _ _ [.go h.num] [_] _ _ hs1 S ⟨f2, d2, pa2, rp2, sl2, svs2, xs ++ [.ref pp], Ml2, kp, dk, vb, rfl, hlow2.mono hs1, hf2, rb.mono hs1⟩ rfl (.cons hev .nil)
          · obtain ⟨nv, si, ca, cb, hn1, hn2⟩ := next_sum C I hk hws
            refine ⟨Z, (no, .lst nov) :: L, Ml, g, rf, mf, me, mx, co, ho, he, st, f, d, rp, sl, _, _, _, _, _, _, _, _, _, nv, stv, ws, svs, _, low, ⟨t, n, env⟩, _, n, _, rfl, SH.swap [_, _, _, _] [_] Ml L (by simp only [List.cons_append, List.nil_append]; exact S.sel (by wtm_at "sel")), hlow, hpp, hrp, hn1, by omega, .inr ⟨_, _, _, _, hn2, sok, fun H S => ?_⟩⟩
            replace S := SH.swapb [_, _, _, _] [_] Ml L S
            simp only [List.cons_append, List.nil_append] at S
            wtm_at "wp"
            refine ⟨Z, (f, cFrame.ob K d [.ref pa, .ref rp, .int (n : Nat), .ref sl]) :: (sl, .lst svs) :: (Ml ++ L), g, rf, mf, me, mx, co, ho, he, st, no, f, d, tk, _, _, gr, gw, vh, vb, cp, stv, nov, _, h, i, y, qq, c, nx2, rfl, S.sel (by wtm_at "sel"), C, by omega, by omega, rh, hp2, .inr ⟨by wtm_at "in", fun pp dp f2 d2 pa2 rp2 sl2 svs2 kp dk ev1 cp2 Z1 H hs1 S hev hf2 => ?_⟩⟩
            have hm : MLow K g rf mf Z1 (⟨t, n, env⟩ :: low) (stv ++ [.ref f] ++ [.ref pp]) ((pp, cPass.ob K dp [.int 0]) :: (f, cFrame.ob K d [.ref pa, .ref rp, .int (n : Nat), .ref sl]) :: (sl, .lst svs) :: Ml) := MLow.step (fs := []) (f := ⟨t, n, env⟩) (fun _ h => by cases h) ⟨_, _, _, _, _, _, _, hpc, .go, hk, sok⟩ (hfr0.mono hs1) (hlow.mono hs1)
            exact q _ _ _ [.go h.num] [_] _ _ hs1 S ⟨f2, d2, pa2, rp2, sl2, svs2, stv ++ [.ref f] ++ [.ref pp], _, kp, dk, vb, rfl, hm, hf2, rb.mono hs1⟩ rfl (.cons hev .nil)
        · wtm_at "wp"
          refine ⟨ch.pd, .tuple [.str "slot", .int 1], hv1.dp S, .tup (SqT.of (S.at (.l (by wtm_at "mem")))) (.cons (.str _) (.cons (.int _) .nil)), ?_, by decide +kernel, ?_⟩
          · cases ch <;> (simp [Cdd.pd, SeqAt.shaped, PyData.canLay0, PyData.canLayAll0, PyData.depth, PyData.depthAll]; decide +kernel)
          · generalize PyData.eqv _ _ = e
            wtm_at "wp"
            cases e with
            | true =>
              wtm_at "wp"
              refine ⟨Z, _, g, me, mx, f, d, pa, ho, t, _, _, _, _, rfl, S, by wtm_at "in", rfl, hho, by wtm_at "in", hpa, fun H S => ?_⟩
              wtm_at "wp"
              exact hU _ (S.sub (by wtm_at "sub"))
            | false =>
              wtm_at "wp"
              exact hU _ (S.sub (by wtm_at "sub"))
      · wtm_at "wp"
        exact hU _ S
    | mk hp hm => rw [hpc] at hp; obtain rfl := Option.some.inj hp; cases hm <;> exact hwt.elim
    | tell hp _ => rw [hpc] at hp; obtain rfl := Option.some.inj hp; exact hwt.elim
    | iff hp _ _ => rw [hpc] at hp; obtain rfl := Option.some.inj hp; exact hwt.elim
    | case0 hp _ _ _ => rw [hpc] at hp; obtain rfl := Option.some.inj hp; exact hwt.elim
    | case1 hp _ _ => rw [hpc] at hp; obtain rfl := Option.some.inj hp; exact hwt.elim
    | giveK hp _ => rw [hpc] at hp; obtain rfl := Option.some.inj hp; exact hwt.elim
    | giveP hp _ _ _ => rw [hpc] at hp; obtain rfl := Option.some.inj hp; exact hwt.elim
end
end AL
/-! F5 -/
namespace AL
open PySem PySem.Spec PyProof.Rows L2
/-! ### what is given to a pass -/
theorem AStep.give_none {g : Pg} {low : List AF} {top : AF} {hd : Nat} {ev : List Ev} {s' : AS} {a : V} {i : Int} (hp : Pt.pc g top.t top.n = some (.give a)) (ha : aw top.env a = some (.int i)) (h : AStep g ⟨low, none, top, hd, ev⟩ s') :
    ∃ f low2 b x, low = f :: low2 ∧ Pt.pc g f.t f.n = some b ∧ BdW b x ∧ s' = ⟨low2, none, ⟨f.t, f.n + 1, (x, .int i) :: f.env⟩, hd, ev⟩ := by
  obtain ⟨t, n, env⟩ := top
  replace hp : Pt.pc g t n = some (.give a) := hp
  replace ha : aw env a = some (.int i) := ha
  cases h with
  | mk hp2 hm => rw [hp] at hp2; cases hp2; cases hm
  | tell hp2 _ => rw [hp] at hp2; cases hp2
  | iff hp2 _ _ => rw [hp] at hp2; cases hp2
  | case0 hp2 _ _ _ => rw [hp] at hp2; cases hp2
  | case1 hp2 _ _ => rw [hp] at hp2; cases hp2
  | keep hp2 _ => rw [hp] at hp2; cases hp2
  | go hp2 _ _ _ _ => rw [hp] at hp2; cases hp2
  | @giveP low2 t2 n2 env2 _ _ _ _ _ a2 i2 b x hp2 ha2 hp3 hw =>
    rw [hp] at hp2
    cases hp2
    rw [ha] at ha2
    cases ha2
    refine ⟨_, _, b, x, rfl, hp3, ?_, rfl⟩
    rcases hw with ⟨_, _, _, _, _, rfl⟩ | ⟨_, _, _, _, rfl⟩
    · exact .keep
    · exact .go
theorem BdW.inj {b : Bd} {x y : Str} (h : BdW b x) (h2 : BdW b y) : x = y := by
  cases h <;> cases h2 <;> rfl
theorem pc_kid {g : Pg} {rf : Pt → List Rw} {mf : Pt → Nat} (C : CodeOk g rf mf) {t : Pt} {n : Nat} {b k : Bd} {ks : List Bd} (h : Pt.pc g t n = some b) (hk : b.kids = k :: ks) : Pt.pc g t (n + 1) = some k := by
  obtain ⟨kv, m, rw, I⟩ := C.at h
  exact CodeOk.pc (t := t) (scAt_kid I.sc hk)
theorem run_tails {g : Pg} {rf : Pt → List Rw} {mf : Pt → Nat} (C : CodeOk g rf mf) {low : List AF} {hd : Nat} {ev evs : List Ev} {v : Int} : ∀ (fs : List AF), (∀ f ∈ fs, Tail g f) → ∀ {top : AF} {a : V} {i : Int} {m : Nat}, Pt.pc g top.t top.n = some (.give a) → aw top.env a = some (.int i) →
    ARun g ⟨fs ++ low, none, top, hd, ev⟩ m evs v → (low = [] → i = v ∧ evs = ev ∧ m = fs.length + 1) ∧
      (∀ f low2, low = f :: low2 → ∃ b x m', Pt.pc g f.t f.n = some b ∧ BdW b x ∧ m = m' + fs.length + 1 ∧ ARun g ⟨low2, none, ⟨f.t, f.n + 1, (x, .int i) :: f.env⟩, hd, ev⟩ m' evs v)
  | [], _, top, a, i, m, hp, ha, r => by
    cases r with
    | fin hf h =>
      obtain ⟨e1, _, a2, h1, h2⟩ := h
      rw [hp] at h1
      cases h1
      rw [ha] at h2
      cases h2
      exact ⟨fun _ => ⟨rfl, rfl, rfl⟩, fun f low2 e => by subst e; cases e1⟩
    | @step _ s1 k _ _ hf h r =>
      obtain ⟨f, low2, b, x, e, h1, h2, rfl⟩ := AStep.give_none hp ha h
      replace e : low = f :: low2 := e
      subst e
      exact ⟨fun e => (by cases e), fun f2 low3 e => by cases e; exact ⟨b, x, k, h1, h2, rfl, r⟩⟩
  | f0 :: fs, ht, top, a, i, m, hp, ha, r => by
    cases r with
    | fin hf h => cases h.1
    | @step _ s1 k _ _ hf h r =>
      obtain ⟨f, low2, b, x, e, h1, h2, rfl⟩ := AStep.give_none hp ha h
      obtain ⟨rfl, rfl⟩ : f0 = f ∧ fs ++ low = low2 := by cases e; exact ⟨rfl, rfl⟩
      obtain ⟨b2, x2, h3, h4, h5⟩ := ht f0 List.mem_cons_self
      rw [h1] at h3
      cases h3
      obtain rfl := h2.inj h4
      obtain ⟨q1, q2⟩ := run_tails C fs (fun f hf => ht f (List.mem_cons_of_mem _ hf)) (pc_kid C h1 h5) (by show eget ((x, AV.int i) :: f0.env) x = _; rw [eget_cons, if_pos rfl]) r
      refine ⟨fun e => ?_, fun f low3 e => ?_⟩
      · obtain ⟨e1, e2, e3⟩ := q1 e
        exact ⟨e1, e2, by rw [e3, List.length_cons]⟩
      · obtain ⟨b3, x3, m', e1, e2, e3, e4⟩ := q2 f low3 e
        exact ⟨b3, x3, m', e1, e2, by rw [e3, List.length_cons]; omega, e4⟩
theorem ARun.split {g : Pg} (MO : MOk g) {low : List AF} {note : Option (List Hd)} {t : Pt} {n hn m : Nat} {env : AEnv} {ev evs : List Ev} {v : Int} (r : ARun g ⟨low, note, ⟨t, n, env⟩, hn, ev⟩ m evs v) :
    (∃ b n2 env2 ev2 k, Pt.pc g t n = some b ∧ ABehM env n b n2 env2 ev2 ∧ ARun g ⟨low, note, ⟨t, n2, env2⟩, hn, ev ++ ev2⟩ k evs v ∧ m = k + 1) ∨
    (∃ b s' k, Pt.pc g t n = some b ∧ b.waits ∧ AStep g ⟨low, note, ⟨t, n, env⟩, hn, ev⟩ s' ∧ ARun g s' k evs v ∧ m = k + 1) ∨
    (∃ a i, Pt.pc g t n = some (.give a) ∧ aw env a = some (.int i) ∧ (note = none ∨ ∃ hs k, note = some hs ∧ ARun g ⟨low, none, ⟨.en, 0, [(g.en, .row hs), (g.ex, .int i)]⟩, hn, ev ++ [.ended]⟩ k evs v ∧ m = k + 1)) := by
  cases r with
  | fin hf h =>
    obtain ⟨_, e, a, h1, h2⟩ := h
    exact .inr (.inr ⟨a, _, h1, h2, .inl e⟩)
  | @step _ s1 k _ _ hf h r =>
    have h0 := h
    cases h with
    | mk hp hm => exact .inl ⟨_, _, _, [], k, hp, .mk hm, by rw [List.append_nil]; exact r, rfl⟩
    | tell hp ha => exact .inl ⟨_, _, _, _, k, hp, .tell ha, r, rfl⟩
    | iff hp hl ha => exact .inl ⟨_, _, _, [], k, hp, .iff ha, by rw [List.append_nil]; exact r, rfl⟩
    | case0 hp hr hx hy => exact .inl ⟨_, _, _, [], k, hp, .case0 hr hx hy, by rw [List.append_nil]; exact r, rfl⟩
    | case1 hp hl hr => exact .inl ⟨_, _, _, [], k, hp, .case1 hr (MO.c _ _ _ _ _ _ _ hp), by rw [List.append_nil]; exact r, rfl⟩
    | keep hp _ => exact .inr (.inl ⟨_, _, k, hp, True.intro, h0, r, rfl⟩)
    | ask hp _ => exact .inr (.inl ⟨_, _, k, hp, True.intro, h0, r, rfl⟩)
    | go hp _ _ _ _ => exact .inr (.inl ⟨_, _, k, hp, True.intro, h0, r, rfl⟩)
    | giveK hp ha => exact .inr (.inr ⟨_, _, hp, ha, .inr ⟨_, k, rfl, r, rfl⟩⟩)
    | giveP hp ha _ _ => exact .inr (.inr ⟨_, _, hp, ha, .inl rfl⟩)
theorem RowR.word {kv mo : KVs} {n : Nat} {b : Bd} {rw : Rw} (h : RowR kv mo n b rw) : rw.word = b.word := by cases h <;> rfl
theorem RwAt.head {Z : Hp} {rw : Rw} {v : V} (h : RwAt Z rw v) : ∃ p xs, v = .ref p ∧ Z p = some (.tup (.str rw.word :: xs)) := by
  cases rw with
  | give c => obtain ⟨p, w, e, h, _⟩ := h; exact ⟨p, _, e, h⟩
  | tell c => obtain ⟨p, w, e, h, _⟩ := h; exact ⟨p, _, e, h⟩
  | iff c n => obtain ⟨p, w, e, h, _⟩ := h; exact ⟨p, _, e, h⟩
  | case c a b n => obtain ⟨p, w, e, h, _⟩ := h; exact ⟨p, _, e, h⟩
  | _ => obtain ⟨p, ws, e, h, _⟩ := h; exact ⟨p, _, e, h⟩
theorem ABehM.word {env env2 : AEnv} {n n2 : Nat} {b : Bd} {evs : List Ev} (h : ABehM env n b n2 env2 evs) : b.word ≠ "give" ∧ inV (.str b.word) [.str "call", .str "keep", .str "ask", .str "go"] = false := by
  cases h with
  | mk hm => cases hm <;> exact ⟨by simp only [Bd.word]; decide, by simp only [Bd.word]; decide +kernel⟩
  | _ => exact ⟨by simp only [Bd.word]; decide, by simp only [Bd.word]; decide +kernel⟩
theorem Bd.waits.word {b : Bd} (h : b.waits) : b.word ≠ "give" ∧ inV (.str b.word) [.str "call", .str "keep", .str "ask", .str "go"] = true := by
  cases b <;> first | exact h.elim | exact ⟨by simp only [Bd.word]; decide, by simp only [Bd.word]; decide +kernel⟩
section
variable {K : PySem.W.Frag} {g : Pg} {rf : Pt → List Rw} {mf : Pt → Nat} {Z Z1 : Hp}
theorem MRepF.op {low : List AF} {top : AF} {st f d pa rp sl : Addr} {svs : List V} {L M : Lx} {nt : Option (List Hd)} (h : MRepF K g rf mf Z low top st f d pa rp sl svs L M nt) :
    ∃ X R, M = (st, .lst (X ++ [.ref f])) :: (f, cFrame.ob K d [.ref pa, .ref rp, .int (top.n : Nat), .ref sl]) :: (sl, .lst svs) :: R ∧ FrOk K g rf mf Z top pa rp svs ∧ X.length ≤ 2 * low.length + 2 ∧ (∀ v ∈ X, ElAt K Z R v) ∧
      ∀ Z1 top2 svs2, Same Z Z1 → FrOk K g rf mf Z1 top2 pa rp svs2 → MRepF K g rf mf Z1 low top2 st f d pa rp sl svs2 L ((st, .lst (X ++ [.ref f])) :: (f, cFrame.ob K d [.ref pa, .ref rp, .int (top2.n : Nat), .ref sl]) :: (sl, .lst svs2) :: R) nt := by
  cases nt with
  | none =>
    obtain ⟨stv, Ml, rfl, h1, h2⟩ := h
    have hl := h1.len
    exact ⟨stv, Ml ++ L, rfl, h2, by omega, fun v hv => (h1.lw v hv).el.up fun e he => List.mem_append_left _ he, fun Z1 top2 svs2 hs hf => ⟨stv, Ml, rfl, h1.mono hs, hf⟩⟩
  | some hs =>
    obtain ⟨stv, Ml, kp, dk, nv, rfl, h1, h2, h3⟩ := h
    have hl := h1.len
    refine ⟨stv ++ [.ref kp], (kp, cKeep.ob K dk [.str g.K, nv]) :: (Ml ++ L), rfl, h2, by rw [List.length_append, List.length_cons, List.length_nil]; omega, fun v hv => ?_, fun Z1 top2 svs2 hs hf => ⟨stv, Ml, kp, dk, nv, rfl, h1.mono hs, hf, h3.mono hs⟩⟩
    rcases List.mem_append.mp hv with hv | hv
    · exact (h1.lw v hv).el.up fun e he => List.mem_cons_of_mem _ (List.mem_append_left _ he)
    · obtain rfl := List.mem_singleton.mp hv
      exact ⟨kp, dk, _, rfl, .inr (.inl (.l List.mem_cons_self))⟩
end
end AL
/-! F6 -/
namespace AL
open PySem PySem.Spec PyProof.Rows L2
theorem seq_share {t u : TS} {N B C : L2.St → Hp → Prop} {R : VK} {σ : L2.St} {H : Hp} (F : L2.St → Hp → Prop) (hF : ∀ σ H, F σ H → u ⟨N, R, B, C⟩ σ H) (h : ∀ U : L2.St → Hp → Prop, (∀ σ H, F σ H → U σ H) → t ⟨U, R, B, C⟩ σ H) : tSeq t u ⟨N, R, B, C⟩ σ H := h (fun σ H => u ⟨N, R, B, C⟩ σ H) hF
theorem MLow.cut {K : PySem.W.Frag} {g : Pg} {rf : Pt → List Rw} {mf : Pt → Nat} {Z : Hp} {low : List AF} {stv : List V} {M : Lx} (h : MLow K g rf mf Z low stv M) :
    (low = [] ∧ stv = [] ∧ M = []) ∨ (∃ p d, (∀ f ∈ low, Tail g f) ∧ stv = [.ref p] ∧ M = [(p, cPass.ob K d [.int (low.length : Nat)])]) ∨
    ∃ fs f low2 stv2 M2 p d fr df pa rp sl svs, low = fs ++ f :: low2 ∧ (∀ f ∈ fs, Tail g f) ∧ FrOk K g rf mf Z f pa rp svs ∧ MLow K g rf mf Z low2 stv2 M2 ∧ stv = stv2 ++ [.ref fr] ++ [.ref p] ∧
      M = (p, cPass.ob K d [.int (fs.length : Nat)]) :: (fr, cFrame.ob K df [.ref pa, .ref rp, .int (f.n : Nat), .ref sl]) :: (sl, .lst svs) :: M2 := by
  cases h with
  | nil => exact .inl ⟨rfl, rfl, rfl⟩
  | @base _ p d ht => exact .inr (.inl ⟨p, d, ht, rfl, rfl⟩)
  | @step fs f low p d fr df pa rp sl svs stv M ht hn hf h => exact .inr (.inr ⟨fs, f, low, stv, M, p, d, fr, df, pa, rp, sl, svs, rfl, ht, hf, h, rfl, rfl⟩)
section
variable {P : Program} {w : World} {K : PySem.W.Frag} {mg : Str → Option Value} {base : Heap}
/-! ### Machine.turn -/
def spMTurn : Sp := fun vs H Q _ => ∃ (Z : Hp) (L M : Lx) (g : Pg) (rf : Pt → List Rw) (mf : Pt → Nat) (me mx co ho he st no : Addr) (cp gr : Int) (gw : Bool) (nov : List V) (tk m : Nat) (s : AS) (evs : List Ev) (v : Int), vs = [.ref me] ∧
  SH Z ((me, cMachine.ob K mx [.ref co, .ref ho, .ref he, .int 600, .ref st, .int (tk : Nat), .int (s.held : Nat), .non, .ref no, .int cp, .int gr, .bl gw]) :: (no, .lst nov) :: M) H ∧ MRep K g rf mf Z s.low s.top st L M s.note ∧ CodesAt Z g rf mf co ∧ HowAt Z g ho ∧ HearsAt Z g he ∧ CodeOk g rf mf ∧ MOk g ∧ (∀ t, mf t ≤ 5000) ∧ nov.length ≤ 3000 ∧ ARun g s m evs v ∧ tk + m < 600 ∧
  (∀ M2 st2 cp2 gr2 gw2 tk2 m2 s2 ev2 ew Z1 H1, Same Z Z1 → SH Z1 ((me, cMachine.ob K mx [.ref co, .ref ho, .ref he, .int 600, .ref st2, .int ((tk2 : Nat) : Int), .int ((AS.held s2 : Nat) : Int), .non, .ref no, .int cp2, .int gr2, .bl gw2]) :: (no, .lst (nov ++ ew)) :: M2) H1 → MRep K g rf mf Z1 (AS.low s2) (AS.top s2) st2 L M2 (AS.note s2) → s2.ev = s.ev ++ ev2 → Paired (EvAt Z1 g) ev2 ew →
    m2 < m → tk2 + m2 = tk + m → ARun g s2 m2 evs v → Q .non H1) ∧
  (∀ st2 fp hn2 cp2 gr2 gw2 Z1 H1, Same Z Z1 → SH Z1 ((me, cMachine.ob K mx [.ref co, .ref ho, .ref he, .int 600, st2, .int ((tk + m : Nat) : Int), hn2, .ref fp, .ref no, cp2, gr2, gw2]) :: (no, .lst nov) :: L) H1 → Z1 fp = some (.tup [.str "gave", .int v]) → s.ev = evs → Q .non H1)
theorem ok_Machine_turn (T : Tx K mg) : Met P w K mg base 6 cMachine "turn" ["self"] (spMTurn (K := K)) := by
  refine mk_met (c := cMachine) (F_Machine_turn T) (m_Machine_turn T) sc_Machine_turn (fun _ _ _ _ _ _ us hl => match us, hl with | [_], _ => rfl) ?len ?body
  case len =>
    rintro vs H Q E ⟨Z, L, M, g, rf, mf, me, mx, co, ho, he, st, no, cp, gr, gw, nov, tk, m, s, evs, v, rfl, _⟩
    rfl
  case body =>
    rintro cdv A outer s0 H vs Q E hr ⟨Z, L, M, g, rf, mf, me, mx, co, ho, he, st, no, cp, gr, gw, nov, tk, m, ⟨low, note, ⟨t, n, env⟩, hn, ev⟩, evs, v, rfl, S, ⟨f, d, pa, rp, sl, svs, hrep⟩, hco, hho, hhe, C, MO, hmf, hnl, hrun, htk, q, q2⟩
    refine ⟨_, (pss_cons (ps_if (pt_not (pt_tru (K := K) (pe_met0K (K := K) (ok_cMachine T) (ok_Machine_step T) hr (by decide +kernel) (pv 0)) (by intro _; rfl))) (pss_one ps_retN) pss_nil) (pss_cons (ps_if (pt_tru (K := K) (pe_atK (K := K) (c := cMachine) (i := 11) (ok_cMachine T) (pv 0)) (by intro _; rfl)) (pss_cons (ps_atK (K := K) (c := cMachine) (i := 10) (ok_cMachine T) (pv 0) (pe_callB (call_mx2 rfl) (by rfl) (b_max T) (by decide +kernel) (pa_cons (pe_atK (K := K) (c := cMachine) (i := 10) (ok_cMachine T) (pv 0)) (pa_cons (pe_callB call_lenA (by rfl) (b_len T) (by decide +kernel) (pa_cons (pe_lc (own := [("one", 1)]) (g := gName 1) (by rfl) sc_Machine_turn.nd (pi_listK (K := K) (pe_atK (K := K) (c := cMachine) (i := 4) (ok_cMachine T) (pv 0))) (blkOk_by (own := [("one", 1)]) (N := ["self", "one", "frame", "row"]) (sc := defScope s_Machine_turn) (by decide +kernel)) (fun _ _ _ _ _ => (pg_name (i := 1) sc_Machine_turn.nd rfl (Or.inl rfl))) (fun _ _ _ _ _ => pts_one (pt_tru (K := K) (pe_cal (ok_is_counted T) hr (pa_cons (pv 1) pa_nil)) (by intro _; rfl))) (fun _ _ _ _ _ => (pv 1))) pa_nil)) pa_nil)))) (pss_one (ps_atK (K := K) (c := cMachine) (i := 11) (ok_cMachine T) (pv 0) pe_bl))) pss_nil) (pss_cons (ps_set (i := 2) sc_Machine_turn.nd rfl (Or.inl rfl) (pe_ix (ix_anyK (K := K)) (pe_atK (K := K) (c := cMachine) (i := 4) (ok_cMachine T) (pv 0)) (pe_un un_neg pe_int) (fun _ _ => rfl))) (pss_cons (ps_set (i := 3) sc_Machine_turn.nd rfl (Or.inl rfl) (pe_ix (ix_anyK (K := K)) (pe_atK (K := K) (c := cFrame) (i := 1) (ok_cFrame T) (pv 2)) (pe_atK (K := K) (c := cFrame) (i := 2) (ok_cFrame T) (pv 2)) (fun _ _ => rfl))) (pss_one (ps_if (pt_cmpR op_eq (pe_ix (ix_anyK (K := K)) (pv 3) pe_int (fun _ _ => rfl)) pe_str (nomark _)) (pss_cons (ps_expr (pe_bm0K (K := K) (pe_bm0 PySem.F.plainAttrs_list PySem.F.slot_list_pop PySem.F.type_list_pop mt_pop (pe_atK (K := K) (c := cMachine) (i := 4) (ok_cMachine T) (pv 0))))) (pss_one (ps_expr (pe_metK (K := K) (ok_cMachine T) (ok_Machine_give T) hr (by decide +kernel) (pv 0) (pa_cons (pe_metK (K := K) (ok_cMachine T) (ok_Machine_worth T) hr (by decide +kernel) (pv 0) (pa_cons (pv 2) (pa_cons (pe_ix (ix_anyK (K := K)) (pv 3) pe_int (fun _ _ => rfl)) pa_nil))) pa_nil))))) (pss_one (ps_if (pt_cmpR (op_in_seqK (K := K)) (pe_ix (ix_anyK (K := K)) (pv 3) pe_int (fun _ _ => rfl)) (pe_tup (pa_cons pe_str (pa_cons pe_str (pa_cons pe_str (pa_cons pe_str pa_nil))))) (by first | rfl | exact nomark _)) (pss_one (ps_expr (pe_metK (K := K) (ok_cMachine T) (ok_Machine_wait T) hr (by decide +kernel) (pv 0) (pa_cons (pv 2) (pa_cons (pv 3) pa_nil))))) (pss_one (ps_expr (pe_metK (K := K) (ok_cMachine T) (ok_Machine_do_row T) hr (by decide +kernel) (pv 0) (pa_cons (pv 2) (pa_cons (pv 3) pa_nil))))))))))))), ?_⟩
    show (_ : TS) _ ([some _, none, none, none] : L2.St) _
    have hfit : AFit ⟨low, note, ⟨t, n, env⟩, hn, ev⟩ := by cases hrun <;> assumption
    obtain ⟨hfl, hf2, hf3, hf4, hf5, hhl⟩ := hfit
    replace hfl : low.length ≤ 500 := hfl
    obtain ⟨X, R, rfl, hfr, hXl, hXe, hback⟩ := hrep.op
    replace hXl : X.length ≤ 2 * low.length + 2 := hXl
    have hm1 : 1 ≤ m := by cases hrun <;> omega
    refine seq_share (fun σ H => σ = [some (.ref me), none, none, none] ∧ SH Z ((me, cMachine.ob K mx [.ref co, .ref ho, .ref he, .int 600, .ref st, .int ((tk + 1 : Nat) : Int), .int (hn : Nat), .non, .ref no, .int cp, .int gr, .bl gw]) :: (no, .lst nov) :: (st, .lst (X ++ [.ref f])) :: (f, cFrame.ob K d [.ref pa, .ref rp, .int (n : Nat), .ref sl]) :: (sl, .lst svs) :: R) H) (fun σ H hS => ?_) fun U hU => ?_
    · clear S
      obtain ⟨rfl, S⟩ := hS
      refine seq_share (fun σ H => ∃ gr2 o, σ = [some (.ref me), o, none, none] ∧ SH Z ((me, cMachine.ob K mx [.ref co, .ref ho, .ref he, .int 600, .ref st, .int ((tk + 1 : Nat) : Int), .int (hn : Nat), .non, .ref no, .int cp, .int gr2, .bl false]) :: (no, .lst nov) :: (st, .lst (X ++ [.ref f])) :: (f, cFrame.ob K d [.ref pa, .ref rp, .int (n : Nat), .ref sl]) :: (sl, .lst svs) :: R) H) (fun σ H hS => ?_) fun U hU => ?_
      · clear S
        obtain ⟨gr2, o, rfl, S⟩ := hS
        have hfr0 := hfr
        obtain ⟨hpa, ⟨ws, hrp, hws⟩, hsl⟩ := hfr
        rcases hrun.split MO with ⟨b, n2, env2, ev2, k, hp, hb, hr, rfl⟩ | ⟨b, s', k, hp, hb, hst, hr, rfl⟩ | ⟨a, i, hp, ha, hc⟩
        · obtain ⟨kv, mm, rw, I⟩ := C.at hp
          obtain ⟨rv, hrv, hrw⟩ := Paired.get hws I.row
          obtain ⟨p, xs, rfl, hpp⟩ := hrw.head
          obtain ⟨w1, w2⟩ := hb.word
          rw [I.R.word] at hpp
          wtm_at "wp"
          refine if_F (decide_eq_false fun z => w1 (V.str.inj z)) ?_
          wtm_at "wp"
          refine ⟨MRel K g rf mf, Z, (st, .lst (X ++ [.ref f])) :: R, g, rf, mf, me, mx, co, ho, he, no, f, d, sl, _, _, _, _, _, _, _, _, _, _, nov, svs, t, n, n2, mm, env, env2, b, kv, rw, ev2, rfl, S.sel (by wtm_at "sel"), hrw, I, hsl, hb, by omega, fun ew svs2 Z1 H hs1 S hev hsl2 => ?_⟩
          exact q _ _ _ _ _ (tk + 1) k ⟨low, note, ⟨t, n2, env2⟩, hn, ev ++ ev2⟩ ev2 ew _ _ hs1 (S.sel (by wtm_at "sel")) ⟨f, d, pa, rp, sl, svs2, hback Z1 ⟨t, n2, env2⟩ svs2 hs1 ⟨hs1 _ _ hpa, ⟨ws, hs1 _ _ hrp, hws.mono hs1⟩, hsl2⟩⟩ rfl hev (by omega) (by omega) hr
        · obtain ⟨kv, mm, rw, I⟩ := C.at hp
          obtain ⟨rv, hrv, hrw⟩ := Paired.get hws I.row
          obtain ⟨p, xs, rfl, hpp⟩ := hrw.head
          obtain ⟨w1, w2⟩ := hb.word
          rw [I.R.word] at hpp
          wtm_at "wp"
          refine if_F (decide_eq_false fun z => w1 (V.str.inj z)) ?_
          wtm_at "wp"
          refine ⟨Z, L, _, g, rf, mf, me, mx, co, ho, he, st, no, f, d, pa, rp, sl, _, _, _, _, cp, nov, svs, b, kv, mm, rw, low, note, t, n, hn, env, ev, s', rfl, S.sel (by wtm_at "sel"), hrep, hco, hho, hhe, C, MO, hmf, by omega, by omega, hrw, I, hb, hst, fun M2 st2 cp2 evs2 ew Z1 H hs1 S hrp2 hev hpe => ?_⟩
          exact q _ _ _ _ _ (tk + 1) k s' evs2 ew _ _ hs1 S hrp2 hev hpe (by omega) (by omega) hr
        · obtain ⟨kv, mm, rw, I⟩ := C.at hp
          obtain ⟨rv, hrv, hrw⟩ := Paired.get hws I.row
          have R1 := I.R
          generalize bndKv _ _ _ = mo at R1
          cases R1 with
          | give c1 =>
          obtain ⟨p, w1, rfl, hpp, hw1⟩ := hrw
          obtain ⟨va, ka, ra⟩ := hsl.val I c1 ha
          obtain rfl : va = .int i := ra
          wtm_at "wp"
          refine ⟨Z, _, me, f, d, sl, _, _, _, _, _, svs, _, rfl, S, by wtm_at "in", by wtm_at "in", hw1, ka, fun H S => ?_⟩
          wtm_at "wp"
          rcases hc with rfl | ⟨hs, k, rfl, hr, rfl⟩
          · obtain ⟨stv, Ml, e, hlow, _⟩ := hrep
            simp only [List.cons.injEq, Prod.mk.injEq, true_and, HO.lst.injEq, List.append_cancel_right_eq] at e
            obtain ⟨rfl, rfl⟩ := e
            rcases hlow.cut with ⟨rfl, rfl, rfl⟩ | ⟨p, dp, ht, rfl, rfl⟩ | ⟨fs, f1, low2, stv2, M2, p, dp, fr, df, pa1, rp1, sl1, svs1, rfl, ht, hf1, hlow2, rfl, rfl⟩
            · obtain ⟨e1, _⟩ := run_tails C [] (fun _ h => by cases h) (low := []) hp ha hrun
              obtain ⟨rfl, rfl, rfl⟩ := e1 rfl
              refine ⟨Z, L, g, rf, mf, me, mx, co, ho, he, st, no, _, _, _, _, nov, [], tk + 1, 0, i, rfl, hco, C, hmf .en, by omega, by decide, by omega, .inr (.inl ⟨(by simp only [List.nil_append] at S ⊢; exact S.sel (by wtm_at "sel")), rfl, fun fp Z1 H hs1 S hfp => ?_⟩)⟩
              exact q2 _ _ _ _ _ _ _ _ hs1 S hfp rfl
            · obtain ⟨e1, _⟩ := run_tails C low ht (low := []) hp ha (by rw [List.append_nil]; exact hrun)
              obtain ⟨rfl, rfl, rfl⟩ := e1 rfl
              refine ⟨Z, L, g, rf, mf, me, mx, co, ho, he, st, no, _, _, _, _, nov, [], tk + 1, low.length, i, rfl, hco, C, hmf .en, by omega, by decide, by omega, .inr (.inr (.inl ⟨p, dp, (by simp only [List.cons_append, List.nil_append] at S ⊢; exact S.sel (by wtm_at "sel")), fun fp Z1 H hs1 S hfp => ?_⟩))⟩
              rw [show tk + 1 + low.length = tk + (low.length + 1) by omega] at S
              exact q2 _ _ _ _ _ _ _ _ hs1 S hfp rfl
            · obtain ⟨_, e1⟩ := run_tails C fs ht (low := f1 :: low2) hp ha hrun
              obtain ⟨b, x, m', hp1, hbw, rfl, hr⟩ := e1 _ _ rfl
              have hl2 := hlow2.len
              simp only [List.length_append, List.length_cons] at hfl
              refine ⟨Z, M2 ++ L, g, rf, mf, me, mx, co, ho, he, st, no, _, _, _, _, nov, stv2, tk + 1, fs.length, i, rfl, hco, C, hmf .en, by omega, by omega, by omega, .inr (.inr (.inr ⟨p, dp, fr, df, pa1, rp1, sl1, svs1, f1, b, x, (by simp only [List.cons_append] at S ⊢; exact S.sel (by wtm_at "sel")), hf1, hp1, hbw.bx, fun svs2 H S hf2 => ?_⟩))⟩
              exact q _ _ _ _ _ (tk + 1 + fs.length) m' ⟨low2, none, ⟨f1.t, f1.n + 1, (x, .int i) :: f1.env⟩, hn, ev⟩ [] [] _ _ (Same.refl _) (by rw [List.append_nil]; exact S.sel (by wtm_at "sel")) ⟨fr, df, pa1, rp1, sl1, svs2, stv2, M2, rfl, hlow2, hf2⟩ (List.append_nil _).symm .nil (by omega) (by omega) hr
          · obtain ⟨stv, Ml, kp, dk, nv, e, hlow, _, hnv⟩ := hrep
            simp only [List.cons.injEq, Prod.mk.injEq, true_and, HO.lst.injEq, List.append_cancel_right_eq] at e
            obtain ⟨rfl, rfl⟩ := e
            have hl2 : stv.length ≤ 2 * low.length + 1 := hlow.len
            refine ⟨Z, Ml ++ L, g, rf, mf, me, mx, co, ho, he, st, no, _, _, _, _, nov, stv, tk + 1, 0, i, rfl, hco, C, hmf .en, by omega, by omega, by omega, .inl ⟨kp, dk, nv, hs, S.sel (by wtm_at "sel"), hnv, fun f2 d2 pa2 rp2 sl2 svs2 ev1 Z1 H hs1 S hev hf2 => ?_⟩⟩
            exact q _ _ _ _ _ (tk + 1) k ⟨low, none, ⟨.en, 0, [(g.en, .row hs), (g.ex, .int i)]⟩, hn, ev ++ [.ended]⟩ [.ended] [_] _ _ hs1 (S.sel (by wtm_at "sel")) ⟨f2, d2, pa2, rp2, sl2, svs2, stv, Ml, rfl, hlow.mono hs1, hf2⟩ rfl (.cons hev .nil) (by omega) (by omega) hr
      · cases gw with
        | false =>
          wtm_at "wp"
          exact hU _ _ ⟨_, _, rfl, S⟩
        | true =>
          wtm_at "wp"
          refine k_lc_list S (by wtm_at "in") (by wtm_at "wipe") (fun D i H => ∃ acc, acc.length ≤ i ∧ SH Z ((D, .lst acc) :: (me, cMachine.ob K mx [.ref co, .ref ho, .ref he, .int 600, .ref st, .int ((tk + 1 : Nat) : Int), .int (hn : Nat), .non, .ref no, .int cp, .int gr, .bl true]) :: (no, .lst nov) :: (st, .lst (X ++ [.ref f])) :: (f, cFrame.ob K d [.ref pa, .ref rp, .int (n : Nat), .ref sl]) :: (sl, .lst svs) :: R) H) (fun D H S => ⟨[], Nat.le_refl _, S⟩) (fun D i H ⟨_, _, S⟩ => S.at (.l (by wtm_at "mem"))) ?_ (by wtm_at "wipe") ?_
          · rintro D i x H hx ⟨acc, hal, S⟩
            have hi : i < (X ++ [V.ref f]).length := (List.getElem?_eq_some_iff.mp hx).1
            rw [List.length_append, List.length_cons, List.length_nil] at hi
            have hel : ElAt K Z ((D, .lst acc) :: (me, cMachine.ob K mx [.ref co, .ref ho, .ref he, .int 600, .ref st, .int ((tk + 1 : Nat) : Int), .int (hn : Nat), .non, .ref no, .int cp, .int gr, .bl true]) :: (no, .lst nov) :: (st, .lst (X ++ [.ref f])) :: (f, cFrame.ob K d [.ref pa, .ref rp, .int (n : Nat), .ref sl]) :: (sl, .lst svs) :: R) x := by
              rcases List.mem_append.mp (List.mem_of_getElem? hx) with hx | hx
              · exact (hXe x hx).up fun e he => List.mem_cons_of_mem _ (List.mem_cons_of_mem _ (List.mem_cons_of_mem _ (List.mem_cons_of_mem _ (List.mem_cons_of_mem _ (List.mem_cons_of_mem _ he)))))
              · obtain rfl := List.mem_singleton.mp hx
                exact ⟨f, d, _, rfl, .inl (by wtm_at "in")⟩
            wtm_at "wp"
            refine ⟨Z, _, x, rfl, S, .inr ⟨hel, fun b H S => ?_⟩⟩
            cases b with
            | false =>
              wtm_at "wp"
              exact ⟨acc, by omega, S⟩
            | true =>
              wtm_at "wp"
              exact ⟨_, by rw [List.length_append, List.length_cons, List.length_nil]; omega, S⟩
          · rintro D H ⟨acc, hal, S⟩
            wtm_at "wp"
            exact hU _ _ ⟨_, _, rfl, S.sub (by wtm_at "sub")⟩
    · wtm_at "wp"
      refine ⟨Z, _, me, mx, co, ho, he, _, _, _, _, _, _, _, tk, rfl, S, by omega, fun H S => ?_⟩
      wtm_at "wp"
      exact hU _ _ ⟨rfl, S⟩
end
end AL
/-! F7 -/
namespace AL
open PySem PySem.Spec PyProof.Rows L2
section
variable {P : Program} {w : World} {K : PySem.W.Frag} {mg : Str → Option Value} {base : Heap}
/-! ### Machine.__init__ -/
structure ProgOk (g : Pg) (rf : Pt → List Rw) (mf : Pt → Nat) : Prop where
  C : CodeOk g rf mf
  MO : MOk g
  mf : ∀ t, mf t ≤ 5000
  hl : g.hb.pcs.length ≤ 1000
  ok : ∀ p ∈ g.hb.pcs, p.okA
  us : g.hb.uses g.hh
def spMInit : Sp := fun vs H Q _ => ∃ (Z : Hp) (L : Lx) (g : Pg) (a : PgA) (rf : Pt → List Rw) (mf : Pt → Nat) (pg me mx ar : Addr), vs = [.ref me, .ref pg, .str g.f0, .ref ar, .int 600] ∧ SH Z ((me, cMachine.ob K mx []) :: L) H ∧ ProgAt Z g a pg ∧ Z ar = some (.lst []) ∧ ProgOk g rf mf ∧
  ∀ co ho he st no M Z1 H1, Same Z Z1 → SH Z1 ((me, cMachine.ob K mx [.ref co, .ref ho, .ref he, .int 600, .ref st, .int 0, .int 0, .non, .ref no, .int 0, .int 0, .bl true]) :: (no, .lst []) :: M) H1 → MRep K g rf mf Z1 [] ⟨.d0, 0, []⟩ st L M none → CodesAt Z1 g rf mf co → HowAt Z1 g ho → HearsAt Z1 g he → Q .non H1
theorem ok_Machine_init (T : Tx K mg) : Mak P w K mg base 6 cMachine ["self", "program", "f", "args", "bound"] (spMInit (K := K)) := by
  refine mk_mak (c := cMachine) (F_Machine_init T) (g_Machine T) (k_Machine T) sc_Machine_init (fun _ _ _ _ _ _ us hl => match us, hl with | [_, _, _, _, _], _ => rfl) ?len ?body
  case len =>
    rintro vs H Q E ⟨Z, L, g, a, rf, mf, pg, me, mx, ar, rfl, _⟩
    rfl
  case body =>
    rintro cdv A outer s H vs Q E hr ⟨Z, L, g, a, rf, mf, pg, me, mx, ar, rfl, S, A1, har, ⟨C, MO, hmf, hl, ok, us⟩, q⟩
    refine ⟨_, (pss_cons (ps_atK (K := K) (c := cMachine) (i := 0) (ok_cMachine T) (pv 0) (pe_cal (ok_code_of T) hr (pa_cons (pv 1) pa_nil))) (pss_cons (ps_atK (K := K) (c := cMachine) (i := 1) (ok_cMachine T) (pv 0) (pe_cal (ok_hold_words T) hr (pa_cons (pv 1) pa_nil))) (pss_cons (ps_atK (K := K) (c := cMachine) (i := 2) (ok_cMachine T) (pv 0) (pe_cal (ok_heard_by T) hr (pa_cons (pv 1) pa_nil))) (pss_cons (ps_atK (K := K) (c := cMachine) (i := 3) (ok_cMachine T) (pv 0) (pv 4)) (pss_cons (ps_atK (K := K) (c := cMachine) (i := 4) (ok_cMachine T) (pv 0) (pe_lst pa_nil)) (pss_cons (ps_atK (K := K) (c := cMachine) (i := 5) (ok_cMachine T) (pv 0) pe_int) (pss_cons (ps_atK (K := K) (c := cMachine) (i := 6) (ok_cMachine T) (pv 0) pe_int) (pss_cons (ps_atK (K := K) (c := cMachine) (i := 7) (ok_cMachine T) (pv 0) pe_non) (pss_cons (ps_atK (K := K) (c := cMachine) (i := 8) (ok_cMachine T) (pv 0) (pe_lst pa_nil)) (pss_cons (ps_atK (K := K) (c := cMachine) (i := 9) (ok_cMachine T) (pv 0) pe_int) (pss_cons (ps_atK (K := K) (c := cMachine) (i := 10) (ok_cMachine T) (pv 0) pe_int) (pss_cons (ps_atK (K := K) (c := cMachine) (i := 11) (ok_cMachine T) (pv 0) pe_bl) (pss_one (ps_expr (pe_metK (K := K) (ok_cMachine T) (ok_Machine_begin T) hr (by decide +kernel) (pv 0) (pa_cons (pe_tup (pa_cons pe_str (pa_cons (pv 2) pa_nil))) (pa_cons (pe_callTy call_listOf (by rfl) (b_list T) (by decide +kernel) (pa_cons (pv 3) pa_nil)) pa_nil))))))))))))))))), ?_⟩
    show (_ : TS) _ ([some _, some _, some _, some _, some _] : L2.St) _
    wtm_at "wp"
    refine ⟨Z, _, g, a, pg, rf, mf, rfl, S, A1, C, fun co Z1 H hs1 S hco => ?_⟩
    wtm_at "wp"
    refine ⟨Z1, _, g, a, pg, rfl, S, A1.mono hs1, hl, ok, us, fun ho Z2 H hs2 S hho => ?_⟩
    have hsA := hs1.trans hs2
    wtm_at "wp"
    refine ⟨Z2, _, g, a, pg, rfl, S, A1.mono hsA, fun he hel Z3 H hs3 S hhe1 hhe2 => ?_⟩
    have hsB := hsA.trans hs3
    replace har := hsB _ _ har
    wtm_at "wp"
    obtain ⟨S, hs4, hz4⟩ := S.pick (o := .tup [.str "def", .str g.f0]) (by wtm_at "pick")
    have h34 := hs3.trans hs4
    refine ⟨_, (_, .lst []) :: L, g, rf, mf, me, mx, co, ho, he, _, _, _, _, _, _, _, _, _, _, [], [], .d0, [], rfl, S.sel (by wtm_at "sel"), hco.mono (hs2.trans h34), C, hmf .d0, hz4, by decide, .nil, rfl, fun f d rp sl svs Z5 H hs5 S hf => ?_⟩
    wtm_at "wp"
    exact q _ _ _ _ _ _ _ _ ((hsB.trans hs4).trans hs5) (S.sel (by wtm_at "sel")) ⟨f, d, _, rp, sl, svs, [], [], rfl, .nil, hf⟩ (hco.mono ((hs2.trans h34).trans hs5)) ((h34.trans hs5) _ _ hho) ⟨hel, (hs4.trans hs5) _ _ hhe1, (hs4.trans hs5) _ _ hhe2⟩
/-! ### by_rows -/
def RunAt5 (Z : Hp) (g : Pg) (k : Nat) (evs : List Ev) (i : Int) (r : V) : Prop := ∃ p e b ws x y, r = .ref p ∧ Z p = some (.tup [.ref e, .int (k : Nat), .ref b, x, y]) ∧ Z e = some (.tup [.str "gave", .int i]) ∧ Z b = some (.lst ws) ∧ Paired (EvAt Z g) evs ws
def spByRows : Sp := fun vs H Q _ => ∃ (Z : Hp) (L : Lx) (g : Pg) (a : PgA) (rf : Pt → List Rw) (mf : Pt → Nat) (pg ar : Addr) (k : Nat) (evs : List Ev) (i : Int), vs = [.ref pg, .str g.f0, .ref ar, .int 600] ∧ SH Z L H ∧ ProgAt Z g a pg ∧ Z ar = some (.lst []) ∧ ProgOk g rf mf ∧
  ARun g AS0 k evs i ∧ k < 600 ∧ ∀ r Z1 H1, Same Z Z1 → SH Z1 L H1 → RunAt5 Z1 g k evs i r → Q r H1
theorem ok_by_rows (T : Tx K mg) : Cal P w K mg base 8 "by_rows" ["program", "f", "args", "bound"] spByRows := by
  refine mk_cal (F_by_rows T) (g_by_rows T) sc_by_rows (fun _ _ _ _ _ _ us hl => match us, hl with | [_, _, _, _], _ => rfl) ?len ?body
  case len =>
    rintro vs H Q E ⟨Z, L, g, a, rf, mf, pg, ar, k, evs, i, rfl, _⟩
    rfl
  case body =>
    rintro cdv A outer s H vs Q E hr ⟨Z, L, g, a, rf, mf, pg, ar, k, evs, i, rfl, S, A1, har, PO, hrun, hk, q⟩
    refine ⟨_, (pss_cons (ps_set (i := 4) sc_by_rows.nd rfl (Or.inl rfl) (pe_makK (K := K) (c := cMachine) (ok_Machine_init T) hr (pa_cons (pv 0) (pa_cons (pv 1) (pa_cons (pv 2) (pa_cons (pv 3) pa_nil)))))) (pss_cons (ps_while PassesOwn.never (pt_cmpR op_isNon (pe_atK (K := K) (c := cMachine) (i := 7) (ok_cMachine T) (pv 4)) pe_non (nomark _)) (pss_one (ps_expr (pe_met0K (K := K) (ok_cMachine T) (ok_Machine_turn T) hr (by decide +kernel) (pv 4))))) (pss_one (ps_ret (pe_tup (pa_cons (pe_atK (K := K) (c := cMachine) (i := 7) (ok_cMachine T) (pv 4)) (pa_cons (pe_atK (K := K) (c := cMachine) (i := 5) (ok_cMachine T) (pv 4)) (pa_cons (pe_callTy call_listOf (by rfl) (b_list T) (by decide +kernel) (pa_cons (pe_atK (K := K) (c := cMachine) (i := 8) (ok_cMachine T) (pv 4)) pa_nil)) (pa_cons (pe_atK (K := K) (c := cMachine) (i := 9) (ok_cMachine T) (pv 4)) (pa_cons (pe_atK (K := K) (c := cMachine) (i := 10) (ok_cMachine T) (pv 4)) pa_nil)))))))))), ?_⟩
    show (_ : TS) _ ([some _, some _, some _, some _, none] : L2.St) _
    wtm_at "wp"
    refine ⟨Z, _, g, a, rf, mf, pg, x, dx, ar, rfl, S, A1, har, PO, fun co ho he st no M1 Z1 H hs S hrep hco hho hhe => ⟨rfl, ?_⟩⟩
    wtm_at "wp"
    refine w_while (fun m σ H => σ = [some (.ref pg), some (.str g.f0), some (.ref ar), some (.int 600), some (.ref x)] ∧
      ((∃ Z2 st M nov cp gr gw s tk, Same Z1 Z2 ∧ SH Z2 ((x, cMachine.ob K dx [.ref co, .ref ho, .ref he, .int 600, .ref st, .int (tk : Nat), .int ((AS.held s : Nat) : Int), .non, .ref no, .int cp, .int gr, .bl gw]) :: (no, .lst nov) :: M) H ∧ MRep K g rf mf Z2 (AS.low s) (AS.top s) st L M (AS.note s) ∧ Paired (EvAt Z2 g) s.ev nov ∧ ARun g s m evs i ∧ tk + m = k) ∨
       (m = 0 ∧ ∃ Z2 st fp hn nov cp gr gw, Same Z1 Z2 ∧ SH Z2 ((x, cMachine.ob K dx [.ref co, .ref ho, .ref he, .int 600, st, .int (k : Nat), hn, .ref fp, .ref no, cp, gr, gw]) :: (no, .lst nov) :: L) H ∧ Z2 fp = some (.tup [.str "gave", .int i]) ∧ Paired (EvAt Z2 g) evs nov)))
      k ⟨rfl, .inl ⟨Z1, st, M1, [], 0, 0, true, AS0, 0, Same.refl _, S, hrep, .nil, hrun, by omega⟩⟩ ?_
    rintro m σ H ⟨rfl, ⟨Z2, st, M, nov, cp, gr, gw, s, tk, hs2, S, hstk, hev, hrun, hm⟩ | ⟨rfl, Z2, st, fp, hn, nov, cp, gr, gw, hs2, S, hfp, hev⟩⟩
    · wtm_at "wp"
      refine k_turn ?_
      wtm_at "wp"
      have hnl := hev.length
      have hfit : AFit s := by cases hrun <;> assumption
      have hf2 := hfit.2.1
      refine ⟨Z2, L, M, g, rf, mf, x, dx, co, ho, he, st, no, cp, gr, gw, nov, tk, m, s, evs, i, rfl, S, hstk, hco.mono hs2, hs2 _ _ hho, hhe.mono hs2, PO.C, PO.MO, PO.mf, by omega, hrun, by omega, fun M2 st2 cp2 gr2 gw2 tk2 m2 s2 ev2 ew Z3 H hs3 S hrep2 hev2 hpe hlt hsum hr2 => ?_, fun st2 fp hn2 cp2 gr2 gw2 Z3 H hs3 S hfp hevs => ?_⟩
      · exact ⟨m2, hlt, rfl, .inl ⟨Z3, st2, M2, _, cp2, gr2, gw2, s2, tk2, hs2.trans hs3, S, hrep2, by rw [hev2]; exact Paired.app (Paired.mapP hev fun _ _ z => EvAt.mono hs3 z) hpe, hr2, by omega⟩⟩
      · rw [hm] at S
        have hm1 : 1 ≤ m := by cases hrun <;> omega
        exact ⟨0, by omega, rfl, .inr ⟨rfl, Z3, st2, fp, hn2, nov, cp2, gr2, gw2, hs2.trans hs3, S, hfp, by rw [← hevs]; exact Paired.mapP hev fun _ _ z => EvAt.mono hs3 z⟩⟩
    · wtm_at "wp"
      refine if_F (by rfl) ?_
      wtm_at "wp"
      obtain ⟨S, hs3, hz3⟩ := S.pick (o := .lst nov) (by wtm_at "pick")
      obtain ⟨S, hs4, hz4⟩ := S.pick (by wtm_at "pick")
      have hsB := hs3.trans hs4
      exact q _ _ _ (((hs.trans hs2)).trans hsB) (S.sub (by wtm_at "sub")) ⟨_, fp, _, nov, _, _, rfl, hz4, hsB _ _ hfp, hs4 _ _ hz3, Paired.mapP hev fun _ _ z => EvAt.mono hsB z⟩
end
end AL
/-! G0 -/
namespace AL
open PySem PySem.Spec PyProof.Rows L2
/-! ### the law's draws -/
abbrev dealKv (s n : Int) (lf : Addr) : KVs := [(.inr "seed", .int s), (.inr "number", .int n), (.inr "left", .ref lf)]
theorem ks_ne : ("seed" : Str) ≠ "number" ∧ ("seed" : Str) ≠ "left" ∧ ("number" : Str) ≠ "left" := ⟨by decide, by decide, by decide⟩
section
variable {s n m : Int} {lf : Addr}
theorem dk_seed : valV (dealKv s n lf) (.inr "seed") = some (.int s) := valV_pos rfl
theorem dk_number : valV (dealKv s n lf) (.inr "number") = some (.int n) := by
  rw [valV_neg (fun e => ks_ne.1 (Sum.inr.inj e))]; exact valV_pos rfl
theorem dk_left : valV (dealKv s n lf) (.inr "left") = some (.ref lf) := by
  rw [valV_neg (fun e => ks_ne.2.1 (Sum.inr.inj e)), valV_neg (fun e => ks_ne.2.2 (Sum.inr.inj e))]; exact valV_pos rfl
theorem dp_number : putK (dealKv s n lf) (.inr "number") (.int m) = dealKv s m lf := by
  have h1 := ks_ne.1
  have h2 := ks_ne.2.2.symm
  simp [putK, h1, h2]
theorem dp_seed : putK (dealKv s n lf) (.inr "seed") (.int m) = dealKv m n lf := by
  have h1 := ks_ne.1.symm
  have h2 := ks_ne.2.1.symm
  simp [putK, h1, h2]
end
structure DealOk (s n : Int) (ns : List Int) : Prop where
  s0 : 0 ≤ s
  s1 : s < 4294967296
  n0 : 0 ≤ n
  a : ∀ x ∈ ns, 0 ≤ x
section
variable {P : Program} {w : World} {K : PySem.W.Frag} {mg : Str → Option Value} {base : Heap}
def spLDraw : Sp := fun vs H Q _ => ∃ (Z : Hp) (L : Lx) (dd lf : Addr) (s n many : Int) (ns : List Int), vs = [.ref dd, .int many] ∧ SH Z ((dd, .dK (dealKv s n lf)) :: (lf, .lst (ns.map V.int)) :: L) H ∧ DealOk s n ns ∧ 0 < many ∧ many < 1000 ∧
  ∀ r s' n' ns' H1, 0 ≤ r → r < many → SH Z ((dd, .dK (dealKv s' n' lf)) :: (lf, .lst (List.map V.int ns')) :: L) H1 → DealOk s' n' ns' → Q (.int r) H1
theorem ok_l_draw (T : Tx K mg) : Cal P w K mg base 1 "_law_draw" ["_law_deal_here", "_law_many"] spLDraw := by
  refine mk_cal (F_l_draw T) (g_law_draw T) sc_l_draw (fun _ _ _ _ _ _ us hl => match us, hl with | [_, _], _ => rfl) ?len ?body
  case len =>
    rintro vs H Q E ⟨Z, L, dd, lf, s, n, many, ns, rfl, _⟩
    rfl
  case body =>
    rintro cdv A outer s0 H vs Q E hr ⟨Z, L, dd, lf, s, n, many, ns, rfl, S, D, hm0, hm1, q⟩
    refine ⟨_, (pss_cons (ps_while PassesOwn.never (PW.pt (pw_and (pt_cmpR op_eq (pe_dget (hu_of hr) (pv 0) pe_str (fun _ _ => rfl)) pe_int (nomark _)) (pw_and1 (pt_cmpR op_gt (pe_callB call_lenA (by rfl) (b_len T) (by decide +kernel) (pa_cons (pe_dget (hu_of hr) (pv 0) pe_str (fun _ _ => rfl)) pa_nil)) pe_int (nomark _))))) (pss_one (ps_dput (hu_of hr) (pv 0) pe_str (pe_bm0K (K := K) (pe_bm0 PySem.F.plainAttrs_list PySem.F.slot_list_pop PySem.F.type_list_pop mt_pop (pe_dget (hu_of hr) (pv 0) pe_str (fun _ _ => rfl)))) rfl))) (pss_cons (ps_set (i := 2) sc_l_draw.nd rfl (Or.inl rfl) (pe_dget (hu_of hr) (pv 0) pe_str (fun _ _ => rfl))) (pss_cons (ps_if (pt_cmpR op_gt (pv 2) pe_int (nomark _)) (pss_cons (ps_dput (hu_of hr) (pv 0) pe_str (pe_op op_fdiv (pv 2) (pv 1)) rfl) (pss_one (ps_ret (pe_op op_mod (pv 2) (pv 1))))) pss_nil) (pss_cons (ps_set (i := 3) sc_l_draw.nd rfl (Or.inl rfl) (pe_op op_mod (pe_op op_add (pe_op op_mul (pe_dget (hu_of hr) (pv 0) pe_str (fun _ _ => rfl)) pe_int) pe_int) pe_int)) (pss_cons (ps_dput (hu_of hr) (pv 0) pe_str (pe_op op_mod (pe_op op_add (pe_op op_mul (pv 3) pe_int) pe_int) pe_int) rfl) (pss_cons (ps_set (i := 4) sc_l_draw.nd rfl (Or.inl rfl) (pe_op op_mod (pe_op op_mul (pe_dget (hu_of hr) (pv 0) pe_str (fun _ _ => rfl)) (pe_dget (hu_of hr) (pv 0) pe_str (fun _ _ => rfl))) pe_int)) (pss_one (ps_ret (pe_op op_mod (pe_op op_add (pe_op op_mul (pe_op op_mod (pe_op op_mul (pv 3) (pv 3)) pe_int) pe_int) (pv 4)) (pv 1)))))))))), ?_⟩
    show (_ : TS) _ ([some _, some _, none, none, none] : L2.St) _
    refine seq_share (fun σ H => σ = [some (.ref dd), some (.int many), none, none, none] ∧ ∃ (n : Int) (ns : List Int), SH Z ((dd, .dK (dealKv s n lf)) :: (lf, .lst (ns.map V.int)) :: L) H ∧ DealOk s n ns) (fun σ H hS => ?_) fun U hU => ?_
    · clear S D n ns
      obtain ⟨rfl, n, ns, S, D⟩ := hS
      obtain ⟨d1, d2, d3, d4⟩ := D
      wtm_at "wp"
      by_cases hn : 0 < n
      · refine if_T (decide_eq_true hn) ?_
        wtm_at "wp"
        refine k_I ⟨hm0, by omega⟩ ?_
        wtm_at "wp"
        rw [dp_number] at S
        refine k_I hm0 ?_
        exact q _ _ _ _ _ (Int.emod_nonneg _ (by omega)) (Int.emod_lt_of_pos _ hm0) S ⟨d1, d2, Int.ediv_nonneg d3 (by omega), d4⟩
      · refine if_F (decide_eq_false hn) ?_
        wtm_at "wp"
        refine k_I (.inl ⟨by omega, by omega⟩) ?_
        wtm_at "wp"
        refine k_I (by decide) ?_
        wtm_at "wp"
        have o0 := Int.emod_nonneg (s * 48271 + 7919) (show (2147483647 : Int) ≠ 0 by decide)
        have o1 := Int.emod_lt_of_pos (s * 48271 + 7919) (show (0 : Int) < 2147483647 by decide)
        generalize (s * 48271 + 7919) % 2147483647 = o at *
        refine k_I (.inl ⟨by omega, by omega⟩) ?_
        wtm_at "wp"
        refine k_I (by decide) ?_
        wtm_at "wp"
        rw [dp_seed] at S
        have p0 := Int.emod_nonneg (o * 40692 + 104729) (show (2147483399 : Int) ≠ 0 by decide)
        have p1 := Int.emod_lt_of_pos (o * 40692 + 104729) (show (0 : Int) < 2147483399 by decide)
        generalize (o * 40692 + 104729) % 2147483399 = p at *
        wtm_at "wp"
        refine k_I (.inl ⟨by omega, by omega⟩) ?_
        wtm_at "wp"
        refine k_I (by decide) ?_
        wtm_at "wp"
        refine k_I (.inl ⟨by omega, by omega⟩) ?_
        wtm_at "wp"
        refine k_I (by decide) ?_
        wtm_at "wp"
        refine k_I (.inr ⟨by decide, by decide⟩) ?_
        wtm_at "wp"
        refine k_I hm0 ?_
        exact q _ _ _ _ _ (Int.emod_nonneg _ (by omega)) (Int.emod_lt_of_pos _ hm0) S ⟨p0, by omega, d3, d4⟩
    · refine w_while (fun m σ H => σ = [some (.ref dd), some (.int many), none, none, none] ∧ ∃ (n : Int) (ns : List Int), SH Z ((dd, .dK (dealKv s n lf)) :: (lf, .lst (ns.map V.int)) :: L) H ∧ DealOk s n ns ∧ m = ns.length) ns.length ⟨rfl, n, ns, S, D, rfl⟩ ?_
      clear S D n ns
      rintro m σ H ⟨rfl, n, ns, S, D, rfl⟩
      wtm_at "wp"
      by_cases hn : n = 0
      · refine if_T (decide_eq_true (by rw [hn])) ?_
        wtm_at "wp"
        rcases List.eq_nil_or_concat ns with rfl | ⟨ms, x, rfl⟩
        · refine if_F (by rfl) ?_
          exact hU _ _ ⟨rfl, n, _, S, D⟩
        · rw [List.concat_eq_append, List.map_append] at S ⊢
          refine if_T (decide_eq_true (by rw [List.length_append, List.map_cons, List.length_cons]; omega)) ?_
          refine k_turn ?_
          simp only [List.map_cons, List.map_nil] at S ⊢
          wtm_at "wp"
          rw [dp_number] at S
          exact ⟨ms.length, by rw [List.length_append, List.length_cons]; omega, rfl, x, ms, S, ⟨D.s0, D.s1, D.a _ (by simp), fun y hy => D.a _ (by simp [hy])⟩, rfl⟩
      · refine if_F (decide_eq_false fun z => hn (V.int.inj z)) ?_
        exact hU _ _ ⟨rfl, n, _, S, D⟩
end
end AL
/-! G1 -/
namespace AL
open PySem PySem.Spec PyProof.Rows L2
section
variable {K : PySem.W.Frag} {σ : L2.St} {H : Hp} {Q : VK} {Z : Hp} {L L1 : Lx} {p : Addr}
def kDisp (p : Addr) (ps : List (V × V)) (H2 : Hp) (Q : VK) : Prop := H2 p = some (.dK []) ∧ ∃ kvs : List (Key × V), ps = kvs.map (fun kv => (kV kv.1, kv.2)) ∧ kvs.length ≤ 15 ∧ Q (.ref p) (upd H2 p (.dK (mergeK [] kvs)))
theorem w_disp {trs : List (TE × TE)} (S : SH Z L H) (h : ∀ p H1, SH Z ((p, .dK []) :: L) H1 → tPairs trs σ H1 fun ps H2 => kDisp p ps H2 Q) : tDisp trs σ H Q := fun p hp => h p _ (S.new hp)
theorem w_pair {tk tv : TE} {r : List (TE × TE)} {QP : List (V × V) → Hp → Prop} (h : tk σ H fun x H1 => tv σ H1 fun y H2 => tPairs r σ H2 fun ps H3 => QP ((x, y) :: ps) H3) : tPairs ((tk, tv) :: r) σ H QP := h
theorem w_pair0 {QP : List (V × V) → Hp → Prop} (h : QP [] H) : tPairs [] σ H QP := h
theorem k_disp {kvs : List (Key × V)} {ps : List (V × V)} (S : SH Z L H) (hm : (p, HO.dK []) ∈ L) (e : ps = kvs.map (fun kv => (kV kv.1, kv.2))) (hl : kvs.length ≤ 15) (hw : Wr L p (.dK (mergeK [] kvs)) L1) (q : ∀ H1, SH Z L1 H1 → Q (.ref p) H1) : kDisp p ps H Q :=
  ⟨S.l _ _ hm, kvs, e, hl, q _ (S.wr hw)⟩
theorem k_slLS {a : Addr} {xs ys : List V} {lo hi : Option Int} (S : SH Z L H) (h : SqL K Z a xs) (he : cutV xs lo hi = ys) (q : ∀ p H1, SH Z ((p, .lst ys) :: L) H1 → Q (.ref p) H1) : rSlL K (.ref a) lo hi H Q :=
  ⟨a, xs, rfl, Same.seq S.z h, fun p hp => by rw [he]; exact q p _ (S.new hp)⟩
theorem cutV_map {α : Type} (f : α → V) (xs : List α) (lo hi : Option Int) : ∃ ys : List α, cutV (xs.map f) lo hi = ys.map f ∧ ys.length ≤ xs.length := by
  unfold cutV
  refine ⟨(xs.drop (HT.sIx (xs.map f).length 0 lo)).take (HT.sIx (xs.map f).length (xs.map f).length hi - HT.sIx (xs.map f).length 0 lo), by simp [List.map_take, List.map_drop], ?_⟩
  rw [List.length_take, List.length_drop]
  omega
end
theorem deal_merge {s n : Int} {lf : Addr} : mergeK [] [((.inr "seed" : Key), V.int s), (.inr "number", .int n), (.inr "left", .ref lf)] = dealKv s n lf := by
  have h1 := ks_ne.1
  have h2 := ks_ne.2.1
  have h3 := ks_ne.2.2
  simp [mergeK, putK, h1, h2, h3]
section
variable {P : Program} {w : World} {K : PySem.W.Frag} {mg : Str → Option Value} {base : Heap}
def spLDeal : Sp := fun vs H Q _ => ∃ (Z : Hp) (L : Lx) (ar : Addr) (ns : List Int), vs = [.ref ar, .int 0] ∧ SH Z L H ∧ SqL K Z ar (ns.map V.int) ∧ ns.length ≤ 63 ∧
  ∀ dd lf s n ms H1, SH Z ((dd, .dK (dealKv s n lf)) :: (lf, .lst (List.map V.int ms)) :: L) H1 → DealOk s n ms → Q (.ref dd) H1
theorem ok_l_deal (T : Tx K mg) : Cal P w K mg base 1 "_law_deal" ["_law_script", "_law_base"] (spLDeal (K := K)) := by
  refine mk_cal (F_l_deal T) (g_law_deal T) sc_l_deal (fun _ _ _ _ _ _ us hl => match us, hl with | [_, _], _ => rfl) ?len ?body
  case len =>
    rintro vs H Q E ⟨Z, L, ar, ns, rfl, _⟩
    rfl
  case body =>
    rintro cdv A outer s0 H vs Q E hr ⟨Z, L, ar, ns, rfl, S, hsc, hnl, q⟩
    refine ⟨_, (pss_cons (ps_setLc (i := 3) (own := [("_law_one", 2)]) (g := gName 2) (tt := tYes) (by rfl) sc_l_deal.nd rfl rfl (sw_true rfl rfl rfl (by decide +kernel)) (pi_listK (K := K) (pe_slice (sl_listK (K := K)) (pv 0) (po_some (pv 1)) (po_some pe_int))) (blkOk_by (own := [("_law_one", 2)]) (N := ["_law_script", "_law_base", "_law_one", "_law_some", "_law_number"]) (sc := defScope s_l_deal) (by decide +kernel)) (fun _ _ _ _ _ => (pg_name (i := 2) sc_l_deal.nd rfl (Or.inl rfl))) (fun _ _ _ _ _ => pts_nil) (fun _ _ _ _ _ => (pe_callB (call_mx2 rfl) (by rfl) (b_max T) (by decide +kernel) (pa_cons (pv 2) (pa_cons (pe_op op_sub pe_int (pv 2)) pa_nil))))) (pss_cons (ps_set (i := 4) sc_l_deal.nd rfl (Or.inl rfl) (pe_op op_add pe_int (pv 1))) (pss_cons (ps_for PassesOwn.never rfl (pi_listK (K := K) (pv 3)) (pg_name (i := 2) sc_l_deal.nd rfl (Or.inl rfl)) (pss_one (ps_set (i := 4) sc_l_deal.nd rfl (Or.inl rfl) (pe_op op_mod (pe_op op_add (pe_op op_mul (pv 4) pe_int) (pe_op op_mod (pv 2) pe_int)) pe_int)))) (pss_one (ps_ret (pe_disp (pps_cons pe_str (pv 4) (pps_cons pe_str pe_int (pps_cons pe_str (pe_listRev (K := K) rfl (by rfl) (b_list T) (by rfl) (b_reversed T) (pe_lc (own := [("_law_one", 2)]) (g := gName 2) (by rfl) sc_l_deal.nd (pi_listK (K := K) (pv 3)) (blkOk_by (own := [("_law_one", 2)]) (N := ["_law_script", "_law_base", "_law_one", "_law_some", "_law_number"]) (sc := defScope s_l_deal) (by decide +kernel)) (fun _ _ _ _ _ => (pg_name (i := 2) sc_l_deal.nd rfl (Or.inl rfl))) (fun _ _ _ _ _ => pts_one (pt_cmpR op_ge (pv 2) (pe_op op_pow pe_int pe_int) (nomark _))) (fun _ _ _ _ _ => (pv 2)))) pps_nil))) (by rfl) (by rfl) (fun z => by cases z) (by decide))))))), ?_⟩
    show (_ : TS) _ ([some _, some _, none, none, none] : L2.St) _
    obtain ⟨ms, hms, hml⟩ := cutV_map V.int ns (some 0) (some 63)
    wtm_at "wp"
    refine k_slLS S hsc hms fun sp H S => ?_
    wtm_at "wp"
    refine k_lc_list S (by wtm_at "in") (by wtm_at "wipe") (fun D i H => ∃ rs : List Int, (∀ x ∈ rs, 0 ≤ x) ∧ rs.length ≤ i ∧ SH Z ((D, .lst (rs.map V.int)) :: (sp, .lst (ms.map V.int)) :: L) H) (fun D H S => ⟨[], by simp, Nat.le_refl _, S⟩) (fun D i H ⟨_, _, _, S⟩ => S.at (.l (by wtm_at "mem"))) ?_ (by wtm_at "wipe") ?_
    · rintro D i x H hx ⟨rs, h1, h2, S⟩
      have hi : i < ms.length := by have := (List.getElem?_eq_some_iff.mp hx).1; rw [List.length_map] at this; exact this
      rw [List.getElem?_map] at hx
      obtain ⟨y, hy, rfl⟩ : ∃ y : Int, ms[i]? = some y ∧ V.int y = x := by
        cases e : ms[i]? with
        | none => rw [e] at hx; cases hx
        | some y => rw [e] at hx; exact ⟨y, rfl, Option.some.inj hx⟩
      wtm_at "wp"
      refine k_lcapp S (by wtm_at "mem") (ha := .any) (hl := lt_line (by rw [List.length_map]; omega)) (hw := by wtm_at "wr") (q := fun H1 S => ?_)
      refine ⟨rs ++ [if 0 - y > y then 0 - y else y], fun x hx => ?_, by rw [List.length_append, List.length_cons, List.length_nil]; omega, by rw [List.map_append]; exact S⟩
      rcases List.mem_append.mp hx with hx | hx
      · exact h1 x hx
      · obtain rfl := List.mem_singleton.mp hx
        split <;> omega
    · rintro D H ⟨rs, h1, h2, S⟩
      rw [List.length_map] at h2
      wtm_at "wp"
      refine k_for_list S (by wtm_at "in") (fun i σ H => ∃ o n, σ = [some (.ref ar), some (.int 0), o, some (.ref D), some (.int n)] ∧ 0 ≤ n ∧ n < 4294967296 ∧ SH Z ((D, .lst (rs.map V.int)) :: L) H) ⟨_, _, rfl, by decide, by decide, S.sub (by wtm_at "sub")⟩ (fun i σ H ⟨_, _, _, _, _, S⟩ => S.at (.l (by wtm_at "mem"))) ?_ ?_
      · rintro i x σ H hx ⟨o, n, rfl, n0, n1, S⟩
        rw [List.getElem?_map] at hx
        obtain ⟨y, hy, rfl⟩ : ∃ y : Int, rs[i]? = some y ∧ V.int y = x := by
          cases e : rs[i]? with
          | none => rw [e] at hx; cases hx
          | some y => rw [e] at hx; exact ⟨y, rfl, Option.some.inj hx⟩
        wtm_at "wp"
        refine k_I (.inl ⟨by omega, by omega⟩) ?_
        wtm_at "wp"
        refine k_I (by decide) ?_
        wtm_at "wp"
        refine k_I (by decide) ?_
        wtm_at "wp"
        have o1 := Int.emod_lt_of_pos (n * 48271 + y % 2147483629) (show (0 : Int) < 2147483647 by decide)
        exact ⟨_, _, rfl, Int.emod_nonneg _ (by decide), by omega, S⟩
      · rintro σ H ⟨o, n, rfl, n0, n1, S⟩
        wtm_at "wp"
        refine w_disp S fun dd H S => ?_
        refine w_pair ?_
        wtm_at "wp"
        refine w_pair ?_
        wtm_at "wp"
        refine w_pair ?_
        wtm_at "wp"
        refine k_lc_list S (by wtm_at "in") (by wtm_at "wipe") (fun E i H => ∃ us : List Int, (∀ x ∈ us, 0 ≤ x) ∧ us.length ≤ i ∧ SH Z ((E, .lst (us.map V.int)) :: (dd, .dK []) :: (D, .lst (rs.map V.int)) :: L) H) (fun E H S => ⟨[], by simp, Nat.le_refl _, S⟩) (fun E i H ⟨_, _, _, S⟩ => S.at (.l (by wtm_at "mem"))) ?_ (by wtm_at "wipe") ?_
        · rintro E i x H hx ⟨us, h3, h4, S⟩
          have hi : i < rs.length := by have := (List.getElem?_eq_some_iff.mp hx).1; rw [List.length_map] at this; exact this
          rw [List.getElem?_map] at hx
          obtain ⟨y, hy, rfl⟩ : ∃ y : Int, rs[i]? = some y ∧ V.int y = x := by
            cases e : rs[i]? with
            | none => rw [e] at hx; cases hx
            | some y => rw [e] at hx; exact ⟨y, rfl, Option.some.inj hx⟩
          wtm_at "wp"
          refine k_I ⟨by decide, by decide, by decide⟩ ?_
          wtm_at "wp"
          by_cases hc : (10 : Int) ^ (18 : Int).toNat ≤ y
          · refine if_T (decide_eq_true hc) ?_
            wtm_at "wp"
            refine k_lcapp S (by wtm_at "mem") (ha := .any) (hl := lt_line (by rw [List.length_map]; omega)) (hw := by wtm_at "wr") (q := fun H1 S => ?_)
            refine ⟨us ++ [y], fun x hx => ?_, by rw [List.length_append, List.length_cons, List.length_nil]; omega, by rw [List.map_append]; exact S⟩
            rcases List.mem_append.mp hx with hx | hx
            · exact h3 x hx
            · obtain rfl := List.mem_singleton.mp hx
              exact h1 _ (List.mem_of_getElem? hy)
          · refine if_F (decide_eq_false hc) ?_
            exact ⟨us, h3, by omega, S⟩
        · rintro E H ⟨us, h3, h4, S⟩
          wtm_at "wp"
          refine w_pair0 ?_
          refine k_disp (kvs := [(.inr "seed", _), (.inr "number", _), (.inr "left", _)]) S (by wtm_at "mem") rfl (by simp) (by wtm_at "wr") fun H S => ?_
          rw [deal_merge, ← List.map_reverse] at S
          refine q dd _ n 0 us.reverse _ (S.sel (by wtm_at "sel")) ⟨n0, n1, Int.le_refl _, fun x hx => h3 x (List.mem_reverse.mp hx)⟩
end
end AL
/-! G2 -/
namespace AL
open PySem PySem.Spec PyProof.Rows L2 TL
/-! ### the law's words -/
def lowS (z : Str) : Prop := ∀ c ∈ z.cps.toList, c < 128
theorem lowS.app {a b : Str} (h : lowS a) (h2 : lowS b) : lowS (a ++ b) := fun c hc => by
  have : (a ++ b).cps.toList = a.cps.toList ++ b.cps.toList := by rw [show (a ++ b).cps = a.cps ++ b.cps from rfl, Array.toList_append]
  rw [this] at hc
  rcases List.mem_append.mp hc with q | q
  · exact h c q
  · exact h2 c q
theorem tl_app (a b : Str) : tl (a ++ b) = tl a ++ tl b := by
  show (a ++ b).cps.toList = _
  rw [show (a ++ b).cps = a.cps ++ b.cps from rfl, Array.toList_append]
theorem len_app (a b : Str) : (a ++ b).length = a.length + b.length := by
  show (a.cps ++ b.cps).size = _
  rw [Array.size_append]; rfl
theorem lowS.cut {a : Str} (h : lowS a) (lo hi : Option Int) : lowS (cutS a lo hi) := fun c hc => by
  unfold cutS at hc
  simp only [List.toList_toArray] at hc
  exact h c (List.mem_of_mem_drop (List.mem_of_mem_take hc))
theorem lowS.ok {a : Str} (h : lowS a) : PyData.strOk a = true := by
  unfold PyData.strOk
  rw [← Array.all_toList, List.all_eq_true]
  intro c hc
  have := h c hc
  exact decide_eq_true (by omega)
theorem lowS.one {c : Nat} (h : c < 128) : lowS ⟨#[c]⟩ := fun d hd => by
  simp at hd; omega
abbrev abc : Str := "abcdefghijklmnopqrstuvwxyz"
abbrev qwxz : Str := "qwxz"
theorem abc_tl : tl abc = (List.range 26).map (97 + ·) := by decide +kernel
theorem qwxz_tl : tl qwxz = [113, 119, 120, 122] := by decide +kernel
theorem abc_at {i : Int} (h0 : 0 ≤ i) (h1 : i < 26) : atI abc.cps.toList i = some (97 + i.toNat) := by
  obtain ⟨k, rfl⟩ := Int.eq_ofNat_of_zero_le h0
  rw [show abc.cps.toList = (List.range 26).map (97 + ·) from abc_tl]
  refine L2.atI_nat ?_
  have hk : k < 26 := by omega
  simp [hk]
def c2 (k : Nat) : Nat := if k / 26 = 0 then 113 else if k / 26 = 1 then 119 else 120
theorem qwxz_at {k : Nat} (h : k < 64) : atI qwxz.cps.toList ((k : Nat) / 26 : Int) = some (c2 k) := by
  rw [show qwxz.cps.toList = [113, 119, 120, 122] from qwxz_tl, show ((k : Nat) : Int) / 26 = ((k / 26 : Nat) : Int) by omega]
  refine L2.atI_nat ?_
  unfold c2
  have hk : k / 26 = 0 ∨ k / 26 = 1 ∨ k / 26 = 2 := by omega
  rcases hk with e | e | e <;> rw [e] <;> rfl
/-- the k-th word: what stands ahead, two signs of its own -/
def WdOk (pre : List Nat) (t : Nat) (k : Nat) (s : Str) : Prop := lowS s ∧ ∃ suf, tl s = pre ++ (97 + (t + k) % 26) :: c2 k :: suf
theorem WdOk.inj {pre : List Nat} {t i j : Nat} {s : Str} (hi : i < 64) (hj : j < 64) (h1 : WdOk pre t i s) (h2 : WdOk pre t j s) : i = j := by
  obtain ⟨_, s1, e1⟩ := h1
  obtain ⟨_, s2, e2⟩ := h2
  rw [e1] at e2
  have e := List.append_cancel_left e2
  simp only [List.cons.injEq] at e
  obtain ⟨a, b, _⟩ := e
  have b1 : i / 26 = j / 26 := by
    unfold c2 at b
    have hi2 : i / 26 = 0 ∨ i / 26 = 1 ∨ i / 26 = 2 := by omega
    have hj2 : j / 26 = 0 ∨ j / 26 = 1 ∨ j / 26 = 2 := by omega
    rcases hi2 with e | e | e <;> rcases hj2 with f | f | f <;> rw [e, f] at b <;> first | (rw [e, f]; done) | (simp at b)
  omega
def rJoin (K : PySem.W.Frag) : V → List V → Hp → VK → Prop := fun x xs H Q => ∃ a p, ∃ ys : List Str, x = .str a ∧ xs = [.ref p] ∧ (SqL K H p (ys.map V.str) ∨ SqT K H p (ys.map V.str)) ∧
      (ys.map (·.length)).sum + ys.length * a.length ≤ 16777216 ∧ Q (.str (Txt.join a ys)) H
section
variable {X : Cx} {K : PySem.W.Frag} {o e : Expr} {to te : TE}
theorem pe_joinK {apos pos : Pos} (ho : PE X o to) (he : PE X e te) (hK : X.K = K := by rfl) (hs : starEach [e] X.env = [(false, eval e X.env)] := by rfl) (hbase : attributeBase o "join" X.env (eval o X.env) = eval o X.env := by rfl) (hline : (apos.endLine == pos.line) = true := by rfl) :
    PE X (.Call (.Attribute o "join" apos) [e] [] pos) (tM1 (rJoin K) to te) := by subst hK; exact pe_join ho he hs hbase hline
variable {σ : L2.St} {H : Hp} {Q : VK} {Z : Hp} {L : Lx}
theorem w_m1 {r : V → List V → Hp → VK → Prop} (h : to σ H fun x H1 => (∃ a, x = .str a) ∧ te σ H1 fun y H2 => r x [y] H2 Q) : tM1 r to te σ H Q := h
end
theorem joinL_nil : ∀ ps : List (List Nat), joinL [] ps = ps.flatten
  | [] => rfl
  | [p] => by simp [joinL]
  | p :: q :: r => by rw [joinL, joinL_nil (q :: r)]; simp
theorem join_ones {ys : List Str} (h : ∀ y ∈ ys, ∃ c, c < 128 ∧ y = ⟨#[c]⟩) : lowS (Txt.join ("" : Str) ys) ∧ (Txt.join ("" : Str) ys).length = ys.length := by
  have e : tl (Txt.join ("" : Str) ys) = (ys.map tl).flatten := by
    rw [join_eq, tl_join, show tl ("" : Str) = [] by decide +kernel, joinL_nil]
  constructor
  · intro c hc
    rw [show (Txt.join ("" : Str) ys).cps.toList = (ys.map tl).flatten from e] at hc
    obtain ⟨l, hl, hc⟩ := List.mem_flatten.mp hc
    obtain ⟨y, hy, rfl⟩ := List.mem_map.mp hl
    obtain ⟨d, hd, rfl⟩ := h y hy
    simp at hc; omega
  · have e2 := congrArg List.length e
    rw [show (tl (Txt.join ("" : Str) ys)).length = (Txt.join ("" : Str) ys).length from Array.length_toList] at e2
    rw [e2]
    clear e e2
    induction ys with
    | nil => rfl
    | cons y r ih =>
      obtain ⟨c, _, rfl⟩ := h y List.mem_cons_self
      rw [List.map_cons, List.flatten_cons, List.length_append, ih (fun z hz => h z (List.mem_cons_of_mem _ hz)), List.length_cons]
      simp; omega
theorem w_parb {N B C : L2.St → Hp → Prop} {R : VK} {σ : L2.St} {H : Hp} {i j : Nat} {t2 : TA} (h : t2 σ H fun vs H1 => ∃ v w, vs = [v, w] ∧ N ((σ.set i (some v)).set j (some w)) H1) : tPar i j t2 ⟨N, R, B, C⟩ σ H := h
theorem k_lenS {z : Str} {H : Hp} {Q : VK} (hl : z.length ≤ 100000) (q : Q (.int (z.length : Nat)) H) : (fun xs H Q => ∃ z, xs = [V.str z] ∧ z.length ≤ sizeLine ∧ Q (V.int ((z.length : Nat) : Int)) H : List V → Hp → VK → Prop) [.str z] H Q := ⟨z, rfl, le_line hl, q⟩
theorem k_ixS {z : Str} {i : Int} {c : Nat} {H : Hp} {Q : VK} (hl : z.length ≤ 100000) (h : atI z.cps.toList i = some c) (q : Q (.str ⟨#[c]⟩) H) : rIxS (.str z) (.int i) H Q := ⟨z, i, c, rfl, rfl, le_line hl, h, q⟩
theorem k_addS {a b : Str} {H : Hp} {Q : VK} (hl : a.length + b.length ≤ 100000) (q : Q (.str (a ++ b)) H) : rAddS (.str a) (.str b) H Q := ⟨a, b, rfl, rfl, le_line hl, q⟩
theorem k_slS {z : Str} {lo hi : Option Int} {H : Hp} {Q : VK} (hl : z.length ≤ 100000) (q : Q (.str (cutS z lo hi)) H) : rSlS (.str z) lo hi H Q := ⟨z, rfl, le_line hl, q⟩
theorem k_mulS {z : Str} {i : Int} {H : Hp} {Q : VK} (hi : i = 0 ∨ i = 1) (hz : z.length = 1) (q : Q (.str (if i = 1 then z else Str.empty)) H) : rMulS (.str z) (.int i) H Q := ⟨z, i, rfl, rfl, hi, hz, q⟩
section
variable {P : Program} {w : World} {K : PySem.W.Frag} {mg : Str → Option Value} {base : Heap}
def spLWords : Sp := fun vs H Q _ => ∃ (Z : Hp) (L : Lx) (dd lf : Addr) (s n : Int) (ns : List Int), vs = [.ref dd, .int 64] ∧ SH Z ((dd, .dK (dealKv s n lf)) :: (lf, .lst (ns.map V.int)) :: L) H ∧ DealOk s n ns ∧
  ∀ (ws : List Str) r s' n' ns' H1, ws.length = 64 → ws.Nodup → (∀ w ∈ ws, PyData.strOk w = true) → SH Z ((r, .lst (ws.map V.str)) :: (dd, .dK (dealKv s' n' lf)) :: (lf, .lst (List.map V.int ns')) :: L) H1 → DealOk s' n' ns' → Q (.ref r) H1
theorem ok_l_words (T : Tx K mg) : Cal P w K mg base 2 "_law_words" ["_law_deal_here", "_law_many"] (spLWords) := by
  refine mk_cal (F_l_words T) (g_law_words T) sc_l_words (fun _ _ _ _ _ _ us hl => match us, hl with | [_, _], _ => rfl) ?len ?body
  case len =>
    rintro vs H Q E ⟨Z, L, dd, lf, s, n, ns, rfl, _⟩
    rfl
  case body =>
    rintro cdv A outer s0 H vs Q E hr ⟨Z, L, dd, lf, s, n, ns, rfl, S, D, q⟩
    refine ⟨_, (pss_cons (ps_set (i := 2) sc_l_words.nd rfl (Or.inr rfl) pe_str) (pss_cons (ps_set (i := 4) sc_l_words.nd rfl (Or.inl rfl) (pe_joinK (K := K) pe_str (pe_lc (own := [("_law_k", 3)]) (g := gName 3) (tt := tYes) (by rfl) sc_l_words.nd (pi_range1 rfl (b_range T) (pa_cons (pe_cal (ok_l_draw T) hr (pa_cons (pv 0) (pa_cons pe_int pa_nil))) pa_nil)) (blkOk_by (own := [("_law_k", 3)]) (N := ["_law_deal_here", "_law_many", "_law_letters", "_law_k", "_law_core", "_law_at", "_law_turn", "_law_found", "_law_own"]) (sc := defScope s_l_words) (by decide +kernel)) (fun _ _ _ _ _ => (pg_name (i := 3) sc_l_words.nd rfl (Or.inl rfl))) (fun _ _ _ _ _ => pts_nil) (fun _ _ _ _ _ => (pe_ix ix_str (pv 2) (pe_cal (ok_l_draw T) hr (pa_cons (pv 0) (pa_cons pe_int pa_nil))) (fun _ _ => rfl)))))) (pss_cons (ps_par (i := 5) (j := 6) (by rfl) sc_l_words.nd rfl rfl (by decide) rfl rfl (pa_cons (pe_cal (ok_l_draw T) hr (pa_cons (pv 0) (pa_cons (pe_op op_add (pe_callB call_len_str (by rfl) (b_len T) (by decide +kernel) (pa_cons (pv 4) pa_nil)) pe_int) pa_nil))) (pa_cons (pe_cal (ok_l_draw T) hr (pa_cons (pv 0) (pa_cons pe_int pa_nil))) pa_nil)) (by rfl)) (pss_cons (ps_set (i := 7) sc_l_words.nd rfl (Or.inl rfl) (pe_lst pa_nil)) (pss_cons (ps_for PassesOwn.never rfl (pi_range1 rfl (b_range T) (pa_cons (pv 1) pa_nil)) (pg_name (i := 3) sc_l_words.nd rfl (Or.inl rfl)) (pss_cons (ps_set (i := 8) sc_l_words.nd rfl (Or.inl rfl) (pe_op op_addS (pe_ix ix_str (pv 2) (pe_op op_mod (pe_op op_add (pv 6) (pv 3)) pe_int) (fun _ _ => rfl)) (pe_ix ix_str pe_str (pe_op op_fdiv (pv 3) pe_int) (fun _ _ => rfl)))) (pss_one (ps_expr (pe_bmK (K := K) (pe_bm PySem.F.plainAttrs_list PySem.F.slot_list_append PySem.F.type_list_append mt_append (pv 7) (pa_cons (pe_op op_addS (pe_op op_addS (pe_op op_addS (pe_slice sl_str (pv 4) po_none (po_some (pv 5))) (pv 8)) (pe_slice sl_str (pv 4) (po_some (pv 5)) po_none)) (pe_op op_mulS pe_str (pe_op op_mod (pv 3) pe_int))) pa_nil))))))) (pss_one (ps_ret (pv 7)))))))), ?_⟩
    show (_ : TS) _ ([some _, some _, none, none, none, none, none, none, none] : L2.St) _
    wtm_at "wp"
    refine w_m1 ?_
    wtm_at "wp"
    refine ⟨⟨_, rfl⟩, ?_⟩
    wtm_at "wp"
    refine ⟨Z, _, dd, lf, s, n, 6, ns, rfl, S, D, by decide, by decide, fun j s n ns H j0 j1 S D => ?_⟩
    wtm_at "wp"
    refine k_lc_rng j0 (by omega) S (by wtm_at "wipe") (fun C i H => ∃ s n ns, ∃ ys : List Str, SH Z ((C, .lst (ys.map V.str)) :: (dd, .dK (dealKv s n lf)) :: (lf, .lst (List.map V.int ns)) :: L) H ∧ DealOk s n ns ∧ ys.length ≤ i ∧ ∀ y ∈ ys, ∃ c, c < 128 ∧ y = ⟨#[c]⟩) (fun C H S => ⟨s, n, ns, [], S, D, Nat.le_refl _, by simp⟩) ?_ (by wtm_at "wipe") ?_
    · clear S D s n ns
      rintro C i H hi ⟨s, n, ns, ys, S, D, hy, hys⟩
      wtm_at "wp"
      refine ⟨Z, (C, .lst (ys.map V.str)) :: L, dd, lf, s, n, 26, ns, rfl, S.sel (by wtm_at "sel"), D, by decide, by decide, fun r s n ns H r0 r1 S D => ?_⟩
      wtm_at "wp"
      refine k_ixS (by decide +kernel) (abc_at r0 (by omega)) ?_
      wtm_at "wp"
      refine k_lcapp S (by wtm_at "mem") (ha := .any) (hl := lt_line (by rw [List.length_map]; omega)) (hw := by wtm_at "wr") (q := fun H1 S => ?_)
      refine ⟨s, n, ns, ys ++ [⟨#[97 + r.toNat]⟩], by rw [List.map_append, List.map_cons, List.map_nil]; exact S.sel (by wtm_at "sel"), D, by rw [List.length_append, List.length_cons, List.length_nil]; omega, fun y hy => ?_⟩
      rcases List.mem_append.mp hy with hy | hy
      · exact hys y hy
      · obtain rfl := List.mem_singleton.mp hy
        exact ⟨_, by omega, rfl⟩
    · clear S D s n ns
      rintro C H ⟨s, n, ns, ys, S, D, hy, hys⟩
      obtain ⟨cl, ce⟩ := join_ones hys
      have hcl : (Txt.join ("" : Str) ys).length ≤ 6 := by omega
      wtm_at "wp"
      refine ⟨_, _, ys, rfl, rfl, .inl (SqL.of (S.at (.l (by wtm_at "mem")))), ?_, ?_⟩
      · have : ∀ l : List Str, (∀ y ∈ l, ∃ c, c < 128 ∧ y = (⟨#[c]⟩ : Str)) → (l.map (·.length)).sum = l.length := by
          intro l h
          induction l with
          | nil => rfl
          | cons y r ih =>
            obtain ⟨c, _, rfl⟩ := h y List.mem_cons_self
            rw [List.map_cons, List.sum_cons, ih (fun z hz => h z (List.mem_cons_of_mem _ hz)), List.length_cons]
            show 1 + _ = _
            omega
        rw [this ys hys, show ("" : Str).length = 0 by decide +kernel]
        omega
      generalize Txt.join ("" : Str) ys = core at *
      wtm_at "wp"
      refine w_parb ?_
      wtm_at "wp"
      refine ⟨core, rfl, le_line (by omega), ?_⟩
      wtm_at "wp"
      refine ⟨Z, _, dd, lf, s, n, _, ns, rfl, S.sel (by wtm_at "sel"), D, by omega, by omega, fun at_ s n ns H at0 at1 S D => ?_⟩
      wtm_at "wp"
      refine ⟨Z, L, dd, lf, s, n, 26, ns, rfl, S.sel (by wtm_at "sel"), D, by decide, by decide, fun tn s n ns H tn0 tn1 S D => ?_⟩
      wtm_at "wp"
      refine ⟨_, _, rfl, ?_⟩
      simp only [List.set_cons_succ, List.set_cons_zero]
      wtm_at "wp"
      rename Addr => fl
      refine k_for_rng (by decide) (by decide) (fun k σ H => ∃ o o2, ∃ ws : List Str, σ = [some (.ref dd), some (.int 64), some (.str abc), o, some (.str core), some (.int at_), some (.int tn), some (.ref fl), o2] ∧ SH Z ((fl, .lst (ws.map V.str)) :: (dd, .dK (dealKv s n lf)) :: (lf, .lst (List.map V.int ns)) :: L) H ∧ ws.length = k ∧ ∀ i s, ws[i]? = some s → WdOk (tl (cutS core none (some at_))) tn.toNat i s)
        ⟨_, _, [], rfl, S, rfl, fun i s h => by simp at h⟩ ?_ ?_
      · rintro k σ H hk ⟨o, o2, ws, rfl, S, hwl, hws⟩
        have hk2 : k < 64 := by omega
        have hl1 := cutS_length core none (some at_)
        have hl2 := cutS_length core (some at_) none
        wtm_at "wp"
        refine k_I (by decide) ?_
        have ea : (tn + (k : Nat)) % 26 = (((tn.toNat + k) % 26 : Nat) : Int) := by omega
        rw [ea]
        refine k_ixS (by decide +kernel) (abc_at (by omega) (by omega)) ?_
        wtm_at "wp"
        refine k_I ⟨by decide, by decide⟩ ?_
        refine k_ixS (by decide +kernel) (qwxz_at hk2) ?_
        refine k_addS (by show 1 + 1 ≤ 100000; decide) ?_
        wtm_at "wp"
        refine k_slS (by omega) ?_
        wtm_at "wp"
        generalize hg : (({ cps := #[97 + (((tn.toNat + k) % 26 : Nat) : Int).toNat] } : Str) ++ { cps := #[c2 k] }) = own
        have hol : own.length = 2 := by rw [← hg]; rfl
        have htl : tl own = [97 + (tn.toNat + k) % 26, c2 k] := by rw [← hg, tl_app]; rfl
        have hlo : lowS own := fun c hc => by
          replace hc : c ∈ tl own := hc
          rw [htl] at hc
          unfold c2 at hc
          simp only [List.mem_cons, List.not_mem_nil, or_false] at hc
          rcases hc with rfl | rfl
          · omega
          · split
            · decide
            · split <;> decide
        refine k_addS (by omega) ?_
        wtm_at "wp"
        refine k_slS (by omega) ?_
        refine k_addS (by rw [len_app]; omega) ?_
        wtm_at "wp"
        refine k_I (by decide) ?_
        refine k_mulS (by omega) (by decide +kernel) ?_
        have hzl : (if ((k : Nat) : Int) % 2 = 1 then ("z" : Str) else Str.empty).length ≤ 1 := by split <;> decide +kernel
        have hz0 : lowS ("z" : Str) := fun c hc => by
          rw [show ("z" : Str).cps.toList = [122] by decide +kernel] at hc
          have := List.mem_singleton.mp hc
          omega
        have hz : lowS (if ((k : Nat) : Int) % 2 = 1 then ("z" : Str) else Str.empty) := by
          split
          · exact hz0
          · intro c hc; simp [Str.empty] at hc
        generalize (if ((k : Nat) : Int) % 2 = 1 then ("z" : Str) else Str.empty) = zz at *
        refine k_addS (by rw [len_app, len_app]; omega) ?_
        wtm_at "wp"
        refine k_app S (by wtm_at "mem") (by rw [List.length_map]; exact lt_line (by omega)) .any (by wtm_at "wr") fun H S => ?_
        refine ⟨_, _, ws ++ [_], rfl, by rw [List.map_append]; exact S, by rw [List.length_append, List.length_cons, List.length_nil]; omega, fun i s h => ?_⟩
        rcases Nat.lt_or_ge i ws.length with hi | hi
        · rw [List.getElem?_append_left hi] at h
          exact hws i s h
        · have hi2 : i = ws.length := by
            have := (List.getElem?_eq_some_iff.mp h).1
            rw [List.length_append, List.length_cons, List.length_nil] at this
            omega
          subst hi2
          rw [List.getElem?_append_right (Nat.le_refl _), Nat.sub_self] at h
          obtain rfl := Option.some.inj h
          rw [hwl]
          refine ⟨(((cl.cut _ _).app hlo).app (cl.cut _ _)).app hz, tl (cutS core (some at_) none) ++ tl zz, ?_⟩
          rw [tl_app, tl_app, tl_app, htl]
          simp
      · rintro σ H ⟨o, o2, ws, rfl, S, hwl, hws⟩
        replace hwl : ws.length = 64 := hwl
        wtm_at "wp"
        refine q ws _ _ _ _ _ hwl ?_ ?_ S D
        · refine List.pairwise_iff_getElem.mpr fun i j hi hj hij e2 => ?_
          have w1 := hws i _ (List.getElem?_eq_getElem hi)
          have w2 := hws j _ (List.getElem?_eq_getElem hj)
          rw [← e2] at w2
          have := WdOk.inj (by omega) (by omega) w1 w2
          omega
        · intro w hw
          obtain ⟨i, hi⟩ := List.getElem?_of_mem hw
          exact (hws i w hi).1.ok
end
end AL
/-! G3 -/
namespace AL
open PySem PySem.Spec PyProof.Rows L2
/-! ### the law's bodies -/
inductive HP where
  | tell (a : V) | ask (x q : Str) (a : V) | sum (x s : Str) (a b : V)
def HP.tup : HP → List V
  | .tell a => [.str "tell", a]
  | .ask x q a => [.str "ask", .str x, .str q, a]
  | .sum x s a b => [.str "sum", .str x, .str s, a, b]
def HP.on : HP → Bd → Bd
  | .tell a, n => .tell a n
  | .ask x q a, n => .ask x q a n
  | .sum x s a b, n => .sum x s a b n
def closeB (hs : List HP) (b : Bd) : Bd := hs.foldr HP.on b
theorem HP.at {Z : Hp} {h : HP} {b : Bd} {p : Addr} {v : V} (hp : Z p = some (.tup (h.tup ++ [v]))) (hb : BdAt Z b v) : BdAt Z (h.on b) (.ref p) := by
  cases h <;> exact ⟨p, v, rfl, hp, hb⟩
inductive Deed where
  | tell | turn | split
  deriving DecidableEq
def Deed.s : Deed → Str
  | .tell => "tell" | .turn => "turn" | .split => "split"
def hstep (W : Nat → Str) (q : Str) (k : Nat) (own : V) : Deed → List HP × V
  | .tell => ([.tell own], own)
  | .turn => ([.ask (W (30 + k)) q (.int 0)], own)
  | .split => ([.ask (W (30 + k)) q (.int 1), .sum (W (40 + k)) "*" own (.int 10), .sum (W (50 + k)) "+" (.str (W (40 + k))) (.str (W (30 + k)))], .str (W (50 + k)))
def hAll (W : Nat → Str) (q : Str) : Nat → V → List Deed → List HP × V
  | _, own, [] => ([], own)
  | k, own, d :: r => ((hstep W q k own d).1 ++ (hAll W q (k + 1) (hstep W q k own d).2 r).1, (hAll W q (k + 1) (hstep W q k own d).2 r).2)
theorem hAll_snoc (W : Nat → Str) (q : Str) (d : Deed) : ∀ (ds : List Deed) (k : Nat) (own : V), hAll W q k own (ds ++ [d]) = ((hAll W q k own ds).1 ++ (hstep W q (k + ds.length) (hAll W q k own ds).2 d).1, (hstep W q (k + ds.length) (hAll W q k own ds).2 d).2)
  | [], k, own => by simp [hAll]
  | e :: ds, k, own => by
    rw [List.cons_append, hAll, hAll_snoc W q d ds (k + 1), hAll, List.length_cons, show k + 1 + ds.length = k + (ds.length + 1) by omega, List.append_assoc]
def player (W : Nat → Str) (q : Str) : Nat → V → List Deed → Bd
  | _, own, [] => .give own
  | k, own, .tell :: r => .tell own (player W q (k + 1) own r)
  | k, own, .turn :: r => .ask (W (30 + k)) q (.int 0) (player W q (k + 1) own r)
  | k, own, .split :: r => .ask (W (30 + k)) q (.int 1) (.sum (W (40 + k)) "*" own (.int 10) (.sum (W (50 + k)) "+" (.str (W (40 + k))) (.str (W (30 + k))) (player W q (k + 1) (.str (W (50 + k))) r)))
theorem close_player (W : Nat → Str) (q : Str) : ∀ (ds : List Deed) (k : Nat) (own : V), closeB (hAll W q k own ds).1 (.give (hAll W q k own ds).2) = player W q k own ds
  | [], k, own => rfl
  | d :: ds, k, own => by
    rw [hAll, closeB, List.foldr_append]
    have := close_player W q ds (k + 1) (hstep W q k own d).2
    unfold closeB at this
    rw [this]
    cases d <;> rfl
def HpAt (Z : Hp) (h : HP) (v : V) : Prop := ∃ p, v = .ref p ∧ Z p = some (.tup h.tup)
theorem HpAt.mono {Z Z1 : Hp} (hs : Same Z Z1) {h : HP} {v : V} (q : HpAt Z h v) : HpAt Z1 h v := by
  obtain ⟨p, e, q⟩ := q
  exact ⟨p, e, hs _ _ q⟩
section
variable {P : Program} {w : World} {K : PySem.W.Frag} {mg : Str → Option Value} {base : Heap}
def spLClosed : Sp := fun vs H Q _ => ∃ (Z : Hp) (L : Lx) (hl : Addr) (v : V) (ws : List V) (hs : List HP) (b : Bd), vs = [.ref hl, v] ∧ SH Z ((hl, .lst ws) :: L) H ∧ Paired (HpAt Z) hs ws ∧ BdAt Z b v ∧
  ∀ r Z1 H1, Same Z Z1 → SH Z1 L H1 → BdAt Z1 (closeB hs b) r → Q r H1
theorem ok_l_closed (T : Tx K mg) : Cal P w K mg base 1 "_law_closed" ["_law_heads", "_law_body"] spLClosed := by
  refine mk_cal (F_l_closed T) (g_law_closed T) sc_l_closed (fun _ _ _ _ _ _ us hl => match us, hl with | [_, _], _ => rfl) ?len ?body
  case len =>
    rintro vs H Q E ⟨Z, L, hl, v, ws, hs, b, rfl, _⟩
    rfl
  case body =>
    rintro cdv A outer s0 H vs Q E hr ⟨Z, L, hl, v, ws, hs, b, rfl, S, hh, hb, q⟩
    refine ⟨_, (pss_cons (ps_for PassesOwn.never rfl (pi_reversedK (K := K) (by rfl) (b_reversed T) (pa_cons (pv 0) pa_nil)) (pg_name (i := 2) sc_l_closed.nd rfl (Or.inl rfl)) (pss_one (ps_set (i := 1) sc_l_closed.nd rfl (Or.inl rfl) (pe_op (op_catTK (K := K)) (pv 2) (pe_tup (pa_cons (pv 1) pa_nil)))))) (pss_one (ps_ret (pv 1)))), ?_⟩
    show (_ : TS) _ ([some _, some _, none] : L2.St) _
    have hln : hs.length = ws.length := hh.length
    wtm_at "wp"
    refine k_for_rev S (by wtm_at "in") (fun i σ H => ∃ Z1 v o, σ = [some (.ref hl), some v, o] ∧ Same Z Z1 ∧ SH Z1 ((hl, .lst ws) :: L) H ∧ BdAt Z1 (closeB (hs.drop (ws.length - i)) b) v) ⟨Z, v, _, rfl, Same.refl _, S, by rw [Nat.sub_zero, ← hln, List.drop_length]; exact hb⟩ (fun i σ H ⟨_, _, _, _, _, S, _⟩ => S.at (.l (by wtm_at "mem"))) ?_ ?_
    · rintro i x σ H hi hx ⟨Z1, v, o, rfl, hs1, S, hb⟩
      obtain ⟨h, hh1, p, rfl, hp⟩ : ∃ h, hs[ws.length - 1 - i]? = some h ∧ HpAt Z1 h x := by
        obtain ⟨y, hy, hF⟩ := Paired.get hh (i := ws.length - 1 - i) (x := hs[ws.length - 1 - i]'(by omega)) (List.getElem?_eq_getElem (by omega))
        rw [hx] at hy
        obtain rfl := Option.some.inj hy
        exact ⟨_, List.getElem?_eq_getElem (by omega), hF.mono hs1⟩
      wtm_at "wp"
      refine k_catT S (.z hp) (by wtm_at "in") (by cases h <;> simp [HP.tup]) (by simp) (le_line (by cases h <;> simp [HP.tup])) rfl fun p1 H S => ?_
      wtm_at "wp"
      obtain ⟨S, hs2, hz2⟩ := S.pick (p := p1) (by wtm_at "pick")
      refine ⟨_, _, _, rfl, hs1.trans hs2, S.sel (by wtm_at "sel"), ?_⟩
      rw [show ws.length - (i + 1) = ws.length - 1 - i by omega, drop_get hh1, show ws.length - 1 - i + 1 = ws.length - i by omega]
      exact HP.at hz2 (hb.mono hs2)
    · rintro σ H ⟨Z1, v, o, rfl, hs1, S, hb⟩
      rw [Nat.sub_self, List.drop_zero] at hb
      wtm_at "wp"
      exact q _ _ _ hs1 (S.sub (by wtm_at "sub")) hb
end
end AL
set_option hygiene false in
local macro_rules | `(tactic| sizeOf_list_dec) => `(tactic| ((with_reducible refine AL.In.up1 ?_); sizeOf_list_dec))
set_option hygiene false in
local macro_rules | `(tactic| sizeOf_list_dec) => `(tactic| assumption)
set_option hygiene false in
local macro_rules | `(tactic| sizeOf_list_dec) => `(tactic| exact AL.In.z (by wtm_at "z"))
set_option hygiene false in
local macro_rules | `(tactic| sizeOf_list_dec) => `(tactic| exact AL.In.l (by wtm_at "mem"))
set_option hygiene false in
local macro_rules | `(tactic| wtm_at "in") => `(tactic| first | sizeOf_list_dec | fail)
/-! G4 -/
namespace AL
open PySem PySem.Spec PyProof.Rows L2
def wnth (ws : List Str) (j : Nat) : Str := ws.getD j Str.empty
theorem wnth_at {ws : List Str} {j : Nat} (h : j < ws.length) : atI (ws.map V.str) (j : Nat) = some (.str (wnth ws j)) := by
  refine L2.atI_nat ?_
  unfold wnth
  rw [List.getElem?_map, List.getD_eq_getElem?_getD, List.getElem?_eq_getElem h]
  rfl
section
variable {P : Program} {w : World} {K : PySem.W.Frag} {mg : Str → Option Value} {base : Heap}
def spLPlayer : Sp := fun vs H Q _ => ∃ (Z : Hp) (L : Lx) (wl dl : Addr) (q : Str) (ws : List Str) (ds : List Deed), vs = [.ref wl, .str q, .ref dl] ∧ SH Z L H ∧ In Z L wl (.lst (ws.map V.str)) ∧ In Z L dl (.lst (ds.map fun d => V.str d.s)) ∧ ws.length = 64 ∧ ds.length ≤ 10 ∧
  ∀ r Z1 H1, Same Z Z1 → SH Z1 L H1 → BdAt Z1 (player (wnth ws) q 0 (.int 1) ds) r → Q r H1
theorem ok_l_player (T : Tx K mg) : Cal P w K mg base 2 "_law_player" ["_law_words_here", "_law_q", "_law_deeds"] spLPlayer := by
  refine mk_cal (F_l_player T) (g_law_player T) sc_l_player (fun _ _ _ _ _ _ us hl => match us, hl with | [_, _, _], _ => rfl) ?len ?body
  case len =>
    rintro vs H Q E ⟨Z, L, wl, dl, q, ws, ds, rfl, _⟩
    rfl
  case body =>
    rintro cdv A outer s0 H vs Q E hr ⟨Z, L, wl, dl, qq, ws, ds, rfl, S, hwl, hdl, hw, hd, q⟩
    refine ⟨_, (pss_cons (ps_set (i := 3) sc_l_player.nd rfl (Or.inl rfl) (pe_lst pa_nil)) (pss_cons (ps_set (i := 4) sc_l_player.nd rfl (Or.inl rfl) pe_int) (pss_cons (ps_for PassesOwn.never rfl (pi_enumK (K := K) (by rfl) (b_enumerate T) (pa_cons (pv 2) pa_nil)) (pg_tupK (K := K) (by rfl) (pgs_cons (pg_name (i := 5) sc_l_player.nd rfl (Or.inl rfl)) (pgs_cons (pg_name (i := 6) sc_l_player.nd rfl (Or.inl rfl)) pgs_nil))) (pss_cons (ps_if (pt_cmpR op_eq (pv 6) pe_str (nomark _)) (pss_one (ps_expr (pe_bmK (K := K) (pe_bm PySem.F.plainAttrs_list PySem.F.slot_list_append PySem.F.type_list_append mt_append (pv 3) (pa_cons (pe_tup (pa_cons pe_str (pa_cons (pv 4) pa_nil))) pa_nil))))) (pss_one (ps_expr (pe_bmK (K := K) (pe_bm PySem.F.plainAttrs_list PySem.F.slot_list_append PySem.F.type_list_append mt_append (pv 3) (pa_cons (pe_tup (pa_cons pe_str (pa_cons (pe_ix (ix_anyK (K := K)) (pv 0) (pe_op op_add pe_int (pv 5)) (fun _ _ => rfl)) (pa_cons (pv 1) (pa_cons (pe_callTy call_intB (by rfl) (b_int T) (by decide +kernel) (pa_cons (pe_cmpR op_eq (pv 6) pe_str (nomark _)) pa_nil)) pa_nil))))) pa_nil)))))) (pss_one (ps_if (pt_cmpR op_eq (pv 6) pe_str (nomark _)) (pss_cons (ps_expr (pe_bmK (K := K) (pe_bm PySem.F.plainAttrs_list PySem.F.slot_list_append PySem.F.type_list_append mt_append (pv 3) (pa_cons (pe_tup (pa_cons pe_str (pa_cons (pe_ix (ix_anyK (K := K)) (pv 0) (pe_op op_add pe_int (pv 5)) (fun _ _ => rfl)) (pa_cons pe_str (pa_cons (pv 4) (pa_cons pe_int pa_nil)))))) pa_nil)))) (pss_cons (ps_expr (pe_bmK (K := K) (pe_bm PySem.F.plainAttrs_list PySem.F.slot_list_append PySem.F.type_list_append mt_append (pv 3) (pa_cons (pe_tup (pa_cons pe_str (pa_cons (pe_ix (ix_anyK (K := K)) (pv 0) (pe_op op_add pe_int (pv 5)) (fun _ _ => rfl)) (pa_cons pe_str (pa_cons (pe_ix (ix_anyK (K := K)) (pv 0) (pe_op op_add pe_int (pv 5)) (fun _ _ => rfl)) (pa_cons (pe_ix (ix_anyK (K := K)) (pv 0) (pe_op op_add pe_int (pv 5)) (fun _ _ => rfl)) pa_nil)))))) pa_nil)))) (pss_one (ps_set (i := 4) sc_l_player.nd rfl (Or.inl rfl) (pe_ix (ix_anyK (K := K)) (pv 0) (pe_op op_add pe_int (pv 5)) (fun _ _ => rfl)))))) pss_nil)))) (pss_one (ps_ret (pe_cal (ok_l_closed T) hr (pa_cons (pv 3) (pa_cons (pe_tup (pa_cons pe_str (pa_cons (pv 4) pa_nil))) pa_nil)))))))), ?_⟩
    show (_ : TS) _ ([some _, some _, some _, none, none, none, none] : L2.St) _
    wtm_at "wp"
    rename Addr => hl
    refine k_for_enum S hdl.up1 (fun i σ H => ∃ Z1 hs vs2 k o, σ = [some (.ref wl), some (.str qq), some (.ref dl), some (.ref hl), some (hAll (wnth ws) qq 0 (.int 1) (ds.take i)).2, k, o] ∧ Same Z Z1 ∧ SH Z1 ((hl, .lst vs2) :: L) H ∧ Paired (HpAt Z1) hs vs2 ∧ hs = (hAll (wnth ws) qq 0 (.int 1) (ds.take i)).1 ∧ vs2.length ≤ 3 * i)
      ⟨Z, [], [], _, _, rfl, Same.refl _, S, .nil, rfl, Nat.le_refl _⟩ (fun i σ H ⟨Z1, _, _, _, _, _, hs1, S, _⟩ => S.at (In.mono hs1 hdl.up1)) ?_ ?_
    · rintro i x σ H hx ⟨Z1, hs, vs2, k, o, rfl, hs1, S, hp, e, hl3⟩ t ht
      rw [List.getElem?_map] at hx
      obtain ⟨d, hdd, rfl⟩ : ∃ d : Deed, ds[i]? = some d ∧ V.str d.s = x := by
        cases e : ds[i]? with
        | none => rw [e] at hx; cases hx
        | some d => rw [e] at hx; exact ⟨d, rfl, Option.some.inj hx⟩
      have hi : i < ds.length := (List.getElem?_eq_some_iff.mp hdd).1
      have et : ds.take (i + 1) = ds.take i ++ [d] := by rw [List.take_add_one, hdd]; rfl
      have etl : 0 + (ds.take i).length = i := by rw [List.length_take]; omega
      have hstp := hAll_snoc (wnth ws) qq d (ds.take i) 0 (.int 1)
      rw [etl] at hstp
      rw [et, hstp]
      generalize hAll (wnth ws) qq 0 (.int 1) (ds.take i) = ha at *
      obtain ⟨ha1, own⟩ := ha
      obtain rfl : hs = ha1 := e
      have S := S.new (o := .tup [.int (i : Nat), .str d.s]) ht
      have hwl2 : In Z1 L wl (.lst (ws.map V.str)) := hwl.mono hs1
      have a30 : atI (ws.map V.str) (30 + ((i : Nat) : Int)) = some (.str (wnth ws (30 + i))) := by rw [show (30 : Int) + ((i : Nat) : Int) = ((30 + i : Nat) : Int) by omega]; exact wnth_at (by omega)
      have a40 : atI (ws.map V.str) (40 + ((i : Nat) : Int)) = some (.str (wnth ws (40 + i))) := by rw [show (40 : Int) + ((i : Nat) : Int) = ((40 + i : Nat) : Int) by omega]; exact wnth_at (by omega)
      have a50 : atI (ws.map V.str) (50 + ((i : Nat) : Int)) = some (.str (wnth ws (50 + i))) := by rw [show (50 : Int) + ((i : Nat) : Int) = ((50 + i : Nat) : Int) by omega]; exact wnth_at (by omega)
      cases d with
      | tell =>
        wtm_at "wp"
        dsimp only at S ⊢
        obtain ⟨S, hs2, hz2⟩ := S.pick (o := .tup [.str "tell", own]) (by wtm_at "pick")
        exact ⟨_, hs ++ [.tell own], _, _, _, rfl, hs1.trans hs2, S.sel (by wtm_at "sel"), Paired.app (Paired.mapP hp fun _ _ z => HpAt.mono hs2 z) (.cons ⟨_, rfl, hz2⟩ .nil), rfl, by rw [List.length_append, List.length_cons, List.length_nil]; omega⟩
      | turn =>
        wtm_at "wp"
        dsimp only at S ⊢
        rw [show (if decide (V.str Deed.turn.s = V.str ("split" : Str)) = true then (1 : Int) else 0) = 0 by decide +kernel] at S
        obtain ⟨S, hs2, hz2⟩ := S.pick (o := .tup [.str "ask", .str (wnth ws (30 + i)), .str qq, .int 0]) (by wtm_at "pick")
        exact ⟨_, hs ++ [.ask (wnth ws (30 + i)) qq (.int 0)], _, _, _, rfl, hs1.trans hs2, S.sel (by wtm_at "sel"), Paired.app (Paired.mapP hp fun _ _ z => HpAt.mono hs2 z) (.cons ⟨_, rfl, hz2⟩ .nil), rfl, by rw [List.length_append, List.length_cons, List.length_nil]; omega⟩
      | split =>
        wtm_at "wp"
        dsimp only at S ⊢
        rw [show (if decide (V.str Deed.split.s = V.str ("split" : Str)) = true then (1 : Int) else 0) = 1 by decide +kernel] at S
        obtain ⟨S, hs2, hz2⟩ := S.pick (o := .tup [.str "ask", .str (wnth ws (30 + i)), .str qq, .int 1]) (by wtm_at "pick")
        obtain ⟨S, hs3, hz3⟩ := S.pick (o := .tup [.str "sum", .str (wnth ws (40 + i)), .str "*", own, .int 10]) (by wtm_at "pick")
        obtain ⟨S, hs4, hz4⟩ := S.pick (o := .tup [.str "sum", .str (wnth ws (50 + i)), .str "+", .str (wnth ws (40 + i)), .str (wnth ws (30 + i))]) (by wtm_at "pick")
        have hs34 := hs3.trans hs4
        have hs24 := hs2.trans hs34
        refine ⟨_, hs ++ [.ask (wnth ws (30 + i)) qq (.int 1), .sum (wnth ws (40 + i)) "*" own (.int 10), .sum (wnth ws (50 + i)) "+" (.str (wnth ws (40 + i))) (.str (wnth ws (30 + i)))], _, _, _, rfl, hs1.trans hs24, S.sel (by wtm_at "sel"), ?_, rfl, by simp only [List.length_append, List.length_cons, List.length_nil]; omega⟩
        rw [List.append_assoc, List.append_assoc]
        exact Paired.app (Paired.mapP hp fun _ _ z => HpAt.mono hs24 z) (.cons ⟨_, rfl, hs34 _ _ hz2⟩ (.cons ⟨_, rfl, hs4 _ _ hz3⟩ (.cons ⟨_, rfl, hz4⟩ .nil)))
    · rintro σ H ⟨Z1, hs, vs2, k, o, rfl, hs1, S, hp, e, hl3⟩
      rw [List.length_map, List.take_length] at *
      wtm_at "wp"
      obtain ⟨S, hs2, hz2⟩ := S.pick (o := .tup [.str "give", _]) (by wtm_at "pick")
      refine ⟨_, L, hl, _, vs2, hs, .give (hAll (wnth ws) qq 0 (.int 1) ds).2, rfl, S.sel (by wtm_at "sel"), Paired.mapP hp fun _ _ z => HpAt.mono hs2 z, ⟨_, rfl, hz2⟩, fun r Z2 H hs3 S hb => ?_⟩
      rw [e, close_player] at hb
      exact q _ _ _ ((hs1.trans hs2).trans hs3) S hb
end
end AL
/-! G5 -/
namespace AL
open PySem PySem.Spec PyProof.Rows L2
theorem drop_w {ws : List Str} {j : Nat} (h : j < ws.length) : ws.drop j = wnth ws j :: ws.drop (j + 1) := by
  rw [List.drop_eq_getElem_cons h]
  unfold wnth
  rw [List.getD_eq_getElem?_getD, List.getElem?_eq_getElem h]
  rfl
theorem cut_w {ws : List Str} {a b : Nat} (h1 : a ≤ b) (h : b ≤ ws.length) : cutV (ws.map V.str) (some (a : Nat)) (some (b : Nat)) = ((ws.drop a).take (b - a)).map V.str := by
  unfold cutV
  rw [HT.sIx_nat, HT.sIx_nat, List.length_map, show min a ws.length = a by omega, show min b ws.length = b by omega, List.map_take, List.map_drop]
theorem cut5 {ws : List Str} (h : ws.length = 64) : cutV (ws.map V.str) (some 20) (some 25) = [.str (wnth ws 20), .str (wnth ws 21), .str (wnth ws 22), .str (wnth ws 23), .str (wnth ws 24)] := by
  rw [show (some 20 : Option Int) = some ((20 : Nat) : Int) from rfl, show (some 25 : Option Int) = some ((25 : Nat) : Int) from rfl, cut_w (by decide) (by omega), drop_w (by omega), drop_w (by omega), drop_w (by omega), drop_w (by omega), drop_w (by omega)]
  rfl
theorem cut2 {ws : List Str} (h : ws.length = 64) : cutV (ws.map V.str) (some 26) (some 28) = [.str (wnth ws 26), .str (wnth ws 27)] := by
  rw [show (some 26 : Option Int) = some ((26 : Nat) : Int) from rfl, show (some 28 : Option Int) = some ((28 : Nat) : Int) from rfl, cut_w (by decide) (by omega), drop_w (by omega), drop_w (by omega)]
  rfl
theorem cut1 {ws : List Str} (h : ws.length = 64) : cutV (ws.map V.str) (some 10) (some 12) = [.str (wnth ws 10), .str (wnth ws 11)] := by
  rw [show (some 10 : Option Int) = some ((10 : Nat) : Int) from rfl, show (some 12 : Option Int) = some ((12 : Nat) : Int) from rfl, cut_w (by decide) (by omega), drop_w (by omega), drop_w (by omega)]
  rfl
/-- a hear's body -/
def hearIf (W : Nat → Str) : Bd := .iff (.str (W 20)) (.go (W 23) (.str (W 21)) (.int 1) (.str (W 24)) (.give (.str (W 23))))
  (.case (.str (W 24)) (.give (.int 0)) (W 26) (W 27) (.go (W 23) (.str (W 26)) (.int 0) (.str (W 27)) (.give (.str (W 23)))))
def hearB (W : Nat → Str) (pile : Bool) : Bd := if pile then .put (W 24) (.str (W 21)) (.str (W 22)) (hearIf W) else .last (W 24) (.str (W 22)) (.str (W 21)) (hearIf W)
def endB (W : Nat → Str) : Bd := .case (.str (W 22)) (.give (.str (W 20))) (W 26) (W 27) (.go (W 23) (.str (W 26)) (.int 0) (.str (W 27)) (.sum (W 24) "+" (.str (W 20)) (.str (W 23)) (.give (.str (W 24)))))
section
variable {P : Program} {w : World} {K : PySem.W.Frag} {mg : Str → Option Value} {base : Heap}
def spLKeeper : Sp := fun vs H Q _ => ∃ (Z : Hp) (L : Lx) (wl : Addr) (ws : List Str) (nm q : Str) (pile : Bool), vs = [.ref wl, .str nm, .str q, .int (if pile then 1 else 0)] ∧ SH Z L H ∧ In Z L wl (.lst (ws.map V.str)) ∧ ws.length = 64 ∧
  ∀ r nt n1 n2 en hs h1 hbv ebv Z1 H1, Same Z Z1 → SH Z1 L H1 → Z1 r = some (.tup [.str nm, nt, n1, n2, .ref en, .ref hs]) → Z1 en = some (.tup [.str (wnth ws 20), .str (wnth ws 22), ebv]) → Z1 hs = some (.tup [.ref h1]) →
    Z1 h1 = some (.tup [.str q, .str (wnth ws 20), .str (wnth ws 21), .str (wnth ws 22), hbv]) → BdAt Z1 (hearB (wnth ws) pile) hbv → BdAt Z1 (endB (wnth ws)) ebv → Q (.ref r) H1
theorem ok_l_keeper (T : Tx K mg) : Cal P w K mg base 1 "_law_keeper" ["_law_words_here", "_law_name", "_law_q", "_law_pile"] spLKeeper := by
  refine mk_cal (F_l_keeper T) (g_law_keeper T) sc_l_keeper (fun _ _ _ _ _ _ us hl => match us, hl with | [_, _, _, _], _ => rfl) ?len ?body
  case len =>
    rintro vs H Q E ⟨Z, L, wl, ws, nm, q, pile, rfl, _⟩
    rfl
  case body =>
    rintro cdv A outer s0 H vs Q E hr ⟨Z, L, wl, ws, nm, qq, pile, rfl, S, hwl, hw, q⟩
    refine ⟨_, (pss_cons (ps_asg (pe_slice (sl_listK (K := K)) (pv 0) (po_some pe_int) (po_some pe_int)) (pg_unlK (K := K) (by rfl) (pgs_cons (pg_name (i := 4) sc_l_keeper.nd rfl (Or.inl rfl)) (pgs_cons (pg_name (i := 5) sc_l_keeper.nd rfl (Or.inl rfl)) (pgs_cons (pg_name (i := 6) sc_l_keeper.nd rfl (Or.inl rfl)) (pgs_cons (pg_name (i := 7) sc_l_keeper.nd rfl (Or.inl rfl)) (pgs_cons (pg_name (i := 8) sc_l_keeper.nd rfl (Or.inl rfl)) pgs_nil))))))) (pss_cons (ps_asg (pe_slice (sl_listK (K := K)) (pv 0) (po_some pe_int) (po_some pe_int)) (pg_unlK (K := K) (by rfl) (pgs_cons (pg_name (i := 9) sc_l_keeper.nd rfl (Or.inl rfl)) (pgs_cons (pg_name (i := 10) sc_l_keeper.nd rfl (Or.inl rfl)) pgs_nil)))) (pss_cons (ps_set (i := 11) sc_l_keeper.nd rfl (Or.inl rfl) (pe_tup (pa_cons pe_str pa_nil))) (pss_cons (ps_set (i := 12) sc_l_keeper.nd rfl (Or.inl rfl) (pe_tup (pa_cons pe_str (pa_cons (pv 1) (pa_cons (pv 2) pa_nil))))) (pss_cons (ps_set (i := 13) sc_l_keeper.nd rfl (Or.inl rfl) (pe_tup (pa_cons pe_str (pa_cons (pv 7) (pa_cons (pv 9) (pa_cons pe_int (pa_cons (pv 10) (pa_cons (pe_tup (pa_cons pe_str (pa_cons (pv 7) pa_nil))) pa_nil)))))))) (pss_cons (ps_set (i := 14) sc_l_keeper.nd rfl (Or.inl rfl) (pe_tup (pa_cons pe_str (pa_cons (pv 7) (pa_cons (pv 5) (pa_cons pe_int (pa_cons (pv 8) (pa_cons (pe_tup (pa_cons pe_str (pa_cons (pv 7) pa_nil))) pa_nil)))))))) (pss_cons (ps_set (i := 15) sc_l_keeper.nd rfl (Or.inl rfl) (pe_tup (pa_cons pe_str (pa_cons (pv 4) (pa_cons (pv 14) (pa_cons (pe_tup (pa_cons pe_str (pa_cons (pv 8) (pa_cons (pe_tup (pa_cons pe_str (pa_cons pe_int pa_nil))) (pa_cons (pv 9) (pa_cons (pv 10) (pa_cons (pv 13) pa_nil))))))) pa_nil)))))) (pss_cons (ps_set (i := 15) sc_l_keeper.nd rfl (Or.inl rfl) (pe_op (op_catTK (K := K)) (pe_ix (ix_anyK (K := K)) (pe_lst (pa_cons (pe_tup (pa_cons pe_str (pa_cons (pv 8) (pa_cons (pv 6) (pa_cons (pv 5) pa_nil))))) (pa_cons (pe_tup (pa_cons pe_str (pa_cons (pv 8) (pa_cons (pv 5) (pa_cons (pv 6) pa_nil))))) pa_nil))) (pv 3) (fun _ _ => rfl)) (pe_tup (pa_cons (pv 15) pa_nil)))) (pss_cons (ps_set (i := 16) sc_l_keeper.nd rfl (Or.inl rfl) (pe_tup (pa_cons pe_str (pa_cons (pv 7) (pa_cons (pv 9) (pa_cons pe_int (pa_cons (pv 10) (pa_cons (pe_tup (pa_cons pe_str (pa_cons (pv 8) (pa_cons pe_str (pa_cons (pv 4) (pa_cons (pv 7) (pa_cons (pe_tup (pa_cons pe_str (pa_cons (pv 8) pa_nil))) pa_nil))))))) pa_nil)))))))) (pss_cons (ps_set (i := 17) sc_l_keeper.nd rfl (Or.inl rfl) (pe_tup (pa_cons (pv 4) (pa_cons (pv 6) (pa_cons (pe_tup (pa_cons pe_str (pa_cons (pv 6) (pa_cons (pe_tup (pa_cons pe_str (pa_cons (pv 4) pa_nil))) (pa_cons (pv 9) (pa_cons (pv 10) (pa_cons (pv 16) pa_nil))))))) pa_nil))))) (pss_one (ps_ret (pe_tup (pa_cons (pv 1) (pa_cons (pv 12) (pa_cons (pv 11) (pa_cons (pv 11) (pa_cons (pv 17) (pa_cons (pe_tup (pa_cons (pe_tup (pa_cons (pv 2) (pa_cons (pv 4) (pa_cons (pv 5) (pa_cons (pv 6) (pa_cons (pv 15) pa_nil)))))) pa_nil)) pa_nil))))))))))))))))))), ?_⟩
    show (_ : TS) _ ([some _, some _, some _, some _, none, none, none, none, none, none, none, none, none, none, none, none, none, none] : L2.St) _
    wtm_at "wp"
    refine k_slL S hwl (cut5 hw) fun p1 H S => ?_
    wtm_at "wp"
    refine k_slL S hwl.up1 (cut2 hw) fun p2 H S => ?_
    wtm_at "wp"
    cases pile with
    | false =>
      wtm_at "wp"
      refine k_catT S (by wtm_at "in") (by wtm_at "in") (by simp) (by simp) (le_line (by simp)) rfl fun p3 H S => ?_
      simp only [List.cons_append, List.nil_append] at S
      wtm_at "wp"
      obtain ⟨S, hs1, hz⟩ := SH.frzs (M := [_, _, _, _, _, _, _, _, _, _, _, _, _, _, _, _, _, _, _, _, _, _, _, _, _]) S
      refine q _ _ _ _ _ _ _ _ _ _ _ hs1 S (hz _ _ (by wtm_at "mem")) (hz _ _ (by wtm_at "mem")) (hz _ _ (by wtm_at "mem")) (hz _ _ (by wtm_at "mem")) ?_ ?_
      · exact ⟨_, _, rfl, hz _ _ (by wtm_at "mem"), _, _, _, rfl, hz _ _ (by wtm_at "mem"), ⟨_, _, rfl, hz _ _ (by wtm_at "mem"), _, rfl, hz _ _ (by wtm_at "mem")⟩, ⟨_, _, _, rfl, hz _ _ (by wtm_at "mem"), ⟨_, rfl, hz _ _ (by wtm_at "mem")⟩, ⟨_, _, rfl, hz _ _ (by wtm_at "mem"), _, rfl, hz _ _ (by wtm_at "mem")⟩⟩⟩
      · exact ⟨_, _, _, rfl, hz _ _ (by wtm_at "mem"), ⟨_, rfl, hz _ _ (by wtm_at "mem")⟩, ⟨_, _, rfl, hz _ _ (by wtm_at "mem"), _, _, rfl, hz _ _ (by wtm_at "mem"), _, rfl, hz _ _ (by wtm_at "mem")⟩⟩
    | true =>
      wtm_at "wp"
      refine k_catT S (by wtm_at "in") (by wtm_at "in") (by simp) (by simp) (le_line (by simp)) rfl fun p3 H S => ?_
      simp only [List.cons_append, List.nil_append] at S
      wtm_at "wp"
      obtain ⟨S, hs1, hz⟩ := SH.frzs (M := [_, _, _, _, _, _, _, _, _, _, _, _, _, _, _, _, _, _, _, _, _, _, _, _, _]) S
      refine q _ _ _ _ _ _ _ _ _ _ _ hs1 S (hz _ _ (by wtm_at "mem")) (hz _ _ (by wtm_at "mem")) (hz _ _ (by wtm_at "mem")) (hz _ _ (by wtm_at "mem")) ?_ ?_
      · exact ⟨_, _, rfl, hz _ _ (by wtm_at "mem"), _, _, _, rfl, hz _ _ (by wtm_at "mem"), ⟨_, _, rfl, hz _ _ (by wtm_at "mem"), _, rfl, hz _ _ (by wtm_at "mem")⟩, ⟨_, _, _, rfl, hz _ _ (by wtm_at "mem"), ⟨_, rfl, hz _ _ (by wtm_at "mem")⟩, ⟨_, _, rfl, hz _ _ (by wtm_at "mem"), _, rfl, hz _ _ (by wtm_at "mem")⟩⟩⟩
      · exact ⟨_, _, _, rfl, hz _ _ (by wtm_at "mem"), ⟨_, rfl, hz _ _ (by wtm_at "mem")⟩, ⟨_, _, rfl, hz _ _ (by wtm_at "mem"), _, _, rfl, hz _ _ (by wtm_at "mem"), _, rfl, hz _ _ (by wtm_at "mem")⟩⟩
end
end AL
/-! G6 -/
namespace AL
open PySem PySem.Spec PyProof.Rows L2
def Ev.pd (g : Pg) : Ev → PyData
  | .tell i => .tuple [.str "tell", .int i]
  | .keep => .tuple [.str "keep", .str g.K]
  | .ask => .tuple [.str "ask", .str g.q, .int 0]
  | .go n => .tuple [.str "go", .int (n : Nat)]
  | .ended => .tuple [.str "ended", .str g.K]
def tells : List Ev → List Int
  | [] => []
  | .tell i :: r => i :: tells r
  | _ :: r => tells r
theorem tells_app : ∀ (a b : List Ev), tells (a ++ b) = tells a ++ tells b
  | [], b => rfl
  | e :: a, b => by cases e <;> simp [tells, tells_app a b]
def runPd (g : Pg) (k : Nat) (evs : List Ev) (i : Int) : PyData := .tuple [.tuple [.str "gave", .int i], .int (k : Nat), .list (evs.map (Ev.pd g))]
theorem evs_dp {K : PySem.W.Frag} {Z : Hp} {L : Lx} {H : Hp} {g : Pg} (S : SH Z L H) {evs : List Ev} {ws : List V} (h : Paired (EvAt Z g) evs ws) : DpAll K H ws (evs.map (Ev.pd g)) := by
  induction h with
  | nil => exact .nil
  | cons r _ ih =>
    obtain ⟨p, rfl, hp⟩ := r
    refine .cons ?_ ih
    rename_i e _ _ _
    cases e <;> exact .tup (SqT.of (S.at (.z hp))) (by first | exact .cons (.str _) (.cons (.int _) .nil) | exact .cons (.str _) (.cons (.str _) .nil) | exact .cons (.str _) (.cons (.str _) (.cons (.int _) .nil)))
theorem evs_lay {g : Pg} (hK : PyData.strOk g.K = true) (hq : PyData.strOk g.q = true) : ∀ evs : List Ev, PyData.canLayAll0 (evs.map (Ev.pd g)) = true
  | [] => rfl
  | e :: r => by
    rw [List.map_cons, PyData.canLayAll0, evs_lay hK hq r, Bool.and_true]
    cases e <;> simp [Ev.pd, PyData.canLay0, PyData.canLayAll0, hK, hq] <;> decide +kernel
theorem evs_depth {g : Pg} : ∀ evs : List Ev, PyData.depthAll (evs.map (Ev.pd g)) ≤ 2
  | [] => by simp [PyData.depthAll]
  | e :: r => by
    have := evs_depth (g := g) r
    rw [List.map_cons, PyData.depthAll]
    have h2 : PyData.depth (e.pd g) ≤ 2 := by cases e <;> simp [Ev.pd, PyData.depth, PyData.depthAll]
    omega
theorem run_shaped {g : Pg} (hK : PyData.strOk g.K = true) (hq : PyData.strOk g.q = true) (k : Nat) (evs : List Ev) (i : Int) : SeqAt.shaped (runPd g k evs i) = true := by
  have h1 := evs_lay hK hq evs
  have h2 := evs_depth (g := g) evs
  simp only [SeqAt.shaped, runPd, PyData.canLay0, PyData.canLayAll0, h1, Bool.and_true, Bool.true_and, PyData.depth, PyData.depthAll, Bool.and_eq_true, decide_eq_true_eq]
  refine ⟨by decide +kernel, by omega⟩
theorem run_refl {g : Pg} (hK : PyData.strOk g.K = true) (hq : PyData.strOk g.q = true) (k : Nat) (evs : List Ev) (i : Int) : PyData.eqv (runPd g k evs i) (runPd g k evs i) = true :=
  SeqAt.eqv_refl _ (SeqAt.canLay_of_shaped (run_shaped hK hq k evs i))
theorem ARun.evl {g : Pg} {s : AS} {k : Nat} {evs : List Ev} {i : Int} (h : ARun g s k evs i) : evs.length ≤ 2000 := by
  induction h with
  | fin hf _ => exact hf.2.1
  | step _ _ _ ih => exact ih
theorem evs_snoc {evs : List Ev} {i : Nat} {e : Ev} (h : evs[i]? = some e) : evs.take (i + 1) = evs.take i ++ [e] := by rw [List.take_add_one, h]; rfl
theorem tells_len : ∀ evs : List Ev, (tells evs).length ≤ evs.length
  | [] => Nat.le_refl _
  | e :: r => by
    have := tells_len r
    cases e <;> simp only [tells, List.length_cons] <;> omega
section
variable {P : Program} {w : World} {K : PySem.W.Frag} {mg : Str → Option Value} {base : Heap}
def spLWays : Sp := fun vs H Q _ => ∃ (Z : Hp) (L : Lx) (g : Pg) (a : PgA) (rf : Pt → List Rw) (mf : Pt → Nat) (pg ar : Addr) (k : Nat) (evs : List Ev) (i : Int), vs = [.ref pg, .str g.f0, .ref ar, .int 600] ∧ SH Z L H ∧ ProgAt Z g a pg ∧ Z ar = some (.lst []) ∧ ProgOk g rf mf ∧ (∀ t : Pt, (t.body g).pcs.length ≤ 1000) ∧
  ARun g AS0 k evs i ∧ k < 600 ∧ PyData.strOk g.K = true ∧ PyData.strOk g.q = true ∧
  ∀ r e l Z1 H1, Same Z Z1 → SH Z1 L H1 → Z1 r = some (.tup [.ref e, .ref l]) → Z1 e = some (.tup [.str "gave", .int i]) → Z1 l = some (.lst ((tells evs).map V.int)) → Q (.ref r) H1
theorem ok_l_ways (T : Tx K mg) : Cal P w K mg base 9 "_law_ways" ["_law_program", "_law_f", "_law_args", "_law_bound"] spLWays := by
  refine mk_cal (F_l_ways T) (g_law_ways T) sc_l_ways (fun _ _ _ _ _ _ us hl => match us, hl with | [_, _, _, _], _ => rfl) ?len ?body
  case len =>
    rintro vs H Q E ⟨Z, L, g, a, rf, mf, pg, ar, k, evs, i, rfl, _⟩
    rfl
  case body =>
    rintro cdv A outer s0 H vs Q E hr ⟨Z, L, g, a, rf, mf, pg, ar, k, evs, i, rfl, S, A1, har, PO, hpl, hrun, hk, sK, sq, q⟩
    refine ⟨_, (pss_cons (ps_set (i := 4) sc_l_ways.nd rfl (Or.inl rfl) (pe_cal (ok_ran T) hr (pa_cons (pv 0) (pa_cons (pv 1) (pa_cons (pv 2) (pa_cons (pv 3) pa_nil)))))) (pss_cons (ps_if (PW.pt (pw_or (pt_cmpR (op_neDK (K := K) hr.units) (pe_slice (sl_tupK (K := K)) (pe_cal (ok_by_rows T) hr (pa_cons (pv 0) (pa_cons (pv 1) (pa_cons (pv 2) (pa_cons (pv 3) pa_nil))))) po_none (po_some pe_int)) (pv 4) (nomark _)) (pw_or1 (pt_cmpR (op_neDK (K := K) hr.units) (pe_cal (ok_by_stairs T) hr (pa_cons (pv 0) (pa_cons (pv 1) (pa_cons (pv 2) (pa_cons (pv 3) pa_nil))))) (pv 4) (nomark _))))) (pss_one (ps_ret pe_non)) pss_nil) (pss_one (ps_ret (pe_tup (pa_cons (pe_ix (ix_anyK (K := K)) (pv 4) pe_int (fun _ _ => rfl)) (pa_cons (pe_lc (own := [("_law_row", 5)]) (g := gName 5) (by rfl) sc_l_ways.nd (pi_listK (K := K) (pe_ix (ix_anyK (K := K)) (pv 4) pe_int (fun _ _ => rfl))) (blkOk_by (own := [("_law_row", 5)]) (N := ["_law_program", "_law_f", "_law_args", "_law_bound", "_law_found", "_law_row"]) (sc := defScope s_l_ways) (by decide +kernel)) (fun _ _ _ _ _ => (pg_name (i := 5) sc_l_ways.nd rfl (Or.inl rfl))) (fun _ _ _ _ _ => pts_one (pt_cmpR op_eq (pe_ix (ix_anyK (K := K)) (pv 5) pe_int (fun _ _ => rfl)) pe_str (nomark _))) (fun _ _ _ _ _ => (pe_ix (ix_anyK (K := K)) (pv 5) pe_int (fun _ _ => rfl)))) pa_nil))))))), ?_⟩
    show (_ : TS) _ ([some _, some _, some _, some _, none, none] : L2.St) _
    have hel := hrun.evl
    wtm_at "wp"
    refine ⟨Z, L, g, a, pg, ar, k, evs, i, rfl, S, A1, har, hpl, hrun, hk, fun r1 Z1 H hs1 S ⟨p1, e1, b1, ws1, hr1, h11, h12, h13, h14⟩ => ?_⟩
    subst hr1
    wtm_at "wp"
    refine ⟨Z1, L, g, a, rf, mf, pg, ar, k, evs, i, rfl, S, A1.mono hs1, hs1 _ _ har, PO, hrun, hk, fun r2 Z2 H hs2 S ⟨p2, e2, b2, ws2, x2, y2, hr2, h21, h22, h23, h24⟩ => ?_⟩
    subst hr2
    wtm_at "wp"
    refine k_slT S (.z h21) (by wtm_at "sx") (ys := [.ref e2, .int (k : Nat), .ref b2]) rfl fun p3 H S => ?_
    wtm_at "wp"
    have h14b := Paired.mapP h14 fun _ _ z => EvAt.mono hs2 z
    replace h11 := hs2 _ _ h11
    replace h12 := hs2 _ _ h12
    replace h13 := hs2 _ _ h13
    refine ⟨runPd g k evs i, runPd g k evs i, .tup (SqT.of (S.at (.l (by wtm_at "mem")))) (.cons (.tup (SqT.of (S.at (.z h22))) (.cons (.str _) (.cons (.int _) .nil))) (.cons (.int _) (.cons (.lst (SqL.of (S.at (.z h23))) (evs_dp S h24)) .nil))),
      .tup (SqT.of (S.at (.z h11))) (.cons (.tup (SqT.of (S.at (.z h12))) (.cons (.str _) (.cons (.int _) .nil))) (.cons (.int _) (.cons (.lst (SqL.of (S.at (.z h13))) (evs_dp S h14b)) .nil))), run_shaped sK sq k evs i, run_shaped sK sq k evs i, ?_⟩
    rw [run_refl sK sq]
    wtm_at "wp"
    have hsA := hs1.trans hs2
    refine ⟨Z2, _, g, a, pg, ar, k, evs, i, rfl, S, A1.mono hsA, hsA _ _ har, hpl, hrun, hk, fun r4 Z4 H hs4 S ⟨p4, e4, b4, ws4, hr4, h41, h42, h43, h44⟩ => ?_⟩
    subst hr4
    have h14c := Paired.mapP h14b fun _ _ z => EvAt.mono hs4 z
    replace h11 := hs4 _ _ h11
    replace h12 := hs4 _ _ h12
    replace h13 := hs4 _ _ h13
    wtm_at "wp"
    refine ⟨runPd g k evs i, runPd g k evs i, .tup (SqT.of (S.at (.z h41))) (.cons (.tup (SqT.of (S.at (.z h42))) (.cons (.str _) (.cons (.int _) .nil))) (.cons (.int _) (.cons (.lst (SqL.of (S.at (.z h43))) (evs_dp S h44)) .nil))),
      .tup (SqT.of (S.at (.z h11))) (.cons (.tup (SqT.of (S.at (.z h12))) (.cons (.str _) (.cons (.int _) .nil))) (.cons (.int _) (.cons (.lst (SqL.of (S.at (.z h13))) (evs_dp S h14c)) .nil))), run_shaped sK sq k evs i, run_shaped sK sq k evs i, ?_⟩
    rw [run_refl sK sq]
    wtm_at "wp"
    refine k_lc_list S (by wtm_at "in") (by wtm_at "wipe") (fun D j H => SH Z4 ((D, .lst ((tells (evs.take j)).map V.int)) :: L) H) (fun D H S => S.sub (by wtm_at "sub")) (fun D j H S => S.at (.z h13)) ?_ (by wtm_at "wipe") ?_
    · rintro D j x H hx S
      have hj : j < ws1.length := (List.getElem?_eq_some_iff.mp hx).1
      have hl : evs.length = ws1.length := h14c.length
      obtain ⟨ev, hev, p, rfl, hp⟩ : ∃ ev, evs[j]? = some ev ∧ EvAt Z4 g ev x := by
        obtain ⟨y, hy, hF⟩ := Paired.get h14c (i := j) (x := evs[j]'(by omega)) (List.getElem?_eq_getElem (by omega))
        rw [hx] at hy
        obtain rfl := Option.some.inj hy
        exact ⟨_, List.getElem?_eq_getElem (by omega), hF⟩
      rw [evs_snoc hev, tells_app]
      have htl := tells_len (evs.take j)
      rw [List.length_take] at htl
      cases ev with
      | tell v =>
        replace hp : Z4 p = some (.tup [.str "tell", .int v]) := hp
        wtm_at "wp"
        refine k_lcapp S (by wtm_at "mem") (ha := .any) (hl := lt_line (by rw [List.length_map]; omega)) (hw := by wtm_at "wr") (q := fun H1 S => ?_)
        rw [List.map_append]
        exact S
      | keep =>
        replace hp : Z4 p = some (.tup [.str "keep", .str g.K]) := hp
        wtm_at "wp"
        rw [show tells [Ev.keep] = [] from rfl, List.append_nil]
        exact S
      | ask =>
        replace hp : Z4 p = some (.tup [.str "ask", .str g.q, .int 0]) := hp
        wtm_at "wp"
        rw [show tells [Ev.ask] = [] from rfl, List.append_nil]
        exact S
      | go m =>
        replace hp : Z4 p = some (.tup [.str "go", .int (m : Nat)]) := hp
        wtm_at "wp"
        rw [show tells [Ev.go m] = [] from rfl, List.append_nil]
        exact S
      | ended =>
        replace hp : Z4 p = some (.tup [.str "ended", .str g.K]) := hp
        wtm_at "wp"
        rw [show tells [Ev.ended] = [] from rfl, List.append_nil]
        exact S
    · rintro D H S
      rw [← h14c.length, List.take_length] at S
      wtm_at "wp"
      obtain ⟨S, hs5, hz5⟩ := S.pick (p := D) (by wtm_at "pick")
      obtain ⟨S, hs6, hz6⟩ := S.pick (by wtm_at "pick")
      exact q _ _ _ _ _ ((hsA.trans hs4).trans (hs5.trans hs6)) S hz6 (hs6 _ _ (hs5 _ _ h12)) (hs6 _ _ hz5)
end
end AL
/-! G7 -/
namespace AL
open PySem PySem.Spec PyProof.Rows L2
/-! ### the law's row of players -/
def ins {α : Type} (pile : Bool) (row : List α) (x : α) : List α := if pile then x :: row else row ++ [x]
inductive Sch (ds : List Deed) (pile : Bool) : Nat → Int → List (Nat × Int) → List Int → Int → Nat → Prop where
  | tell {a o row told tot c} (h : ds[a]? = some .tell) (r : Sch ds pile (a + 1) o row told tot c) : Sch ds pile a o row (o :: told) tot (c + 1)
  | split {a o row told tot c} (h : ds[a]? = some .split) (r : Sch ds pile (a + 1) ((o * 10 + 1) % 1000000000) (ins pile row (a + 1, o * 10 % 1000000000)) told tot c) : Sch ds pile a o row told tot (c + 7)
  | turn {a o row a2 o2 row2 told tot c} (h : ds[a]? = some .turn) (e : ins pile row (a + 1, o) = (a2, o2) :: row2) (r : Sch ds pile a2 o2 row2 told tot c) : Sch ds pile a o row told tot (c + 8)
  | last {a o} (h : a = ds.length) : Sch ds pile a o [] [] o 7
  | done {a o a2 o2 row2 told tot c} (h : a = ds.length) (r : Sch ds pile a2 o2 row2 told tot c) : Sch ds pile a o ((a2, o2) :: row2) told (o + tot) (c + 7)
def costD : List Deed → Nat
  | [] => 7
  | .tell :: r => costD r + 1
  | .turn :: r => costD r + 8
  | .split :: r => 2 * costD r + 7
def costR (ds : List Deed) (row : List (Nat × Int)) : Nat := (row.map fun p => costD (ds.drop p.1)).sum
theorem costR_ins (ds : List Deed) (pile : Bool) (row : List (Nat × Int)) (x : Nat × Int) : costR ds (ins pile row x) = costR ds row + costD (ds.drop x.1) := by
  unfold ins costR
  cases pile <;> simp <;> omega
theorem costD_pos (ds : List Deed) : 1 ≤ costD ds := by
  induction ds with
  | nil => decide
  | cons d r ih => cases d <;> simp only [costD] <;> omega
theorem mem_ins {pile : Bool} {row : List (Nat × Int)} {x y : Nat × Int} (h : y ∈ ins pile row x) : y = x ∨ y ∈ row := by
  unfold ins at h
  cases pile <;> simp at h <;> rcases h with h | h <;> simp [h]
theorem sch_ex (ds : List Deed) (pile : Bool) : ∀ (N a : Nat) (o : Int) (row : List (Nat × Int)), costD (ds.drop a) + costR ds row ≤ N → a ≤ ds.length → (∀ p ∈ row, p.1 ≤ ds.length) → ∃ told tot c, Sch ds pile a o row told tot c ∧ c ≤ costD (ds.drop a) + costR ds row
  | 0, a, o, row, h, _, _ => by have := costD_pos (ds.drop a); omega
  | N + 1, a, o, row, h, ha, hr => by
    rcases Nat.lt_or_ge a ds.length with hlt | hge
    · obtain ⟨d, hd⟩ : ∃ d, ds[a]? = some d := ⟨_, List.getElem?_eq_getElem hlt⟩
      have ed := drop_get hd
      rw [ed] at h ⊢
      cases d with
      | tell =>
        simp only [costD] at h ⊢
        obtain ⟨told, tot, c, h1, h2⟩ := sch_ex ds pile N (a + 1) o row (by omega) (by omega) hr
        exact ⟨_, _, _, .tell hd h1, by omega⟩
      | split =>
        simp only [costD] at h ⊢
        have e := costR_ins ds pile row (a + 1, o * 10 % 1000000000)
        simp only at e
        obtain ⟨told, tot, c, h1, h2⟩ := sch_ex ds pile N (a + 1) ((o * 10 + 1) % 1000000000) (ins pile row (a + 1, o * 10 % 1000000000)) (by omega) (by omega) (fun p hp => by
          rcases mem_ins hp with rfl | hp
          · exact hlt
          · exact hr p hp)
        exact ⟨_, _, _, .split hd h1, by omega⟩
      | turn =>
        simp only [costD] at h ⊢
        have e := costR_ins ds pile row (a + 1, o)
        simp only at e
        have hmem : ∀ p ∈ ins pile row (a + 1, o), p.1 ≤ ds.length := fun p hp => by
          rcases mem_ins hp with rfl | hp
          · exact hlt
          · exact hr p hp
        cases hi : ins pile row (a + 1, o) with
        | nil => unfold ins at hi; cases pile <;> simp at hi
        | cons p row2 =>
          obtain ⟨a2, o2⟩ := p
          rw [hi] at e hmem
          simp only [costR, List.map_cons, List.sum_cons] at e
          obtain ⟨told, tot, c, h1, h2⟩ := sch_ex ds pile N a2 o2 row2 (by simp only [costR] at h ⊢; omega) (hmem _ List.mem_cons_self) (fun p hp => hmem p (List.mem_cons_of_mem _ hp))
          exact ⟨_, _, _, .turn hd hi h1, by simp only [costR] at h2 ⊢; omega⟩
    · have e : a = ds.length := by omega
      rw [List.drop_of_length_le (by omega)] at h ⊢
      simp only [costD] at h ⊢
      cases row with
      | nil => exact ⟨_, _, _, .last e, by omega⟩
      | cons p row2 =>
        obtain ⟨a2, o2⟩ := p
        simp only [costR, List.map_cons, List.sum_cons] at h ⊢
        obtain ⟨told, tot, c, h1, h2⟩ := sch_ex ds pile N a2 o2 row2 (by simp only [costR]; omega) (hr _ List.mem_cons_self) (fun p hp => hr p (List.mem_cons_of_mem _ hp))
        exact ⟨_, _, _, .done e h1, by simp only [costR] at h2; omega⟩
def splits (ds : List Deed) : Nat := (ds.filter fun d => decide (d = .split)).length
theorem costD_le : ∀ ds : List Deed, costD ds + 7 ≤ 2 ^ splits ds * (8 * (ds.length - splits ds) + 14) ∧ splits ds ≤ ds.length
  | [] => by decide
  | d :: r => by
    obtain ⟨h1, h2⟩ := costD_le r
    have hp : 1 ≤ 2 ^ splits r := Nat.one_le_two_pow
    cases d with
    | tell =>
      have e : splits (.tell :: r) = splits r := rfl
      rw [e, List.length_cons]
      refine ⟨?_, by omega⟩
      rw [show r.length + 1 - splits r = (r.length - splits r) + 1 by omega, show 8 * (r.length - splits r + 1) + 14 = (8 * (r.length - splits r) + 14) + 8 by omega, Nat.mul_add]
      simp only [costD]
      have : 8 ≤ 2 ^ splits r * 8 := Nat.le_mul_of_pos_left 8 hp
      omega
    | turn =>
      have e : splits (.turn :: r) = splits r := rfl
      rw [e, List.length_cons]
      refine ⟨?_, by omega⟩
      rw [show r.length + 1 - splits r = (r.length - splits r) + 1 by omega, show 8 * (r.length - splits r + 1) + 14 = (8 * (r.length - splits r) + 14) + 8 by omega, Nat.mul_add]
      simp only [costD]
      have : 8 ≤ 2 ^ splits r * 8 := Nat.le_mul_of_pos_left 8 hp
      omega
    | split =>
      have e : splits (.split :: r) = splits r + 1 := rfl
      rw [e, List.length_cons]
      refine ⟨?_, by omega⟩
      rw [show r.length + 1 - (splits r + 1) = r.length - splits r by omega, Nat.pow_succ, Nat.mul_right_comm]
      simp only [costD]
      omega
theorem costD_lt {ds : List Deed} (h1 : ds.length ≤ 10) (h2 : splits ds ≤ 3) : costD ds ≤ 560 := by
  obtain ⟨h, h3⟩ := costD_le ds
  have hs : splits ds = 0 ∨ splits ds = 1 ∨ splits ds = 2 ∨ splits ds = 3 := by omega
  rcases hs with e | e | e | e <;> rw [e] at h <;> omega
end AL
/-! G8 -/
namespace AL
open PySem PySem.Spec PyProof.Rows L2
def RowAt (Z : Hp) (x : Nat × Int) (v : V) : Prop := ∃ p, v = .ref p ∧ Z p = some (.tup [.int (x.1 : Nat), .int x.2])
theorem RowAt.mono {Z Z1 : Hp} (hs : Same Z Z1) {x : Nat × Int} {v : V} (h : RowAt Z x v) : RowAt Z1 x v := by
  obtain ⟨p, e, h⟩ := h
  exact ⟨p, e, hs _ _ h⟩
theorem Paired.ins {α β : Type} {F : α → β → Prop} {pile : Bool} {a : List α} {b : List β} {x : α} {y : β} (h : Paired F a b) (r : F x y) : Paired F (ins pile a x) (AL.ins pile b y) := by
  unfold AL.ins
  cases pile with
  | true => exact .cons r h
  | false => exact Paired.app h (.cons r .nil)
theorem len_ins {α : Type} (pile : Bool) (a : List α) (x : α) : (ins pile a x).length = a.length + 1 := by unfold ins; cases pile <;> simp
section
variable {Z : Hp} {L L1 : Lx} {H : Hp} {l : Addr} {xs ys : List V} {i : Int} {y : V} {Q : VK}
def rInsert : V → List V → Hp → VK → Prop := fun x vs H Q => ∃ (l : Addr) (xs : List V) (i : Int) (y : V), x = .ref l ∧ vs = [.int i, y] ∧ H l = some (.lst xs) ∧ xs.length < sizeLine ∧ 0 ≤ i ∧ i < 2 ^ 63 ∧
    Q .non (upd H l (.lst (xs.take i.toNat ++ [y] ++ xs.drop i.toNat)))
theorem mt_insertK {X : Cx} : MtR X "list.insert" rInsert := mt_insert
theorem k_insert (S : SH Z L H) (hm : (l, HO.lst xs) ∈ L) (hl : xs.length ≤ 100000) (h0 : 0 ≤ i) (h1 : i < 2 ^ 63) (e : xs.take i.toNat ++ [y] ++ xs.drop i.toNat = ys) (hw : Wr L l (.lst ys) L1) (q : ∀ H1, SH Z L1 H1 → Q .non H1) :
    rInsert (.ref l) [.int i, y] H Q :=
  ⟨l, xs, i, y, rfl, rfl, S.l _ _ hm, lt_line hl, h0, h1, by rw [e]; exact q _ (S.wr hw)⟩
theorem k_pop0 {x : V} (S : SH Z L H) (hm : (l, HO.lst (x :: xs)) ∈ L) (hw : Wr L l (.lst xs) L1) (q : ∀ H1, SH Z L1 H1 → Q x H1) : rPopAt (.ref l) [.int 0] H Q :=
  ⟨l, x :: xs, 0, 0, x, rfl, rfl, S.l _ _ hm, by decide, by decide, by simp [seqIndex?], rfl, by rw [List.eraseIdx_cons_zero]; exact q _ (S.wr hw)⟩
end
theorem p9 : (10 : Int) ^ (9 : Int).toNat = 1000000000 := by decide
section
variable {P : Program} {w : World} {K : PySem.W.Frag} {mg : Str → Option Value} {base : Heap}
def pileV (pile : Bool) : V := .int (if pile then 1 else 0)
def spLDue : Sp := fun vs H Q _ => ∃ (Z : Hp) (L : Lx) (dl : Addr) (ds : List Deed) (pile : Bool) (told : List Int) (tot : Int) (c : Nat), vs = [.ref dl, pileV pile] ∧ SH Z L H ∧ In Z L dl (.lst (ds.map fun d => V.str d.s)) ∧ Sch ds pile 0 1 [] told tot c ∧ c ≤ 1000 ∧
  ∀ r l Z1 H1, Same Z Z1 → SH Z1 L H1 → Z1 r = some (.tup [.ref l, .int (tot % 1000000000)]) → Z1 l = some (.lst (told.map V.int)) → Q (.ref r) H1
theorem ok_l_due (T : Tx K mg) : Cal P w K mg base 1 "_law_due" ["_law_deeds", "_law_pile"] spLDue := by
  refine mk_cal (F_l_due T) (g_law_due T) sc_l_due (fun _ _ _ _ _ _ us hl => match us, hl with | [_, _], _ => rfl) ?len ?body
  case len =>
    rintro vs H Q E ⟨Z, L, dl, ds, pile, told, tot, c, rfl, _⟩
    rfl
  case body =>
    rintro cdv A outer s0 H vs Q E hr ⟨Z, L, dl, ds, pile, told, tot, c, rfl, S, hdl, hsch0, hc, q⟩
    refine ⟨_, (pss_cons (ps_par (i := 2) (j := 3) (by rfl) sc_l_due.nd rfl rfl (by decide) rfl rfl (pa_cons (pe_lst pa_nil) (pa_cons pe_int pa_nil)) (by rfl)) (pss_cons (ps_set (i := 4) sc_l_due.nd rfl (Or.inl rfl) (pe_lst (pa_cons (pe_tup (pa_cons pe_int (pa_cons pe_int pa_nil))) pa_nil))) (pss_cons (ps_while PassesOwn.never (pt_cmpR op_gt (pe_callB call_lenA (by rfl) (b_len T) (by decide +kernel) (pa_cons (pv 4) pa_nil)) pe_int (nomark _)) (pss_cons (ps_asg (pe_bmK (K := K) (pe_bm PySem.F.plainAttrs_list PySem.F.slot_list_pop PySem.F.type_list_pop mt_popAt (pv 4) (pa_cons pe_int pa_nil))) (pg_tupK (K := K) (by rfl) (pgs_cons (pg_name (i := 5) sc_l_due.nd rfl (Or.inl rfl)) (pgs_cons (pg_name (i := 6) sc_l_due.nd rfl (Or.inl rfl)) pgs_nil)))) (pss_cons (ps_while PassesOwn.never (PW.pt (pw_and (pt_cmpR op_lt (pv 5) (pe_callB call_lenA (by rfl) (b_len T) (by decide +kernel) (pa_cons (pv 0) pa_nil)) (nomark _)) (pw_and1 (pt_cmpR op_ne (pe_ix (ix_anyK (K := K)) (pv 0) (pv 5) (fun _ _ => rfl)) pe_str (nomark _))))) (pss_cons (ps_if (pt_cmpR op_eq (pe_ix (ix_anyK (K := K)) (pv 0) (pv 5) (fun _ _ => rfl)) pe_str (nomark _)) (pss_one (ps_expr (pe_bmK (K := K) (pe_bm PySem.F.plainAttrs_list PySem.F.slot_list_append PySem.F.type_list_append mt_append (pv 2) (pa_cons (pv 6) pa_nil))))) (pss_cons (ps_expr (pe_bmK (K := K) (pe_bm PySem.F.plainAttrs_list PySem.F.slot_list_insert PySem.F.type_list_insert mt_insertK (pv 4) (pa_cons (pe_ix (ix_anyK (K := K)) (pe_lst (pa_cons (pe_callB call_lenA (by rfl) (b_len T) (by decide +kernel) (pa_cons (pv 4) pa_nil)) (pa_cons pe_int pa_nil))) (pv 1) (fun _ _ => rfl)) (pa_cons (pe_tup (pa_cons (pe_op op_add (pv 5) pe_int) (pa_cons (pe_op op_mod (pe_op op_mul (pv 6) pe_int) (pe_op op_pow pe_int pe_int)) pa_nil))) pa_nil))))) (pss_one (ps_set (i := 6) sc_l_due.nd rfl (Or.inl rfl) (pe_op op_mod (pe_op op_add (pe_op op_mul (pv 6) pe_int) pe_int) (pe_op op_pow pe_int pe_int)))))) (pss_one (ps_set (i := 5) sc_l_due.nd rfl (Or.inl rfl) (pe_op op_add (pv 5) pe_int))))) (pss_one (ps_if (pt_cmpR op_lt (pv 5) (pe_callB call_lenA (by rfl) (b_len T) (by decide +kernel) (pa_cons (pv 0) pa_nil)) (nomark _)) (pss_one (ps_expr (pe_bmK (K := K) (pe_bm PySem.F.plainAttrs_list PySem.F.slot_list_insert PySem.F.type_list_insert mt_insertK (pv 4) (pa_cons (pe_ix (ix_anyK (K := K)) (pe_lst (pa_cons (pe_callB call_lenA (by rfl) (b_len T) (by decide +kernel) (pa_cons (pv 4) pa_nil)) (pa_cons pe_int pa_nil))) (pv 1) (fun _ _ => rfl)) (pa_cons (pe_tup (pa_cons (pe_op op_add (pv 5) pe_int) (pa_cons (pv 6) pa_nil))) pa_nil)))))) (pss_one (ps_set (i := 3) sc_l_due.nd rfl (Or.inl rfl) (pe_op op_add (pv 3) (pv 6))))))))) (pss_one (ps_ret (pe_tup (pa_cons (pv 2) (pa_cons (pe_op op_mod (pv 3) (pe_op op_pow pe_int pe_int)) pa_nil)))))))), ?_⟩
    show (_ : TS) _ ([some _, some _, none, none, none, none, none] : L2.St) _
    wtm_at "w1"
    refine w_parb ?_
    wtm_at "wp"
    refine ⟨_, _, rfl, ?_⟩
    simp only [List.set_cons_succ, List.set_cons_zero]
    rename Addr => tL
    wtm_at "wp"
    rename Addr => rL
    obtain ⟨S, hs0, hz0⟩ := S.pick (o := .tup [.int 0, .int 1]) (by wtm_at "pick")
    refine w_while (fun m σ H => ∃ Z1 tl tt row rv oa oo, σ = [some (.ref dl), some (pileV pile), some (.ref tL), some (.int tt), some (.ref rL), oa, oo] ∧ Same Z Z1 ∧ SH Z1 ((rL, .lst rv) :: (tL, .lst (List.map V.int tl)) :: L) H ∧ Paired (RowAt Z1) row rv ∧ tl.length + row.length + m ≤ 1001 ∧
      ((row = [] ∧ m = 0 ∧ tl = told ∧ tt = tot) ∨ ∃ a o row2 told2 tot2, row = (a, o) :: row2 ∧ Sch ds pile a o row2 told2 tot2 m ∧ tl ++ told2 = told ∧ tt + tot2 = tot))
      c ⟨_, [], 0, [(0, 1)], _, _, _, rfl, hs0, S, .cons ⟨_, rfl, hz0⟩ .nil, by simp; omega, .inr ⟨0, 1, [], told, tot, rfl, hsch0, rfl, by omega⟩⟩ ?_
    rintro m σ H ⟨Z1, tl, tt, row, rv, oa, oo, rfl, hs1, S, hrow, hlen, ⟨rfl, rfl, rfl, rfl⟩ | ⟨a, o, row2, told2, tot2, rfl, hsch, rfl, rfl⟩⟩
    · cases hrow
      wtm_at "wp"
      refine k_I ⟨by decide, by decide, by decide⟩ ?_
      rw [p9]
      refine k_I (by decide) ?_
      wtm_at "wp"
      obtain ⟨S, hs2, hz2⟩ := S.pick (p := tL) (by wtm_at "pick")
      obtain ⟨S, hs3, hz3⟩ := S.pick (o := .tup [.ref tL, _]) (by wtm_at "pick")
      exact q _ _ _ _ (hs1.trans (hs2.trans hs3)) (S.sub (by wtm_at "sub")) hz3 (hs3 _ _ hz2)
    · obtain ⟨rv2, p, rfl, hp, hrow2⟩ : ∃ rv2 p, rv = .ref p :: rv2 ∧ Z1 p = some (.tup [.int (a : Nat), .int o]) ∧ Paired (RowAt Z1) row2 rv2 := by
        cases hrow with
        | cons h1 h2 => obtain ⟨p, rfl, hp⟩ := h1; exact ⟨_, p, rfl, hp, h2⟩
      wtm_at "wp"
      refine if_T (decide_eq_true (by rw [List.length_cons]; omega)) ?_
      refine k_turn ?_
      wtm_at "wp"
      refine k_pop0 S (by wtm_at "mem") (by wtm_at "wr") fun H S => ?_
      wtm_at "wp"
      refine w_while (fun n σ H => ∃ Z2 tl2 row rv a o told3, σ = [some (.ref dl), some (pileV pile), some (.ref tL), some (.int tt), some (.ref rL), some (.int ((a : Nat) : Int)), some (.int o)] ∧ Same Z1 Z2 ∧ SH Z2 ((rL, .lst rv) :: (tL, .lst (List.map V.int tl2)) :: L) H ∧ Paired (RowAt Z2) row rv ∧ tl2.length + row.length + n ≤ 1000 ∧ n ≤ m ∧ Sch ds pile a o row told3 tot2 n ∧ tl2 ++ told3 = tl ++ told2)
        m ⟨Z1, tl, row2, rv2, a, o, told2, rfl, Same.refl _, S, hrow2, by rw [List.length_cons] at hlen; omega, Nat.le_refl _, hsch, rfl⟩ ?_
      clear S hrow2 hsch hrow hlen hp
      rintro n σ H ⟨Z2, tl2, row, rv, a, o, told3, rfl, hs2, S, hrow, hlen, hnm, hsch, ht⟩
      have hdl2 := hdl.mono (hs1.trans hs2)
      have hrl : row.length = rv.length := hrow.length
      cases hsch with
      | @tell _ _ _ told4 _ c h r =>
        have hat : atI (ds.map fun d => V.str d.s) (a : Nat) = some (.str Deed.tell.s) := L2.atI_nat (by rw [List.getElem?_map, h]; rfl)
        have hlt : a < ds.length := (List.getElem?_eq_some_iff.mp h).1
        wtm_at "wp"
        refine if_T (decide_eq_true (by rw [List.length_map]; omega)) ?_
        wtm_at "wp"
        refine k_turn ?_
        wtm_at "wp"
        refine k_app S (by wtm_at "mem") (lt_line (by rw [List.length_map]; omega)) .any (by wtm_at "wr") fun H S => ?_
        wtm_at "wp"
        refine ⟨c, Nat.lt_succ_self _, Z2, tl2 ++ [o], row, rv, a + 1, o, told4, by rw [intN], hs2, by rw [List.map_append]; exact S, hrow, by rw [List.length_append, List.length_cons, List.length_nil]; omega, by omega, r, by rw [← ht]; simp⟩
      | @split _ _ _ _ _ c h r =>
        have hat : atI (ds.map fun d => V.str d.s) (a : Nat) = some (.str Deed.split.s) := L2.atI_nat (by rw [List.getElem?_map, h]; rfl)
        have hlt : a < ds.length := (List.getElem?_eq_some_iff.mp h).1
        wtm_at "wp"
        refine if_T (decide_eq_true (by rw [List.length_map]; omega)) ?_
        wtm_at "wp"
        refine k_turn ?_
        wtm_at "wp"
        refine k_ixA_l (v := .int (if pile = true then 0 else ((rv.length : Nat) : Int))) S (by wtm_at "in") (by cases pile <;> rfl) ?_
        wtm_at "wp"
        refine k_I (.inr ⟨by decide, by decide⟩) ?_
        wtm_at "wp"
        refine k_I ⟨by decide, by decide, by decide⟩ ?_
        rw [p9]
        refine k_I (by decide) ?_
        wtm_at "wp"
        refine k_insert (l := rL) (xs := rv) (y := .ref p) (i := if pile = true then 0 else ((rv.length : Nat) : Int)) (ys := AL.ins pile rv (.ref p)) S (by wtm_at "mem") (by omega) (by split <;> omega) (by split <;> omega) (by unfold AL.ins; cases pile <;> simp) (by wtm_at "wr") fun H S => ?_
        wtm_at "wp"
        refine k_I (.inr ⟨by decide, by decide⟩) ?_
        wtm_at "wp"
        refine k_I ⟨by decide, by decide, by decide⟩ ?_
        rw [p9]
        refine k_I (by decide) ?_
        wtm_at "wp"
        obtain ⟨S, hs3, hz3⟩ := S.pick (o := .tup [.int ((a : Nat) + 1 : Int), .int (o * 10 % 1000000000)]) (by wtm_at "pick")
        rw [intN] at hz3
        refine ⟨c, by omega, _, tl2, AL.ins pile row (a + 1, o * 10 % 1000000000), _, a + 1, _, told3, by rw [intN], hs2.trans hs3, S.sel (by wtm_at "sel"), Paired.ins (Paired.mapP hrow fun _ _ z => RowAt.mono hs3 z) ⟨_, rfl, hz3⟩, by rw [len_ins]; omega, by omega, r, ht⟩
      | @turn _ _ _ a2 o2 row3 _ _ c h e r =>
        have hat : atI (ds.map fun d => V.str d.s) (a : Nat) = some (.str Deed.turn.s) := L2.atI_nat (by rw [List.getElem?_map, h]; rfl)
        have hlt : a < ds.length := (List.getElem?_eq_some_iff.mp h).1
        wtm_at "wp"
        refine if_T (decide_eq_true (by rw [List.length_map]; omega)) ?_
        wtm_at "wp"
        refine if_T (decide_eq_true (by rw [List.length_map]; omega)) ?_
        wtm_at "wp"
        refine k_ixA_l (v := .int (if pile = true then 0 else ((rv.length : Nat) : Int))) S (by wtm_at "in") (by cases pile <;> rfl) ?_
        wtm_at "wp"
        refine k_insert (l := rL) (xs := rv) (y := .ref p) (i := if pile = true then 0 else ((rv.length : Nat) : Int)) (ys := AL.ins pile rv (.ref p)) S (by wtm_at "mem") (by omega) (by split <;> omega) (by split <;> omega) (by unfold AL.ins; cases pile <;> simp) (by wtm_at "wr") fun H S => ?_
        wtm_at "wp"
        obtain ⟨S, hs3, hz3⟩ := S.pick (o := .tup [.int ((a : Nat) + 1 : Int), .int o]) (by wtm_at "pick")
        rw [intN] at hz3
        refine ⟨c, by omega, _, tl2, tt, AL.ins pile row (a + 1, o), _, _, _, rfl, hs1.trans (hs2.trans hs3), S.sel (by wtm_at "sel"), Paired.ins (Paired.mapP hrow fun _ _ z => RowAt.mono hs3 z) ⟨_, rfl, hz3⟩, by rw [len_ins]; omega, .inr ⟨a2, o2, row3, told3, tot2, e, r, ht, rfl⟩⟩
      | last h =>
        cases hrow
        wtm_at "wp"
        refine if_F (decide_eq_false (by rw [List.length_map]; omega)) ?_
        wtm_at "wp"
        refine if_F (decide_eq_false (by rw [List.length_map]; omega)) ?_
        wtm_at "wp"
        exact ⟨0, by omega, Z2, tl2, _, [], [], _, _, rfl, hs1.trans hs2, S, .nil, by simp; omega, .inl ⟨rfl, rfl, by rw [← ht]; simp, rfl⟩⟩
      | @done _ _ a2 o2 row3 _ _ c h r =>
        wtm_at "wp"
        refine if_F (decide_eq_false (by rw [List.length_map]; omega)) ?_
        wtm_at "wp"
        refine if_F (decide_eq_false (by rw [List.length_map]; omega)) ?_
        wtm_at "wp"
        exact ⟨c, by omega, Z2, tl2, _, _, rv, _, _, rfl, hs1.trans hs2, S, hrow, by omega, .inr ⟨a2, o2, row3, told3, _, rfl, r, ht, by omega⟩⟩
end
end AL
/-! H0 -/
namespace AL
open PySem PySem.Spec PyProof.Rows L2
/-! ### the law's program, run plainly -/
def lawPg (W : Nat → Str) (ds : List Deed) (pile : Bool) (kv av : V) : Pg where
  q := W 10
  K := W 11
  f0 := W 0
  f1 := W 1
  hx := W 20
  hh := W 21
  hn := W 22
  ex := W 20
  en := W 22
  hb := hearB W pile
  eb := endB W
  b0 := .empty (W 21) kv (.keep (W 20) (W 11) (.str (W 21)) (W 1) av (.give (.str (W 20))))
  b1 := player W (W 10) 0 (.int 1) ds
section
variable {W : Nat → Str} {ds : List Deed} {pile : Bool} {kv av : V}
theorem eg_hit {e : AEnv} {i : Nat} {a : AV} : eget ((W i, a) :: e) (W i) = some a := by rw [eget_cons, if_pos rfl]
theorem eg_ne (hW : ∀ i j, i < 64 → j < 64 → W i = W j → i = j) {e : AEnv} {i j : Nat} {a : AV} (hi : i < 64) (hj : j < 64) (h : i ≠ j) : eget ((W i, a) :: e) (W j) = eget e (W j) := by
  rw [eget_cons, if_neg fun q => h (hW _ _ hi hj q.symm)]
theorem drop_cons {α : Type} {l r : List α} {n : Nat} {x : α} (h : l.drop n = x :: r) : l[n]? = some x ∧ l.drop (n + 1) = r := by
  refine ⟨?_, ?_⟩
  · have : (l.drop n)[0]? = some x := by rw [h]; rfl
    rw [List.getElem?_drop, Nat.add_zero] at this
    exact this
  · have e : l.drop (n + 1) = (l.drop n).drop 1 := by rw [List.drop_drop]
    rw [e, h]
    rfl
/-- a player's own number -/
def OwnOk (W : Nat → Str) (a : Nat) (own : V) (e : List (Str × Int)) (o : Int) : Prop := aw (ienv e) own = some (.int o) ∧ 0 ≤ o ∧ o < 1000000000 ∧ ((∃ i, own = .int i) ∨ ∃ j, j < a ∧ own = .str (W (50 + j)))
/-- a player at a deed -/
def PThr (W : Nat → Str) (ds : List Deed) (a : Nat) (o : Int) (e : List (Str × Int)) (n : Nat) : Prop := a ≤ ds.length ∧ n ≤ 3 * a ∧ e.length ≤ 3 * a ∧ ∃ own, (player W (W 10) 0 (.int 1) ds).pcs.drop n = (player W (W 10) a own (ds.drop a)).pcs ∧ OwnOk W a own e o
/-- behind a split's ask -/
def PSpl (W : Nat → Str) (ds : List Deed) (a : Nat) (o : Int) (e : List (Str × Int)) (n : Nat) (v : Int) : Prop := a + 1 ≤ ds.length ∧ n ≤ 3 * a + 1 ∧ e.length ≤ 3 * a + 1 ∧ ∃ own, (player W (W 10) 0 (.int 1) ds).pcs.drop n =
    (Bd.sum (W (40 + a)) "*" own (.int 10) (.sum (W (50 + a)) "+" (.str (W (40 + a))) (.str (W (30 + a))) (player W (W 10) (a + 1) (.str (W (50 + a))) (ds.drop (a + 1))))).pcs ∧ OwnOk W a own e o ∧ eget (ienv e) (W (30 + a)) = some (.int v) ∧ 0 ≤ v ∧ v < 10
/-- a hold of the row -/
def HdOk (W : Nat → Str) (ds : List Deed) (h : Hd) (x : Nat × Int) : Prop := h.env.length ≤ 32 ∧ (∃ y c nx, (player W (W 10) 0 (.int 1) ds).pcs[h.at_]? = some (.ask y (W 10) c nx) ∧
  (PThr W ds x.1 x.2 ((y, 0) :: h.env) (h.at_ + 1) ∨ ∃ a o, x = (a + 1, o * 10 % 1000000000) ∧ PSpl W ds a o ((y, 0) :: h.env) (h.at_ + 1) 0))
theorem OwnOk.put (hW : ∀ i j, i < 64 → j < 64 → W i = W j → i = j) {a j : Nat} {own : V} {e : List (Str × Int)} {o i : Int} (h : OwnOk W a own e o) (ha : a ≤ 10) (hj : j < 64) (hj2 : j < 50 ∨ 50 + a ≤ j) : OwnOk W a own ((W j, i) :: e) o := by
  obtain ⟨h1, h2, h3, h4⟩ := h
  refine ⟨?_, h2, h3, h4⟩
  rcases h4 with ⟨k, rfl⟩ | ⟨k, hk, rfl⟩
  · exact h1
  · show eget ((W j, .int i) :: ienv e) (W (50 + k)) = _
    rw [eg_ne hW hj (by omega) (by omega)]
    exact h1
theorem OwnOk.mono {a b : Nat} {own : V} {e : List (Str × Int)} {o : Int} (h : OwnOk W a own e o) (hab : a ≤ b) : OwnOk W b own e o :=
  ⟨h.1, h.2.1, h.2.2.1, h.2.2.2.imp id fun ⟨j, hj, e⟩ => ⟨j, by omega, e⟩⟩
theorem small_int {e : List (Str × Int)} : SmallH (ienv e) := fun x h q => by
  obtain ⟨i, hi⟩ := ienv_int q
  cases hi
/-- the two sums behind a split -/
theorem spl_steps (hW : ∀ i j, i < 64 → j < 64 → W i = W j → i = j) (hd10 : ds.length ≤ 10) {a n hd : Nat} {o v w : Int} {e : List (Str × Int)} {low : List AF} {nt : Option (List Hd)} {ev : List Ev} {X : Nat} {T : List Int} (h : PSpl W ds a o e n v)
    (hl : low.length ≤ 500) (hev : ev.length ≤ 2000) (hle : ∀ f ∈ low, f.env.length ≤ 100)
    (q : ∀ e2 n2, PThr W ds (a + 1) ((o * 10 + v) % 1000000000) e2 n2 → ∃ m evs, m ≤ X ∧ ARun (lawPg W ds pile kv av) ⟨low, nt, ⟨.d1, n2, ienv e2⟩, hd, ev⟩ m evs w ∧ tells evs = T) :
    ∃ m evs, m ≤ X + 2 ∧ ARun (lawPg W ds pile kv av) ⟨low, nt, ⟨.d1, n, ienv e⟩, hd, ev⟩ m evs w ∧ tells evs = T := by
  obtain ⟨h1, h2, h3, own, h4, h5, h6, h7, h8⟩ := h
  obtain ⟨p1, h4⟩ := drop_cons (r := (Bd.sum (W (50 + a)) "+" (.str (W (40 + a))) (.str (W (30 + a))) (player W (W 10) (a + 1) (.str (W (50 + a))) (ds.drop (a + 1)))).pcs) h4
  obtain ⟨p2, h4⟩ := drop_cons (r := (player W (W 10) (a + 1) (.str (W (50 + a))) (ds.drop (a + 1))).pcs) h4
  have o1 := h5.2.1
  have o2 := h5.2.2.1
  have e1 : sumV "*" o 10 = (o * 10) % 1000000000 := by
    have d1 : ("*" : Str) ≠ "+" := by decide
    have d2 : ("*" : Str) ≠ "-" := by decide
    simp [sumV, d1, d2]
  have r1 := Int.emod_nonneg (o * 10) (show (1000000000 : Int) ≠ 0 by decide)
  have r2 := Int.emod_lt_of_pos (o * 10) (show (0 : Int) < 1000000000 by decide)
  have e2 : sumV "+" ((o * 10) % 1000000000) v = (o * 10 + v) % 1000000000 := by
    have : sumV "+" ((o * 10) % 1000000000) v = ((o * 10) % 1000000000 + v) % 1000000000 := by simp [sumV]
    rw [this]; omega
  have s1 : AStep (lawPg W ds pile kv av) ⟨low, nt, ⟨.d1, n, ienv e⟩, hd, ev⟩ ⟨low, nt, ⟨.d1, n + 1, (W (40 + a), .int ((o * 10) % 1000000000)) :: ienv e⟩, hd, ev⟩ := by
    refine .mk p1 ?_
    rw [← e1]
    exact .sum h5.1 rfl ⟨by omega, by omega⟩ ⟨by decide, by decide⟩
  have s2 : AStep (lawPg W ds pile kv av) ⟨low, nt, ⟨.d1, n + 1, (W (40 + a), .int ((o * 10) % 1000000000)) :: ienv e⟩, hd, ev⟩ ⟨low, nt, ⟨.d1, n + 1 + 1, (W (50 + a), .int ((o * 10 + v) % 1000000000)) :: (W (40 + a), .int ((o * 10) % 1000000000)) :: ienv e⟩, hd, ev⟩ := by
    refine .mk p2 ?_
    rw [← e2]
    refine .sum eg_hit ?_ ⟨by omega, by omega⟩ ⟨by omega, by omega⟩
    show eget ((W (40 + a), AV.int ((o * 10) % 1000000000)) :: ienv e) (W (30 + a)) = _
    rw [eg_ne hW (by omega) (by omega) (by omega)]
    exact h6
  obtain ⟨m, evs, hm, hr, ht⟩ := q ((W (50 + a), (o * 10 + v) % 1000000000) :: (W (40 + a), (o * 10) % 1000000000) :: e) (n + 1 + 1) ⟨h1, by omega, by simp only [List.length_cons]; omega, _, h4, eg_hit, Int.emod_nonneg _ (by decide), Int.emod_lt_of_pos _ (by decide), .inr ⟨a, by omega, rfl⟩⟩
  refine ⟨m + 1 + 1, evs, by omega, .step ⟨hl, hev, ?_, hle, ?_, small_int⟩ s1 (.step ⟨hl, hev, ?_, hle, ?_, small_int (e := (W (40 + a), (o * 10) % 1000000000) :: e)⟩ s2 hr), ht⟩
  · show (ienv e).length ≤ 100
    rw [ienv, List.length_map]; omega
  · show n ≤ 1000
    omega
  · show ((W (40 + a), AV.int ((o * 10) % 1000000000)) :: ienv e).length ≤ 100
    rw [List.length_cons, ienv, List.length_map]; omega
  · show n + 1 ≤ 1000
    omega
/-- a hold gone on with, answered 0 -/
theorem hd_resume (hW : ∀ i j, i < 64 → j < 64 → W i = W j → i = j) (hd10 : ds.length ≤ 10) {h : Hd} {x : Nat × Int} {hd : Nat} {w : Int} {low : List AF} {nt : Option (List Hd)} {ev : List Ev} {X : Nat} {T : List Int} {y : Str} {qq : Str} {c : V} {nx : Bd} (hh : HdOk W ds h x) (hp : Pt.pc (lawPg W ds pile kv av) .d1 h.at_ = some (.ask y qq c nx))
    (hl : low.length ≤ 500) (hev : ev.length ≤ 2000) (hle : ∀ f ∈ low, f.env.length ≤ 100)
    (q : ∀ e2 n2, PThr W ds x.1 x.2 e2 n2 → ∃ m evs, m ≤ X ∧ ARun (lawPg W ds pile kv av) ⟨low, nt, ⟨.d1, n2, ienv e2⟩, hd, ev⟩ m evs w ∧ tells evs = T) :
    ∃ m evs, m ≤ X + 2 ∧ ARun (lawPg W ds pile kv av) ⟨low, nt, ⟨.d1, h.at_ + 1, ienv ((y, 0) :: h.env)⟩, hd, ev⟩ m evs w ∧ tells evs = T := by
  obtain ⟨_, y2, c2, nx2, h1, h2⟩ := hh
  replace hp : (player W (W 10) 0 (.int 1) ds).pcs[h.at_]? = some (.ask y qq c nx) := hp
  rw [h1] at hp
  cases hp
  rcases h2 with h2 | ⟨a, o, rfl, h2⟩
  · obtain ⟨m, evs, hm, hr, ht⟩ := q _ _ h2
    exact ⟨m, evs, by omega, hr, ht⟩
  · exact spl_steps hW hd10 h2 hl hev hle fun e2 n2 hq => q e2 n2 (by rw [show (o * 10 + 0 : Int) = o * 10 by omega] at hq; exact hq)
end
end AL
/-! H1 -/
namespace AL
open PySem PySem.Spec PyProof.Rows L2
def Kont (g : Pg) (low : List AF) (T : List Int) (tot w : Int) (mk : Nat) : Prop := ∀ (top : AF) (a : V) (hd : Nat) (ev : List Ev), Pt.pc g top.t top.n = some (.give a) → aw top.env a = some (.int (tot % 1000000000)) → top.env.length ≤ 90 → top.n ≤ 1000 → SmallH top.env → ev.length ≤ 900 → tells ev = T →
  ∃ m evs, m ≤ mk ∧ ARun g ⟨low, none, top, hd, ev⟩ m evs w ∧ tells evs = T
theorem SmallH.int {env : AEnv} (h : SmallH env) (x : Str) (i : Int) : SmallH ((x, .int i) :: env) := fun y hd q => by
  rw [eget_cons] at q
  split at q
  · cases q
  · exact h y hd q
theorem SmallH.row {env : AEnv} (h : SmallH env) (x : Str) (r : List Hd) : SmallH ((x, .row r) :: env) := fun y hd q => by
  rw [eget_cons] at q
  split at q
  · cases q
  · exact h y hd q
theorem SmallH.hold {env : AEnv} (h : SmallH env) (x : Str) {hh : Hd} (hl : hh.env.length ≤ 900) : SmallH ((x, .hold hh) :: env) := fun y hd q => by
  rw [eget_cons] at q
  split at q
  · cases q; exact hl
  · exact h y hd q
theorem SmallH.nil : SmallH [] := fun y hd q => by cases q
section
variable {W : Nat → Str} {ds : List Deed} {pile : Bool} {kv av : V}
abbrev LowOk (low : List AF) : Prop := low.length ≤ 200 ∧ ∀ f ∈ low, f.env.length ≤ 90
abbrev Goes (W : Nat → Str) (ds : List Deed) (pile : Bool) (kv av : V) (s : AS) (w : Int) (T : List Int) (X : Nat) : Prop := ∃ m evs, m ≤ X ∧ ARun (lawPg W ds pile kv av) s m evs w ∧ tells evs = T
theorem goes_step {s s' : AS} {w : Int} {T : List Int} {X : Nat} (hl : LowOk s.low) (hev : s.ev.length ≤ 900) (he : s.top.env.length ≤ 90) (hn : s.top.n ≤ 1000) (hs : SmallH s.top.env) (h : AStep (lawPg W ds pile kv av) s s') (q : Goes W ds pile kv av s' w T X) : Goes W ds pile kv av s w T (X + 1) := by
  obtain ⟨m, evs, hm, hr, ht⟩ := q
  exact ⟨m + 1, evs, by omega, .step ⟨by have := hl.1; omega, by omega, by omega, fun f hf => by have := hl.2 f hf; omega, hn, hs⟩ h hr, ht⟩
theorem LowOk.cons {low : List AF} {f : AF} (h : LowOk low) (hl : low.length < 200) (hf : f.env.length ≤ 90) : LowOk (f :: low) :=
  ⟨by rw [List.length_cons]; omega, fun x hx => by
    rcases List.mem_cons.mp hx with rfl | hx
    · exact hf
    · exact h.2 x hx⟩
theorem hr1 : Pt.pc (lawPg W ds pile kv av) .hr 1 = some (hearIf W) := by show (hearB W pile).pcs[1]? = _; cases pile <;> rfl
theorem hr2 : Pt.pc (lawPg W ds pile kv av) .hr 2 = some (.go (W 23) (.str (W 21)) (.int 1) (.str (W 24)) (.give (.str (W 23)))) := by show (hearB W pile).pcs[2]? = _; cases pile <;> rfl
theorem hr3 : Pt.pc (lawPg W ds pile kv av) .hr 3 = some (.give (.str (W 23))) := by show (hearB W pile).pcs[3]? = _; cases pile <;> rfl
theorem hr4 : Pt.pc (lawPg W ds pile kv av) .hr 4 = some (.case (.str (W 24)) (.give (.int 0)) (W 26) (W 27) (.go (W 23) (.str (W 26)) (.int 0) (.str (W 27)) (.give (.str (W 23))))) := by show (hearB W pile).pcs[4]? = _; cases pile <;> rfl
theorem hr6 : Pt.pc (lawPg W ds pile kv av) .hr 6 = some (.go (W 23) (.str (W 26)) (.int 0) (.str (W 27)) (.give (.str (W 23)))) := by show (hearB W pile).pcs[6]? = _; cases pile <;> rfl
theorem hr7 : Pt.pc (lawPg W ds pile kv av) .hr 7 = some (.give (.str (W 23))) := by show (hearB W pile).pcs[7]? = _; cases pile <;> rfl
/-- behind a go of the hear -/
theorem kont_hear {low : List AF} {T : List Int} {tot w : Int} {mk n2 n3 : Nat} {env : AEnv} {h a b : V} {nx : Bd} (K : Kont (lawPg W ds pile kv av) low T tot w mk) (hl : LowOk (⟨.hr, n2, env⟩ :: low)) (h2 : Pt.pc (lawPg W ds pile kv av) .hr n2 = some (.go (W 23) h a b nx)) (e3 : n3 = n2 + 1) (h3 : Pt.pc (lawPg W ds pile kv av) .hr n3 = some (.give (.str (W 23)))) (hn : n2 ≤ 10) (he : env.length ≤ 20) (hs : SmallH env) : Kont (lawPg W ds pile kv av) (⟨.hr, n2, env⟩ :: low) T tot w (mk + 1) := by
  subst e3
  intro top a' hd ev hp ha hte htn hts hev hT
  obtain ⟨t, n, en⟩ := top
  refine goes_step (s := ⟨⟨.hr, n2, env⟩ :: low, none, ⟨t, n, en⟩, hd, ev⟩) hl hev hte htn hts (.giveP hp ha h2 (.inr ⟨_, _, _, _, rfl⟩)) ?_
  exact K ⟨.hr, n2 + 1, _⟩ (.str (W 23)) hd ev h3 eg_hit (by show (_ :: env).length ≤ 90; rw [List.length_cons]; omega) (by show n2 + 1 ≤ 1000; omega) (hs.int _ _) hev hT
theorem en0 : Pt.pc (lawPg W ds pile kv av) .en 0 = some (endB W) := rfl
theorem en1 : Pt.pc (lawPg W ds pile kv av) .en 1 = some (.give (.str (W 20))) := rfl
theorem en2 : Pt.pc (lawPg W ds pile kv av) .en 2 = some (.go (W 23) (.str (W 26)) (.int 0) (.str (W 27)) (.sum (W 24) "+" (.str (W 20)) (.str (W 23)) (.give (.str (W 24))))) := rfl
theorem en3 : Pt.pc (lawPg W ds pile kv av) .en 3 = some (.sum (W 24) "+" (.str (W 20)) (.str (W 23)) (.give (.str (W 24)))) := rfl
theorem en4 : Pt.pc (lawPg W ds pile kv av) .en 4 = some (.give (.str (W 24))) := rfl
/-- behind the end's go -/
theorem kont_end (hW : ∀ i j, i < 64 → j < 64 → W i = W j → i = j) {low : List AF} {T : List Int} {o tot w : Int} {mk : Nat} {h : Hd} {r1 r2 : List Hd} (K : Kont (lawPg W ds pile kv av) low T (o + tot) w mk) (hl0 : LowOk low) (hl : LowOk (⟨.en, 2, [(W 27, .row r1), (W 26, .hold h), (W 22, .row r2), (W 20, .int o)]⟩ :: low)) (ho : 0 ≤ o ∧ o < 1000000000) (hh : h.env.length ≤ 900) :
    Kont (lawPg W ds pile kv av) (⟨.en, 2, [(W 27, .row r1), (W 26, .hold h), (W 22, .row r2), (W 20, .int o)]⟩ :: low) T tot w (mk + 2) := by
  intro top a' hd ev hp ha hte htn hts hev hT
  obtain ⟨t, n, en⟩ := top
  have hs0 : SmallH [(W 27, AV.row r1), (W 26, .hold h), (W 22, .row r2), (W 20, .int o)] := (((SmallH.nil.int _ _).row _ _).hold _ hh).row _ _
  refine goes_step (s := ⟨⟨.en, 2, [(W 27, .row r1), (W 26, .hold h), (W 22, .row r2), (W 20, .int o)]⟩ :: low, none, ⟨t, n, en⟩, hd, ev⟩) hl hev hte htn hts (.giveP hp ha en2 (.inr ⟨_, _, _, _, rfl⟩)) ?_
  have r1' := Int.emod_nonneg tot (show (1000000000 : Int) ≠ 0 by decide)
  have r2' := Int.emod_lt_of_pos tot (show (0 : Int) < 1000000000 by decide)
  have e2 : sumV "+" o (tot % 1000000000) = (o + tot) % 1000000000 := by
    have : sumV "+" o (tot % 1000000000) = (o + tot % 1000000000) % 1000000000 := by simp [sumV]
    rw [this]; omega
  have hs1 := hs0.int (W 23) (tot % 1000000000)
  refine goes_step (s' := ⟨low, none, ⟨.en, 4, (W 24, .int ((o + tot) % 1000000000)) :: (W 23, .int (tot % 1000000000)) :: [(W 27, .row r1), (W 26, .hold h), (W 22, .row r2), (W 20, .int o)]⟩, hd, ev⟩) hl0 hev (by show (_ :: [_, _, _, _]).length ≤ 90; simp) (by show 3 ≤ 1000; decide) hs1 (.mk en3 ?_) ?_
  · rw [← e2]
    refine .sum ?_ eg_hit ⟨by omega, by omega⟩ ⟨by omega, by omega⟩
    show eget ((W 23, AV.int (tot % 1000000000)) :: _) (W 20) = _
    rw [eg_ne hW (by decide) (by decide) (by decide), eg_ne hW (by decide) (by decide) (by decide), eg_ne hW (by decide) (by decide) (by decide), eg_ne hW (by decide) (by decide) (by decide)]
    exact eg_hit
  · exact K ⟨.en, 4, _⟩ (.str (W 24)) hd ev en4 eg_hit (by show (_ :: _ :: [_, _, _, _]).length ≤ 90; simp) (by show 4 ≤ 1000; decide) (hs1.int _ _) hev hT
/-- an ask, heard, put into the row -/
def env1 (W : Nat → Str) (pile : Bool) (hs : List Hd) (h : Hd) (i : Int) : AEnv := [(W 24, .row (ins pile hs h)), (W 22, .row hs), (W 21, .hold h), (W 20, .int i)]
theorem small_env1 {hs : List Hd} {h : Hd} {i : Int} (hh : h.env.length ≤ 900) : SmallH (env1 W pile hs h i) := (((SmallH.nil.int _ _).hold _ hh).row _ _).row _ _
theorem ask2 (hW : ∀ i j, i < 64 → j < 64 → W i = W j → i = j) {low : List AF} {hs : List Hd} {n hd X : Nat} {e : List (Str × Int)} {ev : List Ev} {w i : Int} {T : List Int} {y : Str} {nx : Bd} (hp : Pt.pc (lawPg W ds pile kv av) .d1 n = some (.ask y (W 10) (.int i) nx)) (hl : LowOk low) (hev : ev.length ≤ 800) (he : e.length ≤ 60) (hn : n ≤ 100) (hhs : hs.length ≤ 1000)
    (q : Goes W ds pile kv av ⟨low, none, ⟨.hr, 1, env1 W pile hs ⟨hd, n, e⟩ i⟩, hd + 1, ev ++ [.ask]⟩ w T X) : Goes W ds pile kv av ⟨low, some hs, ⟨.d1, n, ienv e⟩, hd, ev⟩ w T (X + 2) := by
  refine goes_step (s := ⟨low, some hs, ⟨.d1, n, ienv e⟩, hd, ev⟩) hl (by show ev.length ≤ 900; omega) (by show (ienv e).length ≤ 90; rw [ienv, List.length_map]; omega) (by show n ≤ 1000; omega) small_int (.ask hp rfl) ?_
  refine goes_step (s' := ⟨low, none, ⟨.hr, 1, env1 W pile hs ⟨hd, n, e⟩ i⟩, hd + 1, ev ++ [.ask]⟩) hl (by show (ev ++ [_]).length ≤ 900; rw [List.length_append]; simp; omega) (by show [_, _, _].length ≤ 90; simp) (by show 0 ≤ 1000; decide) (((SmallH.nil.int _ _).hold _ (by show e.length ≤ 900; omega)).row _ _) ?_ q
  have g22 : eget [(W 22, AV.row hs), (W 21, .hold ⟨hd, n, e⟩), (W 20, .int i)] (W 22) = some (.row hs) := eg_hit
  have g21 : eget [(W 22, AV.row hs), (W 21, .hold ⟨hd, n, e⟩), (W 20, .int i)] (W 21) = some (.hold ⟨hd, n, e⟩) := by
    rw [eg_ne hW (by decide) (by decide) (by decide)]; exact eg_hit
  cases pile with
  | true => exact .mk (b := .put (W 24) (.str (W 21)) (.str (W 22)) (hearIf W)) rfl (.put g21 g22 hhs)
  | false => exact .mk (b := .last (W 24) (.str (W 22)) (.str (W 21)) (hearIf W)) rfl (.last g22 g21 hhs)
end
end AL
/-! H2 -/
namespace AL
open PySem PySem.Spec PyProof.Rows L2
section
variable {W : Nat → Str} {ds : List Deed} {pile : Bool} {kv av : V}
theorem thr_at {a : Nat} {o : Int} {e : List (Str × Int)} {n : Nat} {d : Deed} (h : PThr W ds a o e n) (hd : ds[a]? = some d) : ∃ own, OwnOk W a own e o ∧ (player W (W 10) 0 (.int 1) ds).pcs.drop n = (player W (W 10) a own (d :: ds.drop (a + 1))).pcs := by
  obtain ⟨_, _, _, own, h1, h2⟩ := h
  rw [drop_get hd] at h1
  exact ⟨own, h2, h1⟩
theorem tells_snoc (ev : List Ev) (e : Ev) (h : tells [e] = []) : tells (ev ++ [e]) = tells ev := by rw [tells_app, h, List.append_nil]
theorem sim (hW : ∀ i j, i < 64 → j < 64 → W i = W j → i = j) (hd10 : ds.length ≤ 10) {a : Nat} {o : Int} {row : List (Nat × Int)} {told : List Int} {tot : Int} {c : Nat} (h : Sch ds pile a o row told tot c) : ∀ {low : List AF} {hs : List Hd} {e : List (Str × Int)} {n hd : Nat} {ev : List Ev} {T : List Int} {w : Int} {mk : Nat},
    PThr W ds a o e n → Paired (HdOk W ds) hs row → LowOk low → 4 * low.length + c ≤ 700 → ev.length + c ≤ 700 → hs.length + c ≤ 900 → tells ev ++ told = T → Kont (lawPg W ds pile kv av) low T tot w mk → Goes W ds pile kv av ⟨low, some hs, ⟨.d1, n, ienv e⟩, hd, ev⟩ w T (mk + c) := by
  induction h with
  | @tell a o row told tot c hdd r ih =>
    intro low hs e n hd ev T w mk hp hhs hl hlc hec hhc hT K
    have hp0 := hp
    obtain ⟨own, ho, hdr⟩ := thr_at hp hdd
    obtain ⟨p1, hdr⟩ := drop_cons (r := (player W (W 10) (a + 1) own (ds.drop (a + 1))).pcs) hdr
    replace p1 : Pt.pc (lawPg W ds pile kv av) .d1 n = some _ := p1
    obtain ⟨ha, hn, hel, _⟩ := hp0
    have hlt : a < ds.length := (List.getElem?_eq_some_iff.mp hdd).1
    refine goes_step (s := ⟨low, some hs, ⟨.d1, n, ienv e⟩, hd, ev⟩) (s' := ⟨low, some hs, ⟨.d1, n + 1, ienv e⟩, hd, ev ++ [.tell o]⟩) (X := mk + c) hl (by show ev.length ≤ 900; omega) (by show (ienv e).length ≤ 90; rw [ienv, List.length_map]; omega) (by show n ≤ 1000; omega) small_int (.tell p1 ho.1) ?_
    exact ih (T := T) ⟨by omega, by omega, by omega, own, hdr, ho.mono (by omega)⟩ hhs hl (by omega) (by rw [List.length_append]; simp; omega) (by omega) (by rw [← hT, tells_app]; simp [tells]) K
  | @split a o row told tot c hdd r ih =>
    intro low hs e n hd ev T w mk hp hhs hl hlc hec hhc hT K
    have hp0 := hp
    obtain ⟨own, ho, hdr⟩ := thr_at hp hdd
    obtain ⟨p1, hdr⟩ := drop_cons (r := (Bd.sum (W (40 + a)) "*" own (.int 10) (.sum (W (50 + a)) "+" (.str (W (40 + a))) (.str (W (30 + a))) (player W (W 10) (a + 1) (.str (W (50 + a))) (ds.drop (a + 1))))).pcs) hdr
    replace p1 : Pt.pc (lawPg W ds pile kv av) .d1 n = some _ := p1
    obtain ⟨ha, hn, hel, _⟩ := hp0
    have hlt : a < ds.length := (List.getElem?_eq_some_iff.mp hdd).1
    have hspl : ∀ v : Int, 0 ≤ v → v < 10 → PSpl W ds a o ((W (30 + a), v) :: e) (n + 1) v := fun v v0 v1 => ⟨by omega, by omega, by rw [List.length_cons]; omega, own, hdr, ho.put hW (by omega) (by omega) (.inl (by omega)), eg_hit, v0, v1⟩
    have hho : HdOk W ds ⟨hd, n, e⟩ (a + 1, o * 10 % 1000000000) := ⟨by show e.length ≤ 32; omega, _, _, _, p1, .inr ⟨a, o, rfl, hspl 0 (by decide) (by decide)⟩⟩
    have hei : ((ins pile hs (⟨hd, n, e⟩ : Hd)).length) = hs.length + 1 := len_ins _ _ _
    rw [show mk + (c + 7) = ((mk + 1 + c + 2) + 2) + 2 by omega]
    refine ask2 hW p1 hl (by omega) (by omega) (by omega) (by omega) ?_
    have s1 := small_env1 (W := W) (pile := pile) (hs := hs) (h := ⟨hd, n, e⟩) (i := 1) (by show e.length ≤ 900; omega)
    have x20 : eget (env1 W pile hs ⟨hd, n, e⟩ 1) (W 20) = some (.int 1) := by
      unfold env1
      rw [eg_ne hW (by decide) (by decide) (by decide), eg_ne hW (by decide) (by decide) (by decide), eg_ne hW (by decide) (by decide) (by decide)]; exact eg_hit
    have x21 : eget (env1 W pile hs ⟨hd, n, e⟩ 1) (W 21) = some (.hold ⟨hd, n, e⟩) := by
      unfold env1
      rw [eg_ne hW (by decide) (by decide) (by decide), eg_ne hW (by decide) (by decide) (by decide)]; exact eg_hit
    have x24 : eget (env1 W pile hs ⟨hd, n, e⟩ 1) (W 24) = some (.row (ins pile hs ⟨hd, n, e⟩)) := eg_hit
    have l1 : (env1 W pile hs ⟨hd, n, e⟩ 1).length = 4 := rfl
    generalize env1 W pile hs ⟨hd, n, e⟩ 1 = en1 at *
    have tev : tells (ev ++ [Ev.ask] ++ [Ev.go hd]) = tells ev := by rw [tells_snoc _ _ rfl, tells_snoc _ _ rfl]
    refine goes_step (s := ⟨low, none, ⟨.hr, 1, en1⟩, hd + 1, ev ++ [.ask]⟩) (s' := ⟨low, none, ⟨.hr, 2, en1⟩, hd + 1, ev ++ [.ask]⟩) hl (by show (ev ++ [_]).length ≤ 900; rw [List.length_append]; simp; omega) (by show en1.length ≤ 90; omega) (by show 1 ≤ 1000; decide) s1 (.iff (i := 1) hr1 (by simp [Bd.pcs]) x20) ?_
    refine goes_step (s := ⟨low, none, ⟨.hr, 2, en1⟩, hd + 1, ev ++ [.ask]⟩) hl (by show (ev ++ [_]).length ≤ 900; rw [List.length_append]; simp; omega) (by show en1.length ≤ 90; omega) (by show 2 ≤ 1000; decide) s1 (.go hr2 x21 rfl x24 p1) ?_
    have hl2 : LowOk (⟨.hr, 2, en1⟩ :: low) := hl.cons (by omega) (by show en1.length ≤ 90; omega)
    refine spl_steps (kv := kv) (av := av) (pile := pile) (e := (W (30 + a), 1) :: e) hW hd10 (hspl 1 (by decide) (by decide)) (by have := hl2.1; omega) (by simp; omega) (fun f hf => by have := hl2.2 f hf; omega) fun e2 n2 hq => ?_
    exact ih (T := T) hq (Paired.ins hhs hho) hl2 (by rw [List.length_cons]; omega) (by simp; omega) (by rw [hei]; omega) (by rw [tev]; exact hT) (kont_hear K hl2 hr2 rfl hr3 (by decide) (by omega) s1)
  | @turn a o row a2 o2 row2 told tot c hdd hins r ih =>
    intro low hs e n hd ev T w mk hp hhs hl hlc hec hhc hT K
    have hp0 := hp
    obtain ⟨own, ho, hdr⟩ := thr_at hp hdd
    obtain ⟨p1, hdr⟩ := drop_cons (r := (player W (W 10) (a + 1) own (ds.drop (a + 1))).pcs) hdr
    replace p1 : Pt.pc (lawPg W ds pile kv av) .d1 n = some _ := p1
    obtain ⟨ha, hn, hel, _⟩ := hp0
    have hlt : a < ds.length := (List.getElem?_eq_some_iff.mp hdd).1
    have hthr : PThr W ds (a + 1) o ((W (30 + a), 0) :: e) (n + 1) := ⟨by omega, by omega, by rw [List.length_cons]; omega, own, hdr, (ho.mono (Nat.le_succ a)).put hW (by omega) (by omega) (.inl (by omega))⟩
    have hho : HdOk W ds ⟨hd, n, e⟩ (a + 1, o) := ⟨by show e.length ≤ 32; omega, _, _, _, p1, .inl hthr⟩
    have hei : ((ins pile hs (⟨hd, n, e⟩ : Hd)).length) = hs.length + 1 := len_ins _ _ _
    have hpp := Paired.ins (pile := pile) hhs hho
    rw [hins] at hpp
    obtain ⟨h2, rest, e2, hh2, hrest⟩ : ∃ h2 rest, ins pile hs (⟨hd, n, e⟩ : Hd) = h2 :: rest ∧ HdOk W ds h2 (a2, o2) ∧ Paired (HdOk W ds) rest row2 := by
      generalize ins pile hs (⟨hd, n, e⟩ : Hd) = l at hpp
      cases hpp with
      | cons a b => exact ⟨_, _, rfl, a, b⟩
    have hh2l := hh2.1
    obtain ⟨y2, c2, nx2, hp2, _⟩ := hh2.2
    replace hp2 : Pt.pc (lawPg W ds pile kv av) .d1 h2.at_ = some (.ask y2 (W 10) c2 nx2) := hp2
    have hrl : rest.length = hs.length := by rw [e2, List.length_cons] at hei; omega
    rw [show mk + (c + 8) = ((mk + 1 + c + 2) + 3) + 2 by omega]
    refine ask2 hW p1 hl (by omega) (by omega) (by omega) (by omega) ?_
    have s1 := small_env1 (W := W) (pile := pile) (hs := hs) (h := ⟨hd, n, e⟩) (i := 0) (by show e.length ≤ 900; omega)
    have x20 : eget (env1 W pile hs ⟨hd, n, e⟩ 0) (W 20) = some (.int 0) := by
      unfold env1
      rw [eg_ne hW (by decide) (by decide) (by decide), eg_ne hW (by decide) (by decide) (by decide), eg_ne hW (by decide) (by decide) (by decide)]; exact eg_hit
    have x24 : eget (env1 W pile hs ⟨hd, n, e⟩ 0) (W 24) = some (.row (h2 :: rest)) := by rw [← e2]; exact eg_hit
    have l1 : (env1 W pile hs ⟨hd, n, e⟩ 0).length = 4 := rfl
    generalize env1 W pile hs ⟨hd, n, e⟩ 0 = en1 at *
    have tev : tells (ev ++ [Ev.ask] ++ [Ev.go h2.num]) = tells ev := by rw [tells_snoc _ _ rfl, tells_snoc _ _ rfl]
    refine goes_step (s := ⟨low, none, ⟨.hr, 1, en1⟩, hd + 1, ev ++ [.ask]⟩) (s' := ⟨low, none, ⟨.hr, 4, en1⟩, hd + 1, ev ++ [.ask]⟩) hl (by show (ev ++ [_]).length ≤ 900; rw [List.length_append]; simp; omega) (by show en1.length ≤ 90; omega) (by show 1 ≤ 1000; decide) s1 (.iff (i := 0) hr1 (by simp [Bd.pcs]) x20) ?_
    refine goes_step (s := ⟨low, none, ⟨.hr, 4, en1⟩, hd + 1, ev ++ [.ask]⟩) (s' := ⟨low, none, ⟨.hr, 6, (W 27, .row rest) :: (W 26, .hold h2) :: en1⟩, hd + 1, ev ++ [.ask]⟩) hl (by show (ev ++ [_]).length ≤ 900; rw [List.length_append]; simp; omega) (by show en1.length ≤ 90; omega) (by show 4 ≤ 1000; decide) s1 (.case1 hr4 (by simp [Bd.pcs]) x24) ?_
    have s2 : SmallH ((W 27, .row rest) :: (W 26, .hold h2) :: en1) := (s1.hold _ (by omega)).row _ _
    have l2 : ((W 27, AV.row rest) :: (W 26, .hold h2) :: en1).length = 6 := by rw [List.length_cons, List.length_cons, l1]
    have x27 : eget ((W 27, AV.row rest) :: (W 26, .hold h2) :: en1) (W 27) = some (.row rest) := eg_hit
    have x26 : eget ((W 27, AV.row rest) :: (W 26, .hold h2) :: en1) (W 26) = some (.hold h2) := by rw [eg_ne hW (by decide) (by decide) (by decide)]; exact eg_hit
    generalize ((W 27, AV.row rest) :: (W 26, .hold h2) :: en1) = en2 at *
    refine goes_step (s := ⟨low, none, ⟨.hr, 6, en2⟩, hd + 1, ev ++ [.ask]⟩) hl (by show (ev ++ [_]).length ≤ 900; rw [List.length_append]; simp; omega) (by show en2.length ≤ 90; omega) (by show 6 ≤ 1000; decide) s2 (.go hr6 x26 rfl x27 hp2) ?_
    have hl2 : LowOk (⟨.hr, 6, en2⟩ :: low) := hl.cons (by omega) (by show en2.length ≤ 90; omega)
    refine hd_resume hW hd10 hh2 hp2 (by have := hl2.1; omega) (by simp; omega) (fun f hf => by have := hl2.2 f hf; omega) fun e3 n3 hq => ?_
    exact ih (T := T) hq hrest hl2 (by rw [List.length_cons]; omega) (by simp; omega) (by omega) (by rw [tev]; exact hT) (kont_hear K hl2 hr6 rfl hr7 (by decide) (by omega) s2)
  | @last a o ha =>
    intro low hs e n hd ev T w mk hp hhs hl hlc hec hhc hT K
    cases hhs
    obtain ⟨_, hn, hel, own, hdr, ho⟩ := hp
    rw [show ds.drop a = [] from List.drop_of_length_le (by omega)] at hdr
    obtain ⟨p1, _⟩ := drop_cons (r := []) hdr
    replace p1 : Pt.pc (lawPg W ds pile kv av) .d1 n = some _ := p1
    have o1 := ho.2.1
    have o2 := ho.2.2.1
    rw [show mk + 7 = (mk + 5) + 1 + 1 by omega]
    refine goes_step (s := ⟨low, some [], ⟨.d1, n, ienv e⟩, hd, ev⟩) (s' := ⟨low, none, ⟨.en, 0, [(W 22, .row []), (W 20, .int o)]⟩, hd, ev ++ [.ended]⟩) hl (by show ev.length ≤ 900; omega) (by show (ienv e).length ≤ 90; rw [ienv, List.length_map]; omega) (by show n ≤ 1000; omega) small_int (.giveK p1 ho.1) ?_
    have s1 : SmallH [(W 22, AV.row []), (W 20, .int o)] := (SmallH.nil.int _ _).row _ _
    have x22 : aw [(W 22, AV.row []), (W 20, .int o)] (.str (W 22)) = some (.row []) := eg_hit
    have n26 : eget [(W 22, AV.row []), (W 20, .int o)] (W 26) = none := by rw [eg_ne hW (by decide) (by decide) (by decide), eg_ne hW (by decide) (by decide) (by decide)]; rfl
    have n27 : eget [(W 22, AV.row []), (W 20, .int o)] (W 27) = none := by rw [eg_ne hW (by decide) (by decide) (by decide), eg_ne hW (by decide) (by decide) (by decide)]; rfl
    refine goes_step (s := ⟨low, none, ⟨.en, 0, [(W 22, .row []), (W 20, .int o)]⟩, hd, ev ++ [.ended]⟩) (s' := ⟨low, none, ⟨.en, 1, [(W 22, .row []), (W 20, .int o)]⟩, hd, ev ++ [.ended]⟩) hl (by show (ev ++ [_]).length ≤ 900; rw [List.length_append]; simp; omega) (by show [_, _].length ≤ 90; simp) (by show 0 ≤ 1000; decide) s1 (.case0 (en0 (W := W) (ds := ds) (pile := pile) (kv := kv) (av := av)) x22 n26 n27) ?_
    obtain ⟨m, evs, hm, hr, ht⟩ := K ⟨.en, 1, [(W 22, .row []), (W 20, .int o)]⟩ (.str (W 20)) hd (ev ++ [.ended]) en1 (by rw [Int.emod_eq_of_lt o1 o2]; show eget [(W 22, AV.row []), (W 20, .int o)] (W 20) = _; rw [eg_ne hW (by decide) (by decide) (by decide)]; exact eg_hit) (by show [_, _].length ≤ 90; simp) (by show 1 ≤ 1000; decide) s1 (by rw [List.length_append]; simp; omega) (by rw [tells_snoc _ _ rfl, ← hT, List.append_nil])
    exact ⟨m, evs, by omega, hr, ht⟩
  | @done a o a2 o2 row2 told tot c ha r ih =>
    intro low hs e n hd ev T w mk hp hhs hl hlc hec hhc hT K
    obtain ⟨h2, rest, rfl, hh2, hrest⟩ : ∃ h2 rest, hs = h2 :: rest ∧ HdOk W ds h2 (a2, o2) ∧ Paired (HdOk W ds) rest row2 := by
      cases hhs with
      | cons a b => exact ⟨_, _, rfl, a, b⟩
    obtain ⟨_, hn, hel, own, hdr, ho⟩ := hp
    rw [show ds.drop a = [] from List.drop_of_length_le (by omega)] at hdr
    obtain ⟨p1, _⟩ := drop_cons (r := []) hdr
    replace p1 : Pt.pc (lawPg W ds pile kv av) .d1 n = some _ := p1
    have hh2l := hh2.1
    obtain ⟨y2, c2, nx2, hp2, _⟩ := hh2.2
    replace hp2 : Pt.pc (lawPg W ds pile kv av) .d1 h2.at_ = some (.ask y2 (W 10) c2 nx2) := hp2
    rw [List.length_cons] at hhc
    rw [show mk + (c + 7) = ((((mk + 2 + c) + 2) + 1) + 1) + 1 by omega]
    refine goes_step (s := ⟨low, some (h2 :: rest), ⟨.d1, n, ienv e⟩, hd, ev⟩) (s' := ⟨low, none, ⟨.en, 0, [(W 22, .row (h2 :: rest)), (W 20, .int o)]⟩, hd, ev ++ [.ended]⟩) hl (by show ev.length ≤ 900; omega) (by show (ienv e).length ≤ 90; rw [ienv, List.length_map]; omega) (by show n ≤ 1000; omega) small_int (.giveK p1 ho.1) ?_
    have s1 : SmallH [(W 22, AV.row (h2 :: rest)), (W 20, .int o)] := (SmallH.nil.int _ _).row _ _
    have x22 : aw [(W 22, AV.row (h2 :: rest)), (W 20, .int o)] (.str (W 22)) = some (.row (h2 :: rest)) := eg_hit
    have x27 : eget [(W 27, AV.row rest), (W 26, .hold h2), (W 22, .row (h2 :: rest)), (W 20, .int o)] (W 27) = some (.row rest) := eg_hit
    refine goes_step (s := ⟨low, none, ⟨.en, 0, [(W 22, .row (h2 :: rest)), (W 20, .int o)]⟩, hd, ev ++ [.ended]⟩) (s' := ⟨low, none, ⟨.en, 2, [(W 27, .row rest), (W 26, .hold h2), (W 22, .row (h2 :: rest)), (W 20, .int o)]⟩, hd, ev ++ [.ended]⟩) hl (by show (ev ++ [_]).length ≤ 900; rw [List.length_append]; simp; omega) (by show [_, _].length ≤ 90; simp) (by show 0 ≤ 1000; decide) s1 (.case1 (en0 (W := W) (ds := ds) (pile := pile) (kv := kv) (av := av)) (by simp [Bd.pcs]) x22) ?_
    have s2 : SmallH [(W 27, AV.row rest), (W 26, .hold h2), (W 22, .row (h2 :: rest)), (W 20, .int o)] := (s1.hold _ (by omega)).row _ _
    have x26 : eget [(W 27, AV.row rest), (W 26, .hold h2), (W 22, .row (h2 :: rest)), (W 20, .int o)] (W 26) = some (.hold h2) := by rw [eg_ne hW (by decide) (by decide) (by decide)]; exact eg_hit
    have tev : tells (ev ++ [Ev.ended] ++ [Ev.go h2.num]) = tells ev := by rw [tells_snoc _ _ rfl, tells_snoc _ _ rfl]
    refine goes_step (s := ⟨low, none, ⟨.en, 2, [(W 27, .row rest), (W 26, .hold h2), (W 22, .row (h2 :: rest)), (W 20, .int o)]⟩, hd, ev ++ [.ended]⟩) hl (by show (ev ++ [_]).length ≤ 900; rw [List.length_append]; simp; omega) (by show [_, _, _, _].length ≤ 90; simp) (by show 2 ≤ 1000; decide) s2 (.go en2 x26 rfl x27 hp2) ?_
    have hl2 : LowOk (⟨.en, 2, [(W 27, .row rest), (W 26, .hold h2), (W 22, .row (h2 :: rest)), (W 20, .int o)]⟩ :: low) := hl.cons (by omega) (by show [_, _, _, _].length ≤ 90; simp)
    refine hd_resume hW hd10 hh2 hp2 (by have := hl2.1; omega) (by simp; omega) (fun f hf => by have := hl2.2 f hf; omega) fun e3 n3 hq => ?_
    exact ih (T := T) hq hrest hl2 (by rw [List.length_cons]; omega) (by simp; omega) (by omega) (by rw [tev]; exact hT) (kont_end hW K hl hl2 ⟨ho.2.1, ho.2.2.1⟩ (by omega))
/-- the whole run -/
theorem run_all (hW : ∀ i j, i < 64 → j < 64 → W i = W j → i = j) (hd10 : ds.length ≤ 10) {told : List Int} {tot : Int} {c : Nat} (h : Sch ds pile 0 1 [] told tot c) (hc : c ≤ 560) : ∃ m evs, m < 600 ∧ ARun (lawPg W ds pile kv av) AS0 m evs (tot % 1000000000) ∧ tells evs = told := by
  have q : Goes W ds pile kv av AS0 (tot % 1000000000) told ((2 + c + 1) + 1) := by
    refine goes_step (s := AS0) (s' := ⟨[], none, ⟨.d0, 1, [(W 21, .row [])]⟩, 0, []⟩) ⟨by decide, fun f hf => by cases hf⟩ (by decide) (by decide) (by decide) SmallH.nil (.mk (b := .empty (W 21) kv _) rfl .empty) ?_
    have s1 : SmallH [(W 21, AV.row [])] := SmallH.nil.row _ _
    refine goes_step (s := ⟨[], none, ⟨.d0, 1, [(W 21, .row [])]⟩, 0, []⟩) (s' := ⟨[⟨.d0, 1, [(W 21, .row [])]⟩], some [], ⟨.d1, 0, []⟩, 0, [.keep]⟩) ⟨Nat.zero_le _, fun f hf => by cases hf⟩ (Nat.zero_le _) (by show [_].length ≤ 90; simp) (by show 1 ≤ 1000; decide) s1 (.keep (nx := .give (.str (W 20))) rfl eg_hit) ?_
    have hl : LowOk [(⟨.d0, 1, [(W 21, .row [])]⟩ : AF)] := ⟨by simp, fun f hf => by obtain rfl := List.mem_singleton.mp hf; show [_].length ≤ 90; simp⟩
    refine sim hW hd10 h (e := []) (T := told) (mk := 2) ⟨Nat.zero_le _, by decide, by decide, .int 1, rfl, rfl, by decide, by decide, .inl ⟨1, rfl⟩⟩ .nil hl (by simp; omega) (by simp; omega) (by simp; omega) rfl ?_
    intro top a' hd ev hp ha hte htn hts hev hT
    obtain ⟨t, n, en⟩ := top
    refine goes_step (s := ⟨[⟨.d0, 1, [(W 21, .row [])]⟩], none, ⟨t, n, en⟩, hd, ev⟩) (X := 1) hl hev hte htn hts (.giveP hp ha (b := .keep (W 20) (W 11) (.str (W 21)) (W 1) av (.give (.str (W 20)))) rfl (.inl ⟨_, _, _, _, _, rfl⟩)) ?_
    exact ⟨1, ev, Nat.le_refl _, .fin ⟨Nat.zero_le _, by show ev.length ≤ 2000; omega, by show (_ :: [_]).length ≤ 100; simp, (fun f hf => by cases hf), by show 2 ≤ 1000; decide, s1.int _ _⟩ ⟨rfl, rfl, .str (W 20), rfl, eg_hit⟩, hT⟩
  obtain ⟨m, evs, hm, hr, ht⟩ := q
  exact ⟨m, evs, by omega, hr, ht⟩
end
end AL
/-! H3 -/
namespace AL
open PySem PySem.Spec PyProof.Rows L2
/-! ### there is code -/
def AOk (ns : List Str) (a : V) : Prop := (∃ i, a = .int i) ∨ ∃ x, x ∈ ns ∧ a = .str x
def Wf : List Str → Bd → Prop
  | ns, .give a => AOk ns a
  | ns, .sum x _ a b n => AOk ns a ∧ AOk ns b ∧ Wf (x :: ns) n
  | ns, .empty x _ n => Wf (x :: ns) n
  | ns, .put x a r n => AOk ns a ∧ AOk ns r ∧ Wf (x :: ns) n
  | ns, .last x r a n => AOk ns r ∧ AOk ns a ∧ Wf (x :: ns) n
  | ns, .ask x _ a n => AOk ns a ∧ Wf (x :: ns) n
  | ns, .keep x _ a _ _ n => AOk ns a ∧ Wf (x :: ns) n
  | ns, .go x h a b n => AOk ns h ∧ AOk ns a ∧ AOk ns b ∧ Wf (x :: ns) n
  | ns, .tell a n => AOk ns a ∧ Wf ns n
  | ns, .iff a b1 b2 => AOk ns a ∧ b1.pcs.length ≤ 1000 ∧ Wf ns b1 ∧ Wf ns b2
  | ns, .case r b1 x y b2 => AOk ns r ∧ b1.pcs.length ≤ 1000 ∧ x ≠ y ∧ Wf (y :: x :: ns) b1 ∧ Wf (y :: x :: ns) b2
def NsIn (ns : List Str) (kv : KVs) : Prop := ∀ x ∈ ns, ∃ i, Lk kv x i
theorem AOk.cod {ns : List Str} {kv : KVs} {a : V} (h : AOk ns a) (hk : NsIn ns kv) : ∃ c, Cod kv a c := by
  rcases h with ⟨i, rfl⟩ | ⟨x, hx, rfl⟩
  · exact ⟨_, .lit⟩
  · obtain ⟨i, hi⟩ := hk x hx
    exact ⟨_, .slot hi⟩
theorem NsIn.put {ns : List Str} {kv : KVs} (h : NsIn ns kv) (x : Str) (m : Nat) : NsIn (x :: ns) (putK kv (.inr x) (.int (m : Nat))) := fun y hy => by
  by_cases e : y = x
  · exact ⟨m, Lk_put.mpr (.inl ⟨e, rfl⟩)⟩
  · rcases List.mem_cons.mp hy with h2 | h2
    · exact absurd h2 e
    · obtain ⟨i, hi⟩ := h y h2
      exact ⟨i, Lk_put.mpr (.inr ⟨e, hi⟩)⟩
def KidsWf (ns : List Str) (b : Bd) (kv2 : KVs) : Prop := ∃ ns2, NsIn ns2 kv2 ∧ ∀ k ∈ b.kids, Wf ns2 k
theorem wf_row {ns : List Str} {b : Bd} {kv : KVs} (h : Wf ns b) (hk : NsIn ns kv) (m at_ : Nat) : (∃ rw, RowR kv (bndKv kv b.bnd m) at_ b rw) ∧ KidsWf ns b (bndKv kv b.bnd m) := by
  have one : ∀ x : Str, Lk (bndKv kv [x] m) x m := fun x => Lk_put.mpr (.inl ⟨rfl, rfl⟩)
  cases b with
  | give a => obtain ⟨c, hc⟩ := AOk.cod h hk; exact ⟨⟨_, .give hc⟩, ns, hk, fun k hk => by cases hk⟩
  | sum x s a b n =>
    obtain ⟨h1, h2, h3⟩ := h
    obtain ⟨c1, q1⟩ := h1.cod hk
    obtain ⟨c2, q2⟩ := h2.cod hk
    exact ⟨⟨_, .sum (one x) q1 q2⟩, _, hk.put x m, fun k hk => by obtain rfl := List.mem_singleton.mp hk; exact h3⟩
  | empty x kk n => exact ⟨⟨_, .empty (one x)⟩, _, hk.put x m, fun k hk => by obtain rfl := List.mem_singleton.mp hk; exact h⟩
  | put x a r n =>
    obtain ⟨h1, h2, h3⟩ := h
    obtain ⟨c1, q1⟩ := h1.cod hk
    obtain ⟨c2, q2⟩ := h2.cod hk
    exact ⟨⟨_, .put (one x) q1 q2⟩, _, hk.put x m, fun k hk => by obtain rfl := List.mem_singleton.mp hk; exact h3⟩
  | last x r a n =>
    obtain ⟨h1, h2, h3⟩ := h
    obtain ⟨c1, q1⟩ := h1.cod hk
    obtain ⟨c2, q2⟩ := h2.cod hk
    exact ⟨⟨_, .last (one x) q1 q2⟩, _, hk.put x m, fun k hk => by obtain rfl := List.mem_singleton.mp hk; exact h3⟩
  | ask x q a n =>
    obtain ⟨h1, h3⟩ := h
    obtain ⟨c1, q1⟩ := h1.cod hk
    exact ⟨⟨_, .ask (one x) q1⟩, _, hk.put x m, fun k hk => by obtain rfl := List.mem_singleton.mp hk; exact h3⟩
  | keep x k a f g n =>
    obtain ⟨h1, h3⟩ := h
    obtain ⟨c1, q1⟩ := h1.cod hk
    exact ⟨⟨_, .keep (one x) q1⟩, _, hk.put x m, fun k hk => by obtain rfl := List.mem_singleton.mp hk; exact h3⟩
  | go x hh a b n =>
    obtain ⟨h0, h1, h2, h3⟩ := h
    obtain ⟨c0, q0⟩ := h0.cod hk
    obtain ⟨c1, q1⟩ := h1.cod hk
    obtain ⟨c2, q2⟩ := h2.cod hk
    exact ⟨⟨_, .go (one x) q0 q1 q2⟩, _, hk.put x m, fun k hk => by obtain rfl := List.mem_singleton.mp hk; exact h3⟩
  | tell a n =>
    obtain ⟨h1, h3⟩ := h
    obtain ⟨c1, q1⟩ := h1.cod hk
    exact ⟨⟨_, .tell q1⟩, ns, hk, fun k hk => by obtain rfl := List.mem_singleton.mp hk; exact h3⟩
  | iff a b1 b2 =>
    obtain ⟨h1, hl, h2, h3⟩ := h
    obtain ⟨c1, q1⟩ := h1.cod hk
    refine ⟨⟨_, .iff q1 hl⟩, ns, hk, fun k hk => ?_⟩
    simp only [Bd.kids, List.mem_cons, List.not_mem_nil, or_false] at hk
    rcases hk with rfl | rfl <;> assumption
  | case r b1 x y b2 =>
    obtain ⟨h1, hl, ne, h2, h3⟩ := h
    obtain ⟨c1, q1⟩ := h1.cod hk
    have lx : Lk (bndKv kv [x, y] m) x m := (Lk_put (kv := putK kv (.inr x) (.int (m : Nat))) (x := y) (m := m + 1)).mpr (.inr ⟨ne, Lk_put.mpr (.inl ⟨rfl, rfl⟩)⟩)
    have ly : Lk (bndKv kv [x, y] m) y (m + 1) := (Lk_put (kv := putK kv (.inr x) (.int (m : Nat))) (x := y) (m := m + 1)).mpr (.inl ⟨rfl, rfl⟩)
    refine ⟨⟨_, .case q1 lx ly hl⟩, y :: x :: ns, (hk.put x m).put y (m + 1), fun k hk => ?_⟩
    simp only [Bd.kids, List.mem_cons, List.not_mem_nil, or_false] at hk
    rcases hk with rfl | rfl <;> assumption
theorem code_ex : ∀ (N : Nat) (st : List (Bd × KVs)) (m at_ : Nat), (stP st).length = N → (∀ e ∈ st, ∃ ns, NsIn ns e.2 ∧ Wf ns e.1) → (∀ e ∈ st, e.2.length + 2 * N ≤ 900) → st.length + 2 * N ≤ 900 → at_ + N ≤ 900 → ∃ rws m', CodeR st m at_ rws m' ∧ m' ≤ m + 2 * N
  | N, [], m, at_, h, _, _, _, _ => ⟨[], m, .nil, by omega⟩
  | 0, (b, kv) :: st, m, at_, h, _, _, _, _ => by
    rw [stP_next b kv kv] at h
    simp at h
  | N + 1, (b, kv) :: st, m, at_, h, hw, hk, hs, ha => by
    rw [stP_next b kv (bndKv kv b.bnd m), List.length_cons] at h
    obtain ⟨ns, hn, hwf⟩ := hw _ List.mem_cons_self
    obtain ⟨⟨rw, hR⟩, ns2, hn2, hw2⟩ := wf_row hwf hn m at_
    have hk0 := hk _ List.mem_cons_self
    have hb2 := b.bnd2
    have hbl := bndKv_len b.bnd kv m
    have hkl : b.kids.length ≤ 2 := by rcases b.kids2 with e | ⟨_, e⟩ | ⟨_, _, e⟩ <;> simp [e]
    rw [List.length_cons] at hs
    simp only at hk0
    obtain ⟨rws, m', h1, h2⟩ := code_ex N (b.kids.map (fun x => (x, bndKv kv b.bnd m)) ++ st) (m + b.bnd.length) (at_ + 1) (by omega) (fun e he => by
        rcases List.mem_append.mp he with he | he
        · obtain ⟨k, hkm, rfl⟩ := List.mem_map.mp he
          exact ⟨ns2, hn2, hw2 k hkm⟩
        · exact hw e (List.mem_cons_of_mem _ he)) (fun e he => by
        rcases List.mem_append.mp he with he | he
        · obtain ⟨k, hkm, rfl⟩ := List.mem_map.mp he
          show (bndKv kv b.bnd m).length + 2 * N ≤ 900
          omega
        · have := hk e (List.mem_cons_of_mem _ he)
          omega) (by rw [List.length_append, List.length_map]; omega) (by omega)
    exact ⟨rw :: rws, m', .cons (by omega) (by omega) (by omega) hR h1, by omega⟩
theorem own_in (ns : List Str) : ∀ (kv : KVs) (m : Nat), NsIn ns (bndKv kv ns m) := by
  induction ns with
  | nil => intro kv m x hx; cases hx
  | cons n r ih =>
    intro kv m x hx
    show ∃ i, Lk (bndKv (putK kv (.inr n) (.int (m : Nat))) r (m + 1)) x i
    by_cases hr : x ∈ r
    · exact ih _ _ x hr
    · rcases List.mem_cons.mp hx with rfl | h
      · exact ⟨m, by unfold Lk; rw [bndKv_val r _ _ hr]; exact Lk_put.mpr (.inl ⟨rfl, rfl⟩)⟩
      · exact absurd h hr
theorem code_of_wf {g : Pg} (nd : ∀ t : Pt, (t.own g).Nodup) (hw : ∀ t : Pt, Wf (t.own g) (t.body g)) (hl : ∀ t : Pt, (t.body g).pcs.length ≤ 400) : ∃ rf mf, CodeOk g rf mf ∧ ∀ t, mf t ≤ 5000 := by
  have ex : ∀ t : Pt, ∃ p : List Rw × Nat, CodeR [(t.body g, bndKv [] (t.own g) 0)] (t.own g).length 0 p.1 p.2 ∧ p.2 ≤ 5000 := fun t => by
    have h3 := t.own3 g
    have hb := bndKv_len (t.own g) [] 0
    have hlt := hl t
    rw [List.length_nil] at hb
    obtain ⟨rws, m', h1, h2⟩ := code_ex (t.body g).pcs.length [(t.body g, bndKv [] (t.own g) 0)] (t.own g).length 0 (by rw [stP_one]) (fun e he => by obtain rfl := List.mem_singleton.mp he; exact ⟨_, own_in _ _ _, hw t⟩) (fun e he => by obtain rfl := List.mem_singleton.mp he; show (bndKv [] (t.own g) 0).length + _ ≤ 900; omega) (by simp; omega) (by omega)
    exact ⟨(rws, m'), h1, by show m' ≤ 5000; omega⟩
  exact ⟨fun t => (Classical.choose (ex t)).1, fun t => (Classical.choose (ex t)).2, ⟨nd, fun t => (Classical.choose_spec (ex t)).1⟩, fun t => (Classical.choose_spec (ex t)).2⟩
end AL
/-! H4 -/
namespace AL
open PySem PySem.Spec PyProof.Rows L2
section
variable {W : Nat → Str} {ds : List Deed} {pile : Bool} {kv av : V}
theorem aok_s {ns : List Str} {x : Str} (h : x ∈ ns) : AOk ns (.str x) := .inr ⟨x, h, rfl⟩
theorem aok_i {ns : List Str} {i : Int} : AOk ns (.int i) := .inl ⟨i, rfl⟩
theorem wf_player (W : Nat → Str) (q : Str) : ∀ (r : List Deed) (k : Nat) (own : V) (ns : List Str), AOk ns own → Wf ns (player W q k own r)
  | [], k, own, ns, h => h
  | .tell :: r, k, own, ns, h => ⟨h, wf_player W q r (k + 1) own ns h⟩
  | .turn :: r, k, own, ns, h => ⟨aok_i, wf_player W q r (k + 1) own _ (h.imp id fun ⟨x, hx, e⟩ => ⟨x, List.mem_cons_of_mem _ hx, e⟩)⟩
  | .split :: r, k, own, ns, h => ⟨aok_i, h.imp id fun ⟨x, hx, e⟩ => ⟨x, List.mem_cons_of_mem _ hx, e⟩, aok_i, aok_s List.mem_cons_self, aok_s (List.mem_cons_of_mem _ List.mem_cons_self), wf_player W q r (k + 1) _ _ (aok_s List.mem_cons_self)⟩
theorem player_len (W : Nat → Str) (q : Str) : ∀ (r : List Deed) (k : Nat) (own : V), (player W q k own r).pcs.length ≤ 3 * r.length + 1
  | [], k, own => by simp [player, Bd.pcs]
  | .tell :: r, k, own => by have := player_len W q r (k + 1) own; simp only [player, Bd.pcs, List.length_cons]; omega
  | .turn :: r, k, own => by have := player_len W q r (k + 1) own; simp only [player, Bd.pcs, List.length_cons]; omega
  | .split :: r, k, own => by have := player_len W q r (k + 1) (.str (W (50 + k))); simp only [player, Bd.pcs, List.length_cons]; omega
def plain : Bd → Prop
  | .give _ => True | .tell _ _ => True | .ask _ _ _ _ => True | .sum _ _ _ _ _ => True | _ => False
theorem player_plain (W : Nat → Str) (q : Str) : ∀ (r : List Deed) (k : Nat) (own : V), ∀ b ∈ (player W q k own r).pcs, plain b
  | [], k, own => fun b hb => by
    simp only [player, Bd.pcs, List.mem_cons, List.not_mem_nil, or_false] at hb
    subst hb; trivial
  | .tell :: r, k, own => fun b hb => by
    simp only [player, Bd.pcs, List.mem_cons] at hb
    rcases hb with rfl | hb
    · trivial
    · exact player_plain W q r _ _ b hb
  | .turn :: r, k, own => fun b hb => by
    simp only [player, Bd.pcs, List.mem_cons] at hb
    rcases hb with rfl | hb
    · trivial
    · exact player_plain W q r _ _ b hb
  | .split :: r, k, own => fun b hb => by
    simp only [player, Bd.pcs, List.mem_cons] at hb
    rcases hb with rfl | rfl | rfl | hb
    · trivial
    · trivial
    · trivial
    · exact player_plain W q r _ _ b hb
theorem pile_ex (P : Bd → Prop) (h1 : P (.put (W 24) (.str (W 21)) (.str (W 22)) (hearIf W))) (h2 : P (.last (W 24) (.str (W 22)) (.str (W 21)) (hearIf W))) : P (hearB W pile) := by
  cases pile
  · exact h2
  · exact h1
theorem hear_mem {b : Bd} (h : b ∈ (hearB W pile).pcs) : b = hearB W pile ∨ b = hearIf W ∨ b = .go (W 23) (.str (W 21)) (.int 1) (.str (W 24)) (.give (.str (W 23))) ∨ b = .give (.str (W 23)) ∨ b = .give (.int 0) ∨ b = .go (W 23) (.str (W 26)) (.int 0) (.str (W 27)) (.give (.str (W 23))) ∨
    b = .case (.str (W 24)) (.give (.int 0)) (W 26) (W 27) (.go (W 23) (.str (W 26)) (.int 0) (.str (W 27)) (.give (.str (W 23)))) := by
  cases pile <;> (simp [hearB, hearIf, Bd.pcs] at h ⊢; rcases h with h | h | h | h | h | h | h | h <;> simp [h])
theorem law_ok (hW : ∀ i j, i < 64 → j < 64 → W i = W j → i = j) (hs : ∀ i, i < 64 → PyData.strOk (W i) = true) (hd10 : ds.length ≤ 10) : (∃ rf mf, ProgOk (lawPg W ds pile kv av) rf mf) ∧ ∀ t : Pt, (t.body (lawPg W ds pile kv av)).pcs.length ≤ 400 := by
  have ne : ∀ i j, i < 64 → j < 64 → i ≠ j → W i ≠ W j := fun i j hi hj h e => h (hW i j hi hj e)
  have hl : ∀ t : Pt, (t.body (lawPg W ds pile kv av)).pcs.length ≤ 400 := fun t => by
    cases t with
    | en => show (endB W).pcs.length ≤ 400; simp [endB, Bd.pcs]
    | hr => show (hearB W pile).pcs.length ≤ 400; cases pile <;> simp [hearB, hearIf, Bd.pcs]
    | d0 => show (Bd.empty _ _ _).pcs.length ≤ 400; simp [Bd.pcs]
    | d1 => have := player_len W (W 10) ds 0 (.int 1); show (player W (W 10) 0 (.int 1) ds).pcs.length ≤ 400; omega
  have nd : ∀ t : Pt, (t.own (lawPg W ds pile kv av)).Nodup := fun t => by
    cases t with
    | en => show [W 20, W 22].Nodup; simp [ne 20 22 (by decide) (by decide) (by decide)]
    | hr => show [W 20, W 21, W 22].Nodup; simp [ne 20 22 (by decide) (by decide) (by decide), ne 20 21 (by decide) (by decide) (by decide), ne 21 22 (by decide) (by decide) (by decide)]
    | d0 => exact List.nodup_nil
    | d1 => exact List.nodup_nil
  have hw : ∀ t : Pt, Wf (t.own (lawPg W ds pile kv av)) (t.body (lawPg W ds pile kv av)) := fun t => by
    cases t with
    | en =>
      show Wf [W 20, W 22] (endB W)
      exact ⟨aok_s (by simp), by simp [Bd.pcs], ne _ _ (by decide) (by decide) (by decide), aok_s (by simp), aok_s (by simp), aok_i, aok_s (by simp), aok_s (by simp), aok_s (by simp), aok_s (by simp)⟩
    | hr =>
      show Wf [W 20, W 21, W 22] (hearB W pile)
      have hif : Wf [W 24, W 20, W 21, W 22] (hearIf W) := ⟨aok_s (by simp), by simp [Bd.pcs], ⟨aok_s (by simp), aok_i, aok_s (by simp), aok_s (by simp)⟩, aok_s (by simp), by simp [Bd.pcs], ne _ _ (by decide) (by decide) (by decide), aok_i, aok_s (by simp), aok_i, aok_s (by simp), aok_s (by simp)⟩
      cases pile with
      | true => exact ⟨aok_s (by simp), aok_s (by simp), hif⟩
      | false => exact ⟨aok_s (by simp), aok_s (by simp), hif⟩
    | d0 => exact ⟨aok_s (by simp), aok_s (by simp)⟩
    | d1 => exact wf_player _ _ _ _ _ _ aok_i
  obtain ⟨rf, mf, C, hmf⟩ := code_of_wf nd hw hl
  refine ⟨⟨rf, mf, C, ⟨fun t n b x hp hbw => ?_, fun t n r b1 x y b2 hp => ?_⟩, hmf, Nat.le_trans (hl .hr) (by decide), fun p hp => ?_, ?_⟩, hl⟩
  · have hm := List.mem_of_getElem? hp
    cases t with
    | en =>
      replace hm : b ∈ (endB W).pcs := hm
      simp [endB, Bd.pcs] at hm
      rcases hm with rfl | rfl | rfl | rfl | rfl <;> cases hbw
      exact .inr ⟨_, _, _, _, _, rfl, by decide +kernel⟩
    | hr =>
      rcases hear_mem hm with rfl | rfl | rfl | rfl | rfl | rfl | rfl
      · exact absurd hbw (pile_ex (fun b => ¬ BdW b x) (fun h => by cases h) (fun h => by cases h))
      · cases hbw
      · cases hbw; exact .inl rfl
      · cases hbw
      · cases hbw
      · cases hbw; exact .inl rfl
      · cases hbw
    | d0 =>
      replace hm : b ∈ (Bd.empty (W 21) kv (.keep (W 20) (W 11) (.str (W 21)) (W 1) av (.give (.str (W 20))))).pcs := hm
      simp [Bd.pcs] at hm
      rcases hm with rfl | rfl | rfl <;> cases hbw
      exact .inl rfl
    | d1 =>
      have := player_plain W (W 10) ds 0 (.int 1) b hm
      cases hbw <;> exact this.elim
  · have hm := List.mem_of_getElem? hp
    have n1 := ne 26 27 (by decide) (by decide) (by decide)
    cases t with
    | en =>
      replace hm : _ ∈ (endB W).pcs := hm
      simp [endB, Bd.pcs] at hm
      rcases hm with ⟨_, _, rfl, rfl, _⟩
      exact n1
    | hr =>
      rcases hear_mem hm with h | h | h | h | h | h | h
      · exact absurd h (pile_ex (fun b => ¬ _ = b) (fun h => by cases h) (fun h => by cases h))
      · cases h
      · cases h
      · cases h
      · cases h
      · cases h
      · cases h; exact n1
    | d0 =>
      replace hm : _ ∈ (Bd.empty (W 21) kv (.keep (W 20) (W 11) (.str (W 21)) (W 1) av (.give (.str (W 20))))).pcs := hm
      simp [Bd.pcs] at hm
    | d1 => exact (player_plain W (W 10) ds 0 (.int 1) _ hm).elim
  · have s23 := hs 23 (by decide)
    rcases hear_mem hp with rfl | rfl | rfl | rfl | rfl | rfl | rfl
    · exact pile_ex Bd.okA ⟨fun a ha => by simp [Bd.atoms] at ha; rcases ha with rfl | rfl <;> rfl, fun _ _ _ _ _ h => by cases h⟩ ⟨fun a ha => by simp [Bd.atoms] at ha; rcases ha with rfl | rfl <;> rfl, fun _ _ _ _ _ h => by cases h⟩
    · exact ⟨fun a ha => by simp [hearIf, Bd.atoms] at ha; subst ha; rfl, fun _ _ _ _ _ h => by cases h⟩
    · exact ⟨fun a ha => by simp [Bd.atoms] at ha; rcases ha with rfl | rfl | rfl <;> rfl, fun _ _ _ _ _ h => by cases h; exact ⟨s23, _, rfl, rfl, fun s hs => by cases hs; exact s23⟩⟩
    · exact ⟨fun a ha => by simp [Bd.atoms] at ha; subst ha; rfl, fun _ _ _ _ _ h => by cases h⟩
    · exact ⟨fun a ha => by simp [Bd.atoms] at ha; subst ha; rfl, fun _ _ _ _ _ h => by cases h⟩
    · exact ⟨fun a ha => by simp [Bd.atoms] at ha; rcases ha with rfl | rfl | rfl <;> rfl, fun _ _ _ _ _ h => by cases h; exact ⟨s23, _, rfl, rfl, fun s hs => by cases hs; exact s23⟩⟩
    · exact ⟨fun a ha => by simp [Bd.atoms] at ha; subst ha; rfl, fun _ _ _ _ _ h => by cases h⟩
  · have n1 := ne 22 21 (by decide) (by decide) (by decide)
    show (hearB W pile).uses (W 21)
    exact pile_ex (fun b => b.uses (W 21)) (.inr ⟨_, _, _, rfl, fun e => n1 (V.str.inj e)⟩) (.inl ⟨_, _, _, rfl, fun e => n1 (V.str.inj e)⟩)
end
end AL
/-! H5 -/
namespace AL
open PySem PySem.Spec PyProof.Rows L2
abbrev dsV (ds : List Deed) : List V := ds.map fun d => V.str d.s
theorem deed_at {r : Int} (h0 : 0 ≤ r) (h1 : r < 4) : ∃ d : Deed, atI [V.str "tell", V.str "turn", V.str "split", V.str "tell"] r = some (.str d.s) := by
  have e : r = 0 ∨ r = 1 ∨ r = 2 ∨ r = 3 := by omega
  rcases e with rfl | rfl | rfl | rfl
  · exact ⟨.tell, rfl⟩
  · exact ⟨.turn, rfl⟩
  · exact ⟨.split, rfl⟩
  · exact ⟨.tell, rfl⟩
def spsV (ds : List Deed) : List V := dsV (ds.filter fun d => decide (d = .split))
theorem spsV_len (ds : List Deed) : (spsV ds).length = splits ds := by unfold spsV splits; rw [List.length_map]
theorem spsV_snoc (ds : List Deed) (d : Deed) : spsV (ds ++ [d]) = if d = .split then spsV ds ++ [.str d.s] else spsV ds := by
  unfold spsV dsV
  rw [List.filter_append, List.map_append]
  by_cases h : d = .split
  · rw [if_pos h]; simp [h]
  · rw [if_neg h]; simp [h]
theorem splits_snoc (ds : List Deed) (d : Deed) : splits (ds ++ [d]) = splits ds + if d = .split then 1 else 0 := by
  have := congrArg List.length (spsV_snoc ds d)
  rw [spsV_len] at this
  rw [this]
  split
  · rw [List.length_append, spsV_len]; rfl
  · rw [spsV_len]; rfl
theorem splits_take (ds : List Deed) (n : Nat) : splits (ds.take n) ≤ splits ds := by
  unfold splits
  exact ((List.take_sublist n ds).filter _).length_le
theorem cut7 (ds : List Deed) : cutV (dsV ds) none (some 7) = dsV (ds.take 7) := by
  unfold cutV
  rw [show (some 7 : Option Int) = some ((7 : Nat) : Int) from rfl, HT.sIx_nat, HT.sIx_none, List.drop_zero, Nat.sub_zero, dsV, dsV, List.map_take, List.length_map]
  rcases Nat.le_total 7 ds.length with h | h
  · rw [Nat.min_eq_left h]
  · rw [Nat.min_eq_right h, List.take_of_length_le (by rw [List.length_map]; omega), List.take_of_length_le (by rw [List.length_map]; omega)]
theorem deed_split (d : Deed) : decide (V.str d.s = V.str "split") = decide (d = .split) := by
  cases d <;> decide +kernel
section
variable {P : Program} {w : World} {K : PySem.W.Frag} {mg : Str → Option Value} {base : Heap}
def lawPd (i : Int) (told : List Int) : PyData := .tuple [.tuple [.str "gave", .int i], .list (told.map .int)]
theorem ints_dp {K : PySem.W.Frag} {H : Hp} : ∀ ns : List Int, DpAll K H (ns.map V.int) (ns.map PyData.int)
  | [] => .nil
  | n :: r => .cons (.int n) (ints_dp r)
theorem ints_lay : ∀ ns : List Int, PyData.canLayAll0 (ns.map PyData.int) = true ∧ PyData.depthAll (ns.map PyData.int) = 0
  | [] => ⟨rfl, rfl⟩
  | n :: r => by
    obtain ⟨h1, h2⟩ := ints_lay r
    simp [PyData.canLayAll0, PyData.canLay0, PyData.depthAll, PyData.depth, h1, h2]
theorem law_shaped (i : Int) (told : List Int) : SeqAt.shaped (lawPd i told) = true := by
  obtain ⟨h1, h2⟩ := ints_lay told
  simp only [SeqAt.shaped, lawPd, PyData.canLay0, PyData.canLayAll0, h1, h2, Bool.and_true, Bool.true_and, PyData.depth, PyData.depthAll, Bool.and_eq_true, decide_eq_true_eq]
  exact ⟨by decide +kernel, by decide⟩
/-- [x for x in deeds if x == 'split'] -/
theorem lc_splits {σ σw : L2.St} {H : Hp} {g : TG} {tt : TT} {te : TE} {vs : List Nat} {Z : Hp} {L : Lx} {dl : Addr} {ds : List Deed} {Qd : Addr → Hp → Prop} (S : SH Z L H) (h : In Z L dl (.lst (dsV ds))) (hl : ds.length ≤ 100) (hw : WipeR σ vs σw) (hww : WipeR σw vs σw)
    (hs : ∀ (D : Addr) (d : Deed) (H : Hp) (acc : List V) (NN : Hp → Prop), SH Z ((D, .lst acc) :: L) H → acc.length ≤ 100 → (d = .split → ∀ H1, SH Z ((D, .lst (acc ++ [.str d.s])) :: L) H1 → NN H1) → (d ≠ .split → NN H) → g (.str d.s) σw H fun σ2 H2 => wipe σ2 vs = wipe σw vs ∧ tt σ2 H2 fun b H3 =>
      if b = true then te σ2 H3 fun y H4 => kApp D y H4 NN else NN H3)
    (hd : ∀ D H1, SH Z ((D, .lst (spsV ds)) :: L) H1 → Qd D H1) :
    ∃ a', V.ref dl = .ref a' ∧ (∃ xs, SqL K H a' xs) ∧ LcK (Itl K a') g tt te vs σ H Qd := by
  refine k_lc_list S h hw (fun D i H => SH Z ((D, .lst (spsV (ds.take i))) :: L) H) (fun D H S => S) (fun D i H S => S.at h.up1) (fun D i x H hx S => ?_) hww (fun D H S => ?_)
  · rw [List.getElem?_map] at hx
    obtain ⟨d, hdd, rfl⟩ : ∃ d : Deed, ds[i]? = some d ∧ V.str d.s = x := by
      cases e : ds[i]? with
      | none => rw [e] at hx; cases hx
      | some d => rw [e] at hx; exact ⟨d, rfl, Option.some.inj hx⟩
    have et : ds.take (i + 1) = ds.take i ++ [d] := by rw [List.take_add_one, hdd]; rfl
    refine hs D d H _ _ S ?_ (fun e H1 S => ?_) (fun e => ?_)
    · have := (List.filter_sublist (p := fun d => decide (d = Deed.split)) (l := ds.take i)).length_le
      unfold spsV dsV
      rw [List.length_map]
      rw [List.length_take] at this
      omega
    · rw [et, spsV_snoc, if_pos e]; exact S
    · rw [et, spsV_snoc, if_neg e]; exact S
  · rw [List.length_map, List.take_length] at S
    exact hd D H S
def spLaw (K : PySem.W.Frag) : Sp := fun vs H Q _ => ∃ (ar : Addr) (ns : List Int), vs = [.ref ar] ∧ SqL K H ar (ns.map V.int) ∧ ns.length ≤ 63 ∧ ∀ H', Q (.bl true) H'
theorem ok_law {fd : FuncData} (T : Tx K mg) (F : FunD K "law" "law" (defArgs s_law) (defBody s_law) (defScope s_law) [] [] (He.fAd K at_law) fd) : FnOk P w K mg base CX0 10 (He.fAd K at_law) fd ["_law_script"] (spLaw K) := by
  refine mk_fn F sc_law ?len ?body
  case len =>
    rintro vs H Q E ⟨ar, ns, rfl, _⟩
    rfl
  case body =>
    rintro cdv A outer s0 H vs Q E hr ⟨ar, ns, rfl, hsc, hnl, q⟩
    refine ⟨_, (pss_cons (ps_set (i := 1) sc_law.nd rfl (Or.inl rfl) (pe_cal (ok_l_deal T) hr (pa_cons (pv 0) (pa_cons pe_int pa_nil)))) (pss_cons (ps_set (i := 2) sc_law.nd rfl (Or.inl rfl) (pe_cal (ok_l_words T) hr (pa_cons (pv 1) (pa_cons pe_int pa_nil)))) (pss_cons (ps_set (i := 3) sc_law.nd rfl (Or.inl rfl) (pe_tup (pa_cons pe_str pa_nil))) (pss_cons (ps_set (i := 4) sc_law.nd rfl (Or.inl rfl) (pe_lst pa_nil)) (pss_cons (ps_for PassesOwn.never rfl (pi_range1 rfl (b_range T) (pa_cons (pe_cal (ok_l_draw T) hr (pa_cons (pv 1) (pa_cons pe_int pa_nil))) pa_nil)) (pg_name (i := 5) sc_law.nd rfl (Or.inl rfl)) (pss_cons (ps_set (i := 6) sc_law.nd rfl (Or.inl rfl) (pe_ix (ix_anyK (K := K)) (pe_lst (pa_cons pe_str (pa_cons pe_str (pa_cons pe_str (pa_cons pe_str pa_nil))))) (pe_cal (ok_l_draw T) hr (pa_cons (pv 1) (pa_cons pe_int pa_nil))) (fun _ _ => rfl))) (pss_cons (ps_if (PW.pt (pw_and (pt_cmpR op_eq (pv 6) pe_str (nomark _)) (pw_and1 (pt_cmpR op_gt (pe_callB call_lenA (by rfl) (b_len T) (by decide +kernel) (pa_cons (pe_lc (own := [("_law_one", 7)]) (g := gName 7) (by rfl) sc_law.nd (pi_listK (K := K) (pv 4)) (blkOk_by (own := [("_law_one", 7)]) (N := ["_law_script", "_law_deal_here", "_law_words_here", "_law_num", "_law_deeds", "_law_k", "_law_deed", "_law_one", "_law_q", "_law_name", "_law_pile", "_law_kept", "_law_main", "_law_player_here", "_law_program", "_law_told", "_law_total"]) (sc := defScope s_law) (by decide +kernel)) (fun _ _ _ _ _ => (pg_name (i := 7) sc_law.nd rfl (Or.inl rfl))) (fun _ _ _ _ _ => pts_one (pt_cmpR op_eq (pv 7) pe_str (nomark _))) (fun _ _ _ _ _ => (pv 7))) pa_nil)) pe_int (nomark _))))) (pss_one (ps_set (i := 6) sc_law.nd rfl (Or.inl rfl) pe_str)) pss_nil) (pss_one (ps_expr (pe_bmK (K := K) (pe_bm PySem.F.plainAttrs_list PySem.F.slot_list_append PySem.F.type_list_append mt_append (pv 4) (pa_cons (pv 6) pa_nil)))))))) (pss_cons (ps_if (PW.pt (pw_and (pt_cmpR op_gt (pe_callB call_lenA (by rfl) (b_len T) (by decide +kernel) (pa_cons (pe_lc (own := [("_law_one", 7)]) (g := gName 7) (by rfl) sc_law.nd (pi_listK (K := K) (pv 4)) (blkOk_by (own := [("_law_one", 7)]) (N := ["_law_script", "_law_deal_here", "_law_words_here", "_law_num", "_law_deeds", "_law_k", "_law_deed", "_law_one", "_law_q", "_law_name", "_law_pile", "_law_kept", "_law_main", "_law_player_here", "_law_program", "_law_told", "_law_total"]) (sc := defScope s_law) (by decide +kernel)) (fun _ _ _ _ _ => (pg_name (i := 7) sc_law.nd rfl (Or.inl rfl))) (fun _ _ _ _ _ => pts_one (pt_cmpR op_eq (pv 7) pe_str (nomark _))) (fun _ _ _ _ _ => (pv 7))) pa_nil)) pe_int (nomark _)) (pw_and1 (pt_cmpR op_gt (pe_callB call_lenA (by rfl) (b_len T) (by decide +kernel) (pa_cons (pv 4) pa_nil)) pe_int (nomark _))))) (pss_one (ps_set (i := 4) sc_law.nd rfl (Or.inl rfl) (pe_slice (sl_listK (K := K)) (pv 4) po_none (po_some pe_int)))) pss_nil) (pss_cons (ps_asg (pe_slice (sl_listK (K := K)) (pv 2) (po_some pe_int) (po_some pe_int)) (pg_unlK (K := K) (by rfl) (pgs_cons (pg_name (i := 8) sc_law.nd rfl (Or.inl rfl)) (pgs_cons (pg_name (i := 9) sc_law.nd rfl (Or.inl rfl)) pgs_nil)))) (pss_cons (ps_set (i := 10) sc_law.nd rfl (Or.inl rfl) (pe_cal (ok_l_draw T) hr (pa_cons (pv 1) (pa_cons pe_int pa_nil)))) (pss_cons (ps_set (i := 11) sc_law.nd rfl (Or.inl rfl) (pe_tup (pa_cons pe_str (pa_cons (pe_ix (ix_anyK (K := K)) (pv 2) pe_int (fun _ _ => rfl)) (pa_cons (pv 9) (pa_cons (pe_ix (ix_anyK (K := K)) (pv 2) pe_int (fun _ _ => rfl)) (pa_cons (pe_ix (ix_anyK (K := K)) (pv 2) pe_int (fun _ _ => rfl)) (pa_cons (pe_tup pa_nil) (pa_cons (pe_tup (pa_cons pe_str (pa_cons (pe_ix (ix_anyK (K := K)) (pv 2) pe_int (fun _ _ => rfl)) pa_nil))) pa_nil))))))))) (pss_cons (ps_set (i := 12) sc_law.nd rfl (Or.inl rfl) (pe_tup (pa_cons (pe_ix (ix_anyK (K := K)) (pv 2) pe_int (fun _ _ => rfl)) (pa_cons (pe_tup pa_nil) (pa_cons (pv 3) (pa_cons (pe_tup (pa_cons pe_str (pa_cons (pe_ix (ix_anyK (K := K)) (pv 2) pe_int (fun _ _ => rfl)) (pa_cons (pe_tup (pa_cons pe_str (pa_cons (pv 9) (pa_cons (pv 8) pa_nil)))) (pa_cons (pv 11) pa_nil))))) pa_nil)))))) (pss_cons (ps_set (i := 13) sc_law.nd rfl (Or.inl rfl) (pe_tup (pa_cons (pe_ix (ix_anyK (K := K)) (pv 2) pe_int (fun _ _ => rfl)) (pa_cons (pe_tup pa_nil) (pa_cons (pv 3) (pa_cons (pe_cal (ok_l_player T) hr (pa_cons (pv 2) (pa_cons (pv 8) (pa_cons (pv 4) pa_nil)))) pa_nil)))))) (pss_cons (ps_set (i := 14) sc_law.nd rfl (Or.inl rfl) (pe_tup (pa_cons (pe_tup (pa_cons (pe_tup (pa_cons (pv 8) (pa_cons (pv 3) (pa_cons (pv 3) pa_nil)))) pa_nil)) (pa_cons (pe_tup (pa_cons (pe_cal (ok_l_keeper T) hr (pa_cons (pv 2) (pa_cons (pv 9) (pa_cons (pv 8) (pa_cons (pv 10) pa_nil))))) pa_nil)) (pa_cons (pe_tup (pa_cons (pv 12) (pa_cons (pv 13) pa_nil))) pa_nil))))) (pss_cons (ps_asg (pe_cal (ok_l_due T) hr (pa_cons (pv 4) (pa_cons (pv 10) pa_nil))) (pg_tupK (K := K) (by rfl) (pgs_cons (pg_name (i := 15) sc_law.nd rfl (Or.inl rfl)) (pgs_cons (pg_name (i := 16) sc_law.nd rfl (Or.inl rfl)) pgs_nil)))) (pss_one (ps_ret (pe_cmpR (op_eqDK (K := K) hr.units) (pe_cal (ok_l_ways T) hr (pa_cons (pv 14) (pa_cons (pe_ix (ix_anyK (K := K)) (pv 2) pe_int (fun _ _ => rfl)) (pa_cons (pe_lst pa_nil) (pa_cons pe_int pa_nil))))) (pe_tup (pa_cons (pe_tup (pa_cons pe_str (pa_cons (pv 16) pa_nil))) (pa_cons (pv 15) pa_nil))) (nomark _))))))))))))))))), ?_⟩
    show (_ : TS) _ ([some _, none, none, none, none, none, none, none, none, none, none, none, none, none, none, none, none] : L2.St) _
    have S := SH.of H
    obtain ⟨Z, hZ⟩ : ∃ Z, Z = H := ⟨H, rfl⟩
    rw [← hZ] at hsc
    replace S : SH Z [] H := by rw [hZ]; exact S
    clear hZ
    wtm_at "wp"
    refine ⟨Z, [], ar, ns, rfl, S, hsc, hnl, fun dd lf s n ms H S D => ?_⟩
    wtm_at "wp"
    refine ⟨Z, [], dd, lf, s, n, ms, rfl, S, D, fun ws wl s n ms H hwl hwn hws S D => ?_⟩
    wtm_at "wp"
    rename Addr => dl
    obtain ⟨np, hnp⟩ : ∃ np, np = p := ⟨_, rfl⟩
    rw [← hnp] at S ⊢
    clear hnp
    refine ⟨Z, (dl, .lst []) :: (np, .tup [.str "num"]) :: (wl, .lst (ws.map V.str)) :: [], dd, lf, s, n, 11, ms, rfl, S.sel (by wtm_at "sel"), D, by decide, by decide, fun j s n ms H j0 j1 S D => ?_⟩
    wtm_at "wp"
    refine k_for_rng j0 (by omega) (fun i σ H => ∃ s n ms ds k d o, σ = [some (.ref ar), some (.ref dd), some (.ref wl), some (.ref np), some (.ref dl), k, d, o, none, none, none, none, none, none, none, none, none] ∧ SH Z ((dd, .dK (dealKv s n lf)) :: (lf, .lst (List.map V.int ms)) :: (dl, .lst (dsV ds)) :: (np, .tup [.str "num"]) :: (wl, .lst (ws.map V.str)) :: []) H ∧ DealOk s n ms ∧ ds.length = i ∧ splits ds ≤ 3)
      ⟨s, n, ms, [], _, _, _, rfl, S.sel (by wtm_at "sel"), D, rfl, by decide⟩ ?_ ?_
    · clear S D s n ms
      rintro i σ H hi ⟨s, n, ms, ds, k, d, o, rfl, S, D, hdl, hsp⟩
      wtm_at "wp"
      refine ⟨Z, (_, .lst [.str "tell", .str "turn", .str "split", .str "tell"]) :: (dl, .lst (dsV ds)) :: (np, .tup [.str "num"]) :: (wl, .lst (ws.map V.str)) :: [], dd, lf, s, n, 4, ms, rfl, S.sel (by wtm_at "sel"), D, by decide, by decide, fun r s n ms H r0 r1 S D => ?_⟩
      wtm_at "wp"
      obtain ⟨d1, hd1⟩ := deed_at r0 r1
      refine k_ixA_l S (by wtm_at "in") hd1 ?_
      wtm_at "w1"
      refine seq_share (fun σ H => ∃ d2 o, splits (ds ++ [d2]) ≤ 3 ∧ σ = [some (.ref ar), some (.ref dd), some (.ref wl), some (.ref np), some (.ref dl), some (.int (i : Nat)), some (.str (Deed.s d2)), o, none, none, none, none, none, none, none, none, none] ∧ SH Z ((dd, .dK (dealKv s n lf)) :: (lf, .lst (List.map V.int ms)) :: (dl, .lst (dsV ds)) :: (np, .tup [.str "num"]) :: (wl, .lst (ws.map V.str)) :: []) H) (fun σ H hS => ?_) fun U hU => ?_
      · clear S
        obtain ⟨d2, o, hs2, rfl, S⟩ := hS
        wtm_at "wp"
        refine k_app S (by wtm_at "mem") (lt_line (by rw [List.length_map]; omega)) .any (by wtm_at "wr") fun H S => ?_
        refine ⟨s, n, ms, ds ++ [d2], _, _, _, rfl, by rw [dsV, List.map_append]; exact S, D, by rw [List.length_append, List.length_cons, List.length_nil]; omega, hs2⟩
      · wtm_at "wp"
        rw [deed_split]
        by_cases e : d1 = .split
        · refine if_T (decide_eq_true e) ?_
          wtm_at "wp"
          refine lc_splits S (by wtm_at "in") (by omega) (by wtm_at "wipe") (by wtm_at "wipe") (fun D d H acc NN S hal h1 h2 => ?_) fun D H S => ?_
          · wtm_at "wp"
            rw [deed_split]
            by_cases e2 : d = .split
            · refine if_T (decide_eq_true e2) ?_
              wtm_at "wp"
              exact h1 e2 _ S
            · refine if_F (decide_eq_false e2) ?_
              exact h2 e2
          · wtm_at "wp"
            rw [spsV_len]
            by_cases e2 : (2 : Int) < (splits ds : Nat)
            · refine if_T (decide_eq_true e2) ?_
              wtm_at "wp"
              exact hU _ _ ⟨.turn, _, by rw [splits_snoc]; simp; omega, rfl, S.sub (by wtm_at "sub")⟩
            · refine if_F (decide_eq_false e2) ?_
              wtm_at "wp"
              exact hU _ _ ⟨d1, _, by rw [splits_snoc, if_pos e]; omega, rfl, S.sel (by wtm_at "sel")⟩
        · refine if_F (decide_eq_false e) ?_
          wtm_at "wp"
          exact hU _ _ ⟨d1, _, by rw [splits_snoc, if_neg e]; omega, rfl, S.sel (by wtm_at "sel")⟩
    · clear S D s n ms
      rintro σ H ⟨s, n, ms, ds, k, d, o, rfl, S, D, hdl, hsp⟩
      have hd10 : ds.length ≤ 10 := by omega
      clear hdl
      refine seq_share (fun σ H => ∃ dl ds o, List.length ds ≤ 10 ∧ splits ds ≤ 3 ∧ σ = [some (.ref ar), some (.ref dd), some (.ref wl), some (.ref np), some (.ref dl), k, d, o, none, none, none, none, none, none, none, none, none] ∧ SH Z ((dd, .dK (dealKv s n lf)) :: (lf, .lst (List.map V.int ms)) :: (dl, .lst (dsV ds)) :: (np, .tup [.str "num"]) :: (wl, .lst (ws.map V.str)) :: []) H) (fun σ H hS => ?_) fun U hU => ?_
      · clear S hd10 hsp ds
        obtain ⟨dl, ds, o, hd10, hsp, rfl, S⟩ := hS
        wtm_at "wp"
        refine k_slL S (by wtm_at "in") (cut1 hwl) fun p1 H S => ?_
        wtm_at "wp"
        refine ⟨Z, (dl, .lst (dsV ds)) :: (np, .tup [.str "num"]) :: (wl, .lst (ws.map V.str)) :: [], dd, lf, s, n, 2, ms, rfl, S.sel (by wtm_at "sel"), D, by decide, by decide, fun r s n ms H r0 r1 S D => ?_⟩
        obtain ⟨pile, rfl⟩ : ∃ pile : Bool, r = if pile then 1 else 0 := by
          have e : r = 0 ∨ r = 1 := by omega
          rcases e with rfl | rfl
          · exact ⟨false, rfl⟩
          · exact ⟨true, rfl⟩
        replace S : SH Z ((np, .tup [.str "num"]) :: (dl, .lst (dsV ds)) :: (wl, .lst (ws.map V.str)) :: []) H := S.sel (by wtm_at "sel")
        obtain ⟨S, hs0, hz0⟩ := S.pick (p := np) (by wtm_at "pick")
        have a0 : atI (ws.map V.str) 0 = some (.str (wnth ws 0)) := wnth_at (j := 0) (by omega)
        have a1 : atI (ws.map V.str) 1 = some (.str (wnth ws 1)) := wnth_at (j := 1) (by omega)
        have a20 : atI (ws.map V.str) 20 = some (.str (wnth ws 20)) := wnth_at (j := 20) (by omega)
        have a21 : atI (ws.map V.str) 21 = some (.str (wnth ws 21)) := wnth_at (j := 21) (by omega)
        generalize hZ1 : upd Z np (.tup [.str "num"]) = Z0 at *
        wtm_at "wp"
        obtain ⟨S, hs1, hz⟩ := SH.frzs (M := [_, _, _, _, _, _, _, _]) S
        have z0 := hz _ _ (List.mem_of_getElem? (i := 0) rfl)
        have z1 := hz _ _ (List.mem_of_getElem? (i := 1) rfl)
        have z2 := hz _ _ (List.mem_of_getElem? (i := 2) rfl)
        have z4 := hz _ _ (List.mem_of_getElem? (i := 4) rfl)
        have z5 := hz _ _ (List.mem_of_getElem? (i := 5) rfl)
        have z6 := hz _ _ (List.mem_of_getElem? (i := 6) rfl)
        have z7 := hz _ _ (List.mem_of_getElem? (i := 7) rfl)
        clear hz
        generalize hZ2 : fz Z0 _ = Z1 at *
        clear hZ2
        refine ⟨Z1, _, wl, dl, _, ws, ds, rfl, S, by wtm_at "in", by wtm_at "in", hwl, hd10, fun b1v Z2 H hs2 S hb1 => ?_⟩
        wtm_at "wp"
        refine ⟨Z2, _, wl, ws, _, _, pile, rfl, S, by wtm_at "in", hwl, fun kp nt n1 n2 en hs h1 hbv ebv Z3 H hs3 S k1 k2 k3 k4 k5 k6 => ?_⟩
        wtm_at "wp"
        obtain ⟨told, tot, c, hsch, hc⟩ := sch_ex ds pile _ 0 1 [] (Nat.le_refl _) (Nat.zero_le _) (fun p hp => by cases hp)
        have hcd := costD_lt hd10 hsp
        rw [List.drop_zero] at hc
        replace hc : c ≤ 560 := by simp only [costR, List.map_nil, List.sum_nil] at hc; omega
        refine ⟨Z3, _, dl, ds, pile, told, tot, c, rfl, S, by wtm_at "in", hsch, by omega, fun r l Z4 H hs4 S hr1 hl1 => ?_⟩
        wtm_at "wp"
        obtain ⟨S, hs5, hz⟩ := SH.frzs (M := [_, _, _, _, _, _, _]) S
        have y0 := hz _ _ (List.mem_of_getElem? (i := 0) rfl)
        have y1 := hz _ _ (List.mem_of_getElem? (i := 1) rfl)
        have y2 := hz _ _ (List.mem_of_getElem? (i := 2) rfl)
        have y3 := hz _ _ (List.mem_of_getElem? (i := 3) rfl)
        have y4 := hz _ _ (List.mem_of_getElem? (i := 4) rfl)
        have y5 := hz _ _ (List.mem_of_getElem? (i := 5) rfl)
        have y6 := hz _ _ (List.mem_of_getElem? (i := 6) rfl)
        clear hz
        generalize hZ5 : fz Z4 _ = Z5 at *
        clear hZ5
        have h35 := hs4.trans hs5
        have h25 := hs3.trans h35
        have h15 := hs2.trans h25
        have hW : ∀ i j, i < 64 → j < 64 → wnth ws i = wnth ws j → i = j := fun i j hi hj e => by
          unfold wnth at e
          rw [List.getD_eq_getElem?_getD, List.getD_eq_getElem?_getD, List.getElem?_eq_getElem (by omega), List.getElem?_eq_getElem (by omega)] at e
          have hpw := List.pairwise_iff_getElem.mp hwn
          rcases Nat.lt_trichotomy i j with h | h | h
          · exact absurd e (hpw i j _ _ h)
          · exact h
          · exact absurd e.symm (hpw j i _ _ h)
        have hsK : ∀ i, i < 64 → PyData.strOk (wnth ws i) = true := fun i hi => by
          unfold wnth
          rw [List.getD_eq_getElem?_getD, List.getElem?_eq_getElem (by omega)]
          exact hws _ (List.getElem_mem _)
        have b0 : BdAt Z5 _ _ := BdAt.mono (Same.refl _) (b := .empty (wnth ws 21) _ (.keep (wnth ws 20) (wnth ws 11) (.str (wnth ws 21)) (wnth ws 1) _ (.give (.str (wnth ws 20))))) (v := .ref _) ⟨_, _, rfl, h15 _ _ z2, _, _, rfl, h15 _ _ z5, ⟨_, rfl, h15 _ _ z7⟩, _, rfl, h15 _ _ z6⟩
        have A1 : ProgAt Z5 (lawPg (wnth ws) ds pile _ _) ⟨_, _, _, kp, en, hs, h1, _, _, _, _, _, _, _, nt, n1, n2, _, _, hbv, ebv, _, b1v⟩ _ :=
          ⟨y1, y4, y5, y3, h35 _ _ k1, h35 _ _ k2, h35 _ _ k3, h35 _ _ k4, y2, h15 _ _ z1, h15 _ _ z4, y6, h15 _ _ z0, k5.mono h35, k6.mono h35, b0, hb1.mono h25, fun e => absurd (hW 0 1 (by decide) (by decide) e) (by decide)⟩
        obtain ⟨⟨rf, mf, PO⟩, hpl⟩ := law_ok (kv := _) (av := _) (pile := pile) hW hsK hd10
        obtain ⟨m, evs, hm, hrun, hte⟩ := run_all (kv := _) (av := _) (pile := pile) hW hd10 hsch hc
        refine ⟨Z5, _, _, _, rf, mf, _, _, m, evs, _, rfl, S, A1, y0, PO, fun t => Nat.le_trans (hpl t) (by decide), hrun, hm, hsK 11 (by decide), hsK 10 (by decide), fun r2 e2 l2 Z6 H hs6 S x1 x2 x3 => ?_⟩
        rw [hte] at x3
        replace hl1 := hs6 _ _ (hs5 _ _ hl1)
        wtm_at "wp"
        refine ⟨lawPd (tot % 1000000000) told, lawPd (tot % 1000000000) told, .tup (SqT.of (S.at (.z x1))) (.cons (.tup (SqT.of (S.at (.z x2))) (.cons (.str _) (.cons (.int _) .nil))) (.cons (.lst (SqL.of (S.at (.z x3))) (ints_dp _)) .nil)),
          .tup (SqT.of (S.at (.l (by wtm_at "mem")))) (.cons (.tup (SqT.of (S.at (.l (by wtm_at "mem")))) (.cons (.str _) (.cons (.int _) .nil))) (.cons (.lst (SqL.of (S.at (.z hl1))) (ints_dp _)) .nil)), law_shaped _ _, law_shaped _ _, ?_⟩
        rw [SeqAt.eqv_refl _ (SeqAt.canLay_of_shaped (law_shaped _ _))]
        exact q _
      · wtm_at "wp"
        refine lc_splits S (by wtm_at "in") (by omega) (by wtm_at "wipe") (by wtm_at "wipe") (fun D d H acc NN S hal h1 h2 => ?_) fun D H S => ?_
        · wtm_at "wp"
          rw [deed_split]
          by_cases e2 : d = .split
          · refine if_T (decide_eq_true e2) ?_
            wtm_at "wp"
            exact h1 e2 _ S
          · refine if_F (decide_eq_false e2) ?_
            exact h2 e2
        · wtm_at "wp"
          rw [spsV_len]
          by_cases e2 : (2 : Int) < (splits ds : Nat)
          · refine if_T (decide_eq_true e2) ?_
            wtm_at "wp"
            by_cases e3 : (7 : Int) < ((dsV ds).length : Nat)
            · refine if_T (decide_eq_true e3) ?_
              wtm_at "wp"
              refine k_slL S (by wtm_at "in") (cut7 ds) fun p7 H S => ?_
              wtm_at "wp"
              exact hU _ _ ⟨p7, ds.take 7, _, by rw [List.length_take]; omega, Nat.le_trans (splits_take ds 7) hsp, rfl, S.sel (by wtm_at "sel")⟩
            · refine if_F (decide_eq_false e3) ?_
              wtm_at "wp"
              exact hU _ _ ⟨dl, ds, _, hd10, hsp, rfl, S.sel (by wtm_at "sel")⟩
          · refine if_F (decide_eq_false e2) ?_
            wtm_at "wp"
            exact hU _ _ ⟨dl, ds, _, hd10, hsp, rfl, S.sel (by wtm_at "sel")⟩
end
end AL
/-! H8 -/
namespace AL
open PySem PySem.Spec PyProof.Rows L2
section
variable {fa : List He.Fa} {fn : List He.DefD} {K : PySem.W.Frag}
theorem all_fa (c : He.SaysD fa fn K) : ∀ f ∈ fa, f.ok K = true := fun _ m =>
  (List.getElem?_of_mem m).elim fun i e => c.fact i e
theorem all_fn (c : He.SaysD fa fn K) : ∀ d ∈ fn, ∃ fd, FunD K d.name d.qual d.params d.body d.scope (d.dvs K) (d.kws K) (He.fAd K d.at_) fd := fun _ m =>
  (List.getElem?_of_mem m).elim fun i e => c.def_ i e
end
theorem tx_of {K : PySem.W.Frag} {h : Heap} {mg : Str → Option Value} (X : K.In h) (G : h.Ns mainGlobals mg) (c : He.SaysD gFa gDa K) (e : exB K = true) : Tx K mg := by
  refine ⟨⟨h, X, G⟩, ?_, ?_, ?_, ?_, ?_, ?_, ?_, ?_, ?_, ?_, ?_, ?_, ?_, ?_, e⟩
  · exact fun f h => all_fa c f (List.mem_append_left _ (List.mem_append_left _ (List.mem_append_left _ (List.mem_append_left _ (List.mem_append_left _ (List.mem_append_left _ (List.mem_append_left _ (List.mem_append_left _ h))))))))
  · exact fun f h => all_fa c f (List.mem_append_left _ (List.mem_append_left _ (List.mem_append_left _ (List.mem_append_left _ (List.mem_append_left _ (List.mem_append_left _ (List.mem_append_left _ (List.mem_append_right _ h))))))))
  · exact fun f h => all_fa c f (List.mem_append_left _ (List.mem_append_left _ (List.mem_append_left _ (List.mem_append_left _ (List.mem_append_left _ (List.mem_append_left _ (List.mem_append_right _ h)))))))
  · exact fun f h => all_fa c f (List.mem_append_left _ (List.mem_append_left _ (List.mem_append_left _ (List.mem_append_left _ (List.mem_append_left _ (List.mem_append_right _ h))))))
  · exact fun f h => all_fa c f (List.mem_append_left _ (List.mem_append_left _ (List.mem_append_left _ (List.mem_append_left _ (List.mem_append_right _ h)))))
  · exact fun f h => all_fa c f (List.mem_append_left _ (List.mem_append_left _ (List.mem_append_left _ (List.mem_append_right _ h))))
  · exact fun f h => all_fa c f (List.mem_append_left _ (List.mem_append_left _ (List.mem_append_right _ h)))
  · exact fun f h => all_fa c f (List.mem_append_left _ (List.mem_append_right _ h))
  · exact fun f h => all_fa c f (List.mem_append_right _ h)
  · exact fun d h => all_fn c d (List.mem_append_left _ (List.mem_append_left _ (List.mem_append_left _ (List.mem_append_left _ h))))
  · exact fun d h => all_fn c d (List.mem_append_left _ (List.mem_append_left _ (List.mem_append_left _ (List.mem_append_right _ h))))
  · exact fun d h => all_fn c d (List.mem_append_left _ (List.mem_append_left _ (List.mem_append_right _ h)))
  · exact fun d h => all_fn c d (List.mem_append_left _ (List.mem_append_right _ h))
  · exact fun d h => all_fn c d (List.mem_append_right _ h)
theorem facts_law {P : Program} {w : World} {K : PySem.W.Frag} {h : Heap} {mg : Str → Option Value} {f : Addr} (X : K.In h) (G : h.Ns mainGlobals mg) (hfa : mg ("law" : Str) = some (.ref f)) (c : He.SaysD gFa gDa K) (e : exB K = true) :
    ∃ fd : FuncData, (∀ (s : Shared) (v : Value), BindsTo s fd ⟨[v], []⟩ [("_law_script", v)]) ∧ ∀ base : Heap, K.In base → base.Ns mainGlobals mg → FnOk P w K mg base CX0 10 f fd ["_law_script"] (spLaw K) := by
  have T : Tx K mg := tx_of X G c e
  obtain ⟨fd, F⟩ := F_law T
  have ef := hfa.symm.trans (g_law T)
  cases ef
  have b := FunD.bindsA (ps := ["_law_script"]) F fun _ _ _ _ _ _ us hl => match us, hl with | [_], _ => rfl
  exact ⟨fd, fun s v => b s [v] rfl, fun base _ _ => ok_law T F⟩
end AL
open PySem PySem.W PySem.Calls PyProof.Rows
theorem PySem.Challenge.cw_askladder_k84_whole_taking_turns_holds : PySem.Challenge.rw_askladder_k84_whole_taking_turns.Holds := by
  w_on; o_law
  refine HandSHeadRun.head_any (r := OpenLaw.row PySem.Challenge.rw_askladder_k84_whole_taking_turns) (q := view (OpenLaw.row PySem.Challenge.rw_askladder_k84_whole_taking_turns).prog [61]) (H := AL.hk) (ob := AL.ob) (M := 6000) (loose := AL.loose) (d := HandSHeadRun.topDef (OpenLaw.row PySem.Challenge.rw_askladder_k84_whole_taking_turns).prog 61) (kwd := []) AL.ob_eq
    (by kernel_rfl) (fun s => by kernel_rfl) AL.run_all_head (by kernel_rfl) (by kernel_rfl) (by kernel_rfl) (by rfl) (by first | assumption | decide +kernel) (by decide +kernel) ⟨rfl, rfl, rfl, rfl, rfl, by decide +kernel⟩ ?hw ?hc
  case hw => w_witness2
  case hc =>
    refine L2.walk_ofE (l := PySem.Challenge.rw_askladder_k84_whole_taking_turns) (n := 63) (k := 10) (x := "_law_script") (CX := L2.CX0) rfl (by decide) (by kernel_rfl) ⟨rfl, by decide, by decide⟩ ?F (fun _ _ _ _ z => z)
    intro w mg fa h Y G hmg0
    obtain ⟨K, KX, c, e⟩ := Y
    have hmg : mg ("law" : PySem.Str) = some (.ref fa) := by
      have e : (HandSHeadRun.topDef (OpenLaw.row PySem.Challenge.rw_askladder_k84_whole_taking_turns).prog 61).name = ("law" : PySem.Str) := by kernel_rfl
      rw [← e]
      exact hmg0
    obtain ⟨fd, hb, hF⟩ := AL.facts_law (P := (PySem.Challenge.rw_askladder_k84_whole_taking_turns).prog) (w := w) KX G hmg c e
    exact ⟨K, fd, AL.spLaw K, KX, hb, fun H a ns hl _ hS => ⟨a, ns, rfl, hS, hl, fun _ => rfl⟩, hF⟩
