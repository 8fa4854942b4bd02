import PyProof.Rows.All
import Wide.All
import OpenK.AllK
import Wide.FinOn
import HandS.ForMost
import HandS.More
import HandS.Defaults
import HandS.Exc
import HandS.TryOnly
import HandS.ExcOwn
import HandS.WordsExc
import HandS.ExcIs
import HandS.IsInst
import HandS.Hot
import HandS.HotCalls
import HandS.ExcCtx
import HandS.Flow
import HandS.SortKw
import HandS.TupAny
import HandS.Conv
import HandS.Head0
import HandS.Head1
import HandS.Head2
import HandS.HeadEnd
import HandS.HeadHook1
import HandS.HeadHook2
import PySem.Challenge.RW_paneworks_k60_a_world_made
set_option Elab.async false
set_option linter.all false
set_option maxRecDepth 100000
set_option maxHeartbeats 4000000
/-! # H0: the head's facts by one hook. -/
namespace Pn
open PySem PySem.Spec PyProof.Rows L2
def obsA (as : List Addr) (fa : List He.Fa) (fn : List He.DefD) (ex : PySem.W.Frag → Bool) (g : Addr → Option Obj) : He.AlD × Bool :=
  (He.obsD fa fn (He.frG g as), ex (He.frG g as))
def hookA (as : List Addr) (fa : List He.Fa) (fn : List He.DefD) (ex : PySem.W.Frag → Bool) : PySem.W.Hook where
  α := He.AlD × Bool
  obs := fun s => obsA as fa fn ex s.heap.get?
  val := fun _ => (He.valD fn, true)
  says := fun _ h => ∃ K : PySem.W.Frag, K.In h ∧ He.SaysD fa fn K ∧ ex K = true
  of := fun _ s e => ⟨_, He.frG_in (as := as), congrArg Prod.fst e, congrArg Prod.snd e⟩
  keeps := fun _ _ _ h k => by
    obtain ⟨K, hK, c⟩ := h
    exact ⟨K, PySem.W.Frag.In.keeps hK k, c⟩
theorem obsA_eq {as : List Addr} {fa : List He.Fa} {fn : List He.DefD} {ex : PySem.W.Frag → Bool} {g : Addr → Option Obj} {s : Shared} (h : ∀ a, g a = s.heap.get? a) :
    obsA as fa fn ex g = (hookA as fa fn ex).obs s := by
  have e : g = s.heap.get? := funext h
  subst e
  rfl
theorem both_of {S A B C : Type} {o : Option S} {f1 : S → A} {f2 : S → B} {g : S → C} {a : A} {b : B} {c : C}
    (h1 : o.map (fun s => (f1 s, f2 s, ())) = some (a, b, ())) (h2 : o.map g = some c) : o.map (fun s => (f1 s, f2 s, g s)) = some (a, b, c) := by
  cases o with
  | none => cases h1
  | some s =>
    simp only [Option.map_some, Option.some.injEq, Prod.mk.injEq] at h1 h2 ⊢
    exact ⟨h1.1, h1.2.1, h2⟩
abbrev excN : List Str := ["NoNumber", "NoSpace", "NoFile", "NoPage", "NoRight", "Taken", "Held", "Full", "NoRow"]
def excCB (K : PySem.W.Frag) (D : Addr) : Bool :=
  (decide (PySem.W.findIn K (.ref D) "__getattribute__" = some (some (.builtin "BaseException.__getattribute__"))) && decide (PySem.W.findIn K (.ref D) "__getattr__" = some none)) &&
  ((decide (PySem.W.subIn K (.ref D) (.type "BaseException") = some true) && PySem.W.hasDictIn K D) && (decide (PySem.W.findIn K (.ref D) "__class__" = some (some (.builtin "object.__class__"))) && decide (PySem.W.mroIn K D (.type "object") = some true)))
def excB (K : PySem.W.Frag) : Bool :=
  (decide (PySem.W.specialIn K (.builtin "object.__class__") "__get__" = some (some (.builtin "getset_descriptor.__get__"))) && decide (PySem.W.takesIn K (.builtin "object.__class__") = some true)) &&
  excN.all fun x => excCB K (He.ga K x) && ((excN.all fun y => decide (PySem.W.kitOne K (.ref (He.ga K x)) (.ref (He.ga K y)) = some (decide (x = y)))) &&
    (decide (PySem.W.kitOne K (.ref (He.ga K x)) (.type "ValueError") = some true) && decide (PySem.W.exmOne K (.ref (He.ga K x)) (.ref (He.ga K "PaneError")) = some true)))
end Pn

namespace Pn
open PySem PySem.Spec PyProof.Rows L2
/-! ### the text by places -/
def top (i : Nat) : Stmt := PySem.Challenge.pw_paneworks_k60_a_world_made.main.body.getD i (.Pass ⟨0, 0, 0, 0⟩)
abbrev s_law_edged : Stmt := top 45
abbrev s_law_cell_at : Stmt := top 44
abbrev s_is_whole : Stmt := top 15
abbrev s_number : Stmt := top 16
abbrev s_Frames_init : Stmt := inClass (top 22) 0
abbrev s_Dial_init : Stmt := inClass (top 18) 0
abbrev s_Shelf_init : Stmt := inClass (top 24) 0
abbrev s_Files_init : Stmt := inClass (top 20) 0
abbrev s_Store_init : Stmt := inClass (top 26) 0
abbrev s_Book_init : Stmt := inClass (top 2) 0
abbrev s_World_init : Stmt := inClass (top 31) 0
abbrev s_told_spaces : Stmt := top 33
abbrev s_law_of_none : Stmt := top 52
abbrev s_Frames_things : Stmt := inClass (top 22) 9
abbrev s_told_frames : Stmt := top 34
abbrev s_Dial_marks : Stmt := inClass (top 18) 4
abbrev s_told_marks : Stmt := top 35
abbrev s_law_is : Stmt := top 47
abbrev s_Dial_pointer : Stmt := inClass (top 18) 1
abbrev s_told_pointer : Stmt := top 36
abbrev s_Shelf_sheets : Stmt := inClass (top 24) 6
abbrev s_told_shelf : Stmt := top 37
abbrev s_told_copies : Stmt := top 41
abbrev s_asked_hand : Stmt := top 32
abbrev s_Book_ways : Stmt := inClass (top 2) 6
abbrev s_told_book : Stmt := top 39
abbrev s_told_walks : Stmt := top 40
abbrev s_room_of : Stmt := top 29
abbrev s_told_room : Stmt := top 42
abbrev s_holders_of : Stmt := top 28
abbrev s_told_holders : Stmt := top 38
abbrev s_law_is_new : Stmt := top 53
abbrev s_law_bad : Stmt := top 46
abbrev s_law_alone : Stmt := top 48
abbrev s_law_world_refused : Stmt := top 49
abbrev s_law_book_refused : Stmt := top 50
abbrev s_law_walks_refused : Stmt := top 51
abbrev s_law : Stmt := top 54
def d_law_edged : He.DefD := ⟨("_law_edged", none), "_law_edged", "_law_edged", defArgs s_law_edged, defBody s_law_edged, defScope s_law_edged, [], []⟩
def d_law_cell_at : He.DefD := ⟨("_law_cell_at", none), "_law_cell_at", "_law_cell_at", defArgs s_law_cell_at, defBody s_law_cell_at, defScope s_law_cell_at, [], []⟩
def d_is_whole : He.DefD := ⟨("is_whole", none), "is_whole", "is_whole", defArgs s_is_whole, defBody s_is_whole, defScope s_is_whole, [], []⟩
def d_number : He.DefD := ⟨("number", none), "number", "number", defArgs s_number, defBody s_number, defScope s_number, [], []⟩
def d_Frames_init : He.DefD := ⟨("Frames", some "__init__"), "__init__", "Frames.__init__", defArgs s_Frames_init, defBody s_Frames_init, defScope s_Frames_init, [], []⟩
def d_Dial_init : He.DefD := ⟨("Dial", some "__init__"), "__init__", "Dial.__init__", defArgs s_Dial_init, defBody s_Dial_init, defScope s_Dial_init, [], []⟩
def d_Shelf_init : He.DefD := ⟨("Shelf", some "__init__"), "__init__", "Shelf.__init__", defArgs s_Shelf_init, defBody s_Shelf_init, defScope s_Shelf_init, [], []⟩
def d_Files_init : He.DefD := ⟨("Files", some "__init__"), "__init__", "Files.__init__", defArgs s_Files_init, defBody s_Files_init, defScope s_Files_init, [], []⟩
def d_Store_init : He.DefD := ⟨("Store", some "__init__"), "__init__", "Store.__init__", defArgs s_Store_init, defBody s_Store_init, defScope s_Store_init, [], []⟩
def d_Book_init : He.DefD := ⟨("Book", some "__init__"), "__init__", "Book.__init__", defArgs s_Book_init, defBody s_Book_init, defScope s_Book_init, [], []⟩
def d_World_init : He.DefD := ⟨("World", some "__init__"), "__init__", "World.__init__", defArgs s_World_init, defBody s_World_init, defScope s_World_init, [], []⟩
def d_told_spaces : He.DefD := ⟨("told_spaces", none), "told_spaces", "told_spaces", defArgs s_told_spaces, defBody s_told_spaces, defScope s_told_spaces, [], []⟩
def d_law_of_none : He.DefD := ⟨("_law_of_none", none), "_law_of_none", "_law_of_none", defArgs s_law_of_none, defBody s_law_of_none, defScope s_law_of_none, [], []⟩
def d_Frames_things : He.DefD := ⟨("Frames", some "things"), "things", "Frames.things", defArgs s_Frames_things, defBody s_Frames_things, defScope s_Frames_things, [], []⟩
def d_told_frames : He.DefD := ⟨("told_frames", none), "told_frames", "told_frames", defArgs s_told_frames, defBody s_told_frames, defScope s_told_frames, [], []⟩
def d_Dial_marks : He.DefD := ⟨("Dial", some "marks"), "marks", "Dial.marks", defArgs s_Dial_marks, defBody s_Dial_marks, defScope s_Dial_marks, [], []⟩
def d_told_marks : He.DefD := ⟨("told_marks", none), "told_marks", "told_marks", defArgs s_told_marks, defBody s_told_marks, defScope s_told_marks, [], []⟩
def d_law_is : He.DefD := ⟨("_law_is", none), "_law_is", "_law_is", defArgs s_law_is, defBody s_law_is, defScope s_law_is, [], []⟩
def d_Dial_pointer : He.DefD := ⟨("Dial", some "pointer"), "pointer", "Dial.pointer", defArgs s_Dial_pointer, defBody s_Dial_pointer, defScope s_Dial_pointer, [], []⟩
def d_told_pointer : He.DefD := ⟨("told_pointer", none), "told_pointer", "told_pointer", defArgs s_told_pointer, defBody s_told_pointer, defScope s_told_pointer, [], []⟩
def d_Shelf_sheets : He.DefD := ⟨("Shelf", some "sheets"), "sheets", "Shelf.sheets", defArgs s_Shelf_sheets, defBody s_Shelf_sheets, defScope s_Shelf_sheets, [], []⟩
def d_told_shelf : He.DefD := ⟨("told_shelf", none), "told_shelf", "told_shelf", defArgs s_told_shelf, defBody s_told_shelf, defScope s_told_shelf, [], []⟩
def d_told_copies : He.DefD := ⟨("told_copies", none), "told_copies", "told_copies", defArgs s_told_copies, defBody s_told_copies, defScope s_told_copies, [], []⟩
def d_asked_hand : He.DefD := ⟨("asked_hand", none), "asked_hand", "asked_hand", defArgs s_asked_hand, defBody s_asked_hand, defScope s_asked_hand, [], []⟩
def d_Book_ways : He.DefD := ⟨("Book", some "ways"), "ways", "Book.ways", defArgs s_Book_ways, defBody s_Book_ways, defScope s_Book_ways, [], []⟩
def d_told_book : He.DefD := ⟨("told_book", none), "told_book", "told_book", defArgs s_told_book, defBody s_told_book, defScope s_told_book, [], []⟩
def d_told_walks : He.DefD := ⟨("told_walks", none), "told_walks", "told_walks", defArgs s_told_walks, defBody s_told_walks, defScope s_told_walks, [], []⟩
def d_room_of : He.DefD := ⟨("room_of", none), "room_of", "room_of", defArgs s_room_of, defBody s_room_of, defScope s_room_of, [], []⟩
def d_told_room : He.DefD := ⟨("told_room", none), "told_room", "told_room", defArgs s_told_room, defBody s_told_room, defScope s_told_room, [], []⟩
def d_holders_of : He.DefD := ⟨("holders_of", none), "holders_of", "holders_of", defArgs s_holders_of, defBody s_holders_of, defScope s_holders_of, [], []⟩
def d_told_holders : He.DefD := ⟨("told_holders", none), "told_holders", "told_holders", defArgs s_told_holders, defBody s_told_holders, defScope s_told_holders, [], []⟩
def d_law_is_new : He.DefD := ⟨("_law_is_new", none), "_law_is_new", "_law_is_new", defArgs s_law_is_new, defBody s_law_is_new, defScope s_law_is_new, [], []⟩
def d_law_bad : He.DefD := ⟨("_law_bad", none), "_law_bad", "_law_bad", defArgs s_law_bad, defBody s_law_bad, defScope s_law_bad, [], []⟩
def d_law_alone : He.DefD := ⟨("_law_alone", none), "_law_alone", "_law_alone", defArgs s_law_alone, defBody s_law_alone, defScope s_law_alone, [], []⟩
def d_law_world_refused : He.DefD := ⟨("_law_world_refused", none), "_law_world_refused", "_law_world_refused", defArgs s_law_world_refused, defBody s_law_world_refused, defScope s_law_world_refused, [], []⟩
def d_law_book_refused : He.DefD := ⟨("_law_book_refused", none), "_law_book_refused", "_law_book_refused", defArgs s_law_book_refused, defBody s_law_book_refused, defScope s_law_book_refused, [], []⟩
def d_law_walks_refused : He.DefD := ⟨("_law_walks_refused", none), "_law_walks_refused", "_law_walks_refused", defArgs s_law_walks_refused, defBody s_law_walks_refused, defScope s_law_walks_refused, [], []⟩
def d_law : He.DefD := ⟨("law", none), "law", "law", defArgs s_law, defBody s_law, defScope s_law, [], []⟩
def fn : List He.DefD := [d_law_edged, d_law_cell_at, d_is_whole, d_number, d_Frames_init, d_Dial_init, d_Shelf_init, d_Files_init, d_Store_init, d_Book_init, d_World_init, d_told_spaces, d_law_of_none, d_Frames_things, d_told_frames, d_Dial_marks, d_told_marks, d_law_is, d_Dial_pointer, d_told_pointer, d_Shelf_sheets, d_told_shelf, d_told_copies, d_asked_hand, d_Book_ways, d_told_book, d_told_walks, d_room_of, d_told_room, d_holders_of, d_told_holders, d_law_is_new, d_law_bad, d_law_alone, d_law_world_refused, d_law_book_refused, d_law_walks_refused, d_law]
def fa0 : List He.Fa := [.free "range", .glo "_law_cell_at", .glo "_law_edged", .mkr "World", .glo "World", .glo "_law_is_new", .glo "told_book", .glo "told_shelf", .glo "told_marks", .glo "told_frames", .glo "told_spaces", .free "list"]
def fa1 : List He.Fa := [.glo "_law_bad", .glo "_law_world_refused", .glo "_law_book_refused", .glo "_law_walks_refused", .free "len", .glo "number", .mkr "Store", .glo "Store", .cls "World", .noat "World" "store", .mkr "Book", .glo "Book"]
def fa2 : List He.Fa := [.noat "World" "books", .noat "World" "walked", .noat "World" "copied", .noat "World" "made", .noat "World" "plans", .noat "World" "tables", .glo "is_whole", .glo "NoNumber", .exc "NoNumber", .free "isinstance", .free "int", .free "bool"]
def fa3 : List He.Fa := [.mkr "Frames", .glo "Frames", .cls "Store", .noat "Store" "frames", .mkr "Dial", .glo "Dial", .noat "Store" "dial", .mkr "Shelf", .glo "Shelf", .noat "Store" "shelf", .mkr "Files", .glo "Files"]
def fa4 : List He.Fa := [.noat "Store" "files", .noat "Store" "my_holders", .noat "Store" "my_newest", .cls "Frames", .noat "Frames" "my_things", .noat "Frames" "my_rows", .noat "Frames" "my_soil", .cls "Dial", .noat "Dial" "my_spot", .noat "Dial" "my_marked", .cls "Shelf", .noat "Shelf" "my_sheets"]
def fa5 : List He.Fa := [.noat "Shelf" "my_rows", .cls "Files", .noat "Files" "my_files", .cls "Book", .noat "Book" "slots", .noat "Book" "kept", .glo "_law_of_none", .glo "told_pointer", .glo "_law_is", .glo "told_copies", .glo "told_walks", .glo "told_room"]
def fa6 : List He.Fa := [.glo "told_holders", .free "sorted", .meth "Frames" "things", .meth "Dial" "marks", .meth "Dial" "pointer", .meth "Shelf" "sheets", .glo "asked_hand", .meth "Book" "ways", .glo "room_of", .glo "holders_of", .free "str", .glo "_law_alone"]
def fa7 : List He.Fa := [.glo "PaneError", .glo "NoRow", .glo "Full", .glo "Held", .glo "Taken", .glo "NoRight", .glo "NoPage", .glo "NoFile", .glo "NoSpace", .free "ValueError", .glo "law"]
def fa : List He.Fa := fa0 ++ (fa1 ++ (fa2 ++ (fa3 ++ (fa4 ++ (fa5 ++ (fa6 ++ (fa7)))))))
def as0 : List Addr := [3, 80, 276, 346, 428, 489, 510, 543, 94, 107, 119, 131, 143, 155, 167, 179, 191, 203, 79, 275, 345, 427, 488, 509, 542, 93, 106, 118, 130, 142, 154, 166, 178, 190, 202, 638, 631, 212, 219, 362]
def as1 : List Addr := [231, 444, 294, 507, 35, 540, 561, 687, 425, 568, 259, 575, 652, 238, 582, 486, 589, 617, 554, 77, 603, 610, 528, 624, 521, 596, 694, 645, 659, 666, 673, 680, 699, 637, 630, 211, 218, 361, 230, 443]
def as2 : List Addr := [293, 506, 34, 539, 560, 686, 424, 567, 258, 574, 651, 237, 581, 485, 588, 616, 553, 76, 602, 609, 527, 623, 520, 595, 693, 644, 658, 665, 672, 679, 698]
def asl : List Addr := as0 ++ as1 ++ as2
/-! ### the head -/
abbrev R : PySem.W.OpenRow := PySem.W.OpenLaw.row PySem.Challenge.rw_paneworks_k60_a_world_made
abbrev hk : PySem.W.Hook := hookA asl fa fn excB
def ob (s : PySem.W.SharedT) : He.AlD × Bool := obsA asl fa fn excB (HandSHeadRun.getT s)
theorem ob_eq (s : PySem.W.SharedT) : ob s = hk.obs s.abs := obsA_eq (HandSHeadRun.getT_eq s)
def names0 : List PySem.Str := ["_wall", "Book", "PaneError", "NoNumber", "NoSpace", "NoFile", "NoPage", "NoRight", "Taken", "Held", "Full", "NoRow"]
def names1 : List PySem.Str := ["is_whole", "number", "Dial", "Files", "Frames", "Shelf", "Store", "holders_of", "room_of", "World", "asked_hand", "told_spaces"]
def names2 : List PySem.Str := ["told_frames", "told_marks", "told_pointer", "told_shelf", "told_holders", "told_book", "told_walks", "told_copies", "told_room", "_law_cell_at", "_law_edged", "_law_bad"]
def names3 : List PySem.Str := ["_law_is", "_law_alone", "_law_world_refused", "_law_book_refused", "_law_walks_refused", "_law_of_none", "_law_is_new"]
def names : List PySem.Str := names0 ++ names1 ++ names2 ++ names3
theorem run (w : World) : HandSHeadRun.RunEq R (PySem.W.view R.prog [54]) hk ob 5725 names w := by
  intro os
  kernel_rfl
end Pn

/-! # P0: owned trees over the abstract heap. -/
namespace Pn
open PySem PySem.Spec PyProof.Rows L2

/-- the kinds of objects that stand at an address -/
inductive Kd where
  | lst | tup | dct (ks : List Key) | obj (C : Addr) (fs : List Str)
/-- a plain tree: what a value stands for, all that hangs on it included -/
inductive T where
  | v (x : V)
  | n (k : Kd) (cs : List T)

def Kd.ho (k : Kd) (dx : Addr) (vs : List V) : HO := match k with
  | .lst => .lst vs
  | .tup => .tup vs
  | .dct ks => .dK (ks.zip vs)
  | .obj C fs => .ins C dx (fs.zip vs)
/-- what of it may change: a tuple never does -/
def Kd.own (k : Kd) (p : Addr) : List Addr := match k with
  | .tup => []
  | _ => [p]

mutual
def Own (H : Hp) : V → T → List Addr → Prop
  | x, .v y, S => x = y ∧ S = []
  | x, .n k cs, S => ∃ p dx vs S', x = V.ref p ∧ H p = some (k.ho dx vs) ∧ OwnL H vs cs S' ∧ S = k.own p ++ S'
def OwnL (H : Hp) : List V → List T → List Addr → Prop
  | vs, [], S => vs = [] ∧ S = []
  | vs, c :: cs, S => ∃ x xs A B, vs = x :: xs ∧ Own H x c A ∧ OwnL H xs cs B ∧ S = A ++ B
end

/-- all that stood outside S stands as it was; what is in S' was in S or is new -/
structure Chg (S S' : List Addr) (H H' : Hp) : Prop where
  keep : ∀ a o, H a = some o → a ∉ S → H' a = some o
  tup : ∀ a xs, H a = some (.tup xs) → H' a = some (.tup xs)
  new : ∀ a, a ∈ S' → a ∈ S ∨ H a = none

def At (H : Hp) (x : V) (t : T) (S : List Addr) : Prop := Own H x t S ∧ S.Nodup

theorem ho_tup_of {k : Kd} {dx : Addr} {vs : List V} {xs : List V} (h : k.ho dx vs = .tup xs) : k = .tup := by
  cases k <;> first | rfl | cases h
theorem own_not_tup {k : Kd} {p a : Addr} (h : a ∈ k.own p) : a = p ∧ k ≠ .tup := by
  cases k <;> simp_all [Kd.own]

mutual
theorem Own.keep {H H' : Hp} : ∀ {t : T} {x : V} {S : List Addr}, Own H x t S → (∀ a o, H a = some o → (a ∈ S ∨ ∃ xs, o = .tup xs) → H' a = some o) → Own H' x t S
  | .v _, _, _, h, _ => by
    simp only [Own] at h ⊢
    exact h
  | .n k cs, x, S, h, kp => by
    simp only [Own] at h ⊢
    obtain ⟨p, dx, vs, S', hx, hp, hl, hS⟩ := h
    refine ⟨p, dx, vs, S', hx, kp p _ hp ?_, OwnL.keep hl (fun a o ha hs => kp a o ha ?_), hS⟩
    · cases k <;> first | exact .inr ⟨vs, rfl⟩ | (left; rw [hS]; simp [Kd.own])
    · rcases hs with hs | hs
      · left; rw [hS]; exact List.mem_append_right _ hs
      · exact .inr hs
theorem OwnL.keep {H H' : Hp} : ∀ {cs : List T} {vs : List V} {S : List Addr}, OwnL H vs cs S → (∀ a o, H a = some o → (a ∈ S ∨ ∃ xs, o = .tup xs) → H' a = some o) → OwnL H' vs cs S
  | [], _, _, h, _ => by
    simp only [OwnL] at h ⊢
    exact h
  | c :: cs, vs, S, h, kp => by
    simp only [OwnL] at h ⊢
    obtain ⟨x, xs, A, B, hv, h1, h2, hS⟩ := h
    refine ⟨x, xs, A, B, hv, Own.keep h1 (fun a o ha hs => kp a o ha ?_), OwnL.keep h2 (fun a o ha hs => kp a o ha ?_), hS⟩
    · rcases hs with hs | hs
      · left; rw [hS]; exact List.mem_append_left _ hs
      · exact .inr hs
    · rcases hs with hs | hs
      · left; rw [hS]; exact List.mem_append_right _ hs
      · exact .inr hs
end

mutual
theorem Own.alloc {H : Hp} : ∀ {t : T} {x : V} {S : List Addr}, Own H x t S → ∀ a, a ∈ S → ∃ o, H a = some o ∧ ∀ xs, o ≠ .tup xs
  | .v _, _, _, h, a, ha => by
    simp only [Own] at h
    rw [h.2] at ha
    cases ha
  | .n k cs, x, S, h, a, ha => by
    simp only [Own] at h
    obtain ⟨p, dx, vs, S', hx, hp, hl, hS⟩ := h
    rw [hS] at ha
    rcases List.mem_append.mp ha with ha | ha
    · obtain ⟨rfl, hk⟩ := own_not_tup ha
      exact ⟨_, hp, fun xs e => hk (ho_tup_of e)⟩
    · exact OwnL.alloc hl a ha
theorem OwnL.alloc {H : Hp} : ∀ {cs : List T} {vs : List V} {S : List Addr}, OwnL H vs cs S → ∀ a, a ∈ S → ∃ o, H a = some o ∧ ∀ xs, o ≠ .tup xs
  | [], _, _, h, a, ha => by
    simp only [OwnL] at h
    rw [h.2] at ha
    cases ha
  | c :: cs, vs, S, h, a, ha => by
    simp only [OwnL] at h
    obtain ⟨x, xs, A, B, hv, h1, h2, hS⟩ := h
    rw [hS] at ha
    rcases List.mem_append.mp ha with ha | ha
    · exact Own.alloc h1 a ha
    · exact OwnL.alloc h2 a ha
end

theorem OwnL.length {H : Hp} : ∀ {cs : List T} {vs : List V} {S : List Addr}, OwnL H vs cs S → vs.length = cs.length
  | [], _, _, h => by
    simp only [OwnL] at h
    rw [h.1]; rfl
  | c :: cs, vs, S, h => by
    simp only [OwnL] at h
    obtain ⟨x, xs, A, B, hv, h1, h2, hS⟩ := h
    rw [hv, List.length_cons, List.length_cons, OwnL.length h2]

theorem OwnL.append {H : Hp} : ∀ {cs : List T} {vs : List V} {S : List Addr} {cs' : List T} {vs' : List V} {S' : List Addr}, OwnL H vs cs S → OwnL H vs' cs' S' → OwnL H (vs ++ vs') (cs ++ cs') (S ++ S')
  | [], _, _, _, _, _, h, h' => by
    simp only [OwnL] at h
    rw [h.1, h.2]; exact h'
  | c :: cs, vs, S, _, _, _, h, h' => by
    simp only [OwnL] at h
    obtain ⟨x, xs, A, B, hv, h1, h2, hS⟩ := h
    rw [hv, hS]
    simp only [List.cons_append, OwnL]
    exact ⟨x, _, A, _, rfl, h1, OwnL.append h2 h', by rw [List.append_assoc]⟩
theorem OwnL.one {H : Hp} {x : V} {c : T} {S : List Addr} (h : Own H x c S) : OwnL H [x] [c] S := by
  simp only [OwnL]
  exact ⟨x, [], S, [], rfl, h, ⟨rfl, rfl⟩, by simp⟩
theorem OwnL.nil {H : Hp} : OwnL H [] [] [] := by simp only [OwnL]; exact ⟨trivial, trivial⟩
theorem OwnL.cons {H : Hp} {x : V} {xs : List V} {c : T} {cs : List T} {A B : List Addr} (h : Own H x c A) (h2 : OwnL H xs cs B) : OwnL H (x :: xs) (c :: cs) (A ++ B) := by
  simp only [OwnL]
  exact ⟨x, xs, A, B, rfl, h, h2, rfl⟩
theorem Own.leaf {H : Hp} {x : V} : Own H x (.v x) [] := by simp only [Own]; exact ⟨trivial, trivial⟩
theorem Own.node {H : Hp} {k : Kd} {p dx : Addr} {vs : List V} {cs : List T} {S : List Addr} (hp : H p = some (k.ho dx vs)) (h : OwnL H vs cs S) : Own H (.ref p) (.n k cs) (k.own p ++ S) := by
  simp only [Own]
  exact ⟨p, dx, vs, S, rfl, hp, h, rfl⟩
theorem Own.of_leaf {H : Hp} {x y : V} {S : List Addr} (h : Own H x (.v y) S) : x = y ∧ S = [] := by simp only [Own] at h; exact h
theorem Own.of_node {H : Hp} {x : V} {k : Kd} {cs : List T} {S : List Addr} (h : Own H x (.n k cs) S) : ∃ p dx vs S', x = V.ref p ∧ H p = some (k.ho dx vs) ∧ OwnL H vs cs S' ∧ S = k.own p ++ S' := by
  simp only [Own] at h; exact h
theorem OwnL.of_nil {H : Hp} {vs : List V} {S : List Addr} (h : OwnL H vs [] S) : vs = [] ∧ S = [] := by simp only [OwnL] at h; exact h
theorem OwnL.of_cons {H : Hp} {vs : List V} {c : T} {cs : List T} {S : List Addr} (h : OwnL H vs (c :: cs) S) : ∃ x xs A B, vs = x :: xs ∧ Own H x c A ∧ OwnL H xs cs B ∧ S = A ++ B := by
  simp only [OwnL] at h; exact h

theorem set_self {α : Type} : ∀ {l : List α} {i : Nat} {x : α}, l[i]? = some x → l.set i x = l
  | [], _, _, _ => rfl
  | a :: r, 0, x, h => by
    have e : a = x := by simpa using h
    rw [← e]; rfl
  | a :: r, i + 1, x, h => by
    show a :: r.set i x = a :: r
    rw [set_self (l := r) (by simpa using h)]
/-- one child in sight; put back, perhaps another one at another value -/
theorem OwnL.focus {H : Hp} : ∀ {cs : List T} {vs : List V} {S : List Addr} {i : Nat} {c : T}, OwnL H vs cs S → cs[i]? = some c →
    ∃ x A Sc B, vs[i]? = some x ∧ S = A ++ Sc ++ B ∧ Own H x c Sc ∧ ∀ (H' : Hp) (x' : V) (c' : T) (Sc' : List Addr),
      (∀ a o, H a = some o → (a ∈ A ∨ a ∈ B ∨ ∃ xs, o = .tup xs) → H' a = some o) → Own H' x' c' Sc' → OwnL H' (vs.set i x') (cs.set i c') (A ++ Sc' ++ B)
  | [], _, _, _, _, _, e => by simp at e
  | c0 :: cs, vs, S, 0, c, h, e => by
    obtain ⟨x, xs, A, B, hv, h1, h2, hS⟩ := h.of_cons
    have e' : c0 = c := by simpa using e
    subst e'
    refine ⟨x, [], A, B, by rw [hv]; rfl, by rw [hS]; rfl, h1, fun H' x' c' Sc' k ho => ?_⟩
    rw [hv]
    exact OwnL.cons ho (h2.keep fun a o ha hs => k a o ha (hs.elim (fun z => .inr (.inl z)) fun z => .inr (.inr z)))
  | c0 :: cs, vs, S, i + 1, c, h, e => by
    obtain ⟨x, xs, A, B, hv, h1, h2, hS⟩ := h.of_cons
    obtain ⟨y, A', Sc, B', hy, hB, ho, k⟩ := OwnL.focus (i := i) h2 (by simpa using e)
    refine ⟨y, A ++ A', Sc, B', by rw [hv]; simpa using hy, by rw [hS, hB]; simp [List.append_assoc], ho, fun H' x' c' Sc' kp ho' => ?_⟩
    rw [hv]
    have q := OwnL.cons (h1.keep (H' := H') fun a o ha hs => kp a o ha (hs.elim (fun z => .inl (List.mem_append_left _ z)) fun z => .inr (.inr z)))
      (k H' x' c' Sc' (fun a o ha hs => kp a o ha (by
        rcases hs with z | z | z
        · exact .inl (List.mem_append_right _ z)
        · exact .inr (.inl z)
        · exact .inr (.inr z))) ho')
    have e3 : A ++ (A' ++ Sc' ++ B') = A ++ A' ++ Sc' ++ B' := by simp [List.append_assoc]
    rw [← e3]
    exact q

theorem Chg.refl {S : List Addr} {H : Hp} : Chg S S H H := ⟨fun _ _ h _ => h, fun _ _ h => h, fun _ h => .inl h⟩
theorem Chg.trans {S S1 S2 : List Addr} {H H1 H2 : Hp} (a : Chg S S1 H H1) (b : Chg S1 S2 H1 H2) : Chg S S2 H H2 where
  keep := fun x o h n => b.keep x o (a.keep x o h n) fun z => by
    rcases a.new x z with q | q
    · exact n q
    · rw [h] at q; cases q
  tup := fun x xs h => b.tup x xs (a.tup x xs h)
  new := fun x z => by
    rcases b.new x z with q | q
    · exact a.new x q
    · cases e : H x with
      | none => exact .inr rfl
      | some o =>
        by_cases hx : x ∈ S
        · exact .inl hx
        · rw [a.keep x o e hx] at q; cases q
/-- a new object beside all -/
theorem Chg.fresh {S : List Addr} {H : Hp} {p : Addr} {o : HO} (hp : H p = none) : Chg S S H (upd H p o) :=
  ⟨fun a o' h _ => by rw [upd_ne (ne_of_none h hp)]; exact h, fun a xs h => by rw [upd_ne (ne_of_none h hp)]; exact h, fun _ h => .inl h⟩
theorem Chg.more {A B S S' : List Addr} {H H' : Hp} (c : Chg S S' H H') : Chg (A ++ S ++ B) (A ++ S' ++ B) H H' where
  keep := fun a o h n => c.keep a o h fun z => n (List.mem_append_left _ (List.mem_append_right _ z))
  tup := c.tup
  new := fun a z => by
    rcases List.mem_append.mp z with z | z
    · rcases List.mem_append.mp z with z | z
      · exact .inl (List.mem_append_left _ (List.mem_append_left _ z))
      · rcases c.new a z with q | q
        · exact .inl (List.mem_append_left _ (List.mem_append_right _ q))
        · exact .inr q
    · exact .inl (List.mem_append_right _ z)
/-- the footprints as sets -/
theorem Chg.sub {S S' Z Z' : List Addr} {H H' : Hp} (c : Chg S S' H H') (h1 : ∀ a, a ∈ S → a ∈ Z) (h2 : ∀ a, a ∈ Z' → a ∈ S' ∨ a ∈ Z) : Chg Z Z' H H' where
  keep := fun a o h n => c.keep a o h fun z => n (h1 a z)
  tup := c.tup
  new := fun a z => by
    rcases h2 a z with q | q
    · exact (c.new a q).imp (h1 a) id
    · exact .inl q
/-- another tree, elsewhere, stands -/
theorem Own.chg {H H' : Hp} {x : V} {t : T} {S S0 S0' : List Addr} (h : Own H x t S) (c : Chg S0 S0' H H') (d : ∀ a, a ∈ S → a ∉ S0) : Own H' x t S :=
  h.keep fun a o ha hs => by
    rcases hs with hs | ⟨xs, rfl⟩
    · exact c.keep a o ha (d a hs)
    · exact c.tup a xs ha
theorem At.chg {H H' : Hp} {x : V} {t : T} {S S0 S0' : List Addr} (h : At H x t S) (c : Chg S0 S0' H H') (d : ∀ a, a ∈ S → a ∉ S0) : At H' x t S := ⟨h.1.chg c d, h.2⟩
/-- .. and stands apart from what is new -/
theorem Chg.apart {H H' : Hp} {x : V} {t : T} {S S0 S0' : List Addr} (h : Own H x t S) (c : Chg S0 S0' H H') (d : ∀ a, a ∈ S → a ∉ S0) : ∀ a, a ∈ S → a ∉ S0' := fun a ha z => by
  rcases c.new a z with q | q
  · exact d a ha q
  · obtain ⟨o, e, _⟩ := h.alloc a ha
    rw [e] at q; cases q

theorem nodup_mid {A S B S' : List Addr} (h : (A ++ S ++ B).Nodup) (h' : S'.Nodup) (n : ∀ a, a ∈ S' → a ∈ S ∨ (a ∉ A ∧ a ∉ B)) : (A ++ S' ++ B).Nodup := by
  rw [List.nodup_append] at h ⊢
  obtain ⟨h1, h2, h3⟩ := h
  rw [List.nodup_append] at h1 ⊢
  obtain ⟨h4, h5, h6⟩ := h1
  refine ⟨⟨h4, h', fun a ha b hb e => ?_⟩, h2, fun a ha b hb e => ?_⟩
  · subst e
    rcases n a hb with q | q
    · exact h6 a ha a q rfl
    · exact q.1 ha
  · subst e
    rcases List.mem_append.mp ha with ha | ha
    · exact h3 a (List.mem_append_left _ ha) a hb rfl
    · rcases n a ha with q | q
      · exact h3 a (List.mem_append_right _ q) a hb rfl
      · exact q.2 hb

/-- a child of an object, changed in its place -/
theorem At.child {H : Hp} {p : Addr} {k : Kd} {cs : List T} {S : List Addr} {i : Nat} {c : T} (h : At H (.ref p) (.n k cs) S) (hc : cs[i]? = some c) :
    ∃ dx vs x Sc, H p = some (k.ho dx vs) ∧ vs.length = cs.length ∧ vs[i]? = some x ∧ At H x c Sc ∧ (∀ a, a ∈ Sc → a ∈ S) ∧ p ∉ Sc ∧
      ∀ (H' : Hp) (c' : T) (Sc' : List Addr), At H' x c' Sc' → Chg Sc Sc' H H' → H' p = some (k.ho dx vs) ∧ ∃ S', At H' (.ref p) (.n k (cs.set i c')) S' ∧ Chg S S' H H' := by
  obtain ⟨ho, nd⟩ := h
  obtain ⟨p', dx, vs, S0, ep, hp, hl, hS⟩ := ho.of_node
  obtain rfl : p = p' := V.ref.inj ep
  obtain ⟨x, A, Sc, B, hx, hS0, hoc, kk⟩ := hl.focus hc
  have hpS : p ∉ Sc := fun z => by
    obtain ⟨o, e, nt⟩ := hoc.alloc p z
    rw [hp] at e
    by_cases hk : k = .tup
    · subst hk
      exact nt vs (Option.some.inj e).symm
    · have : k.own p = [p] := by cases k <;> first | rfl | exact absurd rfl hk
      rw [hS, hS0, this] at nd
      have := (List.nodup_cons.mp nd).1
      exact this (List.mem_append_right _ (List.mem_append_left _ (List.mem_append_right _ z)))
  have ndc : Sc.Nodup := by
    rw [hS, hS0] at nd
    exact (List.nodup_append.mp (List.nodup_append.mp (List.nodup_append.mp nd).2.1).1).2.1
  refine ⟨dx, vs, x, Sc, hp, hl.length, hx, ⟨hoc, ndc⟩, fun a ha => by rw [hS, hS0]; exact List.mem_append_right _ (List.mem_append_left _ (List.mem_append_right _ ha)), hpS, fun H' c' Sc' h' cg => ?_⟩
  have hp' := cg.keep p _ hp hpS
  have hS' : S = (k.own p ++ A) ++ Sc ++ B := by rw [hS, hS0]; simp [List.append_assoc]
  have hd : ∀ a, a ∈ A ∨ a ∈ B → a ∉ Sc := fun a ha z => by
    rw [hS'] at nd
    obtain ⟨n1, n2, n3⟩ := List.nodup_append.mp nd
    rcases ha with ha | ha
    · exact (List.nodup_append.mp n1).2.2 a (List.mem_append_right _ ha) a z rfl
    · exact n3 a (List.mem_append_right _ z) a ha rfl
  have q := kk H' x c' Sc' (fun a o ha hs => by
    rcases hs with z | z | ⟨xs, rfl⟩
    · exact cg.keep a o ha (hd a (.inl z))
    · exact cg.keep a o ha (hd a (.inr z))
    · exact cg.tup a xs ha) h'.1
  have ex : vs.set i x = vs := by
    exact set_self hx
  rw [ex] at q
  refine ⟨hp', (k.own p ++ A) ++ Sc' ++ B, ⟨?_, ?_⟩, ?_⟩
  · have r := Own.node (k := k) hp' q
    have e2 : k.own p ++ (A ++ Sc' ++ B) = k.own p ++ A ++ Sc' ++ B := by simp [List.append_assoc]
    rw [← e2]; exact r
  · rw [hS'] at nd
    refine nodup_mid nd h'.2 fun a ha => ?_
    rcases cg.new a ha with z | z
    · exact .inl z
    · refine .inr ⟨fun w => ?_, fun w => ?_⟩
      · rcases List.mem_append.mp w with w | w
        · obtain ⟨rfl, _⟩ := own_not_tup w
          rw [hp] at z; cases z
        · obtain ⟨o, e, _⟩ := OwnL.alloc hl a (by rw [hS0]; exact List.mem_append_left _ (List.mem_append_left _ w))
          rw [e] at z; cases z
      · obtain ⟨o, e, _⟩ := OwnL.alloc hl a (by rw [hS0]; exact List.mem_append_right _ w)
        rw [e] at z; cases z
  · rw [hS']; exact cg.more
end Pn

/-! # P1: readings of one's own, made of the layer's by weakening. -/
namespace Pn
open PySem PySem.Spec PyProof.Rows L2
abbrev Frag := PySem.W.Frag

/-! ### weaker readings -/
section
variable {X : Cx} {e : Expr} {st : Stmt} {sts : List Stmt}
theorem PEw {t t' : TE} (h : PE X e t) (k : ∀ σ H Q, t' σ H Q → t σ H Q) : PE X e t' := ⟨fun p s σ H Q I q => h.run p s σ H Q I (k _ _ _ q)⟩
theorem PTw {t t' : TT} (h : PT X e t) (k : ∀ σ H Q, t' σ H Q → t σ H Q) : PT X e t' := ⟨fun p s σ H Q I q => h.run p s σ H Q I (k _ _ _ q)⟩
theorem PSw {t t' : TS} (h : PS X st t) (k : ∀ D σ H, t' D σ H → t D σ H) : PS X st t' := ⟨fun p s σ H D I q => h.run p s σ H D I (k _ _ _ q)⟩
theorem PSsw {t t' : TS} (h : PSs X sts t) (k : ∀ D σ H, t' D σ H → t D σ H) : PSs X sts t' := ⟨fun p s σ H D I q => h.run p s σ H D I (k _ _ _ q)⟩
theorem OpRw {f : Value → Value → Sem Value} {r r' : R2} (h : OpR X f r) (k : ∀ x y H Q, r' x y H Q → r x y H Q) : OpR X f r' := fun p s σ H x y v u Q I a b q => h p s σ H x y v u Q I a b (k _ _ _ _ q)
theorem IxRw {r r' : R2} (h : IxR X r) (k : ∀ x y H Q, r' x y H Q → r x y H Q) : IxR X r' := fun a b p s σ H x y v u Q I c d q => h a b p s σ H x y v u Q I c d (k _ _ _ _ q)
theorem CallRw {f : Value} {r r' : List V → Hp → VK → Prop} (h : CallR X f r) (k : ∀ x H Q, r' x H Q → r x H Q) : CallR X f r' := fun p s σ H xs us Q I a q => h p s σ H xs us Q I a (k _ _ _ q)
end

/-! ### fields of an instance, by place -/
theorem zip_lookup : ∀ {ns : List Str} {vs : List V} {i : Nat} {f : Str} {v : V}, ns[i]? = some f → f ∉ ns.take i → vs[i]? = some v → (ns.zip vs).lookup f = some v
  | [], _, _, _, _, h, _, _ => by simp at h
  | n :: ns, [], _, _, _, _, _, h => by simp at h
  | n :: ns, v :: vs, 0, f, w, h, _, h2 => by
    have e : n = f := by simpa using h
    have e2 : v = w := by simpa using h2
    subst e e2
    simp [List.zip, List.lookup]
  | n :: ns, v :: vs, i + 1, f, w, h, h1, h2 => by
    have ne : f ≠ n := fun z => h1 (by rw [z]; simp)
    have q := zip_lookup (ns := ns) (vs := vs) (i := i) (f := f) (v := w) (by simpa using h) (fun z => h1 (by simp; exact .inr z)) (by simpa using h2)
    have b : (f == n) = false := by simpa using ne
    show (match f == n with | true => some v | false => (ns.zip vs).lookup f) = some w
    rw [b]; exact q
theorem zip_none {ns : List Str} {vs : List V} {m : Str} (h : m ∉ ns) : (ns.zip vs).lookup m = none := by
  induction ns generalizing vs with
  | nil => rfl
  | cons n ns ih =>
    cases vs with
    | nil => rfl
    | cons v vs =>
      have b : (m == n) = false := by simpa using fun z : m = n => h (by rw [z]; simp)
      show (match m == n with | true => some v | false => (ns.zip vs).lookup m) = none
      rw [b]; exact ih fun z => h (List.mem_cons_of_mem _ z)
theorem zip_put : ∀ {ns : List Str} {vs : List V} {i : Nat} {f : Str} {v : V}, ns[i]? = some f → f ∉ ns.take i → i < vs.length → putF f v (ns.zip vs) = ns.zip (vs.set i v)
  | [], _, _, _, _, h, _, _ => by simp at h
  | n :: ns, [], _, _, _, _, _, h => by simp at h
  | n :: ns, v :: vs, 0, f, w, h, _, h2 => by
    have e : n = f := by simpa using h
    subst e
    show (if n = n then (n, w) :: ns.zip vs else _) = _
    rw [if_pos rfl]; rfl
  | n :: ns, v :: vs, i + 1, f, w, h, h1, h2 => by
    have ne : ¬ n = f := fun z => h1 (by rw [z]; simp)
    have q := zip_put (ns := ns) (vs := vs) (i := i) (f := f) (v := w) (by simpa using h) (fun z => h1 (by simp; exact .inr z)) (by simpa using h2)
    show (if n = f then (n, w) :: ns.zip vs else (n, v) :: putF f w (ns.zip vs)) = _
    rw [if_neg ne, q]; rfl
theorem zip_app : ∀ {ns : List Str} {vs : List V} {i : Nat} {f : Str} {v : V}, ns[i]? = some f → f ∉ ns.take i → vs.length = i → putF f v (ns.zip vs) = ns.zip (vs ++ [v])
  | [], _, _, _, _, h, _, _ => by simp at h
  | n :: ns, [], i, f, w, h, _, h2 => by
    have e : n = f := by
      have : i = 0 := h2.symm
      subst this
      simpa using h
    subst e; simp [putF, List.zip]
  | n :: ns, v :: vs, 0, f, w, h, _, h2 => by simp at h2
  | n :: ns, v :: vs, i + 1, f, w, h, h1, h2 => by
    have ne : ¬ n = f := fun z => h1 (by rw [z]; simp)
    have q := zip_app (ns := ns) (vs := vs) (i := i) (f := f) (v := w) (by simpa using h) (fun z => h1 (by simp; exact .inr z)) (by simpa using h2)
    show (if n = f then (n, w) :: ns.zip vs else (n, v) :: putF f w (ns.zip vs)) = _
    rw [if_neg ne, q]; rfl
/-- the i-th name is f, and none ahead is -/
def fOk (ns : List Str) (i : Nat) (f : Str) : Bool := decide (ns[i]? = some f) && (decide (f ∉ ns.take i) && decide (ns.length < 1000))
theorem fOk_of {ns : List Str} {i : Nat} {f : Str} (h : fOk ns i f = true) : ns[i]? = some f ∧ f ∉ ns.take i ∧ ns.length < 1000 := by
  unfold fOk at h
  simp only [Bool.and_eq_true, decide_eq_true_eq] at h
  exact h
def mOk (ns : List Str) (m : Str) : Bool := decide (m ∉ ns)
section
variable {X : Cx} {o e value : Expr} {f m : Str} {pos pos' apos p : Pos} {ta tv : TE} {C : Addr} {ns : List Str} {i : Nat}
/-- e.f: the i-th field of an instance of the class at C -/
def tFI (C : Addr) (ns : List Str) (i : Nat) (ta : TE) : TE := fun σ H Q => ta σ H fun x H1 => ∃ a dx vs v, x = V.ref a ∧ H1 a = some (.ins C dx (ns.zip vs)) ∧ vs[i]? = some v ∧ Q v H1
theorem pe_fI (c : Cls X.K C) (n : NoAttr X.K C f) (hf : fOk ns i f = true) (he : PE X e ta) (hb : attributeBase e f X.env (eval e X.env) = eval e X.env := by rfl) :
    PE X (.Attribute e f pos) (tFI C ns i ta) := by
  obtain ⟨h1, h2, _⟩ := fOk_of hf
  refine ⟨fun pins s σ H Q I h => attr_of hb (thn (he.run pins s σ H _ I h) fun u s1 hh => ?_)⟩
  obtain ⟨x, H1, I1, rx, a, dx, vs, v, ex, ea, hv, q⟩ := hh
  subst ex
  obtain rfl : u = Value.ref a := rx
  exact getattr_ok I1 ea c n (zip_lookup h1 h2 hv) fun u' s2 I2 ru => ⟨v, H1, I2, ru, q⟩
/-- o.f = value, where o has all its fields -/
def sFI (C : Addr) (ns : List Str) (i : Nat) (ta tv : TE) : TS := fun D σ H => tv σ H fun y H1 => ta σ H1 fun x H2 => ∃ a dx vs, x = V.ref a ∧ H2 a = some (.ins C dx (ns.zip vs)) ∧ i < vs.length ∧
  D.nx σ (upd H2 a (.ins C dx (ns.zip (vs.set i y))))
/-- o.f = value, where o has the fields ahead of it alone -/
def sFA (C : Addr) (ns : List Str) (i : Nat) (ta tv : TE) : TS := fun D σ H => tv σ H fun y H1 => ta σ H1 fun x H2 => ∃ a dx vs, x = V.ref a ∧ H2 a = some (.ins C dx (ns.zip vs)) ∧ vs.length = i ∧
  D.nx σ (upd H2 a (.ins C dx (ns.zip (vs ++ [y]))))
theorem zip_len {vs : List V} : (ns.zip vs).length ≤ ns.length := by
  rw [List.length_zip]; exact Nat.min_le_left _ _
theorem ps_fI (c : Cls X.K C) (n : NoAttr X.K C f) (hf : fOk ns i f = true) (ho : PE X o ta) (hv : PE X value tv) (hs : swapsWith value (some (.Attribute o f pos')) pos.line X.env = pure false := by rfl) :
    PS X (.Assign [.Attribute o f pos'] value pos) (sFI C ns i ta tv) := by
  obtain ⟨h1, h2, h3⟩ := fOk_of hf
  refine ⟨fun pins s σ H D I h => plainObj_wpAny_Assign_Attribute (thn (hv.run pins s σ H _ I h) fun u s1 hh => ?_) hs⟩
  obtain ⟨y, H1, I1, ry, q⟩ := hh
  refine thn (ho.run pins s1 σ H1 _ I1 q) fun ov s2 hh => ?_
  obtain ⟨x, H2, I2, rx, a, dx, vs, ex, ea, hl, q2⟩ := hh
  subst ex
  obtain rfl : ov = Value.ref a := rx
  rw [← zip_put (v := y) h1 h2 hl] at q2
  exact setattr_ok I2 ea c n (Nat.lt_of_le_of_lt zip_len h3) ry fun s3 I3 => ⟨σ, _, I3, q2⟩
theorem ps_fA (c : Cls X.K C) (n : NoAttr X.K C f) (hf : fOk ns i f = true) (ho : PE X o ta) (hv : PE X value tv) (hs : swapsWith value (some (.Attribute o f pos')) pos.line X.env = pure false := by rfl) :
    PS X (.Assign [.Attribute o f pos'] value pos) (sFA C ns i ta tv) := by
  obtain ⟨h1, h2, h3⟩ := fOk_of hf
  refine ⟨fun pins s σ H D I h => plainObj_wpAny_Assign_Attribute (thn (hv.run pins s σ H _ I h) fun u s1 hh => ?_) hs⟩
  obtain ⟨y, H1, I1, ry, q⟩ := hh
  refine thn (ho.run pins s1 σ H1 _ I1 q) fun ov s2 hh => ?_
  obtain ⟨x, H2, I2, rx, a, dx, vs, ex, ea, hl, q2⟩ := hh
  subst ex
  obtain rfl : ov = Value.ref a := rx
  rw [← zip_app (v := y) h1 h2 hl] at q2
  exact setattr_ok I2 ea c n (Nat.lt_of_le_of_lt zip_len h3) ry fun s3 I3 => ⟨σ, _, I3, q2⟩
end

/-! ### defs, methods, makings; W: what is wished of what they raise, at the slots -/
def W0 : WX := fun _ _ _ _ => False
abbrev WR (E : XK) : WX := fun cls d _ H => E cls d H
abbrev Defn := Str × Option Str
/-- the def named p keeps the promise sp -/
def Okd (P : Program) (w : World) (K : Frag) (mg : Str → Option Value) (base : Heap) (k : Nat) (p : Defn) (ps : List Str) (sp : Sp) : Prop :=
  ∃ fd, FnOk P w K mg base (L2.CX P w) k (He.fAd K p) fd ps sp ∧ Binds K fd ps [] ∧ PySem.W.keepIn K (.ref (He.fAd K p)) = true ∧ ∃ oc od osl, K.lookup (He.fAd K p) = some ⟨oc, od, .func fd, osl⟩
section
variable {X : Cx} {k j : Nat} {x m cn : Str} {ps : List Str} {sp : Sp} {W : WX} {e o : Expr} {es : List Expr} {pos apos p : Pos} {ta : TE} {t : TA} {ns : List Str}
theorem hx0 : ∀ σ, PassesAt (L2.CX X.prog X.w) X σ (WE W0 σ) := fun σ pins H s u s' I c => passL pins σ H s u s' I c
theorem pe_cD (G : Okd X.prog X.w X.K X.mg X.base k (x, none) ps sp) (hr : Room k X.A) (hx : ∀ σ, PassesAt (L2.CX X.prog X.w) X σ (WE W σ)) (hm : X.mg x = some (.ref (He.ga X.K x))) (ha : PA X (e :: es) t) (hg : Gl X x := by rfl)
    (hdb : (x == ("__debug__" : Str)) = false := by decide) (he : starEach (e :: es) X.env = (false, eval e X.env) :: starEach es X.env := by rfl) (hpl : (backTo pos (starEach es X.env)).any (·.1) = false := by rfl) :
    PE X (.Call (.Name x p) (e :: es) [] pos) (tCallS sp (WE W) t) := by
  obtain ⟨fd, F, b, kp, _⟩ := G
  exact pe_callS F hr hg hm kp b hx ha hdb he hpl
theorem pe_cD0 (G : Okd X.prog X.w X.K X.mg X.base k (x, none) ps sp) (hr : Room k X.A) (hx : ∀ σ, PassesAt (L2.CX X.prog X.w) X σ (WE W σ)) (hm : X.mg x = some (.ref (He.ga X.K x))) (hg : Gl X x := by rfl)
    (hdb : (x == ("__debug__" : Str)) = false := by decide) : PE X (.Call (.Name x p) [] [] pos) (tCallS sp (WE W) tNil) := by
  obtain ⟨fd, F, b, kp, _⟩ := G
  refine ⟨fun pins s σ H Q I h => wpAny_Call_Name_kw (ld_glob I hg hm ?_ hdb)⟩
  exact PySem.W.callWith_K0 I.kIn kp (run_fnS (us := []) (vs := []) F hr b (hx σ) I .nil h)
/-- o.m(..) -/
def tMI (C : Addr) (ns : List Str) (sp : Sp) (W : WX) (ta : TE) (t : TA) : TE := fun σ H Q => ta σ H fun x H1 => ∃ a dx vs, x = V.ref a ∧ H1 a = some (.ins C dx (ns.zip vs)) ∧ t σ H1 fun us H2 => sp (x :: us) H2 Q (WE W σ)
theorem pe_mD {pl : Sem Bool} (c : Cls X.K (He.ga X.K cn)) (hm : Meth X.K (He.ga X.K cn) m (He.ma X.K (He.ga X.K cn) m)) (G : Okd X.prog X.w X.K X.mg X.base k (cn, some m) ps sp) (hr : Room k X.A)
    (hx : ∀ σ, PassesAt (L2.CX X.prog X.w) X σ (WE W σ)) (hn : mOk ns m = true) (ho : PE X o ta) (ha : PA X (e :: es) t)
    (hst : starEach (e :: es) X.env = (false, eval e X.env) :: starEach es X.env := by rfl) (hpl : (backTo pos (starEach es X.env)).any (·.1) = false := by rfl)
    (ht : eval (.Call (.Attribute o m apos) (e :: es) [] pos) X.env = (do
      let ov ← eval o X.env
      standAt apos.atName
      let (g, first) ← holding [ov] (getMethod ov m pl)
      callWith pos g first (backTo pos (starEach (e :: es) X.env)) (backToKw pos (keywordEach [] X.env))) := by rfl) :
    PE X (.Call (.Attribute o m apos) (e :: es) [] pos) (tMI (He.ga X.K cn) ns sp W ta t) := by
  obtain ⟨fd, F, b, kp, _⟩ := G
  refine ⟨fun pins s σ H Q I h => PySem.W.methodCall_KW (pl := pl) (thn (ho.run pins s σ H _ I h) fun u s1 hh => ?_) ht⟩
  obtain ⟨x, H1, I1, rx, a, dx, vs, ex, ea, q⟩ := hh
  subst ex
  obtain rfl : u = Value.ref a := rx
  refine getmeth_ok I1 ea c hm (zip_none (of_decide_eq_true hn)) ?_
  refine PySem.W.callWith_K (first := [.ref a]) (h₀ := X.base) I.ok.mod.kin kp (thn (ha.run pos pins s1 σ H1 _ I1 q) fun us s2 hh => ?_) hst hpl
  obtain ⟨vs, H2, I2, r, q2⟩ := hh
  exact ⟨I2.kIn, run_fnS (us := .ref a :: us) (vs := .ref a :: vs) F hr b (hx σ) I2 (.cons rfl r) q2⟩
theorem pe_mD0 {pl : Sem Bool} (c : Cls X.K (He.ga X.K cn)) (hm : Meth X.K (He.ga X.K cn) m (He.ma X.K (He.ga X.K cn) m)) (G : Okd X.prog X.w X.K X.mg X.base k (cn, some m) ps sp) (hr : Room k X.A)
    (hx : ∀ σ, PassesAt (L2.CX X.prog X.w) X σ (WE W σ)) (hn : mOk ns m = true) (ho : PE X o ta)
    (ht : eval (.Call (.Attribute o m apos) [] [] pos) X.env = (do
      let ov ← eval o X.env
      standAt apos.atName
      let (g, first) ← holding [ov] (getMethod ov m pl)
      callWith pos g first (backTo pos (starEach [] X.env)) (backToKw pos (keywordEach [] X.env))) := by rfl) :
    PE X (.Call (.Attribute o m apos) [] [] pos) (tMI (He.ga X.K cn) ns sp W ta tNil) := by
  obtain ⟨fd, F, b, kp, _⟩ := G
  refine ⟨fun pins s σ H Q I h => PySem.W.methodCall_KW (pl := pl) (thn (ho.run pins s σ H _ I h) fun u s1 hh => ?_) ht⟩
  obtain ⟨x, H1, I1, rx, a, dx, vs, ex, ea, q⟩ := hh
  subst ex
  obtain rfl : u = Value.ref a := rx
  refine getmeth_ok I1 ea c hm (zip_none (of_decide_eq_true hn)) ?_
  exact PySem.W.callWith_K0 (first := [.ref a]) I1.kIn kp (run_fnS (us := [.ref a]) (vs := [.ref a]) F hr b (hx σ) I1 (.cons rfl .nil) q)
/-- C(..) -/
def tMk (C : Addr) (sp : Sp) (W : WX) (t : TA) : TE := fun σ H Q => t σ H fun us H1 => ∀ x dx, H1 x = none → H1 dx = none → dx ≠ x →
  sp (.ref x :: us) (upd (upd H1 dx (.own x)) x (.ins C dx [])) (fun v H2 => v = .non ∧ Q (.ref x) H2) (WE W σ)
theorem run_mkS {pins : List (Addr × Obj)} {σ : L2.St} {H : Hp} {s : Shared} {Q : VK} {us : List Value} {vs : List V} {C f : Addr} {fd : FuncData} {E : XK} (M : Mk X.K C f) (F : FnOk X.prog X.w X.K X.mg X.base (L2.CX X.prog X.w) k f fd ps sp)
    (hr : Room (k + 1) X.A) (hb : Binds X.K fd ps []) (hx : PassesAt (L2.CX X.prog X.w) X σ E) (I : Inv X pins σ H s) (r : Vals vs us)
    (h : ∀ x dx, H x = none → H dx = none → dx ≠ x → sp (.ref x :: vs) (upd (upd H dx (.own x)) x (.ins C dx [])) (fun v H2 => v = .non ∧ Q (.ref x) H2) E) :
    wpAny (model X.prog X.w) X.A (call (.ref C) us) (EP X pins σ Q) X.xe s := by
  have hq := h (s.heap.objs.size + 1) s.heap.objs.size (I.hok.fresh (Nat.le_succ _)) (I.hok.fresh (Nat.le_refl _)) (Nat.ne_of_lt (Nat.lt_succ_self _))
  have J := Inv.made (C := C) I
  have r2 : Vals (V.ref (s.heap.objs.size + 1) :: vs) (Value.ref (s.heap.objs.size + 1) :: us) := .cons rfl r
  have hl : (Value.ref (s.heap.objs.size + 1) :: us).length = ps.length := r2.length.symm.trans (F.len _ _ _ _ hq)
  have bd := hb _ (Value.ref (s.heap.objs.size + 1) :: us) J.kIn (by rw [List.append_nil]; exact hl)
  rw [List.append_nil] at bd
  refine wpAny_call (make_map (f := f) I.kIn M.makes M.init (beq_iff_eq.mp M.fn) (codeAny_mono (F.run _ X.stack _ _ ⟨Value.ref (s.heap.objs.size + 1) :: us, []⟩ _ _ _ E (hr.make C us []) (J.env0.make C us []) bd r2 hq) fun r s' hq' => ?_))
  match r, hq' with
  | .error u, hq' => exact hx pins _ _ u s' J hq'
  | .ok (.ret u), hq' =>
    obtain ⟨v, H', J2, rv, ev, q3⟩ := J.after hq'
    rw [ev] at rv
    exact ⟨rv, ⟨V.ref (s.heap.objs.size + 1), H', J2, rfl, q3⟩⟩
  | .ok .next, hq' => exact False.elim hq'
  | .ok .brk, hq' => exact False.elim hq'
  | .ok .cont, hq' => exact False.elim hq'
theorem pe_kD (M : Mk X.K (He.ga X.K x) (He.ma X.K (He.ga X.K x) "__init__")) (G : Okd X.prog X.w X.K X.mg X.base k (x, some "__init__") ps sp) (hr : Room (k + 1) X.A) (hx : ∀ σ, PassesAt (L2.CX X.prog X.w) X σ (WE W σ))
    (hm : X.mg x = some (.ref (He.ga X.K x))) (ha : PA X (e :: es) t) (hg : Gl X x := by rfl)
    (hdb : (x == ("__debug__" : Str)) = false := by decide) (he : starEach (e :: es) X.env = (false, eval e X.env) :: starEach es X.env := by rfl) (hpl : (backTo pos (starEach es X.env)).any (·.1) = false := by rfl) :
    PE X (.Call (.Name x p) (e :: es) [] pos) (tMk (He.ga X.K x) sp W t) := by
  obtain ⟨fd, F, b, kp, _⟩ := G
  refine ⟨fun pins s σ H Q I h => wpAny_Call_Name_kw (ld_glob I hg hm ?_ hdb)⟩
  refine PySem.W.callWith_K (h₀ := X.base) I.ok.mod.kin M.kp (thn (ha.run pos pins s σ H _ I h) fun us s1 hh => ?_) he hpl
  obtain ⟨vs, H1, I1, r, q⟩ := hh
  exact ⟨I1.kIn, run_mkS M F hr b (hx σ) I1 r q⟩
theorem pe_kD0 (M : Mk X.K (He.ga X.K x) (He.ma X.K (He.ga X.K x) "__init__")) (G : Okd X.prog X.w X.K X.mg X.base k (x, some "__init__") ps sp) (hr : Room (k + 1) X.A) (hx : ∀ σ, PassesAt (L2.CX X.prog X.w) X σ (WE W σ))
    (hm : X.mg x = some (.ref (He.ga X.K x))) (hg : Gl X x := by rfl) (hdb : (x == ("__debug__" : Str)) = false := by decide) : PE X (.Call (.Name x p) [] [] pos) (tMk (He.ga X.K x) sp W tNil) := by
  obtain ⟨fd, F, b, kp, _⟩ := G
  refine ⟨fun pins s σ H Q I h => wpAny_Call_Name_kw (ld_glob I hg hm ?_ hdb)⟩
  exact PySem.W.callWith_K0 I.kIn M.kp (run_mkS (us := []) (vs := []) M F hr b (hx σ) I .nil h)
end

/-! ### lists and tuples by place; kinds of values -/
def rL : R2 := fun x y H Q => ∃ p xs v, ∃ j : Nat, x = V.ref p ∧ y = V.int j ∧ H p = some (.lst xs) ∧ xs[j]? = some v ∧ Q v H
def rT : R2 := fun x y H Q => ∃ p xs v, ∃ j : Nat, x = V.ref p ∧ y = V.int j ∧ H p = some (.tup xs) ∧ xs[j]? = some v ∧ Q v H
section
variable {X : Cx}
theorem ix_L : IxR X rL := IxRw ix_list fun x y H Q h => by
  obtain ⟨p, xs, v, j, e1, e2, h1, h2, q⟩ := h
  exact ⟨p, xs, j, v, e1, e2, SqL.of h1, atI_nat h2, q⟩
theorem ix_T : IxR X rT := IxRw ix_tup fun x y H Q h => by
  obtain ⟨p, xs, v, j, e1, e2, h1, h2, q⟩ := h
  exact ⟨p, xs, j, v, e1, e2, SqT.of h1, atI_nat h2, q⟩
end
/-- the last one -/
def tLastL (te : TE) : TE := fun σ H Q => te σ H fun x H1 => ∃ p xs v, x = V.ref p ∧ H1 p = some (.lst xs) ∧ xs[xs.length - 1]? = some v ∧ Q v H1
def tyN : V → Hp → Option String
  | .non, _ => some "NoneType"
  | .bl _, _ => some "bool"
  | .int _, _ => some "int"
  | .str _, _ => some "str"
  | .ref a, H => match H a with
    | some (.lst _) => some "list"
    | some (.tup _) => some "tuple"
    | some (.dK _) => some "dict"
    | _ => none
  | _, _ => none
theorem tyN_ok {K : Frag} {H : Hp} {x : V} {n : String} (h : tyN x H = some n) : TyX K H x (.type n) := by
  cases x with
  | non => cases h; exact .base .non
  | bl b => cases h; exact .base (.bl b)
  | int i => cases h; exact .base (.int i)
  | str z => cases h; exact .base (.str z)
  | byt _ => cases h
  | flt _ => cases h
  | ty _ => cases h
  | ref a =>
    have h2 : (match H a with | some (.lst _) => some "list" | some (.tup _) => some "tuple" | some (.dK _) => some "dict" | _ => none) = some n := h
    cases e : H a with
    | none => rw [e] at h2; cases h2
    | some o =>
      rw [e] at h2
      have h := h2
      cases o <;> first | (cases h; done) | (cases h; exact .base (.lst e)) | (cases h; exact .base (.tup e)) | (cases h; exact .base (.dK e))
/-- isinstance(e, n), by values -/
def rIs (n : String) : List V → Hp → VK → Prop := fun xs H Q => ∃ x m b, xs = [x, V.ty n] ∧ tyN x H = some m ∧ kitB m n = some b ∧ Q (.bl b) H
theorem call_is {X : Cx} {n : String} : CallR X (.builtin "isinstance") (rIs n) := CallRw call_isi fun xs H Q h => by
  obtain ⟨x, m, b, rfl, h1, h2, q⟩ := h
  exact ⟨x, .ty n, .type m, .type n, b, rfl, .ty n, tyN_ok h1, kit_ty h2, q⟩
/-- len of a list or a tuple that is tracked -/
def rLn : List V → Hp → VK → Prop := fun xs H Q => ∃ p ys, xs = [V.ref p] ∧ (H p = some (.lst ys) ∨ H p = some (.tup ys)) ∧ Q (.int (ys.length : Nat)) H
theorem call_ln {X : Cx} : CallR X (.builtin "len") rLn := CallRw call_len_seq fun xs H Q h => by
  obtain ⟨p, ys, rfl, h1, q⟩ := h
  refine ⟨p, ys, rfl, ?_, q⟩
  rcases h1 with h1 | h1
  · exact .inl (SqL.of h1)
  · exact .inr (SqT.of h1)
/-- list(xs) of a list or a tuple that is tracked -/
def rLs : List V → Hp → VK → Prop := fun xs H Q => ∃ p ys, xs = [V.ref p] ∧ (H p = some (.lst ys) ∨ H p = some (.tup ys)) ∧ ∀ l, H l = none → Q (.ref l) (upd H l (.lst ys))
theorem call_ls {X : Cx} : CallR X (.type "list") rLs := CallRw call_list_of fun xs H Q h => by
  obtain ⟨p, ys, rfl, h1, q⟩ := h
  refine ⟨p, ys, rfl, ?_, q⟩
  rcases h1 with h1 | h1
  · exact .inl (SqL.of h1)
  · exact .inr (SqT.of h1)
/-- is, is not of None, True, False -/
def imm : V → Bool
  | .non => true
  | .bl _ => true
  | _ => false
end Pn

namespace Pn
open PySem PySem.Spec PyProof.Rows L2
/-! ### names for the layer's readings -/
abbrev r_add : R2 := rI0 fun i j => .int (i + j)
abbrev r_sub : R2 := rI0 fun i j => .int (i - j)
abbrev r_mul : R2 := rI CMul fun i j => .int (i * j)
abbrev r_fdiv : R2 := rI CDiv fun i j => .int (i / j)
abbrev r_mod : R2 := rI (fun _ j => 0 < j) fun i j => .int (i % j)
abbrev r_pow : R2 := rI CPow fun i j => .int (i ^ j.toNat)
abbrev r_lt : R2 := rI0 fun i j => .bl (decide (i < j))
abbrev r_le : R2 := rI0 fun i j => .bl (decide (i ≤ j))
abbrev r_gt : R2 := rI0 fun i j => .bl (decide (j < i))
abbrev r_ge : R2 := rI0 fun i j => .bl (decide (j ≤ i))
abbrev r_isN : R2 := fun x y H Q => y = .non ∧ Q (.bl (decide (x = .non))) H
abbrev r_notN : R2 := fun x y H Q => y = .non ∧ Q (.bl (!decide (x = .non))) H
abbrev r_neg : V → Hp → VK → Prop := rU fun i => .int (-i)
abbrev r_max : List V → Hp → VK → Prop := fun xs H Q => ∃ i j, xs = [.int i, .int j] ∧ Q (.int (if j > i then j else i)) H
abbrev r_min : List V → Hp → VK → Prop := fun xs H Q => ∃ i j, xs = [.int i, .int j] ∧ Q (.int (if j < i then j else i)) H
abbrev r_lenS : List V → Hp → VK → Prop := fun xs H Q => ∃ z, xs = [.str z] ∧ z.length ≤ sizeLine ∧ Q (.int z.length) H
abbrev r_strI : List V → Hp → VK → Prop := fun xs H Q => ∃ i, xs = [.int i] ∧ i.natAbs.log2 < 1920 ∧ Q (.str (toString i)) H
/-- len(d) -/
def rLnD : List V → Hp → VK → Prop := fun xs H Q => ∃ p kvs, xs = [V.ref p] ∧ H p = some (.dK kvs) ∧ Q (.int (kvs.length : Nat)) H
/-- raise x("..") -/
def tRaise (C : Addr) (W : WX) : TS := fun _ σ H => W (.ref C) none σ H
structure ExD (K : Frag) (mg : Str → Option Value) (x : Str) : Prop where
  g : mg x = some (.ref (He.ga K x))
  ei : PySem.W.excIn K (He.ga K x) He.veBase "ValueError.__new__" = true
  k : PySem.W.keepIn K (.ref (He.ga K x)) = true
  b : PySem.W.subIn K (.ref (He.ga K x)) (.type "BaseException") = some true
  t : PySem.W.typeIn K (.ref (He.ga K x)) = some (.type "type")
section
variable {X : Cx} {W : WX} {x m : Str} {j : Nat} {p p2 pos pos2 : Pos}
theorem ps_raiseD (hc : X.calm = true) (tk : Takes X W) (F : ExD X.K X.mg x) (hg : Gl X x := by rfl) (hd : (x == ("__debug__" : Str)) = false := by decide) :
    PS X (.Raise (some (.Call (.Name x p) [.Constant (.str m) j p2] [] pos)) none pos2) (tRaise (He.ga X.K x) W) :=
  ps_raise hc tk (pmk_own PySem.F.excBase_ValueError F.ei F.g F.k (raises_own F.b F.t) hg hd)
end
/-! ### a def's proof -/
section
variable {P : Program} {w : World} {K : Frag} {mg : Str → Option Value} {base : Heap}
theorem okd_R {d : He.DefD} {N ps : List Str} {k : Nat} {sp : Sp} (F : ∃ fd, FunD K d.name d.qual d.params d.body d.scope (d.dvs K) (d.kws K) (He.fAd K d.at_) fd) (hd : d.dfl = []) (S : FnScope N ps d.scope)
    (hb : ∀ (kV doc pm : Value) (an : Option Addr) (cdv ct : Value) (us : List Value), us.length = ps.length → bindArgs (PySem.W.fnOf d.name d.qual d.params d.body d.scope .none kV doc pm an cdv ct) ⟨us, []⟩ = pure (ps.zip us))
    (len : ∀ vs H Q E, sp vs H Q E → vs.length = ps.length) (t : XK → TS)
    (hder : ∀ (cdv : Value) (A : Around) (outer : List Env) (s : Shared) (H : Hp) (E : XK), Room k (A.deeper (envOfC d.qual d.scope s.heap.objs.size (He.fAd K d.at_) cdv)) → 
      PSs (cxOf (L2.CX P w) P w K mg base N d.qual d.scope (He.fAd K d.at_) cdv A outer s H E) d.body (t E))
    (hpu : ∀ vs H Q E, sp vs H Q E → t E { nx := fun _ H' => Q .non H', rt := Q } (start N vs) H) : Okd P w K mg base (k + 1) d.at_ ps sp := by
  obtain ⟨fd, F⟩ := F
  refine ⟨fd, F.ok S len fun cdv A outer s H vs Q E hr h => ⟨t E, hder cdv A outer s H E hr, hpu vs H Q E h⟩, ?_, F.kp, by
    obtain ⟨oc, od, _, _, _, _, _, _, _, osl, _, lk, _⟩ := F.ex
    exact ⟨oc, od, osl, lk⟩⟩
  have e : d.dvs K = [] := by unfold He.DefD.dvs; rw [hd]; rfl
  rw [e] at F
  exact F.bindsN hb
/-- .. that raises nothing -/
theorem okd_N {d : He.DefD} {N ps : List Str} {k : Nat} {sp : Sp} (F : ∃ fd, FunD K d.name d.qual d.params d.body d.scope (d.dvs K) (d.kws K) (He.fAd K d.at_) fd) (hd : d.dfl = []) (S : FnScope N ps d.scope)
    (hb : ∀ (kV doc pm : Value) (an : Option Addr) (cdv ct : Value) (us : List Value), us.length = ps.length → bindArgs (PySem.W.fnOf d.name d.qual d.params d.body d.scope .none kV doc pm an cdv ct) ⟨us, []⟩ = pure (ps.zip us))
    (len : ∀ vs H Q E, sp vs H Q E → vs.length = ps.length) (t : TS)
    (hder : ∀ (cdv : Value) (A : Around) (outer : List Env) (s : Shared) (H : Hp) (E : XK), Room k (A.deeper (envOfC d.qual d.scope s.heap.objs.size (He.fAd K d.at_) cdv)) → 
      PSs (cxOf (L2.CX P w) P w K mg base N d.qual d.scope (He.fAd K d.at_) cdv A outer s H E).nox d.body t)
    (hpu : ∀ vs H Q E, sp vs H Q E → t { nx := fun _ H' => Q .non H', rt := Q } (start N vs) H) : Okd P w K mg base (k + 1) d.at_ ps sp :=
  okd_R F hd S hb len (fun _ => t) (fun cdv A outer s H E hr => (hder cdv A outer s H E hr).nox) hpu
theorem Okd.mono {j k : Nat} {p : Defn} {ps : List Str} {sp : Sp} (G : Okd P w K mg base j p ps sp) (h : j ≤ k) : Okd P w K mg base k p ps sp := by
  obtain ⟨fd, F, b, kp, q⟩ := G
  exact ⟨fd, F.mono h, b, kp, q⟩
end
end Pn

/-! # P2: nodes with their values in sight; the program's data. -/
namespace Pn
open PySem PySem.Spec PyProof.Rows L2

/-- a node whose values are in sight -/
structure AtN (H : Hp) (p : Addr) (k : Kd) (dx : Addr) (vs : List V) (cs : List T) (S : List Addr) : Prop where
  hp : H p = some (k.ho dx vs)
  own : ∃ S', OwnL H vs cs S' ∧ S = k.own p ++ S'
  nd : S.Nodup
theorem At.open {H : Hp} {x : V} {k : Kd} {cs : List T} {S : List Addr} (h : At H x (.n k cs) S) : ∃ p dx vs, x = .ref p ∧ AtN H p k dx vs cs S := by
  obtain ⟨p, dx, vs, S', e, hp, hl, hS⟩ := h.1.of_node
  exact ⟨p, dx, vs, e, hp, ⟨S', hl, hS⟩, h.2⟩
theorem At.openR {H : Hp} {p : Addr} {k : Kd} {cs : List T} {S : List Addr} (h : At H (.ref p) (.n k cs) S) : ∃ dx vs, AtN H p k dx vs cs S := by
  obtain ⟨q, dx, vs, e, a⟩ := h.open
  obtain rfl : p = q := V.ref.inj e
  exact ⟨dx, vs, a⟩
theorem AtN.at {H : Hp} {p dx : Addr} {k : Kd} {vs : List V} {cs : List T} {S : List Addr} (h : AtN H p k dx vs cs S) : At H (.ref p) (.n k cs) S := by
  obtain ⟨S', hl, hS⟩ := h.own
  rw [hS]
  exact ⟨Own.node h.hp hl, hS ▸ h.nd⟩
theorem AtN.len {H : Hp} {p dx : Addr} {k : Kd} {vs : List V} {cs : List T} {S : List Addr} (h : AtN H p k dx vs cs S) : vs.length = cs.length := by
  obtain ⟨S', hl, _⟩ := h.own
  exact hl.length
theorem own_self {k : Kd} {p : Addr} (h : k ≠ .tup) : k.own p = [p] := by
  cases k <;> first | rfl | exact absurd rfl h
/-- the i-th child, in its place -/
theorem AtN.child {H : Hp} {p dx : Addr} {k : Kd} {vs : List V} {cs : List T} {S : List Addr} (h : AtN H p k dx vs cs S) (i : Nat) {c : T} {x : V} (hc : cs[i]? = some c) (hv : vs[i]? = some x) :
    ∃ Sc, At H x c Sc ∧ (∀ a, a ∈ Sc → a ∈ S) ∧ p ∉ Sc ∧
      ∀ (H' : Hp) (c' : T) (Sc' : List Addr), At H' x c' Sc' → Chg Sc Sc' H H' → ∃ S', AtN H' p k dx vs (cs.set i c') S' ∧ Chg S S' H H' := by
  obtain ⟨hp, ⟨S0, hl, hS⟩, nd⟩ := h
  obtain ⟨y, A, Sc, B, hy, hS0, hoc, kk⟩ := hl.focus hc
  have ey : y = x := Option.some.inj (hy.symm.trans hv)
  subst ey
  have hpS : p ∉ Sc := fun z => by
    obtain ⟨o, e, nt⟩ := hoc.alloc p z
    rw [hp] at e
    by_cases hk : k = .tup
    · subst hk
      exact nt vs (Option.some.inj e).symm
    · rw [hS, hS0, own_self hk] at nd
      exact (List.nodup_cons.mp nd).1 (List.mem_append_right _ (List.mem_append_left _ (List.mem_append_right _ z)))
  have hS' : S = (k.own p ++ A) ++ Sc ++ B := by rw [hS, hS0]; simp [List.append_assoc]
  have ndc : Sc.Nodup := by
    rw [hS'] at nd
    exact (List.nodup_append.mp (List.nodup_append.mp nd).1).2.1
  refine ⟨Sc, ⟨hoc, ndc⟩, fun a ha => by rw [hS']; exact List.mem_append_left _ (List.mem_append_right _ ha), hpS, fun H' c' Sc' h' cg => ?_⟩
  have hp' := cg.keep p _ hp hpS
  have hd : ∀ a, a ∈ A ∨ a ∈ B → a ∉ Sc := fun a ha z => by
    rw [hS'] at nd
    obtain ⟨n1, n2, n3⟩ := List.nodup_append.mp nd
    rcases ha with ha | ha
    · exact (List.nodup_append.mp n1).2.2 a (List.mem_append_right _ ha) a z rfl
    · exact n3 a (List.mem_append_right _ z) a ha rfl
  have q := kk H' y c' Sc' (fun a o ha hs => by
    rcases hs with z | z | ⟨xs, rfl⟩
    · exact cg.keep a o ha (hd a (.inl z))
    · exact cg.keep a o ha (hd a (.inr z))
    · exact cg.tup a xs ha) h'.1
  rw [set_self hv] at q
  refine ⟨(k.own p ++ A) ++ Sc' ++ B, ⟨hp', ⟨A ++ Sc' ++ B, q, by simp [List.append_assoc]⟩, ?_⟩, ?_⟩
  · rw [hS'] at nd
    refine nodup_mid nd h'.2 fun a ha => ?_
    rcases cg.new a ha with z | z
    · exact .inl z
    · refine .inr ⟨fun w => ?_, fun w => ?_⟩
      · rcases List.mem_append.mp w with w | w
        · obtain ⟨rfl, _⟩ := own_not_tup w
          rw [hp] at z; cases z
        · obtain ⟨o, e, _⟩ := OwnL.alloc hl a (by rw [hS0]; exact List.mem_append_left _ (List.mem_append_left _ w))
          rw [e] at z; cases z
      · obtain ⟨o, e, _⟩ := OwnL.alloc hl a (by rw [hS0]; exact List.mem_append_right _ w)
        rw [e] at z; cases z
  · rw [hS']; exact cg.more
/-- a new value at the i-th place, a new child with it; the rest stands -/
theorem AtN.put {H H' : Hp} {p dx : Addr} {k : Kd} {vs : List V} {cs : List T} {S : List Addr} (h : AtN H p k dx vs cs S) (hk : k ≠ .tup) (i : Nat) {c' : T} {x' : V} {Sc' : List Addr} (hi : i < cs.length)
    (hp' : H' p = some (k.ho dx (vs.set i x'))) (keep : ∀ a o, H a = some o → a ≠ p → H' a = some o) (h' : At H' x' c' Sc') (n : ∀ a, a ∈ Sc' → a ∉ S) :
    ∃ S', AtN H' p k dx (vs.set i x') (cs.set i c') S' ∧ (∀ a, a ∈ S' → a ∈ S ∨ a ∈ Sc') := by
  obtain ⟨hp, ⟨S0, hl, hS⟩, nd⟩ := h
  obtain ⟨y, A, Sc, B, hy, hS0, hoc, kk⟩ := hl.focus (List.getElem?_eq_getElem hi)
  have hS' : S = (k.own p ++ A) ++ Sc ++ B := by rw [hS, hS0]; simp [List.append_assoc]
  have pn : ∀ a, a ∈ A ∨ a ∈ B → a ≠ p := fun a ha z => by
    rw [hS, hS0, own_self hk] at nd
    subst z
    refine (List.nodup_cons.mp nd).1 ?_
    rcases ha with ha | ha
    · exact List.mem_append_right _ (List.mem_append_left _ (List.mem_append_left _ ha))
    · exact List.mem_append_right _ (List.mem_append_right _ ha)
  have q := kk H' x' c' Sc' (fun a o ha hs => by
    rcases hs with z | z | ⟨xs, rfl⟩
    · exact keep a o ha (pn a (.inl z))
    · exact keep a o ha (pn a (.inr z))
    · refine keep a _ ha fun z => ?_
      subst z
      rw [hp] at ha
      exact hk (ho_tup_of (Option.some.inj ha))) h'.1
  refine ⟨(k.own p ++ A) ++ Sc' ++ B, ⟨hp', ⟨A ++ Sc' ++ B, q, by simp [List.append_assoc]⟩, ?_⟩, fun a ha => ?_⟩
  · rw [hS'] at nd
    refine nodup_mid nd h'.2 fun a ha => .inr ⟨fun w => n a ha ?_, fun w => n a ha ?_⟩
    · rw [hS']; exact List.mem_append_left _ (List.mem_append_left _ w)
    · rw [hS']; exact List.mem_append_right _ w
  · rw [hS']
    rcases List.mem_append.mp ha with ha | ha
    · rcases List.mem_append.mp ha with ha | ha
      · exact .inl (List.mem_append_left _ (List.mem_append_left _ ha))
      · exact .inr ha
    · exact .inl (List.mem_append_right _ ha)
/-- a new instance: what __init__ changes of it changes nothing that stood -/
theorem Chg.made {H H' : Hp} {x dx C : Addr} {S' : List Addr} (hx : H x = none) (hd : H dx = none) (c : Chg [x] S' (upd (upd H dx (.own x)) x (.ins C dx [])) H') : Chg [] S' H H' where
  keep := fun a o h _ => c.keep a o (by rw [upd_ne (ne_of_none h hx), upd_ne (ne_of_none h hd)]; exact h) (by simp; exact ne_of_none h hx)
  tup := fun a xs h => c.tup a xs (by rw [upd_ne (ne_of_none h hx), upd_ne (ne_of_none h hd)]; exact h)
  new := fun a ha => by
    rcases c.new a ha with q | q
    · have e : a = x := by simpa using q
      exact .inr (e ▸ hx)
    · refine .inr ?_
      by_cases e : a = x
      · exact e ▸ hx
      · rw [upd_ne e] at q
        by_cases e2 : a = dx
        · exact e2 ▸ hd
        · rw [upd_ne e2] at q; exact q

/-! ### plain trees -/
abbrev tI (i : Int) : T := .v (.int i)
abbrev tBo (b : Bool) : T := .v (.bl b)
abbrev tS (s : Str) : T := .v (.str s)
def listT {α : Type} (f : α → T) (l : List α) : T := .n .lst (l.map f)
def dictT {α : Type} (f : α → T) (l : List (Int × α)) : T := .n (.dct (l.map fun q => Sum.inl q.1)) (l.map fun q => f q.2)
def dictS {α : Type} (f : α → T) (l : List (Str × α)) : T := .n (.dct (l.map fun q => Sum.inr q.1)) (l.map fun q => f q.2)
def optI : Option Int → V
  | none => .non
  | some i => .int i
def optS : Option Str → V
  | none => .non
  | some s => .str s

/-- leaves: a list of immediates -/
theorem ownL_leaves {H : Hp} {α : Type} {f : α → V} {l : List α} : OwnL H (l.map f) (l.map fun x => T.v (f x)) [] := by
  induction l with
  | nil => exact OwnL.nil
  | cons a l ih => exact OwnL.cons Own.leaf ih
theorem ownL_of_leaves {H : Hp} {α : Type} {f : α → V} : ∀ {l : List α} {vs : List V} {S : List Addr}, OwnL H vs (l.map fun x => T.v (f x)) S → vs = l.map f ∧ S = []
  | [], vs, S, h => by obtain ⟨a, b⟩ := OwnL.of_nil h; exact ⟨a, b⟩
  | a :: l, vs, S, h => by
    obtain ⟨x, xs, A, B, hv, h1, h2, hS⟩ := OwnL.of_cons h
    obtain ⟨e1, e2⟩ := h1.of_leaf
    obtain ⟨e3, e4⟩ := ownL_of_leaves h2
    subst e1 e2 e3 e4
    exact ⟨hv, hS⟩

/-! ### the program's data -/
structure WayM where
  sp : Int
  pg : Int
  fr : Int
  mark : Int
  deriving DecidableEq, Inhabited
structure BookM where
  slots : Int
  kept : List WayM
  deriving Inhabited
structure DialM where
  spot : Nat
  marked : List Bool
  deriving Inhabited
inductive ThingM where
  | own (s : Int)
  | file (f : Str) (p : Int)
  deriving DecidableEq, Inhabited
structure FramesM where
  things : List (Option ThingM)
  rows : List (List Int)
  soil : List Bool
  deriving Inhabited
structure ShelfM where
  sheets : List (Option Int)
  rows : List (Int × List Int)
  deriving Inhabited
abbrev FilesM := List (Str × List (List Int))
structure StoreM where
  fr : FramesM
  di : DialM
  sh : ShelfM
  fi : FilesM
  hold : List (Int × Int)
  newest : Int
  deriving Inhabited
structure StretchM where
  first : Int
  many : Int
  kind : Str
  rights : Int
  name : Option Str
  start : Int
  deriving DecidableEq, Inhabited
abbrev TableM := List (Option (List (Option Int)))
structure WorldM where
  st : StoreM
  books : List BookM
  walked : List Int
  copied : Int
  made : Int
  plans : List (Int × List StretchM)
  tables : List (Int × TableM)
  deriving Inhabited

abbrev nsBook : List Str := ["slots", "kept"]
abbrev nsDial : List Str := ["my_spot", "my_marked"]
abbrev nsFiles : List Str := ["my_files"]
abbrev nsFrames : List Str := ["my_things", "my_rows", "my_soil"]
abbrev nsShelf : List Str := ["my_sheets", "my_rows"]
abbrev nsStore : List Str := ["frames", "dial", "shelf", "files", "my_holders", "my_newest"]
abbrev nsTable : List Str := ["uppers"]
abbrev nsWorld : List Str := ["store", "books", "walked", "copied", "made", "plans", "tables"]
abbrev nsDesk : List Str := ["world"]

def wayT (w : WayM) : T := .n .tup [tI w.sp, tI w.pg, tI w.fr, tI w.mark]
def thingT : Option ThingM → T
  | none => .v .non
  | some (.own s) => .n .tup [tS "own", tI s]
  | some (.file f p) => .n .tup [tS "file", tS f, tI p]
def rowT (r : List Int) : T := listT tI r
def stretchT (s : StretchM) : T := .n .tup [tI s.first, tI s.many, tS s.kind, tI s.rights, .v (optS s.name), tI s.start]
section
variable (K : Frag)
def bookT (b : BookM) : T := .n (.obj (He.ga K "Book") nsBook) [tI b.slots, listT wayT b.kept]
def dialT (d : DialM) : T := .n (.obj (He.ga K "Dial") nsDial) [tI d.spot, listT tBo d.marked]
def filesT (f : FilesM) : T := .n (.obj (He.ga K "Files") nsFiles) [dictS (listT rowT) f]
def framesT (f : FramesM) : T := .n (.obj (He.ga K "Frames") nsFrames) [listT thingT f.things, listT rowT f.rows, listT tBo f.soil]
def shelfT (s : ShelfM) : T := .n (.obj (He.ga K "Shelf") nsShelf) [listT (fun o => .v (optI o)) s.sheets, dictT rowT s.rows]
def storeT (s : StoreM) : T := .n (.obj (He.ga K "Store") nsStore) [framesT K s.fr, dialT K s.di, shelfT K s.sh, filesT K s.fi, dictT tI s.hold, tI s.newest]
def leafT : Option (List (Option Int)) → T
  | none => .v .non
  | some l => listT (fun o => .v (optI o)) l
def tableT (t : TableM) : T := .n (.obj (He.ga K "Table") nsTable) [listT leafT t]
def planT (p : List StretchM) : T := listT stretchT p
def worldT (w : WorldM) : T := .n (.obj (He.ga K "World") nsWorld) [storeT K w.st, listT (bookT K) w.books, listT tI w.walked, tI w.copied, tI w.made, dictT planT w.plans, dictT (tableT K) w.tables]
def deskT (w : WorldM) : T := .n (.obj (He.ga K "Desk") nsDesk) [worldT K w]
end
end Pn

/-! # P3: one step of a reading at a time. -/
namespace Pn
open PySem PySem.Spec PyProof.Rows L2
section
variable {K : Frag} {D : Ends} {σ : L2.St} {H : Hp} {Q : VK} {t u : TS} {te ta tb tc : TE} {i : Nat}
theorem i_seq (h : t { D with nx := u D } σ H) : tSeq t u D σ H := h
theorem i_asg (h : te σ H fun x H1 => D.nx (σ.set i (some x)) H1) : tAsg te (gName i) D σ H := h
theorem i_ret (h : te σ H D.rt) : tRet te D σ H := h
theorem i_retN (h : D.rt .non H) : tRetN D σ H := h
theorem i_drop (h : te σ H fun _ H1 => D.nx σ H1) : tDrop te D σ H := h
theorem i_next (h : D.nx σ H) : tNext D σ H := h
theorem i_ifS {c : TT} (h : c σ H fun b H1 => if b = true then t D σ H1 else u D σ H1) : tIfS c t u D σ H := h
theorem i_raise {C : Addr} {W : WX} (h : W (.ref C) none σ H) : tRaise C W D σ H := h
theorem i_var {v : V} (hv : σ[i]? = some (some v)) (h : Q v H) : tVar i σ H Q := ⟨v, hv, h⟩
theorem i_c {v : V} (h : Q v H) : tC v σ H Q := h
theorem i_op {r : R2} (h : ta σ H fun x H1 => tb σ H1 fun y H2 => r x y H2 Q) : tOp r ta tb σ H Q := h
theorem i_un {r : V → Hp → VK → Prop} (h : ta σ H fun x H1 => r x H1 Q) : tUn r ta σ H Q := h
theorem i_test {Q : Bool → Hp → Prop} (h : te σ H fun x H' => ∃ k, x = .bl k ∧ Q k H') : tTest te σ H Q := h
theorem i_tB {Q : Bool → Hp → Prop} (h : te σ H fun x H' => ∃ k, x = .bl k ∧ Q k H') : tB te σ H Q := h
theorem i_yes {Q : Bool → Hp → Prop} (h : Q true H) : tYes σ H Q := h
theorem i_bl {b : Bool} {R : Bool → Prop} (h : R b) : ∃ k, V.bl b = .bl k ∧ R k := ⟨b, rfl, h⟩
theorem i_not {c : TT} {Q : Bool → Hp → Prop} (h : c σ H fun b H1 => Q (!b) H1) : tNot c σ H Q := h
theorem i_and {c d : TT} {Q : Bool → Hp → Prop} (h : c σ H fun b H1 => if b = true then d σ H1 Q else Q false H1) : tAnd c d σ H Q := h
theorem i_or {c d : TT} {Q : Bool → Hp → Prop} (h : c σ H fun b H1 => if b = true then Q true H1 else d σ H1 Q) : tOr c d σ H Q := h
theorem i_andV (h : ta σ H fun x H1 => ∃ c, x = .bl c ∧ if c = true then tb σ H1 Q else Q (.bl false) H1) : tAndV ta tb σ H Q := h
theorem i_orV (h : ta σ H fun x H1 => ∃ c, x = .bl c ∧ if c = true then Q (.bl true) H1 else tb σ H1 Q) : tOrV ta tb σ H Q := h
theorem i_notV (h : ta σ H fun x H1 => ∃ c, x = .bl c ∧ Q (.bl (!c)) H1) : tNotV ta σ H Q := h
theorem i_nil {Q : List V → Hp → Prop} (h : Q [] H) : tNil σ H Q := h
theorem i_cons {tr : TA} {Q : List V → Hp → Prop} (h : te σ H fun x H1 => tr σ H1 fun xs H2 => Q (x :: xs) H2) : tCons te tr σ H Q := h
theorem i_I0 {g : Int → Int → V} {a b : Int} (h : Q (g a b) H) : rI0 g (.int a) (.int b) H Q := ⟨a, b, rfl, rfl, h⟩
theorem i_I {C : Int → Int → Prop} {g : Int → Int → V} {a b : Int} (c : C a b) (h : Q (g a b) H) : rI C g (.int a) (.int b) H Q := ⟨a, b, rfl, rfl, c, h⟩
theorem i_U {g : Int → V} {a : Int} (h : Q (g a) H) : rU g (.int a) H Q := ⟨a, rfl, h⟩
theorem i_eq {x y : V} (s : scal x y = true) (h : Q (.bl (decide (x = y))) H) : rEq x y H Q := ⟨s, h⟩
theorem i_ne {x y : V} (s : scal x y = true) (h : Q (.bl (!decide (x = y))) H) : rNe x y H Q := ⟨s, h⟩
theorem i_L {p : Addr} {xs : List V} {j : Nat} {z : Int} {v : V} (e : z = (j : Int)) (hp : H p = some (.lst xs)) (hv : xs[j]? = some v) (h : Q v H) : rL (.ref p) (.int z) H Q := ⟨p, xs, v, j, rfl, by rw [e], hp, hv, h⟩
theorem i_T {p : Addr} {xs : List V} {j : Nat} {z : Int} {v : V} (hp : H p = some (.tup xs)) (e : z = (j : Int)) (hv : xs[j]? = some v) (h : Q v H) : rT (.ref p) (.int z) H Q := ⟨p, xs, v, j, rfl, by rw [e], hp, hv, h⟩
theorem i_fI {C : Addr} {ns : List Str} (h : ta σ H fun x H1 => ∃ a dx vs v, x = V.ref a ∧ H1 a = some (.ins C dx (ns.zip vs)) ∧ vs[i]? = some v ∧ Q v H1) : tFI C ns i ta σ H Q := h
theorem i_fIv {C : Addr} {ns : List Str} {p dx : Addr} {vs : List V} {v : V} {R : V → Prop} (hp : H p = some (.ins C dx (ns.zip vs))) (hv : vs[i]? = some v) (h : R v) :
    ∃ a dx vs v, V.ref p = V.ref a ∧ H a = some (.ins C dx (ns.zip vs)) ∧ vs[i]? = some v ∧ R v := ⟨p, dx, vs, v, rfl, hp, hv, h⟩
theorem i_sI {C : Addr} {ns : List Str} (h : tb σ H fun y H1 => ta σ H1 fun x H2 => ∃ a dx vs, x = V.ref a ∧ H2 a = some (.ins C dx (ns.zip vs)) ∧ i < vs.length ∧ D.nx σ (upd H2 a (.ins C dx (ns.zip (vs.set i y))))) : sFI C ns i ta tb D σ H := h
theorem i_sIv {C : Addr} {ns : List Str} {p dx : Addr} {vs : List V} {R : Addr → Addr → List V → Prop} (hp : H p = some (.ins C dx (ns.zip vs))) (hl : i < vs.length) (h : R p dx vs) :
    ∃ a dx vs, V.ref p = V.ref a ∧ H a = some (.ins C dx (ns.zip vs)) ∧ i < vs.length ∧ R a dx vs := ⟨p, dx, vs, rfl, hp, hl, h⟩
theorem i_sA {C : Addr} {ns : List Str} (h : tb σ H fun y H1 => ta σ H1 fun x H2 => ∃ a dx vs, x = V.ref a ∧ H2 a = some (.ins C dx (ns.zip vs)) ∧ vs.length = i ∧ D.nx σ (upd H2 a (.ins C dx (ns.zip (vs ++ [y]))))) : sFA C ns i ta tb D σ H := h
theorem i_sAv {C : Addr} {ns : List Str} {p dx : Addr} {vs : List V} {R : Addr → Addr → List V → Prop} (hp : H p = some (.ins C dx (ns.zip vs))) (hl : vs.length = i) (h : R p dx vs) :
    ∃ a dx vs, V.ref p = V.ref a ∧ H a = some (.ins C dx (ns.zip vs)) ∧ vs.length = i ∧ R a dx vs := ⟨p, dx, vs, rfl, hp, hl, h⟩
theorem i_cS {sp : Sp} {E : L2.St → XK} {t : TA} (h : t σ H fun vs H1 => sp vs H1 Q (E σ)) : tCallS sp E t σ H Q := h
theorem i_mI {C : Addr} {ns : List Str} {sp : Sp} {W : WX} {t : TA} (h : ta σ H fun x H1 => ∃ a dx vs, x = V.ref a ∧ H1 a = some (.ins C dx (ns.zip vs)) ∧ t σ H1 fun us H2 => sp (x :: us) H2 Q (WE W σ)) : tMI C ns sp W ta t σ H Q := h
theorem i_mIv {C : Addr} {ns : List Str} {R : Prop} {p dx : Addr} {vs : List V} (hp : H p = some (.ins C dx (ns.zip vs))) (h : R) :
    ∃ a dx vs, V.ref p = V.ref a ∧ H a = some (.ins C dx (ns.zip vs)) ∧ R := ⟨p, dx, vs, rfl, hp, h⟩
theorem i_mk {C : Addr} {sp : Sp} {W : WX} {t : TA} (h : t σ H fun us H1 => ∀ x dx, H1 x = none → H1 dx = none → dx ≠ x → sp (.ref x :: us) (upd (upd H1 dx (.own x)) x (.ins C dx [])) (fun v H2 => v = .non ∧ Q (.ref x) H2) (WE W σ)) :
    tMk C sp W t σ H Q := h
theorem i_cB {r : List V → Hp → VK → Prop} {t : TA} (h : t σ H fun vs H1 => r vs H1 Q) : tCB r t σ H Q := h
theorem i_ln {p : Addr} {ys : List V} (hp : H p = some (.lst ys)) (h : Q (.int (ys.length : Nat)) H) : rLn [.ref p] H Q := ⟨p, ys, rfl, .inl hp, h⟩
theorem i_lnT {p : Addr} {ys : List V} (hp : H p = some (.tup ys)) (h : Q (.int (ys.length : Nat)) H) : rLn [.ref p] H Q := ⟨p, ys, rfl, .inr hp, h⟩
theorem i_lnD {p : Addr} {kvs : List (Key × V)} (hp : H p = some (.dK kvs)) (h : Q (.int (kvs.length : Nat)) H) : rLnD [.ref p] H Q := ⟨p, kvs, rfl, hp, h⟩
theorem i_ls {p : Addr} {ys : List V} (hp : H p = some (.lst ys)) (h : ∀ l, H l = none → Q (.ref l) (upd H l (.lst ys))) : rLs [.ref p] H Q := ⟨p, ys, rfl, .inl hp, h⟩
theorem i_lsT {p : Addr} {ys : List V} (hp : H p = some (.tup ys)) (h : ∀ l, H l = none → Q (.ref l) (upd H l (.lst ys))) : rLs [.ref p] H Q := ⟨p, ys, rfl, .inr hp, h⟩
theorem i_is {n m : String} {x : V} {b : Bool} (h1 : tyN x H = some m) (h2 : kitB m n = some b) (h : Q (.bl b) H) : rIs n [x, .ty n] H Q := ⟨x, m, b, rfl, h1, h2, h⟩
theorem i_lst {t : TA} (h : t σ H fun xs H1 => xs.length ≤ sizeLine ∧ ∀ p, H1 p = none → Q (.ref p) (upd H1 p (.lst xs))) : tLst t σ H Q := h
theorem i_new {xs : List V} {R : Addr → Prop} (hl : xs.length ≤ 4096) (h : ∀ p, H p = none → R p) : xs.length ≤ sizeLine ∧ ∀ p, H p = none → R p :=
  ⟨Nat.le_trans hl (by decide), h⟩
theorem i_tup {t : TA} (h : t σ H fun xs H1 => xs.length ≤ sizeLine ∧ ∀ p, H1 p = none → Q (.ref p) (upd H1 p (.tup xs))) : tTup t σ H Q := h
theorem i_isN {x : V} (h : Q (.bl (decide (x = .non))) H) : r_isN x .non H Q := ⟨rfl, h⟩
theorem i_notN {x : V} (h : Q (.bl (!decide (x = .non))) H) : r_notN x .non H Q := ⟨rfl, h⟩
theorem i_app {l : Addr} {xs : List V} {y : V} (hp : H l = some (.lst xs)) (hl : xs.length < 100000) (h : Q .non (upd H l (.lst (xs ++ [y])))) : rAppend (.ref l) [y] H Q :=
  ⟨l, xs, y, rfl, rfl, hp, Nat.lt_of_lt_of_le hl (by decide), h⟩
theorem i_bm {T : String} {r : V → List V → Hp → VK → Prop} {t : TA} (h : ta σ H fun x H1 => tyV K T x H1 ∧ t σ H1 fun xs H2 => r x xs H2 Q) : tBM K T r ta t σ H Q := h
theorem i_bm0 {T : String} {r : V → List V → Hp → VK → Prop} (h : ta σ H fun x H1 => tyV K T x H1 ∧ r x [] H1 Q) : tBM0 K T r ta σ H Q := h
theorem i_bmv {R : Prop} {l : Addr} {xs : List V} (hp : H l = some (.lst xs)) (h : R) : tyV K "list" (.ref l) H ∧ R := ⟨.inl ⟨rfl, xs, SqL.of hp⟩, h⟩
theorem i_setL {p : Addr} {xs : List V} {j : Nat} {z : Int} {v : V} {R : Hp → Prop} (e : z = (j : Int)) (hp : H p = some (.lst xs)) (hj : j < xs.length) (h : R (upd H p (.lst (xs.set j v)))) : rSetL (.ref p) (.int z) v H R := by
  refine ⟨p, xs, z, j, rfl, rfl, hp, ?_, h⟩
  subst e
  unfold ixN
  rw [if_pos (by omega), if_pos (by omega), Int.toNat_natCast]
theorem i_asgS {to ti : TE} {r : TSet} (h : te σ H fun x H1 => to σ H1 fun o H2 => ti σ H2 fun j H3 => r o j x H3 fun H4 => D.nx σ H4) : tAsg te (gSub to ti r) D σ H := h
end

theorem flat1 {α : Type} (n : Nat) (x : α) : (List.replicate n [x]).flatten = List.replicate n x := by
  induction n with
  | zero => rfl
  | succ n ih => rw [List.replicate_succ, List.replicate_succ, List.flatten_cons, ih]; rfl
theorem i_rep1 {H : Hp} {Q : VK} {l : Addr} {x : V} {n : Nat} {z : Int} (hp : H l = some (.lst [x])) (e : z = (n : Int)) (hn : n < 100000) (h : ∀ p, H p = none → Q (.ref p) (upd H p (.lst (List.replicate n x)))) : rRep (.ref l) (.int z) H Q := by
  subst e
  refine ⟨l, n, [x], rfl, rfl, hp, by omega, by omega, ?_, fun p hp2 => ?_⟩
  · show 1 * n ≤ sizeLine
    have : sizeLine = 16777216 := rfl
    omega
  · rw [Int.toNat_natCast, flat1]
    exact h p hp2
/-! ### changes one by one -/
theorem neN {H : Hp} {p l : Addr} (h : ∃ o, H p = some o) (h' : H l = none) : p ≠ l := by
  obtain ⟨o, h⟩ := h
  exact ne_of_none h h'
theorem Chg.set {S : List Addr} {H : Hp} {p : Addr} {o o0 : HO} (hp : H p = some o0) (nt : ∀ xs, o0 ≠ .tup xs) (hm : p ∈ S) : Chg S S H (upd H p o) :=
  ⟨fun a o' h n => by rw [upd_ne (fun z : a = p => n (z ▸ hm))]; exact h, fun a xs h => by
    rw [upd_ne]
    · exact h
    · intro z
      subst z
      rw [hp] at h
      exact nt xs (Option.some.inj h), fun _ h => .inl h⟩
theorem Chg.add {S : List Addr} {H : Hp} {l : Addr} {o : HO} (hl : H l = none) : Chg S (l :: S) H (upd H l o) :=
  ⟨fun a o' h _ => by rw [upd_ne (ne_of_none h hl)]; exact h, fun a xs h => by rw [upd_ne (ne_of_none h hl)]; exact h, fun a h => by
    rcases List.mem_cons.mp h with e | h
    · exact .inr (e ▸ hl)
    · exact .inl h⟩
/-! ### comprehensions that make nothing but their list -/
theorem wipe1 (σ : L2.St) (i : Nat) : wipe σ [i] = σ.set i none := rfl
theorem wipe_back (σ : L2.St) (i : Nat) (v : Option V) : wipe ((σ.set i none).set i v) [i] = σ.set i none := by
  show ((σ.set i none).set i v).set i none = σ.set i none
  rw [List.set_set, List.set_set]
section
variable {K : Frag} {σ : L2.St} {H : Hp} {R : Addr → Hp → Prop} {te : TE} {tt : TT} {i : Nat}
/-- the end of [f x for x in xs if pr x]: xs a list that stands; test and element leave the heap -/
theorem lcl_pure {p : Addr} {xs : List V} (hp : H p = some (.lst xs)) (pr : V → Bool) (f : V → V) (hlen : xs.length < 100000)
    (step : ∀ x, x ∈ xs → ∀ acc D, H D = none → (∀ Qb : Bool → Hp → Prop, Qb (pr x) (upd H D (.lst acc)) → tt ((σ.set i none).set i (some x)) (upd H D (.lst acc)) Qb) ∧
      (pr x = true → ∀ Qv : VK, Qv (f x) (upd H D (.lst acc)) → te ((σ.set i none).set i (some x)) (upd H D (.lst acc)) Qv))
    (done : ∀ D, H D = none → R D (upd H D (.lst ((xs.filter pr).map f)))) :
    ∃ a, V.ref p = .ref a ∧ (∃ xs, SqL K H a xs) ∧ ∀ D, H D = none → ∃ W : Nat → Nat → Hp → Prop, (∃ m, W 0 m (upd H D (.lst []))) ∧ ∀ j m H, W j m H →
      ((Itl K a).stop j H ∧ R D H) ∨ ((Itl K a).go j H ∧ ∃ Nx : Hp → Prop, (∀ H', Nx H' → ∃ m', m' < m ∧ W (j + 1) m' H') ∧ ∀ x H', (Itl K a).yld j H x H' → gName i x (wipe σ [i]) H' fun σ2 H2 => wipe σ2 [i] = wipe σ [i] ∧ tt σ2 H2 fun b H3 =>
        if b = true then te σ2 H3 fun y H4 => ∃ acc, H4 D = some (.lst acc) ∧ acc.length < sizeLine ∧ Nx (upd H4 D (.lst (acc ++ [y]))) else Nx H3) := by
  refine ⟨p, rfl, ⟨xs, SqL.of hp⟩, fun D hD => ?_⟩
  have npD : p ≠ D := ne_of_none hp hD
  refine lc_list (K := K) (a := p) (xs := xs) (g := gName i) (tt := tt) (te := te) (vs := [i]) (σ := σ) (H1 := H) (D := D) (Qd := fun H' => R D H')
    (fun j H' => H' = upd H D (.lst (((xs.take j).filter pr).map f))) (by simp) (fun j H' _ e => by rw [e]; exact SqL.of ((upd_ne npD).trans hp)) ?_ ?_
  · rintro j x H' hx rfl
    have hm : x ∈ xs := List.mem_of_getElem? hx
    obtain ⟨s1, s2⟩ := step x hm (((xs.take j).filter pr).map f) D hD
    have e1 : xs.take (j + 1) = xs.take j ++ [x] := by rw [List.take_succ, hx]; rfl
    refine ⟨wipe_back _ _ _, s1 _ ?_⟩
    cases hb : pr x with
    | true =>
      rw [if_pos rfl]
      refine s2 hb _ ⟨_, upd_same, ?_, ?_⟩
      · have q1 : (((xs.take j).filter pr).map f).length ≤ xs.length := by
          rw [List.length_map]
          exact Nat.le_trans (List.length_filter_le _ _) (by rw [List.length_take]; exact Nat.min_le_right _ _)
        exact Nat.lt_of_lt_of_le (Nat.lt_of_le_of_lt q1 hlen) (by decide)
      · rw [upd_upd, e1, List.filter_append, List.map_append]
        simp [hb]
    | false =>
      rw [if_neg Bool.false_ne_true, e1, List.filter_append]
      simp [hb]
  · rintro H' rfl
    rw [List.take_length]
    exact done D hD
/-- .. of [f j for j in range(n)] -/
theorem lcr_pure {n : Nat} (f : Nat → V) (hn : n < 100000)
    (step : ∀ j, j < n → ∀ acc D, H D = none → ∀ Qv : VK, Qv (f j) (upd H D (.lst acc)) → te ((σ.set i none).set i (some (.int (j : Int)))) (upd H D (.lst acc)) Qv)
    (done : ∀ D, H D = none → R D (upd H D (.lst ((List.range n).map f)))) :
    ∃ j : Int, [V.int (n : Int)] = [.int j] ∧ -(2 ^ 62) ≤ j ∧ j < 2 ^ 62 ∧ ∀ D, H D = none → ∃ W : Nat → Nat → Hp → Prop, (∃ m, W 0 m (upd H D (.lst []))) ∧ ∀ k m H, W k m H →
      ((Itr 0 j.toNat).stop k H ∧ R D H) ∨ ((Itr 0 j.toNat).go k H ∧ ∃ Nx : Hp → Prop, (∀ H', Nx H' → ∃ m', m' < m ∧ W (k + 1) m' H') ∧ ∀ x H', (Itr 0 j.toNat).yld k H x H' → gName i x (wipe σ [i]) H' fun σ2 H2 => wipe σ2 [i] = wipe σ [i] ∧ tYes σ2 H2 fun b H3 =>
        if b = true then te σ2 H3 fun y H4 => ∃ acc, H4 D = some (.lst acc) ∧ acc.length < sizeLine ∧ Nx (upd H4 D (.lst (acc ++ [y]))) else Nx H3) := by
  refine ⟨n, rfl, by omega, by omega, fun D hD => ?_⟩
  rw [Int.toNat_natCast]
  refine lc_range (lo := 0) (n := n) (g := gName i) (tt := tYes) (te := te) (vs := [i]) (σ := σ) (H1 := H) (D := D) (Qd := fun H' => R D H')
    (fun j H' => H' = upd H D (.lst ((List.range j).map f))) (by simp) ?_ ?_
  · rintro j H' hj rfl
    refine ⟨wipe_back _ _ _, ?_⟩
    refine i_yes ?_
    rw [if_pos rfl, Int.zero_add]
    refine step j hj _ D hD _ ⟨_, upd_same, ?_, ?_⟩
    · rw [List.length_map, List.length_range]
      exact Nat.lt_of_lt_of_le (Nat.lt_trans hj hn) (by decide)
    · rw [upd_upd, List.range_succ, List.map_append]; rfl
  · rintro H' rfl
    exact done D hD
theorem Chg.one {H : Hp} {D : Addr} {o : HO} (hD : H D = none) : Chg [] [D] H (upd H D o) :=
  ⟨fun a o' h _ => by rw [upd_ne (ne_of_none h hD)]; exact h, fun a xs h => by rw [upd_ne (ne_of_none h hD)]; exact h, fun a h => .inr (by
    have e : a = D := by simpa using h
    rw [e]; exact hD)⟩
/-- .. where each element is a new tree of its own -/
theorem lcr_own {n : Nat} (f : Nat → T) (hn : n < 100000)
    (step : ∀ j, j < n → ∀ H', Chg [] [] H H' → ∀ Qv : VK, (∀ y H'' S, At H'' y (f j) S → Chg [] S H' H'' → Qv y H'') → te ((σ.set i none).set i (some (.int (j : Int)))) H' Qv)
    (done : ∀ D H' S, At H' (.ref D) (.n .lst ((List.range n).map f)) S → Chg [] S H H' → R D H') :
    ∃ j : Int, [V.int (n : Int)] = [.int j] ∧ -(2 ^ 62) ≤ j ∧ j < 2 ^ 62 ∧ ∀ D, H D = none → ∃ W : Nat → Nat → Hp → Prop, (∃ m, W 0 m (upd H D (.lst []))) ∧ ∀ k m H, W k m H →
      ((Itr 0 j.toNat).stop k H ∧ R D H) ∨ ((Itr 0 j.toNat).go k H ∧ ∃ Nx : Hp → Prop, (∀ H', Nx H' → ∃ m', m' < m ∧ W (k + 1) m' H') ∧ ∀ x H', (Itr 0 j.toNat).yld k H x H' → gName i x (wipe σ [i]) H' fun σ2 H2 => wipe σ2 [i] = wipe σ [i] ∧ tYes σ2 H2 fun b H3 =>
        if b = true then te σ2 H3 fun y H4 => ∃ acc, H4 D = some (.lst acc) ∧ acc.length < sizeLine ∧ Nx (upd H4 D (.lst (acc ++ [y]))) else Nx H3) := by
  refine ⟨n, rfl, by omega, by omega, fun D hD => ?_⟩
  rw [Int.toNat_natCast]
  refine lc_range (lo := 0) (n := n) (g := gName i) (tt := tYes) (te := te) (vs := [i]) (σ := σ) (H1 := H) (D := D) (Qd := fun H' => R D H')
    (fun j H' => ∃ vs S, H' D = some (.lst vs) ∧ OwnL H' vs ((List.range j).map f) S ∧ (D :: S).Nodup ∧ Chg [] (D :: S) H H') ?_ ?_ ?_
  · exact ⟨[], [], upd_same, OwnL.nil, by simp, Chg.one hD⟩
  · rintro j H' hj ⟨vs, S, h1, h2, h3, h4⟩
    refine ⟨wipe_back _ _ _, ?_⟩
    refine i_yes ?_
    rw [if_pos rfl, Int.zero_add]
    refine step j hj H' (h4.sub (fun _ h => h) fun a h => by cases h) _ fun y H'' S2 hy hc => ?_
    have kD : H'' D = some (.lst vs) := hc.keep D _ h1 (by simp)
    have hl : vs.length = j := by rw [h2.length, List.length_map, List.length_range]
    have al : ∀ a, a ∈ S2 → H' a = none := fun a ha => (hc.new a ha).resolve_left (by simp)
    have h2' : OwnL H'' vs ((List.range j).map f) S := h2.keep fun a o ha _ => hc.keep a o ha (by simp)
    have nDS : D ∉ S := (List.nodup_cons.mp h3).1
    have nDS2 : D ∉ S2 := fun z => by rw [al D z] at h1; cases h1
    have nb : ∀ a o, H'' a = some o → (a ∈ S ∨ ∃ xs, o = .tup xs) → upd H'' D (.lst (vs ++ [y])) a = some o := fun a o ha hs => by
      rw [upd_ne]
      · exact ha
      · intro z
        subst z
        rcases hs with hs | ⟨xs, rfl⟩
        · exact nDS hs
        · rw [kD] at ha; cases ha
    have nb2 : ∀ a o, H'' a = some o → (a ∈ S2 ∨ ∃ xs, o = .tup xs) → upd H'' D (.lst (vs ++ [y])) a = some o := fun a o ha hs => by
      rw [upd_ne]
      · exact ha
      · intro z
        subst z
        rcases hs with hs | ⟨xs, rfl⟩
        · exact nDS2 hs
        · rw [kD] at ha; cases ha
    refine ⟨vs, kD, by rw [hl]; exact Nat.lt_of_lt_of_le (Nat.lt_trans hj hn) (by decide), vs ++ [y], S ++ S2, upd_same, ?_, ?_, ?_⟩
    · rw [List.range_succ, List.map_append]
      exact OwnL.append (h2'.keep nb) (OwnL.one (hy.1.keep nb2))
    · have ap : ∀ a, a ∈ S → ∀ b, b ∈ S2 → a ≠ b := fun a ha b hb e => by
        subst e
        obtain ⟨o, z, _⟩ := h2.alloc a ha
        rw [al a hb] at z; cases z
      rw [List.nodup_cons]
      refine ⟨fun z => ?_, List.nodup_append.mpr ⟨(List.nodup_cons.mp h3).2, hy.2, ap⟩⟩
      rcases List.mem_append.mp z with z | z
      · exact nDS z
      · exact nDS2 z
    · have c2 : Chg [] (D :: S ++ S2) H H'' := ⟨(h4.trans (hc.sub (fun _ h => by cases h) (Z := D :: S) (Z' := D :: S) (fun a h => .inr h))).keep, (h4.trans (hc.sub (fun _ h => by cases h) (Z := D :: S) (Z' := D :: S) (fun a h => .inr h))).tup, fun a ha => by
        rcases List.mem_append.mp ha with ha | ha
        · exact h4.new a ha
        · right
          cases e : H a with
          | none => rfl
          | some o =>
            have := h4.keep a o e (by simp)
            rw [al a ha] at this; cases this⟩
      refine ⟨fun a o ha hn => ?_, fun a xs ha => ?_, fun a ha => c2.new a (by simpa using ha)⟩
      · rw [upd_ne (ne_of_none ha hD)]; exact c2.keep a o ha hn
      · rw [upd_ne (ne_of_none ha hD)]; exact c2.tup a xs ha
  · rintro H' ⟨vs, S, h1, h2, h3, h4⟩
    exact done D H' (D :: S) ⟨Own.node (k := .lst) (dx := 0) h1 h2, h3⟩ h4
end

/-! ### a for over a list that stands, over a range -/
section
variable {K : Frag} {D : Ends} {σ : L2.St} {H : Hp} {tb : TS} {i : Nat}
theorem i_forL {p : Addr} {xs : List V} (hp : H p = some (.lst xs)) (Pv : Nat → L2.St → Hp → Prop) (h0 : Pv 0 σ H) (hl : ∀ j σ H, Pv j σ H → H p = some (.lst xs))
    (hs : ∀ j x σ H, xs[j]? = some x → Pv j σ H → tb { D with nx := Pv (j + 1), ct := Pv (j + 1), bk := D.nx } (σ.set i (some x)) H) (hd : ∀ σ H, Pv xs.length σ H → D.nx σ H) :
    ∃ a, V.ref p = .ref a ∧ (∃ xs, SqL K H a xs) ∧ ∃ W : Nat → Nat → L2.St → Hp → Prop, (∃ m, W 0 m σ H) ∧ ∀ j m σ H, W j m σ H →
      ((Itl K a).stop j H ∧ D.nx σ H) ∨ ((Itl K a).go j H ∧ ∃ N : L2.St → Hp → Prop, (∀ σ' H', N σ' H' → ∃ m', m' < m ∧ W (j + 1) m' σ' H') ∧ ∀ x H', (Itl K a).yld j H x H' → gName i x σ H' fun σ2 H2 => tb { D with nx := N, ct := N, bk := D.nx } σ2 H2) :=
  ⟨p, rfl, ⟨xs, SqL.of hp⟩, for_list (K := K) (a := p) (xs := xs) Pv h0 (fun j σ H _ q => SqL.of (hl j σ H q)) (fun j x σ H hx q => hs j x σ H hx q) hd⟩
theorem i_forR {n : Nat} (hn : n < 2 ^ 60) (Pv : Nat → L2.St → Hp → Prop) (h0 : Pv 0 σ H)
    (hs : ∀ j σ H, j < n → Pv j σ H → tb { D with nx := Pv (j + 1), ct := Pv (j + 1), bk := D.nx } (σ.set i (some (.int (j : Int)))) H) (hd : ∀ σ H, Pv n σ H → D.nx σ H) :
    ∃ j : Int, [V.int (n : Int)] = [.int j] ∧ -(2 ^ 62) ≤ j ∧ j < 2 ^ 62 ∧ ∃ W : Nat → Nat → L2.St → Hp → Prop, (∃ m, W 0 m σ H) ∧ ∀ k m σ H, W k m σ H →
      ((Itr 0 j.toNat).stop k H ∧ D.nx σ H) ∨ ((Itr 0 j.toNat).go k H ∧ ∃ N : L2.St → Hp → Prop, (∀ σ' H', N σ' H' → ∃ m', m' < m ∧ W (k + 1) m' σ' H') ∧ ∀ x H', (Itr 0 j.toNat).yld k H x H' → gName i x σ H' fun σ2 H2 => tb { D with nx := N, ct := N, bk := D.nx } σ2 H2) := by
  refine ⟨n, rfl, by omega, by omega, ?_⟩
  rw [Int.toNat_natCast]
  exact for_range (lo := 0) (n := n) Pv h0 (fun j σ H hj q => by
    show tb _ (σ.set i (some (.int (0 + (j : Int))))) H
    rw [Int.zero_add]
    exact hs j σ H hj q) hd
theorem i_for {wi : TI} {g : TG} (h : wi σ H fun J H1 => ∃ W : Nat → Nat → L2.St → Hp → Prop, (∃ m, W 0 m σ H1) ∧ ∀ j m σ H, W j m σ H →
      (J.stop j H ∧ D.nx σ H) ∨ (J.go j H ∧ ∃ N : L2.St → Hp → Prop, (∀ σ' H', N σ' H' → ∃ m', m' < m ∧ W (j + 1) m' σ' H') ∧ ∀ x H', J.yld j H x H' → g x σ H' fun σ2 H2 => tb { D with nx := N, ct := N, bk := D.nx } σ2 H2)) : tFor wi g tb D σ H := h
theorem i_iL {tl : TE} {R : It → Hp → Prop} (h : tl σ H fun x H1 => ∃ a, x = .ref a ∧ (∃ xs, SqL K H1 a xs) ∧ R (Itl K a) H1) : iList K tl σ H R := h
theorem i_iR {ta : TA} {R : It → Hp → Prop} (h : ta σ H fun vs H1 => ∃ j : Int, vs = [.int j] ∧ -(2 ^ 62) ≤ j ∧ j < 2 ^ 62 ∧ R (Itr 0 j.toNat) H1) : iRng1 ta σ H R := h
theorem i_lc {wi : TI} {g : TG} {tt : TT} {te : TE} {vs : List Nat} {Q : VK} (h : wi σ H fun J H1 => ∀ D, H1 D = none → ∃ W : Nat → Nat → Hp → Prop, (∃ m, W 0 m (upd H1 D (.lst []))) ∧ ∀ i m H, W i m H →
  (J.stop i H ∧ Q (.ref D) H) ∨ (J.go i H ∧ ∃ Nx : Hp → Prop, (∀ H', Nx H' → ∃ m', m' < m ∧ W (i + 1) m' H') ∧ ∀ x H', J.yld i H x H' → g x (wipe σ vs) H' fun σ2 H2 => wipe σ2 vs = wipe σ vs ∧ tt σ2 H2 fun b H3 =>
    if b = true then te σ2 H3 fun y H4 => ∃ acc, H4 D = some (.lst acc) ∧ acc.length < sizeLine ∧ Nx (upd H4 D (.lst (acc ++ [y]))) else Nx H3)) : tLc wi g tt te vs σ H Q := h
end
end Pn

/-! # P4: more loops. -/
namespace Pn
open PySem PySem.Spec PyProof.Rows L2
theorem Chg.and {S1 S2 : List Addr} {H H1 H2 : Hp} (c : Chg [] S1 H H1) (d : Chg [] S2 H1 H2) : Chg [] (S1 ++ S2) H H2 where
  keep := fun a o h _ => d.keep a o (c.keep a o h (by simp)) (by simp)
  tup := fun a xs h => d.tup a xs (c.tup a xs h)
  new := fun a h => by
    rcases List.mem_append.mp h with h | h
    · exact c.new a h
    · rcases d.new a h with h | h
      · cases h
      · right
        cases e : H a with
        | none => rfl
        | some o => rw [c.keep a o e (by simp)] at h; cases h
section
variable {K : Frag} {σ : L2.St} {H : Hp} {R : Addr → Hp → Prop} {te : TE} {i : Nat}
/-- [f j for j in range(n)]: each element a value of which a word holds; the heap stays -/
theorem lcr_any {n : Nat} (Pr : Nat → V → Prop) (hn : n < 100000)
    (step : ∀ j, j < n → ∀ acc D, H D = none → ∀ Qv : VK, (∀ v, Pr j v → Qv v (upd H D (.lst acc))) → te ((σ.set i none).set i (some (.int (j : Int)))) (upd H D (.lst acc)) Qv)
    (done : ∀ D vs, H D = none → vs.length = n → (∀ j v, vs[j]? = some v → Pr j v) → R D (upd H D (.lst vs))) :
    ∃ j : Int, [V.int (n : Int)] = [.int j] ∧ -(2 ^ 62) ≤ j ∧ j < 2 ^ 62 ∧ ∀ D, H D = none → ∃ W : Nat → Nat → Hp → Prop, (∃ m, W 0 m (upd H D (.lst []))) ∧ ∀ k m H, W k m H →
      ((Itr 0 j.toNat).stop k H ∧ R D H) ∨ ((Itr 0 j.toNat).go k H ∧ ∃ Nx : Hp → Prop, (∀ H', Nx H' → ∃ m', m' < m ∧ W (k + 1) m' H') ∧ ∀ x H', (Itr 0 j.toNat).yld k H x H' → gName i x (wipe σ [i]) H' fun σ2 H2 => wipe σ2 [i] = wipe σ [i] ∧ tYes σ2 H2 fun b H3 =>
        if b = true then te σ2 H3 fun y H4 => ∃ acc, H4 D = some (.lst acc) ∧ acc.length < sizeLine ∧ Nx (upd H4 D (.lst (acc ++ [y]))) else Nx H3) := by
  refine ⟨n, rfl, by omega, by omega, fun D hD => ?_⟩
  rw [Int.toNat_natCast]
  refine lc_range (lo := 0) (n := n) (g := gName i) (tt := tYes) (te := te) (vs := [i]) (σ := σ) (H1 := H) (D := D) (Qd := fun H' => R D H')
    (fun j H' => ∃ vs : List V, H' = upd H D (.lst vs) ∧ vs.length = j ∧ ∀ j v, vs[j]? = some v → Pr j v) ⟨[], rfl, rfl, fun j v h => by simp at h⟩ ?_ ?_
  · rintro j H' hj ⟨vs, rfl, hl, hv⟩
    refine ⟨wipe_back _ _ _, ?_⟩
    refine i_yes ?_
    rw [if_pos rfl, Int.zero_add]
    refine step j hj _ D hD _ fun v pv => ⟨_, upd_same, ?_, vs ++ [v], ?_, ?_, fun k w hk => ?_⟩
    · rw [hl]
      exact Nat.lt_of_lt_of_le (Nat.lt_trans hj hn) (by decide)
    · rw [upd_upd]
    · rw [List.length_append, hl]; rfl
    · by_cases c : k < vs.length
      · rw [List.getElem?_append_left c] at hk
        exact hv k w hk
      · rw [List.getElem?_append_right (by omega)] at hk
        have e : k - vs.length = 0 := by
          by_cases z : k - vs.length = 0
          · exact z
          · rw [List.getElem?_eq_none (by simp; omega)] at hk; cases hk
        rw [e] at hk
        have e2 : v = w := by simpa using hk
        have e3 : k = j := by omega
        subst e2 e3
        exact pv
  · rintro H' ⟨vs, rfl, hl, hv⟩
    exact done D vs hD hl hv
end
section
variable {K : Frag} {D : Ends} {σ : L2.St} {H : Hp} {tb : TS} {i : Nat}
theorem i_iR2 {ta : TA} {R : It → Hp → Prop} (h : ta σ H fun vs H1 => ∃ i j : Int, vs = [.int i, .int j] ∧ (-(2 ^ 62) ≤ i ∧ i < 2 ^ 62 ∧ -(2 ^ 62) ≤ j ∧ j < 2 ^ 62) ∧ R (Itr i (j - i).toNat) H1) : iRng2 ta σ H R := h
theorem i_forR2 {lo hi : Int} {n : Nat} (e : hi - lo = (n : Int)) (hb : -(2 ^ 62) ≤ lo ∧ lo < 2 ^ 62 ∧ -(2 ^ 62) ≤ hi ∧ hi < 2 ^ 62) (Pv : Nat → L2.St → Hp → Prop) (h0 : Pv 0 σ H)
    (hs : ∀ (j : Nat) σ H, j < n → Pv j σ H → tb { D with nx := Pv (j + 1), ct := Pv (j + 1), bk := D.nx } (σ.set i (some (.int (lo + (j : Int))))) H) (hd : ∀ σ H, Pv n σ H → D.nx σ H) :
    ∃ u v : Int, [V.int lo, V.int hi] = [.int u, .int v] ∧ (-(2 ^ 62) ≤ u ∧ u < 2 ^ 62 ∧ -(2 ^ 62) ≤ v ∧ v < 2 ^ 62) ∧ ∃ W : Nat → Nat → L2.St → Hp → Prop, (∃ m, W 0 m σ H) ∧ ∀ k m σ H, W k m σ H →
      ((Itr u (v - u).toNat).stop k H ∧ D.nx σ H) ∨ ((Itr u (v - u).toNat).go k H ∧ ∃ N : L2.St → Hp → Prop, (∀ σ' H', N σ' H' → ∃ m', m' < m ∧ W (k + 1) m' σ' H') ∧ ∀ x H', (Itr u (v - u).toNat).yld k H x H' → gName i x σ H' fun σ2 H2 => tb { D with nx := N, ct := N, bk := D.nx } σ2 H2) := by
  refine ⟨lo, hi, rfl, hb, ?_⟩
  rw [e, Int.toNat_natCast]
  exact for_range (lo := lo) (n := n) Pv h0 (fun j σ H hj q => hs j σ H hj q) hd
end
end Pn

local macro_rules | `(tactic| walk_at "ne") => `(tactic| first | assumption | (apply Ne.symm; assumption) | (refine Pn.neN ?_ (by assumption); exact ⟨_, by walk_at "hp"⟩) | (apply Ne.symm; refine Pn.neN ?_ (by assumption); exact ⟨_, by walk_at "hp"⟩) | exact L2.ne_of (by assumption) (by assumption) (by intro z; cases z))
local macro_rules | `(tactic| walk_at "hp") => `(tactic| first | assumption | exact L2.upd_same | (refine Eq.trans (L2.upd_ne ?_) ?_; walk_at "ne"; walk_at "hp"))
local macro_rules | `(tactic| walk_at "r1") => `(tactic| first
  | with_reducible refine Pn.i_seq ?_
  | ((with_reducible refine' Pn.i_var ?h1 ?_); (case h1 => rfl))
  | with_reducible refine Pn.i_c ?_
  | with_reducible refine Pn.i_asg ?_
  | with_reducible refine Pn.i_op ?_
  | with_reducible refine Pn.i_fI ?_
  | ((with_reducible refine' Pn.i_fIv ?h1 ?h2 ?_); (case h1 => walk_at "hp"); (case h2 => first | assumption | rfl))
  | with_reducible refine Pn.i_I0 ?_
  | ((with_reducible refine' Pn.i_eq ?h1 ?_); (case h1 => first | rfl | assumption))
  | ((with_reducible refine' Pn.i_ne ?h1 ?_); (case h1 => first | rfl | assumption))
  | with_reducible refine Pn.i_ifS ?_
  | with_reducible refine Pn.i_test ?_
  | with_reducible refine Pn.i_tB ?_
  | with_reducible refine Pn.i_bl ?_
  | with_reducible refine Pn.i_not ?_
  | with_reducible refine Pn.i_and ?_
  | with_reducible refine Pn.i_or ?_
  | with_reducible refine Pn.i_andV ?_
  | with_reducible refine Pn.i_orV ?_
  | with_reducible refine Pn.i_notV ?_
  | with_reducible refine Pn.i_ret ?_
  | with_reducible refine Pn.i_retN ?_
  | with_reducible refine Pn.i_drop ?_
  | with_reducible refine Pn.i_next ?_
  | with_reducible refine Pn.i_raise ?_
  | with_reducible refine Pn.i_un ?_
  | with_reducible refine Pn.i_U ?_
  | with_reducible refine Pn.i_nil ?_
  | with_reducible refine Pn.i_cons ?_
  | with_reducible refine Pn.i_cB ?_
  | with_reducible refine Pn.i_cS ?_
  | with_reducible refine Pn.i_mI ?_
  | ((with_reducible refine' Pn.i_mIv ?h1 ?_); (case h1 => walk_at "hp"))
  | with_reducible refine Pn.i_mk ?_
  | with_reducible refine Pn.i_sI ?_
  | ((with_reducible refine' Pn.i_sIv ?h1 ?h2 ?_); (case h1 => walk_at "hp"); (case h2 => decide))
  | with_reducible refine Pn.i_sA ?_
  | ((with_reducible refine' Pn.i_sAv ?h1 ?h2 ?_); (case h1 => walk_at "hp"); (case h2 => rfl))
  | ((with_reducible refine' Pn.i_ln ?h1 ?_); (case h1 => walk_at "hp"))
  | ((with_reducible refine' Pn.i_lnT ?h1 ?_); (case h1 => walk_at "hp"))
  | ((with_reducible refine' Pn.i_lnD ?h1 ?_); (case h1 => walk_at "hp"))
  | with_reducible refine Pn.i_lst ?_
  | with_reducible refine Pn.i_tup ?_
  | with_reducible refine Pn.i_isN ?_
  | with_reducible refine Pn.i_notN ?_
  | with_reducible refine Pn.i_for ?_
  | with_reducible refine Pn.i_lc ?_
  | with_reducible refine Pn.i_iL ?_
  | with_reducible refine Pn.i_iR ?_
  | with_reducible refine Pn.i_iR2 ?_
  | with_reducible refine Pn.i_bm ?_
  | with_reducible refine Pn.i_bm0 ?_
  | ((with_reducible refine' Pn.i_bmv ?h1 ?_); (case h1 => walk_at "hp"))
  | with_reducible refine Pn.i_asgS ?_)
local macro_rules | `(tactic| walk_at "r") => `(tactic| (repeat walk_at "r1"))

/-! # E1: errors in hand: isinstance of them, defs that are handed one, try. -/
namespace Pn
open PySem PySem.Spec PyProof.Rows L2
/-! ### rules by values -/
/-- sorted(d), the keys ints -/
def rSortD : List V → Hp → VK → Prop := fun xs H Q => ∃ (a : Addr) (kvs : List (Key × V)) (ks : List Int), xs = [.ref a] ∧ H a = some (.dK kvs) ∧ kvs.map (·.1) = ks.map Sum.inl ∧ ks.length < 64 ∧
  ∀ (ys : List Int) (p : Addr), ys.Perm ks → ys.Pairwise (· ≤ ·) → H p = none → Q (.ref p) (upd H p (.lst (ys.map V.int)))
theorem call_sortD {X : Cx} (hc : X.calm = true) : CallR X (.builtin "sorted") rSortD := CallRw (call_sortedDI hc) fun xs H Q h => by
  obtain ⟨a, kvs, ks, e, h1, h2, h3, k⟩ := h
  exact ⟨a, kvs, ks, e, .inl h1, h2, h3, k⟩
theorem call_lnD {X : Cx} : CallR X (.builtin "len") rLnD := CallRw call_lenD fun xs H Q h => by
  obtain ⟨p, kvs, e, h1, k⟩ := h
  exact ⟨p, kvs, e, h1, k⟩
def rIsI : R2 := fun x y H Q => imm x = true ∧ imm y = true ∧ Q (.bl (decide (x = y))) H
def rNotI : R2 := fun x y H Q => imm x = true ∧ imm y = true ∧ Q (.bl (!decide (x = y))) H
theorem rel_imm {x : V} {u : Value} (h : imm x = true) (r : RelV x u) : (x = .non ∧ u = Value.none) ∨ ∃ b, x = .bl b ∧ u = Value.bool b := by
  cases x with
  | non => exact .inl ⟨rfl, r⟩
  | bl b => exact .inr ⟨b, rfl, r⟩
  | _ => cases h
theorem op_isI {X : Cx} : OpR X (compareOp .Is) rIsI := by
  intro pins s σ H x y v u Q I rx ry h
  obtain ⟨i1, i2, q⟩ := h
  by_cases e : x = y
  · subst e
    have ev : v = u := by
      rcases rel_imm i1 rx with ⟨ex, ev⟩ | ⟨b, ex, ev⟩ <;> rcases rel_imm i2 ry with ⟨ex2, eu⟩ | ⟨c, ex2, eu⟩
      · rw [ev, eu]
      · rw [ex] at ex2; cases ex2
      · rw [ex] at ex2; cases ex2
      · rw [ex] at ex2; cases ex2; rw [ev, eu]
    subst ev
    refine wpAny_is_self ?_ ⟨.bl true, H, I, rfl, by simpa using q⟩
    rcases rel_imm i1 rx with ⟨ex, ev⟩ | ⟨b, ex, ev⟩ <;> rw [ev] <;> rfl
  · refine wpAny_is_other ?_ (fun z => e ?_) ⟨.bl false, H, I, rfl, by simpa [e] using q⟩
    · rcases rel_imm i1 rx with ⟨ex, ev⟩ | ⟨b, ex, ev⟩ <;> rcases rel_imm i2 ry with ⟨ex2, eu⟩ | ⟨c, ex2, eu⟩ <;> rw [ev, eu] <;> rfl
    · rcases rel_imm i1 rx with ⟨ex, ev⟩ | ⟨b, ex, ev⟩ <;> rcases rel_imm i2 ry with ⟨ex2, eu⟩ | ⟨c, ex2, eu⟩ <;> rw [ev, eu] at z <;> rw [ex, ex2] <;> first | rfl | (cases z; rfl) | cases z
theorem op_notI {X : Cx} : OpR X (compareOp .IsNot) rNotI := by
  intro pins s σ H x y v u Q I rx ry h
  obtain ⟨i1, i2, q⟩ := h
  by_cases e : x = y
  · subst e
    have ev : v = u := by
      rcases rel_imm i1 rx with ⟨ex, ev⟩ | ⟨b, ex, ev⟩ <;> rcases rel_imm i2 ry with ⟨ex2, eu⟩ | ⟨c, ex2, eu⟩
      · rw [ev, eu]
      · rw [ex] at ex2; cases ex2
      · rw [ex] at ex2; cases ex2
      · rw [ex] at ex2; cases ex2; rw [ev, eu]
    subst ev
    refine wpAny_isNot_self ?_ ⟨.bl false, H, I, rfl, by simpa using q⟩
    rcases rel_imm i1 rx with ⟨ex, ev⟩ | ⟨b, ex, ev⟩ <;> rw [ev] <;> rfl
  · refine wpAny_isNot_other ?_ (fun z => e ?_) ⟨.bl true, H, I, rfl, by simpa [e] using q⟩
    · rcases rel_imm i1 rx with ⟨ex, ev⟩ | ⟨b, ex, ev⟩ <;> rcases rel_imm i2 ry with ⟨ex2, eu⟩ | ⟨c, ex2, eu⟩ <;> rw [ev, eu] <;> rfl
    · rcases rel_imm i1 rx with ⟨ex, ev⟩ | ⟨b, ex, ev⟩ <;> rcases rel_imm i2 ry with ⟨ex2, eu⟩ | ⟨c, ex2, eu⟩ <;> rw [ev, eu] at z <;> rw [ex, ex2] <;> first | rfl | (cases z; rfl) | cases z
/-- a value's truth -/
def tTru (K : Frag) (ta : TE) : TT := fun σ H Q => ta σ H fun x H' => ∃ k, TruV K x H' k ∧ Q k H'

/-! ### isinstance of an error in hand -/
def rIsP (K : Frag) (a D : Addr) : List V → Hp → VK → Prop := fun xs H Q => ∃ c cv b, xs = [V.ref a, c] ∧ ClsV c cv ∧ ExcC K D ∧ PySem.W.kitOne K (.ref D) cv = some b ∧ Q (.bl b) H
def rIsPT (K : Frag) (a D : Addr) : List V → Hp → VK → Prop := fun xs H Q => ∃ tp cs us b, xs = [V.ref a, .ref tp] ∧ H tp = some (.tup cs) ∧ Paired ClsV cs us ∧ ExcC K D ∧ PySem.W.kitAny K (.ref D) us = some b ∧ Q (.bl b) H
section
variable {X : Cx} {p : Addr × Obj} {D : Addr}
theorem inst_pin {pins : List (Addr × Obj)} {σ : L2.St} {H : Hp} {s : Shared} (I : Inv X pins σ H s) (hp : p ∈ X.pn) (hz : Zc (.ref D) none p.2) (hf : ∃ vs, p.2.data = .fields vs) : PySem.W.InstAt s.heap p.1 p.2 D none := by
  have hget := (I.pin p (List.mem_append_left _ hp)).1
  obtain ⟨a, oc, od, dt, sl⟩ := p
  obtain ⟨h1, h2⟩ := hz
  obtain ⟨vs, hv⟩ := hf
  dsimp only at h1 h2 hv hget ⊢
  subst h1 h2 hv
  exact ⟨hget, rfl, rfl, trivial⟩
theorem call_isP (hp : p ∈ X.pn) (hz : Zc (.ref D) none p.2) (hf : ∃ vs, p.2.data = .fields vs) : CallR X (.builtin "isinstance") (rIsP X.K p.1 D) := by
  intro pins s σ H xs us Q I r h
  obtain ⟨c, cv, b, rfl, hc, C, e, q⟩ := h
  obtain ⟨u1, u2, rfl, r1, r2⟩ := vals2 r
  cases (show u1 = Value.ref p.1 from r1)
  rw [hc.eq r2]
  exact PySem.W.kia_one (PySem.W.handS_kitx_exc C.hg C.hk C.hs C.hd C.ha C.hn C.ht C.hm) I.kIn (inst_pin I hp hz hf) e (by intro z; cases z) fun tk => ⟨.bl b, H, I.tok tk, rfl, q⟩
theorem call_isPT (hp : p ∈ X.pn) (hz : Zc (.ref D) none p.2) (hf : ∃ vs, p.2.data = .fields vs) : CallR X (.builtin "isinstance") (rIsPT X.K p.1 D) := by
  intro pins s σ H xs us Q I r h
  obtain ⟨tp, cs, ws, b, rfl, hT, hc, C, e, q⟩ := h
  obtain ⟨u1, u2, rfl, r1, r2⟩ := vals2 r
  cases (show u1 = Value.ref p.1 from r1)
  cases (show u2 = Value.ref tp from r2)
  obtain ⟨_, its, rv, o, h1, h2, n, h3⟩ := (show ObjOk X.prog X.w H s.heap tp (.tup cs) from I.hok tp _ hT)
  have e3 := ClsV.all hc rv
  subst e3
  obtain ⟨oc, od, dt, sl⟩ := o
  dsimp only at h2 h3
  subst h2 h3
  exact PySem.W.kia_tup (PySem.W.handS_kitx_exc C.hg C.hk C.hs C.hd C.ha C.hn C.ht C.hm) I.kIn (inst_pin I hp hz hf) h1 e (by intro z; cases z) fun tk => ⟨.bl b, H, I.tok tk, rfl, q⟩
end
/-! ### in an except suite: the class is any -/
def rIsS (K : Frag) (a : Addr) (cls : Value) (d : Option Addr) : List V → Hp → VK → Prop := fun xs H Q => ∃ D, cls = .ref D ∧ d = none ∧ rIsP K a D xs H Q
def rIsST (K : Frag) (a : Addr) (cls : Value) (d : Option Addr) : List V → Hp → VK → Prop := fun xs H Q => ∃ D, cls = .ref D ∧ d = none ∧ rIsPT K a D xs H Q
section
variable {X : Cx} {a : Addr} {oe : Obj} {cls : Value} {d : Option Addr} {pn : List (Addr × Obj)}
theorem call_isS (hz : Zc cls d oe) (hf : ∃ vs, oe.data = .fields vs) : CallR (X.suite a ((a, oe) :: pn)) (.builtin "isinstance") (rIsS X.K a cls d) := by
  intro pins s σ H xs us Q I r h
  obtain ⟨D, rfl, rfl, h⟩ := h
  exact call_isP (X := X.suite a ((a, oe) :: pn)) (p := (a, oe)) List.mem_cons_self hz hf pins s σ H xs us Q I r h
theorem call_isST (hz : Zc cls d oe) (hf : ∃ vs, oe.data = .fields vs) : CallR (X.suite a ((a, oe) :: pn)) (.builtin "isinstance") (rIsST X.K a cls d) := by
  intro pins s σ H xs us Q I r h
  obtain ⟨D, rfl, rfl, h⟩ := h
  exact call_isPT (X := X.suite a ((a, oe) :: pn)) (p := (a, oe)) List.mem_cons_self hz hf pins s σ H xs us Q I r h
end

/-! ### defs that are handed the error -/
abbrev SpZ := Addr → Addr → Sp
def OkZ (P : Program) (w : World) (K : Frag) (mg : Str → Option Value) (base : Heap) (k : Nat) (f : Defn) (ps : List Str) (sp : SpZ) : Prop :=
  ∃ fd, (∀ a D vs H Q E, sp a D vs H Q E → vs.length = ps.length) ∧ Binds K fd ps [] ∧ PySem.W.keepIn K (.ref (He.fAd K f)) = true ∧
    ∀ (A : Around) (outer : List Env) (s : Shared) (H : Hp) (args : Args) (us : List Value) (vs : List V) (Q : VK) (E : XK) (a D : Addr) (oe : Obj), L2H.RoomH k A → L2H.PinOk outer H s (a, oe) → Zc (.ref D) none oe →
      (∃ vs, oe.data = .fields vs) → Env0 P w K mg base A outer s H → BindsTo s fd args (ps.zip us) → Vals vs us → sp a D vs H Q E →
      codeAny (model P w) A (.call (.ref (He.fAd K f)) args) (CR (L2.CX P w) outer P w H s Q E) s
section
variable {P : Program} {w : World} {K : Frag} {mg : Str → Option Value} {base : Heap}
theorem okZ {d : He.DefD} {N ps : List Str} {k : Nat} {sp : SpZ} (F : ∃ fd, FunD K d.name d.qual d.params d.body d.scope (d.dvs K) (d.kws K) (He.fAd K d.at_) fd) (hd : d.dfl = []) (S : FnScope N ps d.scope)
    (hb : ∀ (kV doc pm : Value) (an : Option Addr) (cdv ct : Value) (us : List Value), us.length = ps.length → bindArgs (PySem.W.fnOf d.name d.qual d.params d.body d.scope .none kV doc pm an cdv ct) ⟨us, []⟩ = pure (ps.zip us))
    (len : ∀ a D vs H Q E, sp a D vs H Q E → vs.length = ps.length) (t : Addr → Addr → TS)
    (hder : ∀ (cdv : Value) (A : Around) (outer : List Env) (s : Shared) (H : Hp) (E : XK) (a D : Addr) (oe : Obj), L2H.RoomH k (A.deeper (envOfC d.qual d.scope s.heap.objs.size (He.fAd K d.at_) cdv)) → Zc (.ref D) none oe → (∃ vs, oe.data = .fields vs) →
      PSs (L2H.cxH (L2.CX P w) P w K mg base N d.qual d.scope (He.fAd K d.at_) cdv A outer s H E (a, oe)).nox d.body (t a D))
    (hpu : ∀ a D vs H Q E, sp a D vs H Q E → t a D { nx := fun _ H' => Q .non H', rt := Q } (start N vs) H) : OkZ P w K mg base (k + 1) d.at_ ps sp := by
  obtain ⟨fd, F⟩ := F
  have e0 : d.dvs K = [] := by unfold He.DefD.dvs; rw [hd]; rfl
  have B : Binds K fd ps [] := by rw [e0] at F; exact F.bindsN hb
  refine ⟨fd, len, B, F.kp, ?_⟩
  obtain ⟨oc, od, dV, kV, doc, pm, an, cdv, ct, osl, rfl, lk, hcd, _, _⟩ := F.ex
  intro A outer s H args us vs Q E a D oe hr hpin hz hf e1 hbd r hsp
  have KX : K.In s.heap := e1.mod.kin.keeps fun b o e => (e1.bs b o e).1
  refine codeAny_call_function hr.depth (KX _ _ lk) rfl S.co S.gen rfl (PySem.W.codeRec_of KX hcd) (hbd _ _ _ _ ?_)
  refine wpAny_newFunctionEnv_cells S.kind (fun y hy => ?_) fun env he s1 x => ?_
  · rcases S.par y.1 (List.of_mem_zip hy).1 with q | q
    · exact .inl q
    · exact .inr ⟨q, PySem.W.cellsFrom_some _ _ _ (.inl q)⟩
  subst he
  refine ⟨(e1.mod.nolimit.keeps fun b o e => (e1.bs b o e).1).keeps x.toInCall.keep, codeAny_func ?_⟩
  have J := L2H.inv_startH (CX := L2.CX P w) (E := E) S hpin e1 (len _ _ _ _ _ _ hsp) r x
  refine wpAny_mono ((hder cdv A outer s H E a D oe (hr.deeper _) hz hf).nox.run [] s1 (start N vs) H _ J (hpu _ _ _ _ _ _ hsp)) (fun fl s' hs => ?_) fun e s' hs => hs
  match fl, hs with
  | .ret u, ⟨v, σ', H', J2, rv, q⟩ => exact ⟨v, H', J2.os, J2.bare, J2.base, J2.hok, rv, q⟩
  | .next, ⟨σ', H', J2, q⟩ => exact ⟨.non, H', J2.os, J2.bare, J2.base, J2.hok, rfl, q⟩
  | .brk, ⟨_, _, _, q⟩ => exact False.elim q
  | .cont, ⟨_, _, _, q⟩ => exact False.elim q
end
/-- f(e) in the suite, e the error in hand -/
def tCZ (K : Frag) (a : Addr) (cls : Value) (d : Option Addr) (sp : SpZ) (t : TA) : TE := fun σ H Q => t σ H fun vs H1 => ∃ D, cls = .ref D ∧ d = none ∧ sp a D vs H1 Q (fun _ _ _ => False)
theorem pe_cZ {X : Cx} {a : Addr} {oe : Obj} {cls : Value} {d : Option Addr} {pn : List (Addr × Obj)} {k : Nat} {x : Str} {ps : List Str} {sp : SpZ} {e : Expr} {es : List Expr} {pos p : Pos} {t : TA} (hz : Zc cls d oe) (hf : ∃ vs, oe.data = .fields vs)
    (G : OkZ X.prog X.w X.K X.mg X.base k (x, none) ps sp) (hr : L2H.RoomH k (X.A.mark (some (.ref a)))) (hm : X.mg x = some (.ref (He.ga X.K x))) (ha : PA (X.suite a ((a, oe) :: pn)) (e :: es) t) (hg : Gl (X.suite a ((a, oe) :: pn)) x := by rfl)
    (hdb : (x == ("__debug__" : Str)) = false := by decide) (he : starEach (e :: es) X.env = (false, eval e X.env) :: starEach es X.env := by rfl) (hpl : (backTo pos (starEach es X.env)).any (·.1) = false := by rfl) :
    PE (X.suite a ((a, oe) :: pn)) (.Call (.Name x p) (e :: es) [] pos) (tCZ X.K a cls d sp t) := by
  obtain ⟨fd, len, b, kp, run⟩ := G
  refine ⟨fun pins s σ H Q I h => wpAny_Call_Name_kw (ld_glob I hg hm ?_ hdb)⟩
  refine PySem.W.callWith_K (h₀ := X.base) I.ok.mod.kin kp (thn (ha.run pos pins s σ H _ I h) fun us s1 hh => ?_) he hpl
  obtain ⟨vs, H1, I1, r, D, rfl, rfl, q⟩ := hh
  refine ⟨I1.kIn, ?_⟩
  have hl : us.length = ps.length := by rw [← r.length]; exact len _ _ _ _ _ _ q
  have bd := b s1 us I1.kIn (by rw [List.append_nil]; exact hl)
  rw [List.append_nil] at bd
  have P1 := I1.pin (a, oe) (List.mem_append_left _ List.mem_cons_self)
  have hpin : L2H.PinOk X.stack H1 s1 (a, oe) := ⟨P1.1, P1.2.1, fun hm => (List.mem_cons.mp (I1.stkSub _ hm)).elim P1.2.2.1 P1.2.2.2.1, P1.2.2.2.2⟩
  show wpAny _ _ (call (.ref (He.fAd X.K (x, none))) us) _ _ _
  refine wpAny_call (codeAny_mono (run (X.A.mark (some (.ref a))) X.stack s1 H1 ⟨us, []⟩ us vs Q _ a D oe hr hpin hz hf I1.env0 bd r q) fun r s' hq => ?_)
  match r, hq with
  | .error u, hq =>
    obtain ⟨_, _, _, _, _, _, _, _, _, _, _, _, z⟩ := hq
    exact z.elim
  | .ok (.ret u), hq => exact I1.after hq
  | .ok .next, hq => exact False.elim hq
  | .ok .brk, hq => exact False.elim hq
  | .ok .cont, hq => exact False.elim hq
end Pn

namespace Pn
open PySem PySem.Spec PyProof.Rows L2
/-! ### the program's errors -/
structure ExcK (K : Frag) : Prop where
  cls : ∀ x, x ∈ excN → ExcC K (He.ga K x)
  kit : ∀ x, x ∈ excN → ∀ y, y ∈ excN → PySem.W.kitOne K (.ref (He.ga K x)) (.ref (He.ga K y)) = some (decide (x = y))
  ve : ∀ x, x ∈ excN → PySem.W.kitOne K (.ref (He.ga K x)) (.type "ValueError") = some true
  exm : ∀ x, x ∈ excN → PySem.W.exmOne K (.ref (He.ga K x)) (.ref (He.ga K "PaneError")) = some true
theorem excB_ok {K : Frag} (h : excB K = true) : ExcK K := by
  unfold excB excCB at h
  simp only [Bool.and_eq_true, List.all_eq_true, decide_eq_true_eq] at h
  obtain ⟨⟨h1, h2⟩, h⟩ := h
  refine ⟨fun x hx => ?_, fun x hx y hy => ((h x hx).2.1 y hy), fun x hx => (h x hx).2.2.1, fun x hx => (h x hx).2.2.2⟩
  obtain ⟨⟨⟨a, b⟩, ⟨c, d⟩, e, f⟩, _⟩ := h x hx
  exact ⟨a, b, c, d, e, h1, h2, f⟩
/-- try: .. except x as n: .. -/
def tTryAs (K : Frag) (x : Str) (i : Nat) (tb : WX → TS) (ts : Addr → Value → Option Addr → TS) : TS := fun D σ H => tb (wAs K (.ref (He.ga K x)) i ts (fun _ _ _ _ => False) D) D σ H
/-- what is due where the body lets one of the program's errors out -/
theorem wAs_in {K : Frag} (X : ExcK K) {x : Str} (hx : x ∈ excN) {i : Nat} {ts : Addr → Value → Option Addr → TS} {D : Ends} {σ : L2.St} {H : Hp}
    (h : ∀ a, H a = none → ts a (.ref (He.ga K x)) none { nx := fun σ' H' => D.nx (σ'.set i none) H', rt := D.rt, bk := fun σ' H' => D.bk (σ'.set i none) H', ct := fun σ' H' => D.ct (σ'.set i none) H' } (σ.set i (some (.ref a))) H) :
    wAs K (.ref (He.ga K "PaneError")) i ts (fun _ _ _ _ => False) D (.ref (He.ga K x)) none σ H :=
  ⟨true, X.exm x hx, fun _ => h, fun z => Bool.noConfusion z⟩
theorem kit_any {K : Frag} (X : ExcK K) {x : Str} (hx : x ∈ excN) : ∀ {ys : List Str}, (∀ y, y ∈ ys → y ∈ excN) → PySem.W.kitAny K (.ref (He.ga K x)) (ys.map fun y => Value.ref (He.ga K y)) = some (decide (x ∈ ys))
  | [], _ => by simp [PySem.W.kitAny]
  | y :: ys, h => by
    have ih := kit_any X hx (ys := ys) fun z hz => h z (List.mem_cons_of_mem _ hz)
    have e := X.kit x hx y (h y (by simp))
    show (match PySem.W.kitOne K (.ref (He.ga K x)) (.ref (He.ga K y)) with | some true => some true | some false => PySem.W.kitAny K (.ref (He.ga K x)) (ys.map fun y => Value.ref (He.ga K y)) | none => none) = _
    rw [e]
    by_cases q : x = y
    · subst q; simp
    · simp [q, ih]
theorem clsV_all {K : Frag} : ∀ ys : List Str, Paired ClsV (ys.map fun y => V.ref (He.ga K y)) (ys.map fun y => Value.ref (He.ga K y))
  | [] => .nil
  | y :: ys => .cons (.own _) (clsV_all ys)
/-- isinstance(e, (y, ..)) -/
theorem i_isPT {K : Frag} (X : ExcK K) {x : Str} (hx : x ∈ excN) (ys : List Str) (hy : ∀ y, y ∈ ys → y ∈ excN) {a tp : Addr} {H : Hp} {Q : VK} (hT : H tp = some (.tup (ys.map fun y => V.ref (He.ga K y)))) (h : Q (.bl (decide (x ∈ ys))) H) :
    rIsPT K a (He.ga K x) [.ref a, .ref tp] H Q := ⟨tp, _, _, _, rfl, hT, clsV_all ys, X.cls x hx, kit_any X hx hy, h⟩
theorem i_isPx {K : Frag} (X : ExcK K) {x y : Str} (hx : x ∈ excN) (hy : y ∈ excN) {a : Addr} {H : Hp} {Q : VK} (h : Q (.bl (decide (x = y))) H) : rIsP K a (He.ga K x) [.ref a, .ref (He.ga K y)] H Q :=
  ⟨_, _, _, rfl, .own _, X.cls x hx, X.kit x hx y hy, h⟩
theorem i_isPv {K : Frag} (X : ExcK K) {x : Str} (hx : x ∈ excN) {a : Addr} {H : Hp} {Q : VK} (h : Q (.bl true) H) : rIsP K a (He.ga K x) [.ref a, .ty "ValueError"] H Q :=
  ⟨_, _, _, rfl, .ty _, X.cls x hx, X.ve x hx, h⟩
theorem i_isSx {K : Frag} {x : Str} {a : Addr} {H : Hp} {Q : VK} {xs : List V} (h : rIsP K a (He.ga K x) xs H Q) : rIsS K a (.ref (He.ga K x)) none xs H Q := ⟨_, rfl, rfl, h⟩
theorem i_isST {K : Frag} {x : Str} {a : Addr} {H : Hp} {Q : VK} {xs : List V} (h : rIsPT K a (He.ga K x) xs H Q) : rIsST K a (.ref (He.ga K x)) none xs H Q := ⟨_, rfl, rfl, h⟩
end Pn

/-! # Q1: the defs' promises and readings: what is made. -/
namespace Pn
open PySem PySem.Spec PyProof.Rows L2

/-- the wish of a def that raises x -/
abbrev rz (K : Frag) (x : Str) (E : XK) (H : Hp) : Prop := E (.ref (He.ga K x)) none H

/-! ### an instance on its way through __init__ -/
structure IniAt (H0 H : Hp) (p : Addr) (C : Addr) (ns : List Str) (dx : Addr) (vs : List V) (cs : List T) (S : List Addr) : Prop where
  hp : H p = some (.ins C dx (ns.zip vs))
  own : OwnL H vs cs S
  nd : (p :: S).Nodup
  ch : Chg [p] (p :: S) H0 H
section
variable {H0 H H1 : Hp} {p C dx : Addr} {ns : List Str} {vs : List V} {cs : List T} {S Sc : List Addr}
theorem IniAt.start (h : H p = some (.ins C dx (ns.zip []))) : IniAt H H p C ns dx [] [] [] := ⟨h, OwnL.nil, by simp, Chg.refl⟩
theorem IniAt.leaf (I : IniAt H0 H p C ns dx vs cs S) (x : V) : IniAt H0 (upd H p (.ins C dx (ns.zip (vs ++ [x])))) p C ns dx (vs ++ [x]) (cs ++ [.v x]) S := by
  have c : Chg (p :: S) (p :: S) H (upd H p (.ins C dx (ns.zip (vs ++ [x])))) := Chg.set I.hp (by simp) (by simp)
  have np : p ∉ S := (List.nodup_cons.mp I.nd).1
  refine ⟨upd_same, ?_, I.nd, I.ch.trans c⟩
  have e : S = S ++ [] := by simp
  rw [e]
  refine OwnL.append (I.own.keep fun a o ha hs => ?_) (OwnL.one Own.leaf)
  rw [upd_ne]
  · exact ha
  · intro z
    subst z
    rcases hs with hs | ⟨xs, rfl⟩
    · exact np hs
    · rw [I.hp] at ha; cases ha
theorem IniAt.child (I : IniAt H0 H p C ns dx vs cs S) {y : V} {c : T} (cg : Chg [] Sc H H1) (h : At H1 y c Sc) :
    H1 p = some (.ins C dx (ns.zip vs)) ∧ IniAt H0 (upd H1 p (.ins C dx (ns.zip (vs ++ [y])))) p C ns dx (vs ++ [y]) (cs ++ [c]) (S ++ Sc) := by
  have hp1 := cg.keep p _ I.hp (by simp)
  have np : p ∉ S := (List.nodup_cons.mp I.nd).1
  have al : ∀ a, a ∈ Sc → H a = none := fun a ha => (cg.new a ha).resolve_left (by simp)
  have npc : p ∉ Sc := fun z => by
    have := al p z
    rw [I.hp] at this; cases this
  have kp : ∀ (Z : List Addr), p ∉ Z → ∀ a o, H1 a = some o → (a ∈ Z ∨ ∃ xs, o = .tup xs) → upd H1 p (.ins C dx (ns.zip (vs ++ [y]))) a = some o := fun Z hZ a o ha hs => by
    rw [upd_ne]
    · exact ha
    · intro z
      subst z
      rcases hs with hs | ⟨xs, rfl⟩
      · exact hZ hs
      · rw [hp1] at ha; cases ha
  refine ⟨hp1, upd_same, OwnL.append ((I.own.keep (H' := H1) fun a o ha _ => cg.keep a o ha (by simp)).keep (kp S np)) (OwnL.one (h.1.keep (kp Sc npc))), ?_, ?_⟩
  · rw [List.nodup_cons]
    refine ⟨fun z => ?_, List.nodup_append.mpr ⟨(List.nodup_cons.mp I.nd).2, h.2, fun a ha b hb e => ?_⟩⟩
    · rcases List.mem_append.mp z with z | z
      · exact np z
      · exact npc z
    · subst e
      obtain ⟨o, z, _⟩ := I.own.alloc a ha
      rw [al a hb] at z; cases z
  · refine I.ch.trans (Chg.trans (S1 := p :: (S ++ Sc)) ⟨fun a o ha hn => cg.keep a o ha (by simp), cg.tup, fun a ha => ?_⟩ (Chg.set hp1 (by simp) (by simp)))
    rcases List.mem_cons.mp ha with e | ha
    · exact .inl (by rw [e]; simp)
    · rcases List.mem_append.mp ha with ha | ha
      · exact .inl (List.mem_cons_of_mem _ ha)
      · exact .inr (al a ha)
theorem IniAt.done (I : IniAt H0 H p C ns dx vs cs S) : At H (.ref p) (.n (.obj C ns) cs) (p :: S) ∧ Chg [p] (p :: S) H0 H :=
  ⟨⟨Own.node (k := .obj C ns) I.hp I.own, I.nd⟩, I.ch⟩
/-- a list of immediates, new -/
theorem at_leaves {α : Type} {f : α → V} {l : List α} {D : Addr} (hD : H D = none) : At (upd H D (.lst (l.map f))) (.ref D) (.n .lst (l.map fun x => .v (f x))) [D] :=
  ⟨Own.node (k := .lst) (dx := 0) upd_same ownL_leaves, by simp⟩
theorem at_nil {D : Addr} (hD : H D = none) : At (upd H D (.lst [])) (.ref D) (.n .lst []) [D] := ⟨Own.node (k := .lst) (dx := 0) upd_same OwnL.nil, by simp⟩
theorem at_dnil {D : Addr} (hD : H D = none) : At (upd H D (.dK [])) (.ref D) (.n (.dct []) []) [D] := ⟨Own.node (k := .dct []) (dx := 0) upd_same OwnL.nil, by simp⟩
end
theorem map_range_const {α : Type} (n : Nat) (x : α) : (List.range n).map (fun _ => x) = List.replicate n x := by
  induction n with
  | zero => rfl
  | succ n ih => rw [List.range_succ, List.map_append, ih, List.replicate_succ']; rfl

/-! ### the makings -/
def sp_Book_init (K : Frag) : Sp := fun vs H Q _ => ∃ p dx s, vs = [V.ref p, .int s] ∧ H p = some (.ins (He.ga K "Book") dx (nsBook.zip [])) ∧
  ∀ H' S', At H' (.ref p) (bookT K ⟨s, []⟩) S' → Chg [p] S' H H' → Q .non H'
theorem sl_Book_init {K : Frag} : ∀ vs H Q E, sp_Book_init K vs H Q E → vs.length = (["self", "slots"] : List Str).length := by
  intro vs H Q E h
  unfold sp_Book_init at h
  repeat (first | (obtain ⟨e, _⟩ := h; exact congrArg List.length e) | (obtain ⟨_, h⟩ := h))
/- 0 self 1 slots -/
abbrev N_Book_init : List Str := ["self", "slots"]
def t_Book_init (K : Frag) : TS :=
  tSeq (sFA (He.ga K "Book") nsBook 0 (tVar 0) (tVar 1)) (sFA (He.ga K "Book") nsBook 1 (tVar 0) (tLst (tNil)))
theorem pu_Book_init {K : Frag} : ∀ vs H Q E, sp_Book_init K vs H Q E → t_Book_init K { nx := fun _ H' => Q .non H', rt := Q } (start N_Book_init vs) H := by
  rintro vs H Q E ⟨p, dx, s, rfl, hp, k⟩
  unfold t_Book_init
  walk_at "r"
  have I := (IniAt.start hp).leaf (.int s)
  have hp := I.hp
  refine i_new (by decide) fun l hl => ?_
  obtain ⟨hp, I⟩ := I.child (Chg.one hl) (at_nil hl)
  walk_at "r"
  obtain ⟨a, c⟩ := I.done
  exact k _ _ a c
def sp_Dial_init (K : Frag) : Sp := fun vs H Q _ => ∃ p dx, ∃ n : Nat, vs = [V.ref p, .int n] ∧ H p = some (.ins (He.ga K "Dial") dx (nsDial.zip [])) ∧ n < 100000 ∧
  ∀ H' S', At H' (.ref p) (dialT K ⟨0, List.replicate n false⟩) S' → Chg [p] S' H H' → Q .non H'
theorem sl_Dial_init {K : Frag} : ∀ vs H Q E, sp_Dial_init K vs H Q E → vs.length = (["self", "many"] : List Str).length := by
  intro vs H Q E h
  unfold sp_Dial_init at h
  repeat (first | (obtain ⟨e, _⟩ := h; exact congrArg List.length e) | (obtain ⟨_, h⟩ := h))
/- 0 self 1 many 2 frame -/
abbrev N_Dial_init : List Str := ["self", "many", "frame"]
def t_Dial_init (K : Frag) : TS :=
  tSeq (sFA (He.ga K "Dial") nsDial 0 (tVar 0) (tC (.int 0))) (sFA (He.ga K "Dial") nsDial 1 (tVar 0) (tLc (iRng1 (tCons (tVar 1) (tNil))) (gName 2) (tYes) (tC (.bl false)) [2]))
theorem pu_Dial_init {K : Frag} : ∀ vs H Q E, sp_Dial_init K vs H Q E → t_Dial_init K { nx := fun _ H' => Q .non H', rt := Q } (start N_Dial_init vs) H := by
  rintro vs H Q E ⟨p, dx, n, rfl, hp, hn, k⟩
  unfold t_Dial_init
  walk_at "r"
  have I := (IniAt.start hp).leaf (.int 0)
  have hp := I.hp
  refine lcr_pure (fun _ => V.bl false) hn ?_ fun D hD => ?_
  · exact fun j hj acc D hD Qv q => q
  rw [map_range_const, ← List.map_replicate (f := V.bl)]
  obtain ⟨hp, I⟩ := I.child (Chg.one hD) (at_leaves hD)
  walk_at "r"
  obtain ⟨a, c⟩ := I.done
  exact k _ _ a c
def sp_Files_init (K : Frag) : Sp := fun vs H Q _ => ∃ p dx, vs = [V.ref p] ∧ H p = some (.ins (He.ga K "Files") dx (nsFiles.zip [])) ∧
  ∀ H' S', At H' (.ref p) (filesT K []) S' → Chg [p] S' H H' → Q .non H'
theorem sl_Files_init {K : Frag} : ∀ vs H Q E, sp_Files_init K vs H Q E → vs.length = (["self"] : List Str).length := by
  intro vs H Q E h
  unfold sp_Files_init at h
  repeat (first | (obtain ⟨e, _⟩ := h; exact congrArg List.length e) | (obtain ⟨_, h⟩ := h))
/- 0 self -/
abbrev N_Files_init : List Str := ["self"]
def t_Files_init (K : Frag) : TS :=
  sFA (He.ga K "Files") nsFiles 0 (tVar 0) (tDNewK)
theorem pu_Files_init {K : Frag} : ∀ vs H Q E, sp_Files_init K vs H Q E → t_Files_init K { nx := fun _ H' => Q .non H', rt := Q } (start N_Files_init vs) H := by
  rintro vs H Q E ⟨p, dx, rfl, hp, k⟩
  unfold t_Files_init
  walk_at "r"
  intro l hl
  obtain ⟨hp, I⟩ := (IniAt.start hp).child (Chg.one hl) (at_dnil hl)
  walk_at "r"
  obtain ⟨a, c⟩ := I.done
  exact k _ _ a c
def sp_Frames_init (K : Frag) : Sp := fun vs H Q _ => ∃ p dx, ∃ n : Nat, vs = [V.ref p, .int n] ∧ H p = some (.ins (He.ga K "Frames") dx (nsFrames.zip [])) ∧ n < 100000 ∧
  ∀ H' S', At H' (.ref p) (framesT K ⟨List.replicate n none, List.replicate n [], List.replicate n false⟩) S' → Chg [p] S' H H' → Q .non H'
theorem sl_Frames_init {K : Frag} : ∀ vs H Q E, sp_Frames_init K vs H Q E → vs.length = (["self", "many"] : List Str).length := by
  intro vs H Q E h
  unfold sp_Frames_init at h
  repeat (first | (obtain ⟨e, _⟩ := h; exact congrArg List.length e) | (obtain ⟨_, h⟩ := h))
/- 0 self 1 many 2 frame -/
abbrev N_Frames_init : List Str := ["self", "many", "frame"]
def t_Frames_init (K : Frag) : TS :=
  tSeq (sFA (He.ga K "Frames") nsFrames 0 (tVar 0) (tLc (iRng1 (tCons (tVar 1) (tNil))) (gName 2) (tYes) (tC .non) [2])) (tSeq (sFA (He.ga K "Frames") nsFrames 1 (tVar 0) (tLc (iRng1 (tCons (tVar 1) (tNil))) (gName 2) (tYes) (tLst (tNil)) [2])) (sFA (He.ga K "Frames") nsFrames 2 (tVar 0) (tLc (iRng1 (tCons (tVar 1) (tNil))) (gName 2) (tYes) (tC (.bl false)) [2])))
theorem pu_Frames_init {K : Frag} : ∀ vs H Q E, sp_Frames_init K vs H Q E → t_Frames_init K { nx := fun _ H' => Q .non H', rt := Q } (start N_Frames_init vs) H := by
  rintro vs H Q E ⟨p, dx, n, rfl, hp, hn, k⟩
  unfold t_Frames_init
  walk_at "r"
  refine lcr_pure (fun _ => V.non) hn ?_ fun D hD => ?_
  · exact fun j hj acc D hD Qv q => q
  rw [map_range_const, ← List.map_replicate (f := fun _ : Option ThingM => V.non) (a := none)]
  obtain ⟨hp, I⟩ := (IniAt.start hp).child (Chg.one hD) (at_leaves hD)
  walk_at "r"
  have hp := I.hp
  refine lcr_own (fun _ => rowT []) hn (fun j hj H1 _ Qv q => ?_) fun D2 H2 S2 a2 c2 => ?_
  · walk_at "r"
    refine i_new (by decide) fun l hl => ?_
    exact q _ _ [l] (at_nil hl) (Chg.one hl)
  rw [map_range_const] at a2
  obtain ⟨hp, I⟩ := I.child c2 a2
  walk_at "r"
  have hp := I.hp
  refine lcr_pure (fun _ => V.bl false) hn ?_ fun D3 hD3 => ?_
  · exact fun j hj acc D hD Qv q => q
  rw [map_range_const, ← List.map_replicate (f := V.bl)]
  obtain ⟨hp, I⟩ := I.child (Chg.one hD3) (at_leaves hD3)
  walk_at "r"
  obtain ⟨a, c⟩ := I.done
  refine k _ _ ?_ c
  have e : framesT K ⟨List.replicate n none, List.replicate n [], List.replicate n false⟩ = .n (.obj (He.ga K "Frames") nsFrames) ([] ++ [.n .lst ((List.replicate n (none : Option ThingM)).map fun _ => T.v V.non)] ++ [.n .lst (List.replicate n (rowT []))] ++ [.n .lst ((List.replicate n false).map fun x => .v (.bl x))]) := by
    simp [framesT, listT, thingT, List.map_replicate]
  rw [e]; exact a
def sp_Shelf_init (K : Frag) : Sp := fun vs H Q _ => ∃ p dx, ∃ n : Nat, vs = [V.ref p, .int n] ∧ H p = some (.ins (He.ga K "Shelf") dx (nsShelf.zip [])) ∧ n < 100000 ∧
  ∀ H' S', At H' (.ref p) (shelfT K ⟨List.replicate n none, []⟩) S' → Chg [p] S' H H' → Q .non H'
theorem sl_Shelf_init {K : Frag} : ∀ vs H Q E, sp_Shelf_init K vs H Q E → vs.length = (["self", "many"] : List Str).length := by
  intro vs H Q E h
  unfold sp_Shelf_init at h
  repeat (first | (obtain ⟨e, _⟩ := h; exact congrArg List.length e) | (obtain ⟨_, h⟩ := h))
/- 0 self 1 many 2 place -/
abbrev N_Shelf_init : List Str := ["self", "many", "place"]
def t_Shelf_init (K : Frag) : TS :=
  tSeq (sFA (He.ga K "Shelf") nsShelf 0 (tVar 0) (tLc (iRng1 (tCons (tVar 1) (tNil))) (gName 2) (tYes) (tC .non) [2])) (sFA (He.ga K "Shelf") nsShelf 1 (tVar 0) (tDNewK))
theorem pu_Shelf_init {K : Frag} : ∀ vs H Q E, sp_Shelf_init K vs H Q E → t_Shelf_init K { nx := fun _ H' => Q .non H', rt := Q } (start N_Shelf_init vs) H := by
  rintro vs H Q E ⟨p, dx, n, rfl, hp, hn, k⟩
  unfold t_Shelf_init
  walk_at "r"
  refine lcr_pure (fun _ => V.non) hn ?_ fun D hD => ?_
  · exact fun j hj acc D hD Qv q => q
  rw [map_range_const, show V.non = optI none from rfl, ← List.map_replicate (f := optI) (a := none)]
  obtain ⟨hp, I⟩ := (IniAt.start hp).child (Chg.one hD) (at_leaves hD)
  walk_at "r"
  have hp := I.hp
  intro l hl
  obtain ⟨hp, I⟩ := I.child (Chg.one hl) (at_dnil hl)
  walk_at "r"
  obtain ⟨a, c⟩ := I.done
  exact k _ _ a c
/-- a making, by what __init__ promises of the new instance -/
theorem mk_of {C : Addr} {sp : Sp} {W : WX} {us : List V} {H : Hp} {R : Addr → Hp → Prop} {σ : L2.St} (ns : List Str) (t : T)
    (hi : ∀ x dx H0 (R : VK), H0 x = some (.ins C dx (ns.zip [])) → (∀ H' S', At H' (.ref x) t S' → Chg [x] S' H0 H' → R .non H') → sp (.ref x :: us) H0 R (WE W σ))
    (k : ∀ x H' S', At H' (.ref x) t S' → Chg [] S' H H' → R x H') :
    ∀ x dx, H x = none → H dx = none → dx ≠ x → sp (.ref x :: us) (upd (upd H dx (.own x)) x (.ins C dx [])) (fun v H2 => v = .non ∧ R x H2) (WE W σ) := by
  intro x dx nx nd ne
  refine hi x dx _ _ (by rw [upd_same, List.zip_nil_right]) fun H' S' a c => ⟨rfl, k x H' S' a (Chg.made nx nd c)⟩
def newStore (n m : Nat) : StoreM := ⟨⟨List.replicate n none, List.replicate n [], List.replicate n false⟩, ⟨0, List.replicate n false⟩, ⟨List.replicate m none, []⟩, [], [], 0⟩
def sp_Store_init (K : Frag) : Sp := fun vs H Q _ => ∃ p dx, ∃ n m : Nat, vs = [V.ref p, .int n, .int m] ∧ H p = some (.ins (He.ga K "Store") dx (nsStore.zip [])) ∧ n < 100000 ∧ m < 100000 ∧
  ∀ H' S', At H' (.ref p) (storeT K (newStore n m)) S' → Chg [p] S' H H' → Q .non H'
theorem sl_Store_init {K : Frag} : ∀ vs H Q E, sp_Store_init K vs H Q E → vs.length = (["self", "many", "places"] : List Str).length := by
  intro vs H Q E h
  unfold sp_Store_init at h
  repeat (first | (obtain ⟨e, _⟩ := h; exact congrArg List.length e) | (obtain ⟨_, h⟩ := h))
/- 0 self 1 many 2 places -/
abbrev N_Store_init : List Str := ["self", "many", "places"]
def t_Store_init (K : Frag) : TS :=
  tSeq (sFA (He.ga K "Store") nsStore 0 (tVar 0) (tMk (He.ga K "Frames") (sp_Frames_init K) W0 (tCons (tVar 1) (tNil)))) (tSeq (sFA (He.ga K "Store") nsStore 1 (tVar 0) (tMk (He.ga K "Dial") (sp_Dial_init K) W0 (tCons (tVar 1) (tNil)))) (tSeq (sFA (He.ga K "Store") nsStore 2 (tVar 0) (tMk (He.ga K "Shelf") (sp_Shelf_init K) W0 (tCons (tVar 2) (tNil)))) (tSeq (sFA (He.ga K "Store") nsStore 3 (tVar 0) (tMk (He.ga K "Files") (sp_Files_init K) W0 (tNil))) (tSeq (sFA (He.ga K "Store") nsStore 4 (tVar 0) (tDNewK)) (sFA (He.ga K "Store") nsStore 5 (tVar 0) (tC (.int 0)))))))
theorem pu_Store_init {K : Frag} : ∀ vs H Q E, sp_Store_init K vs H Q E → t_Store_init K { nx := fun _ H' => Q .non H', rt := Q } (start N_Store_init vs) H := by
  rintro vs H Q E ⟨p, dx, n, m, rfl, hp, hn, hm, k⟩
  unfold t_Store_init
  walk_at "r"
  refine mk_of nsFrames (framesT K (newStore n m).fr) (fun x dx H0 R hx k => ⟨x, dx, n, rfl, hx, hn, k⟩) fun x1 H1 S1 a1 c1 => ?_
  obtain ⟨hp, I⟩ := (IniAt.start hp).child c1 a1
  walk_at "r"
  have hp := I.hp
  refine mk_of nsDial (dialT K (newStore n m).di) (fun x dx H0 R hx k => ⟨x, dx, n, rfl, hx, hn, k⟩) fun x2 H2 S2 a2 c2 => ?_
  obtain ⟨hp, I⟩ := I.child c2 a2
  walk_at "r"
  have hp := I.hp
  refine mk_of nsShelf (shelfT K (newStore n m).sh) (fun x dx H0 R hx k => ⟨x, dx, m, rfl, hx, hm, k⟩) fun x3 H3 S3 a3 c3 => ?_
  obtain ⟨hp, I⟩ := I.child c3 a3
  walk_at "r"
  have hp := I.hp
  refine mk_of nsFiles (filesT K []) (fun x dx H0 R hx k => ⟨x, dx, rfl, hx, k⟩) fun x4 H4 S4 a4 c4 => ?_
  obtain ⟨hp, I⟩ := I.child c4 a4
  walk_at "r"
  have hp := I.hp
  intro l hl
  obtain ⟨hp, I⟩ := I.child (Chg.one hl) (at_dnil hl)
  walk_at "r"
  have hp := I.hp
  have I := I.leaf (.int 0)
  walk_at "r"
  obtain ⟨a, c⟩ := I.done
  exact k _ _ a c
end Pn

/-! # Q2: numbers; what a world tells. -/
namespace Pn
open PySem PySem.Spec PyProof.Rows L2

/-! ### kinds -/
def kb (m n : String) : Bool := m == n || (m == "bool" && n == "int")
theorem kitB_kb : ∀ m ∈ ["NoneType", "bool", "int", "str", "list", "tuple", "dict"], ∀ n ∈ ["int", "bool", "str", "list", "tuple"], kitB m n = some (kb m n) := by decide +kernel
theorem tyN_mem {x : V} {H : Hp} {m : String} (h : tyN x H = some m) : m ∈ ["NoneType", "bool", "int", "str", "list", "tuple", "dict"] := by
  cases x with
  | non => cases h; simp
  | bl b => cases h; simp
  | int i => cases h; simp
  | str z => cases h; simp
  | byt _ => cases h
  | flt _ => cases h
  | ty _ => cases h
  | ref a =>
    have h2 : (match H a with | some (.lst _) => some "list" | some (.tup _) => some "tuple" | some (.dK _) => some "dict" | _ => none) = some m := h
    split at h2 <;> first | (cases h2; simp) | cases h2
theorem i_isk {n m : String} {x : V} {H : Hp} {Q : VK} (hn : n ∈ ["int", "bool", "str", "list", "tuple"]) (h : tyN x H = some m) (k : Q (.bl (kb m n)) H) : rIs n [x, .ty n] H Q :=
  i_is h (kitB_kb m (tyN_mem h) n hn) k
def isI : V → Bool
  | .int _ => true
  | _ => false
theorem kb_int {x : V} {H : Hp} {m : String} (h : tyN x H = some m) : (kb m "int" && !kb m "bool") = isI x := by
  cases x with
  | non => cases h; rfl
  | bl b => cases h; rfl
  | int i => cases h; rfl
  | str z => cases h; rfl
  | byt _ => cases h
  | flt _ => cases h
  | ty _ => cases h
  | ref a =>
    have h2 : (match H a with | some (.lst _) => some "list" | some (.tup _) => some "tuple" | some (.dK _) => some "dict" | _ => none) = some m := h
    split at h2 <;> first | (cases h2; rfl) | cases h2

def sp_is_whole (K : Frag) : Sp := fun vs H Q _ => ∃ x m, vs = [x] ∧ tyN x H = some m ∧ Q (.bl (isI x)) H
theorem sl_is_whole {K : Frag} : ∀ vs H Q E, sp_is_whole K vs H Q E → vs.length = (["thing"] : List Str).length := by
  intro vs H Q E h
  unfold sp_is_whole at h
  repeat (first | (obtain ⟨e, _⟩ := h; exact congrArg List.length e) | (obtain ⟨_, h⟩ := h))
/- 0 thing -/
abbrev N_is_whole : List Str := ["thing"]
def t_is_whole (K : Frag) : TS :=
  tRet (tAndV (tCB (rIs "int") (tCons (tVar 0) (tCons (tC (.ty "int")) tNil))) (tNotV (tCB (rIs "bool") (tCons (tVar 0) (tCons (tC (.ty "bool")) tNil)))))
theorem pu_is_whole {K : Frag} : ∀ vs H Q E, sp_is_whole K vs H Q E → t_is_whole K { nx := fun _ H' => Q .non H', rt := Q } (start N_is_whole vs) H := by
  rintro vs H Q E ⟨x, m, rfl, hm, k⟩
  unfold t_is_whole
  walk_at "r"
  refine i_isk (by simp) hm ?_
  refine i_bl ?_
  rw [← kb_int hm] at k
  cases h1 : kb m "int" with
  | false =>
    rw [h1] at k
    rw [if_neg Bool.false_ne_true]
    exact k
  | true =>
    rw [h1] at k
    rw [if_pos rfl]
    walk_at "r"
    refine i_isk (by simp) hm ?_
    walk_at "r"
    exact k
def inB (x : V) (lo hi : Int) : Bool := match x with
  | .int i => decide (lo ≤ i) && decide (i ≤ hi)
  | _ => false
def sp_number (K : Frag) : Sp := fun vs H Q E => ∃ x lo hi m, vs = [x, .int lo, .int hi] ∧ tyN x H = some m ∧ (inB x lo hi = true → Q x H) ∧ (inB x lo hi = false → rz K "NoNumber" E H)
theorem sl_number {K : Frag} : ∀ vs H Q E, sp_number K vs H Q E → vs.length = (["thing", "low", "high"] : List Str).length := by
  intro vs H Q E h
  unfold sp_number at h
  repeat (first | (obtain ⟨e, _⟩ := h; exact congrArg List.length e) | (obtain ⟨_, h⟩ := h))
/- 0 thing 1 low 2 high -/
abbrev N_number : List Str := ["thing", "low", "high"]
def t_number (K : Frag) (W : WX) : TS :=
  tSeq (tIfS (tOr (tNot (tB (tCallS (sp_is_whole K) (WE W0) (tCons (tVar 0) (tNil))))) (tOr (tTest (tOp r_lt (tVar 0) (tVar 1))) (tTest (tOp r_gt (tVar 0) (tVar 2))))) (tRaise (He.ga K "NoNumber") W) (tNext)) (tRet (tVar 0))
theorem pu_number {K : Frag} : ∀ vs H Q E, sp_number K vs H Q E → t_number K (WR E) { nx := fun _ H' => Q .non H', rt := Q } (start N_number vs) H := by
  rintro vs H Q E ⟨x, lo, hi, m, rfl, hm, k1, k2⟩
  unfold t_number
  walk_at "r"
  refine ⟨x, m, rfl, hm, ?_⟩
  walk_at "r"
  cases x with
  | int i =>
    have e : (!isI (.int i)) = false := rfl
    rw [e, if_neg Bool.false_ne_true]
    walk_at "r"
    by_cases h1 : i < lo
    · rw [if_pos (decide_eq_true h1), if_pos rfl]
      walk_at "r"
      exact k2 (by simp [inB]; omega)
    · rw [if_neg (by simpa using h1)]
      walk_at "r"
      by_cases h2 : hi < i
      · rw [if_pos (decide_eq_true h2)]
        walk_at "r"
        exact k2 (by simp [inB]; omega)
      · rw [if_neg (by simpa using h2)]
        walk_at "r"
        exact k1 (by simp [inB]; omega)
  | _ =>
    simp only [isI, Bool.not_false, if_pos]
    walk_at "r"
    exact k2 rfl

def sp_told (sp : V → T → Prop) : Prop := True
/-- a list's copy: told anew -/
theorem told_copy {H : Hp} {p : Addr} {cs : List T} {vs : List V} (hp : H p = some (.lst vs)) (ho : OwnL H vs cs []) {l : Addr} (hl : H l = none) :
    At (upd H l (.lst vs)) (.ref l) (.n .lst cs) [l] := by
  refine ⟨Own.node (k := .lst) (dx := 0) upd_same (ho.keep fun a o ha hs => ?_), by simp [Kd.own]⟩
  rw [upd_ne (ne_of_none ha hl)]; exact ha
/-- trees without anything that changes -/
def T.imm : T → Prop
  | .v _ => True
  | .n k cs => k = .tup ∧ ∀ c, c ∈ cs → ∃ x, c = .v x
theorem ownL_v {H : Hp} : ∀ {cs : List T} {vs : List V} {S : List Addr}, OwnL H vs cs S → (∀ c, c ∈ cs → ∃ x, c = .v x) → S = []
  | [], _, _, h, _ => h.of_nil.2
  | c :: cs, _, _, h, i => by
    obtain ⟨x, xs, A, B, _, h1, h2, e⟩ := h.of_cons
    obtain ⟨y, ey⟩ := i c (by simp)
    subst ey
    rw [e, h1.of_leaf.2, ownL_v h2 fun c hc => i c (List.mem_cons_of_mem _ hc)]; rfl
theorem own_imm {H : Hp} {x : V} {t : T} {S : List Addr} (h : Own H x t S) (i : t.imm) : S = [] := by
  cases t with
  | v y => exact h.of_leaf.2
  | n k cs =>
    obtain ⟨e, i⟩ := i
    subst e
    obtain ⟨p, dx, vs, S', _, _, hl, hS⟩ := h.of_node
    rw [hS, ownL_v hl i]; rfl
theorem ownL_imm {H : Hp} : ∀ {cs : List T} {vs : List V} {S : List Addr}, OwnL H vs cs S → (∀ c, c ∈ cs → c.imm) → S = []
  | [], _, _, h, _ => h.of_nil.2
  | c :: cs, _, _, h, i => by
    obtain ⟨x, xs, A, B, _, h1, h2, e⟩ := h.of_cons
    rw [e, own_imm h1 (i c (by simp)), ownL_imm h2 fun c hc => i c (List.mem_cons_of_mem _ hc)]; rfl
theorem imm_way (w : WayM) : (wayT w).imm := ⟨rfl, by intro c hc; simp at hc; rcases hc with h | h | h | h <;> exact ⟨_, h⟩⟩
theorem imm_thing (o : Option ThingM) : (thingT o).imm := by
  cases o with
  | none => trivial
  | some t =>
    cases t with
    | own s => exact ⟨rfl, by intro c hc; simp at hc; rcases hc with h | h <;> exact ⟨_, h⟩⟩
    | file f p => exact ⟨rfl, by intro c hc; simp at hc; rcases hc with h | h | h <;> exact ⟨_, h⟩⟩
theorem imm_stretch (s : StretchM) : (stretchT s).imm := ⟨rfl, by intro c hc; simp at hc; rcases hc with h | h | h | h | h | h <;> exact ⟨_, h⟩⟩
/-- a list of such, in sight -/
theorem At.list_imm {H : Hp} {x : V} {α : Type} {f : α → T} {l : List α} {S : List Addr} (h : At H x (listT f l) S) (i : ∀ a, (f a).imm) : ∃ p vs, x = .ref p ∧ H p = some (.lst vs) ∧ OwnL H vs (l.map f) [] ∧ S = [p] := by
  obtain ⟨p, dx, vs, e, hp, ⟨S', hl, hS⟩, nd⟩ := At.open h
  have e0 : S' = [] := ownL_imm hl (by intro c hc; obtain ⟨a, _, rfl⟩ := List.mem_map.mp hc; exact i a)
  subst e0
  exact ⟨p, vs, e, hp, hl, by rw [hS]; rfl⟩
/-- an instance, its fields in sight -/
theorem At.obj {H : Hp} {x : V} {C : Addr} {ns : List Str} {cs : List T} {S : List Addr} (h : At H x (.n (.obj C ns) cs) S) : ∃ p dx vs, x = .ref p ∧ H p = some (.ins C dx (ns.zip vs)) ∧ AtN H p (.obj C ns) dx vs cs S := by
  obtain ⟨p, dx, vs, e, a⟩ := h.open
  exact ⟨p, dx, vs, e, a.hp, a⟩

/-- a told list is new; what stood stands -/
def sp_Book_ways (K : Frag) : Sp := fun vs H Q _ => ∃ x b S, vs = [x] ∧ At H x (bookT K b) S ∧ ∀ H' l, At H' (.ref l) (listT wayT b.kept) [l] → Chg [] [l] H H' → Q (.ref l) H'
theorem sl_Book_ways {K : Frag} : ∀ vs H Q E, sp_Book_ways K vs H Q E → vs.length = (["self"] : List Str).length := by
  intro vs H Q E h
  unfold sp_Book_ways at h
  repeat (first | (obtain ⟨e, _⟩ := h; exact congrArg List.length e) | (obtain ⟨_, h⟩ := h))
/- 0 self -/
abbrev N_Book_ways : List Str := ["self"]
def t_Book_ways (K : Frag) : TS :=
  tRet (tCB rLs (tCons (tFI (He.ga K "Book") nsBook 1 (tVar 0)) (tNil)))
theorem vs_child {H : Hp} {p dx : Addr} {k : Kd} {vs : List V} {cs : List T} {S : List Addr} (a : AtN H p k dx vs cs S) (i : Nat) {c : T} (hc : cs[i]? = some c) : ∃ x, vs[i]? = some x := by
  have h : i < vs.length := by
    rw [a.len]
    exact (List.getElem?_eq_some_iff.mp hc).1
  exact ⟨_, List.getElem?_eq_getElem h⟩
theorem pu_Book_ways {K : Frag} : ∀ vs H Q E, sp_Book_ways K vs H Q E → t_Book_ways K { nx := fun _ H' => Q .non H', rt := Q } (start N_Book_ways vs) H := by
  rintro vs H Q E ⟨x, b, S, rfl, ha, k⟩
  obtain ⟨p, dx, vs, rfl, hp, a⟩ := At.obj ha
  obtain ⟨y, hy⟩ := vs_child a 1 rfl
  obtain ⟨S1, a1, _⟩ := a.child 1 rfl hy
  obtain ⟨l, ws, rfl, hl, ho, _⟩ := At.list_imm a1 imm_way
  unfold t_Book_ways
  walk_at "r"
  refine i_ls hl fun l2 hl2 => ?_
  exact k _ l2 (told_copy hl ho hl2) (Chg.one hl2)
end Pn

/-! # Q3: a world made and told. -/
namespace Pn
open PySem PySem.Spec PyProof.Rows L2
/-- a child that is a node -/
theorem AtN.sub {H : Hp} {p dx : Addr} {k : Kd} {vs : List V} {cs : List T} {S : List Addr} (a : AtN H p k dx vs cs S) (i : Nat) {k' : Kd} {cs' : List T} (hc : cs[i]? = some (.n k' cs')) :
    ∃ q qdx qvs Sc, vs[i]? = some (.ref q) ∧ AtN H q k' qdx qvs cs' Sc ∧ (∀ a, a ∈ Sc → a ∈ S) ∧ p ∉ Sc := by
  obtain ⟨x, hx⟩ := vs_child a i hc
  obtain ⟨Sc, a1, h1, h2, _⟩ := a.child i hc hx
  obtain ⟨q, qdx, qvs, rfl, b⟩ := a1.open
  exact ⟨q, qdx, qvs, Sc, hx, b, h1, h2⟩
theorem AtN.leafv {H : Hp} {p dx : Addr} {k : Kd} {vs : List V} {cs : List T} {S : List Addr} (a : AtN H p k dx vs cs S) (i : Nat) {y : V} (hc : cs[i]? = some (.v y)) : vs[i]? = some y := by
  obtain ⟨x, hx⟩ := vs_child a i hc
  obtain ⟨Sc, a1, _⟩ := a.child i hc hx
  rw [hx, a1.1.of_leaf.1]
/-- a list of immediates, in sight -/
theorem AtN.leaves {H : Hp} {p dx : Addr} {vs : List V} {S : List Addr} {α : Type} {f : α → V} {l : List α} (a : AtN H p .lst dx vs (l.map fun x => .v (f x)) S) : H p = some (.lst (l.map f)) := by
  obtain ⟨S', ho, _⟩ := a.own
  have e := (ownL_of_leaves ho).1
  subst e
  exact a.hp
theorem AtN.lst {H : Hp} {p dx : Addr} {vs : List V} {cs : List T} {S : List Addr} (a : AtN H p .lst dx vs cs S) : H p = some (.lst vs) := a.hp
theorem AtN.dct {H : Hp} {p dx : Addr} {ks : List Key} {vs : List V} {cs : List T} {S : List Addr} (a : AtN H p (.dct ks) dx vs cs S) : H p = some (.dK (ks.zip vs)) := a.hp
theorem AtN.ins {H : Hp} {p dx C : Addr} {ns : List Str} {vs : List V} {cs : List T} {S : List Addr} (a : AtN H p (.obj C ns) dx vs cs S) : H p = some (.ins C dx (ns.zip vs)) := a.hp

def newWorld (n m h : Nat) (s : Int) : WorldM := ⟨newStore n m, List.replicate h ⟨s, []⟩, List.replicate h 0, 0, 0, [], []⟩
def sp_World_init (K : Frag) : Sp := fun vs H Q E => ∃ p dx x1 x2 x3 x4 m1 m2 m3 m4, vs = [V.ref p, x1, x2, x3, x4] ∧ H p = some (.ins (He.ga K "World") dx (nsWorld.zip [])) ∧
  tyN x1 H = some m1 ∧ tyN x2 H = some m2 ∧ tyN x3 H = some m3 ∧ tyN x4 H = some m4 ∧
  (∀ (n m h : Nat) (s : Int), x1 = .int n → x2 = .int m → x3 = .int h → x4 = .int s → inB x1 1 64 = true → inB x2 0 512 = true → inB x3 1 8 = true → inB x4 0 16 = true →
    ∀ H' S', At H' (.ref p) (worldT K (newWorld n m h s)) S' → Chg [p] S' H H' → Q .non H') ∧
  ((inB x1 1 64 && (inB x2 0 512 && (inB x3 1 8 && inB x4 0 16))) = false → rz K "NoNumber" E H)
theorem sl_World_init {K : Frag} : ∀ vs H Q E, sp_World_init K vs H Q E → vs.length = (["self", "many", "places", "hands", "slots"] : List Str).length := by
  intro vs H Q E h
  unfold sp_World_init at h
  repeat (first | (obtain ⟨e, _⟩ := h; exact congrArg List.length e) | (obtain ⟨_, h⟩ := h))
/- 0 self 1 many 2 places 3 hands 4 slots 5 hand -/
abbrev N_World_init : List Str := ["self", "many", "places", "hands", "slots", "hand"]
def t_World_init (K : Frag) (W : WX) : TS :=
  tSeq (tDrop (tCallS (sp_number K) (WE W) (tCons (tVar 1) (tCons (tC (.int 1)) (tCons (tC (.int 64)) (tNil)))))) (tSeq (tDrop (tCallS (sp_number K) (WE W) (tCons (tVar 2) (tCons (tC (.int 0)) (tCons (tC (.int 512)) (tNil)))))) (tSeq (tDrop (tCallS (sp_number K) (WE W) (tCons (tVar 3) (tCons (tC (.int 1)) (tCons (tC (.int 8)) (tNil)))))) (tSeq (tDrop (tCallS (sp_number K) (WE W) (tCons (tVar 4) (tCons (tC (.int 0)) (tCons (tC (.int 16)) (tNil)))))) (tSeq (sFA (He.ga K "World") nsWorld 0 (tVar 0) (tMk (He.ga K "Store") (sp_Store_init K) W0 (tCons (tVar 1) (tCons (tVar 2) (tNil))))) (tSeq (sFA (He.ga K "World") nsWorld 1 (tVar 0) (tLc (iRng1 (tCons (tVar 3) (tNil))) (gName 5) (tYes) (tMk (He.ga K "Book") (sp_Book_init K) W0 (tCons (tVar 4) (tNil))) [5])) (tSeq (sFA (He.ga K "World") nsWorld 2 (tVar 0) (tOp rRep (tLst (tCons (tC (.int 0)) (tNil))) (tVar 3))) (tSeq (sFA (He.ga K "World") nsWorld 3 (tVar 0) (tC (.int 0))) (tSeq (sFA (He.ga K "World") nsWorld 4 (tVar 0) (tC (.int 0))) (tSeq (sFA (He.ga K "World") nsWorld 5 (tVar 0) (tDNewK)) (sFA (He.ga K "World") nsWorld 6 (tVar 0) (tDNewK)))))))))))
theorem inB_int {x : V} {lo hi : Int} (h : inB x lo hi = true) : ∃ i, x = .int i ∧ lo ≤ i ∧ i ≤ hi := by
  cases x with
  | int i => simp [inB] at h; exact ⟨i, rfl, h.1, h.2⟩
  | _ => cases h
theorem pu_World_init {K : Frag} : ∀ vs H Q E, sp_World_init K vs H Q E → t_World_init K (WR E) { nx := fun _ H' => Q .non H', rt := Q } (start N_World_init vs) H := by
  rintro vs H Q E ⟨p, dx, x1, x2, x3, x4, m1, m2, m3, m4, rfl, hp, t1, t2, t3, t4, k1, k2⟩
  unfold t_World_init
  walk_at "r"
  refine ⟨x1, 1, 64, m1, rfl, t1, fun b1 => ?_, fun b1 => k2 (by rw [b1]; rfl)⟩
  walk_at "r"
  refine ⟨x2, 0, 512, m2, rfl, t2, fun b2 => ?_, fun b2 => k2 (by rw [b2]; simp)⟩
  walk_at "r"
  refine ⟨x3, 1, 8, m3, rfl, t3, fun b3 => ?_, fun b3 => k2 (by rw [b3]; simp)⟩
  walk_at "r"
  refine ⟨x4, 0, 16, m4, rfl, t4, fun b4 => ?_, fun b4 => k2 (by rw [b4]; simp)⟩
  obtain ⟨i1, rfl, l1, u1⟩ := inB_int b1
  obtain ⟨i2, rfl, l2, u2⟩ := inB_int b2
  obtain ⟨i3, rfl, l3, u3⟩ := inB_int b3
  obtain ⟨s, rfl, l4, u4⟩ := inB_int b4
  obtain ⟨n, rfl⟩ := Int.eq_ofNat_of_zero_le (show 0 ≤ i1 by omega)
  obtain ⟨m, rfl⟩ := Int.eq_ofNat_of_zero_le l2
  obtain ⟨h, rfl⟩ := Int.eq_ofNat_of_zero_le (show 0 ≤ i3 by omega)
  walk_at "r"
  refine mk_of nsStore (storeT K (newStore n m)) (fun x dx H0 R hx k => ⟨x, dx, n, m, rfl, hx, by omega, by omega, k⟩) fun y1 H1 S1 a1 c1 => ?_
  obtain ⟨hp, I⟩ := (IniAt.start hp).child c1 a1
  walk_at "r"
  have hp := I.hp
  refine lcr_own (n := h) (fun _ => bookT K ⟨s, []⟩) (by omega) (fun j hj H1 _ Qv q => ?_) fun D2 H2 S2 a2 c2 => ?_
  · walk_at "r"
    exact mk_of nsBook (bookT K ⟨s, []⟩) (fun x dx H0 R hx k => ⟨x, dx, s, rfl, hx, k⟩) fun y H' S' a c => q _ _ _ a c
  rw [map_range_const] at a2
  obtain ⟨hp, I⟩ := I.child c2 a2
  walk_at "r"
  have hp := I.hp
  refine i_new (by simp) fun l hl => ?_
  walk_at "r"
  refine i_rep1 upd_same rfl (by omega) fun l2 hl2 => ?_
  rw [← List.map_replicate (f := V.int)]
  obtain ⟨hp, I⟩ := I.child ((Chg.fresh (S := []) hl).trans (Chg.one hl2)) (at_leaves hl2)
  walk_at "r"
  have I := I.leaf (.int 0)
  have I := I.leaf (.int 0)
  have hp := I.hp
  intro l3 hl3
  obtain ⟨hp, I⟩ := I.child (Chg.one hl3) (at_dnil hl3)
  walk_at "r"
  have hp := I.hp
  intro l4 hl4
  obtain ⟨hp, I⟩ := I.child (Chg.one hl4) (at_dnil hl4)
  walk_at "r"
  obtain ⟨a, c⟩ := I.done
  refine k1 n m h s rfl rfl rfl rfl b1 b2 b3 b4 _ _ ?_ c
  have e : worldT K (newWorld n m h s) = .n (.obj (He.ga K "World") nsWorld) ([] ++ [storeT K (newStore n m)] ++ [T.n Kd.lst (List.replicate h (bookT K { slots := s, kept := [] }))] ++
      [T.n Kd.lst ((List.replicate h 0).map fun x => T.v (V.int x))] ++ [T.v (.int 0)] ++ [T.v (.int 0)] ++ [T.n (Kd.dct []) []] ++ [T.n (Kd.dct []) []]) := by
    simp [worldT, newWorld, listT, dictT, List.map_replicate]
  rw [e]; exact a

/-! ### told -/
def sp_Frames_things (K : Frag) : Sp := fun vs H Q _ => ∃ x f S, vs = [x] ∧ At H x (framesT K f) S ∧ ∀ H' l, At H' (.ref l) (listT thingT f.things) [l] → Chg [] [l] H H' → Q (.ref l) H'
theorem sl_Frames_things {K : Frag} : ∀ vs H Q E, sp_Frames_things K vs H Q E → vs.length = (["self"] : List Str).length := by
  intro vs H Q E h
  unfold sp_Frames_things at h
  repeat (first | (obtain ⟨e, _⟩ := h; exact congrArg List.length e) | (obtain ⟨_, h⟩ := h))
/- 0 self -/
abbrev N_Frames_things : List Str := ["self"]
def t_Frames_things (K : Frag) : TS :=
  tRet (tCB rLs (tCons (tFI (He.ga K "Frames") nsFrames 0 (tVar 0)) (tNil)))
theorem pu_Frames_things {K : Frag} : ∀ vs H Q E, sp_Frames_things K vs H Q E → t_Frames_things K { nx := fun _ H' => Q .non H', rt := Q } (start N_Frames_things vs) H := by
  rintro vs H Q E ⟨x, f, S, rfl, ha, k⟩
  obtain ⟨p, dx, vs, rfl, a⟩ := ha.open
  have hp := a.ins
  obtain ⟨y, hy⟩ := vs_child a 0 rfl
  obtain ⟨S1, a1, _⟩ := a.child 0 rfl hy
  obtain ⟨l, ws, rfl, hl, ho, _⟩ := At.list_imm a1 imm_thing
  unfold t_Frames_things
  walk_at "r"
  refine i_ls hl fun l2 hl2 => ?_
  exact k _ l2 (told_copy hl ho hl2) (Chg.one hl2)
/-- the leaves' copy -/
theorem told_leaves {H : Hp} {α : Type} {f : α → V} {l : List α} {p : Addr} (hp : H p = some (.lst (l.map f))) {q : Addr} (hq : H q = none) : At (upd H q (.lst (l.map f))) (.ref q) (.n .lst (l.map fun x => .v (f x))) [q] := at_leaves hq
def sp_Dial_marks (K : Frag) : Sp := fun vs H Q _ => ∃ x d S, vs = [x] ∧ At H x (dialT K d) S ∧ ∀ H' l, At H' (.ref l) (listT tBo d.marked) [l] → Chg [] [l] H H' → Q (.ref l) H'
theorem sl_Dial_marks {K : Frag} : ∀ vs H Q E, sp_Dial_marks K vs H Q E → vs.length = (["self"] : List Str).length := by
  intro vs H Q E h
  unfold sp_Dial_marks at h
  repeat (first | (obtain ⟨e, _⟩ := h; exact congrArg List.length e) | (obtain ⟨_, h⟩ := h))
/- 0 self -/
abbrev N_Dial_marks : List Str := ["self"]
def t_Dial_marks (K : Frag) : TS :=
  tRet (tCB rLs (tCons (tFI (He.ga K "Dial") nsDial 1 (tVar 0)) (tNil)))
theorem pu_Dial_marks {K : Frag} : ∀ vs H Q E, sp_Dial_marks K vs H Q E → t_Dial_marks K { nx := fun _ H' => Q .non H', rt := Q } (start N_Dial_marks vs) H := by
  rintro vs H Q E ⟨x, d, S, rfl, ha, k⟩
  obtain ⟨p, dx, vs, rfl, a⟩ := ha.open
  have hp := a.ins
  obtain ⟨q, qd, qv, S1, h1, b, _⟩ := a.sub 1 rfl
  have hl := b.leaves
  unfold t_Dial_marks
  walk_at "r"
  refine i_ls hl fun l2 hl2 => ?_
  exact k _ l2 (at_leaves hl2) (Chg.one hl2)
def sp_Dial_pointer (K : Frag) : Sp := fun vs H Q _ => ∃ x d S, vs = [x] ∧ At H x (dialT K d) S ∧ Q (.int (d.spot : Nat)) H
theorem sl_Dial_pointer {K : Frag} : ∀ vs H Q E, sp_Dial_pointer K vs H Q E → vs.length = (["self"] : List Str).length := by
  intro vs H Q E h
  unfold sp_Dial_pointer at h
  repeat (first | (obtain ⟨e, _⟩ := h; exact congrArg List.length e) | (obtain ⟨_, h⟩ := h))
/- 0 self -/
abbrev N_Dial_pointer : List Str := ["self"]
def t_Dial_pointer (K : Frag) : TS :=
  tRet (tFI (He.ga K "Dial") nsDial 0 (tVar 0))
theorem pu_Dial_pointer {K : Frag} : ∀ vs H Q E, sp_Dial_pointer K vs H Q E → t_Dial_pointer K { nx := fun _ H' => Q .non H', rt := Q } (start N_Dial_pointer vs) H := by
  rintro vs H Q E ⟨x, d, S, rfl, ha, k⟩
  obtain ⟨p, dx, vs, rfl, a⟩ := ha.open
  have hp := a.ins
  have h1 := a.leafv 0 rfl
  unfold t_Dial_pointer
  walk_at "r"
  exact k
def sp_Shelf_sheets (K : Frag) : Sp := fun vs H Q _ => ∃ x d S, vs = [x] ∧ At H x (shelfT K d) S ∧ ∀ H' l, At H' (.ref l) (listT (fun o => .v (optI o)) d.sheets) [l] → Chg [] [l] H H' → Q (.ref l) H'
theorem sl_Shelf_sheets {K : Frag} : ∀ vs H Q E, sp_Shelf_sheets K vs H Q E → vs.length = (["self"] : List Str).length := by
  intro vs H Q E h
  unfold sp_Shelf_sheets at h
  repeat (first | (obtain ⟨e, _⟩ := h; exact congrArg List.length e) | (obtain ⟨_, h⟩ := h))
/- 0 self -/
abbrev N_Shelf_sheets : List Str := ["self"]
def t_Shelf_sheets (K : Frag) : TS :=
  tRet (tCB rLs (tCons (tFI (He.ga K "Shelf") nsShelf 0 (tVar 0)) (tNil)))
theorem pu_Shelf_sheets {K : Frag} : ∀ vs H Q E, sp_Shelf_sheets K vs H Q E → t_Shelf_sheets K { nx := fun _ H' => Q .non H', rt := Q } (start N_Shelf_sheets vs) H := by
  rintro vs H Q E ⟨x, d, S, rfl, ha, k⟩
  obtain ⟨p, dx, vs, rfl, a⟩ := ha.open
  have hp := a.ins
  obtain ⟨q, qd, qv, S1, h1, b, _⟩ := a.sub 0 rfl
  have hl := b.leaves
  unfold t_Shelf_sheets
  walk_at "r"
  refine i_ls hl fun l2 hl2 => ?_
  exact k _ l2 (at_leaves hl2) (Chg.one hl2)
def sp_told_frames (K : Frag) : Sp := fun vs H Q _ => ∃ x w S, vs = [x] ∧ At H x (worldT K w) S ∧ ∀ H' l, At H' (.ref l) (listT thingT w.st.fr.things) [l] → Chg [] [l] H H' → Q (.ref l) H'
theorem sl_told_frames {K : Frag} : ∀ vs H Q E, sp_told_frames K vs H Q E → vs.length = (["world"] : List Str).length := by
  intro vs H Q E h
  unfold sp_told_frames at h
  repeat (first | (obtain ⟨e, _⟩ := h; exact congrArg List.length e) | (obtain ⟨_, h⟩ := h))
/- 0 world -/
abbrev N_told_frames : List Str := ["world"]
def t_told_frames (K : Frag) : TS :=
  tRet (tMI (He.ga K "Frames") nsFrames (sp_Frames_things K) W0 (tFI (He.ga K "Store") nsStore 0 (tFI (He.ga K "World") nsWorld 0 (tVar 0))) (tNil))
theorem pu_told_frames {K : Frag} : ∀ vs H Q E, sp_told_frames K vs H Q E → t_told_frames K { nx := fun _ H' => Q .non H', rt := Q } (start N_told_frames vs) H := by
  rintro vs H Q E ⟨x, w, S, rfl, ha, k⟩
  obtain ⟨p, dx, vs, rfl, a⟩ := ha.open
  have hp := a.ins
  obtain ⟨q, qd, qv, S1, h1, b, _⟩ := a.sub 0 rfl
  have hq := b.ins
  obtain ⟨r, rd, rv, S2, h2, c, _⟩ := b.sub 0 rfl
  have hr := c.ins
  unfold t_told_frames
  walk_at "r"
  exact ⟨_, _, _, rfl, c.at, k⟩
def sp_told_marks (K : Frag) : Sp := fun vs H Q _ => ∃ x w S, vs = [x] ∧ At H x (worldT K w) S ∧ ∀ H' l, At H' (.ref l) (listT tBo w.st.di.marked) [l] → Chg [] [l] H H' → Q (.ref l) H'
theorem sl_told_marks {K : Frag} : ∀ vs H Q E, sp_told_marks K vs H Q E → vs.length = (["world"] : List Str).length := by
  intro vs H Q E h
  unfold sp_told_marks at h
  repeat (first | (obtain ⟨e, _⟩ := h; exact congrArg List.length e) | (obtain ⟨_, h⟩ := h))
/- 0 world -/
abbrev N_told_marks : List Str := ["world"]
def t_told_marks (K : Frag) : TS :=
  tRet (tMI (He.ga K "Dial") nsDial (sp_Dial_marks K) W0 (tFI (He.ga K "Store") nsStore 1 (tFI (He.ga K "World") nsWorld 0 (tVar 0))) (tNil))
theorem pu_told_marks {K : Frag} : ∀ vs H Q E, sp_told_marks K vs H Q E → t_told_marks K { nx := fun _ H' => Q .non H', rt := Q } (start N_told_marks vs) H := by
  rintro vs H Q E ⟨x, w, S, rfl, ha, k⟩
  obtain ⟨p, dx, vs, rfl, a⟩ := ha.open
  have hp := a.ins
  obtain ⟨q, qd, qv, S1, h1, b, _⟩ := a.sub 0 rfl
  have hq := b.ins
  obtain ⟨r, rd, rv, S2, h2, c, _⟩ := b.sub 1 rfl
  have hr := c.ins
  unfold t_told_marks
  walk_at "r"
  exact ⟨_, _, _, rfl, c.at, k⟩
def sp_told_pointer (K : Frag) : Sp := fun vs H Q _ => ∃ x w S, vs = [x] ∧ At H x (worldT K w) S ∧ Q (.int (w.st.di.spot : Nat)) H
theorem sl_told_pointer {K : Frag} : ∀ vs H Q E, sp_told_pointer K vs H Q E → vs.length = (["world"] : List Str).length := by
  intro vs H Q E h
  unfold sp_told_pointer at h
  repeat (first | (obtain ⟨e, _⟩ := h; exact congrArg List.length e) | (obtain ⟨_, h⟩ := h))
/- 0 world -/
abbrev N_told_pointer : List Str := ["world"]
def t_told_pointer (K : Frag) : TS :=
  tRet (tMI (He.ga K "Dial") nsDial (sp_Dial_pointer K) W0 (tFI (He.ga K "Store") nsStore 1 (tFI (He.ga K "World") nsWorld 0 (tVar 0))) (tNil))
theorem pu_told_pointer {K : Frag} : ∀ vs H Q E, sp_told_pointer K vs H Q E → t_told_pointer K { nx := fun _ H' => Q .non H', rt := Q } (start N_told_pointer vs) H := by
  rintro vs H Q E ⟨x, w, S, rfl, ha, k⟩
  obtain ⟨p, dx, vs, rfl, a⟩ := ha.open
  have hp := a.ins
  obtain ⟨q, qd, qv, S1, h1, b, _⟩ := a.sub 0 rfl
  have hq := b.ins
  obtain ⟨r, rd, rv, S2, h2, c, _⟩ := b.sub 1 rfl
  have hr := c.ins
  unfold t_told_pointer
  walk_at "r"
  exact ⟨_, _, _, rfl, c.at, k⟩
def sp_told_shelf (K : Frag) : Sp := fun vs H Q _ => ∃ x w S, vs = [x] ∧ At H x (worldT K w) S ∧ ∀ H' l, At H' (.ref l) (listT (fun o => .v (optI o)) w.st.sh.sheets) [l] → Chg [] [l] H H' → Q (.ref l) H'
theorem sl_told_shelf {K : Frag} : ∀ vs H Q E, sp_told_shelf K vs H Q E → vs.length = (["world"] : List Str).length := by
  intro vs H Q E h
  unfold sp_told_shelf at h
  repeat (first | (obtain ⟨e, _⟩ := h; exact congrArg List.length e) | (obtain ⟨_, h⟩ := h))
/- 0 world -/
abbrev N_told_shelf : List Str := ["world"]
def t_told_shelf (K : Frag) : TS :=
  tRet (tMI (He.ga K "Shelf") nsShelf (sp_Shelf_sheets K) W0 (tFI (He.ga K "Store") nsStore 2 (tFI (He.ga K "World") nsWorld 0 (tVar 0))) (tNil))
theorem pu_told_shelf {K : Frag} : ∀ vs H Q E, sp_told_shelf K vs H Q E → t_told_shelf K { nx := fun _ H' => Q .non H', rt := Q } (start N_told_shelf vs) H := by
  rintro vs H Q E ⟨x, w, S, rfl, ha, k⟩
  obtain ⟨p, dx, vs, rfl, a⟩ := ha.open
  have hp := a.ins
  obtain ⟨q, qd, qv, S1, h1, b, _⟩ := a.sub 0 rfl
  have hq := b.ins
  obtain ⟨r, rd, rv, S2, h2, c, _⟩ := b.sub 2 rfl
  have hr := c.ins
  unfold t_told_shelf
  walk_at "r"
  exact ⟨_, _, _, rfl, c.at, k⟩
def sp_told_copies (K : Frag) : Sp := fun vs H Q _ => ∃ x w S, vs = [x] ∧ At H x (worldT K w) S ∧ Q (.int w.copied) H
theorem sl_told_copies {K : Frag} : ∀ vs H Q E, sp_told_copies K vs H Q E → vs.length = (["world"] : List Str).length := by
  intro vs H Q E h
  unfold sp_told_copies at h
  repeat (first | (obtain ⟨e, _⟩ := h; exact congrArg List.length e) | (obtain ⟨_, h⟩ := h))
/- 0 world -/
abbrev N_told_copies : List Str := ["world"]
def t_told_copies (K : Frag) : TS :=
  tRet (tFI (He.ga K "World") nsWorld 3 (tVar 0))
theorem pu_told_copies {K : Frag} : ∀ vs H Q E, sp_told_copies K vs H Q E → t_told_copies K { nx := fun _ H' => Q .non H', rt := Q } (start N_told_copies vs) H := by
  rintro vs H Q E ⟨x, w, S, rfl, ha, k⟩
  obtain ⟨p, dx, vs, rfl, a⟩ := ha.open
  have hp := a.ins
  have h1 := a.leafv 3 rfl
  unfold t_told_copies
  walk_at "r"
  exact k
/-! ### holders, room -/
theorem dict_val {α : Type} {g : α → T} {H : Hp} {f : α → V} : ∀ {l : List (Int × α)} {k : Int}, valV ((l.map fun q => (Sum.inl q.1 : Key)).zip (l.map fun q => f q.2)) (Sum.inl k) = (l.lookup k).map f
  | [], k => rfl
  | (k0, a) :: l, k => by
    have ih := dict_val (g := g) (H := H) (f := f) (l := l) (k := k)
    unfold valV at ih ⊢
    simp only [List.map_cons, List.zip_cons_cons, List.find?_cons, List.lookup]
    by_cases e : k0 = k
    · subst e
      simp
    · have e1 : ¬ (Sum.inl k0 : Key) = Sum.inl k := fun z => e (Sum.inl.inj z)
      have e2 : (k == k0) = false := by simpa using fun z => e z.symm
      rw [decide_eq_false e1, e2]
      exact ih
def holdersOf (s : StoreM) (k : Int) : Int := (s.hold.lookup k).getD 0
def roomOf (s : StoreM) : Int := (s.fr.things.length : Int) - 1 + (s.sh.sheets.length : Int) - (s.hold.length : Int)
theorem AtN.dleaves {H : Hp} {p dx : Addr} {vs : List V} {S : List Addr} {α β : Type} {f : α → V} {kf : β → Key} {l : List α} {ks : List β} (a : AtN H p (.dct (ks.map kf)) dx vs (l.map fun x => .v (f x)) S) : H p = some (.dK ((ks.map kf).zip (l.map f))) := by
  obtain ⟨S', ho, _⟩ := a.own
  have e := (ownL_of_leaves ho).1
  subst e
  exact a.hp
def sp_holders_of (K : Frag) : Sp := fun vs H Q _ => ∃ x s k S, vs = [x, .int k] ∧ At H x (storeT K s) S ∧ Q (.int (holdersOf s k)) H
theorem sl_holders_of {K : Frag} : ∀ vs H Q E, sp_holders_of K vs H Q E → vs.length = (["store", "sheet"] : List Str).length := by
  intro vs H Q E h
  unfold sp_holders_of at h
  repeat (first | (obtain ⟨e, _⟩ := h; exact congrArg List.length e) | (obtain ⟨_, h⟩ := h))
/- 0 store 1 sheet -/
abbrev N_holders_of : List Str := ["store", "sheet"]
def t_holders_of (K : Frag) : TS :=
  tRet (tDGet2 (tFI (He.ga K "Store") nsStore 4 (tVar 0)) (tVar 1) (tC (.int 0)))
theorem pu_holders_of {K : Frag} : ∀ vs H Q E, sp_holders_of K vs H Q E → t_holders_of K { nx := fun _ H' => Q .non H', rt := Q } (start N_holders_of vs) H := by
  rintro vs H Q E ⟨x, s, z, S, rfl, ha, k⟩
  obtain ⟨p, dx, vs, rfl, a⟩ := ha.open
  have hp := a.ins
  obtain ⟨q, qd, qv, S1, h1, b, _⟩ := a.sub 4 rfl
  have hq : H q = some (.dK ((s.hold.map fun q => (Sum.inl q.1 : Key)).zip (s.hold.map fun q => V.int q.2))) := AtN.dleaves (f := fun q : Int × Int => V.int q.2) (l := s.hold) b
  unfold t_holders_of
  walk_at "r"
  show tFI _ _ _ _ _ _ _
  walk_at "r"
  refine ⟨q, rfl, .inl ⟨_, .inl hq⟩, ?_⟩
  walk_at "r"
  refine ⟨_, DGet.k (k := Sum.inl z) hq, ?_⟩
  rw [dict_val (g := tI) (H := H) (f := V.int)]
  have e : ((s.hold.lookup z).map V.int).getD (.int 0) = V.int (holdersOf s z) := by
    unfold holdersOf
    cases s.hold.lookup z <;> rfl
  rw [e]; exact k
def sp_told_holders (K : Frag) : Sp := fun vs H Q _ => ∃ x w k S, vs = [x, .int k] ∧ At H x (worldT K w) S ∧ Q (.int (holdersOf w.st k)) H
theorem sl_told_holders {K : Frag} : ∀ vs H Q E, sp_told_holders K vs H Q E → vs.length = (["world", "sheet"] : List Str).length := by
  intro vs H Q E h
  unfold sp_told_holders at h
  repeat (first | (obtain ⟨e, _⟩ := h; exact congrArg List.length e) | (obtain ⟨_, h⟩ := h))
/- 0 world 1 sheet -/
abbrev N_told_holders : List Str := ["world", "sheet"]
def t_told_holders (K : Frag) : TS :=
  tRet (tCallS (sp_holders_of K) (WE W0) (tCons (tFI (He.ga K "World") nsWorld 0 (tVar 0)) (tCons (tVar 1) (tNil))))
theorem pu_told_holders {K : Frag} : ∀ vs H Q E, sp_told_holders K vs H Q E → t_told_holders K { nx := fun _ H' => Q .non H', rt := Q } (start N_told_holders vs) H := by
  rintro vs H Q E ⟨x, w, z, S, rfl, ha, k⟩
  obtain ⟨p, dx, vs, rfl, a⟩ := ha.open
  have hp := a.ins
  obtain ⟨q, qd, qv, S1, h1, b, _⟩ := a.sub 0 rfl
  unfold t_told_holders
  walk_at "r"
  exact ⟨_, _, _, _, rfl, b.at, k⟩
def sp_room_of (K : Frag) : Sp := fun vs H Q _ => ∃ x s S, vs = [x] ∧ At H x (storeT K s) S ∧ ∀ H', Chg [] [] H H' → Q (.int (roomOf s)) H'
theorem sl_room_of {K : Frag} : ∀ vs H Q E, sp_room_of K vs H Q E → vs.length = (["store"] : List Str).length := by
  intro vs H Q E h
  unfold sp_room_of at h
  repeat (first | (obtain ⟨e, _⟩ := h; exact congrArg List.length e) | (obtain ⟨_, h⟩ := h))
/- 0 store 1 most -/
abbrev N_room_of : List Str := ["store", "most"]
def t_room_of (K : Frag) : TS :=
  tSeq (tAsg (tOp r_add (tOp r_sub (tCB (rLn) (tCons (tMI (He.ga K "Frames") nsFrames (sp_Frames_things K) W0 (tFI (He.ga K "Store") nsStore 0 (tVar 0)) (tNil)) (tNil))) (tC (.int 1))) (tCB (rLn) (tCons (tMI (He.ga K "Shelf") nsShelf (sp_Shelf_sheets K) W0 (tFI (He.ga K "Store") nsStore 2 (tVar 0)) (tNil)) (tNil)))) (gName 1)) (tRet (tOp r_sub (tVar 1) (tCB (rLnD) (tCons (tFI (He.ga K "Store") nsStore 4 (tVar 0)) (tNil)))))
theorem pu_room_of {K : Frag} : ∀ vs H Q E, sp_room_of K vs H Q E → t_room_of K { nx := fun _ H' => Q .non H', rt := Q } (start N_room_of vs) H := by
  rintro vs H Q E ⟨x, s, S, rfl, ha, k⟩
  obtain ⟨p, dx, vs, rfl, a⟩ := ha.open
  have hp := a.ins
  obtain ⟨q, qd, qv, S1, h1, b, _⟩ := a.sub 0 rfl
  obtain ⟨r, rd, rv, S2, h2, c, _⟩ := a.sub 2 rfl
  obtain ⟨d, dd, dv, S3, h3, e, _⟩ := a.sub 4 rfl
  have hq := b.ins
  have hr := c.ins
  have hd := e.dct
  have ld : ((s.hold.map fun q => (Sum.inl q.1 : Key)).zip dv).length = s.hold.length := by
    have := e.len
    rw [List.length_map] at this
    rw [List.length_zip, List.length_map, this]; simp
  unfold t_room_of
  walk_at "r"
  refine ⟨_, _, _, rfl, b.at, fun H1 l1 a1 c1 => ?_⟩
  have z : Chg [] [] H H1 := c1.sub (fun _ h => h) (fun a h => by cases h)
  obtain ⟨dx1, vs1, f1⟩ := a1.openR
  have hl1 := f1.lst
  have n1 := f1.len
  rw [List.length_map] at n1
  have hp1 := z.keep _ _ hp (by simp)
  have hr1 := z.keep _ _ hr (by simp)
  walk_at "r"
  refine ⟨_, _, _, rfl, c.at.chg z (by simp), fun H2 l2 a2 c2 => ?_⟩
  obtain ⟨dx2, vs2, f2⟩ := a2.openR
  have hl2 := f2.lst
  have n2 := f2.len
  rw [List.length_map] at n2
  have z2 : Chg [] [] H H2 := z.trans (c2.sub (fun _ h => h) (fun a h => by cases h))
  have hp2 := z2.keep _ _ hp (by simp)
  have hd2 := z2.keep _ _ hd (by simp)
  walk_at "r"
  rw [n1, n2, ld]
  exact k _ z2
def sp_told_room (K : Frag) : Sp := fun vs H Q _ => ∃ x w S, vs = [x] ∧ At H x (worldT K w) S ∧ ∀ H', Chg [] [] H H' → Q (.int (roomOf w.st)) H'
theorem sl_told_room {K : Frag} : ∀ vs H Q E, sp_told_room K vs H Q E → vs.length = (["world"] : List Str).length := by
  intro vs H Q E h
  unfold sp_told_room at h
  repeat (first | (obtain ⟨e, _⟩ := h; exact congrArg List.length e) | (obtain ⟨_, h⟩ := h))
/- 0 world -/
abbrev N_told_room : List Str := ["world"]
def t_told_room (K : Frag) : TS :=
  tRet (tCallS (sp_room_of K) (WE W0) (tCons (tFI (He.ga K "World") nsWorld 0 (tVar 0)) (tNil)))
theorem pu_told_room {K : Frag} : ∀ vs H Q E, sp_told_room K vs H Q E → t_told_room K { nx := fun _ H' => Q .non H', rt := Q } (start N_told_room vs) H := by
  rintro vs H Q E ⟨x, w, S, rfl, ha, k⟩
  obtain ⟨p, dx, vs, rfl, a⟩ := ha.open
  have hp := a.ins
  obtain ⟨q, qd, qv, S1, h1, b, _⟩ := a.sub 0 rfl
  unfold t_told_room
  walk_at "r"
  exact ⟨_, _, _, rfl, b.at, k⟩
/-! ### hands -/
def sp_asked_hand (K : Frag) : Sp := fun vs H Q E => ∃ x h w S m, vs = [x, h] ∧ At H x (worldT K w) S ∧ tyN h H = some m ∧
  (inB h 0 ((w.books.length : Int) - 1) = true → Q h H) ∧ (inB h 0 ((w.books.length : Int) - 1) = false → rz K "NoNumber" E H)
theorem sl_asked_hand {K : Frag} : ∀ vs H Q E, sp_asked_hand K vs H Q E → vs.length = (["world", "hand"] : List Str).length := by
  intro vs H Q E h
  unfold sp_asked_hand at h
  repeat (first | (obtain ⟨e, _⟩ := h; exact congrArg List.length e) | (obtain ⟨_, h⟩ := h))
/- 0 world 1 hand -/
abbrev N_asked_hand : List Str := ["world", "hand"]
def t_asked_hand (K : Frag) (W : WX) : TS :=
  tRet (tCallS (sp_number K) (WE W) (tCons (tVar 1) (tCons (tC (.int 0)) (tCons (tOp r_sub (tCB (rLn) (tCons (tFI (He.ga K "World") nsWorld 1 (tVar 0)) (tNil))) (tC (.int 1))) (tNil)))))
theorem pu_asked_hand {K : Frag} : ∀ vs H Q E, sp_asked_hand K vs H Q E → t_asked_hand K (WR E) { nx := fun _ H' => Q .non H', rt := Q } (start N_asked_hand vs) H := by
  rintro vs H Q E ⟨x, h, w, S, m, rfl, ha, hm, k1, k2⟩
  obtain ⟨p, dx, vs, rfl, a⟩ := ha.open
  have hp := a.ins
  obtain ⟨q, qd, qv, S1, h1, b, _⟩ := a.sub 1 rfl
  have hq := b.lst
  have n1 := b.len
  rw [List.length_map] at n1
  unfold t_asked_hand
  walk_at "r"
  rw [n1]
  exact ⟨h, 0, _, m, rfl, hm, k1, k2⟩
def sp_told_book (K : Frag) : Sp := fun vs H Q E => ∃ x h w S m, vs = [x, h] ∧ At H x (worldT K w) S ∧ tyN h H = some m ∧
  (∀ (i : Nat) b, h = .int i → w.books[i]? = some b → ∀ H' l, At H' (.ref l) (listT wayT b.kept) [l] → Chg [] [l] H H' → Q (.ref l) H') ∧
  (inB h 0 ((w.books.length : Int) - 1) = false → rz K "NoNumber" E H)
theorem sl_told_book {K : Frag} : ∀ vs H Q E, sp_told_book K vs H Q E → vs.length = (["world", "hand"] : List Str).length := by
  intro vs H Q E h
  unfold sp_told_book at h
  repeat (first | (obtain ⟨e, _⟩ := h; exact congrArg List.length e) | (obtain ⟨_, h⟩ := h))
/- 0 world 1 hand -/
abbrev N_told_book : List Str := ["world", "hand"]
def t_told_book (K : Frag) (W : WX) : TS :=
  tRet (tMI (He.ga K "Book") nsBook (sp_Book_ways K) W0 (tOp rL (tFI (He.ga K "World") nsWorld 1 (tVar 0)) (tCallS (sp_asked_hand K) (WE W) (tCons (tVar 0) (tCons (tVar 1) (tNil))))) (tNil))
theorem hand_in {h : V} {n : Nat} (b : inB h 0 ((n : Int) - 1) = true) : ∃ i : Nat, h = .int i ∧ i < n := by
  obtain ⟨i, rfl, l, u⟩ := inB_int b
  obtain ⟨j, rfl⟩ := Int.eq_ofNat_of_zero_le l
  exact ⟨j, rfl, by omega⟩
theorem pu_told_book {K : Frag} : ∀ vs H Q E, sp_told_book K vs H Q E → t_told_book K (WR E) { nx := fun _ H' => Q .non H', rt := Q } (start N_told_book vs) H := by
  rintro vs H Q E ⟨x, h, w, S, m, rfl, ha, hm, k1, k2⟩
  obtain ⟨p, dx, vs, rfl, a⟩ := ha.open
  have hp := a.ins
  obtain ⟨q, qd, qv, S1, h1, b, _⟩ := a.sub 1 rfl
  have hq := b.lst
  unfold t_told_book
  walk_at "r"
  refine ⟨_, h, w, S, m, rfl, a.at, hm, fun bb => ?_, k2⟩
  obtain ⟨i, rfl, hi⟩ := hand_in bb
  have hb : w.books[i]? = some w.books[i] := List.getElem?_eq_getElem hi
  obtain ⟨r, rd, rv, S2, h2, c, _⟩ := b.sub i (k' := .obj (He.ga K "Book") nsBook) (by rw [List.getElem?_map, hb]; rfl)
  have hr := c.ins
  refine i_L rfl hq h2 ?_
  walk_at "r"
  exact ⟨_, w.books[i], _, rfl, c.at, k1 i _ rfl hb⟩
def sp_told_walks (K : Frag) : Sp := fun vs H Q E => ∃ x h w S m, vs = [x, h] ∧ At H x (worldT K w) S ∧ tyN h H = some m ∧ w.walked.length = w.books.length ∧
  (∀ (i : Nat) b, h = .int i → w.walked[i]? = some b → Q (.int b) H) ∧ (inB h 0 ((w.books.length : Int) - 1) = false → rz K "NoNumber" E H)
theorem sl_told_walks {K : Frag} : ∀ vs H Q E, sp_told_walks K vs H Q E → vs.length = (["world", "hand"] : List Str).length := by
  intro vs H Q E h
  unfold sp_told_walks at h
  repeat (first | (obtain ⟨e, _⟩ := h; exact congrArg List.length e) | (obtain ⟨_, h⟩ := h))
/- 0 world 1 hand -/
abbrev N_told_walks : List Str := ["world", "hand"]
def t_told_walks (K : Frag) (W : WX) : TS :=
  tRet (tOp rL (tFI (He.ga K "World") nsWorld 2 (tVar 0)) (tCallS (sp_asked_hand K) (WE W) (tCons (tVar 0) (tCons (tVar 1) (tNil)))))
theorem pu_told_walks {K : Frag} : ∀ vs H Q E, sp_told_walks K vs H Q E → t_told_walks K (WR E) { nx := fun _ H' => Q .non H', rt := Q } (start N_told_walks vs) H := by
  rintro vs H Q E ⟨x, h, w, S, m, rfl, ha, hm, hl, k1, k2⟩
  obtain ⟨p, dx, vs, rfl, a⟩ := ha.open
  have hp := a.ins
  obtain ⟨q, qd, qv, S1, h1, b, _⟩ := a.sub 2 rfl
  have hq := b.leaves
  unfold t_told_walks
  walk_at "r"
  refine ⟨_, h, w, S, m, rfl, a.at, hm, fun bb => ?_, k2⟩
  obtain ⟨i, rfl, hi⟩ := hand_in bb
  have hb : w.walked[i]? = some (w.walked[i]'(by omega)) := List.getElem?_eq_getElem (by omega)
  refine i_L rfl hq (v := .int (w.walked[i]'(by omega))) (by rw [List.getElem?_map, hb]; rfl) ?_
  exact k1 i _ rfl hb
/-! ### spaces -/
theorem zip_fst {ks : List Key} {vs : List V} (h : vs.length = ks.length) : (ks.zip vs).map (·.1) = ks := by
  exact List.map_fst_zip (by omega)
def sp_told_spaces (K : Frag) : Sp := fun vs H Q _ => ∃ x w S, vs = [x] ∧ At H x (worldT K w) S ∧ w.plans.length < 64 ∧
  ∀ H' l (ks : List Int), ks.Perm (w.plans.map (·.1)) → ks.Pairwise (· ≤ ·) → At H' (.ref l) (listT tI ks) [l] → Chg [] [l] H H' → Q (.ref l) H'
theorem sl_told_spaces {K : Frag} : ∀ vs H Q E, sp_told_spaces K vs H Q E → vs.length = (["world"] : List Str).length := by
  intro vs H Q E h
  unfold sp_told_spaces at h
  repeat (first | (obtain ⟨e, _⟩ := h; exact congrArg List.length e) | (obtain ⟨_, h⟩ := h))
/- 0 world -/
abbrev N_told_spaces : List Str := ["world"]
def t_told_spaces (K : Frag) : TS :=
  tRet (tCB (rSortD) (tCons (tFI (He.ga K "World") nsWorld 5 (tVar 0)) (tNil)))
theorem pu_told_spaces {K : Frag} : ∀ vs H Q E, sp_told_spaces K vs H Q E → t_told_spaces K { nx := fun _ H' => Q .non H', rt := Q } (start N_told_spaces vs) H := by
  rintro vs H Q E ⟨x, w, S, rfl, ha, hl, k⟩
  obtain ⟨p, dx, vs, rfl, a⟩ := ha.open
  have hp := a.ins
  obtain ⟨q, qd, qv, S1, h1, b, _⟩ := a.sub 5 rfl
  have hq := b.dct
  have n1 := b.len
  rw [List.length_map] at n1
  unfold t_told_spaces
  walk_at "r"
  refine ⟨q, _, w.plans.map (·.1), rfl, hq, ?_, by rw [List.length_map]; exact hl, fun ys l hp2 hs hl2 => ?_⟩
  · rw [zip_fst (by rw [List.length_map, n1]), List.map_map]; rfl
  · exact k _ l ys hp2 hs (at_leaves hl2) (Chg.one hl2)
end Pn

/-! # H1: the law's end. -/
namespace Pn
open PySem PySem.Spec PyProof.Rows L2
theorem exD_of {K : Frag} {mg : Str → Option Value} {x : Str} (g : mg x = some (.ref (He.ga K x))) (c : (He.Fa.exc x).ok K = true) : ExD K mg x := by
  obtain ⟨h1, h2, h3, h4⟩ := He.exc_ok c
  exact ⟨g, h1, h2, h3, h4⟩
section
variable {P : Program} {w : World} {K : Frag} {mg : Str → Option Value}
theorem fnok_E0 {base : Heap} {k : Nat} {f : Addr} {fd : FuncData} {ps : List Str} {sp : Sp} (F : FnOk P w K mg base (L2.CX P w) k f fd ps sp) :
    FnOk P w K mg base CX0 k f fd ps (fun vs H Q _ => sp vs H Q fun _ _ _ => False) := by
  refine ⟨fun vs H Q E h => F.len vs H Q _ h, fun A outer s H args us vs Q E hr e0 b r h => codeAny_mono (F.run A outer s H args us vs Q _ hr e0 b r h) fun r s' q => ?_⟩
  match r, q with
  | .error u, q =>
    obtain ⟨_, _, _, _, _, _, _, _, _, _, _, _, z⟩ := q
    exact z.elim
  | .ok (.ret u), q => exact q
  | .ok .next, q => exact q
  | .ok .brk, q => exact q
  | .ok .cont, q => exact q
theorem law_end {k : Nat} {d : He.DefD} {sp : Sp} {x : Str} (G : ∀ base, Okd P w K mg base k d.at_ [x] sp) {fd : FuncData} (F : FunD K d.name d.qual d.params d.body d.scope (d.dvs K) (d.kws K) (He.fAd K d.at_) fd) (hd : d.dfl = [])
    (hb : ∀ (kV doc pm : Value) (an : Option Addr) (cdv ct : Value) (us : List Value), us.length = ([x] : List Str).length → bindArgs (PySem.W.fnOf d.name d.qual d.params d.body d.scope .none kV doc pm an cdv ct) ⟨us, []⟩ = pure (([x] : List Str).zip us)) :
    (∀ (s : Shared) (u : Value), BindsTo s fd ⟨[u], []⟩ [(x, u)]) ∧ ∀ base, FnOk P w K mg base CX0 k (He.fAd K d.at_) fd [x] (fun vs H Q _ => sp vs H Q fun _ _ _ => False) := by
  have e : d.dvs K = [] := by unfold He.DefD.dvs; rw [hd]; rfl
  obtain ⟨oc, od, _, _, _, _, _, _, _, osl, _, lk, _⟩ := F.ex
  rw [e] at F
  refine ⟨fun s u => F.bindsA hb s [u] rfl, fun base => ?_⟩
  obtain ⟨fd2, F2, _, _, oc2, od2, osl2, lk2⟩ := G base
  rw [lk] at lk2
  injection lk2 with z
  injection z with z1 z2 z3 z4
  injection z3 with z5
  rw [z5]
  exact fnok_E0 F2
/-- what a law promises -/
def spLaw (K : Frag) : Sp := fun vs H Q _ => ∃ (a : Addr) (ns : List Int), vs = [.ref a] ∧ SqL K H a (ns.map V.int) ∧ ns.length ≤ 63 ∧ ∀ H', Q (.bl true) H'
theorem sl_law {K : Frag} : ∀ vs H Q E, spLaw K vs H Q E → vs.length = (["_law_script"] : List Str).length := by
  rintro vs H Q E ⟨a, ns, rfl, _⟩; rfl
end
/-- the script, or a list that stands, under what is made anew -/
theorem sq_keep {K : Frag} {H H' : Hp} {a : Addr} {xs : List V} {S : List Addr} (h : SqL K H a xs) (c : Chg [] S H H') : SqL K H' a xs := by
  rcases h with (h | ⟨o, h⟩) | h
  · exact .inl (.inl (c.keep _ _ h (by simp)))
  · exact .inl (.inr ⟨o, c.keep _ _ h (by simp)⟩)
  · exact .inr h
end Pn

/-! # the law k60: its own defs. -/
namespace Pn
open PySem PySem.Spec PyProof.Rows L2
/-! ### what laws share -/
def cellAt (ns : List Int) (k : Nat) : Int := ns.getD k 0
def sp_law_cell_at (K : Frag) : Sp := fun vs H Q _ => ∃ a ns, ∃ k : Nat, vs = [V.ref a, .int k] ∧ SqL K H a (ns.map V.int) ∧ Q (.int (cellAt ns k)) H
theorem sl_law_cell_at {K : Frag} : ∀ vs H Q E, sp_law_cell_at K vs H Q E → vs.length = (["_law_script", "_law_k"] : List Str).length := by
  intro vs H Q E h
  unfold sp_law_cell_at at h
  repeat (first | (obtain ⟨e, _⟩ := h; exact congrArg List.length e) | (obtain ⟨_, h⟩ := h))
/- 0 _law_script 1 _law_k -/
abbrev N_law_cell_at : List Str := ["_law_script", "_law_k"]
def t_law_cell_at (K : Frag) : TS :=
  tSeq (tIfS (tTest (tOp r_lt (tVar 1) (tCB (rLen K) (tCons (tVar 0) (tNil))))) (tRet (tOp (rIxL K) (tVar 0) (tVar 1))) (tNext)) (tRet (tC (.int 0)))
theorem i_lnS {K : Frag} {a : Addr} {xs : List V} {H : Hp} {Q : VK} (h : SqL K H a xs) (k : Q (.int (xs.length : Nat)) H) : rLen K [.ref a] H Q := ⟨_, _, rfl, .inl ⟨xs, h, rfl⟩, k⟩
theorem pu_law_cell_at {K : Frag} : ∀ vs H Q E, sp_law_cell_at K vs H Q E → t_law_cell_at K { nx := fun _ H' => Q .non H', rt := Q } (start N_law_cell_at vs) H := by
  rintro vs H Q E ⟨a, ns, j, rfl, hs, k⟩
  unfold t_law_cell_at
  walk_at "r"
  refine i_lnS hs ?_
  walk_at "r"
  rw [List.length_map]
  by_cases h : j < ns.length
  · rw [if_pos (decide_eq_true (by omega))]
    walk_at "r"
    refine ⟨a, _, j, .int ns[j], rfl, rfl, hs, atI_nat (by simp [h]), ?_⟩
    have e : cellAt ns j = ns[j] := by unfold cellAt; rw [List.getD_eq_getElem?_getD, List.getElem?_eq_getElem h]; rfl
    rw [e] at k
    exact k
  · rw [if_neg (by simp; omega)]
    walk_at "r"
    have e : cellAt ns j = 0 := by unfold cellAt; rw [List.getD_eq_getElem?_getD, List.getElem?_eq_none (by omega)]; rfl
    rw [e] at k
    exact k
theorem tyN_lst {a : Addr} {xs : List V} {H : Hp} (h : H a = some (.lst xs)) : tyN (.ref a) H = some "list" := by
  show (match H a with | some (.lst _) => some "list" | some (.tup _) => some "tuple" | some (.dK _) => some "dict" | _ => none) = some "list"
  rw [h]
theorem tyN_tup {a : Addr} {xs : List V} {H : Hp} (h : H a = some (.tup xs)) : tyN (.ref a) H = some "tuple" := by
  show (match H a with | some (.lst _) => some "list" | some (.tup _) => some "tuple" | some (.dK _) => some "dict" | _ => none) = some "tuple"
  rw [h]
/-! ### k60 -/
def sp_law_edged (K : Frag) : Sp := fun vs H Q _ => ∃ c lo hi, vs = [V.int c, .int lo, .int hi] ∧ lo ≤ hi ∧ ∀ r, lo ≤ r → r ≤ hi → Q (.int r) H
theorem sl_law_edged {K : Frag} : ∀ vs H Q E, sp_law_edged K vs H Q E → vs.length = (["_law_cell", "_law_low", "_law_high"] : List Str).length := by
  intro vs H Q E h
  unfold sp_law_edged at h
  repeat (first | (obtain ⟨e, _⟩ := h; exact congrArg List.length e) | (obtain ⟨_, h⟩ := h))
/- 0 _law_cell 1 _law_low 2 _law_high -/
abbrev N_law_edged : List Str := ["_law_cell", "_law_low", "_law_high"]
def t_law_edged (K : Frag) : TS :=
  tSeq (tIfS (tTest (tOp rEq (tOp r_mod (tVar 0) (tC (.int 5))) (tC (.int 1)))) (tRet (tVar 1)) (tNext)) (tSeq (tIfS (tTest (tOp rEq (tOp r_mod (tVar 0) (tC (.int 5))) (tC (.int 2)))) (tRet (tVar 2)) (tNext)) (tRet (tOp r_add (tVar 1) (tOp r_mod (tOp r_fdiv (tVar 0) (tC (.int 5))) (tOp r_add (tOp r_sub (tVar 2) (tVar 1)) (tC (.int 1)))))))
theorem pu_law_edged {K : Frag} : ∀ vs H Q E, sp_law_edged K vs H Q E → t_law_edged K { nx := fun _ H' => Q .non H', rt := Q } (start N_law_edged vs) H := by
  rintro vs H Q E ⟨c, lo, hi, rfl, hl, k⟩
  unfold t_law_edged
  walk_at "r"
  refine i_I (by decide) ?_
  walk_at "r"
  refine ite2 (fun _ => ?_) fun _ => ?_
  · walk_at "r"
    exact k _ (Int.le_refl _) hl
  walk_at "r"
  refine i_I (by decide) ?_
  walk_at "r"
  refine ite2 (fun _ => ?_) fun _ => ?_
  · walk_at "r"
    exact k _ hl (Int.le_refl _)
  walk_at "r"
  refine i_I ⟨by decide, by decide⟩ ?_
  walk_at "r"
  refine i_I (by omega) ?_
  walk_at "r"
  have h1 := Int.emod_nonneg (c / 5) (show hi - lo + 1 ≠ 0 by omega)
  have h2 := Int.emod_lt_of_pos (c / 5) (show 0 < hi - lo + 1 by omega)
  exact k _ (by omega) (by omega)
theorem log_small {i : Int} (h : i.natAbs < 1000000) : i.natAbs.log2 < 1920 := by
  rcases Nat.eq_zero_or_pos i.natAbs with e | e
  · rw [e]; decide
  · exact Nat.lt_of_lt_of_le ((Nat.log2_lt (by omega)).mpr (show i.natAbs < 2 ^ 20 by omega)) (by decide)
def sp_law_bad (K : Frag) : Sp := fun vs H Q _ => ∃ c lo hi, vs = [V.int c, .int lo, .int hi] ∧ lo.natAbs < 1000000 ∧ ∀ x m H', inB x lo hi = false → tyN x H' = some m → Chg [] [] H H' → Q x H'
theorem sl_law_bad {K : Frag} : ∀ vs H Q E, sp_law_bad K vs H Q E → vs.length = (["_law_cell", "_law_low", "_law_high"] : List Str).length := by
  intro vs H Q E h
  unfold sp_law_bad at h
  repeat (first | (obtain ⟨e, _⟩ := h; exact congrArg List.length e) | (obtain ⟨_, h⟩ := h))
/- 0 _law_cell 1 _law_low 2 _law_high 3 _law_way 4 _law_far -/
abbrev N_law_bad : List Str := ["_law_cell", "_law_low", "_law_high", "_law_way", "_law_far"]
def t_law_bad (K : Frag) : TS :=
  tSeq (tAsg (tOp r_mod (tVar 0) (tC (.int 9))) (gName 3)) (tSeq (tAsg (tOp r_mod (tOp r_fdiv (tVar 0) (tC (.int 9))) (tOp r_pow (tC (.int 10)) (tC (.int 60)))) (gName 4)) (tSeq (tIfS (tTest (tOp rEq (tVar 3) (tC (.int 0)))) (tRet (tOp r_sub (tVar 1) (tC (.int 1)))) (tNext)) (tSeq (tIfS (tTest (tOp rEq (tVar 3) (tC (.int 1)))) (tRet (tOp r_add (tVar 2) (tC (.int 1)))) (tNext)) (tSeq (tIfS (tTest (tOp rEq (tVar 3) (tC (.int 2)))) (tRet (tOp r_sub (tOp r_sub (tVar 1) (tC (.int 1))) (tVar 4))) (tNext)) (tSeq (tIfS (tTest (tOp rEq (tVar 3) (tC (.int 3)))) (tRet (tOp r_add (tOp r_add (tVar 2) (tC (.int 1))) (tVar 4))) (tNext)) (tRet (tOp rL (tLst (tCons (tC (.bl true)) (tCons (tCB r_strI (tCons (tVar 1) (tNil))) (tCons (tC .non) (tCons (tLst (tCons (tVar 1) (tNil))) (tCons (tTup (tCons (tVar 1) (tNil))) (tNil))))))) (tOp r_sub (tVar 3) (tC (.int 4))))))))))
theorem pu_law_bad {K : Frag} : ∀ vs H Q E, sp_law_bad K vs H Q E → t_law_bad K { nx := fun _ H' => Q .non H', rt := Q } (start N_law_bad vs) H := by
  rintro vs H Q E ⟨c, lo, hi, rfl, hb, k⟩
  unfold t_law_bad
  walk_at "r"
  refine i_I (by decide) ?_
  walk_at "r"
  refine i_I ⟨by decide, by decide⟩ ?_
  walk_at "r"
  refine i_I ⟨by decide, by decide, by decide⟩ ?_
  walk_at "r"
  have hp : (0 : Int) < 10 ^ (60 : Int).toNat := by decide
  refine i_I hp ?_
  generalize hf : c / 9 % 10 ^ (60 : Int).toNat = far
  have h0 : 0 ≤ far := by rw [← hf]; exact Int.emod_nonneg _ (Int.ne_of_gt hp)
  have w0 := Int.emod_nonneg c (show (9 : Int) ≠ 0 by decide)
  have w1 := Int.emod_lt_of_pos c (show (0 : Int) < 9 by decide)
  generalize c % 9 = way at w0 w1
  walk_at "r"
  refine ite2 (fun _ => ?_) fun n0 => ?_
  · walk_at "r"
    exact k _ "int" _ (by simp [inB]; omega) rfl Chg.refl
  walk_at "r"
  refine ite2 (fun _ => ?_) fun n1 => ?_
  · walk_at "r"
    exact k _ "int" _ (by simp [inB]; omega) rfl Chg.refl
  walk_at "r"
  refine ite2 (fun _ => ?_) fun n2 => ?_
  · walk_at "r"
    exact k _ "int" _ (by simp [inB]; omega) rfl Chg.refl
  walk_at "r"
  refine ite2 (fun _ => ?_) fun n3 => ?_
  · walk_at "r"
    exact k _ "int" _ (by simp [inB]; omega) rfl Chg.refl
  walk_at "r"
  refine ⟨lo, rfl, log_small hb, ?_⟩
  walk_at "r"
  refine i_new (by simp) fun l1 f1 => ?_
  walk_at "r"
  refine i_new (by simp) fun l2 f2 => ?_
  walk_at "r"
  refine i_new (by simp) fun l3 f3 => ?_
  walk_at "r"
  have c1 : Chg [] [] H (upd H l1 (.lst [V.int lo])) := Chg.fresh f1
  have c2 := c1.trans (Chg.fresh (S := []) (o := .tup [V.int lo]) f2)
  have c3 := c2.trans (Chg.fresh (S := []) (o := .lst [V.bl true, .str (toString lo), .non, .ref l1, .ref l2]) f3)
  have n21 : l1 ≠ l2 := by walk_at "ne"
  have n31 : l1 ≠ l3 := by walk_at "ne"
  have n32 : l2 ≠ l3 := by walk_at "ne"
  simp at n0 n1 n2 n3
  obtain ⟨j, hj⟩ := Int.eq_ofNat_of_zero_le (show 0 ≤ way - 4 by omega)
  have hj5 : j < 5 := by omega
  have cs : j = 0 ∨ j = 1 ∨ j = 2 ∨ j = 3 ∨ j = 4 := by omega
  rcases cs with rfl | rfl | rfl | rfl | rfl
  · exact i_L hj upd_same rfl (k _ "bool" _ rfl rfl c3)
  · exact i_L hj upd_same rfl (k _ "str" _ rfl rfl c3)
  · exact i_L hj upd_same rfl (k _ "NoneType" _ rfl rfl c3)
  · refine i_L hj upd_same rfl (k _ "list" _ rfl ?_ c3)
    exact tyN_lst (by rw [upd_ne n31, upd_ne n21, upd_same])
  · refine i_L hj upd_same rfl (k _ "tuple" _ rfl ?_ c3)
    exact tyN_tup (by rw [upd_ne n32, upd_same])
def sp_law_is (K : Frag) : Sp := fun vs H Q _ => ∃ x i m, vs = [x, .int i] ∧ tyN x H = some m ∧ Q (.bl (decide (x = .int i))) H
theorem sl_law_is {K : Frag} : ∀ vs H Q E, sp_law_is K vs H Q E → vs.length = (["_law_found", "_law_due"] : List Str).length := by
  intro vs H Q E h
  unfold sp_law_is at h
  repeat (first | (obtain ⟨e, _⟩ := h; exact congrArg List.length e) | (obtain ⟨_, h⟩ := h))
/- 0 _law_found 1 _law_due -/
abbrev N_law_is : List Str := ["_law_found", "_law_due"]
def t_law_is (K : Frag) : TS :=
  tRet (tAndV (tCB (rIs "int") (tCons (tVar 0) (tCons (tC (.ty "int")) tNil))) (tAndV (tNotV (tCB (rIs "bool") (tCons (tVar 0) (tCons (tC (.ty "bool")) tNil)))) (tOp rEq (tVar 0) (tVar 1))))
theorem pu_law_is {K : Frag} : ∀ vs H Q E, sp_law_is K vs H Q E → t_law_is K { nx := fun _ H' => Q .non H', rt := Q } (start N_law_is vs) H := by
  rintro vs H Q E ⟨x, i, m, rfl, hm, k⟩
  unfold t_law_is
  walk_at "r"
  refine i_isk (by simp) hm ?_
  refine i_bl ?_
  have kk := kb_int hm
  cases h1 : kb m "int" with
  | false =>
    rw [if_neg Bool.false_ne_true]
    have e : decide (x = .int i) = false := by
      rw [h1] at kk
      refine decide_eq_false fun e => ?_
      subst e
      cases kk
    rw [e] at k
    exact k
  | true =>
    rw [if_pos rfl]
    walk_at "r"
    refine i_isk (by simp) hm ?_
    walk_at "r"
    rw [h1] at kk
    cases h2 : kb m "bool" with
    | true =>
      rw [h2] at kk
      rw [if_neg (by simp)]
      have e : decide (x = .int i) = false := by
        refine decide_eq_false fun e => ?_
        subst e
        cases kk
      rw [e] at k
      exact k
    | false =>
      rw [h2] at kk
      rw [if_pos (by simp)]
      walk_at "r"
      cases x with
      | int z => exact i_eq rfl k
      | _ => cases kk
def sp_law_alone (K : Frag) : SpZ := fun a D vs H Q _ => ∃ x, vs = [V.ref a] ∧ x ∈ excN ∧ D = He.ga K x ∧ ∀ H', Chg [] [] H H' → Q (.bl (decide (x = "NoNumber"))) H'
theorem sl_law_alone {K : Frag} : ∀ a D vs H Q E, sp_law_alone K a D vs H Q E → vs.length = (["_law_e"] : List Str).length := by
  rintro a D vs H Q E ⟨x, rfl, _⟩; rfl
/- 0 _law_e 1 _law_others -/
abbrev N_law_alone : List Str := ["_law_e", "_law_others"]
def t_law_alone (K : Frag) (a D : Addr) : TS :=
  tSeq (tAsg (tCB (rIsPT K a D) (tCons (tVar 0) (tCons (tTup (tCons (tC (.ref (He.ga K "NoSpace"))) (tCons (tC (.ref (He.ga K "NoFile"))) (tCons (tC (.ref (He.ga K "NoPage"))) (tCons (tC (.ref (He.ga K "NoRight"))) (tCons (tC (.ref (He.ga K "Taken"))) (tCons (tC (.ref (He.ga K "Held"))) (tCons (tC (.ref (He.ga K "Full"))) (tCons (tC (.ref (He.ga K "NoRow"))) (tNil)))))))))) tNil))) (gName 1)) (tRet (tAndV (tCB (rIsP K a D) (tCons (tVar 0) (tCons (tC (.ref (He.ga K "NoNumber"))) tNil))) (tAndV (tCB (rIsP K a D) (tCons (tVar 0) (tCons (tC (.ty "ValueError")) tNil))) (tNotV (tVar 1)))))
theorem pu_law_alone {K : Frag} (X : ExcK K) : ∀ a D vs H Q E, sp_law_alone K a D vs H Q E → t_law_alone K a D { nx := fun _ H' => Q .non H', rt := Q } (start N_law_alone vs) H := by
  rintro a D vs H Q E ⟨x, rfl, hx, rfl, k⟩
  unfold t_law_alone
  walk_at "r"
  refine i_new (by simp) fun l hl => ?_
  walk_at "r"
  refine i_isPT X hx ["NoSpace", "NoFile", "NoPage", "NoRight", "Taken", "Held", "Full", "NoRow"] (by decide +kernel) upd_same ?_
  walk_at "r"
  refine i_isPx X hx (by decide +kernel) ?_
  refine i_bl ?_
  have c1 : Chg [] [] H (upd H l (.tup ((["NoSpace", "NoFile", "NoPage", "NoRight", "Taken", "Held", "Full", "NoRow"] : List Str).map fun y => V.ref (He.ga K y)))) := Chg.fresh hl
  have kk := k _ c1
  by_cases e : x = "NoNumber"
  · rw [if_pos (decide_eq_true e)]
    walk_at "r"
    refine i_isPv X hx ?_
    refine i_bl ?_
    rw [if_pos rfl]
    walk_at "r"
    have e2 : decide (x ∈ (["NoSpace", "NoFile", "NoPage", "NoRight", "Taken", "Held", "Full", "NoRow"] : List Str)) = false := by
      subst e
      decide +kernel
    rw [decide_eq_true e] at kk
    rw [e2]
    exact kk
  · rw [if_neg (by simpa using e)]
    rw [decide_eq_false e] at kk
    exact kk
/-- the suite: what the law makes of the error -/
theorem su_alone {K : Frag} {i j : Nat} {a : Addr} {D : Ends} {σ : L2.St} {H : Hp} {v : V} (hi : σ[i]? = some (some (.ref a))) (h : ∀ H', Chg [] [] H H' → D.nx (σ.set j (some (.bl true))) H') :
    tAsg (tCZ K a (.ref (He.ga K "NoNumber")) none (sp_law_alone K) (tCons (tVar i) tNil)) (gName j) D σ H := by
  walk_at "r"
  refine i_var hi ?_
  walk_at "r"
  refine ⟨_, rfl, rfl, "NoNumber", rfl, by decide +kernel, rfl, fun H' c => ?_⟩
  have e : decide (("NoNumber" : Str) = "NoNumber") = true := decide_eq_true rfl
  rw [e]
  exact h H' c
def sp_law_world_refused (K : Frag) : Sp := fun vs H Q _ => ∃ l x1 x2 x3 x4 m1 m2 m3 m4, vs = [V.ref l] ∧ H l = some (.lst [x1, x2, x3, x4]) ∧ tyN x1 H = some m1 ∧ tyN x2 H = some m2 ∧ tyN x3 H = some m3 ∧ tyN x4 H = some m4 ∧
  (inB x1 1 64 && (inB x2 0 512 && (inB x3 1 8 && inB x4 0 16))) = false ∧ ∀ H', Chg [] [] H H' → Q (.bl true) H'
theorem sl_law_world_refused {K : Frag} : ∀ vs H Q E, sp_law_world_refused K vs H Q E → vs.length = (["_law_nums"] : List Str).length := by
  intro vs H Q E h
  unfold sp_law_world_refused at h
  repeat (first | (obtain ⟨e, _⟩ := h; exact congrArg List.length e) | (obtain ⟨_, h⟩ := h))
/- 0 _law_nums 1 _law_refused 2 _law_e -/
abbrev N_law_world_refused : List Str := ["_law_nums", "_law_refused", "_law_e"]
def t_law_world_refused (K : Frag) : TS :=
  tSeq (tAsg (tC (.bl false)) (gName 1)) (tSeq (tTryAs K "PaneError" 2 (fun W2 => tDrop (tMk (He.ga K "World") (sp_World_init K) W2 (tCons (tOp rL (tVar 0) (tC (.int 0))) (tCons (tOp rL (tVar 0) (tC (.int 1))) (tCons (tOp rL (tVar 0) (tC (.int 2))) (tCons (tOp rL (tVar 0) (tC (.int 3))) (tNil))))))) (fun a cls d => tAsg (tCZ K a cls d (sp_law_alone K) (tCons (tVar 2) (tNil))) (gName 1))) (tRet (tVar 1)))
theorem tyN_chg {x : V} {m : String} {H H' : Hp} {S' : List Addr} (h : tyN x H = some m) (c : Chg [] S' H H') : tyN x H' = some m := by
  cases x with
  | ref a =>
    have h2 : (match H a with | some (.lst _) => some "list" | some (.tup _) => some "tuple" | some (.dK _) => some "dict" | _ => none) = some m := h
    show (match H' a with | some (.lst _) => some "list" | some (.tup _) => some "tuple" | some (.dK _) => some "dict" | _ => none) = some m
    cases e : H a with
    | none => rw [e] at h2; cases h2
    | some o =>
      rw [c.keep a o e (by simp)]
      rw [e] at h2
      exact h2
  | _ => exact h
theorem pu_law_world_refused {K : Frag} (X : ExcK K) : ∀ vs H Q E, sp_law_world_refused K vs H Q E → t_law_world_refused K { nx := fun _ H' => Q .non H', rt := Q } (start N_law_world_refused vs) H := by
  rintro vs H Q E ⟨l, x1, x2, x3, x4, m1, m2, m3, m4, rfl, hl, t1, t2, t3, t4, hb, k⟩
  unfold t_law_world_refused
  walk_at "r"
  unfold tTryAs
  walk_at "r"
  refine i_L (j := 0) rfl hl rfl ?_
  walk_at "r"
  refine i_L (j := 1) rfl hl rfl ?_
  walk_at "r"
  refine i_L (j := 2) rfl hl rfl ?_
  walk_at "r"
  refine i_L (j := 3) rfl hl rfl ?_
  walk_at "r"
  intro x dx nx nd ne
  have c0 : Chg [] [] H (upd (upd H dx (.own x)) x (.ins (He.ga K "World") dx [])) := (Chg.made nx nd (Chg.refl (S := [x]))).sub (fun _ h => h) (fun a h => by cases h)
  refine ⟨x, dx, x1, x2, x3, x4, m1, m2, m3, m4, rfl, by rw [upd_same]; rfl, tyN_chg t1 c0, tyN_chg t2 c0, tyN_chg t3 c0, tyN_chg t4 c0, ?_, fun _ => ?_⟩
  · intro n m h s e1 e2 e3 e4 b1 b2 b3 b4
    rw [b1, b2, b3, b4] at hb
    cases hb
  · refine wAs_in X (by decide +kernel) fun a ha => ?_
    refine su_alone (v := .non) rfl fun H' c => ?_
    walk_at "r"
    exact k H' (c0.trans c)
def sp_law_book_refused (K : Frag) : Sp := fun vs H Q _ => ∃ x h w S m, vs = [x, h] ∧ At H x (worldT K w) S ∧ tyN h H = some m ∧ inB h 0 ((w.books.length : Int) - 1) = false ∧ ∀ H', Chg [] [] H H' → Q (.bl true) H'
theorem sl_law_book_refused {K : Frag} : ∀ vs H Q E, sp_law_book_refused K vs H Q E → vs.length = (["_law_world", "_law_hand"] : List Str).length := by
  intro vs H Q E h
  unfold sp_law_book_refused at h
  repeat (first | (obtain ⟨e, _⟩ := h; exact congrArg List.length e) | (obtain ⟨_, h⟩ := h))
/- 0 _law_world 1 _law_hand 2 _law_refused 3 _law_e -/
abbrev N_law_book_refused : List Str := ["_law_world", "_law_hand", "_law_refused", "_law_e"]
def t_law_book_refused (K : Frag) : TS :=
  tSeq (tAsg (tC (.bl false)) (gName 2)) (tSeq (tTryAs K "PaneError" 3 (fun W2 => tDrop (tCallS (sp_told_book K) (WE W2) (tCons (tVar 0) (tCons (tVar 1) (tNil))))) (fun a cls d => tAsg (tCZ K a cls d (sp_law_alone K) (tCons (tVar 3) (tNil))) (gName 2))) (tRet (tVar 2)))
theorem inB_not {h : V} {n i : Nat} {lo : Int} (b : inB h lo ((n : Int) - 1) = false) (e : h = .int i) (hlo : lo ≤ i) : n ≤ i := by
  subst e
  simp [inB] at b
  omega
theorem pu_law_book_refused {K : Frag} (X : ExcK K) : ∀ vs H Q E, sp_law_book_refused K vs H Q E → t_law_book_refused K { nx := fun _ H' => Q .non H', rt := Q } (start N_law_book_refused vs) H := by
  rintro vs H Q E ⟨x, h, w, S, m, rfl, ha, hm, hb, k⟩
  unfold t_law_book_refused
  walk_at "r"
  unfold tTryAs
  walk_at "r"
  refine ⟨x, h, w, S, m, rfl, ha, hm, fun i b e hi => ?_, fun _ => ?_⟩
  · have := (List.getElem?_eq_some_iff.mp hi).1
    have := inB_not hb e (by omega)
    omega
  · refine wAs_in X (by decide +kernel) fun a ha => ?_
    refine su_alone (v := .non) rfl fun H' c => ?_
    walk_at "r"
    exact k H' c
def sp_law_walks_refused (K : Frag) : Sp := fun vs H Q _ => ∃ x h w S m, vs = [x, h] ∧ At H x (worldT K w) S ∧ tyN h H = some m ∧ w.walked.length = w.books.length ∧ inB h 0 ((w.books.length : Int) - 1) = false ∧ ∀ H', Chg [] [] H H' → Q (.bl true) H'
theorem sl_law_walks_refused {K : Frag} : ∀ vs H Q E, sp_law_walks_refused K vs H Q E → vs.length = (["_law_world", "_law_hand"] : List Str).length := by
  intro vs H Q E h
  unfold sp_law_walks_refused at h
  repeat (first | (obtain ⟨e, _⟩ := h; exact congrArg List.length e) | (obtain ⟨_, h⟩ := h))
/- 0 _law_world 1 _law_hand 2 _law_refused 3 _law_e -/
abbrev N_law_walks_refused : List Str := ["_law_world", "_law_hand", "_law_refused", "_law_e"]
def t_law_walks_refused (K : Frag) : TS :=
  tSeq (tAsg (tC (.bl false)) (gName 2)) (tSeq (tTryAs K "PaneError" 3 (fun W2 => tDrop (tCallS (sp_told_walks K) (WE W2) (tCons (tVar 0) (tCons (tVar 1) (tNil))))) (fun a cls d => tAsg (tCZ K a cls d (sp_law_alone K) (tCons (tVar 3) (tNil))) (gName 2))) (tRet (tVar 2)))
theorem pu_law_walks_refused {K : Frag} (X : ExcK K) : ∀ vs H Q E, sp_law_walks_refused K vs H Q E → t_law_walks_refused K { nx := fun _ H' => Q .non H', rt := Q } (start N_law_walks_refused vs) H := by
  rintro vs H Q E ⟨x, h, w, S, m, rfl, ha, hm, hl, hb, k⟩
  unfold t_law_walks_refused
  walk_at "r"
  unfold tTryAs
  walk_at "r"
  refine ⟨x, h, w, S, m, rfl, ha, hm, hl, fun i b e hi => ?_, fun _ => ?_⟩
  · have := (List.getElem?_eq_some_iff.mp hi).1
    have := inB_not hb e (by omega)
    omega
  · refine wAs_in X (by decide +kernel) fun a ha => ?_
    refine su_alone (v := .non) rfl fun H' c => ?_
    walk_at "r"
    exact k H' c
def sp_law_of_none (K : Frag) : Sp := fun vs H Q _ => ∃ l th, ∃ n : Nat, vs = [V.ref l, .int n, th] ∧ H l = some (.lst (List.replicate n th)) ∧ (th = .non ∨ th = .bl false) ∧ Q (.bl true) H
theorem sl_law_of_none {K : Frag} : ∀ vs H Q E, sp_law_of_none K vs H Q E → vs.length = (["_law_found", "_law_many", "_law_thing"] : List Str).length := by
  intro vs H Q E h
  unfold sp_law_of_none at h
  repeat (first | (obtain ⟨e, _⟩ := h; exact congrArg List.length e) | (obtain ⟨_, h⟩ := h))
/- 0 _law_found 1 _law_many 2 _law_thing 3 _law_one -/
abbrev N_law_of_none : List Str := ["_law_found", "_law_many", "_law_thing", "_law_one"]
def t_law_of_none (K : Frag) : TS :=
  tSeq (tIfS (tOr (tNot (tB (tCB (rIs "list") (tCons (tVar 0) (tCons (tC (.ty "list")) tNil))))) (tTest (tOp rNe (tCB (rLn) (tCons (tVar 0) (tNil))) (tVar 1)))) (tRet (tC (.bl false))) (tNext)) (tSeq (tFor (iList K (tVar 0)) (gName 3) (tIfS (tOr (tAnd (tTest (tOp r_isN (tVar 2) (tC .non))) (tTest (tOp r_notN (tVar 3) (tC .non)))) (tAnd (tTest (tOp rIsI (tVar 2) (tC (.bl false)))) (tTest (tOp rNotI (tVar 3) (tC (.bl false)))))) (tRet (tC (.bl false))) (tNext))) (tRet (tC (.bl true))))
theorem pu_law_of_none {K : Frag} : ∀ vs H Q E, sp_law_of_none K vs H Q E → t_law_of_none K { nx := fun _ H' => Q .non H', rt := Q } (start N_law_of_none vs) H := by
  rintro vs H Q E ⟨l, th, n, rfl, hl, ht, k⟩
  unfold t_law_of_none
  walk_at "r"
  refine i_isk (by simp) (tyN_lst hl) ?_
  walk_at "r"
  rw [show kb "list" "list" = true from rfl, show (!true) = false from rfl, if_neg Bool.false_ne_true]
  walk_at "r"
  rw [List.length_replicate]
  have e : (!decide (V.int (n : Int) = V.int (n : Int))) = false := by simp
  rw [e, if_neg Bool.false_ne_true]
  walk_at "r"
  refine i_forL hl (fun j σ' H' => H' = H ∧ ∃ v, σ' = [some (.ref l), some (.int n), some th, v]) ⟨rfl, none, rfl⟩ (fun j σ' H' q => by rw [q.1]; exact hl) ?_ ?_
  · rintro j x σ' H' hx ⟨rfl, v, rfl⟩
    have ex : x = th := List.eq_of_mem_replicate (List.mem_of_getElem? hx)
    subst ex
    walk_at "r"
    rcases ht with rfl | rfl
    · rw [if_pos (by simp)]
      walk_at "r"
      rw [if_neg (by simp)]
      walk_at "r"
      refine ⟨rfl, rfl, ?_⟩
      walk_at "r"
      rw [if_neg (by simp), if_neg (by simp)]
      walk_at "r"
      exact ⟨rfl, _, rfl⟩
    · rw [if_neg (by simp), if_neg (by simp)]
      walk_at "r"
      refine ⟨rfl, rfl, ?_⟩
      walk_at "r"
      rw [if_pos (by simp)]
      walk_at "r"
      refine ⟨rfl, rfl, ?_⟩
      walk_at "r"
      rw [if_neg (by simp)]
      walk_at "r"
      exact ⟨rfl, _, rfl⟩
  · rintro σ' H' ⟨rfl, v, rfl⟩
    walk_at "r"
    exact k
theorem ne_nil {K : Frag} {l l2 : Addr} {H : Hp} {Q : VK} (h1 : H l = some (.lst [])) (h2 : H l2 = some (.lst [])) (h : Q (.bl false) H) : rNeD K (.ref l) (.ref l2) H Q :=
  ⟨.list [], .list [], .lst (SqL.of h1) .nil, .lst (SqL.of h2) .nil, rfl, rfl, h⟩
theorem at_lst {H : Hp} {l : Addr} {S : List Addr} {cs : List T} (h : At H (.ref l) (.n .lst cs) S) : ∃ vs, H l = some (.lst vs) ∧ vs.length = cs.length := by
  obtain ⟨dx, vs, a⟩ := h.openR
  exact ⟨vs, a.lst, a.len⟩
theorem at_lst_leaves {H : Hp} {l : Addr} {S : List Addr} {α : Type} {f : α → V} {xs : List α} (h : At H (.ref l) (.n .lst (xs.map fun x => .v (f x))) S) : H l = some (.lst (xs.map f)) := by
  obtain ⟨dx, vs, a⟩ := h.openR
  exact a.leaves
/-- what is made anew is no harm -/
theorem Chg.drop {S : List Addr} {H H' : Hp} (c : Chg [] S H H') : Chg [] [] H H' := c.sub (fun _ h => h) (fun a h => by cases h)
def sp_law_is_new (K : Frag) : Sp := fun vs H Q _ => ∃ x S l s, ∃ n m h : Nat, vs = [x, V.ref l] ∧ At H x (worldT K (newWorld n m h s)) S ∧ H l = some (.lst [.int n, .int m, .int h, .int s]) ∧ h < 100 ∧ ∀ H', Chg [] [] H H' → Q (.bl true) H'
theorem sl_law_is_new {K : Frag} : ∀ vs H Q E, sp_law_is_new K vs H Q E → vs.length = (["_law_world", "_law_nums"] : List Str).length := by
  intro vs H Q E h
  unfold sp_law_is_new at h
  repeat (first | (obtain ⟨e, _⟩ := h; exact congrArg List.length e) | (obtain ⟨_, h⟩ := h))
/- 0 _law_world 1 _law_nums 2 _law_hand -/
abbrev N_law_is_new : List Str := ["_law_world", "_law_nums", "_law_hand"]
def t_law_is_new (K : Frag) : TS :=
  tSeq (tIfS (tOr (tTest (tOp (rNeD K) (tCallS (sp_told_spaces K) (WE W0) (tCons (tVar 0) (tNil))) (tLst (tNil)))) (tNot (tB (tCallS (sp_law_of_none K) (WE W0) (tCons (tCallS (sp_told_frames K) (WE W0) (tCons (tVar 0) (tNil))) (tCons (tOp rL (tVar 1) (tC (.int 0))) (tCons (tC .non) (tNil)))))))) (tRet (tC (.bl false))) (tNext)) (tSeq (tIfS (tOr (tNot (tB (tCallS (sp_law_of_none K) (WE W0) (tCons (tCallS (sp_told_marks K) (WE W0) (tCons (tVar 0) (tNil))) (tCons (tOp rL (tVar 1) (tC (.int 0))) (tCons (tC (.bl false)) (tNil))))))) (tNot (tB (tCallS (sp_law_is K) (WE W0) (tCons (tCallS (sp_told_pointer K) (WE W0) (tCons (tVar 0) (tNil))) (tCons (tC (.int 0)) (tNil))))))) (tRet (tC (.bl false))) (tNext)) (tSeq (tIfS (tOr (tNot (tB (tCallS (sp_law_of_none K) (WE W0) (tCons (tCallS (sp_told_shelf K) (WE W0) (tCons (tVar 0) (tNil))) (tCons (tOp rL (tVar 1) (tC (.int 1))) (tCons (tC .non) (tNil))))))) (tNot (tB (tCallS (sp_law_is K) (WE W0) (tCons (tCallS (sp_told_copies K) (WE W0) (tCons (tVar 0) (tNil))) (tCons (tC (.int 0)) (tNil))))))) (tRet (tC (.bl false))) (tNext)) (tSeq (tFor (iRng1 (tCons (tOp rL (tVar 1) (tC (.int 2))) (tNil))) (gName 2) (tIfS (tOr (tTest (tOp (rNeD K) (tCallS (sp_told_book K) (WE W0) (tCons (tVar 0) (tCons (tVar 2) (tNil)))) (tLst (tNil)))) (tNot (tB (tCallS (sp_law_is K) (WE W0) (tCons (tCallS (sp_told_walks K) (WE W0) (tCons (tVar 0) (tCons (tVar 2) (tNil)))) (tCons (tC (.int 0)) (tNil))))))) (tRet (tC (.bl false))) (tNext))) (tRet (tAndV (tCallS (sp_law_is K) (WE W0) (tCons (tCallS (sp_told_room K) (WE W0) (tCons (tVar 0) (tNil))) (tCons (tOp r_add (tOp r_sub (tOp rL (tVar 1) (tC (.int 0))) (tC (.int 1))) (tOp rL (tVar 1) (tC (.int 1)))) (tNil)))) (tCallS (sp_law_is K) (WE W0) (tCons (tCallS (sp_told_holders K) (WE W0) (tCons (tVar 0) (tCons (tC (.int 1)) (tNil)))) (tCons (tC (.int 0)) (tNil)))))))))
theorem pu_law_is_new {K : Frag} : ∀ vs H Q E, sp_law_is_new K vs H Q E → t_law_is_new K { nx := fun _ H' => Q .non H', rt := Q } (start N_law_is_new vs) H := by
  rintro vs H Q E ⟨x, S, l, s, n, m, h, rfl, ha, hl, hh, k⟩
  unfold t_law_is_new
  walk_at "r"
  refine ⟨x, _, S, rfl, ha, by simp [newWorld], fun H1 l1 ks hp _ a1 c1 => ?_⟩
  have e : ks = [] := by simpa [newWorld] using hp
  subst e
  have hl1 := at_lst_leaves (f := V.int) a1
  walk_at "r"
  refine i_new (by simp) fun l2 f2 => ?_
  have c2 : Chg [] [] H (upd H1 l2 (.lst [])) := c1.drop.trans (Chg.fresh f2)
  refine ne_nil (by rw [upd_ne (ne_of_none hl1 f2)]; exact hl1) upd_same ?_
  walk_at "r"
  rw [if_neg Bool.false_ne_true]
  walk_at "r"
  refine ⟨x, _, S, rfl, ha.chg c2 (by simp), fun H3 l3 a3 c3 => ?_⟩
  have c3' := c2.trans c3.drop
  have hl3 : H3 l3 = some (.lst (List.replicate n V.non)) := by
    have := at_lst_leaves (f := fun _ : Option ThingM => V.non) (xs := List.replicate n none) (S := [l3]) (by
      have q := a3
      unfold listT at q
      rw [show (newWorld n m h s).st.fr.things = List.replicate n none from rfl, List.map_replicate] at q
      rw [List.map_replicate]
      exact q)
    rw [this, List.map_replicate]
  have hl' := c3'.keep _ _ hl (by simp)
  walk_at "r"
  refine i_L (j := 0) rfl hl' rfl ?_
  walk_at "r"
  refine ⟨l3, .non, n, rfl, hl3, .inl rfl, ?_⟩
  walk_at "r"
  rw [if_neg (by simp)]
  walk_at "r"
  -- marks
  refine ⟨x, _, S, rfl, ha.chg c3' (by simp), fun H4 l4 a4 c4 => ?_⟩
  have c4' := c3'.trans c4.drop
  have hl4 : H4 l4 = some (.lst (List.replicate n (V.bl false))) := by
    have := at_lst_leaves (f := V.bl) a4
    rw [this, show (newWorld n m h s).st.di.marked = List.replicate n false from rfl, List.map_replicate]
  have hl' := c4'.keep _ _ hl (by simp)
  walk_at "r"
  refine i_L (j := 0) rfl hl' rfl ?_
  walk_at "r"
  refine ⟨l4, .bl false, n, rfl, hl4, .inr rfl, ?_⟩
  walk_at "r"
  rw [if_neg (by simp)]
  walk_at "r"
  refine ⟨x, _, S, rfl, ha.chg c4' (by simp), ?_⟩
  walk_at "r"
  refine ⟨_, 0, "int", rfl, rfl, ?_⟩
  walk_at "r"
  rw [show decide (V.int (((newWorld n m h s).st.di.spot : Nat) : Int) = V.int 0) = true from rfl, if_neg (by simp)]
  walk_at "r"
  -- shelf
  refine ⟨x, _, S, rfl, ha.chg c4' (by simp), fun H5 l5 a5 c5 => ?_⟩
  have c5' := c4'.trans c5.drop
  have hl5 : H5 l5 = some (.lst (List.replicate m V.non)) := by
    have := at_lst_leaves (f := optI) a5
    rw [this, show (newWorld n m h s).st.sh.sheets = List.replicate m none from rfl, List.map_replicate]; rfl
  have hl' := c5'.keep _ _ hl (by simp)
  walk_at "r"
  refine i_L (j := 1) rfl hl' rfl ?_
  walk_at "r"
  refine ⟨l5, .non, m, rfl, hl5, .inl rfl, ?_⟩
  walk_at "r"
  rw [if_neg (by simp)]
  walk_at "r"
  refine ⟨x, _, S, rfl, ha.chg c5' (by simp), ?_⟩
  walk_at "r"
  refine ⟨_, 0, "int", rfl, rfl, ?_⟩
  walk_at "r"
  rw [show decide (V.int ((newWorld n m h s).copied) = V.int 0) = true from rfl, if_neg (by simp)]
  walk_at "r"
  refine i_L (j := 2) rfl hl' rfl ?_
  walk_at "r"
  refine i_forR (n := h) (by omega) (fun j σ' H' => Chg [] [] H H' ∧ ∃ v, σ' = [some x, some (.ref l), v]) ⟨c5', none, rfl⟩ ?_ ?_
  · rintro j σ' H' hj ⟨c, v, rfl⟩
    have hb : (newWorld n m h s).books[j]? = some ⟨s, []⟩ := by
      show (List.replicate h (⟨s, []⟩ : BookM))[j]? = _
      rw [List.getElem?_replicate, if_pos hj]
    have hw : (newWorld n m h s).walked[j]? = some 0 := by
      show (List.replicate h (0 : Int))[j]? = _
      rw [List.getElem?_replicate, if_pos hj]
    have lb : (newWorld n m h s).books.length = h := List.length_replicate
    have lw : (newWorld n m h s).walked.length = h := List.length_replicate
    walk_at "r"
    refine ⟨x, .int j, _, S, "int", rfl, ha.chg c (by simp), rfl, fun i b ei hi H6 l6 a6 c6 => ?_, fun z => ?_⟩
    · have ei2 : i = j := by
        have := V.int.inj ei
        omega
      subst ei2
      have eb : b = ⟨s, []⟩ := Option.some.inj (hi.symm.trans hb)
      subst eb
      have c6' := c.trans c6.drop
      obtain ⟨ws, hl6, n6⟩ := at_lst a6
      have ew : ws = [] := by simpa using n6
      subst ew
      walk_at "r"
      refine i_new (by simp) fun l7 f7 => ?_
      have c7 : Chg [] [] H (upd H6 l7 (.lst [])) := c6'.trans (Chg.fresh f7)
      refine ne_nil (by rw [upd_ne (ne_of_none hl6 f7)]; exact hl6) upd_same ?_
      walk_at "r"
      rw [if_neg Bool.false_ne_true]
      walk_at "r"
      refine ⟨x, .int i, _, S, "int", rfl, ha.chg c7 (by simp), rfl, by rw [lb, lw], fun i' b' ei' hi' => ?_, fun z => ?_⟩
      · have ei3 : i' = i := by
          have := V.int.inj ei'
          omega
        subst ei3
        have eb : b' = 0 := Option.some.inj (hi'.symm.trans hw)
        subst eb
        walk_at "r"
        refine ⟨_, 0, "int", rfl, rfl, ?_⟩
        walk_at "r"
        rw [show decide (V.int 0 = V.int 0) = true from rfl, if_neg (by simp)]
        walk_at "r"
        exact ⟨c7, _, rfl⟩
      · rw [lb] at z
        simp [inB] at z
        omega
    · rw [lb] at z
      simp [inB] at z
      omega
  · rintro σ' H' ⟨c, v, rfl⟩
    have hl' := c.keep _ _ hl (by simp)
    walk_at "r"
    refine ⟨x, _, S, rfl, ha.chg c (by simp), fun H8 c8 => ?_⟩
    have c8' := c.trans c8
    have hl' := c8'.keep _ _ hl (by simp)
    walk_at "r"
    refine i_L (j := 0) rfl hl' rfl ?_
    walk_at "r"
    refine i_L (j := 1) rfl hl' rfl ?_
    walk_at "r"
    refine ⟨_, _, "int", rfl, rfl, ?_⟩
    have er : roomOf (newWorld n m h s).st = (n : Int) - 1 + m := by
      simp [roomOf, newWorld, newStore]
    rw [er, decide_eq_true rfl]
    walk_at "r"
    rw [if_pos rfl]
    walk_at "r"
    refine ⟨x, _, 1, S, rfl, ha.chg c8' (by simp), ?_⟩
    walk_at "r"
    refine ⟨_, 0, "int", rfl, rfl, ?_⟩
    exact k _ c8'
theorem tyN_set {x : V} {H : Hp} {l : Addr} {xs ys : List V} (h : H l = some (.lst xs)) : tyN x (upd H l (.lst ys)) = tyN x H := by
  cases x with
  | ref a =>
    show (match upd H l (.lst ys) a with | some (.lst _) => some "list" | some (.tup _) => some "tuple" | some (.dK _) => some "dict" | _ => none) = (match H a with | some (.lst _) => some "list" | some (.tup _) => some "tuple" | some (.dK _) => some "dict" | _ => none)
    by_cases e : a = l
    · subst e
      rw [upd_same, h]
    · rw [upd_ne e]
  | _ => rfl
abbrev sp_law (K : Frag) : Sp := spLaw K
theorem four {α : Type} {xs : List α} (h : xs.length = 4) : ∃ a b c d, xs = [a, b, c, d] := by
  match xs, h with
  | [a, b, c, d], _ => exact ⟨a, b, c, d, rfl⟩
theorem mod4 (j : Nat) : ((4 : Int) + (j : Int)) % 4 = ((j % 4 : Nat) : Int) := by omega
/- 0 _law_script 1 _law_lows 2 _law_highs 3 _law_nums 4 _law_world 5 _law_told 6 _law_one 7 _law_k 8 _law_cell 9 _law_spoiled 10 _law_hand -/
abbrev N_law : List Str := ["_law_script", "_law_lows", "_law_highs", "_law_nums", "_law_world", "_law_told", "_law_one", "_law_k", "_law_cell", "_law_spoiled", "_law_hand"]
def t_law (K : Frag) : TS :=
  tSeq (tAsg (tLst (tCons (tC (.int 1)) (tCons (tC (.int 0)) (tCons (tC (.int 1)) (tCons (tC (.int 0)) (tNil)))))) (gName 1)) (tSeq (tAsg (tLst (tCons (tC (.int 64)) (tCons (tC (.int 512)) (tCons (tC (.int 8)) (tCons (tC (.int 16)) (tNil)))))) (gName 2)) (tSeq (tAsg (tLc (iRng1 (tCons (tC (.int 4)) (tNil))) (gName 7) (tYes) (tCallS (sp_law_edged K) (WE W0) (tCons (tCallS (sp_law_cell_at K) (WE W0) (tCons (tVar 0) (tCons (tVar 7) (tNil)))) (tCons (tOp rL (tVar 1) (tVar 7)) (tCons (tOp rL (tVar 2) (tVar 7)) (tNil))))) [7]) (gName 3)) (tSeq (tAsg (tMk (He.ga K "World") (sp_World_init K) W0 (tCons (tOp rL (tVar 3) (tC (.int 0))) (tCons (tOp rL (tVar 3) (tC (.int 1))) (tCons (tOp rL (tVar 3) (tC (.int 2))) (tCons (tOp rL (tVar 3) (tC (.int 3))) (tNil)))))) (gName 4)) (tSeq (tIfS (tNot (tB (tCallS (sp_law_is_new K) (WE W0) (tCons (tVar 4) (tCons (tVar 3) (tNil)))))) (tRet (tC (.bl false))) (tNext)) (tSeq (tAsg (tLst (tCons (tCallS (sp_told_spaces K) (WE W0) (tCons (tVar 4) (tNil))) (tCons (tCallS (sp_told_frames K) (WE W0) (tCons (tVar 4) (tNil))) (tCons (tCallS (sp_told_marks K) (WE W0) (tCons (tVar 4) (tNil))) (tCons (tCallS (sp_told_shelf K) (WE W0) (tCons (tVar 4) (tNil))) (tCons (tCallS (sp_told_book K) (WE W0) (tCons (tVar 4) (tCons (tC (.int 0)) (tNil)))) (tNil))))))) (gName 5)) (tSeq (tFor (iList K (tVar 5)) (gName 6) (tDrop (tBM K "list" rAppend (tVar 6) (tCons (tC (.int 7)) (tNil))))) (tSeq (tIfS (tNot (tB (tCallS (sp_law_is_new K) (WE W0) (tCons (tVar 4) (tCons (tVar 3) (tNil)))))) (tRet (tC (.bl false))) (tNext)) (tSeq (tFor (iRng2 (tCons (tC (.int 4)) (tCons (tC (.int 60)) (tNil)))) (gName 7) (tSeq (tAsg (tCallS (sp_law_cell_at K) (WE W0) (tCons (tVar 0) (tCons (tVar 7) (tNil)))) (gName 8)) (tSeq (tAsg (tCB rLs (tCons (tVar 3) (tNil))) (gName 9)) (tSeq (tAsg (tCallS (sp_law_bad K) (WE W0) (tCons (tVar 8) (tCons (tOp rL (tVar 1) (tOp r_mod (tVar 7) (tC (.int 4)))) (tCons (tOp rL (tVar 2) (tOp r_mod (tVar 7) (tC (.int 4)))) (tNil))))) (gSub (tVar 9) (tOp r_mod (tVar 7) (tC (.int 4))) rSetL)) (tSeq (tAsg (tCallS (sp_law_bad K) (WE W0) (tCons (tOp r_fdiv (tVar 8) (tC (.int 2))) (tCons (tC (.int 0)) (tCons (tOp r_sub (tOp rL (tVar 3) (tC (.int 2))) (tC (.int 1))) (tNil))))) (gName 10)) (tSeq (tIfS (tOr (tNot (tB (tCallS (sp_law_world_refused K) (WE W0) (tCons (tVar 9) (tNil))))) (tNot (tB (tCallS (sp_law_book_refused K) (WE W0) (tCons (tVar 4) (tCons (tVar 10) (tNil))))))) (tRet (tC (.bl false))) (tNext)) (tIfS (tNot (tB (tCallS (sp_law_walks_refused K) (WE W0) (tCons (tVar 4) (tCons (tVar 10) (tNil)))))) (tRet (tC (.bl false))) (tNext)))))))) (tRet (tCallS (sp_law_is_new K) (WE W0) (tCons (tVar 4) (tCons (tVar 3) (tNil)))))))))))))
theorem pu_law {K : Frag} (X : ExcK K) : ∀ vs H Q E, sp_law K vs H Q E → t_law K { nx := fun _ H' => Q .non H', rt := Q } (start N_law vs) H := by
  rintro vs H Q E ⟨a, ns, rfl, hs, _, k⟩
  unfold t_law
  walk_at "r"
  refine i_new (by simp) fun l1 f1 => ?_
  walk_at "r"
  refine i_new (by simp) fun l2 f2 => ?_
  have n12 : l1 ≠ l2 := by walk_at "ne"
  have g1 : upd (upd H l1 (.lst [V.int 1, V.int 0, V.int 1, V.int 0])) l2 (.lst [V.int 64, V.int 512, V.int 8, V.int 16]) l1 = some (.lst [V.int 1, V.int 0, V.int 1, V.int 0]) := by walk_at "hp"
  have g2 : upd (upd H l1 (.lst [V.int 1, V.int 0, V.int 1, V.int 0])) l2 (.lst [V.int 64, V.int 512, V.int 8, V.int 16]) l2 = some (.lst [V.int 64, V.int 512, V.int 8, V.int 16]) := upd_same
  have c0 : Chg [] [] H (upd (upd H l1 (.lst [V.int 1, V.int 0, V.int 1, V.int 0])) l2 (.lst [V.int 64, V.int 512, V.int 8, V.int 16])) := (Chg.fresh f1).trans (Chg.fresh f2)
  generalize upd (upd H l1 (.lst [V.int 1, V.int 0, V.int 1, V.int 0])) l2 (.lst [V.int 64, V.int 512, V.int 8, V.int 16]) = H1 at g1 g2 c0
  walk_at "r"
  have loj : ∀ j : Nat, j < 4 → ∃ lo hi : Int, ([V.int 1, V.int 0, V.int 1, V.int 0] : List V)[j]? = some (V.int lo) ∧ ([V.int 64, V.int 512, V.int 8, V.int 16] : List V)[j]? = some (V.int hi) ∧ lo ≤ hi ∧ lo = ([1, 0, 1, 0] : List Int).getD j 0 ∧ hi = ([64, 512, 8, 16] : List Int).getD j 0 ∧ lo.natAbs < 1000000 := by
    intro j hj
    match j, hj with
    | 0, _ => exact ⟨1, 64, rfl, rfl, by decide, rfl, rfl, by decide⟩
    | 1, _ => exact ⟨0, 512, rfl, rfl, by decide, rfl, rfl, by decide⟩
    | 2, _ => exact ⟨1, 8, rfl, rfl, by decide, rfl, rfl, by decide⟩
    | 3, _ => exact ⟨0, 16, rfl, rfl, by decide, rfl, rfl, by decide⟩
  refine lcr_any (n := 4) (fun j v => ∃ r : Int, v = .int r ∧ ([1, 0, 1, 0] : List Int).getD j 0 ≤ r ∧ r ≤ ([64, 512, 8, 16] : List Int).getD j 0) (by decide) ?_ ?_
  · intro j hj acc D hD Qv kv
    obtain ⟨lo, hi, e1, e2, e3, e4, e5, _⟩ := loj j hj
    have d1 : l1 ≠ D := ne_of_none g1 hD
    have d2 : l2 ≠ D := ne_of_none g2 hD
    have hs' : SqL K (upd H1 D (.lst acc)) a (ns.map V.int) := sq_keep hs (c0.trans (Chg.fresh hD))
    walk_at "r"
    refine ⟨a, ns, j, rfl, hs', ?_⟩
    walk_at "r"
    refine i_L (j := j) rfl ((upd_ne d1).trans g1) e1 ?_
    walk_at "r"
    refine i_L (j := j) rfl ((upd_ne d2).trans g2) e2 ?_
    walk_at "r"
    refine ⟨_, lo, hi, rfl, e3, fun r r1 r2 => ?_⟩
    exact kv _ ⟨r, rfl, by omega, by omega⟩
  intro l3 vs f3 hvl hvs
  obtain ⟨v0, v1, v2, v3, rfl⟩ := four hvl
  obtain ⟨r0, rfl, a0, b0⟩ := hvs 0 _ rfl
  obtain ⟨r1, rfl, a1, b1⟩ := hvs 1 _ rfl
  obtain ⟨r2, rfl, a2, b2⟩ := hvs 2 _ rfl
  obtain ⟨r3, rfl, a3, b3⟩ := hvs 3 _ rfl
  simp at a0 b0 a1 b1 a2 b2 a3 b3
  obtain ⟨n, rfl⟩ := Int.eq_ofNat_of_zero_le (show 0 ≤ r0 by omega)
  obtain ⟨m, rfl⟩ := Int.eq_ofNat_of_zero_le (show 0 ≤ r1 by omega)
  obtain ⟨h, rfl⟩ := Int.eq_ofNat_of_zero_le (show 0 ≤ r2 by omega)
  have d1 : l1 ≠ l3 := ne_of_none g1 f3
  have d2 : l2 ≠ l3 := ne_of_none g2 f3
  replace g1 := (upd_ne (o := .lst [V.int (n : Int), V.int (m : Int), V.int (h : Int), V.int r3]) d1).trans g1
  replace g2 := (upd_ne (o := .lst [V.int (n : Int), V.int (m : Int), V.int (h : Int), V.int r3]) d2).trans g2
  have g3 : upd H1 l3 (.lst [V.int (n : Int), V.int (m : Int), V.int (h : Int), V.int r3]) l3 = some (.lst [V.int (n : Int), V.int (m : Int), V.int (h : Int), V.int r3]) := upd_same
  replace c0 := c0.trans (Chg.fresh (S := []) (o := .lst [V.int (n : Int), V.int (m : Int), V.int (h : Int), V.int r3]) f3)
  generalize upd H1 l3 (.lst [V.int (n : Int), V.int (m : Int), V.int (h : Int), V.int r3]) = H2 at g1 g2 g3 c0
  walk_at "r"
  refine i_L (j := 0) rfl g3 rfl ?_
  walk_at "r"
  refine i_L (j := 1) rfl g3 rfl ?_
  walk_at "r"
  refine i_L (j := 2) rfl g3 rfl ?_
  walk_at "r"
  refine i_L (j := 3) rfl g3 rfl ?_
  walk_at "r"
  intro x dx nx nd ne
  refine ⟨x, dx, _, _, _, _, "int", "int", "int", "int", rfl, by rw [upd_same]; rfl, rfl, rfl, rfl, rfl, ?_, fun z => ?_⟩
  case refine_2 =>
    simp [inB] at z
    omega
  intro n' m' h' s' e1 e2 e3 e4 _ _ _ _ H3 S ha c3
  cases e1; cases e2; cases e3; cases e4
  refine ⟨rfl, ?_⟩
  have c3' : Chg [] S H2 H3 := Chg.made nx nd c3
  replace g1 := c3'.keep _ _ g1 (by simp)
  replace g2 := c3'.keep _ _ g2 (by simp)
  replace g3 := c3'.keep _ _ g3 (by simp)
  replace c0 : Chg [] [] H H3 := c0.trans c3'.drop
  clear c3 c3' nx nd
  clear f1 f2 f3 n12 d1 d2
  walk_at "r"
  refine ⟨_, S, l3, _, n, m, h, rfl, ha, g3, by omega, fun H4 c4 => ?_⟩
  replace ha := ha.chg c4 (by simp)
  replace g1 := c4.keep _ _ g1 (by simp)
  replace g2 := c4.keep _ _ g2 (by simp)
  replace g3 := c4.keep _ _ g3 (by simp)
  replace c0 := c0.trans c4
  clear c4
  refine i_bl ?_
  rw [if_neg (by simp)]
  walk_at "r"
  -- the told lists
  refine ⟨_, _, S, rfl, ha, by simp [newWorld], fun G1 p1 ks hp _ q1 t1 => ?_⟩
  have ek : ks = [] := by simpa [newWorld] using hp
  subst ek
  obtain ⟨w1, z1, y1⟩ := at_lst q1
  have T1 := t1
  walk_at "r"
  refine ⟨_, _, S, rfl, ha.chg t1.drop (by simp), fun G2 p2 q2 t2 => ?_⟩
  obtain ⟨w2, z2, y2⟩ := at_lst q2
  have T2 := t1.drop.trans t2
  walk_at "r"
  refine ⟨_, _, S, rfl, ha.chg (t1.drop.trans t2.drop) (by simp), fun G3 p3 q3 t3 => ?_⟩
  obtain ⟨w3, z3, y3⟩ := at_lst q3
  walk_at "r"
  refine ⟨_, _, S, rfl, ha.chg ((t1.drop.trans t2.drop).trans t3.drop) (by simp), fun G4 p4 q4 t4 => ?_⟩
  obtain ⟨w4, z4, y4⟩ := at_lst q4
  walk_at "r"
  have hb0 : (newWorld n m h r3).books[0]? = some ⟨r3, []⟩ := by
    show (List.replicate h (⟨r3, []⟩ : BookM))[0]? = _
    rw [List.getElem?_replicate, if_pos (by omega)]
  have lb : (newWorld n m h r3).books.length = h := List.length_replicate
  refine ⟨_, _, _, S, "int", rfl, ha.chg (((t1.drop.trans t2.drop).trans t3.drop).trans t4.drop) (by simp), rfl, fun i b ei hi G5 p5 q5 t5 => ?_, fun z => ?_⟩
  case refine_2 =>
    rw [lb] at z
    simp [inB] at z
    omega
  have ei2 : i = 0 := by
    have := V.int.inj ei
    omega
  subst ei2
  have eb : b = ⟨r3, []⟩ := Option.some.inj (hi.symm.trans hb0)
  subst eb
  obtain ⟨w5, z5, y5⟩ := at_lst q5
  walk_at "r"
  refine i_new (by simp) fun l5 f5 => ?_
  -- where they stand
  have u5 : G5 p5 = some (.lst w5) := z5
  have u4 : G5 p4 = some (.lst w4) := t5.keep _ _ z4 (by simp)
  have u3 : G5 p3 = some (.lst w3) := t5.keep _ _ (t4.keep _ _ z3 (by simp)) (by simp)
  have u2 : G5 p2 = some (.lst w2) := t5.keep _ _ (t4.keep _ _ (t3.keep _ _ z2 (by simp)) (by simp)) (by simp)
  have u1 : G5 p1 = some (.lst w1) := t5.keep _ _ (t4.keep _ _ (t3.keep _ _ (t2.keep _ _ z1 (by simp)) (by simp)) (by simp)) (by simp)
  have cc : Chg [] [p1, p2, p3, p4, p5] H4 (upd G5 l5 (.lst [.ref p1, .ref p2, .ref p3, .ref p4, .ref p5])) := ((((t1.and t2).and t3).and t4).and t5).trans (Chg.fresh f5)
  have ns1 : p1 ≠ l5 := ne_of_none u1 f5
  have ns2 : p2 ≠ l5 := ne_of_none u2 f5
  have ns3 : p3 ≠ l5 := ne_of_none u3 f5
  have ns4 : p4 ≠ l5 := ne_of_none u4 f5
  have ns5 : p5 ≠ l5 := ne_of_none u5 f5
  have g5 : upd G5 l5 (.lst [.ref p1, .ref p2, .ref p3, .ref p4, .ref p5]) l5 = some (.lst [.ref p1, .ref p2, .ref p3, .ref p4, .ref p5]) := upd_same
  have hw : ∀ p, p ∈ [p1, p2, p3, p4, p5] → ∃ ys, upd G5 l5 (.lst [.ref p1, .ref p2, .ref p3, .ref p4, .ref p5]) p = some (.lst ys) ∧ ys.length < 10000 + 0 := by
    intro p hp
    have L2 : (newWorld n m h r3).st.fr.things.length = n := List.length_replicate
    have L3 : (newWorld n m h r3).st.di.marked.length = n := List.length_replicate
    have L4 : (newWorld n m h r3).st.sh.sheets.length = m := List.length_replicate
    simp at y1 y2 y3 y4 y5
    rw [L2] at y2
    rw [L3] at y3
    rw [L4] at y4
    simp at hp
    rcases hp with rfl | rfl | rfl | rfl | rfl
    · exact ⟨w1, by rw [upd_ne ns1]; exact u1, by rw [y1]; decide⟩
    · exact ⟨w2, by rw [upd_ne ns2]; exact u2, by omega⟩
    · exact ⟨w3, by rw [upd_ne ns3]; exact u3, by omega⟩
    · exact ⟨w4, by rw [upd_ne ns4]; exact u4, by omega⟩
    · exact ⟨w5, by rw [upd_ne ns5]; exact u5, by rw [y5]; decide⟩
  have nl5 : l5 ∉ [p1, p2, p3, p4, p5] := by
    intro z
    simp at z
    rcases z with z | z | z | z | z
    · exact ns1 z.symm
    · exact ns2 z.symm
    · exact ns3 z.symm
    · exact ns4 z.symm
    · exact ns5 z.symm
  generalize upd G5 l5 (.lst [.ref p1, .ref p2, .ref p3, .ref p4, .ref p5]) = H5 at cc g5 hw
  clear u1 u2 u3 u4 u5 t1 t2 t3 t4 t5 z1 z2 z3 z4 z5 q1 q2 q3 q4 q5 f5 T1 T2 hi ei
  walk_at "r"
  refine i_forL g5 (fun j σ' H' => ∃ v, σ' = [some (.ref a), some (.ref l1), some (.ref l2), some (.ref l3), some (.ref x), some (.ref l5), v, none, none, none, none] ∧ Chg [] [p1, p2, p3, p4, p5] H4 H' ∧ H' l5 = some (.lst [.ref p1, .ref p2, .ref p3, .ref p4, .ref p5]) ∧
    ∀ p, p ∈ [p1, p2, p3, p4, p5] → ∃ ys, H' p = some (.lst ys) ∧ ys.length < 10000 + j) ⟨none, rfl, cc, g5, hw⟩ (fun j σ' H' ⟨_, _, _, gq, _⟩ => gq) ?_ ?_
  · rintro j y σ' H' hy ⟨v, rfl, cv, gv, hv⟩
    have hm : y ∈ [V.ref p1, V.ref p2, V.ref p3, V.ref p4, V.ref p5] := List.mem_of_getElem? hy
    have hj : j < 5 := (List.getElem?_eq_some_iff.mp hy).1
    obtain ⟨p, rfl, hp⟩ : ∃ p, y = V.ref p ∧ p ∈ [p1, p2, p3, p4, p5] := by
      simp at hm
      rcases hm with rfl | rfl | rfl | rfl | rfl <;> exact ⟨_, rfl, by simp⟩
    obtain ⟨ys, hy1, hy2⟩ := hv p hp
    walk_at "r"
    refine i_app hy1 (by omega) ?_
    walk_at "r"
    refine ⟨_, rfl, cv.trans (Chg.set hy1 (fun _ z => by cases z) hp), ?_, fun q hq => ?_⟩
    · rw [upd_ne (fun z : l5 = p => nl5 (z ▸ hp))]
      exact gv
    · by_cases e : q = p
      · subst e
        exact ⟨_, upd_same, by simp; omega⟩
      · obtain ⟨zs, h1, h2⟩ := hv q hq
        exact ⟨zs, by rw [upd_ne e]; exact h1, by omega⟩
  rintro σ' H6 ⟨v, rfl, c6, _, _⟩
  replace ha := ha.chg c6.drop (by simp)
  replace g1 := c6.keep _ _ g1 (by simp)
  replace g2 := c6.keep _ _ g2 (by simp)
  replace g3 := c6.keep _ _ g3 (by simp)
  replace c0 := c0.trans c6.drop
  clear c6 cc g5 hw nl5 ns1 ns2 ns3 ns4 ns5
  walk_at "r"
  refine ⟨_, S, l3, _, n, m, h, rfl, ha, g3, by omega, fun H7 c7 => ?_⟩
  replace ha := ha.chg c7 (by simp)
  replace g1 := c7.keep _ _ g1 (by simp)
  replace g2 := c7.keep _ _ g2 (by simp)
  replace g3 := c7.keep _ _ g3 (by simp)
  replace c0 := c0.trans c7
  refine i_bl ?_
  rw [if_neg (by simp)]
  walk_at "r"
  refine i_forR2 (n := 56) (by decide) (by decide) (fun j σ' H' => ∃ v6 v7 v8 v9 v10, σ' = [some (.ref a), some (.ref l1), some (.ref l2), some (.ref l3), some (.ref x), some (.ref l5), v6, v7, v8, v9, v10] ∧ Chg [] [] H7 H') ⟨_, _, _, _, _, rfl, Chg.refl⟩ ?_ ?_
  · rintro j σ' H' hj ⟨v6, v7, v8, v9, v10, rfl, c8⟩
    have hs' : SqL K H' a (ns.map V.int) := sq_keep hs (c0.trans c8)
    have k1 := c8.keep _ _ g1 (by simp)
    have k2 := c8.keep _ _ g2 (by simp)
    have k3 := c8.keep _ _ g3 (by simp)
    have ka := ha.chg c8 (by simp)
    obtain ⟨lo, hi, e1, e2, e3, e4, e5, e6⟩ := loj (j % 4) (Nat.mod_lt _ (by decide))
    walk_at "r"
    refine ⟨a, ns, j + 4, by rw [Int.add_comm]; rfl, hs', ?_⟩
    walk_at "r"
    refine i_ls k3 fun l9 f9 => ?_
    have c9 := c8.trans (Chg.one (o := .lst [V.int (n : Int), V.int (m : Int), V.int (h : Int), V.int r3]) f9)
    have k9 : upd H' l9 (.lst [V.int (n : Int), V.int (m : Int), V.int (h : Int), V.int r3]) l9 = some (.lst [V.int (n : Int), V.int (m : Int), V.int (h : Int), V.int r3]) := upd_same
    generalize upd H' l9 (.lst [V.int (n : Int), V.int (m : Int), V.int (h : Int), V.int r3]) = J1 at c9 k9
    clear k1 k2 k3 ka
    walk_at "r"
    refine i_I (by decide) ?_
    refine i_L (j := j % 4) (mod4 j) (c9.drop.keep _ _ g1 (by simp)) e1 ?_
    walk_at "r"
    refine i_I (by decide) ?_
    refine i_L (j := j % 4) (mod4 j) (c9.drop.keep _ _ g2 (by simp)) e2 ?_
    walk_at "r"
    refine ⟨_, lo, hi, rfl, e6, fun y my J2 by1 ty1 cy => ?_⟩
    replace c9 : Chg [] [l9] H7 J2 := c9.and cy
    replace k9 := cy.keep _ _ k9 (by simp)
    walk_at "r"
    refine i_I (by decide) ?_
    have hj4 : j % 4 < 4 := Nat.mod_lt _ (by decide)
    refine i_setL (j := j % 4) (mod4 j) k9 hj4 ?_
    replace ty1 : tyN y (upd J2 l9 (.lst ([V.int (n : Int), V.int (m : Int), V.int (h : Int), V.int r3].set (j % 4) y))) = some my := (tyN_set k9).trans ty1
    replace c9 := c9.trans (Chg.set (o := .lst ([V.int (n : Int), V.int (m : Int), V.int (h : Int), V.int r3].set (j % 4) y)) k9 (fun _ z => by cases z) (by simp))
    replace k9 : upd J2 l9 (.lst ([V.int (n : Int), V.int (m : Int), V.int (h : Int), V.int r3].set (j % 4) y)) l9 = some (.lst ([V.int (n : Int), V.int (m : Int), V.int (h : Int), V.int r3].set (j % 4) y)) := upd_same
    generalize upd J2 l9 (.lst ([V.int (n : Int), V.int (m : Int), V.int (h : Int), V.int r3].set (j % 4) y)) = J3 at c9 k9 ty1
    walk_at "r"
    refine i_I ⟨by decide, by decide⟩ ?_
    walk_at "r"
    refine i_L (j := 2) rfl (c9.drop.keep _ _ g3 (by simp)) rfl ?_
    walk_at "r"
    refine ⟨_, 0, _, rfl, by decide, fun z mz J4 bz tz cz => ?_⟩
    replace c9 : Chg [] [l9] H7 J4 := c9.and cz
    replace k9 := cz.keep _ _ k9 (by simp)
    replace ty1 := tyN_chg ty1 cz
    walk_at "r"
    have key : ∃ x1 x2 x3 x4 m1 m2 m3 m4, [V.int (n : Int), V.int (m : Int), V.int (h : Int), V.int r3].set (j % 4) y = [x1, x2, x3, x4] ∧ tyN x1 J4 = some m1 ∧ tyN x2 J4 = some m2 ∧ tyN x3 J4 = some m3 ∧ tyN x4 J4 = some m4 ∧
        (inB x1 1 64 && (inB x2 0 512 && (inB x3 1 8 && inB x4 0 16))) = false := by
      subst e4 e5
      have q : j % 4 = 0 ∨ j % 4 = 1 ∨ j % 4 = 2 ∨ j % 4 = 3 := by omega
      rcases q with q | q | q | q
      · rw [q] at by1 ⊢
        exact ⟨_, _, _, _, _, _, _, _, rfl, ty1, rfl, rfl, rfl, by rw [show inB y 1 64 = false from by1]; rfl⟩
      · rw [q] at by1 ⊢
        exact ⟨_, _, _, _, _, _, _, _, rfl, rfl, ty1, rfl, rfl, by rw [show inB y 0 512 = false from by1]; simp⟩
      · rw [q] at by1 ⊢
        exact ⟨_, _, _, _, _, _, _, _, rfl, rfl, rfl, ty1, rfl, by rw [show inB y 1 8 = false from by1]; simp⟩
      · rw [q] at by1 ⊢
        exact ⟨_, _, _, _, _, _, _, _, rfl, rfl, rfl, rfl, ty1, by rw [show inB y 0 16 = false from by1]; simp⟩
    obtain ⟨x1, x2, x3, x4, m1, m2, m3, m4, eq, q1, q2, q3, q4, q5⟩ := key
    rw [eq] at k9
    refine ⟨l9, x1, x2, x3, x4, m1, m2, m3, m4, rfl, k9, q1, q2, q3, q4, q5, fun J5 d5 => ?_⟩
    have c10 := c9.drop.trans d5
    walk_at "r"
    rw [if_neg (by simp)]
    walk_at "r"
    have bz' : inB z 0 (((newWorld n m h r3).books.length : Int) - 1) = false := by rw [lb]; exact bz
    have lw : (newWorld n m h r3).walked.length = (newWorld n m h r3).books.length := by rw [lb]; exact List.length_replicate
    refine ⟨_, z, _, S, mz, rfl, ha.chg c10 (by simp), tyN_chg tz d5, bz', fun J6 d6 => ?_⟩
    have c11 := c10.trans d6
    walk_at "r"
    rw [if_neg (by simp)]
    walk_at "r"
    refine ⟨_, z, _, S, mz, rfl, ha.chg c11 (by simp), tyN_chg (tyN_chg tz d5) d6, lw, bz', fun J7 d7 => ?_⟩
    walk_at "r"
    rw [if_neg (by simp)]
    walk_at "r"
    exact ⟨_, _, _, _, _, rfl, c11.trans d7⟩
  · rintro σ' H' ⟨v6, v7, v8, v9, v10, rfl, c8⟩
    walk_at "r"
    refine ⟨_, S, l3, _, n, m, h, rfl, ha.chg c8 (by simp), c8.keep _ _ g3 (by simp), by omega, fun H9 c9 => ?_⟩
    exact k _
end Pn

namespace Pn
open PySem PySem.Spec PyProof.Rows L2
/-! ### what the head says -/
structure Env (K : Frag) (mg : Str → Option Value) : Prop where
  s : He.SaysD fa fn K
  e : ExcK K
  glo : ∀ x : Str, (He.Fa.glo x).ok K = true → mg x = some (.ref (He.ga K x))
  free : ∀ x : Str, (He.Fa.free x).ok K = true → mg x = none
  int : ∀ (x : Str) (i : Int), (He.Fa.int x i).ok K = true → ∃ t, mg x = some (.int i t)
  str : ∀ (x z : Str), (He.Fa.str x z).ok K = true → ∃ t, mg x = some (.str z t)
section
variable {P : Program} {w : World} {K : Frag} {mg : Str → Option Value} {base : Heap}
theorem Env.f_range (T : Env K mg) : mg "range" = none := T.free "range" (T.s.fact 0 (f := .free "range") rfl)
theorem Env.g_law_cell_at (T : Env K mg) : mg "_law_cell_at" = some (.ref (He.ga K "_law_cell_at")) := T.glo "_law_cell_at" (T.s.fact 1 (f := .glo "_law_cell_at") rfl)
theorem Env.g_law_edged (T : Env K mg) : mg "_law_edged" = some (.ref (He.ga K "_law_edged")) := T.glo "_law_edged" (T.s.fact 2 (f := .glo "_law_edged") rfl)
theorem Env.k_World (T : Env K mg) : Mk K (He.ga K "World") (He.ma K (He.ga K "World") "__init__") := He.mkr_ok (T.s.fact 3 (f := .mkr "World") rfl)
theorem Env.g_World (T : Env K mg) : mg "World" = some (.ref (He.ga K "World")) := T.glo "World" (T.s.fact 4 (f := .glo "World") rfl)
theorem Env.g_law_is_new (T : Env K mg) : mg "_law_is_new" = some (.ref (He.ga K "_law_is_new")) := T.glo "_law_is_new" (T.s.fact 5 (f := .glo "_law_is_new") rfl)
theorem Env.g_told_book (T : Env K mg) : mg "told_book" = some (.ref (He.ga K "told_book")) := T.glo "told_book" (T.s.fact 6 (f := .glo "told_book") rfl)
theorem Env.g_told_shelf (T : Env K mg) : mg "told_shelf" = some (.ref (He.ga K "told_shelf")) := T.glo "told_shelf" (T.s.fact 7 (f := .glo "told_shelf") rfl)
theorem Env.g_told_marks (T : Env K mg) : mg "told_marks" = some (.ref (He.ga K "told_marks")) := T.glo "told_marks" (T.s.fact 8 (f := .glo "told_marks") rfl)
theorem Env.g_told_frames (T : Env K mg) : mg "told_frames" = some (.ref (He.ga K "told_frames")) := T.glo "told_frames" (T.s.fact 9 (f := .glo "told_frames") rfl)
theorem Env.g_told_spaces (T : Env K mg) : mg "told_spaces" = some (.ref (He.ga K "told_spaces")) := T.glo "told_spaces" (T.s.fact 10 (f := .glo "told_spaces") rfl)
theorem Env.f_list (T : Env K mg) : mg "list" = none := T.free "list" (T.s.fact 11 (f := .free "list") rfl)
theorem Env.g_law_bad (T : Env K mg) : mg "_law_bad" = some (.ref (He.ga K "_law_bad")) := T.glo "_law_bad" (T.s.fact 12 (f := .glo "_law_bad") rfl)
theorem Env.g_law_world_refused (T : Env K mg) : mg "_law_world_refused" = some (.ref (He.ga K "_law_world_refused")) := T.glo "_law_world_refused" (T.s.fact 13 (f := .glo "_law_world_refused") rfl)
theorem Env.g_law_book_refused (T : Env K mg) : mg "_law_book_refused" = some (.ref (He.ga K "_law_book_refused")) := T.glo "_law_book_refused" (T.s.fact 14 (f := .glo "_law_book_refused") rfl)
theorem Env.g_law_walks_refused (T : Env K mg) : mg "_law_walks_refused" = some (.ref (He.ga K "_law_walks_refused")) := T.glo "_law_walks_refused" (T.s.fact 15 (f := .glo "_law_walks_refused") rfl)
theorem Env.f_len (T : Env K mg) : mg "len" = none := T.free "len" (T.s.fact 16 (f := .free "len") rfl)
theorem Env.g_number (T : Env K mg) : mg "number" = some (.ref (He.ga K "number")) := T.glo "number" (T.s.fact 17 (f := .glo "number") rfl)
theorem Env.k_Store (T : Env K mg) : Mk K (He.ga K "Store") (He.ma K (He.ga K "Store") "__init__") := He.mkr_ok (T.s.fact 18 (f := .mkr "Store") rfl)
theorem Env.g_Store (T : Env K mg) : mg "Store" = some (.ref (He.ga K "Store")) := T.glo "Store" (T.s.fact 19 (f := .glo "Store") rfl)
theorem Env.c_World (T : Env K mg) : Cls K (He.ga K "World") := He.cls_ok (T.s.fact 20 (f := .cls "World") rfl)
theorem Env.n_World_store (T : Env K mg) : NoAttr K (He.ga K "World") "store" := He.noat_ok (T.s.fact 21 (f := .noat "World" "store") rfl)
theorem Env.k_Book (T : Env K mg) : Mk K (He.ga K "Book") (He.ma K (He.ga K "Book") "__init__") := He.mkr_ok (T.s.fact 22 (f := .mkr "Book") rfl)
theorem Env.g_Book (T : Env K mg) : mg "Book" = some (.ref (He.ga K "Book")) := T.glo "Book" (T.s.fact 23 (f := .glo "Book") rfl)
theorem Env.n_World_books (T : Env K mg) : NoAttr K (He.ga K "World") "books" := He.noat_ok (T.s.fact 24 (f := .noat "World" "books") rfl)
theorem Env.n_World_walked (T : Env K mg) : NoAttr K (He.ga K "World") "walked" := He.noat_ok (T.s.fact 25 (f := .noat "World" "walked") rfl)
theorem Env.n_World_copied (T : Env K mg) : NoAttr K (He.ga K "World") "copied" := He.noat_ok (T.s.fact 26 (f := .noat "World" "copied") rfl)
theorem Env.n_World_made (T : Env K mg) : NoAttr K (He.ga K "World") "made" := He.noat_ok (T.s.fact 27 (f := .noat "World" "made") rfl)
theorem Env.n_World_plans (T : Env K mg) : NoAttr K (He.ga K "World") "plans" := He.noat_ok (T.s.fact 28 (f := .noat "World" "plans") rfl)
theorem Env.n_World_tables (T : Env K mg) : NoAttr K (He.ga K "World") "tables" := He.noat_ok (T.s.fact 29 (f := .noat "World" "tables") rfl)
theorem Env.g_is_whole (T : Env K mg) : mg "is_whole" = some (.ref (He.ga K "is_whole")) := T.glo "is_whole" (T.s.fact 30 (f := .glo "is_whole") rfl)
theorem Env.g_NoNumber (T : Env K mg) : mg "NoNumber" = some (.ref (He.ga K "NoNumber")) := T.glo "NoNumber" (T.s.fact 31 (f := .glo "NoNumber") rfl)
theorem Env.x_NoNumber (T : Env K mg) : ExD K mg "NoNumber" := exD_of T.g_NoNumber (T.s.fact 32 (f := .exc "NoNumber") rfl)
theorem Env.f_isinstance (T : Env K mg) : mg "isinstance" = none := T.free "isinstance" (T.s.fact 33 (f := .free "isinstance") rfl)
theorem Env.f_int (T : Env K mg) : mg "int" = none := T.free "int" (T.s.fact 34 (f := .free "int") rfl)
theorem Env.f_bool (T : Env K mg) : mg "bool" = none := T.free "bool" (T.s.fact 35 (f := .free "bool") rfl)
theorem Env.k_Frames (T : Env K mg) : Mk K (He.ga K "Frames") (He.ma K (He.ga K "Frames") "__init__") := He.mkr_ok (T.s.fact 36 (f := .mkr "Frames") rfl)
theorem Env.g_Frames (T : Env K mg) : mg "Frames" = some (.ref (He.ga K "Frames")) := T.glo "Frames" (T.s.fact 37 (f := .glo "Frames") rfl)
theorem Env.c_Store (T : Env K mg) : Cls K (He.ga K "Store") := He.cls_ok (T.s.fact 38 (f := .cls "Store") rfl)
theorem Env.n_Store_frames (T : Env K mg) : NoAttr K (He.ga K "Store") "frames" := He.noat_ok (T.s.fact 39 (f := .noat "Store" "frames") rfl)
theorem Env.k_Dial (T : Env K mg) : Mk K (He.ga K "Dial") (He.ma K (He.ga K "Dial") "__init__") := He.mkr_ok (T.s.fact 40 (f := .mkr "Dial") rfl)
theorem Env.g_Dial (T : Env K mg) : mg "Dial" = some (.ref (He.ga K "Dial")) := T.glo "Dial" (T.s.fact 41 (f := .glo "Dial") rfl)
theorem Env.n_Store_dial (T : Env K mg) : NoAttr K (He.ga K "Store") "dial" := He.noat_ok (T.s.fact 42 (f := .noat "Store" "dial") rfl)
theorem Env.k_Shelf (T : Env K mg) : Mk K (He.ga K "Shelf") (He.ma K (He.ga K "Shelf") "__init__") := He.mkr_ok (T.s.fact 43 (f := .mkr "Shelf") rfl)
theorem Env.g_Shelf (T : Env K mg) : mg "Shelf" = some (.ref (He.ga K "Shelf")) := T.glo "Shelf" (T.s.fact 44 (f := .glo "Shelf") rfl)
theorem Env.n_Store_shelf (T : Env K mg) : NoAttr K (He.ga K "Store") "shelf" := He.noat_ok (T.s.fact 45 (f := .noat "Store" "shelf") rfl)
theorem Env.k_Files (T : Env K mg) : Mk K (He.ga K "Files") (He.ma K (He.ga K "Files") "__init__") := He.mkr_ok (T.s.fact 46 (f := .mkr "Files") rfl)
theorem Env.g_Files (T : Env K mg) : mg "Files" = some (.ref (He.ga K "Files")) := T.glo "Files" (T.s.fact 47 (f := .glo "Files") rfl)
theorem Env.n_Store_files (T : Env K mg) : NoAttr K (He.ga K "Store") "files" := He.noat_ok (T.s.fact 48 (f := .noat "Store" "files") rfl)
theorem Env.n_Store_my_holders (T : Env K mg) : NoAttr K (He.ga K "Store") "my_holders" := He.noat_ok (T.s.fact 49 (f := .noat "Store" "my_holders") rfl)
theorem Env.n_Store_my_newest (T : Env K mg) : NoAttr K (He.ga K "Store") "my_newest" := He.noat_ok (T.s.fact 50 (f := .noat "Store" "my_newest") rfl)
theorem Env.c_Frames (T : Env K mg) : Cls K (He.ga K "Frames") := He.cls_ok (T.s.fact 51 (f := .cls "Frames") rfl)
theorem Env.n_Frames_my_things (T : Env K mg) : NoAttr K (He.ga K "Frames") "my_things" := He.noat_ok (T.s.fact 52 (f := .noat "Frames" "my_things") rfl)
theorem Env.n_Frames_my_rows (T : Env K mg) : NoAttr K (He.ga K "Frames") "my_rows" := He.noat_ok (T.s.fact 53 (f := .noat "Frames" "my_rows") rfl)
theorem Env.n_Frames_my_soil (T : Env K mg) : NoAttr K (He.ga K "Frames") "my_soil" := He.noat_ok (T.s.fact 54 (f := .noat "Frames" "my_soil") rfl)
theorem Env.c_Dial (T : Env K mg) : Cls K (He.ga K "Dial") := He.cls_ok (T.s.fact 55 (f := .cls "Dial") rfl)
theorem Env.n_Dial_my_spot (T : Env K mg) : NoAttr K (He.ga K "Dial") "my_spot" := He.noat_ok (T.s.fact 56 (f := .noat "Dial" "my_spot") rfl)
theorem Env.n_Dial_my_marked (T : Env K mg) : NoAttr K (He.ga K "Dial") "my_marked" := He.noat_ok (T.s.fact 57 (f := .noat "Dial" "my_marked") rfl)
theorem Env.c_Shelf (T : Env K mg) : Cls K (He.ga K "Shelf") := He.cls_ok (T.s.fact 58 (f := .cls "Shelf") rfl)
theorem Env.n_Shelf_my_sheets (T : Env K mg) : NoAttr K (He.ga K "Shelf") "my_sheets" := He.noat_ok (T.s.fact 59 (f := .noat "Shelf" "my_sheets") rfl)
theorem Env.n_Shelf_my_rows (T : Env K mg) : NoAttr K (He.ga K "Shelf") "my_rows" := He.noat_ok (T.s.fact 60 (f := .noat "Shelf" "my_rows") rfl)
theorem Env.c_Files (T : Env K mg) : Cls K (He.ga K "Files") := He.cls_ok (T.s.fact 61 (f := .cls "Files") rfl)
theorem Env.n_Files_my_files (T : Env K mg) : NoAttr K (He.ga K "Files") "my_files" := He.noat_ok (T.s.fact 62 (f := .noat "Files" "my_files") rfl)
theorem Env.c_Book (T : Env K mg) : Cls K (He.ga K "Book") := He.cls_ok (T.s.fact 63 (f := .cls "Book") rfl)
theorem Env.n_Book_slots (T : Env K mg) : NoAttr K (He.ga K "Book") "slots" := He.noat_ok (T.s.fact 64 (f := .noat "Book" "slots") rfl)
theorem Env.n_Book_kept (T : Env K mg) : NoAttr K (He.ga K "Book") "kept" := He.noat_ok (T.s.fact 65 (f := .noat "Book" "kept") rfl)
theorem Env.g_law_of_none (T : Env K mg) : mg "_law_of_none" = some (.ref (He.ga K "_law_of_none")) := T.glo "_law_of_none" (T.s.fact 66 (f := .glo "_law_of_none") rfl)
theorem Env.g_told_pointer (T : Env K mg) : mg "told_pointer" = some (.ref (He.ga K "told_pointer")) := T.glo "told_pointer" (T.s.fact 67 (f := .glo "told_pointer") rfl)
theorem Env.g_law_is (T : Env K mg) : mg "_law_is" = some (.ref (He.ga K "_law_is")) := T.glo "_law_is" (T.s.fact 68 (f := .glo "_law_is") rfl)
theorem Env.g_told_copies (T : Env K mg) : mg "told_copies" = some (.ref (He.ga K "told_copies")) := T.glo "told_copies" (T.s.fact 69 (f := .glo "told_copies") rfl)
theorem Env.g_told_walks (T : Env K mg) : mg "told_walks" = some (.ref (He.ga K "told_walks")) := T.glo "told_walks" (T.s.fact 70 (f := .glo "told_walks") rfl)
theorem Env.g_told_room (T : Env K mg) : mg "told_room" = some (.ref (He.ga K "told_room")) := T.glo "told_room" (T.s.fact 71 (f := .glo "told_room") rfl)
theorem Env.g_told_holders (T : Env K mg) : mg "told_holders" = some (.ref (He.ga K "told_holders")) := T.glo "told_holders" (T.s.fact 72 (f := .glo "told_holders") rfl)
theorem Env.f_sorted (T : Env K mg) : mg "sorted" = none := T.free "sorted" (T.s.fact 73 (f := .free "sorted") rfl)
theorem Env.m_Frames_things (T : Env K mg) : Meth K (He.ga K "Frames") "things" (He.ma K (He.ga K "Frames") "things") := He.meth_ok (T.s.fact 74 (f := .meth "Frames" "things") rfl)
theorem Env.m_Dial_marks (T : Env K mg) : Meth K (He.ga K "Dial") "marks" (He.ma K (He.ga K "Dial") "marks") := He.meth_ok (T.s.fact 75 (f := .meth "Dial" "marks") rfl)
theorem Env.m_Dial_pointer (T : Env K mg) : Meth K (He.ga K "Dial") "pointer" (He.ma K (He.ga K "Dial") "pointer") := He.meth_ok (T.s.fact 76 (f := .meth "Dial" "pointer") rfl)
theorem Env.m_Shelf_sheets (T : Env K mg) : Meth K (He.ga K "Shelf") "sheets" (He.ma K (He.ga K "Shelf") "sheets") := He.meth_ok (T.s.fact 77 (f := .meth "Shelf" "sheets") rfl)
theorem Env.g_asked_hand (T : Env K mg) : mg "asked_hand" = some (.ref (He.ga K "asked_hand")) := T.glo "asked_hand" (T.s.fact 78 (f := .glo "asked_hand") rfl)
theorem Env.m_Book_ways (T : Env K mg) : Meth K (He.ga K "Book") "ways" (He.ma K (He.ga K "Book") "ways") := He.meth_ok (T.s.fact 79 (f := .meth "Book" "ways") rfl)
theorem Env.g_room_of (T : Env K mg) : mg "room_of" = some (.ref (He.ga K "room_of")) := T.glo "room_of" (T.s.fact 80 (f := .glo "room_of") rfl)
theorem Env.g_holders_of (T : Env K mg) : mg "holders_of" = some (.ref (He.ga K "holders_of")) := T.glo "holders_of" (T.s.fact 81 (f := .glo "holders_of") rfl)
theorem Env.f_str (T : Env K mg) : mg "str" = none := T.free "str" (T.s.fact 82 (f := .free "str") rfl)
theorem Env.g_law_alone (T : Env K mg) : mg "_law_alone" = some (.ref (He.ga K "_law_alone")) := T.glo "_law_alone" (T.s.fact 83 (f := .glo "_law_alone") rfl)
theorem Env.g_PaneError (T : Env K mg) : mg "PaneError" = some (.ref (He.ga K "PaneError")) := T.glo "PaneError" (T.s.fact 84 (f := .glo "PaneError") rfl)
theorem Env.g_NoRow (T : Env K mg) : mg "NoRow" = some (.ref (He.ga K "NoRow")) := T.glo "NoRow" (T.s.fact 85 (f := .glo "NoRow") rfl)
theorem Env.g_Full (T : Env K mg) : mg "Full" = some (.ref (He.ga K "Full")) := T.glo "Full" (T.s.fact 86 (f := .glo "Full") rfl)
theorem Env.g_Held (T : Env K mg) : mg "Held" = some (.ref (He.ga K "Held")) := T.glo "Held" (T.s.fact 87 (f := .glo "Held") rfl)
theorem Env.g_Taken (T : Env K mg) : mg "Taken" = some (.ref (He.ga K "Taken")) := T.glo "Taken" (T.s.fact 88 (f := .glo "Taken") rfl)
theorem Env.g_NoRight (T : Env K mg) : mg "NoRight" = some (.ref (He.ga K "NoRight")) := T.glo "NoRight" (T.s.fact 89 (f := .glo "NoRight") rfl)
theorem Env.g_NoPage (T : Env K mg) : mg "NoPage" = some (.ref (He.ga K "NoPage")) := T.glo "NoPage" (T.s.fact 90 (f := .glo "NoPage") rfl)
theorem Env.g_NoFile (T : Env K mg) : mg "NoFile" = some (.ref (He.ga K "NoFile")) := T.glo "NoFile" (T.s.fact 91 (f := .glo "NoFile") rfl)
theorem Env.g_NoSpace (T : Env K mg) : mg "NoSpace" = some (.ref (He.ga K "NoSpace")) := T.glo "NoSpace" (T.s.fact 92 (f := .glo "NoSpace") rfl)
theorem Env.f_ValueError (T : Env K mg) : mg "ValueError" = none := T.free "ValueError" (T.s.fact 93 (f := .free "ValueError") rfl)
theorem Env.g_law (T : Env K mg) : mg "law" = some (.ref (He.ga K "law")) := T.glo "law" (T.s.fact 94 (f := .glo "law") rfl)
theorem Env.fd_law_edged (T : Env K mg) : ∃ fd, FunD K (d_law_edged).name (d_law_edged).qual (d_law_edged).params (d_law_edged).body (d_law_edged).scope ((d_law_edged).dvs K) ((d_law_edged).kws K) (He.fAd K (d_law_edged).at_) fd := T.s.def_ 0 (d := d_law_edged) rfl
theorem Env.fd_law_cell_at (T : Env K mg) : ∃ fd, FunD K (d_law_cell_at).name (d_law_cell_at).qual (d_law_cell_at).params (d_law_cell_at).body (d_law_cell_at).scope ((d_law_cell_at).dvs K) ((d_law_cell_at).kws K) (He.fAd K (d_law_cell_at).at_) fd := T.s.def_ 1 (d := d_law_cell_at) rfl
theorem Env.fd_is_whole (T : Env K mg) : ∃ fd, FunD K (d_is_whole).name (d_is_whole).qual (d_is_whole).params (d_is_whole).body (d_is_whole).scope ((d_is_whole).dvs K) ((d_is_whole).kws K) (He.fAd K (d_is_whole).at_) fd := T.s.def_ 2 (d := d_is_whole) rfl
theorem Env.fd_number (T : Env K mg) : ∃ fd, FunD K (d_number).name (d_number).qual (d_number).params (d_number).body (d_number).scope ((d_number).dvs K) ((d_number).kws K) (He.fAd K (d_number).at_) fd := T.s.def_ 3 (d := d_number) rfl
theorem Env.fd_Frames_init (T : Env K mg) : ∃ fd, FunD K (d_Frames_init).name (d_Frames_init).qual (d_Frames_init).params (d_Frames_init).body (d_Frames_init).scope ((d_Frames_init).dvs K) ((d_Frames_init).kws K) (He.fAd K (d_Frames_init).at_) fd := T.s.def_ 4 (d := d_Frames_init) rfl
theorem Env.fd_Dial_init (T : Env K mg) : ∃ fd, FunD K (d_Dial_init).name (d_Dial_init).qual (d_Dial_init).params (d_Dial_init).body (d_Dial_init).scope ((d_Dial_init).dvs K) ((d_Dial_init).kws K) (He.fAd K (d_Dial_init).at_) fd := T.s.def_ 5 (d := d_Dial_init) rfl
theorem Env.fd_Shelf_init (T : Env K mg) : ∃ fd, FunD K (d_Shelf_init).name (d_Shelf_init).qual (d_Shelf_init).params (d_Shelf_init).body (d_Shelf_init).scope ((d_Shelf_init).dvs K) ((d_Shelf_init).kws K) (He.fAd K (d_Shelf_init).at_) fd := T.s.def_ 6 (d := d_Shelf_init) rfl
theorem Env.fd_Files_init (T : Env K mg) : ∃ fd, FunD K (d_Files_init).name (d_Files_init).qual (d_Files_init).params (d_Files_init).body (d_Files_init).scope ((d_Files_init).dvs K) ((d_Files_init).kws K) (He.fAd K (d_Files_init).at_) fd := T.s.def_ 7 (d := d_Files_init) rfl
theorem Env.fd_Store_init (T : Env K mg) : ∃ fd, FunD K (d_Store_init).name (d_Store_init).qual (d_Store_init).params (d_Store_init).body (d_Store_init).scope ((d_Store_init).dvs K) ((d_Store_init).kws K) (He.fAd K (d_Store_init).at_) fd := T.s.def_ 8 (d := d_Store_init) rfl
theorem Env.fd_Book_init (T : Env K mg) : ∃ fd, FunD K (d_Book_init).name (d_Book_init).qual (d_Book_init).params (d_Book_init).body (d_Book_init).scope ((d_Book_init).dvs K) ((d_Book_init).kws K) (He.fAd K (d_Book_init).at_) fd := T.s.def_ 9 (d := d_Book_init) rfl
theorem Env.fd_World_init (T : Env K mg) : ∃ fd, FunD K (d_World_init).name (d_World_init).qual (d_World_init).params (d_World_init).body (d_World_init).scope ((d_World_init).dvs K) ((d_World_init).kws K) (He.fAd K (d_World_init).at_) fd := T.s.def_ 10 (d := d_World_init) rfl
theorem Env.fd_told_spaces (T : Env K mg) : ∃ fd, FunD K (d_told_spaces).name (d_told_spaces).qual (d_told_spaces).params (d_told_spaces).body (d_told_spaces).scope ((d_told_spaces).dvs K) ((d_told_spaces).kws K) (He.fAd K (d_told_spaces).at_) fd := T.s.def_ 11 (d := d_told_spaces) rfl
theorem Env.fd_law_of_none (T : Env K mg) : ∃ fd, FunD K (d_law_of_none).name (d_law_of_none).qual (d_law_of_none).params (d_law_of_none).body (d_law_of_none).scope ((d_law_of_none).dvs K) ((d_law_of_none).kws K) (He.fAd K (d_law_of_none).at_) fd := T.s.def_ 12 (d := d_law_of_none) rfl
theorem Env.fd_Frames_things (T : Env K mg) : ∃ fd, FunD K (d_Frames_things).name (d_Frames_things).qual (d_Frames_things).params (d_Frames_things).body (d_Frames_things).scope ((d_Frames_things).dvs K) ((d_Frames_things).kws K) (He.fAd K (d_Frames_things).at_) fd := T.s.def_ 13 (d := d_Frames_things) rfl
theorem Env.fd_told_frames (T : Env K mg) : ∃ fd, FunD K (d_told_frames).name (d_told_frames).qual (d_told_frames).params (d_told_frames).body (d_told_frames).scope ((d_told_frames).dvs K) ((d_told_frames).kws K) (He.fAd K (d_told_frames).at_) fd := T.s.def_ 14 (d := d_told_frames) rfl
theorem Env.fd_Dial_marks (T : Env K mg) : ∃ fd, FunD K (d_Dial_marks).name (d_Dial_marks).qual (d_Dial_marks).params (d_Dial_marks).body (d_Dial_marks).scope ((d_Dial_marks).dvs K) ((d_Dial_marks).kws K) (He.fAd K (d_Dial_marks).at_) fd := T.s.def_ 15 (d := d_Dial_marks) rfl
theorem Env.fd_told_marks (T : Env K mg) : ∃ fd, FunD K (d_told_marks).name (d_told_marks).qual (d_told_marks).params (d_told_marks).body (d_told_marks).scope ((d_told_marks).dvs K) ((d_told_marks).kws K) (He.fAd K (d_told_marks).at_) fd := T.s.def_ 16 (d := d_told_marks) rfl
theorem Env.fd_law_is (T : Env K mg) : ∃ fd, FunD K (d_law_is).name (d_law_is).qual (d_law_is).params (d_law_is).body (d_law_is).scope ((d_law_is).dvs K) ((d_law_is).kws K) (He.fAd K (d_law_is).at_) fd := T.s.def_ 17 (d := d_law_is) rfl
theorem Env.fd_Dial_pointer (T : Env K mg) : ∃ fd, FunD K (d_Dial_pointer).name (d_Dial_pointer).qual (d_Dial_pointer).params (d_Dial_pointer).body (d_Dial_pointer).scope ((d_Dial_pointer).dvs K) ((d_Dial_pointer).kws K) (He.fAd K (d_Dial_pointer).at_) fd := T.s.def_ 18 (d := d_Dial_pointer) rfl
theorem Env.fd_told_pointer (T : Env K mg) : ∃ fd, FunD K (d_told_pointer).name (d_told_pointer).qual (d_told_pointer).params (d_told_pointer).body (d_told_pointer).scope ((d_told_pointer).dvs K) ((d_told_pointer).kws K) (He.fAd K (d_told_pointer).at_) fd := T.s.def_ 19 (d := d_told_pointer) rfl
theorem Env.fd_Shelf_sheets (T : Env K mg) : ∃ fd, FunD K (d_Shelf_sheets).name (d_Shelf_sheets).qual (d_Shelf_sheets).params (d_Shelf_sheets).body (d_Shelf_sheets).scope ((d_Shelf_sheets).dvs K) ((d_Shelf_sheets).kws K) (He.fAd K (d_Shelf_sheets).at_) fd := T.s.def_ 20 (d := d_Shelf_sheets) rfl
theorem Env.fd_told_shelf (T : Env K mg) : ∃ fd, FunD K (d_told_shelf).name (d_told_shelf).qual (d_told_shelf).params (d_told_shelf).body (d_told_shelf).scope ((d_told_shelf).dvs K) ((d_told_shelf).kws K) (He.fAd K (d_told_shelf).at_) fd := T.s.def_ 21 (d := d_told_shelf) rfl
theorem Env.fd_told_copies (T : Env K mg) : ∃ fd, FunD K (d_told_copies).name (d_told_copies).qual (d_told_copies).params (d_told_copies).body (d_told_copies).scope ((d_told_copies).dvs K) ((d_told_copies).kws K) (He.fAd K (d_told_copies).at_) fd := T.s.def_ 22 (d := d_told_copies) rfl
theorem Env.fd_asked_hand (T : Env K mg) : ∃ fd, FunD K (d_asked_hand).name (d_asked_hand).qual (d_asked_hand).params (d_asked_hand).body (d_asked_hand).scope ((d_asked_hand).dvs K) ((d_asked_hand).kws K) (He.fAd K (d_asked_hand).at_) fd := T.s.def_ 23 (d := d_asked_hand) rfl
theorem Env.fd_Book_ways (T : Env K mg) : ∃ fd, FunD K (d_Book_ways).name (d_Book_ways).qual (d_Book_ways).params (d_Book_ways).body (d_Book_ways).scope ((d_Book_ways).dvs K) ((d_Book_ways).kws K) (He.fAd K (d_Book_ways).at_) fd := T.s.def_ 24 (d := d_Book_ways) rfl
theorem Env.fd_told_book (T : Env K mg) : ∃ fd, FunD K (d_told_book).name (d_told_book).qual (d_told_book).params (d_told_book).body (d_told_book).scope ((d_told_book).dvs K) ((d_told_book).kws K) (He.fAd K (d_told_book).at_) fd := T.s.def_ 25 (d := d_told_book) rfl
theorem Env.fd_told_walks (T : Env K mg) : ∃ fd, FunD K (d_told_walks).name (d_told_walks).qual (d_told_walks).params (d_told_walks).body (d_told_walks).scope ((d_told_walks).dvs K) ((d_told_walks).kws K) (He.fAd K (d_told_walks).at_) fd := T.s.def_ 26 (d := d_told_walks) rfl
theorem Env.fd_room_of (T : Env K mg) : ∃ fd, FunD K (d_room_of).name (d_room_of).qual (d_room_of).params (d_room_of).body (d_room_of).scope ((d_room_of).dvs K) ((d_room_of).kws K) (He.fAd K (d_room_of).at_) fd := T.s.def_ 27 (d := d_room_of) rfl
theorem Env.fd_told_room (T : Env K mg) : ∃ fd, FunD K (d_told_room).name (d_told_room).qual (d_told_room).params (d_told_room).body (d_told_room).scope ((d_told_room).dvs K) ((d_told_room).kws K) (He.fAd K (d_told_room).at_) fd := T.s.def_ 28 (d := d_told_room) rfl
theorem Env.fd_holders_of (T : Env K mg) : ∃ fd, FunD K (d_holders_of).name (d_holders_of).qual (d_holders_of).params (d_holders_of).body (d_holders_of).scope ((d_holders_of).dvs K) ((d_holders_of).kws K) (He.fAd K (d_holders_of).at_) fd := T.s.def_ 29 (d := d_holders_of) rfl
theorem Env.fd_told_holders (T : Env K mg) : ∃ fd, FunD K (d_told_holders).name (d_told_holders).qual (d_told_holders).params (d_told_holders).body (d_told_holders).scope ((d_told_holders).dvs K) ((d_told_holders).kws K) (He.fAd K (d_told_holders).at_) fd := T.s.def_ 30 (d := d_told_holders) rfl
theorem Env.fd_law_is_new (T : Env K mg) : ∃ fd, FunD K (d_law_is_new).name (d_law_is_new).qual (d_law_is_new).params (d_law_is_new).body (d_law_is_new).scope ((d_law_is_new).dvs K) ((d_law_is_new).kws K) (He.fAd K (d_law_is_new).at_) fd := T.s.def_ 31 (d := d_law_is_new) rfl
theorem Env.fd_law_bad (T : Env K mg) : ∃ fd, FunD K (d_law_bad).name (d_law_bad).qual (d_law_bad).params (d_law_bad).body (d_law_bad).scope ((d_law_bad).dvs K) ((d_law_bad).kws K) (He.fAd K (d_law_bad).at_) fd := T.s.def_ 32 (d := d_law_bad) rfl
theorem Env.fd_law_alone (T : Env K mg) : ∃ fd, FunD K (d_law_alone).name (d_law_alone).qual (d_law_alone).params (d_law_alone).body (d_law_alone).scope ((d_law_alone).dvs K) ((d_law_alone).kws K) (He.fAd K (d_law_alone).at_) fd := T.s.def_ 33 (d := d_law_alone) rfl
theorem Env.fd_law_world_refused (T : Env K mg) : ∃ fd, FunD K (d_law_world_refused).name (d_law_world_refused).qual (d_law_world_refused).params (d_law_world_refused).body (d_law_world_refused).scope ((d_law_world_refused).dvs K) ((d_law_world_refused).kws K) (He.fAd K (d_law_world_refused).at_) fd := T.s.def_ 34 (d := d_law_world_refused) rfl
theorem Env.fd_law_book_refused (T : Env K mg) : ∃ fd, FunD K (d_law_book_refused).name (d_law_book_refused).qual (d_law_book_refused).params (d_law_book_refused).body (d_law_book_refused).scope ((d_law_book_refused).dvs K) ((d_law_book_refused).kws K) (He.fAd K (d_law_book_refused).at_) fd := T.s.def_ 35 (d := d_law_book_refused) rfl
theorem Env.fd_law_walks_refused (T : Env K mg) : ∃ fd, FunD K (d_law_walks_refused).name (d_law_walks_refused).qual (d_law_walks_refused).params (d_law_walks_refused).body (d_law_walks_refused).scope ((d_law_walks_refused).dvs K) ((d_law_walks_refused).kws K) (He.fAd K (d_law_walks_refused).at_) fd := T.s.def_ 36 (d := d_law_walks_refused) rfl
theorem Env.fd_law (T : Env K mg) : ∃ fd, FunD K (d_law).name (d_law).qual (d_law).params (d_law).body (d_law).scope ((d_law).dvs K) ((d_law).kws K) (He.fAd K (d_law).at_) fd := T.s.def_ 37 (d := d_law) rfl
/-! ### each def keeps its promise -/
theorem sc_law_edged : FnScope N_law_edged ["_law_cell", "_law_low", "_law_high"] (defScope s_law_edged) := ⟨rfl, rfl, rfl, by decide +kernel, rfl, by decide +kernel, by decide +kernel⟩
theorem ok_law_edged (T : Env K mg) : Okd P w K mg base 1 (d_law_edged).at_ ["_law_cell", "_law_low", "_law_high"] (sp_law_edged K) :=
  okd_N (d := d_law_edged) (k := 0) (T.fd_law_edged) rfl sc_law_edged (fun _ _ _ _ _ _ us hl => match us, hl with | [_, _, _], _ => rfl) sl_law_edged (t_law_edged K) (fun cdv A outer s H E hr => by
    have sc := sc_law_edged
    exact pss_cons (ps_if (pt_cmpR op_eq (pe_op op_mod (pv 0) (pe_int)) (pe_int) (nomark _)) (pss_one (ps_ret (pv 1))) (pss_nil)) (pss_cons (ps_if (pt_cmpR op_eq (pe_op op_mod (pv 0) (pe_int)) (pe_int) (nomark _)) (pss_one (ps_ret (pv 2))) (pss_nil)) (pss_one (ps_ret (pe_op op_add (pv 1) (pe_op op_mod (pe_op op_fdiv (pv 0) (pe_int)) (pe_op op_add (pe_op op_sub (pv 2) (pv 1)) (pe_int)))))))) pu_law_edged
theorem sc_law_cell_at : FnScope N_law_cell_at ["_law_script", "_law_k"] (defScope s_law_cell_at) := ⟨rfl, rfl, rfl, by decide +kernel, rfl, by decide +kernel, by decide +kernel⟩
theorem ok_law_cell_at (T : Env K mg) : Okd P w K mg base 1 (d_law_cell_at).at_ ["_law_script", "_law_k"] (sp_law_cell_at K) :=
  okd_N (d := d_law_cell_at) (k := 0) (T.fd_law_cell_at) rfl sc_law_cell_at (fun _ _ _ _ _ _ us hl => match us, hl with | [_, _], _ => rfl) sl_law_cell_at (t_law_cell_at K) (fun cdv A outer s H E hr => by
    have sc := sc_law_cell_at
    exact pss_cons (ps_if (pt_cmpR op_lt (pv 1) (pe_callB call_len rfl (T.f_len) (by decide +kernel) (pa_cons (pv 0) (pa_nil))) (nomark _)) (pss_one (ps_ret (pe_ix ix_list (pv 0) (pv 1) (fun _ _ => rfl)))) (pss_nil)) (pss_one (ps_ret (pe_int)))) pu_law_cell_at
theorem sc_is_whole : FnScope N_is_whole ["thing"] (defScope s_is_whole) := ⟨rfl, rfl, rfl, by decide +kernel, rfl, by decide +kernel, by decide +kernel⟩
theorem ok_is_whole (T : Env K mg) : Okd P w K mg base 1 (d_is_whole).at_ ["thing"] (sp_is_whole K) :=
  okd_N (d := d_is_whole) (k := 0) (T.fd_is_whole) rfl sc_is_whole (fun _ _ _ _ _ _ us hl => match us, hl with | [_], _ => rfl) sl_is_whole (t_is_whole K) (fun cdv A outer s H E hr => by
    have sc := sc_is_whole
    exact pss_one (ps_ret (pe_and (pe_callB call_is rfl (T.f_isinstance) (by decide +kernel) (pa_cons (pv 0) (pa_cons (pe_bltn (v := .ty "int") rfl (T.f_int) (by decide +kernel) rfl) pa_nil))) (pe_one (pe_not (pe_callB call_is rfl (T.f_isinstance) (by decide +kernel) (pa_cons (pv 0) (pa_cons (pe_bltn (v := .ty "bool") rfl (T.f_bool) (by decide +kernel) rfl) pa_nil)))))))) pu_is_whole
theorem sc_number : FnScope N_number ["thing", "low", "high"] (defScope s_number) := ⟨rfl, rfl, rfl, by decide +kernel, rfl, by decide +kernel, by decide +kernel⟩
theorem ok_number (T : Env K mg) : Okd P w K mg base 2 (d_number).at_ ["thing", "low", "high"] (sp_number K) :=
  okd_R (d := d_number) (k := 1) (T.fd_number) rfl sc_number (fun _ _ _ _ _ _ us hl => match us, hl with | [_, _, _], _ => rfl) sl_number (fun E => t_number K (WR E)) (fun cdv A outer s H E hr => by
    have sc := sc_number
    have tk := takes_of (X := cxOf (L2.CX P w) P w K mg base N_number (d_number).qual (d_number).scope (He.fAd K (d_number).at_) cdv A outer s H E) rfl rfl rfl rfl
    exact pss_cons (ps_if (PW.pt (pw_or (pt_not (pt_val (pe_cD (ok_is_whole T) (hr.mono (by decide)) hx0 (T.g_is_whole) (pa_cons (pv 0) (pa_nil))))) (pw_or (pt_cmpR op_lt (pv 0) (pv 1) (nomark _)) (pw_or1 (pt_cmpR op_gt (pv 0) (pv 2) (nomark _)))))) (pss_one (ps_raiseD rfl tk (T.x_NoNumber))) (pss_nil)) (pss_one (ps_ret (pv 0)))) pu_number
theorem sc_Frames_init : FnScope N_Frames_init ["self", "many"] (defScope s_Frames_init) := ⟨rfl, rfl, rfl, by decide +kernel, rfl, by decide +kernel, by decide +kernel⟩
theorem ok_Frames_init (T : Env K mg) : Okd P w K mg base 1 (d_Frames_init).at_ ["self", "many"] (sp_Frames_init K) :=
  okd_N (d := d_Frames_init) (k := 0) (T.fd_Frames_init) rfl sc_Frames_init (fun _ _ _ _ _ _ us hl => match us, hl with | [_, _], _ => rfl) sl_Frames_init (t_Frames_init K) (fun cdv A outer s H E hr => by
    have sc := sc_Frames_init
    exact pss_cons (ps_fA (T.c_Frames) (T.n_Frames_my_things) (by decide +kernel) (pv 0) (pe_lc (own := [("frame", 2)]) (g := gName 2) (tt := tYes) rfl sc.nd (pi_range1 rfl (T.f_range) (pa_cons (pv 1) (pa_nil))) (blkOk_by (N := N_Frames_init) (sc := defScope s_Frames_init) (by decide +kernel)) (fun _ _ _ _ _ => pg_name (i := 2) sc.nd rfl (Or.inl rfl)) (fun _ _ _ _ _ => pts_nil) (fun _ _ _ _ _ => pe_non))) (pss_cons (ps_fA (T.c_Frames) (T.n_Frames_my_rows) (by decide +kernel) (pv 0) (pe_lc (own := [("frame", 2)]) (g := gName 2) (tt := tYes) rfl sc.nd (pi_range1 rfl (T.f_range) (pa_cons (pv 1) (pa_nil))) (blkOk_by (N := N_Frames_init) (sc := defScope s_Frames_init) (by decide +kernel)) (fun _ _ _ _ _ => pg_name (i := 2) sc.nd rfl (Or.inl rfl)) (fun _ _ _ _ _ => pts_nil) (fun _ _ _ _ _ => pe_lst (pa_nil)))) (pss_one (ps_fA (T.c_Frames) (T.n_Frames_my_soil) (by decide +kernel) (pv 0) (pe_lc (own := [("frame", 2)]) (g := gName 2) (tt := tYes) rfl sc.nd (pi_range1 rfl (T.f_range) (pa_cons (pv 1) (pa_nil))) (blkOk_by (N := N_Frames_init) (sc := defScope s_Frames_init) (by decide +kernel)) (fun _ _ _ _ _ => pg_name (i := 2) sc.nd rfl (Or.inl rfl)) (fun _ _ _ _ _ => pts_nil) (fun _ _ _ _ _ => pe_bl)))))) pu_Frames_init
theorem sc_Dial_init : FnScope N_Dial_init ["self", "many"] (defScope s_Dial_init) := ⟨rfl, rfl, rfl, by decide +kernel, rfl, by decide +kernel, by decide +kernel⟩
theorem ok_Dial_init (T : Env K mg) : Okd P w K mg base 1 (d_Dial_init).at_ ["self", "many"] (sp_Dial_init K) :=
  okd_N (d := d_Dial_init) (k := 0) (T.fd_Dial_init) rfl sc_Dial_init (fun _ _ _ _ _ _ us hl => match us, hl with | [_, _], _ => rfl) sl_Dial_init (t_Dial_init K) (fun cdv A outer s H E hr => by
    have sc := sc_Dial_init
    exact pss_cons (ps_fA (T.c_Dial) (T.n_Dial_my_spot) (by decide +kernel) (pv 0) (pe_int)) (pss_one (ps_fA (T.c_Dial) (T.n_Dial_my_marked) (by decide +kernel) (pv 0) (pe_lc (own := [("frame", 2)]) (g := gName 2) (tt := tYes) rfl sc.nd (pi_range1 rfl (T.f_range) (pa_cons (pv 1) (pa_nil))) (blkOk_by (N := N_Dial_init) (sc := defScope s_Dial_init) (by decide +kernel)) (fun _ _ _ _ _ => pg_name (i := 2) sc.nd rfl (Or.inl rfl)) (fun _ _ _ _ _ => pts_nil) (fun _ _ _ _ _ => pe_bl))))) pu_Dial_init
theorem sc_Shelf_init : FnScope N_Shelf_init ["self", "many"] (defScope s_Shelf_init) := ⟨rfl, rfl, rfl, by decide +kernel, rfl, by decide +kernel, by decide +kernel⟩
theorem ok_Shelf_init (T : Env K mg) : Okd P w K mg base 1 (d_Shelf_init).at_ ["self", "many"] (sp_Shelf_init K) :=
  okd_N (d := d_Shelf_init) (k := 0) (T.fd_Shelf_init) rfl sc_Shelf_init (fun _ _ _ _ _ _ us hl => match us, hl with | [_, _], _ => rfl) sl_Shelf_init (t_Shelf_init K) (fun cdv A outer s H E hr => by
    have sc := sc_Shelf_init
    exact pss_cons (ps_fA (T.c_Shelf) (T.n_Shelf_my_sheets) (by decide +kernel) (pv 0) (pe_lc (own := [("place", 2)]) (g := gName 2) (tt := tYes) rfl sc.nd (pi_range1 rfl (T.f_range) (pa_cons (pv 1) (pa_nil))) (blkOk_by (N := N_Shelf_init) (sc := defScope s_Shelf_init) (by decide +kernel)) (fun _ _ _ _ _ => pg_name (i := 2) sc.nd rfl (Or.inl rfl)) (fun _ _ _ _ _ => pts_nil) (fun _ _ _ _ _ => pe_non))) (pss_one (ps_fA (T.c_Shelf) (T.n_Shelf_my_rows) (by decide +kernel) (pv 0) (pe_dnewK)))) pu_Shelf_init
theorem sc_Files_init : FnScope N_Files_init ["self"] (defScope s_Files_init) := ⟨rfl, rfl, rfl, by decide +kernel, rfl, by decide +kernel, by decide +kernel⟩
theorem ok_Files_init (T : Env K mg) : Okd P w K mg base 1 (d_Files_init).at_ ["self"] (sp_Files_init K) :=
  okd_N (d := d_Files_init) (k := 0) (T.fd_Files_init) rfl sc_Files_init (fun _ _ _ _ _ _ us hl => match us, hl with | [_], _ => rfl) sl_Files_init (t_Files_init K) (fun cdv A outer s H E hr => by
    have sc := sc_Files_init
    exact pss_one (ps_fA (T.c_Files) (T.n_Files_my_files) (by decide +kernel) (pv 0) (pe_dnewK))) pu_Files_init
theorem sc_Store_init : FnScope N_Store_init ["self", "many", "places"] (defScope s_Store_init) := ⟨rfl, rfl, rfl, by decide +kernel, rfl, by decide +kernel, by decide +kernel⟩
theorem ok_Store_init (T : Env K mg) : Okd P w K mg base 3 (d_Store_init).at_ ["self", "many", "places"] (sp_Store_init K) :=
  okd_N (d := d_Store_init) (k := 2) (T.fd_Store_init) rfl sc_Store_init (fun _ _ _ _ _ _ us hl => match us, hl with | [_, _, _], _ => rfl) sl_Store_init (t_Store_init K) (fun cdv A outer s H E hr => by
    have sc := sc_Store_init
    exact pss_cons (ps_fA (T.c_Store) (T.n_Store_frames) (by decide +kernel) (pv 0) (pe_kD (T.k_Frames) (ok_Frames_init T) (hr.mono (by decide)) hx0 (T.g_Frames) (pa_cons (pv 1) (pa_nil)))) (pss_cons (ps_fA (T.c_Store) (T.n_Store_dial) (by decide +kernel) (pv 0) (pe_kD (T.k_Dial) (ok_Dial_init T) (hr.mono (by decide)) hx0 (T.g_Dial) (pa_cons (pv 1) (pa_nil)))) (pss_cons (ps_fA (T.c_Store) (T.n_Store_shelf) (by decide +kernel) (pv 0) (pe_kD (T.k_Shelf) (ok_Shelf_init T) (hr.mono (by decide)) hx0 (T.g_Shelf) (pa_cons (pv 2) (pa_nil)))) (pss_cons (ps_fA (T.c_Store) (T.n_Store_files) (by decide +kernel) (pv 0) (pe_kD0 (T.k_Files) (ok_Files_init T) (hr.mono (by decide)) hx0 (T.g_Files))) (pss_cons (ps_fA (T.c_Store) (T.n_Store_my_holders) (by decide +kernel) (pv 0) (pe_dnewK)) (pss_one (ps_fA (T.c_Store) (T.n_Store_my_newest) (by decide +kernel) (pv 0) (pe_int)))))))) pu_Store_init
theorem sc_Book_init : FnScope N_Book_init ["self", "slots"] (defScope s_Book_init) := ⟨rfl, rfl, rfl, by decide +kernel, rfl, by decide +kernel, by decide +kernel⟩
theorem ok_Book_init (T : Env K mg) : Okd P w K mg base 1 (d_Book_init).at_ ["self", "slots"] (sp_Book_init K) :=
  okd_N (d := d_Book_init) (k := 0) (T.fd_Book_init) rfl sc_Book_init (fun _ _ _ _ _ _ us hl => match us, hl with | [_, _], _ => rfl) sl_Book_init (t_Book_init K) (fun cdv A outer s H E hr => by
    have sc := sc_Book_init
    exact pss_cons (ps_fA (T.c_Book) (T.n_Book_slots) (by decide +kernel) (pv 0) (pv 1)) (pss_one (ps_fA (T.c_Book) (T.n_Book_kept) (by decide +kernel) (pv 0) (pe_lst (pa_nil))))) pu_Book_init
theorem sc_World_init : FnScope N_World_init ["self", "many", "places", "hands", "slots"] (defScope s_World_init) := ⟨rfl, rfl, rfl, by decide +kernel, rfl, by decide +kernel, by decide +kernel⟩
theorem ok_World_init (T : Env K mg) : Okd P w K mg base 5 (d_World_init).at_ ["self", "many", "places", "hands", "slots"] (sp_World_init K) :=
  okd_R (d := d_World_init) (k := 4) (T.fd_World_init) rfl sc_World_init (fun _ _ _ _ _ _ us hl => match us, hl with | [_, _, _, _, _], _ => rfl) sl_World_init (fun E => t_World_init K (WR E)) (fun cdv A outer s H E hr => by
    have sc := sc_World_init
    have tk := takes_of (X := cxOf (L2.CX P w) P w K mg base N_World_init (d_World_init).qual (d_World_init).scope (He.fAd K (d_World_init).at_) cdv A outer s H E) rfl rfl rfl rfl
    exact pss_cons (ps_expr (pe_cD (ok_number T) (hr.mono (by decide)) (fun σ => passAt tk σ) (T.g_number) (pa_cons (pv 1) (pa_cons (pe_int) (pa_cons (pe_int) (pa_nil)))))) (pss_cons (ps_expr (pe_cD (ok_number T) (hr.mono (by decide)) (fun σ => passAt tk σ) (T.g_number) (pa_cons (pv 2) (pa_cons (pe_int) (pa_cons (pe_int) (pa_nil)))))) (pss_cons (ps_expr (pe_cD (ok_number T) (hr.mono (by decide)) (fun σ => passAt tk σ) (T.g_number) (pa_cons (pv 3) (pa_cons (pe_int) (pa_cons (pe_int) (pa_nil)))))) (pss_cons (ps_expr (pe_cD (ok_number T) (hr.mono (by decide)) (fun σ => passAt tk σ) (T.g_number) (pa_cons (pv 4) (pa_cons (pe_int) (pa_cons (pe_int) (pa_nil)))))) (pss_cons (ps_fA (T.c_World) (T.n_World_store) (by decide +kernel) (pv 0) (pe_kD (T.k_Store) (ok_Store_init T) (hr.mono (by decide)) hx0 (T.g_Store) (pa_cons (pv 1) (pa_cons (pv 2) (pa_nil))))) (pss_cons (ps_fA (T.c_World) (T.n_World_books) (by decide +kernel) (pv 0) (pe_lc (own := [("hand", 5)]) (g := gName 5) (tt := tYes) rfl sc.nd (pi_range1 rfl (T.f_range) (pa_cons (pv 3) (pa_nil))) (blkOk_by (N := N_World_init) (sc := defScope s_World_init) (by decide +kernel)) (fun _ _ _ _ _ => pg_name (i := 5) sc.nd rfl (Or.inl rfl)) (fun _ _ _ _ _ => pts_nil) (fun _ _ _ _ _ => pe_kD (T.k_Book) (ok_Book_init T) (hr.mono (by decide)) hx0 (T.g_Book) (pa_cons (pv 4) (pa_nil))))) (pss_cons (ps_fA (T.c_World) (T.n_World_walked) (by decide +kernel) (pv 0) (pe_op op_rep (pe_lst (pa_cons (pe_int) (pa_nil))) (pv 3))) (pss_cons (ps_fA (T.c_World) (T.n_World_copied) (by decide +kernel) (pv 0) (pe_int)) (pss_cons (ps_fA (T.c_World) (T.n_World_made) (by decide +kernel) (pv 0) (pe_int)) (pss_cons (ps_fA (T.c_World) (T.n_World_plans) (by decide +kernel) (pv 0) (pe_dnewK)) (pss_one (ps_fA (T.c_World) (T.n_World_tables) (by decide +kernel) (pv 0) (pe_dnewK))))))))))))) pu_World_init
theorem sc_told_spaces : FnScope N_told_spaces ["world"] (defScope s_told_spaces) := ⟨rfl, rfl, rfl, by decide +kernel, rfl, by decide +kernel, by decide +kernel⟩
theorem ok_told_spaces (T : Env K mg) : Okd P w K mg base 1 (d_told_spaces).at_ ["world"] (sp_told_spaces K) :=
  okd_N (d := d_told_spaces) (k := 0) (T.fd_told_spaces) rfl sc_told_spaces (fun _ _ _ _ _ _ us hl => match us, hl with | [_], _ => rfl) sl_told_spaces (t_told_spaces K) (fun cdv A outer s H E hr => by
    have sc := sc_told_spaces
    exact pss_one (ps_ret (pe_callB (call_sortD rfl) rfl (T.f_sorted) (by decide +kernel) (pa_cons (pe_fI (T.c_World) (T.n_World_plans) (by decide +kernel) (pv 0)) (pa_nil))))) pu_told_spaces
theorem sc_law_of_none : FnScope N_law_of_none ["_law_found", "_law_many", "_law_thing"] (defScope s_law_of_none) := ⟨rfl, rfl, rfl, by decide +kernel, rfl, by decide +kernel, by decide +kernel⟩
theorem ok_law_of_none (T : Env K mg) : Okd P w K mg base 1 (d_law_of_none).at_ ["_law_found", "_law_many", "_law_thing"] (sp_law_of_none K) :=
  okd_N (d := d_law_of_none) (k := 0) (T.fd_law_of_none) rfl sc_law_of_none (fun _ _ _ _ _ _ us hl => match us, hl with | [_, _, _], _ => rfl) sl_law_of_none (t_law_of_none K) (fun cdv A outer s H E hr => by
    have sc := sc_law_of_none
    exact pss_cons (ps_if (PW.pt (pw_or (pt_not (pt_val (pe_callB call_is rfl (T.f_isinstance) (by decide +kernel) (pa_cons (pv 0) (pa_cons (pe_bltn (v := .ty "list") rfl (T.f_list) (by decide +kernel) rfl) pa_nil))))) (pw_or1 (pt_cmpR op_ne (pe_callB call_ln rfl (T.f_len) (by decide +kernel) (pa_cons (pv 0) (pa_nil))) (pv 1) (nomark _))))) (pss_one (ps_ret (pe_bl))) (pss_nil)) (pss_cons (ps_for PassesOwn.never rfl (pi_list (pv 0)) (pg_name (i := 3) sc.nd rfl (Or.inl rfl)) (pss_one (ps_if (PW.pt (pw_or (PW.pt (pw_and (pt_cmpR op_isN (pv 2) (pe_non) (nomark _)) (pw_and1 (pt_cmpR op_notN (pv 3) (pe_non) (nomark _))))) (pw_or1 (PW.pt (pw_and (pt_cmpR op_isI (pv 2) (pe_bl) (nomark _)) (pw_and1 (pt_cmpR op_notI (pv 3) (pe_bl) (nomark _)))))))) (pss_one (ps_ret (pe_bl))) (pss_nil)))) (pss_one (ps_ret (pe_bl))))) pu_law_of_none
theorem sc_Frames_things : FnScope N_Frames_things ["self"] (defScope s_Frames_things) := ⟨rfl, rfl, rfl, by decide +kernel, rfl, by decide +kernel, by decide +kernel⟩
theorem ok_Frames_things (T : Env K mg) : Okd P w K mg base 1 (d_Frames_things).at_ ["self"] (sp_Frames_things K) :=
  okd_N (d := d_Frames_things) (k := 0) (T.fd_Frames_things) rfl sc_Frames_things (fun _ _ _ _ _ _ us hl => match us, hl with | [_], _ => rfl) sl_Frames_things (t_Frames_things K) (fun cdv A outer s H E hr => by
    have sc := sc_Frames_things
    exact pss_one (ps_ret (pe_callTy call_ls rfl (T.f_list) (by decide +kernel) (pa_cons (pe_fI (T.c_Frames) (T.n_Frames_my_things) (by decide +kernel) (pv 0)) (pa_nil))))) pu_Frames_things
theorem sc_told_frames : FnScope N_told_frames ["world"] (defScope s_told_frames) := ⟨rfl, rfl, rfl, by decide +kernel, rfl, by decide +kernel, by decide +kernel⟩
theorem ok_told_frames (T : Env K mg) : Okd P w K mg base 2 (d_told_frames).at_ ["world"] (sp_told_frames K) :=
  okd_N (d := d_told_frames) (k := 1) (T.fd_told_frames) rfl sc_told_frames (fun _ _ _ _ _ _ us hl => match us, hl with | [_], _ => rfl) sl_told_frames (t_told_frames K) (fun cdv A outer s H E hr => by
    have sc := sc_told_frames
    exact pss_one (ps_ret (pe_mD0 (T.c_Frames) (T.m_Frames_things) (ok_Frames_things T) (hr.mono (by decide)) hx0 (by decide +kernel) (pe_fI (T.c_Store) (T.n_Store_frames) (by decide +kernel) (pe_fI (T.c_World) (T.n_World_store) (by decide +kernel) (pv 0)))))) pu_told_frames
theorem sc_Dial_marks : FnScope N_Dial_marks ["self"] (defScope s_Dial_marks) := ⟨rfl, rfl, rfl, by decide +kernel, rfl, by decide +kernel, by decide +kernel⟩
theorem ok_Dial_marks (T : Env K mg) : Okd P w K mg base 1 (d_Dial_marks).at_ ["self"] (sp_Dial_marks K) :=
  okd_N (d := d_Dial_marks) (k := 0) (T.fd_Dial_marks) rfl sc_Dial_marks (fun _ _ _ _ _ _ us hl => match us, hl with | [_], _ => rfl) sl_Dial_marks (t_Dial_marks K) (fun cdv A outer s H E hr => by
    have sc := sc_Dial_marks
    exact pss_one (ps_ret (pe_callTy call_ls rfl (T.f_list) (by decide +kernel) (pa_cons (pe_fI (T.c_Dial) (T.n_Dial_my_marked) (by decide +kernel) (pv 0)) (pa_nil))))) pu_Dial_marks
theorem sc_told_marks : FnScope N_told_marks ["world"] (defScope s_told_marks) := ⟨rfl, rfl, rfl, by decide +kernel, rfl, by decide +kernel, by decide +kernel⟩
theorem ok_told_marks (T : Env K mg) : Okd P w K mg base 2 (d_told_marks).at_ ["world"] (sp_told_marks K) :=
  okd_N (d := d_told_marks) (k := 1) (T.fd_told_marks) rfl sc_told_marks (fun _ _ _ _ _ _ us hl => match us, hl with | [_], _ => rfl) sl_told_marks (t_told_marks K) (fun cdv A outer s H E hr => by
    have sc := sc_told_marks
    exact pss_one (ps_ret (pe_mD0 (T.c_Dial) (T.m_Dial_marks) (ok_Dial_marks T) (hr.mono (by decide)) hx0 (by decide +kernel) (pe_fI (T.c_Store) (T.n_Store_dial) (by decide +kernel) (pe_fI (T.c_World) (T.n_World_store) (by decide +kernel) (pv 0)))))) pu_told_marks
theorem sc_law_is : FnScope N_law_is ["_law_found", "_law_due"] (defScope s_law_is) := ⟨rfl, rfl, rfl, by decide +kernel, rfl, by decide +kernel, by decide +kernel⟩
theorem ok_law_is (T : Env K mg) : Okd P w K mg base 1 (d_law_is).at_ ["_law_found", "_law_due"] (sp_law_is K) :=
  okd_N (d := d_law_is) (k := 0) (T.fd_law_is) rfl sc_law_is (fun _ _ _ _ _ _ us hl => match us, hl with | [_, _], _ => rfl) sl_law_is (t_law_is K) (fun cdv A outer s H E hr => by
    have sc := sc_law_is
    exact pss_one (ps_ret (pe_and (pe_callB call_is rfl (T.f_isinstance) (by decide +kernel) (pa_cons (pv 0) (pa_cons (pe_bltn (v := .ty "int") rfl (T.f_int) (by decide +kernel) rfl) pa_nil))) (pe_and (pe_not (pe_callB call_is rfl (T.f_isinstance) (by decide +kernel) (pa_cons (pv 0) (pa_cons (pe_bltn (v := .ty "bool") rfl (T.f_bool) (by decide +kernel) rfl) pa_nil)))) (pe_one (pe_cmpR op_eq (pv 0) (pv 1) (nomark _))))))) pu_law_is
theorem sc_Dial_pointer : FnScope N_Dial_pointer ["self"] (defScope s_Dial_pointer) := ⟨rfl, rfl, rfl, by decide +kernel, rfl, by decide +kernel, by decide +kernel⟩
theorem ok_Dial_pointer (T : Env K mg) : Okd P w K mg base 1 (d_Dial_pointer).at_ ["self"] (sp_Dial_pointer K) :=
  okd_N (d := d_Dial_pointer) (k := 0) (T.fd_Dial_pointer) rfl sc_Dial_pointer (fun _ _ _ _ _ _ us hl => match us, hl with | [_], _ => rfl) sl_Dial_pointer (t_Dial_pointer K) (fun cdv A outer s H E hr => by
    have sc := sc_Dial_pointer
    exact pss_one (ps_ret (pe_fI (T.c_Dial) (T.n_Dial_my_spot) (by decide +kernel) (pv 0)))) pu_Dial_pointer
theorem sc_told_pointer : FnScope N_told_pointer ["world"] (defScope s_told_pointer) := ⟨rfl, rfl, rfl, by decide +kernel, rfl, by decide +kernel, by decide +kernel⟩
theorem ok_told_pointer (T : Env K mg) : Okd P w K mg base 2 (d_told_pointer).at_ ["world"] (sp_told_pointer K) :=
  okd_N (d := d_told_pointer) (k := 1) (T.fd_told_pointer) rfl sc_told_pointer (fun _ _ _ _ _ _ us hl => match us, hl with | [_], _ => rfl) sl_told_pointer (t_told_pointer K) (fun cdv A outer s H E hr => by
    have sc := sc_told_pointer
    exact pss_one (ps_ret (pe_mD0 (T.c_Dial) (T.m_Dial_pointer) (ok_Dial_pointer T) (hr.mono (by decide)) hx0 (by decide +kernel) (pe_fI (T.c_Store) (T.n_Store_dial) (by decide +kernel) (pe_fI (T.c_World) (T.n_World_store) (by decide +kernel) (pv 0)))))) pu_told_pointer
theorem sc_Shelf_sheets : FnScope N_Shelf_sheets ["self"] (defScope s_Shelf_sheets) := ⟨rfl, rfl, rfl, by decide +kernel, rfl, by decide +kernel, by decide +kernel⟩
theorem ok_Shelf_sheets (T : Env K mg) : Okd P w K mg base 1 (d_Shelf_sheets).at_ ["self"] (sp_Shelf_sheets K) :=
  okd_N (d := d_Shelf_sheets) (k := 0) (T.fd_Shelf_sheets) rfl sc_Shelf_sheets (fun _ _ _ _ _ _ us hl => match us, hl with | [_], _ => rfl) sl_Shelf_sheets (t_Shelf_sheets K) (fun cdv A outer s H E hr => by
    have sc := sc_Shelf_sheets
    exact pss_one (ps_ret (pe_callTy call_ls rfl (T.f_list) (by decide +kernel) (pa_cons (pe_fI (T.c_Shelf) (T.n_Shelf_my_sheets) (by decide +kernel) (pv 0)) (pa_nil))))) pu_Shelf_sheets
theorem sc_told_shelf : FnScope N_told_shelf ["world"] (defScope s_told_shelf) := ⟨rfl, rfl, rfl, by decide +kernel, rfl, by decide +kernel, by decide +kernel⟩
theorem ok_told_shelf (T : Env K mg) : Okd P w K mg base 2 (d_told_shelf).at_ ["world"] (sp_told_shelf K) :=
  okd_N (d := d_told_shelf) (k := 1) (T.fd_told_shelf) rfl sc_told_shelf (fun _ _ _ _ _ _ us hl => match us, hl with | [_], _ => rfl) sl_told_shelf (t_told_shelf K) (fun cdv A outer s H E hr => by
    have sc := sc_told_shelf
    exact pss_one (ps_ret (pe_mD0 (T.c_Shelf) (T.m_Shelf_sheets) (ok_Shelf_sheets T) (hr.mono (by decide)) hx0 (by decide +kernel) (pe_fI (T.c_Store) (T.n_Store_shelf) (by decide +kernel) (pe_fI (T.c_World) (T.n_World_store) (by decide +kernel) (pv 0)))))) pu_told_shelf
theorem sc_told_copies : FnScope N_told_copies ["world"] (defScope s_told_copies) := ⟨rfl, rfl, rfl, by decide +kernel, rfl, by decide +kernel, by decide +kernel⟩
theorem ok_told_copies (T : Env K mg) : Okd P w K mg base 1 (d_told_copies).at_ ["world"] (sp_told_copies K) :=
  okd_N (d := d_told_copies) (k := 0) (T.fd_told_copies) rfl sc_told_copies (fun _ _ _ _ _ _ us hl => match us, hl with | [_], _ => rfl) sl_told_copies (t_told_copies K) (fun cdv A outer s H E hr => by
    have sc := sc_told_copies
    exact pss_one (ps_ret (pe_fI (T.c_World) (T.n_World_copied) (by decide +kernel) (pv 0)))) pu_told_copies
theorem sc_asked_hand : FnScope N_asked_hand ["world", "hand"] (defScope s_asked_hand) := ⟨rfl, rfl, rfl, by decide +kernel, rfl, by decide +kernel, by decide +kernel⟩
theorem ok_asked_hand (T : Env K mg) : Okd P w K mg base 3 (d_asked_hand).at_ ["world", "hand"] (sp_asked_hand K) :=
  okd_R (d := d_asked_hand) (k := 2) (T.fd_asked_hand) rfl sc_asked_hand (fun _ _ _ _ _ _ us hl => match us, hl with | [_, _], _ => rfl) sl_asked_hand (fun E => t_asked_hand K (WR E)) (fun cdv A outer s H E hr => by
    have sc := sc_asked_hand
    have tk := takes_of (X := cxOf (L2.CX P w) P w K mg base N_asked_hand (d_asked_hand).qual (d_asked_hand).scope (He.fAd K (d_asked_hand).at_) cdv A outer s H E) rfl rfl rfl rfl
    exact pss_one (ps_ret (pe_cD (ok_number T) (hr.mono (by decide)) (fun σ => passAt tk σ) (T.g_number) (pa_cons (pv 1) (pa_cons (pe_int) (pa_cons (pe_op op_sub (pe_callB call_ln rfl (T.f_len) (by decide +kernel) (pa_cons (pe_fI (T.c_World) (T.n_World_books) (by decide +kernel) (pv 0)) (pa_nil))) (pe_int)) (pa_nil))))))) pu_asked_hand
theorem sc_Book_ways : FnScope N_Book_ways ["self"] (defScope s_Book_ways) := ⟨rfl, rfl, rfl, by decide +kernel, rfl, by decide +kernel, by decide +kernel⟩
theorem ok_Book_ways (T : Env K mg) : Okd P w K mg base 1 (d_Book_ways).at_ ["self"] (sp_Book_ways K) :=
  okd_N (d := d_Book_ways) (k := 0) (T.fd_Book_ways) rfl sc_Book_ways (fun _ _ _ _ _ _ us hl => match us, hl with | [_], _ => rfl) sl_Book_ways (t_Book_ways K) (fun cdv A outer s H E hr => by
    have sc := sc_Book_ways
    exact pss_one (ps_ret (pe_callTy call_ls rfl (T.f_list) (by decide +kernel) (pa_cons (pe_fI (T.c_Book) (T.n_Book_kept) (by decide +kernel) (pv 0)) (pa_nil))))) pu_Book_ways
theorem sc_told_book : FnScope N_told_book ["world", "hand"] (defScope s_told_book) := ⟨rfl, rfl, rfl, by decide +kernel, rfl, by decide +kernel, by decide +kernel⟩
theorem ok_told_book (T : Env K mg) : Okd P w K mg base 4 (d_told_book).at_ ["world", "hand"] (sp_told_book K) :=
  okd_R (d := d_told_book) (k := 3) (T.fd_told_book) rfl sc_told_book (fun _ _ _ _ _ _ us hl => match us, hl with | [_, _], _ => rfl) sl_told_book (fun E => t_told_book K (WR E)) (fun cdv A outer s H E hr => by
    have sc := sc_told_book
    have tk := takes_of (X := cxOf (L2.CX P w) P w K mg base N_told_book (d_told_book).qual (d_told_book).scope (He.fAd K (d_told_book).at_) cdv A outer s H E) rfl rfl rfl rfl
    exact pss_one (ps_ret (pe_mD0 (T.c_Book) (T.m_Book_ways) (ok_Book_ways T) (hr.mono (by decide)) hx0 (by decide +kernel) (pe_ix ix_L (pe_fI (T.c_World) (T.n_World_books) (by decide +kernel) (pv 0)) (pe_cD (ok_asked_hand T) (hr.mono (by decide)) (fun σ => passAt tk σ) (T.g_asked_hand) (pa_cons (pv 0) (pa_cons (pv 1) (pa_nil)))) (fun _ _ => rfl))))) pu_told_book
theorem sc_told_walks : FnScope N_told_walks ["world", "hand"] (defScope s_told_walks) := ⟨rfl, rfl, rfl, by decide +kernel, rfl, by decide +kernel, by decide +kernel⟩
theorem ok_told_walks (T : Env K mg) : Okd P w K mg base 4 (d_told_walks).at_ ["world", "hand"] (sp_told_walks K) :=
  okd_R (d := d_told_walks) (k := 3) (T.fd_told_walks) rfl sc_told_walks (fun _ _ _ _ _ _ us hl => match us, hl with | [_, _], _ => rfl) sl_told_walks (fun E => t_told_walks K (WR E)) (fun cdv A outer s H E hr => by
    have sc := sc_told_walks
    have tk := takes_of (X := cxOf (L2.CX P w) P w K mg base N_told_walks (d_told_walks).qual (d_told_walks).scope (He.fAd K (d_told_walks).at_) cdv A outer s H E) rfl rfl rfl rfl
    exact pss_one (ps_ret (pe_ix ix_L (pe_fI (T.c_World) (T.n_World_walked) (by decide +kernel) (pv 0)) (pe_cD (ok_asked_hand T) (hr.mono (by decide)) (fun σ => passAt tk σ) (T.g_asked_hand) (pa_cons (pv 0) (pa_cons (pv 1) (pa_nil)))) (fun _ _ => rfl)))) pu_told_walks
theorem sc_room_of : FnScope N_room_of ["store"] (defScope s_room_of) := ⟨rfl, rfl, rfl, by decide +kernel, rfl, by decide +kernel, by decide +kernel⟩
theorem ok_room_of (T : Env K mg) : Okd P w K mg base 2 (d_room_of).at_ ["store"] (sp_room_of K) :=
  okd_N (d := d_room_of) (k := 1) (T.fd_room_of) rfl sc_room_of (fun _ _ _ _ _ _ us hl => match us, hl with | [_], _ => rfl) sl_room_of (t_room_of K) (fun cdv A outer s H E hr => by
    have sc := sc_room_of
    exact pss_cons (ps_set (i := 1) sc.nd rfl (Or.inl rfl) (pe_op op_add (pe_op op_sub (pe_callB call_ln rfl (T.f_len) (by decide +kernel) (pa_cons (pe_mD0 (T.c_Frames) (T.m_Frames_things) (ok_Frames_things T) (hr.mono (by decide)) hx0 (by decide +kernel) (pe_fI (T.c_Store) (T.n_Store_frames) (by decide +kernel) (pv 0))) (pa_nil))) (pe_int)) (pe_callB call_ln rfl (T.f_len) (by decide +kernel) (pa_cons (pe_mD0 (T.c_Shelf) (T.m_Shelf_sheets) (ok_Shelf_sheets T) (hr.mono (by decide)) hx0 (by decide +kernel) (pe_fI (T.c_Store) (T.n_Store_shelf) (by decide +kernel) (pv 0))) (pa_nil))))) (pss_one (ps_ret (pe_op op_sub (pv 1) (pe_callB call_lnD rfl (T.f_len) (by decide +kernel) (pa_cons (pe_fI (T.c_Store) (T.n_Store_my_holders) (by decide +kernel) (pv 0)) (pa_nil))))))) pu_room_of
theorem sc_told_room : FnScope N_told_room ["world"] (defScope s_told_room) := ⟨rfl, rfl, rfl, by decide +kernel, rfl, by decide +kernel, by decide +kernel⟩
theorem ok_told_room (T : Env K mg) : Okd P w K mg base 3 (d_told_room).at_ ["world"] (sp_told_room K) :=
  okd_N (d := d_told_room) (k := 2) (T.fd_told_room) rfl sc_told_room (fun _ _ _ _ _ _ us hl => match us, hl with | [_], _ => rfl) sl_told_room (t_told_room K) (fun cdv A outer s H E hr => by
    have sc := sc_told_room
    exact pss_one (ps_ret (pe_cD (ok_room_of T) (hr.mono (by decide)) hx0 (T.g_room_of) (pa_cons (pe_fI (T.c_World) (T.n_World_store) (by decide +kernel) (pv 0)) (pa_nil))))) pu_told_room
theorem sc_holders_of : FnScope N_holders_of ["store", "sheet"] (defScope s_holders_of) := ⟨rfl, rfl, rfl, by decide +kernel, rfl, by decide +kernel, by decide +kernel⟩
theorem ok_holders_of (T : Env K mg) : Okd P w K mg base 1 (d_holders_of).at_ ["store", "sheet"] (sp_holders_of K) :=
  okd_N (d := d_holders_of) (k := 0) (T.fd_holders_of) rfl sc_holders_of (fun _ _ _ _ _ _ us hl => match us, hl with | [_, _], _ => rfl) sl_holders_of (t_holders_of K) (fun cdv A outer s H E hr => by
    have sc := sc_holders_of
    exact pss_one (ps_ret (pe_dget2 (hu_of hr) (pe_fI (T.c_Store) (T.n_Store_my_holders) (by decide +kernel) (pv 0)) (pv 1) (pe_int) ⟨rfl, rfl, rfl, rfl⟩))) pu_holders_of
theorem sc_told_holders : FnScope N_told_holders ["world", "sheet"] (defScope s_told_holders) := ⟨rfl, rfl, rfl, by decide +kernel, rfl, by decide +kernel, by decide +kernel⟩
theorem ok_told_holders (T : Env K mg) : Okd P w K mg base 2 (d_told_holders).at_ ["world", "sheet"] (sp_told_holders K) :=
  okd_N (d := d_told_holders) (k := 1) (T.fd_told_holders) rfl sc_told_holders (fun _ _ _ _ _ _ us hl => match us, hl with | [_, _], _ => rfl) sl_told_holders (t_told_holders K) (fun cdv A outer s H E hr => by
    have sc := sc_told_holders
    exact pss_one (ps_ret (pe_cD (ok_holders_of T) (hr.mono (by decide)) hx0 (T.g_holders_of) (pa_cons (pe_fI (T.c_World) (T.n_World_store) (by decide +kernel) (pv 0)) (pa_cons (pv 1) (pa_nil)))))) pu_told_holders
theorem sc_law_is_new : FnScope N_law_is_new ["_law_world", "_law_nums"] (defScope s_law_is_new) := ⟨rfl, rfl, rfl, by decide +kernel, rfl, by decide +kernel, by decide +kernel⟩
theorem ok_law_is_new (T : Env K mg) : Okd P w K mg base 5 (d_law_is_new).at_ ["_law_world", "_law_nums"] (sp_law_is_new K) :=
  okd_N (d := d_law_is_new) (k := 4) (T.fd_law_is_new) rfl sc_law_is_new (fun _ _ _ _ _ _ us hl => match us, hl with | [_, _], _ => rfl) sl_law_is_new (t_law_is_new K) (fun cdv A outer s H E hr => by
    have sc := sc_law_is_new
    exact pss_cons (ps_if (PW.pt (pw_or (pt_cmpR (op_neD hr.units) (pe_cD (ok_told_spaces T) (hr.mono (by decide)) hx0 (T.g_told_spaces) (pa_cons (pv 0) (pa_nil))) (pe_lst (pa_nil)) (nomark _)) (pw_or1 (pt_not (pt_val (pe_cD (ok_law_of_none T) (hr.mono (by decide)) hx0 (T.g_law_of_none) (pa_cons (pe_cD (ok_told_frames T) (hr.mono (by decide)) hx0 (T.g_told_frames) (pa_cons (pv 0) (pa_nil))) (pa_cons (pe_ix ix_L (pv 1) (pe_int) (fun _ _ => rfl)) (pa_cons (pe_non) (pa_nil)))))))))) (pss_one (ps_ret (pe_bl))) (pss_nil)) (pss_cons (ps_if (PW.pt (pw_or (pt_not (pt_val (pe_cD (ok_law_of_none T) (hr.mono (by decide)) hx0 (T.g_law_of_none) (pa_cons (pe_cD (ok_told_marks T) (hr.mono (by decide)) hx0 (T.g_told_marks) (pa_cons (pv 0) (pa_nil))) (pa_cons (pe_ix ix_L (pv 1) (pe_int) (fun _ _ => rfl)) (pa_cons (pe_bl) (pa_nil))))))) (pw_or1 (pt_not (pt_val (pe_cD (ok_law_is T) (hr.mono (by decide)) hx0 (T.g_law_is) (pa_cons (pe_cD (ok_told_pointer T) (hr.mono (by decide)) hx0 (T.g_told_pointer) (pa_cons (pv 0) (pa_nil))) (pa_cons (pe_int) (pa_nil))))))))) (pss_one (ps_ret (pe_bl))) (pss_nil)) (pss_cons (ps_if (PW.pt (pw_or (pt_not (pt_val (pe_cD (ok_law_of_none T) (hr.mono (by decide)) hx0 (T.g_law_of_none) (pa_cons (pe_cD (ok_told_shelf T) (hr.mono (by decide)) hx0 (T.g_told_shelf) (pa_cons (pv 0) (pa_nil))) (pa_cons (pe_ix ix_L (pv 1) (pe_int) (fun _ _ => rfl)) (pa_cons (pe_non) (pa_nil))))))) (pw_or1 (pt_not (pt_val (pe_cD (ok_law_is T) (hr.mono (by decide)) hx0 (T.g_law_is) (pa_cons (pe_cD (ok_told_copies T) (hr.mono (by decide)) hx0 (T.g_told_copies) (pa_cons (pv 0) (pa_nil))) (pa_cons (pe_int) (pa_nil))))))))) (pss_one (ps_ret (pe_bl))) (pss_nil)) (pss_cons (ps_for PassesOwn.never rfl (pi_range1 rfl (T.f_range) (pa_cons (pe_ix ix_L (pv 1) (pe_int) (fun _ _ => rfl)) (pa_nil))) (pg_name (i := 2) sc.nd rfl (Or.inl rfl)) (pss_one (ps_if (PW.pt (pw_or (pt_cmpR (op_neD hr.units) (pe_cD (ok_told_book T) (hr.mono (by decide)) hx0 (T.g_told_book) (pa_cons (pv 0) (pa_cons (pv 2) (pa_nil)))) (pe_lst (pa_nil)) (nomark _)) (pw_or1 (pt_not (pt_val (pe_cD (ok_law_is T) (hr.mono (by decide)) hx0 (T.g_law_is) (pa_cons (pe_cD (ok_told_walks T) (hr.mono (by decide)) hx0 (T.g_told_walks) (pa_cons (pv 0) (pa_cons (pv 2) (pa_nil)))) (pa_cons (pe_int) (pa_nil))))))))) (pss_one (ps_ret (pe_bl))) (pss_nil)))) (pss_one (ps_ret (pe_and (pe_cD (ok_law_is T) (hr.mono (by decide)) hx0 (T.g_law_is) (pa_cons (pe_cD (ok_told_room T) (hr.mono (by decide)) hx0 (T.g_told_room) (pa_cons (pv 0) (pa_nil))) (pa_cons (pe_op op_add (pe_op op_sub (pe_ix ix_L (pv 1) (pe_int) (fun _ _ => rfl)) (pe_int)) (pe_ix ix_L (pv 1) (pe_int) (fun _ _ => rfl))) (pa_nil)))) (pe_one (pe_cD (ok_law_is T) (hr.mono (by decide)) hx0 (T.g_law_is) (pa_cons (pe_cD (ok_told_holders T) (hr.mono (by decide)) hx0 (T.g_told_holders) (pa_cons (pv 0) (pa_cons (pe_int) (pa_nil)))) (pa_cons (pe_int) (pa_nil)))))))))))) pu_law_is_new
theorem sc_law_bad : FnScope N_law_bad ["_law_cell", "_law_low", "_law_high"] (defScope s_law_bad) := ⟨rfl, rfl, rfl, by decide +kernel, rfl, by decide +kernel, by decide +kernel⟩
theorem ok_law_bad (T : Env K mg) : Okd P w K mg base 1 (d_law_bad).at_ ["_law_cell", "_law_low", "_law_high"] (sp_law_bad K) :=
  okd_N (d := d_law_bad) (k := 0) (T.fd_law_bad) rfl sc_law_bad (fun _ _ _ _ _ _ us hl => match us, hl with | [_, _, _], _ => rfl) sl_law_bad (t_law_bad K) (fun cdv A outer s H E hr => by
    have sc := sc_law_bad
    exact pss_cons (ps_set (i := 3) sc.nd rfl (Or.inl rfl) (pe_op op_mod (pv 0) (pe_int))) (pss_cons (ps_set (i := 4) sc.nd rfl (Or.inl rfl) (pe_op op_mod (pe_op op_fdiv (pv 0) (pe_int)) (pe_op op_pow (pe_int) (pe_int)))) (pss_cons (ps_if (pt_cmpR op_eq (pv 3) (pe_int) (nomark _)) (pss_one (ps_ret (pe_op op_sub (pv 1) (pe_int)))) (pss_nil)) (pss_cons (ps_if (pt_cmpR op_eq (pv 3) (pe_int) (nomark _)) (pss_one (ps_ret (pe_op op_add (pv 2) (pe_int)))) (pss_nil)) (pss_cons (ps_if (pt_cmpR op_eq (pv 3) (pe_int) (nomark _)) (pss_one (ps_ret (pe_op op_sub (pe_op op_sub (pv 1) (pe_int)) (pv 4)))) (pss_nil)) (pss_cons (ps_if (pt_cmpR op_eq (pv 3) (pe_int) (nomark _)) (pss_one (ps_ret (pe_op op_add (pe_op op_add (pv 2) (pe_int)) (pv 4)))) (pss_nil)) (pss_one (ps_ret (pe_ix ix_L (pe_lst (pa_cons (pe_bl) (pa_cons (pe_callTy call_str_int rfl (T.f_str) (by decide +kernel) (pa_cons (pv 1) (pa_nil))) (pa_cons (pe_non) (pa_cons (pe_lst (pa_cons (pv 1) (pa_nil))) (pa_cons (pe_tup (pa_cons (pv 1) (pa_nil))) (pa_nil))))))) (pe_op op_sub (pv 3) (pe_int)) (fun _ _ => rfl)))))))))) pu_law_bad
theorem sc_law_alone : FnScope N_law_alone ["_law_e"] (defScope s_law_alone) := ⟨rfl, rfl, rfl, by decide +kernel, rfl, by decide +kernel, by decide +kernel⟩
theorem ok_law_alone (T : Env K mg) : OkZ P w K mg base 1 (d_law_alone).at_ ["_law_e"] (sp_law_alone K) :=
  okZ (d := d_law_alone) (k := 0) (T.fd_law_alone) rfl sc_law_alone (fun _ _ _ _ _ _ us hl => match us, hl with | [_], _ => rfl) sl_law_alone (t_law_alone K) (fun cdv A outer s H E a D oe hr hz hf => by
    have sc := sc_law_alone
    exact pss_cons (ps_set (i := 1) sc.nd rfl (Or.inl rfl) (pe_callB (call_isPT (p := (a, oe)) List.mem_cons_self hz hf) rfl (T.f_isinstance) (by decide +kernel) (pa_cons (pv 0) (pa_cons (pe_tup (pa_cons (pe_glob rfl (T.g_NoSpace) rfl) (pa_cons (pe_glob rfl (T.g_NoFile) rfl) (pa_cons (pe_glob rfl (T.g_NoPage) rfl) (pa_cons (pe_glob rfl (T.g_NoRight) rfl) (pa_cons (pe_glob rfl (T.g_Taken) rfl) (pa_cons (pe_glob rfl (T.g_Held) rfl) (pa_cons (pe_glob rfl (T.g_Full) rfl) (pa_cons (pe_glob rfl (T.g_NoRow) rfl) (pa_nil)))))))))) pa_nil)))) (pss_one (ps_ret (pe_and (pe_callB (call_isP (p := (a, oe)) List.mem_cons_self hz hf) rfl (T.f_isinstance) (by decide +kernel) (pa_cons (pv 0) (pa_cons (pe_glob rfl (T.g_NoNumber) rfl) pa_nil))) (pe_and (pe_callB (call_isP (p := (a, oe)) List.mem_cons_self hz hf) rfl (T.f_isinstance) (by decide +kernel) (pa_cons (pv 0) (pa_cons (pe_bltn (v := .ty "ValueError") rfl (T.f_ValueError) (by decide +kernel) rfl) pa_nil))) (pe_one (pe_not (pv 1)))))))) (pu_law_alone T.e)
theorem sc_law_world_refused : FnScope N_law_world_refused ["_law_nums"] (defScope s_law_world_refused) := ⟨rfl, rfl, rfl, by decide +kernel, rfl, by decide +kernel, by decide +kernel⟩
theorem ok_law_world_refused (T : Env K mg) : Okd P w K mg base 7 (d_law_world_refused).at_ ["_law_nums"] (sp_law_world_refused K) :=
  okd_N (d := d_law_world_refused) (k := 6) (T.fd_law_world_refused) rfl sc_law_world_refused (fun _ _ _ _ _ _ us hl => match us, hl with | [_], _ => rfl) sl_law_world_refused (t_law_world_refused K) (fun cdv A outer s H E hr => by
    have sc := sc_law_world_refused
    exact pss_cons (ps_set (i := 1) sc.nd rfl (Or.inl rfl) (pe_bl)) (pss_cons (ps_try_as (i := 2) (tb := fun W2 => tDrop (tMk (He.ga K "World") (sp_World_init K) W2 (tCons (tOp rL (tVar 0) (tC (.int 0))) (tCons (tOp rL (tVar 0) (tC (.int 1))) (tCons (tOp rL (tVar 0) (tC (.int 2))) (tCons (tOp rL (tVar 0) (tC (.int 3))) (tNil))))))) (ts := fun a cls d => tAsg (tCZ K a cls d (sp_law_alone K) (tCons (tVar 2) (tNil))) (gName 1)) (Wout := fun _ _ _ _ => False) rfl rfl sc.nd rfl rfl ⟨rfl, by decide, Or.inl (T.g_PaneError)⟩ takes0 (fun W2 pn xe tk2 po2 => pss_one (ps_expr (pe_kD (T.k_World) (ok_World_init T) (hr.mono (by decide)) (fun σ => passAt tk2 σ) (T.g_World) (pa_cons (pe_ix ix_L (pv 0) (pe_int) (fun _ _ => rfl)) (pa_cons (pe_ix ix_L (pv 0) (pe_int) (fun _ _ => rfl)) (pa_cons (pe_ix ix_L (pv 0) (pe_int) (fun _ _ => rfl)) (pa_cons (pe_ix ix_L (pv 0) (pe_int) (fun _ _ => rfl)) (pa_nil)))))))) (fun a oe cls d pn hz hf => pss_one (ps_set (i := 1) sc.nd rfl (Or.inl rfl) (pe_cZ hz hf (ok_law_alone T) ⟨(hr.mono (j := 1) (by decide)).dp, (hr.mono (j := 1) (by decide)).un⟩ (T.g_law_alone) (pa_cons (pv 2) (pa_nil)))))) (pss_one (ps_ret (pv 1))))) (pu_law_world_refused T.e)
theorem sc_law_book_refused : FnScope N_law_book_refused ["_law_world", "_law_hand"] (defScope s_law_book_refused) := ⟨rfl, rfl, rfl, by decide +kernel, rfl, by decide +kernel, by decide +kernel⟩
theorem ok_law_book_refused (T : Env K mg) : Okd P w K mg base 5 (d_law_book_refused).at_ ["_law_world", "_law_hand"] (sp_law_book_refused K) :=
  okd_N (d := d_law_book_refused) (k := 4) (T.fd_law_book_refused) rfl sc_law_book_refused (fun _ _ _ _ _ _ us hl => match us, hl with | [_, _], _ => rfl) sl_law_book_refused (t_law_book_refused K) (fun cdv A outer s H E hr => by
    have sc := sc_law_book_refused
    exact pss_cons (ps_set (i := 2) sc.nd rfl (Or.inl rfl) (pe_bl)) (pss_cons (ps_try_as (i := 3) (tb := fun W2 => tDrop (tCallS (sp_told_book K) (WE W2) (tCons (tVar 0) (tCons (tVar 1) (tNil))))) (ts := fun a cls d => tAsg (tCZ K a cls d (sp_law_alone K) (tCons (tVar 3) (tNil))) (gName 2)) (Wout := fun _ _ _ _ => False) rfl rfl sc.nd rfl rfl ⟨rfl, by decide, Or.inl (T.g_PaneError)⟩ takes0 (fun W2 pn xe tk2 po2 => pss_one (ps_expr (pe_cD (ok_told_book T) (hr.mono (by decide)) (fun σ => passAt tk2 σ) (T.g_told_book) (pa_cons (pv 0) (pa_cons (pv 1) (pa_nil)))))) (fun a oe cls d pn hz hf => pss_one (ps_set (i := 2) sc.nd rfl (Or.inl rfl) (pe_cZ hz hf (ok_law_alone T) ⟨(hr.mono (j := 1) (by decide)).dp, (hr.mono (j := 1) (by decide)).un⟩ (T.g_law_alone) (pa_cons (pv 3) (pa_nil)))))) (pss_one (ps_ret (pv 2))))) (pu_law_book_refused T.e)
theorem sc_law_walks_refused : FnScope N_law_walks_refused ["_law_world", "_law_hand"] (defScope s_law_walks_refused) := ⟨rfl, rfl, rfl, by decide +kernel, rfl, by decide +kernel, by decide +kernel⟩
theorem ok_law_walks_refused (T : Env K mg) : Okd P w K mg base 5 (d_law_walks_refused).at_ ["_law_world", "_law_hand"] (sp_law_walks_refused K) :=
  okd_N (d := d_law_walks_refused) (k := 4) (T.fd_law_walks_refused) rfl sc_law_walks_refused (fun _ _ _ _ _ _ us hl => match us, hl with | [_, _], _ => rfl) sl_law_walks_refused (t_law_walks_refused K) (fun cdv A outer s H E hr => by
    have sc := sc_law_walks_refused
    exact pss_cons (ps_set (i := 2) sc.nd rfl (Or.inl rfl) (pe_bl)) (pss_cons (ps_try_as (i := 3) (tb := fun W2 => tDrop (tCallS (sp_told_walks K) (WE W2) (tCons (tVar 0) (tCons (tVar 1) (tNil))))) (ts := fun a cls d => tAsg (tCZ K a cls d (sp_law_alone K) (tCons (tVar 3) (tNil))) (gName 2)) (Wout := fun _ _ _ _ => False) rfl rfl sc.nd rfl rfl ⟨rfl, by decide, Or.inl (T.g_PaneError)⟩ takes0 (fun W2 pn xe tk2 po2 => pss_one (ps_expr (pe_cD (ok_told_walks T) (hr.mono (by decide)) (fun σ => passAt tk2 σ) (T.g_told_walks) (pa_cons (pv 0) (pa_cons (pv 1) (pa_nil)))))) (fun a oe cls d pn hz hf => pss_one (ps_set (i := 2) sc.nd rfl (Or.inl rfl) (pe_cZ hz hf (ok_law_alone T) ⟨(hr.mono (j := 1) (by decide)).dp, (hr.mono (j := 1) (by decide)).un⟩ (T.g_law_alone) (pa_cons (pv 3) (pa_nil)))))) (pss_one (ps_ret (pv 2))))) (pu_law_walks_refused T.e)
theorem sc_law : FnScope N_law ["_law_script"] (defScope s_law) := ⟨rfl, rfl, rfl, by decide +kernel, rfl, by decide +kernel, by decide +kernel⟩
theorem ok_law (T : Env K mg) : Okd P w K mg base 8 (d_law).at_ ["_law_script"] (sp_law K) :=
  okd_N (d := d_law) (k := 7) (T.fd_law) rfl sc_law (fun _ _ _ _ _ _ us hl => match us, hl with | [_], _ => rfl) sl_law (t_law K) (fun cdv A outer s H E hr => by
    have sc := sc_law
    exact pss_cons (ps_set (i := 1) sc.nd rfl (Or.inr rfl) (pe_lst (pa_cons (pe_int) (pa_cons (pe_int) (pa_cons (pe_int) (pa_cons (pe_int) (pa_nil))))))) (pss_cons (ps_set (i := 2) sc.nd rfl (Or.inr rfl) (pe_lst (pa_cons (pe_int) (pa_cons (pe_int) (pa_cons (pe_int) (pa_cons (pe_int) (pa_nil))))))) (pss_cons (ps_setLc (i := 3) (own := [("_law_k", 7)]) (g := gName 7) (tt := tYes) rfl sc.nd rfl rfl (sw_true rfl rfl rfl (by decide +kernel)) (pi_range1 rfl (T.f_range) (pa_cons (pe_int) (pa_nil))) (blkOk_by (N := N_law) (sc := defScope s_law) (by decide +kernel)) (fun _ _ _ _ _ => pg_name (i := 7) sc.nd rfl (Or.inl rfl)) (fun _ _ _ _ _ => pts_nil) (fun _ _ _ _ _ => pe_cD (ok_law_edged T) (hr.mono (by decide)) hx0 (T.g_law_edged) (pa_cons (pe_cD (ok_law_cell_at T) (hr.mono (by decide)) hx0 (T.g_law_cell_at) (pa_cons (pv 0) (pa_cons (pv 7) (pa_nil)))) (pa_cons (pe_ix ix_L (pv 1) (pv 7) (fun _ _ => rfl)) (pa_cons (pe_ix ix_L (pv 2) (pv 7) (fun _ _ => rfl)) (pa_nil)))))) (pss_cons (ps_set (i := 4) sc.nd rfl (Or.inl rfl) (pe_kD (T.k_World) (ok_World_init T) (hr.mono (by decide)) hx0 (T.g_World) (pa_cons (pe_ix ix_L (pv 3) (pe_int) (fun _ _ => rfl)) (pa_cons (pe_ix ix_L (pv 3) (pe_int) (fun _ _ => rfl)) (pa_cons (pe_ix ix_L (pv 3) (pe_int) (fun _ _ => rfl)) (pa_cons (pe_ix ix_L (pv 3) (pe_int) (fun _ _ => rfl)) (pa_nil))))))) (pss_cons (ps_if (pt_not (pt_val (pe_cD (ok_law_is_new T) (hr.mono (by decide)) hx0 (T.g_law_is_new) (pa_cons (pv 4) (pa_cons (pv 3) (pa_nil)))))) (pss_one (ps_ret (pe_bl))) (pss_nil)) (pss_cons (ps_set (i := 5) sc.nd rfl (Or.inl rfl) (pe_lst (pa_cons (pe_cD (ok_told_spaces T) (hr.mono (by decide)) hx0 (T.g_told_spaces) (pa_cons (pv 4) (pa_nil))) (pa_cons (pe_cD (ok_told_frames T) (hr.mono (by decide)) hx0 (T.g_told_frames) (pa_cons (pv 4) (pa_nil))) (pa_cons (pe_cD (ok_told_marks T) (hr.mono (by decide)) hx0 (T.g_told_marks) (pa_cons (pv 4) (pa_nil))) (pa_cons (pe_cD (ok_told_shelf T) (hr.mono (by decide)) hx0 (T.g_told_shelf) (pa_cons (pv 4) (pa_nil))) (pa_cons (pe_cD (ok_told_book T) (hr.mono (by decide)) hx0 (T.g_told_book) (pa_cons (pv 4) (pa_cons (pe_int) (pa_nil)))) (pa_nil)))))))) (pss_cons (ps_for PassesOwn.never rfl (pi_list (pv 5)) (pg_name (i := 6) sc.nd rfl (Or.inl rfl)) (pss_one (ps_expr (pe_bm PySem.F.plainAttrs_list PySem.F.slot_list_append PySem.F.type_list_append mt_append (pv 6) (pa_cons (pe_int) (pa_nil)))))) (pss_cons (ps_if (pt_not (pt_val (pe_cD (ok_law_is_new T) (hr.mono (by decide)) hx0 (T.g_law_is_new) (pa_cons (pv 4) (pa_cons (pv 3) (pa_nil)))))) (pss_one (ps_ret (pe_bl))) (pss_nil)) (pss_cons (ps_for PassesOwn.never rfl (pi_range2 rfl (T.f_range) (pa_cons (pe_int) (pa_cons (pe_int) (pa_nil)))) (pg_name (i := 7) sc.nd rfl (Or.inl rfl)) (pss_cons (ps_set (i := 8) sc.nd rfl (Or.inl rfl) (pe_cD (ok_law_cell_at T) (hr.mono (by decide)) hx0 (T.g_law_cell_at) (pa_cons (pv 0) (pa_cons (pv 7) (pa_nil))))) (pss_cons (ps_set (i := 9) sc.nd rfl (Or.inl rfl) (pe_callTy call_ls rfl (T.f_list) (by decide +kernel) (pa_cons (pv 3) (pa_nil)))) (pss_cons (ps_asg (pe_cD (ok_law_bad T) (hr.mono (by decide)) hx0 (T.g_law_bad) (pa_cons (pv 8) (pa_cons (pe_ix ix_L (pv 1) (pe_op op_mod (pv 7) (pe_int)) (fun _ _ => rfl)) (pa_cons (pe_ix ix_L (pv 2) (pe_op op_mod (pv 7) (pe_int)) (fun _ _ => rfl)) (pa_nil))))) (pg_sub (pv 9) (pe_op op_mod (pv 7) (pe_int)) set_list)) (pss_cons (ps_set (i := 10) sc.nd rfl (Or.inl rfl) (pe_cD (ok_law_bad T) (hr.mono (by decide)) hx0 (T.g_law_bad) (pa_cons (pe_op op_fdiv (pv 8) (pe_int)) (pa_cons (pe_int) (pa_cons (pe_op op_sub (pe_ix ix_L (pv 3) (pe_int) (fun _ _ => rfl)) (pe_int)) (pa_nil)))))) (pss_cons (ps_if (PW.pt (pw_or (pt_not (pt_val (pe_cD (ok_law_world_refused T) (hr.mono (by decide)) hx0 (T.g_law_world_refused) (pa_cons (pv 9) (pa_nil))))) (pw_or1 (pt_not (pt_val (pe_cD (ok_law_book_refused T) (hr.mono (by decide)) hx0 (T.g_law_book_refused) (pa_cons (pv 4) (pa_cons (pv 10) (pa_nil))))))))) (pss_one (ps_ret (pe_bl))) (pss_nil)) (pss_one (ps_if (pt_not (pt_val (pe_cD (ok_law_walks_refused T) (hr.mono (by decide)) hx0 (T.g_law_walks_refused) (pa_cons (pv 4) (pa_cons (pv 10) (pa_nil)))))) (pss_one (ps_ret (pe_bl))) (pss_nil))))))))) (pss_one (ps_ret (pe_cD (ok_law_is_new T) (hr.mono (by decide)) hx0 (T.g_law_is_new) (pa_cons (pv 4) (pa_cons (pv 3) (pa_nil))))))))))))))) (pu_law T.e)
end
end Pn
open PySem PySem.W PySem.Calls PyProof.Rows
theorem PySem.Challenge.cw_paneworks_k60_a_world_made_holds : PySem.Challenge.rw_paneworks_k60_a_world_made.Holds := by
  w_on; o_law
  refine HandSHeadRun.head_any (r := Pn.R) (q := view Pn.R.prog [54]) (H := Pn.hk) (ob := Pn.ob) (M := 5725) (loose := Pn.names) (d := HandSHeadRun.topDef Pn.R.prog 54) (kwd := []) Pn.ob_eq
    (by kernel_rfl) (fun s => by kernel_rfl) Pn.run (by kernel_rfl) (by kernel_rfl) (by kernel_rfl) (by rfl) (by first | assumption | decide +kernel) (by decide +kernel) ⟨rfl, rfl, rfl, rfl, rfl, by decide +kernel⟩ ?hw ?hc
  case hw => w_witness2
  case hc =>
    refine L2.walk_ofE (l := PySem.Challenge.rw_paneworks_k60_a_world_made) (n := 63) (k := 8) (x := "_law_script") (CX := L2.CX0) rfl (by decide) (by kernel_rfl) ⟨rfl, by decide, by decide⟩ ?F (fun _ _ _ _ z => z)
    intro w mg fa h Y G hmg0
    obtain ⟨K, KX, c, ce⟩ := Y
    have hmg : mg ("law" : PySem.Str) = some (.ref fa) := by
      have e : (HandSHeadRun.topDef Pn.R.prog 54).name = ("law" : PySem.Str) := by kernel_rfl
      rw [← e]
      exact hmg0
    have T : Pn.Env K mg := ⟨c, Pn.excB_ok ce, fun x q => He.glo_ok KX G q, fun x q => He.free_ok KX G q, fun x i q => He.int_ok KX G q, fun x z q => He.str_ok KX G q⟩
    have e := hmg.symm.trans T.g_law
    cases e
    obtain ⟨fd, F⟩ := T.fd_law
    have hF := Pn.law_end (P := (PySem.Challenge.rw_paneworks_k60_a_world_made).prog) (w := w) (fun base => Pn.ok_law (base := base) T) F rfl (fun _ _ _ _ _ _ us hl => match us, hl with | [_], _ => rfl)
    exact ⟨K, fd, _, KX, fun s v => hF.1 s v, fun H a ns hl _ hS => ⟨a, ns, rfl, hS, hl, fun _ => rfl⟩, fun base _ _ => hF.2 base⟩

