import PyProof.Rows.All
import Wide.All
import OpenK.AllK
import Wide.FinOn
import HandS.Codes
import HandS.Conv
import HandS.Deep
import HandS.Defaults
import HandS.DictComp
import HandS.FStr
import HandS.ForMost
import HandS.FromBytesMap
import HandS.Head0
import HandS.Head1
import HandS.Head2
import HandS.HeadEnd
import HandS.HeadHook1
import HandS.HeadHook2
import HandS.IsInst
import HandS.Keys
import HandS.More
import HandS.NoneIn
import HandS.SetBool
import HandS.SetKeys
import HandS.Small
import HandS.SortInts
import HandS.SortKw
import HandS.Style
import HandS.Text
import HandS.Walk
import HandS.WordsExc
import HandS.Zip
import KE.DataMinKey
import KE.DataMinMax
import KE.GoesZip
import KE.KCallOwn
import KE.KRevSl
import KE.KStateDown
import PyProof.CollectWalk
import PyProof.ListNew
import PyProof.Rows.SortStr
import PyProof.SliceStr2
import PyProof.StrOps2
import PySem.Challenge.RW_markersplice_k61_whole_scrambled_text_su
set_option Elab.async false
set_option linter.all false
set_option maxRecDepth 100000
set_option maxHeartbeats 4000000
/-! the text by places -/
namespace MS
open PySem PySem.Spec PyProof.Rows L2
def topS (i : Nat) : Stmt := PySem.Challenge.pw_markersplice_k61_whole_scrambled_text_su.main.body.getD i (.Pass ⟨0, 0, 0, 0⟩)
abbrev s_is_integer : Stmt := topS 18
abbrev s_is_name : Stmt := topS 19
abbrev s_is_piece : Stmt := topS 20
abbrev s_is_marker : Stmt := topS 21
abbrev s_is_sequence : Stmt := topS 22
abbrev s_require_piece : Stmt := topS 23
abbrev s_require_marker : Stmt := topS 24
abbrev s_require_items : Stmt := topS 25
abbrev s_require_row : Stmt := topS 26
abbrev s_flipped_piece : Stmt := topS 27
abbrev s_flipped_marker : Stmt := topS 28
abbrev s_flipped_item : Stmt := topS 29
abbrev s_flipped_items : Stmt := topS 30
abbrev s_marker_numbers : Stmt := topS 31
abbrev s_item_text : Stmt := topS 32
abbrev s_items_text : Stmt := topS 33
abbrev s_reading_text : Stmt := topS 34
abbrev s_Strip_init : Stmt := inClass (topS 37) 0
abbrev s_Strip_row : Stmt := inClass (topS 37) 1
abbrev s_Strip_names : Stmt := inClass (topS 37) 2
abbrev s_Strip_require_name : Stmt := inClass (topS 37) 4
abbrev s_Strip_len : Stmt := inClass (topS 37) 11
abbrev s_require_reading : Stmt := topS 38
abbrev s_readings : Stmt := topS 39
abbrev s_Ring_init : Stmt := inClass (topS 40) 0
abbrev s_Ring_row : Stmt := inClass (topS 40) 1
abbrev s_Ring_len : Stmt := inClass (topS 40) 4
abbrev s_Ring_str : Stmt := inClass (topS 40) 6
abbrev s_require_strip : Stmt := topS 42
abbrev s_are_unique_names_crossings : Stmt := topS 44
abbrev s_require_pieces : Stmt := topS 48
abbrev s_require_order : Stmt := topS 49
abbrev s_require_flips : Stmt := topS 50
abbrev s_segment_block : Stmt := topS 51
abbrev s_merge_pieces : Stmt := topS 52
abbrev s_scramble : Stmt := topS 53
abbrev s_contains : Stmt := topS 54
abbrev s_end_before : Stmt := topS 56
abbrev s_end_after : Stmt := topS 57
abbrev s_marks_of : Stmt := topS 58
abbrev s_ends_at : Stmt := topS 59
abbrev s_link_ends : Stmt := topS 60
abbrev s_next_end : Stmt := topS 61
abbrev s_walk : Stmt := topS 62
abbrev s_oriented_piece : Stmt := topS 63
abbrev s_strand_row : Stmt := topS 64
abbrev s_ring_row : Stmt := topS 65
abbrev s_find_strands : Stmt := topS 66
abbrev s_find_rings : Stmt := topS 67
abbrev s_pieces_on : Stmt := topS 68
abbrev s_are_unique_names_joining : Stmt := topS 70
abbrev s_require_names : Stmt := topS 72
abbrev s_JoinedStrip_init : Stmt := inClass (topS 73) 0
abbrev s_JoinedStrip_row : Stmt := inClass (topS 73) 5
abbrev s_JoinedStrip_rings : Stmt := inClass (topS 73) 6
abbrev s_join_all : Stmt := topS 74
abbrev s_law_cell : Stmt := topS 76
abbrev s_law_box : Stmt := topS 77
abbrev s_law_take : Stmt := topS 78
abbrev s_law_names : Stmt := topS 79
abbrev s_law_piece : Stmt := topS 80
abbrev s_law_cut : Stmt := topS 81
abbrev s_law_turned : Stmt := topS 83
abbrev s_law_told_apart : Stmt := topS 85
abbrev s_law_folded : Stmt := topS 86
abbrev s_law_parts : Stmt := topS 87
abbrev s_law_right : Stmt := topS 88
abbrev s_law : Stmt := topS 89
end MS
set_option maxHeartbeats 0
/-! the head: facts by names, the run -/
namespace MS
open PySem PySem.Spec PyProof.Rows L2

/-! ### what the kernel is to reckon at once -/
def frL {α : Type} : List Addr → (List Addr → α) → α
  | [], k => k []
  | a :: r, k => HandSHeadRun.frNat a fun a => frL r fun r => k (a :: r)
theorem frL_eq {α : Type} : ∀ (l : List Addr) (k : List Addr → α), frL l k = k l
  | [], _ => rfl
  | a :: r, k => by
    show HandSHeadRun.frNat a (fun a => frL r fun r => k (a :: r)) = k (a :: r)
    rw [HandSHeadRun.frNat_eq, frL_eq r]
def frF {α : Type} (g : Addr → Option Obj) : List Addr → (PySem.W.Frag → α) → α
  | [], k => k []
  | a :: r, k => HandSHeadRun.frNat a fun a => match g a with
    | none => frF g r k
    | some ⟨c, d, dt, sl⟩ => frF g r fun K => k ((a, ⟨c, d, dt, sl⟩) :: K)
theorem frF_eq {α : Type} (g : Addr → Option Obj) : ∀ (l : List Addr) (k : PySem.W.Frag → α), frF g l k = k (He.frG g l)
  | [], _ => rfl
  | a :: r, k => by
    show HandSHeadRun.frNat a (fun a => match g a with
      | none => frF g r k
      | some ⟨c, d, dt, sl⟩ => frF g r fun K => k ((a, ⟨c, d, dt, sl⟩) :: K)) = _
    rw [HandSHeadRun.frNat_eq]
    unfold He.frG
    rw [List.filterMap_cons]
    cases e : g a with
    | none =>
      show frF g r k = _
      rw [frF_eq g r]
      rfl
    | some o =>
      obtain ⟨c, d, dt, sl⟩ := o
      show frF g r (fun K => k ((a, ⟨c, d, dt, sl⟩) :: K)) = _
      rw [frF_eq g r]
      rfl
/-! ### the objects that the facts lean on -/
def refsAt (g : Addr → Option Obj) (a : Addr) : List Addr := match g a with
  | some ⟨_, _, .func fd, _⟩ => He.refV fd.code
  | some ⟨_, _, .dict es _, _⟩ => es.toList.flatMap fun e => He.refV e.val
  | some ⟨_, _, .cls cd, _⟩ => [cd.ns]
  | _ => []
def isClsAt (g : Addr → Option Obj) (a : Addr) : Bool := match g a with
  | some ⟨_, _, .cls _, _⟩ => true
  | _ => false
def own3 (K : PySem.W.Frag) : List Addr := [He.ga K "Strip", He.ga K "Ring", He.ga K "JoinedStrip"]
/-- the module's names' objects; the three classes' spaces, methods; the code objects -/
def obsM {α : Type} (g : Addr → Option Obj) (k : PySem.W.Frag → α) : α :=
  frL (refsAt g mainGlobals) fun l1 => frL (own3 (He.frG g [mainGlobals])) fun cs => frL (cs.flatMap (refsAt g)) fun ns => frL (ns.flatMap (refsAt g)) fun ms =>
    frL ((l1.filter fun a => !isClsAt g a).flatMap (refsAt g)) fun c1 => frL (ms.flatMap (refsAt g)) fun c2 => frF g (mainGlobals :: (l1 ++ (ns ++ (ms ++ (c1 ++ c2))))) k
def asM (g : Addr → Option Obj) : List Addr :=
  let l1 := refsAt g mainGlobals
  let ns := (own3 (He.frG g [mainGlobals])).flatMap (refsAt g)
  let ms := ns.flatMap (refsAt g)
  mainGlobals :: (l1 ++ (ns ++ (ms ++ ((l1.filter fun a => !isClsAt g a).flatMap (refsAt g) ++ ms.flatMap (refsAt g)))))
theorem obsM_eq {α : Type} (g : Addr → Option Obj) (k : PySem.W.Frag → α) : obsM g k = k (He.frG g (asM g)) := by
  unfold obsM
  simp only [frL_eq, frF_eq]
  rfl
/-! ### the Hook -/
abbrev AlM : Type := Bool × Bool × List He.FnW
def seeM (fa : List He.Fa) (fn : List He.DefD) (ex : PySem.W.Frag → Bool) (K : PySem.W.Frag) : AlM := (ex K, He.obsD fa fn K)
def valM (fn : List He.DefD) : AlM := (true, He.valD fn)
def hookM (fa : List He.Fa) (fn : List He.DefD) (ex : PySem.W.Frag → Bool) : PySem.W.Hook where
  α := AlM
  obs := fun s => obsM s.heap.get? (seeM fa fn ex)
  val := fun _ => valM fn
  says := fun _ h => ∃ K : PySem.W.Frag, K.In h ∧ ex K = true ∧ He.SaysD fa fn K
  of := fun _ _ e => by
    rw [obsM_eq] at e
    exact ⟨_, He.frG_in, congrArg (fun z : AlM => z.1) e, congrArg (fun z : AlM => z.2) e⟩
  keeps := fun _ _ _ ⟨K, hK, c⟩ k => ⟨K, PySem.W.Frag.In.keeps hK k, c⟩
theorem obsM_g {fa : List He.Fa} {fn : List He.DefD} {ex : PySem.W.Frag → Bool} {g : Addr → Option Obj} {s : Shared} (h : ∀ a, g a = s.heap.get? a) : obsM g (seeM fa fn ex) = (hookM fa fn ex).obs s := by
  have e : g = s.heap.get? := funext h
  rw [e] <;> rfl

def d_is_integer : He.DefD := ⟨("is_integer", none), "is_integer", "is_integer", defArgs s_is_integer, defBody s_is_integer, defScope s_is_integer, [], []⟩
def d_is_name : He.DefD := ⟨("is_name", none), "is_name", "is_name", defArgs s_is_name, defBody s_is_name, defScope s_is_name, [], []⟩
def d_is_piece : He.DefD := ⟨("is_piece", none), "is_piece", "is_piece", defArgs s_is_piece, defBody s_is_piece, defScope s_is_piece, [], []⟩
def d_is_marker : He.DefD := ⟨("is_marker", none), "is_marker", "is_marker", defArgs s_is_marker, defBody s_is_marker, defScope s_is_marker, [], []⟩
def d_is_sequence : He.DefD := ⟨("is_sequence", none), "is_sequence", "is_sequence", defArgs s_is_sequence, defBody s_is_sequence, defScope s_is_sequence, [], []⟩
def d_require_piece : He.DefD := ⟨("require_piece", none), "require_piece", "require_piece", defArgs s_require_piece, defBody s_require_piece, defScope s_require_piece, [], []⟩
def d_require_marker : He.DefD := ⟨("require_marker", none), "require_marker", "require_marker", defArgs s_require_marker, defBody s_require_marker, defScope s_require_marker, [], []⟩
def d_require_items : He.DefD := ⟨("require_items", none), "require_items", "require_items", defArgs s_require_items, defBody s_require_items, defScope s_require_items, [], []⟩
def d_require_row : He.DefD := ⟨("require_row", none), "require_row", "require_row", defArgs s_require_row, defBody s_require_row, defScope s_require_row, [], []⟩
def d_flipped_piece : He.DefD := ⟨("flipped_piece", none), "flipped_piece", "flipped_piece", defArgs s_flipped_piece, defBody s_flipped_piece, defScope s_flipped_piece, [], []⟩
def d_flipped_marker : He.DefD := ⟨("flipped_marker", none), "flipped_marker", "flipped_marker", defArgs s_flipped_marker, defBody s_flipped_marker, defScope s_flipped_marker, [], []⟩
def d_flipped_item : He.DefD := ⟨("flipped_item", none), "flipped_item", "flipped_item", defArgs s_flipped_item, defBody s_flipped_item, defScope s_flipped_item, [], []⟩
def d_flipped_items : He.DefD := ⟨("flipped_items", none), "flipped_items", "flipped_items", defArgs s_flipped_items, defBody s_flipped_items, defScope s_flipped_items, [], []⟩
def d_marker_numbers : He.DefD := ⟨("marker_numbers", none), "marker_numbers", "marker_numbers", defArgs s_marker_numbers, defBody s_marker_numbers, defScope s_marker_numbers, [], []⟩
def d_item_text : He.DefD := ⟨("item_text", none), "item_text", "item_text", defArgs s_item_text, defBody s_item_text, defScope s_item_text, [], []⟩
def d_items_text : He.DefD := ⟨("items_text", none), "items_text", "items_text", defArgs s_items_text, defBody s_items_text, defScope s_items_text, [], []⟩
def d_reading_text : He.DefD := ⟨("reading_text", none), "reading_text", "reading_text", defArgs s_reading_text, defBody s_reading_text, defScope s_reading_text, [], []⟩
def d_Strip_init : He.DefD := ⟨("Strip", some "__init__"), "__init__", "Strip.__init__", defArgs s_Strip_init, defBody s_Strip_init, defScope s_Strip_init, [], []⟩
def d_Strip_row : He.DefD := ⟨("Strip", some "row"), "row", "Strip.row", defArgs s_Strip_row, defBody s_Strip_row, defScope s_Strip_row, [], []⟩
def d_Strip_names : He.DefD := ⟨("Strip", some "names"), "names", "Strip.names", defArgs s_Strip_names, defBody s_Strip_names, defScope s_Strip_names, [], []⟩
def d_Strip_require_name : He.DefD := ⟨("Strip", some "require_name"), "require_name", "Strip.require_name", defArgs s_Strip_require_name, defBody s_Strip_require_name, defScope s_Strip_require_name, [], []⟩
def d_Strip_len : He.DefD := ⟨("Strip", some "__len__"), "__len__", "Strip.__len__", defArgs s_Strip_len, defBody s_Strip_len, defScope s_Strip_len, [], []⟩
def d_require_reading : He.DefD := ⟨("require_reading", none), "require_reading", "require_reading", defArgs s_require_reading, defBody s_require_reading, defScope s_require_reading, [], []⟩
def d_readings : He.DefD := ⟨("readings", none), "readings", "readings", defArgs s_readings, defBody s_readings, defScope s_readings, [], []⟩
def d_Ring_init : He.DefD := ⟨("Ring", some "__init__"), "__init__", "Ring.__init__", defArgs s_Ring_init, defBody s_Ring_init, defScope s_Ring_init, [], []⟩
def d_Ring_row : He.DefD := ⟨("Ring", some "row"), "row", "Ring.row", defArgs s_Ring_row, defBody s_Ring_row, defScope s_Ring_row, [], []⟩
def d_Ring_len : He.DefD := ⟨("Ring", some "__len__"), "__len__", "Ring.__len__", defArgs s_Ring_len, defBody s_Ring_len, defScope s_Ring_len, [], []⟩
def d_Ring_str : He.DefD := ⟨("Ring", some "__str__"), "__str__", "Ring.__str__", defArgs s_Ring_str, defBody s_Ring_str, defScope s_Ring_str, [], []⟩
def d_require_strip : He.DefD := ⟨("require_strip", none), "require_strip", "require_strip", defArgs s_require_strip, defBody s_require_strip, defScope s_require_strip, [], []⟩
def d_are_unique_names_crossings : He.DefD := ⟨("are_unique_names_crossings", none), "are_unique_names", "are_unique_names", defArgs s_are_unique_names_crossings, defBody s_are_unique_names_crossings, defScope s_are_unique_names_crossings, [], []⟩
def d_require_pieces : He.DefD := ⟨("require_pieces", none), "require_pieces", "require_pieces", defArgs s_require_pieces, defBody s_require_pieces, defScope s_require_pieces, [], []⟩
def d_require_order : He.DefD := ⟨("require_order", none), "require_order", "require_order", defArgs s_require_order, defBody s_require_order, defScope s_require_order, [], []⟩
def d_require_flips : He.DefD := ⟨("require_flips", none), "require_flips", "require_flips", defArgs s_require_flips, defBody s_require_flips, defScope s_require_flips, [], []⟩
def d_segment_block : He.DefD := ⟨("segment_block", none), "segment_block", "segment_block", defArgs s_segment_block, defBody s_segment_block, defScope s_segment_block, [], []⟩
def d_merge_pieces : He.DefD := ⟨("merge_pieces", none), "merge_pieces", "merge_pieces", defArgs s_merge_pieces, defBody s_merge_pieces, defScope s_merge_pieces, [], []⟩
def d_scramble : He.DefD := ⟨("scramble", none), "scramble", "scramble", defArgs s_scramble, defBody s_scramble, defScope s_scramble, [], []⟩
def d_contains : He.DefD := ⟨("contains", none), "contains", "contains", defArgs s_contains, defBody s_contains, defScope s_contains, [], []⟩
def d_end_before : He.DefD := ⟨("end_before", none), "end_before", "end_before", defArgs s_end_before, defBody s_end_before, defScope s_end_before, [], []⟩
def d_end_after : He.DefD := ⟨("end_after", none), "end_after", "end_after", defArgs s_end_after, defBody s_end_after, defScope s_end_after, [], []⟩
def d_marks_of : He.DefD := ⟨("marks_of", none), "marks_of", "marks_of", defArgs s_marks_of, defBody s_marks_of, defScope s_marks_of, [], []⟩
def d_ends_at : He.DefD := ⟨("ends_at", none), "ends_at", "ends_at", defArgs s_ends_at, defBody s_ends_at, defScope s_ends_at, [], []⟩
def d_link_ends : He.DefD := ⟨("link_ends", none), "link_ends", "link_ends", defArgs s_link_ends, defBody s_link_ends, defScope s_link_ends, [], []⟩
def d_next_end : He.DefD := ⟨("next_end", none), "next_end", "next_end", defArgs s_next_end, defBody s_next_end, defScope s_next_end, [], []⟩
def d_walk : He.DefD := ⟨("walk", none), "walk", "walk", defArgs s_walk, defBody s_walk, defScope s_walk, [], []⟩
def d_oriented_piece : He.DefD := ⟨("oriented_piece", none), "oriented_piece", "oriented_piece", defArgs s_oriented_piece, defBody s_oriented_piece, defScope s_oriented_piece, [], []⟩
def d_strand_row : He.DefD := ⟨("strand_row", none), "strand_row", "strand_row", defArgs s_strand_row, defBody s_strand_row, defScope s_strand_row, [], []⟩
def d_ring_row : He.DefD := ⟨("ring_row", none), "ring_row", "ring_row", defArgs s_ring_row, defBody s_ring_row, defScope s_ring_row, [], []⟩
def d_find_strands : He.DefD := ⟨("find_strands", none), "find_strands", "find_strands", defArgs s_find_strands, defBody s_find_strands, defScope s_find_strands, [], []⟩
def d_find_rings : He.DefD := ⟨("find_rings", none), "find_rings", "find_rings", defArgs s_find_rings, defBody s_find_rings, defScope s_find_rings, [], []⟩
def d_pieces_on : He.DefD := ⟨("pieces_on", none), "pieces_on", "pieces_on", defArgs s_pieces_on, defBody s_pieces_on, defScope s_pieces_on, [], []⟩
def d_are_unique_names_joining : He.DefD := ⟨("are_unique_names_joining", none), "are_unique_names", "are_unique_names", defArgs s_are_unique_names_joining, defBody s_are_unique_names_joining, defScope s_are_unique_names_joining, [], []⟩
def d_require_names : He.DefD := ⟨("require_names", none), "require_names", "require_names", defArgs s_require_names, defBody s_require_names, defScope s_require_names, [], []⟩
def d_JoinedStrip_init : He.DefD := ⟨("JoinedStrip", some "__init__"), "__init__", "JoinedStrip.__init__", defArgs s_JoinedStrip_init, defBody s_JoinedStrip_init, defScope s_JoinedStrip_init, [], []⟩
def d_JoinedStrip_row : He.DefD := ⟨("JoinedStrip", some "row"), "row", "JoinedStrip.row", defArgs s_JoinedStrip_row, defBody s_JoinedStrip_row, defScope s_JoinedStrip_row, [], []⟩
def d_JoinedStrip_rings : He.DefD := ⟨("JoinedStrip", some "rings"), "rings", "JoinedStrip.rings", defArgs s_JoinedStrip_rings, defBody s_JoinedStrip_rings, defScope s_JoinedStrip_rings, [], []⟩
def d_join_all : He.DefD := ⟨("join_all", none), "join_all", "join_all", defArgs s_join_all, defBody s_join_all, defScope s_join_all, [], []⟩
def d_law_cell : He.DefD := ⟨("_law_cell", none), "_law_cell", "_law_cell", defArgs s_law_cell, defBody s_law_cell, defScope s_law_cell, [], []⟩
def d_law_box : He.DefD := ⟨("_law_box", none), "_law_box", "_law_box", defArgs s_law_box, defBody s_law_box, defScope s_law_box, [], []⟩
def d_law_take : He.DefD := ⟨("_law_take", none), "_law_take", "_law_take", defArgs s_law_take, defBody s_law_take, defScope s_law_take, [], []⟩
def d_law_names : He.DefD := ⟨("_law_names", none), "_law_names", "_law_names", defArgs s_law_names, defBody s_law_names, defScope s_law_names, [], []⟩
def d_law_piece : He.DefD := ⟨("_law_piece", none), "_law_piece", "_law_piece", defArgs s_law_piece, defBody s_law_piece, defScope s_law_piece, [], []⟩
def d_law_cut : He.DefD := ⟨("_law_cut", none), "_law_cut", "_law_cut", defArgs s_law_cut, defBody s_law_cut, defScope s_law_cut, [], []⟩
def d_law_turned : He.DefD := ⟨("_law_turned", none), "_law_turned", "_law_turned", defArgs s_law_turned, defBody s_law_turned, defScope s_law_turned, [], []⟩
def d_law_told_apart : He.DefD := ⟨("_law_told_apart", none), "_law_told_apart", "_law_told_apart", defArgs s_law_told_apart, defBody s_law_told_apart, defScope s_law_told_apart, [], []⟩
def d_law_folded : He.DefD := ⟨("_law_folded", none), "_law_folded", "_law_folded", defArgs s_law_folded, defBody s_law_folded, defScope s_law_folded, [], []⟩
def d_law_parts : He.DefD := ⟨("_law_parts", none), "_law_parts", "_law_parts", defArgs s_law_parts, defBody s_law_parts, defScope s_law_parts, [], []⟩
def d_law_right : He.DefD := ⟨("_law_right", none), "_law_right", "_law_right", defArgs s_law_right, defBody s_law_right, defScope s_law_right, [], []⟩
def d_law : He.DefD := ⟨("law", none), "law", "law", defArgs s_law, defBody s_law, defScope s_law, [], []⟩
def fn0 : List He.DefD := [d_is_integer, d_is_name, d_is_piece, d_is_marker, d_is_sequence, d_require_piece, d_require_marker, d_require_items, d_require_row, d_flipped_piece, d_flipped_marker, d_flipped_item, d_flipped_items, d_marker_numbers, d_item_text, d_items_text, d_reading_text, d_Strip_init, d_Strip_row, d_Strip_names, d_Strip_require_name, d_Strip_len, d_require_reading, d_readings, d_Ring_init, d_Ring_row, d_Ring_len, d_Ring_str, d_require_strip, d_are_unique_names_crossings]
def fn1 : List He.DefD := [d_require_pieces, d_require_order, d_require_flips, d_segment_block, d_merge_pieces, d_scramble, d_contains, d_end_before, d_end_after, d_marks_of, d_ends_at, d_link_ends, d_next_end, d_walk, d_oriented_piece, d_strand_row, d_ring_row, d_find_strands, d_find_rings, d_pieces_on, d_are_unique_names_joining, d_require_names, d_JoinedStrip_init, d_JoinedStrip_row, d_JoinedStrip_rings, d_join_all, d_law_cell, d_law_box, d_law_take, d_law_names]
def fn2 : List He.DefD := [d_law_piece, d_law_cut, d_law_turned, d_law_told_apart, d_law_folded, d_law_parts, d_law_right, d_law]
def fn : List He.DefD := fn0 ++ fn1 ++ fn2
def fa0 : List He.Fa := [.glo "is_integer", .glo "is_name", .glo "is_piece", .glo "is_marker", .glo "is_sequence", .glo "require_piece", .glo "require_marker", .glo "require_items", .glo "require_row", .glo "flipped_piece", .glo "flipped_marker", .glo "flipped_item", .glo "flipped_items", .glo "marker_numbers", .glo "item_text", .glo "items_text", .glo "reading_text", .glo "require_reading", .glo "readings", .glo "require_strip", .glo "are_unique_names_crossings", .glo "require_pieces", .glo "require_order", .glo "require_flips", .glo "segment_block", .glo "merge_pieces", .glo "scramble", .glo "contains", .glo "end_before", .glo "end_after"]
def fa1 : List He.Fa := [.glo "marks_of", .glo "ends_at", .glo "link_ends", .glo "next_end", .glo "walk", .glo "oriented_piece", .glo "strand_row", .glo "ring_row", .glo "find_strands", .glo "find_rings", .glo "pieces_on", .glo "are_unique_names_joining", .glo "require_names", .glo "join_all", .glo "_law_cell", .glo "_law_box", .glo "_law_take", .glo "_law_names", .glo "_law_piece", .glo "_law_cut", .glo "_law_turned", .glo "_law_told_apart", .glo "_law_folded", .glo "_law_parts", .glo "_law_right", .glo "law", .glo "Strip", .cls "Strip", .mkr "Strip", .noat "Strip" "kept_row"]
def fa2 : List He.Fa := [.noat "Strip" "kept_places", .glo "Ring", .cls "Ring", .mkr "Ring", .noat "Ring" "kept_row", .glo "JoinedStrip", .cls "JoinedStrip", .mkr "JoinedStrip", .noat "JoinedStrip" "kept_strip", .noat "JoinedStrip" "kept_names", .noat "JoinedStrip" "kept_row", .noat "JoinedStrip" "kept_rings", .noat "JoinedStrip" "kept_paths", .noat "JoinedStrip" "owners", .meth "Strip" "row", .meth "Strip" "names", .meth "Strip" "require_name", .meth "Strip" "__len__", .meth "Ring" "row", .meth "Ring" "__len__", .meth "Ring" "__str__", .meth "JoinedStrip" "row", .meth "JoinedStrip" "rings", .free "len", .free "isinstance", .free "all", .free "any", .free "range", .free "enumerate", .free "zip"]
def fa3 : List He.Fa := [.free "sorted", .free "min", .free "max", .free "list", .free "tuple", .free "set", .free "dict", .free "int", .free "str", .free "bool", .int "MAX_NAME_LENGTH" 4, .int "MAX_NAMES" 12, .int "MAX_SEGMENTS" 13, .str "LOWER" "abcdefghijklmnopqrstuvwxyz", .str "UPPER" "ABCDEFGHIJKLMNOPQRSTUVWXYZ"]
def fa : List He.Fa := fa0 ++ fa1 ++ fa2 ++ fa3
def clsEx (K : PySem.W.Frag) (x : Str) : Bool := decide (PySem.W.findIn K (.ref (He.ga K x)) "__class__" = some (some (.builtin "object.__class__"))) && decide (PySem.W.mroIn K (He.ga K x) (.type "object") = some true)
/-- the classes among themselves, for isinstance -/
def exM (K : PySem.W.Frag) : Bool := (clsEx K "Strip" && clsEx K "Ring") && (decide (PySem.W.specialIn K (.builtin "object.__class__") "__get__" = some (some (.builtin "getset_descriptor.__get__"))) && decide (PySem.W.takesIn K (.builtin "object.__class__") = some true))
  && (decide (PySem.W.kitOne K (.ref (He.ga K "Strip")) (.ref (He.ga K "Ring")) = some false) && decide (PySem.W.kitOne K (.ref (He.ga K "Ring")) (.ref (He.ga K "Strip")) = some false))

def loose0 : List PySem.Str := ["_wall", "StripError", "Missing", "InvalidPiece", "InvalidMarker", "InvalidRow", "Unpaired", "TooMany", "InvalidStrip", "InvalidNames", "InvalidList", "UnknownName", "UnknownPart", "LOWER", "UPPER", "MAX_NAME_LENGTH", "is_integer", "is_name", "is_piece", "is_marker", "is_sequence", "require_piece", "require_marker", "require_items", "require_row", "flipped_piece", "flipped_marker", "flipped_item", "flipped_items", "marker_numbers"]
def loose1 : List PySem.Str := ["item_text", "items_text", "reading_text", "MAX_NAMES", "Strip", "require_reading", "readings", "Ring", "require_strip", "are_unique_names", "are_unique_names_crossings", "MAX_SEGMENTS", "require_pieces", "require_order", "require_flips", "segment_block", "merge_pieces", "scramble", "contains", "end_before", "end_after", "marks_of", "ends_at", "link_ends", "next_end", "walk", "oriented_piece", "strand_row", "ring_row", "find_strands"]
def loose2 : List PySem.Str := ["find_rings", "pieces_on", "are_unique_names_joining", "require_names", "JoinedStrip", "join_all", "_law_cell", "_law_box", "_law_take", "_law_names", "_law_piece", "_law_cut", "_law_about", "_law_turned", "_law_grown", "_law_told_apart", "_law_folded", "_law_parts", "_law_right"]
def loose : List PySem.Str := loose0 ++ loose1 ++ loose2
abbrev R : PySem.W.OpenRow := PySem.W.OpenLaw.row PySem.Challenge.rw_markersplice_k61_whole_scrambled_text_su
abbrev hk : PySem.W.Hook := hookM fa fn exM
def ob (s : PySem.W.SharedT) : AlM := obsM (HandSHeadRun.getT s) (seeM fa fn exM)
theorem ob_eq (s : PySem.W.SharedT) : ob s = hk.obs s.abs := obsM_g (HandSHeadRun.getT_eq s)
theorem run (w : World) : HandSHeadRun.RunEq R (PySem.W.view R.prog [89]) hk ob 20000 loose w := by
  intro os
  kernel_rfl
end MS
set_option maxHeartbeats 4000000
/-! A data layer over the hand layer: values as data, slots, readings upon them. -/
namespace DL
open PySem PySem.Spec PyProof.Rows L2

abbrev St := L2.St
/-! ### heaps -/
def Ex (H H' : Hp) : Prop := ∀ a o, H a = some o → H' a = some o
theorem Ex.refl (H : Hp) : Ex H H := fun _ _ h => h
theorem Ex.trans {H H1 H2 : Hp} (a : Ex H H1) (b : Ex H1 H2) : Ex H H2 := fun x o h => b x o (a x o h)
theorem Ex.new {H : Hp} {p : Addr} {o : HO} (h : H p = none) : Ex H (upd H p o) := fun a u e => by
  rw [upd_ne (ne_of_none e h)]
  exact e
theorem Ex.nn {H H' : Hp} (e : Ex H H') {p : Addr} (h : H' p = none) : H p = none := by
  cases q : H p with
  | none => rfl
  | some o =>
    rw [e p o q] at h
    cases h
theorem Ex.up {H H' : Hp} (e : Ex H H') {p : Addr} {o : HO} : Ex (upd H p o) (upd H' p o) := fun a u h => by
  by_cases q : a = p
  · subst q
    rw [upd_same] at h ⊢
    exact h
  · rw [upd_ne q] at h ⊢
    exact e a u h
/-- an object that H does not know may change -/
theorem Ex.mut {H H' : Hp} {p : Addr} {o : HO} (e : Ex H H') (h : H p = none) : Ex H (L2.upd H' p o) := fun a u ha => by
  rw [upd_ne (ne_of_none ha h)]
  exact e a u ha

/-- what is known grows with the heap, by new objects alone -/
structure Step (Hk H Hk2 H2 : Hp) : Prop where
  k : Ex Hk Hk2
  h : Ex H H2
  s : Ex Hk2 H2
  g : ∀ a, Hk a = none → H a ≠ none → Hk2 a = none
theorem Step.refl {Hk H : Hp} (e : Ex Hk H) : Step Hk H Hk H := ⟨Ex.refl _, Ex.refl _, e, fun _ h _ => h⟩
theorem Step.trans {Hk H Hk1 H1 Hk2 H2 : Hp} (a : Step Hk H Hk1 H1) (b : Step Hk1 H1 Hk2 H2) : Step Hk H Hk2 H2 :=
  ⟨a.k.trans b.k, a.h.trans b.h, b.s, fun x h1 h2 => b.g x (a.g x h1 h2) fun q => h2 (a.h.nn q)⟩
theorem Step.new {Hk H : Hp} (e : Ex Hk H) {p : Addr} {o : HO} (h : H p = none) : Step Hk H (upd Hk p o) (upd H p o) :=
  ⟨Ex.new (e.nn h), Ex.new h, e.up, fun a h1 h2 => by
    rw [upd_ne (fun q => h2 (by rw [q]; exact h))]
    exact h1⟩
/-- a new object that is not known -/
theorem Step.newH {Hk H : Hp} (e : Ex Hk H) {p : Addr} {o : HO} (h : H p = none) : Step Hk H Hk (upd H p o) :=
  ⟨Ex.refl _, Ex.new h, e.trans (Ex.new h), fun _ h1 _ => h1⟩

/-! ### data -/
inductive D where
  | any | non | bl (b : Bool) | int (i : Int) | str (s : Str)
  | tup (ds : List D) | lst (ds : List D)
  | ins (C : Addr) (ns : List Str) (ds : List D)
  | dK (ks : List Key) (ds : List D)
  | dT (ks : List (List Key)) (ds : List D)
  | scr (F : PySem.W.Frag) (is : List Int)
instance : Inhabited D := ⟨.non⟩

mutual
/-- the value is these data -/
def Is (H : Hp) : D → V → Prop
  | .any, _ => True
  | .non, v => v = .non
  | .bl b, v => v = .bl b
  | .int i, v => v = .int i
  | .str s, v => v = .str s
  | .tup ds, v => ∃ a xs, v = .ref a ∧ H a = some (.tup xs) ∧ IsL H ds xs
  | .lst ds, v => ∃ a xs, v = .ref a ∧ H a = some (.lst xs) ∧ IsL H ds xs
  | .ins C ns ds, v => ∃ a dx fs, v = .ref a ∧ H a = some (.ins C dx fs) ∧ fs.map (·.1) = ns ∧ IsL H ds (fs.map (·.2))
  | .dK ks ds, v => ∃ a kvs, v = .ref a ∧ H a = some (.dK kvs) ∧ kvs.map (·.1) = ks ∧ IsL H ds (kvs.map (·.2))
  | .dT ks ds, v => ∃ a kvs, v = .ref a ∧ H a = some (.dT kvs) ∧ kvs.map (·.1) = ks ∧ IsL H ds (kvs.map (·.2))
  | .scr F is, v => ∃ a, v = .ref a ∧ SqL F H a (is.map V.int)
def IsL (H : Hp) : List D → List V → Prop
  | [], xs => xs = []
  | d :: ds, xs => ∃ x r, xs = x :: r ∧ Is H d x ∧ IsL H ds r
end
section
variable {H H' : Hp}
mutual
theorem Is.mono (e : Ex H H') : ∀ {d : D} {v : V}, Is H d v → Is H' d v
  | .any, _, _ => trivial
  | .non, _, h => h
  | .bl _, _, h => h
  | .int _, _, h => h
  | .str _, _, h => h
  | .tup _, _, h => by
    obtain ⟨a, xs, h1, h2, h3⟩ := h
    exact ⟨a, xs, h1, e _ _ h2, IsL.mono e h3⟩
  | .lst _, _, h => by
    obtain ⟨a, xs, h1, h2, h3⟩ := h
    exact ⟨a, xs, h1, e _ _ h2, IsL.mono e h3⟩
  | .ins _ _ _, _, h => by
    obtain ⟨a, dx, fs, h1, h2, h3, h4⟩ := h
    exact ⟨a, dx, fs, h1, e _ _ h2, h3, IsL.mono e h4⟩
  | .dK _ _, _, h => by
    obtain ⟨a, kvs, h1, h2, h3, h4⟩ := h
    exact ⟨a, kvs, h1, e _ _ h2, h3, IsL.mono e h4⟩
  | .dT _ _, _, h => by
    obtain ⟨a, kvs, h1, h2, h3, h4⟩ := h
    exact ⟨a, kvs, h1, e _ _ h2, h3, IsL.mono e h4⟩
  | .scr _ _, _, h => by
    obtain ⟨a, h1, h2⟩ := h
    refine ⟨a, h1, ?_⟩
    rcases h2 with (h2 | ⟨o, h2⟩) | h2
    · exact .inl (.inl (e _ _ h2))
    · exact .inl (.inr ⟨o, e _ _ h2⟩)
    · exact .inr h2
theorem IsL.mono (e : Ex H H') : ∀ {ds : List D} {vs : List V}, IsL H ds vs → IsL H' ds vs
  | [], _, h => h
  | _ :: _, _, h => by
    obtain ⟨x, r, h1, h2, h3⟩ := h
    exact ⟨x, r, h1, Is.mono e h2, IsL.mono e h3⟩
end
theorem IsL.nil : IsL H [] [] := rfl
theorem IsL.cons {d : D} {ds : List D} {v : V} {vs : List V} (h : Is H d v) (r : IsL H ds vs) : IsL H (d :: ds) (v :: vs) := ⟨v, vs, rfl, h, r⟩
theorem IsL.len : ∀ {ds : List D} {vs : List V}, IsL H ds vs → vs.length = ds.length
  | [], _, h => by
    have e : _ = [] := h
    rw [e]
    rfl
  | _ :: _, _, ⟨x, r, h1, _, h3⟩ => by
    rw [h1, List.length_cons, List.length_cons, IsL.len h3]
theorem IsL.get : ∀ {ds : List D} {vs : List V} {i : Nat} {d : D}, IsL H ds vs → ds[i]? = some d → ∃ v, vs[i]? = some v ∧ Is H d v
  | [], _, _, _, _, e => by simp at e
  | _ :: _, _, 0, _, ⟨x, r, h1, h2, _⟩, e => by
    simp at e
    subst e
    exact ⟨x, by rw [h1]; rfl, h2⟩
  | _ :: _, _, i + 1, _, ⟨x, r, h1, _, h3⟩, e => by
    obtain ⟨v, q1, q2⟩ := IsL.get (i := i) h3 (by simpa using e)
    exact ⟨v, by rw [h1]; simpa using q1, q2⟩
theorem IsL.getV : ∀ {ds : List D} {vs : List V} {i : Nat} {v : V}, IsL H ds vs → vs[i]? = some v → ∃ d, ds[i]? = some d ∧ Is H d v
  | [], _, _, _, h, e => by
    have q : _ = [] := h
    rw [q] at e
    simp at e
  | d :: _, _, 0, _, ⟨x, r, h1, h2, _⟩, e => by
    rw [h1] at e
    simp at e
    subst e
    exact ⟨d, rfl, h2⟩
  | _ :: _, _, i + 1, _, ⟨x, r, h1, _, h3⟩, e => by
    rw [h1] at e
    obtain ⟨d, q1, q2⟩ := IsL.getV (i := i) h3 (by simpa using e)
    exact ⟨d, by simpa using q1, q2⟩
theorem IsL.append : ∀ {ds es : List D} {vs ws : List V}, IsL H ds vs → IsL H es ws → IsL H (ds ++ es) (vs ++ ws)
  | [], _, _, _, h, g => by
    have q : _ = [] := h
    rw [q]
    exact g
  | _ :: _, _, _, _, ⟨x, r, h1, h2, h3⟩, g => by
    rw [h1]
    exact ⟨x, _, rfl, h2, IsL.append h3 g⟩
theorem IsL.set : ∀ {ds : List D} {vs : List V} {d : D} {v : V} (i : Nat), IsL H ds vs → Is H d v → IsL H (ds.set i d) (vs.set i v)
  | [], _, _, _, _, h, _ => by
    have q : _ = [] := h
    rw [q]
    rfl
  | _ :: _, _, _, _, 0, ⟨x, r, h1, h2, h3⟩, g => by
    rw [h1]
    exact ⟨_, _, rfl, g, h3⟩
  | _ :: _, _, _, _, i + 1, ⟨x, r, h1, h2, h3⟩, g => by
    rw [h1]
    exact ⟨_, _, rfl, h2, IsL.set i h3 g⟩
theorem IsL.take : ∀ {ds : List D} {vs : List V} (n : Nat), IsL H ds vs → IsL H (ds.take n) (vs.take n)
  | _, _, 0, _ => rfl
  | [], _, _ + 1, h => by
    have q : _ = [] := h
    rw [q]
    rfl
  | _ :: _, _, n + 1, ⟨x, r, h1, h2, h3⟩ => by
    rw [h1]
    exact ⟨_, _, rfl, h2, IsL.take n h3⟩
theorem IsL.drop : ∀ {ds : List D} {vs : List V} (n : Nat), IsL H ds vs → IsL H (ds.drop n) (vs.drop n)
  | _, _, 0, h => h
  | [], _, _ + 1, h => by
    have q : _ = [] := h
    rw [q]
    rfl
  | _ :: _, _, n + 1, ⟨x, r, h1, h2, h3⟩ => by
    rw [h1]
    exact IsL.drop n h3
theorem IsL.reverse {ds : List D} {vs : List V} (h : IsL H ds vs) : IsL H ds.reverse vs.reverse := by
  induction ds generalizing vs with
  | nil =>
    have q : vs = [] := h
    rw [q]
    rfl
  | cons d ds ih =>
    obtain ⟨x, r, h1, h2, h3⟩ := h
    rw [h1, List.reverse_cons, List.reverse_cons]
    exact (ih h3).append (.cons h2 .nil)
theorem IsL.dropLast {ds : List D} {vs : List V} (h : IsL H ds vs) : IsL H ds.dropLast vs.dropLast := by
  rw [List.dropLast_eq_take, List.dropLast_eq_take, h.len]
  exact h.take _
theorem IsL.eraseIdx {ds : List D} {vs : List V} (k : Nat) (h : IsL H ds vs) : IsL H (ds.eraseIdx k) (vs.eraseIdx k) := by
  rw [List.eraseIdx_eq_take_drop_succ, List.eraseIdx_eq_take_drop_succ]
  exact (h.take _).append (h.drop _)
theorem IsL.ofFn {ds : List D} {vs : List V} (hl : vs.length = ds.length) (h : ∀ (i : Nat) d v, ds[i]? = some d → vs[i]? = some v → Is H d v) : IsL H ds vs := by
  induction ds generalizing vs with
  | nil =>
    cases vs with
    | nil => rfl
    | cons _ _ => cases hl
  | cons d ds ih =>
    cases vs with
    | nil => cases hl
    | cons v vs => exact .cons (h 0 d v rfl rfl) (ih (by simpa using hl) fun i a b q1 q2 => h (i + 1) a b (by simpa using q1) (by simpa using q2))
theorem IsL.strs : ∀ {zs : List Str} {vs : List V}, IsL H (zs.map D.str) vs → vs = zs.map V.str
  | [], _, h => h
  | z :: zs, _, ⟨x, r, h1, h2, h3⟩ => by
    have e : x = .str z := h2
    rw [h1, e, IsL.strs h3]
    rfl
theorem IsL.ofStrs : ∀ {zs : List Str}, IsL H (zs.map D.str) (zs.map V.str)
  | [] => rfl
  | z :: zs => ⟨_, _, rfl, rfl, IsL.ofStrs⟩
theorem IsL.ints : ∀ {zs : List Int} {vs : List V}, IsL H (zs.map D.int) vs → vs = zs.map V.int
  | [], _, h => h
  | z :: zs, _, ⟨x, r, h1, h2, h3⟩ => by
    have e : x = .int z := h2
    rw [h1, e, IsL.ints h3]
    rfl
theorem IsL.ofInts : ∀ {zs : List Int}, IsL H (zs.map D.int) (zs.map V.int)
  | [] => rfl
  | z :: zs => ⟨_, _, rfl, rfl, IsL.ofInts⟩
theorem IsL.bls : ∀ {zs : List Bool} {vs : List V}, IsL H (zs.map D.bl) vs → vs = zs.map V.bl
  | [], _, h => h
  | z :: zs, _, ⟨x, r, h1, h2, h3⟩ => by
    have e : x = .bl z := h2
    rw [h1, e, IsL.bls h3]
    rfl
end

/-! ### slots -/
/-- an object that is the def's own: nothing else names it -/
inductive OD where
  | lst (ds : List D)
  | dT (ks : List (List Key)) (ds : List D)
  | ins (C : Addr) (ns : List Str) (ds : List D)
def OwnAt (Hk H : Hp) : OD → Addr → Prop
  | .lst ds, l => ∃ xs, H l = some (.lst xs) ∧ IsL Hk ds xs
  | .dT ks ds, l => ∃ kvs, H l = some (.dT kvs) ∧ kvs.map (·.1) = ks ∧ IsL Hk ds (kvs.map (·.2))
  | .ins C ns ds, l => ∃ dx fs, H l = some (.ins C dx fs) ∧ fs.map (·.1) = ns ∧ IsL Hk ds (fs.map (·.2))
theorem OwnAt.there {Hk H : Hp} {o : OD} {l : Addr} (h : OwnAt Hk H o l) : H l ≠ none := by
  cases o with
  | lst ds =>
    obtain ⟨xs, e, _⟩ := h
    rw [e]
    exact fun z => nomatch z
  | dT ks ds =>
    obtain ⟨xs, e, _⟩ := h
    rw [e]
    exact fun z => nomatch z
  | ins C ns ds =>
    obtain ⟨dx, xs, e, _⟩ := h
    rw [e]
    exact fun z => nomatch z
theorem OwnAt.mono {Hk H Hk2 H2 : Hp} {o : OD} {l : Addr} (ek : Ex Hk Hk2) (e : ∀ u, H l = some u → H2 l = some u) (h : OwnAt Hk H o l) : OwnAt Hk2 H2 o l := by
  cases o with
  | lst ds =>
    obtain ⟨xs, q, r⟩ := h
    exact ⟨xs, e _ q, r.mono ek⟩
  | dT ks ds =>
    obtain ⟨xs, q, r1, r⟩ := h
    exact ⟨xs, e _ q, r1, r.mono ek⟩
  | ins C ns ds =>
    obtain ⟨dx, xs, q, r1, r⟩ := h
    exact ⟨dx, xs, e _ q, r1, r.mono ek⟩
def OD.d : OD → D
  | .lst ds => .lst ds
  | .dT ks ds => .dT ks ds
  | .ins C ns ds => .ins C ns ds
inductive Slot where
  | un
  | val (d : D)
  | own (o : OD)
abbrev G := List Slot

/-- the entry; pin: the object that slot 0 is to keep naming -/
structure En where
  (fst snd : Hp)
  pin : Option Addr
def En.nr (E : En) (k h : Hp) : En := ⟨k, h, E.pin⟩
/-- the slots stand so. E: what was known at the entry, the entry's heap (without what is the def's own); Hk: what is known; H: the heap -/
structure Rp (E : En) (Γ : G) (Hk H : Hp) (σ : St) : Prop where
  step : Step E.1 E.2 Hk H
  len : σ.length = Γ.length
  val : ∀ (i : Nat) d, Γ[i]? = some (.val d) → ∃ x, σ[i]? = some (some x) ∧ Is Hk d x
  own : ∀ (i : Nat) o, Γ[i]? = some (.own o) → ∃ l, σ[i]? = some (some (.ref l)) ∧ Hk l = none ∧ E.2 l = none ∧ OwnAt Hk H o l
  sep : ∀ (i j : Nat) o o' l, Γ[i]? = some (.own o) → Γ[j]? = some (.own o') → σ[i]? = some (some (.ref l)) → σ[j]? = some (some (.ref l)) → i = j
  pin : ∀ l, E.pin = some l → (∃ o, Γ[0]? = some (.own o)) → σ[0]? = some (some (.ref l))
section
variable {E : En} {Γ : G} {Hk H Hk2 H2 : Hp} {σ : St}
theorem Rp.grow (r : Rp E Γ Hk H σ) (s : Step Hk H Hk2 H2) : Rp E Γ Hk2 H2 σ :=
  ⟨r.step.trans s, r.len, fun i d h => by
    obtain ⟨x, h1, h2⟩ := r.val i d h
    exact ⟨x, h1, h2.mono s.k⟩, fun i o h => by
    obtain ⟨l, h1, h2, h3, h4⟩ := r.own i o h
    exact ⟨l, h1, s.g l h2 h4.there, h3, h4.mono s.k fun u q => s.h _ _ q⟩, r.sep, r.pin⟩
theorem get_set {α : Type} {l : List α} {i j : Nat} {a b : α} (h : (l.set i a)[j]? = some b) : (i = j ∧ b = a) ∨ (i ≠ j ∧ l[j]? = some b) := by
  by_cases e : i = j
  · subst e
    rw [List.getElem?_set] at h
    simp at h
    exact .inl ⟨rfl, h.2.symm⟩
  · rw [List.getElem?_set_ne e] at h
    exact .inr ⟨e, h⟩
/-- a name is given data -/
theorem Rp.set (r : Rp E Γ Hk H σ) {d : D} {x : V} (i : Nat) (h : Is Hk d x) : Rp E (Γ.set i (.val d)) Hk H (σ.set i (some x)) := by
  refine ⟨r.step, by rw [List.length_set, List.length_set, r.len], fun j e q => ?_, fun j o q => ?_, fun j k o o' l q1 q2 q3 q4 => ?_, fun l p ⟨o, q⟩ => by
    rcases get_set q with ⟨_, e2⟩ | ⟨e1, e2⟩
    · cases e2
    · rw [List.getElem?_set_ne e1]
      exact r.pin l p ⟨o, e2⟩⟩
  · rcases get_set q with ⟨e1, e2⟩ | ⟨e1, e2⟩
    · subst e1
      cases e2
      have hj : i < Γ.length := by
        have z := (List.getElem?_eq_some_iff.mp q).1
        simpa using z
      exact ⟨x, by rw [List.getElem?_set_self (by rw [r.len]; exact hj)], h⟩
    · obtain ⟨y, h1, h2⟩ := r.val j e e2
      exact ⟨y, by rw [List.getElem?_set_ne e1]; exact h1, h2⟩
  · rcases get_set q with ⟨_, e2⟩ | ⟨e1, e2⟩
    · cases e2
    · obtain ⟨l, h1, h2⟩ := r.own j o e2
      exact ⟨l, by rw [List.getElem?_set_ne e1]; exact h1, h2⟩
  · rcases get_set q1 with ⟨_, e2⟩ | ⟨e1, e2⟩
    · cases e2
    · rcases get_set q2 with ⟨_, f2⟩ | ⟨f1, f2⟩
      · cases f2
      · rw [List.getElem?_set_ne e1] at q3
        rw [List.getElem?_set_ne f1] at q4
        exact r.sep j k o o' l e2 f2 q3 q4
/-- a name is given an object that is new -/
theorem Rp.setOwn (r : Rp E Γ Hk H σ) {o : OD} {l : Addr} (i : Nat) (i0 : i ≠ 0) (h : OwnAt Hk H o l) (hk : Hk l = none) (h0 : E.2 l = none) (ap : ∀ (j : Nat) o', Γ[j]? = some (.own o') → σ[j]? ≠ some (some (.ref l))) :
    Rp E (Γ.set i (.own o)) Hk H (σ.set i (some (.ref l))) := by
  refine ⟨r.step, by rw [List.length_set, List.length_set, r.len], fun j e q => ?_, fun j o' q => ?_, fun j k o1 o2 m q1 q2 q3 q4 => ?_, fun l p ⟨o, q⟩ => by
    rcases get_set q with ⟨e1, _⟩ | ⟨e1, e2⟩
    · exact absurd e1 i0
    · rw [List.getElem?_set_ne e1]
      exact r.pin l p ⟨o, e2⟩⟩
  · rcases get_set q with ⟨_, e2⟩ | ⟨e1, e2⟩
    · cases e2
    · obtain ⟨y, h1, h2⟩ := r.val j e e2
      exact ⟨y, by rw [List.getElem?_set_ne e1]; exact h1, h2⟩
  · rcases get_set q with ⟨e1, e2⟩ | ⟨e1, e2⟩
    · subst e1
      cases e2
      have hj : i < Γ.length := by
        have z := (List.getElem?_eq_some_iff.mp q).1
        simpa using z
      exact ⟨l, by rw [List.getElem?_set_self (by rw [r.len]; exact hj)], hk, h0, h⟩
    · obtain ⟨m, h1, h2⟩ := r.own j o' e2
      exact ⟨m, by rw [List.getElem?_set_ne e1]; exact h1, h2⟩
  · rcases get_set q1 with ⟨e1, e2⟩ | ⟨e1, e2⟩
    · rcases get_set q2 with ⟨f1, f2⟩ | ⟨f1, f2⟩
      · exact e1.symm.trans f1
      · exfalso
        subst e1
        rw [List.getElem?_set_ne f1] at q4
        have hj : i < Γ.length := by
          have z := (List.getElem?_eq_some_iff.mp q1).1
          simpa using z
        rw [List.getElem?_set_self (by rw [r.len]; exact hj)] at q3
        cases q3
        exact ap k o2 f2 q4
    · rcases get_set q2 with ⟨f1, f2⟩ | ⟨f1, f2⟩
      · exfalso
        subst f1
        rw [List.getElem?_set_ne e1] at q3
        have hj : i < Γ.length := by
          have z := (List.getElem?_eq_some_iff.mp q2).1
          simpa using z
        rw [List.getElem?_set_self (by rw [r.len]; exact hj)] at q4
        cases q4
        exact ap j o1 e2 q3
      · rw [List.getElem?_set_ne e1] at q3
        rw [List.getElem?_set_ne f1] at q4
        exact r.sep j k o1 o2 m e2 f2 q3 q4
/-- the own object of a name changes -/
theorem Rp.mut (r : Rp E Γ Hk H σ) {o o2 : OD} {u : HO} {l : Addr} {i : Nat} (hi : Γ[i]? = some (.own o)) (hl : σ[i]? = some (some (.ref l))) (h : OwnAt Hk (upd H l u) o2 l) : Rp E (Γ.set i (.own o2)) Hk (upd H l u) σ := by
  obtain ⟨l', h1, hk, h0, _⟩ := r.own i o hi
  rw [hl] at h1
  cases h1
  refine ⟨⟨r.step.k, r.step.h.mut h0, r.step.s.mut hk, r.step.g⟩, by rw [List.length_set, r.len], fun j e q => ?_, fun j o' q => ?_, fun j k p1 p2 m q1 q2 q3 q4 => ?_, fun l p ⟨o', q⟩ => by
    rcases get_set q with ⟨e1, _⟩ | ⟨e1, e2⟩
    · subst e1
      exact r.pin l p ⟨o, hi⟩
    · exact r.pin l p ⟨o', e2⟩⟩
  · rcases get_set q with ⟨_, e2⟩ | ⟨e1, e2⟩
    · cases e2
    · exact r.val j e e2
  · rcases get_set q with ⟨e1, e2⟩ | ⟨e1, e2⟩
    · subst e1
      cases e2
      exact ⟨l, hl, hk, h0, h⟩
    · obtain ⟨m, h1, h2, h3, h4⟩ := r.own j o' e2
      refine ⟨m, h1, h2, h3, h4.mono (Ex.refl _) fun z q => ?_⟩
      rw [upd_ne]
      · exact q
      · intro z
        subst z
        exact e1 (r.sep i j o o' _ hi e2 hl h1)
  · have w : ∀ {a : Nat} {b}, (Γ.set i (.own o2))[a]? = some (.own b) → ∃ c, Γ[a]? = some (.own c) := fun {a b} z => by
      rcases get_set z with ⟨e1, _⟩ | ⟨_, e2⟩
      · exact ⟨o, e1 ▸ hi⟩
      · exact ⟨b, e2⟩
    obtain ⟨c1, w1⟩ := w q1
    obtain ⟨c2, w2⟩ := w q2
    exact r.sep j k c1 c2 m w1 w2 q3 q4
/-- an own object is handed on: from here on it is data -/
theorem Rp.frz (r : Rp E Γ Hk H σ) {o : OD} {i : Nat} (hi : Γ[i]? = some (.own o)) : ∃ Hk2, Ex Hk Hk2 ∧ Rp E (Γ.set i (.val o.d)) Hk2 H σ ∧ ∃ l, σ[i]? = some (some (.ref l)) ∧ Is Hk2 o.d (.ref l) := by
  obtain ⟨l, h1, hk, h0, h⟩ := r.own i o hi
  obtain ⟨u, hu⟩ : ∃ u, H l = some u := by
    cases q : H l with
    | none => exact absurd q h.there
    | some u => exact ⟨u, rfl⟩
  have ek : Ex Hk (upd Hk l u) := Ex.new hk
  have es : Ex (upd Hk l u) H := fun a v q => by
    by_cases e : a = l
    · subst e
      rw [upd_same] at q
      rw [hu]
      exact q
    · rw [upd_ne e] at q
      exact r.step.s a v q
  have isd : Is (upd Hk l u) o.d (.ref l) := by
    cases o with
    | lst ds =>
      obtain ⟨xs, q1, q2⟩ := h
      rw [hu] at q1
      cases q1
      exact ⟨l, xs, rfl, upd_same, q2.mono ek⟩
    | dT ks ds =>
      obtain ⟨xs, q1, q2, q3⟩ := h
      rw [hu] at q1
      cases q1
      exact ⟨l, xs, rfl, upd_same, q2, q3.mono ek⟩
    | ins C ns ds =>
      obtain ⟨dx, xs, q1, q2, q3⟩ := h
      rw [hu] at q1
      cases q1
      exact ⟨l, dx, xs, rfl, upd_same, q2, q3.mono ek⟩
  refine ⟨upd Hk l u, ek, ⟨⟨r.step.k.trans ek, r.step.h, es, fun a q1 q2 => ?_⟩, by rw [List.length_set, r.len], fun j e q => ?_, fun j o' q => ?_, fun j k o1 o2 m q1 q2 q3 q4 => ?_, fun l p ⟨o', q⟩ => by
    rcases get_set q with ⟨_, e2⟩ | ⟨e1, e2⟩
    · cases e2
    · exact r.pin l p ⟨o', e2⟩⟩, l, h1, isd⟩
  · rw [upd_ne (fun z => q2 (by rw [z]; exact h0))]
    exact r.step.g a q1 q2
  · rcases get_set q with ⟨e1, e2⟩ | ⟨e1, e2⟩
    · subst e1
      cases e2
      exact ⟨_, h1, isd⟩
    · obtain ⟨x, g1, g2⟩ := r.val j e e2
      exact ⟨x, g1, g2.mono ek⟩
  · rcases get_set q with ⟨e1, e2⟩ | ⟨e1, e2⟩
    · cases e2
    · obtain ⟨m, g1, g2, g3, g4⟩ := r.own j o' e2
      refine ⟨m, g1, ?_, g3, g4.mono ek fun _ z => z⟩
      rw [upd_ne]
      · exact g2
      · intro z
        subst z
        exact e1 (r.sep i j o o' _ hi e2 h1 g1)
  · rcases get_set q1 with ⟨_, e2⟩ | ⟨e1, e2⟩
    · cases e2
    · rcases get_set q2 with ⟨_, f2⟩ | ⟨f1, f2⟩
      · cases f2
      · exact r.sep j k o1 o2 m e2 f2 q3 q4
/-- slots forgotten -/
theorem Rp.weak (r : Rp E Γ Hk H σ) {Γ' : G} (hl : Γ'.length = Γ.length) (h : ∀ (i : Nat) s, Γ'[i]? = some s → s ≠ .un → Γ[i]? = some s) : Rp E Γ' Hk H σ :=
  ⟨r.step, by rw [hl, r.len], fun i d q => r.val i d (h i _ q fun z => nomatch z), fun i o q => r.own i o (h i _ q fun z => nomatch z),
    fun i j o o' l q1 q2 => r.sep i j o o' l (h i _ q1 fun z => nomatch z) (h j _ q2 fun z => nomatch z), fun l p ⟨o, q⟩ => r.pin l p ⟨o, h 0 _ q fun z => nomatch z⟩⟩
theorem Rp.start {Hk H : Hp} (e : Ex Hk H) {ds : List D} {vs : List V} (h : IsL Hk ds vs) (n : Nat) : Rp ⟨Hk, H, none⟩ (ds.map Slot.val ++ List.replicate n .un) Hk H (vs.map some ++ List.replicate n none) := by
  have up : ∀ (i : Nat) s, (ds.map Slot.val ++ List.replicate n .un)[i]? = some s → s ≠ .un → ∃ d, s = .val d ∧ ds[i]? = some d := fun i s q ne => by
    by_cases hi : i < ds.length
    · rw [List.getElem?_append_left (by simpa using hi), List.getElem?_map] at q
      cases z : ds[i]? with
      | none =>
        rw [z] at q
        cases q
      | some d =>
        rw [z] at q
        cases q
        exact ⟨d, rfl, rfl⟩
    · rw [List.getElem?_append_right (by simpa using hi), List.getElem?_replicate] at q
      split at q
      · cases q
        exact absurd rfl ne
      · cases q
  refine ⟨Step.refl e, by simp [h.len], fun i d q => ?_, fun i o q => ?_, fun i j o o' l q1 _ _ _ => ?_, fun l p => nomatch p⟩
  · obtain ⟨d', e1, e2⟩ := up i _ q fun z => nomatch z
    cases e1
    obtain ⟨v, g1, g2⟩ := h.get e2
    have hi : i < vs.length := (List.getElem?_eq_some_iff.mp g1).1
    exact ⟨v, by rw [List.getElem?_append_left (by simpa using hi), List.getElem?_map, g1] <;> rfl, g2⟩
  · obtain ⟨_, e1, _⟩ := up i _ q fun z => nomatch z
    cases e1
  · obtain ⟨_, e1, _⟩ := up i _ q1 fun z => nomatch z
    cases e1
/-- another entry: all that stands but what is own -/
noncomputable def lessOwn (Γ : G) (σ : St) (H : Hp) : Hp := fun a => open Classical in if ∃ (i : Nat) (o : OD), Γ[i]? = some (.own o) ∧ σ[i]? = some (some (.ref a)) then none else H a
theorem lessOwn_ex {Γ : G} {σ : St} {H : Hp} : Ex (lessOwn Γ σ H) H := fun a o h => by
  unfold lessOwn at h
  split at h
  · cases h
  · exact h
theorem lessOwn_own {Γ : G} {σ : St} {H : Hp} {i : Nat} {o : OD} {l : Addr} (h1 : Γ[i]? = some (.own o)) (h2 : σ[i]? = some (some (.ref l))) : lessOwn Γ σ H l = none := by
  unfold lessOwn
  rw [if_pos ⟨i, o, h1, h2⟩]
theorem lessOwn_out {Γ : G} {σ : St} {H : Hp} {a : Addr} (h : ∀ (i : Nat) o, Γ[i]? = some (.own o) → σ[i]? ≠ some (some (.ref a))) : lessOwn Γ σ H a = H a := by
  unfold lessOwn
  rw [if_neg]
  rintro ⟨i, o, h1, h2⟩
  exact h i o h1 h2
theorem Rp.near (r : Rp E Γ Hk H σ) : Rp (E.nr Hk (lessOwn Γ σ H)) Γ Hk H σ :=
  ⟨⟨Ex.refl _, lessOwn_ex, r.step.s, fun _ h _ => h⟩, r.len, r.val, fun i o q => by
    obtain ⟨l, h1, h2, _, h4⟩ := r.own i o q
    exact ⟨l, h1, h2, lessOwn_own q h1, h4⟩, r.sep, r.pin⟩
/-- .. and back -/
theorem Rp.far {Γ' : G} {σ' : St} (r : Rp E Γ Hk H σ) (q : Rp (E.nr Hk (lessOwn Γ σ H)) Γ' Hk2 H2 σ') : Rp E Γ' Hk2 H2 σ' := by
  have key : ∀ a, E.2 a ≠ none → lessOwn Γ σ H a = H a ∧ H a ≠ none := fun a h => by
    refine ⟨lessOwn_out fun i o h1 h2 => ?_, fun z => h (r.step.h.nn z)⟩
    obtain ⟨l, g1, _, g3, _⟩ := r.own i o h1
    rw [h2] at g1
    cases g1
    exact h g3
  refine ⟨⟨r.step.k.trans q.step.k, fun a o h => ?_, q.step.s, fun a h1 h2 => ?_⟩, q.len, q.val, fun i o h => ?_, q.sep, q.pin⟩
  · have k := key a (by rw [h]; exact fun z => nomatch z)
    exact q.step.h a o (k.1.trans (r.step.h a o h))
  · have k := key a h2
    exact q.step.g a (r.step.g a h1 h2) (by rw [show (E.nr Hk (lessOwn Γ σ H)).2 a = H a from k.1]; exact k.2)
  · obtain ⟨l, h1, h2, h3, h4⟩ := q.own i o h
    refine ⟨l, h1, h2, ?_, h4⟩
    cases z : E.2 l with
    | none => rfl
    | some u =>
      have k := key l (by rw [z]; exact fun z => nomatch z)
      exact absurd (k.1.symm.trans h3) k.2
end
end DL
set_option maxHeartbeats 4000000
/-! readings upon data: expressions -/
namespace DL
open PySem PySem.Spec PyProof.Rows L2

/-! ### the best reading -/
def WE (X : Cx) (e : Expr) : TE := fun σ H Q => ∃ t, PE X e t ∧ t σ H Q
def WT (X : Cx) (e : Expr) : TT := fun σ H Q => ∃ t, PT X e t ∧ t σ H Q
def WA (X : Cx) (es : List Expr) : TA := fun σ H Q => ∃ t, PA X es t ∧ t σ H Q
def WSs (X : Cx) (sts : List Stmt) : TS := fun D σ H => ∃ t, PSs X sts t ∧ t D σ H
def WS1 (X : Cx) (st : Stmt) : TS := fun D σ H => ∃ t, PS X st t ∧ t D σ H
def WG (X : Cx) (tg : Expr) : TG := fun v σ H Q => ∃ t, PG X tg t ∧ t v σ H Q
section
variable {X : Cx}
theorem pe_w {e : Expr} : PE X e (WE X e) := ⟨fun pins s σ H Q I ⟨t, p, h⟩ => p.run pins s σ H Q I h⟩
theorem pt_w {e : Expr} : PT X e (WT X e) := ⟨fun pins s σ H Q I ⟨t, p, h⟩ => p.run pins s σ H Q I h⟩
theorem pa_w {es : List Expr} : PA X es (WA X es) := ⟨fun pos pins s σ H Q I ⟨t, p, h⟩ => p.run pos pins s σ H Q I h⟩
theorem pss_w {sts : List Stmt} : PSs X sts (WSs X sts) := ⟨fun pins s σ H D I ⟨t, p, h⟩ => p.run pins s σ H D I h⟩
theorem ps_w {st : Stmt} : PS X st (WS1 X st) := ⟨fun pins s σ H D I ⟨t, p, h⟩ => p.run pins s σ H D I h⟩
theorem pg_w {tg : Expr} : PG X tg (WG X tg) := ⟨fun pins s σ H v u Q I r ⟨t, p, h⟩ => p.run pins s σ H v u Q I r h⟩
end

/-! ### the judgements -/
abbrev TD := G → (D → G → Prop) → Prop
abbrev TDB := G → (Bool → G → Prop) → Prop
abbrev TDA := G → (List D → G → Prop) → Prop
abbrev TDG := D → G → (G → Prop) → Prop
structure DEnds where
  nx : G → Prop
  rt : D → G → Prop
  bk : G → Prop := fun _ => False
  ct : G → Prop := fun _ => False
abbrev TDS := DEnds → G → Prop

structure PD (X : Cx) (e : Expr) (t : TD) : Prop where
  run : ∀ Γ R, t Γ R → ∀ E Hk H σ, Rp E Γ Hk H σ → ∀ Q : VK, (∀ v d Γ' Hk2 H2, R d Γ' → Rp E Γ' Hk2 H2 σ → Ex Hk Hk2 → Is Hk2 d v → Q v H2) → WE X e σ H Q
structure PDT (X : Cx) (e : Expr) (t : TDB) : Prop where
  run : ∀ Γ R, t Γ R → ∀ E Hk H σ, Rp E Γ Hk H σ → ∀ Q : Bool → Hp → Prop, (∀ b Γ' Hk2 H2, R b Γ' → Rp E Γ' Hk2 H2 σ → Ex Hk Hk2 → Q b H2) → WT X e σ H Q
structure PDA (X : Cx) (es : List Expr) (t : TDA) : Prop where
  run : ∀ Γ R, t Γ R → ∀ E Hk H σ, Rp E Γ Hk H σ → ∀ Q : List V → Hp → Prop, (∀ vs ds Γ' Hk2 H2, R ds Γ' → Rp E Γ' Hk2 H2 σ → Ex Hk Hk2 → IsL Hk2 ds vs → Q vs H2) → WA X es σ H Q
structure PDG (X : Cx) (tg : Expr) (t : TDG) : Prop where
  run : ∀ d Γ R, t d Γ R → ∀ E Hk H σ v, Rp E Γ Hk H σ → Is Hk d v → ∀ Q : St → Hp → Prop, (∀ Γ' Hk2 H2 σ2, R Γ' → Rp E Γ' Hk2 H2 σ2 → Q σ2 H2) → WG X tg v σ H Q
/-- the ends of a statement, met -/
structure Met (E : En) (D : DEnds) (F : Ends) : Prop where
  nx : ∀ Γ Hk H σ, D.nx Γ → Rp E Γ Hk H σ → F.nx σ H
  rt : ∀ v d Γ Hk H σ, D.rt d Γ → Rp E Γ Hk H σ → Is Hk d v → F.rt v H
  bk : ∀ Γ Hk H σ, D.bk Γ → Rp E Γ Hk H σ → F.bk σ H
  ct : ∀ Γ Hk H σ, D.ct Γ → Rp E Γ Hk H σ → F.ct σ H
structure PDS1 (X : Cx) (st : Stmt) (t : TDS) : Prop where
  run : ∀ D Γ, t D Γ → ∀ E Hk H σ, Rp E Γ Hk H σ → ∀ F : Ends, Met E D F → WS1 X st F σ H
structure PDS (X : Cx) (sts : List Stmt) (t : TDS) : Prop where
  run : ∀ D Γ, t D Γ → ∀ E Hk H σ, Rp E Γ Hk H σ → ∀ F : Ends, Met E D F → WSs X sts F σ H

section
variable {X : Cx} {pos : Pos}
/-! ### names, constants -/
def dVar (i : Nat) : TD := fun Γ R => match Γ[i]? with
  | some (.val d) => R d Γ
  | _ => False
def dC (d : D) : TD := fun Γ R => R d Γ
theorem pd_var (i : Nat) {x : Str} (hN : X.N[i]? = some x := by rfl) (hv : Vis X.env.scope x := by first | exact Or.inl rfl | exact Or.inr (Or.inl rfl) | exact Or.inr (Or.inr rfl))
    (hd : (x == ("__debug__" : Str)) = false := by decide) (hcd : (x == ("__classdict__" : Str)) = false := by decide) : PD X (.Name x pos) (dVar i) := by
  refine ⟨fun Γ R h E Hk H σ r Q q => ?_⟩
  unfold dVar at h
  split at h
  · rename_i d e
    obtain ⟨x, h1, h2⟩ := r.val i d e
    exact ⟨_, pe_var hN hv hd hcd, x, h1, q x d Γ Hk H h r (Ex.refl _) h2⟩
  · exact h.elim
theorem pd_scal {e : Expr} {v : V} {d : D} (h : PE X e (tC v)) (hd : ∀ H, Is H d v) : PD X e (dC d) := ⟨fun Γ R k E Hk H σ r Q q => ⟨_, h, q v d Γ Hk H k r (Ex.refl _) (hd _)⟩⟩
theorem pd_int {i j} : PD X (.Constant (.int i) j pos) (dC (.int i)) := pd_scal pe_int fun _ => rfl
theorem pd_bl {b j} : PD X (.Constant (.bool b) j pos) (dC (.bl b)) := pd_scal pe_bl fun _ => rfl
theorem pd_non {j} : PD X (.Constant .none j pos) (dC .non) := pd_scal pe_non fun _ => rfl
theorem pd_str {x j} : PD X (.Constant (.str x) j pos) (dC (.str x)) := pd_scal pe_str fun _ => rfl
theorem pd_globI {x : Str} {i : Int} (hg : Gl X x) (hm : ∃ t, X.mg x = some (.int i t)) (hd : (x == ("__debug__" : Str)) = false := by decide) : PD X (.Name x pos) (dC (.int i)) := by
  obtain ⟨t, hm⟩ := hm
  exact pd_scal (pe_glob (v := .int i) hg hm ⟨t, rfl⟩ hd) fun _ => rfl
theorem pd_globS {x z : Str} (hg : Gl X x) (hm : ∃ t, X.mg x = some (.str z t)) (hd : (x == ("__debug__" : Str)) = false := by decide) : PD X (.Name x pos) (dC (.str z)) := by
  obtain ⟨t, hm⟩ := hm
  exact pd_scal (pe_glob (v := .str z) hg hm ⟨t, rfl⟩ hd) fun _ => rfl

/-! ### two operands -/
/-- an operation on values, said of data -/
def OpD (r : R2) (f : D → D → (D → Prop) → Prop) : Prop := ∀ Hk H x y d1 d2 (K : D → Prop), Ex Hk H → Is Hk d1 x → Is Hk d2 y → f d1 d2 K → ∀ Q : VK, (∀ v d Hk2 H2, K d → Step Hk H Hk2 H2 → Is Hk2 d v → Q v H2) → r x y H Q
def dOp (f : D → D → (D → Prop) → Prop) (ta tb : TD) : TD := fun Γ R => ta Γ fun d1 Γ1 => tb Γ1 fun d2 Γ2 => f d1 d2 fun d => R d Γ2
variable {a b c : Expr} {ta tb tc : TD} {r r' : R2} {f f' : D → D → (D → Prop) → Prop} {op : Operator} {co co' : CmpOp}
theorem op_run (hd : OpD r f) (ha : PD X a ta) (hb : PD X b tb) {Γ : G} {R : D → G → Prop} (h : dOp f ta tb Γ R) {E : En} {Hk H : Hp} {σ : St} (rp : Rp E Γ Hk H σ) {Q : VK}
    (q : ∀ v d Γ' Hk2 H2, R d Γ' → Rp E Γ' Hk2 H2 σ → Ex Hk Hk2 → Is Hk2 d v → Q v H2) : tOp r (WE X a) (WE X b) σ H Q := by
  refine ha.run Γ _ h E Hk H σ rp _ fun x d1 Γ1 Hk1 H1 k1 r1 e1 i1 => ?_
  refine hb.run Γ1 _ k1 E Hk1 H1 σ r1 _ fun y d2 Γ2 Hk2 H2 k2 r2 e2 i2 => ?_
  exact hd Hk2 H2 x y d1 d2 _ r2.step.s (i1.mono e2) i2 k2 Q fun v d Hk3 H3 k3 s3 i3 => q v d Γ2 Hk3 H3 k3 (r2.grow s3) ((e1.trans e2).trans s3.k) i3
theorem pd_op (ho : OpR X (binaryOp op) r) (hd : OpD r f) (ha : PD X a ta) (hb : PD X b tb) : PD X (.BinOp a op b pos) (dOp f ta tb) :=
  ⟨fun _ _ h _ _ _ _ rp _ q => ⟨_, pe_op ho pe_w pe_w, op_run hd ha hb h rp q⟩⟩
theorem pd_cmp (ho : OpR X (compareOp co) r) (hd : OpD r f) (ha : PD X a ta) (hb : PD X b tb) (hm : behindInMarks co b = false := by first | exact nomark _ | rfl) : PD X (.Compare a [co] [b] pos) (dOp f ta tb) :=
  ⟨fun _ _ h _ _ _ _ rp _ q => ⟨_, pe_cmpR ho pe_w pe_w hm, op_run hd ha hb h rp q⟩⟩
/-- as tests -/
def dB (t : TD) : TDB := fun Γ R => t Γ fun d Γ' => match d with
  | .bl b => R b Γ'
  | _ => False
theorem bl_of {d : D} {H : Hp} {v : V} {P : Bool → Prop} (h : match d with | .bl b => P b | _ => False) (i : Is H d v) : ∃ b, d = .bl b ∧ v = .bl b ∧ P b := by
  split at h
  · exact ⟨_, rfl, i, h⟩
  · exact h.elim
theorem pdt_val {e : Expr} {t : TD} (h : PD X e t) (he : ∀ whole, isTrue e X.env whole = (do let v ← whole; standAt e.pos; holding [v] (truthy v)) := by intro _; rfl) : PDT X e (dB t) := by
  refine ⟨fun Γ R k E Hk H σ rp Q q => ⟨_, pt_val pe_w he, ?_⟩⟩
  refine h.run Γ _ k E Hk H σ rp _ fun v d Γ1 Hk1 H1 k1 r1 e1 i1 => ?_
  obtain ⟨b, rfl, rfl, k2⟩ := bl_of k1 i1
  exact ⟨b, rfl, q b Γ1 Hk1 H1 k2 r1 e1⟩
theorem pdt_cmp (ho : OpR X (compareOp co) r) (hd : OpD r f) (ha : PD X a ta) (hb : PD X b tb) (hm : behindInMarks co b = false := by first | exact nomark _ | rfl) : PDT X (.Compare a [co] [b] pos) (dB (dOp f ta tb)) := by
  refine ⟨fun Γ R k E Hk H σ rp Q q => ⟨_, pt_cmpR ho pe_w pe_w hm, ?_⟩⟩
  refine op_run hd ha hb k rp fun v d Γ1 Hk1 H1 k1 r1 e1 i1 => ?_
  obtain ⟨b, rfl, rfl, k2⟩ := bl_of k1 i1
  exact ⟨b, rfl, q b Γ1 Hk1 H1 k2 r1 e1⟩
/-- a < b < c -/
def dChain (f f' : D → D → (D → Prop) → Prop) (ta tb tc : TD) : TD := fun Γ R => ta Γ fun d1 Γ1 => tb Γ1 fun d2 Γ2 => f d1 d2 fun d => match d with
  | .bl k => if k = true then tc Γ2 fun d3 Γ3 => f' d2 d3 fun d => R d Γ3 else R (.bl false) Γ2
  | _ => False
theorem chain_run (hd : OpD r f) (hd' : OpD r' f') (ha : PD X a ta) (hb : PD X b tb) (hc : PD X c tc) {Γ : G} {R : D → G → Prop} (h : dChain f f' ta tb tc Γ R) {E : En} {Hk H : Hp} {σ : St} (rp : Rp E Γ Hk H σ) {Q : VK}
    (q : ∀ v d Γ' Hk2 H2, R d Γ' → Rp E Γ' Hk2 H2 σ → Ex Hk Hk2 → Is Hk2 d v → Q v H2) : tChain r r' (WE X a) (WE X b) (WE X c) σ H Q := by
  refine ha.run Γ _ h E Hk H σ rp _ fun x d1 Γ1 Hk1 H1 k1 r1 e1 i1 => ?_
  refine hb.run Γ1 _ k1 E Hk1 H1 σ r1 _ fun y d2 Γ2 Hk2 H2 k2 r2 e2 i2 => ?_
  refine hd Hk2 H2 x y d1 d2 _ r2.step.s (i1.mono e2) i2 k2 _ fun v d Hk3 H3 k3 s3 i3 => ?_
  obtain ⟨k, rfl, rfl, k4⟩ := bl_of k3 i3
  refine ⟨k, rfl, ?_⟩
  cases k with
  | false =>
    rw [if_neg Bool.false_ne_true] at k4 ⊢
    exact q _ _ Γ2 Hk3 H3 k4 (r2.grow s3) ((e1.trans e2).trans s3.k) rfl
  | true =>
    rw [if_pos rfl] at k4 ⊢
    refine hc.run Γ2 _ k4 E Hk3 H3 σ (r2.grow s3) _ fun z d3 Γ4 Hk4 H4 k5 r4 e4 i4 => ?_
    exact hd' Hk4 H4 y z d2 d3 _ r4.step.s ((i2.mono s3.k).mono e4) i4 k5 Q fun v d Hk5 H5 k6 s5 i5 => q v d Γ4 Hk5 H5 k6 (r4.grow s5) ((((e1.trans e2).trans s3.k).trans e4).trans s5.k) i5
theorem pd_chain (ho : OpR X (compareOp co) r) (ho' : OpR X (compareOp co') r') (hd : OpD r f) (hd' : OpD r' f') (ha : PD X a ta) (hb : PD X b tb) (hc : PD X c tc) (hm : lastMarks [co, co'] [b, c] = false := by rfl) : PD X (.Compare a [co, co'] [b, c] pos) (dChain f f' ta tb tc) :=
  ⟨fun _ _ h _ _ _ _ rp _ q => ⟨_, pe_chain ho ho' pe_w pe_w pe_w hm, chain_run hd hd' ha hb hc h rp q⟩⟩
theorem pdt_chain (ho : OpR X (compareOp co) r) (ho' : OpR X (compareOp co') r') (hd : OpD r f) (hd' : OpD r' f') (ha : PD X a ta) (hb : PD X b tb) (hc : PD X c tc) (hm : lastMarks [co, co'] [b, c] = false := by rfl) : PDT X (.Compare a [co, co'] [b, c] pos) (dB (dChain f f' ta tb tc)) := by
  refine ⟨fun Γ R k E Hk H σ rp Q q => ⟨_, pt_chain ho ho' pe_w pe_w pe_w hm, ?_⟩⟩
  refine chain_run hd hd' ha hb hc k rp fun v d Γ1 Hk1 H1 k1 r1 e1 i1 => ?_
  obtain ⟨b, rfl, rfl, k2⟩ := bl_of k1 i1
  exact ⟨b, rfl, q b Γ1 Hk1 H1 k2 r1 e1⟩

/-! ### and, or, not, if -/
variable {rest : List Expr} {tA tB' : TDB} {op2 : BoolOp}
def dAnd (t u : TDB) : TDB := fun Γ R => t Γ fun c Γ1 => if c = true then u Γ1 R else R false Γ1
def dOr (t u : TDB) : TDB := fun Γ R => t Γ fun c Γ1 => if c = true then R true Γ1 else u Γ1 R
def dNot (t : TDB) : TDB := fun Γ R => t Γ fun c Γ1 => R (!c) Γ1
/-- a test whatever its 'whole' is -/
structure PDW (X : Cx) (e : Expr) (t : TDB) : Prop where
  run : ∀ Γ R, t Γ R → ∀ E Hk H σ, Rp E Γ Hk H σ → ∀ Q : Bool → Hp → Prop, (∀ b Γ' Hk2 H2, R b Γ' → Rp E Γ' Hk2 H2 σ → Ex Hk Hk2 → Q b H2) → ∃ t, PW X e t ∧ t σ H Q
def WW (X : Cx) (e : Expr) : TT := fun σ H Q => ∃ t, PW X e t ∧ t σ H Q
theorem pw_w {e : Expr} : PW X e (WW X e) := ⟨fun wh pins s σ H Q I ⟨t, p, h⟩ => p.run wh pins s σ H Q I h⟩
theorem PDW.pt {e : Expr} {t : TDB} (h : PDW X e t) : PDT X e t := ⟨fun Γ R k E Hk H σ rp Q q => by
  obtain ⟨t, p, w⟩ := h.run Γ R k E Hk H σ rp Q q
  exact ⟨t, p.pt, w⟩⟩
theorem pdw_and1 (ha : PDT X a tA) : PDW X (.BoolOp .And [a] pos) tA := ⟨fun Γ R k E Hk H σ rp Q q => ⟨_, pw_and1 pt_w, ha.run Γ R k E Hk H σ rp Q q⟩⟩
theorem pdw_or1 (ha : PDT X a tA) : PDW X (.BoolOp .Or [a] pos) tA := ⟨fun Γ R k E Hk H σ rp Q q => ⟨_, pw_or1 pt_w, ha.run Γ R k E Hk H σ rp Q q⟩⟩
theorem pdw_and (ha : PDT X a tA) (hb : PDW X (.BoolOp .And (b :: rest) pos) tB') : PDW X (.BoolOp .And (a :: b :: rest) pos) (dAnd tA tB') := by
  refine ⟨fun Γ R k E Hk H σ rp Q q => ⟨_, pw_and pt_w pw_w, ?_⟩⟩
  refine ha.run Γ _ k E Hk H σ rp _ fun c Γ1 Hk1 H1 k1 r1 e1 => ?_
  cases c with
  | true =>
    rw [if_pos rfl] at k1 ⊢
    exact hb.run Γ1 R k1 E Hk1 H1 σ r1 Q fun b Γ2 Hk2 H2 k2 r2 e2 => q b Γ2 Hk2 H2 k2 r2 (e1.trans e2)
  | false =>
    rw [if_neg Bool.false_ne_true] at k1 ⊢
    exact q false Γ1 Hk1 H1 k1 r1 e1
theorem pdw_or (ha : PDT X a tA) (hb : PDW X (.BoolOp .Or (b :: rest) pos) tB') : PDW X (.BoolOp .Or (a :: b :: rest) pos) (dOr tA tB') := by
  refine ⟨fun Γ R k E Hk H σ rp Q q => ⟨_, pw_or pt_w pw_w, ?_⟩⟩
  refine ha.run Γ _ k E Hk H σ rp _ fun c Γ1 Hk1 H1 k1 r1 e1 => ?_
  cases c with
  | false =>
    rw [if_neg Bool.false_ne_true] at k1 ⊢
    exact hb.run Γ1 R k1 E Hk1 H1 σ r1 Q fun b Γ2 Hk2 H2 k2 r2 e2 => q b Γ2 Hk2 H2 k2 r2 (e1.trans e2)
  | true =>
    rw [if_pos rfl] at k1 ⊢
    exact q true Γ1 Hk1 H1 k1 r1 e1
theorem pdt_not (ha : PDT X a tA) : PDT X (.UnaryOp .Not a pos) (dNot tA) := ⟨fun Γ R k E Hk H σ rp Q q => ⟨_, pt_not pt_w, ha.run Γ _ k E Hk H σ rp _ fun c Γ1 Hk1 H1 k1 r1 e1 => q (!c) Γ1 Hk1 H1 k1 r1 e1⟩⟩
/-- as values, bools -/
def dAndV (ta tb : TD) : TD := fun Γ R => ta Γ fun d Γ1 => match d with
  | .bl c => if c = true then tb Γ1 R else R (.bl false) Γ1
  | _ => False
def dOrV (ta tb : TD) : TD := fun Γ R => ta Γ fun d Γ1 => match d with
  | .bl c => if c = true then R (.bl true) Γ1 else tb Γ1 R
  | _ => False
def dNotV (ta : TD) : TD := fun Γ R => ta Γ fun d Γ1 => match d with
  | .bl c => R (.bl (!c)) Γ1
  | _ => False
theorem pd_one (h : PD X a ta) : PD X (.BoolOp op2 [a] pos) ta := ⟨fun Γ R k E Hk H σ rp Q q => ⟨_, pe_one pe_w, h.run Γ R k E Hk H σ rp Q q⟩⟩
theorem pd_and (ha : PD X a ta) (hb : PD X (.BoolOp .And (b :: rest) pos) tb) : PD X (.BoolOp .And (a :: b :: rest) pos) (dAndV ta tb) := by
  refine ⟨fun Γ R k E Hk H σ rp Q q => ⟨_, pe_and pe_w pe_w, ?_⟩⟩
  refine ha.run Γ _ k E Hk H σ rp _ fun v d Γ1 Hk1 H1 k1 r1 e1 i1 => ?_
  obtain ⟨c, rfl, rfl, k2⟩ := bl_of k1 i1
  refine ⟨c, rfl, ?_⟩
  cases c with
  | true =>
    rw [if_pos rfl] at k2 ⊢
    exact hb.run Γ1 R k2 E Hk1 H1 σ r1 Q fun v d Γ2 Hk2 H2 k3 r2 e2 i2 => q v d Γ2 Hk2 H2 k3 r2 (e1.trans e2) i2
  | false =>
    rw [if_neg Bool.false_ne_true] at k2 ⊢
    exact q _ _ Γ1 Hk1 H1 k2 r1 e1 rfl
theorem pd_or (ha : PD X a ta) (hb : PD X (.BoolOp .Or (b :: rest) pos) tb) : PD X (.BoolOp .Or (a :: b :: rest) pos) (dOrV ta tb) := by
  refine ⟨fun Γ R k E Hk H σ rp Q q => ⟨_, pe_or pe_w pe_w, ?_⟩⟩
  refine ha.run Γ _ k E Hk H σ rp _ fun v d Γ1 Hk1 H1 k1 r1 e1 i1 => ?_
  obtain ⟨c, rfl, rfl, k2⟩ := bl_of k1 i1
  refine ⟨c, rfl, ?_⟩
  cases c with
  | false =>
    rw [if_neg Bool.false_ne_true] at k2 ⊢
    exact hb.run Γ1 R k2 E Hk1 H1 σ r1 Q fun v d Γ2 Hk2 H2 k3 r2 e2 i2 => q v d Γ2 Hk2 H2 k3 r2 (e1.trans e2) i2
  | true =>
    rw [if_pos rfl] at k2 ⊢
    exact q _ _ Γ1 Hk1 H1 k2 r1 e1 rfl
theorem pd_not (ha : PD X a ta) : PD X (.UnaryOp .Not a pos) (dNotV ta) := by
  refine ⟨fun Γ R k E Hk H σ rp Q q => ⟨_, pe_not pe_w, ?_⟩⟩
  refine ha.run Γ _ k E Hk H σ rp _ fun v d Γ1 Hk1 H1 k1 r1 e1 i1 => ?_
  obtain ⟨c, rfl, rfl, k2⟩ := bl_of k1 i1
  exact ⟨c, rfl, q _ _ Γ1 Hk1 H1 k2 r1 e1 rfl⟩
def dIf (t : TDB) (ta tb : TD) : TD := fun Γ R => t Γ fun c Γ1 => if c = true then ta Γ1 R else tb Γ1 R
theorem pd_ifExp (hc : PDT X c tA) (ha : PD X a ta) (hb : PD X b tb) : PD X (.IfExp c a b pos) (dIf tA ta tb) := by
  refine ⟨fun Γ R k E Hk H σ rp Q q => ⟨_, pe_ifExp pt_w pe_w pe_w, ?_⟩⟩
  refine hc.run Γ _ k E Hk H σ rp _ fun c Γ1 Hk1 H1 k1 r1 e1 => ?_
  cases c with
  | true =>
    rw [if_pos rfl] at k1 ⊢
    exact ha.run Γ1 R k1 E Hk1 H1 σ r1 Q fun v d Γ2 Hk2 H2 k3 r2 e2 i2 => q v d Γ2 Hk2 H2 k3 r2 (e1.trans e2) i2
  | false =>
    rw [if_neg Bool.false_ne_true] at k1 ⊢
    exact hb.run Γ1 R k1 E Hk1 H1 σ r1 Q fun v d Γ2 Hk2 H2 k3 r2 e2 i2 => q v d Γ2 Hk2 H2 k3 r2 (e1.trans e2) i2

/-! ### argument lists, displays -/
variable {es : List Expr} {tl : TDA}
def dNil : TDA := fun Γ R => R [] Γ
def dCons (ta : TD) (tl : TDA) : TDA := fun Γ R => ta Γ fun d Γ1 => tl Γ1 fun ds Γ2 => R (d :: ds) Γ2
theorem pda_nil : PDA X [] dNil := ⟨fun Γ R k E Hk H σ rp Q q => ⟨_, pa_nil, q [] [] Γ Hk H k rp (Ex.refl _) rfl⟩⟩
theorem pda_cons (ha : PD X a ta) (hr : PDA X es tl) (hs : starEach (a :: es) X.env = (false, eval a X.env) :: starEach es X.env := by rfl) : PDA X (a :: es) (dCons ta tl) := by
  refine ⟨fun Γ R k E Hk H σ rp Q q => ⟨_, pa_cons pe_w pa_w hs, ?_⟩⟩
  refine ha.run Γ _ k E Hk H σ rp _ fun v d Γ1 Hk1 H1 k1 r1 e1 i1 => ?_
  exact hr.run Γ1 _ k1 E Hk1 H1 σ r1 _ fun vs ds Γ2 Hk2 H2 k2 r2 e2 i2 => q _ _ Γ2 Hk2 H2 k2 r2 (e1.trans e2) (.cons (i1.mono e2) i2)
def dTup (tl : TDA) : TD := fun Γ R => tl Γ fun ds Γ1 => ds.length ≤ sizeLine ∧ R (.tup ds) Γ1
def dLst (tl : TDA) : TD := fun Γ R => tl Γ fun ds Γ1 => ds.length ≤ sizeLine ∧ R (.lst ds) Γ1
theorem pd_tup {x1} (h : PDA X es tl) : PD X (.Tuple es x1 pos) (dTup tl) := by
  refine ⟨fun Γ R k E Hk H σ rp Q q => ⟨_, pe_tup pa_w, ?_⟩⟩
  refine h.run Γ _ k E Hk H σ rp _ fun vs ds Γ1 Hk1 H1 k1 r1 e1 i1 => ?_
  refine ⟨by rw [i1.len]; exact k1.1, fun p hp => ?_⟩
  have s := Step.new (o := .tup vs) r1.step.s hp
  exact q _ _ Γ1 _ _ k1.2 (r1.grow s) (e1.trans s.k) ⟨p, vs, rfl, upd_same, i1.mono s.k⟩
theorem pd_lst (h : PDA X es tl) : PD X (.List es pos) (dLst tl) := by
  refine ⟨fun Γ R k E Hk H σ rp Q q => ⟨_, pe_lst pa_w, ?_⟩⟩
  refine h.run Γ _ k E Hk H σ rp _ fun vs ds Γ1 Hk1 H1 k1 r1 e1 i1 => ?_
  refine ⟨by rw [i1.len]; exact k1.1, fun p hp => ?_⟩
  have s := Step.new (o := .lst vs) r1.step.s hp
  exact q _ _ Γ1 _ _ k1.2 (r1.grow s) (e1.trans s.k) ⟨p, vs, rfl, upd_same, i1.mono s.k⟩

/-! ### calls -/
/-- a def's promise, of data -/
def SpF (f : List D → (D → Prop) → Prop) : Sp := fun vs H Q _ => ∃ (Hk : Hp) (ds : List D) (K : D → Prop), Ex Hk H ∧ IsL Hk ds vs ∧ f ds K ∧ ∀ d v Hk2 H2, K d → Step Hk H Hk2 H2 → Is Hk2 d v → Q v H2
def dCall (f : List D → (D → Prop) → Prop) (tl : TDA) : TD := fun Γ R => tl Γ fun ds Γ1 => f ds fun d => R d Γ1
variable {k : Nat} {fa : Addr} {fd : FuncData} {ps : List Str} {ff : List D → (D → Prop) → Prop} {x m : Str} {p apos : Pos} {e o : Expr}
theorem pd_call (F : FnOk X.prog X.w X.K X.mg X.base CX0 k fa fd ps (SpF ff)) (hr : Room k X.A) (hg : Gl X x) (hm : X.mg x = some (.ref fa)) (hk : PySem.W.keepIn X.K (.ref fa) = true) (hb : Binds X.K fd ps [])
    (ha : PDA X (e :: es) tl) (hdb : (x == ("__debug__" : Str)) = false := by decide) (he : starEach (e :: es) X.env = (false, eval e X.env) :: starEach es X.env := by rfl) (hpl : (backTo pos (starEach es X.env)).any (·.1) = false := by rfl) :
    PD X (.Call (.Name x p) (e :: es) [] pos) (dCall ff tl) := by
  refine ⟨fun Γ R kk E Hk H σ rp Q q => ⟨_, pe_call F hr hg hm hk hb .nil pass0 pa_w hdb he hpl, ?_⟩⟩
  refine ha.run Γ _ kk E Hk H σ rp _ fun vs ds Γ1 Hk1 H1 k1 r1 e1 i1 => ?_
  exact ⟨Hk1, ds, _, r1.step.s, by rw [List.append_nil]; exact i1, k1, fun d v Hk2 H2 hd s i => q v d Γ1 Hk2 H2 hd (r1.grow s) (e1.trans s.k) i⟩
end
end DL
set_option maxHeartbeats 4000000
/-! readings upon data: operations by values -/
namespace DL
open PySem PySem.Spec PyProof.Rows L2

/-! ### data as the library's data -/
mutual
def py : D → PyData
  | .non => .none
  | .bl b => .bool b
  | .int i => .int i
  | .str s => .str s
  | .tup ds => .tuple (pys ds)
  | .lst ds => .list (pys ds)
  | _ => .none
def pys : List D → List PyData
  | [] => []
  | d :: ds => py d :: pys ds
end
mutual
def isPy : D → Bool
  | .non => true
  | .bl _ => true
  | .int _ => true
  | .str _ => true
  | .tup ds => isPys ds
  | .lst ds => isPys ds
  | _ => false
def isPys : List D → Bool
  | [] => true
  | d :: ds => isPy d && isPys ds
end
def shp (d : D) : Bool := isPy d && SeqAt.shaped (py d)
section
variable {K : PySem.W.Frag} {H : Hp}
mutual
theorem dp_of : ∀ {d : D} {v : V}, Is H d v → isPy d = true → Dp K H v (py d)
  | .non, _, h, _ => by
    cases (show _ = V.non from h)
    exact .non
  | .bl b, _, h, _ => by
    cases (show _ = V.bl b from h)
    exact .bl b
  | .int i, _, h, _ => by
    cases (show _ = V.int i from h)
    exact .int i
  | .str s, _, h, _ => by
    cases (show _ = V.str s from h)
    exact .str s
  | .tup ds, _, h, p => by
    obtain ⟨a, xs, rfl, h2, h3⟩ := h
    exact .tup (.inl (.inl h2)) (dps_of h3 p)
  | .lst ds, _, h, p => by
    obtain ⟨a, xs, rfl, h2, h3⟩ := h
    exact .lst (.inl (.inl h2)) (dps_of h3 p)
  | .any, _, _, p => nomatch p
  | .ins _ _ _, _, _, p => nomatch p
  | .dK _ _, _, _, p => nomatch p
  | .dT _ _, _, _, p => nomatch p
  | .scr _ _, _, _, p => nomatch p
theorem dps_of : ∀ {ds : List D} {vs : List V}, IsL H ds vs → isPys ds = true → DpAll K H vs (pys ds)
  | [], _, h, _ => by
    cases (show _ = ([] : List V) from h)
    exact .nil
  | d :: ds, _, h, p => by
    obtain ⟨x, r, rfl, h2, h3⟩ := h
    obtain ⟨p1, p2⟩ := Bool.and_eq_true_iff.mp (show (isPy d && isPys ds) = true from p)
    exact .cons (dp_of h2 p1) (dps_of h3 p2)
end
end

/-! ### operations -/
def dAdd : D → D → (D → Prop) → Prop
  | .int i, .int j, K => K (.int (i + j))
  | .str s, .str t, K => s.length + t.length ≤ sizeLine ∧ K (.str (s ++ t))
  | .lst xs, .lst ys, K => xs.length + ys.length ≤ sizeLine ∧ K (.lst (xs ++ ys))
  | _, _, _ => False
def dInt2 (g : Int → Int → (D → Prop) → Prop) : D → D → (D → Prop) → Prop
  | .int i, .int j, K => g i j K
  | _, _, _ => False
abbrev dSub := dInt2 fun i j K => K (.int (i - j))
abbrev dMul := dInt2 fun i j K => CMul i j ∧ K (.int (i * j))
abbrev dMod := dInt2 fun i j K => 0 < j ∧ K (.int (i % j))
abbrev dDiv := dInt2 fun i j K => CDiv i j ∧ K (.int (i / j))
abbrev dPow := dInt2 fun i j K => CPow i j ∧ K (.int (i ^ j.toNat))
abbrev dLt := dInt2 fun i j K => K (.bl (decide (i < j)))
abbrev dLe := dInt2 fun i j K => K (.bl (decide (i ≤ j)))
abbrev dGt := dInt2 fun i j K => K (.bl (decide (j < i)))
abbrev dGe := dInt2 fun i j K => K (.bl (decide (j ≤ i)))
def dEq : D → D → (D → Prop) → Prop
  | .int i, .int j, K => K (.bl (decide (i = j)))
  | .str s, .str t, K => K (.bl (decide (s = t)))
  | d, e, K => shp d = true ∧ shp e = true ∧ K (.bl (PyData.eqv (py d) (py e)))
def dNe : D → D → (D → Prop) → Prop
  | .int i, .int j, K => K (.bl (!decide (i = j)))
  | .str s, .str t, K => K (.bl (!decide (s = t)))
  | d, e, K => shp d = true ∧ shp e = true ∧ K (.bl (!PyData.eqv (py d) (py e)))
def dIsN : D → D → (D → Prop) → Prop
  | .any, _, _ => False
  | .non, .non, K => K (.bl true)
  | _, .non, K => K (.bl false)
  | _, _, _ => False
def dNotN : D → D → (D → Prop) → Prop
  | .any, _, _ => False
  | .non, .non, K => K (.bl false)
  | _, .non, K => K (.bl true)
  | _, _, _ => False
/-- one sign in a text -/
def dInSign : D → D → (D → Prop) → Prop
  | .str s, .str t, K => ∃ c, s = ⟨#[c]⟩ ∧ K (.bl (decide (c ∈ t.cps.toList)))
  | _, _, _ => False
def inText (s t : Str) : Bool := !(Builtin.Str.occurrences t s 0 t.length 1).isEmpty
def dInText : D → D → (D → Prop) → Prop
  | .str s, .str t, K => K (.bl (inText s t))
  | _, _, _ => False
def dNotInText : D → D → (D → Prop) → Prop
  | .str s, .str t, K => K (.bl (!inText s t))
  | _, _, _ => False
/-- in a list -/
def dInL : D → D → (D → Prop) → Prop
  | d, .lst ds, K => shp d = true ∧ shp (.lst ds) = true ∧ K (.bl ((pys ds).any fun z => PyData.eqv z (py d)))
  | _, _, _ => False
theorem st_refl {Hk H : Hp} (e : Ex Hk H) {d : D} {v : V} {K : D → Prop} {Q : VK} (k : K d) (i : Is Hk d v) (q : ∀ v d Hk2 H2, K d → Step Hk H Hk2 H2 → Is Hk2 d v → Q v H2) : Q v H := q v d Hk H k (Step.refl e) i
section
variable {X : Cx}
theorem od_int {g : Int → Int → V} {gd : Int → Int → D} {C : Int → Int → Prop} (hg : ∀ i j H, Is H (gd i j) (g i j)) : OpD (rI C g) (dInt2 fun i j K => C i j ∧ K (gd i j)) := by
  intro Hk H x y d1 d2 K e i1 i2 h Q q
  unfold dInt2 at h
  split at h
  · cases (show x = _ from i1)
    cases (show y = _ from i2)
    exact ⟨_, _, rfl, rfl, h.1, st_refl e h.2 (hg _ _ _) q⟩
  · exact h.elim
theorem od_int0 {g : Int → Int → V} {gd : Int → Int → D} (hg : ∀ i j H, Is H (gd i j) (g i j)) : OpD (rI0 g) (dInt2 fun i j K => K (gd i j)) := by
  intro Hk H x y d1 d2 K e i1 i2 h Q q
  unfold dInt2 at h
  split at h
  · cases (show x = _ from i1)
    cases (show y = _ from i2)
    exact ⟨_, _, rfl, rfl, st_refl e h (hg _ _ _) q⟩
  · exact h.elim
theorem od_sub : OpD (rI0 fun i j => .int (i - j)) dSub := od_int0 fun _ _ _ => rfl
theorem od_mul : OpD (rI CMul fun i j => .int (i * j)) dMul := od_int fun _ _ _ => rfl
theorem od_mod : OpD (rI (fun _ j => 0 < j) fun i j => .int (i % j)) dMod := od_int fun _ _ _ => rfl
theorem od_div : OpD (rI CDiv fun i j => .int (i / j)) dDiv := od_int fun _ _ _ => rfl
theorem od_pow : OpD (rI CPow fun i j => .int (i ^ j.toNat)) dPow := od_int fun _ _ _ => rfl
theorem od_lt : OpD (rI0 fun i j => .bl (decide (i < j))) dLt := od_int0 fun _ _ _ => rfl
theorem od_le : OpD (rI0 fun i j => .bl (decide (i ≤ j))) dLe := od_int0 fun _ _ _ => rfl
theorem od_gt : OpD (rI0 fun i j => .bl (decide (j < i))) dGt := od_int0 fun _ _ _ => rfl
theorem od_ge : OpD (rI0 fun i j => .bl (decide (j ≤ i))) dGe := od_int0 fun _ _ _ => rfl
abbrev rAdd3 : R2 := fun x y H Q => (∃ i j, x = V.int i ∧ y = V.int j ∧ Q (.int (i + j)) H) ∨ (∃ i j, x = V.str i ∧ y = V.str j ∧ i.length + j.length ≤ sizeLine ∧ Q (.str (i ++ j)) H) ∨ rCat x y H Q
theorem op_add3 : OpR X (binaryOp .Add) rAdd3 := op_add.or (op_add_str.or op_cat)
theorem od_add : OpD rAdd3 dAdd := by
  intro Hk H x y d1 d2 K e i1 i2 h Q q
  unfold dAdd at h
  split at h
  · cases (show x = _ from i1)
    cases (show y = _ from i2)
    exact .inl ⟨_, _, rfl, rfl, st_refl e h rfl q⟩
  · cases (show x = _ from i1)
    cases (show y = _ from i2)
    exact .inr (.inl ⟨_, _, rfl, rfl, h.1, st_refl e h.2 rfl q⟩)
  · obtain ⟨a, us, rfl, ha, ia⟩ := i1
    obtain ⟨b, ws, rfl, hb, ib⟩ := i2
    refine .inr (.inr ⟨a, b, us, ws, rfl, rfl, e _ _ ha, e _ _ hb, by rw [ia.len, ib.len]; exact h.1, fun p hp => ?_⟩)
    have s := Step.new (o := .lst (us ++ ws)) e hp
    exact q _ _ _ _ h.2 s ⟨p, _, rfl, upd_same, (ia.append ib).mono s.k⟩
  · exact h.elim
abbrev rEq2 (K : PySem.W.Frag) : R2 := fun x y H Q => rEq x y H Q ∨ rEqD K x y H Q
abbrev rNe2 (K : PySem.W.Frag) : R2 := fun x y H Q => rNe x y H Q ∨ rNeD K x y H Q
theorem op_eq2 (hu : X.A.units + 64 < cLine) : OpR X (compareOp .Eq) (rEq2 X.K) := op_eq.or (op_eqD hu)
theorem op_ne2 (hu : X.A.units + 64 < cLine) : OpR X (compareOp .NotEq) (rNe2 X.K) := op_ne.or (op_neD hu)
theorem dec_vi {i j : Int} : decide (V.int i = V.int j) = decide (i = j) := by simp
theorem dec_vs {i j : Str} : decide (V.str i = V.str j) = decide (i = j) := by simp
theorem shp_py {d : D} (h : shp d = true) : isPy d = true ∧ SeqAt.shaped (py d) = true := Bool.and_eq_true_iff.mp h
theorem od_eq {K : PySem.W.Frag} : OpD (rEq2 K) dEq := by
  intro Hk H x y d1 d2 Kd e i1 i2 h Q q
  unfold dEq at h
  split at h
  · cases (show x = _ from i1)
    cases (show y = _ from i2)
    refine .inl ⟨rfl, ?_⟩
    rw [dec_vi]
    exact st_refl e h rfl q
  · cases (show x = _ from i1)
    cases (show y = _ from i2)
    refine .inl ⟨rfl, ?_⟩
    rw [dec_vs]
    exact st_refl e h rfl q
  · obtain ⟨h1, h2, h3⟩ := h
    exact .inr ⟨_, _, dp_of (i1.mono e) (shp_py h1).1, dp_of (i2.mono e) (shp_py h2).1, (shp_py h1).2, (shp_py h2).2, st_refl e h3 rfl q⟩
theorem od_ne {K : PySem.W.Frag} : OpD (rNe2 K) dNe := by
  intro Hk H x y d1 d2 Kd e i1 i2 h Q q
  unfold dNe at h
  split at h
  · cases (show x = _ from i1)
    cases (show y = _ from i2)
    refine .inl ⟨rfl, ?_⟩
    rw [dec_vi]
    exact st_refl e h rfl q
  · cases (show x = _ from i1)
    cases (show y = _ from i2)
    refine .inl ⟨rfl, ?_⟩
    rw [dec_vs]
    exact st_refl e h rfl q
  · obtain ⟨h1, h2, h3⟩ := h
    exact .inr ⟨_, _, dp_of (i1.mono e) (shp_py h1).1, dp_of (i2.mono e) (shp_py h2).1, (shp_py h1).2, (shp_py h2).2, st_refl e h3 rfl q⟩
theorem is_nn {H : Hp} : ∀ {d : D} {v : V}, Is H d v → d ≠ .any → d ≠ .non → decide (v = .non) = false
  | .any, _, _, h, _ => absurd rfl h
  | .non, _, _, _, h => absurd rfl h
  | .bl _, _, h, _, _ => by cases (show _ = _ from h) <;> rfl
  | .int _, _, h, _, _ => by cases (show _ = _ from h) <;> rfl
  | .str _, _, h, _, _ => by cases (show _ = _ from h) <;> rfl
  | .tup _, _, h, _, _ => by
    obtain ⟨a, _, rfl, _⟩ := h
    rfl
  | .lst _, _, h, _, _ => by
    obtain ⟨a, _, rfl, _⟩ := h
    rfl
  | .ins _ _ _, _, h, _, _ => by
    obtain ⟨a, _, _, rfl, _⟩ := h
    rfl
  | .dK _ _, _, h, _, _ => by
    obtain ⟨a, _, rfl, _⟩ := h
    rfl
  | .dT _ _, _, h, _, _ => by
    obtain ⟨a, _, rfl, _⟩ := h
    rfl
  | .scr _ _, _, h, _, _ => by
    obtain ⟨a, rfl, _⟩ := h
    rfl
abbrev rIsN0 : R2 := fun x y H Q => y = V.non ∧ Q (.bl (decide (x = .non))) H
abbrev rNotN0 : R2 := fun x y H Q => y = V.non ∧ Q (.bl (!decide (x = .non))) H
theorem od_isN : OpD rIsN0 dIsN := by
  intro Hk H x y d1 d2 Kd e i1 i2 h Q q
  unfold dIsN at h
  split at h
  · exact h.elim
  · cases (show x = _ from i1)
    cases (show y = _ from i2)
    exact ⟨rfl, st_refl e h rfl q⟩
  · rename_i n1 n2
    cases (show y = _ from i2)
    refine ⟨rfl, ?_⟩
    rw [is_nn i1 (fun z => n1 z) (fun z => n2 z)]
    exact st_refl e h rfl q
  · exact h.elim
theorem od_notN : OpD rNotN0 dNotN := by
  intro Hk H x y d1 d2 Kd e i1 i2 h Q q
  unfold dNotN at h
  split at h
  · exact h.elim
  · cases (show x = _ from i1)
    cases (show y = _ from i2)
    exact ⟨rfl, st_refl e h rfl q⟩
  · rename_i n1 n2
    cases (show y = _ from i2)
    refine ⟨rfl, ?_⟩
    rw [is_nn i1 (fun z => n1 z) (fun z => n2 z)]
    exact st_refl e h rfl q
  · exact h.elim
theorem od_inSign : OpD (fun x y H Q => ∃ (c : Nat) (z : Str), x = .str ⟨#[c]⟩ ∧ y = .str z ∧ Q (.bl (decide (c ∈ z.cps.toList))) H) dInSign := by
  intro Hk H x y d1 d2 Kd e i1 i2 h Q q
  unfold dInSign at h
  split at h
  · cases (show x = _ from i1)
    cases (show y = _ from i2)
    obtain ⟨c, rfl, h⟩ := h
    exact ⟨c, _, rfl, rfl, st_refl e h rfl q⟩
  · exact h.elim
theorem od_inText : OpD (fun x y H Q => ∃ i j, x = V.str i ∧ y = V.str j ∧ Q (.bl (!(Builtin.Str.occurrences j i 0 j.length 1).isEmpty)) H) dInText := by
  intro Hk H x y d1 d2 Kd e i1 i2 h Q q
  unfold dInText at h
  split at h
  · cases (show x = _ from i1)
    cases (show y = _ from i2)
    exact ⟨_, _, rfl, rfl, st_refl (d := .bl (inText _ _)) e h rfl q⟩
  · exact h.elim
theorem od_notInText : OpD (fun x y H Q => ∃ i j, x = V.str i ∧ y = V.str j ∧ Q (.bl (!(!(Builtin.Str.occurrences j i 0 j.length 1).isEmpty))) H) dNotInText := by
  intro Hk H x y d1 d2 Kd e i1 i2 h Q q
  unfold dNotInText at h
  split at h
  · cases (show x = _ from i1)
    cases (show y = _ from i2)
    exact ⟨_, _, rfl, rfl, st_refl (d := .bl (!inText _ _)) e h rfl q⟩
  · exact h.elim
theorem od_inL {K : PySem.W.Frag} : OpD (rInD K) dInL := by
  intro Hk H x y d1 d2 Kd e i1 i2 h Q q
  unfold dInL at h
  split at h
  · obtain ⟨h1, h2, h3⟩ := h
    exact ⟨_, _, dp_of (i1.mono e) (shp_py h1).1, dp_of (i2.mono e) (shp_py h2).1, (shp_py h1).2, (shp_py h2).2, st_refl e h3 rfl q⟩
  · exact h.elim

/-! ### an item -/
def dIx : D → D → (D → Prop) → Prop
  | .lst ds, .int i, K => ∃ d, atI ds i = some d ∧ K d
  | .tup ds, .int i, K => ∃ d, atI ds i = some d ∧ K d
  | .str s, .int i, K => s.length ≤ sizeLine ∧ ∃ c, atI s.cps.toList i = some c ∧ K (.str ⟨#[c]⟩)
  | _, _, _ => False
theorem atI_is {H : Hp} {ds : List D} {vs : List V} {i : Int} {d : D} (h : IsL H ds vs) (e : atI ds i = some d) : ∃ v, atI vs i = some v ∧ Is H d v := by
  unfold atI at e ⊢
  rw [h.len]
  cases q : ixN ds.length i with
  | none =>
    rw [q] at e
    cases e
  | some j =>
    rw [q] at e
    exact h.get (show ds[j]? = some d from e)
theorem od_ix {K : PySem.W.Frag} : OpD (rIx K) dIx := by
  intro Hk H x y d1 d2 Kd e i1 i2 h Q q
  unfold dIx at h
  split at h
  · obtain ⟨a, us, rfl, ha, ia⟩ := i1
    cases (show y = _ from i2)
    obtain ⟨d, h1, h2⟩ := h
    obtain ⟨v, h3, h4⟩ := atI_is ia h1
    exact .inl ⟨a, us, _, v, rfl, rfl, .inl (.inl (e _ _ ha)), h3, st_refl e h2 h4 q⟩
  · obtain ⟨a, us, rfl, ha, ia⟩ := i1
    cases (show y = _ from i2)
    obtain ⟨d, h1, h2⟩ := h
    obtain ⟨v, h3, h4⟩ := atI_is ia h1
    exact .inr (.inl ⟨a, us, _, v, rfl, rfl, .inl (.inl (e _ _ ha)), h3, st_refl e h2 h4 q⟩)
  · cases (show x = _ from i1)
    cases (show y = _ from i2)
    obtain ⟨h0, c, h1, h2⟩ := h
    exact .inr (.inr ⟨_, _, c, rfl, rfl, h0, h1, st_refl e h2 rfl q⟩)
  · exact h.elim
variable {a b e e2 lo hi : Expr} {ta tb : TD} {pos p p2 : Pos} {es : List Expr} {tl : TDA}
theorem pd_ix (ha : PD X a ta) (hb : PD X b tb) (hs : PlainIx b := by exact fun _ _ => rfl) : PD X (.Subscript a b pos) (dOp dIx ta tb) :=
  ⟨fun _ _ h _ _ _ _ rp _ q => ⟨_, pe_ix ix_seq pe_w pe_w hs, op_run od_ix ha hb h rp q⟩⟩

/-! ### slices -/
def cutL {α : Type} (xs : List α) (lo hi : Option Int) : List α := (xs.drop (HT.sIx xs.length 0 lo)).take (HT.sIx xs.length xs.length hi - HT.sIx xs.length 0 lo)
theorem IsL.cut {H : Hp} {ds : List D} {vs : List V} (h : IsL H ds vs) (lo hi : Option Int) : IsL H (cutL ds lo hi) (cutV vs lo hi) := by
  unfold cutL cutV
  rw [h.len]
  exact (h.drop _).take _
def dSl (f : D → Option Int → Option Int → (D → Prop) → Prop) (ta : TD) (tl th : G → (Option Int → G → Prop) → Prop) : TD := fun Γ R => ta Γ fun d Γ1 => tl Γ1 fun l Γ2 => th Γ2 fun u Γ3 => f d l u fun e => R e Γ3
abbrev TDO := G → (Option Int → G → Prop) → Prop
structure PDO (X : Cx) (e : Option Expr) (t : TDO) : Prop where
  run : ∀ Γ R, t Γ R → ∀ E Hk H σ, Rp E Γ Hk H σ → ∀ Q : Option Int → Hp → Prop, (∀ o Γ' Hk2 H2, R o Γ' → Rp E Γ' Hk2 H2 σ → Ex Hk Hk2 → Q o H2) → ∃ t, PO X e t ∧ t σ H Q
def dNo : TDO := fun Γ R => R none Γ
def dPart (t : TD) : TDO := fun Γ R => t Γ fun d Γ1 => match d with
  | .int i => R (some i) Γ1
  | _ => False
theorem pdo_none : PDO X none dNo := ⟨fun Γ R k E Hk H σ rp Q q => ⟨_, po_none, q none Γ Hk H k rp (Ex.refl _)⟩⟩
theorem pdo_some (h : PD X e ta) : PDO X (some e) (dPart ta) := by
  refine ⟨fun Γ R k E Hk H σ rp Q q => ⟨_, po_some pe_w, ?_⟩⟩
  refine h.run Γ _ k E Hk H σ rp _ fun v d Γ1 Hk1 H1 k1 r1 e1 i1 => ?_
  split at k1
  · exact ⟨_, i1, q _ Γ1 Hk1 H1 k1 r1 e1⟩
  · exact k1.elim
def WO (X : Cx) (e : Option Expr) : TO := fun σ H Q => ∃ t, PO X e t ∧ t σ H Q
theorem po_w {e : Option Expr} : PO X e (WO X e) := ⟨fun pins s σ H Q I ⟨t, p, h⟩ => p.run pins s σ H Q I h⟩
def SlD (r : V → Option Int → Option Int → Hp → VK → Prop) (f : D → Option Int → Option Int → (D → Prop) → Prop) : Prop := ∀ Hk H x d lo hi (K : D → Prop), Ex Hk H → Is Hk d x → f d lo hi K → ∀ Q : VK, (∀ v d Hk2 H2, K d → Step Hk H Hk2 H2 → Is Hk2 d v → Q v H2) → r x lo hi H Q
def dCut : D → Option Int → Option Int → (D → Prop) → Prop
  | .lst ds, lo, hi, K => K (.lst (cutL ds lo hi))
  | .str s, lo, hi, K => s.length ≤ sizeLine ∧ K (.str (cutS s lo hi))
  | _, _, _, _ => False
abbrev rSl2 (K : PySem.W.Frag) : V → Option Int → Option Int → Hp → VK → Prop := fun x lo hi H Q => rSlL K x lo hi H Q ∨ rSlS x lo hi H Q
theorem sd_cut {K : PySem.W.Frag} : SlD (rSl2 K) dCut := by
  intro Hk H x d lo hi Kd e i h Q q
  unfold dCut at h
  split at h
  · obtain ⟨a, us, rfl, ha, ia⟩ := i
    refine .inl ⟨a, us, rfl, .inl (.inl (e _ _ ha)), fun p hp => ?_⟩
    have s := Step.new (o := .lst (cutV us lo hi)) e hp
    exact q _ _ _ _ h s ⟨p, _, rfl, upd_same, (ia.cut lo hi).mono s.k⟩
  · cases (show x = _ from i)
    exact .inr ⟨_, rfl, h.1, st_refl e h.2 rfl q⟩
  · exact h.elim
theorem pd_slice {tl th : TDO} {lo hi : Option Expr} (he : PD X e ta) (hl : PDO X lo tl) (hu : PDO X hi th) : PD X (.Subscript e (.Slice lo hi none p2) pos) (dSl dCut ta tl th) := by
  refine ⟨fun Γ R k E Hk H σ rp Q q => ⟨_, pe_slice (sl_list.or sl_str) pe_w po_w po_w, ?_⟩⟩
  refine he.run Γ _ k E Hk H σ rp _ fun v d Γ1 Hk1 H1 k1 r1 e1 i1 => ?_
  refine hl.run Γ1 _ k1 E Hk1 H1 σ r1 _ fun l Γ2 Hk2 H2 k2 r2 e2 => ?_
  refine hu.run Γ2 _ k2 E Hk2 H2 σ r2 _ fun u Γ3 Hk3 H3 k3 r3 e3 => ?_
  exact sd_cut Hk3 H3 v d l u _ r3.step.s ((i1.mono e2).mono e3) k3 Q fun v d Hk4 H4 k4 s4 i4 => q v d Γ3 Hk4 H4 k4 (r3.grow s4) (((e1.trans e2).trans e3).trans s4.k) i4
/-- xs[::-1] -/
def dRev (ta : TD) : TD := fun Γ R => ta Γ fun d Γ1 => match d with
  | .lst ds => R (.lst ds.reverse) Γ1
  | _ => False
theorem pd_revL {k p1 p2 p3 : _} (he : PD X e ta) : PD X (.Subscript e (.Slice none none (some (.UnaryOp .USub (.Constant (.int 1) k p1) p2)) p3) pos) (dRev ta) := by
  refine ⟨fun Γ R k E Hk H σ rp Q q => ⟨_, pe_revL pe_w, ?_⟩⟩
  refine he.run Γ _ k E Hk H σ rp _ fun v d Γ1 Hk1 H1 k1 r1 e1 i1 => ?_
  split at k1
  · obtain ⟨a, us, rfl, ha, ia⟩ := i1
    refine ⟨a, us, rfl, .inl (.inl (r1.step.s _ _ ha)), fun p hp => ?_⟩
    have s := Step.new (o := .lst us.reverse) r1.step.s hp
    exact q _ _ Γ1 _ _ k1 (r1.grow s) (e1.trans s.k) ⟨p, _, rfl, upd_same, ia.reverse.mono s.k⟩
  · exact k1.elim

/-! ### built-ins -/
def CallD (r : List V → Hp → VK → Prop) (f : List D → (D → Prop) → Prop) : Prop := ∀ Hk H vs ds (K : D → Prop), Ex Hk H → IsL Hk ds vs → f ds K → ∀ Q : VK, (∀ v d Hk2 H2, K d → Step Hk H Hk2 H2 → Is Hk2 d v → Q v H2) → r vs H Q
variable {id T : String} {x : Str} {rc : List V → Hp → VK → Prop} {fc : List D → (D → Prop) → Prop}
theorem cb_run (hd : CallD rc fc) (ha : PDA X es tl) {Γ : G} {R : D → G → Prop} (h : dCall fc tl Γ R) {E : En} {Hk H : Hp} {σ : St} (rp : Rp E Γ Hk H σ) {Q : VK}
    (q : ∀ v d Γ' Hk2 H2, R d Γ' → Rp E Γ' Hk2 H2 σ → Ex Hk Hk2 → Is Hk2 d v → Q v H2) : tCB rc (WA X es) σ H Q := by
  refine ha.run Γ _ h E Hk H σ rp _ fun vs ds Γ1 Hk1 H1 k1 r1 e1 i1 => ?_
  exact hd Hk1 H1 vs ds _ r1.step.s i1 k1 Q fun v d Hk2 H2 k2 s2 i2 => q v d Γ1 Hk2 H2 k2 (r1.grow s2) (e1.trans s2.k) i2
theorem pd_callB (hc : CallR X (.builtin id) rc) (hd : CallD rc fc) (hg : Gl X x) (hm : X.mg x = none) (hv : bootBuiltins x = some (.builtin id)) (ha : PDA X (e :: es) tl) (hn : x ≠ "__name__" := by decide) (hdb : (x == ("__debug__" : Str)) = false := by decide)
    (he : starEach (e :: es) X.env = (false, eval e X.env) :: starEach es X.env := by rfl) (hpl : (backTo pos (starEach es X.env)).any (·.1) = false := by rfl) : PD X (.Call (.Name x p) (e :: es) [] pos) (dCall fc tl) :=
  ⟨fun _ _ h _ _ _ _ rp _ q => ⟨_, pe_callB hc hg hm hv pa_w hn hdb he hpl, cb_run hd ha h rp q⟩⟩
theorem pd_callTy (hc : CallR X (.type T) rc) (hd : CallD rc fc) (hg : Gl X x) (hm : X.mg x = none) (hv : bootBuiltins x = some (.type T)) (ha : PDA X (e :: es) tl) (hn : x ≠ "__name__" := by decide) (hdb : (x == ("__debug__" : Str)) = false := by decide)
    (he : starEach (e :: es) X.env = (false, eval e X.env) :: starEach es X.env := by rfl) (hpl : (backTo pos (starEach es X.env)).any (·.1) = false := by rfl) : PD X (.Call (.Name x p) (e :: es) [] pos) (dCall fc tl) :=
  ⟨fun _ _ h _ _ _ _ rp _ q => ⟨_, pe_callTy hc hg hm hv pa_w hn hdb he hpl, cb_run hd ha h rp q⟩⟩
/-- len -/
def dLen : List D → (D → Prop) → Prop
  | [.str s], K => s.length ≤ sizeLine ∧ K (.int s.length)
  | [.lst ds], K => K (.int ds.length)
  | [.tup ds], K => K (.int ds.length)
  | [.dK ks ds], K => K (.int ks.length)
  | _, _ => False
abbrev rLen2 (K : PySem.W.Frag) : List V → Hp → VK → Prop := fun xs H Q => (∃ x n, xs = [x] ∧ LenV K x H n ∧ Q (.int n) H) ∨ ∃ a kvs, xs = [V.ref a] ∧ H a = some (.dK kvs) ∧ Q (.int kvs.length) H
theorem cr_len2 : CallR X (.builtin "len") (rLen2 X.K) := call_len.or call_lenD
theorem one_of {H : Hp} {d : D} {vs : List V} (h : IsL H [d] vs) : ∃ v, vs = [v] ∧ Is H d v := by
  obtain ⟨v, r, rfl, h1, h2⟩ := h
  cases (show r = [] from h2)
  exact ⟨v, rfl, h1⟩
theorem two_of {H : Hp} {d e : D} {vs : List V} (h : IsL H [d, e] vs) : ∃ v w, vs = [v, w] ∧ Is H d v ∧ Is H e w := by
  obtain ⟨v, r, rfl, h1, h2⟩ := h
  obtain ⟨w, rfl, h3⟩ := one_of h2
  exact ⟨v, w, rfl, h1, h3⟩
theorem cd_len {K : PySem.W.Frag} : CallD (rLen2 K) dLen := by
  intro Hk H vs ds Kd e i h Q q
  unfold dLen at h
  split at h
  · obtain ⟨v, rfl, iv⟩ := one_of i
    cases (show v = _ from iv)
    exact .inl ⟨_, _, rfl, ⟨h.1, rfl⟩, st_refl e h.2 rfl q⟩
  · obtain ⟨v, rfl, iv⟩ := one_of i
    obtain ⟨a, us, rfl, ha, ia⟩ := iv
    exact .inl ⟨_, us.length, rfl, .inl ⟨us, .inl (.inl (e _ _ ha)), rfl⟩, by rw [ia.len]; exact st_refl e h rfl q⟩
  · obtain ⟨v, rfl, iv⟩ := one_of i
    obtain ⟨a, us, rfl, ha, ia⟩ := iv
    exact .inl ⟨_, us.length, rfl, .inr ⟨us, .inl (.inl (e _ _ ha)), rfl⟩, by rw [ia.len]; exact st_refl e h rfl q⟩
  · obtain ⟨v, rfl, iv⟩ := one_of i
    obtain ⟨a, kvs, rfl, ha, ek, ia⟩ := iv
    refine .inr ⟨_, kvs, rfl, e _ _ ha, ?_⟩
    rw [← ek, List.length_map] at h
    exact st_refl e h rfl q
  · exact h.elim
/-- all, any of a list of bools -/
def dAll : List D → (D → Prop) → Prop
  | [.lst ds], K => ∃ bs : List Bool, ds = bs.map D.bl ∧ K (.bl (bs.all fun b => b))
  | _, _ => False
def dAny : List D → (D → Prop) → Prop
  | [.lst ds], K => ∃ bs : List Bool, ds = bs.map D.bl ∧ K (.bl (bs.any fun b => b))
  | _, _ => False
theorem cd_all {K : PySem.W.Frag} : CallD (rAll K) dAll := by
  intro Hk H vs ds Kd e i h Q q
  unfold dAll at h
  split at h
  · obtain ⟨v, rfl, iv⟩ := one_of i
    obtain ⟨bs, rfl, h⟩ := h
    obtain ⟨a, us, rfl, ha, ia⟩ := iv
    have eb := ia.bls
    subst eb
    exact ⟨a, bs, rfl, .inl (.inl (e _ _ ha)), st_refl e h rfl q⟩
  · exact h.elim
theorem cd_any {K : PySem.W.Frag} : CallD (rAny K) dAny := by
  intro Hk H vs ds Kd e i h Q q
  unfold dAny at h
  split at h
  · obtain ⟨v, rfl, iv⟩ := one_of i
    obtain ⟨bs, rfl, h⟩ := h
    obtain ⟨a, us, rfl, ha, ia⟩ := iv
    have eb := ia.bls
    subst eb
    exact ⟨a, bs, rfl, .inl (.inl (e _ _ ha)), st_refl e h rfl q⟩
  · exact h.elim
def dMax2 : List D → (D → Prop) → Prop
  | [.int i, .int j], K => K (.int (if j > i then j else i))
  | _, _ => False
def dMin2 : List D → (D → Prop) → Prop
  | [.int i, .int j], K => K (.int (if j < i then j else i))
  | _, _ => False
theorem cd_max2 : CallD (fun xs H Q => ∃ i j, xs = [V.int i, V.int j] ∧ Q (.int (if j > i then j else i)) H) dMax2 := by
  intro Hk H vs ds Kd e i h Q q
  unfold dMax2 at h
  split at h
  · obtain ⟨v, w, rfl, iv, iw⟩ := two_of i
    cases (show v = _ from iv)
    cases (show w = _ from iw)
    exact ⟨_, _, rfl, st_refl e h rfl q⟩
  · exact h.elim
theorem cd_min2 : CallD (fun xs H Q => ∃ i j, xs = [V.int i, V.int j] ∧ Q (.int (if j < i then j else i)) H) dMin2 := by
  intro Hk H vs ds Kd e i h Q q
  unfold dMin2 at h
  split at h
  · obtain ⟨v, w, rfl, iv, iw⟩ := two_of i
    cases (show v = _ from iv)
    cases (show w = _ from iw)
    exact ⟨_, _, rfl, st_refl e h rfl q⟩
  · exact h.elim
/-- list(..) -/
def kD : Key → D
  | .inl i => .int i
  | .inr s => .str s
def dList : List D → (D → Prop) → Prop
  | [.lst ds], K => K (.lst ds)
  | [.tup ds], K => K (.lst ds)
  | [.dK ks ds], K => K (.lst (ks.map kD))
  | _, _ => False
abbrev rList2 (K : PySem.W.Frag) : List V → Hp → VK → Prop := fun xs H Q => (∃ p ys, xs = [V.ref p] ∧ (SqL K H p ys ∨ SqT K H p ys) ∧ ∀ l, H l = none → Q (.ref l) (upd H l (.lst ys))) ∨ rListD xs H Q
theorem cr_list2 (hc : X.calm = true) : CallR X (.type "list") (rList2 X.K) := call_list_of.or (call_list_dK hc)
theorem isKeys {H : Hp} : ∀ ks : List Key, IsL H (ks.map kD) (ks.map kV)
  | [] => rfl
  | .inl i :: ks => ⟨_, _, rfl, rfl, isKeys ks⟩
  | .inr s :: ks => ⟨_, _, rfl, rfl, isKeys ks⟩
theorem cd_list {K : PySem.W.Frag} : CallD (rList2 K) dList := by
  intro Hk H vs ds Kd e i h Q q
  unfold dList at h
  split at h
  · obtain ⟨v, rfl, iv⟩ := one_of i
    obtain ⟨a, us, rfl, ha, ia⟩ := iv
    refine .inl ⟨a, us, rfl, .inl (.inl (.inl (e _ _ ha))), fun p hp => ?_⟩
    have s := Step.new (o := .lst us) e hp
    exact q _ _ _ _ h s ⟨p, _, rfl, upd_same, ia.mono s.k⟩
  · obtain ⟨v, rfl, iv⟩ := one_of i
    obtain ⟨a, us, rfl, ha, ia⟩ := iv
    refine .inl ⟨a, us, rfl, .inr (.inl (.inl (e _ _ ha))), fun p hp => ?_⟩
    have s := Step.new (o := .lst us) e hp
    exact q _ _ _ _ h s ⟨p, _, rfl, upd_same, ia.mono s.k⟩
  · obtain ⟨v, rfl, iv⟩ := one_of i
    obtain ⟨a, kvs, rfl, ha, ek, ia⟩ := iv
    refine .inr ⟨a, kvs, rfl, e _ _ ha, fun p hp => ?_⟩
    have s := Step.new (o := .lst (kvs.map fun kv => kV kv.1)) e hp
    refine q _ _ _ _ h s ⟨p, _, rfl, upd_same, ?_⟩
    rw [← ek, show (kvs.map fun kv => kV kv.1) = (kvs.map (·.1)).map kV by rw [List.map_map] <;> rfl]
    exact isKeys _
  · exact h.elim
end
end DL
set_option maxHeartbeats 4000000
/-! readings upon data: targets, what is walked, comprehensions, statements, defs -/
namespace DL
open PySem PySem.Spec PyProof.Rows L2

/-! ### targets -/
abbrev TDGs := List D → G → (G → Prop) → Prop
structure PDg (X : Cx) (tg : Expr) (js : List Nat) (t : TDG) : Prop where
  run : ∀ d Γ R, t d Γ R → ∀ E Hk H σ v, Rp E Γ Hk H σ → Is Hk d v → ∀ Q : St → Hp → Prop, (∀ Γ' σ2, R Γ' → Rp E Γ' Hk H σ2 → (σ2.length = σ.length ∧ ∀ i, i ∉ js → σ2[i]? = σ[i]?) → (∀ i, i ∉ js → Γ'[i]? = Γ[i]?) → Q σ2 H) → WG X tg v σ H Q
structure PDgs (X : Cx) (ts : List Expr) (js : List Nat) (t : TDGs) : Prop where
  run : ∀ ds Γ R, t ds Γ R → ∀ E Hk H σ vs, Rp E Γ Hk H σ → IsL Hk ds vs → ∀ Q : St → Hp → Prop, (∀ Γ' σ2, R Γ' → Rp E Γ' Hk H σ2 → (σ2.length = σ.length ∧ ∀ i, i ∉ js → σ2[i]? = σ[i]?) → (∀ i, i ∉ js → Γ'[i]? = Γ[i]?) → Q σ2 H) → ∃ t, PGs X ts t ∧ t vs σ H Q
def WGs (X : Cx) (ts : List Expr) : TGs := fun vs σ H Q => ∃ t, PGs X ts t ∧ t vs σ H Q
section
variable {X : Cx} {pos : Pos}
theorem pgs_w {ts : List Expr} : PGs X ts (WGs X ts) := ⟨fun pins s σ H vs us Q I r ⟨t, p, h⟩ => p.run pins s σ H vs us Q I r h⟩
def dgName (i : Nat) : TDG := fun d Γ R => R (Γ.set i (.val d))
theorem pdg_name (i : Nat) {x : Str} (hN : X.N.Nodup) (hi : X.N[i]? = some x := by rfl) (hx : Loc X.env.scope x := by first | exact .inl rfl | exact .inr rfl) (hf : X.fn x = true ∨ X.env.scope.names.lookup x = some .local := by first | exact .inl rfl | exact .inr rfl) : PDg X (.Name x pos) [i] (dgName i) :=
  ⟨fun d Γ R k E Hk H σ v rp iv Q q => ⟨_, pg_name hN hi hx hf, q _ _ k (rp.set i iv) ⟨List.length_set, fun j hj => by rw [List.getElem?_set_ne (by simpa [eq_comm] using hj)]⟩ (fun j hj => by rw [List.getElem?_set_ne (by simpa [eq_comm] using hj)])⟩⟩
def dgNil : TDGs := fun ds Γ R => ds = [] ∧ R Γ
def dgCons (t : TDG) (u : TDGs) : TDGs := fun ds Γ R => match ds with
  | d :: ds => t d Γ fun Γ1 => u ds Γ1 R
  | [] => False
theorem pdgs_nil : PDgs X [] [] dgNil := ⟨fun ds Γ R k E Hk H σ vs rp iv Q q => ⟨_, pgs_nil, by
  obtain ⟨rfl, k⟩ := k
  exact ⟨iv, q _ _ k rp ⟨rfl, fun _ _ => rfl⟩ (fun _ _ => rfl)⟩⟩⟩
theorem pdgs_cons {e : Expr} {es : List Expr} {js ks : List Nat} {t : TDG} {u : TDGs} (h1 : PDg X e js t) (h2 : PDgs X es ks u)
    (hs : (assignEach (e :: es) X.env).map (·.2) = assign e X.env :: (assignEach es X.env).map (·.2) := by rfl) : PDgs X (e :: es) (js ++ ks) (dgCons t u) := by
  refine ⟨fun ds Γ R k E Hk H σ vs rp iv Q q => ⟨_, pgs_cons pg_w pgs_w hs, ?_⟩⟩
  cases ds with
  | nil => exact k.elim
  | cons d ds =>
    obtain ⟨v, r, rfl, i1, i2⟩ := iv
    refine ⟨v, r, rfl, ?_⟩
    refine h1.run d Γ _ k E Hk H σ v rp i1 _ fun Γ1 σ1 k1 r1 a1 b1 => ?_
    exact h2.run ds Γ1 R k1 E Hk H σ1 r r1 i2 Q fun Γ2 σ2 k2 r2 a2 b2 => q Γ2 σ2 k2 r2 ⟨a2.1.trans a1.1, fun i hi => (a2.2 i fun z => hi (List.mem_append_right _ z)).trans (a1.2 i fun z => hi (List.mem_append_left _ z))⟩
      (fun i hi => (b2 i fun z => hi (List.mem_append_right _ z)).trans (b1 i fun z => hi (List.mem_append_left _ z)))
def dgTup (n : Nat) (t : TDGs) : TDG := fun d Γ R => match d with
  | .tup ds => ds.length = n ∧ t ds Γ R
  | _ => False
def dgLst (n : Nat) (t : TDGs) : TDG := fun d Γ R => match d with
  | .lst ds => ds.length = n ∧ t ds Γ R
  | _ => False
theorem pdg_tup {es : List Expr} {k : Nat} {js : List Nat} {t : TDGs} {n : Nat} (hc : X.calm = true) (h : PDgs X es js t)
    (hn : (assignEach es X.env).length = n := by rfl) (hst : (assignEach es X.env).findIdx? (·.1) = none := by rfl) : PDg X (.Tuple es k pos) js (dgTup n t) := by
  refine ⟨fun d Γ R k E Hk H σ v rp iv Q q => ⟨_, pg_tup hc pgs_w hn hst, ?_⟩⟩
  unfold dgTup at k
  split at k
  · obtain ⟨a, xs, rfl, ha, ia⟩ := iv
    exact ⟨a, xs, rfl, .inl (.inl (rp.step.s _ _ ha)), by rw [ia.len]; exact k.1, h.run _ Γ R k.2 E Hk H σ xs rp ia Q q⟩
  · exact k.elim
theorem pdg_lst {es : List Expr} {k : Nat} {js : List Nat} {t : TDGs} {n : Nat} (hc : X.calm = true) (h : PDgs X es js t)
    (hn : (assignEach es X.env).length = n := by rfl) (hst : (assignEach es X.env).findIdx? (·.1) = none := by rfl) : PDg X (.Tuple es k pos) js (dgLst n t) := by
  refine ⟨fun d Γ R k E Hk H σ v rp iv Q q => ⟨_, pg_unl hc pgs_w hn hst, ?_⟩⟩
  unfold dgLst at k
  split at k
  · obtain ⟨a, xs, rfl, ha, ia⟩ := iv
    exact ⟨a, xs, rfl, .inl (.inl (rp.step.s _ _ ha)), by rw [ia.len]; exact k.1, h.run _ Γ R k.2 E Hk H σ xs rp ia Q q⟩
  · exact k.elim

/-! ### what is walked -/
abbrev TDI := G → (List D → G → Prop) → Prop
structure ItD (J : It) (items : List D) (Hk : Hp) : Prop where
  go : ∀ i H, i < items.length → Ex Hk H → J.go i H
  stop : ∀ H, Ex Hk H → J.stop items.length H
  yld : ∀ i d Hk1 H x H', items[i]? = some d → Ex Hk Hk1 → Ex Hk1 H → J.yld i H x H' → ∃ Hk', Step Hk1 H Hk' H' ∧ Is Hk' d x
def WI (X : Cx) (tg iter : Expr) : TI := fun σ H R => ∃ wi, PI X tg iter wi ∧ wi σ H R
theorem pi_w {tg iter : Expr} : PI X tg iter (WI X tg iter) := ⟨fun pins s σ H R I ⟨t, p, h⟩ => p.run pins s σ H R I h⟩
structure PDI (X : Cx) (tg iter : Expr) (t : TDI) : Prop where
  run : ∀ Γ R, t Γ R → ∀ E Hk H σ, Rp E Γ Hk H σ → ∀ Q : It → Hp → Prop, (∀ J items Γ' Hk2 H2, R items Γ' → Rp E Γ' Hk2 H2 σ → Ex Hk Hk2 → ItD J items Hk2 → Q J H2) → WI X tg iter σ H Q
variable {tg e e2 : Expr} {ta tb : TD} {x : Str} {p : Pos} {tl : TDA}
def dItL (t : TD) : TDI := fun Γ R => t Γ fun d Γ1 => match d with
  | .lst ds => R ds Γ1
  | _ => False
def dItT (t : TD) : TDI := fun Γ R => t Γ fun d Γ1 => match d with
  | .tup ds => R ds Γ1
  | _ => False
theorem itd_list {K : PySem.W.Frag} {Hk : Hp} {a : Addr} {xs : List V} {ds : List D} (ha : Hk a = some (.lst xs)) (ia : IsL Hk ds xs) : ItD (Itl K a) ds Hk := by
  have w := walk_list (K := K) (a := a) (xs := xs)
  refine ⟨fun i H hi e => w.goes i H (by rw [ia.len]; exact hi) (.inl (.inl (e _ _ ha))), fun H e => by rw [← ia.len]; exact w.stops H (.inl (.inl (e _ _ ha))), fun i d Hk1 H x H' hd e1 e2 y => ?_⟩
  have hi : i < ds.length := (List.getElem?_eq_some_iff.mp hd).1
  obtain ⟨rfl, hx⟩ := w.yields i H x H' (by rw [ia.len]; exact hi) (.inl (.inl (e2 _ _ (e1 _ _ ha)))) y
  obtain ⟨v, h1, h2⟩ := ia.get hd
  rw [hx] at h1
  cases h1
  exact ⟨Hk1, Step.refl e2, h2.mono e1⟩
theorem itd_tup {K : PySem.W.Frag} {Hk : Hp} {a : Addr} {xs : List V} {ds : List D} (ha : Hk a = some (.tup xs)) (ia : IsL Hk ds xs) : ItD (Itt K a) ds Hk := by
  have w := walk_tup (K := K) (a := a) (xs := xs)
  refine ⟨fun i H hi e => w.goes i H (by rw [ia.len]; exact hi) (.inl (.inl (e _ _ ha))), fun H e => by rw [← ia.len]; exact w.stops H (.inl (.inl (e _ _ ha))), fun i d Hk1 H x H' hd e1 e2 y => ?_⟩
  have hi : i < ds.length := (List.getElem?_eq_some_iff.mp hd).1
  obtain ⟨rfl, hx⟩ := w.yields i H x H' (by rw [ia.len]; exact hi) (.inl (.inl (e2 _ _ (e1 _ _ ha)))) y
  obtain ⟨v, h1, h2⟩ := ia.get hd
  rw [hx] at h1
  cases h1
  exact ⟨Hk1, Step.refl e2, h2.mono e1⟩
theorem pdi_list (h : PD X e ta) : PDI X tg e (dItL ta) := by
  refine ⟨fun Γ R k E Hk H σ rp Q q => ⟨_, pi_list pe_w, ?_⟩⟩
  refine h.run Γ _ k E Hk H σ rp _ fun v d Γ1 Hk1 H1 k1 r1 e1 i1 => ?_
  split at k1
  · obtain ⟨a, xs, rfl, ha, ia⟩ := i1
    exact ⟨a, rfl, ⟨xs, .inl (.inl (r1.step.s _ _ ha))⟩, q _ _ Γ1 Hk1 H1 k1 r1 e1 (itd_list ha ia)⟩
  · exact k1.elim
theorem pdi_tup (h : PD X e ta) : PDI X tg e (dItT ta) := by
  refine ⟨fun Γ R k E Hk H σ rp Q q => ⟨_, pi_tup pe_w, ?_⟩⟩
  refine h.run Γ _ k E Hk H σ rp _ fun v d Γ1 Hk1 H1 k1 r1 e1 i1 => ?_
  split at k1
  · obtain ⟨a, xs, rfl, ha, ia⟩ := i1
    exact ⟨a, rfl, ⟨xs, .inl (.inl (r1.step.s _ _ ha))⟩, q _ _ Γ1 Hk1 H1 k1 r1 e1 (itd_tup ha ia)⟩
  · exact k1.elim
/-- range(n), n from 0 -/
def upTo (n : Nat) : List D := (List.range n).map fun i => .int (i : Nat)
def dItR (t : TDA) : TDI := fun Γ R => t Γ fun ds Γ1 => match ds with
  | [.int n] => n < 2 ^ 62 ∧ -(2 ^ 62) ≤ n ∧ R (upTo n.toNat) Γ1
  | _ => False
theorem upTo_get {n i : Nat} (h : i < n) : (upTo n)[i]? = some (.int (i : Nat)) := by
  unfold upTo
  rw [List.getElem?_map, List.getElem?_range h] <;> rfl
theorem upTo_len (n : Nat) : (upTo n).length = n := by
  unfold upTo
  rw [List.length_map, List.length_range]
theorem itd_range {n : Nat} {Hk : Hp} : ItD (Itr 0 n) (upTo n) Hk := by
  have w := walk_range (lo := 0) (n := n)
  refine ⟨fun i H hi e => w.goes i H (by rw [upTo_len] at hi; exact hi) trivial, fun H e => by rw [upTo_len]; exact w.stops H trivial, fun i d Hk1 H x H' hd e1 e2 y => ?_⟩
  have hi : i < n := by
    have z := (List.getElem?_eq_some_iff.mp hd).1
    rw [upTo_len] at z
    exact z
  obtain ⟨rfl, hx⟩ := w.yields i H x H' hi trivial y
  rw [upTo_get hi] at hd
  cases hd
  refine ⟨Hk1, Step.refl e2, ?_⟩
  show x = V.int (i : Nat)
  rw [hx]
  show V.int (0 + ((i : Nat) : Int)) = _
  rw [Int.zero_add]
theorem pdi_range1 {a : Expr} (hg : Gl X "range") (hm : X.mg "range" = none) (ha : PDA X [a] tl) (hs : starEach [a] X.env = (false, eval a X.env) :: starEach [] X.env := by rfl) : PDI X tg (.Call (.Name "range" p) [a] [] pos) (dItR tl) := by
  refine ⟨fun Γ R k E Hk H σ rp Q q => ⟨_, pi_range1 hg hm pa_w hs, ?_⟩⟩
  refine ha.run Γ _ k E Hk H σ rp _ fun vs ds Γ1 Hk1 H1 k1 r1 e1 i1 => ?_
  split at k1
  · obtain ⟨v, rfl, iv⟩ := one_of i1
    cases (show v = _ from iv)
    exact ⟨_, rfl, k1.2.1, k1.1, q _ _ Γ1 Hk1 H1 k1.2.2 r1 e1 itd_range⟩
  · exact k1.elim
/-- pairs -/
theorem itd_pair {J : It} {n : Nat} {Gd : Hp → Prop} {fx fy : Nat → Option V} {items : List D} {Hk : Hp} (w : Walk J n Gd (YPair fx fy)) (hn : items.length = n) (hG : ∀ H, Ex Hk H → Gd H)
    (hi : ∀ i d, items[i]? = some d → ∃ a b x y, d = .tup [a, b] ∧ fx i = some x ∧ fy i = some y ∧ Is Hk a x ∧ Is Hk b y) : ItD J items Hk := by
  refine ⟨fun i H h e => w.goes i H (by rw [← hn]; exact h) (hG H e), fun H e => by rw [hn]; exact w.stops H (hG H e), fun i d Hk1 H x H' hd e1 e2 y => ?_⟩
  have hlt : i < n := by
    rw [← hn]
    exact (List.getElem?_eq_some_iff.mp hd).1
  obtain ⟨T, u, v, rfl, hT, rfl, h1, h2⟩ := w.yields i H x H' hlt (hG H (e1.trans e2)) y
  obtain ⟨a, b, u', v', rfl, h3, h4, i3, i4⟩ := hi i d hd
  rw [h1] at h3
  rw [h2] at h4
  cases h3
  cases h4
  have s := Step.new (o := .tup [u, v]) e2 hT
  exact ⟨_, s, T, _, rfl, upd_same, .cons (i3.mono (e1.trans s.k)) (.cons (i4.mono (e1.trans s.k)) .nil)⟩
def enumD (ds : List D) : List D := ds.mapIdx fun i d => .tup [.int (i : Nat), d]
def zipD (ds es : List D) : List D := (ds.zip es).map fun q => .tup [q.1, q.2]
def dItE (t : TDA) : TDI := fun Γ R => t Γ fun ds Γ1 => match ds with
  | [.lst ds] => R (enumD ds) Γ1
  | _ => False
def dItZ (t : TDA) : TDI := fun Γ R => t Γ fun ds Γ1 => match ds with
  | [.lst ds, .lst es] => R (zipD ds es) Γ1
  | _ => False
theorem pdi_enum {elts : List Expr} {kk : Nat} {tpos : Pos} (hg : Gl X "enumerate") (hm : X.mg "enumerate" = none) (ha : PDA X [e] tl) (hs : starEach [e] X.env = (false, eval e X.env) :: starEach [] X.env := by rfl) : PDI X (.Tuple elts kk tpos) (.Call (.Name "enumerate" p) [e] [] pos) (dItE tl) := by
  refine ⟨fun Γ R k E Hk H σ rp Q q => ⟨_, pi_enum hg hm pa_w hs, ?_⟩⟩
  refine ha.run Γ _ k E Hk H σ rp _ fun vs ds Γ1 Hk1 H1 k1 r1 e1 i1 => ?_
  split at k1
  · obtain ⟨v, rfl, iv⟩ := one_of i1
    obtain ⟨a, xs, rfl, ha, ia⟩ := iv
    refine ⟨a, xs, rfl, .inl (.inl (r1.step.s _ _ ha)), q _ _ Γ1 Hk1 H1 k1 r1 e1 ?_⟩
    refine itd_pair walk_enum (by unfold enumD; rw [List.length_mapIdx, ia.len]) (fun H e => .inl (.inl (e _ _ ha))) fun i d hd => ?_
    unfold enumD at hd
    rw [List.getElem?_mapIdx] at hd
    obtain ⟨d', h1, rfl⟩ := Option.map_eq_some_iff.mp hd
    obtain ⟨v, h2, h3⟩ := ia.get h1
    exact ⟨_, _, _, v, rfl, rfl, h2, rfl, h3⟩
  · exact k1.elim
theorem pdi_zip {elts : List Expr} {kk : Nat} {tpos : Pos} (hg : Gl X "zip") (hm : X.mg "zip" = none) (ha : PDA X [e, e2] tl) (hs : starEach [e, e2] X.env = (false, eval e X.env) :: starEach [e2] X.env := by rfl) (hpl : (backTo pos (starEach [e2] X.env)).any (·.1) = false := by rfl) : PDI X (.Tuple elts kk tpos) (.Call (.Name "zip" p) [e, e2] [] pos) (dItZ tl) := by
  refine ⟨fun Γ R k E Hk H σ rp Q q => ⟨_, pi_zip hg hm pa_w hs hpl, ?_⟩⟩
  refine ha.run Γ _ k E Hk H σ rp _ fun vs ds Γ1 Hk1 H1 k1 r1 e1 i1 => ?_
  split at k1
  · obtain ⟨v, w, rfl, iv, iw⟩ := two_of i1
    obtain ⟨a, xs, rfl, ha, ia⟩ := iv
    obtain ⟨b, ys, rfl, hb, ib⟩ := iw
    refine ⟨a, b, xs, ys, rfl, .inl (.inl (r1.step.s _ _ ha)), .inl (.inl (r1.step.s _ _ hb)), q _ _ Γ1 Hk1 H1 k1 r1 e1 ?_⟩
    refine itd_pair (walk_zip rfl) (by unfold zipD; rw [List.length_map, List.length_zip, ia.len, ib.len]) (fun H e => ⟨.inl (.inl (e _ _ ha)), .inl (.inl (e _ _ hb))⟩) fun i d hd => ?_
    unfold zipD at hd
    rw [List.getElem?_map] at hd
    obtain ⟨⟨d1, d2⟩, h1, rfl⟩ := Option.map_eq_some_iff.mp hd
    obtain ⟨h2, h3⟩ := List.getElem?_zip_eq_some.mp h1
    obtain ⟨v1, h4, h5⟩ := ia.get h2
    obtain ⟨v2, h6, h7⟩ := ib.get h3
    exact ⟨_, _, v1, v2, rfl, h4, h6, h5, h7⟩
  · exact k1.elim
end

/-! ### the block of a comprehension -/
def wipeG (Γ : G) : List Nat → G
  | [] => Γ
  | v :: vs => (wipeG Γ vs).set v .un
theorem wipeG_len (Γ : G) : ∀ vs : List Nat, (wipeG Γ vs).length = Γ.length
  | [] => rfl
  | v :: vs => by
    unfold wipeG
    rw [List.length_set, wipeG_len Γ vs]
theorem wipeG_out {Γ : G} {i : Nat} : ∀ {vs : List Nat}, i ∉ vs → (wipeG Γ vs)[i]? = Γ[i]?
  | [], _ => rfl
  | v :: vs, h => by
    unfold wipeG
    rw [List.getElem?_set_ne (fun z => h (by rw [z]; exact List.mem_cons_self)), wipeG_out fun z => h (List.mem_cons_of_mem _ z)]
theorem wipeG_in {Γ : G} {i : Nat} {s : Slot} : ∀ {vs : List Nat}, i ∈ vs → (wipeG Γ vs)[i]? = some s → s = .un
  | [], h, _ => nomatch h
  | v :: vs, h, e => by
    unfold wipeG at e
    rcases get_set e with ⟨_, z⟩ | ⟨n, z⟩
    · exact z
    · rcases List.mem_cons.mp h with q | q
      · exact absurd q.symm n
      · exact wipeG_in q z
theorem wipe_out2 {σ : St} {i : Nat} : ∀ {vs : List Nat}, i ∉ vs → (wipe σ vs)[i]? = σ[i]? := fun {vs} h => wipe_out h
theorem wipe_ext {σ1 σ2 : St} {vs : List Nat} (hl : σ1.length = σ2.length) (h : ∀ i, i ∉ vs → σ1[i]? = σ2[i]?) : wipe σ1 vs = wipe σ2 vs := by
  have wi : ∀ (σ : St) (ws : List Nat) (i : Nat), i ∈ ws → (wipe σ ws)[i]? = if i < σ.length then some none else none := by
    intro σ ws
    induction ws with
    | nil => intro i h; exact nomatch h
    | cons v ws ih =>
      intro i hi
      unfold wipe
      by_cases e : v = i
      · subst e
        rw [List.getElem?_set, if_pos rfl, wipe_length]
      · rw [List.getElem?_set_ne e]
        rcases List.mem_cons.mp hi with q | q
        · exact absurd q.symm e
        · exact ih i q
  refine List.ext_getElem? fun i => ?_
  by_cases hi : i ∈ vs
  · rw [wi σ1 vs i hi, wi σ2 vs i hi, hl]
  · rw [wipe_out2 hi, wipe_out2 hi, h i hi]
end DL
set_option maxHeartbeats 4000000
/-! readings upon data: comprehensions, statements, defs -/
namespace DL
open PySem PySem.Spec PyProof.Rows L2

section
variable {E : En} {Γ : G} {Hk H Hk2 H2 : Hp} {σ : St}
/-- an object that is nobody's changes -/
theorem Rp.other (r : Rp E Γ Hk H σ) {D : Addr} {o : HO} (h0 : E.2 D = none) (hk : Hk D = none) (ap : ∀ (i : Nat) o, Γ[i]? = some (.own o) → σ[i]? ≠ some (some (.ref D))) : Rp E Γ Hk (upd H D o) σ :=
  ⟨⟨r.step.k, r.step.h.mut h0, r.step.s.mut hk, r.step.g⟩, r.len, r.val, fun i o' q => by
    obtain ⟨m, h1, h2, h3, h4⟩ := r.own i o' q
    refine ⟨m, h1, h2, h3, h4.mono (Ex.refl _) fun z q' => ?_⟩
    rw [upd_ne]
    · exact q'
    · intro z
      subst z
      exact ap i o' q h1, r.sep, r.pin⟩
/-- .. is known from here on -/
theorem Rp.know (r : Rp E Γ Hk H σ) {D : Addr} {o : HO} (h0 : E.2 D = none) (hk : Hk D = none) (hD : H D = some o) (ap : ∀ (i : Nat) o, Γ[i]? = some (.own o) → σ[i]? ≠ some (some (.ref D))) : Ex Hk (upd Hk D o) ∧ Rp E Γ (upd Hk D o) H σ := by
  have ek : Ex Hk (upd Hk D o) := Ex.new hk
  refine ⟨ek, ⟨r.step.k.trans ek, r.step.h, fun a u q => ?_, fun a h1 h2 => ?_⟩, r.len, fun i d q => ?_, fun i o' q => ?_, r.sep, r.pin⟩
  · by_cases e : a = D
    · subst e
      rw [upd_same] at q
      rw [hD]
      exact q
    · rw [upd_ne e] at q
      exact r.step.s a u q
  · rw [upd_ne (fun z => h2 (by rw [z]; exact h0))]
    exact r.step.g a h1 h2
  · obtain ⟨x, h1, h2⟩ := r.val i d q
    exact ⟨x, h1, h2.mono ek⟩
  · obtain ⟨m, h1, h2, h3, h4⟩ := r.own i o' q
    refine ⟨m, h1, ?_, h3, h4.mono ek fun _ z => z⟩
    rw [upd_ne]
    · exact h2
    · intro z
      subst z
      exact ap i o' q h1
theorem Rp.apart (r : Rp E Γ Hk H σ) {D : Addr} (h : H D = none) : ∀ (i : Nat) o, Γ[i]? = some (.own o) → σ[i]? ≠ some (some (.ref D)) := fun i o q z => by
  obtain ⟨m, h1, _, _, h4⟩ := r.own i o q
  rw [z] at h1
  cases h1
  exact h4.there h
def noOwn (vs : List Nat) (Γ : G) : Bool := vs.all fun i => match Γ[i]? with
  | some (.own _) => false
  | _ => true
theorem noOwn_out {vs : List Nat} (h : noOwn vs Γ = true) {i : Nat} {o : OD} (q : Γ[i]? = some (.own o)) : i ∉ vs := fun hi => by
  have z := List.all_eq_true.mp h i hi
  rw [q] at z
  cases z
/-- behind a block: what is outside its own slots -/
theorem Rp.back (r : Rp E Γ Hk H σ) {Γ2 Γ' : G} {σ2 : St} {vs : List Nat} (q : Rp (E.nr Hk (lessOwn Γ σ H)) Γ2 Hk2 H2 σ2) (no : noOwn vs Γ = true) (hl : Γ'.length = Γ.length)
    (hi : ∀ i, i ∈ vs → Γ'[i]? = Γ[i]?) (ho : ∀ i, i ∉ vs → Γ'[i]? = Γ2[i]?) (hσ : ∀ i, i ∉ vs → σ2[i]? = σ[i]?) : Rp E Γ' Hk2 H2 σ := by
  refine r.far ⟨q.step, by rw [r.len, hl], fun i d e => ?_, fun i o e => ?_, fun i j o o' l e1 e2 e3 e4 => ?_, fun l p ⟨o, e⟩ => by
    by_cases h : 0 ∈ vs
    · rw [hi 0 h] at e
      exact absurd h (noOwn_out no e)
    · rw [ho 0 h] at e
      rw [← hσ 0 h]
      exact q.pin l p ⟨o, e⟩⟩
  · by_cases h : i ∈ vs
    · rw [hi i h] at e
      obtain ⟨x, h1, h2⟩ := r.val i d e
      exact ⟨x, h1, h2.mono q.step.k⟩
    · rw [ho i h] at e
      obtain ⟨x, h1, h2⟩ := q.val i d e
      exact ⟨x, by rw [← hσ i h]; exact h1, h2⟩
  · by_cases h : i ∈ vs
    · rw [hi i h] at e
      exact absurd h (noOwn_out no e)
    · rw [ho i h] at e
      obtain ⟨l, h1, h2⟩ := q.own i o e
      exact ⟨l, by rw [← hσ i h]; exact h1, h2⟩
  · have n1 : i ∉ vs := fun h => by
      rw [hi i h] at e1
      exact absurd h (noOwn_out no e1)
    have n2 : j ∉ vs := fun h => by
      rw [hi j h] at e2
      exact absurd h (noOwn_out no e2)
    rw [ho i n1] at e1
    rw [ho j n2] at e2
    exact q.sep i j o o' l e1 e2 (by rw [hσ i n1]; exact e3) (by rw [hσ j n2]; exact e4)
theorem Rp.wipe (r : Rp E Γ Hk H σ) (vs : List Nat) : Rp E (wipeG Γ vs) Hk H (L2.wipe σ vs) := by
  refine ⟨r.step, by rw [wipe_length, wipeG_len, r.len], fun i d e => ?_, fun i o e => ?_, fun i j o o' l e1 e2 e3 e4 => ?_, fun l p ⟨o, e⟩ => by
    by_cases h : 0 ∈ vs
    · cases wipeG_in h e
    · rw [wipeG_out h] at e
      rw [wipe_out2 h]
      exact r.pin l p ⟨o, e⟩⟩
  · by_cases h : i ∈ vs
    · cases wipeG_in h e
    · rw [wipeG_out h] at e
      rw [wipe_out2 h]
      exact r.val i d e
  · by_cases h : i ∈ vs
    · cases wipeG_in h e
    · rw [wipeG_out h] at e
      rw [wipe_out2 h]
      exact r.own i o e
  · have n1 : i ∉ vs := fun h => by cases wipeG_in h e1
    have n2 : j ∉ vs := fun h => by cases wipeG_in h e2
    rw [wipeG_out n1] at e1
    rw [wipeG_out n2] at e2
    rw [wipe_out2 n1] at e3
    rw [wipe_out2 n2] at e4
    exact r.sep i j o o' l e1 e2 e3 e4
end
def mergeG (vs : List Nat) : Nat → G → G → G
  | k, a :: as, b :: bs => (if k ∈ vs then a else b) :: mergeG vs (k + 1) as bs
  | _, _, _ => []
theorem mergeG_len (vs : List Nat) : ∀ (k : Nat) (A B : G), A.length = B.length → (mergeG vs k A B).length = A.length
  | _, [], _, _ => by unfold mergeG; rfl
  | _, _ :: _, [], h => nomatch h
  | k, a :: as, b :: bs, h => by
    unfold mergeG
    rw [List.length_cons, List.length_cons, mergeG_len vs (k + 1) as bs (by simpa using h)]
theorem mergeG_at (vs : List Nat) : ∀ (k i : Nat) (A B : G), A.length = B.length → (mergeG vs k A B)[i]? = if k + i ∈ vs then A[i]? else B[i]?
  | _, _, [], [], _ => by unfold mergeG; simp
  | _, _, [], _ :: _, h => nomatch h
  | _, _, _ :: _, [], h => nomatch h
  | k, 0, a :: as, b :: bs, h => by
    unfold mergeG
    by_cases h : k ∈ vs <;> simp [h]
  | k, i + 1, a :: as, b :: bs, h => by
    unfold mergeG
    have ih := mergeG_at vs (k + 1) i as bs (by simpa using h)
    rw [Nat.add_right_comm, Nat.add_assoc] at ih
    simpa using ih

/-! ### comprehensions -/
structure PDTs (X : Cx) (ifs : List Expr) (t : TDB) : Prop where
  run : ∀ Γ R, t Γ R → ∀ E Hk H σ, Rp E Γ Hk H σ → ∀ Q : Bool → Hp → Prop, (∀ b Γ' Hk2 H2, R b Γ' → Rp E Γ' Hk2 H2 σ → Ex Hk Hk2 → Q b H2) → ∃ t, PTs X ifs t ∧ t σ H Q
def dYes : TDB := fun Γ R => R true Γ
theorem pdts_nil {X : Cx} : PDTs X [] dYes := ⟨fun Γ R k E Hk H σ rp Q q => ⟨_, pts_nil, q true Γ Hk H k rp (Ex.refl _)⟩⟩
theorem pdts_one {X : Cx} {c : Expr} {t : TDB} (h : PDT X c t) : PDTs X [c] t := ⟨fun Γ R k E Hk H σ rp Q q => ⟨_, pts_one pt_w, h.run Γ R k E Hk H σ rp Q q⟩⟩
def WTs (X : Cx) (ifs : List Expr) : TT := fun σ H Q => ∃ t, PTs X ifs t ∧ t σ H Q
theorem pts_w {X : Cx} {ifs : List Expr} : PTs X ifs (WTs X ifs) := ⟨fun pins s σ H Q I ⟨t, p, h⟩ => p.run pins s σ H Q I h⟩
/-- [elt for target in iter if ..]: nothing else changes; p what is kept, f what is made of it -/
def dLc (ti : TDI) (g : TDG) (tt : TDB) (te : TD) (vs : List Nat) : TD := fun Γ R => ti Γ fun items Γ1 => items.length ≤ sizeLine ∧ noOwn vs Γ1 = true ∧ ∃ (p : D → Bool) (f : D → D),
  (∀ d ∈ items, g d (wipeG Γ1 vs) fun Γ2 => tt Γ2 fun b Γ3 => Γ3 = Γ2 ∧ b = p d ∧ (p d = true → te Γ2 fun e Γ4 => Γ4 = Γ2 ∧ e = f d)) ∧ R (.lst ((items.filter p).map f)) Γ1
/-- .. with what changes: I by the turn, what is made so far, the slots -/
def dLcI (ti : TDI) (g : TDG) (te : TD) (vs : List Nat) : TD := fun Γ R => ti Γ fun items Γ1 => items.length ≤ sizeLine ∧ ∃ I : Nat → List D → G → Prop, I 0 [] Γ1 ∧
  (∀ i d ys Γa, items[i]? = some d → I i ys Γa → noOwn vs Γa = true ∧ g d (wipeG Γa vs) fun Γ2 => te Γ2 fun e Γ4 => I (i + 1) (ys ++ [e]) (mergeG vs 0 Γa Γ4)) ∧ ∀ ys Γa, I items.length ys Γa → R (.lst ys) Γa
section
variable {X : Cx} {pos : Pos} {elt tg iter : Expr} {ifs : List Expr} {scope : Scope} {own : List (Str × Nat)} {js : List Nat} {ti : TDI} {g : TDG} {tt : TDB} {te : TD}
abbrev Blk (X : Cx) (scope : Scope) (P : Cx → Prop) : Prop := ∀ (s : Shared) (H : Hp) (C : Addr) (cl : List (Str × Addr)) (fp : List Addr), P (X.blk s H scope (compEnvC scope cl C X.env) fp)
def BG (X : Cx) (scope : Scope) (tg : Expr) : TG := fun v σ H Q => Blk X scope fun Y => WG Y tg v σ H Q
def BT (X : Cx) (scope : Scope) (ifs : List Expr) : TT := fun σ H Q => Blk X scope fun Y => WTs Y ifs σ H Q
def BE (X : Cx) (scope : Scope) (e : Expr) : TE := fun σ H Q => Blk X scope fun Y => WE Y e σ H Q
theorem bg_ok {s : Shared} {H : Hp} {C : Addr} {cl : List (Str × Addr)} {fp : List Addr} : PG (X.blk s H scope (compEnvC scope cl C X.env) fp) tg (BG X scope tg) := ⟨fun pins s' σ H' v u Q I r h => pg_w.run pins s' σ H' v u Q I r (h s H C cl fp)⟩
theorem bt_ok {s : Shared} {H : Hp} {C : Addr} {cl : List (Str × Addr)} {fp : List Addr} : PTs (X.blk s H scope (compEnvC scope cl C X.env) fp) ifs (BT X scope ifs) := ⟨fun pins s' σ H' Q I h => pts_w.run pins s' σ H' Q I (h s H C cl fp)⟩
theorem be_ok {s : Shared} {H : Hp} {C : Addr} {cl : List (Str × Addr)} {fp : List Addr} {e : Expr} : PE (X.blk s H scope (compEnvC scope cl C X.env) fp) e (BE X scope e) := ⟨fun pins s' σ H' Q I h => pe_w.run pins s' σ H' Q I (h s H C cl fp)⟩
theorem lc_run (hi : PDI X tg iter ti) (hj : ∀ j ∈ js, j ∈ own.map (·.2)) (hg : Blk X scope fun Y => PDg Y tg js g) (ht : Blk X scope fun Y => PDTs Y ifs tt) (he : Blk X scope fun Y => PD Y elt te)
    {Γ : G} {R : D → G → Prop} (h : dLc ti g tt te (own.map (·.2)) Γ R) {E : En} {Hk H : Hp} {σ : St} (rp : Rp E Γ Hk H σ) {Q : VK} (q : ∀ v d Γ' Hk2 H2, R d Γ' → Rp E Γ' Hk2 H2 σ → Ex Hk Hk2 → Is Hk2 d v → Q v H2) :
    tLc (WI X tg iter) (BG X scope tg) (BT X scope ifs) (BE X scope elt) (own.map (·.2)) σ H Q := by
  generalize own.map (·.2) = vs at *
  refine hi.run Γ _ h E Hk H σ rp _ fun J items Γ1 Hk1 H1 k1 r1 e1 it D hD => ?_
  obtain ⟨hz, no, p, f, step, fin⟩ := k1
  have apD : ∀ (i : Nat) o, Γ1[i]? = some (.own o) → σ[i]? ≠ some (some (.ref D)) := r1.apart hD
  have l0 : lessOwn Γ1 σ H1 D = none := (lessOwn_out apD).trans hD
  let I : Nat → Hp → Prop := fun i H' => ∃ Hk' acc, Rp (E.nr Hk1 (lessOwn Γ1 σ H1)) Γ1 Hk' H' σ ∧ Hk' D = none ∧ H' D = some (.lst acc) ∧ IsL Hk' (((items.take i).filter p).map f) acc
  have hk1D : Hk1 D = none := r1.step.s.nn hD
  refine ⟨fun i m H' => m = items.length - i ∧ i ≤ items.length ∧ I i H', ⟨items.length, by simp, Nat.zero_le _, Hk1, [], r1.near.other l0 hk1D apD, hk1D, upd_same, by simp; rfl⟩, ?_⟩
  rintro i m H' ⟨rfl, hle, Hk', acc, rI, hkD, hHD, iacc⟩
  have ek : Ex Hk1 Hk' := rI.step.k
  by_cases hlt : i < items.length
  · refine .inr ⟨it.go i H' hlt (ek.trans rI.step.s), I (i + 1), fun H2 p2 => ⟨items.length - (i + 1), by omega, rfl, hlt, p2⟩, fun x H'' y => ?_⟩
    obtain ⟨d, hd⟩ : ∃ d, items[i]? = some d := ⟨_, List.getElem?_eq_getElem hlt⟩
    have htk : items.take (i + 1) = items.take i ++ [d] := by rw [List.take_add_one, hd] <;> rfl
    obtain ⟨Hk2, s2, ix⟩ := it.yld i d Hk' H' x H'' hd ek rI.step.s y
    have r2 : Rp (E.nr Hk1 (lessOwn Γ1 σ H1)) Γ1 Hk2 H'' σ := rI.grow s2
    have hD2 : H'' D = some (.lst acc) := s2.h _ _ hHD
    have hk2 : Hk2 D = none := s2.g D hkD (by rw [hHD]; exact fun z => nomatch z)
    have lD : lessOwn Γ1 σ H'' D = some (.lst acc) := (lessOwn_out apD).trans hD2
    have st := step d (List.mem_of_getElem? hd)
    intro s Hb C cl fp
    refine (hg s Hb C cl fp).run d _ _ st _ Hk2 H'' _ x (r2.near.wipe vs) ix _ fun Γ2 σ2 k2 r3 hs hΓ => ?_
    have hσ : ∀ j, j ∉ vs → σ2[j]? = σ[j]? := fun j hn => (hs.2 j fun z => hn (hj j z)).trans (wipe_out2 hn)
    have hΓ2 : ∀ j, j ∉ vs → Γ2[j]? = Γ1[j]? := fun j hn => (hΓ j fun z => hn (hj j z)).trans (wipeG_out hn)
    refine ⟨?_, ?_⟩
    · exact wipe_ext (hs.1.trans (wipe_length _ _)) hσ
    intro s Hb C cl fp
    refine (ht s Hb C cl fp).run Γ2 _ k2 _ Hk2 H'' σ2 r3 _ fun b Γ3 Hk3 H3 k3 r4 e4 => ?_
    obtain ⟨rfl, rfl, k3⟩ := k3
    have back : ∀ {Hkx Hx : Hp}, Rp (E.nr Hk2 (lessOwn Γ1 σ H'')) Γ3 Hkx Hx σ2 → Rp (E.nr Hk1 (lessOwn Γ1 σ H1)) Γ1 Hkx Hx σ := fun r => r2.back r no rfl (fun _ _ => rfl) (fun j hn => (hΓ2 j hn).symm) hσ
    cases hp : p d with
    | false =>
      rw [if_neg Bool.false_ne_true]
      refine ⟨Hk3, acc, back r4, ?_, ?_, ?_⟩
      · exact r4.step.g D hk2 (show lessOwn Γ1 σ H'' D ≠ none from by rw [lD]; exact fun z => nomatch z)
      · exact r4.step.h D _ lD
      · rw [htk, List.filter_append, List.filter_cons, hp]
        simp
        exact iacc.mono (s2.k.trans e4)
    | true =>
      rw [if_pos rfl]
      intro s Hb C cl fp
      refine (he s Hb C cl fp).run Γ3 _ (k3 hp) _ Hk3 H3 σ2 r4 _ fun v e Γ4 Hk4 H4 k4 r5 e5 iv => ?_
      obtain ⟨rfl, rfl⟩ := k4
      have h4 : H4 D = some (.lst acc) := r5.step.h D _ lD
      have hk4 : Hk4 D = none := r5.step.g D hk2 (show lessOwn Γ1 σ H'' D ≠ none from by rw [lD]; exact fun z => nomatch z)
      refine ⟨acc, h4, ?_, Hk4, acc ++ [v], (back r5).other l0 hk4 apD, hk4, upd_same, ?_⟩
      · rw [iacc.len, List.length_map]
        have := List.length_filter_le p (items.take i)
        rw [List.length_take] at this
        omega
      · rw [htk, List.filter_append, List.filter_cons, hp, if_pos rfl, List.map_append]
        exact (iacc.mono ((s2.k.trans e4).trans e5)).append (.cons iv .nil)
  · have e : i = items.length := by omega
    subst e
    refine .inl ⟨it.stop H' (ek.trans rI.step.s), ?_⟩
    obtain ⟨ek2, r6⟩ := (r1.far rI).know (show E.2 D = none from r1.step.h.nn hD) hkD hHD apD
    rw [List.take_length] at iacc
    exact q _ _ Γ1 _ H' fin r6 ((e1.trans ek).trans ek2) ⟨D, acc, rfl, upd_same, iacc.mono ek2⟩
theorem pd_lc (hc : X.calm = true) (hN : X.N.Nodup) (hi : PDI X tg iter ti) (ok : BlkOk X.N X.env.scope scope own) (hj : ∀ j ∈ js, j ∈ own.map (·.2)) (hg : Blk X scope fun Y => PDg Y tg js g) (ht : Blk X scope fun Y => PDTs Y ifs tt) (he : Blk X scope fun Y => PD Y elt te)
    (hs : ∀ x, foldedSetIterable iter X.env x = pure x := by intro _; rfl) : PD X (.ListComp elt [⟨tg, iter, ifs, 0⟩] scope pos) (dLc ti g tt te (own.map (·.2))) :=
  ⟨fun _ _ h _ _ _ _ rp _ q => ⟨_, pe_lc hc hN pi_w ok (fun _ _ _ _ _ => bg_ok) (fun _ _ _ _ _ => bt_ok) (fun _ _ _ _ _ => be_ok) hs, lc_run hi hj hg ht he h rp q⟩⟩
theorem lcI_run (hi : PDI X tg iter ti) (hj : ∀ j ∈ js, j ∈ own.map (·.2)) (hg : Blk X scope fun Y => PDg Y tg js g) (he : Blk X scope fun Y => PD Y elt te)
    {Γ : G} {R : D → G → Prop} (h : dLcI ti g te (own.map (·.2)) Γ R) {E : En} {Hk H : Hp} {σ : St} (rp : Rp E Γ Hk H σ) {Q : VK} (q : ∀ v d Γ' Hk2 H2, R d Γ' → Rp E Γ' Hk2 H2 σ → Ex Hk Hk2 → Is Hk2 d v → Q v H2) :
    tLc (WI X tg iter) (BG X scope tg) tYes (BE X scope elt) (own.map (·.2)) σ H Q := by
  generalize own.map (·.2) = vs at *
  refine hi.run Γ _ h E Hk H σ rp _ fun J items Γ1 Hk1 H1 k1 r1 e1 it D hD => ?_
  obtain ⟨hz, I, I0, step, fin⟩ := k1
  have apD1 := r1.apart hD
  let W : Nat → Hp → Prop := fun i H' => ∃ Γa Hk' acc ys, I i ys Γa ∧ ys.length ≤ i ∧ Rp (E.nr Hk1 (lessOwn Γ1 σ H1)) Γa Hk' H' σ ∧ Hk' D = none ∧ H' D = some (.lst acc) ∧ IsL Hk' ys acc ∧ (∀ (i : Nat) o, Γa[i]? = some (.own o) → σ[i]? ≠ some (some (.ref D)))
  have hk1D : Hk1 D = none := r1.step.s.nn hD
  have l0 : lessOwn Γ1 σ H1 D = none := (lessOwn_out apD1).trans hD
  refine ⟨fun i m H' => m = items.length - i ∧ i ≤ items.length ∧ W i H', ⟨items.length, by simp, Nat.zero_le _, Γ1, Hk1, [], [], I0, Nat.zero_le _, r1.near.other l0 hk1D apD1, hk1D, upd_same, rfl, apD1⟩, ?_⟩
  rintro i m H' ⟨rfl, hle, Γa, Hk', acc, ys, hI, hyl, rI, hkD, hHD, iacc, apD⟩
  have ek : Ex Hk1 Hk' := rI.step.k
  by_cases hlt : i < items.length
  · refine .inr ⟨it.go i H' hlt (ek.trans rI.step.s), W (i + 1), fun H2 p2 => ⟨items.length - (i + 1), by omega, rfl, hlt, p2⟩, fun x H'' y => ?_⟩
    obtain ⟨d, hd⟩ : ∃ d, items[i]? = some d := ⟨_, List.getElem?_eq_getElem hlt⟩
    obtain ⟨Hk2, s2, ix⟩ := it.yld i d Hk' H' x H'' hd ek rI.step.s y
    have r2 : Rp (E.nr Hk1 (lessOwn Γ1 σ H1)) Γa Hk2 H'' σ := rI.grow s2
    have hD2 : H'' D = some (.lst acc) := s2.h _ _ hHD
    have hk2 : Hk2 D = none := s2.g D hkD (by rw [hHD]; exact fun z => nomatch z)
    have lD : lessOwn Γa σ H'' D = some (.lst acc) := (lessOwn_out apD).trans hD2
    obtain ⟨no, st⟩ := step i d ys Γa hd hI
    intro s Hb C cl fp
    refine (hg s Hb C cl fp).run d _ _ st _ Hk2 H'' _ x (r2.near.wipe vs) ix _ fun Γ2 σ2 k2 r3 hs hΓ => ?_
    have hσ : ∀ j, j ∉ vs → σ2[j]? = σ[j]? := fun j hn => (hs.2 j fun z => hn (hj j z)).trans (wipe_out2 hn)
    refine ⟨wipe_ext (hs.1.trans (wipe_length _ _)) hσ, ?_⟩
    show (if true = true then BE X scope elt σ2 H'' (fun y H4 => ∃ acc, H4 D = some (HO.lst acc) ∧ acc.length < sizeLine ∧ W (i + 1) (upd H4 D (HO.lst (acc ++ [y])))) else W (i + 1) H'')
    rw [if_pos rfl]
    intro s Hb C cl fp
    refine (he s Hb C cl fp).run Γ2 _ k2 _ Hk2 H'' σ2 r3 _ fun v e Γ4 Hk4 H4 k4 r5 e5 iv => ?_
    have h4 : H4 D = some (.lst acc) := r5.step.h D _ lD
    have hk4 : Hk4 D = none := r5.step.g D hk2 (show lessOwn Γa σ H'' D ≠ none from by rw [lD]; exact fun z => nomatch z)
    have hle : Γa.length = Γ4.length := by rw [← rI.len, ← r5.len, hs.1, wipe_length]
    have bk : Rp (E.nr Hk1 (lessOwn Γ1 σ H1)) (mergeG vs 0 Γa Γ4) Hk4 H4 σ := r2.back r5 no (mergeG_len _ _ _ _ hle) (fun j hn => by rw [mergeG_at vs 0 j Γa Γ4 hle, Nat.zero_add, if_pos hn]) (fun j hn => by rw [mergeG_at vs 0 j Γa Γ4 hle, Nat.zero_add, if_neg hn]) hσ
    have apD4 : ∀ (i : Nat) o, (mergeG vs 0 Γa Γ4)[i]? = some (.own o) → σ[i]? ≠ some (some (.ref D)) := fun j o z1 z2 => by
      obtain ⟨l, g1, g2, g3, g4⟩ := r5.own j o (by
        rw [mergeG_at vs 0 j Γa Γ4 hle, Nat.zero_add] at z1
        by_cases hn : j ∈ vs
        · rw [if_pos hn] at z1
          exact absurd hn (noOwn_out no z1)
        · rw [if_neg hn] at z1
          exact z1)
      have hn : j ∉ vs := fun hn => by
        rw [mergeG_at vs 0 j Γa Γ4 hle, Nat.zero_add, if_pos hn] at z1
        exact noOwn_out no z1 hn
      rw [hσ j hn, z2] at g1
      cases g1
      have g3' : lessOwn Γa σ H'' D = none := g3
      rw [lD] at g3'
      cases g3'
    refine ⟨acc, h4, ?_, mergeG vs 0 Γa Γ4, Hk4, acc ++ [v], ys ++ [e], k4, by rw [List.length_append]; simp; omega, bk.other l0 hk4 apD4, hk4, upd_same, ?_, apD4⟩
    · rw [iacc.len]
      omega
    · exact (iacc.mono (s2.k.trans e5)).append (.cons iv .nil)
  · have e : i = items.length := by omega
    subst e
    refine .inl ⟨it.stop H' (ek.trans rI.step.s), ?_⟩
    obtain ⟨ek2, r6⟩ := (r1.far rI).know (show E.2 D = none from r1.step.h.nn hD) hkD hHD apD
    exact q _ _ Γa _ H' (fin ys Γa hI) r6 ((e1.trans ek).trans ek2) ⟨D, acc, rfl, upd_same, iacc.mono ek2⟩
theorem pd_lcI (hc : X.calm = true) (hN : X.N.Nodup) (hi : PDI X tg iter ti) (ok : BlkOk X.N X.env.scope scope own) (hj : ∀ j ∈ js, j ∈ own.map (·.2)) (hg : Blk X scope fun Y => PDg Y tg js g) (he : Blk X scope fun Y => PD Y elt te)
    (hs : ∀ x, foldedSetIterable iter X.env x = pure x := by intro _; rfl) : PD X (.ListComp elt [⟨tg, iter, [], 0⟩] scope pos) (dLcI ti g te (own.map (·.2))) :=
  ⟨fun _ _ h _ _ _ _ rp _ q => ⟨_, pe_lc hc hN pi_w ok (fun _ _ _ _ _ => bg_ok) (fun _ _ _ _ _ => pts_nil) (fun _ _ _ _ _ => be_ok) hs, lcI_run hi hj hg he h rp q⟩⟩
end

/-! ### statements -/
section
variable {X : Cx} {pos : Pos} {st : Stmt} {rest : List Stmt} {t u : TDS} {e : Expr} {te : TD}
def dNext : TDS := fun D Γ => D.nx Γ
def dSeq (t u : TDS) : TDS := fun D Γ => t { D with nx := u D } Γ
theorem pds_nil : PDS X [] dNext := ⟨fun D Γ h E Hk H σ rp F m => ⟨_, pss_nil, m.nx Γ Hk H σ h rp⟩⟩
theorem pds_cons (h1 : PDS1 X st t) (h2 : PDS X rest u) : PDS X (st :: rest) (dSeq t u) :=
  ⟨fun D Γ h E Hk H σ rp F m => ⟨_, pss_cons ps_w pss_w, h1.run { D with nx := u D } Γ h E Hk H σ rp { F with nx := WSs X rest F } ⟨fun Γ' Hk' H' σ' k r => h2.run D Γ' k E Hk' H' σ' r F m, m.rt, m.bk, m.ct⟩⟩⟩
theorem pds_one (h1 : PDS1 X st t) : PDS X [st] t := ⟨fun D Γ h E Hk H σ rp F m => ⟨_, pss_one ps_w, h1.run D Γ h E Hk H σ rp F m⟩⟩
def dDrop (te : TD) : TDS := fun D Γ => te Γ fun _ Γ1 => D.nx Γ1
theorem pds_expr (h : PD X e te) (hs : swapsWith e none pos.line X.env = pure false := by rfl) : PDS1 X (.Expr e pos) (dDrop te) :=
  ⟨fun D Γ k E Hk H σ rp F m => ⟨_, ps_expr pe_w hs, h.run Γ _ k E Hk H σ rp _ fun v d Γ1 Hk1 H1 k1 r1 e1 i1 => m.nx Γ1 Hk1 H1 σ k1 r1⟩⟩
def dRet (te : TD) : TDS := fun D Γ => te Γ fun d Γ1 => D.rt d Γ1
theorem pds_ret (h : PD X e te) : PDS1 X (.Return (some e) pos) (dRet te) :=
  ⟨fun D Γ k E Hk H σ rp F m => ⟨_, ps_ret pe_w, h.run Γ _ k E Hk H σ rp _ fun v d Γ1 Hk1 H1 k1 r1 e1 i1 => m.rt v d Γ1 Hk1 H1 σ k1 r1 i1⟩⟩
def dIfS (c : TDB) (t u : TDS) : TDS := fun D Γ => c Γ fun b Γ1 => if b = true then t D Γ1 else u D Γ1
theorem pds_if {c : Expr} {a b : List Stmt} {tc : TDB} (hc : PDT X c tc) (ha : PDS X a t) (hb : PDS X b u) : PDS1 X (.If c a b pos) (dIfS tc t u) := by
  refine ⟨fun D Γ k E Hk H σ rp F m => ⟨_, ps_if pt_w pss_w pss_w, ?_⟩⟩
  refine hc.run Γ _ k E Hk H σ rp _ fun d Γ1 Hk1 H1 k1 r1 e1 => ?_
  cases d with
  | true =>
    rw [if_pos rfl] at k1 ⊢
    exact ha.run D Γ1 k1 E Hk1 H1 σ r1 F m
  | false =>
    rw [if_neg Bool.false_ne_true] at k1 ⊢
    exact hb.run D Γ1 k1 E Hk1 H1 σ r1 F m
def dNever : TDS := fun _ _ => False
theorem pds_never {sts : List Stmt} : PDS X sts dNever := ⟨fun _ _ h _ _ _ _ _ _ _ => h.elim⟩
theorem pds_never1 {st : Stmt} : PDS1 X st dNever := ⟨fun _ _ h _ _ _ _ _ _ _ => h.elim⟩
/-- x = e -/
def dSet (i : Nat) (te : TD) : TDS := fun D Γ => te Γ fun d Γ1 => D.nx (Γ1.set i (.val d))
theorem pds_set (i : Nat) {x : Str} {pos' : Pos} (h : PD X e te) (hN : X.N.Nodup) (hi : X.N[i]? = some x := by rfl) (hx : Loc X.env.scope x := by first | exact .inl rfl | exact .inr rfl)
    (hs : swapsWith e (some (.Name x pos')) pos.line X.env = pure false := by rfl) (hf : X.fn x = true ∨ X.env.scope.names.lookup x = some .local := by first | exact .inl rfl | exact .inr rfl) : PDS1 X (.Assign [.Name x pos'] e pos) (dSet i te) :=
  ⟨fun D Γ k E Hk H σ rp F m => ⟨_, ps_set hN hi hx pe_w hs hf, h.run Γ _ k E Hk H σ rp _ fun v d Γ1 Hk1 H1 k1 r1 e1 i1 => m.nx _ Hk1 H1 _ k1 (r1.set i i1)⟩⟩
/-- x = [.. for ..] on one line -/
theorem pds_setLc (i : Nat) {y : Str} {py : Pos} {elt tg iter : Expr} {ifs : List Expr} {scope : Scope} {own : List (Str × Nat)} {js : List Nat} {spos : Pos} {ti : TDI} {g : TDG} {tt : TDB} (hc : X.calm = true) (hN : X.N.Nodup)
    (hi : PDI X tg iter ti) (ok : BlkOk X.N X.env.scope scope own) (hj : ∀ j ∈ js, j ∈ own.map (·.2)) (hg : Blk X scope fun Y => PDg Y tg js g) (ht : Blk X scope fun Y => PDTs Y ifs tt) (he : Blk X scope fun Y => PD Y elt te)
    (hsw : swapsWith (.ListComp elt [⟨tg, iter, ifs, 0⟩] scope pos) (some (.Name y py)) spos.line X.env = pure true) (hy : X.N[i]? = some y := by rfl) (hyl : X.env.scope.names.lookup y = some .local := by rfl) (hs : ∀ x, foldedSetIterable iter X.env x = pure x := by intro _; rfl) :
    PDS1 X (.Assign [.Name y py] (.ListComp elt [⟨tg, iter, ifs, 0⟩] scope pos) spos) (dSet i (dLc ti g tt te (own.map (·.2)))) :=
  ⟨fun D Γ k E Hk H σ rp F m => ⟨_, ps_setLc hc hN hy hyl hsw pi_w ok (fun _ _ _ _ _ => bg_ok) (fun _ _ _ _ _ => bt_ok) (fun _ _ _ _ _ => be_ok) hs,
    lc_run hi hj hg ht he k rp fun v d Γ1 Hk1 H1 k1 r1 e1 i1 => m.nx _ Hk1 H1 _ k1 (r1.set i i1)⟩⟩
theorem pds_setLcI (i : Nat) {y : Str} {py : Pos} {elt tg iter : Expr} {scope : Scope} {own : List (Str × Nat)} {js : List Nat} {spos : Pos} {ti : TDI} {g : TDG} (hc : X.calm = true) (hN : X.N.Nodup)
    (hi : PDI X tg iter ti) (ok : BlkOk X.N X.env.scope scope own) (hj : ∀ j ∈ js, j ∈ own.map (·.2)) (hg : Blk X scope fun Y => PDg Y tg js g) (he : Blk X scope fun Y => PD Y elt te)
    (hsw : swapsWith (.ListComp elt [⟨tg, iter, [], 0⟩] scope pos) (some (.Name y py)) spos.line X.env = pure true) (hy : X.N[i]? = some y := by rfl) (hyl : X.env.scope.names.lookup y = some .local := by rfl) (hs : ∀ x, foldedSetIterable iter X.env x = pure x := by intro _; rfl) :
    PDS1 X (.Assign [.Name y py] (.ListComp elt [⟨tg, iter, [], 0⟩] scope pos) spos) (dSet i (dLcI ti g te (own.map (·.2)))) :=
  ⟨fun D Γ k E Hk H σ rp F m => ⟨_, ps_setLc hc hN hy hyl hsw pi_w ok (fun _ _ _ _ _ => bg_ok) (fun _ _ _ _ _ => pts_nil) (fun _ _ _ _ _ => be_ok) hs,
    lcI_run hi hj hg he k rp fun v d Γ1 Hk1 H1 k1 r1 e1 i1 => m.nx _ Hk1 H1 _ k1 (r1.set i i1)⟩⟩
/-- (a, b, ..) = e -/
def dAsg (te : TD) (g : TDG) : TDS := fun D Γ => te Γ fun d Γ1 => g d Γ1 D.nx
theorem pds_asg {tg : Expr} {js : List Nat} {g : TDG} (h : PD X e te) (hg : PDg X tg js g) (hs : swapsWithSole [tg] e pos.line X.env = pure false := by rfl) (hw : swappedStores [tg] e X.env = pure none := by rfl)
    (h1 : (assignEach [tg] X.env).map (·.2) = [assign tg X.env] := by rfl) : PDS1 X (.Assign [tg] e pos) (dAsg te g) :=
  ⟨fun D Γ k E Hk H σ rp F m => ⟨_, ps_asg pe_w pg_w hs hw h1, h.run Γ _ k E Hk H σ rp _ fun v d Γ1 Hk1 H1 k1 r1 e1 i1 => hg.run d Γ1 _ k1 E Hk1 H1 σ v r1 i1 _ fun Γ2 σ2 k2 r2 _ _ => m.nx Γ2 Hk1 H1 σ2 k2 r2⟩⟩
/-- a loop -/
def dFor (ti : TDI) (g : TDG) (tb : TDS) : TDS := fun D Γ => ti Γ fun items Γ1 => ∃ I : Nat → G → Prop, I 0 Γ1 ∧ (∀ i d Γ2, items[i]? = some d → I i Γ2 → g d Γ2 fun Γ3 => tb { D with nx := I (i + 1), ct := I (i + 1), bk := D.nx } Γ3) ∧ ∀ Γ2, I items.length Γ2 → D.nx Γ2
theorem pds_for {tg iter : Expr} {body : List Stmt} {js : List Nat} {ti : TDI} {g : TDG} (hp : PassesOwn (model X.prog X.w) X.A X.env X.xe) (hi : PDI X tg iter ti) (hg : PDg X tg js g) (hb : PDS X body t) (hc : X.calm = true := by rfl) (hs : ∀ x, foldedSetIterable iter X.env x = pure x := by intro _; rfl) : PDS1 X (.For tg iter body [] pos) (dFor ti g t) := by
  refine ⟨fun D Γ k E Hk H σ rp F m => ⟨_, ps_for hp hc pi_w pg_w pss_w hs, ?_⟩⟩
  refine hi.run Γ _ k E Hk H σ rp _ fun J items Γ1 Hk1 H1 k1 r1 e1 it => ?_
  obtain ⟨I, I0, step, fin⟩ := k1
  have met : ∀ {N : G → Prop} {Nf : L2.St → Hp → Prop}, (∀ Γ' Hk' H' σ', N Γ' → Rp (E.nr Hk1 (lessOwn Γ1 σ H1)) Γ' Hk' H' σ' → Nf σ' H') → Met (E.nr Hk1 (lessOwn Γ1 σ H1)) { D with nx := N, ct := N, bk := D.nx } { F with nx := Nf, ct := Nf, bk := F.nx } := fun hN =>
    ⟨hN, fun v d Γ Hk H σ' k r i => m.rt v d Γ Hk H σ' k (r1.far r) i, fun Γ Hk H σ' k r => m.nx Γ Hk H σ' k (r1.far r), hN⟩
  refine ⟨fun i mm σ' H' => mm = items.length - i ∧ i ≤ items.length ∧ ∃ Γ' Hk', I i Γ' ∧ Rp (E.nr Hk1 (lessOwn Γ1 σ H1)) Γ' Hk' H' σ', ⟨items.length, by simp, Nat.zero_le _, Γ1, Hk1, I0, r1.near⟩, ?_⟩
  rintro i mm σ' H' ⟨rfl, hle, Γ', Hk', hI, r2⟩
  by_cases hlt : i < items.length
  · refine .inr ⟨it.go i H' hlt (r2.step.k.trans r2.step.s), fun σ3 H3 => ∃ Γ3 Hk3, I (i + 1) Γ3 ∧ Rp (E.nr Hk1 (lessOwn Γ1 σ H1)) Γ3 Hk3 H3 σ3, fun σ3 H3 ⟨Γ3, Hk3, p1, p2⟩ => ⟨items.length - (i + 1), by omega, rfl, hlt, Γ3, Hk3, p1, p2⟩, fun x H'' y => ?_⟩
    obtain ⟨d, hd⟩ : ∃ d, items[i]? = some d := ⟨_, List.getElem?_eq_getElem hlt⟩
    obtain ⟨Hk2, s2, ix⟩ := it.yld i d Hk' H' x H'' hd r2.step.k r2.step.s y
    refine hg.run d Γ' _ (step i d Γ' hd hI) _ Hk2 H'' σ' x (r2.grow s2) ix _ fun Γ3 σ3 k3 r3 _ _ => ?_
    exact hb.run _ Γ3 k3 _ Hk2 H'' σ3 r3 _ (met fun Γ' Hk' H' σ' a b => ⟨Γ', Hk', a, b⟩)
  · have e : i = items.length := by omega
    subst e
    exact .inl ⟨it.stop H' (r2.step.k.trans r2.step.s), m.nx Γ' Hk' H' σ' (fin Γ' hI) (r1.far r2)⟩
/-- a while: W with its measure -/
def dWhile (c : TDB) (tb : TDS) : TDS := fun D Γ => ∃ W : Nat → G → Prop, (∃ m, W m Γ) ∧ ∀ m Γ', W m Γ' → c Γ' fun b Γ1 => if b = true then tb { D with nx := fun Γ2 => ∃ m', m' < m ∧ W m' Γ2, ct := fun Γ2 => ∃ m', m' < m ∧ W m' Γ2, bk := D.nx } Γ1 else D.nx Γ1
theorem pds_while {c : Expr} {body : List Stmt} {tc : TDB} (hp : PassesOwn (model X.prog X.w) X.A X.env X.xe) (hc : PDT X c tc) (hb : PDS X body t) : PDS1 X (.While c body [] pos) (dWhile tc t) := by
  refine ⟨fun D Γ k E Hk H σ rp F m => ⟨_, ps_while hp pt_w pss_w, ?_⟩⟩
  obtain ⟨W, ⟨m0, w0⟩, step⟩ := k
  refine ⟨fun mm σ' H' => ∃ Γ' Hk', W mm Γ' ∧ Rp E Γ' Hk' H' σ', ⟨m0, Γ, Hk, w0, rp⟩, ?_⟩
  rintro mm σ' H' ⟨Γ', Hk', hW, r2⟩
  refine hc.run Γ' _ (step mm Γ' hW) E Hk' H' σ' r2 _ fun b Γ1 Hk1 H1 k1 r1 e1 => ?_
  cases b with
  | true =>
    rw [if_pos rfl] at k1 ⊢
    refine ⟨fun σ3 H3 => ∃ m', m' < mm ∧ ∃ Γ3 Hk3, W m' Γ3 ∧ Rp E Γ3 Hk3 H3 σ3, fun σ3 H3 ⟨m', h1, h2⟩ => ⟨m', h1, h2⟩, hb.run _ Γ1 k1 E Hk1 H1 σ' r1 _ ⟨?_, m.rt, m.nx, ?_⟩⟩
    · rintro Γ3 Hk3 H3 σ3 ⟨m', h1, h2⟩ r3
      exact ⟨m', h1, Γ3, Hk3, h2, r3⟩
    · rintro Γ3 Hk3 H3 σ3 ⟨m', h1, h2⟩ r3
      exact ⟨m', h1, Γ3, Hk3, h2, r3⟩
  | false =>
    rw [if_neg Bool.false_ne_true] at k1 ⊢
    exact m.nx Γ1 Hk1 H1 σ' k1 r1
/-- from here on the i-th name's own object is data -/
def dFrz (i : Nat) (t : TDS) : TDS := fun D Γ => match Γ[i]? with
  | some (.own o) => t D (Γ.set i (.val o.d))
  | _ => False
theorem pds_frz (i : Nat) {sts : List Stmt} (h : PDS X sts t) : PDS X sts (dFrz i t) := by
  refine ⟨fun D Γ k E Hk H σ rp F m => ?_⟩
  unfold dFrz at k
  split at k
  · rename_i o e
    obtain ⟨Hk2, _, r2, _⟩ := rp.frz e
    exact h.run D _ k E Hk2 H σ r2 F m
  · exact k.elim
theorem pds_frz1 (i : Nat) {st : Stmt} (h : PDS1 X st t) : PDS1 X st (dFrz i t) := by
  refine ⟨fun D Γ k E Hk H σ rp F m => ?_⟩
  unfold dFrz at k
  split at k
  · rename_i o e
    obtain ⟨Hk2, _, r2, _⟩ := rp.frz e
    exact h.run D _ k E Hk2 H σ r2 F m
  · exact k.elim

/-! ### a def -/
variable {P : Program} {w : World} {K : PySem.W.Frag} {mg : Str → Option Value} {base : Heap} {x qual : Str} {params : Arguments} {body : List Stmt} {scope : Scope} {f : Addr} {fd : FuncData} {N ps : List Str} {k : Nat} {ff : List D → (D → Prop) → Prop}
def init (N ps : List Str) (ds : List D) : G := ds.map Slot.val ++ List.replicate (N.length - ps.length) .un
theorem fn_ok (F : FunD K x qual params body scope [] [] f fd) (S : FnScope N ps scope) (hl : ∀ ds Kd, ff ds Kd → ds.length = ps.length)
    (hb : ∀ (cdv : Value) (A : Around) (outer : List Env) (s : Shared) (H : Hp) (E : XK), Room k (A.deeper (envOfC qual scope s.heap.objs.size f cdv)) →
      ∃ t, PDS (cxOf CX0 P w K mg base N qual scope f cdv A outer s H E).nox body t ∧ ∀ ds Kd, ff ds Kd → t { nx := fun _ => Kd .non, rt := fun d _ => Kd d } (init N ps ds)) : FnOk P w K mg base CX0 (k + 1) f fd ps (SpF ff) := by
  refine F.ok S (fun vs H Q E h => ?_) (fun cdv A outer s H vs Q E hr h => ?_)
  · obtain ⟨Hk, ds, Kd, _, h2, h3, _⟩ := h
    rw [h2.len]
    exact hl ds Kd h3
  · obtain ⟨Hk, ds, Kd, h1, h2, h3, h4⟩ := h
    obtain ⟨t, ht, hq⟩ := hb cdv A outer s H E hr
    have r0 : Rp ⟨Hk, H, none⟩ (init N ps ds) Hk H (L2.start N vs) := by
      unfold L2.start init
      rw [show N.length - vs.length = N.length - ps.length by rw [h2.len, hl ds Kd h3]]
      exact Rp.start h1 h2 _
    obtain ⟨t2, p2, w2⟩ := ht.run _ _ (hq ds Kd h3) ⟨Hk, H, none⟩ Hk H (L2.start N vs) r0 { nx := fun _ H' => Q .non H', rt := Q } ⟨fun Γ Hk' H' σ k r => h4 _ _ _ _ k r.step rfl, fun v d Γ Hk' H' σ k r i => h4 _ _ _ _ k r.step i, fun _ _ _ _ z _ => z, fun _ _ _ _ z _ => z⟩
    exact ⟨t2, p2.nox, w2⟩
end
end DL
set_option maxHeartbeats 4000000
/-! readings upon data: own objects, instances, methods, texts -/
namespace DL
open PySem PySem.Spec PyProof.Rows L2

/-! ### what is new -/
section
variable {E : En} {Γ : G} {Hk H : Hp} {σ : St}
abbrev Apart (Γ : G) (σ : St) (l : Addr) : Prop := ∀ (j : Nat) o', Γ[j]? = some (Slot.own o') → σ[j]? ≠ some (some (.ref l))
theorem Rp.fresh (r : Rp E Γ Hk H σ) {p : Addr} (hp : H p = none) (o : HO) : Rp E Γ Hk (upd H p o) σ ∧ Hk p = none ∧ E.2 p = none ∧ Apart Γ σ p :=
  ⟨r.grow (Step.newH r.step.s hp), r.step.s.nn hp, r.step.h.nn hp, r.apart hp⟩
end
abbrev TDN := G → (OD → G → Prop) → Prop
structure PDN (X : Cx) (e : Expr) (t : TDN) : Prop where
  run : ∀ Γ R, t Γ R → ∀ E Hk H σ, Rp E Γ Hk H σ → ∀ Q : VK, (∀ l o Γ' Hk2 H2, R o Γ' → Rp E Γ' Hk2 H2 σ → Ex Hk Hk2 → Hk2 l = none → E.2 l = none → OwnAt Hk2 H2 o l → Apart Γ' σ l → Q (.ref l) H2) → WE X e σ H Q
section
variable {X : Cx} {pos p p2 apos pos' : Pos} {e e2 value : Expr} {es : List Expr} {tl : TDA} {ta tb te tv : TD} {tn : TDN} {x : Str}
def dLstN (tl : TDA) : TDN := fun Γ R => tl Γ fun ds Γ1 => ds.length ≤ sizeLine ∧ R (.lst ds) Γ1
theorem pdn_lst (h : PDA X es tl) : PDN X (.List es pos) (dLstN tl) := by
  refine ⟨fun Γ R k E Hk H σ rp Q q => ⟨_, pe_lst pa_w, ?_⟩⟩
  refine h.run Γ _ k E Hk H σ rp _ fun vs ds Γ1 Hk1 H1 k1 r1 e1 i1 => ?_
  refine ⟨by rw [i1.len]; exact k1.1, fun p hp => ?_⟩
  obtain ⟨r2, h1, h2, h3⟩ := r1.fresh hp (.lst vs)
  exact q p _ Γ1 _ _ k1.2 r2 e1 h1 h2 ⟨vs, upd_same, i1⟩ h3
def dDTN : TDN := fun Γ R => R (.dT [] []) Γ
theorem pdn_dT : PDN X (.Dict [] [] pos) dDTN := by
  refine ⟨fun Γ R k E Hk H σ rp Q q => ⟨_, pe_dnewT, fun p hp => ?_⟩⟩
  obtain ⟨r2, h1, h2, h3⟩ := rp.fresh hp (.dT [])
  exact q p _ Γ _ _ k r2 (Ex.refl _) h1 h2 ⟨[], upd_same, rfl, rfl⟩ h3
def dCatN (ta tb : TD) : TDN := fun Γ R => ta Γ fun d1 Γ1 => tb Γ1 fun d2 Γ2 => match d1, d2 with
  | .lst xs, .lst ys => xs.length + ys.length ≤ sizeLine ∧ R (.lst (xs ++ ys)) Γ2
  | _, _ => False
theorem pdn_cat {a b : Expr} (ha : PD X a ta) (hb : PD X b tb) : PDN X (.BinOp a .Add b pos) (dCatN ta tb) := by
  refine ⟨fun Γ R k E Hk H σ rp Q q => ⟨_, pe_op op_cat pe_w pe_w, ?_⟩⟩
  refine ha.run Γ _ k E Hk H σ rp _ fun v1 d1 Γ1 Hk1 H1 k1 r1 e1 i1 => ?_
  refine hb.run Γ1 _ k1 E Hk1 H1 σ r1 _ fun v2 d2 Γ2 Hk2 H2 k2 r2 e2 i2 => ?_
  split at k2
  · obtain ⟨a, us, rfl, ha, ia⟩ := i1
    obtain ⟨b, ws, rfl, hb, ib⟩ := i2
    have ia := ia.mono e2
    refine ⟨a, b, us, ws, rfl, rfl, r2.step.s _ _ (e2 _ _ ha), r2.step.s _ _ hb, by rw [ia.len, ib.len]; exact k2.1, fun p hp => ?_⟩
    obtain ⟨r3, h1, h2, h3⟩ := r2.fresh hp (.lst (us ++ ws))
    exact q p _ Γ2 _ _ k2.2 r3 (e1.trans e2) h1 h2 ⟨_, upd_same, ia.append ib⟩ h3
  · exact k2.elim
def dListN (tl : TDA) : TDN := fun Γ R => tl Γ fun ds Γ1 => match ds with
  | [.lst ds] => R (.lst ds) Γ1
  | [.tup ds] => R (.lst ds) Γ1
  | _ => False
theorem pdn_list (hg : Gl X "list") (hm : X.mg "list" = none) (ha : PDA X (e :: es) tl)
    (he : starEach (e :: es) X.env = (false, eval e X.env) :: starEach es X.env := by rfl) (hpl : (backTo pos (starEach es X.env)).any (·.1) = false := by rfl) : PDN X (.Call (.Name "list" p) (e :: es) [] pos) (dListN tl) := by
  refine ⟨fun Γ R k E Hk H σ rp Q q => ⟨_, pe_callTy call_list_of hg hm rfl pa_w (by decide) (by decide) he hpl, ?_⟩⟩
  refine ha.run Γ _ k E Hk H σ rp _ fun vs ds Γ1 Hk1 H1 k1 r1 e1 i1 => ?_
  split at k1
  · obtain ⟨v, rfl, iv⟩ := one_of i1
    obtain ⟨a, us, rfl, ha, ia⟩ := iv
    refine ⟨a, us, rfl, .inl (.inl (.inl (r1.step.s _ _ ha))), fun p hp => ?_⟩
    obtain ⟨r3, h1, h2, h3⟩ := r1.fresh hp (.lst us)
    exact q p _ Γ1 _ _ k1 r3 e1 h1 h2 ⟨_, upd_same, ia⟩ h3
  · obtain ⟨v, rfl, iv⟩ := one_of i1
    obtain ⟨a, us, rfl, ha, ia⟩ := iv
    refine ⟨a, us, rfl, .inr (.inl (.inl (r1.step.s _ _ ha))), fun p hp => ?_⟩
    obtain ⟨r3, h1, h2, h3⟩ := r1.fresh hp (.lst us)
    exact q p _ Γ1 _ _ k1 r3 e1 h1 h2 ⟨_, upd_same, ia⟩ h3
  · exact k1.elim
/-- list(range(n)) -/
def dListRg (ta : TD) : TDN := fun Γ R => ta Γ fun d Γ1 => match d with
  | .int n => 0 ≤ n ∧ n ≤ 16777216 ∧ R (.lst (upTo n.toNat)) Γ1
  | _ => False
theorem pdn_listRg {q1 q2 : Pos} (hc : X.calm = true) (hg : Gl X "list") (hm : X.mg "list" = none) (hg2 : Gl X "range") (hm2 : X.mg "range" = none) (ha : PD X e ta)
    (n1 : starEach [e] X.env = (false, eval e X.env) :: starEach [] X.env := by rfl)
    (n2 : starEach [.Call (.Name "range" p) [e] [] q1] X.env = (false, eval (.Call (.Name "range" p) [e] [] q1) X.env) :: starEach [] X.env := by rfl) :
    PDN X (.Call (.Name "list" p2) [.Call (.Name "range" p) [e] [] q1] [] pos) (dListRg ta) := by
  refine ⟨fun Γ R k E Hk H σ rp Q q => ⟨_, pe_listRg hc hg hm (prg_1 hg2 hm2 pe_w n1) n2, ?_⟩⟩
  refine ha.run Γ _ k E Hk H σ rp _ fun v d Γ1 Hk1 H1 k1 r1 e1 i1 => ?_
  split at k1
  · rename_i n
    obtain ⟨h0, h4, k1⟩ := k1
    refine ⟨n, i1, .of_le (by decide) h4 (by decide) h0, fun p hp => ?_⟩
    obtain ⟨r3, h1, h2, h3⟩ := r1.fresh hp (.lst (rgV 0 n))
    refine q p _ Γ1 _ _ k1 r3 e1 h1 h2 ⟨_, upd_same, ?_⟩ h3
    have e : rgV 0 n = ((List.range n.toNat).map fun i => ((i : Nat) : Int)).map V.int := by
      unfold rgV
      rw [List.map_map, Int.sub_zero]
      exact List.map_congr_left fun i _ => by show V.int (0 + (i : Int)) = _; rw [Int.zero_add]; rfl
    rw [e]
    have e2 : upTo n.toNat = ((List.range n.toNat).map fun i => ((i : Nat) : Int)).map D.int := by
      unfold upTo
      rw [List.map_map]
      rfl
    rw [e2]
    exact IsL.ofInts
  · exact k1.elim
/-- x = e, an own object -/
def dSetN (i : Nat) (tn : TDN) : TDS := fun D Γ => tn Γ fun o Γ1 => D.nx (Γ1.set i (.own o))
theorem pds_setN (i : Nat) {x : Str} {pos' : Pos} (h : PDN X e tn) (hN : X.N.Nodup) (i0 : i ≠ 0 := by decide) (hi : X.N[i]? = some x := by rfl) (hx : Loc X.env.scope x := by first | exact .inl rfl | exact .inr rfl)
    (hs : swapsWith e (some (.Name x pos')) pos.line X.env = pure false := by rfl) (hf : X.fn x = true ∨ X.env.scope.names.lookup x = some .local := by first | exact .inl rfl | exact .inr rfl) : PDS1 X (.Assign [.Name x pos'] e pos) (dSetN i tn) :=
  ⟨fun D Γ k E Hk H σ rp F m => ⟨_, ps_set hN hi hx pe_w hs hf, h.run Γ _ k E Hk H σ rp _ fun l o Γ1 Hk1 H1 k1 r1 e1 h1 h2 h3 h4 => m.nx _ Hk1 H1 _ k1 (r1.setOwn i i0 h3 h1 h2 h4)⟩⟩

/-! ### own lists read -/
/-- the name's own object, found -/
theorem own_of {E : En} {Γ Γ1 : G} {Hk H Hk1 H1 : Hp} {σ : St} {i : Nat} {o o1 : OD} (r : Rp E Γ Hk H σ) (r1 : Rp E Γ1 Hk1 H1 σ) (h : Γ[i]? = some (.own o)) (h1 : Γ1[i]? = some (.own o1)) :
    ∃ l, σ[i]? = some (some (.ref l)) ∧ OwnAt Hk1 H1 o1 l ∧ Hk1 l = none ∧ E.2 l = none := by
  obtain ⟨l, a1, _⟩ := r.own i o h
  obtain ⟨l', b1, b2, b3, b4⟩ := r1.own i o1 h1
  rw [a1] at b1
  cases b1
  exact ⟨l, a1, b4, b2, b3⟩
def isOwn (Γ : G) (i : Nat) : Prop := ∃ o, Γ[i]? = some (.own o)
/-- xs[e] of an own list -/
def dOwnIx (i : Nat) (te : TD) : TD := fun Γ R => isOwn Γ i ∧ te Γ fun d Γ1 => ∃ ds k d', Γ1[i]? = some (.own (.lst ds)) ∧ d = .int k ∧ atI ds k = some d' ∧ R d' Γ1
theorem pd_ownIx (i : Nat) (he : PD X e te) (hN : X.N[i]? = some x := by rfl) (hv : Vis X.env.scope x := by first | exact Or.inl rfl | exact Or.inr (Or.inl rfl) | exact Or.inr (Or.inr rfl))
    (hd : (x == ("__debug__" : Str)) = false := by decide) (hcd : (x == ("__classdict__" : Str)) = false := by decide) (hs : PlainIx e := by exact fun _ _ => rfl) : PD X (.Subscript (.Name x p) e pos) (dOwnIx i te) := by
  refine ⟨fun Γ R k E Hk H σ rp Q q => ⟨_, pe_ix ix_seq (pe_var hN hv hd hcd) pe_w hs, ?_⟩⟩
  obtain ⟨⟨o, ho⟩, k⟩ := k
  obtain ⟨l, a1, _⟩ := rp.own i o ho
  refine ⟨_, a1, ?_⟩
  refine he.run Γ _ k E Hk H σ rp _ fun v d Γ1 Hk1 H1 k1 r1 e1 i1 => ?_
  obtain ⟨ds, kk, d', h1, rfl, h3, h4⟩ := k1
  obtain ⟨l', b1, ⟨xs, b2, b3⟩, _⟩ := own_of rp r1 ho h1
  rw [a1] at b1
  cases b1
  cases (show v = _ from i1)
  obtain ⟨w, c1, c2⟩ := atI_is b3 h3
  exact .inl ⟨l, xs, _, w, rfl, rfl, .inl (.inl b2), c1, q w d' Γ1 Hk1 H1 h4 r1 e1 c2⟩
/-- a scalar read off an own object as if it were data -/
def scal : D → Bool
  | .bl _ => true
  | .int _ => true
  | .str _ => true
  | .non => true
  | _ => false
theorem scal_is {d : D} {v : V} {H H' : Hp} (h : scal d = true) (i : Is H d v) : Is H' d v := by
  cases d with
  | bl _ => exact i
  | int _ => exact i
  | str _ => exact i
  | non => exact i
  | any => cases h
  | tup _ => cases h
  | lst _ => cases h
  | ins _ _ _ => cases h
  | dK _ _ => cases h
  | dT _ _ => cases h
  | scr _ _ => cases h
theorem OwnAt.is {Hk H : Hp} {o : OD} {l : Addr} {u : HO} (h : OwnAt Hk H o l) (hk : Hk l = none) (hu : H l = some u) : Is (upd Hk l u) o.d (.ref l) := by
  have ek : Ex Hk (upd Hk l u) := Ex.new hk
  cases o with
  | lst ds =>
    obtain ⟨xs, q1, q2⟩ := h
    rw [hu] at q1
    cases q1
    exact ⟨l, xs, rfl, upd_same, q2.mono ek⟩
  | dT ks ds =>
    obtain ⟨xs, q1, q2, q3⟩ := h
    rw [hu] at q1
    cases q1
    exact ⟨l, xs, rfl, upd_same, q2, q3.mono ek⟩
  | ins C ns ds =>
    obtain ⟨dx, xs, q1, q2, q3⟩ := h
    rw [hu] at q1
    cases q1
    exact ⟨l, dx, xs, rfl, upd_same, q2, q3.mono ek⟩
/-- an own object seen as data, for a moment -/
theorem lend {E : En} {Γ : G} {Hk H : Hp} {σ : St} {i : Nat} {o : OD} {l : Addr} (r : Rp E Γ Hk H σ) (ho : Γ[i]? = some (.own o)) (hl : σ[i]? = some (some (.ref l))) :
    ∃ Hf, Ex Hk Hf ∧ Ex Hf H ∧ Is Hf o.d (.ref l) ∧ ∀ Hk2 H2, Step Hf H Hk2 H2 → ∃ Hk3, Ex Hk Hk3 ∧ Rp E Γ Hk3 H2 σ := by
  obtain ⟨l', h1, hk, h0, h⟩ := r.own i o ho
  rw [hl] at h1
  cases h1
  obtain ⟨u, hu⟩ : ∃ u, H l = some u := by
    cases q : H l with
    | none => exact absurd q h.there
    | some u => exact ⟨u, rfl⟩
  have ek : Ex Hk (upd Hk l u) := Ex.new hk
  have es : Ex (upd Hk l u) H := fun a v q => by
    by_cases e : a = l
    · subst e
      rw [upd_same] at q
      rw [hu]
      exact q
    · rw [upd_ne e] at q
      exact r.step.s a v q
  refine ⟨upd Hk l u, ek, es, h.is hk hu, fun Hk2 H2 s => ?_⟩
  have e3 : Ex Hk (fun a => if a = l then none else Hk2 a) := fun a u q => by
    show (if a = l then none else Hk2 a) = some u
    rw [if_neg (fun z => by rw [z, hk] at q; cases q)]
    exact s.k a u (ek a u q)
  refine ⟨_, e3, r.grow ⟨e3, s.h, fun a u q => ?_, fun a q1 q2 => ?_⟩⟩
  · have q' : (if a = l then none else Hk2 a) = some u := q
    by_cases z : a = l
    · rw [if_pos z] at q'
      cases q'
    · rw [if_neg z] at q'
      exact s.s a u q'
  · show (if a = l then none else Hk2 a) = none
    by_cases z : a = l
    · rw [if_pos z]
    · rw [if_neg z]
      exact s.g a (by rw [upd_ne z]; exact q1) q2
/-- an operation on a name's own object and a value, with a scalar answer -/
def dOwnOp (i : Nat) (f : D → D → (D → Prop) → Prop) (te : TD) : TD := fun Γ R => isOwn Γ i ∧ te Γ fun d Γ1 => ∃ o, Γ1[i]? = some (.own o) ∧ f o.d d fun b => scal b = true ∧ R b Γ1
variable {r : R2} {f : D → D → (D → Prop) → Prop} {op : Operator} {co : CmpOp}
theorem ownOp_run {i : Nat} (hd : OpD r f) (he : PD X e te) {Γ : G} {R : D → G → Prop} (k : dOwnOp i f te Γ R) {E : En} {Hk H : Hp} {σ : St} (rp : Rp E Γ Hk H σ) {Q : VK}
    (q : ∀ v d Γ' Hk2 H2, R d Γ' → Rp E Γ' Hk2 H2 σ → Ex Hk Hk2 → Is Hk2 d v → Q v H2) : tOp r (tVar i) (WE X e) σ H Q := by
  obtain ⟨⟨o, ho⟩, k⟩ := k
  obtain ⟨l, a1, _⟩ := rp.own i o ho
  refine ⟨_, a1, ?_⟩
  refine he.run Γ _ k E Hk H σ rp _ fun v d Γ1 Hk1 H1 k1 r1 e1 i1 => ?_
  obtain ⟨o1, h1, k1⟩ := k1
  obtain ⟨Hf, ef, es, isd, back⟩ := lend r1 h1 a1
  refine hd Hf H1 _ v _ d _ es isd (i1.mono ef) k1 Q fun w b Hk2 H2 kb s ib => ?_
  obtain ⟨Hk3, e3, r3⟩ := back _ _ s
  exact q w b Γ1 Hk3 H2 kb.2 r3 (e1.trans e3) (scal_is kb.1 ib)
theorem pd_ownCmp (i : Nat) (ho : OpR X (compareOp co) r) (hd : OpD r f) (he : PD X e te) (hN : X.N[i]? = some x := by rfl) (hv : Vis X.env.scope x := by first | exact Or.inl rfl | exact Or.inr (Or.inl rfl) | exact Or.inr (Or.inr rfl))
    (hd' : (x == ("__debug__" : Str)) = false := by decide) (hcd : (x == ("__classdict__" : Str)) = false := by decide) (hm : behindInMarks co e = false := by with_unfolding_all rfl) : PD X (.Compare (.Name x p) [co] [e] pos) (dOwnOp i f te) :=
  ⟨fun Γ R k E Hk H σ rp Q q => ⟨_, pe_cmpR ho (pe_var hN hv hd' hcd) pe_w hm, ownOp_run hd he k rp q⟩⟩
theorem pdt_ownCmp (i : Nat) (ho : OpR X (compareOp co) r) (hd : OpD r f) (he : PD X e te) (hN : X.N[i]? = some x := by rfl) (hv : Vis X.env.scope x := by first | exact Or.inl rfl | exact Or.inr (Or.inl rfl) | exact Or.inr (Or.inr rfl))
    (hd' : (x == ("__debug__" : Str)) = false := by decide) (hcd : (x == ("__classdict__" : Str)) = false := by decide) (hm : behindInMarks co e = false := by with_unfolding_all rfl) : PDT X (.Compare (.Name x p) [co] [e] pos) (dB (dOwnOp i f te)) := by
  refine ⟨fun Γ R k E Hk H σ rp Q q => ⟨_, pt_cmpR ho (pe_var hN hv hd' hcd) pe_w hm, ?_⟩⟩
  refine ownOp_run hd he k rp fun v d Γ1 Hk1 H1 k1 r1 e1 i1 => ?_
  obtain ⟨b, rfl, rfl, k2⟩ := bl_of k1 i1
  exact ⟨b, rfl, q b Γ1 Hk1 H1 k2 r1 e1⟩
/-- .. the own object on the right -/
def dOpOwn (i : Nat) (f : D → D → (D → Prop) → Prop) (te : TD) : TD := fun Γ R => te Γ fun d Γ1 => ∃ o, Γ1[i]? = some (.own o) ∧ f d o.d fun b => scal b = true ∧ R b Γ1
theorem pd_cmpOwn (i : Nat) (ho : OpR X (compareOp co) r) (hd : OpD r f) (he : PD X e te) (hN : X.N[i]? = some x := by rfl) (hv : Vis X.env.scope x := by first | exact Or.inl rfl | exact Or.inr (Or.inl rfl) | exact Or.inr (Or.inr rfl))
    (hd' : (x == ("__debug__" : Str)) = false := by decide) (hcd : (x == ("__classdict__" : Str)) = false := by decide) (hm : behindInMarks co (.Name x p) = false := by with_unfolding_all rfl) : PD X (.Compare e [co] [.Name x p] pos) (dOpOwn i f te) := by
  refine ⟨fun Γ R k E Hk H σ rp Q q => ⟨_, pe_cmpR ho pe_w (pe_var hN hv hd' hcd) hm, ?_⟩⟩
  refine he.run Γ _ k E Hk H σ rp _ fun v d Γ1 Hk1 H1 k1 r1 e1 i1 => ?_
  obtain ⟨o1, h1, k1⟩ := k1
  obtain ⟨l, a1, _⟩ := r1.own i o1 h1
  refine ⟨_, a1, ?_⟩
  obtain ⟨Hf, ef, es, isd, back⟩ := lend r1 h1 a1
  refine hd Hf H1 v _ d _ _ es (i1.mono ef) isd k1 Q fun w b Hk2 H2 kb s ib => ?_
  obtain ⟨Hk3, e3, r3⟩ := back _ _ s
  exact q w b Γ1 Hk3 H2 kb.2 r3 (e1.trans e3) (scal_is kb.1 ib)
theorem pdt_cmpOwn (i : Nat) (ho : OpR X (compareOp co) r) (hd : OpD r f) (he : PD X e te) (hN : X.N[i]? = some x := by rfl) (hv : Vis X.env.scope x := by first | exact Or.inl rfl | exact Or.inr (Or.inl rfl) | exact Or.inr (Or.inr rfl))
    (hd' : (x == ("__debug__" : Str)) = false := by decide) (hcd : (x == ("__classdict__" : Str)) = false := by decide) (hm : behindInMarks co (.Name x p) = false := by with_unfolding_all rfl) : PDT X (.Compare e [co] [.Name x p] pos) (dB (dOpOwn i f te)) := by
  refine ⟨fun Γ R k E Hk H σ rp Q q => ⟨_, pt_cmpR ho pe_w (pe_var hN hv hd' hcd) hm, ?_⟩⟩
  refine he.run Γ _ k E Hk H σ rp _ fun v d Γ1 Hk1 H1 k1 r1 e1 i1 => ?_
  obtain ⟨o1, h1, k1⟩ := k1
  obtain ⟨l, a1, _⟩ := r1.own i o1 h1
  refine ⟨_, a1, ?_⟩
  obtain ⟨Hf, ef, es, isd, back⟩ := lend r1 h1 a1
  refine hd Hf H1 v _ d _ _ es (i1.mono ef) isd k1 _ fun w b Hk2 H2 kb s ib => ?_
  obtain ⟨Hk3, e3, r3⟩ := back _ _ s
  obtain ⟨c, rfl, rfl, k2⟩ := bl_of kb.2 ib
  exact ⟨c, rfl, q c Γ1 Hk3 H2 k2 r3 (e1.trans e3)⟩
/-- not in a list -/
def dNotInL : D → D → (D → Prop) → Prop
  | d, .lst ds, K => shp d = true ∧ shp (.lst ds) = true ∧ K (.bl (!(pys ds).any fun z => PyData.eqv z (py d)))
  | _, _, _ => False
theorem od_notInL {K : PySem.W.Frag} : OpD (rNotInD K) dNotInL := by
  intro Hk H x y d1 d2 Kd e i1 i2 h Q q
  unfold dNotInL at h
  split at h
  · obtain ⟨h1, h2, h3⟩ := h
    exact ⟨_, _, dp_of (i1.mono e) (shp_py h1).1, dp_of (i2.mono e) (shp_py h2).1, (shp_py h1).2, (shp_py h2).2, st_refl e h3 rfl q⟩
  · exact h.elim
/-- len of an own list -/
def dOwnLen (i : Nat) : TD := fun Γ R => ∃ ds, Γ[i]? = some (.own (.lst ds)) ∧ R (.int ds.length) Γ
theorem pd_ownLen (i : Nat) (hg : Gl X "len") (hm : X.mg "len" = none) (hN : X.N[i]? = some x := by rfl) (hv : Vis X.env.scope x := by first | exact Or.inl rfl | exact Or.inr (Or.inl rfl) | exact Or.inr (Or.inr rfl))
    (hd' : (x == ("__debug__" : Str)) = false := by decide) (hcd : (x == ("__classdict__" : Str)) = false := by decide) (he : starEach [.Name x p2] X.env = (false, eval (.Name x p2) X.env) :: starEach [] X.env := by rfl) (hpl : (backTo pos (starEach [] X.env)).any (·.1) = false := by rfl) :
    PD X (.Call (.Name "len" p) [.Name x p2] [] pos) (dOwnLen i) := by
  refine ⟨fun Γ R k E Hk H σ rp Q q => ⟨_, pe_callB call_len hg hm rfl (pa_cons (pe_var hN hv hd' hcd) pa_nil he) (by decide) (by decide) he hpl, ?_⟩⟩
  obtain ⟨ds, ho, k⟩ := k
  obtain ⟨l, a1, _, _, xs, h1, h2⟩ := rp.own i _ ho
  refine ⟨_, a1, .ref l, xs.length, rfl, .inl ⟨xs, .inl (.inl h1), rfl⟩, ?_⟩
  rw [h2.len]
  exact q _ _ Γ Hk H k rp (Ex.refl _) rfl

/-! ### own lists written -/
def isOwnL (Γ : G) (i : Nat) : Prop := ∃ ds, Γ[i]? = some (.own (.lst ds))
def dApp (i : Nat) (te : TD) : TD := fun Γ R => isOwnL Γ i ∧ te Γ fun d Γ1 => ∃ ds, Γ1[i]? = some (.own (.lst ds)) ∧ ds.length < sizeLine ∧ R .non (Γ1.set i (.own (.lst (ds ++ [d]))))
def dExt (i : Nat) (te : TD) : TD := fun Γ R => isOwnL Γ i ∧ te Γ fun d Γ1 => ∃ ds es, Γ1[i]? = some (.own (.lst ds)) ∧ d = .lst es ∧ ds.length + es.length ≤ sizeLine ∧ R .non (Γ1.set i (.own (.lst (ds ++ es))))
def dPopAt (i : Nat) (te : TD) : TD := fun Γ R => isOwnL Γ i ∧ te Γ fun d Γ1 => ∃ (ds : List D) (k : Nat) (d' : D), Γ1[i]? = some (.own (.lst ds)) ∧ d = .int (k : Int) ∧ ds[k]? = some d' ∧ k < 2 ^ 62 ∧ R d' (Γ1.set i (.own (.lst (ds.eraseIdx k))))
theorem pd_append (i : Nat) (he : PD X e te) (hN : X.N[i]? = some x := by rfl) (hv : Vis X.env.scope x := by first | exact Or.inl rfl | exact Or.inr (Or.inl rfl) | exact Or.inr (Or.inr rfl))
    (hd : (x == ("__debug__" : Str)) = false := by decide) (hcd : (x == ("__classdict__" : Str)) = false := by decide)
    (hs : starEach [e] X.env = (false, eval e X.env) :: starEach [] X.env := by rfl) (hbase : attributeBase (.Name x p) "append" X.env (eval (.Name x p) X.env) = eval (.Name x p) X.env := by rfl)
    (hfew : ((backTo pos (starEach [e] X.env)).all (fun x => !x.1) && (backToKw pos (keywordEach [] X.env)).all (fun x => x.1.isSome)
      && decide (([e] : List Expr).length + ([] : List Keyword).length + (if ([] : List Keyword).isEmpty then 0 else 1) < 30)) = true := by rfl)
    (hline : (apos.endLine == pos.line) = true := by rfl) (hplain : (backTo pos (starEach [] X.env)).any (·.1) = false := by rfl) :
    PD X (.Call (.Attribute (.Name x p) "append" apos) [e] [] pos) (dApp i te) := by
  refine ⟨fun Γ R k E Hk H σ rp Q q => ⟨_, pe_bm F.plainAttrs_list F.slot_list_append (by rfl) mt_append (pe_var hN hv hd hcd) (pa_cons pe_w pa_nil hs) hbase hfew hline hs hplain, ?_⟩⟩
  obtain ⟨⟨o, ho⟩, k⟩ := k
  obtain ⟨l, a1, _, _, xs0, aO, _⟩ := rp.own i _ ho
  refine ⟨_, a1, .inl ⟨rfl, xs0, .inl (.inl aO)⟩, ?_⟩
  refine he.run Γ _ k E Hk H σ rp _ fun v d Γ1 Hk1 H1 k1 r1 e1 i1 => ?_
  obtain ⟨ds, h1, hz, k1⟩ := k1
  obtain ⟨l', b1, ⟨xs, b2, b3⟩, _⟩ := own_of rp r1 ho h1
  rw [a1] at b1
  cases b1
  refine ⟨l, xs, v, rfl, rfl, b2, by rw [b3.len]; exact hz, ?_⟩
  exact q _ _ _ Hk1 _ k1 (r1.mut h1 a1 ⟨_, upd_same, b3.append (.cons i1 .nil)⟩) e1 rfl
theorem pd_extend (i : Nat) (he : PD X e te) (hN : X.N[i]? = some x := by rfl) (hv : Vis X.env.scope x := by first | exact Or.inl rfl | exact Or.inr (Or.inl rfl) | exact Or.inr (Or.inr rfl))
    (hd : (x == ("__debug__" : Str)) = false := by decide) (hcd : (x == ("__classdict__" : Str)) = false := by decide)
    (hs : starEach [e] X.env = (false, eval e X.env) :: starEach [] X.env := by rfl) (hbase : attributeBase (.Name x p) "extend" X.env (eval (.Name x p) X.env) = eval (.Name x p) X.env := by rfl)
    (hfew : ((backTo pos (starEach [e] X.env)).all (fun x => !x.1) && (backToKw pos (keywordEach [] X.env)).all (fun x => x.1.isSome)
      && decide (([e] : List Expr).length + ([] : List Keyword).length + (if ([] : List Keyword).isEmpty then 0 else 1) < 30)) = true := by rfl)
    (hline : (apos.endLine == pos.line) = true := by rfl) (hplain : (backTo pos (starEach [] X.env)).any (·.1) = false := by rfl) :
    PD X (.Call (.Attribute (.Name x p) "extend" apos) [e] [] pos) (dExt i te) := by
  refine ⟨fun Γ R k E Hk H σ rp Q q => ⟨_, pe_bm F.plainAttrs_list F.slot_list_extend (by rfl) mt_extend (pe_var hN hv hd hcd) (pa_cons pe_w pa_nil hs) hbase hfew hline hs hplain, ?_⟩⟩
  obtain ⟨⟨o, ho⟩, k⟩ := k
  obtain ⟨l, a1, _, _, xs0, aO, _⟩ := rp.own i _ ho
  refine ⟨_, a1, .inl ⟨rfl, xs0, .inl (.inl aO)⟩, ?_⟩
  refine he.run Γ _ k E Hk H σ rp _ fun v d Γ1 Hk1 H1 k1 r1 e1 i1 => ?_
  obtain ⟨ds, es, h1, rfl, hz, k1⟩ := k1
  obtain ⟨l', b1, ⟨xs, b2, b3⟩, _⟩ := own_of rp r1 ho h1
  rw [a1] at b1
  cases b1
  obtain ⟨b, zs, rfl, c1, c2⟩ := i1
  refine ⟨l, b, xs, zs, rfl, rfl, b2, r1.step.s _ _ c1, by rw [b3.len, c2.len]; exact hz, ?_⟩
  exact q _ _ _ Hk1 _ k1 (r1.mut h1 a1 ⟨_, upd_same, b3.append c2⟩) e1 rfl
theorem pd_popAt (i : Nat) (he : PD X e te) (hN : X.N[i]? = some x := by rfl) (hv : Vis X.env.scope x := by first | exact Or.inl rfl | exact Or.inr (Or.inl rfl) | exact Or.inr (Or.inr rfl))
    (hd : (x == ("__debug__" : Str)) = false := by decide) (hcd : (x == ("__classdict__" : Str)) = false := by decide)
    (hs : starEach [e] X.env = (false, eval e X.env) :: starEach [] X.env := by rfl) (hbase : attributeBase (.Name x p) "pop" X.env (eval (.Name x p) X.env) = eval (.Name x p) X.env := by rfl)
    (hfew : ((backTo pos (starEach [e] X.env)).all (fun x => !x.1) && (backToKw pos (keywordEach [] X.env)).all (fun x => x.1.isSome)
      && decide (([e] : List Expr).length + ([] : List Keyword).length + (if ([] : List Keyword).isEmpty then 0 else 1) < 30)) = true := by rfl)
    (hline : (apos.endLine == pos.line) = true := by rfl) (hplain : (backTo pos (starEach [] X.env)).any (·.1) = false := by rfl) :
    PD X (.Call (.Attribute (.Name x p) "pop" apos) [e] [] pos) (dPopAt i te) := by
  refine ⟨fun Γ R k E Hk H σ rp Q q => ⟨_, pe_bm F.plainAttrs_list F.slot_list_pop (by rfl) mt_popAt (pe_var hN hv hd hcd) (pa_cons pe_w pa_nil hs) hbase hfew hline hs hplain, ?_⟩⟩
  obtain ⟨⟨o, ho⟩, k⟩ := k
  obtain ⟨l, a1, _, _, xs0, aO, _⟩ := rp.own i _ ho
  refine ⟨_, a1, .inl ⟨rfl, xs0, .inl (.inl aO)⟩, ?_⟩
  refine he.run Γ _ k E Hk H σ rp _ fun v d Γ1 Hk1 H1 k1 r1 e1 i1 => ?_
  obtain ⟨ds, kk, d', h1, rfl, h2, h3, k1⟩ := k1
  obtain ⟨l', b1, ⟨xs, b2, b3⟩, _⟩ := own_of rp r1 ho h1
  rw [a1] at b1
  cases b1
  cases (show v = _ from i1)
  obtain ⟨w, c1, c2⟩ := b3.get h2
  have hlt : kk < xs.length := (List.getElem?_eq_some_iff.mp c1).1
  refine ⟨l, xs, (kk : Int), kk, w, rfl, rfl, b2, by omega, by omega, ?_, c1, ?_⟩
  · exact seqIndex_of (by omega) (by omega)
  · exact q _ _ _ Hk1 _ k1 (r1.mut h1 a1 ⟨_, upd_same, b3.eraseIdx kk⟩) e1 c2
/-- xs[i] = e of an own list: e, then the name, then the place -/
def dSetIx (i : Nat) (te tv : TD) : TDS := fun D Γ => tv Γ fun d Γ1 => isOwnL Γ1 i ∧ te Γ1 fun k Γ2 => ∃ ds j n, Γ2[i]? = some (.own (.lst ds)) ∧ k = .int j ∧ ixN ds.length j = some n ∧ D.nx (Γ2.set i (.own (.lst (ds.set n d))))
theorem pds_setIx (i : Nat) (hV : PD X value tv) (he : PD X e te) (hN : X.N[i]? = some x := by rfl) (hv : Vis X.env.scope x := by first | exact Or.inl rfl | exact Or.inr (Or.inl rfl) | exact Or.inr (Or.inr rfl))
    (hd : (x == ("__debug__" : Str)) = false := by decide) (hcd : (x == ("__classdict__" : Str)) = false := by decide)
    (ha : ∀ v, assign (.Subscript (.Name x p) e pos') X.env v = (do
      let ov ← holding [v] (eval (.Name x p) X.env)
      let iv ← holding [v, ov] (eval e X.env)
      standAt pos'
      holding [v, ov, iv] (setItem ov iv v)
      release [v, ov, iv] []) := by intro _; rfl)
    (hs : swapsWithSole [.Subscript (.Name x p) e pos'] value pos.line X.env = pure false := by rfl) (hw : swappedStores [.Subscript (.Name x p) e pos'] value X.env = pure none := by rfl)
    (h1 : (assignEach [.Subscript (.Name x p) e pos'] X.env).map (·.2) = [assign (.Subscript (.Name x p) e pos') X.env] := by rfl) : PDS1 X (.Assign [.Subscript (.Name x p) e pos'] value pos) (dSetIx i te tv) := by
  refine ⟨fun D Γ k E Hk H σ rp F m => ⟨_, ps_asg pe_w (pg_sub (pe_var hN hv hd hcd) pe_w set_list ha) hs hw h1, ?_⟩⟩
  refine hV.run Γ _ k E Hk H σ rp _ fun v d Γ1 Hk1 H1 k1 r1 e1 i1 => ?_
  obtain ⟨⟨o, ho⟩, k1⟩ := k1
  obtain ⟨l, a1, _⟩ := r1.own i _ ho
  refine ⟨_, a1, ?_⟩
  refine he.run Γ1 _ k1 E Hk1 H1 σ r1 _ fun w d2 Γ2 Hk2 H2 k2 r2 e2 i2 => ?_
  obtain ⟨ds, j, n, h1, rfl, h2, k2⟩ := k2
  obtain ⟨l', b1, ⟨xs, b2, b3⟩, _⟩ := own_of r1 r2 ho h1
  rw [a1] at b1
  cases b1
  cases (show w = _ from i2)
  refine ⟨l, xs, j, n, rfl, rfl, b2, by rw [b3.len]; exact h2, ?_⟩
  exact m.nx _ Hk2 _ σ k2 (r2.mut h1 a1 ⟨_, upd_same, b3.set n (i1.mono e2)⟩)
/-- d[e] = v of an own dict with tuples as keys -/
def keyD (k : List Key) : D := .tup (k.map kD)
def putD {κ : Type} [DecidableEq κ] (ks : List κ) (ds : List D) (k : κ) (d : D) : List κ × List D :=
  match ks.findIdx? (fun z => decide (z = k)) with
  | some i => (ks, ds.set i d)
  | none => (ks ++ [k], ds ++ [d])
theorem putK_is {κ : Type} [DecidableEq κ] {H : Hp} {k : κ} {d : D} {v : V} (iv : Is H d v) : ∀ {kvs : List (κ × V)} {ks : List κ} {ds : List D}, kvs.map (·.1) = ks → ks.Nodup → IsL H ds (kvs.map (·.2)) → (putK kvs k v).map (·.1) = (putD ks ds k d).1 ∧ IsL H (putD ks ds k d).2 ((putK kvs k v).map (·.2)) := by
  intro kvs ks ds h1 hn h2
  subst h1
  unfold putD putK
  cases e : (kvs.map (·.1)).findIdx? (fun z => decide (z = k)) with
  | none =>
    have hno : (kvs.any fun kv => decide (kv.1 = k)) = false := by
      rw [List.findIdx?_eq_none_iff] at e
      rw [List.any_eq_false]
      intro kv hkv
      have := e kv.1 (List.mem_map_of_mem hkv)
      simpa using this
    rw [hno]
    simp only [Bool.false_eq_true, if_false, List.map_append]
    exact ⟨rfl, h2.append (.cons iv .nil)⟩
  | some i =>
    rw [List.findIdx?_eq_some_iff_getElem] at e
    obtain ⟨hi, hk, _⟩ := e
    rw [List.length_map] at hi
    have hk' : kvs[i].1 = k := by simpa using hk
    have hyes : (kvs.any fun kv => decide (kv.1 = k)) = true := List.any_eq_true.mpr ⟨kvs[i], List.getElem_mem hi, by simpa using hk'⟩
    rw [hyes]
    simp only [if_true]
    refine ⟨?_, ?_⟩
    · rw [List.map_map]
      refine List.map_congr_left fun kv _ => ?_
      show (if kv.1 = k then (kv.1, v) else kv).1 = kv.1
      split <;> rfl
    · have : (kvs.map fun kv => if kv.1 = k then (kv.1, v) else kv).map (·.2) = (kvs.map (·.2)).set i v := by
        refine List.ext_getElem (by simp) fun j h3 h4 => ?_
        simp only [List.length_map] at h3
        simp only [List.getElem_map]
        rw [List.getElem_set]
        by_cases hij : i = j
        · subst hij
          rw [if_pos rfl, if_pos hk']
        · rw [if_neg hij, if_neg, List.getElem_map]
          intro z
          have P := List.pairwise_iff_getElem.mp hn
          rcases Nat.lt_or_gt_of_ne hij with w | w
          · exact P i j (by simpa using hi) (by simpa using h3) w (by simp only [List.getElem_map]; rw [hk', z])
          · exact P j i (by simpa using h3) (by simpa using hi) w (by simp only [List.getElem_map]; rw [hk', z])
      rw [this]
      exact h2.set i iv
end
end DL
set_option maxHeartbeats 4000000
/-! readings upon data: own dicts, instances, calls that change their first argument, methods, isinstance, texts -/
namespace DL
open PySem PySem.Spec PyProof.Rows L2
section
variable {X : Cx} {pos p p2 apos pos' : Pos} {e e2 value o : Expr} {es : List Expr} {tl : TDA} {ta tb te tv : TD} {tn : TDN} {x : Str}
/-- d[e] = v of an own dict with tuples as keys -/
def dSetDT (i : Nat) (te tv : TD) : TDS := fun D Γ => tv Γ fun d Γ1 => isOwn Γ1 i ∧ te Γ1 fun k Γ2 => ∃ ks ds key, Γ2[i]? = some (.own (.dT ks ds)) ∧ k = keyD key ∧ ks.Nodup ∧ ks.length < sizeLine ∧ D.nx (Γ2.set i (.own (.dT (putD ks ds key d).1 (putD ks ds key d).2)))
theorem keyD_is {H : Hp} {key : List Key} {v : V} (h : Is H (keyD key) v) : ∃ b, v = .ref b ∧ H b = some (.tup (key.map kV)) := by
  obtain ⟨b, xs, rfl, h1, h2⟩ := h
  refine ⟨b, rfl, ?_⟩
  rw [h1]
  congr 2
  clear h1
  induction key generalizing xs with
  | nil => exact h2
  | cons k ks ih =>
    obtain ⟨y, r, rfl, h3, h4⟩ := h2
    rw [List.map_cons, ih _ h4]
    cases k with
    | inl i => cases (show y = _ from h3); rfl
    | inr s => cases (show y = _ from h3); rfl
theorem pds_setDT (i : Nat) (hu : X.A.units + 1 < cLine) (hV : PD X value tv) (he : PD X e te) (hN : X.N[i]? = some x := by rfl) (hv : Vis X.env.scope x := by first | exact Or.inl rfl | exact Or.inr (Or.inl rfl) | exact Or.inr (Or.inr rfl))
    (hd : (x == ("__debug__" : Str)) = false := by decide) (hcd : (x == ("__classdict__" : Str)) = false := by decide)
    (hs : swapsWith value (some (.Subscript (.Name x p) e pos')) pos.line X.env = pure false := by rfl) : PDS1 X (.Assign [.Subscript (.Name x p) e pos'] value pos) (dSetDT i te tv) := by
  refine ⟨fun D Γ k E Hk H σ rp F m => ⟨_, ps_dput hu (pe_var hN hv hd hcd) pe_w pe_w hs, ?_⟩⟩
  refine hV.run Γ _ k E Hk H σ rp _ fun v d Γ1 Hk1 H1 k1 r1 e1 i1 => ?_
  obtain ⟨⟨o, ho⟩, k1⟩ := k1
  obtain ⟨l, a1, _⟩ := r1.own i _ ho
  refine ⟨_, a1, ?_⟩
  refine he.run Γ1 _ k1 E Hk1 H1 σ r1 _ fun w d2 Γ2 Hk2 H2 k2 r2 e2 i2 => ?_
  obtain ⟨ks, ds, key, h1, rfl, h2, h3, k2⟩ := k2
  obtain ⟨l', b1, ⟨kvs, b2, b3, b4⟩, _⟩ := own_of r1 r2 ho h1
  rw [a1] at b1
  cases b1
  obtain ⟨b, rfl, hb⟩ := keyD_is i2
  have hl : kvs.length < sizeLine := by rw [← b3, List.length_map] at h3; exact h3
  obtain ⟨q1, q2⟩ := putK_is (k := key) (i1.mono e2) b3 h2 b4
  exact ⟨l, _, rfl, .t b2 (r2.step.s _ _ hb) hl, m.nx _ Hk2 _ σ k2 (r2.mut h1 a1 ⟨_, upd_same, q1, q2⟩)⟩

/-! ### dicts read -/
def findD {κ : Type} [DecidableEq κ] (ks : List κ) (ds : List D) (k : κ) : Option D := (ks.findIdx? fun z => decide (z = k)).bind fun i => ds[i]?
def OptI (H : Hp) : Option D → Option V → Prop
  | some d, o => ∃ v, o = some v ∧ Is H d v
  | none, o => o = none
theorem findD_is {κ : Type} [DecidableEq κ] {H : Hp} {k : κ} : ∀ {kvs : List (κ × V)} {ks : List κ} {ds : List D}, kvs.map (·.1) = ks → IsL H ds (kvs.map (·.2)) → OptI H (findD ks ds k) (valV kvs k)
  | [], ks, ds, h1, h2 => by
    subst h1
    exact rfl
  | (a, v) :: r, ks, ds, h1, h2 => by
    subst h1
    cases ds with
    | nil =>
      have z : _ = ([] : List V) := h2
      cases z
    | cons d ds =>
      obtain ⟨v', r', hr, i1, i2⟩ := h2
      cases hr
      have ih := findD_is (k := k) (kvs := r) rfl i2
      unfold findD at ih ⊢
      rw [List.map_cons, List.findIdx?_cons]
      by_cases hk : a = k
      · rw [valV_pos (p := (a, v)) hk]
        simp only [hk, decide_true, if_true]
        exact ⟨v, rfl, i1⟩
      · rw [valV_neg (p := (a, v)) hk]
        simp only [hk, decide_false, Bool.false_eq_true, if_false]
        cases hf : (r.map (·.1)).findIdx? (fun z => decide (z = k)) with
        | none =>
          rw [hf] at ih
          exact ih
        | some j =>
          rw [hf] at ih
          exact ih
/-- the answer to a key, of a dict -/
def lookD : D → D → Option (Option D)
  | .dK ks ds, .str s => some (findD ks ds (.inr s))
  | .dK ks ds, .int i => some (findD ks ds (.inl i))
  | _, _ => none
def lookT (d : D) (key : List Key) : Option (Option D) := match d with
  | .dT ks ds => some (findD ks ds key)
  | _ => none
/-- d[k] -/
def dDGet (ta te : TD) : TD := fun Γ R => ta Γ fun d Γ1 => te Γ1 fun k Γ2 => ∃ v, (lookD d k = some (some v) ∨ ∃ key, k = keyD key ∧ lookT d key = some (some v)) ∧ R v Γ2
theorem dget_is {H Hk : Hp} (ex : Ex Hk H) {d k : D} {x y : V} {r : Option D} (hx : Is Hk d x) (hy : Is Hk k y) (h : lookD d k = some r ∨ ∃ key, k = keyD key ∧ lookT d key = some r) : ∃ a o, x = .ref a ∧ DGet H a y o ∧ OptI Hk r o := by
  rcases h with h | ⟨key, rfl, h⟩
  · unfold lookD at h
    split at h
    · rename_i ks ds s
      cases h
      obtain ⟨a, kvs, rfl, h1, h2, h3⟩ := hx
      cases (show y = _ from hy)
      refine ⟨a, _, rfl, DGet.k (k := .inr s) (ex _ _ h1), ?_⟩
      exact findD_is h2 h3
    · rename_i ks ds s
      cases h
      obtain ⟨a, kvs, rfl, h1, h2, h3⟩ := hx
      cases (show y = _ from hy)
      refine ⟨a, _, rfl, DGet.k (k := .inl s) (ex _ _ h1), ?_⟩
      exact findD_is h2 h3
    · cases h
  · unfold lookT at h
    split at h
    · rename_i ks ds
      cases h
      obtain ⟨a, kvs, rfl, h1, h2, h3⟩ := hx
      obtain ⟨b, rfl, hb⟩ := keyD_is hy
      refine ⟨a, _, rfl, DGet.t (ex _ _ h1) (ex _ _ hb), ?_⟩
      exact findD_is h2 h3
    · cases h
theorem pd_dget (hu : X.A.units + 1 < cLine) (ha : PD X o ta) (he : PD X e te) (hs : NoSl e := by exact fun _ _ => rfl) : PD X (.Subscript o e pos) (dDGet ta te) := by
  refine ⟨fun Γ R k E Hk H σ rp Q q => ⟨_, pe_dget hu pe_w pe_w hs, ?_⟩⟩
  refine ha.run Γ _ k E Hk H σ rp _ fun v1 d1 Γ1 Hk1 H1 k1 r1 e1 i1 => ?_
  refine he.run Γ1 _ k1 E Hk1 H1 σ r1 _ fun v2 d2 Γ2 Hk2 H2 k2 r2 e2 i2 => ?_
  obtain ⟨d, h, k2⟩ := k2
  obtain ⟨a, o, h1, h2, v, rfl, h3⟩ := dget_is r2.step.s (i1.mono e2) i2 h
  exact ⟨a, v, h1, h2, q v d Γ2 Hk2 H2 k2 r2 (e1.trans e2) h3⟩
/-- k in d -/
def dDIn (te ta : TD) : TD := fun Γ R => te Γ fun k Γ1 => ta Γ1 fun d Γ2 => ∃ r, (lookD d k = some r ∨ ∃ key, k = keyD key ∧ lookT d key = some r) ∧ R (.bl r.isSome) Γ2
def dDNotIn (te ta : TD) : TD := fun Γ R => te Γ fun k Γ1 => ta Γ1 fun d Γ2 => ∃ r, (lookD d k = some r ∨ ∃ key, k = keyD key ∧ lookT d key = some r) ∧ R (.bl (!r.isSome)) Γ2
theorem some_eq {r : Option D} {o : Option V} {Hk : Hp} (h : OptI Hk r o) : o.isSome = r.isSome := by
  cases r with
  | none => cases (show o = none from h); rfl
  | some e =>
    obtain ⟨v, rfl, _⟩ := h
    rfl
theorem pd_din (hu : X.A.units + 1 < cLine) (he : PD X e te) (ha : PD X o ta) (h1 : behindInMarks .In o = false := by first | exact nobehind _ (by decide) (by decide) | with_unfolding_all rfl) : PD X (.Compare e [.In] [o] pos) (dDIn te ta) := by
  refine ⟨fun Γ R k E Hk H σ rp Q q => ⟨_, pe_cmp (pc_din hu pe_w pe_w) h1, ?_⟩⟩
  refine he.run Γ _ k E Hk H σ rp _ fun v1 d1 Γ1 Hk1 H1 k1 r1 e1 i1 => ?_
  refine ha.run Γ1 _ k1 E Hk1 H1 σ r1 _ fun v2 d2 Γ2 Hk2 H2 k2 r2 e2 i2 => ?_
  obtain ⟨r, h, k2⟩ := k2
  obtain ⟨a, o, g1, g2, g3⟩ := dget_is r2.step.s i2 (i1.mono e2) h
  refine ⟨a, o, g1, g2, ?_⟩
  rw [some_eq g3]
  exact q _ _ Γ2 Hk2 H2 k2 r2 (e1.trans e2) rfl
theorem pd_dnin (hu : X.A.units + 1 < cLine) (he : PD X e te) (ha : PD X o ta) (h1 : behindInMarks .NotIn o = false := by first | exact nobehind _ (by decide) (by decide) | with_unfolding_all rfl) : PD X (.Compare e [.NotIn] [o] pos) (dDNotIn te ta) := by
  refine ⟨fun Γ R k E Hk H σ rp Q q => ⟨_, pe_cmp (pc_dnotin hu pe_w pe_w) h1, ?_⟩⟩
  refine he.run Γ _ k E Hk H σ rp _ fun v1 d1 Γ1 Hk1 H1 k1 r1 e1 i1 => ?_
  refine ha.run Γ1 _ k1 E Hk1 H1 σ r1 _ fun v2 d2 Γ2 Hk2 H2 k2 r2 e2 i2 => ?_
  obtain ⟨r, h, k2⟩ := k2
  obtain ⟨a, o, g1, g2, g3⟩ := dget_is r2.step.s i2 (i1.mono e2) h
  refine ⟨a, o, g1, g2, ?_⟩
  rw [some_eq g3]
  exact q _ _ Γ2 Hk2 H2 k2 r2 (e1.trans e2) rfl
theorem din_run (hu : X.A.units + 1 < cLine) (he : PD X e te) (ha : PD X o ta) {Γ : G} {R : Bool → G → Prop} (k : dB (dDIn te ta) Γ R) {E : En} {Hk H : Hp} {σ : St} (rp : Rp E Γ Hk H σ) {Q : Bool → Hp → Prop}
    (q : ∀ b Γ' Hk2 H2, R b Γ' → Rp E Γ' Hk2 H2 σ → Ex Hk Hk2 → Q b H2) : tB (tDIn (WE X e) (WE X o)) σ H Q := by
  refine he.run Γ _ k E Hk H σ rp _ fun v1 d1 Γ1 Hk1 H1 k1 r1 e1 i1 => ?_
  refine ha.run Γ1 _ k1 E Hk1 H1 σ r1 _ fun v2 d2 Γ2 Hk2 H2 k2 r2 e2 i2 => ?_
  obtain ⟨r, h, k2⟩ := k2
  obtain ⟨a, o, g1, g2, g3⟩ := dget_is r2.step.s i2 (i1.mono e2) h
  refine ⟨a, o, g1, g2, _, rfl, ?_⟩
  rw [some_eq g3]
  exact q _ Γ2 Hk2 H2 k2 r2 (e1.trans e2)
theorem dnin_run (hu : X.A.units + 1 < cLine) (he : PD X e te) (ha : PD X o ta) {Γ : G} {R : Bool → G → Prop} (k : dB (dDNotIn te ta) Γ R) {E : En} {Hk H : Hp} {σ : St} (rp : Rp E Γ Hk H σ) {Q : Bool → Hp → Prop}
    (q : ∀ b Γ' Hk2 H2, R b Γ' → Rp E Γ' Hk2 H2 σ → Ex Hk Hk2 → Q b H2) : tB (tDNotIn (WE X e) (WE X o)) σ H Q := by
  refine he.run Γ _ k E Hk H σ rp _ fun v1 d1 Γ1 Hk1 H1 k1 r1 e1 i1 => ?_
  refine ha.run Γ1 _ k1 E Hk1 H1 σ r1 _ fun v2 d2 Γ2 Hk2 H2 k2 r2 e2 i2 => ?_
  obtain ⟨r, h, k2⟩ := k2
  obtain ⟨a, o, g1, g2, g3⟩ := dget_is r2.step.s i2 (i1.mono e2) h
  refine ⟨a, o, g1, g2, _, rfl, ?_⟩
  rw [some_eq g3]
  exact q _ Γ2 Hk2 H2 k2 r2 (e1.trans e2)
theorem pdt_din (hu : X.A.units + 1 < cLine) (he : PD X e te) (ha : PD X o ta) (h1 : behindInMarks .In o = false := by first | exact nobehind _ (by decide) (by decide) | with_unfolding_all rfl) : PDT X (.Compare e [.In] [o] pos) (dB (dDIn te ta)) :=
  ⟨fun Γ R k E Hk H σ rp Q q => ⟨_, pt_cmp (pc_din hu pe_w pe_w) h1, din_run hu he ha k rp q⟩⟩
theorem pdt_dnin (hu : X.A.units + 1 < cLine) (he : PD X e te) (ha : PD X o ta) (h1 : behindInMarks .NotIn o = false := by first | exact nobehind _ (by decide) (by decide) | with_unfolding_all rfl) : PDT X (.Compare e [.NotIn] [o] pos) (dB (dDNotIn te ta)) :=
  ⟨fun Γ R k E Hk H σ rp Q q => ⟨_, pt_cmp (pc_dnotin hu pe_w pe_w) h1, dnin_run hu he ha k rp q⟩⟩

/-! ### attributes -/
def getF (ns : List Str) (ds : List D) (f : Str) : Option D := findD ns ds f
theorem lookup_is {H : Hp} {f : Str} : ∀ {fs : List (Str × V)} {ns : List Str} {ds : List D}, fs.map (·.1) = ns → IsL H ds (fs.map (·.2)) → OptI H (getF ns ds f) (fs.lookup f)
  | [], ns, ds, h1, h2 => by
    subst h1
    exact rfl
  | (a, v) :: r, ns, ds, h1, h2 => by
    subst h1
    cases ds with
    | nil =>
      have z : _ = ([] : List V) := h2
      cases z
    | cons d ds =>
      obtain ⟨v', r', hr, i1, i2⟩ := h2
      cases hr
      have ih := lookup_is (f := f) (fs := r) rfl i2
      unfold getF findD at ih ⊢
      rw [List.map_cons, List.findIdx?_cons]
      by_cases hk : f = a
      · subst hk
        have e1 : List.lookup f ((f, v) :: r) = some v := by rw [List.lookup_cons, beq_self_eq_true]
        rw [e1]
        simp only [decide_true, if_true]
        exact ⟨v, rfl, i1⟩
      · have e1 : List.lookup f ((a, v) :: r) = List.lookup f r := by
          rw [List.lookup_cons]
          have : (f == a) = false := beq_eq_false_iff_ne.mpr hk
          rw [this]
        rw [e1]
        simp only [Ne.symm hk, decide_false, Bool.false_eq_true, if_false]
        cases hf : (r.map (·.1)).findIdx? (fun z => decide (z = f)) with
        | none =>
          rw [hf] at ih
          exact ih
        | some j =>
          rw [hf] at ih
          exact ih
/-- o.f of data -/
def dFld (C : Addr) (f : Str) (ta : TD) : TD := fun Γ R => ta Γ fun d Γ1 => ∃ ns ds e, d = .ins C ns ds ∧ getF ns ds f = some e ∧ R e Γ1
theorem pd_fld {C : Addr} {f : Str} (c : Cls X.K C) (n : NoAttr X.K C f) (ha : PD X o ta) (hb : attributeBase o f X.env (eval o X.env) = eval o X.env := by rfl) : PD X (.Attribute o f pos) (dFld C f ta) := by
  refine ⟨fun Γ R k E Hk H σ rp Q q => ⟨_, pe_fld pe_w hb, ?_⟩⟩
  refine ha.run Γ _ k E Hk H σ rp _ fun v d Γ1 Hk1 H1 k1 r1 e1 i1 => ?_
  obtain ⟨ns, ds, e, rfl, h1, k1⟩ := k1
  obtain ⟨a, dx, fs, rfl, h2, h3, h4⟩ := i1
  have z := lookup_is (f := f) h3 h4
  rw [h1] at z
  obtain ⟨w, z1, z2⟩ := z
  exact ⟨a, C, dx, fs, w, rfl, r1.step.s _ _ h2, c, n, z1, q w e Γ1 Hk1 H1 k1 r1 e1 z2⟩
/-- self.f of the own instance -/
def dOwnFld (C : Addr) (f : Str) (i : Nat) : TD := fun Γ R => ∃ ns ds e, Γ[i]? = some (.own (.ins C ns ds)) ∧ getF ns ds f = some e ∧ R e Γ
theorem pd_ownFld {C : Addr} {f : Str} (i : Nat) (c : Cls X.K C) (n : NoAttr X.K C f) (hN : X.N[i]? = some x := by rfl) (hv : Vis X.env.scope x := by first | exact Or.inl rfl | exact Or.inr (Or.inl rfl) | exact Or.inr (Or.inr rfl))
    (hd : (x == ("__debug__" : Str)) = false := by decide) (hcd : (x == ("__classdict__" : Str)) = false := by decide) (hb : attributeBase (.Name x p) f X.env (eval (.Name x p) X.env) = eval (.Name x p) X.env := by rfl) :
    PD X (.Attribute (.Name x p) f pos) (dOwnFld C f i) := by
  refine ⟨fun Γ R k E Hk H σ rp Q q => ⟨_, pe_fld (pe_var hN hv hd hcd) hb, ?_⟩⟩
  obtain ⟨ns, ds, e, ho, h1, k⟩ := k
  obtain ⟨l, a1, _, _, dx, fs, h2, h3, h4⟩ := rp.own i _ ho
  refine ⟨_, a1, ?_⟩
  have z := lookup_is (f := f) h3 h4
  rw [h1] at z
  obtain ⟨w, z1, z2⟩ := z
  exact ⟨l, C, dx, fs, w, rfl, h2, c, n, z1, q w e Γ Hk H k rp (Ex.refl _) z2⟩
/-- self.f = e -/
def setF : List Str → List D → Str → D → List Str × List D
  | [], _, f, d => ([f], [d])
  | g :: ns, e :: ds, f, d => if g = f then (g :: ns, d :: ds) else (g :: (setF ns ds f d).1, e :: (setF ns ds f d).2)
  | g :: ns, [], f, d => ([], [])
theorem putF_is {H : Hp} {f : Str} {d : D} {v : V} (iv : Is H d v) : ∀ {fs : List (Str × V)} {ns : List Str} {ds : List D}, fs.map (·.1) = ns → IsL H ds (fs.map (·.2)) → (putF f v fs).map (·.1) = (setF ns ds f d).1 ∧ IsL H (setF ns ds f d).2 ((putF f v fs).map (·.2))
  | [], ns, ds, h1, h2 => by
    subst h1
    exact ⟨rfl, .cons iv .nil⟩
  | (a, w) :: r, ns, ds, h1, h2 => by
    subst h1
    cases ds with
    | nil =>
      have z : _ = ([] : List V) := h2
      cases z
    | cons e ds =>
      obtain ⟨v', r', hr, i1, i2⟩ := h2
      cases hr
      have ih := putF_is (f := f) iv (fs := r) rfl i2
      rw [List.map_cons]
      unfold putF setF
      by_cases hk : a = f
      · rw [if_pos hk, if_pos hk]
        exact ⟨rfl, .cons iv i2⟩
      · rw [if_neg hk, if_neg hk]
        exact ⟨by rw [List.map_cons, ih.1], .cons i1 ih.2⟩
def dSetF (C : Addr) (f : Str) (i : Nat) (tv : TD) : TDS := fun D Γ => tv Γ fun d Γ1 => ∃ ns ds, Γ1[i]? = some (.own (.ins C ns ds)) ∧ ns.length < 1000 ∧ D.nx (Γ1.set i (.own (.ins C (setF ns ds f d).1 (setF ns ds f d).2)))
theorem pds_setF {C : Addr} {f : Str} (i : Nat) (c : Cls X.K C) (n : NoAttr X.K C f) (hV : PD X value tv) (hN : X.N[i]? = some x := by rfl) (hv : Vis X.env.scope x := by first | exact Or.inl rfl | exact Or.inr (Or.inl rfl) | exact Or.inr (Or.inr rfl))
    (hd : (x == ("__debug__" : Str)) = false := by decide) (hcd : (x == ("__classdict__" : Str)) = false := by decide) (hs : swapsWith value (some (.Attribute (.Name x p) f pos')) pos.line X.env = pure false := by rfl) :
    PDS1 X (.Assign [.Attribute (.Name x p) f pos'] value pos) (dSetF C f i tv) := by
  refine ⟨fun D Γ k E Hk H σ rp F m => ⟨_, ps_fld (pe_var hN hv hd hcd) pe_w hs, ?_⟩⟩
  refine hV.run Γ _ k E Hk H σ rp _ fun v d Γ1 Hk1 H1 k1 r1 e1 i1 => ?_
  obtain ⟨ns, ds, ho, hl, k1⟩ := k1
  obtain ⟨l, a1, _, _, dx, fs, h2, h3, h4⟩ := r1.own i _ ho
  refine ⟨_, a1, l, C, dx, fs, rfl, h2, c, n, by rw [← h3, List.length_map] at hl; exact hl, ?_⟩
  obtain ⟨q1, q2⟩ := putF_is (f := f) i1 h3 h4
  exact m.nx _ Hk1 _ σ k1 (r1.mut ho a1 ⟨dx, _, upd_same, q1, q2⟩)

/-! ### a def that changes its first argument -/
def less (l : Addr) (H : Hp) : Hp := fun a => if a = l then none else H a
theorem less_ex {l : Addr} {H : Hp} : Ex (less l H) H := fun a u q => by
  have q' : (if a = l then none else H a) = some u := q
  by_cases z : a = l
  · rw [if_pos z] at q'
    cases q'
  · rw [if_neg z] at q'
    exact q'
theorem less_at {l : Addr} {H : Hp} : less l H l = none := if_pos rfl
theorem less_ne {l a : Addr} {H : Hp} (h : a ≠ l) : less l H a = H a := if_neg h
/-- o: the first argument's object; ds the others; the answer and what is the object then -/
abbrev TFO := OD → List D → (D → OD → Prop) → Prop
def SpO (f : TFO) : Sp := fun vs H Q _ => ∃ (Hk : Hp) (l : Addr) (r : List V) (o : OD) (ds : List D) (K : D → OD → Prop), vs = .ref l :: r ∧ Hk l = none ∧ OwnAt Hk H o l ∧ Ex Hk H ∧ IsL Hk ds r ∧ f o ds K ∧
  ∀ d o2 v Hk2 H2, K d o2 → Step Hk (less l H) Hk2 H2 → Hk2 l = none → OwnAt Hk2 H2 o2 l → Is Hk2 d v → Q v H2
variable {k : Nat} {fa : Addr} {fd : FuncData} {ps : List Str} {ff : TFO}
def dCallO (i : Nat) (f : TFO) (tl : TDA) : TD := fun Γ R => isOwn Γ i ∧ tl Γ fun ds Γ1 => ∃ o, Γ1[i]? = some (.own o) ∧ f o ds fun d o2 => R d (Γ1.set i (.own o2))
theorem pd_callO {y : Str} (i : Nat) (F : FnOk X.prog X.w X.K X.mg X.base CX0 k fa fd ps (SpO ff)) (hr : Room k X.A) (hg : Gl X x) (hm : X.mg x = some (.ref fa)) (hk : PySem.W.keepIn X.K (.ref fa) = true) (hb : Binds X.K fd ps [])
    (ha : PDA X es tl) (hN : X.N[i]? = some y := by rfl) (hv : Vis X.env.scope y := by first | exact Or.inl rfl | exact Or.inr (Or.inl rfl) | exact Or.inr (Or.inr rfl))
    (hd : (y == ("__debug__" : Str)) = false := by decide) (hcd : (y == ("__classdict__" : Str)) = false := by decide)
    (hdb : (x == ("__debug__" : Str)) = false := by decide) (he : starEach (.Name y p2 :: es) X.env = (false, eval (.Name y p2) X.env) :: starEach es X.env := by rfl) (hpl : (backTo pos (starEach es X.env)).any (·.1) = false := by rfl) :
    PD X (.Call (.Name x p) (.Name y p2 :: es) [] pos) (dCallO i ff tl) := by
  refine ⟨fun Γ R kk E Hk H σ rp Q q => ⟨_, pe_call F hr hg hm hk hb .nil pass0 (pa_cons (pe_var hN hv hd hcd) pa_w he) hdb he hpl, ?_⟩⟩
  obtain ⟨⟨o, ho⟩, kk⟩ := kk
  obtain ⟨l, a1, _⟩ := rp.own i o ho
  refine ⟨_, a1, ?_⟩
  refine ha.run Γ _ kk E Hk H σ rp _ fun vs ds Γ1 Hk1 H1 k1 r1 e1 i1 => ?_
  obtain ⟨o1, h1, k1⟩ := k1
  obtain ⟨l', b1, b2, b3, b4⟩ := own_of rp r1 ho h1
  rw [a1] at b1
  cases b1
  refine ⟨Hk1, l, vs, o1, ds, _, by rw [List.append_nil], b3, b2, r1.step.s, i1, k1, fun d o2 v Hk2 H2 hd s hk2 ow iv => q v d _ Hk2 H2 hd ?_ (e1.trans s.k) iv⟩
  have hl : i < Γ1.length := (List.getElem?_eq_some_iff.mp h1).1
  refine ⟨⟨r1.step.k.trans s.k, fun a u z => ?_, s.s, fun a z1 z2 => ?_⟩, by rw [List.length_set, r1.len], fun j e z => ?_, fun j o' z => ?_, fun j k p1 p2 m z1 z2 z3 z4 => ?_, fun m pn ⟨o', z⟩ => ?_⟩
  · have ne : a ≠ l := fun w => by rw [w, b4] at z; cases z
    exact s.h a u ((less_ne ne).trans (r1.step.h a u z))
  · have ne : a ≠ l := fun w => z2 (by rw [w]; exact b4)
    refine s.g a (r1.step.g a z1 z2) ?_
    rw [less_ne ne]
    exact fun w => z2 (r1.step.h.nn w)
  · rcases get_set z with ⟨_, w⟩ | ⟨ne, w⟩
    · cases w
    · obtain ⟨x, g1, g2⟩ := r1.val j e w
      exact ⟨x, g1, g2.mono s.k⟩
  · rcases get_set z with ⟨rfl, w⟩ | ⟨ne, w⟩
    · cases w
      exact ⟨l, a1, hk2, b4, ow⟩
    · obtain ⟨m, g1, g2, g3, g4⟩ := r1.own j o' w
      have nm : m ≠ l := fun w2 => ne (r1.sep _ j _ _ l h1 w a1 (by rw [g1, w2]))
      have hm : less l H1 m ≠ none := by
        rw [less_ne nm]
        exact g4.there
      exact ⟨m, g1, s.g m g2 hm, g3, g4.mono s.k fun u w2 => s.h m u ((less_ne nm).trans w2)⟩
  · have w : ∀ {a : Nat} {b}, (Γ1.set i (.own o2))[a]? = some (.own b) → ∃ c, Γ1[a]? = some (.own c) := fun {a b} z => by
      rcases get_set z with ⟨e1, _⟩ | ⟨_, e2⟩
      · exact ⟨o1, e1 ▸ h1⟩
      · exact ⟨b, e2⟩
    obtain ⟨c1, w1⟩ := w z1
    obtain ⟨c2, w2⟩ := w z2
    exact r1.sep j k c1 c2 m w1 w2 z3 z4
  · rcases get_set z with ⟨e1, _⟩ | ⟨_, e2⟩
    · exact r1.pin m pn ⟨o1, e1 ▸ h1⟩
    · exact r1.pin m pn ⟨o', e2⟩
end
/-- such a def -/
def initO (N ps : List Str) (o : OD) (ds : List D) : G := Slot.own o :: (ds.map Slot.val ++ List.replicate (N.length - ps.length) .un)
theorem Rp.startO {Hk H : Hp} (e : Ex Hk H) {ds : List D} {vs : List V} {o : OD} {l : Addr} (hk : Hk l = none) (ow : OwnAt Hk H o l) (h : IsL Hk ds vs) (n : Nat) :
    Rp ⟨Hk, less l H, some l⟩ (Slot.own o :: (ds.map Slot.val ++ List.replicate n .un)) Hk H (some (.ref l) :: (vs.map some ++ List.replicate n none)) := by
  have r0 := Rp.start e h n
  refine ⟨⟨Ex.refl _, less_ex, e, fun _ h _ => h⟩, by rw [List.length_cons, List.length_cons, r0.len], fun i d q => ?_, fun i o' q => ?_, fun i j o1 o2 m q1 q2 q3 q4 => ?_, fun m pn _ => by cases pn; rfl⟩
  · cases i with
    | zero => cases q
    | succ i => exact r0.val i d (by simpa using q)
  · cases i with
    | zero =>
      cases q
      exact ⟨l, rfl, hk, less_at, ow⟩
    | succ i =>
      have z := r0.own i o' (by simpa using q)
      obtain ⟨m, z1, z2, z3, z4⟩ := z
      exact absurd z3 z4.there
  · have no : ∀ {a : Nat} {b}, (Slot.own o :: (ds.map Slot.val ++ List.replicate n .un))[a]? = some (.own b) → a = 0 := fun {a b} z => by
      cases a with
      | zero => rfl
      | succ a =>
        obtain ⟨m, z1, z2, z3, z4⟩ := r0.own a b (by simpa using z)
        exact absurd z3 z4.there
    rw [no q1, no q2]
section
variable {P : Program} {w : World} {K : PySem.W.Frag} {mg : Str → Option Value} {base : Heap} {x qual : Str} {params : Arguments} {body : List Stmt} {scope : Scope} {f : Addr} {fd : FuncData} {N ps : List Str} {k : Nat} {ff : TFO}
def endsO (Kd : D → OD → Prop) : DEnds := { nx := fun Γ => ∃ o2, Γ[0]? = some (.own o2) ∧ Kd .non o2, rt := fun d Γ => ∃ o2, Γ[0]? = some (.own o2) ∧ Kd d o2 }
theorem fn_okO (F : FunD K x qual params body scope [] [] f fd) (S : FnScope N ps scope) (hl : ∀ o ds Kd, ff o ds Kd → ds.length + 1 = ps.length)
    (hb : ∀ (cdv : Value) (A : Around) (outer : List Env) (s : Shared) (H : Hp) (E : XK), Room k (A.deeper (envOfC qual scope s.heap.objs.size f cdv)) →
      ∃ t, PDS (cxOf CX0 P w K mg base N qual scope f cdv A outer s H E).nox body t ∧ ∀ o ds Kd, ff o ds Kd → t (endsO Kd) (initO N ps o ds)) : FnOk P w K mg base CX0 (k + 1) f fd ps (SpO ff) := by
  refine F.ok S (fun vs H Q E h => ?_) (fun cdv A outer s H vs Q E hr h => ?_)
  · obtain ⟨Hk, l, r, o, ds, Kd, rfl, _, _, _, h2, h3, _⟩ := h
    rw [List.length_cons, h2.len]
    exact hl o ds Kd h3
  · obtain ⟨Hk, l, r, o, ds, Kd, rfl, hk, ow, h1, h2, h3, h4⟩ := h
    obtain ⟨t, ht, hq⟩ := hb cdv A outer s H E hr
    have r0 : Rp ⟨Hk, less l H, some l⟩ (initO N ps o ds) Hk H (L2.start N (.ref l :: r)) := by
      unfold L2.start initO
      rw [List.map_cons, List.cons_append, show N.length - (V.ref l :: r).length = N.length - ps.length by rw [List.length_cons, h2.len, hl o ds Kd h3]]
      exact Rp.startO h1 hk ow h2 _
    have main := ht.run _ _ (hq o ds Kd h3) ⟨Hk, less l H, some l⟩ Hk H _ r0 { nx := fun _ H' => Q .non H', rt := Q } ⟨fun Γ Hk' H' σ k r => ?_, fun v d Γ Hk' H' σ k r i => ?_, fun _ _ _ _ z _ => z, fun _ _ _ _ z _ => z⟩
    · obtain ⟨t2, p2, w2⟩ := main
      exact ⟨t2, p2.nox, w2⟩
    · obtain ⟨o2, z1, z2⟩ := k
      obtain ⟨m, g1, g2, g3, g4⟩ := r.own 0 o2 z1
      have z := r.pin l rfl ⟨o2, z1⟩
      rw [g1] at z
      cases z
      exact h4 _ o2 _ _ _ z2 r.step g2 g4 rfl
    · obtain ⟨o2, z1, z2⟩ := k
      obtain ⟨m, g1, g2, g3, g4⟩ := r.own 0 o2 z1
      have z := r.pin l rfl ⟨o2, z1⟩
      rw [g1] at z
      cases z
      exact h4 _ o2 _ _ _ z2 r.step g2 g4 i
end

/-! ### instances made -/
section
variable {X : Cx} {pos p p2 apos pos' : Pos} {e e2 value o : Expr} {es : List Expr} {tl : TDA} {ta tb te tv : TD} {x m : Str} {k : Nat} {fa C : Addr} {fd : FuncData} {ps : List Str} {ff : TFO} {fg : List D → (D → Prop) → Prop}
def dMake (C : Addr) (f : TFO) (tl : TDA) : TD := fun Γ R => tl Γ fun ds Γ1 => f (.ins C [] []) ds fun d o2 => d = .non ∧ R o2.d Γ1
theorem pd_make (M : Mk X.K C fa) (F : FnOk X.prog X.w X.K X.mg X.base CX0 k fa fd ps (SpO ff)) (hr : Room (k + 1) X.A) (hg : Gl X x) (hm : X.mg x = some (.ref C)) (hb : Binds X.K fd ps []) (ha : PDA X (e :: es) tl)
    (hdb : (x == ("__debug__" : Str)) = false := by decide) (he : starEach (e :: es) X.env = (false, eval e X.env) :: starEach es X.env := by rfl) (hpl : (backTo pos (starEach es X.env)).any (·.1) = false := by rfl) :
    PD X (.Call (.Name x p) (e :: es) [] pos) (dMake C ff tl) := by
  refine ⟨fun Γ R kk E Hk H σ rp Q q => ⟨_, pe_make M F hr hg hm hb .nil pass0 pa_w hdb he hpl, ?_⟩⟩
  refine ha.run Γ _ kk E Hk H σ rp _ fun vs ds Γ1 Hk1 H1 k1 r1 e1 i1 => ?_
  intro a dx hx hdx ne
  have hx' : (upd H1 dx (.own a)) a = none := by rw [upd_ne (Ne.symm ne)]; exact hx
  have x1 : Ex H1 (upd (upd H1 dx (.own a)) a (.ins C dx [])) := (Ex.new hdx).trans (Ex.new hx')
  refine ⟨Hk1, a, vs, .ins C [] [], ds, _, by rw [List.append_nil], r1.step.s.nn hx, ⟨dx, [], upd_same, rfl, rfl⟩, r1.step.s.trans x1, i1, k1, fun d o2 v Hk2 H2 hd s hk2 ow iv => ?_⟩
  obtain ⟨rfl, hd⟩ := hd
  refine ⟨iv, ?_⟩
  obtain ⟨u, hu⟩ : ∃ u, H2 a = some u := by
    cases q : H2 a with
    | none => exact absurd q ow.there
    | some u => exact ⟨u, rfl⟩
  have sp : Step Hk1 H1 (upd Hk2 a u) H2 := by
    refine ⟨s.k.trans (Ex.new hk2), fun b w z => ?_, fun b w z => ?_, fun b z1 z2 => ?_⟩
    · have nb : b ≠ a := fun w2 => by rw [w2, hx] at z; cases z
      exact s.h b w ((less_ne nb).trans (x1 b w z))
    · by_cases nb : b = a
      · subst nb
        rw [upd_same] at z
        rw [hu]
        exact z
      · rw [upd_ne nb] at z
        exact s.s b w z
    · have nb : b ≠ a := fun w2 => z2 (by rw [w2]; exact hx)
      rw [upd_ne nb]
      refine s.g b z1 ?_
      rw [less_ne nb]
      exact fun w2 => z2 (x1.nn w2)
  exact q _ _ Γ1 _ H2 hd (r1.grow sp) (e1.trans sp.k) (ow.is hk2 hu)

/-! ### methods of a name's instance -/
def dMeth (i : Nat) (C : Addr) (f : List D → (D → Prop) → Prop) (tl : TDA) : TD := fun Γ R => ∃ ns ds, Γ[i]? = some (.val (.ins C ns ds)) ∧ findD ns ds m = none ∧ tl Γ fun es Γ1 => f (.ins C ns ds :: es) fun d => R d Γ1
theorem lk_none {fs : List (Str × V)} {ns : List Str} {ds : List D} {Hk : Hp} (h1 : fs.map (·.1) = ns) (h2 : IsL Hk ds (fs.map (·.2))) (h : findD ns ds m = none) : fs.lookup m = none := by
  have z := lookup_is (f := m) h1 h2
  unfold getF at z
  rw [h] at z
  exact z
theorem pd_meth0 (i : Nat) (c : Cls X.K C) (hm : Meth X.K C m fa) (F : FnOk X.prog X.w X.K X.mg X.base CX0 k fa fd ps (SpF fg)) (hr : Room k X.A) (hb : Binds X.K fd ps []) (hN : X.N[i]? = some x := by rfl) (hv : Vis X.env.scope x := by first | exact Or.inl rfl | exact Or.inr (Or.inl rfl) | exact Or.inr (Or.inr rfl))
    (hd : (x == ("__debug__" : Str)) = false := by decide) (hcd : (x == ("__classdict__" : Str)) = false := by decide) {pl : Sem Bool}
    (ht : eval (.Call (.Attribute (.Name x p) m apos) [] [] pos) X.env = (do
      let ov ← eval (.Name x p) X.env
      standAt apos.atName
      let (f, first) ← holding [ov] (getMethod ov m pl)
      callWith pos f first (backTo pos (starEach [] X.env)) (backToKw pos (keywordEach [] X.env))) := by rfl) :
    PD X (.Call (.Attribute (.Name x p) m apos) [] [] pos) (dMeth (m := m) i C fg dNil) := by
  refine ⟨fun Γ R kk E Hk H σ rp Q q => ⟨_, pe_meth0 (pl := pl) (pe_var hN hv hd hcd) c hm F hr hb .nil pass0 ht, ?_⟩⟩
  obtain ⟨ns, ds, ho, hl, kk⟩ := kk
  obtain ⟨v, a1, iv⟩ := rp.val i _ ho
  obtain ⟨a, dx, fs, rfl, h1, h2, h3⟩ := id iv
  refine ⟨_, a1, a, dx, fs, rfl, rp.step.s _ _ h1, lk_none h2 h3 hl, ?_⟩
  exact ⟨Hk, [.ins C ns ds], _, rp.step.s, .cons iv .nil, kk, fun d v Hk2 H2 hd s i => q v d Γ Hk2 H2 hd (rp.grow s) s.k i⟩
theorem pd_meth (i : Nat) (c : Cls X.K C) (hm : Meth X.K C m fa) (F : FnOk X.prog X.w X.K X.mg X.base CX0 k fa fd ps (SpF fg)) (hr : Room k X.A) (hb : Binds X.K fd ps []) (ha : PDA X (e :: es) tl) (hN : X.N[i]? = some x := by rfl) (hv : Vis X.env.scope x := by first | exact Or.inl rfl | exact Or.inr (Or.inl rfl) | exact Or.inr (Or.inr rfl))
    (hd : (x == ("__debug__" : Str)) = false := by decide) (hcd : (x == ("__classdict__" : Str)) = false := by decide) {pl : Sem Bool}
    (hst : starEach (e :: es) X.env = (false, eval e X.env) :: starEach es X.env := by rfl) (hpl : (backTo pos (starEach es X.env)).any (·.1) = false := by rfl)
    (ht : eval (.Call (.Attribute (.Name x p) m apos) (e :: es) [] pos) X.env = (do
      let ov ← eval (.Name x p) X.env
      standAt apos.atName
      let (f, first) ← holding [ov] (getMethod ov m pl)
      callWith pos f first (backTo pos (starEach (e :: es) X.env)) (backToKw pos (keywordEach [] X.env))) := by rfl) :
    PD X (.Call (.Attribute (.Name x p) m apos) (e :: es) [] pos) (dMeth (m := m) i C fg tl) := by
  refine ⟨fun Γ R kk E Hk H σ rp Q q => ⟨_, pe_meth (pl := pl) (pe_var hN hv hd hcd) c hm F hr hb .nil pass0 pa_w hst hpl ht, ?_⟩⟩
  obtain ⟨ns, ds, ho, hl, kk⟩ := kk
  obtain ⟨v, a1, iv⟩ := rp.val i _ ho
  obtain ⟨a, dx, fs, rfl, h1, h2, h3⟩ := id iv
  refine ⟨_, a1, a, dx, fs, rfl, rp.step.s _ _ h1, lk_none h2 h3 hl, ?_⟩
  refine ha.run Γ _ kk E Hk H σ rp _ fun vs ds Γ1 Hk1 H1 k1 r1 e1 i1 => ?_
  exact ⟨Hk1, _, _, r1.step.s, .cons (iv.mono e1) (by rw [List.append_nil]; exact i1), k1, fun d v Hk2 H2 hd s i => q v d Γ1 Hk2 H2 hd (r1.grow s) (e1.trans s.k) i⟩
/-- one reading or another -/
def dEither (ta tb : TD) : TD := fun Γ R => ta Γ R ∨ tb Γ R
theorem pd_either (ha : PD X e ta) (hb : PD X e tb) : PD X e (dEither ta tb) := ⟨fun Γ R k E Hk H σ rp Q q => by
  rcases k with k | k
  · exact ha.run Γ R k E Hk H σ rp Q q
  · exact hb.run Γ R k E Hk H σ rp Q q⟩
end
end DL
set_option maxHeartbeats 4000000
/-! rules on the hand layer that the library lacks: slices with a step, text * int, swapcase -/
namespace NL
open PySem PySem.Spec PyProof.Rows L2

/-! ### xs[lo:hi:st] -/
def pickG {α : Type} (xs : List α) (lo hi st : Option Int) : List α := (sliceRange (sliceBounds lo hi st xs.length).1 (sliceBounds lo hi st xs.length).2.1 (sliceBounds lo hi st xs.length).2.2).filterMap (xs[·]?)
theorem pick_arr (us : List Value) (lo hi st : Option Int) : slicePick us.toArray lo hi st = (pickG us lo hi st).toArray := by
  unfold slicePick pickG
  rw [List.size_toArray]
  have e : (fun i : Nat => us.toArray[i]?) = fun i => us[i]? := by
    funext i
    simp
  rw [e]
theorem vals_pick {xs : List V} {us : List Value} (h : Vals xs us) (lo hi st : Option Int) : Vals (pickG xs lo hi st) (pickG us lo hi st) := by
  unfold pickG
  rw [h.length]
  generalize sliceRange (sliceBounds lo hi st us.length).1 (sliceBounds lo hi st us.length).2.1 (sliceBounds lo hi st us.length).2.2 = l
  induction l with
  | nil => exact .nil
  | cons i l ih =>
    rw [List.filterMap_cons, List.filterMap_cons]
    have key : ∀ {xs : List V} {us : List Value}, Vals xs us → ∀ i : Nat, (∃ v u, xs[i]? = some v ∧ us[i]? = some u ∧ RelV v u) ∨ (xs[i]? = none ∧ us[i]? = none) := by
      intro xs us h
      induction h with
      | nil => exact fun i => .inr ⟨by simp, by simp⟩
      | cons r t ih2 =>
        intro i
        cases i with
        | zero => exact .inl ⟨_, _, rfl, rfl, r⟩
        | succ i => simpa using ih2 i
    rcases key h i with ⟨v, u, e1, e2, r⟩ | ⟨e1, e2⟩
    · rw [e1, e2]
      exact .cons r ih
    · rw [e1, e2]
      exact ih
theorem len_filterMap {α β : Type} (f : α → Option β) : ∀ l : List α, (l.filterMap f).length ≤ l.length := fun l => List.length_filterMap_le f l
def tSlL3 (K : PySem.W.Frag) (te : TE) (tl th ts : TO) : TE := fun σ H Q => te σ H fun x H1 => tl σ H1 fun lo H2 => th σ H2 fun hi H3 => ts σ H3 fun st H4 => ∃ a xs, x = .ref a ∧ SqL K H4 a xs ∧ st ≠ some 0 ∧ (pickG xs lo hi st).length ≤ sizeLine ∧ ∀ p, H4 p = none → Q (.ref p) (upd H4 p (.lst (pickG xs lo hi st)))
section
variable {X : Cx} {e : Expr} {te : TE} {lo hi st : Option Expr} {tl th ts : TO} {pos p2 : Pos}
theorem pe_sliceL3 (he : PE X e te) (hl : PO X lo tl) (hu : PO X hi th) (hs : PO X st ts) (hop : ∀ o i, subscripted (.Slice lo hi st p2) false o i = operate [o, i] (getItem o i) := by intro _ _; with_unfolding_all rfl) : PE X (.Subscript e (.Slice lo hi st p2) pos) (tSlL3 X.K te tl th ts) := by
  refine ⟨fun pins s σ H Q I h => ?_⟩
  refine Subscript_ (thn (he.run pins s σ H _ I h) fun v s1 ⟨x, H1, I1, r1, q1⟩ => ?_)
  refine wpAny_Slice (thn (hl.run pins s1 σ H1 _ I1 q1) fun vl s2 ⟨l, H2, I2, pl, q2⟩ => thn (hu.run pins s2 σ H2 _ I2 q2) fun vu s3 ⟨u, H3, I3, pu, q3⟩ => thn (hs.run pins s3 σ H3 _ I3 q3) fun vs s4 ⟨o, H4, I4, ps, q4⟩ => ?_)
  obtain ⟨a, xs, ex, hx, h0, hz2, q⟩ := q4
  subst ex
  cases r1
  have I5 : Inv X pins σ H4 { s4 with heap := s4.heap.push { cls := .type "slice", data := .fields #[vl, vu, vs] } } := I4.kept (t' := s4.toks) fun b ob q => Heap.get?_push_of_some _ q
  obtain ⟨its, r, ht, hz⟩ := I5.list hx
  have hlen := r.length
  show wpAny (model X.prog X.w) X.A (subscriptTail e (.Slice lo hi st p2) (.ref a) (.ref s4.heap.objs.size)) (EP X pins σ Q) X.xe { s4 with heap := s4.heap.push { cls := .type "slice", data := .fields #[vl, vu, vs] } }
  refine tail_any (ops := [.ref a, .ref s4.heap.objs.size]) ht.isList.typeIs (PySem.slot_list_getitem.lookup) ?_ (hop _ _)
  refine wpAny_getItem_list_slice ht.isList (Heap.IsSliceOf.new _ vl vu vs) pl pu ps h0 ?_ (by rw [List.size_toArray]; omega)
  rw [pick_arr]
  refine ⟨.ref _, _, I5.laid (t' := s4.toks) (o := .lst (pickG xs l u o)) (fun b ob q => Heap.get?_push_of_some _ q) (Nat.le_refl _) ?_, rfl, q _ (I5.hok.fresh (Nat.le_refl _))⟩
  exact ⟨hz2, _, 0, vals_pick r l u o, Heap.get?_push_size _ rfl⟩
/-! ### text[::-1] -/
def tRevS (te : TE) : TE := fun σ H Q => te σ H fun x H1 => ∃ z : Str, x = .str z ∧ z.length ≤ sizeLine ∧ Q (.str ⟨z.cps.toList.reverse.toArray⟩) H1
theorem pe_revS {k : Nat} {p1 p2 p3 : Pos} (he : PE X e te) : PE X (.Subscript e (.Slice none none (some (.UnaryOp .USub (.Constant (.int 1) k p1) p2)) p3) pos) (tRevS te) := by
  refine ⟨fun pins s σ H Q I h => ?_⟩
  refine Subscript_ (thn (he.run pins s σ H _ I h) fun v s1 ⟨x, H1, I1, r1, q1⟩ => ?_)
  obtain ⟨z, ex, hz, q⟩ := q1
  subst ex
  obtain ⟨t, rfl⟩ := r1
  have hst : PO X (some (.UnaryOp .USub (.Constant (.int 1) k p1) p2)) (tPart (tUn (rU fun i => .int (-i)) (tC (.int 1)))) := po_some (pe_un un_neg pe_int)
  refine wpAny_Slice (thn (po_none.run pins s1 σ H1 (fun o H2 => o = none ∧ H2 = H1) I1 ⟨rfl, rfl⟩) fun vl s2 ⟨l, H2, I2, pl, el, e2⟩ => ?_)
  subst el e2
  refine thn (po_none.run pins s2 σ H2 (fun o H3 => o = none ∧ H3 = H2) I2 ⟨rfl, rfl⟩) fun vu s3 ⟨u, H3, I3, pu, eu, e3⟩ => ?_
  subst eu e3
  refine thn (hst.run pins s3 σ H3 (fun o H4 => o = some (-1) ∧ H4 = H3) I3 ⟨1, rfl, -1, rfl, rfl, rfl⟩) fun vs s4 ⟨o, H4, I4, ps, eo, e4⟩ => ?_
  subst eo e4
  cases pl
  cases pu
  cases ps with
  | int i tk =>
  have I5 : Inv X pins σ H4 { s4 with heap := s4.heap.push { cls := .type "slice", data := .fields #[.none, .none, .int (-1) tk] } } := I4.kept (t' := s4.toks) fun b ob q => Heap.get?_push_of_some _ q
  show wpAny (model X.prog X.w) X.A (subscriptTail e (.Slice none none (some (.UnaryOp .USub (.Constant (.int 1) k p1) p2)) p3) (.str z t) (.ref s4.heap.objs.size)) (EP X pins σ Q) X.xe { s4 with heap := s4.heap.push { cls := .type "slice", data := .fields #[.none, .none, .int (-1) tk] } }
  refine tail_any (ops := [.str z t, .ref s4.heap.objs.size]) (typeIs_str _ _ _) F.slot_str_getitem.lookup ?_ (by with_unfolding_all rfl)
  refine wpAny_getItem_str_slice (l := none) (u := none) (st := some (-1, tk)) ⟨_, Heap.get?_push_size _ rfl, rfl, rfl⟩ rfl ?_
  have e1 : sliceMade z t none none (some (-1, tk)) = .str ⟨z.cps.toList.reverse.toArray⟩ := by
    show (if ((-1 : Int) == 1 && _) = true then Made.val (.str z t) else _) = _
    rw [if_neg (by rw [show ((-1 : Int) == 1) = false by decide]; simp)]
    have e2 : slicePicked z none none (some (-1, tk)) = (List.range z.cps.size).map fun k => z.cps.size - 1 - k := by
      show Builtin.Str.strSliceIndices none none (-1) z.length = _
      have := PySem.W.krv_sliceRange z.cps.size
      exact this
    rw [e2, PySem.W.krv_range, List.filterMap_reverse, PySem.W.krv_all]
  rw [e1]
  refine ⟨?_, .str _, H4, I5.tok _, ⟨_, rfl⟩, q⟩
  show (z.cps.toList.reverse.toArray).size ≤ sizeLine
  rw [List.size_toArray, List.length_reverse, Array.length_toList]
  exact hz
end
/-! ### text * int -/
def repS (z : Str) (n : Int) : Str := ⟨(List.replicate n.toNat z.cps.toList).flatten.toArray⟩
theorem foldl_cps (z : Str) : ∀ (k : Nat) (acc : Array Nat), List.foldl (· ++ ·) acc (List.replicate k z.cps) = acc ++ (List.replicate k z.cps.toList).flatten.toArray
  | 0, acc => by simp
  | k + 1, acc => by
    rw [List.replicate_succ, List.foldl_cons, foldl_cps z k, List.replicate_succ, List.flatten_cons, Array.append_assoc]
    congr 1
    apply Array.ext'
    simp
theorem op_mulS {X : Cx} : OpR X (binaryOp .Mult) (fun x y H Q => ∃ (z : Str) (n : Int), x = .str z ∧ y = .int n ∧ 0 ≤ n ∧ n ≤ 1000 ∧ z.length ≤ 1000 ∧ Q (.str (repS z n)) H) := by
  intro pins s σ H x y v u Q I rx ry h
  obtain ⟨z, n, rfl, rfl, h0, h1, h2, q⟩ := h
  obtain ⟨t, rfl⟩ := rx
  obtain ⟨t', rfl⟩ := ry
  have hmul : z.length * n.toNat ≤ 1000 * 1000 := Nat.mul_le_mul h2 (by omega)
  refine P.mul_str ?_ (fun a b => ?_) (fun a b => ?_) ?_
  · rw [decide_eq_false (by omega), decide_eq_false (by omega)]
    rfl
  · intro hh
    have hm : (z.length : Int) * n ≤ 2 ^ 63 - 1 := by
      have e : (z.length : Int) * n = ((z.length * n.toNat : Nat) : Int) := by
        rw [Int.natCast_mul, Int.toNat_of_nonneg h0]
      rw [e]
      omega
    have := (Int.le_ediv_iff_mul_le (show 0 < n by omega)).mpr hm
    omega
  · exact short24 (by omega)
  · by_cases c1 : n < 1
    · rw [if_pos c1]
      have : n = 0 := by omega
      subst this
      exact ⟨by decide, .str _, H, I.tok _, ⟨_, rfl⟩, q⟩
    · rw [if_neg c1]
      by_cases c2 : (n == 1 || z.length == 0) = true
      · rw [if_pos c2]
        have e : repS z n = z := by
          unfold repS
          rcases Bool.or_eq_true_iff.mp c2 with c | c
          · have : n = 1 := eq_of_beq c
            subst this
            show (⟨([z.cps.toList].flatten).toArray⟩ : Str) = z
            simp
          · have : z.cps.size = 0 := eq_of_beq c
            have e2 : z.cps = #[] := Array.eq_empty_of_size_eq_zero this
            obtain ⟨cps⟩ := z
            simp only at e2
            subst e2
            congr 1
            simp
        rw [e] at q
        exact ⟨.str z, H, I, ⟨t, rfl⟩, q⟩
      · rw [if_neg c2]
        have e : (⟨(List.replicate n.toNat z.cps).foldl (· ++ ·) #[]⟩ : Str) = repS z n := by
          unfold repS
          rw [foldl_cps]
          simp
        rw [e]
        refine ⟨?_, .str _, H, I.tok _, ⟨_, rfl⟩, q⟩
        show ((List.replicate n.toNat z.cps.toList).flatten.toArray).size ≤ sizeLine
        rw [List.size_toArray, List.length_flatten, List.map_replicate, List.sum_replicate_nat, Array.length_toList]
        have : n.toNat * z.cps.size ≤ 1000 * 1000 := Nat.mul_le_mul (by omega) h2
        rw [sizeLine_eq]
        omega
/-! ### swapcase -/
theorem mt_swapcase {X : Cx} : MtR X "str.swapcase" (fun x xs H Q => ∃ a, x = .str a ∧ xs = [] ∧ a.length ≤ 5592405 ∧ Q (.str (Txt.swapcase a)) H) :=
  mt0 (C := fun a => a.length ≤ 5592405) (g := fun a => .str (Txt.swapcase a)) fun a _ s _ hc h =>
    PySem.SC.swapcase (PyProof.Rows.fit_swapcase hc) (h _ (s.toks + 1) ⟨_, rfl⟩)
end NL
set_option maxHeartbeats 4000000
/-! rules on the hand layer that the library lacks: sorted of texts, len and str of an own instance, min by a def's texts -/
namespace NL
open PySem PySem.Spec PyProof.Rows L2
section
variable {prog : Program} {w : World} {A : Around} {E : Value → Shared → Prop} {s : Shared}
/-! ### sorted of texts -/
def ltSv (v u : Value) : Bool := decide ((strOf v).cps.toList < (strOf u).cps.toList)
theorem swo_str : SrtO.Swo ltSv := by
  refine ⟨fun x y h => ?_, fun x y z h1 h2 => ?_⟩
  · have a := of_decide_eq_true (p := (strOf x).cps.toList < (strOf y).cps.toList) h
    exact decide_eq_false (p := (strOf y).cps.toList < (strOf x).cps.toList) (fun b => List.lt_irrefl _ (List.lt_trans a b))
  · have a := of_decide_eq_false (p := (strOf y).cps.toList < (strOf x).cps.toList) h1
    have b := of_decide_eq_false (p := (strOf z).cps.toList < (strOf y).cps.toList) h2
    exact decide_eq_false (p := (strOf z).cps.toList < (strOf x).cps.toList) (fun c => by
      rcases strKind.negTrans (strOf z).cps.toList (strOf y).cps.toList (strOf x).cps.toList (decide_eq_true c) with d | d
      · exact b (of_decide_eq_true d)
      · exact a (of_decide_eq_true d))
theorem str_cmp {vs : List Value} {ss : List Str} (hS : StrsAre vs ss) : SrtO.Cmp prog w A s oneType' (fun p => p.1 ∈ vs) (SrtO.lt2 ltSv) := by
  intro p q hm hm'
  obtain ⟨a, t, e⟩ := hS.all _ hm
  obtain ⟨b, u, e'⟩ := hS.all _ hm'
  show wpAny (model prog w) A (keyLt' oneType' p.1 q.1) (fun r s' => s' = s ∧ r = ltSv p.1 q.1) (fun _ _ => False) s
  rw [e, e', keyLt'_oneType]
  exact oneLt_str ⟨rfl, rfl⟩
theorem strs_sortable {a : Addr} {vs : List Value} {ss : List Str} (hS : StrsAre vs ss) (h2 : 2 ≤ vs.length) : SrtO.SortableO prog w A s a vs ltSv := by
  intro h' _
  refine ⟨oneType', fun Q E hq => ?_, str_cmp hS⟩
  match vs, hS, h2 with
  | v1 :: v2 :: rest, hS, _ =>
    rw [keyKind_strs hS]
    exact wpAny_pure hq
  | [], _, h => exact absurd h (by decide)
  | [v], _, h => exact absurd h (by simp)
end
/-- texts in order -/
def SortedT (ss : List Str) : Prop := ss.Pairwise fun a b => ¬ b.cps.toList < a.cps.toList
def rSortedS (K : PySem.W.Frag) : List V → Hp → VK → Prop := fun vs H Q => ∃ (a : Addr) (ss : List Str), vs = [V.ref a] ∧ SqL K H a (ss.map V.str) ∧
  ∀ (ss' : List Str) (p : Addr), ss'.Perm ss → SortedT ss' → H p = none → Q (.ref p) (upd H p (.lst (ss'.map V.str)))
section
variable {X : Cx}
theorem cr_sortedS : CallR X (.builtin "sorted") (rSortedS X.K) := by
  intro pins s σ H vs us Q I r h
  obtain ⟨a, ss, rfl, hs, q⟩ := h
  obtain ⟨its, rv, hl, hz⟩ := I.list hs
  rw [Vals.ref1 r]
  have hi := rv.strs
  refine SrtO.sorted_ord swo_str hl.isList (by rw [← rv.length]; exact hz) (fun h2 h₁ a' _ _ => strs_sortable hi h2) fun out h1 h2 => ?_
  have k1 : StrsAre out (out.map strOf) := strsAre_map out fun v hv => hi.all v (h2.perm.mem_iff.mp hv)
  have k2 : (out.map strOf).Perm ss := by
    have q := h2.perm.map strOf
    rwa [hi.strs] at q
  have k3 : SortedT (out.map strOf) := List.pairwise_map.mpr (h1.imp fun {x y} h => of_decide_eq_false (p := (strOf y).cps.toList < (strOf x).cps.toList) h)
  obtain ⟨ep, he'⟩ := PyProof.Rows.sortedAll_at s.heap its out.toArray
  have hlen : ((out.map strOf).map V.str).length ≤ sizeLine := by
    rw [List.length_map, k2.length_eq]
    rw [List.length_map] at hz
    exact hz
  exact ⟨.ref _, upd H (s.heap.objs.size + 1) (.lst ((out.map strOf).map V.str)), I.laid (t' := s.toks) (fun _ _ => PyProof.Rows.sortedAll_old) (Nat.le_succ _) ⟨hlen, out, ep, vals_of_strs k1, he'⟩, rfl, q _ _ k2 k3 (I.hok.fresh (Nat.le_succ _))⟩

/-! ### len, str of an own instance -/
variable {CX : CXT} {k : Nat} {f C : Addr} {fd : FuncData} {ps : List Str} {sp : Sp} {E : XK}
/-- a call of the def in another place of the same frame -/
theorem run_at {A : Around} {pins : List (Addr × Obj)} {σ : L2.St} {H : Hp} {s : Shared} {Q : VK} {us : List Value} {vs : List V} (F : FnOk X.prog X.w X.K X.mg X.base CX0 k f fd ps sp) (hr : Room k A) (hA : A.frames = some X.stack) (hb : Binds X.K fd ps [])
    (I : L2.Inv X pins σ H s) (r : Vals vs us) (h : sp vs H Q E0) {E' : Value → Shared → Prop} : wpAny (model X.prog X.w) A (call (.ref f) us) (fun u s' => EP X pins σ Q u s') E' s := by
  have e0 := I.env0
  have e1 : Env0 X.prog X.w X.K X.mg X.base A X.stack s H := ⟨hA, e0.mod, e0.bs, e0.bsz, e0.funs, e0.frf, e0.hok, e0.bare⟩
  have hl : (us ++ []).length = ps.length := by rw [List.append_nil, ← r.length]; exact F.len _ _ _ _ h
  have hb' := hb s us I.kIn hl
  rw [List.append_nil] at hb'
  refine wpAny_call (codeAny_mono (F.run A X.stack s H ⟨us, []⟩ us vs Q _ hr e1 hb' r h) fun rr s2 hrr => ?_)
  cases rr with
  | error e => exact False.elim hrr
  | ok fl =>
    cases fl with
    | ret u => exact I.after hrr
    | next => exact False.elim hrr
    | brk => exact False.elim hrr
    | cont => exact False.elim hrr
theorem env_frames {pins : List (Addr × Obj)} {σ : L2.St} {H : Hp} {s : Shared} (I : L2.Inv X pins σ H s) : X.A.frames = some X.stack := I.env0.frames
def rLenO (C : Addr) (sp : Sp) : List V → Hp → VK → Prop := fun xs H Q => ∃ a dx fs, xs = [V.ref a] ∧ H a = some (.ins C dx fs) ∧ sp [.ref a] H (fun v H' => ∃ n : Int, v = .int n ∧ 0 ≤ n ∧ n < 2 ^ 63 ∧ Q (.int n) H') E0
theorem cr_lenO (hs : PySem.W.findIn X.K (.ref C) "__len__" = some (some (.ref f))) (hf : PySem.W.isFn X.K (.ref f) = true) (F : FnOk X.prog X.w X.K X.mg X.base CX0 k f fd ps sp) (hr : Room (k + 1) X.A) (hb : Binds X.K fd ps []) :
    CallR X (.builtin "len") (rLenO C sp) := by
  intro pins s σ H xs us Q I r h
  obtain ⟨a, dx, fs, rfl, ea, h⟩ := h
  rw [Vals.ref1 r]
  obtain ⟨mA, O, _⟩ := ins_get I.hok ea
  obtain ⟨od, J, _⟩ := O.look
  refine Calls.call_function_entry kind_len plain_len entry_len (args_len1 _) ?_
  unfold Builtin.«len»
  refine wpAny_bind (m := oneArg "len" _) (wpAny_pure ?_)
  refine wpAny_bind (m := callSpecial? (.ref a) (Str.ofString "__len__")) (PySem.W.special_fn I.kIn J hs (beq_iff_eq.mp hf) (wpAny_mono (run_at (E' := X.xe) F hr.in1 (env_frames I) hb I (vs := [.ref a]) (us := [.ref a]) (.cons rfl .nil) h) (fun r s' hr => ?_) fun _ _ y => y))
  obtain ⟨v, H', I', rv, n, rfl, h0, h1, q⟩ := hr
  obtain ⟨t, rfl⟩ := rv
  refine wpAny_bind (wpAny_holding (wpAny_pure ?_))
  refine wpAny_bind (wpAny_letGo ?_)
  show wpAny _ _ (if n < 0 then _ else _) _ _ _
  rw [if_neg (by omega)]
  show wpAny _ _ (if n ≥ 2 ^ 63 then _ else _) _ _ _
  rw [if_neg (by omega)]
  exact wpAny_bind (wpAny_mkInt (wpAny_pure ⟨_, rfl, .int n, H', I'.tok _, ⟨_, rfl⟩, q⟩))
def rStrO (C : Addr) (sp : Sp) : List V → Hp → VK → Prop := fun xs H Q => ∃ a dx fs, xs = [V.ref a] ∧ H a = some (.ins C dx fs) ∧ sp [.ref a] H (fun v H' => ∃ z : Str, v = .str z ∧ Q (.str z) H') E0
theorem cr_strO (hs : PySem.W.findIn X.K (.ref C) "__str__" = some (some (.ref f))) (hf : PySem.W.isFn X.K (.ref f) = true) (F : FnOk X.prog X.w X.K X.mg X.base CX0 k f fd ps sp) (hr : Room (k + 2) X.A) (hb : Binds X.K fd ps []) :
    CallR X (.type "str") (rStrO C sp) := by
  intro pins s σ H xs us Q I r h
  obtain ⟨a, dx, fs, rfl, ea, h⟩ := h
  rw [Vals.ref1 r]
  obtain ⟨mA, O, _⟩ := ins_get I.hok ea
  obtain ⟨od, J, _⟩ := O.look
  refine PySem.W.kso_call (by have := hr.units; show X.A.units + 1 + 1 < cLine; omega) I.kIn J hs hf ?_
  refine wpAny_mono (run_at (E' := X.xe) F hr.in1.in1 (env_frames I) hb I (vs := [.ref a]) (us := [.ref a]) (.cons rfl .nil) h) (fun r s' hr => ?_) fun _ _ y => y
  obtain ⟨v, H', I', rv, z, rfl, q⟩ := hr
  obtain ⟨t, rfl⟩ := rv
  exact ⟨.str z, H', I', ⟨t, rfl⟩, q⟩

/-! ### min(xs, key=f), the answers texts -/
theorem argBest_le (bt : Nat → Nat → Bool) : ∀ k, argBest bt k ≤ k
  | 0 => Nat.le_refl _
  | k + 1 => by
    unfold argBest
    have := argBest_le bt k
    split <;> omega
def btS (key : Nat → Str) : Nat → Nat → Bool := fun i j => decide ((key i).cps.toList < (key j).cps.toList)
def rMinK (K : PySem.W.Frag) (f : Addr) (sp : Sp) : List V → List V → Hp → VK → Prop := fun vs zs H Q => ∃ (a : Addr) (xs : List V) (key : Nat → Str) (M : Hp → Prop), vs = [V.ref a] ∧ zs = [V.ref f] ∧ xs ≠ [] ∧ M H ∧ (∀ H', M H' → SqL K H' a xs) ∧
  (∀ i x H', xs[i]? = some x → M H' → sp [x] H' (fun v H'' => v = .str (key i) ∧ M H'') E0) ∧ ∀ x H', xs[argBest (btS key) (xs.length - 1)]? = some x → M H' → Q x H'
theorem cr_minK (F : FnOk X.prog X.w X.K X.mg X.base CX0 k f fd ps sp) (hr : Room (k + 1) X.A) (hb : Binds X.K fd ps []) : CallRK X (.builtin "min") [Str.ofString "key"] (rMinK X.K f sp) := by
  intro pins s σ H vs zs us ws Q I rv rz h
  obtain ⟨a, xs, key, M, rfl, rfl, hne, m0, hsq, hsp, q⟩ := h
  obtain rfl := Vals.ref1 rv
  obtain rfl := Vals.ref1 rz
  obtain ⟨its, r, pl, hz⟩ := I.list (hsq H m0)
  have hlen : its.toArray.size = xs.length := by rw [List.size_toArray]; exact r.length.symm
  have hA := env_frames I
  have hr1 : Room k X.A.in1 := hr.in1
  refine PySem.call_min_walkK (PySem.W.iter_listW (A := X.A.in1) (show X.A.in1.handled = none from hr1.hd) pl.isList fun s2 e2 W st0 hfp _ _ => ?_)
  subst e2
  have lI : a ≠ s.heap.objs.size := by
    obtain ⟨o, ho, _⟩ := pl.isList
    exact Nat.ne_of_lt (Heap.lt_size ho)
  have szS : ({ s with heap := s.heap.push { cls := .type "list_iterator", data := .fields #[.ref a, .int 0 0] } } : Shared).heap.objs.size = s.heap.objs.size + 1 := Heap.size_push _ _
  have fI : ∀ {H' : Hp}, H' s.heap.objs.size = none → FpOk X pins H' s.heap.objs.size := fun h => I.fpOk (Nat.le_refl _) h
  have fS : ∀ {H' : Hp}, H' (s.heap.objs.size + 1) = none → FpOk X pins H' (s.heap.objs.size + 1) := fun h => I.fpOk (Nat.le_succ _) h
  have W0 := fun its : List Value => (Walks.list (prog := X.prog) (w := X.w) (A := X.A.in1) (show X.A.in1.handled = none from hr1.hd) s.heap.objs.size a lI its.toArray).toS
  have W' : WalksS X.prog X.w X.A.in1 s.heap.objs.size [s.heap.objs.size, a] [s.heap.objs.size] (fun a b => b = a) xs.length (fun i v => ∃ x, xs[i]? = some x ∧ RelV x v)
      (fun i s' => s'.heap.IsListIter s.heap.objs.size a i ∧ ∃ its : List Value, Vals xs its ∧ s'.heap.IsList a its.toArray) := by
    have szi : ∀ {its : List Value}, Vals xs its → its.toArray.size = xs.length := fun r => by rw [List.size_toArray]; exact r.length.symm
    refine ⟨W.sub, W.grefl, W.gtrans, fun i s1 h' tk ⟨h1, its1, r1, h2⟩ ht hk => ?_, fun i s1 Q1 E1 hi ⟨h1, its1, r1, h2⟩ hQ => ?_, fun s1 Q1 E1 ⟨h1, its1, r1, h2⟩ hQ => ?_, fun i s1 Q1 E1 ⟨h1, its1, r1, h2⟩ hQ => ?_⟩
    · obtain ⟨g1, g2⟩ := (W0 its1).frame i s1 h' tk ⟨h1, h2⟩ ht hk
      exact ⟨g1, its1, r1, g2⟩
    · refine (W0 its1).item i s1 Q1 E1 (by rw [szi r1]; exact hi) ⟨h1, h2⟩ fun v s2 hP st mv => ?_
      obtain ⟨x, hx⟩ : ∃ x, xs[i]? = some x := ⟨_, List.getElem?_eq_getElem hi⟩
      obtain ⟨u, hu, rx⟩ := r1.get hx
      have e : u = v := by
        have z : its1[i]? = some v := by simpa using hP
        rw [hu] at z
        exact Option.some.inj z
      subst e
      exact hQ u s2 ⟨x, hx, rx⟩ ⟨st.1, its1, r1, st.2⟩ mv
    · exact (W0 its1).done s1 Q1 E1 ⟨by rw [szi r1]; exact h1, h2⟩ hQ
    · exact (W0 its1).self i s1 Q1 E1 ⟨h1, h2⟩ hQ
  refine ⟨s.heap.objs.size, _, _, _, _, _, _, fun s' => ∃ H', M H' ∧ L2.Inv X pins σ H' s' ∧ H' s.heap.objs.size = none ∧ H' (s.heap.objs.size + 1) = none, fun i v s' => ∃ t, v = .str (key i) t, btS key, rfl, W', ⟨st0.1, its, r, st0.2⟩, hfp, List.length_pos_iff.mpr hne, ?_, ?_, ?_⟩
  · refine ⟨fun s1 s2 ⟨H', m, I1, u1, u2⟩ mv => ?_, fun i k s1 s2 h _ => h, fun i v s1 o Q1 E1 hi ⟨x, hx, rx⟩ ⟨H', m, I1, u1, u2⟩ st hS hQ => ?_, fun i j ki kj s1 Q1 E1 _ ⟨t1, e1⟩ ⟨t2, e2⟩ hq => ?_⟩
    · obtain ⟨h2, g2, d2, t2, o2⟩ := s2
      cases (show g2 = s1.gens from mv.gens)
      cases (show d2 = s1.drawn from mv.drawn)
      cases (show o2 = s1.os from mv.os)
      refine ⟨H', m, I1.turnedL (t' := t2) (h' := h2) (ch := [s.heap.objs.size + 1, s.heap.objs.size]) (fun b o hb e => mv.heap b o ?_ e) (fun b hb => ?_), u1, u2⟩
      · rw [szS]
        exact hb
      · rcases List.mem_cons.mp hb with rfl | hb
        · exact fS u2
        · rw [List.mem_singleton.mp hb]
          exact fI u1
    · rw [szS] at hS
      have e0 := I1.env0
      have e1 : Env0 X.prog X.w X.K X.mg X.base X.A.in1 X.stack s1 H' := ⟨hA, e0.mod, e0.bs, e0.bsz, e0.funs, e0.frf, e0.hok, e0.bare⟩
      have hsp1 := hsp i x H' hx m
      have hl : ([v] ++ []).length = ps.length := by rw [← F.len _ _ _ _ hsp1]; rfl
      have hb' := hb s1 [v] I1.kIn hl
      refine wpAny_call (codeAny_mono (F.run X.A.in1 X.stack s1 H' ⟨[v], []⟩ [v] [x] _ _ hr1 e1 hb' (.cons rx .nil) hsp1) fun rr s2 hrr => ?_)
      cases rr with
      | error e => exact False.elim hrr
      | ok fl =>
        cases fl with
        | next => exact False.elim hrr
        | brk => exact False.elim hrr
        | cont => exact False.elim hrr
        | ret u =>
          obtain ⟨v', H2, os, bare, un, hok, rv', ev, m2⟩ := (show CE X.stack X.prog X.w H' s1 _ u s2 from hrr)
          subst ev
          have I2 : L2.Inv X pins σ H2 s2 := I1.call' os un hok bare (fun b y => absurd y List.not_mem_nil)
          obtain ⟨⟨oi, hoi, hci, hdi⟩, _⟩ := st
          obtain ⟨its2, r2, pl2, _⟩ := I2.list (hsq H2 m2)
          have kI := un.keep _ _ hoi u1 (FbM.rec_new I (Nat.le_refl _)).fr List.not_mem_nil
          have kS := un.keep _ _ hS u2 (FbM.rec_new I (Nat.le_succ _)).fr List.not_mem_nil
          refine hQ u s2 ⟨H2, m2, I2, un.free _ _ hoi u1 List.not_mem_nil, un.free _ _ hS u2 List.not_mem_nil⟩ ⟨⟨oi, kI, hci, hdi⟩, its2, r2, pl2.isList⟩ ?_ rv' fun _ _ z => z
          rw [szS]
          exact kS
    · subst e1 e2
      exact richCompare_gives (op := .Lt) (typeIs_str s1 _ _) (typeIs_str s1 _ _) PySem.F.slot_str_lt PySem.F.entry_str_lt (PySem.F.args_str_lt_2 _ _) (gives_str_lt _ _ _ _) (fun e => nomatch e) hq
  · exact ⟨H, m0, I.kept (t' := s.toks) fun b o e => Heap.get?_push_of_some _ e, I.hok.fresh (Nat.le_refl _), I.hok.fresh (Nat.le_succ _)⟩
  · rintro v s' ⟨x, hx, rx⟩ ⟨H', m, I1, _, _⟩
    exact ⟨x, H', I1, rx, q x H' hx m⟩
end
end NL
set_option maxHeartbeats 4000000
/-! rules on the hand layer that the library lacks: set(a list of keys), a set comprehension of keys, len of these; turned from the worked proofs of HandS.Strs and HandS.SetBool -/
namespace NL
open PySem PySem.Spec PyProof.Rows L2
theorem setOf_congrK {prog : Program} {w : World} {h : Heap} {a : Addr} {S S' : Key → Bool} {n n' : Nat} (hS : h.SetOf (mixKind prog w) a S n) (e : ∀ k, S k = S' k) (en : n = n') : h.SetOf (mixKind prog w) a S' n' := by
  have z : S = S' := funext e
  subst z
  subst en
  exact hS
section
variable {prog : Program} {w : World} {A : Around} {R : Result → Shared → Prop} {I : Addr} {fp wr : List Addr} {G : Array GenState → Array GenState → Prop} {n : Nat} {P : Nat → Value → Prop} {St : Nat → Shared → Prop}
theorem setloopK (W : WalksS prog w A.in1 I fp wr G n P St) (S : Addr) (hSf : S ∉ fp) (ks : List Key) (hsz : ks.length = n) (nd : ks.Nodup) (hb : n + 1 < scanBound)
    (hval : ∀ i v, P i v → ∃ k, ks[i]? = some k ∧ L2.RelV (kV k) v) :
    ∀ (k i : Nat) (s : Shared), n - i = k → i ≤ n → St i s →
      s.heap.SetOf (mixKind prog w) S (fun k' => (ks.take i).any (fun z => decide (z = k'))) i →
      (∀ s', Moved (S :: wr) G s s' → s'.heap.SetOf (mixKind prog w) S (fun k' => (ks.take n).any (fun z => decide (z = k'))) n → R (.ok (.ret .none)) s') →
      codeAny (model prog w) A (.builtin "set.update.loop" ⟨[.ref S, .ref I], []⟩) R s := by
  have hSw : S ∉ wr := fun h => hSf (W.sub _ h)
  have hsub : ∀ b ∈ wr, b ∈ S :: wr := fun b hb => List.mem_cons_of_mem _ hb
  intro k
  induction k with
  | zero =>
    intro i s hk hi hst hS hR
    have hin : i = n := by omega
    subst hin
    refine codeAny_builtin PyProof.Rows.F.entry_set_update_loop ?_
    rw [Around.under_plainId PyProof.Rows.F.plain_set_update_loop _]
    show wpAny _ A.in1 (pyNext (.ref I) >>= _) _ _ s
    refine wpAny_bind (W.done s _ _ hst fun s' hm => ?_)
    show wpAny _ A.in1 (ret Value.none) _ _ s'
    exact wpAny_pure (hR s' (hm.mono hsub) (by
      obtain ⟨o, es, ep, t, ho, rest⟩ := hS
      exact ⟨o, es, ep, t, hm.heap S _ hSw ho, rest⟩))
  | succ k ih =>
    intro i s hk hi hst hS hR
    have hlt : i < n := by omega
    refine codeAny_builtin PyProof.Rows.F.entry_set_update_loop ?_
    rw [Around.under_plainId PyProof.Rows.F.plain_set_update_loop _]
    show wpAny _ A.in1 (pyNext (.ref I) >>= _) _ _ s
    refine wpAny_bind (W.item i s _ _ hlt hst fun v s' hP hst' hm => ?_)
    obtain ⟨key, hkey, rv⟩ := hval i v hP
    have hS' : s'.heap.SetOf (mixKind prog w) S (fun k' => (ks.take i).any (fun z => decide (z = k'))) i := by
      obtain ⟨o, es, ep, tb, ho, rest⟩ := hS
      exact ⟨o, es, ep, tb, hm.heap S _ hSw ho, rest⟩
    show wpAny _ A.in1 (holding [v] (setAdd S v) >>= _) _ _ s'
    refine wpAny_bind (wpAny_holding ?_)
    unfold setAdd
    refine wpAny_holding ?_
    refine wpAny_bind ((mixKind prog w).pyHash (k := key) (kV_is rv) ?_)
    refine wpAny_setAddHashed_of (knd := mixKind prog w) (s := { s' with toks := s'.toks + 1 }) (kV_is rv) (key_scan rv) hS' (by omega) fun h' hsb hS2 => ?_
    have hno : (ks.take i).any (fun z => decide (z = key)) = false := by
      rw [List.any_eq_false]
      intro z hz hzk
      have hzk' : z = key := by simpa using hzk
      subst hzk'
      obtain ⟨j, hj, ej⟩ := List.mem_take_iff_getElem.mp hz
      have hj2 : j < i := by omega
      have hjl : j < ks.length := by omega
      have hil : i < ks.length := (List.getElem?_eq_some_iff.mp hkey).1
      have e2 : ks[i] = z := (List.getElem?_eq_some_iff.mp hkey).2
      exact List.pairwise_iff_getElem.mp nd j i hjl hil hj2 (by rw [e2]; exact ej)
    have hSi : h'.SetOf (mixKind prog w) S (fun k' => (ks.take (i + 1)).any (fun z => decide (z = k'))) (i + 1) := by
      refine setOf_congrK hS2 (fun k' => ?_) (by simp only [hno]; rfl)
      show ((ks.take i).any (fun z => decide (z = k')) || decide (k' = key)) = (ks.take (i + 1)).any (fun z => decide (z = k'))
      rw [List.take_add_one, hkey]
      simp only [Option.toList_some, List.any_append, List.any_cons, List.any_nil, Bool.or_false]
      congr 1
      exact decide_eq_decide.mpr eq_comm
    refine wpAny_pure ⟨plainId_quiet PyProof.Rows.F.plain_set_update_loop _, ih (i + 1) _ (by omega) hlt (W.frame _ s' _ _ hst' (Nat.le_succ _) fun b hb o e => ?_) hSi fun s'' hm'' hS'' => ?_⟩
    · rw [hsb.2 b (fun h : b = S => hSf (by rw [← h]; exact hb))]; exact e
    · refine hR s'' (Moved.trans W.gtrans ((hm.mono hsub).then_heap (Nat.le_succ _) fun b o hb e => ?_) hm'') hS''
      rw [hsb.2 b (fun h : b = S => hb (by rw [h]; exact List.mem_cons_self))]; exact e
end

section
variable {prog : Program} {w : World} {A : Around} {E : Value → Shared → Prop} {s : Shared}
set_option maxHeartbeats 6400000 in
theorem call_set_listK {l : Addr} {items : Array Value} {ks : List Key} {Q : Value → Shared → Prop}
    (hh : A.handled = none) (hl : s.heap.IsList l items) (hi : Vals (ks.map kV) items.toList) (nd : ks.Nodup) (hb : ks.length + 1 < scanBound)
    (h : ∀ (h' : Heap) (tk : Nat), h'.SetOf (mixKind prog w) s.heap.objs.size (fun k' => (ks.take items.size).any (fun z => decide (z = k'))) items.size →
      (∀ b o, b < s.heap.objs.size → s.heap.get? b = some o → h'.get? b = some o) → Q (.ref s.heap.objs.size) { s with heap := h', toks := tk }) :
    wpAny (model prog w) A (call (.type "set") [.ref l]) Q E s := by
  obtain ⟨c, tl, hmro⟩ := PySem.F.called_set.mro
  have hmade := PySem.F.called_set.made
  have hsub := PySem.F.called_set.sub
  refine wpAny_call (codeAny_of_tree ?_)
  show wpAny _ _ (callAny (.type "set") _) _ _ _
  refine wpAny_pure ⟨Code.quiet_builtin _ (by decide +kernel), codeAny_builtin PySem.F.entry_type_call ?_⟩
  rw [Around.under_plain (weight_type_call_type "set" [.ref l] []) rfl]
  have h1 := PySem.F.called_set.notType
  have h2 := PySem.F.called_set.canCreate
  have hct := PySem.F.typeCall_set_1 (.ref l)
  repeat (any_goals (first | assumption | wp_step))

  refine codeAny_mono (code_set_new_1 (.ref l) (E := E) (Q₁ := fun obj s₁ => ∃ led : Bool, obj = .ref s.heap.objs.size ∧ s₁ = { s with heap := s.heap.push { cls := .type "set", dict := none, data := .set #[] 0 (.fresh 0 0 led) } }) fun led => ⟨led, rfl, rfl⟩) fun r s₁ hr => ?_
  cases r with
  | error e => exact hr
  | ok fl =>
    cases fl with
    | ret obj =>
      obtain ⟨led, rfl, rfl⟩ := hr
      have hS : (s.heap.push { cls := .type "set", dict := none, data := .set #[] 0 (.fresh 0 0 led) }).get? s.heap.objs.size = some { cls := .type "set", dict := none, data := .set #[] 0 (.fresh 0 0 led) } := Heap.get?_push_size _ rfl
      have hT : Shared.TypeIs { s with heap := s.heap.push { cls := .type "set", dict := none, data := .set #[] 0 (.fresh 0 0 led) } } (.ref s.heap.objs.size) "set" := ⟨_, hS, rfl⟩
      have hli := PySem.F.called_set.init.lookup
      have hbi := PySem.F.called_set.init.bind (.ref s.heap.objs.size)
      repeat (any_goals (first | assumption | wp_step))

      refine codeAny_mono (codeAny_call_builtin (R := wants (fun r s₂ => r = .none ∧ ∃ h' tk, s₂ = { s with heap := h', toks := tk } ∧
          h'.SetOf (mixKind prog w) s.heap.objs.size (fun k' => (ks.take items.size).any (fun z => decide (z = k'))) items.size ∧
          (∀ b o, b < s.heap.objs.size → s.heap.get? b = some o → h'.get? b = some o)) E) PySem.F.called_set.init.plain PySem.F.entry_set_init (check_set_init_1 hT ?_)) fun r₂ s₂ hr₂ => ?_
      · obtain ⟨ol, hol, hcl, nl, hdl⟩ := hl
        obtain ⟨ocls, odict, odata, oslots⟩ := ol
        simp only at hcl hdl
        subst hcl; subst hdl
        have hol' : (s.heap.push { cls := .type "set", dict := none, data := .set #[] 0 (.fresh 0 0 led) }).get? l = some { cls := .type "list", dict := odict, data := .seq items nl, slots := oslots } := Heap.get?_push_of_some _ hol
        have hsls := PySem.F.sub_list_set
        have hslf := PySem.F.sub_list_frozenset
        have hne : (Value.type "list" == Value.type "dict") = false := by decide
        have hl1 : (s.heap.push { cls := .type "set", dict := none, data := .set #[] 0 (.fresh 0 0 led) }).IsList l items := ⟨_, hol', rfl, nl, rfl⟩
        unfold Builtin.«set.__init__» noKeywords Builtin.Frozenset.updateFrom
        generalize hPI : pyIter = PI
        wp_walk
        subst hPI

        refine wpAny_pyIter_list hl1 ?_
        refine wpAny_bind (wpAny_runValue ?_)
        have hlS : l < s.heap.objs.size := Heap.lt_size hol
        have hh3 : A.in1.in1.in1.handled = none := by simp [hh]
        have hneI : l ≠ (s.heap.push { cls := .type "set", dict := none, data := .set #[] 0 (.fresh 0 0 led) }).objs.size := by
          rw [Heap.size_push]; exact Nat.ne_of_lt (Nat.lt_succ_of_lt hlS)
        have hSf : s.heap.objs.size ∉ [(s.heap.push { cls := .type "set", dict := none, data := .set #[] 0 (.fresh 0 0 led) }).objs.size, l] := by
          rw [Heap.size_push]; simp only [List.mem_cons, List.mem_singleton, List.not_mem_nil, or_false, not_or]
          exact ⟨Nat.ne_of_lt (Nat.lt_succ_self _), Nat.ne_of_gt hlS⟩
        have hsz : ks.length = items.size := by
          have z := hi.length
          rw [List.length_map, Array.length_toList] at z
          exact z
        have hval : ∀ (i : Nat) (v : Value), items[i]? = some v → ∃ k, ks[i]? = some k ∧ L2.RelV (kV k) v := fun i v hv => by
          have hil : i < ks.length := by rw [hsz]; exact (Array.getElem?_eq_some_iff.mp hv).1
          obtain ⟨u, hu, rx⟩ := hi.get (i := i) (x := kV ks[i]) (by rw [List.getElem?_map, List.getElem?_eq_getElem hil] <;> rfl)
          have e : u = v := by
            rw [Array.getElem?_toList, hv] at hu
            exact (Option.some.inj hu).symm
          subst e
          exact ⟨_, List.getElem?_eq_getElem hil, rx⟩
        refine setloopK ((Walks.list hh3 _ l hneI items).toS) s.heap.objs.size
          hSf ks hsz nd (by rw [← hsz]; exact hb) hval (items.size - 0) 0 _ (by omega) (Nat.zero_le _)
          ⟨⟨_, Heap.get?_push_size _ rfl, rfl, rfl⟩, (hl1.push _)⟩ ?hS0 ?hR
        case hS0 =>
          have hget : ((s.heap.push { cls := .type "set", dict := none, data := .set #[] 0 (.fresh 0 0 led) }).push { cls := .type "list_iterator", data := .fields #[.ref l, .int 0 0] }).get? s.heap.objs.size
              = some { cls := .type "set", dict := none, data := .set #[] 0 (.fresh 0 0 led) } := Heap.get?_push_of_some _ hS
          exact ⟨_, #[], 0, _, hget, ⟨rfl, rfl, rfl⟩, rfl, (fun e he => by simp at he), (fun k => by simp), (by decide), (by rfl), rfl⟩
        case hR =>
          intro s' hm hS'
          obtain ⟨h', g', d', tk', os'⟩ := s'
          have eg : g' = s.gens := hm.gens
          have ed : d' = s.drawn := hm.drawn
          have eo : os' = s.os := hm.os
          subst eg; subst ed; subst eo
          show wpAny _ _ _ _ _ _
          refine wpAny_pure ?_
          show wpAny _ _ (ret Value.none) _ _ _
          refine wpAny_pure ⟨rfl, h', tk', rfl, hS', fun b o hb e => ?_⟩
          have hb1 : b ≠ s.heap.objs.size := Nat.ne_of_lt hb
          have hb2 : b ≠ (s.heap.push { cls := .type "set", dict := none, data := .set #[] 0 (.fresh 0 0 led) }).objs.size := by
            rw [Heap.size_push]; exact Nat.ne_of_lt (Nat.lt_succ_of_lt hb)
          exact hm.heap b o (by simp only [List.mem_cons, List.mem_singleton, List.not_mem_nil, or_false, not_or]; exact ⟨hb1, hb2⟩) (Heap.get?_push_of_some _ (Heap.get?_push_of_some _ e))

      · cases r₂ with
        | error e => exact hr₂
        | ok fl₂ =>
          cases fl₂ with
          | ret r =>
            obtain ⟨rfl, h', tk, rfl, hS', hk'⟩ := hr₂
            repeat (any_goals (first | assumption | wp_step))
            exact h _ _ hS' hk'
          | _ => exact hr₂.elim
    | _ => exact hr.elim

end
/-- set(a list of keys, no two alike) -/
def rSetL (K : PySem.W.Frag) (P : Program) (w : World) : List V → Hp → VK → Prop := fun xs H Q => ∃ (l : Addr) (ks : List Key), xs = [V.ref l] ∧ SqL K H l (ks.map kV) ∧ ks.Nodup ∧ ks.length + 1 < scanBound ∧ ∀ p S, H p = none → Q (.ref p) (upd H p (SetK P w p S ks.length))
section
variable {X : Cx}
theorem cr_setL (hc : X.calm = true) : CallR X (.type "set") (rSetL X.K X.prog X.w) := by
  intro pins s σ H xs us Q I r h
  obtain ⟨l, ks, rfl, hs, nd, hb, q⟩ := h
  obtain ⟨its, rv, pl, hz⟩ := I.list hs
  rw [Vals.ref1 r]
  refine call_set_listK (I.ok.hd hc) pl.isList (by simpa using rv) nd hb fun h' tk hS hk => ?_
  have hl : its.toArray.size = ks.length := by rw [List.size_toArray, ← rv.length, List.length_map]
  rw [hl] at hS
  exact ⟨.ref s.heap.objs.size, _, I.laid (t' := tk) (fun b u e => hk b u (Heap.lt_size e) e) (Nat.le_refl _) (setK_new hS), rfl, q _ _ (I.hok.fresh (Nat.le_refl _))⟩
/-- len(a set of keys) -/
theorem cr_lenK : CallR X (.builtin "len") (fun xs H Q => ∃ (a : Addr) (S : Key → Bool) (n : Nat), xs = [V.ref a] ∧ H a = some (SetK X.prog X.w a S n) ∧ n < 2 ^ 62 ∧ Q (.int (n : Int)) H) := by
  intro pins s σ H xs us Q I r h
  obtain ⟨a, S, n, rfl, ha, hn, q⟩ := h
  rw [Vals.ref1 r]
  obtain ⟨o, es, ep, t, ho, hex, hd, _, _, _, hf, hz⟩ := setK_get I ha
  exact call_len_set ho hex hd hf (by rw [hz]; omega) ⟨.int (n : Int), H, I.tok _, ⟨_, by rw [hz]⟩, q⟩
end
open PpSet
section
variable {X : Cx}
/-- {elt for target in iter if ..}, elt a key: D the new set -/
def tScK (P : Program) (w : World) (wi : TI) (g : TG) (tt : TT) (te : TE) (vs : List Nat) : TE := fun σ H Q => wi σ H fun J H1 => ∀ D, H1 D = none → ∃ W : Nat → Nat → Hp → Prop, (∃ m, W 0 m (upd H1 D (SetK P w D (fun _ => false) 0))) ∧ ∀ i m H, W i m H →
  (J.stop i H ∧ Q (.ref D) H) ∨ (J.go i H ∧ ∃ Nx : Hp → Prop, (∀ H', Nx H' → ∃ m', m' < m ∧ W (i + 1) m' H') ∧ ∀ x H', J.yld i H x H' → g x (wipe σ vs) H' fun σ2 H2 => wipe σ2 vs = wipe σ vs ∧ tt σ2 H2 fun b H3 =>
    if b = true then te σ2 H3 fun y H4 => ∃ (c : Key) (S : Key → Bool) (n : Nat), y = kV c ∧ H4 D = some (SetK P w D S n) ∧ n + 1 < scanBound ∧ Nx (upd H4 D (SetK P w D (fun j => S j || decide (j = c)) (if S c = true then n else n + 1))) else Nx H3)
theorem sc_coreK {pins : List (Addr × Obj)} {s : Shared} {σ : L2.St} {H : Hp} {Q : VK} {elt tg iter : Expr} {ifs : List Expr} {scope : Scope} {own : List (PySem.Str × Nat)} {pos pos' : Pos} {wi : TI} {g : TG} {tt : TT} {te : TE} {use : Option (Value → Sem Unit)} {Qf : Value → Shared → Prop}
    (hc : X.calm = true) (hN : X.N.Nodup) (I : Inv X pins σ H s) (hi : PI X tg iter wi) (ok : BlkOk X.N X.env.scope scope own)
    (hg : ∀ (s : Shared) (H : Hp) (C : Addr) (cl : List (PySem.Str × Addr)) (fp : List Addr), PG (X.blk s H scope (compEnvC scope cl C X.env) fp) tg g) (ht : ∀ (s : Shared) (H : Hp) (C : Addr) (cl : List (PySem.Str × Addr)) (fp : List Addr), PTs (X.blk s H scope (compEnvC scope cl C X.env) fp) ifs tt)
    (he : ∀ (s : Shared) (H : Hp) (C : Addr) (cl : List (PySem.Str × Addr)) (fp : List Addr), PE (X.blk s H scope (compEnvC scope cl C X.env) fp) elt te) (hs : ∀ x, foldedSetIterable iter X.env x = pure x)
    (h : tScK X.prog X.w wi g tt te (own.map (·.2)) σ H Q)
    (hRR : ∀ D C s' m H', Inv X pins σ H' s' → Q (.ref D) H' → s'.heap.Ns C m → FpOk X pins H' C → compPost (model X.prog X.w) X.A X.xe use Qf (.ref D) C (.ok .next) s') :
    wpAny (model X.prog X.w) X.A (comprehension (.SetComp elt [⟨tg, iter, ifs, 0⟩] scope pos) scope X.env pos' (newSet (.type "set")) false (eval iter X.env) use) Qf X.xe s := by
  have hfree : ∀ y ∈ scope.names, y.2 = .free → ∃ c, X.env.cells.lookup y.1 = some c := fun y hy e => by
    rcases ok.free y hy e with k | k
    · exact I.ok.has _ (.inl k)
    · exact I.ok.has _ (.inr k)
  refine wpAny_comprehension_free (use := use) rfl hs (closure_ok hfree) ok.kind (fun y hy e => by rw [ok.uniq y hy, e])
    (thn (hi.run pins s σ H _ I h) fun xv s1 hx => thn hx fun itv s2 h2 => ?_)
  obtain ⟨it, fp, tn, J, H2, e, I2, T, st2, f2, q⟩ := h2
  subst e
  refine newSet_ok (newEnv_comp ?_)
  generalize hD : s2.heap.objs.size = D
  have hDn : H2 D = none := I2.hok.fresh (Nat.le_of_eq hD)
  obtain ⟨W, ⟨m0, w0⟩, turn⟩ := q D hDn
  -- the new list
  generalize hs3 : ({ s2 with heap := s2.heap.push { cls := .type "set", dict := none, data := .set #[] 0 (.fresh 0 0 (!X.w.params.followText "set-order")) } } : Shared) = s3
  have I3 : Inv X pins σ (upd H2 D (SetK X.prog X.w D (fun _ => false) 0)) s3 := by
    rw [← hs3]
    refine I2.laid (t' := s2.toks) (fun b o e => Heap.get?_push_of_some _ e) (Nat.le_of_eq hD) ?_
    rw [← hD]
    exact setK_new ⟨_, #[], 0, _, Heap.get?_push_size _ rfl, ⟨rfl, rfl, rfl⟩, rfl, (fun e he => by simp at he), (fun k => by simp), (by decide), (by rfl), rfl⟩
  have h3 : s3.heap = s2.heap.push { cls := .type "set", dict := none, data := .set #[] 0 (.fresh 0 0 (!X.w.params.followText "set-order")) } := by rw [← hs3]
  have sz : ∀ b ∈ fp, b < s2.heap.objs.size := fun b hb => by
    obtain ⟨o, e, _⟩ := T.obj _ _ st2 b hb
    exact Heap.lt_size e
  have f3 : ∀ b ∈ fp, FpOk X pins (upd H2 D (SetK X.prog X.w D (fun _ => false) 0)) b ∧ b < s3.heap.objs.size := fun b hb => by
    have hlt := sz b hb
    refine ⟨⟨?_, (f2 b hb).2⟩, by rw [h3, Heap.size_push]; exact Nat.lt_succ_of_lt hlt⟩
    rw [upd_ne (by rw [← hD]; exact Nat.ne_of_lt hlt)]
    exact (f2 b hb).1
  have st3 : tn 0 s3.heap := T.keep _ _ _ st2 fun b _ o e => by rw [h3]; exact Heap.get?_push_of_some _ e
  have I4 := block_start I3 ok hN f3
  have pg := hg s3 (upd H2 D (SetK X.prog X.w D (fun _ => false) 0)) s3.heap.objs.size (cellsFrom (s3.heap.objs.size + 1) scope.names (cloFrom X.env.cells scope.names [])) fp
  have pt := ht s3 (upd H2 D (SetK X.prog X.w D (fun _ => false) 0)) s3.heap.objs.size (cellsFrom (s3.heap.objs.size + 1) scope.names (cloFrom X.env.cells scope.names [])) fp
  have pe := he s3 (upd H2 D (SetK X.prog X.w D (fun _ => false) 0)) s3.heap.objs.size (cellsFrom (s3.heap.objs.size + 1) scope.names (cloFrom X.env.cells scope.names [])) fp
  show codeAny _ _ (.compStart (.SetComp elt [⟨tg, iter, ifs, 0⟩] scope pos) 0 (.ref it) (.ref D) (compEnvC scope (cellsFrom (s3.heap.objs.size + 1) scope.names (cloFrom X.env.cells scope.names [])) s3.heap.objs.size X.env)) (compPost (model X.prog X.w) X.A X.xe use Qf (.ref D) s3.heap.objs.size) { s3 with heap := pushCells (s3.heap.push { cls := .type "dict", data := .dict #[] }) scope.names }
  have nfp : ∀ b ∈ fp, (upd H2 D (SetK X.prog X.w D (fun _ => false) 0)) b = none := fun b hb => (f3 b hb).1.1
  generalize hce : compEnvC scope (cellsFrom (s3.heap.objs.size + 1) scope.names (cloFrom X.env.cells scope.names [])) s3.heap.objs.size X.env = ce at I4 pg pt pe ⊢
  have cL : ce.locals = s3.heap.objs.size := by subst hce; rfl
  generalize hH3 : upd H2 D (SetK X.prog X.w D (fun _ => false) 0) = H3 at I3 I4 pg pt pe w0 nfp f3
  generalize hs4 : ({ s3 with heap := pushCells (s3.heap.push { cls := .type "dict", data := .dict #[] }) scope.names } : Shared) = s4 at I4 ⊢
  have st4 : tn 0 s4.heap := T.keep _ _ _ st3 fun b _ o e => by rw [← hs4]; exact pushCells_keeps _ _ _ _ (Heap.get?_push_of_some _ e)
  have stat : ∀ {σ' : L2.St} {H' : Hp} {s' : Shared}, Inv (X.blk s3 H3 scope ce fp) [] σ' H' s' → (∀ b ∈ fp, H' b = none) → ∀ b ∈ fp, FpOk (X.blk s3 H3 scope ce fp) [] H' b := fun {σ' H' s'} I' hn b hb =>
    ⟨hn b hb, (I'.ok.exf b hb).1, I'.ok.exfs b hb, .inl hb, fun x c e => (I'.ok.exf b hb).2 x c e, fun p hp => absurd (show p ∈ ([] : List (Addr × Obj)) ++ [] from hp) (by simp)⟩
  have loop : codeAny (model X.prog X.w) X.A (.compLoop (.SetComp elt [⟨tg, iter, ifs, 0⟩] scope pos) 0 (.ref it) (.ref D) ce) (compPost (model X.prog X.w) X.A X.xe use Qf (.ref D) s3.heap.objs.size) s4 := by
    refine compLoopS_any (fun n s' => ∃ i H', Inv (X.blk s3 H3 scope ce fp) [] (wipe σ (own.map (·.2))) H' s' ∧ tn i s'.heap ∧ (∀ b ∈ fp, H' b = none) ∧ W i n H') ?_ m0 ⟨0, H3, I4, st4, nfp, w0⟩
    rintro n s5 ⟨i, H5, I5, st5, n5, w5⟩
    rcases turn i n H5 w5 with ⟨stop, qq⟩ | ⟨go, Nx, hNx, step⟩
    · have td := T.done (X.blk s3 H3 scope ce fp) rfl rfl rfl hc i [] s5 _ H5 (fun _ _ => False) I5 (stat I5 n5) st5 stop
      refine thnF td fun r s6 ⟨hr, I6⟩ => ?_
      subst hr
      -- back in the def's context
      have I7 : Inv X pins σ H5 s6 := I3.call' (ch := fp) I6.os I6.base I6.hok I6.bare fun b hb => ⟨(f3 b hb).1.2.2.2.1, (f3 b hb).1.2.1, (f3 b hb).1.2.2.2.2.1, (f3 b hb).1.2.2.2.2.2⟩
      have nC : H5 s3.heap.objs.size = none := by
        have z : H5 ce.locals = none := I6.free
        rw [cL] at z
        exact z
      obtain ⟨m, hn, _⟩ := I6.loc
      have hn : s6.heap.Ns ce.locals m := hn
      rw [cL] at hn
      exact hRR D s3.heap.objs.size s6 m H5 I7 qq hn (I3.fpOk (Nat.le_refl _) nC)
    · have ti := T.item (X.blk s3 H3 scope ce fp) rfl rfl rfl hc i [] s5 _ H5 (fun _ _ => False) I5 (stat I5 n5) st5 go
      refine thnF ti fun r s6 ⟨u, hr, h6⟩ => ?_
      subst hr
      refine thnF h6 fun _ s7 ⟨x, H7, I7, r7, y7, st7, n7⟩ => ?_
      have I7' := I7.pinned (stat I7 n7) (T.obj _ _ st7)
      refine thnF (pg.run _ s7 _ H7 x u _ I7' r7 (step x H7 y7)) fun _ s8 ⟨σ8, H8, I8, hw8, q8⟩ => ?_
      refine thnF (pt.run _ s8 σ8 H8 _ I8 q8) fun b s9 ⟨H9, I9, q9⟩ => ?_
      -- the turn's end
      have fin : ∀ {s' : Shared} {H' : Hp}, Inv (X.blk s3 H3 scope ce fp) ([] ++ pinsAt fp s7.heap) σ8 H' s' → Nx H' → ∃ m, m < n ∧ ∃ i H', Inv (X.blk s3 H3 scope ce fp) [] (wipe σ (own.map (·.2))) H' s' ∧ tn i s'.heap ∧ (∀ b ∈ fp, H' b = none) ∧ W i m H' := fun {s' H'} I' nx => by
        obtain ⟨m', hm, w'⟩ := hNx H' nx
        have pin' : ∀ b ∈ fp, ∀ o, s7.heap.get? b = some o → s'.heap.get? b = some o ∧ H' b = none := fun b hb o e =>
          let z := I'.pin (b, o) (List.mem_append_right _ (List.mem_append_right _ (mem_pinsAt hb e)))
          ⟨z.1, z.2.1⟩
        have hl : (wipe σ (own.map (·.2))).length = σ8.length := by rw [← hw8, wipe_length]
        refine ⟨m', hm, i + 1, H', (I'.unpinned (pins := [])).weak hl (fun j v e => ?_), T.keep _ _ _ st7 fun b hb o e => (pin' b hb o e).1, fun b hb => ?_, w'⟩
        · rw [← hw8] at e
          exact (wipe_some e).1
        · obtain ⟨o, e, _⟩ := T.obj _ _ st7 b hb
          exact (pin' b hb o e).2
      cases b with
      | false =>
        simp only [Bool.false_eq_true, if_false] at q9 ⊢
        exact fin I9 q9
      | true =>
        simp only [if_true] at q9 ⊢
        refine thnF (pe.run _ s9 σ8 H9 _ I9 q9) fun z s10 ⟨yv, H10, I10, r10, cb, S0, n0, ey, hD10, hz10, nx⟩ => ?_
        subst ey
        refine thnF (mt_saddK (X := X.blk s3 H3 scope ce fp) _ s10 σ8 H10 (.ref D) [kV cb] (.ref D) [z] (fun v H' => Nx H') I10 rfl (.cons r10 .nil) ⟨D, cb, S0, n0, rfl, rfl, hD10, hz10, nx⟩) fun _ s11 ⟨_, H11, I11, _, nx⟩ => fin I11 nx
  exact codeAny_compStart_set loop (T.self X.A 0 _ _ _ st4 loop)
/-- as a value -/
theorem pe_scK {elt tg iter : Expr} {ifs : List Expr} {scope : Scope} {own : List (PySem.Str × Nat)} {pos : Pos} {wi : TI} {g : TG} {tt : TT} {te : TE} (hc : X.calm = true) (hN : X.N.Nodup) (hi : PI X tg iter wi) (ok : BlkOk X.N X.env.scope scope own)
    (hg : ∀ (s : Shared) (H : Hp) (C : Addr) (cl : List (PySem.Str × Addr)) (fp : List Addr), PG (X.blk s H scope (compEnvC scope cl C X.env) fp) tg g) (ht : ∀ (s : Shared) (H : Hp) (C : Addr) (cl : List (PySem.Str × Addr)) (fp : List Addr), PTs (X.blk s H scope (compEnvC scope cl C X.env) fp) ifs tt)
    (he : ∀ (s : Shared) (H : Hp) (C : Addr) (cl : List (PySem.Str × Addr)) (fp : List Addr), PE (X.blk s H scope (compEnvC scope cl C X.env) fp) elt te) (hs : ∀ x, foldedSetIterable iter X.env x = pure x := by intro _; rfl) :
    PE X (.SetComp elt [⟨tg, iter, ifs, 0⟩] scope pos) (tScK X.prog X.w wi g tt te (own.map (·.2))) := by
  refine ⟨fun pins s σ H Q I h => ?_⟩
  rw [eval_SetComp]
  refine sc_coreK hc hN I hi ok hg ht he hs h fun D C s' m H' I' q hn f => ⟨m, hn, fun h'' sb => ?_⟩
  obtain ⟨f0, f1, f2, f3, f4, f5⟩ := f
  exact ⟨.ref D, H', I'.turned (t' := s'.toks) (fun b o hb e => (sb.2 b hb).trans e) f0 f1 f3 f4 f5, rfl, q⟩
end
end NL
set_option maxHeartbeats 4000000
/-! rules on the hand layer that the library lacks: list(zip(text, text)) -/
namespace NL
open PySem PySem.Spec PyProof.Rows L2
theorem zip_no_len : typeLookup (.type "zip") "__len__" = pure none := by rw [typeLookup_type, builtinLookup_eq_fast]; kernel_rfl
theorem zip_no_hint : typeLookup (.type "zip") "__length_hint__" = pure none := by rw [typeLookup_type, builtinLookup_eq_fast]; kernel_rfl
abbrev ZObj (f0 : Value) (b : Bool) (TI TO : Addr) : Obj := { cls := .type "zip", dict := none, data := .fields #[f0, .bool b, .bool false, .ref TI, .ref TO], slots := #[] }
section
variable {prog : Program} {w : World} {A : Around} {E : Value → Shared → Prop} {s : Shared} {z TI TO T0 i1 i2 : Addr} {fp1 fp2 : List Addr} {n1 n2 i : Nat} {P1 P2 : Nat → Value → Prop} {St1 St2 : Nat → Heap → Prop} {b : Bool} {oT : Obj}
theorem wpAny_lia {M : Model} {a : Addr} {Q : Option Obj → Shared → Prop} (h : Q (s.heap.get? a) s) : wpAny M A (loadIfAlive a) Q E s := fun Γ p hΓ => by
  unfold loadIfAlive
  rw [PySem.Sem.wp_loadIfAlive]
  exact h
theorem free_used {Q : Bool → Shared → Prop} (hz : s.heap.get? z = some (ZObj (rawInt T0) b TI TO)) (hT : s.heap.get? T0 = some oT)
    (hQ : ∀ h', h'.get? z = some (ZObj (rawInt T0) true TI TO) → Heap.SameBut z s.heap h' → Q false { s with heap := h' }) : wpAny (model prog w) A (Builtin.SmallTypes.ownedTupleIsFree (.ref z)) Q E s := by
  unfold Builtin.SmallTypes.ownedTupleIsFree
  refine wpAny_bind (wpAny_field hz rfl (x := rawInt T0) rfl ?_)
  show wpAny _ _ (loadIfAlive ((T0 : Int).toNat) >>= _) _ _ _
  rw [Int.toNat_natCast]
  refine wpAny_bind (wpAny_lia ?_)
  rw [hT]
  show wpAny _ _ (field (.ref z) 1 >>= _) _ _ _
  refine wpAny_bind (wpAny_field hz rfl (x := .bool b) rfl ?_)
  cases b with
  | true =>
    show wpAny _ _ (pure false) _ _ _
    exact wpAny_pure (hQ s.heap hz (Heap.SameBut.refl _ _))
  | false =>
    show wpAny _ _ (setField (.ref z) 1 (.bool true) >>= _) _ _ _
    refine wpAny_bind (wpAny_setField_rec hz (by simp) fun h' hz' hs' => ?_)
    exact wpAny_pure (hQ h' hz' hs')
theorem used_item {Q : Value → Shared → Prop} (S : ZipSep2 z TI TO i1 i2 fp1 fp2) (D1 : Draws prog w A i1 fp1 n1 P1 St1) (D2 : Draws prog w A i2 fp2 n2 P2 St2)
    (hz : s.heap.get? z = some (ZObj (rawInt T0) b TI TO)) (hT : s.heap.get? T0 = some oT) (hTI : IsTupOf2 s.heap TI (.ref i1) (.ref i2)) (st1 : St1 i s.heap) (st2 : St2 i s.heap) (hlt1 : i < n1) (hlt2 : i < n2)
    (hQ : ∀ x1 x2 h' tk, P1 i x1 → P2 i x2 → h'.get? z = some (ZObj (rawInt T0) true TI TO) → St1 (i + 1) h' → St2 (i + 1) h' → IsTupOf2 h' s.heap.objs.size x1 x2 → h'.objs.size = s.heap.objs.size + 1 →
      (∀ c o, c ≠ z → c ≠ i1 → c ≠ i2 → s.heap.get? c = some o → h'.get? c = some o) → Q (.ref s.heap.objs.size) { s with heap := h', toks := tk }) :
    wpAny (model prog w) A (Builtin.«zip.__next__» ⟨[.ref z], []⟩) (fun fin s' => ∃ v, fin = .done (.ret v) ∧ Q v s') E s := by
  obtain ⟨hp, g, d, tk0, os⟩ := s
  show wpAny _ _ (field (.ref z) 2 >>= _) _ _ _
  refine wpAny_bind (wpAny_field hz rfl (x := .bool false) rfl ?_)
  show wpAny _ _ (field (.ref z) 3 >>= _) _ _ _
  refine wpAny_bind (wpAny_field hz rfl (x := .ref TI) rfl ?_)
  refine wpAny_bind (wpAny_seqItems hTI rfl ?_)
  show wpAny _ _ (Builtin.SmallTypes.ownedTupleIsFree (.ref z) >>= _) _ _ _
  refine wpAny_bind (free_used hz hT fun g0 hz0 hs0 => ?_)
  replace hz0 : g0.get? z = some (ZObj (rawInt T0) true TI TO) := hz0
  replace hs0 : Heap.SameBut z hp g0 := hs0
  show wpAny _ _ (if false = true then _ else _) _ _ _
  rw [if_neg Bool.false_ne_true]
  refine wpAny_bind ?_
  simp only [List.forIn_toArray, List.forIn_cons, List.forIn_nil]
  refine wpAny_bind (wpAny_bind (wpAny_holding ?_))
  show wpAny _ _ (Builtin.SmallTypes.nextOf (.ref i1) >>= fun x => pure (some x)) _ _ ⟨g0, g, d, tk0, os⟩
  refine wpAny_bind (D1.item i _ _ _ hlt1 (D1.over st1 hs0 S.zf1) fun x1 p1 tk1 hx1 sn1 hp1 => wpAny_pure (wpAny_pure ?_))
  replace hp1 : Heap.SameBut i1 g0 p1 := hp1
  refine wpAny_bind (wpAny_bind (wpAny_holding ?_))
  show wpAny _ _ (Builtin.SmallTypes.nextOf (.ref i2) >>= fun x => pure (some x)) _ _ ⟨p1, g, d, tk1, os⟩
  refine wpAny_bind (D2.item i _ _ _ hlt2 (D2.over (D2.over st2 hs0 S.zf2) hp1 S.sep1_2) fun x2 p2 tk2 hx2 sn2 hp2 => wpAny_pure (wpAny_pure (wpAny_pure ?_)))
  replace hp2 : Heap.SameBut i2 p1 p2 := hp2
  refine wpAny_bind (wpAny_newTuple (hsz := (show 2 ≤ sizeLine by decide)) ?_)
  have hsz : p2.objs.size = hp.objs.size := by rw [hp2.1, hp1.1, hs0.1]
  have zi1 := S.zi1
  have zi2 := S.zi2
  have up : ∀ c o, c ≠ z → c ≠ i1 → c ≠ i2 → hp.get? c = some o → (p2.push { cls := .type "tuple", data := .seq #[x1, x2] }).get? c = some o := fun c o cz c1 c2 e => Heap.get?_push_of_some _ (hp2.extBut _ _ c2 (hp1.extBut _ _ c1 (hs0.extBut _ _ cz e)))
  refine wpAny_pure ⟨_, rfl, ?_⟩
  show Q (.ref p2.objs.size) ⟨p2.push { cls := .type "tuple", data := .seq #[x1, x2] }, g, d, tk2, os⟩
  have hT2 : IsTupOf2 (p2.push { cls := .type "tuple", data := .seq #[x1, x2] }) p2.objs.size x1 x2 := Heap.get?_push_size _ rfl
  rw [hsz] at hT2 ⊢
  refine hQ x1 x2 (p2.push { cls := .type "tuple", data := .seq #[x1, x2] }) tk2 hx1 hx2 ?_ ?_ ?_ hT2 (by rw [Heap.size_push, hsz]) up
  · exact Heap.get?_push_of_some _ (hp2.extBut _ _ zi2 (hp1.extBut _ _ zi1 hz0))
  · exact D1.frame _ _ _ (D1.over sn1 hp2 S.sep2_1) fun b _ o e => Heap.get?_push_of_some _ e
  · exact D2.frame _ _ _ sn2 fun b _ o e => Heap.get?_push_of_some _ e
theorem used_end {Q : Fin → Shared → Prop} (S : ZipSep2 z TI TO i1 i2 fp1 fp2) (D1 : Draws prog w A i1 fp1 n1 P1 St1)
    (hz : s.heap.get? z = some (ZObj (rawInt T0) b TI TO)) (hT : s.heap.get? T0 = some oT) (hTI : IsTupOf2 s.heap TI (.ref i1) (.ref i2)) (st1 : St1 n1 s.heap)
    (hE : ∀ h' tk e, (∀ c o, c ≠ z → c ≠ i1 → s.heap.get? c = some o → h'.get? c = some o) → (∃ o, h'.get? e = some o ∧ o.cls = .type "StopIteration") → E (.ref e) { s with heap := h', toks := tk }) :
    wpAny (model prog w) A (Builtin.«zip.__next__» ⟨[.ref z], []⟩) Q E s := by
  obtain ⟨hp, g, d, tk0, os⟩ := s
  show wpAny _ _ (field (.ref z) 2 >>= _) _ _ _
  refine wpAny_bind (wpAny_field hz rfl (x := .bool false) rfl ?_)
  show wpAny _ _ (field (.ref z) 3 >>= _) _ _ _
  refine wpAny_bind (wpAny_field hz rfl (x := .ref TI) rfl ?_)
  refine wpAny_bind (wpAny_seqItems hTI rfl ?_)
  show wpAny _ _ (Builtin.SmallTypes.ownedTupleIsFree (.ref z) >>= _) _ _ _
  refine wpAny_bind (free_used hz hT fun g0 hz0 hs0 => ?_)
  replace hs0 : Heap.SameBut z hp g0 := hs0
  show wpAny _ _ (if false = true then _ else _) _ _ _
  rw [if_neg Bool.false_ne_true]
  refine wpAny_bind ?_
  simp only [List.forIn_toArray, List.forIn_cons, List.forIn_nil]
  refine wpAny_bind (wpAny_bind (wpAny_holding ?_))
  show wpAny _ _ (Builtin.SmallTypes.nextOf (.ref i1) >>= fun x => pure (some x)) _ _ ⟨g0, g, d, tk0, os⟩
  refine wpAny_bind (D1.done ⟨g0, g, d, tk0, os⟩ _ _ (D1.over st1 hs0 S.zf1) fun q e hq he => ?_)
  replace hq : Heap.ExtBut i1 g0 q := hq
  exact hE q tk0 e (fun c o cz c1 x => hq _ _ c1 (hs0.extBut _ _ cz x)) he
end
/-! ### the walk -/
def atC (x : Str) (i : Nat) (v : Value) : Prop := ∃ c u, x.cps[i]? = some c ∧ v = .str ⟨#[c]⟩ u
structure ZS (h : Heap) (z TI TO i1 i2 S : Addr) (x y : Str) (tx ty : Tok) (i : Nat) : Prop where
  first : i = 0 → IsZip h z TI TO .none
  then_ : 0 < i → ∃ T0 b o, h.get? z = some (ZObj (rawInt (T0 : Addr)) b TI TO) ∧ h.get? T0 = some o ∧ T0 ≠ S ∧ T0 ≠ z ∧ T0 ≠ i1 ∧ T0 ≠ i2
  ti : IsTupOf2 h TI (.ref i1) (.ref i2)
  to : ∃ a b, IsTupOf2 h TO a b
  s1 : h.IsStrIter i1 "str_ascii_iterator" x tx i
  s2 : h.IsStrIter i2 "str_ascii_iterator" y ty i
  sep : ZipSep2 z TI TO i1 i2 [i1] [i2]
  apart : S ≠ z ∧ S ≠ TI ∧ S ≠ TO ∧ S ≠ i1 ∧ S ≠ i2
section
variable {prog : Program} {w : World} {A : Around} {E : Value → Shared → Prop} {s : Shared} {z TI TO i1 i2 S : Addr} {x y : Str} {tx ty : Tok} {i : Nat}
theorem ZS.keep {h h' : Heap} (Z : ZS h z TI TO i1 i2 S x y tx ty i) (hs : Heap.SameBut S h h') : ZS h' z TI TO i1 i2 S x y tx ty i := by
  obtain ⟨a1, a2, a3, a4, a5⟩ := Z.apart
  refine ⟨fun e => hs.extBut _ _ a1.symm (Z.first e), fun e => ?_, hs.extBut _ _ a2.symm Z.ti, ?_, Z.s1.extBut hs.extBut a4.symm, Z.s2.extBut hs.extBut a5.symm, Z.sep, Z.apart⟩
  · obtain ⟨T0, b, o, h1, h2, h3, h4⟩ := Z.then_ e
    exact ⟨T0, b, o, hs.extBut _ _ a1.symm h1, hs.extBut _ _ h3 h2, h3, h4⟩
  · obtain ⟨p, q, h1⟩ := Z.to
    exact ⟨p, q, hs.extBut _ _ a3.symm h1⟩
theorem ZS.item (hh : A.in1.handled = none) {oS : Obj} (hS : s.heap.get? S = some oS) (Z : ZS s.heap z TI TO i1 i2 S x y tx ty i) (h1 : i < x.cps.size) (h2 : i < y.cps.size) {Q : Option Value → Shared → Prop}
    (hQ : ∀ T v1 v2 h' tk, atC x i v1 → atC y i v2 → ZS h' z TI TO i1 i2 S x y tx ty (i + 1) → IsTupOf2 h' T v1 v2 → s.heap.objs.size = T → (∀ c o, c ≠ z → c ≠ TO → c ≠ i1 → c ≠ i2 → s.heap.get? c = some o → h'.get? c = some o) → Q (some (.ref T)) { s with heap := h', toks := tk }) :
    wpAny (model prog w) A (pyNext (.ref z)) Q E s := by
  obtain ⟨a1, a2, a3, a4, a5⟩ := Z.apart
  have D1 := Draws.strAscii (prog := prog) (w := w) (A := A.in1) hh i1 x tx
  have D2 := Draws.strAscii (prog := prog) (w := w) (A := A.in1) hh i2 y ty
  have hSlt := Heap.lt_size hS
  have TIz := Z.sep.TIz
  by_cases h0 : i = 0
  · obtain ⟨p, q, hTO⟩ := Z.to
    refine wpAny_pyNext_zipD2_item Z.sep D1 D2 (Z.first h0) Z.ti hTO Z.s1 Z.s2 h1 h2 fun v1 v2 h' tk y1 y2 b1 b2 d1 d2 b5 b6 b7 => ?_
    have lz := Heap.lt_size (Z.first h0)
    have l1 : i1 < s.heap.objs.size := by obtain ⟨_, e, _⟩ := Z.s1; exact Heap.lt_size e
    have l2 : i2 < s.heap.objs.size := by obtain ⟨_, e, _⟩ := Z.s2; exact Heap.lt_size e
    refine hQ _ v1 v2 h' tk y1 y2 ⟨fun e => by omega, fun _ => ⟨_, false, _, b1, b5, Nat.ne_of_gt hSlt, Nat.ne_of_gt lz, Nat.ne_of_gt l1, Nat.ne_of_gt l2⟩, b7 _ _ TIz Z.sep.TITO Z.sep.TIi1 Z.sep.TIi2 Z.ti, ⟨_, _, b2⟩, d1, d2, Z.sep, Z.apart⟩ b5 rfl b7
  · obtain ⟨T0, b, o, g1, g2, g3, g4, g5, g6⟩ := Z.then_ (Nat.pos_of_ne_zero h0)
    obtain ⟨p, q, hTO⟩ := Z.to
    have hT : s.TypeIs (.ref z) "zip" := ⟨_, g1, rfl⟩
    unfold pyNext
    refine wpAny_bind (wpAny_attempt (wpAny_callSpecial?_slot (name := Str.ofString "__next__") hT PySem.F.slot_zip_next
      (wpAny_call_entry PySem.F.slot_zip_next hT PySem.F.entry_zip_next (used_item Z.sep D1 D2 g1 g2 Z.ti Z.s1 Z.s2 h1 h2 fun v1 v2 h' tk y1 y2 b1 d1 d2 b5 b6 b7 => wpAny_pure ?_) (PySem.F.args_zip_next_1 _))))
    exact hQ _ v1 v2 h' tk y1 y2 ⟨fun e => by omega, fun _ => ⟨T0, true, o, b1, b7 _ _ g4 g5 g6 g2, g3, g4, g5, g6⟩, b7 _ _ TIz Z.sep.TIi1 Z.sep.TIi2 Z.ti, ⟨p, q, b7 _ _ Z.sep.TOz Z.sep.Ti1 Z.sep.Ti2 hTO⟩, d1, d2, Z.sep, Z.apart⟩ b5 rfl fun c o cz _ c1 c2 e => b7 c o cz c1 c2 e
theorem ZS.done (hh : A.in1.handled = none) (Z : ZS s.heap z TI TO i1 i2 S x y tx ty x.cps.size) (h1 : 0 < x.cps.size) {Q : Option Value → Shared → Prop}
    (hQ : ∀ h' tk, (∀ c o, c ≠ z → c ≠ i1 → s.heap.get? c = some o → h'.get? c = some o) → Q none { s with heap := h', toks := tk }) : wpAny (model prog w) A (pyNext (.ref z)) Q E s := by
  have D1 := Draws.strAscii (prog := prog) (w := w) (A := A.in1) hh i1 x tx
  obtain ⟨T0, b, o, g1, g2, g3, g4, g5, g6⟩ := Z.then_ h1
  have hT : s.TypeIs (.ref z) "zip" := ⟨_, g1, rfl⟩
  unfold pyNext
  refine wpAny_bind (wpAny_attempt (wpAny_callSpecial?_slot (name := Str.ofString "__next__") hT PySem.F.slot_zip_next
    (wpAny_call_entry PySem.F.slot_zip_next hT PySem.F.entry_zip_next (used_end Z.sep D1 g1 g2 Z.ti Z.s1 fun h' tk e hk he => ?_) (PySem.F.args_zip_next_1 _))))
  obtain ⟨o, ho, hc⟩ := he
  refine wpAny_bind (wpAny_isInstance (T := "StopIteration") (b := true) ⟨o, ho, hc⟩ isSubtype_stop ?_)
  exact wpAny_pure (hQ _ _ hk)
end
/-! ### the list of the pairs -/
/-- the items so far, in the heap -/
def Prs (h : Heap) (bad : List Addr) (x y : Str) (acc : List Value) : Prop := acc.Nodup ∧ ∀ (j : Nat) v, acc[j]? = some v → ∃ T v1 v2, v = .ref T ∧ (T ∉ bad ∧ bad.headD 0 < T) ∧ atC x j v1 ∧ atC y j v2 ∧ IsTupOf2 h T v1 v2
theorem Prs.keep {h h' : Heap} {bad : List Addr} {x y : Str} {acc : List Value} (p : Prs h bad x y acc) (k : ∀ c o, c ∉ bad → h.get? c = some o → h'.get? c = some o) : Prs h' bad x y acc := ⟨p.1, fun j v e => by
  obtain ⟨T, v1, v2, h1, h2, h3, h4, h5⟩ := p.2 j v e
  exact ⟨T, v1, v2, h1, h2, h3, h4, k _ _ h2.1 h5⟩⟩
theorem Prs.push {h : Heap} {bad : List Addr} {x y : Str} {acc : List Value} {T : Addr} {v1 v2 : Value} (p : Prs h bad x y acc) (h0 : ∀ v ∈ acc, v ≠ .ref T) (h1 : T ∉ bad ∧ bad.headD 0 < T) (h2 : atC x acc.length v1) (h3 : atC y acc.length v2) (h4 : IsTupOf2 h T v1 v2) : Prs h bad x y (acc ++ [.ref T]) := by
  refine ⟨List.nodup_append.mpr ⟨p.1, by simp, fun a ha b hb => by rw [List.mem_singleton.mp hb]; exact h0 a ha⟩, fun j v e => ?_⟩
  by_cases hj : j < acc.length
  · rw [List.getElem?_append_left hj] at e
    exact p.2 j v e
  · rw [List.getElem?_append_right (by omega)] at e
    have : j - acc.length = 0 := by
      cases q : j - acc.length with
      | zero => rfl
      | succ k => rw [q] at e; simp at e
    rw [this] at e
    cases e
    have e2 : j = acc.length := by omega
    subst e2
    exact ⟨T, v1, v2, rfl, h1, h2, h3, h4⟩
section
variable {prog : Program} {w : World} {A : Around} {R : Result → Shared → Prop} {z TI TO i1 i2 S : Addr} {x y : Str} {tx ty : Tok}
theorem zip_loop (hh : A.handled = none) (hl : x.cps.size = y.cps.size) (h0 : 0 < x.cps.size) (hz : x.cps.size ≤ 1000) (res : Value) :
    ∀ (k i : Nat) (s : Shared) (acc : List Value) (c : Nat), x.cps.size - i = k → i ≤ x.cps.size → ZS s.heap z TI TO i1 i2 S x y tx ty i → s.heap.get? S = some { cls := .type "list", dict := none, data := .seq acc.toArray c, slots := #[] } → acc.length = i → Prs s.heap [S, z, TO, i1, i2] x y acc →
      (∀ h' tk acc' c', (∀ c o, c ∉ [S, z, TO, i1, i2] → s.heap.get? c = some o → h'.get? c = some o) → h'.get? S = some { cls := .type "list", dict := none, data := .seq acc'.toArray c', slots := #[] } → acc'.length = x.cps.size → Prs h' [S, z, TO, i1, i2] x y acc' → R (.ok (.ret res)) { s with heap := h', toks := tk }) →
      codeAny (model prog w) A (.builtin "list.extend.loop" ⟨[.ref S, .ref z, res], []⟩) R s := by
  intro k
  induction k with
  | zero =>
    intro i s acc c hk hi Z hS ha hP hR
    have hin : i = x.cps.size := by omega
    subst hin
    obtain ⟨a1, a2, a3, a4, a5⟩ := Z.apart
    refine codeAny_builtin PySem.F.entry_extend_loop ?_
    rw [Around.under_plainId PySem.F.plain_extend_loop _]
    show wpAny _ A.in1 (pyNext (.ref z) >>= _) _ _ s
    refine wpAny_bind (Z.done (A := A.in1) (show A.in1.in1.handled = none from hh) h0 fun h' tk hk' => ?_)
    refine wpAny_pure (hR h' tk acc c (fun b o hb e => hk' b o (fun q => hb (by rw [q]; simp)) (fun q => hb (by rw [q]; simp)) e) (hk' _ _ a1 a4 hS) ha (hP.keep fun b o hb e => hk' b o (fun q => hb (by rw [q]; simp)) (fun q => hb (by rw [q]; simp)) e))
  | succ k ih =>
    intro i s acc c hk hi Z hS ha hP hR
    have hlt : i < x.cps.size := by omega
    obtain ⟨a1, a2, a3, a4, a5⟩ := Z.apart
    refine codeAny_builtin PySem.F.entry_extend_loop ?_
    rw [Around.under_plainId PySem.F.plain_extend_loop _]
    show wpAny _ A.in1 (pyNext (.ref z) >>= _) _ _ s
    refine wpAny_bind (Z.item (A := A.in1) (show A.in1.in1.handled = none from hh) hS hlt (by omega) fun T v1 v2 h' tk e1 e2 Z' hT hTn hk' => ?_)
    have hS' : h'.get? S = some { cls := .type "list", dict := none, data := .seq acc.toArray c, slots := #[] } := hk' _ _ a1 a3 a4 a5 hS
    have lz : z < s.heap.objs.size := by
      by_cases q : i = 0
      · exact Heap.lt_size (Z.first q)
      · obtain ⟨_, _, _, g, _⟩ := Z.then_ (Nat.pos_of_ne_zero q)
        exact Heap.lt_size g
    have lTO : TO < s.heap.objs.size := by obtain ⟨_, _, e⟩ := Z.to; exact Heap.lt_size e
    have l1 : i1 < s.heap.objs.size := by obtain ⟨_, e, _⟩ := Z.s1; exact Heap.lt_size e
    have l2 : i2 < s.heap.objs.size := by obtain ⟨_, e, _⟩ := Z.s2; exact Heap.lt_size e
    have lS := Heap.lt_size hS
    have nT : T ∉ [S, z, TO, i1, i2] ∧ S < T := by
      rw [← hTn]
      refine ⟨?_, lS⟩
      simp only [List.mem_cons, List.mem_nil_iff, or_false, not_or]
      exact ⟨Nat.ne_of_gt lS, Nat.ne_of_gt lz, Nat.ne_of_gt lTO, Nat.ne_of_gt l1, Nat.ne_of_gt l2⟩
    have k1 : ∀ b o, b ∉ [S, z, TO, i1, i2] → s.heap.get? b = some o → h'.get? b = some o := fun b o hb e => hk' b o (fun q => hb (by rw [q]; simp)) (fun q => hb (by rw [q]; simp)) (fun q => hb (by rw [q]; simp)) (fun q => hb (by rw [q]; simp)) e
    have hfr : ∀ v ∈ acc, v ≠ .ref T := fun v hv e => by
      obtain ⟨j, hj⟩ := List.getElem?_of_mem hv
      obtain ⟨T', _, _, g1, _, _, _, g5⟩ := hP.2 j v hj
      rw [g1] at e
      have e' : T' = T := Value.ref.inj e
      have lt := Heap.lt_size g5
      rw [hTn, e'] at lt
      exact Nat.lt_irrefl _ lt
    have hP2 := (hP.keep k1).push hfr nT (by rw [ha]; exact e1) (by rw [ha]; exact e2) hT
    show wpAny _ A.in1 (updateSeq S (·.push (.ref T)) >>= _) _ _ _
    refine wpAny_bind ?_
    have sb := Heap.SameBut.update h' S (Obj.mapSeq (·.push (.ref T)))
    have k2 : ∀ b o, b ∉ [S, z, TO, i1, i2] → h'.get? b = some o → (h'.update S (Obj.mapSeq (·.push (.ref T)))).get? b = some o := fun b o hb e => sb.extBut b o (fun q => hb (by rw [q]; simp)) e
    refine wpAny_updateSeq hS' rfl (wpAny_pure ⟨plainId_quiet PySem.F.plain_extend_loop _, ih (i + 1) _ (acc ++ [.ref T]) (c + 1) (by omega) hlt (Z'.keep sb) ?_ (by rw [List.length_append, ha]; rfl) (hP2.keep k2) fun h2 tk2 acc' c' m1 m2 m3 m4 => hR h2 tk2 acc' c' (fun b o hb e => m1 b o hb (k2 b o hb (k1 b o hb e))) m2 m3 m4⟩) ?_ ?_
    · have := Heap.get?_update_self (Obj.mapSeq (·.push (.ref T))) hS' rfl
      simpa [Obj.mapSeq] using this
    · rw [List.size_toArray, ha, sizeLine_eq]
      omega
    · rw [Array.size_push, List.size_toArray, ha, sizeLine_eq]
      omega
end
section
variable {prog : Program} {w : World} {A : Around} {s : Shared} {z TI TO i1 i2 S : Addr} {x y : Str} {tx ty : Tok}
theorem zip_extend {R : Result → Shared → Prop} (hh : A.handled = none) (hl : x.cps.size = y.cps.size) (h0 : 0 < x.cps.size) (hz : x.cps.size ≤ 1000) (res : Value) {c₀ : Nat} (Z : ZS s.heap z TI TO i1 i2 S x y tx ty 0) (hS : s.heap.get? S = some { cls := .type "list", data := .seq #[] c₀ })
    (hR : ∀ h' tk acc' c', (∀ c o, c ∉ [S, z, TO, i1, i2] → s.heap.get? c = some o → h'.get? c = some o) → h'.get? S = some { cls := .type "list", dict := none, data := .seq acc'.toArray c', slots := #[] } → acc'.length = x.cps.size → Prs h' [S, z, TO, i1, i2] x y acc' → R (.ok (.ret res)) { s with heap := h', toks := tk }) :
    wpAny (model prog w) A.in1 (Builtin.List.listExtendWith (.ref S) (.ref z) res)
      (fun fin s' => match fin with | .done f => R (.ok f) s' | .again c' => c'.quiet = true ∧ codeAny (model prog w) A c' R s') (fun e s' => R (.error e) s') s := by
  obtain ⟨a1, a2, a3, a4, a5⟩ := Z.apart
  have hT : s.TypeIs (.ref z) "zip" := ⟨_, Z.first rfl, rfl⟩
  unfold Builtin.List.listExtendWith
  refine wpAny_bind (wpAny_typeOf hT ?_)
  have h1 : Builtin.List.listSameRef (.ref S) (.ref z) = false := by simp [Builtin.List.listSameRef, a1]
  have h2 : (Value.type "zip" == Value.type "list") = false := by decide
  have h3 : (Value.type "zip" == Value.type "tuple") = false := by decide
  simp only [h1, h2, h3, Bool.or_false, Bool.false_eq_true, if_false]
  refine wpAny_bind (wpAny_pyIter_zip (Z.first rfl) ?_)
  refine wpAny_bind (wpAny_holding ?_)
  unfold Builtin.List.listLengthHint
  refine wpAny_bind (wpAny_specialOf hT zip_no_len ?_)
  show wpAny _ A.in1 (specialOf (Value.ref z) (Str.ofString "__length_hint__") >>= _) _ _ _
  refine wpAny_bind (wpAny_specialOf hT zip_no_hint ?_)
  refine wpAny_pure ?_
  show wpAny _ A.in1 (rule "list.extend.makes-room" >>= fun _ => Builtin.List.listTouch (.ref S) >>= fun _ =>
    again (.builtin "list.extend.loop" ⟨[.ref S, .ref z, res], []⟩)) _ _ _
  refine wpAny_bind (wpAny_rule ?_)
  refine wpAny_bind ?_
  show wpAny _ A.in1 (updateSeq S (·.push .none) >>= fun _ => updateSeq S (·.pop)) _ _ _
  refine wpAny_bind (wpAny_updateSeq hS rfl ?_)
  have hS₂ := Heap.get?_update_self (Obj.mapSeq (·.push Value.none)) hS rfl
  refine wpAny_updateSeq (hz := by seq_fits) hS₂ rfl ?_
  have hS₃ := Heap.get?_update_self (Obj.mapSeq (·.pop)) hS₂ rfl
  have sb1 := Heap.SameBut.update s.heap S (Obj.mapSeq (·.push Value.none))
  have sb2 := Heap.SameBut.update (s.heap.update S (Obj.mapSeq (·.push Value.none))) S (Obj.mapSeq (·.pop))
  refine wpAny_pure ⟨plainId_quiet PySem.F.plain_extend_loop _, zip_loop hh hl h0 hz res x.cps.size 0 _ [] _ rfl (Nat.zero_le _) ((Z.keep sb1).keep sb2) hS₃ rfl ⟨List.nodup_nil, fun j v e => nomatch e⟩ fun h' tk acc' c' m1 m2 m3 m4 => hR h' tk acc' c' (fun b o hb e => m1 b o hb (sb2.extBut b o (fun q => hb (by rw [q]; simp)) (sb1.extBut b o (fun q => hb (by rw [q]; simp)) e))) m2 m3 m4⟩
theorem zip_init {R : Result → Shared → Prop} (hh : A.handled = none) (hl : x.cps.size = y.cps.size) (h0 : 0 < x.cps.size) (hz : x.cps.size ≤ 1000) (Z : ZS s.heap z TI TO i1 i2 S x y tx ty 0) (hS : s.heap.get? S = some { cls := .type "list", data := .seq #[] })
    (hR : ∀ h' tk acc' c', (∀ c o, c ∉ [S, z, TO, i1, i2] → s.heap.get? c = some o → h'.get? c = some o) → h'.get? S = some { cls := .type "list", dict := none, data := .seq acc'.toArray c', slots := #[] } → acc'.length = x.cps.size → Prs h' [S, z, TO, i1, i2] x y acc' → R (.ok (.ret .none)) { s with heap := h', toks := tk }) :
    wpAny (model prog w) A.in1 (Builtin.«list.__init__» ⟨[.ref S, .ref z], []⟩)
      (fun fin s' => match fin with | .done f => R (.ok f) s' | .again c' => c'.quiet = true ∧ codeAny (model prog w) A c' R s') (fun e s' => R (.error e) s') s := by
  show wpAny _ A.in1 (do let old ← Builtin.List.listItems (.ref S); Builtin.List.listUpdate (.ref S) (fun _ => #[]); letGo old.toList.reverse; Builtin.List.listExtendWith (.ref S) (.ref z) .none) _ _ s
  refine wpAny_bind ?_
  unfold Builtin.List.listItems
  refine wpAny_bind (wpAny_seqItems hS rfl (wpAny_pure ?_))
  show wpAny _ A.in1 (updateSeq S (fun _ => #[]) >>= fun _ => letGo (#[] : Array Value).toList.reverse >>= fun _ => Builtin.List.listExtendWith (.ref S) (.ref z) .none) _ _ s
  refine wpAny_bind (wpAny_updateSeq hS rfl ?_)
  have hS₂ := Heap.get?_update_self (Obj.mapSeq (fun _ => (#[] : Array Value))) hS rfl
  have sb := Heap.SameBut.update s.heap S (Obj.mapSeq (fun _ => (#[] : Array Value)))
  refine wpAny_bind (wpAny_letGo ?_)
  exact zip_extend hh hl h0 hz .none (Z.keep sb) hS₂ fun h' tk acc' c' m1 m2 m3 m4 => hR h' tk acc' c' (fun b o hb e => m1 b o hb (sb.extBut b o (fun q => hb (by rw [q]; simp)) e)) m2 m3 m4
end
section
variable {prog : Program} {w : World} {A : Around} {E : Value → Shared → Prop} {s : Shared} {z TI TO i1 i2 : Addr} {x y : Str} {tx ty : Tok}
theorem call_list_zip {Q : Value → Shared → Prop} (hh : A.handled = none) (hl : x.cps.size = y.cps.size) (h0 : 0 < x.cps.size) (hz : x.cps.size ≤ 1000) (Z : ZS (s.heap.push { cls := .type "list", data := .seq #[] }) z TI TO i1 i2 s.heap.objs.size x y tx ty 0)
    (hQ : ∀ h' tk acc' c', (∀ c o, c ∉ [s.heap.objs.size, z, TO, i1, i2] → s.heap.get? c = some o → h'.get? c = some o) → h'.get? s.heap.objs.size = some { cls := .type "list", dict := none, data := .seq acc'.toArray c', slots := #[] } → acc'.length = x.cps.size → Prs h' [s.heap.objs.size, z, TO, i1, i2] x y acc' → Q (.ref s.heap.objs.size) { s with heap := h', toks := tk }) :
    wpAny (model prog w) A (call (.type "list") [.ref z]) Q E s := by
  refine callType_codes (Q₁ := fun obj s₁ => obj = .ref s.heap.objs.size ∧ s₁ = { s with heap := s.heap.push { cls := .type "list", data := .seq #[] } }) F.called_list (F.typeCall_list_1 _) PySem.F.entry_list_init
    (code_list_new _ ⟨rfl, rfl⟩) fun obj s₁ h₁ => ?_
  obtain ⟨rfl, rfl⟩ := h₁
  have hS : (s.heap.push { cls := .type "list", data := .seq #[] }).get? s.heap.objs.size = some { cls := .type "list", data := .seq #[] } := Heap.get?_push_size _ rfl
  refine ⟨⟨_, hS, rfl⟩, PySem.F.args_list_init_2 _ _, zip_init (A := A.in1) (show A.in1.handled = none from hh) hl h0 hz Z hS fun h' tk acc' c' m1 m2 m3 m4 => ?_⟩
  exact ⟨rfl, hQ h' tk acc' c' (fun b o hb e => m1 b o hb (Heap.get?_push_of_some _ e)) m2 m3 m4⟩
end
/-! ### zip(text, text) -/
abbrev zsH1 (h : Heap) (x : Str) (t : Tok) : Heap := h.push { cls := .type "str_ascii_iterator", data := .fields #[.str x t, .int 0 0] }
abbrev zsH2 (h : Heap) (x : Str) (t : Tok) (y : Str) (u : Tok) : Heap := (zsH1 h x t).push { cls := .type "str_ascii_iterator", data := .fields #[.str y u, .int 0 0] }
abbrev zsH3 (h : Heap) (x : Str) (t : Tok) (y : Str) (u : Tok) : Heap := (zsH2 h x t y u).push { cls := .type "tuple", data := .seq #[.ref h.objs.size, .ref (zsH1 h x t).objs.size] }
abbrev zsH4 (h : Heap) (x : Str) (t : Tok) (y : Str) (u : Tok) : Heap := (zsH3 h x t y u).push { cls := .type "tuple", data := .seq #[.none, .none] }
abbrev zsH5 (h : Heap) (x : Str) (t : Tok) (y : Str) (u : Tok) : Heap := (zsH4 h x t y u).push { cls := .type "zip", data := .fields #[.none, .bool false, .bool false, .ref (zsH2 h x t y u).objs.size, .ref (zsH3 h x t y u).objs.size] }
theorem meets_zip_newS (x y : Str) (t u : Tok) (hx : x.cps.all (· < 128) = true) (hy : y.cps.all (· < 128) = true) :
    Meets (Builtin.«zip.__new__» ⟨[.type "zip", .str x t, .str y u], []⟩) (fun _ R s =>
      R (.ok (.ret (.ref (zsH4 s.heap x t y u).objs.size))) { s with heap := zsH5 s.heap x t y u }) :=
  .of_wp fun prog w A R s h => by
    obtain ⟨hp, g, d, tk, os⟩ := s
    have hsub := sub_zip
    wp_walk using wpAny_pyIter_ascii hx, wpAny_pyIter_ascii hy
    exact ⟨_, rfl, h⟩
section
variable {prog : Program} {w : World} {A : Around} {E : Value → Shared → Prop} {s : Shared}
theorem call_zipS {x y : Str} {t u : Tok} {Q : Value → Shared → Prop} (hx : x.cps.all (· < 128) = true) (hy : y.cps.all (· < 128) = true)
    (h : ∀ h', IsZip h' (s.heap.objs.size + 4) (s.heap.objs.size + 2) (s.heap.objs.size + 3) .none → IsTupOf2 h' (s.heap.objs.size + 2) (.ref s.heap.objs.size) (.ref (s.heap.objs.size + 1)) →
      IsTupOf2 h' (s.heap.objs.size + 3) .none .none → h'.IsStrIter s.heap.objs.size "str_ascii_iterator" x t 0 → h'.IsStrIter (s.heap.objs.size + 1) "str_ascii_iterator" y u 0 → h'.objs.size = s.heap.objs.size + 5 →
      (∀ c o, s.heap.get? c = some o → h'.get? c = some o) → Q (.ref (s.heap.objs.size + 4)) { s with heap := h' }) :
    wpAny (model prog w) A (call (.type "zip") [.str x t, .str y u]) Q E s := by
  refine callType_new PySem.F.called_zip (by decide) (PySem.F.typeCall_zip_2 _ _) (PySem.F.newCall_zip_2 _ _) (fun obj => PySem.F.args_object_init_3 obj _ _) PySem.F.entry_zip_new
    (meets_zip_newS x y t u hx hy) ?_
  have z1 : (zsH1 s.heap x t).objs.size = s.heap.objs.size + 1 := Heap.size_push ..
  have z2 : (zsH2 s.heap x t y u).objs.size = s.heap.objs.size + 2 := by rw [Heap.size_push, z1]
  have z3 : (zsH3 s.heap x t y u).objs.size = s.heap.objs.size + 3 := by rw [Heap.size_push, z2]
  have z4 : (zsH4 s.heap x t y u).objs.size = s.heap.objs.size + 4 := by rw [Heap.size_push, z3]
  have z5 : (zsH5 s.heap x t y u).objs.size = s.heap.objs.size + 5 := by rw [Heap.size_push, z4]
  have g5 : (zsH5 s.heap x t y u).get? (zsH4 s.heap x t y u).objs.size = some _ := Heap.get?_push_size _ rfl
  have g4 : (zsH5 s.heap x t y u).get? (zsH3 s.heap x t y u).objs.size = some _ := Heap.get?_push_of_some _ (Heap.get?_push_size _ rfl)
  have g3 : (zsH5 s.heap x t y u).get? (zsH2 s.heap x t y u).objs.size = some _ := Heap.get?_push_of_some _ (Heap.get?_push_of_some _ (Heap.get?_push_size _ rfl))
  have g2 : (zsH5 s.heap x t y u).get? (zsH1 s.heap x t).objs.size = some _ := Heap.get?_push_of_some _ (Heap.get?_push_of_some _ (Heap.get?_push_of_some _ (Heap.get?_push_size _ rfl)))
  have g1 : (zsH5 s.heap x t y u).get? s.heap.objs.size = some _ := Heap.get?_push_of_some _ (Heap.get?_push_of_some _ (Heap.get?_push_of_some _ (Heap.get?_push_of_some _ (Heap.get?_push_size _ rfl))))
  show _ ∧ _
  rw [z2, z3, z4] at g5
  rw [z1, z2] at g3
  rw [z3] at g4
  rw [z1] at g2
  rw [z4]
  exact ⟨⟨_, g5, rfl⟩, h _ g5 g3 g4 ⟨_, g1, rfl, rfl⟩ ⟨_, g2, rfl, rfl⟩ z5 fun c o x =>
    Heap.get?_push_of_some _ (Heap.get?_push_of_some _ (Heap.get?_push_of_some _ (Heap.get?_push_of_some _ (Heap.get?_push_of_some _ x))))⟩
end
end NL
set_option maxHeartbeats 4000000
/-! rules on the hand layer that the library lacks: list(zip(text, text)) as a rule -/
namespace NL
open PySem PySem.Spec PyProof.Rows L2
/-! ### tracked -/
def signs (x : Str) : List V := x.cps.toList.map fun c => V.str ⟨#[c]⟩
/-- new tuples, tracked -/
theorem take_all {X : Cx} {pins : List (Addr × Obj)} {σ : L2.St} {x y : Str} : ∀ (acc : List Value) (off : Nat) (H : Hp) (s : Shared), L2.Inv X pins σ H s → acc.Nodup →
    (∀ (j : Nat) v, acc[j]? = some v → ∃ T v1 v2, v = .ref T ∧ atC x (off + j) v1 ∧ atC y (off + j) v2 ∧ IsTupOf2 s.heap T v1 v2 ∧ ∀ H' : Hp, H' T = none → FpOk X pins H' T) → (∀ v ∈ acc, ∀ T, v = .ref T → H T = none) →
    ∃ H' : Hp, L2.Inv X pins σ H' s ∧ (∀ a, Value.ref a ∉ acc → H' a = H a) ∧
      ∀ (j : Nat) v, acc[j]? = some v → ∃ T, v = .ref T ∧ ∃ c d, x.cps[off + j]? = some c ∧ y.cps[off + j]? = some d ∧ H' T = some (.tup [V.str ⟨#[c]⟩, V.str ⟨#[d]⟩])
  | [], off, H, s, I, _, hp, hn => ⟨H, I, fun _ _ => rfl, fun j v e => nomatch e⟩
  | v :: acc, off, H, s, I, nd, hp, hn => by
    obtain ⟨T, v1, v2, rfl, ⟨c, u1, c1, rfl⟩, ⟨d, u2, c2, rfl⟩, hT, hf⟩ := hp 0 v rfl
    have h0 : H T = none := hn _ List.mem_cons_self T rfl
    have I1 : L2.Inv X pins σ (upd H T (.tup [V.str ⟨#[c]⟩, V.str ⟨#[d]⟩])) s := I.take (h' := s.heap) (t' := s.toks) (fun _ _ _ e => e) (hf H h0) ⟨by show 2 ≤ sizeLine; decide, _, .cons ⟨u1, rfl⟩ (.cons ⟨u2, rfl⟩ .nil), _, hT, rfl, _, rfl⟩
    have nT : Value.ref T ∉ acc := (List.nodup_cons.mp nd).1
    obtain ⟨H', I', k', p'⟩ := take_all acc (off + 1) _ s I1 (List.nodup_cons.mp nd).2 (fun j v e => by
      have z := hp (j + 1) v e
      rw [show off + (j + 1) = off + 1 + j by omega] at z
      exact z) (fun v hv T' e => by
      rw [upd_ne (fun q => nT (by rw [← q, ← e]; exact hv))]
      exact hn v (List.mem_cons_of_mem _ hv) T' e)
    refine ⟨H', I', fun a ha => ?_, fun j v e => ?_⟩
    · rw [k' a (fun q => ha (List.mem_cons_of_mem _ q)), upd_ne (fun q => ha (by rw [q]; exact List.mem_cons_self))]
    · cases j with
      | zero =>
        cases e
        exact ⟨T, rfl, c, d, c1, c2, by rw [k' T nT, upd_same]⟩
      | succ j =>
        have z := p' j v e
        rw [show off + 1 + j = off + (j + 1) by omega] at z
        exact z
theorem refs_of : ∀ {acc : List Value}, (∀ v ∈ acc, ∃ T, v = Value.ref T) → ∃ Ts : List Addr, acc = Ts.map Value.ref
  | [], _ => ⟨[], rfl⟩
  | v :: acc, all => by
    obtain ⟨T, rfl⟩ := all v List.mem_cons_self
    obtain ⟨Ts, e⟩ := refs_of (acc := acc) fun u hu => all u (List.mem_cons_of_mem _ hu)
    exact ⟨T :: Ts, by rw [e] <;> rfl⟩
theorem vals_refs : ∀ Ts : List Addr, Vals (Ts.map V.ref) (Ts.map Value.ref)
  | [] => .nil
  | T :: Ts => .cons rfl (vals_refs Ts)
/-- list(zip(a, b)), two texts of the same length -/
def tListZip (ta tb : TE) : TE := fun σ H Q => ta σ H fun v H1 => tb σ H1 fun u H2 => ∃ x y : Str, v = .str x ∧ u = .str y ∧ x.cps.all (· < 128) = true ∧ y.cps.all (· < 128) = true ∧ x.cps.size = y.cps.size ∧ 0 < x.cps.size ∧ x.cps.size ≤ 1000 ∧
  ∀ (l : Addr) (Ts : List Addr) (H' : Hp), H2 l = none → (∀ T ∈ Ts, H2 T = none ∧ T ≠ l) → (∀ a, a ∉ Ts → H' a = H2 a) → Ts.length = x.cps.size →
    (∀ (j : Nat) T, Ts[j]? = some T → ∃ c d, x.cps[j]? = some c ∧ y.cps[j]? = some d ∧ H' T = some (.tup [V.str ⟨#[c]⟩, V.str ⟨#[d]⟩])) → Q (.ref l) (upd H' l (.lst (Ts.map V.ref)))
section
variable {X : Cx} {a b : Expr} {ta tb : TE} {p1 p2 q pos : Pos}
theorem pe_listZip (hc : X.calm = true) (hg : Gl X "list") (hm : X.mg "list" = none) (hg2 : Gl X "zip") (hm2 : X.mg "zip" = none) (ha : PE X a ta) (hb : PE X b tb)
    (na : starEach [a, b] X.env = (false, eval a X.env) :: starEach [b] X.env := by rfl) (nb : starEach [b] X.env = (false, eval b X.env) :: starEach [] X.env := by rfl) (hpl : (backTo q (starEach [b] X.env)).any (·.1) = false := by rfl)
    (ne : starEach [.Call (.Name "zip" p2) [a, b] [] q] X.env = (false, eval (.Call (.Name "zip" p2) [a, b] [] q) X.env) :: starEach [] X.env := by rfl) :
    PE X (.Call (.Name "list" p1) [.Call (.Name "zip" p2) [a, b] [] q] [] pos) (tListZip ta tb) := by
  refine ⟨fun pins s σ H Q I h => ?_⟩
  refine Call_ (ld_blt I hg hm boot_list (PyProof.Rows.callWith_type1 (args_cons ?_ ne) ne))
  refine Call_ (ld_blt I hg2 hm2 rfl (PyProof.Rows.callWith_type1 (args_cons (thn (ha.run pins s σ H _ I h) fun v s1 ⟨xv, H1, I1, r1, q1⟩ => one_arg hb I1 q1 (fun u s2 yv H2 I2 r2 q2 => ?_) nb) na) na hpl))
  obtain ⟨x, y, rfl, rfl, hx, hy, hl, h0, hz, q2⟩ := q2
  obtain ⟨tx, rfl⟩ := r1
  obtain ⟨ty, rfl⟩ := r2
  have hd : X.A.handled = none := I2.ok.hd hc
  refine call_zipS hx hy fun h' hz' hTI hTO s1' s2' hsz hk => ?_
  refine args_nil ?_
  generalize hn : s2.heap.objs.size = n at hz' hTI hTO s1' s2' hsz
  have ndiff : ∀ {i j : Nat}, i ≠ j → n + i ≠ n + j := fun h => by omega
  refine call_list_zip (A := X.A) (z := n + 4) (TI := n + 2) (TO := n + 3) (i1 := n) (i2 := n + 1) (tx := tx) (ty := ty) hd hl h0 hz ?_ ?_
  · have hs : ({ s2 with heap := h' } : Shared).heap.objs.size = n + 5 := hsz
    rw [hs]
    have ne1 : ∀ (i : Nat), n ≠ n + (i + 1) := fun i h => by omega
    refine ⟨fun _ => Heap.get?_push_of_some _ hz', fun h => absurd h (Nat.lt_irrefl 0), Heap.get?_push_of_some _ hTI, ⟨_, _, Heap.get?_push_of_some _ hTO⟩, ?_, ?_, ?_, ?_⟩
    · obtain ⟨o, ho, r⟩ := s1'
      exact ⟨o, Heap.get?_push_of_some _ ho, r⟩
    · obtain ⟨o, ho, r⟩ := s2'
      exact ⟨o, Heap.get?_push_of_some _ ho, r⟩
    · exact ⟨ndiff (by decide), ndiff (by decide), ndiff (by decide), (ne1 1).symm, List.mem_singleton.mpr rfl, fun h => (ne1 3).symm (List.mem_singleton.mp h), fun h => (ne1 2).symm (List.mem_singleton.mp h), ndiff (by decide), List.mem_singleton.mpr rfl,
        fun h => ndiff (by decide) (List.mem_singleton.mp h), fun h => ndiff (by decide) (List.mem_singleton.mp h), fun h => ne1 0 (List.mem_singleton.mp h), fun h => (ne1 0).symm (List.mem_singleton.mp h)⟩
    · exact ⟨ndiff (by decide), ndiff (by decide), ndiff (by decide), (ne1 4).symm, ndiff (by decide)⟩
  · intro h2 tk acc c' hk2 hS2 hlen hP
    have hs : ({ s2 with heap := h' } : Shared).heap.objs.size = n + 5 := hsz
    rw [hs] at hk2 hS2 hP ⊢
    have k2 : ∀ b u, s2.heap.get? b = some u → h2.get? b = some u := fun b u e => by
      have lt := Heap.lt_size e
      rw [hn] at lt
      refine hk2 b u ?_ (hk b u e)
      have lt' : (b : Nat) < n := lt
      have nb : ∀ i : Nat, b ≠ n + i := fun i => Nat.ne_of_lt (Nat.lt_of_lt_of_le lt' (Nat.le_add_right n i))
      simp only [List.mem_cons, List.mem_nil_iff, or_false, not_or]
      exact ⟨nb 5, nb 4, nb 3, nb 0, nb 1⟩
    have I3 : L2.Inv X pins σ H2 { s2 with heap := h2, toks := tk } := I2.kept (t' := tk) k2
    have big : ∀ {T : Addr}, n + 5 < T → s2.heap.objs.size ≤ T := fun {T} h => by
      rw [hn]
      exact Nat.le_trans (Nat.le_add_right n 5) (Nat.le_of_lt h)
    obtain ⟨H', I4, k4, p4⟩ := take_all (x := x) (y := y) acc 0 H2 _ I3 hP.1 (fun j v e => by
      obtain ⟨T, v1, v2, g1, g2, g3, g4, g5⟩ := hP.2 j v e
      rw [Nat.zero_add]
      exact ⟨T, v1, v2, g1, g3, g4, g5, fun H' hH => I2.fpOk (big g2.2) hH⟩) (fun v hv T e => by
      obtain ⟨j, hj⟩ := List.getElem?_of_mem hv
      obtain ⟨T', _, _, g1, g2, _⟩ := hP.2 j v hj
      rw [e] at g1
      cases g1
      exact I2.hok.fresh (big g2.2))
    obtain ⟨Ts, hTs⟩ : ∃ Ts : List Addr, acc = Ts.map Value.ref := by
      have all : ∀ v ∈ acc, ∃ T, v = Value.ref T := fun v hv => by
        obtain ⟨j, hj⟩ := List.getElem?_of_mem hv
        obtain ⟨T, _, _, g1, _⟩ := hP.2 j v hj
        exact ⟨T, g1⟩
      exact refs_of all
    subst hTs
    rw [List.length_map] at hlen
    have nl : ∀ T ∈ Ts, H2 T = none ∧ T ≠ n + 5 := fun T hT => by
      obtain ⟨j, hj⟩ := List.getElem?_of_mem (List.mem_map_of_mem (f := Value.ref) hT)
      obtain ⟨T', _, _, g1, g2, _⟩ := hP.2 j _ hj
      cases g1
      exact ⟨I2.hok.fresh (big g2.2), Nat.ne_of_gt g2.2⟩
    have hl2 : H2 (n + 5) = none := I2.hok.fresh (by rw [hn]; exact Nat.le_add_right n 5)
    have hl4 : H' (n + 5) = none := by
      rw [k4 (n + 5) (fun h => ?_)]
      · exact hl2
      · obtain ⟨T, hT, e⟩ := List.mem_map.mp h
        exact (nl T hT).2 (Value.ref.inj e)
    have I5 : L2.Inv X pins σ (upd H' (n + 5) (.lst (Ts.map V.ref))) { s2 with heap := h2, toks := tk } := I4.take (h' := h2) (t' := tk) (fun _ _ _ e => e) (I2.fpOk (by rw [hn]; exact Nat.le_add_right n 5) hl4) ⟨by rw [List.length_map, hlen, sizeLine_eq]; omega, Ts.map Value.ref, c', ?_, hS2⟩
    · exact ⟨.ref (n + 5), _, I5, rfl, q2 (n + 5) Ts H' hl2 nl (fun a ha => k4 a fun h => by
        obtain ⟨T, hT, e⟩ := List.mem_map.mp h
        exact ha (by rw [← Value.ref.inj e]; exact hT)) hlen fun j T hj => by
        obtain ⟨T', g1, c, d, g2, g3, g4⟩ := p4 j (.ref T) (by rw [List.getElem?_map, hj] <;> rfl)
        cases g1
        rw [Nat.zero_add] at g2 g3
        exact ⟨c, d, g2, g3, g4⟩⟩
    · exact vals_refs Ts
end
end NL
set_option maxHeartbeats 4000000
/-! rules on the hand layer that the library lacks: a dict comprehension of two clauses; turned from the worked proofs of HandS.Comp and HandS.DictComp -/
namespace NL
open PySem PySem.Spec PyProof.Rows L2
theorem compTurnD2_out (kx vx t0 i0 t1 i1 : Expr) (ifs0 ifs1 : List Expr) (scope : Scope) (pos : Pos) (it : Value) (D : Addr) (env : Env) :
    compTurn (.DictComp kx vx [⟨t0, i0, ifs0, 0⟩, ⟨t1, i1, ifs1, 0⟩] scope pos) 0 it (.ref D) env = (do
      standAt i0.pos
      match ← pyNext it with
      | none => pure (.done .next)
      | some v =>
        letOwnedTupleGo t0 it v
        assign t0 env v
        let mut ok := true
        for c in ifs0 do
          if ok then ok ← isTrue c env (eval c env)
        if ok then
          let x ← eval i1 env
          standAt i1.pos
          let x ← foldedSetIterable i1 env x
          let _ ← runOwn (.compStart (.DictComp kx vx [⟨t0, i0, ifs0, 0⟩, ⟨t1, i1, ifs1, 0⟩] scope pos) 1 (← holding [x] (pyIter x)) (.ref D) env) env
        again (.compLoop (.DictComp kx vx [⟨t0, i0, ifs0, 0⟩, ⟨t1, i1, ifs1, 0⟩] scope pos) 0 it (.ref D) env)) := by rfl
theorem compTurnD2_in (kx vx t0 i0 t1 i1 : Expr) (ifs0 ifs1 : List Expr) (scope : Scope) (pos : Pos) (it : Value) (D : Addr) (env : Env) :
    compTurn (.DictComp kx vx [⟨t0, i0, ifs0, 0⟩, ⟨t1, i1, ifs1, 0⟩] scope pos) 1 it (.ref D) env = (do
      standAt i1.pos
      match ← pyNext it with
      | none => pure (.done .next)
      | some v =>
        letOwnedTupleGo t1 it v
        assign t1 env v
        let mut ok := true
        for c in ifs1 do
          if ok then ok ← isTrue c env (eval c env)
        if ok then
          (do
            let kv ← eval kx env
            let vv ← holding [kv] (eval vx env)
            standAt { kx.pos with endLine := vx.pos.endLine, endCol := vx.pos.endCol }
            holding [kv, vv] (dictSet D kv vv))
        again (.compLoop (.DictComp kx vx [⟨t0, i0, ifs0, 0⟩, ⟨t1, i1, ifs1, 0⟩] scope pos) 1 it (.ref D) env)) := by rfl

section
variable {prog : Program} {w : World} {A : Around} {R : Result → Shared → Prop} {s : Shared} {kx vx t0 i0 t1 i1 : Expr} {ifs0 ifs1 : List Expr} {scope : Scope} {pos : Pos} {it : Value} {D : Addr} {env : Env}
/-- the loop of the first clause -/
theorem compLoopD2_out (hs : ∀ x, foldedSetIterable i1 env x = pure x) (I : Nat → Shared → Prop)
    (turn : ∀ n s, I n s → wpAny (model prog w) A (pyNext it) (fun r s₁ => match r with
      | none => R (.ok .next) s₁
      | some v => wpAny (model prog w) A (letOwnedTupleGo t0 it v) (fun _ s₁' => wpAny (model prog w) A (assign t0 env v) (fun _ s₂ =>
          wpAny (model prog w) A (forIn ifs0 true fun c r => if r = true then do let ok ← isTrue c env (eval c env); pure (ForInStep.yield ok) else pure (ForInStep.yield r)) (fun ok s₃ =>
            if ok = true then wpAny (model prog w) A (eval i1 env) (fun x s₄ => wpAny (model prog w) A (pyIter x) (fun it1 s₅ =>
              codeAny (model prog w) A (.compStart (.DictComp kx vx [⟨t0, i0, ifs0, 0⟩, ⟨t1, i1, ifs1, 0⟩] scope pos) 1 it1 (.ref D) env) (fun r s' => match r with
                | .ok _ => ∃ m, m < n ∧ I m s'
                | .error _ => False) s₅) (notedBy (model prog w) A env fun e s' => R (.error e) s') s₄) (notedBy (model prog w) A env fun e s' => R (.error e) s') s₃
            else ∃ m, m < n ∧ I m s₃) (notedBy (model prog w) A env fun e s' => R (.error e) s') s₂) (notedBy (model prog w) A env fun e s' => R (.error e) s') s₁') (notedBy (model prog w) A env fun e s' => R (.error e) s') s₁) (notedBy (model prog w) A env fun e s' => R (.error e) s') s)
    (n : Nat) (h : I n s) :
    codeAny (model prog w) A (.compLoop (.DictComp kx vx [⟨t0, i0, ifs0, 0⟩, ⟨t1, i1, ifs1, 0⟩] scope pos) 0 it (.ref D) env) R s := by
  refine codeAny_loop rfl I (fun n s hI => ?_) n h
  show wpAny _ A ((compTurn (.DictComp kx vx [⟨t0, i0, ifs0, 0⟩, ⟨t1, i1, ifs1, 0⟩] scope pos) 0 it (.ref D) env).onRaise (fun x => do noteFrame x env; theTreesLotGoes x)) _ _ s
  refine wpAny_noted ?_
  rw [compTurnD2_out]
  refine wpAny_bind (wpAny_standAt (wpAny_bind (wpAny_mono (turn n s hI) (fun r s₁ h₁ => ?_) fun _ _ h' => h')))
  cases r with
  | none => exact wpAny_pure h₁
  | some v =>
    refine wpAny_bind (wpAny_mono h₁ (fun _ s₁' h₁' => ?_) fun _ _ h' => h')
    refine wpAny_bind (wpAny_mono h₁' (fun _ s₂ h₂ => wpAny_bind (wpAny_mono h₂ (fun ok s₃ h₃ => ?_) fun _ _ h' => h')) fun _ _ h' => h')
    cases ok with
    | false => exact wpAny_pure ⟨rfl, h₃⟩
    | true =>
      refine wpAny_bind (wpAny_mono h₃ (fun x s₄ h₄ => ?_) fun _ _ h' => h')
      refine wpAny_bind (wpAny_standAt (wpAny_bind (wpAny_of_eq (hs x) (wpAny_bind (wpAny_holding (wpAny_mono h₄ (fun it1 s₅ h₅ => ?_) fun _ _ h' => h'))))))
      refine wpAny_bind (wpAny_runOwn ?_)
      rw [Around.mark_none]
      refine codeAny_mono h₅ fun r s' hr => ?_
      cases r with
      | ok f =>
        first
          | exact wpAny_pure ⟨rfl, hr⟩
          | exact wpAny_bind (wpAny_pure (wpAny_pure ⟨rfl, hr⟩))
      | error e => exact hr.elim
/-- the loop of the second -/
theorem compLoopD2_in (I : Nat → Shared → Prop)
    (turn : ∀ n s, I n s → wpAny (model prog w) A (pyNext it) (fun r s₁ => match r with
      | none => R (.ok .next) s₁
      | some v => wpAny (model prog w) A (letOwnedTupleGo t1 it v) (fun _ s₁' => wpAny (model prog w) A (assign t1 env v) (fun _ s₂ =>
          wpAny (model prog w) A (forIn ifs1 true fun c r => if r = true then do let ok ← isTrue c env (eval c env); pure (ForInStep.yield ok) else pure (ForInStep.yield r)) (fun ok s₃ =>
            if ok = true then wpAny (model prog w) A (eval kx env) (fun kv s₄ => wpAny (model prog w) A (eval vx env) (fun vv s₅ =>
              wpAny (model prog w) A (dictSet D kv vv) (fun _ s₆ => ∃ m, m < n ∧ I m s₆) (notedBy (model prog w) A env fun e s' => R (.error e) s') s₅) (notedBy (model prog w) A env fun e s' => R (.error e) s') s₄) (notedBy (model prog w) A env fun e s' => R (.error e) s') s₃
            else ∃ m, m < n ∧ I m s₃) (notedBy (model prog w) A env fun e s' => R (.error e) s') s₂) (notedBy (model prog w) A env fun e s' => R (.error e) s') s₁') (notedBy (model prog w) A env fun e s' => R (.error e) s') s₁) (notedBy (model prog w) A env fun e s' => R (.error e) s') s)
    (n : Nat) (h : I n s) :
    codeAny (model prog w) A (.compLoop (.DictComp kx vx [⟨t0, i0, ifs0, 0⟩, ⟨t1, i1, ifs1, 0⟩] scope pos) 1 it (.ref D) env) R s := by
  refine codeAny_loop rfl I (fun n s hI => ?_) n h
  show wpAny _ A ((compTurn (.DictComp kx vx [⟨t0, i0, ifs0, 0⟩, ⟨t1, i1, ifs1, 0⟩] scope pos) 1 it (.ref D) env).onRaise (fun x => do noteFrame x env; theTreesLotGoes x)) _ _ s
  refine wpAny_noted ?_
  rw [compTurnD2_in]
  refine wpAny_bind (wpAny_standAt (wpAny_bind (wpAny_mono (turn n s hI) (fun r s₁ h₁ => ?_) fun _ _ h' => h')))
  cases r with
  | none => exact wpAny_pure h₁
  | some v =>
    refine wpAny_bind (wpAny_mono h₁ (fun _ s₁' h₁' => ?_) fun _ _ h' => h')
    refine wpAny_bind (wpAny_mono h₁' (fun _ s₂ h₂ => wpAny_bind (wpAny_mono h₂ (fun ok s₃ h₃ => ?_) fun _ _ h' => h')) fun _ _ h' => h')
    cases ok with
    | false => exact wpAny_pure ⟨rfl, h₃⟩
    | true =>
      exact wpAny_bind (wpAny_bind (wpAny_mono h₃ (fun kv s₄ h₄ => wpAny_bind (wpAny_holding (wpAny_mono h₄ (fun vv s₅ h₅ => wpAny_bind (wpAny_standAt (wpAny_holding (wpAny_mono h₅ (fun _ s₆ h₆ => wpAny_pure ⟨rfl, h₆⟩) fun _ _ h' => h')))) fun _ _ h' => h'))) fun _ _ h' => h'))
/-- the second clause's start -/
theorem compStartD1_ok (h0 : codeAny (model prog w) A (.compLoop (.DictComp kx vx [⟨t0, i0, ifs0, 0⟩, ⟨t1, i1, ifs1, 0⟩] scope pos) 1 it (.ref D) env) R s)
    (h : wpAny (model prog w) A (pyIter it) (fun it' s' => codeAny (model prog w) A (.compLoop (.DictComp kx vx [⟨t0, i0, ifs0, 0⟩, ⟨t1, i1, ifs1, 0⟩] scope pos) 1 it' (.ref D) env) R s')
      (notedBy (model prog w) A env fun x s' => R (.error x) s') s) :
    codeAny (model prog w) A (.compStart (.DictComp kx vx [⟨t0, i0, ifs0, 0⟩, ⟨t1, i1, ifs1, 0⟩] scope pos) 1 it (.ref D) env) R s := by
  refine codeAny_of_tree ?_
  show wpAny _ _ ((compStart (.DictComp kx vx [⟨t0, i0, ifs0, 0⟩, ⟨t1, i1, ifs1, 0⟩] scope pos) 1 it (.ref D) env).onRaise (fun x => do noteFrame x env; standAt theWindowsPlace)) _ _ s
  refine wpAny_notedAt ?_
  unfold compStart
  show wpAny _ _ (ask >>= _) _ _ s
  refine wpAny_bind (wpAny_askSetting (wpAny_ite ?_))
  split
  · first
      | exact wpAny_bind (wpAny_pure (wpAny_pure (And.intro rfl h0)))
      | exact wpAny_pure (And.intro rfl h0)
  · first
      | exact wpAny_bind (wpAny_rule (wpAny_bind (wpAny_standAt (wpAny_bind (wpAny_mono h (fun it' s' h' => wpAny_pure (And.intro rfl h')) fun _ _ x => x)))))
      | (refine wpAny_bind (wpAny_rule ?_); show wpAny _ _ (standAt i1.pos >>= _) _ _ s; exact wpAny_bind (wpAny_standAt (wpAny_bind (wpAny_mono h (fun it' s' h' => wpAny_pure (And.intro rfl h')) fun _ _ x => x))))
end

section
variable {X : Cx}
/-- [elt for tg in iter if .. for tg1 in iter1 if ..]: behind the first clause's store and tests the second source's own loop, from which Nx is reached. vs: the block's names; vs1: those of the second target -/
def tDc2 (wi : TI) (g : TG) (tt : TT) (wi1 : TI) (g1 : TG) (tt1 : TT) (tk tv : TE) (vs vs1 : List Nat) : TE := fun σ H Q => wi σ H fun J H1 => ∀ D, H1 D = none → ∃ W : Nat → Nat → Hp → Prop, (∃ m, W 0 m (upd H1 D (.dK []))) ∧ ∀ i m H, W i m H →
  (J.stop i H ∧ Q (.ref D) H) ∨ (J.go i H ∧ ∃ Nx : Hp → Prop, (∀ H', Nx H' → ∃ m', m' < m ∧ W (i + 1) m' H') ∧ ∀ x H', J.yld i H x H' → g x (wipe σ vs) H' fun σ2 H2 => wipe σ2 vs = wipe σ vs ∧ tt σ2 H2 fun b H3 =>
    if b = true then wi1 σ2 H3 fun J1 H4 => ∃ W1 : Nat → Nat → Hp → Prop, (∃ m, W1 0 m H4) ∧ ∀ j k H, W1 j k H →
      (J1.stop j H ∧ Nx H) ∨ (J1.go j H ∧ ∃ Nx1 : Hp → Prop, (∀ H', Nx1 H' → ∃ k', k' < k ∧ W1 (j + 1) k' H') ∧ ∀ x H', J1.yld j H x H' → g1 x (wipe σ2 vs1) H' fun σ3 H5 => wipe σ3 vs1 = wipe σ2 vs1 ∧ tt1 σ3 H5 fun b H6 =>
        if b = true then tk σ3 H6 fun y H7 => tv σ3 H7 fun z H8 => ∃ kvs k, y = kV k ∧ H8 D = some (.dK kvs) ∧ kvs.length < sizeLine ∧ Nx1 (upd H8 D (.dK (putK kvs k z))) else Nx1 H6)
    else Nx H3)
theorem dc2_core {pins : List (Addr × Obj)} {s : Shared} {σ : L2.St} {H : Hp} {Q : VK} {kx vx tg iter tg1 iter1 : Expr} {ifs ifs1 : List Expr} {scope : Scope} {own : List (Str × Nat)} {vs1 : List Nat} {pos pos' : Pos} {wi wi1 : TI} {g g1 : TG} {tt tt1 : TT} {tk tv : TE} {use : Option (Value → Sem Unit)} {Qf : Value → Shared → Prop}
    (hc : X.calm = true) (hN : X.N.Nodup) (I : Inv X pins σ H s) (hi : PI X tg iter wi) (ok : BlkOk X.N X.env.scope scope own) (hv : ∀ i ∈ vs1, i ∈ own.map (·.2))
    (hg : ∀ (s : Shared) (H : Hp) (C : Addr) (cl : List (Str × Addr)) (fp : List Addr), PG (X.blk s H scope (compEnvC scope cl C X.env) fp) tg g) (ht : ∀ (s : Shared) (H : Hp) (C : Addr) (cl : List (Str × Addr)) (fp : List Addr), PTs (X.blk s H scope (compEnvC scope cl C X.env) fp) ifs tt)
    (hk : ∀ (s : Shared) (H : Hp) (C : Addr) (cl : List (Str × Addr)) (fp : List Addr), PE (X.blk s H scope (compEnvC scope cl C X.env) fp) kx tk) (he : ∀ (s : Shared) (H : Hp) (C : Addr) (cl : List (Str × Addr)) (fp : List Addr), PE (X.blk s H scope (compEnvC scope cl C X.env) fp) vx tv) (hs : ∀ x, foldedSetIterable iter X.env x = pure x)
    (hi1 : ∀ (s : Shared) (H : Hp) (C : Addr) (cl : List (Str × Addr)) (fp : List Addr), PI (X.blk s H scope (compEnvC scope cl C X.env) fp) tg1 iter1 wi1)
    (hg1 : ∀ (s : Shared) (H : Hp) (C : Addr) (cl : List (Str × Addr)) (fp : List Addr), PG (X.blk s H scope (compEnvC scope cl C X.env) fp) tg1 g1)
    (ht1 : ∀ (s : Shared) (H : Hp) (C : Addr) (cl : List (Str × Addr)) (fp : List Addr), PTs (X.blk s H scope (compEnvC scope cl C X.env) fp) ifs1 tt1)
    (hs1 : ∀ env x, foldedSetIterable iter1 env x = pure x)
    (h : tDc2 wi g tt wi1 g1 tt1 tk tv (own.map (·.2)) vs1 σ H Q)
    (hRR : ∀ D C s' m H', Inv X pins σ H' s' → Q (.ref D) H' → s'.heap.Ns C m → FpOk X pins H' C → compPost (model X.prog X.w) X.A X.xe use Qf (.ref D) C (.ok .next) s') :
    wpAny (model X.prog X.w) X.A (comprehension (.DictComp kx vx [⟨tg, iter, ifs, 0⟩, ⟨tg1, iter1, ifs1, 0⟩] scope pos) scope X.env pos' newDict false (eval iter X.env) use) Qf X.xe s := by
  have hfree : ∀ y ∈ scope.names, y.2 = .free → ∃ c, X.env.cells.lookup y.1 = some c := fun y hy e => by
    rcases ok.free y hy e with k | k
    · exact I.ok.has _ (.inl k)
    · exact I.ok.has _ (.inr k)
  refine wpAny_comprehension_free (use := use) rfl hs (closure_ok hfree) ok.kind (fun y hy e => by rw [ok.uniq y hy, e])
    (thn (hi.run pins s σ H _ I h) fun xv s1 hx => thn hx fun itv s2 h2 => ?_)
  obtain ⟨it, fp, tn, J, H2, e, I2, T, st2, f2, q⟩ := h2
  subst e
  refine wpAny_newObj_type (newEnv_comp ?_)
  generalize hD : s2.heap.objs.size = D
  have hDn : H2 D = none := I2.hok.fresh (Nat.le_of_eq hD)
  obtain ⟨W, ⟨m0, w0⟩, turn⟩ := q D hDn
  -- the new list
  generalize hs3 : ({ s2 with heap := s2.heap.push { cls := .type "dict", data := .dict #[] } } : Shared) = s3
  have I3 : Inv X pins σ (upd H2 D (.dK [])) s3 := by
    rw [← hs3]
    refine I2.laid (t' := s2.toks) (fun b o e => Heap.get?_push_of_some _ e) (Nat.le_of_eq hD) ?_
    rw [← hD]
    exact dk_empty s2.heap I2.big
  have h3 : s3.heap = s2.heap.push { cls := .type "dict", data := .dict #[] } := by rw [← hs3]
  have sz : ∀ b ∈ fp, b < s2.heap.objs.size := fun b hb => by
    obtain ⟨o, e, _⟩ := T.obj _ _ st2 b hb
    exact Heap.lt_size e
  have f3 : ∀ b ∈ fp, FpOk X pins (upd H2 D (.dK [])) b ∧ b < s3.heap.objs.size := fun b hb => by
    have hlt := sz b hb
    refine ⟨⟨?_, (f2 b hb).2⟩, by rw [h3, Heap.size_push]; exact Nat.lt_succ_of_lt hlt⟩
    rw [upd_ne (by rw [← hD]; exact Nat.ne_of_lt hlt)]
    exact (f2 b hb).1
  have st3 : tn 0 s3.heap := T.keep _ _ _ st2 fun b _ o e => by rw [h3]; exact Heap.get?_push_of_some _ e
  have I4 := block_start I3 ok hN f3
  have pg := hg s3 (upd H2 D (.dK [])) s3.heap.objs.size (cellsFrom (s3.heap.objs.size + 1) scope.names (cloFrom X.env.cells scope.names [])) fp
  have pt := ht s3 (upd H2 D (.dK [])) s3.heap.objs.size (cellsFrom (s3.heap.objs.size + 1) scope.names (cloFrom X.env.cells scope.names [])) fp
  have pe := he s3 (upd H2 D (.dK [])) s3.heap.objs.size (cellsFrom (s3.heap.objs.size + 1) scope.names (cloFrom X.env.cells scope.names [])) fp
  have pk := hk s3 (upd H2 D (.dK [])) s3.heap.objs.size (cellsFrom (s3.heap.objs.size + 1) scope.names (cloFrom X.env.cells scope.names [])) fp
  have pi1 := hi1 s3 (upd H2 D (.dK [])) s3.heap.objs.size (cellsFrom (s3.heap.objs.size + 1) scope.names (cloFrom X.env.cells scope.names [])) fp
  have pg1 := hg1 s3 (upd H2 D (.dK [])) s3.heap.objs.size (cellsFrom (s3.heap.objs.size + 1) scope.names (cloFrom X.env.cells scope.names [])) fp
  have pt1 := ht1 s3 (upd H2 D (.dK [])) s3.heap.objs.size (cellsFrom (s3.heap.objs.size + 1) scope.names (cloFrom X.env.cells scope.names [])) fp
  show codeAny _ _ (.compStart (.DictComp kx vx [⟨tg, iter, ifs, 0⟩, ⟨tg1, iter1, ifs1, 0⟩] scope pos) 0 (.ref it) (.ref D) (compEnvC scope (cellsFrom (s3.heap.objs.size + 1) scope.names (cloFrom X.env.cells scope.names [])) s3.heap.objs.size X.env)) (compPost (model X.prog X.w) X.A X.xe use Qf (.ref D) s3.heap.objs.size) { s3 with heap := pushCells (s3.heap.push { cls := .type "dict", data := .dict #[] }) scope.names }
  have nfp : ∀ b ∈ fp, (upd H2 D (.dK [])) b = none := fun b hb => (f3 b hb).1.1
  generalize hce : compEnvC scope (cellsFrom (s3.heap.objs.size + 1) scope.names (cloFrom X.env.cells scope.names [])) s3.heap.objs.size X.env = ce at I4 pg pt pk pe pi1 pg1 pt1 ⊢
  have cL : ce.locals = s3.heap.objs.size := by subst hce; rfl
  generalize hH3 : upd H2 D (.dK []) = H3 at I3 I4 pg pt pk pe pi1 pg1 pt1 w0 nfp f3
  generalize hs4 : ({ s3 with heap := pushCells (s3.heap.push { cls := .type "dict", data := .dict #[] }) scope.names } : Shared) = s4 at I4 ⊢
  have st4 : tn 0 s4.heap := T.keep _ _ _ st3 fun b _ o e => by rw [← hs4]; exact pushCells_keeps _ _ _ _ (Heap.get?_push_of_some _ e)
  have stat : ∀ {σ' : L2.St} {H' : Hp} {s' : Shared}, Inv (X.blk s3 H3 scope ce fp) [] σ' H' s' → (∀ b ∈ fp, H' b = none) → ∀ b ∈ fp, FpOk (X.blk s3 H3 scope ce fp) [] H' b := fun {σ' H' s'} I' hn b hb =>
    ⟨hn b hb, (I'.ok.exf b hb).1, I'.ok.exfs b hb, .inl hb, fun x c e => (I'.ok.exf b hb).2 x c e, fun p hp => absurd (show p ∈ ([] : List (Addr × Obj)) ++ [] from hp) (by simp)⟩
  have loop : codeAny (model X.prog X.w) X.A (.compLoop (.DictComp kx vx [⟨tg, iter, ifs, 0⟩, ⟨tg1, iter1, ifs1, 0⟩] scope pos) 0 (.ref it) (.ref D) ce) (compPost (model X.prog X.w) X.A X.xe use Qf (.ref D) s3.heap.objs.size) s4 := by
    refine compLoopD2_out (hs1 ce) (fun n s' => ∃ i H', Inv (X.blk s3 H3 scope ce fp) [] (wipe σ (own.map (·.2))) H' s' ∧ tn i s'.heap ∧ (∀ b ∈ fp, H' b = none) ∧ W i n H') ?_ m0 ⟨0, H3, I4, st4, nfp, w0⟩
    rintro n s5 ⟨i, H5, I5, st5, n5, w5⟩
    rcases turn i n H5 w5 with ⟨stop, qq⟩ | ⟨go, Nx, hNx, step⟩
    · have td := T.done (X.blk s3 H3 scope ce fp) rfl rfl rfl hc i [] s5 _ H5 (fun _ _ => False) I5 (stat I5 n5) st5 stop
      refine thnF td fun r s6 ⟨hr, I6⟩ => ?_
      subst hr
      -- back in the def's context
      have I7 : Inv X pins σ H5 s6 := I3.call' (ch := fp) I6.os I6.base I6.hok I6.bare fun b hb => ⟨(f3 b hb).1.2.2.2.1, (f3 b hb).1.2.1, (f3 b hb).1.2.2.2.2.1, (f3 b hb).1.2.2.2.2.2⟩
      have nC : H5 s3.heap.objs.size = none := by
        have z : H5 ce.locals = none := I6.free
        rw [cL] at z
        exact z
      obtain ⟨m, hn, _⟩ := I6.loc
      have hn : s6.heap.Ns ce.locals m := hn
      rw [cL] at hn
      exact hRR D s3.heap.objs.size s6 m H5 I7 qq hn (I3.fpOk (Nat.le_refl _) nC)
    · have ti := T.item (X.blk s3 H3 scope ce fp) rfl rfl rfl hc i [] s5 _ H5 (fun _ _ => False) I5 (stat I5 n5) st5 go
      refine thnF ti fun r s6 ⟨u, hr, h6⟩ => ?_
      subst hr
      refine thnF h6 fun _ s7 ⟨x, H7, I7, r7, y7, st7, n7⟩ => ?_
      have I7' := I7.pinned (stat I7 n7) (T.obj _ _ st7)
      refine thnF (pg.run _ s7 _ H7 x u _ I7' r7 (step x H7 y7)) fun _ s8 ⟨σ8, H8, I8, hw8, q8⟩ => ?_
      refine thnF (pt.run _ s8 σ8 H8 _ I8 q8) fun b s9 ⟨H9, I9, q9⟩ => ?_
      -- the turn's end, from any slots that know what the block knew at its start
      have fin : ∀ {σ9 : L2.St} {s' : Shared} {H' : Hp}, Inv (X.blk s3 H3 scope ce fp) ([] ++ pinsAt fp s7.heap) σ9 H' s' → (wipe σ (own.map (·.2))).length = σ9.length → (∀ (j : Nat) v, (wipe σ (own.map (·.2)))[j]? = some (some v) → σ9[j]? = some (some v)) → Nx H' →
          ∃ m, m < n ∧ ∃ i H', Inv (X.blk s3 H3 scope ce fp) [] (wipe σ (own.map (·.2))) H' s' ∧ tn i s'.heap ∧ (∀ b ∈ fp, H' b = none) ∧ W i m H' := fun {σ9 s' H'} I' hl hk nx => by
        obtain ⟨m', hm, w'⟩ := hNx H' nx
        have pin' : ∀ b ∈ fp, ∀ o, s7.heap.get? b = some o → s'.heap.get? b = some o ∧ H' b = none := fun b hb o e =>
          let z := I'.pin (b, o) (List.mem_append_right _ (List.mem_append_right _ (mem_pinsAt hb e)))
          ⟨z.1, z.2.1⟩
        refine ⟨m', hm, i + 1, H', (I'.unpinned (pins := [])).weak hl hk, T.keep _ _ _ st7 fun b hb o e => (pin' b hb o e).1, fun b hb => ?_, w'⟩
        obtain ⟨o, e, _⟩ := T.obj _ _ st7 b hb
        exact (pin' b hb o e).2
      have hl8 : (wipe σ (own.map (·.2))).length = σ8.length := by rw [← hw8, wipe_length]
      have hk8 : ∀ (j : Nat) v, (wipe σ (own.map (·.2)))[j]? = some (some v) → σ8[j]? = some (some v) := fun j v e => by
        rw [← hw8] at e
        exact (wipe_some e).1
      have hk9 : ∀ (j : Nat) v, (wipe σ (own.map (·.2)))[j]? = some (some v) → (wipe σ8 vs1)[j]? = some (some v) := fun j v e => by
        rw [← hw8] at e
        obtain ⟨e1, e2⟩ := wipe_some e
        rw [wipe_out fun z => e2 (hv j z)]
        exact e1
      cases b with
      | false =>
        simp only [Bool.false_eq_true, if_false] at q9 ⊢
        exact fin I9 hl8 hk8 q9
      | true =>
        simp only [if_true] at q9 ⊢
        refine thnF (pi1.run _ s9 σ8 H9 _ I9 q9) fun xv s10 hx => thnF hx fun itv s11 h11 => ?_
        obtain ⟨it1, fp1, tn1, J1, H11, e1, I11, T1, st11, f11, W1, ⟨m1, w1⟩, turn1⟩ := h11
        subst e1
        -- the inner loop
        have stat1 : ∀ {H' : Hp}, (∀ b ∈ fp1, H' b = none) → ∀ b ∈ fp1, FpOk (X.blk s3 H3 scope ce fp) ([] ++ pinsAt fp s7.heap) H' b := fun hn b hb => ⟨hn b hb, (f11 b hb).2⟩
        have loop1 : codeAny (model X.prog X.w) X.A (.compLoop (.DictComp kx vx [⟨tg, iter, ifs, 0⟩, ⟨tg1, iter1, ifs1, 0⟩] scope pos) 1 (.ref it1) (.ref D) ce)
            (fun r s' => match r with
              | .ok _ => ∃ m, m < n ∧ ∃ i H', Inv (X.blk s3 H3 scope ce fp) [] (wipe σ (own.map (·.2))) H' s' ∧ tn i s'.heap ∧ (∀ b ∈ fp, H' b = none) ∧ W i m H'
              | .error _ => False) s11 := by
          refine compLoopD2_in (fun k s' => ∃ j H', Inv (X.blk s3 H3 scope ce fp) ([] ++ pinsAt fp s7.heap) (wipe σ8 vs1) H' s' ∧ tn1 j s'.heap ∧ (∀ b ∈ fp1, H' b = none) ∧ W1 j k H') ?_ m1 ⟨0, H11, I11.weak (wipe_length _ _) (fun j v e => (wipe_some e).1), st11, fun b hb => (f11 b hb).1, w1⟩
          rintro k s12 ⟨j, H12, I12, st12, n12, w12⟩
          rcases turn1 j k H12 w12 with ⟨stop1, nx1⟩ | ⟨go1, Nx1, hNx1, step1⟩
          · refine thnF (T1.done (X.blk s3 H3 scope ce fp) rfl rfl rfl hc j _ s12 (wipe σ8 vs1) H12 (fun _ _ => False) I12 (stat1 n12) st12 stop1) fun r s13 ⟨hr, I13⟩ => ?_
            subst hr
            exact fin I13 (hl8.trans (wipe_length σ8 vs1).symm) hk9 nx1
          · refine thnF (T1.item (X.blk s3 H3 scope ce fp) rfl rfl rfl hc j _ s12 (wipe σ8 vs1) H12 (fun _ _ => False) I12 (stat1 n12) st12 go1) fun r s13 ⟨u1, hr, h13⟩ => ?_
            subst hr
            refine thnF h13 fun _ s14 ⟨x1, H14, I14, r14, y14, st14, n14⟩ => ?_
            have I14' := I14.pinned (stat1 n14) (T1.obj _ _ st14)
            refine thnF (pg1.run _ s14 (wipe σ8 vs1) H14 x1 u1 _ I14' r14 (step1 x1 H14 y14)) fun _ s15 ⟨σ15, H15, I15, hw15, q15⟩ => ?_
            refine thnF (pt1.run _ s15 σ15 H15 _ I15 q15) fun b1 s16 ⟨H16, I16, q16⟩ => ?_
            have fin1 : ∀ {s' : Shared} {H' : Hp}, Inv (X.blk s3 H3 scope ce fp) (([] ++ pinsAt fp s7.heap) ++ pinsAt fp1 s14.heap) σ15 H' s' → Nx1 H' → ∃ m, m < k ∧ ∃ j H', Inv (X.blk s3 H3 scope ce fp) ([] ++ pinsAt fp s7.heap) (wipe σ8 vs1) H' s' ∧ tn1 j s'.heap ∧ (∀ b ∈ fp1, H' b = none) ∧ W1 j m H' := fun {s' H'} I' nx => by
              obtain ⟨m', hm, w'⟩ := hNx1 H' nx
              have pin' : ∀ b ∈ fp1, ∀ o, s14.heap.get? b = some o → s'.heap.get? b = some o ∧ H' b = none := fun b hb o e =>
                let z := I'.pin (b, o) (List.mem_append_right _ (List.mem_append_right _ (mem_pinsAt hb e)))
                ⟨z.1, z.2.1⟩
              refine ⟨m', hm, j + 1, H', I'.unpinned.weak (by rw [← hw15, wipe_length]) (fun j v e => by rw [← hw15] at e; exact (wipe_some e).1), T1.keep _ _ _ st14 fun b hb o e => (pin' b hb o e).1, fun b hb => ?_, w'⟩
              obtain ⟨o, e, _⟩ := T1.obj _ _ st14 b hb
              exact (pin' b hb o e).2
            cases b1 with
            | false =>
              simp only [Bool.false_eq_true, if_false] at q16 ⊢
              exact fin1 I16 q16
            | true =>
              simp only [if_true] at q16 ⊢
              refine thnF (pk.run _ s16 σ15 H16 _ I16 q16) fun z s17 ⟨yk, H17, I17, r17, q17⟩ => ?_
              refine thnF (pe.run _ s17 σ15 H17 _ I17 q17) fun z2 s18 ⟨yv, H18, I18, r18, kvs, k, ek, hD18, hz18, nx⟩ => ?_
              subst ek
              exact d_dictSet (X := X.blk s3 H3 scope ce fp) I18 hD18 hz18 r17 r18 fun s19 I19 => fin1 I19 nx
        exact compStartD1_ok loop1 (T1.self X.A 0 _ _ _ st11 loop1)
  exact codeAny_compStart_dict loop (T.self X.A 0 _ _ _ st4 loop)
/-- as a value -/
theorem pe_dc2 {kx vx tg iter tg1 iter1 : Expr} {ifs ifs1 : List Expr} {scope : Scope} {own : List (Str × Nat)} {vs1 : List Nat} {pos : Pos} {wi wi1 : TI} {g g1 : TG} {tt tt1 : TT} {tk tv : TE} (hc : X.calm = true) (hN : X.N.Nodup) (hi : PI X tg iter wi) (ok : BlkOk X.N X.env.scope scope own) (hv : ∀ i ∈ vs1, i ∈ own.map (·.2))
    (hg : ∀ (s : Shared) (H : Hp) (C : Addr) (cl : List (Str × Addr)) (fp : List Addr), PG (X.blk s H scope (compEnvC scope cl C X.env) fp) tg g) (ht : ∀ (s : Shared) (H : Hp) (C : Addr) (cl : List (Str × Addr)) (fp : List Addr), PTs (X.blk s H scope (compEnvC scope cl C X.env) fp) ifs tt)
    (hi1 : ∀ (s : Shared) (H : Hp) (C : Addr) (cl : List (Str × Addr)) (fp : List Addr), PI (X.blk s H scope (compEnvC scope cl C X.env) fp) tg1 iter1 wi1)
    (hg1 : ∀ (s : Shared) (H : Hp) (C : Addr) (cl : List (Str × Addr)) (fp : List Addr), PG (X.blk s H scope (compEnvC scope cl C X.env) fp) tg1 g1) (ht1 : ∀ (s : Shared) (H : Hp) (C : Addr) (cl : List (Str × Addr)) (fp : List Addr), PTs (X.blk s H scope (compEnvC scope cl C X.env) fp) ifs1 tt1)
    (hk : ∀ (s : Shared) (H : Hp) (C : Addr) (cl : List (Str × Addr)) (fp : List Addr), PE (X.blk s H scope (compEnvC scope cl C X.env) fp) kx tk) (he : ∀ (s : Shared) (H : Hp) (C : Addr) (cl : List (Str × Addr)) (fp : List Addr), PE (X.blk s H scope (compEnvC scope cl C X.env) fp) vx tv) (hs : ∀ x, foldedSetIterable iter X.env x = pure x := by intro _; rfl) (hs1 : ∀ env x, foldedSetIterable iter1 env x = pure x := by intro _ _; rfl) :
    PE X (.DictComp kx vx [⟨tg, iter, ifs, 0⟩, ⟨tg1, iter1, ifs1, 0⟩] scope pos) (tDc2 wi g tt wi1 g1 tt1 tk tv (own.map (·.2)) vs1) := by
  refine ⟨fun pins s σ H Q I h => ?_⟩
  rw [arm_eval_DictComp]
  refine dc2_core hc hN I hi ok hv hg ht hk he hs hi1 hg1 ht1 hs1 h fun D C s' m H' I' q hn f => ⟨m, hn, fun h'' sb => ?_⟩
  obtain ⟨f0, f1, f2, f3, f4, f5⟩ := f
  exact ⟨.ref D, H', I'.turned (t' := s'.toks) (fun b o hb e => (sb.2 b hb).trans e) f0 f1 f3 f4 f5, rfl, q⟩
end
end NL
set_option maxHeartbeats 4000000
/-! readings upon data: isinstance, texts, what the rules of my own add -/
namespace DL
open PySem PySem.Spec PyProof.Rows L2

/-! ### isinstance -/
inductive Tn where
  | nt | bl | int | str | tup | lst | dct
deriving DecidableEq
def Tn.name : Tn → String
  | .nt => "NoneType"
  | .bl => "bool"
  | .int => "int"
  | .str => "str"
  | .tup => "tuple"
  | .lst => "list"
  | .dct => "dict"
def tyD : D → Option Tn
  | .non => some .nt
  | .bl _ => some .bl
  | .int _ => some .int
  | .str _ => some .str
  | .tup _ => some .tup
  | .lst _ => some .lst
  | .dK _ _ => some .dct
  | .dT _ _ => some .dct
  | _ => none
def isaT : Tn → Tn → Bool
  | .bl, .int => true
  | a, b => decide (a = b)
theorem kit_all : ∀ a b : Tn, kitB a.name b.name = some (isaT a b) := by
  intro a b
  cases a <;> cases b <;> decide +kernel
theorem ty_of {K : PySem.W.Frag} {Hk H : Hp} (e : Ex Hk H) : ∀ {d : D} {v : V} {t : Tn}, Is Hk d v → tyD d = some t → TyX K H v (.type t.name)
  | .non, _, _, i, h => by cases h; cases (show _ = V.non from i); exact .base .non
  | .bl b, _, _, i, h => by cases h; cases (show _ = V.bl b from i); exact .base (.bl b)
  | .int n, _, _, i, h => by cases h; cases (show _ = V.int n from i); exact .base (.int n)
  | .str z, _, _, i, h => by cases h; cases (show _ = V.str z from i); exact .base (.str z)
  | .tup _, _, _, i, h => by
    cases h
    obtain ⟨a, xs, rfl, ha, _⟩ := i
    exact .base (.tup (e _ _ ha))
  | .lst _, _, _, i, h => by
    cases h
    obtain ⟨a, xs, rfl, ha, _⟩ := i
    exact .base (.lst (e _ _ ha))
  | .dK _ _, _, _, i, h => by
    cases h
    obtain ⟨a, xs, rfl, ha, _⟩ := i
    exact .base (.dK (e _ _ ha))
  | .dT _ _, _, _, i, h => by
    cases h
    obtain ⟨a, xs, rfl, ha, _⟩ := i
    exact .base (.dT (e _ _ ha))
  | .any, _, _, _, h => nomatch h
  | .ins _ _ _, _, _, _, h => nomatch h
  | .scr _ _, _, _, _, h => nomatch h
/-- the two classes -/
structure TwoC (K : PySem.W.Frag) (S R : Addr) : Prop where
  cS : Cls K S
  cR : Cls K R
  aS : PySem.W.findIn K (.ref S) "__class__" = some (some (.builtin "object.__class__"))
  aR : PySem.W.findIn K (.ref R) "__class__" = some (some (.builtin "object.__class__"))
  gt : PySem.W.specialIn K (.builtin "object.__class__") "__get__" = some (some (.builtin "getset_descriptor.__get__"))
  tk : PySem.W.takesIn K (.builtin "object.__class__") = some true
  mS : PySem.W.mroIn K S (.type "object") = some true
  mR : PySem.W.mroIn K R (.type "object") = some true
  sr : PySem.W.kitOne K (.ref S) (.ref R) = some false
  rs : PySem.W.kitOne K (.ref R) (.ref S) = some false
  ne : S ≠ R
theorem kit_self {K : PySem.W.Frag} {a : Addr} : PySem.W.kitOne K (.ref a) (.ref a) = some true := by
  unfold PySem.W.kitOne
  rw [if_pos (by simp)]
theorem TwoC.kit {K : PySem.W.Frag} {S R C C' : Addr} (c : TwoC K S R) (h' : C' = S ∨ C' = R) (h : C = S ∨ C = R) : PySem.W.kitOne K (.ref C') (.ref C) = some (decide (C' = C)) := by
  rcases h' with rfl | rfl <;> rcases h with rfl | rfl
  · rw [decide_eq_true rfl]; exact kit_self
  · rw [decide_eq_false c.ne]; exact c.sr
  · rw [decide_eq_false (Ne.symm c.ne)]; exact c.rs
  · rw [decide_eq_true rfl]; exact kit_self
theorem TwoC.ty {K : PySem.W.Frag} {S R C : Addr} (c : TwoC K S R) (h : C = S ∨ C = R) {Hk H : Hp} (e : Ex Hk H) {ns : List Str} {ds : List D} {v : V} (i : Is Hk (.ins C ns ds) v) : TyX K H v (.ref C) := by
  obtain ⟨a, dx, fs, rfl, ha, _⟩ := i
  rcases h with rfl | rfl
  · exact .base (.ins (e _ _ ha) c.cS c.aS c.gt c.tk c.mS)
  · exact .base (.ins (e _ _ ha) c.cR c.aR c.gt c.tk c.mR)
section
variable {X : Cx} {pos p p2 p3 p4 apos pos' : Pos} {e e2 value o : Expr} {es : List Expr} {tl : TDA} {ta tb te tv : TD} {x y z : Str} {kt : Nat}
def dIsi (T : Tn) (te : TD) : TD := fun Γ R => te Γ fun d Γ1 => ∃ t, tyD d = some t ∧ R (.bl (isaT t T)) Γ1
theorem pd_isi (T : Tn) (hg : Gl X "isinstance") (hm : X.mg "isinstance" = none) (hgT : Gl X x) (hmT : X.mg x = none) (h : PD X e te) (hv : bootBuiltins x = some (.type T.name) := by rfl)
    (hn : x ≠ "__name__" := by decide) (hdb : (x == ("__debug__" : Str)) = false := by decide)
    (he : starEach [e, .Name x p2] X.env = (false, eval e X.env) :: starEach [.Name x p2] X.env := by rfl) (he2 : starEach [.Name x p2] X.env = (false, eval (.Name x p2) X.env) :: starEach [] X.env := by rfl)
    (hpl : (backTo pos (starEach [.Name x p2] X.env)).any (·.1) = false := by rfl) : PD X (.Call (.Name "isinstance" p) [e, .Name x p2] [] pos) (dIsi T te) := by
  refine ⟨fun Γ R k E Hk H σ rp Q q => ⟨_, pe_callB call_isi hg hm rfl (pa_cons pe_w (pa_cons (pe_bltn hgT hmT hv (v := .ty T.name) rfl hn hdb) pa_nil he2) he) (by decide) (by decide) he hpl, ?_⟩⟩
  refine h.run Γ _ k E Hk H σ rp _ fun v d Γ1 Hk1 H1 k1 r1 e1 i1 => ?_
  obtain ⟨t, ht, k1⟩ := k1
  exact ⟨v, .ty T.name, _, _, _, rfl, .ty _, ty_of r1.step.s i1 ht, kit_ty (kit_all t T), q _ _ Γ1 Hk1 H1 k1 r1 e1 rfl⟩
/-- isinstance(e, (T, U)) -/
def dIsi2 (T U : Tn) (te : TD) : TD := fun Γ R => te Γ fun d Γ1 => ∃ t, tyD d = some t ∧ R (.bl (isaT t T || isaT t U)) Γ1
theorem pd_isi2 (T U : Tn) (hg : Gl X "isinstance") (hm : X.mg "isinstance" = none) (hgT : Gl X x) (hmT : X.mg x = none) (hgU : Gl X y) (hmU : X.mg y = none) (h : PD X e te) (hv : bootBuiltins x = some (.type T.name) := by rfl) (hw : bootBuiltins y = some (.type U.name) := by rfl)
    (hn : x ≠ "__name__" := by decide) (hdb : (x == ("__debug__" : Str)) = false := by decide) (hn2 : y ≠ "__name__" := by decide) (hdb2 : (y == ("__debug__" : Str)) = false := by decide)
    (he : starEach [e, .Tuple [.Name x p2, .Name y p3] kt p4] X.env = (false, eval e X.env) :: starEach [.Tuple [.Name x p2, .Name y p3] kt p4] X.env := by rfl)
    (he2 : starEach [.Tuple [.Name x p2, .Name y p3] kt p4] X.env = (false, eval (.Tuple [.Name x p2, .Name y p3] kt p4) X.env) :: starEach [] X.env := by rfl)
    (he3 : starEach [.Name x p2, .Name y p3] X.env = (false, eval (.Name x p2) X.env) :: starEach [.Name y p3] X.env := by rfl) (he4 : starEach [.Name y p3] X.env = (false, eval (.Name y p3) X.env) :: starEach [] X.env := by rfl)
    (hpl : (backTo pos (starEach [.Tuple [.Name x p2, .Name y p3] kt p4] X.env)).any (·.1) = false := by rfl) : PD X (.Call (.Name "isinstance" p) [e, .Tuple [.Name x p2, .Name y p3] kt p4] [] pos) (dIsi2 T U te) := by
  refine ⟨fun Γ R k E Hk H σ rp Q q => ⟨_, pe_callB call_isiT hg hm rfl (pa_cons pe_w (pa_cons (pe_tup (pa_cons (pe_bltn hgT hmT hv (v := .ty T.name) rfl hn hdb) (pa_cons (pe_bltn hgU hmU hw (v := .ty U.name) rfl hn2 hdb2) pa_nil he4) he3)) pa_nil he2) he) (by decide) (by decide) he hpl, ?_⟩⟩
  refine h.run Γ _ k E Hk H σ rp _ fun v d Γ1 Hk1 H1 k1 r1 e1 i1 => ?_
  obtain ⟨t, ht, k1⟩ := k1
  refine ⟨by show 2 ≤ sizeLine; decide, fun q0 hq => ?_⟩
  have s := Step.newH (o := .tup [.ty T.name, .ty U.name]) r1.step.s hq
  refine ⟨v, q0, _, _, [.type T.name, .type U.name], _, rfl, upd_same, .cons (.ty _) (.cons (.ty _) .nil), ty_of s.s i1 ht, ?_, q _ _ Γ1 Hk1 _ k1 (r1.grow s) e1 rfl⟩
  refine kitAny_cons (kit_ty (kit_all t T)) (fun hf => kitAny_cons (kit_ty (kit_all t U)) (fun hf2 => ?_) fun ht2 => ?_) fun ht2 => by rw [ht2] <;> rfl
  · rw [hf, hf2]
    rfl
  · rw [ht2, Bool.or_true]
/-- isinstance(e, C), C one of the two classes -/
def dIsiC (S R C : Addr) (te : TD) : TD := fun Γ K => te Γ fun d Γ1 => ∃ C' ns ds, d = .ins C' ns ds ∧ (C' = S ∨ C' = R) ∧ K (.bl (decide (C' = C))) Γ1
theorem pd_isiC {S R C : Addr} (c : TwoC X.K S R) (hC : C = S ∨ C = R) (hg : Gl X "isinstance") (hm : X.mg "isinstance" = none) (hgC : Gl X x) (hmC : X.mg x = some (.ref C)) (h : PD X e te)
    (hdb : (x == ("__debug__" : Str)) = false := by decide)
    (he : starEach [e, .Name x p2] X.env = (false, eval e X.env) :: starEach [.Name x p2] X.env := by rfl) (he2 : starEach [.Name x p2] X.env = (false, eval (.Name x p2) X.env) :: starEach [] X.env := by rfl)
    (hpl : (backTo pos (starEach [.Name x p2] X.env)).any (·.1) = false := by rfl) : PD X (.Call (.Name "isinstance" p) [e, .Name x p2] [] pos) (dIsiC S R C te) := by
  refine ⟨fun Γ K k E Hk H σ rp Q q => ⟨_, pe_callB call_isi hg hm rfl (pa_cons pe_w (pa_cons (pe_glob hgC hmC (v := .ref C) rfl hdb) pa_nil he2) he) (by decide) (by decide) he hpl, ?_⟩⟩
  refine h.run Γ _ k E Hk H σ rp _ fun v d Γ1 Hk1 H1 k1 r1 e1 i1 => ?_
  obtain ⟨C', ns, ds, rfl, hC', k1⟩ := k1
  exact ⟨v, .ref C, _, _, _, rfl, .own _, c.ty hC' r1.step.s i1, c.kit hC' hC, q _ _ Γ1 Hk1 H1 k1 r1 e1 rfl⟩
/-- isinstance(e, (S, R)) -/
def dIsiSR (S R : Addr) (te : TD) : TD := fun Γ K => te Γ fun d Γ1 => ∃ C' ns ds, d = .ins C' ns ds ∧ (C' = S ∨ C' = R) ∧ K (.bl true) Γ1
theorem pd_isiSR {S R : Addr} (c : TwoC X.K S R) (hg : Gl X "isinstance") (hm : X.mg "isinstance" = none) (hgS : Gl X x) (hmS : X.mg x = some (.ref S)) (hgR : Gl X y) (hmR : X.mg y = some (.ref R)) (h : PD X e te)
    (hdb : (x == ("__debug__" : Str)) = false := by decide) (hdb2 : (y == ("__debug__" : Str)) = false := by decide)
    (he : starEach [e, .Tuple [.Name x p2, .Name y p3] kt p4] X.env = (false, eval e X.env) :: starEach [.Tuple [.Name x p2, .Name y p3] kt p4] X.env := by rfl)
    (he2 : starEach [.Tuple [.Name x p2, .Name y p3] kt p4] X.env = (false, eval (.Tuple [.Name x p2, .Name y p3] kt p4) X.env) :: starEach [] X.env := by rfl)
    (he3 : starEach [.Name x p2, .Name y p3] X.env = (false, eval (.Name x p2) X.env) :: starEach [.Name y p3] X.env := by rfl) (he4 : starEach [.Name y p3] X.env = (false, eval (.Name y p3) X.env) :: starEach [] X.env := by rfl)
    (hpl : (backTo pos (starEach [.Tuple [.Name x p2, .Name y p3] kt p4] X.env)).any (·.1) = false := by rfl) : PD X (.Call (.Name "isinstance" p) [e, .Tuple [.Name x p2, .Name y p3] kt p4] [] pos) (dIsiSR S R te) := by
  refine ⟨fun Γ K k E Hk H σ rp Q q => ⟨_, pe_callB call_isiT hg hm rfl (pa_cons pe_w (pa_cons (pe_tup (pa_cons (pe_glob hgS hmS (v := .ref S) rfl hdb) (pa_cons (pe_glob hgR hmR (v := .ref R) rfl hdb2) pa_nil he4) he3)) pa_nil he2) he) (by decide) (by decide) he hpl, ?_⟩⟩
  refine h.run Γ _ k E Hk H σ rp _ fun v d Γ1 Hk1 H1 k1 r1 e1 i1 => ?_
  obtain ⟨C', ns, ds, rfl, hC', k1⟩ := k1
  refine ⟨by show 2 ≤ sizeLine; decide, fun q0 hq => ?_⟩
  have s := Step.newH (o := .tup [.ref S, .ref R]) r1.step.s hq
  refine ⟨v, q0, _, _, [.ref S, .ref R], true, rfl, upd_same, .cons (.own _) (.cons (.own _) .nil), c.ty hC' s.s i1, ?_, q _ _ Γ1 Hk1 _ k1 (r1.grow s) e1 rfl⟩
  refine kitAny_cons (c.kit hC' (.inl rfl)) (fun hf => kitAny_cons (c.kit hC' (.inr rfl)) (fun hf2 => ?_) fun ht2 => rfl) fun ht2 => rfl
  rcases hC' with rfl | rfl
  · simp at hf
  · simp at hf2
end
end DL
set_option maxHeartbeats 4000000
/-! readings upon data: texts, steps, sets, sorted, min, comprehensions of two clauses, pairs assigned -/
namespace DL
open PySem PySem.Spec PyProof.Rows L2 NL
section
variable {X : Cx} {pos p p2 p3 p4 apos pos' : Pos} {e e2 value o a b : Expr} {es : List Expr} {tl : TDA} {ta tb te tv : TD} {x y z : Str} {kt : Nat} {tn tm : TDN}

/-! ### texts -/
def revS (s : Str) : Str := ⟨s.cps.toList.reverse.toArray⟩
def dRevS (ta : TD) : TD := fun Γ R => ta Γ fun d Γ1 => match d with
  | .str s => s.length ≤ sizeLine ∧ R (.str (revS s)) Γ1
  | _ => False
theorem pd_revS {k p1 p2 p3 : _} (he : PD X e ta) : PD X (.Subscript e (.Slice none none (some (.UnaryOp .USub (.Constant (.int 1) k p1) p2)) p3) pos) (dRevS ta) := by
  refine ⟨fun Γ R k E Hk H σ rp Q q => ⟨_, pe_revS pe_w, ?_⟩⟩
  refine he.run Γ _ k E Hk H σ rp _ fun v d Γ1 Hk1 H1 k1 r1 e1 i1 => ?_
  split at k1
  · exact ⟨_, i1, k1.1, q _ _ Γ1 Hk1 H1 k1.2 r1 e1 rfl⟩
  · exact k1.elim
def dMulS : D → D → (D → Prop) → Prop
  | .str s, .int n, K => 0 ≤ n ∧ n ≤ 1000 ∧ s.length ≤ 1000 ∧ K (.str (repS s n))
  | _, _, _ => False
theorem od_mulS : OpD (fun x y H Q => ∃ (z : Str) (n : Int), x = .str z ∧ y = .int n ∧ 0 ≤ n ∧ n ≤ 1000 ∧ z.length ≤ 1000 ∧ Q (.str (repS z n)) H) dMulS := by
  intro Hk H x y d1 d2 Kd e i1 i2 h Q q
  unfold dMulS at h
  split at h
  · exact ⟨_, _, i1, i2, h.1, h.2.1, h.2.2.1, st_refl e h.2.2.2 rfl q⟩
  · exact h.elim
/-- o.swapcase(), o.lower(), o.upper() -/
def dM0 (g : Str → Str) (ta : TD) : TD := fun Γ R => ta Γ fun d Γ1 => match d with
  | .str s => s.length ≤ 5592405 ∧ R (.str (g s)) Γ1
  | _ => False
theorem m0_run {g : Str → Str} (he : PD X e ta) {Γ : G} {R : D → G → Prop} (k : dM0 g ta Γ R) {E : En} {Hk H : Hp} {σ : St} (rp : Rp E Γ Hk H σ) {Q : VK} (q : ∀ v d Γ' Hk2 H2, R d Γ' → Rp E Γ' Hk2 H2 σ → Ex Hk Hk2 → Is Hk2 d v → Q v H2) :
    tM0 (fun x xs H Q => ∃ a, x = .str a ∧ xs = [] ∧ a.length ≤ 5592405 ∧ Q (.str (g a)) H) (WE X e) σ H Q := by
  refine he.run Γ _ k E Hk H σ rp _ fun v d Γ1 Hk1 H1 k1 r1 e1 i1 => ?_
  split at k1
  · exact ⟨⟨_, i1⟩, _, i1, rfl, k1.1, q _ _ Γ1 Hk1 H1 k1.2 r1 e1 rfl⟩
  · exact k1.elim
theorem pd_swapcase (ho : PD X o ta) (hbase : attributeBase o "swapcase" X.env (eval o X.env) = eval o X.env := by rfl) (hline : (apos.endLine == pos.line) = true := by rfl) : PD X (.Call (.Attribute o "swapcase" apos) [] [] pos) (dM0 Txt.swapcase ta) :=
  ⟨fun Γ R k E Hk H σ rp Q q => ⟨_, pe_m0 PySem.F.slot_str_swapcase PySem.F.type_str_swapcase mt_swapcase pe_w hbase hline, m0_run ho k rp q⟩⟩
theorem pd_lower (ho : PD X o ta) (hbase : attributeBase o "lower" X.env (eval o X.env) = eval o X.env := by rfl) (hline : (apos.endLine == pos.line) = true := by rfl) : PD X (.Call (.Attribute o "lower" apos) [] [] pos) (dM0 Txt.lower ta) :=
  ⟨fun Γ R k E Hk H σ rp Q q => ⟨_, pe_lower pe_w hbase hline, m0_run ho k rp q⟩⟩
theorem pd_upper (ho : PD X o ta) (hbase : attributeBase o "upper" X.env (eval o X.env) = eval o X.env := by rfl) (hline : (apos.endLine == pos.line) = true := by rfl) : PD X (.Call (.Attribute o "upper" apos) [] [] pos) (dM0 Txt.upper ta) :=
  ⟨fun Γ R k E Hk H σ rp Q q => ⟨_, pe_upper pe_w hbase hline, m0_run ho k rp q⟩⟩
def dJoin (ta te : TD) : TD := fun Γ R => ta Γ fun d Γ1 => ∃ s : Str, d = .str s ∧ te Γ1 fun d2 Γ2 => ∃ ys : List Str, d2 = .lst (ys.map D.str) ∧ (ys.map (·.length)).sum + ys.length * s.length ≤ 16777216 ∧ R (.str (Txt.join s ys)) Γ2
theorem pd_join (ho : PD X o ta) (he : PD X e te) (hs : starEach [e] X.env = [(false, eval e X.env)] := by rfl) (hbase : attributeBase o "join" X.env (eval o X.env) = eval o X.env := by rfl) (hline : (apos.endLine == pos.line) = true := by rfl) :
    PD X (.Call (.Attribute o "join" apos) [e] [] pos) (dJoin ta te) := by
  refine ⟨fun Γ R k E Hk H σ rp Q q => ⟨_, pe_join pe_w pe_w hs hbase hline, ?_⟩⟩
  refine ho.run Γ _ k E Hk H σ rp _ fun v d Γ1 Hk1 H1 k1 r1 e1 i1 => ?_
  obtain ⟨s, rfl, k1⟩ := k1
  cases (show v = _ from i1)
  refine ⟨⟨s, rfl⟩, ?_⟩
  refine he.run Γ1 _ k1 E Hk1 H1 σ r1 _ fun v2 d2 Γ2 Hk2 H2 k2 r2 e2 i2 => ?_
  obtain ⟨ys, rfl, hz, k2⟩ := k2
  obtain ⟨a, xs, rfl, ha, ia⟩ := i2
  have := ia.strs
  subst this
  exact ⟨_, a, ys, rfl, rfl, .inl (.inl (.inl (r2.step.s _ _ ha))), hz, q _ _ Γ2 Hk2 H2 k2 r2 (e1.trans e2) rfl⟩
/-- f'..', texts within -/
def dTextOf (ta : TD) : TD := fun Γ R => ta Γ fun d Γ1 => ∃ s : Str, d = .str s ∧ s.length ≤ sizeLine ∧ R (.str s) Γ1
theorem pd_fmt (he : PD X e ta) : PD X (.FormattedValue e (-1) none pos) (dTextOf ta) := by
  refine ⟨fun Γ R k E Hk H σ rp Q q => ⟨_, pe_fmt pe_w, ?_⟩⟩
  refine he.run Γ _ k E Hk H σ rp _ fun v d Γ1 Hk1 H1 k1 r1 e1 i1 => ?_
  obtain ⟨s, rfl, hz, k1⟩ := k1
  exact .inl ⟨s, i1, hz, q _ _ Γ1 Hk1 H1 k1 r1 e1 rfl⟩
theorem pd_joined1 (he : PD X e ta) : PD X (.JoinedStr [e] pos) ta := ⟨fun Γ R k E Hk H σ rp Q q => ⟨_, pe_joined1 pe_w, he.run Γ R k E Hk H σ rp Q q⟩⟩
def dJoined3 (ta tb tc : TD) : TD := fun Γ R => ta Γ fun d Γ1 => ∃ s : Str, d = .str s ∧ (Str.empty ++ s).length ≤ sizeLine ∧ tb Γ1 fun d2 Γ2 => ∃ s2 : Str, d2 = .str s2 ∧ (Str.empty ++ s ++ s2).length ≤ sizeLine ∧ tc Γ2 fun d3 Γ3 => ∃ s3 : Str, d3 = .str s3 ∧ (Str.empty ++ s ++ s2 ++ s3).length ≤ sizeLine ∧ R (.str (Str.empty ++ s ++ s2 ++ s3)) Γ3
theorem pd_joined3 {e3 : Expr} {tc : TD} (ha : PD X e ta) (hb : PD X e2 tb) (hc : PD X e3 tc) : PD X (.JoinedStr [e, e2, e3] pos) (dJoined3 ta tb tc) := by
  refine ⟨fun Γ R k E Hk H σ rp Q q => ⟨_, pe_joined (.cons pe_w (.cons pe_w (.cons pe_w .nil))), ?_⟩⟩
  refine ha.run Γ _ k E Hk H σ rp _ fun v d Γ1 Hk1 H1 k1 r1 e1 i1 => ?_
  obtain ⟨s, rfl, z1, k1⟩ := k1
  refine ⟨s, i1, z1, ?_⟩
  refine hb.run Γ1 _ k1 E Hk1 H1 σ r1 _ fun v2 d2 Γ2 Hk2 H2 k2 r2 e2 i2 => ?_
  obtain ⟨s2, rfl, z2, k2⟩ := k2
  refine ⟨s2, i2, z2, ?_⟩
  refine hc.run Γ2 _ k2 E Hk2 H2 σ r2 _ fun v3 d3 Γ3 Hk3 H3 k3 r3 e3 i3 => ?_
  obtain ⟨s3, rfl, z3, k3⟩ := k3
  exact ⟨s3, i3, z3, q _ _ Γ3 Hk3 H3 k3 r3 ((e1.trans e2).trans e3) rfl⟩

/-! ### steps -/
def dStep (lo st : Option Int) (ta : TD) : TD := fun Γ R => ta Γ fun d Γ1 => ∃ ds, d = .lst ds ∧ (pickG ds lo none st).length ≤ sizeLine ∧ R (.lst (pickG ds lo none st)) Γ1
theorem isl_pick {H : Hp} {ds : List D} {vs : List V} (h : IsL H ds vs) (lo hi st : Option Int) : IsL H (pickG ds lo hi st) (pickG vs lo hi st) := by
  unfold pickG
  rw [h.len]
  generalize sliceRange (sliceBounds lo hi st ds.length).1 (sliceBounds lo hi st ds.length).2.1 (sliceBounds lo hi st ds.length).2.2 = l
  induction l with
  | nil => rfl
  | cons i l ih =>
    rw [List.filterMap_cons, List.filterMap_cons]
    cases e : ds[i]? with
    | none =>
      have e2 : vs[i]? = none := by
        rw [List.getElem?_eq_none_iff, h.len]
        exact List.getElem?_eq_none_iff.mp e
      rw [e2]
      exact ih
    | some d =>
      obtain ⟨v, e2, iv⟩ := h.get e
      rw [e2]
      exact .cons iv ih
theorem pd_step2 {k p1 : _} (he : PD X e ta) (hop : ∀ o i, subscripted (.Slice none none (some (.Constant (.int 2) k p1)) p2) false o i = operate [o, i] (getItem o i) := by intro _ _; with_unfolding_all rfl) : PD X (.Subscript e (.Slice none none (some (.Constant (.int 2) k p1)) p2) pos) (dStep none (some 2) ta) := by
  refine ⟨fun Γ R kk E Hk H σ rp Q q => ⟨_, pe_sliceL3 pe_w po_none po_none (po_some pe_int) hop, ?_⟩⟩
  refine he.run Γ _ kk E Hk H σ rp _ fun v d Γ1 Hk1 H1 k1 r1 e1 i1 => ?_
  obtain ⟨ds, rfl, hz, k1⟩ := k1
  obtain ⟨a, xs, rfl, ha, ia⟩ := i1
  have ip := isl_pick ia none none (some 2)
  refine ⟨2, rfl, a, xs, rfl, .inl (.inl (r1.step.s _ _ ha)), by decide, by rw [ip.len]; exact hz, fun p0 hp => ?_⟩
  have s := Step.new (o := .lst (pickG xs none none (some 2))) r1.step.s hp
  exact q _ _ Γ1 _ _ k1 (r1.grow s) (e1.trans s.k) ⟨p0, _, rfl, upd_same, ip.mono s.k⟩
theorem pd_step12 {k k2 p1 p3 : _} (he : PD X e ta) (hop : ∀ o i, subscripted (.Slice (some (.Constant (.int 1) k2 p3)) none (some (.Constant (.int 2) k p1)) p2) false o i = operate [o, i] (getItem o i) := by intro _ _; with_unfolding_all rfl) : PD X (.Subscript e (.Slice (some (.Constant (.int 1) k2 p3)) none (some (.Constant (.int 2) k p1)) p2) pos) (dStep (some 1) (some 2) ta) := by
  refine ⟨fun Γ R kk E Hk H σ rp Q q => ⟨_, pe_sliceL3 pe_w (po_some pe_int) po_none (po_some pe_int) hop, ?_⟩⟩
  refine he.run Γ _ kk E Hk H σ rp _ fun v d Γ1 Hk1 H1 k1 r1 e1 i1 => ?_
  obtain ⟨ds, rfl, hz, k1⟩ := k1
  obtain ⟨a, xs, rfl, ha, ia⟩ := i1
  have ip := isl_pick ia (some 1) none (some 2)
  refine ⟨1, rfl, 2, rfl, a, xs, rfl, .inl (.inl (r1.step.s _ _ ha)), by decide, by rw [ip.len]; exact hz, fun p0 hp => ?_⟩
  have s := Step.new (o := .lst (pickG xs (some 1) none (some 2))) r1.step.s hp
  exact q _ _ Γ1 _ _ k1 (r1.grow s) (e1.trans s.k) ⟨p0, _, rfl, upd_same, ip.mono s.k⟩

/-! ### sorted, sets, min by a key, list(zip(..)), dict(..) -/
def dSorted : List D → (D → Prop) → Prop
  | [.lst ds], K => ∃ ss : List Str, ds = ss.map D.str ∧ ∀ ss' : List Str, ss'.Perm ss → SortedT ss' → K (.lst (ss'.map D.str))
  | _, _ => False
theorem cd_sorted {K : PySem.W.Frag} : CallD (NL.rSortedS K) dSorted := by
  intro Hk H vs ds Kd e i h Q q
  unfold dSorted at h
  split at h
  · obtain ⟨v, rfl, iv⟩ := one_of i
    obtain ⟨ss, rfl, h⟩ := h
    obtain ⟨a, us, rfl, ha, ia⟩ := iv
    have := ia.strs
    subst this
    refine ⟨a, ss, rfl, .inl (.inl (e _ _ ha)), fun ss' p hp hs hn => ?_⟩
    have s := Step.new (o := .lst (ss'.map V.str)) e hn
    exact q _ _ _ _ (h ss' hp hs) s ⟨p, _, rfl, upd_same, IsL.ofStrs⟩
  · exact h.elim
theorem keys_of {H : Hp} : ∀ {ks : List Key} {vs : List V}, IsL H (ks.map kD) vs → vs = ks.map kV
  | [], _, h => h
  | .inl i :: ks, _, ⟨x, r, h1, h2, h3⟩ => by
    cases (show x = _ from h2)
    rw [h1, keys_of h3]
    rfl
  | .inr s :: ks, _, ⟨x, r, h1, h2, h3⟩ => by
    cases (show x = _ from h2)
    rw [h1, keys_of h3]
    rfl
/-- len(set(xs)) -/
def dLenSet (ta : TD) : TD := fun Γ R => ta Γ fun d Γ1 => ∃ ks : List Key, d = .lst (ks.map kD) ∧ ks.Nodup ∧ ks.length ≤ 1000 ∧ R (.int ks.length) Γ1
theorem pd_lenSet (hc : X.calm = true) (hg : Gl X "len") (hm : X.mg "len" = none) (hg2 : Gl X "set") (hm2 : X.mg "set" = none) (he : PD X e ta)
    (h1 : starEach [e] X.env = (false, eval e X.env) :: starEach [] X.env := by rfl) (h2 : (backTo p3 (starEach [] X.env)).any (·.1) = false := by rfl)
    (h3 : starEach [.Call (.Name "set" p2) [e] [] p3] X.env = (false, eval (.Call (.Name "set" p2) [e] [] p3) X.env) :: starEach [] X.env := by rfl) (h4 : (backTo pos (starEach [] X.env)).any (·.1) = false := by rfl) :
    PD X (.Call (.Name "len" p) [.Call (.Name "set" p2) [e] [] p3] [] pos) (dLenSet ta) := by
  refine ⟨fun Γ R k E Hk H σ rp Q q => ⟨_, pe_callB cr_lenK hg hm rfl (pa_cons (pe_callTy (cr_setL hc) hg2 hm2 rfl (pa_cons pe_w pa_nil h1) (by decide) (by decide) h1 h2) pa_nil h3) (by decide) (by decide) h3 h4, ?_⟩⟩
  refine he.run Γ _ k E Hk H σ rp _ fun v d Γ1 Hk1 H1 k1 r1 e1 i1 => ?_
  obtain ⟨ks, rfl, nd, hz, k1⟩ := k1
  obtain ⟨a, us, rfl, ha, ia⟩ := i1
  have := keys_of ia
  subst this
  refine ⟨a, ks, rfl, .inl (.inl (r1.step.s _ _ ha)), nd, by unfold scanBound; omega, fun p0 S hp => ⟨p0, S, ks.length, rfl, upd_same, by omega, ?_⟩⟩
  have s := Step.newH (o := SetK X.prog X.w p0 S ks.length) r1.step.s hp
  exact q _ _ Γ1 Hk1 _ k1 (r1.grow s) e1 rfl
/-- min(xs, key=f) -/
def dMinK (ff : List D → (D → Prop) → Prop) (ta : TD) : TD := fun Γ R => ta Γ fun d Γ1 => ∃ (ds : List D) (key : Nat → Str) (d' : D), d = .lst ds ∧ (∀ (i : Nat) c, ds[i]? = some c → ff [c] fun r => r = .str (key i)) ∧ ds[argBest (btS key) (ds.length - 1)]? = some d' ∧ R d' Γ1
theorem pd_minK {k : Nat} {fa : Addr} {fd : FuncData} {ps : List Str} {ff : List D → (D → Prop) → Prop} (F : FnOk X.prog X.w X.K X.mg X.base CX0 k fa fd ps (SpF ff)) (hr : Room (k + 1) X.A) (hb : Binds X.K fd ps []) (hg : Gl X "min") (hm : X.mg "min" = none) (hgF : Gl X x) (hmF : X.mg x = some (.ref fa)) (he : PD X e ta)
    (hdb : (x == ("__debug__" : Str)) = false := by decide) (h1 : starEach [e] X.env = (false, eval e X.env) :: starEach [] X.env := by rfl)
    (h2 : backTo pos (starEach [e] X.env) = (false, eval e X.env) :: backTo pos (starEach [] X.env) := by rfl) (h3 : (backTo pos (starEach [e] X.env)).any (·.1) = false := by rfl)
    (h4 : (backToKw pos (keywordEach [⟨some "key", .Name x p2, p3⟩] X.env)).all (·.1.isSome) = true := by rfl) (h5 : (backToKw pos (keywordEach [⟨some "key", .Name x p2, p3⟩] X.env)).any (·.1.isNone) = false := by rfl)
    (h6 : (backToKw pos (keywordEach [⟨some "key", .Name x p2, p3⟩] X.env)).filterMap (·.1) = [Str.ofString "key"] := by rfl) :
    PD X (.Call (.Name "min" p) [e] [⟨some "key", .Name x p2, p3⟩] pos) (dMinK ff ta) := by
  refine ⟨fun Γ R kk E Hk H σ rp Q q => ⟨_, pe_callBK (cr_minK F hr hb) hg hm rfl (pa_cons pe_w pa_nil h1) (pk_cons (pe_glob hgF hmF (v := .ref fa) rfl hdb) pk_nil) (by decide) (by decide) h2 h3 h4 h5 h6, ?_⟩⟩
  refine he.run Γ _ kk E Hk H σ rp _ fun v d Γ1 Hk1 H1 k1 r1 e1 i1 => ?_
  obtain ⟨ds, key, d', rfl, hk, hd, k1⟩ := k1
  obtain ⟨a, us, rfl, ha, ia⟩ := i1
  have hne : us ≠ [] := fun z => by
    have := ia.len
    rw [z] at this
    have e0 : ds = [] := List.length_eq_zero_iff.mp this.symm
    rw [e0] at hd
    cases hd
  refine ⟨a, us, key, fun H' => ∃ Hk', Step Hk1 H1 Hk' H', rfl, rfl, hne, ⟨Hk1, Step.refl r1.step.s⟩, fun H' ⟨Hk', s⟩ => .inl (.inl (s.s _ _ (s.k _ _ ha))), fun i x H' hx ⟨Hk', s⟩ => ?_, fun x H' hx ⟨Hk', s⟩ => ?_⟩
  · obtain ⟨c, hc, ic⟩ := ia.getV hx
    exact ⟨Hk', [c], _, s.s, .cons (ic.mono s.k) .nil, hk i c hc, fun r w Hk2 H2 er s2 iw => ⟨by subst er; exact iw, Hk2, s.trans s2⟩⟩
  · rw [ia.len] at hx
    obtain ⟨c, hc, ic⟩ := ia.getV hx
    rw [hd] at hc
    cases hc
    exact q x d' Γ1 Hk' H' k1 (r1.grow s) (e1.trans s.k) (ic.mono s.k)
end
end DL
set_option maxHeartbeats 4000000
/-! readings upon data: list(zip(..)), dict(..), comprehensions of two clauses, pairs assigned, own answers -/
namespace DL
open PySem PySem.Spec PyProof.Rows L2 NL
section
variable {X : Cx} {pos p p2 p3 p4 apos pos' : Pos} {e e2 value o a b : Expr} {es : List Expr} {tl : TDA} {ta tb te tv : TD} {x y z : Str} {kt : Nat} {tn tm : TDN}
/-! ### list(zip(a, b)) of texts -/
def sg (c : Nat) : Str := ⟨#[c]⟩
def zipS (s t : Str) : List D := (s.cps.toList.zip t.cps.toList).map fun q => .tup [.str (sg q.1), .str (sg q.2)]
def dListZip (ta tb : TD) : TD := fun Γ R => ta Γ fun d Γ1 => tb Γ1 fun d2 Γ2 => ∃ s t : Str, d = .str s ∧ d2 = .str t ∧ s.cps.all (· < 128) = true ∧ t.cps.all (· < 128) = true ∧ s.cps.size = t.cps.size ∧ 0 < s.cps.size ∧ s.cps.size ≤ 1000 ∧ R (.lst (zipS s t)) Γ2
theorem pd_listZip (hc : X.calm = true) (hg : Gl X "list") (hm : X.mg "list" = none) (hg2 : Gl X "zip") (hm2 : X.mg "zip" = none) (ha : PD X a ta) (hb : PD X b tb)
    (na : starEach [a, b] X.env = (false, eval a X.env) :: starEach [b] X.env := by rfl) (nb : starEach [b] X.env = (false, eval b X.env) :: starEach [] X.env := by rfl) (hpl : (backTo p3 (starEach [b] X.env)).any (·.1) = false := by rfl)
    (ne : starEach [.Call (.Name "zip" p2) [a, b] [] p3] X.env = (false, eval (.Call (.Name "zip" p2) [a, b] [] p3) X.env) :: starEach [] X.env := by rfl) :
    PD X (.Call (.Name "list" p) [.Call (.Name "zip" p2) [a, b] [] p3] [] pos) (dListZip ta tb) := by
  refine ⟨fun Γ R k E Hk H σ rp Q q => ⟨_, pe_listZip hc hg hm hg2 hm2 pe_w pe_w na nb hpl ne, ?_⟩⟩
  refine ha.run Γ _ k E Hk H σ rp _ fun v d Γ1 Hk1 H1 k1 r1 e1 i1 => ?_
  refine hb.run Γ1 _ k1 E Hk1 H1 σ r1 _ fun v2 d2 Γ2 Hk2 H2 k2 r2 e2 i2 => ?_
  obtain ⟨s, t, rfl, rfl, h1, h2, h3, h4, h5, k2⟩ := k2
  refine ⟨s, t, i1, i2, h1, h2, h3, h4, h5, fun l Ts H' hl hT hK hlen hTs => ?_⟩
  have hl' : H' l = none := by
    rw [hK l fun hm => (hT l hm).2 rfl]
    exact hl
  have eH : Ex H2 H' := fun c u q => by
    rw [hK c fun hm => by rw [(hT c hm).1] at q; cases q]
    exact q
  let Hk3 : Hp := fun c => if H2 c = none then (upd H' l (.lst (Ts.map V.ref))) c else Hk2 c
  have s3 : Step Hk2 H2 Hk3 (upd H' l (.lst (Ts.map V.ref))) := by
    refine ⟨fun c u q => ?_, eH.trans (Ex.new hl'), fun c u q => ?_, fun c q1 q2 => ?_⟩
    · show (if H2 c = none then _ else _) = _
      rw [if_neg fun z => by rw [r2.step.s c u q] at z; cases z]
      exact q
    · have q' : (if H2 c = none then (upd H' l (.lst (Ts.map V.ref))) c else Hk2 c) = some u := q
      split at q'
      · exact q'
      · exact (eH.trans (Ex.new hl')) c u (r2.step.s c u q')
    · show (if H2 c = none then _ else _) = _
      rw [if_neg q2]
      exact q1
  refine q (.ref l) _ Γ2 Hk3 _ k2 (r2.grow s3) ((e1.trans e2).trans s3.k) ⟨l, Ts.map V.ref, rfl, ?_, ?_⟩
  · show (if H2 l = none then _ else _) = _
    rw [if_pos hl, upd_same]
  · refine IsL.ofFn (by unfold zipS; simp [hlen, List.length_zip]; omega) fun i d v hd hv => ?_
    rw [List.getElem?_map] at hv
    obtain ⟨T, hT1, rfl⟩ := Option.map_eq_some_iff.mp hv
    obtain ⟨c, d', hc1, hd1, hH⟩ := hTs i T hT1
    have ed : d = .tup [.str (sg c), .str (sg d')] := by
      unfold zipS at hd
      rw [List.getElem?_map] at hd
      obtain ⟨⟨c2, d2⟩, hq, rfl⟩ := Option.map_eq_some_iff.mp hd
      obtain ⟨g1, g2⟩ := List.getElem?_zip_eq_some.mp hq
      rw [Array.getElem?_toList, hc1] at g1
      rw [Array.getElem?_toList, hd1] at g2
      cases g1
      cases g2
      rfl
    subst ed
    refine ⟨T, [.str (sg c), .str (sg d')], rfl, ?_, .cons rfl (.cons rfl .nil)⟩
    have mT : T ∈ Ts := List.mem_of_getElem? hT1
    show (if H2 T = none then _ else _) = _
    rw [if_pos (hT T mT).1, upd_ne (hT T mT).2]
    exact hH
/-! ### dict(a list of pairs) -/
def pairD (kv : Key × D) : D := .tup [kD kv.1, kv.2]
def mergeD (kvs : List (Key × D)) : List Key × List D := kvs.foldl (fun acc kv => putD acc.1 acc.2 kv.1 kv.2) ([], [])
def dDict (ta : TD) : TD := fun Γ R => ta Γ fun d Γ1 => ∃ kvs : List (Key × D), d = .lst (kvs.map pairD) ∧ R (.dK (mergeD kvs).1 (mergeD kvs).2) Γ1
theorem putD_nodup {κ : Type} [DecidableEq κ] {ks : List κ} {ds : List D} {k : κ} {d : D} (h : ks.Nodup) : (putD ks ds k d).1.Nodup := by
  unfold putD
  split
  · exact h
  · rename_i e
    rw [List.findIdx?_eq_none_iff] at e
    refine List.nodup_append.mpr ⟨h, by simp, fun a ha b hb => ?_⟩
    rw [List.mem_singleton.mp hb]
    intro z
    have := e a ha
    rw [z] at this
    simp at this
theorem pairs_is {Hk H : Hp} (ex : Ex Hk H) {K : PySem.W.Frag} : ∀ {kvs : List (Key × D)} {vs : List V}, IsL Hk (kvs.map pairD) vs → ∃ (ps : List Addr) (rs : List (Key × V)), vs = ps.map V.ref ∧ Paired (fun p kv => SqT K H p [kV kv.1, kv.2]) ps rs ∧ rs.map (·.1) = kvs.map (·.1) ∧ IsL Hk (kvs.map (·.2)) (rs.map (·.2))
  | [], _, h => ⟨[], [], h, .nil, rfl, rfl⟩
  | (k, d) :: kvs, _, ⟨x, r, h1, ⟨a, xs, e1, h2, h3⟩, h4⟩ => by
    obtain ⟨ps, rs, g1, g2, g3, g4⟩ := pairs_is (K := K) ex h4
    obtain ⟨v, w, e2, i1, i2⟩ := two_of h3
    subst e1 e2
    have ek : v = kV k := by
      cases k with
      | inl i => exact i1
      | inr s => exact i1
    subst ek
    exact ⟨a :: ps, (k, w) :: rs, by rw [h1, g1] <;> rfl, .cons (.inl (.inl (ex _ _ h2))) g2, by rw [List.map_cons, List.map_cons, g3], .cons i2 g4⟩
theorem merge_is {H : Hp} : ∀ (kvs : List (Key × D)) (rs : List (Key × V)), rs.map (·.1) = kvs.map (·.1) → IsL H (kvs.map (·.2)) (rs.map (·.2)) → ∀ (acc : List (Key × V)) (ks : List Key) (ds : List D), acc.map (·.1) = ks → ks.Nodup → IsL H ds (acc.map (·.2)) →
    (mergeK acc rs).map (·.1) = (kvs.foldl (fun a kv => putD a.1 a.2 kv.1 kv.2) (ks, ds)).1 ∧ IsL H (kvs.foldl (fun a kv => putD a.1 a.2 kv.1 kv.2) (ks, ds)).2 ((mergeK acc rs).map (·.2))
  | [], [], _, _, acc, ks, ds, h1, h2, h3 => ⟨h1, h3⟩
  | (k, d) :: kvs, [], h, _, _, _, _, _, _, _ => nomatch h
  | [], _ :: _, h, _, _, _, _, _, _, _ => nomatch h
  | (k, d) :: kvs, (k', v) :: rs, h, ⟨x, r, g1, g2, g3⟩, acc, ks, ds, h1, h2, h3 => by
    rw [List.map_cons, List.map_cons] at h
    obtain ⟨e1, e2⟩ := List.cons_eq_cons.mp h
    rw [List.map_cons] at g1
    obtain ⟨e3, e4⟩ := List.cons_eq_cons.mp g1
    have e1 : k' = k := e1
    have e3 : v = x := e3
    subst e1 e3 e4
    obtain ⟨q1, q2⟩ := putK_is (k := k') g2 h1 h2 h3
    exact merge_is kvs rs e2 g3 _ _ _ q1 (putD_nodup h2) q2
theorem pd_dict (hc : X.calm = true) (hg : Gl X "dict") (hm : X.mg "dict" = none) (he : PD X e ta) (h1 : starEach [e] X.env = (false, eval e X.env) :: starEach [] X.env := by rfl) (h2 : (backTo pos (starEach [] X.env)).any (·.1) = false := by rfl) :
    PD X (.Call (.Name "dict" p) [e] [] pos) (dDict ta) := by
  refine ⟨fun Γ R k E Hk H σ rp Q q => ⟨_, pe_callTy (call_dictP hc) hg hm rfl (pa_cons pe_w pa_nil h1) (by decide) (by decide) h1 h2, ?_⟩⟩
  refine he.run Γ _ k E Hk H σ rp _ fun v d Γ1 Hk1 H1 k1 r1 e1 i1 => ?_
  obtain ⟨kvs, rfl, k1⟩ := k1
  obtain ⟨a, us, rfl, ha, ia⟩ := i1
  obtain ⟨ps, rs, rfl, g2, g3, g4⟩ := pairs_is (K := X.K) r1.step.s ia
  refine ⟨a, ps, rs, rfl, .inl (.inl (r1.step.s _ _ ha)), g2, fun p0 hp => ?_⟩
  obtain ⟨m1, m2⟩ := merge_is kvs rs g3 g4 [] [] [] rfl List.nodup_nil rfl
  have s := Step.new (o := .dK (mergeK [] rs)) r1.step.s hp
  exact q _ _ Γ1 _ _ k1 (r1.grow s) (e1.trans s.k) ⟨p0, _, rfl, upd_same, m1, m2.mono s.k⟩

/-! ### two names at once -/
def dPar (i j : Nat) (ta tb : TD) : TDS := fun D Γ => ta Γ fun d Γ1 => tb Γ1 fun d2 Γ2 => D.nx ((Γ2.set i (.val d)).set j (.val d2))
theorem pds_par (i j : Nat) {px py pt : Pos} {k2 pt2} (ha : PD X a ta) (hb : PD X b tb) (hc : X.calm = true) (hN : X.N.Nodup) (hi : X.N[i]? = some x := by rfl) (hj : X.N[j]? = some y := by rfl) (hij : i ≠ j := by decide)
    (hx : X.env.scope.names.lookup x = some .local := by rfl) (hy : X.env.scope.names.lookup y = some .local := by rfl) (h1 : starEach [a, b] X.env = (false, eval a X.env) :: starEach [b] X.env := by rfl) (h2 : starEach [b] X.env = (false, eval b X.env) :: starEach [] X.env := by rfl)
    (hw : swappedStores [.Tuple [.Name x px, .Name y py] kt pt] (.Tuple [a, b] k2 pt2) X.env = pure (some [x, y]) := by rfl)
    (hs : swapsWithSole [.Tuple [.Name x px, .Name y py] kt pt] (.Tuple [a, b] k2 pt2) pos.line X.env = pure false := by rfl) : PDS1 X (.Assign [.Tuple [.Name x px, .Name y py] kt pt] (.Tuple [a, b] k2 pt2) pos) (dPar i j ta tb) := by
  refine ⟨fun D Γ k E Hk H σ rp F m => ⟨_, ps_par hc hN hi hj hij hx hy (pa_cons pe_w (pa_cons pe_w pa_nil h2) h1) hw hs, ?_⟩⟩
  refine ha.run Γ _ k E Hk H σ rp _ fun v d Γ1 Hk1 H1 k1 r1 e1 i1 => ?_
  refine hb.run Γ1 _ k1 E Hk1 H1 σ r1 _ fun v2 d2 Γ2 Hk2 H2 k2 r2 e2 i2 => ?_
  exact ⟨v, v2, rfl, m.nx _ Hk2 H2 _ k2 ((r2.set i (i1.mono e2)).set j i2)⟩
def dPar3 (i j l : Nat) (ta tb tc : TD) : TDS := fun D Γ => ta Γ fun d Γ1 => tb Γ1 fun d2 Γ2 => tc Γ2 fun d3 Γ3 => D.nx (((Γ3.set i (.val d)).set j (.val d2)).set l (.val d3))
theorem pds_par3 (i j l : Nat) {c : Expr} {tc : TD} {px py pz pt : Pos} {k2 pt2} (ha : PD X a ta) (hb : PD X b tb) (hcc : PD X c tc) (hc : X.calm = true) (hN : X.N.Nodup) (hi : X.N[i]? = some x := by rfl) (hj : X.N[j]? = some y := by rfl) (hl : X.N[l]? = some z := by rfl) (hij : i ≠ j := by decide) (hil : i ≠ l := by decide) (hjl : j ≠ l := by decide)
    (hx : X.env.scope.names.lookup x = some .local := by rfl) (hy : X.env.scope.names.lookup y = some .local := by rfl) (hz : X.env.scope.names.lookup z = some .local := by rfl) (h1 : starEach [a, b, c] X.env = (false, eval a X.env) :: starEach [b, c] X.env := by rfl) (h2 : starEach [b, c] X.env = (false, eval b X.env) :: starEach [c] X.env := by rfl) (h3 : starEach [c] X.env = (false, eval c X.env) :: starEach [] X.env := by rfl)
    (hw : swappedStores [.Tuple [.Name x px, .Name y py, .Name z pz] kt pt] (.Tuple [a, b, c] k2 pt2) X.env = pure (some [x, y, z]) := by rfl)
    (hs : swapsWithSole [.Tuple [.Name x px, .Name y py, .Name z pz] kt pt] (.Tuple [a, b, c] k2 pt2) pos.line X.env = pure false := by rfl) : PDS1 X (.Assign [.Tuple [.Name x px, .Name y py, .Name z pz] kt pt] (.Tuple [a, b, c] k2 pt2) pos) (dPar3 i j l ta tb tc) := by
  refine ⟨fun D Γ k E Hk H σ rp F m => ⟨_, ps_par3 hc hN hi hj hl hij hil hjl hx hy hz (pa_cons pe_w (pa_cons pe_w (pa_cons pe_w pa_nil h3) h2) h1) hw hs, ?_⟩⟩
  refine ha.run Γ _ k E Hk H σ rp _ fun v d Γ1 Hk1 H1 k1 r1 e1 i1 => ?_
  refine hb.run Γ1 _ k1 E Hk1 H1 σ r1 _ fun v2 d2 Γ2 Hk2 H2 k2 r2 e2 i2 => ?_
  refine hcc.run Γ2 _ k2 E Hk2 H2 σ r2 _ fun v3 d3 Γ3 Hk3 H3 k3 r3 e3 i3 => ?_
  exact ⟨v, v2, v3, rfl, m.nx _ Hk3 H3 _ k3 (((r3.set i ((i1.mono e2).mono e3)).set j (i2.mono e3)).set l i3)⟩
/-- x, y = .., .. both own -/
def dParN (i j : Nat) (tn tm : TDN) : TDS := fun D Γ => tn Γ fun o Γ1 => tm Γ1 fun o2 Γ2 => D.nx ((Γ2.set i (.own o)).set j (.own o2))
theorem pds_parN (i j : Nat) {px py pt : Pos} {k2 pt2} (ha : PDN X a tn) (hb : PDN X b tm) (hc : X.calm = true) (hN : X.N.Nodup) (hi0 : i ≠ 0 := by decide) (hj0 : j ≠ 0 := by decide) (hi : X.N[i]? = some x := by rfl) (hj : X.N[j]? = some y := by rfl) (hij : i ≠ j := by decide)
    (hx : X.env.scope.names.lookup x = some .local := by rfl) (hy : X.env.scope.names.lookup y = some .local := by rfl) (h1 : starEach [a, b] X.env = (false, eval a X.env) :: starEach [b] X.env := by rfl) (h2 : starEach [b] X.env = (false, eval b X.env) :: starEach [] X.env := by rfl)
    (hw : swappedStores [.Tuple [.Name x px, .Name y py] kt pt] (.Tuple [a, b] k2 pt2) X.env = pure (some [x, y]) := by rfl)
    (hs : swapsWithSole [.Tuple [.Name x px, .Name y py] kt pt] (.Tuple [a, b] k2 pt2) pos.line X.env = pure false := by rfl) : PDS1 X (.Assign [.Tuple [.Name x px, .Name y py] kt pt] (.Tuple [a, b] k2 pt2) pos) (dParN i j tn tm) := by
  refine ⟨fun D Γ k E Hk H σ rp F m => ⟨_, ps_par hc hN hi hj hij hx hy (pa_cons pe_w (pa_cons pe_w pa_nil h2) h1) hw hs, ?_⟩⟩
  refine ha.run Γ _ k E Hk H σ rp _ fun l o Γ1 Hk1 H1 k1 r1 e1 g1 g2 g3 g4 => ?_
  refine hb.run Γ1 _ k1 _ Hk1 H1 σ r1.near _ fun l2 o2 Γ2 Hk2 H2 k2 r2 e2 f1 f2 f3 f4 => ?_
  have lo : lessOwn Γ1 σ H1 l = H1 l := lessOwn_out g4
  have h2' : ∀ u, H1 l = some u → H2 l = some u := fun u q => r2.step.h l u (lo.trans q)
  have f2' : lessOwn Γ1 σ H1 l2 = none := f2
  have nl : l2 ≠ l := fun q => by
    rw [q, lo] at f2'
    exact g3.there f2'
  have k1' : Hk2 l = none := r2.step.g l g1 (show lessOwn Γ1 σ H1 l ≠ none by rw [lo]; exact g3.there)
  have f3' : E.2 l2 = none := by
    cases q : E.2 l2 with
    | none => rfl
    | some u =>
      exfalso
      have q1 := r1.step.h l2 u q
      by_cases w : ∃ (i : Nat) (o : OD), Γ1[i]? = some (.own o) ∧ σ[i]? = some (some (.ref l2))
      · obtain ⟨i, o, w1, w2⟩ := w
        obtain ⟨m, v1, _, v3, _⟩ := r1.own i o w1
        rw [w2] at v1
        cases v1
        rw [q] at v3
        cases v3
      · rw [lessOwn_out (fun i o w1 w2 => w ⟨i, o, w1, w2⟩)] at f2'
        rw [f2'] at q1
        cases q1
  refine ⟨.ref l, .ref l2, rfl, m.nx _ Hk2 H2 _ k2 ?_⟩
  have r3 := r1.far r2
  have ap2 : Apart Γ2 σ l := fun i o w1 w2 => by
    obtain ⟨m, v1, _, v3, _⟩ := r2.own i o w1
    rw [w2] at v1
    cases v1
    have v3' : lessOwn Γ1 σ H1 l = none := v3
    rw [lo] at v3'
    exact g3.there v3'
  have r4 := r3.setOwn i hi0 (g3.mono e2 h2') k1' g2 ap2
  refine r4.setOwn j hj0 f3 f1 f3' fun i' o' w1 w2 => ?_
  rcases get_set w1 with ⟨q1, _⟩ | ⟨q1, q2⟩
  · subst q1
    have hlt : i < σ.length := by
      have := (List.getElem?_eq_some_iff.mp w1).1
      rw [List.length_set] at this
      rw [r3.len]
      exact this
    rw [List.getElem?_set_self hlt] at w2
    cases w2
    exact nl rfl
  · rw [List.getElem?_set_ne q1] at w2
    exact f4 i' o' q2 w2

/-! ### a def whose answer is the caller's own -/
def SpN (f : List D → (OD → Prop) → Prop) : Sp := fun vs H Q _ => ∃ (Hk : Hp) (ds : List D) (K : OD → Prop), Ex Hk H ∧ IsL Hk ds vs ∧ f ds K ∧ ∀ o l Hk2 H2, K o → Step Hk H Hk2 H2 → Hk2 l = none → H l = none → OwnAt Hk2 H2 o l → Q (.ref l) H2
def dCallN (f : List D → (OD → Prop) → Prop) (tl : TDA) : TDN := fun Γ R => tl Γ fun ds Γ1 => f ds fun o => R o Γ1
theorem pdn_call {k : Nat} {fa : Addr} {fd : FuncData} {ps : List Str} {ff : List D → (OD → Prop) → Prop} (F : FnOk X.prog X.w X.K X.mg X.base CX0 k fa fd ps (SpN ff)) (hr : Room k X.A) (hg : Gl X x) (hm : X.mg x = some (.ref fa)) (hk : PySem.W.keepIn X.K (.ref fa) = true) (hb : Binds X.K fd ps [])
    (ha : PDA X (e :: es) tl) (hdb : (x == ("__debug__" : Str)) = false := by decide) (he : starEach (e :: es) X.env = (false, eval e X.env) :: starEach es X.env := by rfl) (hpl : (backTo pos (starEach es X.env)).any (·.1) = false := by rfl) :
    PDN X (.Call (.Name x p) (e :: es) [] pos) (dCallN ff tl) := by
  refine ⟨fun Γ R kk E Hk H σ rp Q q => ⟨_, pe_call F hr hg hm hk hb .nil pass0 pa_w hdb he hpl, ?_⟩⟩
  refine ha.run Γ _ kk E Hk H σ rp _ fun vs ds Γ1 Hk1 H1 k1 r1 e1 i1 => ?_
  exact ⟨Hk1, ds, _, r1.step.s, by rw [List.append_nil]; exact i1, k1, fun o l Hk2 H2 hd s h1 h2 h3 => q l o Γ1 Hk2 H2 hd (r1.grow s) (e1.trans s.k) h1 (r1.step.h.nn h2) h3 fun j o' w1 w2 => by
    obtain ⟨m, v1, _, _, v4⟩ := r1.own j o' w1
    rw [w2] at v1
    cases v1
    exact v4.there h2⟩
end
section
variable {P : Program} {w : World} {K : PySem.W.Frag} {mg : Str → Option Value} {base : Heap} {x qual : Str} {params : Arguments} {e : Expr} {pos : Pos} {scope : Scope} {f : Addr} {fd : FuncData} {N ps : List Str} {k : Nat} {ff : List D → (OD → Prop) → Prop}
theorem fn_okN (F : FunD K x qual params [.Return (some e) pos] scope [] [] f fd) (S : FnScope N ps scope) (hl : ∀ ds Kd, ff ds Kd → ds.length = ps.length)
    (hb : ∀ (cdv : Value) (A : Around) (outer : List Env) (s : Shared) (H : Hp) (E : XK), Room k (A.deeper (envOfC qual scope s.heap.objs.size f cdv)) →
      ∃ t, PDN (cxOf CX0 P w K mg base N qual scope f cdv A outer s H E) e t ∧ ∀ ds Kd, ff ds Kd → t (init N ps ds) fun o _ => Kd o) : FnOk P w K mg base CX0 (k + 1) f fd ps (SpN ff) := by
  refine F.ok S (fun vs H Q E h => ?_) (fun cdv A outer s H vs Q E hr h => ?_)
  · obtain ⟨Hk, ds, Kd, _, h2, h3, _⟩ := h
    rw [h2.len]
    exact hl ds Kd h3
  · obtain ⟨Hk, ds, Kd, h1, h2, h3, h4⟩ := h
    obtain ⟨t, ht, hq⟩ := hb cdv A outer s H E hr
    have r0 : Rp ⟨Hk, H, none⟩ (init N ps ds) Hk H (L2.start N vs) := by
      unfold L2.start init
      rw [show N.length - vs.length = N.length - ps.length by rw [h2.len, hl ds Kd h3]]
      exact Rp.start h1 h2 _
    refine ⟨_, pss_one (ps_ret pe_w), ?_⟩
    exact ht.run _ _ (hq ds Kd h3) ⟨Hk, H, none⟩ Hk H (L2.start N vs) r0 _ fun l o Γ Hk2 H2 k r e1 g1 g2 g3 _ => h4 o l Hk2 H2 k r.step g1 g2 g3
end
end DL
set_option maxHeartbeats 4000000
/-! readings upon data: comprehensions of two clauses, the length of a set comprehension, len and str of an own instance -/
namespace DL
open PySem PySem.Spec PyProof.Rows L2 NL
section
variable {E : En} {Γ : G} {Hk H Hk2 H2 : Hp} {σ : St}
/-- less of the entry asked -/
theorem Rp.thin {k h h' : Hp} {pn : Option Addr} (r : Rp ⟨k, h, pn⟩ Γ Hk H σ) (e : Ex h' h) : Rp ⟨k, h', pn⟩ Γ Hk H σ :=
  ⟨⟨r.step.k, e.trans r.step.h, r.step.s, fun a h1 h2 => r.step.g a h1 fun z => h2 (e.nn z)⟩, r.len, r.val, fun i o q => by
    obtain ⟨l, h1, h2, h3, h4⟩ := r.own i o q
    exact ⟨l, h1, h2, e.nn h3, h4⟩, r.sep, r.pin⟩
theorem Rp.far2 {Γ' : G} {σ' : St} {h' : Hp} (r : Rp E Γ Hk H σ) (q : Rp (E.nr Hk h') Γ' Hk2 H2 σ') (key : ∀ a, E.2 a ≠ none → h' a = H a) : Rp E Γ' Hk2 H2 σ' := by
  have nn : ∀ a, E.2 a ≠ none → H a ≠ none := fun a h z => h (r.step.h.nn z)
  refine ⟨⟨r.step.k.trans q.step.k, fun a o h => ?_, q.step.s, fun a h1 h2 => ?_⟩, q.len, q.val, fun i o h => ?_, q.sep, q.pin⟩
  · exact q.step.h a o ((key a (by rw [h]; exact fun z => nomatch z)).trans (r.step.h a o h))
  · exact q.step.g a (r.step.g a h1 h2) (show h' a ≠ none by rw [key a h2]; exact nn a h2)
  · obtain ⟨l, h1, h2, h3, h4⟩ := q.own i o h
    refine ⟨l, h1, h2, ?_, h4⟩
    cases z : E.2 l with
    | none => rfl
    | some u =>
      have z' : E.2 l ≠ none := by rw [z]; exact fun z => nomatch z
      exact absurd ((key l z').symm.trans h3) (nn l z')
theorem Rp.back2 {Γ2 Γ' : G} {σ2 : St} {vs : List Nat} {h' : Hp} (r : Rp E Γ Hk H σ) (q : Rp (E.nr Hk h') Γ2 Hk2 H2 σ2) (key : ∀ a, E.2 a ≠ none → h' a = H a) (no : noOwn vs Γ = true) (hl : Γ'.length = Γ.length)
    (hi : ∀ i, i ∈ vs → Γ'[i]? = Γ[i]?) (ho : ∀ i, i ∉ vs → Γ'[i]? = Γ2[i]?) (hσ : ∀ i, i ∉ vs → σ2[i]? = σ[i]?) : Rp E Γ' Hk2 H2 σ := by
  have q' : Rp (E.nr Hk h') Γ' Hk2 H2 σ := by
    refine ⟨q.step, by rw [r.len, hl], fun i d e => ?_, fun i o e => ?_, fun i j o o' l e1 e2 e3 e4 => ?_, fun l p ⟨o, e⟩ => by
      by_cases h : 0 ∈ vs
      · rw [hi 0 h] at e
        exact absurd h (noOwn_out no e)
      · rw [ho 0 h] at e
        rw [← hσ 0 h]
        exact q.pin l p ⟨o, e⟩⟩
    · by_cases h : i ∈ vs
      · rw [hi i h] at e
        obtain ⟨x, h1, h2⟩ := r.val i d e
        exact ⟨x, h1, h2.mono q.step.k⟩
      · rw [ho i h] at e
        obtain ⟨x, h1, h2⟩ := q.val i d e
        exact ⟨x, by rw [← hσ i h]; exact h1, h2⟩
    · by_cases h : i ∈ vs
      · rw [hi i h] at e
        exact absurd h (noOwn_out no e)
      · rw [ho i h] at e
        obtain ⟨l, h1, h2⟩ := q.own i o e
        exact ⟨l, by rw [← hσ i h]; exact h1, h2⟩
    · have n1 : i ∉ vs := fun h => by
        rw [hi i h] at e1
        exact absurd h (noOwn_out no e1)
      have n2 : j ∉ vs := fun h => by
        rw [hi j h] at e2
        exact absurd h (noOwn_out no e2)
      rw [ho i n1] at e1
      rw [ho j n2] at e2
      exact q.sep i j o o' l e1 e2 (by rw [hσ i n1]; exact e3) (by rw [hσ j n2]; exact e4)
  exact r.far2 q' key
end
section
variable {X : Cx} {pos p p2 p3 p4 apos pos' : Pos} {e e2 value o a b : Expr} {es : List Expr} {tl : TDA} {ta tb te tv tk : TD} {x y z : Str} {kt : Nat}
variable {elt kx vx tg iter tg1 iter1 : Expr} {scope : Scope} {own : List (Str × Nat)} {js js1 : List Nat} {ti ti1 : TDI} {g g1 : TDG} {vs1 : List Nat}
def BI (X : Cx) (scope : Scope) (tg iter : Expr) : TI := fun σ H R => Blk X scope fun Y => WI Y tg iter σ H R
theorem bi_ok {s : Shared} {H : Hp} {C : Addr} {cl : List (Str × Addr)} {fp : List Addr} : PI (X.blk s H scope (compEnvC scope cl C X.env) fp) tg iter (BI X scope tg iter) := ⟨fun pins s' σ H' R I h => pi_w.run pins s' σ H' R I (h s H C cl fp)⟩
/-- len({elt for tg in iter}), pure -/
def dLenSc (ti : TDI) (g : TDG) (te : TD) (vs : List Nat) : TD := fun Γ R => ti Γ fun items Γ1 => items.length ≤ 1000 ∧ noOwn vs Γ1 = true ∧ ∃ f : D → Key, (∀ d ∈ items, g d (wipeG Γ1 vs) fun Γ2 => te Γ2 fun e Γ4 => Γ4 = Γ2 ∧ e = kD (f d)) ∧ (items.map f).Nodup ∧ R (.int items.length) Γ1
theorem sc_run (hi : PDI X tg iter ti) (hj : ∀ j ∈ js, j ∈ own.map (·.2)) (hg : Blk X scope fun Y => PDg Y tg js g) (he : Blk X scope fun Y => PD Y elt te)
    {Γ : G} {R : D → G → Prop} (h : dLenSc ti g te (own.map (·.2)) Γ R) {E : En} {Hk H : Hp} {σ : St} (rp : Rp E Γ Hk H σ) {Q : VK} (q : ∀ (a : Addr) (S : Key → Bool) (n : Nat) H2 Γ' Hk2, H2 a = some (SetK X.prog X.w a S n) → n < 2 ^ 62 → R (.int n) Γ' → Rp E Γ' Hk2 H2 σ → Ex Hk Hk2 → Q (.ref a) H2) :
    tScK X.prog X.w (WI X tg iter) (BG X scope tg) tYes (BE X scope elt) (own.map (·.2)) σ H Q := by
  generalize own.map (·.2) = vs at *
  refine hi.run Γ _ h E Hk H σ rp _ fun J items Γ1 Hk1 H1 k1 r1 e1 it D hD => ?_
  obtain ⟨hz, no, f, step, nd, fin⟩ := k1
  have apD : Apart Γ1 σ D := r1.apart hD
  have hk1D : Hk1 D = none := r1.step.s.nn hD
  have l0 : lessOwn Γ1 σ H1 D = none := (lessOwn_out apD).trans hD
  let I : Nat → Hp → Prop := fun i H' => ∃ Hk' S, Rp (E.nr Hk1 (lessOwn Γ1 σ H1)) Γ1 Hk' H' σ ∧ Hk' D = none ∧ H' D = some (SetK X.prog X.w D S i) ∧ ∀ k, S k = true → k ∈ (items.take i).map f
  refine ⟨fun i m H' => m = items.length - i ∧ i ≤ items.length ∧ I i H', ⟨items.length, by simp, Nat.zero_le _, Hk1, _, r1.near.other l0 hk1D apD, hk1D, upd_same, fun k z => by cases z⟩, ?_⟩
  rintro i m H' ⟨rfl, hle, Hk', S, rI, hkD, hHD, hS⟩
  have ek : Ex Hk1 Hk' := rI.step.k
  by_cases hlt : i < items.length
  · refine .inr ⟨it.go i H' hlt (ek.trans rI.step.s), I (i + 1), fun H2 p2 => ⟨items.length - (i + 1), by omega, rfl, hlt, p2⟩, fun x H'' y => ?_⟩
    obtain ⟨d, hd⟩ : ∃ d, items[i]? = some d := ⟨_, List.getElem?_eq_getElem hlt⟩
    have htk : items.take (i + 1) = items.take i ++ [d] := by rw [List.take_add_one, hd] <;> rfl
    obtain ⟨Hk2, s2, ix⟩ := it.yld i d Hk' H' x H'' hd ek rI.step.s y
    have r2 : Rp (E.nr Hk1 (lessOwn Γ1 σ H1)) Γ1 Hk2 H'' σ := rI.grow s2
    have hD2 : H'' D = some (SetK X.prog X.w D S i) := s2.h _ _ hHD
    have hk2 : Hk2 D = none := s2.g D hkD (by rw [hHD]; exact fun z => nomatch z)
    have lD : lessOwn Γ1 σ H'' D = some (SetK X.prog X.w D S i) := (lessOwn_out apD).trans hD2
    have st := step d (List.mem_of_getElem? hd)
    intro s Hb C cl fp
    refine (hg s Hb C cl fp).run d _ _ st _ Hk2 H'' _ x (r2.near.wipe vs) ix _ fun Γ2 σ2 k2 r3 hs hΓ => ?_
    have hσ : ∀ j, j ∉ vs → σ2[j]? = σ[j]? := fun j hn => (hs.2 j fun z => hn (hj j z)).trans (wipe_out2 hn)
    have hΓ2 : ∀ j, j ∉ vs → Γ2[j]? = Γ1[j]? := fun j hn => (hΓ j fun z => hn (hj j z)).trans (wipeG_out hn)
    refine ⟨wipe_ext (hs.1.trans (wipe_length _ _)) hσ, ?_⟩
    show (if true = true then BE X scope elt σ2 H'' (fun y H4 => ∃ (c : Key) (S : Key → Bool) (n : Nat), y = kV c ∧ H4 D = some (SetK X.prog X.w D S n) ∧ n + 1 < scanBound ∧ I (i + 1) (upd H4 D (SetK X.prog X.w D (fun j => S j || decide (j = c)) (if S c = true then n else n + 1)))) else I (i + 1) H'')
    rw [if_pos rfl]
    intro s Hb C cl fp
    refine (he s Hb C cl fp).run Γ2 _ k2 _ Hk2 H'' σ2 r3 _ fun v e Γ4 Hk4 H4 k4 r5 e5 iv => ?_
    obtain ⟨rfl, rfl⟩ := k4
    have h4 : H4 D = some (SetK X.prog X.w D S i) := r5.step.h D _ lD
    have hk4 : Hk4 D = none := r5.step.g D hk2 (show lessOwn Γ1 σ H'' D ≠ none from by rw [lD]; exact fun z => nomatch z)
    have hno : S (f d) = false := by
      cases q : S (f d) with
      | false => rfl
      | true =>
        exfalso
        have m1 := hS _ q
        have nd2 : ((items.take (i + 1)).map f).Nodup := by
          have e : items.take (i + 1) ++ items.drop (i + 1) = items := List.take_append_drop _ _
          rw [← e, List.map_append] at nd
          exact (List.nodup_append.mp nd).1
        rw [htk, List.map_append] at nd2
        exact (List.nodup_append.mp nd2).2.2 _ m1 _ (List.mem_singleton.mpr rfl) rfl
    have iv' : v = kV (f d) := by
      cases hfd : f d with
      | inl n => rw [hfd] at iv; exact iv
      | inr n => rw [hfd] at iv; exact iv
    refine ⟨f d, S, i, iv', h4, by unfold scanBound; omega, Hk4, fun j => S j || decide (j = f d), ?_, hk4, ?_, fun k hk => ?_⟩
    · exact (r2.back r5 no rfl (fun _ _ => rfl) (fun j hn => (hΓ2 j hn).symm) hσ).other l0 hk4 apD
    · rw [upd_same, hno]
      rfl
    · rw [htk, List.map_append]
      rcases Bool.or_eq_true_iff.mp hk with z | z
      · exact List.mem_append_left _ (hS k z)
      · rw [of_decide_eq_true z]
        exact List.mem_append_right _ (List.mem_singleton.mpr rfl)
  · have e : i = items.length := by omega
    subst e
    exact .inl ⟨it.stop H' (ek.trans rI.step.s), q D S items.length H' Γ1 Hk' hHD (by omega) fin (r1.far rI) (e1.trans ek)⟩
theorem pd_lenSc (hc : X.calm = true) (hN : X.N.Nodup) (hg' : Gl X "len") (hm : X.mg "len" = none) (hi : PDI X tg iter ti) (ok : BlkOk X.N X.env.scope scope own) (hj : ∀ j ∈ js, j ∈ own.map (·.2)) (hg : Blk X scope fun Y => PDg Y tg js g) (he : Blk X scope fun Y => PD Y elt te)
    (hs : ∀ x, foldedSetIterable iter X.env x = pure x := by intro _; rfl) (h3 : starEach [.SetComp elt [⟨tg, iter, [], 0⟩] scope p3] X.env = (false, eval (.SetComp elt [⟨tg, iter, [], 0⟩] scope p3) X.env) :: starEach [] X.env := by rfl) (h4 : (backTo pos (starEach [] X.env)).any (·.1) = false := by rfl) :
    PD X (.Call (.Name "len" p) [.SetComp elt [⟨tg, iter, [], 0⟩] scope p3] [] pos) (dLenSc ti g te (own.map (·.2))) := by
  refine ⟨fun Γ R k E Hk H σ rp Q q => ⟨_, pe_callB cr_lenK hg' hm rfl (pa_cons (pe_scK hc hN pi_w ok (fun _ _ _ _ _ => bg_ok) (fun _ _ _ _ _ => pts_nil) (fun _ _ _ _ _ => be_ok) hs) pa_nil h3) (by decide) (by decide) h3 h4, ?_⟩⟩
  show tScK X.prog X.w (WI X tg iter) (BG X scope tg) tYes (BE X scope elt) (own.map (·.2)) σ H fun v H2 => ∃ (a : Addr) (S : Key → Bool) (n : Nat), [v] = [V.ref a] ∧ H2 a = some (SetK X.prog X.w a S n) ∧ n < 2 ^ 62 ∧ Q (.int (n : Int)) H2
  exact sc_run hi hj hg he k rp fun a S n H2 Γ' Hk2 h1 h2 h3 h5 h6 => ⟨a, S, n, rfl, h1, h2, q _ _ Γ' Hk2 H2 h3 h5 h6 rfl⟩
/-- [elt for tg in iter for tg1 in iter1], pure -/
def dLc2 (ti : TDI) (g : TDG) (ti1 : TDI) (g1 : TDG) (te : TD) (vs vs1 : List Nat) : TD := fun Γ R => ti Γ fun items Γ1 => noOwn vs Γ1 = true ∧ ∃ (F : D → List D) (f : D → D → D), (items.flatMap F).length ≤ sizeLine ∧
  (∀ d ∈ items, g d (wipeG Γ1 vs) fun Γ2 => noOwn vs1 Γ2 = true ∧ ti1 Γ2 fun items1 Γ3 => Γ3 = Γ2 ∧ items1 = F d ∧ ∀ d1 ∈ F d, g1 d1 (wipeG Γ2 vs1) fun Γ4 => te Γ4 fun e Γ5 => Γ5 = Γ4 ∧ e = f d d1) ∧ R (.lst (items.flatMap fun d => (F d).map (f d))) Γ1
theorem lc2_run (hi : PDI X tg iter ti) (hj : ∀ j ∈ js, j ∈ own.map (·.2)) (hj1 : ∀ j ∈ js1, j ∈ vs1) (hg : Blk X scope fun Y => PDg Y tg js g) (hi1 : Blk X scope fun Y => PDI Y tg1 iter1 ti1) (hg1 : Blk X scope fun Y => PDg Y tg1 js1 g1) (he : Blk X scope fun Y => PD Y elt te)
    {Γ : G} {R : D → G → Prop} (h : dLc2 ti g ti1 g1 te (own.map (·.2)) vs1 Γ R) {E : En} {Hk H : Hp} {σ : St} (rp : Rp E Γ Hk H σ) {Q : VK} (q : ∀ v d Γ' Hk2 H2, R d Γ' → Rp E Γ' Hk2 H2 σ → Ex Hk Hk2 → Is Hk2 d v → Q v H2) :
    tLc2 (WI X tg iter) (BG X scope tg) tYes (BI X scope tg1 iter1) (BG X scope tg1) tYes (BE X scope elt) (own.map (·.2)) vs1 σ H Q := by
  generalize own.map (·.2) = vs at *
  refine hi.run Γ _ h E Hk H σ rp _ fun J items Γ1 Hk1 H1 k1 r1 e1 it D hD => ?_
  obtain ⟨no, F, f, hz, step, fin⟩ := k1
  have apD : Apart Γ1 σ D := r1.apart hD
  have hk1D : Hk1 D = none := r1.step.s.nn hD
  have l0 : lessOwn Γ1 σ H1 D = none := (lessOwn_out apD).trans hD
  let dn : Nat → List DL.D := fun i => (items.take i).flatMap fun d => (F d).map (f d)
  let I : Nat → Hp → Prop := fun i H' => ∃ Hk' acc, Rp (E.nr Hk1 (lessOwn Γ1 σ H1)) Γ1 Hk' H' σ ∧ Hk' D = none ∧ H' D = some (.lst acc) ∧ IsL Hk' (dn i) acc
  refine ⟨fun i m H' => m = items.length - i ∧ i ≤ items.length ∧ I i H', ⟨items.length, by simp, Nat.zero_le _, Hk1, [], r1.near.other l0 hk1D apD, hk1D, upd_same, rfl⟩, ?_⟩
  rintro i m H' ⟨rfl, hle, Hk', acc, rI, hkD, hHD, iacc⟩
  have ek : Ex Hk1 Hk' := rI.step.k
  by_cases hlt : i < items.length
  · refine .inr ⟨it.go i H' hlt (ek.trans rI.step.s), I (i + 1), fun H2 p2 => ⟨items.length - (i + 1), by omega, rfl, hlt, p2⟩, fun x H'' y => ?_⟩
    obtain ⟨d, hd⟩ : ∃ d, items[i]? = some d := ⟨_, List.getElem?_eq_getElem hlt⟩
    have htk : items.take (i + 1) = items.take i ++ [d] := by rw [List.take_add_one, hd] <;> rfl
    have hdn : dn (i + 1) = dn i ++ (F d).map (f d) := by
      show (items.take (i + 1)).flatMap _ = _
      rw [htk, List.flatMap_append]
      simp
      rfl
    obtain ⟨Hk2, s2, ix⟩ := it.yld i d Hk' H' x H'' hd ek rI.step.s y
    have r2 : Rp (E.nr Hk1 (lessOwn Γ1 σ H1)) Γ1 Hk2 H'' σ := rI.grow s2
    have hD2 : H'' D = some (.lst acc) := s2.h _ _ hHD
    have hk2 : Hk2 D = none := s2.g D hkD (by rw [hHD]; exact fun z => nomatch z)
    have lD : lessOwn Γ1 σ H'' D = some (.lst acc) := (lessOwn_out apD).trans hD2
    have st := step d (List.mem_of_getElem? hd)
    intro s Hb C cl fp
    refine (hg s Hb C cl fp).run d _ _ st _ Hk2 H'' _ x (r2.near.wipe vs) ix _ fun Γ2 σ2 k2 r3 hs hΓ => ?_
    obtain ⟨no1, k2⟩ := k2
    have hσ : ∀ j, j ∉ vs → σ2[j]? = σ[j]? := fun j hn => (hs.2 j fun z => hn (hj j z)).trans (wipe_out2 hn)
    have hΓ2 : ∀ j, j ∉ vs → Γ2[j]? = Γ1[j]? := fun j hn => (hΓ j fun z => hn (hj j z)).trans (wipeG_out hn)
    refine ⟨wipe_ext (hs.1.trans (wipe_length _ _)) hσ, ?_⟩
    show (if true = true then BI X scope tg1 iter1 σ2 H'' (fun J1 H4 => _) else I (i + 1) H'')
    rw [if_pos rfl]
    intro s Hb C cl fp
    refine (hi1 s Hb C cl fp).run Γ2 _ k2 _ Hk2 H'' σ2 r3 _ fun J1 items1 Γ3 Hk4 H4 k4 r4 e4 it1 => ?_
    obtain ⟨rfl, rfl, step1⟩ := k4
    have hD4 : H4 D = some (.lst acc) := r4.step.h D _ lD
    have hk4 : Hk4 D = none := r4.step.g D hk2 (show lessOwn Γ1 σ H'' D ≠ none from by rw [lD]; exact fun z => nomatch z)
    have ap4 : Apart Γ3 σ2 D := fun i o w1 w2 => by
      obtain ⟨l, v1, _, v3, _⟩ := r4.own i o w1
      rw [w2] at v1
      cases v1
      have v3' : lessOwn Γ1 σ H'' D = none := v3
      rw [lD] at v3'
      cases v3'
    -- the inner entry: all but the list
    have r4' : Rp ((E.nr Hk1 (lessOwn Γ1 σ H1)).nr Hk2 (less D (lessOwn Γ1 σ H''))) Γ3 Hk4 H4 σ2 := r4.thin less_ex
    have key1 : ∀ a, (E.nr Hk1 (lessOwn Γ1 σ H1)).2 a ≠ none → less D (lessOwn Γ1 σ H'') a = H'' a := fun a ha => by
      have na : a ≠ D := fun z => ha (by rw [z]; exact l0)
      rw [less_ne na]
      refine lessOwn_out fun j o w1 w2 => ?_
      obtain ⟨l, v1, _, v3, _⟩ := r2.own j o w1
      rw [w2] at v1
      cases v1
      exact ha v3
    let I1 : Nat → Hp → Prop := fun j H' => ∃ Hk' acc', Rp ((E.nr Hk1 (lessOwn Γ1 σ H1)).nr Hk2 (less D (lessOwn Γ1 σ H''))) Γ3 Hk' H' σ2 ∧ Ex Hk4 Hk' ∧ Hk' D = none ∧ H' D = some (.lst acc') ∧ IsL Hk' (dn i ++ ((F d).take j).map (f d)) acc'
    refine ⟨fun j m H' => m = (F d).length - j ∧ j ≤ (F d).length ∧ I1 j H', ⟨(F d).length, by simp, Nat.zero_le _, Hk4, acc, r4', Ex.refl _, hk4, hD4, ?_⟩, ?_⟩
    · rw [List.take_zero, List.map_nil, List.append_nil]
      exact iacc.mono (s2.k.trans e4)
    rintro j m H6 ⟨rfl, hle1, Hk6, acc6, r6, e6, hk6, hH6, i6⟩
    by_cases hlt1 : j < (F d).length
    · refine .inr ⟨it1.go j H6 hlt1 (e6.trans r6.step.s), I1 (j + 1), fun H2 p2 => ⟨(F d).length - (j + 1), by omega, rfl, hlt1, p2⟩, fun x1 H7 y1 => ?_⟩
      obtain ⟨d1, hd1⟩ : ∃ d1, (F d)[j]? = some d1 := ⟨_, List.getElem?_eq_getElem hlt1⟩
      have htk1 : (F d).take (j + 1) = (F d).take j ++ [d1] := by rw [List.take_add_one, hd1] <;> rfl
      obtain ⟨Hk7, s7, ix1⟩ := it1.yld j d1 Hk6 H6 x1 H7 hd1 e6 r6.step.s y1
      have r7 := r6.grow s7
      have hH7 : H7 D = some (.lst acc6) := s7.h _ _ hH6
      have hk7 : Hk7 D = none := s7.g D hk6 (by rw [hH6]; exact fun z => nomatch z)
      have l7 : lessOwn Γ3 σ2 H7 D = some (.lst acc6) := (lessOwn_out ap4).trans hH7
      have st1 := step1 d1 (List.mem_of_getElem? hd1)
      intro s Hb C cl fp
      refine (hg1 s Hb C cl fp).run d1 _ _ st1 _ Hk7 H7 _ x1 (r7.near.wipe vs1) ix1 _ fun Γ8 σ8 k8 r8 hs8 hΓ8 => ?_
      have hσ8 : ∀ j, j ∉ vs1 → σ8[j]? = σ2[j]? := fun j hn => (hs8.2 j fun z => hn (hj1 j z)).trans (wipe_out2 hn)
      have hΓ8' : ∀ j, j ∉ vs1 → Γ8[j]? = Γ3[j]? := fun j hn => (hΓ8 j fun z => hn (hj1 j z)).trans (wipeG_out hn)
      refine ⟨wipe_ext (hs8.1.trans (wipe_length _ _)) hσ8, ?_⟩
      show (if true = true then BE X scope elt σ8 H7 (fun y H7 => ∃ acc, H7 D = some (HO.lst acc) ∧ acc.length < sizeLine ∧ I1 (j + 1) (upd H7 D (HO.lst (acc ++ [y])))) else I1 (j + 1) H7)
      rw [if_pos rfl]
      intro s Hb C cl fp
      refine (he s Hb C cl fp).run Γ8 _ k8 _ Hk7 H7 σ8 r8 _ fun v e Γ9 Hk9 H9 k9 r9 e9 iv => ?_
      obtain ⟨rfl, rfl⟩ := k9
      have hH9 : H9 D = some (.lst acc6) := r9.step.h D _ l7
      have hk9 : Hk9 D = none := r9.step.g D hk7 (show lessOwn Γ3 σ2 H7 D ≠ none from by rw [l7]; exact fun z => nomatch z)
      have r10 : Rp ((E.nr Hk1 (lessOwn Γ1 σ H1)).nr Hk2 (less D (lessOwn Γ1 σ H''))) Γ3 Hk9 H9 σ2 := r7.back r9 no1 rfl (fun _ _ => rfl) (fun j hn => (hΓ8' j hn).symm) hσ8
      refine ⟨acc6, hH9, ?_, Hk9, acc6 ++ [v], r10.other less_at hk9 ap4, e6.trans (s7.k.trans e9), hk9, upd_same, ?_⟩
      · rw [i6.len]
        have l1 : (dn i ++ ((F d).take j).map (f d)).length < (items.flatMap F).length := by
          have e : items.take (i + 1) ++ items.drop (i + 1) = items := List.take_append_drop _ _
          have e2 : (dn i).length = ((items.take i).flatMap F).length := by
            show ((items.take i).flatMap fun d => (F d).map (f d)).length = _
            rw [List.length_flatMap, List.length_flatMap]
            congr 1
            exact List.map_congr_left fun d _ => List.length_map _
          have e3 : (items.flatMap F).length = ((items.take i).flatMap F).length + (F d).length + ((items.drop (i + 1)).flatMap F).length := by
            conv => lhs; rw [← e, htk]
            simp [List.flatMap_append]
            omega
          rw [List.length_append, e2, List.length_map, List.length_take, e3]
          omega
        omega
      · rw [htk1, List.map_append, ← List.append_assoc]
        exact (i6.mono (s7.k.trans e9)).append (.cons iv .nil)
    · have ej : j = (F d).length := by omega
      subst ej
      refine .inl ⟨it1.stop H6 (e6.trans r6.step.s), Hk6, acc6, ?_, hk6, hH6, ?_⟩
      · exact r2.back2 r6 key1 no rfl (fun _ _ => rfl) (fun j hn => (hΓ2 j hn).symm) hσ
      · rw [List.take_length] at i6
        rw [hdn]
        exact i6
  · have e : i = items.length := by omega
    subst e
    refine .inl ⟨it.stop H' (ek.trans rI.step.s), ?_⟩
    obtain ⟨ek2, r6⟩ := (r1.far rI).know (show E.2 D = none from r1.step.h.nn hD) hkD hHD apD
    have hdn : dn items.length = items.flatMap fun d => (F d).map (f d) := by
      show (items.take items.length).flatMap _ = _
      rw [List.take_length]
    rw [hdn] at iacc
    exact q _ _ Γ1 _ H' fin r6 ((e1.trans ek).trans ek2) ⟨D, acc, rfl, upd_same, iacc.mono ek2⟩
theorem pd_lc2 (hc : X.calm = true) (hN : X.N.Nodup) (hi : PDI X tg iter ti) (ok : BlkOk X.N X.env.scope scope own) (hv : ∀ i ∈ vs1, i ∈ own.map (·.2)) (hj : ∀ j ∈ js, j ∈ own.map (·.2)) (hj1 : ∀ j ∈ js1, j ∈ vs1) (hg : Blk X scope fun Y => PDg Y tg js g) (hi1 : Blk X scope fun Y => PDI Y tg1 iter1 ti1) (hg1 : Blk X scope fun Y => PDg Y tg1 js1 g1) (he : Blk X scope fun Y => PD Y elt te)
    (hs : ∀ x, foldedSetIterable iter X.env x = pure x := by intro _; rfl) (hs1 : ∀ env x, foldedSetIterable iter1 env x = pure x := by intro _ _; rfl) : PD X (.ListComp elt [⟨tg, iter, [], 0⟩, ⟨tg1, iter1, [], 0⟩] scope pos) (dLc2 ti g ti1 g1 te (own.map (·.2)) vs1) :=
  ⟨fun _ _ h _ _ _ _ rp _ q => ⟨_, pe_lc2 hc hN pi_w ok hv (fun _ _ _ _ _ => bg_ok) (fun _ _ _ _ _ => pts_nil) (fun _ _ _ _ _ => bi_ok) (fun _ _ _ _ _ => bg_ok) (fun _ _ _ _ _ => pts_nil) (fun _ _ _ _ _ => be_ok) hs hs1, lc2_run hi hj hj1 hg hi1 hg1 he h rp q⟩⟩
end
end DL
set_option maxHeartbeats 4000000
/-! readings upon data: a dict comprehension of two clauses; len and str of an own instance -/
namespace DL
open PySem PySem.Spec PyProof.Rows L2 NL
section
variable {X : Cx} {pos p p2 p3 p4 apos pos' : Pos} {e e2 value o a b : Expr} {es : List Expr} {tl : TDA} {ta tb te tv tk : TD} {x y z : Str} {kt : Nat}
variable {elt kx vx tg iter tg1 iter1 : Expr} {scope : Scope} {own : List (Str × Nat)} {js js1 : List Nat} {ti ti1 : TDI} {g g1 : TDG} {vs1 : List Nat}
/-- {kx: vx for tg in iter for tg1 in iter1}, keys ints; nothing is told of the answer -/
def dDc2 (ti : TDI) (g : TDG) (ti1 : TDI) (g1 : TDG) (tk tv : TD) (vs vs1 : List Nat) : TD := fun Γ R => ti Γ fun items Γ1 => noOwn vs Γ1 = true ∧ ∃ F : D → List D, (items.flatMap F).length ≤ sizeLine ∧
  (∀ d ∈ items, g d (wipeG Γ1 vs) fun Γ2 => noOwn vs1 Γ2 = true ∧ ti1 Γ2 fun items1 Γ3 => Γ3 = Γ2 ∧ items1 = F d ∧ ∀ d1 ∈ F d, g1 d1 (wipeG Γ2 vs1) fun Γ4 => tk Γ4 fun k Γ5 => ∃ n : Int, k = .int n ∧ tv Γ5 fun _ Γ6 => Γ6 = Γ4) ∧ R .any Γ1
theorem dc2_run (hi : PDI X tg iter ti) (hj : ∀ j ∈ js, j ∈ own.map (·.2)) (hj1 : ∀ j ∈ js1, j ∈ vs1) (hg : Blk X scope fun Y => PDg Y tg js g) (hi1 : Blk X scope fun Y => PDI Y tg1 iter1 ti1) (hg1 : Blk X scope fun Y => PDg Y tg1 js1 g1) (hk : Blk X scope fun Y => PD Y kx tk) (he : Blk X scope fun Y => PD Y vx tv)
    {Γ : G} {R : D → G → Prop} (h : dDc2 ti g ti1 g1 tk tv (own.map (·.2)) vs1 Γ R) {E : En} {Hk H : Hp} {σ : St} (rp : Rp E Γ Hk H σ) {Q : VK} (q : ∀ v d Γ' Hk2 H2, R d Γ' → Rp E Γ' Hk2 H2 σ → Ex Hk Hk2 → Is Hk2 d v → Q v H2) :
    tDc2 (WI X tg iter) (BG X scope tg) tYes (BI X scope tg1 iter1) (BG X scope tg1) tYes (BE X scope kx) (BE X scope vx) (own.map (·.2)) vs1 σ H Q := by
  generalize own.map (·.2) = vs at *
  refine hi.run Γ _ h E Hk H σ rp _ fun J items Γ1 Hk1 H1 k1 r1 e1 it D hD => ?_
  obtain ⟨no, F, hz, step, fin⟩ := k1
  have apD : Apart Γ1 σ D := r1.apart hD
  have hk1D : Hk1 D = none := r1.step.s.nn hD
  have l0 : lessOwn Γ1 σ H1 D = none := (lessOwn_out apD).trans hD
  let dn : Nat → Nat := fun i => ((items.take i).flatMap F).length
  let I : Nat → Hp → Prop := fun i H' => ∃ Hk' acc, Rp (E.nr Hk1 (lessOwn Γ1 σ H1)) Γ1 Hk' H' σ ∧ Hk' D = none ∧ H' D = some (.dK acc) ∧ acc.length ≤ dn i
  refine ⟨fun i m H' => m = items.length - i ∧ i ≤ items.length ∧ I i H', ⟨items.length, by simp, Nat.zero_le _, Hk1, [], r1.near.other l0 hk1D apD, hk1D, upd_same, Nat.zero_le _⟩, ?_⟩
  rintro i m H' ⟨rfl, hle, Hk', acc, rI, hkD, hHD, iacc⟩
  have ek : Ex Hk1 Hk' := rI.step.k
  by_cases hlt : i < items.length
  · refine .inr ⟨it.go i H' hlt (ek.trans rI.step.s), I (i + 1), fun H2 p2 => ⟨items.length - (i + 1), by omega, rfl, hlt, p2⟩, fun x H'' y => ?_⟩
    obtain ⟨d, hd⟩ : ∃ d, items[i]? = some d := ⟨_, List.getElem?_eq_getElem hlt⟩
    have htk : items.take (i + 1) = items.take i ++ [d] := by rw [List.take_add_one, hd] <;> rfl
    have hdn : dn (i + 1) = dn i + (F d).length := by
      show ((items.take (i + 1)).flatMap F).length = _
      rw [htk, List.flatMap_append, List.length_append]
      show dn i + _ = _
      rw [List.flatMap_cons, List.flatMap_nil, List.append_nil]
    obtain ⟨Hk2, s2, ix⟩ := it.yld i d Hk' H' x H'' hd ek rI.step.s y
    have r2 : Rp (E.nr Hk1 (lessOwn Γ1 σ H1)) Γ1 Hk2 H'' σ := rI.grow s2
    have hD2 : H'' D = some (.dK acc) := s2.h _ _ hHD
    have hk2 : Hk2 D = none := s2.g D hkD (by rw [hHD]; exact fun z => nomatch z)
    have lD : lessOwn Γ1 σ H'' D = some (.dK acc) := (lessOwn_out apD).trans hD2
    have st := step d (List.mem_of_getElem? hd)
    intro s Hb C cl fp
    refine (hg s Hb C cl fp).run d _ _ st _ Hk2 H'' _ x (r2.near.wipe vs) ix _ fun Γ2 σ2 k2 r3 hs hΓ => ?_
    obtain ⟨no1, k2⟩ := k2
    have hσ : ∀ j, j ∉ vs → σ2[j]? = σ[j]? := fun j hn => (hs.2 j fun z => hn (hj j z)).trans (wipe_out2 hn)
    have hΓ2 : ∀ j, j ∉ vs → Γ2[j]? = Γ1[j]? := fun j hn => (hΓ j fun z => hn (hj j z)).trans (wipeG_out hn)
    refine ⟨wipe_ext (hs.1.trans (wipe_length _ _)) hσ, ?_⟩
    show (if true = true then BI X scope tg1 iter1 σ2 H'' (fun J1 H4 => _) else I (i + 1) H'')
    rw [if_pos rfl]
    intro s Hb C cl fp
    refine (hi1 s Hb C cl fp).run Γ2 _ k2 _ Hk2 H'' σ2 r3 _ fun J1 items1 Γ3 Hk4 H4 k4 r4 e4 it1 => ?_
    obtain ⟨rfl, rfl, step1⟩ := k4
    have hD4 : H4 D = some (.dK acc) := r4.step.h D _ lD
    have hk4 : Hk4 D = none := r4.step.g D hk2 (show lessOwn Γ1 σ H'' D ≠ none from by rw [lD]; exact fun z => nomatch z)
    have ap4 : Apart Γ3 σ2 D := fun i o w1 w2 => by
      obtain ⟨l, v1, _, v3, _⟩ := r4.own i o w1
      rw [w2] at v1
      cases v1
      have v3' : lessOwn Γ1 σ H'' D = none := v3
      rw [lD] at v3'
      cases v3'
    -- the inner entry: all but the list
    have r4' : Rp ((E.nr Hk1 (lessOwn Γ1 σ H1)).nr Hk2 (less D (lessOwn Γ1 σ H''))) Γ3 Hk4 H4 σ2 := r4.thin less_ex
    have key1 : ∀ a, (E.nr Hk1 (lessOwn Γ1 σ H1)).2 a ≠ none → less D (lessOwn Γ1 σ H'') a = H'' a := fun a ha => by
      have na : a ≠ D := fun z => ha (by rw [z]; exact l0)
      rw [less_ne na]
      refine lessOwn_out fun j o w1 w2 => ?_
      obtain ⟨l, v1, _, v3, _⟩ := r2.own j o w1
      rw [w2] at v1
      cases v1
      exact ha v3
    let I1 : Nat → Hp → Prop := fun j H' => ∃ Hk' acc', Rp ((E.nr Hk1 (lessOwn Γ1 σ H1)).nr Hk2 (less D (lessOwn Γ1 σ H''))) Γ3 Hk' H' σ2 ∧ Ex Hk4 Hk' ∧ Hk' D = none ∧ H' D = some (.dK acc') ∧ acc'.length ≤ dn i + j
    refine ⟨fun j m H' => m = (F d).length - j ∧ j ≤ (F d).length ∧ I1 j H', ⟨(F d).length, by simp, Nat.zero_le _, Hk4, acc, r4', Ex.refl _, hk4, hD4, ?_⟩, ?_⟩
    · exact iacc
    rintro j m H6 ⟨rfl, hle1, Hk6, acc6, r6, e6, hk6, hH6, i6⟩
    by_cases hlt1 : j < (F d).length
    · refine .inr ⟨it1.go j H6 hlt1 (e6.trans r6.step.s), I1 (j + 1), fun H2 p2 => ⟨(F d).length - (j + 1), by omega, rfl, hlt1, p2⟩, fun x1 H7 y1 => ?_⟩
      obtain ⟨d1, hd1⟩ : ∃ d1, (F d)[j]? = some d1 := ⟨_, List.getElem?_eq_getElem hlt1⟩
      have htk1 : (F d).take (j + 1) = (F d).take j ++ [d1] := by rw [List.take_add_one, hd1] <;> rfl
      obtain ⟨Hk7, s7, ix1⟩ := it1.yld j d1 Hk6 H6 x1 H7 hd1 e6 r6.step.s y1
      have r7 := r6.grow s7
      have hH7 : H7 D = some (.dK acc6) := s7.h _ _ hH6
      have hk7 : Hk7 D = none := s7.g D hk6 (by rw [hH6]; exact fun z => nomatch z)
      have l7 : lessOwn Γ3 σ2 H7 D = some (.dK acc6) := (lessOwn_out ap4).trans hH7
      have st1 := step1 d1 (List.mem_of_getElem? hd1)
      intro s Hb C cl fp
      refine (hg1 s Hb C cl fp).run d1 _ _ st1 _ Hk7 H7 _ x1 (r7.near.wipe vs1) ix1 _ fun Γ8 σ8 k8 r8 hs8 hΓ8 => ?_
      have hσ8 : ∀ j, j ∉ vs1 → σ8[j]? = σ2[j]? := fun j hn => (hs8.2 j fun z => hn (hj1 j z)).trans (wipe_out2 hn)
      have hΓ8' : ∀ j, j ∉ vs1 → Γ8[j]? = Γ3[j]? := fun j hn => (hΓ8 j fun z => hn (hj1 j z)).trans (wipeG_out hn)
      refine ⟨wipe_ext (hs8.1.trans (wipe_length _ _)) hσ8, ?_⟩
      show (if true = true then BE X scope kx σ8 H7 (fun y H7 => BE X scope vx σ8 H7 fun z H8 => ∃ kvs k, y = kV k ∧ H8 D = some (HO.dK kvs) ∧ kvs.length < sizeLine ∧ I1 (j + 1) (upd H8 D (HO.dK (putK kvs k z)))) else I1 (j + 1) H7)
      rw [if_pos rfl]
      intro s Hb C cl fp
      refine (hk s Hb C cl fp).run Γ8 _ k8 _ Hk7 H7 σ8 r8 _ fun v0 e0 Γ9 Hk9 H9 k9 r9 e9 iv => ?_
      obtain ⟨n, rfl, k9⟩ := k9
      intro s Hb C cl fp
      refine (he s Hb C cl fp).run Γ9 _ k9 _ Hk9 H9 σ8 r9 _ fun v1 e1' Γ10 Hk10 H10 k10 r10 e10 iv1 => ?_
      obtain rfl := k10
      have hH9 : H10 D = some (.dK acc6) := r10.step.h D _ l7
      have hk9 : Hk10 D = none := r10.step.g D hk7 (show lessOwn Γ3 σ2 H7 D ≠ none from by rw [l7]; exact fun z => nomatch z)
      have r11 : Rp ((E.nr Hk1 (lessOwn Γ1 σ H1)).nr Hk2 (less D (lessOwn Γ1 σ H''))) Γ3 Hk10 H10 σ2 := r7.back r10 no1 rfl (fun _ _ => rfl) (fun j hn => (hΓ8' j hn).symm) hσ8
      refine ⟨acc6, .inl n, iv, hH9, ?_, Hk10, putK acc6 (.inl n) v1, r11.other less_at hk9 ap4, e6.trans ((s7.k.trans e9).trans e10), hk9, upd_same, ?_⟩
      · have e : items.take (i + 1) ++ items.drop (i + 1) = items := List.take_append_drop _ _
        have e3 : (items.flatMap F).length = dn (i + 1) + ((items.drop (i + 1)).flatMap F).length := by
          show _ = ((items.take (i + 1)).flatMap F).length + _
          conv => lhs; rw [← e]
          rw [List.flatMap_append, List.length_append]
        omega
      · have := length_putK acc6 (.inl n) v1
        omega
    · have ej : j = (F d).length := by omega
      subst ej
      refine .inl ⟨it1.stop H6 (e6.trans r6.step.s), Hk6, acc6, ?_, hk6, hH6, ?_⟩
      · exact r2.back2 r6 key1 no rfl (fun _ _ => rfl) (fun j hn => (hΓ2 j hn).symm) hσ
      · rw [hdn]
        exact i6
  · have e : i = items.length := by omega
    subst e
    refine .inl ⟨it.stop H' (ek.trans rI.step.s), ?_⟩
    exact q _ _ Γ1 Hk' H' fin (r1.far rI) (e1.trans ek) trivial
theorem pd_dc2 (hc : X.calm = true) (hN : X.N.Nodup) (hi : PDI X tg iter ti) (ok : BlkOk X.N X.env.scope scope own) (hv : ∀ i ∈ vs1, i ∈ own.map (·.2)) (hj : ∀ j ∈ js, j ∈ own.map (·.2)) (hj1 : ∀ j ∈ js1, j ∈ vs1) (hg : Blk X scope fun Y => PDg Y tg js g) (hi1 : Blk X scope fun Y => PDI Y tg1 iter1 ti1) (hg1 : Blk X scope fun Y => PDg Y tg1 js1 g1) (hk : Blk X scope fun Y => PD Y kx tk) (he : Blk X scope fun Y => PD Y vx tv)
    (hs : ∀ x, foldedSetIterable iter X.env x = pure x := by intro _; rfl) (hs1 : ∀ env x, foldedSetIterable iter1 env x = pure x := by intro _ _; rfl) : PD X (.DictComp kx vx [⟨tg, iter, [], 0⟩, ⟨tg1, iter1, [], 0⟩] scope pos) (dDc2 ti g ti1 g1 tk tv (own.map (·.2)) vs1) :=
  ⟨fun _ _ h _ _ _ _ rp _ q => ⟨_, pe_dc2 hc hN pi_w ok hv (fun _ _ _ _ _ => bg_ok) (fun _ _ _ _ _ => pts_nil) (fun _ _ _ _ _ => bi_ok) (fun _ _ _ _ _ => bg_ok) (fun _ _ _ _ _ => pts_nil) (fun _ _ _ _ _ => be_ok) (fun _ _ _ _ _ => be_ok) hs hs1, dc2_run hi hj hj1 hg hi1 hg1 hk he h rp q⟩⟩

/-! ### len, str of an own instance -/
theorem cd_lenO {C : Addr} {f : List D → (D → Prop) → Prop} : CallD (rLenO C (SpF f)) (fun ds K => ∃ ns es, ds = [.ins C ns es] ∧ f ds fun d => ∃ n : Int, d = .int n ∧ 0 ≤ n ∧ n < 2 ^ 63 ∧ K (.int n)) := by
  intro Hk H vs ds Kd e i h Q q
  obtain ⟨ns, es, rfl, h⟩ := h
  obtain ⟨v, rfl, iv⟩ := one_of i
  obtain ⟨a, dx, fs, rfl, ha, h2, h3⟩ := id iv
  refine ⟨a, dx, fs, rfl, e _ _ ha, Hk, _, _, e, i, h, fun d w Hk2 H2 hd s iw => ?_⟩
  obtain ⟨n, rfl, h0, h1, hd⟩ := hd
  cases (show w = _ from iw)
  exact ⟨n, rfl, h0, h1, q _ _ Hk2 H2 hd s rfl⟩
theorem cd_strO {C : Addr} {f : List D → (D → Prop) → Prop} : CallD (rStrO C (SpF f)) (fun ds K => ∃ ns es, ds = [.ins C ns es] ∧ f ds fun d => ∃ s : Str, d = .str s ∧ K (.str s)) := by
  intro Hk H vs ds Kd e i h Q q
  obtain ⟨ns, es, rfl, h⟩ := h
  obtain ⟨v, rfl, iv⟩ := one_of i
  obtain ⟨a, dx, fs, rfl, ha, h2, h3⟩ := id iv
  refine ⟨a, dx, fs, rfl, e _ _ ha, Hk, _, _, e, i, h, fun d w Hk2 H2 hd s iw => ?_⟩
  obtain ⟨z, rfl, hd⟩ := hd
  cases (show w = _ from iw)
  exact ⟨z, rfl, q _ _ Hk2 H2 hd s rfl⟩
end
end DL
set_option maxHeartbeats 4000000
/-! readings upon data: a table of lists, built by setdefault and append -/
namespace DL
open PySem PySem.Spec PyProof.Rows L2 NL
abbrev Tz := List (Str × List D)
abbrev Ts := List (Str × Addr × List D)
def addZ : Tz → Str → D → Tz
  | [], k, d => [(k, [d])]
  | (k', ds) :: z, k, d => if k' = k then (k', ds ++ [d]) :: z else (k', ds) :: addZ z k d
def tsK (ts : Ts) : List (Key × V) := ts.map fun t => (.inr t.1, .ref t.2.1)
def tsZ (ts : Ts) : Tz := ts.map fun t => (t.1, t.2.2)
structure Tb (Hk H E2 : Hp) (l : Addr) (ts : Ts) : Prop where
  dict : H l = some (.dK (tsK ts))
  lk : Hk l = none
  l0 : E2 l = none
  nd : (ts.map (·.2.1)).Nodup
  nk : (ts.map (·.1)).Nodup
  nl : ∀ t ∈ ts, t.2.1 ≠ l
  row : ∀ t ∈ ts, (∃ xs, H t.2.1 = some (.lst xs) ∧ IsL Hk t.2.2 xs) ∧ Hk t.2.1 = none ∧ E2 t.2.1 = none
structure Sd (i : Nat) (z : Tz) (E : En) (Γ : G) (Hk H : Hp) (σ : St) : Prop where
  ex : ∃ l ts, σ[i]? = some (some (.ref l)) ∧ Tb Hk H E.2 l ts ∧ tsZ ts = z ∧ Apart Γ σ l ∧ ∀ t ∈ ts, Apart Γ σ t.2.1
section
variable {E : En} {Γ Γ' : G} {Hk H Hk2 H2 E2 : Hp} {σ σ' : St} {l : Addr} {ts : Ts} {i : Nat} {z : Tz}
/-- through what leaves it alone -/
theorem Tb.keep (T : Tb Hk H E2 l ts) (al : Apart Γ σ l) (at_ : ∀ t ∈ ts, Apart Γ σ t.2.1) (r : Rp (E.nr Hk (lessOwn Γ σ H)) Γ' Hk2 H2 σ') : Tb Hk2 H2 E2 l ts ∧ Apart Γ' σ' l ∧ ∀ t ∈ ts, Apart Γ' σ' t.2.1 := by
  have ap : ∀ {x : Addr}, Apart Γ σ x → H x ≠ none → Apart Γ' σ' x := fun {x} a n i o w1 w2 => by
    obtain ⟨m, v1, _, v3, _⟩ := r.own i o w1
    rw [w2] at v1
    cases v1
    have v3' : lessOwn Γ σ H x = none := v3
    rw [lessOwn_out a] at v3'
    exact n v3'
  have k1 : ∀ {x : Addr} {o : HO}, Apart Γ σ x → H x = some o → H2 x = some o := fun {x o} a q => r.step.h x o ((lessOwn_out a).trans q)
  have k2 : ∀ {x : Addr}, Apart Γ σ x → Hk x = none → H x ≠ none → Hk2 x = none := fun {x} a q n => r.step.g x q (show lessOwn Γ σ H x ≠ none by rw [lessOwn_out a]; exact n)
  have nl : H l ≠ none := by rw [T.dict]; exact fun z => nomatch z
  have nt : ∀ t ∈ ts, H t.2.1 ≠ none := fun t ht => by
    obtain ⟨⟨xs, q, _⟩, _⟩ := T.row t ht
    rw [q]
    exact fun z => nomatch z
  refine ⟨⟨k1 al T.dict, k2 al T.lk nl, T.l0, T.nd, T.nk, T.nl, fun t ht => ?_⟩, ap al nl, fun t ht => ap (at_ t ht) (nt t ht)⟩
  obtain ⟨⟨xs, q1, q2⟩, q3, q4⟩ := T.row t ht
  exact ⟨⟨xs, k1 (at_ t ht) q1, q2.mono r.step.k⟩, k2 (at_ t ht) q3 (nt t ht), q4⟩
theorem valK : ∀ {ts : Ts} {k : Str}, (valV (tsK ts) (.inr k) = none ∧ ∀ t ∈ ts, t.1 ≠ k) ∨ ∃ A a ds B, ts = A ++ (k, a, ds) :: B ∧ valV (tsK ts) (.inr k) = some (.ref a) ∧ ∀ t ∈ A, t.1 ≠ k
  | [], k => .inl ⟨rfl, fun _ h => nomatch h⟩
  | (k', a, ds) :: ts, k => by
    by_cases h : k' = k
    · subst h
      exact .inr ⟨[], a, ds, ts, rfl, valV_pos (p := ((Sum.inr k' : Key), V.ref a)) rfl, fun _ h => nomatch h⟩
    · have hne : ¬ (Sum.inr k' : Key) = .inr k := fun z => h (Sum.inr.inj z)
      have e : valV (tsK ((k', a, ds) :: ts)) (Sum.inr k) = valV (tsK ts) (Sum.inr k) := valV_neg (p := ((Sum.inr k' : Key), V.ref a)) hne
      rcases valK (ts := ts) (k := k) with ⟨h1, h2⟩ | ⟨A, a', ds', B, h1, h2, h3⟩
      · refine .inl ⟨by rw [e]; exact h1, fun t ht => ?_⟩
        rcases List.mem_cons.mp ht with q | q
        · rw [q]
          exact h
        · exact h2 t q
      · refine .inr ⟨(k', a, ds) :: A, a', ds', B, by rw [h1] <;> rfl, by rw [e]; exact h2, fun t ht => ?_⟩
        rcases List.mem_cons.mp ht with q | q
        · rw [q]
          exact h
        · exact h3 t q
theorem addZ_mid : ∀ {A : Ts} {k : Str} {a : Addr} {ds : List D} {B : Ts} {d : D}, (∀ t ∈ A, t.1 ≠ k) → addZ (tsZ (A ++ (k, a, ds) :: B)) k d = tsZ (A ++ (k, a, ds ++ [d]) :: B)
  | [], k, a, ds, B, d, _ => by
    show addZ ((k, ds) :: tsZ B) k d = (k, ds ++ [d]) :: tsZ B
    unfold addZ
    rw [if_pos rfl]
  | (k', a', ds') :: A, k, a, ds, B, d, h => by
    show addZ ((k', ds') :: tsZ (A ++ (k, a, ds) :: B)) k d = (k', ds') :: tsZ (A ++ (k, a, ds ++ [d]) :: B)
    unfold addZ
    rw [if_neg (h _ List.mem_cons_self), addZ_mid fun t ht => h t (List.mem_cons_of_mem _ ht)]
theorem addZ_end : ∀ {A : Ts} {k : Str} {a : Addr} {d : D}, (∀ t ∈ A, t.1 ≠ k) → addZ (tsZ A) k d = tsZ (A ++ [(k, a, [d])])
  | [], k, a, d, _ => rfl
  | (k', a', ds') :: A, k, a, d, h => by
    show addZ ((k', ds') :: tsZ A) k d = (k', ds') :: tsZ (A ++ [(k, a, [d])])
    unfold addZ
    rw [if_neg (h _ List.mem_cons_self), addZ_end (a := a) fun t ht => h t (List.mem_cons_of_mem _ ht)]
theorem putK_new : ∀ {ts : Ts} {k : Str} {v : V}, (∀ t ∈ ts, t.1 ≠ k) → putK (tsK ts) (.inr k) v = tsK ts ++ [(.inr k, v)] := by
  intro ts k v h
  unfold putK
  rw [if_neg]
  intro q
  obtain ⟨kv, h1, h2⟩ := List.any_eq_true.mp q
  obtain ⟨t, ht, rfl⟩ := List.mem_map.mp h1
  exact h t ht (Sum.inr.inj (of_decide_eq_true h2))
end
/-- a body that works on the table -/
abbrev TBz := (G → Tz → Prop) → G → Tz → Prop
structure PDB (X : Cx) (i : Nat) (sts : List Stmt) (t : TBz) : Prop where
  run : ∀ R Γ z, t R Γ z → ∀ E Hk H σ, Rp E Γ Hk H σ → Sd i z E Γ Hk H σ → ∀ F : Ends, (∀ Γ' z' Hk' H' σ', R Γ' z' → Ex Hk Hk' → Rp E Γ' Hk' H' σ' → Sd i z' E Γ' Hk' H' σ' → F.nx σ' H') → WSs X sts F σ H
structure PDB1 (X : Cx) (i : Nat) (st : Stmt) (t : TBz) : Prop where
  run : ∀ R Γ z, t R Γ z → ∀ E Hk H σ, Rp E Γ Hk H σ → Sd i z E Γ Hk H σ → ∀ F : Ends, (∀ Γ' z' Hk' H' σ', R Γ' z' → Ex Hk Hk' → Rp E Γ' Hk' H' σ' → Sd i z' E Γ' Hk' H' σ' → F.nx σ' H') → WS1 X st F σ H
theorem PDB1.all {X : Cx} {i : Nat} {st : Stmt} {t : TBz} (h : PDB1 X i st t) : PDB X i [st] t := ⟨fun R Γ z k E Hk H σ rp sd F m => ⟨_, pss_one ps_w, h.run R Γ z k E Hk H σ rp sd F m⟩⟩
section
variable {X : Cx} {pos p p2 p3 p4 apos apos2 pos' : Pos} {e e2 value o a b : Expr} {es : List Expr} {ta tb te tv tk : TD} {x y : Str}
/-- the append to a row of the table -/
theorem tb_app {E : En} {Γ : G} {Hk H : Hp} {σ : St} {i : Nat} {l a : Addr} {A B : Ts} {key : Str} {ds : List D} (he : PD X e te) (rp : Rp E Γ Hk H σ) (hl : σ[i]? = some (some (.ref l))) (T : Tb Hk H E.2 l (A ++ (key, a, ds) :: B)) (al : Apart Γ σ l) (at_ : ∀ t ∈ A ++ (key, a, ds) :: B, Apart Γ σ t.2.1) (hz : ds.length < 100000)
    {R : D → G → Prop} (k : te Γ R) {Q : VK} (q : ∀ d Γ' Hk2 H2, R d Γ' → Ex Hk Hk2 → Rp E Γ' Hk2 H2 σ → Sd i (tsZ (A ++ (key, a, ds ++ [d]) :: B)) E Γ' Hk2 H2 σ → Q .non H2) : tyV X.K "list" (.ref a) H ∧ tCons (WE X e) tNil σ H fun xs H2 => rAppend (.ref a) xs H2 Q := by
  have mem : (key, a, ds) ∈ A ++ (key, a, ds) :: B := List.mem_append_right _ List.mem_cons_self
  obtain ⟨⟨xs, q1, q2⟩, q3, q4⟩ := T.row _ mem
  refine ⟨.inl ⟨rfl, xs, .inl (.inl q1)⟩, ?_⟩
  refine he.run Γ _ k _ Hk H σ rp.near _ fun v d Γ1 Hk1 H1 k1 r1 e1 i1 => ?_
  obtain ⟨T1, al1, at1⟩ := T.keep al at_ r1
  have r1' := rp.far r1
  obtain ⟨⟨xs1, g1, g2⟩, g3, g4⟩ := T1.row _ mem
  have g1 : H1 a = some (.lst xs1) := g1
  have na : a ≠ l := T1.nl _ mem
  refine ⟨a, xs1, v, rfl, rfl, g1, by rw [g2.len, sizeLine_eq]; show ds.length < _; omega, ?_⟩
  have r2 : Rp E Γ1 Hk1 (upd H1 a (.lst (xs1 ++ [v]))) σ := r1'.other g4 g3 (at1 _ mem)
  refine q d Γ1 Hk1 _ k1 e1 r2 ⟨l, A ++ (key, a, ds ++ [d]) :: B, hl, ⟨?_, T1.lk, T1.l0, ?_, ?_, ?_, ?_⟩, rfl, al1, ?_⟩
  · rw [upd_ne (Ne.symm na), T1.dict]
    unfold tsK
    simp
  · have := T1.nd
    simpa using this
  · have := T1.nk
    simpa using this
  · intro t ht
    rcases List.mem_append.mp ht with h | h
    · exact T1.nl t (List.mem_append_left _ h)
    · rcases List.mem_cons.mp h with h | h
      · rw [h]
        exact na
      · exact T1.nl t (List.mem_append_right _ (List.mem_cons_of_mem _ h))
  · have nd := T1.nd
    rw [List.map_append, List.map_cons] at nd
    obtain ⟨n1, n2, n3⟩ := List.nodup_append.mp nd
    intro t ht
    have oth : t ∈ A ++ (key, a, ds) :: B → t.2.1 ≠ a → (∃ xs, upd H1 a (.lst (xs1 ++ [v])) t.2.1 = some (.lst xs) ∧ IsL Hk1 t.2.2 xs) ∧ Hk1 t.2.1 = none ∧ E.2 t.2.1 = none := fun h1 h2 => by
      obtain ⟨⟨ys, y1, y2⟩, y3, y4⟩ := T1.row t h1
      exact ⟨⟨ys, by rw [upd_ne h2]; exact y1, y2⟩, y3, y4⟩
    rcases List.mem_append.mp ht with h | h
    · exact oth (List.mem_append_left _ h) fun z => n3 _ (List.mem_map_of_mem h) _ List.mem_cons_self z
    · rcases List.mem_cons.mp h with h | h
      · rw [h]
        exact ⟨⟨xs1 ++ [v], upd_same, g2.append (.cons i1 .nil)⟩, g3, g4⟩
      · exact oth (List.mem_append_right _ (List.mem_cons_of_mem _ h)) fun z => (List.nodup_cons.mp n2).1 (List.mem_map.mpr ⟨t, h, z⟩)
  · intro t ht
    rcases List.mem_append.mp ht with h | h
    · exact at1 t (List.mem_append_left _ h)
    · rcases List.mem_cons.mp h with h | h
      · rw [h]
        show Apart Γ1 σ a
        exact at1 _ mem
      · exact at1 t (List.mem_append_right _ (List.mem_cons_of_mem _ h))
/-- found.setdefault(k, []).append(e) -/
def dTab (tk te : TD) : TBz := fun R Γ z => z.length < 100000 ∧ (∀ q ∈ z, q.2.length < 100000) ∧ tk Γ fun d Γ1 => ∃ k : Str, d = .str k ∧ Γ1 = Γ ∧ te Γ fun v Γ2 => Γ2 = Γ ∧ R Γ (addZ z k v)
theorem pdb_tab (i : Nat) {ek : Expr} (hk : PD X ek tk) (he : PD X e te) (hN : X.N[i]? = some x := by rfl) (hv : Vis X.env.scope x := by first | exact Or.inl rfl | exact Or.inr (Or.inl rfl) | exact Or.inr (Or.inr rfl))
    (hd : (x == ("__debug__" : Str)) = false := by decide) (hcd : (x == ("__classdict__" : Str)) = false := by decide)
    (m : M2 X (.Name x p) "setdefault" apos2 ek (.List [] p2) p3 := by exact ⟨rfl, rfl, rfl, rfl⟩)
    (hs : starEach [e] X.env = (false, eval e X.env) :: starEach [] X.env := by rfl) (hbase : attributeBase (.Call (.Attribute (.Name x p) "setdefault" apos2) [ek, .List [] p2] [] p3) "append" X.env (eval (.Call (.Attribute (.Name x p) "setdefault" apos2) [ek, .List [] p2] [] p3) X.env) = eval (.Call (.Attribute (.Name x p) "setdefault" apos2) [ek, .List [] p2] [] p3) X.env := by rfl)
    (hfew : ((backTo p4 (starEach [e] X.env)).all (fun x => !x.1) && (backToKw p4 (keywordEach [] X.env)).all (fun x => x.1.isSome)
      && decide (([e] : List Expr).length + ([] : List Keyword).length + (if ([] : List Keyword).isEmpty then 0 else 1) < 30)) = true := by rfl)
    (hline : (apos.endLine == p4.line) = true := by rfl) (hplain : (backTo p4 (starEach [] X.env)).any (·.1) = false := by rfl)
    (hsw : swapsWith (.Call (.Attribute (.Call (.Attribute (.Name x p) "setdefault" apos2) [ek, .List [] p2] [] p3) "append" apos) [e] [] p4) none pos.line X.env = pure false := by rfl) :
    PDB X i [.Expr (.Call (.Attribute (.Call (.Attribute (.Name x p) "setdefault" apos2) [ek, .List [] p2] [] p3) "append" apos) [e] [] p4) pos] (dTab tk te) := by
  refine ⟨fun R Γ z k E Hk H σ rp sd Fe m' => ⟨_, pss_one (ps_expr (pe_bm F.plainAttrs_list F.slot_list_append (by rfl) mt_append (pe_dsetd (pe_var hN hv hd hcd) pe_w (pe_lst pa_nil) m) (pa_cons pe_w pa_nil hs) hbase hfew hline hs hplain) hsw), ?_⟩⟩
  obtain ⟨l, ts, hl, T, hz, al, at_⟩ := sd.ex
  refine ⟨_, hl, l, rfl, .inl ⟨_, .inl T.dict⟩, ?_⟩
  obtain ⟨hlen, hlens, k⟩ := k
  refine hk.run Γ _ k _ Hk H σ rp.near _ fun v d Γ1 Hk1 H1 k1 r1 e1 i1 => ?_
  obtain ⟨key, rfl, rfl, k1⟩ := k1
  obtain ⟨T1, al1, at1⟩ := T.keep al at_ r1
  have r1' := rp.far r1
  refine ⟨Nat.zero_le _, fun q hq => ?_⟩
  -- the new list at q
  have s2 := Step.newH (o := .lst []) r1'.step.s hq
  have nq : ∀ {u : Addr}, H1 u ≠ none → u ≠ q := fun h z => h (by rw [z]; exact hq)
  have nlq : l ≠ q := nq (by rw [T1.dict]; exact fun z => nomatch z)
  have ntq : ∀ t ∈ ts, t.2.1 ≠ q := fun t ht => nq (by
    obtain ⟨⟨xs, q, _⟩, _⟩ := T1.row t ht
    rw [q]
    exact fun z => nomatch z)
  have r2 : Rp E Γ1 Hk1 (upd H1 q (.lst [])) σ := r1'.grow s2
  have aq : Apart Γ1 σ q := r1'.apart hq
  have T2 : Tb Hk1 (upd H1 q (.lst [])) E.2 l ts := ⟨by rw [upd_ne nlq]; exact T1.dict, T1.lk, T1.l0, T1.nd, T1.nk, T1.nl, fun t ht => by
    obtain ⟨⟨xs, q1, q2⟩, q3, q4⟩ := T1.row t ht
    exact ⟨⟨xs, by rw [upd_ne (ntq t ht)]; exact q1, q2⟩, q3, q4⟩⟩
  have kq : Hk1 q = none := r1'.step.s.nn hq
  have k0 : E.2 q = none := r1'.step.h.nn hq
  have hts : (tsK ts).length < sizeLine := by
    rw [← hz] at hlen
    unfold tsZ at hlen
    unfold tsK
    rw [List.length_map] at hlen ⊢
    rw [sizeLine_eq]
    omega
  refine ⟨tsK ts, .inr key, T2.dict, i1, hts, fun v hv => ?_, fun hn => ?_⟩
  · rcases valK (ts := ts) (k := key) with ⟨h1, _⟩ | ⟨A, a, ds, B, h1, h2, h3⟩
    · rw [h1] at hv
      cases hv
    · rw [h2] at hv
      cases hv
      subst h1
      refine tb_app he r2 hl T2 al1 at1 ?_ k1 fun d Γ' Hk2 H2 k2 e3 r3 sd3 => ?_
      · exact hlens (key, ds) (by rw [← hz]; exact List.mem_map.mpr ⟨(key, a, ds), List.mem_append_right _ List.mem_cons_self, rfl⟩)
      · obtain ⟨rfl, k2⟩ := k2
        rw [← addZ_mid h3, hz] at sd3
        exact m' Γ' _ Hk2 H2 σ k2 (e1.trans e3) r3 sd3
  · rcases valK (ts := ts) (k := key) with ⟨_, h1⟩ | ⟨A, a, ds, B, _, h2, _⟩
    · rw [putK_new h1]
      have r3 : Rp E Γ1 Hk1 (upd (upd H1 q (.lst [])) l (.dK (tsK ts ++ [(.inr key, .ref q)]))) σ := r2.other T2.l0 T2.lk al1
      have T3 : Tb Hk1 (upd (upd H1 q (.lst [])) l (.dK (tsK ts ++ [(.inr key, .ref q)]))) E.2 l (ts ++ (key, q, []) :: []) := by
        refine ⟨?_, T2.lk, T2.l0, ?_, ?_, fun t ht => ?_, fun t ht => ?_⟩
        · rw [upd_same]
          unfold tsK
          simp
        · rw [List.map_append]
          refine List.nodup_append.mpr ⟨T2.nd, by simp, fun u hu w hw => ?_⟩
          obtain ⟨t, ht, rfl⟩ := List.mem_map.mp hu
          rw [List.mem_singleton.mp hw]
          exact ntq t ht
        · rw [List.map_append]
          refine List.nodup_append.mpr ⟨T2.nk, by simp, fun u hu w hw => ?_⟩
          obtain ⟨t, ht, rfl⟩ := List.mem_map.mp hu
          rw [List.mem_singleton.mp hw]
          exact h1 t ht
        · rcases List.mem_append.mp ht with h | h
          · exact T2.nl t h
          · rw [List.mem_singleton.mp h]
            exact Ne.symm nlq
        · rcases List.mem_append.mp ht with h | h
          · obtain ⟨⟨ys, y1, y2⟩, y3, y4⟩ := T2.row t h
            exact ⟨⟨ys, by rw [upd_ne (T2.nl t h)]; exact y1, y2⟩, y3, y4⟩
          · rw [List.mem_singleton.mp h]
            exact ⟨⟨[], by rw [upd_ne (Ne.symm nlq), upd_same], rfl⟩, kq, k0⟩
      have at3 : ∀ t ∈ ts ++ (key, q, []) :: [], Apart Γ1 σ t.2.1 := fun t ht => by
        rcases List.mem_append.mp ht with h | h
        · exact at1 t h
        · rw [List.mem_singleton.mp h]
          exact aq
      refine tb_app he r3 hl T3 al1 at3 (by decide) k1 fun d Γ' Hk2 H2 k2 e4 r4 sd4 => ?_
      obtain ⟨rfl, k2⟩ := k2
      have e : tsZ (ts ++ (key, q, [] ++ [d]) :: []) = addZ z key d := by
        rw [← hz, addZ_end (a := q) h1]
        rfl
      rw [e] at sd4
      exact m' Γ' _ Hk2 H2 σ k2 (e1.trans e4) r4 sd4
    · rw [h2] at hn
      cases hn
/-- a loop upon the table -/
def dForZ (ti : TDI) (g : TDG) (tb : TBz) : TBz := fun R Γ z => ti Γ fun items Γ1 => ∃ I : Nat → G → Tz → Prop, I 0 Γ1 z ∧ (∀ k d Γ2 z2, items[k]? = some d → I k Γ2 z2 → g d Γ2 fun Γ3 => tb (I (k + 1)) Γ3 z2) ∧ ∀ Γ2 z2, I items.length Γ2 z2 → R Γ2 z2
theorem pdb_for (i : Nat) {tg iter : Expr} {body : List Stmt} {js : List Nat} {ti : TDI} {g : TDG} {tb : TBz} (hp : PassesOwn (model X.prog X.w) X.A X.env X.xe) (hi : PDI X tg iter ti) (hg : PDg X tg js g) (hj : i ∉ js) (hb : PDB X i body tb) (hc : X.calm = true := by rfl) (hs : ∀ x, foldedSetIterable iter X.env x = pure x := by intro _; rfl) : PDB1 X i (.For tg iter body [] pos) (dForZ ti g tb) := by
  refine ⟨fun R Γ z k E Hk H σ rp sd Fe m => ⟨_, ps_for hp hc pi_w pg_w pss_w hs, ?_⟩⟩
  have sdk : ∀ {Γ Γ' : G} {Hk H Hk2 H2 : Hp} {σ σ' : St} {z : Tz}, Sd i z E Γ Hk H σ → Rp (E.nr Hk (lessOwn Γ σ H)) Γ' Hk2 H2 σ' → σ'[i]? = σ[i]? → Sd i z E Γ' Hk2 H2 σ' := fun sd r hσ => by
    obtain ⟨l, ts, h1, h2, h3, h4, h5⟩ := sd.ex
    obtain ⟨q1, q2, q3⟩ := h2.keep h4 h5 r
    exact ⟨l, ts, hσ.trans h1, q1, h3, q2, q3⟩
  refine hi.run Γ _ k _ Hk H σ rp.near _ fun J items Γ1 Hk1 H1 k1 r1 e1 it => ?_
  obtain ⟨I, I0, step, fin⟩ := k1
  refine ⟨fun i' mm σ' H' => mm = items.length - i' ∧ i' ≤ items.length ∧ ∃ Γ' Hk' z', I i' Γ' z' ∧ Ex Hk1 Hk' ∧ Rp E Γ' Hk' H' σ' ∧ Sd i z' E Γ' Hk' H' σ', ⟨items.length, by simp, Nat.zero_le _, Γ1, Hk1, z, I0, Ex.refl _, rp.far r1, sdk sd r1 rfl⟩, ?_⟩
  rintro i' mm σ' H' ⟨rfl, hle, Γ', Hk', z', hI, ek, r2, sd2⟩
  by_cases hlt : i' < items.length
  · refine .inr ⟨it.go i' H' hlt (ek.trans r2.step.s), fun σ3 H3 => ∃ Γ3 Hk3 z3, I (i' + 1) Γ3 z3 ∧ Ex Hk1 Hk3 ∧ Rp E Γ3 Hk3 H3 σ3 ∧ Sd i z3 E Γ3 Hk3 H3 σ3, fun σ3 H3 p => ⟨items.length - (i' + 1), by omega, rfl, hlt, p⟩, fun x H'' y => ?_⟩
    obtain ⟨d, hd⟩ : ∃ d, items[i']? = some d := ⟨_, List.getElem?_eq_getElem hlt⟩
    obtain ⟨Hk2, s2, ix⟩ := it.yld i' d Hk' H' x H'' hd ek r2.step.s y
    have rn : Rp (E.nr Hk' (lessOwn Γ' σ' H')) Γ' Hk2 H'' σ' := r2.near.grow s2
    refine hg.run d Γ' _ (step i' d Γ' z' hd hI) _ Hk2 H'' σ' x rn ix _ fun Γ3 σ3 k3 r3 hs hΓ => ?_
    refine hb.run _ Γ3 z' k3 E Hk2 H'' σ3 (r2.far r3) (sdk sd2 r3 (hs.2 i hj)) _ fun Γ4 z4 Hk4 H4 σ4 k4 e4 r4 sd4 => ?_
    exact ⟨Γ4, Hk4, z4, k4, ek.trans (s2.k.trans e4), r4, sd4⟩
  · have e : i' = items.length := by omega
    subst e
    exact .inl ⟨it.stop H' (ek.trans r2.step.s), m Γ' z' Hk' H' σ' (fin Γ' z' hI) (e1.trans ek) r2 sd2⟩
/-- the table is data from here on -/
theorem Sd.done {E : En} {Γ : G} {Hk H : Hp} {σ : St} {i : Nat} {z : Tz} (sd : Sd i z E Γ Hk H σ) (rp : Rp E Γ Hk H σ) : ∃ l Hk2, σ[i]? = some (some (.ref l)) ∧ Rp E Γ Hk2 H σ ∧ Is Hk2 (.dK (z.map fun q => .inr q.1) (z.map fun q => .lst q.2)) (.ref l) := by
  obtain ⟨l, ts, h1, T, rfl, al, at_⟩ := sd.ex
  let S : Addr → Prop := fun a => a = l ∨ ∃ t ∈ ts, t.2.1 = a
  let Hk2 : Hp := fun a => open Classical in if S a then H a else Hk a
  have in_ : ∀ {a : Addr}, S a → Hk2 a = H a := fun {a} h => if_pos h
  have out : ∀ {a : Addr}, ¬ S a → Hk2 a = Hk a := fun {a} h => if_neg h
  have sk : ∀ {a : Addr}, S a → Hk a = none ∧ E.2 a = none ∧ Apart Γ σ a := fun {a} h => by
    rcases h with rfl | ⟨t, ht, rfl⟩
    · exact ⟨T.lk, T.l0, al⟩
    · obtain ⟨_, q1, q2⟩ := T.row t ht
      exact ⟨q1, q2, at_ t ht⟩
  have ek : Ex Hk Hk2 := fun a o q => by
    rw [out fun h => by rw [(sk h).1] at q; cases q]
    exact q
  refine ⟨l, Hk2, h1, ⟨⟨rp.step.k.trans ek, rp.step.h, fun a o q => ?_, fun a q1 q2 => ?_⟩, rp.len, fun i d q => ?_, fun i o q => ?_, rp.sep, rp.pin⟩, ?_⟩
  · by_cases h : S a
    · rw [in_ h] at q
      exact q
    · rw [out h] at q
      exact rp.step.s a o q
  · rw [out fun h => q2 (sk h).2.1]
    exact rp.step.g a q1 q2
  · obtain ⟨x, w1, w2⟩ := rp.val i d q
    exact ⟨x, w1, w2.mono ek⟩
  · obtain ⟨m, w1, w2, w3, w4⟩ := rp.own i o q
    refine ⟨m, w1, ?_, w3, w4.mono ek fun _ z => z⟩
    rw [out fun h => (sk h).2.2 i o q w1]
    exact w2
  · refine ⟨l, tsK ts, rfl, (in_ (.inl rfl)).trans T.dict, ?_, ?_⟩
    · unfold tsK tsZ
      rw [List.map_map, List.map_map]
      rfl
    · have key : ∀ us : Ts, (∀ t ∈ us, t ∈ ts) → IsL Hk2 ((tsZ us).map fun q => .lst q.2) ((tsK us).map (·.2)) := fun us => by
        induction us with
        | nil => exact fun _ => rfl
        | cons t us ih =>
          intro hu
          have ht := hu t List.mem_cons_self
          obtain ⟨⟨xs, q1, q2⟩, _⟩ := T.row t ht
          exact .cons ⟨t.2.1, xs, rfl, (in_ (.inr ⟨t, ht, rfl⟩)).trans q1, q2.mono ek⟩ (ih fun u hu' => hu u (List.mem_cons_of_mem _ hu'))
      exact key ts fun _ h => h
/-- x = {}; a loop that fills it; return x -/
def dTabFn (i : Nat) (t : TBz) : TDS := fun D Γ => i < Γ.length ∧ t (fun Γ' z => D.rt (.dK (z.map fun q => .inr q.1) (z.map fun q => .lst q.2)) Γ') (Γ.set i (.val .any)) []
theorem pds_tabFn (i : Nat) {t : TBz} {st : Stmt} {q1 q2 q3 q4 q5 : Pos} (h : PDB1 X i st t) (hN : X.N.Nodup) (hi : X.N[i]? = some x := by rfl) (hx : Loc X.env.scope x := by first | exact .inl rfl | exact .inr rfl)
    (hs : swapsWith (.Dict [] [] q2) (some (.Name x q1)) q3.line X.env = pure false := by rfl) (hf : X.fn x = true ∨ X.env.scope.names.lookup x = some .local := by first | exact .inl rfl | exact .inr rfl) (hv : Vis X.env.scope x := by first | exact Or.inl rfl | exact Or.inr (Or.inl rfl) | exact Or.inr (Or.inr rfl))
    (hd : (x == ("__debug__" : Str)) = false := by decide) (hcd : (x == ("__classdict__" : Str)) = false := by decide) : PDS X [.Assign [.Name x q1] (.Dict [] [] q2) q3, st, .Return (some (.Name x q4)) q5] (dTabFn i t) := by
  refine ⟨fun D Γ k E Hk H σ rp F m => ⟨_, pss_cons (ps_set hN hi hx pe_dnewK hs hf) pss_w, fun p hp => ⟨_, pss_cons ps_w (pss_one (ps_ret (pe_var hi hv hd hcd))), ?_⟩⟩⟩
  obtain ⟨hlt, k⟩ := k
  have nk : Hk p = none := rp.step.s.nn hp
  have n0 : E.2 p = none := rp.step.h.nn hp
  have ap : Apart (Γ.set i (.val .any)) (σ.set i (some (.ref p))) p := fun j o w1 w2 => by
    rcases get_set w1 with ⟨_, z⟩ | ⟨z1, z2⟩
    · cases z
    · rw [List.getElem?_set_ne z1] at w2
      exact rp.apart hp j o z2 w2
  rw [← rp.len] at hlt
  have r2 : Rp E (Γ.set i (.val .any)) Hk (upd H p (.dK [])) (σ.set i (some (.ref p))) := (rp.grow (Step.newH (o := .dK []) rp.step.s hp)).set (d := .any) i trivial
  refine h.run _ _ _ k E Hk _ _ r2 ⟨p, [], by rw [List.getElem?_set_self hlt], ⟨upd_same, nk, n0, List.nodup_nil, List.nodup_nil, fun _ h => (nomatch h), fun _ h => (nomatch h)⟩, rfl, ap, fun _ h => (nomatch h)⟩ _ fun Γ' z' Hk' H' σ' k' _ r' sd' => ?_
  obtain ⟨l, Hk2, w1, w2, w3⟩ := sd'.done r'
  exact ⟨_, w1, m.rt _ _ Γ' Hk2 H' σ' k' w2 w3⟩
end
end DL
set_option maxHeartbeats 4000000
/-! readings upon data: a loop over self.f.items() whose only doing is a test of the values' lengths -/
namespace DL
open PySem PySem.Spec PyProof.Rows L2 NL
section
variable {X : Cx} {x y n : Str}
def dItems2 (C : Addr) (f : Str) (iself a b : Nat) : TDS := fun D Γ => ∃ ns ds ks es, Γ[iself]? = some (.own (.ins C ns ds)) ∧ getF ns ds f = some (.dK ks es) ∧ (∀ e ∈ es, ∃ p q, e = .lst [p, q]) ∧ a < Γ.length ∧ b < Γ.length ∧ iself ≠ a ∧ iself ≠ b ∧ D.nx ((Γ.set a .un).set b .un)
theorem pds_items2 {C : Addr} {f : Str} (iself a b : Nat) {raise : Stmt} {kt : Nat} {j : _} {p1 p2 p3 p4 p5 p6 p7 p8 p9 p10 p11 p12 p13 pt apos : Pos} (c : Cls X.K C) (na : NoAttr X.K C f) (hp : PassesOwn (model X.prog X.w) X.A X.env X.xe) (hc : X.calm = true) (hN : X.N.Nodup) (hg : Gl X "len") (hm : X.mg "len" = none)
    (hab : a ≠ b := by decide) (hs : X.N[iself]? = some x := by rfl) (ha : X.N[a]? = some y := by rfl) (hb : X.N[b]? = some n := by rfl)
    (hv : Vis X.env.scope x := by first | exact Or.inl rfl | exact Or.inr (Or.inl rfl) | exact Or.inr (Or.inr rfl)) (hvn : Vis X.env.scope n := by first | exact Or.inl rfl | exact Or.inr (Or.inl rfl) | exact Or.inr (Or.inr rfl))
    (hd : (x == ("__debug__" : Str)) = false := by decide) (hcd : (x == ("__classdict__" : Str)) = false := by decide) (hdn : (n == ("__debug__" : Str)) = false := by decide) (hcdn : (n == ("__classdict__" : Str)) = false := by decide)
    (hxa : Loc X.env.scope y := by first | exact .inl rfl | exact .inr rfl) (hxb : Loc X.env.scope n := by first | exact .inl rfl | exact .inr rfl)
    (hfa : X.fn y = true ∨ X.env.scope.names.lookup y = some .local := by first | exact .inl rfl | exact .inr rfl) (hfb : X.fn n = true ∨ X.env.scope.names.lookup n = some .local := by first | exact .inl rfl | exact .inr rfl)
    (hat : attributeBase (.Name x p1) f X.env (eval (.Name x p1) X.env) = eval (.Name x p1) X.env := by rfl)
    (hbase : attributeBase (.Attribute (.Name x p1) f p2) "items" X.env (eval (.Attribute (.Name x p1) f p2) X.env) = eval (.Attribute (.Name x p1) f p2) X.env := by rfl) (hline : (apos.endLine == p3.line) = true := by rfl)
    (hn : (assignEach [.Name y p4, .Name n p5] X.env).length = 2 := by rfl) (hst : (assignEach [.Name y p4, .Name n p5] X.env).findIdx? (·.1) = none := by rfl)
    (hs1 : (assignEach [.Name y p4, .Name n p5] X.env).map (·.2) = assign (.Name y p4) X.env :: (assignEach [.Name n p5] X.env).map (·.2) := by rfl) (hs2 : (assignEach [.Name n p5] X.env).map (·.2) = assign (.Name n p5) X.env :: (assignEach [] X.env).map (·.2) := by rfl)
    (he : starEach [.Name n p6] X.env = (false, eval (.Name n p6) X.env) :: starEach [] X.env := by rfl) (hpl : (backTo p8 (starEach [] X.env)).any (·.1) = false := by rfl)
    (hmk : behindInMarks .NotEq (.Constant (.int 2) j p9) = false := by with_unfolding_all rfl)
    (hfs : ∀ u, foldedSetIterable (.Call (.Attribute (.Attribute (.Name x p1) f p2) "items" apos) [] [] p3) X.env u = pure u := by intro _; rfl) :
    PDS1 X (.For (.Tuple [.Name y p4, .Name n p5] kt pt) (.Call (.Attribute (.Attribute (.Name x p1) f p2) "items" apos) [] [] p3) [.If (.Compare (.Call (.Name "len" p7) [.Name n p6] [] p8) [.NotEq] [.Constant (.int 2) j p9] p10) [raise] [] p11] [] p12) (dItems2 C f iself a b) := by
  refine ⟨fun D Γ k E Hk H σ rp Fe m => ⟨_, ps_lock (ps_for hp hc (pi_items (pe_fld (pe_var hs hv hd hcd) hat) hbase hline) (pg_tup hc (pgs_cons (pg_name hN ha hxa hfa) (pgs_cons (pg_name hN hb hxb hfb) pgs_nil hs2) hs1) hn hst)
    (pss_one (ps_if (pt_cmpR op_ne (pe_callB call_len hg hm rfl (pa_cons (pe_var hb hvn hdn hcdn) pa_nil he) (by decide) (by decide) he hpl) pe_int hmk) (pss_one ps_never) pss_nil)) hfs), ?_⟩⟩
  obtain ⟨ns, ds, ks, es, ho, hf, h2, hla, hlb, hsa, hsb, k⟩ := k
  obtain ⟨l, a1, ol, l0, dx, fs, o1, o2, o3⟩ := rp.own iself _ ho
  have z := lookup_is (f := f) o2 o3
  rw [hf] at z
  obtain ⟨w, z1, d, kvs, z2, z3, z4, z5⟩ := z
  subst z2
  have hHd : H d = some (.dK kvs) := rp.step.s _ _ z3
  have hld : l ≠ d := fun q => by rw [q, z3] at ol; cases ol
  refine ⟨d, .dK kvs, hHd, trivial, fun od => ?_⟩
  refine ⟨_, a1, l, C, dx, fs, _, rfl, by rw [upd_ne hld]; exact o1, c, na, z1, d, od, kvs, rfl, upd_same, ?_⟩
  refine for_it walk_items (fun i σ' H' => σ'.length = σ.length ∧ (∀ q, q ≠ a → q ≠ b → σ'[q]? = σ[q]?) ∧ (∀ u o, u ≠ d → H u = some o → H' u = some o) ∧ H' d = some (.frz od (.dK kvs))) ⟨rfl, fun _ _ _ => rfl, fun u o hu q => by rw [upd_ne hu]; exact q, upd_same⟩ (fun i σ' H' _ p => p.2.2.2) (fun i v σ' H' H'' hi p yv => ?_) (fun σ' H' p => ⟨p.2.2.2, ?_⟩)
  · obtain ⟨p1, p2, p3, p4⟩ := p
    obtain ⟨T, u1, u2, rfl, hT, rfl, y1, y2⟩ := yv
    obtain ⟨kv, hkv⟩ : ∃ kv, kvs[i]? = some kv := ⟨_, List.getElem?_eq_getElem hi⟩
    replace y2 : (kvs[i]?).map Prod.snd = some u2 := y2
    rw [hkv] at y2
    cases y2
    have iv : ∃ e, es[i]? = some e ∧ Is Hk e kv.2 := z5.getV (by rw [List.getElem?_map, hkv] <;> rfl)
    obtain ⟨e, he1, he2⟩ := iv
    obtain ⟨pp, qq, rfl⟩ := h2 e (List.mem_of_getElem? he1)
    obtain ⟨av, xs, ev, hav, ixs⟩ := he2
    have hlen := ixs.len
    have nT : av ≠ T := fun q => by
      have : H' av = some (.lst xs) := p3 av _ (fun q2 => by rw [q2, z3] at hav; cases hav) (rp.step.s _ _ hav)
      rw [q, hT] at this
      cases this
    have hav2 : (upd H' T (.tup [u1, kv.2])) av = some (.lst xs) := by
      rw [upd_ne nT]
      exact p3 av _ (fun q2 => by rw [q2, z3] at hav; cases hav) (rp.step.s _ _ hav)
    refine ⟨T, [u1, kv.2], rfl, .inl (.inl upd_same), rfl, u1, [kv.2], rfl, kv.2, [], rfl, rfl, ?_⟩
    have hbl : b < (σ'.set a (some u1)).length := by rw [List.length_set, p1, rp.len]; exact hlb
    have key : ((σ'.set a (some u1)).set b (some kv.2)).length = σ.length ∧ (∀ q, q ≠ a → q ≠ b → ((σ'.set a (some u1)).set b (some kv.2))[q]? = σ[q]?) ∧ (∀ u o, u ≠ d → H u = some o → (upd H' T (.tup [u1, kv.2])) u = some o) ∧ (upd H' T (.tup [u1, kv.2])) d = some (.frz od (.dK kvs)) := by
      refine ⟨by rw [List.length_set, List.length_set, p1], fun q q1 q2 => ?_, fun u o hu q => ?_, ?_⟩
      · rw [List.getElem?_set_ne (Ne.symm q2), List.getElem?_set_ne (Ne.symm q1)]
        exact p2 q q1 q2
      · rw [upd_ne fun q2 => by rw [q2] at q; have := p3 T o (q2 ▸ hu) q; rw [hT] at this; cases this]
        exact p3 u o hu q
      · rw [upd_ne fun q2 => by rw [← q2, p4] at hT; cases hT]
        exact p4
    refine ⟨kv.2, by rw [List.getElem?_set_self hbl], kv.2, xs.length, rfl, ?_, ?_⟩
    · have lv : LenV X.K (.ref av) (upd H' T (.tup [u1, kv.2])) xs.length := .inl ⟨xs, .inl (.inl hav2), rfl⟩
      rw [← ev] at lv
      exact lv
    · rw [hlen]
      refine ⟨rfl, false, rfl, ?_⟩
      exact key
  · obtain ⟨p1, p2, p3, p4⟩ := p
    have eH : Ex H (upd H' d (.dK kvs)) := fun u o q => by
      by_cases hu : u = d
      · subst hu
        rw [upd_same, ← hHd]
        exact q
      · rw [upd_ne hu]
        exact p3 u o hu q
    have r2 := rp.grow ⟨Ex.refl Hk, eH, rp.step.s.trans eH, fun _ h _ => h⟩
    have g : ∀ {q : Nat} {s : Slot}, ((Γ.set a .un).set b .un)[q]? = some s → s ≠ .un → q ≠ a ∧ q ≠ b ∧ Γ[q]? = some s := fun {q s} h hs => by
      rcases get_set h with ⟨_, e⟩ | ⟨e1, e2⟩
      · exact absurd e hs
      · rcases get_set e2 with ⟨_, e⟩ | ⟨e3, e4⟩
        · exact absurd e hs
        · exact ⟨Ne.symm e3, Ne.symm e1, e4⟩
    refine m.nx _ Hk _ σ' k ⟨r2.step, by rw [p1, List.length_set, List.length_set, rp.len], fun q e h => ?_, fun q o h => ?_, fun q q' o o' u h1 h2 h3 h4 => ?_, fun u pn ⟨o, h⟩ => ?_⟩
    · obtain ⟨q1, q2, q3⟩ := g h fun z => nomatch z
      rw [p2 q q1 q2]
      exact r2.val q e q3
    · obtain ⟨q1, q2, q3⟩ := g h fun z => nomatch z
      rw [p2 q q1 q2]
      exact r2.own q o q3
    · obtain ⟨q1, q2, q3⟩ := g h1 fun z => nomatch z
      obtain ⟨q1', q2', q3'⟩ := g h2 fun z => nomatch z
      rw [p2 q q1 q2] at h3
      rw [p2 q' q1' q2'] at h4
      exact r2.sep q q' o o' u q3 q3' h3 h4
    · obtain ⟨q1, q2, q3⟩ := g h fun z => nomatch z
      rw [p2 0 q1 q2]
      exact r2.pin u pn ⟨o, q3⟩
end
end DL
set_option maxHeartbeats 4000000
namespace MS
open PySem PySem.Spec PyProof.Rows L2 DL
/-! the world of the defs -/
structure W0 (K : PySem.W.Frag) (mg : Str → Option Value) : Prop where
  ex : ∃ h : Heap, K.In h ∧ h.Ns mainGlobals mg
  ce : exM K = true
  c : He.SaysD fa fn K
section
variable {K : PySem.W.Frag} {mg : Str → Option Value} {P : Program} {w : World} {base : Heap}
theorem W0.glo (W : W0 K mg) (j : Nat) {x : Str} (h : fa[j]? = some (.glo x) := by rfl) : mg x = some (.ref (He.ga K x)) := by
  obtain ⟨hh, X, G⟩ := W.ex
  exact He.glo_ok X G (W.c.fact j h)
theorem W0.free (W : W0 K mg) (j : Nat) {x : Str} (h : fa[j]? = some (.free x) := by rfl) : mg x = none := by
  obtain ⟨hh, X, G⟩ := W.ex
  exact He.free_ok X G (W.c.fact j h)
theorem W0.int (W : W0 K mg) (j : Nat) {x : Str} {i : Int} (h : fa[j]? = some (.int x i) := by rfl) : ∃ t, mg x = some (.int i t) := by
  obtain ⟨hh, X, G⟩ := W.ex
  exact He.int_ok X G (W.c.fact j h)
theorem W0.str (W : W0 K mg) (j : Nat) {x z : Str} (h : fa[j]? = some (.str x z) := by rfl) : ∃ t, mg x = some (.str z t) := by
  obtain ⟨hh, X, G⟩ := W.ex
  exact He.str_ok X G (W.c.fact j h)
theorem W0.cls (W : W0 K mg) (j : Nat) {x : Str} (h : fa[j]? = some (.cls x) := by rfl) : Cls K (He.ga K x) := He.cls_ok (W.c.fact j h)
theorem W0.noat (W : W0 K mg) (j : Nat) {x f : Str} (h : fa[j]? = some (.noat x f) := by rfl) : NoAttr K (He.ga K x) f := He.noat_ok (W.c.fact j h)
theorem W0.meth (W : W0 K mg) (j : Nat) {x m : Str} (h : fa[j]? = some (.meth x m) := by rfl) : Meth K (He.ga K x) m (He.ma K (He.ga K x) m) := He.meth_ok (W.c.fact j h)
theorem W0.mkr (W : W0 K mg) (j : Nat) {x : Str} (h : fa[j]? = some (.mkr x) := by rfl) : Mk K (He.ga K x) (He.ma K (He.ga K x) "__init__") := He.mkr_ok (W.c.fact j h)
/-- a def in reach -/
structure DefF (P : Program) (w : World) (K : PySem.W.Frag) (mg : Str → Option Value) (base : Heap) (x : Str) (ps : List Str) (k : Nat) (sp : Sp) : Prop where
  ex : ∃ f fd, FnOk P w K mg base CX0 k f fd ps sp ∧ mg x = some (.ref f) ∧ PySem.W.keepIn K (.ref f) = true ∧ Binds K fd ps []
structure MethF (P : Program) (w : World) (K : PySem.W.Frag) (mg : Str → Option Value) (base : Heap) (C : Addr) (m : Str) (ps : List Str) (k : Nat) (sp : Sp) : Prop where
  ex : ∃ f fd, FnOk P w K mg base CX0 k f fd ps sp ∧ Meth K C m f ∧ Binds K fd ps []
structure MakeF (P : Program) (w : World) (K : PySem.W.Frag) (mg : Str → Option Value) (base : Heap) (C : Addr) (x : Str) (ps : List Str) (k : Nat) (sp : Sp) : Prop where
  ex : ∃ f fd, FnOk P w K mg base CX0 k f fd ps sp ∧ Mk K C f ∧ mg x = some (.ref C) ∧ Binds K fd ps []
abbrev BindsLit (x qual : Str) (params : Arguments) (body : List Stmt) (scope : Scope) (ps : List Str) : Prop := ∀ (kV doc pm : Value) (an : Option Addr) (cdv ct : Value) (us : List Value), us.length = ps.length → bindArgs (PySem.W.fnOf x qual params body scope .none kV doc pm an cdv ct) ⟨us, []⟩ = pure (ps.zip us)
theorem W0.def_ (W : W0 K mg) (i j : Nat) {x nm qual : Str} {params : Arguments} {body : List Stmt} {scope : Scope} {ps : List Str} {k : Nat} {sp : Sp} (hi : fn[i]? = some ⟨(x, none), nm, qual, params, body, scope, [], []⟩) (hj : fa[j]? = some (.glo x))
    (hb : BindsLit nm qual params body scope ps) (hF : ∀ f fd, FunD K nm qual params body scope [] [] f fd → FnOk P w K mg base CX0 k f fd ps sp) : DefF P w K mg base x ps k sp := by
  obtain ⟨fd, F⟩ := W.c.def_ i hi
  exact ⟨_, fd, hF _ fd F, W.glo j hj, F.kp, F.bindsN hb⟩
theorem W0.methF (W : W0 K mg) (i j : Nat) {x m nm qual : Str} {params : Arguments} {body : List Stmt} {scope : Scope} {ps : List Str} {k : Nat} {sp : Sp} (hi : fn[i]? = some ⟨(x, some m), nm, qual, params, body, scope, [], []⟩) (hj : fa[j]? = some (.meth x m))
    (hb : BindsLit nm qual params body scope ps) (hF : ∀ f fd, FunD K nm qual params body scope [] [] f fd → FnOk P w K mg base CX0 k f fd ps sp) : MethF P w K mg base (He.ga K x) m ps k sp := by
  obtain ⟨fd, F⟩ := W.c.def_ i hi
  exact ⟨_, fd, hF _ fd F, W.meth j hj, F.bindsN hb⟩
theorem W0.makeF (W : W0 K mg) (i j j2 : Nat) {x nm qual : Str} {params : Arguments} {body : List Stmt} {scope : Scope} {ps : List Str} {k : Nat} {sp : Sp} (hi : fn[i]? = some ⟨(x, some "__init__"), nm, qual, params, body, scope, [], []⟩) (hj : fa[j]? = some (.mkr x)) (hj2 : fa[j2]? = some (.glo x))
    (hb : BindsLit nm qual params body scope ps) (hF : ∀ f fd, FunD K nm qual params body scope [] [] f fd → FnOk P w K mg base CX0 k f fd ps sp) : MakeF P w K mg base (He.ga K x) x ps k sp := by
  obtain ⟨fd, F⟩ := W.c.def_ i hi
  exact ⟨_, fd, hF _ fd F, W.mkr j hj, W.glo j2 hj2, F.bindsN hb⟩
end
def dLenO (C : Addr) (f : List D → (D → Prop) → Prop) : List D → (D → Prop) → Prop := fun ds K => ∃ ns es, ds = [.ins C ns es] ∧ f ds fun d => ∃ n : Int, d = .int n ∧ 0 ≤ n ∧ n < 2 ^ 63 ∧ K (.int n)
def dStrO (C : Addr) (f : List D → (D → Prop) → Prop) : List D → (D → Prop) → Prop := fun ds K => ∃ ns es, ds = [.ins C ns es] ∧ f ds fun d => ∃ s : Str, d = .str s ∧ K (.str s)
section
variable {X : Cx} {x y m : Str} {ps : List Str} {k k' : Nat} {es : List Expr} {e : Expr} {tl : TDA} {ta : TD} {pos p p2 p3 apos : Pos}
theorem pd_callF {ff : List D → (D → Prop) → Prop} (h : DefF X.prog X.w X.K X.mg X.base x ps k (SpF ff)) (hr : Room k' X.A) (hk : k ≤ k') (hg : Gl X x) (ha : PDA X (e :: es) tl) (hdb : (x == ("__debug__" : Str)) = false := by decide)
    (he : starEach (e :: es) X.env = (false, eval e X.env) :: starEach es X.env := by rfl) (hpl : (backTo pos (starEach es X.env)).any (·.1) = false := by rfl) : PD X (.Call (.Name x p) (e :: es) [] pos) (dCall ff tl) := by
  obtain ⟨f, fd, F, hm, hkp, hb⟩ := h.ex
  exact pd_call F (hr.mono hk) hg hm hkp hb ha hdb he hpl
theorem pdn_callF {ff : List D → (OD → Prop) → Prop} (h : DefF X.prog X.w X.K X.mg X.base x ps k (SpN ff)) (hr : Room k' X.A) (hk : k ≤ k') (hg : Gl X x) (ha : PDA X (e :: es) tl) (hdb : (x == ("__debug__" : Str)) = false := by decide)
    (he : starEach (e :: es) X.env = (false, eval e X.env) :: starEach es X.env := by rfl) (hpl : (backTo pos (starEach es X.env)).any (·.1) = false := by rfl) : PDN X (.Call (.Name x p) (e :: es) [] pos) (dCallN ff tl) := by
  obtain ⟨f, fd, F, hm, hkp, hb⟩ := h.ex
  exact pdn_call F (hr.mono hk) hg hm hkp hb ha hdb he hpl
theorem pd_callOF (i : Nat) {ff : TFO} (h : DefF X.prog X.w X.K X.mg X.base x ps k (SpO ff)) (hr : Room k' X.A) (hk : k ≤ k') (hg : Gl X x) (ha : PDA X es tl) (hN : X.N[i]? = some y := by rfl) (hv : Vis X.env.scope y := by first | exact Or.inl rfl | exact Or.inr (Or.inl rfl) | exact Or.inr (Or.inr rfl))
    (hd : (y == ("__debug__" : Str)) = false := by decide) (hcd : (y == ("__classdict__" : Str)) = false := by decide)
    (hdb : (x == ("__debug__" : Str)) = false := by decide) (he : starEach (.Name y p2 :: es) X.env = (false, eval (.Name y p2) X.env) :: starEach es X.env := by rfl) (hpl : (backTo pos (starEach es X.env)).any (·.1) = false := by rfl) :
    PD X (.Call (.Name x p) (.Name y p2 :: es) [] pos) (dCallO i ff tl) := by
  obtain ⟨f, fd, F, hm, hkp, hb⟩ := h.ex
  exact pd_callO i F (hr.mono hk) hg hm hkp hb ha hN hv hd hcd hdb he hpl
theorem pd_makeF {C : Addr} {ff : TFO} (h : MakeF X.prog X.w X.K X.mg X.base C x ps k (SpO ff)) (hr : Room k' X.A) (hk : k + 1 ≤ k') (hg : Gl X x) (ha : PDA X (e :: es) tl)
    (hdb : (x == ("__debug__" : Str)) = false := by decide) (he : starEach (e :: es) X.env = (false, eval e X.env) :: starEach es X.env := by rfl) (hpl : (backTo pos (starEach es X.env)).any (·.1) = false := by rfl) :
    PD X (.Call (.Name x p) (e :: es) [] pos) (dMake C ff tl) := by
  obtain ⟨f, fd, F, M, hm, hb⟩ := h.ex
  exact pd_make M F (hr.mono hk) hg hm hb ha hdb he hpl
theorem pd_methF0 (i : Nat) {C : Addr} {fg : List D → (D → Prop) → Prop} (c : Cls X.K C) (h : MethF X.prog X.w X.K X.mg X.base C m ps k (SpF fg)) (hr : Room k' X.A) (hk : k ≤ k') (hN : X.N[i]? = some x := by rfl) (hv : Vis X.env.scope x := by first | exact Or.inl rfl | exact Or.inr (Or.inl rfl) | exact Or.inr (Or.inr rfl))
    (hd : (x == ("__debug__" : Str)) = false := by decide) (hcd : (x == ("__classdict__" : Str)) = false := by decide) {pl : Sem Bool}
    (ht : eval (.Call (.Attribute (.Name x p) m apos) [] [] pos) X.env = (do
      let ov ← eval (.Name x p) X.env
      standAt apos.atName
      let (f, first) ← holding [ov] (getMethod ov m pl)
      callWith pos f first (backTo pos (starEach [] X.env)) (backToKw pos (keywordEach [] X.env))) := by rfl) :
    PD X (.Call (.Attribute (.Name x p) m apos) [] [] pos) (dMeth (m := m) i C fg dNil) := by
  obtain ⟨f, fd, F, M, hb⟩ := h.ex
  exact pd_meth0 i c M F (hr.mono hk) hb hN hv hd hcd ht
theorem pd_methF (i : Nat) {C : Addr} {fg : List D → (D → Prop) → Prop} (c : Cls X.K C) (h : MethF X.prog X.w X.K X.mg X.base C m ps k (SpF fg)) (hr : Room k' X.A) (hk : k ≤ k') (ha : PDA X (e :: es) tl) (hN : X.N[i]? = some x := by rfl) (hv : Vis X.env.scope x := by first | exact Or.inl rfl | exact Or.inr (Or.inl rfl) | exact Or.inr (Or.inr rfl))
    (hd : (x == ("__debug__" : Str)) = false := by decide) (hcd : (x == ("__classdict__" : Str)) = false := by decide) {pl : Sem Bool}
    (hst : starEach (e :: es) X.env = (false, eval e X.env) :: starEach es X.env := by rfl) (hpl : (backTo pos (starEach es X.env)).any (·.1) = false := by rfl)
    (ht : eval (.Call (.Attribute (.Name x p) m apos) (e :: es) [] pos) X.env = (do
      let ov ← eval (.Name x p) X.env
      standAt apos.atName
      let (f, first) ← holding [ov] (getMethod ov m pl)
      callWith pos f first (backTo pos (starEach (e :: es) X.env)) (backToKw pos (keywordEach [] X.env))) := by rfl) :
    PD X (.Call (.Attribute (.Name x p) m apos) (e :: es) [] pos) (dMeth (m := m) i C fg tl) := by
  obtain ⟨f, fd, F, M, hb⟩ := h.ex
  exact pd_meth i c M F (hr.mono hk) hb ha hN hv hd hcd hst hpl ht
theorem pd_lenOF {C : Addr} {fg : List D → (D → Prop) → Prop} (h : MethF X.prog X.w X.K X.mg X.base C "__len__" ps k (SpF fg)) (hr : Room k' X.A) (hk : k + 1 ≤ k') (hg : Gl X "len") (hm : X.mg "len" = none) (ha : PDA X (e :: es) tl)
    (he : starEach (e :: es) X.env = (false, eval e X.env) :: starEach es X.env := by rfl) (hpl : (backTo pos (starEach es X.env)).any (·.1) = false := by rfl) : PD X (.Call (.Name "len" p) (e :: es) [] pos) (dCall (dLenO C fg) tl) := by
  obtain ⟨f, fd, F, M, hb⟩ := h.ex
  exact pd_callB (NL.cr_lenO M.at_ M.fn F (hr.mono hk) hb) cd_lenO hg hm rfl ha (by decide) (by decide) he hpl
theorem pd_strOF {C : Addr} {fg : List D → (D → Prop) → Prop} (h : MethF X.prog X.w X.K X.mg X.base C "__str__" ps k (SpF fg)) (hr : Room k' X.A) (hk : k + 2 ≤ k') (hg : Gl X "str") (hm : X.mg "str" = none) (ha : PDA X (e :: es) tl)
    (he : starEach (e :: es) X.env = (false, eval e X.env) :: starEach es X.env := by rfl) (hpl : (backTo pos (starEach es X.env)).any (·.1) = false := by rfl) : PD X (.Call (.Name "str" p) (e :: es) [] pos) (dCall (dStrO C fg) tl) := by
  obtain ⟨f, fd, F, M, hb⟩ := h.ex
  exact pd_callTy (NL.cr_strO M.at_ M.fn F (hr.mono hk) hb) cd_strO hg hm rfl ha (by decide) (by decide) he hpl
theorem pd_minKF {ff : List D → (D → Prop) → Prop} (h : DefF X.prog X.w X.K X.mg X.base x ps k (SpF ff)) (hr : Room k' X.A) (hk : k + 1 ≤ k') (hg : Gl X "min") (hm : X.mg "min" = none) (hgF : Gl X x) (he : PD X e ta)
    (hdb : (x == ("__debug__" : Str)) = false := by decide) (h1 : starEach [e] X.env = (false, eval e X.env) :: starEach [] X.env := by rfl)
    (h2 : backTo pos (starEach [e] X.env) = (false, eval e X.env) :: backTo pos (starEach [] X.env) := by rfl) (h3 : (backTo pos (starEach [e] X.env)).any (·.1) = false := by rfl)
    (h4 : (backToKw pos (keywordEach [⟨some "key", .Name x p2, p3⟩] X.env)).all (·.1.isSome) = true := by rfl) (h5 : (backToKw pos (keywordEach [⟨some "key", .Name x p2, p3⟩] X.env)).any (·.1.isNone) = false := by rfl)
    (h6 : (backToKw pos (keywordEach [⟨some "key", .Name x p2, p3⟩] X.env)).filterMap (·.1) = [Str.ofString "key"] := by rfl) :
    PD X (.Call (.Name "min" p) [e] [⟨some "key", .Name x p2, p3⟩] pos) (dMinK ff ta) := by
  obtain ⟨f, fd, F, hmF, hkp, hb⟩ := h.ex
  exact pd_minK F (hr.mono hk) hb hg hm hgF hmF he hdb h1 h2 h3 h4 h5 h6
end
section
variable {X : Cx} {pos p p1 : Pos} {e : Expr} {tg : Expr} {ta : TD}
theorem pd_neg1 {i : Int} {j : Nat} : PD X (.UnaryOp .USub (.Constant (.int i) j p) pos) (dC (.int (-i))) := ⟨fun Γ R k E Hk H σ rp Q q => ⟨_, pe_un un_neg pe_int, i, rfl, q _ _ Γ Hk H k rp (Ex.refl _) rfl⟩⟩
def dNo1 : TD := fun _ _ => False
theorem pd_never : PD X e dNo1 := ⟨fun _ _ k _ _ _ _ _ _ _ => k.elim⟩
def signs (x : Str) : List D := x.cps.toList.map fun c => .str ⟨#[c]⟩
def dItS (t : TD) : TDI := fun Γ R => t Γ fun d Γ1 => match d with
  | .str x => R (signs x) Γ1
  | _ => False
theorem signs_len (x : Str) : (signs x).length = x.cps.size := by
  unfold signs
  rw [List.length_map, Array.length_toList]
theorem signs_get {x : Str} {i : Nat} {d : D} (h : (signs x)[i]? = some d) : ∃ c, x.cps[i]? = some c ∧ d = .str ⟨#[c]⟩ := by
  unfold signs at h
  rw [List.getElem?_map, Array.getElem?_toList] at h
  cases q : x.cps[i]? with
  | none =>
    rw [q] at h
    cases h
  | some c =>
    rw [q] at h
    cases h
    exact ⟨c, rfl, rfl⟩
theorem itd_str {x : Str} {Hk : Hp} : ItD (Its x) (signs x) Hk := by
  refine ⟨fun i H hi e => by rw [signs_len] at hi; exact hi, fun H e => by rw [signs_len]; exact Nat.le_refl _, fun i d Hk1 H y H' hd e1 e2 yy => ?_⟩
  obtain ⟨c, h1, rfl⟩ := signs_get hd
  obtain ⟨rfl, c2, h2, rfl⟩ := yy
  rw [h1] at h2
  cases h2
  exact ⟨Hk1, Step.refl e2, rfl⟩
theorem pdi_str (h : PD X e ta) : PDI X tg e (dItS ta) := by
  refine ⟨fun Γ R k E Hk H σ rp Q q => ⟨_, pi_str pe_w, ?_⟩⟩
  refine h.run Γ _ k E Hk H σ rp _ fun v d Γ1 Hk1 H1 k1 r1 e1 i1 => ?_
  split at k1
  · rename_i x
    exact ⟨x, i1, q _ _ Γ1 Hk1 H1 k1 r1 e1 itd_str⟩
  · exact k1.elim
end
theorem _root_.L2.Room.units1 {k : Nat} {A : Around} (r : Room k A) : A.units + 1 < cLine := by have := r.un; omega
theorem _root_.L2.Room.units65 {k : Nat} {A : Around} (r : Room k A) : A.units + 65 < cLine := by have := r.un; omega
def retOf (b : List Stmt) : Expr := match b with
  | [.Return (some e) _] => e
  | _ => .Constant .none 0 ⟨0, 0, 0, 0⟩
theorem W0.two {K : PySem.W.Frag} {mg : Str → Option Value} (W : W0 K mg) (i j : Nat) (hi : fa[i]? = some (.cls "Strip")) (hj : fa[j]? = some (.cls "Ring")) : TwoC K (He.ga K "Strip") (He.ga K "Ring") := by
  have h := W.ce
  simp only [exM, clsEx, Bool.and_eq_true, decide_eq_true_eq] at h
  obtain ⟨⟨⟨⟨h1, h2⟩, h3, h4⟩, h5, h6⟩, h7, h8⟩ := h
  refine ⟨W.cls i hi, W.cls j hj, h1, h3, h5, h6, h2, h4, h7, h8, fun e => ?_⟩
  rw [e, kit_self] at h7
  exact absurd h7 (by decide)
/-! the script -/
section
variable {X : Cx} {a b : Expr} {ta tb : TD} {pos : Pos}
def dLenS (K : PySem.W.Frag) : List D → (D → Prop) → Prop
  | [.scr F is], Kd => F = K ∧ Kd (.int is.length)
  | _, _ => False
theorem cd_lenS {K : PySem.W.Frag} : CallD (rLen2 K) (dLenS K) := by
  intro Hk H vs ds Kd e i h Q q
  unfold dLenS at h
  split at h
  · obtain ⟨v, rfl, iv⟩ := one_of i
    obtain ⟨rfl, h⟩ := h
    obtain ⟨a, rfl, hs⟩ := Is.mono e iv
    exact .inl ⟨_, _, rfl, .inl ⟨_, hs, rfl⟩, by rw [List.length_map]; exact st_refl e h rfl q⟩
  · exact h.elim
def dIxS (K : PySem.W.Frag) : D → D → (D → Prop) → Prop
  | .scr F is, .int i, Kd => F = K ∧ ∃ n, atI is i = some n ∧ Kd (.int n)
  | _, _, _ => False
theorem atI_map {α β : Type} {f : α → β} {l : List α} {i : Int} {x : α} (h : atI l i = some x) : atI (l.map f) i = some (f x) := by
  unfold atI at h ⊢
  rw [List.length_map]
  cases q : ixN l.length i with
  | none =>
    rw [q] at h
    cases h
  | some k =>
    rw [q] at h
    have h : l[k]? = some x := h
    show (l.map f)[k]? = _
    rw [List.getElem?_map, h]
    rfl
theorem od_ixS {K : PySem.W.Frag} : OpD (rIx K) (dIxS K) := by
  intro Hk H x y d1 d2 Kd e i1 i2 h Q q
  unfold dIxS at h
  split at h
  · obtain ⟨rfl, n, h1, h2⟩ := h
    obtain ⟨a, rfl, hs⟩ := Is.mono e i1
    cases (show y = _ from i2)
    exact .inl ⟨a, _, _, _, rfl, rfl, hs, atI_map h1, st_refl e h2 rfl q⟩
  · exact h.elim
theorem pd_ixS (ha : PD X a ta) (hb : PD X b tb) (hs : PlainIx b := by exact fun _ _ => rfl) : PD X (.Subscript a b pos) (dOp (dIxS X.K) ta tb) :=
  ⟨fun _ _ h _ _ _ _ rp _ q => ⟨_, pe_ix ix_seq pe_w pe_w hs, op_run od_ixS ha hb h rp q⟩⟩
end
end MS
set_option maxHeartbeats 4000000
namespace MS
open PySem PySem.Spec PyProof.Rows L2 DL
abbrev N_is_integer : List Str := ["value", "low", "high"]
def R_is_integer  : TDS := (dRet (dAndV (dIsi .int (dVar 0)) (dAndV (dNotV (dIsi .bl (dVar 0))) (dChain dLe dLe (dVar 1) (dVar 0) (dVar 2)))))
theorem w_is_integer {P : Program} {w : World} {K : PySem.W.Frag} {mg : Str → Option Value} {base : Heap} (W : W0 K mg)   (cdv : Value) (A : Around) (outer : List Env) (s : Shared) (H : Hp) (E : XK) (f : Addr) (hr : Room 0 (A.deeper (envOfC "is_integer" (defScope s_is_integer) s.heap.objs.size f cdv))) :
  PDS (cxOf CX0 P w K mg base N_is_integer "is_integer" (defScope s_is_integer) f cdv A outer s H E).nox (defBody s_is_integer) R_is_integer := by
  have hN : N_is_integer.Nodup := by decide
  exact (pds_one (pds_ret (pd_and (pd_isi .int rfl (W.free 84) rfl (W.free 97) (pd_var 0)) (pd_and (pd_not (pd_isi .bl rfl (W.free 84) rfl (W.free 99) (pd_var 0))) (pd_one (pd_chain op_le op_le od_le od_le (pd_var 1) (pd_var 0) (pd_var 2)))))))
theorem g_is_integer {P : Program} {w : World} {K : PySem.W.Frag} {mg : Str → Option Value} {base : Heap} (W : W0 K mg)  {gg : List D → (D → Prop) → Prop} 
  (hl : ∀ ds Kd, gg ds Kd → ds.length = 3)
  (hp : ∀ ds Kd, gg ds Kd → R_is_integer { nx := fun _ => Kd .non, rt := fun d _ => Kd d } (init N_is_integer ["value", "low", "high"] ds)) : DefF P w K mg base "is_integer" ["value", "low", "high"] 1 (SpF gg) :=
  W.def_ 0 0 rfl rfl (fun _ _ _ _ _ _ us hl => match us, hl with | [_, _, _], _ => rfl) fun f fd F => fn_ok F (C8.fnScope_by (by decide +kernel)) hl fun cdv A outer s H E hr => ⟨_, w_is_integer W  cdv A outer s H E f hr, hp⟩
abbrev N_is_name : List Str := ["value", "letter"]
def R_is_name  : TDS := (dSeq (dIfS (dOr (dNot (dB (dIsi .str (dVar 0)))) (dNot (dB (dChain dLe dLe (dC (.int 1)) (dCall dLen (dCons (dVar 0) dNil)) (dC (.int 4)))))) (dRet (dC (.bl false))) dNext)
  (dRet (dCall dAll (dCons (dLc (dItS (dVar 0)) (dgName 1) dYes (dOp dInSign (dVar 1) (dC (.str "abcdefghijklmnopqrstuvwxyz"))) [1]) dNil))))
theorem w_is_name {P : Program} {w : World} {K : PySem.W.Frag} {mg : Str → Option Value} {base : Heap} (W : W0 K mg)   (cdv : Value) (A : Around) (outer : List Env) (s : Shared) (H : Hp) (E : XK) (f : Addr) (hr : Room 0 (A.deeper (envOfC "is_name" (defScope s_is_name) s.heap.objs.size f cdv))) :
  PDS (cxOf CX0 P w K mg base N_is_name "is_name" (defScope s_is_name) f cdv A outer s H E).nox (defBody s_is_name) R_is_name := by
  have hN : N_is_name.Nodup := by decide
  exact (pds_cons (pds_if (PDW.pt (pdw_or (pdt_not (pdt_val (pd_isi .str rfl (W.free 84) rfl (W.free 98) (pd_var 0)))) (pdw_or1 (pdt_not (pdt_chain op_le op_le od_le od_le pd_int (pd_callB cr_len2 cd_len rfl (W.free 83) rfl (pda_cons (pd_var 0) pda_nil)) (pd_globI rfl (W.int 100))))))) (pds_one (pds_ret pd_bl)) pds_nil)
    (pds_one (pds_ret (pd_callB (cr_all rfl) cd_all rfl (W.free 85) rfl (pda_cons (pd_lc (own := [("letter", 1)]) rfl hN (pdi_str (pd_var 0)) (blkOk_by (by kernel_rfl)) (by decide) (fun s H C cl fp => (pdg_name 1 hN)) (fun s H C cl fp => pdts_nil) (fun s H C cl fp => (pd_cmp op_in_sign od_inSign (pd_var 1) (pd_globS rfl (W.str 103))))) pda_nil)))))
theorem g_is_name {P : Program} {w : World} {K : PySem.W.Frag} {mg : Str → Option Value} {base : Heap} (W : W0 K mg)  {gg : List D → (D → Prop) → Prop} 
  (hl : ∀ ds Kd, gg ds Kd → ds.length = 1)
  (hp : ∀ ds Kd, gg ds Kd → R_is_name { nx := fun _ => Kd .non, rt := fun d _ => Kd d } (init N_is_name ["value"] ds)) : DefF P w K mg base "is_name" ["value"] 1 (SpF gg) :=
  W.def_ 1 1 rfl rfl (fun _ _ _ _ _ _ us hl => match us, hl with | [_], _ => rfl) fun f fd F => fn_ok F (C8.fnScope_by (by decide +kernel)) hl fun cdv A outer s H E hr => ⟨_, w_is_name W  cdv A outer s H E f hr, hp⟩
abbrev N_is_piece : List Str := ["value", "letter"]
def R_is_piece  : TDS := (dRet (dAndV (dIsi .str (dVar 0)) (dCall dAll (dCons (dLc (dItS (dVar 0)) (dgName 1) dYes (dOrV (dOp dInSign (dVar 1) (dC (.str "abcdefghijklmnopqrstuvwxyz"))) (dOp dInSign (dVar 1) (dC (.str "ABCDEFGHIJKLMNOPQRSTUVWXYZ")))) [1]) dNil))))
theorem w_is_piece {P : Program} {w : World} {K : PySem.W.Frag} {mg : Str → Option Value} {base : Heap} (W : W0 K mg)   (cdv : Value) (A : Around) (outer : List Env) (s : Shared) (H : Hp) (E : XK) (f : Addr) (hr : Room 0 (A.deeper (envOfC "is_piece" (defScope s_is_piece) s.heap.objs.size f cdv))) :
  PDS (cxOf CX0 P w K mg base N_is_piece "is_piece" (defScope s_is_piece) f cdv A outer s H E).nox (defBody s_is_piece) R_is_piece := by
  have hN : N_is_piece.Nodup := by decide
  exact (pds_one (pds_ret (pd_and (pd_isi .str rfl (W.free 84) rfl (W.free 98) (pd_var 0)) (pd_one (pd_callB (cr_all rfl) cd_all rfl (W.free 85) rfl (pda_cons (pd_lc (own := [("letter", 1)]) rfl hN (pdi_str (pd_var 0)) (blkOk_by (by kernel_rfl)) (by decide) (fun s H C cl fp => (pdg_name 1 hN)) (fun s H C cl fp => pdts_nil) (fun s H C cl fp => (pd_or (pd_cmp op_in_sign od_inSign (pd_var 1) (pd_globS rfl (W.str 103))) (pd_one (pd_cmp op_in_sign od_inSign (pd_var 1) (pd_globS rfl (W.str 104))))))) pda_nil))))))
theorem g_is_piece {P : Program} {w : World} {K : PySem.W.Frag} {mg : Str → Option Value} {base : Heap} (W : W0 K mg)  {gg : List D → (D → Prop) → Prop} 
  (hl : ∀ ds Kd, gg ds Kd → ds.length = 1)
  (hp : ∀ ds Kd, gg ds Kd → R_is_piece { nx := fun _ => Kd .non, rt := fun d _ => Kd d } (init N_is_piece ["value"] ds)) : DefF P w K mg base "is_piece" ["value"] 1 (SpF gg) :=
  W.def_ 2 2 rfl rfl (fun _ _ _ _ _ _ us hl => match us, hl with | [_], _ => rfl) fun f fd F => fn_ok F (C8.fnScope_by (by decide +kernel)) hl fun cdv A outer s H E hr => ⟨_, w_is_piece W  cdv A outer s H E f hr, hp⟩
abbrev N_is_marker : List Str := ["value"]
def R_is_marker (gg_is_name : List D → (D → Prop) → Prop) : TDS := (dRet (dAndV (dIsi .tup (dVar 0)) (dAndV (dOp dEq (dCall dLen (dCons (dVar 0) dNil)) (dC (.int 2))) (dAndV (dCall gg_is_name (dCons (dOp dIx (dVar 0) (dC (.int 0))) dNil)) (dIsi .bl (dOp dIx (dVar 0) (dC (.int 1))))))))
theorem w_is_marker {P : Program} {w : World} {K : PySem.W.Frag} {mg : Str → Option Value} {base : Heap} (W : W0 K mg) {gg_is_name : List D → (D → Prop) → Prop} (c_is_name : DefF P w K mg base "is_name" ["value"] 1 (SpF gg_is_name)) (cdv : Value) (A : Around) (outer : List Env) (s : Shared) (H : Hp) (E : XK) (f : Addr) (hr : Room 1 (A.deeper (envOfC "is_marker" (defScope s_is_marker) s.heap.objs.size f cdv))) :
  PDS (cxOf CX0 P w K mg base N_is_marker "is_marker" (defScope s_is_marker) f cdv A outer s H E).nox (defBody s_is_marker) (R_is_marker gg_is_name) := by
  have hN : N_is_marker.Nodup := by decide
  exact (pds_one (pds_ret (pd_and (pd_isi .tup rfl (W.free 84) rfl (W.free 94) (pd_var 0)) (pd_and (pd_cmp (op_eq2 hr.units) od_eq (pd_callB cr_len2 cd_len rfl (W.free 83) rfl (pda_cons (pd_var 0) pda_nil)) pd_int) (pd_and (pd_callF c_is_name hr (by decide) rfl (pda_cons (pd_ix (pd_var 0) pd_int) pda_nil)) (pd_one (pd_isi .bl rfl (W.free 84) rfl (W.free 99) (pd_ix (pd_var 0) pd_int))))))))
theorem g_is_marker {P : Program} {w : World} {K : PySem.W.Frag} {mg : Str → Option Value} {base : Heap} (W : W0 K mg) {gg_is_name : List D → (D → Prop) → Prop} {gg : List D → (D → Prop) → Prop} (c_is_name : DefF P w K mg base "is_name" ["value"] 1 (SpF gg_is_name))
  (hl : ∀ ds Kd, gg ds Kd → ds.length = 1)
  (hp : ∀ ds Kd, gg ds Kd → (R_is_marker gg_is_name) { nx := fun _ => Kd .non, rt := fun d _ => Kd d } (init N_is_marker ["value"] ds)) : DefF P w K mg base "is_marker" ["value"] 2 (SpF gg) :=
  W.def_ 3 3 rfl rfl (fun _ _ _ _ _ _ us hl => match us, hl with | [_], _ => rfl) fun f fd F => fn_ok F (C8.fnScope_by (by decide +kernel)) hl fun cdv A outer s H E hr => ⟨_, w_is_marker W c_is_name cdv A outer s H E f hr, hp⟩
abbrev N_is_sequence : List Str := ["value"]
def R_is_sequence  : TDS := (dRet (dIsi2 .lst .tup (dVar 0)))
theorem w_is_sequence {P : Program} {w : World} {K : PySem.W.Frag} {mg : Str → Option Value} {base : Heap} (W : W0 K mg)   (cdv : Value) (A : Around) (outer : List Env) (s : Shared) (H : Hp) (E : XK) (f : Addr) (hr : Room 0 (A.deeper (envOfC "is_sequence" (defScope s_is_sequence) s.heap.objs.size f cdv))) :
  PDS (cxOf CX0 P w K mg base N_is_sequence "is_sequence" (defScope s_is_sequence) f cdv A outer s H E).nox (defBody s_is_sequence) R_is_sequence := by
  have hN : N_is_sequence.Nodup := by decide
  exact (pds_one (pds_ret (pd_isi2 .lst .tup rfl (W.free 84) rfl (W.free 93) rfl (W.free 94) (pd_var 0))))
theorem g_is_sequence {P : Program} {w : World} {K : PySem.W.Frag} {mg : Str → Option Value} {base : Heap} (W : W0 K mg)  {gg : List D → (D → Prop) → Prop} 
  (hl : ∀ ds Kd, gg ds Kd → ds.length = 1)
  (hp : ∀ ds Kd, gg ds Kd → R_is_sequence { nx := fun _ => Kd .non, rt := fun d _ => Kd d } (init N_is_sequence ["value"] ds)) : DefF P w K mg base "is_sequence" ["value"] 1 (SpF gg) :=
  W.def_ 4 4 rfl rfl (fun _ _ _ _ _ _ us hl => match us, hl with | [_], _ => rfl) fun f fd F => fn_ok F (C8.fnScope_by (by decide +kernel)) hl fun cdv A outer s H E hr => ⟨_, w_is_sequence W  cdv A outer s H E f hr, hp⟩
abbrev N_require_piece : List Str := ["value"]
def R_require_piece (gg_is_piece : List D → (D → Prop) → Prop) : TDS := (dIfS (dNot (dB (dCall gg_is_piece (dCons (dVar 0) dNil)))) dNever dNext)
theorem w_require_piece {P : Program} {w : World} {K : PySem.W.Frag} {mg : Str → Option Value} {base : Heap} (W : W0 K mg) {gg_is_piece : List D → (D → Prop) → Prop} (c_is_piece : DefF P w K mg base "is_piece" ["value"] 1 (SpF gg_is_piece)) (cdv : Value) (A : Around) (outer : List Env) (s : Shared) (H : Hp) (E : XK) (f : Addr) (hr : Room 1 (A.deeper (envOfC "require_piece" (defScope s_require_piece) s.heap.objs.size f cdv))) :
  PDS (cxOf CX0 P w K mg base N_require_piece "require_piece" (defScope s_require_piece) f cdv A outer s H E).nox (defBody s_require_piece) (R_require_piece gg_is_piece) := by
  have hN : N_require_piece.Nodup := by decide
  exact (pds_one (pds_if (pdt_not (pdt_val (pd_callF c_is_piece hr (by decide) rfl (pda_cons (pd_var 0) pda_nil)))) (pds_one pds_never1) pds_nil))
theorem g_require_piece {P : Program} {w : World} {K : PySem.W.Frag} {mg : Str → Option Value} {base : Heap} (W : W0 K mg) {gg_is_piece : List D → (D → Prop) → Prop} {gg : List D → (D → Prop) → Prop} (c_is_piece : DefF P w K mg base "is_piece" ["value"] 1 (SpF gg_is_piece))
  (hl : ∀ ds Kd, gg ds Kd → ds.length = 1)
  (hp : ∀ ds Kd, gg ds Kd → (R_require_piece gg_is_piece) { nx := fun _ => Kd .non, rt := fun d _ => Kd d } (init N_require_piece ["value"] ds)) : DefF P w K mg base "require_piece" ["value"] 2 (SpF gg) :=
  W.def_ 5 5 rfl rfl (fun _ _ _ _ _ _ us hl => match us, hl with | [_], _ => rfl) fun f fd F => fn_ok F (C8.fnScope_by (by decide +kernel)) hl fun cdv A outer s H E hr => ⟨_, w_require_piece W c_is_piece cdv A outer s H E f hr, hp⟩
abbrev N_require_marker : List Str := ["value"]
def R_require_marker (gg_is_marker : List D → (D → Prop) → Prop) : TDS := (dIfS (dNot (dB (dCall gg_is_marker (dCons (dVar 0) dNil)))) dNever dNext)
theorem w_require_marker {P : Program} {w : World} {K : PySem.W.Frag} {mg : Str → Option Value} {base : Heap} (W : W0 K mg) {gg_is_marker : List D → (D → Prop) → Prop} (c_is_marker : DefF P w K mg base "is_marker" ["value"] 2 (SpF gg_is_marker)) (cdv : Value) (A : Around) (outer : List Env) (s : Shared) (H : Hp) (E : XK) (f : Addr) (hr : Room 2 (A.deeper (envOfC "require_marker" (defScope s_require_marker) s.heap.objs.size f cdv))) :
  PDS (cxOf CX0 P w K mg base N_require_marker "require_marker" (defScope s_require_marker) f cdv A outer s H E).nox (defBody s_require_marker) (R_require_marker gg_is_marker) := by
  have hN : N_require_marker.Nodup := by decide
  exact (pds_one (pds_if (pdt_not (pdt_val (pd_callF c_is_marker hr (by decide) rfl (pda_cons (pd_var 0) pda_nil)))) (pds_one pds_never1) pds_nil))
theorem g_require_marker {P : Program} {w : World} {K : PySem.W.Frag} {mg : Str → Option Value} {base : Heap} (W : W0 K mg) {gg_is_marker : List D → (D → Prop) → Prop} {gg : List D → (D → Prop) → Prop} (c_is_marker : DefF P w K mg base "is_marker" ["value"] 2 (SpF gg_is_marker))
  (hl : ∀ ds Kd, gg ds Kd → ds.length = 1)
  (hp : ∀ ds Kd, gg ds Kd → (R_require_marker gg_is_marker) { nx := fun _ => Kd .non, rt := fun d _ => Kd d } (init N_require_marker ["value"] ds)) : DefF P w K mg base "require_marker" ["value"] 3 (SpF gg) :=
  W.def_ 6 6 rfl rfl (fun _ _ _ _ _ _ us hl => match us, hl with | [_], _ => rfl) fun f fd F => fn_ok F (C8.fnScope_by (by decide +kernel)) hl fun cdv A outer s H E hr => ⟨_, w_require_marker W c_is_marker cdv A outer s H E f hr, hp⟩
abbrev N_require_items : List Str := ["items", "number", "item"]
def R_require_items (gg_require_marker : List D → (D → Prop) → Prop) (gg_require_piece : List D → (D → Prop) → Prop) : TDS := (dFor (dItE (dCons (dVar 0) dNil)) (dgTup 2 (dgCons (dgName 1) (dgCons (dgName 2) dgNil))) (dIfS (dB (dOp dEq (dOp dMod (dVar 1) (dC (.int 2))) (dC (.int 1)))) (dDrop (dCall gg_require_marker (dCons (dVar 2) dNil))) (dDrop (dCall gg_require_piece (dCons (dVar 2) dNil)))))
theorem w_require_items {P : Program} {w : World} {K : PySem.W.Frag} {mg : Str → Option Value} {base : Heap} (W : W0 K mg) {gg_require_marker : List D → (D → Prop) → Prop} {gg_require_piece : List D → (D → Prop) → Prop} (c_require_marker : DefF P w K mg base "require_marker" ["value"] 3 (SpF gg_require_marker)) (c_require_piece : DefF P w K mg base "require_piece" ["value"] 2 (SpF gg_require_piece)) (cdv : Value) (A : Around) (outer : List Env) (s : Shared) (H : Hp) (E : XK) (f : Addr) (hr : Room 3 (A.deeper (envOfC "require_items" (defScope s_require_items) s.heap.objs.size f cdv))) :
  PDS (cxOf CX0 P w K mg base N_require_items "require_items" (defScope s_require_items) f cdv A outer s H E).nox (defBody s_require_items) (R_require_items gg_require_marker gg_require_piece) := by
  have hN : N_require_items.Nodup := by decide
  exact (pds_one (pds_for PassesOwn.never (pdi_enum rfl (W.free 88) (pda_cons (pd_var 0) pda_nil)) (pdg_tup rfl (pdgs_cons (pdg_name 1 hN) (pdgs_cons (pdg_name 2 hN) pdgs_nil))) (pds_one (pds_if (pdt_cmp (op_eq2 hr.units) od_eq (pd_op op_mod od_mod (pd_var 1) pd_int) pd_int) (pds_one (pds_expr (pd_callF c_require_marker hr (by decide) rfl (pda_cons (pd_var 2) pda_nil)))) (pds_one (pds_expr (pd_callF c_require_piece hr (by decide) rfl (pda_cons (pd_var 2) pda_nil))))))))
theorem g_require_items {P : Program} {w : World} {K : PySem.W.Frag} {mg : Str → Option Value} {base : Heap} (W : W0 K mg) {gg_require_marker : List D → (D → Prop) → Prop} {gg_require_piece : List D → (D → Prop) → Prop} {gg : List D → (D → Prop) → Prop} (c_require_marker : DefF P w K mg base "require_marker" ["value"] 3 (SpF gg_require_marker)) (c_require_piece : DefF P w K mg base "require_piece" ["value"] 2 (SpF gg_require_piece))
  (hl : ∀ ds Kd, gg ds Kd → ds.length = 1)
  (hp : ∀ ds Kd, gg ds Kd → (R_require_items gg_require_marker gg_require_piece) { nx := fun _ => Kd .non, rt := fun d _ => Kd d } (init N_require_items ["items"] ds)) : DefF P w K mg base "require_items" ["items"] 4 (SpF gg) :=
  W.def_ 7 7 rfl rfl (fun _ _ _ _ _ _ us hl => match us, hl with | [_], _ => rfl) fun f fd F => fn_ok F (C8.fnScope_by (by decide +kernel)) hl fun cdv A outer s H E hr => ⟨_, w_require_items W c_require_marker c_require_piece cdv A outer s H E f hr, hp⟩
abbrev N_require_row : List Str := ["row"]
def R_require_row (gg_is_sequence : List D → (D → Prop) → Prop) (gg_require_items : List D → (D → Prop) → Prop) : TDS := (dSeq (dIfS (dOr (dNot (dB (dCall gg_is_sequence (dCons (dVar 0) dNil)))) (dB (dOp dEq (dOp dMod (dCall dLen (dCons (dVar 0) dNil)) (dC (.int 2))) (dC (.int 0))))) dNever dNext)
  (dDrop (dCall gg_require_items (dCons (dVar 0) dNil))))
theorem w_require_row {P : Program} {w : World} {K : PySem.W.Frag} {mg : Str → Option Value} {base : Heap} (W : W0 K mg) {gg_is_sequence : List D → (D → Prop) → Prop} {gg_require_items : List D → (D → Prop) → Prop} (c_is_sequence : DefF P w K mg base "is_sequence" ["value"] 1 (SpF gg_is_sequence)) (c_require_items : DefF P w K mg base "require_items" ["items"] 4 (SpF gg_require_items)) (cdv : Value) (A : Around) (outer : List Env) (s : Shared) (H : Hp) (E : XK) (f : Addr) (hr : Room 4 (A.deeper (envOfC "require_row" (defScope s_require_row) s.heap.objs.size f cdv))) :
  PDS (cxOf CX0 P w K mg base N_require_row "require_row" (defScope s_require_row) f cdv A outer s H E).nox (defBody s_require_row) (R_require_row gg_is_sequence gg_require_items) := by
  have hN : N_require_row.Nodup := by decide
  exact (pds_cons (pds_if (PDW.pt (pdw_or (pdt_not (pdt_val (pd_callF c_is_sequence hr (by decide) rfl (pda_cons (pd_var 0) pda_nil)))) (pdw_or1 (pdt_cmp (op_eq2 hr.units) od_eq (pd_op op_mod od_mod (pd_callB cr_len2 cd_len rfl (W.free 83) rfl (pda_cons (pd_var 0) pda_nil)) pd_int) pd_int)))) (pds_one pds_never1) pds_nil)
    (pds_one (pds_expr (pd_callF c_require_items hr (by decide) rfl (pda_cons (pd_var 0) pda_nil)))))
theorem g_require_row {P : Program} {w : World} {K : PySem.W.Frag} {mg : Str → Option Value} {base : Heap} (W : W0 K mg) {gg_is_sequence : List D → (D → Prop) → Prop} {gg_require_items : List D → (D → Prop) → Prop} {gg : List D → (D → Prop) → Prop} (c_is_sequence : DefF P w K mg base "is_sequence" ["value"] 1 (SpF gg_is_sequence)) (c_require_items : DefF P w K mg base "require_items" ["items"] 4 (SpF gg_require_items))
  (hl : ∀ ds Kd, gg ds Kd → ds.length = 1)
  (hp : ∀ ds Kd, gg ds Kd → (R_require_row gg_is_sequence gg_require_items) { nx := fun _ => Kd .non, rt := fun d _ => Kd d } (init N_require_row ["row"] ds)) : DefF P w K mg base "require_row" ["row"] 5 (SpF gg) :=
  W.def_ 8 8 rfl rfl (fun _ _ _ _ _ _ us hl => match us, hl with | [_], _ => rfl) fun f fd F => fn_ok F (C8.fnScope_by (by decide +kernel)) hl fun cdv A outer s H E hr => ⟨_, w_require_row W c_is_sequence c_require_items cdv A outer s H E f hr, hp⟩
abbrev N_flipped_piece : List Str := ["piece"]
def R_flipped_piece  : TDS := (dRet (dM0 Txt.swapcase (dRevS (dVar 0))))
theorem w_flipped_piece {P : Program} {w : World} {K : PySem.W.Frag} {mg : Str → Option Value} {base : Heap} (W : W0 K mg)   (cdv : Value) (A : Around) (outer : List Env) (s : Shared) (H : Hp) (E : XK) (f : Addr) (hr : Room 0 (A.deeper (envOfC "flipped_piece" (defScope s_flipped_piece) s.heap.objs.size f cdv))) :
  PDS (cxOf CX0 P w K mg base N_flipped_piece "flipped_piece" (defScope s_flipped_piece) f cdv A outer s H E).nox (defBody s_flipped_piece) R_flipped_piece := by
  have hN : N_flipped_piece.Nodup := by decide
  exact (pds_one (pds_ret (pd_swapcase (pd_revS (pd_var 0)))))
theorem g_flipped_piece {P : Program} {w : World} {K : PySem.W.Frag} {mg : Str → Option Value} {base : Heap} (W : W0 K mg)  {gg : List D → (D → Prop) → Prop} 
  (hl : ∀ ds Kd, gg ds Kd → ds.length = 1)
  (hp : ∀ ds Kd, gg ds Kd → R_flipped_piece { nx := fun _ => Kd .non, rt := fun d _ => Kd d } (init N_flipped_piece ["piece"] ds)) : DefF P w K mg base "flipped_piece" ["piece"] 1 (SpF gg) :=
  W.def_ 9 9 rfl rfl (fun _ _ _ _ _ _ us hl => match us, hl with | [_], _ => rfl) fun f fd F => fn_ok F (C8.fnScope_by (by decide +kernel)) hl fun cdv A outer s H E hr => ⟨_, w_flipped_piece W  cdv A outer s H E f hr, hp⟩
abbrev N_flipped_marker : List Str := ["marker"]
def R_flipped_marker  : TDS := (dRet (dTup (dCons (dOp dIx (dVar 0) (dC (.int 0))) (dCons (dNotV (dOp dIx (dVar 0) (dC (.int 1)))) dNil))))
theorem w_flipped_marker {P : Program} {w : World} {K : PySem.W.Frag} {mg : Str → Option Value} {base : Heap} (W : W0 K mg)   (cdv : Value) (A : Around) (outer : List Env) (s : Shared) (H : Hp) (E : XK) (f : Addr) (hr : Room 0 (A.deeper (envOfC "flipped_marker" (defScope s_flipped_marker) s.heap.objs.size f cdv))) :
  PDS (cxOf CX0 P w K mg base N_flipped_marker "flipped_marker" (defScope s_flipped_marker) f cdv A outer s H E).nox (defBody s_flipped_marker) R_flipped_marker := by
  have hN : N_flipped_marker.Nodup := by decide
  exact (pds_one (pds_ret (pd_tup (pda_cons (pd_ix (pd_var 0) pd_int) (pda_cons (pd_not (pd_ix (pd_var 0) pd_int)) pda_nil)))))
theorem g_flipped_marker {P : Program} {w : World} {K : PySem.W.Frag} {mg : Str → Option Value} {base : Heap} (W : W0 K mg)  {gg : List D → (D → Prop) → Prop} 
  (hl : ∀ ds Kd, gg ds Kd → ds.length = 1)
  (hp : ∀ ds Kd, gg ds Kd → R_flipped_marker { nx := fun _ => Kd .non, rt := fun d _ => Kd d } (init N_flipped_marker ["marker"] ds)) : DefF P w K mg base "flipped_marker" ["marker"] 1 (SpF gg) :=
  W.def_ 10 10 rfl rfl (fun _ _ _ _ _ _ us hl => match us, hl with | [_], _ => rfl) fun f fd F => fn_ok F (C8.fnScope_by (by decide +kernel)) hl fun cdv A outer s H E hr => ⟨_, w_flipped_marker W  cdv A outer s H E f hr, hp⟩
abbrev N_flipped_item : List Str := ["item"]
def R_flipped_item (gg_flipped_marker : List D → (D → Prop) → Prop) (gg_flipped_piece : List D → (D → Prop) → Prop) : TDS := (dRet (dIf (dB (dIsi .tup (dVar 0))) (dCall gg_flipped_marker (dCons (dVar 0) dNil)) (dCall gg_flipped_piece (dCons (dVar 0) dNil))))
theorem w_flipped_item {P : Program} {w : World} {K : PySem.W.Frag} {mg : Str → Option Value} {base : Heap} (W : W0 K mg) {gg_flipped_marker : List D → (D → Prop) → Prop} {gg_flipped_piece : List D → (D → Prop) → Prop} (c_flipped_marker : DefF P w K mg base "flipped_marker" ["marker"] 1 (SpF gg_flipped_marker)) (c_flipped_piece : DefF P w K mg base "flipped_piece" ["piece"] 1 (SpF gg_flipped_piece)) (cdv : Value) (A : Around) (outer : List Env) (s : Shared) (H : Hp) (E : XK) (f : Addr) (hr : Room 1 (A.deeper (envOfC "flipped_item" (defScope s_flipped_item) s.heap.objs.size f cdv))) :
  PDS (cxOf CX0 P w K mg base N_flipped_item "flipped_item" (defScope s_flipped_item) f cdv A outer s H E).nox (defBody s_flipped_item) (R_flipped_item gg_flipped_marker gg_flipped_piece) := by
  have hN : N_flipped_item.Nodup := by decide
  exact (pds_one (pds_ret (pd_ifExp (pdt_val (pd_isi .tup rfl (W.free 84) rfl (W.free 94) (pd_var 0))) (pd_callF c_flipped_marker hr (by decide) rfl (pda_cons (pd_var 0) pda_nil)) (pd_callF c_flipped_piece hr (by decide) rfl (pda_cons (pd_var 0) pda_nil)))))
theorem g_flipped_item {P : Program} {w : World} {K : PySem.W.Frag} {mg : Str → Option Value} {base : Heap} (W : W0 K mg) {gg_flipped_marker : List D → (D → Prop) → Prop} {gg_flipped_piece : List D → (D → Prop) → Prop} {gg : List D → (D → Prop) → Prop} (c_flipped_marker : DefF P w K mg base "flipped_marker" ["marker"] 1 (SpF gg_flipped_marker)) (c_flipped_piece : DefF P w K mg base "flipped_piece" ["piece"] 1 (SpF gg_flipped_piece))
  (hl : ∀ ds Kd, gg ds Kd → ds.length = 1)
  (hp : ∀ ds Kd, gg ds Kd → (R_flipped_item gg_flipped_marker gg_flipped_piece) { nx := fun _ => Kd .non, rt := fun d _ => Kd d } (init N_flipped_item ["item"] ds)) : DefF P w K mg base "flipped_item" ["item"] 2 (SpF gg) :=
  W.def_ 11 11 rfl rfl (fun _ _ _ _ _ _ us hl => match us, hl with | [_], _ => rfl) fun f fd F => fn_ok F (C8.fnScope_by (by decide +kernel)) hl fun cdv A outer s H E hr => ⟨_, w_flipped_item W c_flipped_marker c_flipped_piece cdv A outer s H E f hr, hp⟩
abbrev N_flipped_items : List Str := ["items", "item"]
def R_flipped_items (gg_flipped_item : List D → (D → Prop) → Prop) : TDS := (dRet (dLc (dItL (dRev (dVar 0))) (dgName 1) dYes (dCall gg_flipped_item (dCons (dVar 1) dNil)) [1]))
theorem w_flipped_items {P : Program} {w : World} {K : PySem.W.Frag} {mg : Str → Option Value} {base : Heap} (W : W0 K mg) {gg_flipped_item : List D → (D → Prop) → Prop} (c_flipped_item : DefF P w K mg base "flipped_item" ["item"] 2 (SpF gg_flipped_item)) (cdv : Value) (A : Around) (outer : List Env) (s : Shared) (H : Hp) (E : XK) (f : Addr) (hr : Room 2 (A.deeper (envOfC "flipped_items" (defScope s_flipped_items) s.heap.objs.size f cdv))) :
  PDS (cxOf CX0 P w K mg base N_flipped_items "flipped_items" (defScope s_flipped_items) f cdv A outer s H E).nox (defBody s_flipped_items) (R_flipped_items gg_flipped_item) := by
  have hN : N_flipped_items.Nodup := by decide
  exact (pds_one (pds_ret (pd_lc (own := [("item", 1)]) rfl hN (pdi_list (pd_revL (pd_var 0))) (blkOk_by (by kernel_rfl)) (by decide) (fun s H C cl fp => (pdg_name 1 hN)) (fun s H C cl fp => pdts_nil) (fun s H C cl fp => (pd_callF c_flipped_item hr (by decide) rfl (pda_cons (pd_var 1) pda_nil))))))
theorem g_flipped_items {P : Program} {w : World} {K : PySem.W.Frag} {mg : Str → Option Value} {base : Heap} (W : W0 K mg) {gg_flipped_item : List D → (D → Prop) → Prop} {gg : List D → (D → Prop) → Prop} (c_flipped_item : DefF P w K mg base "flipped_item" ["item"] 2 (SpF gg_flipped_item))
  (hl : ∀ ds Kd, gg ds Kd → ds.length = 1)
  (hp : ∀ ds Kd, gg ds Kd → (R_flipped_items gg_flipped_item) { nx := fun _ => Kd .non, rt := fun d _ => Kd d } (init N_flipped_items ["items"] ds)) : DefF P w K mg base "flipped_items" ["items"] 3 (SpF gg) :=
  W.def_ 12 12 rfl rfl (fun _ _ _ _ _ _ us hl => match us, hl with | [_], _ => rfl) fun f fd F => fn_ok F (C8.fnScope_by (by decide +kernel)) hl fun cdv A outer s H E hr => ⟨_, w_flipped_items W c_flipped_item cdv A outer s H E f hr, hp⟩
end MS
set_option maxHeartbeats 4000000
namespace MS
open PySem PySem.Spec PyProof.Rows L2 DL
abbrev N_marker_numbers : List Str := ["row", "found", "number", "name", "upright"]
def R_marker_numbers  : TDS := (dTabFn 1 (dForZ (dItE (dCons (dStep (some 1) (some 2) (dVar 0)) dNil)) (dgTup 2 (dgCons (dgName 2) (dgCons (dgTup 2 (dgCons (dgName 3) (dgCons (dgName 4) dgNil))) dgNil))) (dTab (dVar 3) (dVar 2))))
theorem w_marker_numbers {P : Program} {w : World} {K : PySem.W.Frag} {mg : Str → Option Value} {base : Heap} (W : W0 K mg)   (cdv : Value) (A : Around) (outer : List Env) (s : Shared) (H : Hp) (E : XK) (f : Addr) (hr : Room 0 (A.deeper (envOfC "marker_numbers" (defScope s_marker_numbers) s.heap.objs.size f cdv))) :
  PDS (cxOf CX0 P w K mg base N_marker_numbers "marker_numbers" (defScope s_marker_numbers) f cdv A outer s H E).nox (defBody s_marker_numbers) R_marker_numbers := by
  have hN : N_marker_numbers.Nodup := by decide
  exact (pds_tabFn 1 (pdb_for 1 PassesOwn.never (pdi_enum rfl (W.free 88) (pda_cons (pd_step12 (pd_var 0)) pda_nil)) (pdg_tup rfl (pdgs_cons (pdg_name 2 hN) (pdgs_cons (pdg_tup rfl (pdgs_cons (pdg_name 3 hN) (pdgs_cons (pdg_name 4 hN) pdgs_nil))) pdgs_nil))) (by decide) (pdb_tab 1 (pd_var 3) (pd_var 2))) hN)
theorem g_marker_numbers {P : Program} {w : World} {K : PySem.W.Frag} {mg : Str → Option Value} {base : Heap} (W : W0 K mg)  {gg : List D → (D → Prop) → Prop} 
  (hl : ∀ ds Kd, gg ds Kd → ds.length = 1)
  (hp : ∀ ds Kd, gg ds Kd → R_marker_numbers { nx := fun _ => Kd .non, rt := fun d _ => Kd d } (init N_marker_numbers ["row"] ds)) : DefF P w K mg base "marker_numbers" ["row"] 1 (SpF gg) :=
  W.def_ 13 13 rfl rfl (fun _ _ _ _ _ _ us hl => match us, hl with | [_], _ => rfl) fun f fd F => fn_ok F (C8.fnScope_by (by decide +kernel)) hl fun cdv A outer s H E hr => ⟨_, w_marker_numbers W  cdv A outer s H E f hr, hp⟩
abbrev N_item_text : List Str := ["item"]
def R_item_text  : TDS := (dSeq (dIfS (dB (dIsi .tup (dVar 0))) (dRet (dOp dAdd (dOp dIx (dVar 0) (dC (.int 0))) (dIf (dB (dOp dIx (dVar 0) (dC (.int 1)))) (dC (.str "+")) (dC (.str "-"))))) dNext)
  (dRet (dIf (dB (dOp dNe (dVar 0) (dC (.str "")))) (dVar 0) (dC (.str "_")))))
theorem w_item_text {P : Program} {w : World} {K : PySem.W.Frag} {mg : Str → Option Value} {base : Heap} (W : W0 K mg)   (cdv : Value) (A : Around) (outer : List Env) (s : Shared) (H : Hp) (E : XK) (f : Addr) (hr : Room 0 (A.deeper (envOfC "item_text" (defScope s_item_text) s.heap.objs.size f cdv))) :
  PDS (cxOf CX0 P w K mg base N_item_text "item_text" (defScope s_item_text) f cdv A outer s H E).nox (defBody s_item_text) R_item_text := by
  have hN : N_item_text.Nodup := by decide
  exact (pds_cons (pds_if (pdt_val (pd_isi .tup rfl (W.free 84) rfl (W.free 94) (pd_var 0))) (pds_one (pds_ret (pd_op op_add3 od_add (pd_ix (pd_var 0) pd_int) (pd_ifExp (pdt_val (pd_ix (pd_var 0) pd_int)) pd_str pd_str)))) pds_nil)
    (pds_one (pds_ret (pd_ifExp (pdt_cmp (op_ne2 hr.units) od_ne (pd_var 0) pd_str) (pd_var 0) pd_str))))
theorem g_item_text {P : Program} {w : World} {K : PySem.W.Frag} {mg : Str → Option Value} {base : Heap} (W : W0 K mg)  {gg : List D → (D → Prop) → Prop} 
  (hl : ∀ ds Kd, gg ds Kd → ds.length = 1)
  (hp : ∀ ds Kd, gg ds Kd → R_item_text { nx := fun _ => Kd .non, rt := fun d _ => Kd d } (init N_item_text ["item"] ds)) : DefF P w K mg base "item_text" ["item"] 1 (SpF gg) :=
  W.def_ 14 14 rfl rfl (fun _ _ _ _ _ _ us hl => match us, hl with | [_], _ => rfl) fun f fd F => fn_ok F (C8.fnScope_by (by decide +kernel)) hl fun cdv A outer s H E hr => ⟨_, w_item_text W  cdv A outer s H E f hr, hp⟩
abbrev N_items_text : List Str := ["items", "item"]
def R_items_text (gg_item_text : List D → (D → Prop) → Prop) : TDS := (dRet (dJoin (dC (.str " ")) (dLc (dItL (dVar 0)) (dgName 1) dYes (dCall gg_item_text (dCons (dVar 1) dNil)) [1])))
theorem w_items_text {P : Program} {w : World} {K : PySem.W.Frag} {mg : Str → Option Value} {base : Heap} (W : W0 K mg) {gg_item_text : List D → (D → Prop) → Prop} (c_item_text : DefF P w K mg base "item_text" ["item"] 1 (SpF gg_item_text)) (cdv : Value) (A : Around) (outer : List Env) (s : Shared) (H : Hp) (E : XK) (f : Addr) (hr : Room 1 (A.deeper (envOfC "items_text" (defScope s_items_text) s.heap.objs.size f cdv))) :
  PDS (cxOf CX0 P w K mg base N_items_text "items_text" (defScope s_items_text) f cdv A outer s H E).nox (defBody s_items_text) (R_items_text gg_item_text) := by
  have hN : N_items_text.Nodup := by decide
  exact (pds_one (pds_ret (pd_join pd_str (pd_lc (own := [("item", 1)]) rfl hN (pdi_list (pd_var 0)) (blkOk_by (by kernel_rfl)) (by decide) (fun s H C cl fp => (pdg_name 1 hN)) (fun s H C cl fp => pdts_nil) (fun s H C cl fp => (pd_callF c_item_text hr (by decide) rfl (pda_cons (pd_var 1) pda_nil)))))))
theorem g_items_text {P : Program} {w : World} {K : PySem.W.Frag} {mg : Str → Option Value} {base : Heap} (W : W0 K mg) {gg_item_text : List D → (D → Prop) → Prop} {gg : List D → (D → Prop) → Prop} (c_item_text : DefF P w K mg base "item_text" ["item"] 1 (SpF gg_item_text))
  (hl : ∀ ds Kd, gg ds Kd → ds.length = 1)
  (hp : ∀ ds Kd, gg ds Kd → (R_items_text gg_item_text) { nx := fun _ => Kd .non, rt := fun d _ => Kd d } (init N_items_text ["items"] ds)) : DefF P w K mg base "items_text" ["items"] 2 (SpF gg) :=
  W.def_ 15 15 rfl rfl (fun _ _ _ _ _ _ us hl => match us, hl with | [_], _ => rfl) fun f fd F => fn_ok F (C8.fnScope_by (by decide +kernel)) hl fun cdv A outer s H E hr => ⟨_, w_items_text W c_item_text cdv A outer s H E f hr, hp⟩
abbrev N_reading_text : List Str := ["row", "read"]
def R_reading_text (gg_items_text : List D → (D → Prop) → Prop) : TDS := (dSeq (dSet 1 (dIf (dB (dOp dEq (dCall dLen (dCons (dVar 0) dNil)) (dC (.int 1)))) (dVar 0) dNo1))
  (dRet (dJoined3 (dC (.str "( ")) (dTextOf (dCall gg_items_text (dCons (dVar 1) dNil))) (dC (.str " )")))))
theorem w_reading_text {P : Program} {w : World} {K : PySem.W.Frag} {mg : Str → Option Value} {base : Heap} (W : W0 K mg) {gg_items_text : List D → (D → Prop) → Prop} (c_items_text : DefF P w K mg base "items_text" ["items"] 2 (SpF gg_items_text)) (cdv : Value) (A : Around) (outer : List Env) (s : Shared) (H : Hp) (E : XK) (f : Addr) (hr : Room 2 (A.deeper (envOfC "reading_text" (defScope s_reading_text) s.heap.objs.size f cdv))) :
  PDS (cxOf CX0 P w K mg base N_reading_text "reading_text" (defScope s_reading_text) f cdv A outer s H E).nox (defBody s_reading_text) (R_reading_text gg_items_text) := by
  have hN : N_reading_text.Nodup := by decide
  exact (pds_cons (pds_set 1 (pd_ifExp (pdt_cmp (op_eq2 hr.units) od_eq (pd_callB cr_len2 cd_len rfl (W.free 83) rfl (pda_cons (pd_var 0) pda_nil)) pd_int) (pd_var 0) pd_never) hN)
    (pds_one (pds_ret (pd_joined3 pd_str (pd_fmt (pd_callF c_items_text hr (by decide) rfl (pda_cons (pd_var 1) pda_nil))) pd_str))))
theorem g_reading_text {P : Program} {w : World} {K : PySem.W.Frag} {mg : Str → Option Value} {base : Heap} (W : W0 K mg) {gg_items_text : List D → (D → Prop) → Prop} {gg : List D → (D → Prop) → Prop} (c_items_text : DefF P w K mg base "items_text" ["items"] 2 (SpF gg_items_text))
  (hl : ∀ ds Kd, gg ds Kd → ds.length = 1)
  (hp : ∀ ds Kd, gg ds Kd → (R_reading_text gg_items_text) { nx := fun _ => Kd .non, rt := fun d _ => Kd d } (init N_reading_text ["row"] ds)) : DefF P w K mg base "reading_text" ["row"] 3 (SpF gg) :=
  W.def_ 16 16 rfl rfl (fun _ _ _ _ _ _ us hl => match us, hl with | [_], _ => rfl) fun f fd F => fn_ok F (C8.fnScope_by (by decide +kernel)) hl fun cdv A outer s H E hr => ⟨_, w_reading_text W c_items_text cdv A outer s H E f hr, hp⟩
abbrev N_Strip_init : List Str := ["self", "row", "name", "numbers"]
def R_Strip_init (K : PySem.W.Frag) (gg_require_row : List D → (D → Prop) → Prop) (gg_marker_numbers : List D → (D → Prop) → Prop) : TDS := (dSeq (dDrop (dCall gg_require_row (dCons (dVar 1) dNil)))
  (dSeq (dSetF (He.ga K "Strip") "kept_row" 0 (dCall dList (dCons (dVar 1) dNil)))
  (dSeq (dSetF (He.ga K "Strip") "kept_places" 0 (dCall gg_marker_numbers (dCons (dOwnFld (He.ga K "Strip") "kept_row" 0) dNil)))
  (dSeq (dItems2 (He.ga K "Strip") "kept_places" 0 2 3)
  (dIfS (dB (dOp dGt (dCall dLen (dCons (dOwnFld (He.ga K "Strip") "kept_places" 0) dNil)) (dC (.int 12)))) dNever dNext)))))
theorem w_Strip_init {P : Program} {w : World} {K : PySem.W.Frag} {mg : Str → Option Value} {base : Heap} (W : W0 K mg) {gg_require_row : List D → (D → Prop) → Prop} {gg_marker_numbers : List D → (D → Prop) → Prop} (c_require_row : DefF P w K mg base "require_row" ["row"] 5 (SpF gg_require_row)) (c_marker_numbers : DefF P w K mg base "marker_numbers" ["row"] 1 (SpF gg_marker_numbers)) (cdv : Value) (A : Around) (outer : List Env) (s : Shared) (H : Hp) (E : XK) (f : Addr) (hr : Room 5 (A.deeper (envOfC "Strip.__init__" (defScope s_Strip_init) s.heap.objs.size f cdv))) :
  PDS (cxOf CX0 P w K mg base N_Strip_init "Strip.__init__" (defScope s_Strip_init) f cdv A outer s H E).nox (defBody s_Strip_init) (R_Strip_init K gg_require_row gg_marker_numbers) := by
  have hN : N_Strip_init.Nodup := by decide
  exact (pds_cons (pds_expr (pd_callF c_require_row hr (by decide) rfl (pda_cons (pd_var 1) pda_nil)))
    (pds_cons (pds_setF 0 (W.cls 57) (W.noat 59) (pd_callTy (cr_list2 rfl) cd_list rfl (W.free 93) rfl (pda_cons (pd_var 1) pda_nil)))
    (pds_cons (pds_setF 0 (W.cls 57) (W.noat 60) (pd_callF c_marker_numbers hr (by decide) rfl (pda_cons (pd_ownFld 0 (W.cls 57) (W.noat 59)) pda_nil)))
    (pds_cons (pds_items2 (p13 := ⟨0, 0, 0, 0⟩) 0 2 3 (W.cls 57) (W.noat 60) PassesOwn.never rfl hN rfl (W.free 83))
    (pds_one (pds_if (pdt_cmp op_gt od_gt (pd_callB cr_len2 cd_len rfl (W.free 83) rfl (pda_cons (pd_ownFld 0 (W.cls 57) (W.noat 60)) pda_nil)) (pd_globI rfl (W.int 101))) (pds_one pds_never1) pds_nil))))))
theorem g_Strip_init {P : Program} {w : World} {K : PySem.W.Frag} {mg : Str → Option Value} {base : Heap} (W : W0 K mg) {gg_require_row : List D → (D → Prop) → Prop} {gg_marker_numbers : List D → (D → Prop) → Prop} {gg : TFO} (c_require_row : DefF P w K mg base "require_row" ["row"] 5 (SpF gg_require_row)) (c_marker_numbers : DefF P w K mg base "marker_numbers" ["row"] 1 (SpF gg_marker_numbers))
  (hl : ∀ o ds Kd, gg o ds Kd → ds.length + 1 = 2)
  (hp : ∀ o ds Kd, gg o ds Kd → (R_Strip_init K gg_require_row gg_marker_numbers) (endsO Kd) (initO N_Strip_init ["self", "row"] o ds)) : MakeF P w K mg base (He.ga K "Strip") "Strip" ["self", "row"] 6 (SpO gg) :=
  W.makeF 17 58 56 rfl rfl rfl (fun _ _ _ _ _ _ us hl => match us, hl with | [_, _], _ => rfl) fun f fd F => fn_okO F (C8.fnScope_by (by decide +kernel)) hl fun cdv A outer s H E hr => ⟨_, w_Strip_init W c_require_row c_marker_numbers cdv A outer s H E f hr, hp⟩
abbrev N_Strip_row : List Str := ["self"]
def R_Strip_row (K : PySem.W.Frag)  : TDS := (dRet (dCall dList (dCons (dFld (He.ga K "Strip") "kept_row" (dVar 0)) dNil)))
theorem w_Strip_row {P : Program} {w : World} {K : PySem.W.Frag} {mg : Str → Option Value} {base : Heap} (W : W0 K mg)   (cdv : Value) (A : Around) (outer : List Env) (s : Shared) (H : Hp) (E : XK) (f : Addr) (hr : Room 0 (A.deeper (envOfC "Strip.row" (defScope s_Strip_row) s.heap.objs.size f cdv))) :
  PDS (cxOf CX0 P w K mg base N_Strip_row "Strip.row" (defScope s_Strip_row) f cdv A outer s H E).nox (defBody s_Strip_row) (R_Strip_row K ) := by
  have hN : N_Strip_row.Nodup := by decide
  exact (pds_one (pds_ret (pd_callTy (cr_list2 rfl) cd_list rfl (W.free 93) rfl (pda_cons (pd_fld (W.cls 57) (W.noat 59) (pd_var 0)) pda_nil))))
theorem g_Strip_row {P : Program} {w : World} {K : PySem.W.Frag} {mg : Str → Option Value} {base : Heap} (W : W0 K mg)  {gg : List D → (D → Prop) → Prop} 
  (hl : ∀ ds Kd, gg ds Kd → ds.length = 1)
  (hp : ∀ ds Kd, gg ds Kd → (R_Strip_row K ) { nx := fun _ => Kd .non, rt := fun d _ => Kd d } (init N_Strip_row ["self"] ds)) : MethF P w K mg base (He.ga K "Strip") "row" ["self"] 1 (SpF gg) :=
  W.methF 18 74 rfl rfl (fun _ _ _ _ _ _ us hl => match us, hl with | [_], _ => rfl) fun f fd F => fn_ok F (C8.fnScope_by (by decide +kernel)) hl fun cdv A outer s H E hr => ⟨_, w_Strip_row W  cdv A outer s H E f hr, hp⟩
abbrev N_Strip_names : List Str := ["self"]
def R_Strip_names (K : PySem.W.Frag)  : TDS := (dRet (dCall dList (dCons (dFld (He.ga K "Strip") "kept_places" (dVar 0)) dNil)))
theorem w_Strip_names {P : Program} {w : World} {K : PySem.W.Frag} {mg : Str → Option Value} {base : Heap} (W : W0 K mg)   (cdv : Value) (A : Around) (outer : List Env) (s : Shared) (H : Hp) (E : XK) (f : Addr) (hr : Room 0 (A.deeper (envOfC "Strip.names" (defScope s_Strip_names) s.heap.objs.size f cdv))) :
  PDS (cxOf CX0 P w K mg base N_Strip_names "Strip.names" (defScope s_Strip_names) f cdv A outer s H E).nox (defBody s_Strip_names) (R_Strip_names K ) := by
  have hN : N_Strip_names.Nodup := by decide
  exact (pds_one (pds_ret (pd_callTy (cr_list2 rfl) cd_list rfl (W.free 93) rfl (pda_cons (pd_fld (W.cls 57) (W.noat 60) (pd_var 0)) pda_nil))))
theorem g_Strip_names {P : Program} {w : World} {K : PySem.W.Frag} {mg : Str → Option Value} {base : Heap} (W : W0 K mg)  {gg : List D → (D → Prop) → Prop} 
  (hl : ∀ ds Kd, gg ds Kd → ds.length = 1)
  (hp : ∀ ds Kd, gg ds Kd → (R_Strip_names K ) { nx := fun _ => Kd .non, rt := fun d _ => Kd d } (init N_Strip_names ["self"] ds)) : MethF P w K mg base (He.ga K "Strip") "names" ["self"] 1 (SpF gg) :=
  W.methF 19 75 rfl rfl (fun _ _ _ _ _ _ us hl => match us, hl with | [_], _ => rfl) fun f fd F => fn_ok F (C8.fnScope_by (by decide +kernel)) hl fun cdv A outer s H E hr => ⟨_, w_Strip_names W  cdv A outer s H E f hr, hp⟩
abbrev N_Strip_require_name : List Str := ["self", "name"]
def R_Strip_require_name (K : PySem.W.Frag)  : TDS := (dIfS (dOr (dNot (dB (dIsi .str (dVar 1)))) (dB (dDNotIn (dVar 1) (dFld (He.ga K "Strip") "kept_places" (dVar 0))))) dNever dNext)
theorem w_Strip_require_name {P : Program} {w : World} {K : PySem.W.Frag} {mg : Str → Option Value} {base : Heap} (W : W0 K mg)   (cdv : Value) (A : Around) (outer : List Env) (s : Shared) (H : Hp) (E : XK) (f : Addr) (hr : Room 0 (A.deeper (envOfC "Strip.require_name" (defScope s_Strip_require_name) s.heap.objs.size f cdv))) :
  PDS (cxOf CX0 P w K mg base N_Strip_require_name "Strip.require_name" (defScope s_Strip_require_name) f cdv A outer s H E).nox (defBody s_Strip_require_name) (R_Strip_require_name K ) := by
  have hN : N_Strip_require_name.Nodup := by decide
  exact (pds_one (pds_if (PDW.pt (pdw_or (pdt_not (pdt_val (pd_isi .str rfl (W.free 84) rfl (W.free 98) (pd_var 1)))) (pdw_or1 (pdt_dnin hr.units1 (pd_var 1) (pd_fld (W.cls 57) (W.noat 60) (pd_var 0)))))) (pds_one pds_never1) pds_nil))
theorem g_Strip_require_name {P : Program} {w : World} {K : PySem.W.Frag} {mg : Str → Option Value} {base : Heap} (W : W0 K mg)  {gg : List D → (D → Prop) → Prop} 
  (hl : ∀ ds Kd, gg ds Kd → ds.length = 2)
  (hp : ∀ ds Kd, gg ds Kd → (R_Strip_require_name K ) { nx := fun _ => Kd .non, rt := fun d _ => Kd d } (init N_Strip_require_name ["self", "name"] ds)) : MethF P w K mg base (He.ga K "Strip") "require_name" ["self", "name"] 1 (SpF gg) :=
  W.methF 20 76 rfl rfl (fun _ _ _ _ _ _ us hl => match us, hl with | [_, _], _ => rfl) fun f fd F => fn_ok F (C8.fnScope_by (by decide +kernel)) hl fun cdv A outer s H E hr => ⟨_, w_Strip_require_name W  cdv A outer s H E f hr, hp⟩
abbrev N_Strip_len : List Str := ["self"]
def R_Strip_len (K : PySem.W.Frag)  : TDS := (dRet (dCall dLen (dCons (dFld (He.ga K "Strip") "kept_places" (dVar 0)) dNil)))
theorem w_Strip_len {P : Program} {w : World} {K : PySem.W.Frag} {mg : Str → Option Value} {base : Heap} (W : W0 K mg)   (cdv : Value) (A : Around) (outer : List Env) (s : Shared) (H : Hp) (E : XK) (f : Addr) (hr : Room 0 (A.deeper (envOfC "Strip.__len__" (defScope s_Strip_len) s.heap.objs.size f cdv))) :
  PDS (cxOf CX0 P w K mg base N_Strip_len "Strip.__len__" (defScope s_Strip_len) f cdv A outer s H E).nox (defBody s_Strip_len) (R_Strip_len K ) := by
  have hN : N_Strip_len.Nodup := by decide
  exact (pds_one (pds_ret (pd_callB cr_len2 cd_len rfl (W.free 83) rfl (pda_cons (pd_fld (W.cls 57) (W.noat 60) (pd_var 0)) pda_nil))))
theorem g_Strip_len {P : Program} {w : World} {K : PySem.W.Frag} {mg : Str → Option Value} {base : Heap} (W : W0 K mg)  {gg : List D → (D → Prop) → Prop} 
  (hl : ∀ ds Kd, gg ds Kd → ds.length = 1)
  (hp : ∀ ds Kd, gg ds Kd → (R_Strip_len K ) { nx := fun _ => Kd .non, rt := fun d _ => Kd d } (init N_Strip_len ["self"] ds)) : MethF P w K mg base (He.ga K "Strip") "__len__" ["self"] 1 (SpF gg) :=
  W.methF 21 77 rfl rfl (fun _ _ _ _ _ _ us hl => match us, hl with | [_], _ => rfl) fun f fd F => fn_ok F (C8.fnScope_by (by decide +kernel)) hl fun cdv A outer s H E hr => ⟨_, w_Strip_len W  cdv A outer s H E f hr, hp⟩
abbrev N_require_reading : List Str := ["row"]
def R_require_reading (gg_is_sequence : List D → (D → Prop) → Prop) (gg_require_items : List D → (D → Prop) → Prop) : TDS := (dSeq (dIfS (dOr (dNot (dB (dCall gg_is_sequence (dCons (dVar 0) dNil)))) (dOr (dB (dOp dEq (dCall dLen (dCons (dVar 0) dNil)) (dC (.int 0)))) (dAnd (dB (dOp dGt (dCall dLen (dCons (dVar 0) dNil)) (dC (.int 1)))) (dB (dOp dEq (dOp dMod (dCall dLen (dCons (dVar 0) dNil)) (dC (.int 2))) (dC (.int 1))))))) dNever dNext)
  (dDrop (dCall gg_require_items (dCons (dVar 0) dNil))))
theorem w_require_reading {P : Program} {w : World} {K : PySem.W.Frag} {mg : Str → Option Value} {base : Heap} (W : W0 K mg) {gg_is_sequence : List D → (D → Prop) → Prop} {gg_require_items : List D → (D → Prop) → Prop} (c_is_sequence : DefF P w K mg base "is_sequence" ["value"] 1 (SpF gg_is_sequence)) (c_require_items : DefF P w K mg base "require_items" ["items"] 4 (SpF gg_require_items)) (cdv : Value) (A : Around) (outer : List Env) (s : Shared) (H : Hp) (E : XK) (f : Addr) (hr : Room 4 (A.deeper (envOfC "require_reading" (defScope s_require_reading) s.heap.objs.size f cdv))) :
  PDS (cxOf CX0 P w K mg base N_require_reading "require_reading" (defScope s_require_reading) f cdv A outer s H E).nox (defBody s_require_reading) (R_require_reading gg_is_sequence gg_require_items) := by
  have hN : N_require_reading.Nodup := by decide
  exact (pds_cons (pds_if (PDW.pt (pdw_or (pdt_not (pdt_val (pd_callF c_is_sequence hr (by decide) rfl (pda_cons (pd_var 0) pda_nil)))) (pdw_or (pdt_cmp (op_eq2 hr.units) od_eq (pd_callB cr_len2 cd_len rfl (W.free 83) rfl (pda_cons (pd_var 0) pda_nil)) pd_int) (pdw_or1 (PDW.pt (pdw_and (pdt_cmp op_gt od_gt (pd_callB cr_len2 cd_len rfl (W.free 83) rfl (pda_cons (pd_var 0) pda_nil)) pd_int) (pdw_and1 (pdt_cmp (op_eq2 hr.units) od_eq (pd_op op_mod od_mod (pd_callB cr_len2 cd_len rfl (W.free 83) rfl (pda_cons (pd_var 0) pda_nil)) pd_int) pd_int)))))))) (pds_one pds_never1) pds_nil)
    (pds_one (pds_expr (pd_callF c_require_items hr (by decide) rfl (pda_cons (pd_var 0) pda_nil)))))
theorem g_require_reading {P : Program} {w : World} {K : PySem.W.Frag} {mg : Str → Option Value} {base : Heap} (W : W0 K mg) {gg_is_sequence : List D → (D → Prop) → Prop} {gg_require_items : List D → (D → Prop) → Prop} {gg : List D → (D → Prop) → Prop} (c_is_sequence : DefF P w K mg base "is_sequence" ["value"] 1 (SpF gg_is_sequence)) (c_require_items : DefF P w K mg base "require_items" ["items"] 4 (SpF gg_require_items))
  (hl : ∀ ds Kd, gg ds Kd → ds.length = 1)
  (hp : ∀ ds Kd, gg ds Kd → (R_require_reading gg_is_sequence gg_require_items) { nx := fun _ => Kd .non, rt := fun d _ => Kd d } (init N_require_reading ["row"] ds)) : DefF P w K mg base "require_reading" ["row"] 5 (SpF gg) :=
  W.def_ 22 17 rfl rfl (fun _ _ _ _ _ _ us hl => match us, hl with | [_], _ => rfl) fun f fd F => fn_ok F (C8.fnScope_by (by decide +kernel)) hl fun cdv A outer s H E hr => ⟨_, w_require_reading W c_is_sequence c_require_items cdv A outer s H E f hr, hp⟩
abbrev N_readings : List Str := ["row", "found", "piece", "back", "read", "start"]
def R_readings (gg_flipped_piece : List D → (D → Prop) → Prop) : TDS := (dSeq (dIfS (dB (dOp dEq (dCall dLen (dCons (dVar 0) dNil)) (dC (.int 1)))) (dSeq (dSetN 1 (dLstN dNil))
  (dSeq (dFor (dItT (dTup (dCons (dOp dIx (dVar 0) (dC (.int 0))) (dCons (dCall gg_flipped_piece (dCons (dOp dIx (dVar 0) (dC (.int 0))) dNil)) dNil)))) (dgName 2) (dDrop (dExt 1 (dLc (dItR (dCons (dCall dMax2 (dCons (dC (.int 1)) (dCons (dCall dLen (dCons (dVar 2) dNil)) dNil))) dNil)) (dgName 5) dYes (dLst (dCons (dOp dAdd (dSl dCut (dVar 2) (dPart (dVar 5)) dNo) (dSl dCut (dVar 2) dNo (dPart (dVar 5)))) dNil)) [5]))))
  (dFrz 1 (dRet (dVar 1))))) dNext) dNever)
theorem w_readings {P : Program} {w : World} {K : PySem.W.Frag} {mg : Str → Option Value} {base : Heap} (W : W0 K mg) {gg_flipped_piece : List D → (D → Prop) → Prop} (c_flipped_piece : DefF P w K mg base "flipped_piece" ["piece"] 1 (SpF gg_flipped_piece)) (cdv : Value) (A : Around) (outer : List Env) (s : Shared) (H : Hp) (E : XK) (f : Addr) (hr : Room 1 (A.deeper (envOfC "readings" (defScope s_readings) s.heap.objs.size f cdv))) :
  PDS (cxOf CX0 P w K mg base N_readings "readings" (defScope s_readings) f cdv A outer s H E).nox (defBody s_readings) (R_readings gg_flipped_piece) := by
  have hN : N_readings.Nodup := by decide
  exact (pds_cons (pds_if (pdt_cmp (op_eq2 hr.units) od_eq (pd_callB cr_len2 cd_len rfl (W.free 83) rfl (pda_cons (pd_var 0) pda_nil)) pd_int) (pds_cons (pds_setN 1 (pdn_lst pda_nil) hN)
    (pds_cons (pds_for PassesOwn.never (pdi_tup (pd_tup (pda_cons (pd_ix (pd_var 0) pd_int) (pda_cons (pd_callF c_flipped_piece hr (by decide) rfl (pda_cons (pd_ix (pd_var 0) pd_int) pda_nil)) pda_nil)))) (pdg_name 2 hN) (pds_one (pds_expr (pd_extend 1 (pd_lc (own := [("start", 5)]) rfl hN (pdi_range1 rfl (W.free 87) (pda_cons (pd_callB (call_max2 rfl) cd_max2 rfl (W.free 92) rfl (pda_cons pd_int (pda_cons (pd_callB cr_len2 cd_len rfl (W.free 83) rfl (pda_cons (pd_var 2) pda_nil)) pda_nil))) pda_nil)) (blkOk_by (by kernel_rfl)) (by decide) (fun s H C cl fp => (pdg_name 5 hN)) (fun s H C cl fp => pdts_nil) (fun s H C cl fp => (pd_lst (pda_cons (pd_op op_add3 od_add (pd_slice (pd_var 2) (pdo_some (pd_var 5)) pdo_none) (pd_slice (pd_var 2) pdo_none (pdo_some (pd_var 5)))) pda_nil))))))))
    (pds_one (pds_frz1 1 (pds_ret (pd_var 1)))))) pds_nil) pds_never)
theorem g_readings {P : Program} {w : World} {K : PySem.W.Frag} {mg : Str → Option Value} {base : Heap} (W : W0 K mg) {gg_flipped_piece : List D → (D → Prop) → Prop} {gg : List D → (D → Prop) → Prop} (c_flipped_piece : DefF P w K mg base "flipped_piece" ["piece"] 1 (SpF gg_flipped_piece))
  (hl : ∀ ds Kd, gg ds Kd → ds.length = 1)
  (hp : ∀ ds Kd, gg ds Kd → (R_readings gg_flipped_piece) { nx := fun _ => Kd .non, rt := fun d _ => Kd d } (init N_readings ["row"] ds)) : DefF P w K mg base "readings" ["row"] 2 (SpF gg) :=
  W.def_ 23 18 rfl rfl (fun _ _ _ _ _ _ us hl => match us, hl with | [_], _ => rfl) fun f fd F => fn_ok F (C8.fnScope_by (by decide +kernel)) hl fun cdv A outer s H E hr => ⟨_, w_readings W c_flipped_piece cdv A outer s H E f hr, hp⟩
abbrev N_Ring_init : List Str := ["self", "row"]
def R_Ring_init (K : PySem.W.Frag) (gg_require_reading : List D → (D → Prop) → Prop) (gg_reading_text : List D → (D → Prop) → Prop) (gg_readings : List D → (D → Prop) → Prop) : TDS := (dSeq (dDrop (dCall gg_require_reading (dCons (dVar 1) dNil)))
  (dSetF (He.ga K "Ring") "kept_row" 0 (dMinK gg_reading_text (dCall gg_readings (dCons (dCall dList (dCons (dVar 1) dNil)) dNil)))))
theorem w_Ring_init {P : Program} {w : World} {K : PySem.W.Frag} {mg : Str → Option Value} {base : Heap} (W : W0 K mg) {gg_require_reading : List D → (D → Prop) → Prop} {gg_reading_text : List D → (D → Prop) → Prop} {gg_readings : List D → (D → Prop) → Prop} (c_require_reading : DefF P w K mg base "require_reading" ["row"] 5 (SpF gg_require_reading)) (c_reading_text : DefF P w K mg base "reading_text" ["row"] 3 (SpF gg_reading_text)) (c_readings : DefF P w K mg base "readings" ["row"] 2 (SpF gg_readings)) (cdv : Value) (A : Around) (outer : List Env) (s : Shared) (H : Hp) (E : XK) (f : Addr) (hr : Room 5 (A.deeper (envOfC "Ring.__init__" (defScope s_Ring_init) s.heap.objs.size f cdv))) :
  PDS (cxOf CX0 P w K mg base N_Ring_init "Ring.__init__" (defScope s_Ring_init) f cdv A outer s H E).nox (defBody s_Ring_init) (R_Ring_init K gg_require_reading gg_reading_text gg_readings) := by
  have hN : N_Ring_init.Nodup := by decide
  exact (pds_cons (pds_expr (pd_callF c_require_reading hr (by decide) rfl (pda_cons (pd_var 1) pda_nil)))
    (pds_one (pds_setF 0 (W.cls 62) (W.noat 64) (pd_minKF c_reading_text hr (by decide) rfl (W.free 91) rfl (pd_callF c_readings hr (by decide) rfl (pda_cons (pd_callTy (cr_list2 rfl) cd_list rfl (W.free 93) rfl (pda_cons (pd_var 1) pda_nil)) pda_nil))))))
theorem g_Ring_init {P : Program} {w : World} {K : PySem.W.Frag} {mg : Str → Option Value} {base : Heap} (W : W0 K mg) {gg_require_reading : List D → (D → Prop) → Prop} {gg_reading_text : List D → (D → Prop) → Prop} {gg_readings : List D → (D → Prop) → Prop} {gg : TFO} (c_require_reading : DefF P w K mg base "require_reading" ["row"] 5 (SpF gg_require_reading)) (c_reading_text : DefF P w K mg base "reading_text" ["row"] 3 (SpF gg_reading_text)) (c_readings : DefF P w K mg base "readings" ["row"] 2 (SpF gg_readings))
  (hl : ∀ o ds Kd, gg o ds Kd → ds.length + 1 = 2)
  (hp : ∀ o ds Kd, gg o ds Kd → (R_Ring_init K gg_require_reading gg_reading_text gg_readings) (endsO Kd) (initO N_Ring_init ["self", "row"] o ds)) : MakeF P w K mg base (He.ga K "Ring") "Ring" ["self", "row"] 6 (SpO gg) :=
  W.makeF 24 63 61 rfl rfl rfl (fun _ _ _ _ _ _ us hl => match us, hl with | [_, _], _ => rfl) fun f fd F => fn_okO F (C8.fnScope_by (by decide +kernel)) hl fun cdv A outer s H E hr => ⟨_, w_Ring_init W c_require_reading c_reading_text c_readings cdv A outer s H E f hr, hp⟩
abbrev N_Ring_row : List Str := ["self"]
def R_Ring_row (K : PySem.W.Frag)  : TDS := (dRet (dCall dList (dCons (dFld (He.ga K "Ring") "kept_row" (dVar 0)) dNil)))
theorem w_Ring_row {P : Program} {w : World} {K : PySem.W.Frag} {mg : Str → Option Value} {base : Heap} (W : W0 K mg)   (cdv : Value) (A : Around) (outer : List Env) (s : Shared) (H : Hp) (E : XK) (f : Addr) (hr : Room 0 (A.deeper (envOfC "Ring.row" (defScope s_Ring_row) s.heap.objs.size f cdv))) :
  PDS (cxOf CX0 P w K mg base N_Ring_row "Ring.row" (defScope s_Ring_row) f cdv A outer s H E).nox (defBody s_Ring_row) (R_Ring_row K ) := by
  have hN : N_Ring_row.Nodup := by decide
  exact (pds_one (pds_ret (pd_callTy (cr_list2 rfl) cd_list rfl (W.free 93) rfl (pda_cons (pd_fld (W.cls 62) (W.noat 64) (pd_var 0)) pda_nil))))
theorem g_Ring_row {P : Program} {w : World} {K : PySem.W.Frag} {mg : Str → Option Value} {base : Heap} (W : W0 K mg)  {gg : List D → (D → Prop) → Prop} 
  (hl : ∀ ds Kd, gg ds Kd → ds.length = 1)
  (hp : ∀ ds Kd, gg ds Kd → (R_Ring_row K ) { nx := fun _ => Kd .non, rt := fun d _ => Kd d } (init N_Ring_row ["self"] ds)) : MethF P w K mg base (He.ga K "Ring") "row" ["self"] 1 (SpF gg) :=
  W.methF 25 78 rfl rfl (fun _ _ _ _ _ _ us hl => match us, hl with | [_], _ => rfl) fun f fd F => fn_ok F (C8.fnScope_by (by decide +kernel)) hl fun cdv A outer s H E hr => ⟨_, w_Ring_row W  cdv A outer s H E f hr, hp⟩
abbrev N_Ring_len : List Str := ["self"]
def R_Ring_len (K : PySem.W.Frag)  : TDS := (dRet (dCall dLen (dCons (dStep (some 1) (some 2) (dFld (He.ga K "Ring") "kept_row" (dVar 0))) dNil)))
theorem w_Ring_len {P : Program} {w : World} {K : PySem.W.Frag} {mg : Str → Option Value} {base : Heap} (W : W0 K mg)   (cdv : Value) (A : Around) (outer : List Env) (s : Shared) (H : Hp) (E : XK) (f : Addr) (hr : Room 0 (A.deeper (envOfC "Ring.__len__" (defScope s_Ring_len) s.heap.objs.size f cdv))) :
  PDS (cxOf CX0 P w K mg base N_Ring_len "Ring.__len__" (defScope s_Ring_len) f cdv A outer s H E).nox (defBody s_Ring_len) (R_Ring_len K ) := by
  have hN : N_Ring_len.Nodup := by decide
  exact (pds_one (pds_ret (pd_callB cr_len2 cd_len rfl (W.free 83) rfl (pda_cons (pd_step12 (pd_fld (W.cls 62) (W.noat 64) (pd_var 0))) pda_nil))))
theorem g_Ring_len {P : Program} {w : World} {K : PySem.W.Frag} {mg : Str → Option Value} {base : Heap} (W : W0 K mg)  {gg : List D → (D → Prop) → Prop} 
  (hl : ∀ ds Kd, gg ds Kd → ds.length = 1)
  (hp : ∀ ds Kd, gg ds Kd → (R_Ring_len K ) { nx := fun _ => Kd .non, rt := fun d _ => Kd d } (init N_Ring_len ["self"] ds)) : MethF P w K mg base (He.ga K "Ring") "__len__" ["self"] 1 (SpF gg) :=
  W.methF 26 79 rfl rfl (fun _ _ _ _ _ _ us hl => match us, hl with | [_], _ => rfl) fun f fd F => fn_ok F (C8.fnScope_by (by decide +kernel)) hl fun cdv A outer s H E hr => ⟨_, w_Ring_len W  cdv A outer s H E f hr, hp⟩
abbrev N_Ring_str : List Str := ["self"]
def R_Ring_str (K : PySem.W.Frag) (gg_reading_text : List D → (D → Prop) → Prop) : TDS := (dRet (dTextOf (dCall gg_reading_text (dCons (dFld (He.ga K "Ring") "kept_row" (dVar 0)) dNil))))
theorem w_Ring_str {P : Program} {w : World} {K : PySem.W.Frag} {mg : Str → Option Value} {base : Heap} (W : W0 K mg) {gg_reading_text : List D → (D → Prop) → Prop} (c_reading_text : DefF P w K mg base "reading_text" ["row"] 3 (SpF gg_reading_text)) (cdv : Value) (A : Around) (outer : List Env) (s : Shared) (H : Hp) (E : XK) (f : Addr) (hr : Room 3 (A.deeper (envOfC "Ring.__str__" (defScope s_Ring_str) s.heap.objs.size f cdv))) :
  PDS (cxOf CX0 P w K mg base N_Ring_str "Ring.__str__" (defScope s_Ring_str) f cdv A outer s H E).nox (defBody s_Ring_str) (R_Ring_str K gg_reading_text) := by
  have hN : N_Ring_str.Nodup := by decide
  exact (pds_one (pds_ret (pd_joined1 (pd_fmt (pd_callF c_reading_text hr (by decide) rfl (pda_cons (pd_fld (W.cls 62) (W.noat 64) (pd_var 0)) pda_nil))))))
theorem g_Ring_str {P : Program} {w : World} {K : PySem.W.Frag} {mg : Str → Option Value} {base : Heap} (W : W0 K mg) {gg_reading_text : List D → (D → Prop) → Prop} {gg : List D → (D → Prop) → Prop} (c_reading_text : DefF P w K mg base "reading_text" ["row"] 3 (SpF gg_reading_text))
  (hl : ∀ ds Kd, gg ds Kd → ds.length = 1)
  (hp : ∀ ds Kd, gg ds Kd → (R_Ring_str K gg_reading_text) { nx := fun _ => Kd .non, rt := fun d _ => Kd d } (init N_Ring_str ["self"] ds)) : MethF P w K mg base (He.ga K "Ring") "__str__" ["self"] 4 (SpF gg) :=
  W.methF 27 80 rfl rfl (fun _ _ _ _ _ _ us hl => match us, hl with | [_], _ => rfl) fun f fd F => fn_ok F (C8.fnScope_by (by decide +kernel)) hl fun cdv A outer s H E hr => ⟨_, w_Ring_str W c_reading_text cdv A outer s H E f hr, hp⟩
end MS
set_option maxHeartbeats 4000000
namespace MS
open PySem PySem.Spec PyProof.Rows L2 DL
abbrev N_require_strip : List Str := ["strip"]
def R_require_strip (K : PySem.W.Frag)  : TDS := (dIfS (dNot (dB (dIsiC (He.ga K "Strip") (He.ga K "Ring") (He.ga K "Strip") (dVar 0)))) dNever dNext)
theorem w_require_strip {P : Program} {w : World} {K : PySem.W.Frag} {mg : Str → Option Value} {base : Heap} (W : W0 K mg)   (cdv : Value) (A : Around) (outer : List Env) (s : Shared) (H : Hp) (E : XK) (f : Addr) (hr : Room 0 (A.deeper (envOfC "require_strip" (defScope s_require_strip) s.heap.objs.size f cdv))) :
  PDS (cxOf CX0 P w K mg base N_require_strip "require_strip" (defScope s_require_strip) f cdv A outer s H E).nox (defBody s_require_strip) (R_require_strip K ) := by
  have hN : N_require_strip.Nodup := by decide
  exact (pds_one (pds_if (pdt_not (pdt_val (pd_isiC (W.two 57 62 rfl rfl) (.inl rfl) rfl (W.free 84) rfl (W.glo 56) (pd_var 0)))) (pds_one pds_never1) pds_nil))
theorem g_require_strip {P : Program} {w : World} {K : PySem.W.Frag} {mg : Str → Option Value} {base : Heap} (W : W0 K mg)  {gg : List D → (D → Prop) → Prop} 
  (hl : ∀ ds Kd, gg ds Kd → ds.length = 1)
  (hp : ∀ ds Kd, gg ds Kd → (R_require_strip K ) { nx := fun _ => Kd .non, rt := fun d _ => Kd d } (init N_require_strip ["strip"] ds)) : DefF P w K mg base "require_strip" ["strip"] 1 (SpF gg) :=
  W.def_ 28 19 rfl rfl (fun _ _ _ _ _ _ us hl => match us, hl with | [_], _ => rfl) fun f fd F => fn_ok F (C8.fnScope_by (by decide +kernel)) hl fun cdv A outer s H E hr => ⟨_, w_require_strip W  cdv A outer s H E f hr, hp⟩
abbrev N_are_unique_names_crossings : List Str := ["value", "name"]
def R_are_unique_names_crossings (gg_is_sequence : List D → (D → Prop) → Prop) (gg_is_name : List D → (D → Prop) → Prop) : TDS := (dSeq (dIfS (dOr (dNot (dB (dCall gg_is_sequence (dCons (dVar 0) dNil)))) (dNot (dB (dCall dAll (dCons (dLc (dItL (dVar 0)) (dgName 1) dYes (dCall gg_is_name (dCons (dVar 1) dNil)) [1]) dNil))))) (dRet (dC (.bl false))) dNext)
  (dRet (dOp dEq (dLenSet (dVar 0)) (dCall dLen (dCons (dVar 0) dNil)))))
theorem w_are_unique_names_crossings {P : Program} {w : World} {K : PySem.W.Frag} {mg : Str → Option Value} {base : Heap} (W : W0 K mg) {gg_is_sequence : List D → (D → Prop) → Prop} {gg_is_name : List D → (D → Prop) → Prop} (c_is_sequence : DefF P w K mg base "is_sequence" ["value"] 1 (SpF gg_is_sequence)) (c_is_name : DefF P w K mg base "is_name" ["value"] 1 (SpF gg_is_name)) (cdv : Value) (A : Around) (outer : List Env) (s : Shared) (H : Hp) (E : XK) (f : Addr) (hr : Room 1 (A.deeper (envOfC "are_unique_names" (defScope s_are_unique_names_crossings) s.heap.objs.size f cdv))) :
  PDS (cxOf CX0 P w K mg base N_are_unique_names_crossings "are_unique_names" (defScope s_are_unique_names_crossings) f cdv A outer s H E).nox (defBody s_are_unique_names_crossings) (R_are_unique_names_crossings gg_is_sequence gg_is_name) := by
  have hN : N_are_unique_names_crossings.Nodup := by decide
  exact (pds_cons (pds_if (PDW.pt (pdw_or (pdt_not (pdt_val (pd_callF c_is_sequence hr (by decide) rfl (pda_cons (pd_var 0) pda_nil)))) (pdw_or1 (pdt_not (pdt_val (pd_callB (cr_all rfl) cd_all rfl (W.free 85) rfl (pda_cons (pd_lc (own := [("name", 1)]) rfl hN (pdi_list (pd_var 0)) (blkOk_by (by kernel_rfl)) (by decide) (fun s H C cl fp => (pdg_name 1 hN)) (fun s H C cl fp => pdts_nil) (fun s H C cl fp => (pd_callF c_is_name hr (by decide) rfl (pda_cons (pd_var 1) pda_nil)))) pda_nil))))))) (pds_one (pds_ret pd_bl)) pds_nil)
    (pds_one (pds_ret (pd_cmp (op_eq2 hr.units) od_eq (pd_lenSet rfl rfl (W.free 83) rfl (W.free 95) (pd_var 0)) (pd_callB cr_len2 cd_len rfl (W.free 83) rfl (pda_cons (pd_var 0) pda_nil))))))
theorem g_are_unique_names_crossings {P : Program} {w : World} {K : PySem.W.Frag} {mg : Str → Option Value} {base : Heap} (W : W0 K mg) {gg_is_sequence : List D → (D → Prop) → Prop} {gg_is_name : List D → (D → Prop) → Prop} {gg : List D → (D → Prop) → Prop} (c_is_sequence : DefF P w K mg base "is_sequence" ["value"] 1 (SpF gg_is_sequence)) (c_is_name : DefF P w K mg base "is_name" ["value"] 1 (SpF gg_is_name))
  (hl : ∀ ds Kd, gg ds Kd → ds.length = 1)
  (hp : ∀ ds Kd, gg ds Kd → (R_are_unique_names_crossings gg_is_sequence gg_is_name) { nx := fun _ => Kd .non, rt := fun d _ => Kd d } (init N_are_unique_names_crossings ["value"] ds)) : DefF P w K mg base "are_unique_names_crossings" ["value"] 2 (SpF gg) :=
  W.def_ 29 20 rfl rfl (fun _ _ _ _ _ _ us hl => match us, hl with | [_], _ => rfl) fun f fd F => fn_ok F (C8.fnScope_by (by decide +kernel)) hl fun cdv A outer s H E hr => ⟨_, w_are_unique_names_crossings W c_is_sequence c_is_name cdv A outer s H E f hr, hp⟩
abbrev N_require_pieces : List Str := ["pieces", "least", "most", "piece"]
def R_require_pieces (gg_is_sequence : List D → (D → Prop) → Prop) (gg_require_piece : List D → (D → Prop) → Prop) : TDS := (dSeq (dIfS (dOr (dNot (dB (dCall gg_is_sequence (dCons (dVar 0) dNil)))) (dNot (dB (dChain dLe dLe (dVar 1) (dCall dLen (dCons (dVar 0) dNil)) (dVar 2))))) dNever dNext)
  (dFor (dItL (dVar 0)) (dgName 3) (dDrop (dCall gg_require_piece (dCons (dVar 3) dNil)))))
theorem w_require_pieces {P : Program} {w : World} {K : PySem.W.Frag} {mg : Str → Option Value} {base : Heap} (W : W0 K mg) {gg_is_sequence : List D → (D → Prop) → Prop} {gg_require_piece : List D → (D → Prop) → Prop} (c_is_sequence : DefF P w K mg base "is_sequence" ["value"] 1 (SpF gg_is_sequence)) (c_require_piece : DefF P w K mg base "require_piece" ["value"] 2 (SpF gg_require_piece)) (cdv : Value) (A : Around) (outer : List Env) (s : Shared) (H : Hp) (E : XK) (f : Addr) (hr : Room 2 (A.deeper (envOfC "require_pieces" (defScope s_require_pieces) s.heap.objs.size f cdv))) :
  PDS (cxOf CX0 P w K mg base N_require_pieces "require_pieces" (defScope s_require_pieces) f cdv A outer s H E).nox (defBody s_require_pieces) (R_require_pieces gg_is_sequence gg_require_piece) := by
  have hN : N_require_pieces.Nodup := by decide
  exact (pds_cons (pds_if (PDW.pt (pdw_or (pdt_not (pdt_val (pd_callF c_is_sequence hr (by decide) rfl (pda_cons (pd_var 0) pda_nil)))) (pdw_or1 (pdt_not (pdt_chain op_le op_le od_le od_le (pd_var 1) (pd_callB cr_len2 cd_len rfl (W.free 83) rfl (pda_cons (pd_var 0) pda_nil)) (pd_var 2)))))) (pds_one pds_never1) pds_nil)
    (pds_one (pds_for PassesOwn.never (pdi_list (pd_var 0)) (pdg_name 3 hN) (pds_one (pds_expr (pd_callF c_require_piece hr (by decide) rfl (pda_cons (pd_var 3) pda_nil)))))))
theorem g_require_pieces {P : Program} {w : World} {K : PySem.W.Frag} {mg : Str → Option Value} {base : Heap} (W : W0 K mg) {gg_is_sequence : List D → (D → Prop) → Prop} {gg_require_piece : List D → (D → Prop) → Prop} {gg : List D → (D → Prop) → Prop} (c_is_sequence : DefF P w K mg base "is_sequence" ["value"] 1 (SpF gg_is_sequence)) (c_require_piece : DefF P w K mg base "require_piece" ["value"] 2 (SpF gg_require_piece))
  (hl : ∀ ds Kd, gg ds Kd → ds.length = 3)
  (hp : ∀ ds Kd, gg ds Kd → (R_require_pieces gg_is_sequence gg_require_piece) { nx := fun _ => Kd .non, rt := fun d _ => Kd d } (init N_require_pieces ["pieces", "least", "most"] ds)) : DefF P w K mg base "require_pieces" ["pieces", "least", "most"] 3 (SpF gg) :=
  W.def_ 30 21 rfl rfl (fun _ _ _ _ _ _ us hl => match us, hl with | [_, _, _], _ => rfl) fun f fd F => fn_ok F (C8.fnScope_by (by decide +kernel)) hl fun cdv A outer s H E hr => ⟨_, w_require_pieces W c_is_sequence c_require_piece cdv A outer s H E f hr, hp⟩
abbrev N_require_order : List Str := ["order", "count", "number"]
def R_require_order (gg_is_sequence : List D → (D → Prop) → Prop) (gg_is_integer : List D → (D → Prop) → Prop) : TDS := (dSeq (dIfS (dOr (dNot (dB (dCall gg_is_sequence (dCons (dVar 0) dNil)))) (dNot (dB (dCall dAll (dCons (dLc (dItL (dVar 0)) (dgName 2) dYes (dCall gg_is_integer (dCons (dVar 2) (dCons (dC (.int 0)) (dCons (dOp dSub (dVar 1) (dC (.int 1))) dNil)))) [2]) dNil))))) dNever dNext)
  (dIfS (dOr (dB (dOp dNe (dCall dLen (dCons (dVar 0) dNil)) (dVar 1))) (dB (dOp dNe (dLenSet (dVar 0)) (dVar 1)))) dNever dNext))
theorem w_require_order {P : Program} {w : World} {K : PySem.W.Frag} {mg : Str → Option Value} {base : Heap} (W : W0 K mg) {gg_is_sequence : List D → (D → Prop) → Prop} {gg_is_integer : List D → (D → Prop) → Prop} (c_is_sequence : DefF P w K mg base "is_sequence" ["value"] 1 (SpF gg_is_sequence)) (c_is_integer : DefF P w K mg base "is_integer" ["value", "low", "high"] 1 (SpF gg_is_integer)) (cdv : Value) (A : Around) (outer : List Env) (s : Shared) (H : Hp) (E : XK) (f : Addr) (hr : Room 1 (A.deeper (envOfC "require_order" (defScope s_require_order) s.heap.objs.size f cdv))) :
  PDS (cxOf CX0 P w K mg base N_require_order "require_order" (defScope s_require_order) f cdv A outer s H E).nox (defBody s_require_order) (R_require_order gg_is_sequence gg_is_integer) := by
  have hN : N_require_order.Nodup := by decide
  exact (pds_cons (pds_if (PDW.pt (pdw_or (pdt_not (pdt_val (pd_callF c_is_sequence hr (by decide) rfl (pda_cons (pd_var 0) pda_nil)))) (pdw_or1 (pdt_not (pdt_val (pd_callB (cr_all rfl) cd_all rfl (W.free 85) rfl (pda_cons (pd_lc (own := [("number", 2)]) rfl hN (pdi_list (pd_var 0)) (blkOk_by (by kernel_rfl)) (by decide) (fun s H C cl fp => (pdg_name 2 hN)) (fun s H C cl fp => pdts_nil) (fun s H C cl fp => (pd_callF c_is_integer hr (by decide) rfl (pda_cons (pd_var 2) (pda_cons pd_int (pda_cons (pd_op op_sub od_sub (pd_var 1) pd_int) pda_nil)))))) pda_nil))))))) (pds_one pds_never1) pds_nil)
    (pds_one (pds_if (PDW.pt (pdw_or (pdt_cmp (op_ne2 hr.units) od_ne (pd_callB cr_len2 cd_len rfl (W.free 83) rfl (pda_cons (pd_var 0) pda_nil)) (pd_var 1)) (pdw_or1 (pdt_cmp (op_ne2 hr.units) od_ne (pd_lenSet rfl rfl (W.free 83) rfl (W.free 95) (pd_var 0)) (pd_var 1))))) (pds_one pds_never1) pds_nil)))
theorem g_require_order {P : Program} {w : World} {K : PySem.W.Frag} {mg : Str → Option Value} {base : Heap} (W : W0 K mg) {gg_is_sequence : List D → (D → Prop) → Prop} {gg_is_integer : List D → (D → Prop) → Prop} {gg : List D → (D → Prop) → Prop} (c_is_sequence : DefF P w K mg base "is_sequence" ["value"] 1 (SpF gg_is_sequence)) (c_is_integer : DefF P w K mg base "is_integer" ["value", "low", "high"] 1 (SpF gg_is_integer))
  (hl : ∀ ds Kd, gg ds Kd → ds.length = 2)
  (hp : ∀ ds Kd, gg ds Kd → (R_require_order gg_is_sequence gg_is_integer) { nx := fun _ => Kd .non, rt := fun d _ => Kd d } (init N_require_order ["order", "count"] ds)) : DefF P w K mg base "require_order" ["order", "count"] 2 (SpF gg) :=
  W.def_ 31 22 rfl rfl (fun _ _ _ _ _ _ us hl => match us, hl with | [_, _], _ => rfl) fun f fd F => fn_ok F (C8.fnScope_by (by decide +kernel)) hl fun cdv A outer s H E hr => ⟨_, w_require_order W c_is_sequence c_is_integer cdv A outer s H E f hr, hp⟩
abbrev N_require_flips : List Str := ["flips", "count", "flip"]
def R_require_flips (gg_is_sequence : List D → (D → Prop) → Prop) : TDS := (dIfS (dOr (dNot (dB (dCall gg_is_sequence (dCons (dVar 0) dNil)))) (dOr (dB (dOp dNe (dCall dLen (dCons (dVar 0) dNil)) (dVar 1))) (dNot (dB (dCall dAll (dCons (dLc (dItL (dVar 0)) (dgName 2) dYes (dIsi .bl (dVar 2)) [2]) dNil)))))) dNever dNext)
theorem w_require_flips {P : Program} {w : World} {K : PySem.W.Frag} {mg : Str → Option Value} {base : Heap} (W : W0 K mg) {gg_is_sequence : List D → (D → Prop) → Prop} (c_is_sequence : DefF P w K mg base "is_sequence" ["value"] 1 (SpF gg_is_sequence)) (cdv : Value) (A : Around) (outer : List Env) (s : Shared) (H : Hp) (E : XK) (f : Addr) (hr : Room 1 (A.deeper (envOfC "require_flips" (defScope s_require_flips) s.heap.objs.size f cdv))) :
  PDS (cxOf CX0 P w K mg base N_require_flips "require_flips" (defScope s_require_flips) f cdv A outer s H E).nox (defBody s_require_flips) (R_require_flips gg_is_sequence) := by
  have hN : N_require_flips.Nodup := by decide
  exact (pds_one (pds_if (PDW.pt (pdw_or (pdt_not (pdt_val (pd_callF c_is_sequence hr (by decide) rfl (pda_cons (pd_var 0) pda_nil)))) (pdw_or (pdt_cmp (op_ne2 hr.units) od_ne (pd_callB cr_len2 cd_len rfl (W.free 83) rfl (pda_cons (pd_var 0) pda_nil)) (pd_var 1)) (pdw_or1 (pdt_not (pdt_val (pd_callB (cr_all rfl) cd_all rfl (W.free 85) rfl (pda_cons (pd_lc (own := [("flip", 2)]) rfl hN (pdi_list (pd_var 0)) (blkOk_by (by kernel_rfl)) (by decide) (fun s H C cl fp => (pdg_name 2 hN)) (fun s H C cl fp => pdts_nil) (fun s H C cl fp => (pd_isi .bl rfl (W.free 84) rfl (W.free 99) (pd_var 2)))) pda_nil)))))))) (pds_one pds_never1) pds_nil))
theorem g_require_flips {P : Program} {w : World} {K : PySem.W.Frag} {mg : Str → Option Value} {base : Heap} (W : W0 K mg) {gg_is_sequence : List D → (D → Prop) → Prop} {gg : List D → (D → Prop) → Prop} (c_is_sequence : DefF P w K mg base "is_sequence" ["value"] 1 (SpF gg_is_sequence))
  (hl : ∀ ds Kd, gg ds Kd → ds.length = 2)
  (hp : ∀ ds Kd, gg ds Kd → (R_require_flips gg_is_sequence) { nx := fun _ => Kd .non, rt := fun d _ => Kd d } (init N_require_flips ["flips", "count"] ds)) : DefF P w K mg base "require_flips" ["flips", "count"] 2 (SpF gg) :=
  W.def_ 32 23 rfl rfl (fun _ _ _ _ _ _ us hl => match us, hl with | [_, _], _ => rfl) fun f fd F => fn_ok F (C8.fnScope_by (by decide +kernel)) hl fun cdv A outer s H E hr => ⟨_, w_require_flips W c_is_sequence cdv A outer s H E f hr, hp⟩
abbrev N_segment_block : List Str := ["segments", "names", "number", "found"]
def R_segment_block  : TDS := (dSeq (dSetN 3 (dLstN (dCons (dOp dIx (dVar 0) (dVar 2)) dNil)))
  (dSeq (dIfS (dB (dOp dGt (dVar 2) (dC (.int 0)))) (dFrz 3 (dSetN 3 (dCatN (dLst (dCons (dTup (dCons (dOp dIx (dVar 1) (dOp dSub (dVar 2) (dC (.int 1)))) (dCons (dC (.bl true)) dNil))) dNil)) (dVar 3)))) dNext)
  (dSeq (dIfS (dB (dOp dLt (dVar 2) (dOp dSub (dCall dLen (dCons (dVar 0) dNil)) (dC (.int 1))))) (dDrop (dApp 3 (dTup (dCons (dOp dIx (dVar 1) (dVar 2)) (dCons (dC (.bl true)) dNil))))) dNext)
  (dFrz 3 (dRet (dVar 3))))))
theorem w_segment_block {P : Program} {w : World} {K : PySem.W.Frag} {mg : Str → Option Value} {base : Heap} (W : W0 K mg)   (cdv : Value) (A : Around) (outer : List Env) (s : Shared) (H : Hp) (E : XK) (f : Addr) (hr : Room 0 (A.deeper (envOfC "segment_block" (defScope s_segment_block) s.heap.objs.size f cdv))) :
  PDS (cxOf CX0 P w K mg base N_segment_block "segment_block" (defScope s_segment_block) f cdv A outer s H E).nox (defBody s_segment_block) R_segment_block := by
  have hN : N_segment_block.Nodup := by decide
  exact (pds_cons (pds_setN 3 (pdn_lst (pda_cons (pd_ix (pd_var 0) (pd_var 2)) pda_nil)) hN)
    (pds_cons (pds_if (pdt_cmp op_gt od_gt (pd_var 2) pd_int) (pds_one (pds_frz1 3 (pds_setN 3 (pdn_cat (pd_lst (pda_cons (pd_tup (pda_cons (pd_ix (pd_var 1) (pd_op op_sub od_sub (pd_var 2) pd_int)) (pda_cons pd_bl pda_nil))) pda_nil)) (pd_var 3)) hN))) pds_nil)
    (pds_cons (pds_if (pdt_cmp op_lt od_lt (pd_var 2) (pd_op op_sub od_sub (pd_callB cr_len2 cd_len rfl (W.free 83) rfl (pda_cons (pd_var 0) pda_nil)) pd_int)) (pds_one (pds_expr (pd_append 3 (pd_tup (pda_cons (pd_ix (pd_var 1) (pd_var 2)) (pda_cons pd_bl pda_nil)))))) pds_nil)
    (pds_one (pds_frz1 3 (pds_ret (pd_var 3)))))))
theorem g_segment_block {P : Program} {w : World} {K : PySem.W.Frag} {mg : Str → Option Value} {base : Heap} (W : W0 K mg)  {gg : List D → (D → Prop) → Prop} 
  (hl : ∀ ds Kd, gg ds Kd → ds.length = 3)
  (hp : ∀ ds Kd, gg ds Kd → R_segment_block { nx := fun _ => Kd .non, rt := fun d _ => Kd d } (init N_segment_block ["segments", "names", "number"] ds)) : DefF P w K mg base "segment_block" ["segments", "names", "number"] 1 (SpF gg) :=
  W.def_ 33 24 rfl rfl (fun _ _ _ _ _ _ us hl => match us, hl with | [_, _, _], _ => rfl) fun f fd F => fn_ok F (C8.fnScope_by (by decide +kernel)) hl fun cdv A outer s H E hr => ⟨_, w_segment_block W  cdv A outer s H E f hr, hp⟩
abbrev N_merge_pieces : List Str := ["items", "found", "item"]
def R_merge_pieces  : TDS := (dSeq (dSetN 1 (dLstN dNil))
  (dSeq (dFor (dItL (dVar 0)) (dgName 2) (dIfS (dAnd (dB (dOwnOp 1 dNe (dLst dNil))) (dAnd (dB (dIsi .str (dVar 2))) (dB (dIsi .str (dOwnIx 1 (dC (.int (-1)))))))) (dSetIx 1 (dC (.int (-1))) (dOp dAdd (dOwnIx 1 (dC (.int (-1)))) (dVar 2))) (dDrop (dApp 1 (dVar 2)))))
  (dFrz 1 (dRet (dVar 1)))))
theorem w_merge_pieces {P : Program} {w : World} {K : PySem.W.Frag} {mg : Str → Option Value} {base : Heap} (W : W0 K mg)   (cdv : Value) (A : Around) (outer : List Env) (s : Shared) (H : Hp) (E : XK) (f : Addr) (hr : Room 0 (A.deeper (envOfC "merge_pieces" (defScope s_merge_pieces) s.heap.objs.size f cdv))) :
  PDS (cxOf CX0 P w K mg base N_merge_pieces "merge_pieces" (defScope s_merge_pieces) f cdv A outer s H E).nox (defBody s_merge_pieces) R_merge_pieces := by
  have hN : N_merge_pieces.Nodup := by decide
  exact (pds_cons (pds_setN 1 (pdn_lst pda_nil) hN)
    (pds_cons (pds_for PassesOwn.never (pdi_list (pd_var 0)) (pdg_name 2 hN) (pds_one (pds_if (PDW.pt (pdw_and (pdt_ownCmp 1 (op_ne2 hr.units) od_ne (pd_lst pda_nil)) (pdw_and (pdt_val (pd_isi .str rfl (W.free 84) rfl (W.free 98) (pd_var 2))) (pdw_and1 (pdt_val (pd_isi .str rfl (W.free 84) rfl (W.free 98) (pd_ownIx 1 pd_neg1))))))) (pds_one (pds_setIx 1 (pd_op op_add3 od_add (pd_ownIx 1 pd_neg1) (pd_var 2)) pd_neg1)) (pds_one (pds_expr (pd_append 1 (pd_var 2)))))))
    (pds_one (pds_frz1 1 (pds_ret (pd_var 1))))))
theorem g_merge_pieces {P : Program} {w : World} {K : PySem.W.Frag} {mg : Str → Option Value} {base : Heap} (W : W0 K mg)  {gg : List D → (D → Prop) → Prop} 
  (hl : ∀ ds Kd, gg ds Kd → ds.length = 1)
  (hp : ∀ ds Kd, gg ds Kd → R_merge_pieces { nx := fun _ => Kd .non, rt := fun d _ => Kd d } (init N_merge_pieces ["items"] ds)) : DefF P w K mg base "merge_pieces" ["items"] 1 (SpF gg) :=
  W.def_ 34 25 rfl rfl (fun _ _ _ _ _ _ us hl => match us, hl with | [_], _ => rfl) fun f fd F => fn_ok F (C8.fnScope_by (by decide +kernel)) hl fun cdv A outer s H E hr => ⟨_, w_merge_pieces W  cdv A outer s H E f hr, hp⟩
abbrev N_scramble : List Str := ["segments", "order", "flips", "spacers", "names", "count", "items", "number", "spacer", "block"]
def R_scramble (K : PySem.W.Frag) (gg_require_pieces : List D → (D → Prop) → Prop) (gg_require_order : List D → (D → Prop) → Prop) (gg_require_flips : List D → (D → Prop) → Prop) (gg_are_unique_names_crossings : List D → (D → Prop) → Prop) (gg_segment_block : List D → (D → Prop) → Prop) (gg_flipped_items : List D → (D → Prop) → Prop) (gg_Strip_init : TFO) (gg_merge_pieces : List D → (D → Prop) → Prop) : TDS := (dSeq (dDrop (dCall gg_require_pieces (dCons (dVar 0) (dCons (dC (.int 1)) (dCons (dC (.int 13)) dNil)))))
  (dSeq (dSet 5 (dCall dLen (dCons (dVar 0) dNil)))
  (dSeq (dDrop (dCall gg_require_order (dCons (dVar 1) (dCons (dVar 5) dNil))))
  (dSeq (dDrop (dCall gg_require_flips (dCons (dVar 2) (dCons (dVar 5) dNil))))
  (dSeq (dDrop (dCall gg_require_pieces (dCons (dVar 3) (dCons (dOp dAdd (dVar 5) (dC (.int 1))) (dCons (dOp dAdd (dVar 5) (dC (.int 1))) dNil)))))
  (dSeq (dIfS (dOr (dNot (dB (dCall gg_are_unique_names_crossings (dCons (dVar 4) dNil)))) (dB (dOp dNe (dCall dLen (dCons (dVar 4) dNil)) (dOp dSub (dVar 5) (dC (.int 1)))))) dNever dNext)
  (dSeq (dSetN 6 (dLstN (dCons (dOp dIx (dVar 3) (dC (.int 0))) dNil)))
  (dSeq (dFor (dItZ (dCons (dVar 1) (dCons (dSl dCut (dVar 3) (dPart (dC (.int 1))) dNo) dNil))) (dgTup 2 (dgCons (dgName 7) (dgCons (dgName 8) dgNil))) (dSeq (dSet 9 (dCall gg_segment_block (dCons (dVar 0) (dCons (dVar 4) (dCons (dVar 7) dNil)))))
  (dSeq (dDrop (dExt 6 (dIf (dB (dOp dIx (dVar 2) (dVar 7))) (dCall gg_flipped_items (dCons (dVar 9) dNil)) (dVar 9))))
  (dDrop (dApp 6 (dVar 8))))))
  (dFrz 6 (dRet (dMake (He.ga K "Strip") gg_Strip_init (dCons (dCall gg_merge_pieces (dCons (dVar 6) dNil)) dNil))))))))))))
theorem w_scramble {P : Program} {w : World} {K : PySem.W.Frag} {mg : Str → Option Value} {base : Heap} (W : W0 K mg) {gg_require_pieces : List D → (D → Prop) → Prop} {gg_require_order : List D → (D → Prop) → Prop} {gg_require_flips : List D → (D → Prop) → Prop} {gg_are_unique_names_crossings : List D → (D → Prop) → Prop} {gg_segment_block : List D → (D → Prop) → Prop} {gg_flipped_items : List D → (D → Prop) → Prop} {gg_Strip_init : TFO} {gg_merge_pieces : List D → (D → Prop) → Prop} (c_require_pieces : DefF P w K mg base "require_pieces" ["pieces", "least", "most"] 3 (SpF gg_require_pieces)) (c_require_order : DefF P w K mg base "require_order" ["order", "count"] 2 (SpF gg_require_order)) (c_require_flips : DefF P w K mg base "require_flips" ["flips", "count"] 2 (SpF gg_require_flips)) (c_are_unique_names_crossings : DefF P w K mg base "are_unique_names_crossings" ["value"] 2 (SpF gg_are_unique_names_crossings)) (c_segment_block : DefF P w K mg base "segment_block" ["segments", "names", "number"] 1 (SpF gg_segment_block)) (c_flipped_items : DefF P w K mg base "flipped_items" ["items"] 3 (SpF gg_flipped_items)) (c_Strip_init : MakeF P w K mg base (He.ga K "Strip") "Strip" ["self", "row"] 6 (SpO gg_Strip_init)) (c_merge_pieces : DefF P w K mg base "merge_pieces" ["items"] 1 (SpF gg_merge_pieces)) (cdv : Value) (A : Around) (outer : List Env) (s : Shared) (H : Hp) (E : XK) (f : Addr) (hr : Room 7 (A.deeper (envOfC "scramble" (defScope s_scramble) s.heap.objs.size f cdv))) :
  PDS (cxOf CX0 P w K mg base N_scramble "scramble" (defScope s_scramble) f cdv A outer s H E).nox (defBody s_scramble) (R_scramble K gg_require_pieces gg_require_order gg_require_flips gg_are_unique_names_crossings gg_segment_block gg_flipped_items gg_Strip_init gg_merge_pieces) := by
  have hN : N_scramble.Nodup := by decide
  exact (pds_cons (pds_expr (pd_callF c_require_pieces hr (by decide) rfl (pda_cons (pd_var 0) (pda_cons pd_int (pda_cons (pd_globI rfl (W.int 102)) pda_nil)))))
    (pds_cons (pds_set 5 (pd_callB cr_len2 cd_len rfl (W.free 83) rfl (pda_cons (pd_var 0) pda_nil)) hN)
    (pds_cons (pds_expr (pd_callF c_require_order hr (by decide) rfl (pda_cons (pd_var 1) (pda_cons (pd_var 5) pda_nil))))
    (pds_cons (pds_expr (pd_callF c_require_flips hr (by decide) rfl (pda_cons (pd_var 2) (pda_cons (pd_var 5) pda_nil))))
    (pds_cons (pds_expr (pd_callF c_require_pieces hr (by decide) rfl (pda_cons (pd_var 3) (pda_cons (pd_op op_add3 od_add (pd_var 5) pd_int) (pda_cons (pd_op op_add3 od_add (pd_var 5) pd_int) pda_nil)))))
    (pds_cons (pds_if (PDW.pt (pdw_or (pdt_not (pdt_val (pd_callF c_are_unique_names_crossings hr (by decide) rfl (pda_cons (pd_var 4) pda_nil)))) (pdw_or1 (pdt_cmp (op_ne2 hr.units) od_ne (pd_callB cr_len2 cd_len rfl (W.free 83) rfl (pda_cons (pd_var 4) pda_nil)) (pd_op op_sub od_sub (pd_var 5) pd_int))))) (pds_one pds_never1) pds_nil)
    (pds_cons (pds_setN 6 (pdn_lst (pda_cons (pd_ix (pd_var 3) pd_int) pda_nil)) hN)
    (pds_cons (pds_for PassesOwn.never (pdi_zip rfl (W.free 89) (pda_cons (pd_var 1) (pda_cons (pd_slice (pd_var 3) (pdo_some pd_int) pdo_none) pda_nil))) (pdg_tup rfl (pdgs_cons (pdg_name 7 hN) (pdgs_cons (pdg_name 8 hN) pdgs_nil))) (pds_cons (pds_set 9 (pd_callF c_segment_block hr (by decide) rfl (pda_cons (pd_var 0) (pda_cons (pd_var 4) (pda_cons (pd_var 7) pda_nil)))) hN)
    (pds_cons (pds_expr (pd_extend 6 (pd_ifExp (pdt_val (pd_ix (pd_var 2) (pd_var 7))) (pd_callF c_flipped_items hr (by decide) rfl (pda_cons (pd_var 9) pda_nil)) (pd_var 9))))
    (pds_one (pds_expr (pd_append 6 (pd_var 8)))))))
    (pds_one (pds_frz1 6 (pds_ret (pd_makeF c_Strip_init hr (by decide) rfl (pda_cons (pd_callF c_merge_pieces hr (by decide) rfl (pda_cons (pd_var 6) pda_nil)) pda_nil)))))))))))))
theorem g_scramble {P : Program} {w : World} {K : PySem.W.Frag} {mg : Str → Option Value} {base : Heap} (W : W0 K mg) {gg_require_pieces : List D → (D → Prop) → Prop} {gg_require_order : List D → (D → Prop) → Prop} {gg_require_flips : List D → (D → Prop) → Prop} {gg_are_unique_names_crossings : List D → (D → Prop) → Prop} {gg_segment_block : List D → (D → Prop) → Prop} {gg_flipped_items : List D → (D → Prop) → Prop} {gg_Strip_init : TFO} {gg_merge_pieces : List D → (D → Prop) → Prop} {gg : List D → (D → Prop) → Prop} (c_require_pieces : DefF P w K mg base "require_pieces" ["pieces", "least", "most"] 3 (SpF gg_require_pieces)) (c_require_order : DefF P w K mg base "require_order" ["order", "count"] 2 (SpF gg_require_order)) (c_require_flips : DefF P w K mg base "require_flips" ["flips", "count"] 2 (SpF gg_require_flips)) (c_are_unique_names_crossings : DefF P w K mg base "are_unique_names_crossings" ["value"] 2 (SpF gg_are_unique_names_crossings)) (c_segment_block : DefF P w K mg base "segment_block" ["segments", "names", "number"] 1 (SpF gg_segment_block)) (c_flipped_items : DefF P w K mg base "flipped_items" ["items"] 3 (SpF gg_flipped_items)) (c_Strip_init : MakeF P w K mg base (He.ga K "Strip") "Strip" ["self", "row"] 6 (SpO gg_Strip_init)) (c_merge_pieces : DefF P w K mg base "merge_pieces" ["items"] 1 (SpF gg_merge_pieces))
  (hl : ∀ ds Kd, gg ds Kd → ds.length = 5)
  (hp : ∀ ds Kd, gg ds Kd → (R_scramble K gg_require_pieces gg_require_order gg_require_flips gg_are_unique_names_crossings gg_segment_block gg_flipped_items gg_Strip_init gg_merge_pieces) { nx := fun _ => Kd .non, rt := fun d _ => Kd d } (init N_scramble ["segments", "order", "flips", "spacers", "names"] ds)) : DefF P w K mg base "scramble" ["segments", "order", "flips", "spacers", "names"] 8 (SpF gg) :=
  W.def_ 35 26 rfl rfl (fun _ _ _ _ _ _ us hl => match us, hl with | [_, _, _, _, _], _ => rfl) fun f fd F => fn_ok F (C8.fnScope_by (by decide +kernel)) hl fun cdv A outer s H E hr => ⟨_, w_scramble W c_require_pieces c_require_order c_require_flips c_are_unique_names_crossings c_segment_block c_flipped_items c_Strip_init c_merge_pieces cdv A outer s H E f hr, hp⟩
abbrev N_contains : List Str := ["part", "piece", "row", "texts", "text"]
def R_contains (K : PySem.W.Frag) (gg_require_piece : List D → (D → Prop) → Prop) (gg_Strip_row : List D → (D → Prop) → Prop) (gg_Ring_row : List D → (D → Prop) → Prop) (gg_flipped_piece : List D → (D → Prop) → Prop) : TDS := (dSeq (dIfS (dNot (dB (dIsiSR (He.ga K "Strip") (He.ga K "Ring") (dVar 0)))) dNever dNext)
  (dSeq (dDrop (dCall gg_require_piece (dCons (dVar 1) dNil)))
  (dSeq (dSet 2 (dEither (dMeth (m := "row") 0 (He.ga K "Strip") gg_Strip_row dNil) (dMeth (m := "row") 0 (He.ga K "Ring") gg_Ring_row dNil)))
  (dSeq (dSet 3 (dStep none (some 2) (dVar 2)))
  (dSeq (dIfS (dAnd (dB (dIsiC (He.ga K "Strip") (He.ga K "Ring") (He.ga K "Ring") (dVar 0))) (dB (dOp dEq (dCall dLen (dCons (dVar 2) dNil)) (dC (.int 1))))) (dSet 3 (dIf (dB (dOp dLe (dCall dLen (dCons (dVar 1) dNil)) (dCall dLen (dCons (dOp dIx (dVar 2) (dC (.int 0))) dNil)))) (dLst (dCons (dOp dAdd (dOp dIx (dVar 2) (dC (.int 0))) (dOp dIx (dVar 2) (dC (.int 0)))) dNil)) (dLst dNil))) dNext)
  (dRet (dCall dAny (dCons (dLc (dItL (dVar 3)) (dgName 4) dYes (dOrV (dOp dInText (dVar 1) (dVar 4)) (dOp dInText (dCall gg_flipped_piece (dCons (dVar 1) dNil)) (dVar 4))) [4]) dNil))))))))
theorem w_contains {P : Program} {w : World} {K : PySem.W.Frag} {mg : Str → Option Value} {base : Heap} (W : W0 K mg) {gg_require_piece : List D → (D → Prop) → Prop} {gg_Strip_row : List D → (D → Prop) → Prop} {gg_Ring_row : List D → (D → Prop) → Prop} {gg_flipped_piece : List D → (D → Prop) → Prop} (c_require_piece : DefF P w K mg base "require_piece" ["value"] 2 (SpF gg_require_piece)) (c_Strip_row : MethF P w K mg base (He.ga K "Strip") "row" ["self"] 1 (SpF gg_Strip_row)) (c_Ring_row : MethF P w K mg base (He.ga K "Ring") "row" ["self"] 1 (SpF gg_Ring_row)) (c_flipped_piece : DefF P w K mg base "flipped_piece" ["piece"] 1 (SpF gg_flipped_piece)) (cdv : Value) (A : Around) (outer : List Env) (s : Shared) (H : Hp) (E : XK) (f : Addr) (hr : Room 2 (A.deeper (envOfC "contains" (defScope s_contains) s.heap.objs.size f cdv))) :
  PDS (cxOf CX0 P w K mg base N_contains "contains" (defScope s_contains) f cdv A outer s H E).nox (defBody s_contains) (R_contains K gg_require_piece gg_Strip_row gg_Ring_row gg_flipped_piece) := by
  have hN : N_contains.Nodup := by decide
  exact (pds_cons (pds_if (pdt_not (pdt_val (pd_isiSR (W.two 57 62 rfl rfl) rfl (W.free 84) rfl (W.glo 56) rfl (W.glo 61) (pd_var 0)))) (pds_one pds_never1) pds_nil)
    (pds_cons (pds_expr (pd_callF c_require_piece hr (by decide) rfl (pda_cons (pd_var 1) pda_nil)))
    (pds_cons (pds_set 2 (pd_either (pd_methF0 0 (W.cls 57) c_Strip_row hr (by decide)) (pd_methF0 0 (W.cls 62) c_Ring_row hr (by decide))) hN)
    (pds_cons (pds_set 3 (pd_step2 (pd_var 2)) hN)
    (pds_cons (pds_if (PDW.pt (pdw_and (pdt_val (pd_isiC (W.two 57 62 rfl rfl) (.inr rfl) rfl (W.free 84) rfl (W.glo 61) (pd_var 0))) (pdw_and1 (pdt_cmp (op_eq2 hr.units) od_eq (pd_callB cr_len2 cd_len rfl (W.free 83) rfl (pda_cons (pd_var 2) pda_nil)) pd_int)))) (pds_one (pds_set 3 (pd_ifExp (pdt_cmp op_le od_le (pd_callB cr_len2 cd_len rfl (W.free 83) rfl (pda_cons (pd_var 1) pda_nil)) (pd_callB cr_len2 cd_len rfl (W.free 83) rfl (pda_cons (pd_ix (pd_var 2) pd_int) pda_nil))) (pd_lst (pda_cons (pd_op op_add3 od_add (pd_ix (pd_var 2) pd_int) (pd_ix (pd_var 2) pd_int)) pda_nil)) (pd_lst pda_nil)) hN)) pds_nil)
    (pds_one (pds_ret (pd_callB (cr_any rfl) cd_any rfl (W.free 86) rfl (pda_cons (pd_lc (own := [("text", 4)]) rfl hN (pdi_list (pd_var 3)) (blkOk_by (by kernel_rfl)) (by decide) (fun s H C cl fp => (pdg_name 4 hN)) (fun s H C cl fp => pdts_nil) (fun s H C cl fp => (pd_or (pd_cmp op_in_str od_inText (pd_var 1) (pd_var 4)) (pd_one (pd_cmp op_in_str od_inText (pd_callF c_flipped_piece hr (by decide) rfl (pda_cons (pd_var 1) pda_nil)) (pd_var 4)))))) pda_nil)))))))))
theorem g_contains {P : Program} {w : World} {K : PySem.W.Frag} {mg : Str → Option Value} {base : Heap} (W : W0 K mg) {gg_require_piece : List D → (D → Prop) → Prop} {gg_Strip_row : List D → (D → Prop) → Prop} {gg_Ring_row : List D → (D → Prop) → Prop} {gg_flipped_piece : List D → (D → Prop) → Prop} {gg : List D → (D → Prop) → Prop} (c_require_piece : DefF P w K mg base "require_piece" ["value"] 2 (SpF gg_require_piece)) (c_Strip_row : MethF P w K mg base (He.ga K "Strip") "row" ["self"] 1 (SpF gg_Strip_row)) (c_Ring_row : MethF P w K mg base (He.ga K "Ring") "row" ["self"] 1 (SpF gg_Ring_row)) (c_flipped_piece : DefF P w K mg base "flipped_piece" ["piece"] 1 (SpF gg_flipped_piece))
  (hl : ∀ ds Kd, gg ds Kd → ds.length = 2)
  (hp : ∀ ds Kd, gg ds Kd → (R_contains K gg_require_piece gg_Strip_row gg_Ring_row gg_flipped_piece) { nx := fun _ => Kd .non, rt := fun d _ => Kd d } (init N_contains ["part", "piece"] ds)) : DefF P w K mg base "contains" ["part", "piece"] 3 (SpF gg) :=
  W.def_ 36 27 rfl rfl (fun _ _ _ _ _ _ us hl => match us, hl with | [_, _], _ => rfl) fun f fd F => fn_ok F (C8.fnScope_by (by decide +kernel)) hl fun cdv A outer s H E hr => ⟨_, w_contains W c_require_piece c_Strip_row c_Ring_row c_flipped_piece cdv A outer s H E f hr, hp⟩
end MS
set_option maxHeartbeats 4000000
namespace MS
open PySem PySem.Spec PyProof.Rows L2 DL
abbrev N_end_before : List Str := ["index", "number", "upright"]
def R_end_before  : TDS := (dRet (dIf (dB (dVar 2)) (dTup (dCons (dVar 0) (dCons (dVar 1) (dCons (dC (.int 1)) dNil)))) (dTup (dCons (dVar 0) (dCons (dOp dAdd (dVar 1) (dC (.int 1))) (dCons (dC (.int 0)) dNil))))))
theorem w_end_before {P : Program} {w : World} {K : PySem.W.Frag} {mg : Str → Option Value} {base : Heap} (W : W0 K mg)   (cdv : Value) (A : Around) (outer : List Env) (s : Shared) (H : Hp) (E : XK) (f : Addr) (hr : Room 0 (A.deeper (envOfC "end_before" (defScope s_end_before) s.heap.objs.size f cdv))) :
  PDS (cxOf CX0 P w K mg base N_end_before "end_before" (defScope s_end_before) f cdv A outer s H E).nox (defBody s_end_before) R_end_before := by
  have hN : N_end_before.Nodup := by decide
  exact (pds_one (pds_ret (pd_ifExp (pdt_val (pd_var 2)) (pd_tup (pda_cons (pd_var 0) (pda_cons (pd_var 1) (pda_cons pd_int pda_nil)))) (pd_tup (pda_cons (pd_var 0) (pda_cons (pd_op op_add3 od_add (pd_var 1) pd_int) (pda_cons pd_int pda_nil)))))))
theorem g_end_before {P : Program} {w : World} {K : PySem.W.Frag} {mg : Str → Option Value} {base : Heap} (W : W0 K mg)  {gg : List D → (D → Prop) → Prop} 
  (hl : ∀ ds Kd, gg ds Kd → ds.length = 3)
  (hp : ∀ ds Kd, gg ds Kd → R_end_before { nx := fun _ => Kd .non, rt := fun d _ => Kd d } (init N_end_before ["index", "number", "upright"] ds)) : DefF P w K mg base "end_before" ["index", "number", "upright"] 1 (SpF gg) :=
  W.def_ 37 28 rfl rfl (fun _ _ _ _ _ _ us hl => match us, hl with | [_, _, _], _ => rfl) fun f fd F => fn_ok F (C8.fnScope_by (by decide +kernel)) hl fun cdv A outer s H E hr => ⟨_, w_end_before W  cdv A outer s H E f hr, hp⟩
abbrev N_end_after : List Str := ["index", "number", "upright"]
def R_end_after  : TDS := (dRet (dIf (dB (dVar 2)) (dTup (dCons (dVar 0) (dCons (dOp dAdd (dVar 1) (dC (.int 1))) (dCons (dC (.int 0)) dNil)))) (dTup (dCons (dVar 0) (dCons (dVar 1) (dCons (dC (.int 1)) dNil))))))
theorem w_end_after {P : Program} {w : World} {K : PySem.W.Frag} {mg : Str → Option Value} {base : Heap} (W : W0 K mg)   (cdv : Value) (A : Around) (outer : List Env) (s : Shared) (H : Hp) (E : XK) (f : Addr) (hr : Room 0 (A.deeper (envOfC "end_after" (defScope s_end_after) s.heap.objs.size f cdv))) :
  PDS (cxOf CX0 P w K mg base N_end_after "end_after" (defScope s_end_after) f cdv A outer s H E).nox (defBody s_end_after) R_end_after := by
  have hN : N_end_after.Nodup := by decide
  exact (pds_one (pds_ret (pd_ifExp (pdt_val (pd_var 2)) (pd_tup (pda_cons (pd_var 0) (pda_cons (pd_op op_add3 od_add (pd_var 1) pd_int) (pda_cons pd_int pda_nil)))) (pd_tup (pda_cons (pd_var 0) (pda_cons (pd_var 1) (pda_cons pd_int pda_nil)))))))
theorem g_end_after {P : Program} {w : World} {K : PySem.W.Frag} {mg : Str → Option Value} {base : Heap} (W : W0 K mg)  {gg : List D → (D → Prop) → Prop} 
  (hl : ∀ ds Kd, gg ds Kd → ds.length = 3)
  (hp : ∀ ds Kd, gg ds Kd → R_end_after { nx := fun _ => Kd .non, rt := fun d _ => Kd d } (init N_end_after ["index", "number", "upright"] ds)) : DefF P w K mg base "end_after" ["index", "number", "upright"] 1 (SpF gg) :=
  W.def_ 38 29 rfl rfl (fun _ _ _ _ _ _ us hl => match us, hl with | [_, _, _], _ => rfl) fun f fd F => fn_ok F (C8.fnScope_by (by decide +kernel)) hl fun cdv A outer s H E hr => ⟨_, w_end_after W  cdv A outer s H E f hr, hp⟩
abbrev N_marks_of : List Str := ["rows", "found", "index", "row", "number", "name", "upright"]
def R_marks_of  : TDS := (dTabFn 1 (dForZ (dItE (dCons (dVar 0) dNil)) (dgTup 2 (dgCons (dgName 2) (dgCons (dgName 3) dgNil))) (dForZ (dItE (dCons (dStep (some 1) (some 2) (dVar 3)) dNil)) (dgTup 2 (dgCons (dgName 4) (dgCons (dgTup 2 (dgCons (dgName 5) (dgCons (dgName 6) dgNil))) dgNil))) (dTab (dVar 5) (dTup (dCons (dVar 2) (dCons (dVar 4) (dCons (dVar 6) dNil))))))))
theorem w_marks_of {P : Program} {w : World} {K : PySem.W.Frag} {mg : Str → Option Value} {base : Heap} (W : W0 K mg)   (cdv : Value) (A : Around) (outer : List Env) (s : Shared) (H : Hp) (E : XK) (f : Addr) (hr : Room 0 (A.deeper (envOfC "marks_of" (defScope s_marks_of) s.heap.objs.size f cdv))) :
  PDS (cxOf CX0 P w K mg base N_marks_of "marks_of" (defScope s_marks_of) f cdv A outer s H E).nox (defBody s_marks_of) R_marks_of := by
  have hN : N_marks_of.Nodup := by decide
  exact (pds_tabFn 1 (pdb_for 1 PassesOwn.never (pdi_enum rfl (W.free 88) (pda_cons (pd_var 0) pda_nil)) (pdg_tup rfl (pdgs_cons (pdg_name 2 hN) (pdgs_cons (pdg_name 3 hN) pdgs_nil))) (by decide) (PDB1.all (pdb_for 1 PassesOwn.never (pdi_enum rfl (W.free 88) (pda_cons (pd_step12 (pd_var 3)) pda_nil)) (pdg_tup rfl (pdgs_cons (pdg_name 4 hN) (pdgs_cons (pdg_tup rfl (pdgs_cons (pdg_name 5 hN) (pdgs_cons (pdg_name 6 hN) pdgs_nil))) pdgs_nil))) (by decide) (pdb_tab 1 (pd_var 5) (pd_tup (pda_cons (pd_var 2) (pda_cons (pd_var 4) (pda_cons (pd_var 6) pda_nil)))))))) hN)
theorem g_marks_of {P : Program} {w : World} {K : PySem.W.Frag} {mg : Str → Option Value} {base : Heap} (W : W0 K mg)  {gg : List D → (D → Prop) → Prop} 
  (hl : ∀ ds Kd, gg ds Kd → ds.length = 1)
  (hp : ∀ ds Kd, gg ds Kd → R_marks_of { nx := fun _ => Kd .non, rt := fun d _ => Kd d } (init N_marks_of ["rows"] ds)) : DefF P w K mg base "marks_of" ["rows"] 1 (SpF gg) :=
  W.def_ 39 30 rfl rfl (fun _ _ _ _ _ _ us hl => match us, hl with | [_], _ => rfl) fun f fd F => fn_ok F (C8.fnScope_by (by decide +kernel)) hl fun cdv A outer s H E hr => ⟨_, w_marks_of W  cdv A outer s H E f hr, hp⟩
abbrev N_ends_at : List Str := ["marks", "first", "second", "one", "other"]
def R_ends_at (gg_end_before : List D → (D → Prop) → Prop) (gg_end_after : List D → (D → Prop) → Prop) : TDS := (dSeq (dAsg (dVar 0) (dgLst 2 (dgCons (dgName 1) (dgCons (dgName 2) dgNil))))
  (dSeq (dSet 3 (dTup (dCons (dCall gg_end_before (dCons (dOp dIx (dVar 1) (dC (.int 0))) (dCons (dOp dIx (dVar 1) (dC (.int 1))) (dCons (dOp dIx (dVar 1) (dC (.int 2))) dNil)))) (dCons (dCall gg_end_after (dCons (dOp dIx (dVar 2) (dC (.int 0))) (dCons (dOp dIx (dVar 2) (dC (.int 1))) (dCons (dOp dIx (dVar 2) (dC (.int 2))) dNil)))) dNil))))
  (dSeq (dSet 4 (dTup (dCons (dCall gg_end_before (dCons (dOp dIx (dVar 2) (dC (.int 0))) (dCons (dOp dIx (dVar 2) (dC (.int 1))) (dCons (dOp dIx (dVar 2) (dC (.int 2))) dNil)))) (dCons (dCall gg_end_after (dCons (dOp dIx (dVar 1) (dC (.int 0))) (dCons (dOp dIx (dVar 1) (dC (.int 1))) (dCons (dOp dIx (dVar 1) (dC (.int 2))) dNil)))) dNil))))
  (dRet (dLst (dCons (dVar 3) (dCons (dVar 4) dNil)))))))
theorem w_ends_at {P : Program} {w : World} {K : PySem.W.Frag} {mg : Str → Option Value} {base : Heap} (W : W0 K mg) {gg_end_before : List D → (D → Prop) → Prop} {gg_end_after : List D → (D → Prop) → Prop} (c_end_before : DefF P w K mg base "end_before" ["index", "number", "upright"] 1 (SpF gg_end_before)) (c_end_after : DefF P w K mg base "end_after" ["index", "number", "upright"] 1 (SpF gg_end_after)) (cdv : Value) (A : Around) (outer : List Env) (s : Shared) (H : Hp) (E : XK) (f : Addr) (hr : Room 1 (A.deeper (envOfC "ends_at" (defScope s_ends_at) s.heap.objs.size f cdv))) :
  PDS (cxOf CX0 P w K mg base N_ends_at "ends_at" (defScope s_ends_at) f cdv A outer s H E).nox (defBody s_ends_at) (R_ends_at gg_end_before gg_end_after) := by
  have hN : N_ends_at.Nodup := by decide
  exact (pds_cons (pds_asg (pd_var 0) (pdg_lst rfl (pdgs_cons (pdg_name 1 hN) (pdgs_cons (pdg_name 2 hN) pdgs_nil))))
    (pds_cons (pds_set 3 (pd_tup (pda_cons (pd_callF c_end_before hr (by decide) rfl (pda_cons (pd_ix (pd_var 1) pd_int) (pda_cons (pd_ix (pd_var 1) pd_int) (pda_cons (pd_ix (pd_var 1) pd_int) pda_nil)))) (pda_cons (pd_callF c_end_after hr (by decide) rfl (pda_cons (pd_ix (pd_var 2) pd_int) (pda_cons (pd_ix (pd_var 2) pd_int) (pda_cons (pd_ix (pd_var 2) pd_int) pda_nil)))) pda_nil))) hN)
    (pds_cons (pds_set 4 (pd_tup (pda_cons (pd_callF c_end_before hr (by decide) rfl (pda_cons (pd_ix (pd_var 2) pd_int) (pda_cons (pd_ix (pd_var 2) pd_int) (pda_cons (pd_ix (pd_var 2) pd_int) pda_nil)))) (pda_cons (pd_callF c_end_after hr (by decide) rfl (pda_cons (pd_ix (pd_var 1) pd_int) (pda_cons (pd_ix (pd_var 1) pd_int) (pda_cons (pd_ix (pd_var 1) pd_int) pda_nil)))) pda_nil))) hN)
    (pds_one (pds_ret (pd_lst (pda_cons (pd_var 3) (pda_cons (pd_var 4) pda_nil))))))))
theorem g_ends_at {P : Program} {w : World} {K : PySem.W.Frag} {mg : Str → Option Value} {base : Heap} (W : W0 K mg) {gg_end_before : List D → (D → Prop) → Prop} {gg_end_after : List D → (D → Prop) → Prop} {gg : List D → (D → Prop) → Prop} (c_end_before : DefF P w K mg base "end_before" ["index", "number", "upright"] 1 (SpF gg_end_before)) (c_end_after : DefF P w K mg base "end_after" ["index", "number", "upright"] 1 (SpF gg_end_after))
  (hl : ∀ ds Kd, gg ds Kd → ds.length = 1)
  (hp : ∀ ds Kd, gg ds Kd → (R_ends_at gg_end_before gg_end_after) { nx := fun _ => Kd .non, rt := fun d _ => Kd d } (init N_ends_at ["marks"] ds)) : DefF P w K mg base "ends_at" ["marks"] 2 (SpF gg) :=
  W.def_ 40 31 rfl rfl (fun _ _ _ _ _ _ us hl => match us, hl with | [_], _ => rfl) fun f fd F => fn_ok F (C8.fnScope_by (by decide +kernel)) hl fun cdv A outer s H E hr => ⟨_, w_ends_at W c_end_before c_end_after cdv A outer s H E f hr, hp⟩
abbrev N_link_ends : List Str := ["rows", "names", "found", "marks", "name", "one", "other"]
def R_link_ends (gg_marks_of : List D → (D → Prop) → Prop) (gg_ends_at : List D → (D → Prop) → Prop) : TDS := (dSeq (dSetN 2 dDTN)
  (dSeq (dSet 3 (dCall gg_marks_of (dCons (dVar 0) dNil)))
  (dSeq (dFor (dItL (dVar 1)) (dgName 4) (dFor (dItL (dCall gg_ends_at (dCons (dDGet (dVar 3) (dVar 4)) dNil))) (dgTup 2 (dgCons (dgName 5) (dgCons (dgName 6) dgNil))) (dSeq (dSetDT 2 (dVar 5) (dVar 6))
  (dSetDT 2 (dVar 6) (dVar 5)))))
  (dFrz 2 (dRet (dVar 2))))))
theorem w_link_ends {P : Program} {w : World} {K : PySem.W.Frag} {mg : Str → Option Value} {base : Heap} (W : W0 K mg) {gg_marks_of : List D → (D → Prop) → Prop} {gg_ends_at : List D → (D → Prop) → Prop} (c_marks_of : DefF P w K mg base "marks_of" ["rows"] 1 (SpF gg_marks_of)) (c_ends_at : DefF P w K mg base "ends_at" ["marks"] 2 (SpF gg_ends_at)) (cdv : Value) (A : Around) (outer : List Env) (s : Shared) (H : Hp) (E : XK) (f : Addr) (hr : Room 2 (A.deeper (envOfC "link_ends" (defScope s_link_ends) s.heap.objs.size f cdv))) :
  PDS (cxOf CX0 P w K mg base N_link_ends "link_ends" (defScope s_link_ends) f cdv A outer s H E).nox (defBody s_link_ends) (R_link_ends gg_marks_of gg_ends_at) := by
  have hN : N_link_ends.Nodup := by decide
  exact (pds_cons (pds_setN 2 pdn_dT hN)
    (pds_cons (pds_set 3 (pd_callF c_marks_of hr (by decide) rfl (pda_cons (pd_var 0) pda_nil)) hN)
    (pds_cons (pds_for PassesOwn.never (pdi_list (pd_var 1)) (pdg_name 4 hN) (pds_one (pds_for PassesOwn.never (pdi_list (pd_callF c_ends_at hr (by decide) rfl (pda_cons (pd_dget hr.units1 (pd_var 3) (pd_var 4)) pda_nil))) (pdg_tup rfl (pdgs_cons (pdg_name 5 hN) (pdgs_cons (pdg_name 6 hN) pdgs_nil))) (pds_cons (pds_setDT 2 hr.units1 (pd_var 6) (pd_var 5))
    (pds_one (pds_setDT 2 hr.units1 (pd_var 5) (pd_var 6)))))))
    (pds_one (pds_frz1 2 (pds_ret (pd_var 2)))))))
theorem g_link_ends {P : Program} {w : World} {K : PySem.W.Frag} {mg : Str → Option Value} {base : Heap} (W : W0 K mg) {gg_marks_of : List D → (D → Prop) → Prop} {gg_ends_at : List D → (D → Prop) → Prop} {gg : List D → (D → Prop) → Prop} (c_marks_of : DefF P w K mg base "marks_of" ["rows"] 1 (SpF gg_marks_of)) (c_ends_at : DefF P w K mg base "ends_at" ["marks"] 2 (SpF gg_ends_at))
  (hl : ∀ ds Kd, gg ds Kd → ds.length = 2)
  (hp : ∀ ds Kd, gg ds Kd → (R_link_ends gg_marks_of gg_ends_at) { nx := fun _ => Kd .non, rt := fun d _ => Kd d } (init N_link_ends ["rows", "names"] ds)) : DefF P w K mg base "link_ends" ["rows", "names"] 3 (SpF gg) :=
  W.def_ 41 32 rfl rfl (fun _ _ _ _ _ _ us hl => match us, hl with | [_, _], _ => rfl) fun f fd F => fn_ok F (C8.fnScope_by (by decide +kernel)) hl fun cdv A outer s H E hr => ⟨_, w_link_ends W c_marks_of c_ends_at cdv A outer s H E f hr, hp⟩
abbrev N_next_end : List Str := ["rows", "links", "end", "index", "number", "side", "row"]
def R_next_end  : TDS := (dSeq (dIfS (dB (dDIn (dVar 2) (dVar 1))) (dRet (dTup (dCons (dC .non) (dCons (dDGet (dVar 1) (dVar 2)) dNil)))) dNext)
  (dSeq (dAsg (dVar 2) (dgTup 3 (dgCons (dgName 3) (dgCons (dgName 4) (dgCons (dgName 5) dgNil)))))
  (dSeq (dSet 6 (dOp dIx (dVar 0) (dVar 3)))
  (dSeq (dIfS (dAnd (dB (dOp dEq (dVar 5) (dC (.int 1)))) (dB (dOp dLt (dOp dAdd (dOp dMul (dC (.int 2)) (dVar 4)) (dC (.int 1))) (dCall dLen (dCons (dVar 6) dNil))))) dNever dNext)
  (dSeq (dIfS (dAnd (dB (dOp dEq (dVar 5) (dC (.int 0)))) (dB (dOp dGt (dVar 4) (dC (.int 0))))) dNever dNext)
  (dRet (dC .non)))))))
theorem w_next_end {P : Program} {w : World} {K : PySem.W.Frag} {mg : Str → Option Value} {base : Heap} (W : W0 K mg)   (cdv : Value) (A : Around) (outer : List Env) (s : Shared) (H : Hp) (E : XK) (f : Addr) (hr : Room 0 (A.deeper (envOfC "next_end" (defScope s_next_end) s.heap.objs.size f cdv))) :
  PDS (cxOf CX0 P w K mg base N_next_end "next_end" (defScope s_next_end) f cdv A outer s H E).nox (defBody s_next_end) R_next_end := by
  have hN : N_next_end.Nodup := by decide
  exact (pds_cons (pds_if (pdt_din hr.units1 (pd_var 2) (pd_var 1)) (pds_one (pds_ret (pd_tup (pda_cons pd_non (pda_cons (pd_dget hr.units1 (pd_var 1) (pd_var 2)) pda_nil))))) pds_nil)
    (pds_cons (pds_asg (pd_var 2) (pdg_tup rfl (pdgs_cons (pdg_name 3 hN) (pdgs_cons (pdg_name 4 hN) (pdgs_cons (pdg_name 5 hN) pdgs_nil)))))
    (pds_cons (pds_set 6 (pd_ix (pd_var 0) (pd_var 3)) hN)
    (pds_cons (pds_if (PDW.pt (pdw_and (pdt_cmp (op_eq2 hr.units) od_eq (pd_var 5) pd_int) (pdw_and1 (pdt_cmp op_lt od_lt (pd_op op_add3 od_add (pd_op op_mul od_mul pd_int (pd_var 4)) pd_int) (pd_callB cr_len2 cd_len rfl (W.free 83) rfl (pda_cons (pd_var 6) pda_nil)))))) pds_never pds_nil)
    (pds_cons (pds_if (PDW.pt (pdw_and (pdt_cmp (op_eq2 hr.units) od_eq (pd_var 5) pd_int) (pdw_and1 (pdt_cmp op_gt od_gt (pd_var 4) pd_int)))) pds_never pds_nil)
    (pds_one (pds_ret pd_non)))))))
theorem g_next_end {P : Program} {w : World} {K : PySem.W.Frag} {mg : Str → Option Value} {base : Heap} (W : W0 K mg)  {gg : List D → (D → Prop) → Prop} 
  (hl : ∀ ds Kd, gg ds Kd → ds.length = 3)
  (hp : ∀ ds Kd, gg ds Kd → R_next_end { nx := fun _ => Kd .non, rt := fun d _ => Kd d } (init N_next_end ["rows", "links", "end"] ds)) : DefF P w K mg base "next_end" ["rows", "links", "end"] 1 (SpF gg) :=
  W.def_ 42 33 rfl rfl (fun _ _ _ _ _ _ us hl => match us, hl with | [_, _, _], _ => rfl) fun f fd F => fn_ok F (C8.fnScope_by (by decide +kernel)) hl fun cdv A outer s H E hr => ⟨_, w_next_end W  cdv A outer s H E f hr, hp⟩
abbrev N_walk : List Str := ["rows", "links", "start", "path", "marks", "end", "index", "number", "side", "exit_end", "following"]
def R_walk (gg_next_end : List D → (D → Prop) → Prop) : TDS := (dSeq (dSetN 3 (dLstN dNil))
  (dSeq (dSetN 4 (dLstN dNil))
  (dSeq (dSet 5 (dVar 2))
  (dSeq (dWhile (dB (dOp dNotN (dVar 5) (dC .non))) (dSeq (dAsg (dVar 5) (dgTup 3 (dgCons (dgName 6) (dgCons (dgName 7) (dgCons (dgName 8) dgNil)))))
  (dSeq (dDrop (dApp 3 (dTup (dCons (dTup (dCons (dVar 6) (dCons (dVar 7) dNil))) (dCons (dOp dEq (dVar 8) (dC (.int 1))) dNil)))))
  (dSeq (dSet 9 (dTup (dCons (dVar 6) (dCons (dVar 7) (dCons (dOp dSub (dC (.int 1)) (dVar 8)) dNil)))))
  (dSeq (dSet 10 (dCall gg_next_end (dCons (dVar 0) (dCons (dVar 1) (dCons (dVar 9) dNil)))))
  (dSeq (dIfS (dB (dOp dIsN (dVar 10) (dC .non))) (dFrz 4 (dFrz 3 (dRet (dTup (dCons (dVar 3) (dCons (dVar 4) (dCons (dVar 9) dNil))))))) dNext)
  (dSeq (dDrop (dApp 4 (dOp dIx (dVar 10) (dC (.int 0)))))
  (dSet 5 (dIf (dB (dOp dEq (dOp dIx (dVar 10) (dC (.int 1))) (dVar 2))) (dC .non) (dOp dIx (dVar 10) (dC (.int 1))))))))))))
  (dFrz 4 (dFrz 3 (dRet (dTup (dCons (dVar 3) (dCons (dVar 4) (dCons (dC .non) dNil)))))))))))
theorem w_walk {P : Program} {w : World} {K : PySem.W.Frag} {mg : Str → Option Value} {base : Heap} (W : W0 K mg) {gg_next_end : List D → (D → Prop) → Prop} (c_next_end : DefF P w K mg base "next_end" ["rows", "links", "end"] 1 (SpF gg_next_end)) (cdv : Value) (A : Around) (outer : List Env) (s : Shared) (H : Hp) (E : XK) (f : Addr) (hr : Room 1 (A.deeper (envOfC "walk" (defScope s_walk) s.heap.objs.size f cdv))) :
  PDS (cxOf CX0 P w K mg base N_walk "walk" (defScope s_walk) f cdv A outer s H E).nox (defBody s_walk) (R_walk gg_next_end) := by
  have hN : N_walk.Nodup := by decide
  exact (pds_cons (pds_setN 3 (pdn_lst pda_nil) hN)
    (pds_cons (pds_setN 4 (pdn_lst pda_nil) hN)
    (pds_cons (pds_set 5 (pd_var 2) hN)
    (pds_cons (pds_while PassesOwn.never (pdt_cmp op_notN od_notN (pd_var 5) pd_non) (pds_cons (pds_asg (pd_var 5) (pdg_tup rfl (pdgs_cons (pdg_name 6 hN) (pdgs_cons (pdg_name 7 hN) (pdgs_cons (pdg_name 8 hN) pdgs_nil)))))
    (pds_cons (pds_expr (pd_append 3 (pd_tup (pda_cons (pd_tup (pda_cons (pd_var 6) (pda_cons (pd_var 7) pda_nil))) (pda_cons (pd_cmp (op_eq2 hr.units) od_eq (pd_var 8) pd_int) pda_nil)))))
    (pds_cons (pds_set 9 (pd_tup (pda_cons (pd_var 6) (pda_cons (pd_var 7) (pda_cons (pd_op op_sub od_sub pd_int (pd_var 8)) pda_nil)))) hN)
    (pds_cons (pds_set 10 (pd_callF c_next_end hr (by decide) rfl (pda_cons (pd_var 0) (pda_cons (pd_var 1) (pda_cons (pd_var 9) pda_nil)))) hN)
    (pds_cons (pds_if (pdt_cmp op_isN od_isN (pd_var 10) pd_non) (pds_one (pds_frz1 4 (pds_frz1 3 (pds_ret (pd_tup (pda_cons (pd_var 3) (pda_cons (pd_var 4) (pda_cons (pd_var 9) pda_nil)))))))) pds_nil)
    (pds_cons (pds_expr (pd_append 4 (pd_ix (pd_var 10) pd_int)))
    (pds_one (pds_set 5 (pd_ifExp (pdt_cmp (op_eq2 hr.units) od_eq (pd_ix (pd_var 10) pd_int) (pd_var 2)) pd_non (pd_ix (pd_var 10) pd_int)) hN)))))))))
    (pds_one (pds_frz1 4 (pds_frz1 3 (pds_ret (pd_tup (pda_cons (pd_var 3) (pda_cons (pd_var 4) (pda_cons pd_non pda_nil))))))))))))
theorem g_walk {P : Program} {w : World} {K : PySem.W.Frag} {mg : Str → Option Value} {base : Heap} (W : W0 K mg) {gg_next_end : List D → (D → Prop) → Prop} {gg : List D → (D → Prop) → Prop} (c_next_end : DefF P w K mg base "next_end" ["rows", "links", "end"] 1 (SpF gg_next_end))
  (hl : ∀ ds Kd, gg ds Kd → ds.length = 3)
  (hp : ∀ ds Kd, gg ds Kd → (R_walk gg_next_end) { nx := fun _ => Kd .non, rt := fun d _ => Kd d } (init N_walk ["rows", "links", "start"] ds)) : DefF P w K mg base "walk" ["rows", "links", "start"] 2 (SpF gg) :=
  W.def_ 43 34 rfl rfl (fun _ _ _ _ _ _ us hl => match us, hl with | [_, _, _], _ => rfl) fun f fd F => fn_ok F (C8.fnScope_by (by decide +kernel)) hl fun cdv A outer s H E hr => ⟨_, w_walk W c_next_end cdv A outer s H E f hr, hp⟩
abbrev N_oriented_piece : List Str := ["rows", "step", "index", "number", "flipped", "piece"]
def R_oriented_piece (gg_flipped_piece : List D → (D → Prop) → Prop) : TDS := (dSeq (dAsg (dVar 1) (dgTup 2 (dgCons (dgTup 2 (dgCons (dgName 2) (dgCons (dgName 3) dgNil))) (dgCons (dgName 4) dgNil))))
  (dSeq (dSet 5 (dOp dIx (dOp dIx (dVar 0) (dVar 2)) (dOp dMul (dC (.int 2)) (dVar 3))))
  (dRet (dIf (dB (dVar 4)) (dCall gg_flipped_piece (dCons (dVar 5) dNil)) (dVar 5)))))
theorem w_oriented_piece {P : Program} {w : World} {K : PySem.W.Frag} {mg : Str → Option Value} {base : Heap} (W : W0 K mg) {gg_flipped_piece : List D → (D → Prop) → Prop} (c_flipped_piece : DefF P w K mg base "flipped_piece" ["piece"] 1 (SpF gg_flipped_piece)) (cdv : Value) (A : Around) (outer : List Env) (s : Shared) (H : Hp) (E : XK) (f : Addr) (hr : Room 1 (A.deeper (envOfC "oriented_piece" (defScope s_oriented_piece) s.heap.objs.size f cdv))) :
  PDS (cxOf CX0 P w K mg base N_oriented_piece "oriented_piece" (defScope s_oriented_piece) f cdv A outer s H E).nox (defBody s_oriented_piece) (R_oriented_piece gg_flipped_piece) := by
  have hN : N_oriented_piece.Nodup := by decide
  exact (pds_cons (pds_asg (pd_var 1) (pdg_tup rfl (pdgs_cons (pdg_tup rfl (pdgs_cons (pdg_name 2 hN) (pdgs_cons (pdg_name 3 hN) pdgs_nil))) (pdgs_cons (pdg_name 4 hN) pdgs_nil))))
    (pds_cons (pds_set 5 (pd_ix (pd_ix (pd_var 0) (pd_var 2)) (pd_op op_mul od_mul pd_int (pd_var 3))) hN)
    (pds_one (pds_ret (pd_ifExp (pdt_val (pd_var 4)) (pd_callF c_flipped_piece hr (by decide) rfl (pda_cons (pd_var 5) pda_nil)) (pd_var 5))))))
theorem g_oriented_piece {P : Program} {w : World} {K : PySem.W.Frag} {mg : Str → Option Value} {base : Heap} (W : W0 K mg) {gg_flipped_piece : List D → (D → Prop) → Prop} {gg : List D → (D → Prop) → Prop} (c_flipped_piece : DefF P w K mg base "flipped_piece" ["piece"] 1 (SpF gg_flipped_piece))
  (hl : ∀ ds Kd, gg ds Kd → ds.length = 2)
  (hp : ∀ ds Kd, gg ds Kd → (R_oriented_piece gg_flipped_piece) { nx := fun _ => Kd .non, rt := fun d _ => Kd d } (init N_oriented_piece ["rows", "step"] ds)) : DefF P w K mg base "oriented_piece" ["rows", "step"] 2 (SpF gg) :=
  W.def_ 44 35 rfl rfl (fun _ _ _ _ _ _ us hl => match us, hl with | [_, _], _ => rfl) fun f fd F => fn_ok F (C8.fnScope_by (by decide +kernel)) hl fun cdv A outer s H E hr => ⟨_, w_oriented_piece W c_flipped_piece cdv A outer s H E f hr, hp⟩
abbrev N_strand_row : List Str := ["rows", "path", "marks", "found", "step", "mark"]
def R_strand_row (gg_oriented_piece : List D → (D → Prop) → Prop) : TDS := (dSeq (dSetN 3 (dLstN (dCons (dCall gg_oriented_piece (dCons (dVar 0) (dCons (dOp dIx (dVar 1) (dC (.int 0))) dNil))) dNil)))
  (dSeq (dFor (dItZ (dCons (dSl dCut (dVar 1) (dPart (dC (.int 1))) dNo) (dCons (dVar 2) dNil))) (dgTup 2 (dgCons (dgName 4) (dgCons (dgName 5) dgNil))) (dIfS (dB (dOp dIsN (dVar 5) (dC .non))) (dSetIx 3 (dC (.int (-1))) (dOp dAdd (dOwnIx 3 (dC (.int (-1)))) (dCall gg_oriented_piece (dCons (dVar 0) (dCons (dVar 4) dNil))))) dNever))
  (dFrz 3 (dRet (dVar 3)))))
theorem w_strand_row {P : Program} {w : World} {K : PySem.W.Frag} {mg : Str → Option Value} {base : Heap} (W : W0 K mg) {gg_oriented_piece : List D → (D → Prop) → Prop} (c_oriented_piece : DefF P w K mg base "oriented_piece" ["rows", "step"] 2 (SpF gg_oriented_piece)) (cdv : Value) (A : Around) (outer : List Env) (s : Shared) (H : Hp) (E : XK) (f : Addr) (hr : Room 2 (A.deeper (envOfC "strand_row" (defScope s_strand_row) s.heap.objs.size f cdv))) :
  PDS (cxOf CX0 P w K mg base N_strand_row "strand_row" (defScope s_strand_row) f cdv A outer s H E).nox (defBody s_strand_row) (R_strand_row gg_oriented_piece) := by
  have hN : N_strand_row.Nodup := by decide
  exact (pds_cons (pds_setN 3 (pdn_lst (pda_cons (pd_callF c_oriented_piece hr (by decide) rfl (pda_cons (pd_var 0) (pda_cons (pd_ix (pd_var 1) pd_int) pda_nil))) pda_nil)) hN)
    (pds_cons (pds_for PassesOwn.never (pdi_zip rfl (W.free 89) (pda_cons (pd_slice (pd_var 1) (pdo_some pd_int) pdo_none) (pda_cons (pd_var 2) pda_nil))) (pdg_tup rfl (pdgs_cons (pdg_name 4 hN) (pdgs_cons (pdg_name 5 hN) pdgs_nil))) (pds_one (pds_if (pdt_cmp op_isN od_isN (pd_var 5) pd_non) (pds_one (pds_setIx 3 (pd_op op_add3 od_add (pd_ownIx 3 pd_neg1) (pd_callF c_oriented_piece hr (by decide) rfl (pda_cons (pd_var 0) (pda_cons (pd_var 4) pda_nil)))) pd_neg1)) pds_never)))
    (pds_one (pds_frz1 3 (pds_ret (pd_var 3))))))
theorem g_strand_row {P : Program} {w : World} {K : PySem.W.Frag} {mg : Str → Option Value} {base : Heap} (W : W0 K mg) {gg_oriented_piece : List D → (D → Prop) → Prop} {gg : List D → (D → Prop) → Prop} (c_oriented_piece : DefF P w K mg base "oriented_piece" ["rows", "step"] 2 (SpF gg_oriented_piece))
  (hl : ∀ ds Kd, gg ds Kd → ds.length = 3)
  (hp : ∀ ds Kd, gg ds Kd → (R_strand_row gg_oriented_piece) { nx := fun _ => Kd .non, rt := fun d _ => Kd d } (init N_strand_row ["rows", "path", "marks"] ds)) : DefF P w K mg base "strand_row" ["rows", "path", "marks"] 3 (SpF gg) :=
  W.def_ 45 36 rfl rfl (fun _ _ _ _ _ _ us hl => match us, hl with | [_, _, _], _ => rfl) fun f fd F => fn_ok F (C8.fnScope_by (by decide +kernel)) hl fun cdv A outer s H E hr => ⟨_, w_strand_row W c_oriented_piece cdv A outer s H E f hr, hp⟩
abbrev N_ring_row : List Str := ["rows", "path", "marks", "found", "last"]
def R_ring_row (gg_strand_row : List D → (D → Prop) → Prop) : TDS := (dSeq (dSet 3 (dCall gg_strand_row (dCons (dVar 0) (dCons (dVar 1) (dCons (dVar 2) dNil)))))
  (dSeq (dIfS (dB (dOp dNotN (dOp dIx (dVar 2) (dC (.int (-1)))) (dC .non))) dNever dNext)
  (dSeq (dIfS (dB (dOp dGt (dCall dLen (dCons (dVar 3) dNil)) (dC (.int 1)))) dNever dNext)
  (dRet (dVar 3)))))
theorem w_ring_row {P : Program} {w : World} {K : PySem.W.Frag} {mg : Str → Option Value} {base : Heap} (W : W0 K mg) {gg_strand_row : List D → (D → Prop) → Prop} (c_strand_row : DefF P w K mg base "strand_row" ["rows", "path", "marks"] 3 (SpF gg_strand_row)) (cdv : Value) (A : Around) (outer : List Env) (s : Shared) (H : Hp) (E : XK) (f : Addr) (hr : Room 3 (A.deeper (envOfC "ring_row" (defScope s_ring_row) s.heap.objs.size f cdv))) :
  PDS (cxOf CX0 P w K mg base N_ring_row "ring_row" (defScope s_ring_row) f cdv A outer s H E).nox (defBody s_ring_row) (R_ring_row gg_strand_row) := by
  have hN : N_ring_row.Nodup := by decide
  exact (pds_cons (pds_set 3 (pd_callF c_strand_row hr (by decide) rfl (pda_cons (pd_var 0) (pda_cons (pd_var 1) (pda_cons (pd_var 2) pda_nil)))) hN)
    (pds_cons (pds_if (pdt_cmp op_notN od_notN (pd_ix (pd_var 2) pd_neg1) pd_non) pds_never pds_nil)
    (pds_cons (pds_if (pdt_cmp op_gt od_gt (pd_callB cr_len2 cd_len rfl (W.free 83) rfl (pda_cons (pd_var 3) pda_nil)) pd_int) pds_never pds_nil)
    (pds_one (pds_ret (pd_var 3))))))
theorem g_ring_row {P : Program} {w : World} {K : PySem.W.Frag} {mg : Str → Option Value} {base : Heap} (W : W0 K mg) {gg_strand_row : List D → (D → Prop) → Prop} {gg : List D → (D → Prop) → Prop} (c_strand_row : DefF P w K mg base "strand_row" ["rows", "path", "marks"] 3 (SpF gg_strand_row))
  (hl : ∀ ds Kd, gg ds Kd → ds.length = 3)
  (hp : ∀ ds Kd, gg ds Kd → (R_ring_row gg_strand_row) { nx := fun _ => Kd .non, rt := fun d _ => Kd d } (init N_ring_row ["rows", "path", "marks"] ds)) : DefF P w K mg base "ring_row" ["rows", "path", "marks"] 4 (SpF gg) :=
  W.def_ 46 37 rfl rfl (fun _ _ _ _ _ _ us hl => match us, hl with | [_, _, _], _ => rfl) fun f fd F => fn_ok F (C8.fnScope_by (by decide +kernel)) hl fun cdv A outer s H E hr => ⟨_, w_ring_row W c_strand_row cdv A outer s H E f hr, hp⟩
abbrev N_find_strands : List Str := ["rows", "links", "found", "seen", "index", "row", "end", "path", "marks", "last"]
def R_find_strands (gg_walk : List D → (D → Prop) → Prop) : TDS := (dSeq (dSetN 2 (dLstN dNil))
  (dSeq (dSetN 3 (dLstN dNil))
  (dSeq (dFor (dItE (dCons (dVar 0) dNil)) (dgTup 2 (dgCons (dgName 4) (dgCons (dgName 5) dgNil))) (dFor (dItT (dTup (dCons (dTup (dCons (dVar 4) (dCons (dC (.int 0)) (dCons (dC (.int 0)) dNil)))) (dCons (dTup (dCons (dVar 4) (dCons (dOp dDiv (dCall dLen (dCons (dVar 5) dNil)) (dC (.int 2))) (dCons (dC (.int 1)) dNil)))) dNil)))) (dgName 6) (dIfS (dB (dOpOwn 3 dNotInL (dVar 6))) (dSeq (dAsg (dCall gg_walk (dCons (dVar 0) (dCons (dVar 1) (dCons (dVar 6) dNil)))) (dgTup 3 (dgCons (dgName 7) (dgCons (dgName 8) (dgCons (dgName 9) dgNil)))))
  (dSeq (dDrop (dApp 3 (dVar 9)))
  (dDrop (dApp 2 (dTup (dCons (dVar 6) (dCons (dVar 9) (dCons (dVar 7) (dCons (dVar 8) dNil))))))))) dNext)))
  (dFrz 2 (dRet (dVar 2))))))
theorem w_find_strands {P : Program} {w : World} {K : PySem.W.Frag} {mg : Str → Option Value} {base : Heap} (W : W0 K mg) {gg_walk : List D → (D → Prop) → Prop} (c_walk : DefF P w K mg base "walk" ["rows", "links", "start"] 2 (SpF gg_walk)) (cdv : Value) (A : Around) (outer : List Env) (s : Shared) (H : Hp) (E : XK) (f : Addr) (hr : Room 2 (A.deeper (envOfC "find_strands" (defScope s_find_strands) s.heap.objs.size f cdv))) :
  PDS (cxOf CX0 P w K mg base N_find_strands "find_strands" (defScope s_find_strands) f cdv A outer s H E).nox (defBody s_find_strands) (R_find_strands gg_walk) := by
  have hN : N_find_strands.Nodup := by decide
  exact (pds_cons (pds_setN 2 (pdn_lst pda_nil) hN)
    (pds_cons (pds_setN 3 (pdn_lst pda_nil) hN)
    (pds_cons (pds_for PassesOwn.never (pdi_enum rfl (W.free 88) (pda_cons (pd_var 0) pda_nil)) (pdg_tup rfl (pdgs_cons (pdg_name 4 hN) (pdgs_cons (pdg_name 5 hN) pdgs_nil))) (pds_one (pds_for PassesOwn.never (pdi_tup (pd_tup (pda_cons (pd_tup (pda_cons (pd_var 4) (pda_cons pd_int (pda_cons pd_int pda_nil)))) (pda_cons (pd_tup (pda_cons (pd_var 4) (pda_cons (pd_op op_fdiv od_div (pd_callB cr_len2 cd_len rfl (W.free 83) rfl (pda_cons (pd_var 5) pda_nil)) pd_int) (pda_cons pd_int pda_nil)))) pda_nil)))) (pdg_name 6 hN) (pds_one (pds_if (pdt_cmpOwn 3 (op_notInD hr.units65) od_notInL (pd_var 6)) (pds_cons (pds_asg (pd_callF c_walk hr (by decide) rfl (pda_cons (pd_var 0) (pda_cons (pd_var 1) (pda_cons (pd_var 6) pda_nil)))) (pdg_tup rfl (pdgs_cons (pdg_name 7 hN) (pdgs_cons (pdg_name 8 hN) (pdgs_cons (pdg_name 9 hN) pdgs_nil)))))
    (pds_cons (pds_expr (pd_append 3 (pd_var 9)))
    (pds_one (pds_expr (pd_append 2 (pd_tup (pda_cons (pd_var 6) (pda_cons (pd_var 9) (pda_cons (pd_var 7) (pda_cons (pd_var 8) pda_nil)))))))))) pds_nil)))))
    (pds_one (pds_frz1 2 (pds_ret (pd_var 2)))))))
theorem g_find_strands {P : Program} {w : World} {K : PySem.W.Frag} {mg : Str → Option Value} {base : Heap} (W : W0 K mg) {gg_walk : List D → (D → Prop) → Prop} {gg : List D → (D → Prop) → Prop} (c_walk : DefF P w K mg base "walk" ["rows", "links", "start"] 2 (SpF gg_walk))
  (hl : ∀ ds Kd, gg ds Kd → ds.length = 2)
  (hp : ∀ ds Kd, gg ds Kd → (R_find_strands gg_walk) { nx := fun _ => Kd .non, rt := fun d _ => Kd d } (init N_find_strands ["rows", "links"] ds)) : DefF P w K mg base "find_strands" ["rows", "links"] 3 (SpF gg) :=
  W.def_ 47 38 rfl rfl (fun _ _ _ _ _ _ us hl => match us, hl with | [_, _], _ => rfl) fun f fd F => fn_ok F (C8.fnScope_by (by decide +kernel)) hl fun cdv A outer s H E hr => ⟨_, w_find_strands W c_walk cdv A outer s H E f hr, hp⟩
abbrev N_find_rings : List Str := ["rows", "links", "known", "seen", "found", "index", "row", "number", "path", "marks", "last", "step"]
def R_find_rings (gg_walk : List D → (D → Prop) → Prop) : TDS := (dSeq (dSetN 3 (dListN (dCons (dVar 2) dNil)))
  (dSeq (dSetN 4 (dLstN dNil))
  (dSeq (dFor (dItE (dCons (dVar 0) dNil)) (dgTup 2 (dgCons (dgName 5) (dgCons (dgName 6) dgNil))) (dFor (dItR (dCons (dOp dAdd (dOp dDiv (dCall dLen (dCons (dVar 6) dNil)) (dC (.int 2))) (dC (.int 1))) dNil)) (dgName 7) (dIfS (dB (dOpOwn 3 dNotInL (dTup (dCons (dVar 5) (dCons (dVar 7) dNil))))) (dSeq (dAsg (dCall gg_walk (dCons (dVar 0) (dCons (dVar 1) (dCons (dTup (dCons (dVar 5) (dCons (dVar 7) (dCons (dC (.int 0)) dNil)))) dNil)))) (dgTup 3 (dgCons (dgName 8) (dgCons (dgName 9) (dgCons (dgName 10) dgNil)))))
  (dSeq (dDrop (dExt 3 (dLc (dItL (dVar 8)) (dgName 11) dYes (dOp dIx (dVar 11) (dC (.int 0))) [11])))
  (dDrop (dApp 4 (dTup (dCons (dVar 8) (dCons (dVar 9) dNil))))))) dNext)))
  (dFrz 4 (dRet (dVar 4))))))
theorem w_find_rings {P : Program} {w : World} {K : PySem.W.Frag} {mg : Str → Option Value} {base : Heap} (W : W0 K mg) {gg_walk : List D → (D → Prop) → Prop} (c_walk : DefF P w K mg base "walk" ["rows", "links", "start"] 2 (SpF gg_walk)) (cdv : Value) (A : Around) (outer : List Env) (s : Shared) (H : Hp) (E : XK) (f : Addr) (hr : Room 2 (A.deeper (envOfC "find_rings" (defScope s_find_rings) s.heap.objs.size f cdv))) :
  PDS (cxOf CX0 P w K mg base N_find_rings "find_rings" (defScope s_find_rings) f cdv A outer s H E).nox (defBody s_find_rings) (R_find_rings gg_walk) := by
  have hN : N_find_rings.Nodup := by decide
  exact (pds_cons (pds_setN 3 (pdn_list rfl (W.free 93) (pda_cons (pd_var 2) pda_nil)) hN)
    (pds_cons (pds_setN 4 (pdn_lst pda_nil) hN)
    (pds_cons (pds_for PassesOwn.never (pdi_enum rfl (W.free 88) (pda_cons (pd_var 0) pda_nil)) (pdg_tup rfl (pdgs_cons (pdg_name 5 hN) (pdgs_cons (pdg_name 6 hN) pdgs_nil))) (pds_one (pds_for PassesOwn.never (pdi_range1 rfl (W.free 87) (pda_cons (pd_op op_add3 od_add (pd_op op_fdiv od_div (pd_callB cr_len2 cd_len rfl (W.free 83) rfl (pda_cons (pd_var 6) pda_nil)) pd_int) pd_int) pda_nil)) (pdg_name 7 hN) (pds_one (pds_if (pdt_cmpOwn 3 (op_notInD hr.units65) od_notInL (pd_tup (pda_cons (pd_var 5) (pda_cons (pd_var 7) pda_nil)))) (pds_cons (pds_asg (pd_callF c_walk hr (by decide) rfl (pda_cons (pd_var 0) (pda_cons (pd_var 1) (pda_cons (pd_tup (pda_cons (pd_var 5) (pda_cons (pd_var 7) (pda_cons pd_int pda_nil)))) pda_nil)))) (pdg_tup rfl (pdgs_cons (pdg_name 8 hN) (pdgs_cons (pdg_name 9 hN) (pdgs_cons (pdg_name 10 hN) pdgs_nil)))))
    (pds_cons (pds_expr (pd_extend 3 (pd_lc (own := [("step", 11)]) rfl hN (pdi_list (pd_var 8)) (blkOk_by (by kernel_rfl)) (by decide) (fun s H C cl fp => (pdg_name 11 hN)) (fun s H C cl fp => pdts_nil) (fun s H C cl fp => (pd_ix (pd_var 11) pd_int)))))
    (pds_one (pds_expr (pd_append 4 (pd_tup (pda_cons (pd_var 8) (pda_cons (pd_var 9) pda_nil)))))))) pds_nil)))))
    (pds_one (pds_frz1 4 (pds_ret (pd_var 4)))))))
theorem g_find_rings {P : Program} {w : World} {K : PySem.W.Frag} {mg : Str → Option Value} {base : Heap} (W : W0 K mg) {gg_walk : List D → (D → Prop) → Prop} {gg : List D → (D → Prop) → Prop} (c_walk : DefF P w K mg base "walk" ["rows", "links", "start"] 2 (SpF gg_walk))
  (hl : ∀ ds Kd, gg ds Kd → ds.length = 3)
  (hp : ∀ ds Kd, gg ds Kd → (R_find_rings gg_walk) { nx := fun _ => Kd .non, rt := fun d _ => Kd d } (init N_find_rings ["rows", "links", "known"] ds)) : DefF P w K mg base "find_rings" ["rows", "links", "known"] 3 (SpF gg) :=
  W.def_ 48 39 rfl rfl (fun _ _ _ _ _ _ us hl => match us, hl with | [_, _, _], _ => rfl) fun f fd F => fn_ok F (C8.fnScope_by (by decide +kernel)) hl fun cdv A outer s H E hr => ⟨_, w_find_rings W c_walk cdv A outer s H E f hr, hp⟩
abbrev N_pieces_on : List Str := ["paths", "path", "step"]
def R_pieces_on  : TDS := (dRet (dLc2 (dItL (dVar 0)) (dgName 1) (dItL (dVar 1)) (dgName 2) (dOp dIx (dVar 2) (dC (.int 0))) [1, 2] [2]))
theorem w_pieces_on {P : Program} {w : World} {K : PySem.W.Frag} {mg : Str → Option Value} {base : Heap} (W : W0 K mg)   (cdv : Value) (A : Around) (outer : List Env) (s : Shared) (H : Hp) (E : XK) (f : Addr) (hr : Room 0 (A.deeper (envOfC "pieces_on" (defScope s_pieces_on) s.heap.objs.size f cdv))) :
  PDS (cxOf CX0 P w K mg base N_pieces_on "pieces_on" (defScope s_pieces_on) f cdv A outer s H E).nox (defBody s_pieces_on) R_pieces_on := by
  have hN : N_pieces_on.Nodup := by decide
  exact (pds_one (pds_ret (pd_lc2 (own := [("path", 1), ("step", 2)]) (vs1 := [2]) rfl hN (pdi_list (pd_var 0)) (blkOk_by (by kernel_rfl)) (by decide) (by decide) (by decide) (fun s H C cl fp => (pdg_name 1 hN)) (fun s H C cl fp => (pdi_list (pd_var 1))) (fun s H C cl fp => (pdg_name 2 hN)) (fun s H C cl fp => (pd_ix (pd_var 2) pd_int)))))
theorem g_pieces_on {P : Program} {w : World} {K : PySem.W.Frag} {mg : Str → Option Value} {base : Heap} (W : W0 K mg)  {gg : List D → (D → Prop) → Prop} 
  (hl : ∀ ds Kd, gg ds Kd → ds.length = 1)
  (hp : ∀ ds Kd, gg ds Kd → R_pieces_on { nx := fun _ => Kd .non, rt := fun d _ => Kd d } (init N_pieces_on ["paths"] ds)) : DefF P w K mg base "pieces_on" ["paths"] 1 (SpF gg) :=
  W.def_ 49 40 rfl rfl (fun _ _ _ _ _ _ us hl => match us, hl with | [_], _ => rfl) fun f fd F => fn_ok F (C8.fnScope_by (by decide +kernel)) hl fun cdv A outer s H E hr => ⟨_, w_pieces_on W  cdv A outer s H E f hr, hp⟩
end MS
set_option maxHeartbeats 4000000
namespace MS
open PySem PySem.Spec PyProof.Rows L2 DL
abbrev N_are_unique_names_joining : List Str := ["value", "name"]
def R_are_unique_names_joining (gg_is_sequence : List D → (D → Prop) → Prop) (gg_is_name : List D → (D → Prop) → Prop) : TDS := (dSeq (dIfS (dOr (dNot (dB (dCall gg_is_sequence (dCons (dVar 0) dNil)))) (dNot (dB (dCall dAll (dCons (dLc (dItL (dVar 0)) (dgName 1) dYes (dCall gg_is_name (dCons (dVar 1) dNil)) [1]) dNil))))) (dRet (dC (.bl false))) dNext)
  (dRet (dOp dEq (dLenSc (dItL (dVar 0)) (dgName 1) (dVar 1) [1]) (dCall dLen (dCons (dVar 0) dNil)))))
theorem w_are_unique_names_joining {P : Program} {w : World} {K : PySem.W.Frag} {mg : Str → Option Value} {base : Heap} (W : W0 K mg) {gg_is_sequence : List D → (D → Prop) → Prop} {gg_is_name : List D → (D → Prop) → Prop} (c_is_sequence : DefF P w K mg base "is_sequence" ["value"] 1 (SpF gg_is_sequence)) (c_is_name : DefF P w K mg base "is_name" ["value"] 1 (SpF gg_is_name)) (cdv : Value) (A : Around) (outer : List Env) (s : Shared) (H : Hp) (E : XK) (f : Addr) (hr : Room 1 (A.deeper (envOfC "are_unique_names" (defScope s_are_unique_names_joining) s.heap.objs.size f cdv))) :
  PDS (cxOf CX0 P w K mg base N_are_unique_names_joining "are_unique_names" (defScope s_are_unique_names_joining) f cdv A outer s H E).nox (defBody s_are_unique_names_joining) (R_are_unique_names_joining gg_is_sequence gg_is_name) := by
  have hN : N_are_unique_names_joining.Nodup := by decide
  exact (pds_cons (pds_if (PDW.pt (pdw_or (pdt_not (pdt_val (pd_callF c_is_sequence hr (by decide) rfl (pda_cons (pd_var 0) pda_nil)))) (pdw_or1 (pdt_not (pdt_val (pd_callB (cr_all rfl) cd_all rfl (W.free 85) rfl (pda_cons (pd_lc (own := [("name", 1)]) rfl hN (pdi_list (pd_var 0)) (blkOk_by (by kernel_rfl)) (by decide) (fun s H C cl fp => (pdg_name 1 hN)) (fun s H C cl fp => pdts_nil) (fun s H C cl fp => (pd_callF c_is_name hr (by decide) rfl (pda_cons (pd_var 1) pda_nil)))) pda_nil))))))) (pds_one (pds_ret pd_bl)) pds_nil)
    (pds_one (pds_ret (pd_cmp (op_eq2 hr.units) od_eq (pd_lenSc (own := [("name", 1)]) rfl hN rfl (W.free 83) (pdi_list (pd_var 0)) (blkOk_by (by kernel_rfl)) (by decide) (fun s H C cl fp => (pdg_name 1 hN)) (fun s H C cl fp => (pd_var 1))) (pd_callB cr_len2 cd_len rfl (W.free 83) rfl (pda_cons (pd_var 0) pda_nil))))))
theorem g_are_unique_names_joining {P : Program} {w : World} {K : PySem.W.Frag} {mg : Str → Option Value} {base : Heap} (W : W0 K mg) {gg_is_sequence : List D → (D → Prop) → Prop} {gg_is_name : List D → (D → Prop) → Prop} {gg : List D → (D → Prop) → Prop} (c_is_sequence : DefF P w K mg base "is_sequence" ["value"] 1 (SpF gg_is_sequence)) (c_is_name : DefF P w K mg base "is_name" ["value"] 1 (SpF gg_is_name))
  (hl : ∀ ds Kd, gg ds Kd → ds.length = 1)
  (hp : ∀ ds Kd, gg ds Kd → (R_are_unique_names_joining gg_is_sequence gg_is_name) { nx := fun _ => Kd .non, rt := fun d _ => Kd d } (init N_are_unique_names_joining ["value"] ds)) : DefF P w K mg base "are_unique_names_joining" ["value"] 2 (SpF gg) :=
  W.def_ 50 41 rfl rfl (fun _ _ _ _ _ _ us hl => match us, hl with | [_], _ => rfl) fun f fd F => fn_ok F (C8.fnScope_by (by decide +kernel)) hl fun cdv A outer s H E hr => ⟨_, w_are_unique_names_joining W c_is_sequence c_is_name cdv A outer s H E f hr, hp⟩
abbrev N_require_names : List Str := ["strip", "names", "name"]
def R_require_names (K : PySem.W.Frag) (gg_are_unique_names_joining : List D → (D → Prop) → Prop) (gg_Strip_require_name : List D → (D → Prop) → Prop) : TDS := (dSeq (dIfS (dNot (dB (dCall gg_are_unique_names_joining (dCons (dVar 1) dNil)))) dNever dNext)
  (dFor (dItL (dVar 1)) (dgName 2) (dDrop (dMeth (m := "require_name") 0 (He.ga K "Strip") gg_Strip_require_name (dCons (dVar 2) dNil)))))
theorem w_require_names {P : Program} {w : World} {K : PySem.W.Frag} {mg : Str → Option Value} {base : Heap} (W : W0 K mg) {gg_are_unique_names_joining : List D → (D → Prop) → Prop} {gg_Strip_require_name : List D → (D → Prop) → Prop} (c_are_unique_names_joining : DefF P w K mg base "are_unique_names_joining" ["value"] 2 (SpF gg_are_unique_names_joining)) (c_Strip_require_name : MethF P w K mg base (He.ga K "Strip") "require_name" ["self", "name"] 1 (SpF gg_Strip_require_name)) (cdv : Value) (A : Around) (outer : List Env) (s : Shared) (H : Hp) (E : XK) (f : Addr) (hr : Room 2 (A.deeper (envOfC "require_names" (defScope s_require_names) s.heap.objs.size f cdv))) :
  PDS (cxOf CX0 P w K mg base N_require_names "require_names" (defScope s_require_names) f cdv A outer s H E).nox (defBody s_require_names) (R_require_names K gg_are_unique_names_joining gg_Strip_require_name) := by
  have hN : N_require_names.Nodup := by decide
  exact (pds_cons (pds_if (pdt_not (pdt_val (pd_callF c_are_unique_names_joining hr (by decide) rfl (pda_cons (pd_var 1) pda_nil)))) (pds_one pds_never1) pds_nil)
    (pds_one (pds_for PassesOwn.never (pdi_list (pd_var 1)) (pdg_name 2 hN) (pds_one (pds_expr (pd_methF 0 (W.cls 57) c_Strip_require_name hr (by decide) (pda_cons (pd_var 2) pda_nil)))))))
theorem g_require_names {P : Program} {w : World} {K : PySem.W.Frag} {mg : Str → Option Value} {base : Heap} (W : W0 K mg) {gg_are_unique_names_joining : List D → (D → Prop) → Prop} {gg_Strip_require_name : List D → (D → Prop) → Prop} {gg : List D → (D → Prop) → Prop} (c_are_unique_names_joining : DefF P w K mg base "are_unique_names_joining" ["value"] 2 (SpF gg_are_unique_names_joining)) (c_Strip_require_name : MethF P w K mg base (He.ga K "Strip") "require_name" ["self", "name"] 1 (SpF gg_Strip_require_name))
  (hl : ∀ ds Kd, gg ds Kd → ds.length = 2)
  (hp : ∀ ds Kd, gg ds Kd → (R_require_names K gg_are_unique_names_joining gg_Strip_require_name) { nx := fun _ => Kd .non, rt := fun d _ => Kd d } (init N_require_names ["strip", "names"] ds)) : DefF P w K mg base "require_names" ["strip", "names"] 3 (SpF gg) :=
  W.def_ 51 42 rfl rfl (fun _ _ _ _ _ _ us hl => match us, hl with | [_, _], _ => rfl) fun f fd F => fn_ok F (C8.fnScope_by (by decide +kernel)) hl fun cdv A outer s H E hr => ⟨_, w_require_names W c_are_unique_names_joining c_Strip_require_name cdv A outer s H E f hr, hp⟩
abbrev N_JoinedStrip_init : List Str := ["self", "strip", "names", "rows", "links", "first", "last", "path", "marks", "cycles", "paths", "name", "cycle", "passed", "one", "piece", "flipped", "part", "step"]
def R_JoinedStrip_init (K : PySem.W.Frag) (gg_require_strip : List D → (D → Prop) → Prop) (gg_require_names : List D → (D → Prop) → Prop) (gg_Strip_names : List D → (D → Prop) → Prop) (gg_Strip_row : List D → (D → Prop) → Prop) (gg_link_ends : List D → (D → Prop) → Prop) (gg_find_strands : List D → (D → Prop) → Prop) (gg_find_rings : List D → (D → Prop) → Prop) (gg_pieces_on : List D → (D → Prop) → Prop) (gg_strand_row : List D → (D → Prop) → Prop) (gg_Ring_init : TFO) (gg_ring_row : List D → (D → Prop) → Prop) : TDS := (dSeq (dDrop (dCall gg_require_strip (dCons (dVar 1) dNil)))
  (dSeq (dDrop (dCall gg_require_names (dCons (dVar 1) (dCons (dVar 2) dNil))))
  (dSeq (dSetF (He.ga K "JoinedStrip") "kept_strip" 0 (dVar 1))
  (dSeq (dSetF (He.ga K "JoinedStrip") "kept_names" 0 (dLc (dItL (dMeth (m := "names") 1 (He.ga K "Strip") gg_Strip_names dNil)) (dgName 11) (dB (dOp dInL (dVar 11) (dVar 2))) (dVar 11) [11]))
  (dSeq (dSet 3 (dLst (dCons (dMeth (m := "row") 1 (He.ga K "Strip") gg_Strip_row dNil) dNil)))
  (dSeq (dSet 4 (dCall gg_link_ends (dCons (dVar 3) (dCons (dOwnFld (He.ga K "JoinedStrip") "kept_names" 0) dNil))))
  (dSeq (dAsg (dOp dIx (dCall gg_find_strands (dCons (dVar 3) (dCons (dVar 4) dNil))) (dC (.int 0))) (dgTup 4 (dgCons (dgName 5) (dgCons (dgName 6) (dgCons (dgName 7) (dgCons (dgName 8) dgNil))))))
  (dSeq (dSet 9 (dCall gg_find_rings (dCons (dVar 3) (dCons (dVar 4) (dCons (dCall gg_pieces_on (dCons (dLst (dCons (dVar 7) dNil)) dNil)) dNil)))))
  (dSeq (dSet 10 (dOp dAdd (dLst (dCons (dVar 7) dNil)) (dLc (dItL (dVar 9)) (dgName 12) dYes (dOp dIx (dVar 12) (dC (.int 0))) [12])))
  (dSeq (dSetF (He.ga K "JoinedStrip") "kept_row" 0 (dCall gg_strand_row (dCons (dVar 3) (dCons (dVar 7) (dCons (dVar 8) dNil)))))
  (dSeq (dSetF (He.ga K "JoinedStrip") "kept_rings" 0 (dLc (dItL (dVar 9)) (dgTup 2 (dgCons (dgName 12) (dgCons (dgName 13) dgNil))) dYes (dMake (He.ga K "Ring") gg_Ring_init (dCons (dCall gg_ring_row (dCons (dVar 3) (dCons (dVar 12) (dCons (dVar 13) dNil)))) dNil)) [12, 13]))
  (dSeq (dSetF (He.ga K "JoinedStrip") "kept_paths" 0 (dLc (dItL (dVar 10)) (dgName 14) dYes (dLc (dItL (dVar 14)) (dgTup 2 (dgCons (dgName 15) (dgCons (dgName 16) dgNil))) dYes (dTup (dCons (dOp dIx (dVar 15) (dC (.int 1))) (dCons (dVar 16) dNil))) [15, 16]) [14]))
  (dSetF (He.ga K "JoinedStrip") "owners" 0 (dDc2 (dItE (dCons (dOwnFld (He.ga K "JoinedStrip") "kept_paths" 0) dNil)) (dgTup 2 (dgCons (dgName 17) (dgCons (dgName 14) dgNil))) (dItL (dVar 14)) (dgName 18) (dOp dIx (dVar 18) (dC (.int 0))) (dVar 17) [17, 14, 18] [18]))))))))))))))
theorem w_JoinedStrip_init {P : Program} {w : World} {K : PySem.W.Frag} {mg : Str → Option Value} {base : Heap} (W : W0 K mg) {gg_require_strip : List D → (D → Prop) → Prop} {gg_require_names : List D → (D → Prop) → Prop} {gg_Strip_names : List D → (D → Prop) → Prop} {gg_Strip_row : List D → (D → Prop) → Prop} {gg_link_ends : List D → (D → Prop) → Prop} {gg_find_strands : List D → (D → Prop) → Prop} {gg_find_rings : List D → (D → Prop) → Prop} {gg_pieces_on : List D → (D → Prop) → Prop} {gg_strand_row : List D → (D → Prop) → Prop} {gg_Ring_init : TFO} {gg_ring_row : List D → (D → Prop) → Prop} (c_require_strip : DefF P w K mg base "require_strip" ["strip"] 1 (SpF gg_require_strip)) (c_require_names : DefF P w K mg base "require_names" ["strip", "names"] 3 (SpF gg_require_names)) (c_Strip_names : MethF P w K mg base (He.ga K "Strip") "names" ["self"] 1 (SpF gg_Strip_names)) (c_Strip_row : MethF P w K mg base (He.ga K "Strip") "row" ["self"] 1 (SpF gg_Strip_row)) (c_link_ends : DefF P w K mg base "link_ends" ["rows", "names"] 3 (SpF gg_link_ends)) (c_find_strands : DefF P w K mg base "find_strands" ["rows", "links"] 3 (SpF gg_find_strands)) (c_find_rings : DefF P w K mg base "find_rings" ["rows", "links", "known"] 3 (SpF gg_find_rings)) (c_pieces_on : DefF P w K mg base "pieces_on" ["paths"] 1 (SpF gg_pieces_on)) (c_strand_row : DefF P w K mg base "strand_row" ["rows", "path", "marks"] 3 (SpF gg_strand_row)) (c_Ring_init : MakeF P w K mg base (He.ga K "Ring") "Ring" ["self", "row"] 6 (SpO gg_Ring_init)) (c_ring_row : DefF P w K mg base "ring_row" ["rows", "path", "marks"] 4 (SpF gg_ring_row)) (cdv : Value) (A : Around) (outer : List Env) (s : Shared) (H : Hp) (E : XK) (f : Addr) (hr : Room 7 (A.deeper (envOfC "JoinedStrip.__init__" (defScope s_JoinedStrip_init) s.heap.objs.size f cdv))) :
  PDS (cxOf CX0 P w K mg base N_JoinedStrip_init "JoinedStrip.__init__" (defScope s_JoinedStrip_init) f cdv A outer s H E).nox (defBody s_JoinedStrip_init) (R_JoinedStrip_init K gg_require_strip gg_require_names gg_Strip_names gg_Strip_row gg_link_ends gg_find_strands gg_find_rings gg_pieces_on gg_strand_row gg_Ring_init gg_ring_row) := by
  have hN : N_JoinedStrip_init.Nodup := by decide
  exact (pds_cons (pds_expr (pd_callF c_require_strip hr (by decide) rfl (pda_cons (pd_var 1) pda_nil)))
    (pds_cons (pds_expr (pd_callF c_require_names hr (by decide) rfl (pda_cons (pd_var 1) (pda_cons (pd_var 2) pda_nil))))
    (pds_cons (pds_setF 0 (W.cls 66) (W.noat 68) (pd_var 1))
    (pds_cons (pds_setF 0 (W.cls 66) (W.noat 69) (pd_lc (own := [("name", 11)]) rfl hN (pdi_list (pd_methF0 1 (W.cls 57) c_Strip_names hr (by decide))) (blkOk_by (by kernel_rfl)) (by decide) (fun s H C cl fp => (pdg_name 11 hN)) (fun s H C cl fp => (pdts_one (pdt_cmp (op_inD hr.units65) od_inL (pd_var 11) (pd_var 2)))) (fun s H C cl fp => (pd_var 11))))
    (pds_cons (pds_set 3 (pd_lst (pda_cons (pd_methF0 1 (W.cls 57) c_Strip_row hr (by decide)) pda_nil)) hN)
    (pds_cons (pds_set 4 (pd_callF c_link_ends hr (by decide) rfl (pda_cons (pd_var 3) (pda_cons (pd_ownFld 0 (W.cls 66) (W.noat 69)) pda_nil))) hN)
    (pds_cons (pds_asg (pd_ix (pd_callF c_find_strands hr (by decide) rfl (pda_cons (pd_var 3) (pda_cons (pd_var 4) pda_nil))) pd_int) (pdg_tup rfl (pdgs_cons (pdg_name 5 hN) (pdgs_cons (pdg_name 6 hN) (pdgs_cons (pdg_name 7 hN) (pdgs_cons (pdg_name 8 hN) pdgs_nil))))))
    (pds_cons (pds_set 9 (pd_callF c_find_rings hr (by decide) rfl (pda_cons (pd_var 3) (pda_cons (pd_var 4) (pda_cons (pd_callF c_pieces_on hr (by decide) rfl (pda_cons (pd_lst (pda_cons (pd_var 7) pda_nil)) pda_nil)) pda_nil)))) hN)
    (pds_cons (pds_set 10 (pd_op op_add3 od_add (pd_lst (pda_cons (pd_var 7) pda_nil)) (pd_lc (own := [("cycle", 12)]) rfl hN (pdi_list (pd_var 9)) (blkOk_by (by kernel_rfl)) (by decide) (fun s H C cl fp => (pdg_name 12 hN)) (fun s H C cl fp => pdts_nil) (fun s H C cl fp => (pd_ix (pd_var 12) pd_int)))) hN)
    (pds_cons (pds_setF 0 (W.cls 66) (W.noat 70) (pd_callF c_strand_row hr (by decide) rfl (pda_cons (pd_var 3) (pda_cons (pd_var 7) (pda_cons (pd_var 8) pda_nil)))))
    (pds_cons (pds_setF 0 (W.cls 66) (W.noat 71) (pd_lc (own := [("cycle", 12), ("passed", 13)]) rfl hN (pdi_list (pd_var 9)) (blkOk_by (by kernel_rfl)) (by decide) (fun s H C cl fp => (pdg_tup rfl (pdgs_cons (pdg_name 12 hN) (pdgs_cons (pdg_name 13 hN) pdgs_nil)))) (fun s H C cl fp => pdts_nil) (fun s H C cl fp => (pd_makeF c_Ring_init hr (by decide) rfl (pda_cons (pd_callF c_ring_row hr (by decide) rfl (pda_cons (pd_var 3) (pda_cons (pd_var 12) (pda_cons (pd_var 13) pda_nil)))) pda_nil)))))
    (pds_cons (pds_setF 0 (W.cls 66) (W.noat 72) (pd_lc (own := [("one", 14)]) rfl hN (pdi_list (pd_var 10)) (blkOk_by (by kernel_rfl)) (by decide) (fun s H C cl fp => (pdg_name 14 hN)) (fun s H C cl fp => pdts_nil) (fun s H C cl fp => (pd_lc (own := [("piece", 15), ("flipped", 16)]) rfl hN (pdi_list (pd_var 14)) (blkOk_by (by kernel_rfl)) (by decide) (fun s H C cl fp => (pdg_tup rfl (pdgs_cons (pdg_name 15 hN) (pdgs_cons (pdg_name 16 hN) pdgs_nil)))) (fun s H C cl fp => pdts_nil) (fun s H C cl fp => (pd_tup (pda_cons (pd_ix (pd_var 15) pd_int) (pda_cons (pd_var 16) pda_nil))))))))
    (pds_one (pds_setF 0 (W.cls 66) (W.noat 73) (pd_dc2 (own := [("part", 17), ("one", 14), ("step", 18)]) (vs1 := [18]) rfl hN (pdi_enum rfl (W.free 88) (pda_cons (pd_ownFld 0 (W.cls 66) (W.noat 72)) pda_nil)) (blkOk_by (by kernel_rfl)) (by decide) (by decide) (by decide) (fun s H C cl fp => (pdg_tup rfl (pdgs_cons (pdg_name 17 hN) (pdgs_cons (pdg_name 14 hN) pdgs_nil)))) (fun s H C cl fp => (pdi_list (pd_var 14))) (fun s H C cl fp => (pdg_name 18 hN)) (fun s H C cl fp => (pd_ix (pd_var 18) pd_int)) (fun s H C cl fp => (pd_var 17)))))))))))))))))
theorem g_JoinedStrip_init {P : Program} {w : World} {K : PySem.W.Frag} {mg : Str → Option Value} {base : Heap} (W : W0 K mg) {gg_require_strip : List D → (D → Prop) → Prop} {gg_require_names : List D → (D → Prop) → Prop} {gg_Strip_names : List D → (D → Prop) → Prop} {gg_Strip_row : List D → (D → Prop) → Prop} {gg_link_ends : List D → (D → Prop) → Prop} {gg_find_strands : List D → (D → Prop) → Prop} {gg_find_rings : List D → (D → Prop) → Prop} {gg_pieces_on : List D → (D → Prop) → Prop} {gg_strand_row : List D → (D → Prop) → Prop} {gg_Ring_init : TFO} {gg_ring_row : List D → (D → Prop) → Prop} {gg : TFO} (c_require_strip : DefF P w K mg base "require_strip" ["strip"] 1 (SpF gg_require_strip)) (c_require_names : DefF P w K mg base "require_names" ["strip", "names"] 3 (SpF gg_require_names)) (c_Strip_names : MethF P w K mg base (He.ga K "Strip") "names" ["self"] 1 (SpF gg_Strip_names)) (c_Strip_row : MethF P w K mg base (He.ga K "Strip") "row" ["self"] 1 (SpF gg_Strip_row)) (c_link_ends : DefF P w K mg base "link_ends" ["rows", "names"] 3 (SpF gg_link_ends)) (c_find_strands : DefF P w K mg base "find_strands" ["rows", "links"] 3 (SpF gg_find_strands)) (c_find_rings : DefF P w K mg base "find_rings" ["rows", "links", "known"] 3 (SpF gg_find_rings)) (c_pieces_on : DefF P w K mg base "pieces_on" ["paths"] 1 (SpF gg_pieces_on)) (c_strand_row : DefF P w K mg base "strand_row" ["rows", "path", "marks"] 3 (SpF gg_strand_row)) (c_Ring_init : MakeF P w K mg base (He.ga K "Ring") "Ring" ["self", "row"] 6 (SpO gg_Ring_init)) (c_ring_row : DefF P w K mg base "ring_row" ["rows", "path", "marks"] 4 (SpF gg_ring_row))
  (hl : ∀ o ds Kd, gg o ds Kd → ds.length + 1 = 3)
  (hp : ∀ o ds Kd, gg o ds Kd → (R_JoinedStrip_init K gg_require_strip gg_require_names gg_Strip_names gg_Strip_row gg_link_ends gg_find_strands gg_find_rings gg_pieces_on gg_strand_row gg_Ring_init gg_ring_row) (endsO Kd) (initO N_JoinedStrip_init ["self", "strip", "names"] o ds)) : MakeF P w K mg base (He.ga K "JoinedStrip") "JoinedStrip" ["self", "strip", "names"] 8 (SpO gg) :=
  W.makeF 52 67 65 rfl rfl rfl (fun _ _ _ _ _ _ us hl => match us, hl with | [_, _, _], _ => rfl) fun f fd F => fn_okO F (C8.fnScope_by (by decide +kernel)) hl fun cdv A outer s H E hr => ⟨_, w_JoinedStrip_init W c_require_strip c_require_names c_Strip_names c_Strip_row c_link_ends c_find_strands c_find_rings c_pieces_on c_strand_row c_Ring_init c_ring_row cdv A outer s H E f hr, hp⟩
abbrev N_JoinedStrip_row : List Str := ["self"]
def R_JoinedStrip_row (K : PySem.W.Frag)  : TDS := (dRet (dCall dList (dCons (dFld (He.ga K "JoinedStrip") "kept_row" (dVar 0)) dNil)))
theorem w_JoinedStrip_row {P : Program} {w : World} {K : PySem.W.Frag} {mg : Str → Option Value} {base : Heap} (W : W0 K mg)   (cdv : Value) (A : Around) (outer : List Env) (s : Shared) (H : Hp) (E : XK) (f : Addr) (hr : Room 0 (A.deeper (envOfC "JoinedStrip.row" (defScope s_JoinedStrip_row) s.heap.objs.size f cdv))) :
  PDS (cxOf CX0 P w K mg base N_JoinedStrip_row "JoinedStrip.row" (defScope s_JoinedStrip_row) f cdv A outer s H E).nox (defBody s_JoinedStrip_row) (R_JoinedStrip_row K ) := by
  have hN : N_JoinedStrip_row.Nodup := by decide
  exact (pds_one (pds_ret (pd_callTy (cr_list2 rfl) cd_list rfl (W.free 93) rfl (pda_cons (pd_fld (W.cls 66) (W.noat 70) (pd_var 0)) pda_nil))))
theorem g_JoinedStrip_row {P : Program} {w : World} {K : PySem.W.Frag} {mg : Str → Option Value} {base : Heap} (W : W0 K mg)  {gg : List D → (D → Prop) → Prop} 
  (hl : ∀ ds Kd, gg ds Kd → ds.length = 1)
  (hp : ∀ ds Kd, gg ds Kd → (R_JoinedStrip_row K ) { nx := fun _ => Kd .non, rt := fun d _ => Kd d } (init N_JoinedStrip_row ["self"] ds)) : MethF P w K mg base (He.ga K "JoinedStrip") "row" ["self"] 1 (SpF gg) :=
  W.methF 53 81 rfl rfl (fun _ _ _ _ _ _ us hl => match us, hl with | [_], _ => rfl) fun f fd F => fn_ok F (C8.fnScope_by (by decide +kernel)) hl fun cdv A outer s H E hr => ⟨_, w_JoinedStrip_row W  cdv A outer s H E f hr, hp⟩
abbrev N_JoinedStrip_rings : List Str := ["self"]
def R_JoinedStrip_rings (K : PySem.W.Frag)  : TDS := (dRet (dCall dList (dCons (dFld (He.ga K "JoinedStrip") "kept_rings" (dVar 0)) dNil)))
theorem w_JoinedStrip_rings {P : Program} {w : World} {K : PySem.W.Frag} {mg : Str → Option Value} {base : Heap} (W : W0 K mg)   (cdv : Value) (A : Around) (outer : List Env) (s : Shared) (H : Hp) (E : XK) (f : Addr) (hr : Room 0 (A.deeper (envOfC "JoinedStrip.rings" (defScope s_JoinedStrip_rings) s.heap.objs.size f cdv))) :
  PDS (cxOf CX0 P w K mg base N_JoinedStrip_rings "JoinedStrip.rings" (defScope s_JoinedStrip_rings) f cdv A outer s H E).nox (defBody s_JoinedStrip_rings) (R_JoinedStrip_rings K ) := by
  have hN : N_JoinedStrip_rings.Nodup := by decide
  exact (pds_one (pds_ret (pd_callTy (cr_list2 rfl) cd_list rfl (W.free 93) rfl (pda_cons (pd_fld (W.cls 66) (W.noat 71) (pd_var 0)) pda_nil))))
theorem g_JoinedStrip_rings {P : Program} {w : World} {K : PySem.W.Frag} {mg : Str → Option Value} {base : Heap} (W : W0 K mg)  {gg : List D → (D → Prop) → Prop} 
  (hl : ∀ ds Kd, gg ds Kd → ds.length = 1)
  (hp : ∀ ds Kd, gg ds Kd → (R_JoinedStrip_rings K ) { nx := fun _ => Kd .non, rt := fun d _ => Kd d } (init N_JoinedStrip_rings ["self"] ds)) : MethF P w K mg base (He.ga K "JoinedStrip") "rings" ["self"] 1 (SpF gg) :=
  W.methF 54 82 rfl rfl (fun _ _ _ _ _ _ us hl => match us, hl with | [_], _ => rfl) fun f fd F => fn_ok F (C8.fnScope_by (by decide +kernel)) hl fun cdv A outer s H E hr => ⟨_, w_JoinedStrip_rings W  cdv A outer s H E f hr, hp⟩
abbrev N_join_all : List Str := ["strip"]
def R_join_all (K : PySem.W.Frag) (gg_require_strip : List D → (D → Prop) → Prop) (gg_JoinedStrip_init : TFO) (gg_Strip_names : List D → (D → Prop) → Prop) : TDS := (dSeq (dDrop (dCall gg_require_strip (dCons (dVar 0) dNil)))
  (dRet (dMake (He.ga K "JoinedStrip") gg_JoinedStrip_init (dCons (dVar 0) (dCons (dMeth (m := "names") 0 (He.ga K "Strip") gg_Strip_names dNil) dNil)))))
theorem w_join_all {P : Program} {w : World} {K : PySem.W.Frag} {mg : Str → Option Value} {base : Heap} (W : W0 K mg) {gg_require_strip : List D → (D → Prop) → Prop} {gg_JoinedStrip_init : TFO} {gg_Strip_names : List D → (D → Prop) → Prop} (c_require_strip : DefF P w K mg base "require_strip" ["strip"] 1 (SpF gg_require_strip)) (c_JoinedStrip_init : MakeF P w K mg base (He.ga K "JoinedStrip") "JoinedStrip" ["self", "strip", "names"] 8 (SpO gg_JoinedStrip_init)) (c_Strip_names : MethF P w K mg base (He.ga K "Strip") "names" ["self"] 1 (SpF gg_Strip_names)) (cdv : Value) (A : Around) (outer : List Env) (s : Shared) (H : Hp) (E : XK) (f : Addr) (hr : Room 9 (A.deeper (envOfC "join_all" (defScope s_join_all) s.heap.objs.size f cdv))) :
  PDS (cxOf CX0 P w K mg base N_join_all "join_all" (defScope s_join_all) f cdv A outer s H E).nox (defBody s_join_all) (R_join_all K gg_require_strip gg_JoinedStrip_init gg_Strip_names) := by
  have hN : N_join_all.Nodup := by decide
  exact (pds_cons (pds_expr (pd_callF c_require_strip hr (by decide) rfl (pda_cons (pd_var 0) pda_nil)))
    (pds_one (pds_ret (pd_makeF c_JoinedStrip_init hr (by decide) rfl (pda_cons (pd_var 0) (pda_cons (pd_methF0 0 (W.cls 57) c_Strip_names hr (by decide)) pda_nil))))))
theorem g_join_all {P : Program} {w : World} {K : PySem.W.Frag} {mg : Str → Option Value} {base : Heap} (W : W0 K mg) {gg_require_strip : List D → (D → Prop) → Prop} {gg_JoinedStrip_init : TFO} {gg_Strip_names : List D → (D → Prop) → Prop} {gg : List D → (D → Prop) → Prop} (c_require_strip : DefF P w K mg base "require_strip" ["strip"] 1 (SpF gg_require_strip)) (c_JoinedStrip_init : MakeF P w K mg base (He.ga K "JoinedStrip") "JoinedStrip" ["self", "strip", "names"] 8 (SpO gg_JoinedStrip_init)) (c_Strip_names : MethF P w K mg base (He.ga K "Strip") "names" ["self"] 1 (SpF gg_Strip_names))
  (hl : ∀ ds Kd, gg ds Kd → ds.length = 1)
  (hp : ∀ ds Kd, gg ds Kd → (R_join_all K gg_require_strip gg_JoinedStrip_init gg_Strip_names) { nx := fun _ => Kd .non, rt := fun d _ => Kd d } (init N_join_all ["strip"] ds)) : DefF P w K mg base "join_all" ["strip"] 10 (SpF gg) :=
  W.def_ 55 43 rfl rfl (fun _ _ _ _ _ _ us hl => match us, hl with | [_], _ => rfl) fun f fd F => fn_ok F (C8.fnScope_by (by decide +kernel)) hl fun cdv A outer s H E hr => ⟨_, w_join_all W c_require_strip c_JoinedStrip_init c_Strip_names cdv A outer s H E f hr, hp⟩
end MS
set_option maxHeartbeats 4000000
namespace MS
open PySem PySem.Spec PyProof.Rows L2 DL
abbrev N_law_cell : List Str := ["_law_script", "_law_k"]
def R_law_cell (K : PySem.W.Frag) : TDS := (dSeq (dIfS (dB (dOp dLt (dVar 1) (dCall (dLenS K) (dCons (dVar 0) dNil)))) (dRet (dOp (dIxS K) (dVar 0) (dVar 1))) dNext)
  (dRet (dOp dAdd (dOp dMul (dC (.int 9511)) (dVar 1)) (dC (.int 223)))))
theorem w_law_cell {P : Program} {w : World} {K : PySem.W.Frag} {mg : Str → Option Value} {base : Heap} (W : W0 K mg)   (cdv : Value) (A : Around) (outer : List Env) (s : Shared) (H : Hp) (E : XK) (f : Addr) (hr : Room 0 (A.deeper (envOfC "_law_cell" (defScope s_law_cell) s.heap.objs.size f cdv))) :
  PDS (cxOf CX0 P w K mg base N_law_cell "_law_cell" (defScope s_law_cell) f cdv A outer s H E).nox (defBody s_law_cell) (R_law_cell K) := by
  have hN : N_law_cell.Nodup := by decide
  exact (pds_cons (pds_if (pdt_cmp op_lt od_lt (pd_var 1) (pd_callB cr_len2 cd_lenS rfl (W.free 83) rfl (pda_cons (pd_var 0) pda_nil))) (pds_one (pds_ret (pd_ixS (pd_var 0) (pd_var 1)))) pds_nil)
    (pds_one (pds_ret (pd_op op_add3 od_add (pd_op op_mul od_mul pd_int (pd_var 1)) pd_int))))
theorem g_law_cell {P : Program} {w : World} {K : PySem.W.Frag} {mg : Str → Option Value} {base : Heap} (W : W0 K mg)  {gg : List D → (D → Prop) → Prop} 
  (hl : ∀ ds Kd, gg ds Kd → ds.length = 2)
  (hp : ∀ ds Kd, gg ds Kd → R_law_cell K { nx := fun _ => Kd .non, rt := fun d _ => Kd d } (init N_law_cell ["_law_script", "_law_k"] ds)) : DefF P w K mg base "_law_cell" ["_law_script", "_law_k"] 1 (SpF gg) :=
  W.def_ 56 44 rfl rfl (fun _ _ _ _ _ _ us hl => match us, hl with | [_, _], _ => rfl) fun f fd F => fn_ok F (C8.fnScope_by (by decide +kernel)) hl fun cdv A outer s H E hr => ⟨_, w_law_cell W  cdv A outer s H E f hr, hp⟩
abbrev N_law_box : List Str := ["_law_cell_here"]
def R_law_box  : TDN := (dLstN (dCons (dCall dMax2 (dCons (dC (.int 0)) (dCons (dOp dSub (dVar 0) (dOp dPow (dC (.int 10)) (dC (.int 18)))) dNil))) (dCons (dOp dMod (dVar 0) (dC (.int 2147483629))) (dCons (dC (.int 0)) dNil))))
theorem w_law_box {P : Program} {w : World} {K : PySem.W.Frag} {mg : Str → Option Value} {base : Heap} (W : W0 K mg)   (cdv : Value) (A : Around) (outer : List Env) (s : Shared) (H : Hp) (E : XK) (f : Addr) (hr : Room 0 (A.deeper (envOfC "_law_box" (defScope s_law_box) s.heap.objs.size f cdv))) :
  PDN (cxOf CX0 P w K mg base N_law_box "_law_box" (defScope s_law_box) f cdv A outer s H E) (retOf (defBody s_law_box)) R_law_box := by
  have hN : N_law_box.Nodup := by decide
  exact (pdn_lst (pda_cons (pd_callB (call_max2 rfl) cd_max2 rfl (W.free 92) rfl (pda_cons pd_int (pda_cons (pd_op op_sub od_sub (pd_var 0) (pd_op op_pow od_pow pd_int pd_int)) pda_nil))) (pda_cons (pd_op op_mod od_mod (pd_var 0) pd_int) (pda_cons pd_int pda_nil))))
theorem g_law_box {P : Program} {w : World} {K : PySem.W.Frag} {mg : Str → Option Value} {base : Heap} (W : W0 K mg)  {gg : List D → (OD → Prop) → Prop} 
  (hl : ∀ ds Kd, gg ds Kd → ds.length = 1)
  (hp : ∀ ds Kd, gg ds Kd → R_law_box (init N_law_box ["_law_cell_here"] ds) fun o _ => Kd o) : DefF P w K mg base "_law_box" ["_law_cell_here"] 1 (SpN gg) :=
  W.def_ 57 45 rfl rfl (fun _ _ _ _ _ _ us hl => match us, hl with | [_], _ => rfl) fun f fd F => fn_okN F (C8.fnScope_by (by decide +kernel)) hl fun cdv A outer s H E hr => ⟨_, w_law_box W  cdv A outer s H E f hr, hp⟩
abbrev N_law_take : List Str := ["_law_box_here", "_law_many", "_law_digit", "_law_mixed"]
def R_law_take  : TDS := (dSeq (dIfS (dB (dOp dGt (dOwnIx 0 (dC (.int 0))) (dC (.int 0)))) (dSeq (dSet 2 (dOp dMod (dOwnIx 0 (dC (.int 0))) (dVar 1)))
  (dSeq (dSetIx 0 (dC (.int 0)) (dOp dDiv (dOwnIx 0 (dC (.int 0))) (dVar 1)))
  (dRet (dVar 2)))) dNext)
  (dSeq (dSetIx 0 (dC (.int 2)) (dOp dAdd (dOwnIx 0 (dC (.int 2))) (dC (.int 1))))
  (dSeq (dSet 3 (dOp dMod (dOp dPow (dOp dAdd (dOp dAdd (dOwnIx 0 (dC (.int 1))) (dOp dMul (dC (.int 9511)) (dOwnIx 0 (dC (.int 2))))) (dC (.int 223))) (dC (.int 5))) (dC (.int 2147483647))))
  (dSeq (dSet 3 (dOp dMod (dOp dPow (dOp dAdd (dVar 3) (dOp dMul (dC (.int 104729)) (dOwnIx 0 (dC (.int 2))))) (dC (.int 3))) (dC (.int 2147483587))))
  (dRet (dOp dMod (dOp dDiv (dVar 3) (dC (.int 16))) (dVar 1)))))))
theorem w_law_take {P : Program} {w : World} {K : PySem.W.Frag} {mg : Str → Option Value} {base : Heap} (W : W0 K mg)   (cdv : Value) (A : Around) (outer : List Env) (s : Shared) (H : Hp) (E : XK) (f : Addr) (hr : Room 0 (A.deeper (envOfC "_law_take" (defScope s_law_take) s.heap.objs.size f cdv))) :
  PDS (cxOf CX0 P w K mg base N_law_take "_law_take" (defScope s_law_take) f cdv A outer s H E).nox (defBody s_law_take) R_law_take := by
  have hN : N_law_take.Nodup := by decide
  exact (pds_cons (pds_if (pdt_cmp op_gt od_gt (pd_ownIx 0 pd_int) pd_int) (pds_cons (pds_set 2 (pd_op op_mod od_mod (pd_ownIx 0 pd_int) (pd_var 1)) hN)
    (pds_cons (pds_setIx 0 (pd_op op_fdiv od_div (pd_ownIx 0 pd_int) (pd_var 1)) pd_int)
    (pds_one (pds_ret (pd_var 2))))) pds_nil)
    (pds_cons (pds_setIx 0 (pd_op op_add3 od_add (pd_ownIx 0 pd_int) pd_int) pd_int)
    (pds_cons (pds_set 3 (pd_op op_mod od_mod (pd_op op_pow od_pow (pd_op op_add3 od_add (pd_op op_add3 od_add (pd_ownIx 0 pd_int) (pd_op op_mul od_mul pd_int (pd_ownIx 0 pd_int))) pd_int) pd_int) pd_int) hN)
    (pds_cons (pds_set 3 (pd_op op_mod od_mod (pd_op op_pow od_pow (pd_op op_add3 od_add (pd_var 3) (pd_op op_mul od_mul pd_int (pd_ownIx 0 pd_int))) pd_int) pd_int) hN)
    (pds_one (pds_ret (pd_op op_mod od_mod (pd_op op_fdiv od_div (pd_var 3) pd_int) (pd_var 1))))))))
theorem g_law_take {P : Program} {w : World} {K : PySem.W.Frag} {mg : Str → Option Value} {base : Heap} (W : W0 K mg)  {gg : TFO} 
  (hl : ∀ o ds Kd, gg o ds Kd → ds.length + 1 = 2)
  (hp : ∀ o ds Kd, gg o ds Kd → R_law_take (endsO Kd) (initO N_law_take ["_law_box_here", "_law_many"] o ds)) : DefF P w K mg base "_law_take" ["_law_box_here", "_law_many"] 1 (SpO gg) :=
  W.def_ 58 46 rfl rfl (fun _ _ _ _ _ _ us hl => match us, hl with | [_, _], _ => rfl) fun f fd F => fn_okO F (C8.fnScope_by (by decide +kernel)) hl fun cdv A outer s H E hr => ⟨_, w_law_take W  cdv A outer s H E f hr, hp⟩
abbrev N_law_names : List Str := ["_law_box_here", "_law_many", "_law_letters", "_law_first", "_law_step", "_law_way", "_law_singles", "_law_stem", "_law_at", "_law_one", "_law_two", "_law_glued", "_law_k"]
def R_law_names (gg_law_take : TFO) : TDS := (dSeq (dSet 2 (dC (.str "abcdefghijklmnopqrstuvwxyz")))
  (dSeq (dAsg (dTup (dCons (dCallO 0 gg_law_take (dCons (dC (.int 26)) dNil)) (dCons (dOp dIx (dLst (dCons (dC (.int 1)) (dCons (dC (.int 3)) (dCons (dC (.int 5)) (dCons (dC (.int 7)) (dCons (dC (.int 9)) (dCons (dC (.int 11)) dNil))))))) (dCallO 0 gg_law_take (dCons (dC (.int 6)) dNil))) (dCons (dCallO 0 gg_law_take (dCons (dC (.int 5)) dNil)) dNil)))) (dgTup 3 (dgCons (dgName 3) (dgCons (dgName 4) (dgCons (dgName 5) dgNil)))))
  (dSeq (dSet 6 (dLc (dItR (dCons (dVar 1) dNil)) (dgName 12) dYes (dOp dIx (dVar 2) (dOp dMod (dOp dAdd (dVar 3) (dOp dMul (dVar 4) (dVar 12))) (dC (.int 26)))) [12]))
  (dSeq (dSet 7 (dJoin (dC (.str "")) (dLcI (dItR (dCons (dC (.int 3)) dNil)) (dgName 12) (dOp dIx (dVar 2) (dCallO 0 gg_law_take (dCons (dC (.int 26)) dNil))) [12])))
  (dSeq (dIfS (dB (dOp dEq (dVar 5) (dC (.int 3)))) (dSeq (dSet 8 (dCallO 0 gg_law_take (dCons (dC (.int 3)) dNil)))
  (dRet (dLc (dItL (dVar 6)) (dgName 9) dYes (dOp dAdd (dOp dAdd (dSl dCut (dVar 7) dNo (dPart (dVar 8))) (dVar 9)) (dSl dCut (dVar 7) (dPart (dVar 8)) dNo)) [9]))) dNext)
  (dSeq (dIfS (dAnd (dB (dOp dEq (dVar 5) (dC (.int 4)))) (dB (dOp dLt (dVar 1) (dC (.int 13))))) (dSeq (dPar 9 10 (dOp dIx (dVar 2) (dVar 3)) (dOp dIx (dVar 2) (dOp dMod (dOp dAdd (dVar 3) (dC (.int 7))) (dC (.int 26)))))
  (dSeq (dSet 11 (dLst (dCons (dVar 9) (dCons (dVar 10) (dCons (dOp dAdd (dVar 9) (dVar 10)) (dCons (dOp dAdd (dVar 10) (dVar 9)) (dCons (dOp dAdd (dVar 9) (dVar 9)) (dCons (dOp dAdd (dVar 10) (dVar 10)) (dCons (dOp dAdd (dOp dAdd (dVar 9) (dVar 10)) (dVar 9)) (dCons (dOp dAdd (dOp dAdd (dVar 10) (dVar 9)) (dVar 10)) dNil))))))))))
  (dSeq (dSet 11 (dOp dAdd (dVar 11) (dLst (dCons (dOp dAdd (dOp dAdd (dVar 9) (dVar 9)) (dVar 10)) (dCons (dOp dAdd (dOp dAdd (dVar 10) (dVar 10)) (dVar 9)) (dCons (dOp dAdd (dOp dAdd (dOp dAdd (dVar 9) (dVar 10)) (dVar 9)) (dVar 10)) (dCons (dOp dAdd (dOp dAdd (dOp dAdd (dVar 10) (dVar 9)) (dVar 10)) (dVar 9)) dNil)))))))
  (dRet (dLc (dItR (dCons (dVar 1) dNil)) (dgName 12) dYes (dOp dIx (dVar 11) (dOp dMod (dOp dAdd (dVar 3) (dOp dMul (dC (.int 5)) (dVar 12))) (dC (.int 12)))) [12]))))) dNext)
  (dSeq (dIfS (dB (dOp dEq (dVar 5) (dC (.int 0)))) (dRet (dVar 6)) dNext)
  (dSeq (dIfS (dB (dOp dEq (dVar 5) (dC (.int 1)))) (dRet (dLc (dItE (dCons (dVar 6) dNil)) (dgTup 2 (dgCons (dgName 12) (dgCons (dgName 9) dgNil))) dYes (dOp dAdd (dSl dCut (dVar 7) dNo (dPart (dOp dAdd (dC (.int 1)) (dOp dMod (dVar 12) (dC (.int 3)))))) (dVar 9)) [12, 9])) dNext)
  (dRet (dLc (dItE (dCons (dVar 6) dNil)) (dgTup 2 (dgCons (dgName 12) (dgCons (dgName 9) dgNil))) dYes (dOp dMulS (dVar 9) (dOp dAdd (dC (.int 1)) (dOp dMod (dVar 12) (dC (.int 4))))) [12, 9]))))))))))
theorem w_law_names {P : Program} {w : World} {K : PySem.W.Frag} {mg : Str → Option Value} {base : Heap} (W : W0 K mg) {gg_law_take : TFO} (c_law_take : DefF P w K mg base "_law_take" ["_law_box_here", "_law_many"] 1 (SpO gg_law_take)) (cdv : Value) (A : Around) (outer : List Env) (s : Shared) (H : Hp) (E : XK) (f : Addr) (hr : Room 1 (A.deeper (envOfC "_law_names" (defScope s_law_names) s.heap.objs.size f cdv))) :
  PDS (cxOf CX0 P w K mg base N_law_names "_law_names" (defScope s_law_names) f cdv A outer s H E).nox (defBody s_law_names) (R_law_names gg_law_take) := by
  have hN : N_law_names.Nodup := by decide
  exact (pds_cons (pds_set 2 pd_str hN)
    (pds_cons (pds_asg (pd_tup (pda_cons (pd_callOF 0 c_law_take hr (by decide) rfl (pda_cons pd_int pda_nil)) (pda_cons (pd_ix (pd_lst (pda_cons pd_int (pda_cons pd_int (pda_cons pd_int (pda_cons pd_int (pda_cons pd_int (pda_cons pd_int pda_nil))))))) (pd_callOF 0 c_law_take hr (by decide) rfl (pda_cons pd_int pda_nil))) (pda_cons (pd_callOF 0 c_law_take hr (by decide) rfl (pda_cons pd_int pda_nil)) pda_nil)))) (pdg_tup rfl (pdgs_cons (pdg_name 3 hN) (pdgs_cons (pdg_name 4 hN) (pdgs_cons (pdg_name 5 hN) pdgs_nil)))))
    (pds_cons (pds_setLc 6 (own := [("_law_k", 12)]) rfl hN (pdi_range1 rfl (W.free 87) (pda_cons (pd_var 1) pda_nil)) (blkOk_by (by kernel_rfl)) (by decide) (fun s H C cl fp => (pdg_name 12 hN)) (fun s H C cl fp => pdts_nil) (fun s H C cl fp => (pd_ix (pd_var 2) (pd_op op_mod od_mod (pd_op op_add3 od_add (pd_var 3) (pd_op op_mul od_mul (pd_var 4) (pd_var 12))) pd_int))) (sw_true rfl rfl rfl (by decide +kernel)))
    (pds_cons (pds_set 7 (pd_join pd_str (pd_lcI (own := [("_law_k", 12)]) rfl hN (pdi_range1 rfl (W.free 87) (pda_cons pd_int pda_nil)) (blkOk_by (by kernel_rfl)) (by decide) (fun s H C cl fp => (pdg_name 12 hN)) (fun s H C cl fp => (pd_ix (pd_var 2) (pd_callOF 0 c_law_take hr (by decide) rfl (pda_cons pd_int pda_nil)))))) hN)
    (pds_cons (pds_if (pdt_cmp (op_eq2 hr.units) od_eq (pd_var 5) pd_int) (pds_cons (pds_set 8 (pd_callOF 0 c_law_take hr (by decide) rfl (pda_cons pd_int pda_nil)) hN)
    (pds_one (pds_ret (pd_lc (own := [("_law_one", 9)]) rfl hN (pdi_list (pd_var 6)) (blkOk_by (by kernel_rfl)) (by decide) (fun s H C cl fp => (pdg_name 9 hN)) (fun s H C cl fp => pdts_nil) (fun s H C cl fp => (pd_op op_add3 od_add (pd_op op_add3 od_add (pd_slice (pd_var 7) pdo_none (pdo_some (pd_var 8))) (pd_var 9)) (pd_slice (pd_var 7) (pdo_some (pd_var 8)) pdo_none))))))) pds_nil)
    (pds_cons (pds_if (PDW.pt (pdw_and (pdt_cmp (op_eq2 hr.units) od_eq (pd_var 5) pd_int) (pdw_and1 (pdt_cmp op_lt od_lt (pd_var 1) pd_int)))) (pds_cons (pds_par 9 10 (pd_ix (pd_var 2) (pd_var 3)) (pd_ix (pd_var 2) (pd_op op_mod od_mod (pd_op op_add3 od_add (pd_var 3) pd_int) pd_int)) rfl hN)
    (pds_cons (pds_set 11 (pd_lst (pda_cons (pd_var 9) (pda_cons (pd_var 10) (pda_cons (pd_op op_add3 od_add (pd_var 9) (pd_var 10)) (pda_cons (pd_op op_add3 od_add (pd_var 10) (pd_var 9)) (pda_cons (pd_op op_add3 od_add (pd_var 9) (pd_var 9)) (pda_cons (pd_op op_add3 od_add (pd_var 10) (pd_var 10)) (pda_cons (pd_op op_add3 od_add (pd_op op_add3 od_add (pd_var 9) (pd_var 10)) (pd_var 9)) (pda_cons (pd_op op_add3 od_add (pd_op op_add3 od_add (pd_var 10) (pd_var 9)) (pd_var 10)) pda_nil))))))))) hN)
    (pds_cons (pds_set 11 (pd_op op_add3 od_add (pd_var 11) (pd_lst (pda_cons (pd_op op_add3 od_add (pd_op op_add3 od_add (pd_var 9) (pd_var 9)) (pd_var 10)) (pda_cons (pd_op op_add3 od_add (pd_op op_add3 od_add (pd_var 10) (pd_var 10)) (pd_var 9)) (pda_cons (pd_op op_add3 od_add (pd_op op_add3 od_add (pd_op op_add3 od_add (pd_var 9) (pd_var 10)) (pd_var 9)) (pd_var 10)) (pda_cons (pd_op op_add3 od_add (pd_op op_add3 od_add (pd_op op_add3 od_add (pd_var 10) (pd_var 9)) (pd_var 10)) (pd_var 9)) pda_nil)))))) hN)
    (pds_one (pds_ret (pd_lc (own := [("_law_k", 12)]) rfl hN (pdi_range1 rfl (W.free 87) (pda_cons (pd_var 1) pda_nil)) (blkOk_by (by kernel_rfl)) (by decide) (fun s H C cl fp => (pdg_name 12 hN)) (fun s H C cl fp => pdts_nil) (fun s H C cl fp => (pd_ix (pd_var 11) (pd_op op_mod od_mod (pd_op op_add3 od_add (pd_var 3) (pd_op op_mul od_mul pd_int (pd_var 12))) pd_int))))))))) pds_nil)
    (pds_cons (pds_if (pdt_cmp (op_eq2 hr.units) od_eq (pd_var 5) pd_int) (pds_one (pds_ret (pd_var 6))) pds_nil)
    (pds_cons (pds_if (pdt_cmp (op_eq2 hr.units) od_eq (pd_var 5) pd_int) (pds_one (pds_ret (pd_lc (own := [("_law_k", 12), ("_law_one", 9)]) rfl hN (pdi_enum rfl (W.free 88) (pda_cons (pd_var 6) pda_nil)) (blkOk_by (by kernel_rfl)) (by decide) (fun s H C cl fp => (pdg_tup rfl (pdgs_cons (pdg_name 12 hN) (pdgs_cons (pdg_name 9 hN) pdgs_nil)))) (fun s H C cl fp => pdts_nil) (fun s H C cl fp => (pd_op op_add3 od_add (pd_slice (pd_var 7) pdo_none (pdo_some (pd_op op_add3 od_add pd_int (pd_op op_mod od_mod (pd_var 12) pd_int)))) (pd_var 9)))))) pds_nil)
    (pds_one (pds_ret (pd_lc (own := [("_law_k", 12), ("_law_one", 9)]) rfl hN (pdi_enum rfl (W.free 88) (pda_cons (pd_var 6) pda_nil)) (blkOk_by (by kernel_rfl)) (by decide) (fun s H C cl fp => (pdg_tup rfl (pdgs_cons (pdg_name 12 hN) (pdgs_cons (pdg_name 9 hN) pdgs_nil)))) (fun s H C cl fp => pdts_nil) (fun s H C cl fp => (pd_op NL.op_mulS od_mulS (pd_var 9) (pd_op op_add3 od_add pd_int (pd_op op_mod od_mod (pd_var 12) pd_int)))))))))))))))
theorem g_law_names {P : Program} {w : World} {K : PySem.W.Frag} {mg : Str → Option Value} {base : Heap} (W : W0 K mg) {gg_law_take : TFO} {gg : TFO} (c_law_take : DefF P w K mg base "_law_take" ["_law_box_here", "_law_many"] 1 (SpO gg_law_take))
  (hl : ∀ o ds Kd, gg o ds Kd → ds.length + 1 = 2)
  (hp : ∀ o ds Kd, gg o ds Kd → (R_law_names gg_law_take) (endsO Kd) (initO N_law_names ["_law_box_here", "_law_many"] o ds)) : DefF P w K mg base "_law_names" ["_law_box_here", "_law_many"] 2 (SpO gg) :=
  W.def_ 59 47 rfl rfl (fun _ _ _ _ _ _ us hl => match us, hl with | [_, _], _ => rfl) fun f fd F => fn_okO F (C8.fnScope_by (by decide +kernel)) hl fun cdv A outer s H E hr => ⟨_, w_law_names W c_law_take cdv A outer s H E f hr, hp⟩
abbrev N_law_piece : List Str := ["_law_box_here"]
def R_law_piece (gg_law_take : TFO) : TDS := (dRet (dOp dMulS (dSl dCut (dC (.str "pq")) dNo (dPart (dCallO 0 gg_law_take (dCons (dC (.int 3)) dNil)))) (dCallO 0 gg_law_take (dCons (dC (.int 3)) dNil))))
theorem w_law_piece {P : Program} {w : World} {K : PySem.W.Frag} {mg : Str → Option Value} {base : Heap} (W : W0 K mg) {gg_law_take : TFO} (c_law_take : DefF P w K mg base "_law_take" ["_law_box_here", "_law_many"] 1 (SpO gg_law_take)) (cdv : Value) (A : Around) (outer : List Env) (s : Shared) (H : Hp) (E : XK) (f : Addr) (hr : Room 1 (A.deeper (envOfC "_law_piece" (defScope s_law_piece) s.heap.objs.size f cdv))) :
  PDS (cxOf CX0 P w K mg base N_law_piece "_law_piece" (defScope s_law_piece) f cdv A outer s H E).nox (defBody s_law_piece) (R_law_piece gg_law_take) := by
  have hN : N_law_piece.Nodup := by decide
  exact (pds_one (pds_ret (pd_op NL.op_mulS od_mulS (pd_slice pd_str pdo_none (pdo_some (pd_callOF 0 c_law_take hr (by decide) rfl (pda_cons pd_int pda_nil)))) (pd_callOF 0 c_law_take hr (by decide) rfl (pda_cons pd_int pda_nil)))))
theorem g_law_piece {P : Program} {w : World} {K : PySem.W.Frag} {mg : Str → Option Value} {base : Heap} (W : W0 K mg) {gg_law_take : TFO} {gg : TFO} (c_law_take : DefF P w K mg base "_law_take" ["_law_box_here", "_law_many"] 1 (SpO gg_law_take))
  (hl : ∀ o ds Kd, gg o ds Kd → ds.length + 1 = 1)
  (hp : ∀ o ds Kd, gg o ds Kd → (R_law_piece gg_law_take) (endsO Kd) (initO N_law_piece ["_law_box_here"] o ds)) : DefF P w K mg base "_law_piece" ["_law_box_here"] 2 (SpO gg) :=
  W.def_ 60 48 rfl rfl (fun _ _ _ _ _ _ us hl => match us, hl with | [_], _ => rfl) fun f fd F => fn_okO F (C8.fnScope_by (by decide +kernel)) hl fun cdv A outer s H E hr => ⟨_, w_law_piece W c_law_take cdv A outer s H E f hr, hp⟩
abbrev N_law_cut : List Str := ["_law_box_here", "_law_most", "_law_many", "_law_segments", "_law_left", "_law_order", "_law_k", "_law_flips", "_law_spacers"]
def R_law_cut (gg_law_take : TFO) (gg_law_piece : TFO) (gg_law_names : TFO) : TDS := (dSeq (dSet 2 (dOp dAdd (dC (.int 1)) (dCallO 0 gg_law_take (dCons (dVar 1) dNil))))
  (dSeq (dSet 3 (dLcI (dItR (dCons (dVar 2) dNil)) (dgName 6) (dCallO 0 gg_law_piece dNil) [6]))
  (dSeq (dParN 4 5 (dListRg (dVar 2)) (dLstN dNil))
  (dSeq (dFor (dItR (dCons (dVar 2) dNil)) (dgName 6) (dDrop (dApp 5 (dPopAt 4 (dCallO 0 gg_law_take (dCons (dOwnLen 4) dNil))))))
  (dSeq (dSet 7 (dLcI (dItR (dCons (dVar 2) dNil)) (dgName 6) (dOp dEq (dCallO 0 gg_law_take (dCons (dC (.int 2)) dNil)) (dC (.int 0))) [6]))
  (dSeq (dSet 8 (dLcI (dItR (dCons (dOp dAdd (dVar 2) (dC (.int 1))) dNil)) (dgName 6) (dCallO 0 gg_law_piece dNil) [6]))
  (dFrz 5 (dRet (dLst (dCons (dVar 3) (dCons (dVar 5) (dCons (dVar 7) (dCons (dVar 8) (dCons (dCallO 0 gg_law_names (dCons (dOp dSub (dVar 2) (dC (.int 1))) dNil)) dNil))))))))))))))
theorem w_law_cut {P : Program} {w : World} {K : PySem.W.Frag} {mg : Str → Option Value} {base : Heap} (W : W0 K mg) {gg_law_take : TFO} {gg_law_piece : TFO} {gg_law_names : TFO} (c_law_take : DefF P w K mg base "_law_take" ["_law_box_here", "_law_many"] 1 (SpO gg_law_take)) (c_law_piece : DefF P w K mg base "_law_piece" ["_law_box_here"] 2 (SpO gg_law_piece)) (c_law_names : DefF P w K mg base "_law_names" ["_law_box_here", "_law_many"] 2 (SpO gg_law_names)) (cdv : Value) (A : Around) (outer : List Env) (s : Shared) (H : Hp) (E : XK) (f : Addr) (hr : Room 2 (A.deeper (envOfC "_law_cut" (defScope s_law_cut) s.heap.objs.size f cdv))) :
  PDS (cxOf CX0 P w K mg base N_law_cut "_law_cut" (defScope s_law_cut) f cdv A outer s H E).nox (defBody s_law_cut) (R_law_cut gg_law_take gg_law_piece gg_law_names) := by
  have hN : N_law_cut.Nodup := by decide
  exact (pds_cons (pds_set 2 (pd_op op_add3 od_add pd_int (pd_callOF 0 c_law_take hr (by decide) rfl (pda_cons (pd_var 1) pda_nil))) hN)
    (pds_cons (pds_setLcI 3 (own := [("_law_k", 6)]) rfl hN (pdi_range1 rfl (W.free 87) (pda_cons (pd_var 2) pda_nil)) (blkOk_by (by kernel_rfl)) (by decide) (fun s H C cl fp => (pdg_name 6 hN)) (fun s H C cl fp => (pd_callOF 0 c_law_piece hr (by decide) rfl pda_nil)) (sw_true rfl rfl rfl (by decide +kernel)))
    (pds_cons (pds_parN 4 5 (pdn_listRg (q2 := ⟨0, 0, 0, 0⟩) rfl rfl (W.free 93) rfl (W.free 87) (pd_var 2)) (pdn_lst pda_nil) rfl hN)
    (pds_cons (pds_for PassesOwn.never (pdi_range1 rfl (W.free 87) (pda_cons (pd_var 2) pda_nil)) (pdg_name 6 hN) (pds_one (pds_expr (pd_append 5 (pd_popAt 4 (pd_callOF 0 c_law_take hr (by decide) rfl (pda_cons (pd_ownLen 4 rfl (W.free 83)) pda_nil)))))))
    (pds_cons (pds_setLcI 7 (own := [("_law_k", 6)]) rfl hN (pdi_range1 rfl (W.free 87) (pda_cons (pd_var 2) pda_nil)) (blkOk_by (by kernel_rfl)) (by decide) (fun s H C cl fp => (pdg_name 6 hN)) (fun s H C cl fp => (pd_cmp (op_eq2 hr.units) od_eq (pd_callOF 0 c_law_take hr (by decide) rfl (pda_cons pd_int pda_nil)) pd_int)) (sw_true rfl rfl rfl (by decide +kernel)))
    (pds_cons (pds_setLcI 8 (own := [("_law_k", 6)]) rfl hN (pdi_range1 rfl (W.free 87) (pda_cons (pd_op op_add3 od_add (pd_var 2) pd_int) pda_nil)) (blkOk_by (by kernel_rfl)) (by decide) (fun s H C cl fp => (pdg_name 6 hN)) (fun s H C cl fp => (pd_callOF 0 c_law_piece hr (by decide) rfl pda_nil)) (sw_true rfl rfl rfl (by decide +kernel)))
    (pds_one (pds_frz1 5 (pds_ret (pd_lst (pda_cons (pd_var 3) (pda_cons (pd_var 5) (pda_cons (pd_var 7) (pda_cons (pd_var 8) (pda_cons (pd_callOF 0 c_law_names hr (by decide) rfl (pda_cons (pd_op op_sub od_sub (pd_var 2) pd_int) pda_nil)) pda_nil)))))))))))))))
theorem g_law_cut {P : Program} {w : World} {K : PySem.W.Frag} {mg : Str → Option Value} {base : Heap} (W : W0 K mg) {gg_law_take : TFO} {gg_law_piece : TFO} {gg_law_names : TFO} {gg : TFO} (c_law_take : DefF P w K mg base "_law_take" ["_law_box_here", "_law_many"] 1 (SpO gg_law_take)) (c_law_piece : DefF P w K mg base "_law_piece" ["_law_box_here"] 2 (SpO gg_law_piece)) (c_law_names : DefF P w K mg base "_law_names" ["_law_box_here", "_law_many"] 2 (SpO gg_law_names))
  (hl : ∀ o ds Kd, gg o ds Kd → ds.length + 1 = 2)
  (hp : ∀ o ds Kd, gg o ds Kd → (R_law_cut gg_law_take gg_law_piece gg_law_names) (endsO Kd) (initO N_law_cut ["_law_box_here", "_law_most"] o ds)) : DefF P w K mg base "_law_cut" ["_law_box_here", "_law_most"] 3 (SpO gg) :=
  W.def_ 61 49 rfl rfl (fun _ _ _ _ _ _ us hl => match us, hl with | [_, _], _ => rfl) fun f fd F => fn_okO F (C8.fnScope_by (by decide +kernel)) hl fun cdv A outer s H E hr => ⟨_, w_law_cut W c_law_take c_law_piece c_law_names cdv A outer s H E f hr, hp⟩
abbrev N_law_turned : List Str := ["_law_text", "_law_small", "_law_table", "_law_sign"]
def R_law_turned  : TDS := (dSeq (dSet 1 (dC (.str "abcdefghijklmnopqrstuvwxyz")))
  (dSeq (dSet 2 (dDict (dOp dAdd (dListZip (dVar 1) (dM0 Txt.upper (dVar 1))) (dListZip (dM0 Txt.upper (dVar 1)) (dVar 1)))))
  (dRet (dJoin (dC (.str "")) (dLc (dItS (dRevS (dVar 0))) (dgName 3) dYes (dDGet (dVar 2) (dVar 3)) [3])))))
theorem w_law_turned {P : Program} {w : World} {K : PySem.W.Frag} {mg : Str → Option Value} {base : Heap} (W : W0 K mg)   (cdv : Value) (A : Around) (outer : List Env) (s : Shared) (H : Hp) (E : XK) (f : Addr) (hr : Room 0 (A.deeper (envOfC "_law_turned" (defScope s_law_turned) s.heap.objs.size f cdv))) :
  PDS (cxOf CX0 P w K mg base N_law_turned "_law_turned" (defScope s_law_turned) f cdv A outer s H E).nox (defBody s_law_turned) R_law_turned := by
  have hN : N_law_turned.Nodup := by decide
  exact (pds_cons (pds_set 1 pd_str hN)
    (pds_cons (pds_set 2 (pd_dict rfl rfl (W.free 96) (pd_op op_add3 od_add (pd_listZip rfl rfl (W.free 93) rfl (W.free 89) (pd_var 1) (pd_upper (pd_var 1))) (pd_listZip rfl rfl (W.free 93) rfl (W.free 89) (pd_upper (pd_var 1)) (pd_var 1)))) hN)
    (pds_one (pds_ret (pd_join pd_str (pd_lc (own := [("_law_sign", 3)]) rfl hN (pdi_str (pd_revS (pd_var 0))) (blkOk_by (by kernel_rfl)) (by decide) (fun s H C cl fp => (pdg_name 3 hN)) (fun s H C cl fp => pdts_nil) (fun s H C cl fp => (pd_dget hr.units1 (pd_var 2) (pd_var 3)))))))))
theorem g_law_turned {P : Program} {w : World} {K : PySem.W.Frag} {mg : Str → Option Value} {base : Heap} (W : W0 K mg)  {gg : List D → (D → Prop) → Prop} 
  (hl : ∀ ds Kd, gg ds Kd → ds.length = 1)
  (hp : ∀ ds Kd, gg ds Kd → R_law_turned { nx := fun _ => Kd .non, rt := fun d _ => Kd d } (init N_law_turned ["_law_text"] ds)) : DefF P w K mg base "_law_turned" ["_law_text"] 1 (SpF gg) :=
  W.def_ 62 50 rfl rfl (fun _ _ _ _ _ _ us hl => match us, hl with | [_], _ => rfl) fun f fd F => fn_ok F (C8.fnScope_by (by decide +kernel)) hl fun cdv A outer s H E hr => ⟨_, w_law_turned W  cdv A outer s H E f hr, hp⟩
abbrev N_law_told_apart : List Str := ["_law_cut_here", "_law_letters", "_law_k", "_law_one"]
def R_law_told_apart  : TDS := (dSeq (dSet 1 (dC (.str "abcdefghijklmn")))
  (dRet (dOp dAdd (dLst (dCons (dLc (dItE (dCons (dOp dIx (dVar 0) (dC (.int 0))) dNil)) (dgTup 2 (dgCons (dgName 2) (dgCons (dgName 3) dgNil))) dYes (dOp dAdd (dOp dIx (dVar 1) (dVar 2)) (dOp dMulS (dOp dIx (dVar 1) (dVar 2)) (dCall dLen (dCons (dVar 3) dNil)))) [2, 3]) dNil)) (dSl dCut (dVar 0) (dPart (dC (.int 1))) dNo))))
theorem w_law_told_apart {P : Program} {w : World} {K : PySem.W.Frag} {mg : Str → Option Value} {base : Heap} (W : W0 K mg)   (cdv : Value) (A : Around) (outer : List Env) (s : Shared) (H : Hp) (E : XK) (f : Addr) (hr : Room 0 (A.deeper (envOfC "_law_told_apart" (defScope s_law_told_apart) s.heap.objs.size f cdv))) :
  PDS (cxOf CX0 P w K mg base N_law_told_apart "_law_told_apart" (defScope s_law_told_apart) f cdv A outer s H E).nox (defBody s_law_told_apart) R_law_told_apart := by
  have hN : N_law_told_apart.Nodup := by decide
  exact (pds_cons (pds_set 1 pd_str hN)
    (pds_one (pds_ret (pd_op op_add3 od_add (pd_lst (pda_cons (pd_lc (own := [("_law_k", 2), ("_law_one", 3)]) rfl hN (pdi_enum rfl (W.free 88) (pda_cons (pd_ix (pd_var 0) pd_int) pda_nil)) (blkOk_by (by kernel_rfl)) (by decide) (fun s H C cl fp => (pdg_tup rfl (pdgs_cons (pdg_name 2 hN) (pdgs_cons (pdg_name 3 hN) pdgs_nil)))) (fun s H C cl fp => pdts_nil) (fun s H C cl fp => (pd_op op_add3 od_add (pd_ix (pd_var 1) (pd_var 2)) (pd_op NL.op_mulS od_mulS (pd_ix (pd_var 1) (pd_var 2)) (pd_callB cr_len2 cd_len rfl (W.free 83) rfl (pda_cons (pd_var 3) pda_nil)))))) pda_nil)) (pd_slice (pd_var 0) (pdo_some pd_int) pdo_none)))))
theorem g_law_told_apart {P : Program} {w : World} {K : PySem.W.Frag} {mg : Str → Option Value} {base : Heap} (W : W0 K mg)  {gg : List D → (D → Prop) → Prop} 
  (hl : ∀ ds Kd, gg ds Kd → ds.length = 1)
  (hp : ∀ ds Kd, gg ds Kd → R_law_told_apart { nx := fun _ => Kd .non, rt := fun d _ => Kd d } (init N_law_told_apart ["_law_cut_here"] ds)) : DefF P w K mg base "_law_told_apart" ["_law_cut_here"] 1 (SpF gg) :=
  W.def_ 63 51 rfl rfl (fun _ _ _ _ _ _ us hl => match us, hl with | [_], _ => rfl) fun f fd F => fn_ok F (C8.fnScope_by (by decide +kernel)) hl fun cdv A outer s H E hr => ⟨_, w_law_told_apart W  cdv A outer s H E f hr, hp⟩
abbrev N_law_folded : List Str := ["_law_text", "_law_sign"]
def R_law_folded  : TDS := (dRet (dCall dSorted (dCons (dLc (dItS (dVar 0)) (dgName 1) dYes (dM0 Txt.lower (dVar 1)) [1]) dNil)))
theorem w_law_folded {P : Program} {w : World} {K : PySem.W.Frag} {mg : Str → Option Value} {base : Heap} (W : W0 K mg)   (cdv : Value) (A : Around) (outer : List Env) (s : Shared) (H : Hp) (E : XK) (f : Addr) (hr : Room 0 (A.deeper (envOfC "_law_folded" (defScope s_law_folded) s.heap.objs.size f cdv))) :
  PDS (cxOf CX0 P w K mg base N_law_folded "_law_folded" (defScope s_law_folded) f cdv A outer s H E).nox (defBody s_law_folded) R_law_folded := by
  have hN : N_law_folded.Nodup := by decide
  exact (pds_one (pds_ret (pd_callB NL.cr_sortedS cd_sorted rfl (W.free 90) rfl (pda_cons (pd_lc (own := [("_law_sign", 1)]) rfl hN (pdi_str (pd_var 0)) (blkOk_by (by kernel_rfl)) (by decide) (fun s H C cl fp => (pdg_name 1 hN)) (fun s H C cl fp => pdts_nil) (fun s H C cl fp => (pd_lower (pd_var 1)))) pda_nil))))
theorem g_law_folded {P : Program} {w : World} {K : PySem.W.Frag} {mg : Str → Option Value} {base : Heap} (W : W0 K mg)  {gg : List D → (D → Prop) → Prop} 
  (hl : ∀ ds Kd, gg ds Kd → ds.length = 1)
  (hp : ∀ ds Kd, gg ds Kd → R_law_folded { nx := fun _ => Kd .non, rt := fun d _ => Kd d } (init N_law_folded ["_law_text"] ds)) : DefF P w K mg base "_law_folded" ["_law_text"] 1 (SpF gg) :=
  W.def_ 64 52 rfl rfl (fun _ _ _ _ _ _ us hl => match us, hl with | [_], _ => rfl) fun f fd F => fn_ok F (C8.fnScope_by (by decide +kernel)) hl fun cdv A outer s H E hr => ⟨_, w_law_folded W  cdv A outer s H E f hr, hp⟩
abbrev N_law_parts : List Str := ["_law_net"]
def R_law_parts (K : PySem.W.Frag) (gg_Strip_init : TFO) (gg_JoinedStrip_row : List D → (D → Prop) → Prop) (gg_JoinedStrip_rings : List D → (D → Prop) → Prop) : TDS := (dRet (dOp dAdd (dLst (dCons (dMake (He.ga K "Strip") gg_Strip_init (dCons (dMeth (m := "row") 0 (He.ga K "JoinedStrip") gg_JoinedStrip_row dNil) dNil)) dNil)) (dMeth (m := "rings") 0 (He.ga K "JoinedStrip") gg_JoinedStrip_rings dNil)))
theorem w_law_parts {P : Program} {w : World} {K : PySem.W.Frag} {mg : Str → Option Value} {base : Heap} (W : W0 K mg) {gg_Strip_init : TFO} {gg_JoinedStrip_row : List D → (D → Prop) → Prop} {gg_JoinedStrip_rings : List D → (D → Prop) → Prop} (c_Strip_init : MakeF P w K mg base (He.ga K "Strip") "Strip" ["self", "row"] 6 (SpO gg_Strip_init)) (c_JoinedStrip_row : MethF P w K mg base (He.ga K "JoinedStrip") "row" ["self"] 1 (SpF gg_JoinedStrip_row)) (c_JoinedStrip_rings : MethF P w K mg base (He.ga K "JoinedStrip") "rings" ["self"] 1 (SpF gg_JoinedStrip_rings)) (cdv : Value) (A : Around) (outer : List Env) (s : Shared) (H : Hp) (E : XK) (f : Addr) (hr : Room 7 (A.deeper (envOfC "_law_parts" (defScope s_law_parts) s.heap.objs.size f cdv))) :
  PDS (cxOf CX0 P w K mg base N_law_parts "_law_parts" (defScope s_law_parts) f cdv A outer s H E).nox (defBody s_law_parts) (R_law_parts K gg_Strip_init gg_JoinedStrip_row gg_JoinedStrip_rings) := by
  have hN : N_law_parts.Nodup := by decide
  exact (pds_one (pds_ret (pd_op op_add3 od_add (pd_lst (pda_cons (pd_makeF c_Strip_init hr (by decide) rfl (pda_cons (pd_methF0 0 (W.cls 66) c_JoinedStrip_row hr (by decide)) pda_nil)) pda_nil)) (pd_methF0 0 (W.cls 66) c_JoinedStrip_rings hr (by decide)))))
theorem g_law_parts {P : Program} {w : World} {K : PySem.W.Frag} {mg : Str → Option Value} {base : Heap} (W : W0 K mg) {gg_Strip_init : TFO} {gg_JoinedStrip_row : List D → (D → Prop) → Prop} {gg_JoinedStrip_rings : List D → (D → Prop) → Prop} {gg : List D → (D → Prop) → Prop} (c_Strip_init : MakeF P w K mg base (He.ga K "Strip") "Strip" ["self", "row"] 6 (SpO gg_Strip_init)) (c_JoinedStrip_row : MethF P w K mg base (He.ga K "JoinedStrip") "row" ["self"] 1 (SpF gg_JoinedStrip_row)) (c_JoinedStrip_rings : MethF P w K mg base (He.ga K "JoinedStrip") "rings" ["self"] 1 (SpF gg_JoinedStrip_rings))
  (hl : ∀ ds Kd, gg ds Kd → ds.length = 1)
  (hp : ∀ ds Kd, gg ds Kd → (R_law_parts K gg_Strip_init gg_JoinedStrip_row gg_JoinedStrip_rings) { nx := fun _ => Kd .non, rt := fun d _ => Kd d } (init N_law_parts ["_law_net"] ds)) : DefF P w K mg base "_law_parts" ["_law_net"] 8 (SpF gg) :=
  W.def_ 65 53 rfl rfl (fun _ _ _ _ _ _ us hl => match us, hl with | [_], _ => rfl) fun f fd F => fn_ok F (C8.fnScope_by (by decide +kernel)) hl fun cdv A outer s H E hr => ⟨_, w_law_parts W c_Strip_init c_JoinedStrip_row c_JoinedStrip_rings cdv A outer s H E f hr, hp⟩
abbrev N_law_right : List Str := ["_law_cut_here", "_law_net", "_law_whole", "_law_some", "_law_rows", "_law_holds", "_law_text", "_law_part", "_law_k"]
def R_law_right (K : PySem.W.Frag) (gg_join_all : List D → (D → Prop) → Prop) (gg_scramble : List D → (D → Prop) → Prop) (gg_law_parts : List D → (D → Prop) → Prop) (gg_Strip_len : List D → (D → Prop) → Prop) (gg_Ring_len : List D → (D → Prop) → Prop) (gg_Strip_row : List D → (D → Prop) → Prop) (gg_Ring_row : List D → (D → Prop) → Prop) (gg_law_folded : List D → (D → Prop) → Prop) (gg_contains : List D → (D → Prop) → Prop) (gg_law_turned : List D → (D → Prop) → Prop) (gg_Ring_str : List D → (D → Prop) → Prop) : TDS := (dSeq (dSet 1 (dCall gg_join_all (dCons (dCall gg_scramble (dCons (dOp dIx (dVar 0) (dC (.int 0))) (dCons (dOp dIx (dVar 0) (dC (.int 1))) (dCons (dOp dIx (dVar 0) (dC (.int 2))) (dCons (dOp dIx (dVar 0) (dC (.int 3))) (dCons (dOp dIx (dVar 0) (dC (.int 4))) dNil)))))) dNil)))
  (dSeq (dAsg (dTup (dCons (dJoin (dC (.str "")) (dOp dIx (dVar 0) (dC (.int 0)))) (dCons (dCall gg_law_parts (dCons (dVar 1) dNil)) dNil))) (dgTup 2 (dgCons (dgName 2) (dgCons (dgName 3) dgNil))))
  (dSeq (dIfS (dB (dOp dNe (dLc (dItL (dVar 3)) (dgName 7) (dB (dOp dGt (dEither (dCall (dLenO (He.ga K "Strip") gg_Strip_len) (dCons (dVar 7) dNil)) (dCall (dLenO (He.ga K "Ring") gg_Ring_len) (dCons (dVar 7) dNil))) (dC (.int 0)))) (dVar 7) [7]) (dLst dNil))) (dRet (dC .non)) dNext)
  (dSeq (dSet 4 (dLc (dItL (dVar 3)) (dgName 7) dYes (dOp dIx (dEither (dMeth (m := "row") 7 (He.ga K "Strip") gg_Strip_row dNil) (dMeth (m := "row") 7 (He.ga K "Ring") gg_Ring_row dNil)) (dC (.int 0))) [7]))
  (dSeq (dIfS (dB (dOp dNe (dCall gg_law_folded (dCons (dJoin (dC (.str "")) (dVar 4)) dNil)) (dCall gg_law_folded (dCons (dOp dAdd (dVar 2) (dJoin (dC (.str "")) (dOp dIx (dVar 0) (dC (.int 3))))) dNil)))) (dRet (dC .non)) dNext)
  (dSeq (dSet 5 (dLc (dItE (dCons (dVar 3) dNil)) (dgTup 2 (dgCons (dgName 8) (dgCons (dgName 7) dgNil))) (dB (dCall gg_contains (dCons (dVar 7) (dCons (dVar 2) dNil)))) (dVar 8) [8, 7]))
  (dSeq (dIfS (dB (dOp dNe (dCall dLen (dCons (dVar 5) dNil)) (dC (.int 1)))) (dRet (dC .non)) dNext)
  (dSeq (dSet 6 (dOp dIx (dVar 4) (dOp dIx (dVar 5) (dC (.int 0)))))
  (dSeq (dIfS (dB (dIsiC (He.ga K "Strip") (He.ga K "Ring") (He.ga K "Ring") (dOp dIx (dVar 3) (dOp dIx (dVar 5) (dC (.int 0)))))) (dSet 6 (dOp dAdd (dVar 6) (dVar 6))) dNext)
  (dSeq (dIfS (dAnd (dB (dOp dNotInText (dVar 2) (dVar 6))) (dB (dOp dNotInText (dVar 2) (dCall gg_law_turned (dCons (dVar 6) dNil))))) (dRet (dC .non)) dNext)
  (dRet (dCall dSorted (dCons (dLc (dItL (dSl dCut (dVar 3) (dPart (dC (.int 1))) dNo)) (dgName 7) dYes (dCall (dStrO (He.ga K "Ring") gg_Ring_str) (dCons (dVar 7) dNil)) [7]) dNil)))))))))))))
theorem w_law_right {P : Program} {w : World} {K : PySem.W.Frag} {mg : Str → Option Value} {base : Heap} (W : W0 K mg) {gg_join_all : List D → (D → Prop) → Prop} {gg_scramble : List D → (D → Prop) → Prop} {gg_law_parts : List D → (D → Prop) → Prop} {gg_Strip_len : List D → (D → Prop) → Prop} {gg_Ring_len : List D → (D → Prop) → Prop} {gg_Strip_row : List D → (D → Prop) → Prop} {gg_Ring_row : List D → (D → Prop) → Prop} {gg_law_folded : List D → (D → Prop) → Prop} {gg_contains : List D → (D → Prop) → Prop} {gg_law_turned : List D → (D → Prop) → Prop} {gg_Ring_str : List D → (D → Prop) → Prop} (c_join_all : DefF P w K mg base "join_all" ["strip"] 10 (SpF gg_join_all)) (c_scramble : DefF P w K mg base "scramble" ["segments", "order", "flips", "spacers", "names"] 8 (SpF gg_scramble)) (c_law_parts : DefF P w K mg base "_law_parts" ["_law_net"] 8 (SpF gg_law_parts)) (c_Strip_len : MethF P w K mg base (He.ga K "Strip") "__len__" ["self"] 1 (SpF gg_Strip_len)) (c_Ring_len : MethF P w K mg base (He.ga K "Ring") "__len__" ["self"] 1 (SpF gg_Ring_len)) (c_Strip_row : MethF P w K mg base (He.ga K "Strip") "row" ["self"] 1 (SpF gg_Strip_row)) (c_Ring_row : MethF P w K mg base (He.ga K "Ring") "row" ["self"] 1 (SpF gg_Ring_row)) (c_law_folded : DefF P w K mg base "_law_folded" ["_law_text"] 1 (SpF gg_law_folded)) (c_contains : DefF P w K mg base "contains" ["part", "piece"] 3 (SpF gg_contains)) (c_law_turned : DefF P w K mg base "_law_turned" ["_law_text"] 1 (SpF gg_law_turned)) (c_Ring_str : MethF P w K mg base (He.ga K "Ring") "__str__" ["self"] 4 (SpF gg_Ring_str)) (cdv : Value) (A : Around) (outer : List Env) (s : Shared) (H : Hp) (E : XK) (f : Addr) (hr : Room 10 (A.deeper (envOfC "_law_right" (defScope s_law_right) s.heap.objs.size f cdv))) :
  PDS (cxOf CX0 P w K mg base N_law_right "_law_right" (defScope s_law_right) f cdv A outer s H E).nox (defBody s_law_right) (R_law_right K gg_join_all gg_scramble gg_law_parts gg_Strip_len gg_Ring_len gg_Strip_row gg_Ring_row gg_law_folded gg_contains gg_law_turned gg_Ring_str) := by
  have hN : N_law_right.Nodup := by decide
  exact (pds_cons (pds_set 1 (pd_callF c_join_all hr (by decide) rfl (pda_cons (pd_callF c_scramble hr (by decide) rfl (pda_cons (pd_ix (pd_var 0) pd_int) (pda_cons (pd_ix (pd_var 0) pd_int) (pda_cons (pd_ix (pd_var 0) pd_int) (pda_cons (pd_ix (pd_var 0) pd_int) (pda_cons (pd_ix (pd_var 0) pd_int) pda_nil)))))) pda_nil)) hN)
    (pds_cons (pds_asg (pd_tup (pda_cons (pd_join pd_str (pd_ix (pd_var 0) pd_int)) (pda_cons (pd_callF c_law_parts hr (by decide) rfl (pda_cons (pd_var 1) pda_nil)) pda_nil))) (pdg_tup rfl (pdgs_cons (pdg_name 2 hN) (pdgs_cons (pdg_name 3 hN) pdgs_nil))))
    (pds_cons (pds_if (pdt_cmp (op_ne2 hr.units) od_ne (pd_lc (own := [("_law_part", 7)]) rfl hN (pdi_list (pd_var 3)) (blkOk_by (by kernel_rfl)) (by decide) (fun s H C cl fp => (pdg_name 7 hN)) (fun s H C cl fp => (pdts_one (pdt_cmp op_gt od_gt (pd_either (pd_lenOF c_Strip_len hr (by decide) rfl (W.free 83) (pda_cons (pd_var 7) pda_nil)) (pd_lenOF c_Ring_len hr (by decide) rfl (W.free 83) (pda_cons (pd_var 7) pda_nil))) pd_int))) (fun s H C cl fp => (pd_var 7))) (pd_lst pda_nil)) (pds_one (pds_ret pd_non)) pds_nil)
    (pds_cons (pds_setLc 4 (own := [("_law_part", 7)]) rfl hN (pdi_list (pd_var 3)) (blkOk_by (by kernel_rfl)) (by decide) (fun s H C cl fp => (pdg_name 7 hN)) (fun s H C cl fp => pdts_nil) (fun s H C cl fp => (pd_ix (pd_either (pd_methF0 7 (W.cls 57) c_Strip_row hr (by decide)) (pd_methF0 7 (W.cls 62) c_Ring_row hr (by decide))) pd_int)) (sw_true rfl rfl rfl (by decide +kernel)))
    (pds_cons (pds_if (pdt_cmp (op_ne2 hr.units) od_ne (pd_callF c_law_folded hr (by decide) rfl (pda_cons (pd_join pd_str (pd_var 4)) pda_nil)) (pd_callF c_law_folded hr (by decide) rfl (pda_cons (pd_op op_add3 od_add (pd_var 2) (pd_join pd_str (pd_ix (pd_var 0) pd_int))) pda_nil))) (pds_one (pds_ret pd_non)) pds_nil)
    (pds_cons (pds_setLc 5 (own := [("_law_k", 8), ("_law_part", 7)]) rfl hN (pdi_enum rfl (W.free 88) (pda_cons (pd_var 3) pda_nil)) (blkOk_by (by kernel_rfl)) (by decide) (fun s H C cl fp => (pdg_tup rfl (pdgs_cons (pdg_name 8 hN) (pdgs_cons (pdg_name 7 hN) pdgs_nil)))) (fun s H C cl fp => (pdts_one (pdt_val (pd_callF c_contains hr (by decide) rfl (pda_cons (pd_var 7) (pda_cons (pd_var 2) pda_nil)))))) (fun s H C cl fp => (pd_var 8)) (sw_true rfl rfl rfl (by decide +kernel)))
    (pds_cons (pds_if (pdt_cmp (op_ne2 hr.units) od_ne (pd_callB cr_len2 cd_len rfl (W.free 83) rfl (pda_cons (pd_var 5) pda_nil)) pd_int) (pds_one (pds_ret pd_non)) pds_nil)
    (pds_cons (pds_set 6 (pd_ix (pd_var 4) (pd_ix (pd_var 5) pd_int)) hN)
    (pds_cons (pds_if (pdt_val (pd_isiC (W.two 57 62 rfl rfl) (.inr rfl) rfl (W.free 84) rfl (W.glo 61) (pd_ix (pd_var 3) (pd_ix (pd_var 5) pd_int)))) (pds_one (pds_set 6 (pd_op op_add3 od_add (pd_var 6) (pd_var 6)) hN)) pds_nil)
    (pds_cons (pds_if (PDW.pt (pdw_and (pdt_cmp op_notin_str od_notInText (pd_var 2) (pd_var 6)) (pdw_and1 (pdt_cmp op_notin_str od_notInText (pd_var 2) (pd_callF c_law_turned hr (by decide) rfl (pda_cons (pd_var 6) pda_nil)))))) (pds_one (pds_ret pd_non)) pds_nil)
    (pds_one (pds_ret (pd_callB NL.cr_sortedS cd_sorted rfl (W.free 90) rfl (pda_cons (pd_lc (own := [("_law_part", 7)]) rfl hN (pdi_list (pd_slice (pd_var 3) (pdo_some pd_int) pdo_none)) (blkOk_by (by kernel_rfl)) (by decide) (fun s H C cl fp => (pdg_name 7 hN)) (fun s H C cl fp => pdts_nil) (fun s H C cl fp => (pd_strOF c_Ring_str hr (by decide) rfl (W.free 98) (pda_cons (pd_var 7) pda_nil)))) pda_nil))))))))))))))
theorem g_law_right {P : Program} {w : World} {K : PySem.W.Frag} {mg : Str → Option Value} {base : Heap} (W : W0 K mg) {gg_join_all : List D → (D → Prop) → Prop} {gg_scramble : List D → (D → Prop) → Prop} {gg_law_parts : List D → (D → Prop) → Prop} {gg_Strip_len : List D → (D → Prop) → Prop} {gg_Ring_len : List D → (D → Prop) → Prop} {gg_Strip_row : List D → (D → Prop) → Prop} {gg_Ring_row : List D → (D → Prop) → Prop} {gg_law_folded : List D → (D → Prop) → Prop} {gg_contains : List D → (D → Prop) → Prop} {gg_law_turned : List D → (D → Prop) → Prop} {gg_Ring_str : List D → (D → Prop) → Prop} {gg : List D → (D → Prop) → Prop} (c_join_all : DefF P w K mg base "join_all" ["strip"] 10 (SpF gg_join_all)) (c_scramble : DefF P w K mg base "scramble" ["segments", "order", "flips", "spacers", "names"] 8 (SpF gg_scramble)) (c_law_parts : DefF P w K mg base "_law_parts" ["_law_net"] 8 (SpF gg_law_parts)) (c_Strip_len : MethF P w K mg base (He.ga K "Strip") "__len__" ["self"] 1 (SpF gg_Strip_len)) (c_Ring_len : MethF P w K mg base (He.ga K "Ring") "__len__" ["self"] 1 (SpF gg_Ring_len)) (c_Strip_row : MethF P w K mg base (He.ga K "Strip") "row" ["self"] 1 (SpF gg_Strip_row)) (c_Ring_row : MethF P w K mg base (He.ga K "Ring") "row" ["self"] 1 (SpF gg_Ring_row)) (c_law_folded : DefF P w K mg base "_law_folded" ["_law_text"] 1 (SpF gg_law_folded)) (c_contains : DefF P w K mg base "contains" ["part", "piece"] 3 (SpF gg_contains)) (c_law_turned : DefF P w K mg base "_law_turned" ["_law_text"] 1 (SpF gg_law_turned)) (c_Ring_str : MethF P w K mg base (He.ga K "Ring") "__str__" ["self"] 4 (SpF gg_Ring_str))
  (hl : ∀ ds Kd, gg ds Kd → ds.length = 1)
  (hp : ∀ ds Kd, gg ds Kd → (R_law_right K gg_join_all gg_scramble gg_law_parts gg_Strip_len gg_Ring_len gg_Strip_row gg_Ring_row gg_law_folded gg_contains gg_law_turned gg_Ring_str) { nx := fun _ => Kd .non, rt := fun d _ => Kd d } (init N_law_right ["_law_cut_here"] ds)) : DefF P w K mg base "_law_right" ["_law_cut_here"] 11 (SpF gg) :=
  W.def_ 66 54 rfl rfl (fun _ _ _ _ _ _ us hl => match us, hl with | [_], _ => rfl) fun f fd F => fn_ok F (C8.fnScope_by (by decide +kernel)) hl fun cdv A outer s H E hr => ⟨_, w_law_right W c_join_all c_scramble c_law_parts c_Strip_len c_Ring_len c_Strip_row c_Ring_row c_law_folded c_contains c_law_turned c_Ring_str cdv A outer s H E f hr, hp⟩
abbrev N_law : List Str := ["_law_script", "_law_k", "_law_box_here", "_law_cut_here", "_law_rings", "_law_back", "_law_other", "_law_one", "_law_turn"]
def R_law (K : PySem.W.Frag) (gg_law_box : List D → (OD → Prop) → Prop) (gg_law_cell : List D → (D → Prop) → Prop) (gg_law_told_apart : List D → (D → Prop) → Prop) (gg_law_cut : TFO) (gg_law_right : List D → (D → Prop) → Prop) (gg_law_turned : List D → (D → Prop) → Prop) : TDS := (dSeq (dFor (dItR (dCons (dCall dMax2 (dCons (dC (.int 2)) (dCons (dCall dMin2 (dCons (dC (.int 5)) (dCons (dCall (dLenS K) (dCons (dVar 0) dNil)) dNil))) dNil))) dNil)) (dgName 1) (dSeq (dSetN 2 (dCallN gg_law_box (dCons (dCall gg_law_cell (dCons (dVar 0) (dCons (dVar 1) dNil))) dNil)))
  (dSeq (dSet 3 (dCall gg_law_told_apart (dCons (dCallO 2 gg_law_cut (dCons (dC (.int 13)) dNil)) dNil)))
  (dSeq (dSet 4 (dCall gg_law_right (dCons (dVar 3) dNil)))
  (dSeq (dSet 5 (dLc (dItL (dRev (dOp dIx (dVar 3) (dC (.int 3))))) (dgName 7) dYes (dCall gg_law_turned (dCons (dVar 7) dNil)) [7]))
  (dSeq (dSet 6 (dLst (dCons (dOp dIx (dVar 3) (dC (.int 0))) (dCons (dRev (dOp dIx (dVar 3) (dC (.int 1)))) (dCons (dLc (dItL (dOp dIx (dVar 3) (dC (.int 2)))) (dgName 8) dYes (dNotV (dVar 8)) [8]) (dCons (dVar 5) (dCons (dOp dIx (dVar 3) (dC (.int 4))) dNil)))))))
  (dIfS (dOr (dB (dOp dIsN (dVar 4) (dC .non))) (dB (dOp dNe (dCall gg_law_right (dCons (dVar 6) dNil)) (dVar 4)))) (dRet (dC (.bl false))) dNext)))))))
  (dRet (dC (.bl true))))
theorem w_law {P : Program} {w : World} {K : PySem.W.Frag} {mg : Str → Option Value} {base : Heap} (W : W0 K mg) {gg_law_box : List D → (OD → Prop) → Prop} {gg_law_cell : List D → (D → Prop) → Prop} {gg_law_told_apart : List D → (D → Prop) → Prop} {gg_law_cut : TFO} {gg_law_right : List D → (D → Prop) → Prop} {gg_law_turned : List D → (D → Prop) → Prop} (c_law_box : DefF P w K mg base "_law_box" ["_law_cell_here"] 1 (SpN gg_law_box)) (c_law_cell : DefF P w K mg base "_law_cell" ["_law_script", "_law_k"] 1 (SpF gg_law_cell)) (c_law_told_apart : DefF P w K mg base "_law_told_apart" ["_law_cut_here"] 1 (SpF gg_law_told_apart)) (c_law_cut : DefF P w K mg base "_law_cut" ["_law_box_here", "_law_most"] 3 (SpO gg_law_cut)) (c_law_right : DefF P w K mg base "_law_right" ["_law_cut_here"] 11 (SpF gg_law_right)) (c_law_turned : DefF P w K mg base "_law_turned" ["_law_text"] 1 (SpF gg_law_turned)) (cdv : Value) (A : Around) (outer : List Env) (s : Shared) (H : Hp) (E : XK) (f : Addr) (hr : Room 11 (A.deeper (envOfC "law" (defScope s_law) s.heap.objs.size f cdv))) :
  PDS (cxOf CX0 P w K mg base N_law "law" (defScope s_law) f cdv A outer s H E).nox (defBody s_law) (R_law K gg_law_box gg_law_cell gg_law_told_apart gg_law_cut gg_law_right gg_law_turned) := by
  have hN : N_law.Nodup := by decide
  exact (pds_cons (pds_for PassesOwn.never (pdi_range1 rfl (W.free 87) (pda_cons (pd_callB (call_max2 rfl) cd_max2 rfl (W.free 92) rfl (pda_cons pd_int (pda_cons (pd_callB (call_min2 rfl) cd_min2 rfl (W.free 91) rfl (pda_cons pd_int (pda_cons (pd_callB cr_len2 cd_lenS rfl (W.free 83) rfl (pda_cons (pd_var 0) pda_nil)) pda_nil))) pda_nil))) pda_nil)) (pdg_name 1 hN) (pds_cons (pds_setN 2 (pdn_callF c_law_box hr (by decide) rfl (pda_cons (pd_callF c_law_cell hr (by decide) rfl (pda_cons (pd_var 0) (pda_cons (pd_var 1) pda_nil))) pda_nil)) hN)
    (pds_cons (pds_set 3 (pd_callF c_law_told_apart hr (by decide) rfl (pda_cons (pd_callOF 2 c_law_cut hr (by decide) rfl (pda_cons pd_int pda_nil)) pda_nil)) hN)
    (pds_cons (pds_set 4 (pd_callF c_law_right hr (by decide) rfl (pda_cons (pd_var 3) pda_nil)) hN)
    (pds_cons (pds_setLc 5 (own := [("_law_one", 7)]) rfl hN (pdi_list (pd_revL (pd_ix (pd_var 3) pd_int))) (blkOk_by (by kernel_rfl)) (by decide) (fun s H C cl fp => (pdg_name 7 hN)) (fun s H C cl fp => pdts_nil) (fun s H C cl fp => (pd_callF c_law_turned hr (by decide) rfl (pda_cons (pd_var 7) pda_nil))) (sw_true rfl rfl rfl (by decide +kernel)))
    (pds_cons (pds_set 6 (pd_lst (pda_cons (pd_ix (pd_var 3) pd_int) (pda_cons (pd_revL (pd_ix (pd_var 3) pd_int)) (pda_cons (pd_lc (own := [("_law_turn", 8)]) rfl hN (pdi_list (pd_ix (pd_var 3) pd_int)) (blkOk_by (by kernel_rfl)) (by decide) (fun s H C cl fp => (pdg_name 8 hN)) (fun s H C cl fp => pdts_nil) (fun s H C cl fp => (pd_not (pd_var 8)))) (pda_cons (pd_var 5) (pda_cons (pd_ix (pd_var 3) pd_int) pda_nil)))))) hN)
    (pds_one (pds_if (PDW.pt (pdw_or (pdt_cmp op_isN od_isN (pd_var 4) pd_non) (pdw_or1 (pdt_cmp (op_ne2 hr.units) od_ne (pd_callF c_law_right hr (by decide) rfl (pda_cons (pd_var 6) pda_nil)) (pd_var 4))))) (pds_one (pds_ret pd_bl)) pds_nil))))))))
    (pds_one (pds_ret pd_bl)))
theorem g_law {P : Program} {w : World} {K : PySem.W.Frag} {mg : Str → Option Value} {base : Heap} (W : W0 K mg) {gg_law_box : List D → (OD → Prop) → Prop} {gg_law_cell : List D → (D → Prop) → Prop} {gg_law_told_apart : List D → (D → Prop) → Prop} {gg_law_cut : TFO} {gg_law_right : List D → (D → Prop) → Prop} {gg_law_turned : List D → (D → Prop) → Prop} {gg : List D → (D → Prop) → Prop} (c_law_box : DefF P w K mg base "_law_box" ["_law_cell_here"] 1 (SpN gg_law_box)) (c_law_cell : DefF P w K mg base "_law_cell" ["_law_script", "_law_k"] 1 (SpF gg_law_cell)) (c_law_told_apart : DefF P w K mg base "_law_told_apart" ["_law_cut_here"] 1 (SpF gg_law_told_apart)) (c_law_cut : DefF P w K mg base "_law_cut" ["_law_box_here", "_law_most"] 3 (SpO gg_law_cut)) (c_law_right : DefF P w K mg base "_law_right" ["_law_cut_here"] 11 (SpF gg_law_right)) (c_law_turned : DefF P w K mg base "_law_turned" ["_law_text"] 1 (SpF gg_law_turned))
  (hl : ∀ ds Kd, gg ds Kd → ds.length = 1)
  (hp : ∀ ds Kd, gg ds Kd → (R_law K gg_law_box gg_law_cell gg_law_told_apart gg_law_cut gg_law_right gg_law_turned) { nx := fun _ => Kd .non, rt := fun d _ => Kd d } (init N_law ["_law_script"] ds)) : DefF P w K mg base "law" ["_law_script"] 12 (SpF gg) :=
  W.def_ 67 55 rfl rfl (fun _ _ _ _ _ _ us hl => match us, hl with | [_], _ => rfl) fun f fd F => fn_ok F (C8.fnScope_by (by decide +kernel)) hl fun cdv A outer s H E hr => ⟨_, w_law W c_law_box c_law_cell c_law_told_apart c_law_cut c_law_right c_law_turned cdv A outer s H E f hr, hp⟩
end MS
set_option maxHeartbeats 4000000
/-! plain words: texts, items, rows -/
namespace MS
open PySem PySem.Spec PyProof.Rows L2 DL
def tx (a : List Nat) : Str := ⟨a.toArray⟩
theorem tx_len (a : List Nat) : (tx a).length = a.length := by
  show a.toArray.size = _
  simp
theorem tx_list (a : List Nat) : (tx a).cps.toList = a := by simp [tx]
theorem tx_app (a b : List Nat) : tx a ++ tx b = tx (a ++ b) := by
  show Str.mk _ = Str.mk _
  simp [tx]
theorem tx_inj {a b : List Nat} (h : tx a = tx b) : a = b := by
  have z := congrArg (fun s : Str => s.cps.toList) h
  simpa [tx] using z
theorem tx_of (s : Str) : s = tx s.cps.toList := by
  cases s
  simp [tx]
def isL (c : Nat) : Bool := decide (97 ≤ c ∧ c ≤ 122)
def isU (c : Nat) : Bool := decide (65 ≤ c ∧ c ≤ 90)
def sw (c : Nat) : Nat := if 65 ≤ c ∧ c ≤ 90 then c + 32 else if 97 ≤ c ∧ c ≤ 122 then c - 32 else c
def fl (a : List Nat) : List Nat := a.reverse.map sw
def Lt (a : List Nat) : Prop := ∀ c ∈ a, isL c = true ∨ isU c = true
def okP (a : List Nat) : Prop := a.length ≤ 1000 ∧ Lt a
def okN (a : List Nat) : Prop := 1 ≤ a.length ∧ a.length ≤ 4 ∧ ∀ c ∈ a, isL c = true
theorem let_iff {c : Nat} : (isL c = true ∨ isU c = true) ↔ (97 ≤ c ∧ c ≤ 122) ∨ (65 ≤ c ∧ c ≤ 90) := by
  unfold isL isU
  rw [decide_eq_true_eq, decide_eq_true_eq]
theorem sw_up {c : Nat} (h : 65 ≤ c ∧ c ≤ 90) : sw c = c + 32 := if_pos h
theorem sw_lo {c : Nat} (h : 97 ≤ c ∧ c ≤ 122) : sw c = c - 32 := by
  unfold sw
  rw [if_neg (by omega), if_pos h]
theorem sw_let {c : Nat} (h : isL c = true ∨ isU c = true) : isL (sw c) = true ∨ isU (sw c) = true := by
  rw [let_iff] at *
  rcases h with h | h
  · rw [sw_lo h]; omega
  · rw [sw_up h]; omega
theorem sw_sw {c : Nat} (h : isL c = true ∨ isU c = true) : sw (sw c) = c := by
  rw [let_iff] at h
  rcases h with h | h
  · rw [sw_lo h, sw_up (by omega)]; omega
  · rw [sw_up h, sw_lo (by omega)]; omega
theorem fl_len (a : List Nat) : (fl a).length = a.length := by simp [fl]
theorem Lt.fl {a : List Nat} (h : Lt a) : Lt (fl a) := fun c hc => by
  obtain ⟨d, hd, rfl⟩ := List.mem_map.mp hc
  exact sw_let (h d (List.mem_reverse.mp hd))
theorem Lt.app {a b : List Nat} (h : Lt a) (g : Lt b) : Lt (a ++ b) := fun c hc => (List.mem_append.mp hc).elim (h c) (g c)
theorem Lt.left {a b : List Nat} (h : Lt (a ++ b)) : Lt a := fun c hc => h c (List.mem_append_left _ hc)
theorem Lt.right {a b : List Nat} (h : Lt (a ++ b)) : Lt b := fun c hc => h c (List.mem_append_right _ hc)
theorem fl_app (a b : List Nat) : fl (a ++ b) = fl b ++ fl a := by simp [fl]
theorem fl_fl {a : List Nat} (h : Lt a) : fl (fl a) = a := by
  unfold fl
  rw [← List.map_reverse, List.reverse_reverse, List.map_map]
  have : ∀ c ∈ a, (sw ∘ sw) c = c := fun c hc => sw_sw (h c hc)
  rw [List.map_congr_left this]
  simp
theorem okP.fl {a : List Nat} (h : okP a) : okP (fl a) := ⟨by rw [fl_len]; exact h.1, h.2.fl⟩
theorem Lt.asc {a : List Nat} (h : Lt a) : ∀ c ∈ a, c < 128 := fun c hc => by
  have := h c hc
  simp only [isL, isU, decide_eq_true_eq] at this
  omega
theorem isUp_ascii : ∀ c, c < 128 → Unicode.isUpper c = isU c := by decide +kernel
theorem isLo_ascii : ∀ c, c < 128 → Unicode.isLower c = isL c := by decide +kernel
theorem swap_tx {a : List Nat} (h : Lt a) : Txt.swapcase (tx a) = tx (a.map sw) := by
  unfold Txt.swapcase
  rw [placed_single (tx a) _ sw fun i c hc => by
    rw [tx_list] at hc
    have hlt := h.asc c (List.mem_of_getElem? hc)
    have hc' : (tx a).cps[i]? = some c := by simpa [tx] using hc
    show (if Unicode.isUpper c then Unicode.lowerAt (tx a).cps i else if Unicode.isLower c then Unicode.upperOf c else [c]) = _
    rw [isUp_ascii c hlt, isLo_ascii c hlt]
    unfold Unicode.lowerAt
    rw [hc']
    have hne : (c == 0x3A3) = false := by rw [beq_eq_false_iff_ne]; omega
    simp only [hne, Bool.false_and, Bool.false_eq_true, if_false]
    rw [lowerOf_ascii c hlt, upperOf_ascii c hlt]
    unfold isU isL sw lo1 up1
    by_cases h1 : 65 ≤ c ∧ c ≤ 90
    · rw [if_pos (by simpa using h1), if_pos h1, if_pos h1]
    · rw [if_neg (by simpa using h1), if_neg h1]
      by_cases h2 : 97 ≤ c ∧ c ≤ 122
      · rw [if_pos (by simpa using h2), if_pos h2]
      · rw [if_neg (by simpa using h2), if_neg h2]]
  show Str.mk _ = Str.mk _
  simp [tx]
/-! items -/
inductive It where
  | pc (a : List Nat)
  | mk (n : List Nat) (u : Bool)
deriving DecidableEq
abbrev mkD (n : List Nat) (u : Bool) : D := .tup [.str (tx n), .bl u]
def itD : It → D
  | .pc a => .str (tx a)
  | .mk n u => mkD n u
def flI : It → It
  | .pc a => .pc (fl a)
  | .mk n u => .mk n (!u)
def okI : It → Prop
  | .pc a => okP a
  | .mk n _ => okN n
abbrev Mk1 := List Nat × Bool
def row : List (List Nat) → List Mk1 → List It
  | p :: ps, (n, u) :: ms => .pc p :: .mk n u :: row ps ms
  | p :: _, [] => [.pc p]
  | [], _ => []
structure okR (P : List (List Nat)) (M : List Mk1) : Prop where
  len : P.length = M.length + 1
  le : P.length ≤ 1000
  p : ∀ a ∈ P, okP a
  n : ∀ m ∈ M, okN m.1
theorem row_len : ∀ {P : List (List Nat)} {M : List Mk1}, P.length = M.length + 1 → (row P M).length = 2 * M.length + 1
  | [], [], h => nomatch h
  | [p], [], h => rfl
  | p :: q :: ps, [], h => by simp at h
  | [], _ :: _, h => nomatch h
  | p :: ps, (n, u) :: ms, h => by
    simp only [row, List.length_cons] at *
    rw [row_len (P := ps) (M := ms) (by omega)]
    omega
theorem row_even : ∀ {P : List (List Nat)} {M : List Mk1} (i : Nat), P.length = M.length + 1 → (row P M)[2 * i]? = P[i]?.map It.pc
  | [], [], i, h => nomatch h
  | [p], [], 0, h => rfl
  | [p], [], i + 1, h => by simp [row]
  | p :: q :: ps, [], _, h => by simp at h
  | [], _ :: _, _, h => nomatch h
  | p :: ps, (n, u) :: ms, 0, h => rfl
  | p :: ps, (n, u) :: ms, i + 1, h => by
    show (row ps ms)[2 * i]? = _
    rw [row_even i (by simpa using h)]
    simp
theorem row_odd : ∀ {P : List (List Nat)} {M : List Mk1} (i : Nat), P.length = M.length + 1 → (row P M)[2 * i + 1]? = M[i]?.map fun m => It.mk m.1 m.2
  | [], [], i, h => nomatch h
  | [p], [], i, h => by simp [row]
  | p :: q :: ps, [], _, h => by simp at h
  | [], _ :: _, _, h => nomatch h
  | p :: ps, (n, u) :: ms, 0, h => rfl
  | p :: ps, (n, u) :: ms, i + 1, h => by
    show (row ps ms)[2 * i + 1]? = _
    rw [row_odd i (by simpa using h)]
    simp
theorem row_ok {P : List (List Nat)} {M : List Mk1} (h : okR P M) {i : Nat} {x : It} (e : (row P M)[i]? = some x) : (i % 2 = 1 ∧ ∃ n u, x = .mk n u ∧ okN n) ∨ (i % 2 = 0 ∧ ∃ a, x = .pc a ∧ okP a) := by
  rcases Nat.mod_two_eq_zero_or_one i with q | q
  · right
    obtain ⟨k, rfl⟩ : ∃ k, i = 2 * k := ⟨i / 2, by omega⟩
    rw [row_even k h.len] at e
    obtain ⟨a, ha, rfl⟩ := Option.map_eq_some_iff.mp e
    exact ⟨q, a, rfl, h.p a (List.mem_of_getElem? ha)⟩
  · left
    obtain ⟨k, rfl⟩ : ∃ k, i = 2 * k + 1 := ⟨i / 2, by omega⟩
    rw [row_odd k h.len] at e
    obtain ⟨a, ha, rfl⟩ := Option.map_eq_some_iff.mp e
    exact ⟨q, a.1, a.2, rfl, h.n a (List.mem_of_getElem? ha)⟩
abbrev rowD (P : List (List Nat)) (M : List Mk1) : D := .lst ((row P M).map itD)
end MS
set_option maxHeartbeats 4000000
/-! the rows' small defs -/
namespace MS
open PySem PySem.Spec PyProof.Rows L2 DL
section
variable {P : Program} {w : World} {K : PySem.W.Frag} {mg : Str → Option Value} {base : Heap}
abbrev Fsp := List D → (D → Prop) → Prop
def sp_is_integer : Fsp := fun ds R => ∃ i lo hi : Int, ds = [.int i, .int lo, .int hi] ∧ R (.bl (decide (lo ≤ i ∧ i ≤ hi)))
def sp_is_name : Fsp := fun ds R => ∃ n, ds = [.str (tx n)] ∧ okN n ∧ R (.bl true)
def sp_is_piece : Fsp := fun ds R => ∃ a, ds = [.str (tx a)] ∧ okP a ∧ R (.bl true)
def sp_is_marker : Fsp := fun ds R => ∃ n u, ds = [mkD n u] ∧ okN n ∧ R (.bl true)
def sp_is_sequence : Fsp := fun ds R => ∃ xs, ds = [.lst xs] ∧ R (.bl true)
def sp_require_piece : Fsp := fun ds R => ∃ a, ds = [.str (tx a)] ∧ okP a ∧ R .non
def sp_require_marker : Fsp := fun ds R => ∃ n u, ds = [mkD n u] ∧ okN n ∧ R .non
def sp_require_items : Fsp := fun ds R => ∃ P M, ds = [rowD P M] ∧ okR P M ∧ R .non
def sp_flipped_piece : Fsp := fun ds R => ∃ a, ds = [.str (tx a)] ∧ okP a ∧ R (.str (tx (fl a)))
def sp_flipped_marker : Fsp := fun ds R => ∃ n u, ds = [mkD n u] ∧ R (mkD n (!u))
def sp_flipped_item : Fsp := fun ds R => ∃ x, ds = [itD x] ∧ okI x ∧ R (itD (flI x))
def sp_flipped_items : Fsp := fun ds R => ∃ xs : List It, ds = [.lst (xs.map itD)] ∧ xs.length ≤ 1000 ∧ (∀ x ∈ xs, okI x) ∧ R (.lst ((xs.reverse.map flI).map itD))
theorem c_is_integer (W : W0 K mg) : DefF P w K mg base "is_integer" ["value", "low", "high"] 1 (SpF sp_is_integer) := by
  refine g_is_integer W ?_ ?_
  · rintro ds Kd ⟨i, lo, hi, rfl, k⟩
    rfl
  · rintro ds Kd ⟨i, lo, hi, rfl, k⟩
    simp [R_is_integer, init, initO, endsO, dRet, dSeq, dNext, dDrop, dIfS, dSet, dAsg, dPar, dPar3, dNever, dNo1, dVar, dC, dOp, dChain, dB, dAnd, dOr, dNot, dAndV, dOrV, dNotV, dIf, dNil, dCons, dTup, dLst, dCall, dIsi, dIsi2, tyD, isaT, dAdd, dSub, dMul, dMod, dDiv, dPow, dInt2, dLt, dLe, dGt, dGe, dEq, dNe, dIsN, dNotN, dInSign, dInText, dNotInText, dIx, atI, ixN, dSl, dPart, dNo, dCut, dRev, dRevS, dM0, dLen, dAll, dAny, dMax2, dMin2, dList, dgName, dgNil, dgCons, dgTup, dgLst, dItL, dItT, dItR, dItE, dItZ, dItS, dYes, wipeG, noOwn, dMulS, dLstN, dSetN, dCatN, dOwnIx, dOwnLen, dOwnOp, dOpOwn, dApp, dExt, dPopAt, isOwn, isOwnL, dSetIx, dFrz, OD.d, DL.scal, dFld, dOwnFld, getF, dSetF, dMake, dMeth, dEither, dIsiC, dIsiSR, dJoin, dTextOf, dJoined3, dListN, dParN, dLc]
    by_cases h : lo ≤ i
    · simpa [h] using k
    · simpa [h] using k
theorem sz {n : Nat} (h : n ≤ 1000000) : n ≤ sizeLine := Nat.le_trans h (by decide)
theorem signs_tx (a : List Nat) : signs (tx a) = a.map fun c => .str ⟨#[c]⟩ := by
  unfold signs
  rw [tx_list]
theorem signs_tx_len (a : List Nat) : (signs (tx a)).length = a.length := by rw [signs_tx, List.length_map]
theorem map_const {α β : Type} (l : List α) (b : β) : l.map (fun _ => b) = List.replicate l.length b := by
  induction l with
  | nil => rfl
  | cons x l ih => rw [List.map_cons, ih] <;> rfl
theorem all_tr (n : Nat) : (List.replicate n true).all (fun b => b) = true := by
  rw [List.all_eq_true]
  intro b hb
  exact (List.mem_replicate.mp hb).2
theorem fn_of {α : Type} (l : List α) (e : α → D) (g : α → D) (h : ∀ x y, x ∈ l → y ∈ l → e x = e y → g x = g y) : ∃ f : D → D, ∀ x ∈ l, f (e x) = g x := by
  classical
  refine ⟨fun d => if q : ∃ x, x ∈ l ∧ e x = d then g q.choose else .non, fun x hx => ?_⟩
  have q : ∃ y, y ∈ l ∧ e y = e x := ⟨x, hx, rfl⟩
  show (if q : ∃ y, y ∈ l ∧ e y = e x then g q.choose else .non) = _
  rw [dif_pos q]
  exact h _ _ q.choose_spec.1 hx q.choose_spec.2
theorem enum_get {ds : List D} {i : Nat} {d : D} (h : (enumD ds)[i]? = some d) : ∃ x, ds[i]? = some x ∧ d = .tup [.int (i : Nat), x] := by
  unfold enumD at h
  rw [List.getElem?_mapIdx] at h
  obtain ⟨x, hx, rfl⟩ := Option.map_eq_some_iff.mp h
  exact ⟨x, hx, rfl⟩
theorem enum_len (ds : List D) : (enumD ds).length = ds.length := by simp [enumD]
theorem itD_inj {x y : It} (h : itD x = itD y) : x = y := by
  cases x <;> cases y <;> simp [itD] at h
  · rw [tx_inj h]
  · rw [tx_inj h.1, h.2]
theorem revS_tx (a : List Nat) : revS (tx a) = tx a.reverse := by
  show Str.mk _ = Str.mk _
  simp [tx]
theorem filter_tr {α : Type} (l : List α) : l.filter (fun _ => true) = l := List.filter_eq_self.mpr fun _ _ => rfl
theorem abc_l : ∀ c, c < 128 → isL c = true → c ∈ (Str.ofString "abcdefghijklmnopqrstuvwxyz").cps := by decide +kernel
theorem abc_u : ∀ c, c < 128 → isU c = true → c ∈ (Str.ofString "ABCDEFGHIJKLMNOPQRSTUVWXYZ").cps := by decide +kernel
theorem abc_ul : ∀ c, c < 128 → isU c = true → c ∉ (Str.ofString "abcdefghijklmnopqrstuvwxyz").cps := by decide +kernel
theorem isL_lt {c : Nat} (h : isL c = true) : c < 128 := by
  unfold isL at h
  rw [decide_eq_true_eq] at h
  omega
theorem isU_lt {c : Nat} (h : isU c = true) : c < 128 := by
  unfold isU at h
  rw [decide_eq_true_eq] at h
  omega
theorem c_is_name (W : W0 K mg) : DefF P w K mg base "is_name" ["value"] 1 (SpF sp_is_name) := by
  refine g_is_name W ?_ ?_
  · rintro ds Kd ⟨n, rfl, hn, k⟩
    rfl
  · rintro ds Kd ⟨n, rfl, ⟨h1, h2, h3⟩, k⟩
    have z1 : n.length ≤ sizeLine := sz (by omega)
    have e1 : (1 : Int) ≤ n.length := by omega
    have e2 : ¬ (4 : Int) < n.length := by omega
    simp [R_is_name, tx_len, z1, e1, e2, init, initO, endsO, dRet, dSeq, dNext, dDrop, dIfS, dSet, dAsg, dPar, dPar3, dNever, dNo1, dVar, dC, dOp, dChain, dB, dAnd, dOr, dNot, dAndV, dOrV, dNotV, dIf, dNil, dCons, dTup, dLst, dCall, dIsi, dIsi2, tyD, isaT, dAdd, dSub, dMul, dMod, dDiv, dPow, dInt2, dLt, dLe, dGt, dGe, dEq, dNe, dIsN, dNotN, dInSign, dInText, dNotInText, dIx, atI, ixN, dSl, dPart, dNo, dCut, dRev, dRevS, dM0, dLen, dAll, dAny, dMax2, dMin2, dList, dgName, dgNil, dgCons, dgTup, dgLst, dItL, dItT, dItR, dItE, dItZ, dItS, dYes, wipeG, noOwn, dMulS, dLstN, dSetN, dCatN, dOwnIx, dOwnLen, dOwnOp, dOpOwn, dApp, dExt, dPopAt, isOwn, isOwnL, dSetIx, dFrz, OD.d, DL.scal, dFld, dOwnFld, getF, dSetF, dMake, dMeth, dEither, dIsiC, dIsiSR, dJoin, dTextOf, dJoined3, dListN, dParN, dLc]
    refine ⟨by rw [signs_tx_len]; exact z1, fun _ => true, fun _ => .bl true, fun d hd => ⟨rfl, fun _ => ?_⟩, List.replicate n.length true, ?_, ?_⟩
    · rw [signs_tx] at hd
      obtain ⟨c, hc, rfl⟩ := List.mem_map.mp hd
      exact ⟨c, rfl, by rw [decide_eq_true (abc_l c (isL_lt (h3 c hc)) (h3 c hc))]⟩
    · rw [List.filter_eq_self.mpr (fun _ _ => rfl), map_const, signs_tx_len, List.map_replicate]
    · rw [all_tr]
      exact k
theorem c_is_piece (W : W0 K mg) : DefF P w K mg base "is_piece" ["value"] 1 (SpF sp_is_piece) := by
  refine g_is_piece W ?_ ?_
  · rintro ds Kd ⟨n, rfl, hn, k⟩
    rfl
  · rintro ds Kd ⟨n, rfl, ⟨h1, h3⟩, k⟩
    have z1 : n.length ≤ sizeLine := sz (by omega)
    simp [R_is_piece, tx_len, z1, init, initO, endsO, dRet, dSeq, dNext, dDrop, dIfS, dSet, dAsg, dPar, dPar3, dNever, dNo1, dVar, dC, dOp, dChain, dB, dAnd, dOr, dNot, dAndV, dOrV, dNotV, dIf, dNil, dCons, dTup, dLst, dCall, dIsi, dIsi2, tyD, isaT, dAdd, dSub, dMul, dMod, dDiv, dPow, dInt2, dLt, dLe, dGt, dGe, dEq, dNe, dIsN, dNotN, dInSign, dInText, dNotInText, dIx, atI, ixN, dSl, dPart, dNo, dCut, dRev, dRevS, dM0, dLen, dAll, dAny, dMax2, dMin2, dList, dgName, dgNil, dgCons, dgTup, dgLst, dItL, dItT, dItR, dItE, dItZ, dItS, dYes, wipeG, noOwn, dMulS, dLstN, dSetN, dCatN, dOwnIx, dOwnLen, dOwnOp, dOpOwn, dApp, dExt, dPopAt, isOwn, isOwnL, dSetIx, dFrz, OD.d, DL.scal, dFld, dOwnFld, getF, dSetF, dMake, dMeth, dEither, dIsiC, dIsiSR, dJoin, dTextOf, dJoined3, dListN, dParN, dLc]
    refine ⟨by rw [signs_tx_len]; exact z1, fun _ => true, fun _ => .bl true, fun d hd => ⟨rfl, fun _ => ?_⟩, List.replicate n.length true, ?_, ?_⟩
    · rw [signs_tx] at hd
      obtain ⟨c, hc, rfl⟩ := List.mem_map.mp hd
      refine ⟨c, rfl, ?_⟩
      rcases h3 c hc with h | h
      · rw [decide_eq_true (abc_l c (isL_lt h) h)]
        rfl
      · rw [decide_eq_false (abc_ul c (isU_lt h) h)]
        exact ⟨c, rfl, by rw [decide_eq_true (abc_u c (isU_lt h) h)]⟩
    · rw [List.filter_eq_self.mpr (fun _ _ => rfl), map_const, signs_tx_len, List.map_replicate]
    · rw [all_tr]
      exact k
theorem c_is_marker (W : W0 K mg) : DefF P w K mg base "is_marker" ["value"] 2 (SpF sp_is_marker) := by
  refine g_is_marker W (c_is_name W) ?_ ?_
  · rintro ds Kd ⟨n, u, rfl, hn, k⟩
    rfl
  · rintro ds Kd ⟨n, u, rfl, hn, k⟩
    simp [R_is_marker, init, initO, endsO, dRet, dSeq, dNext, dDrop, dIfS, dSet, dAsg, dPar, dPar3, dNever, dNo1, dVar, dC, dOp, dChain, dB, dAnd, dOr, dNot, dAndV, dOrV, dNotV, dIf, dNil, dCons, dTup, dLst, dCall, dIsi, dIsi2, tyD, isaT, dAdd, dSub, dMul, dMod, dDiv, dPow, dInt2, dLt, dLe, dGt, dGe, dEq, dNe, dIsN, dNotN, dInSign, dInText, dNotInText, dIx, atI, ixN, dSl, dPart, dNo, dCut, dRev, dRevS, dM0, dLen, dAll, dAny, dMax2, dMin2, dList, dgName, dgNil, dgCons, dgTup, dgLst, dItL, dItT, dItR, dItE, dItZ, dItS, dYes, wipeG, noOwn, dMulS, dLstN, dSetN, dCatN, dOwnIx, dOwnLen, dOwnOp, dOpOwn, dApp, dExt, dPopAt, isOwn, isOwnL, dSetIx, dFrz, OD.d, DL.scal, dFld, dOwnFld, getF, dSetF, dMake, dMeth, dEither, dIsiC, dIsiSR, dJoin, dTextOf, dJoined3, dListN, dParN, dLc]
    exact ⟨n, rfl, hn, k⟩
theorem c_is_sequence (W : W0 K mg) : DefF P w K mg base "is_sequence" ["value"] 1 (SpF sp_is_sequence) := by
  refine g_is_sequence W ?_ ?_
  · rintro ds Kd ⟨n, rfl, k⟩
    rfl
  · rintro ds Kd ⟨n, rfl, k⟩
    simpa [R_is_sequence, init, initO, endsO, dRet, dSeq, dNext, dDrop, dIfS, dSet, dAsg, dPar, dPar3, dNever, dNo1, dVar, dC, dOp, dChain, dB, dAnd, dOr, dNot, dAndV, dOrV, dNotV, dIf, dNil, dCons, dTup, dLst, dCall, dIsi, dIsi2, tyD, isaT, dAdd, dSub, dMul, dMod, dDiv, dPow, dInt2, dLt, dLe, dGt, dGe, dEq, dNe, dIsN, dNotN, dInSign, dInText, dNotInText, dIx, atI, ixN, dSl, dPart, dNo, dCut, dRev, dRevS, dM0, dLen, dAll, dAny, dMax2, dMin2, dList, dgName, dgNil, dgCons, dgTup, dgLst, dItL, dItT, dItR, dItE, dItZ, dItS, dYes, wipeG, noOwn, dMulS, dLstN, dSetN, dCatN, dOwnIx, dOwnLen, dOwnOp, dOpOwn, dApp, dExt, dPopAt, isOwn, isOwnL, dSetIx, dFrz, OD.d, DL.scal, dFld, dOwnFld, getF, dSetF, dMake, dMeth, dEither, dIsiC, dIsiSR, dJoin, dTextOf, dJoined3, dListN, dParN, dLc] using k
theorem c_require_piece (W : W0 K mg) : DefF P w K mg base "require_piece" ["value"] 2 (SpF sp_require_piece) := by
  refine g_require_piece W (c_is_piece W) ?_ ?_
  · rintro ds Kd ⟨n, rfl, hn, k⟩
    rfl
  · rintro ds Kd ⟨n, rfl, hn, k⟩
    simp [R_require_piece, init, initO, endsO, dRet, dSeq, dNext, dDrop, dIfS, dSet, dAsg, dPar, dPar3, dNever, dNo1, dVar, dC, dOp, dChain, dB, dAnd, dOr, dNot, dAndV, dOrV, dNotV, dIf, dNil, dCons, dTup, dLst, dCall, dIsi, dIsi2, tyD, isaT, dAdd, dSub, dMul, dMod, dDiv, dPow, dInt2, dLt, dLe, dGt, dGe, dEq, dNe, dIsN, dNotN, dInSign, dInText, dNotInText, dIx, atI, ixN, dSl, dPart, dNo, dCut, dRev, dRevS, dM0, dLen, dAll, dAny, dMax2, dMin2, dList, dgName, dgNil, dgCons, dgTup, dgLst, dItL, dItT, dItR, dItE, dItZ, dItS, dYes, wipeG, noOwn, dMulS, dLstN, dSetN, dCatN, dOwnIx, dOwnLen, dOwnOp, dOpOwn, dApp, dExt, dPopAt, isOwn, isOwnL, dSetIx, dFrz, OD.d, DL.scal, dFld, dOwnFld, getF, dSetF, dMake, dMeth, dEither, dIsiC, dIsiSR, dJoin, dTextOf, dJoined3, dListN, dParN, dLc]
    exact ⟨n, rfl, hn, rfl, k⟩
theorem c_require_marker (W : W0 K mg) : DefF P w K mg base "require_marker" ["value"] 3 (SpF sp_require_marker) := by
  refine g_require_marker W (c_is_marker W) ?_ ?_
  · rintro ds Kd ⟨n, u, rfl, hn, k⟩
    rfl
  · rintro ds Kd ⟨n, u, rfl, hn, k⟩
    simp [R_require_marker, init, initO, endsO, dRet, dSeq, dNext, dDrop, dIfS, dSet, dAsg, dPar, dPar3, dNever, dNo1, dVar, dC, dOp, dChain, dB, dAnd, dOr, dNot, dAndV, dOrV, dNotV, dIf, dNil, dCons, dTup, dLst, dCall, dIsi, dIsi2, tyD, isaT, dAdd, dSub, dMul, dMod, dDiv, dPow, dInt2, dLt, dLe, dGt, dGe, dEq, dNe, dIsN, dNotN, dInSign, dInText, dNotInText, dIx, atI, ixN, dSl, dPart, dNo, dCut, dRev, dRevS, dM0, dLen, dAll, dAny, dMax2, dMin2, dList, dgName, dgNil, dgCons, dgTup, dgLst, dItL, dItT, dItR, dItE, dItZ, dItS, dYes, wipeG, noOwn, dMulS, dLstN, dSetN, dCatN, dOwnIx, dOwnLen, dOwnOp, dOpOwn, dApp, dExt, dPopAt, isOwn, isOwnL, dSetIx, dFrz, OD.d, DL.scal, dFld, dOwnFld, getF, dSetF, dMake, dMeth, dEither, dIsiC, dIsiSR, dJoin, dTextOf, dJoined3, dListN, dParN, dLc]
    exact ⟨n, u, rfl, hn, rfl, k⟩
theorem c_flipped_piece (W : W0 K mg) : DefF P w K mg base "flipped_piece" ["piece"] 1 (SpF sp_flipped_piece) := by
  refine g_flipped_piece W ?_ ?_
  · rintro ds Kd ⟨n, rfl, hn, k⟩
    rfl
  · rintro ds Kd ⟨n, rfl, hn, k⟩
    simp [R_flipped_piece, init, initO, endsO, dRet, dSeq, dNext, dDrop, dIfS, dSet, dAsg, dPar, dPar3, dNever, dNo1, dVar, dC, dOp, dChain, dB, dAnd, dOr, dNot, dAndV, dOrV, dNotV, dIf, dNil, dCons, dTup, dLst, dCall, dIsi, dIsi2, tyD, isaT, dAdd, dSub, dMul, dMod, dDiv, dPow, dInt2, dLt, dLe, dGt, dGe, dEq, dNe, dIsN, dNotN, dInSign, dInText, dNotInText, dIx, atI, ixN, dSl, dPart, dNo, dCut, dRev, dRevS, dM0, dLen, dAll, dAny, dMax2, dMin2, dList, dgName, dgNil, dgCons, dgTup, dgLst, dItL, dItT, dItR, dItE, dItZ, dItS, dYes, wipeG, noOwn, dMulS, dLstN, dSetN, dCatN, dOwnIx, dOwnLen, dOwnOp, dOpOwn, dApp, dExt, dPopAt, isOwn, isOwnL, dSetIx, dFrz, OD.d, DL.scal, dFld, dOwnFld, getF, dSetF, dMake, dMeth, dEither, dIsiC, dIsiSR, dJoin, dTextOf, dJoined3, dListN, dParN, dLc]
    rw [revS_tx, tx_len, tx_len, List.length_reverse, swap_tx fun c hc => hn.2 c (List.mem_reverse.mp hc)]
    have h1 := hn.1
    exact ⟨sz (by omega), by omega, k⟩
theorem c_flipped_marker (W : W0 K mg) : DefF P w K mg base "flipped_marker" ["marker"] 1 (SpF sp_flipped_marker) := by
  refine g_flipped_marker W ?_ ?_
  · rintro ds Kd ⟨n, u, rfl, k⟩
    rfl
  · rintro ds Kd ⟨n, u, rfl, k⟩
    simp [R_flipped_marker, init, initO, endsO, dRet, dSeq, dNext, dDrop, dIfS, dSet, dAsg, dPar, dPar3, dNever, dNo1, dVar, dC, dOp, dChain, dB, dAnd, dOr, dNot, dAndV, dOrV, dNotV, dIf, dNil, dCons, dTup, dLst, dCall, dIsi, dIsi2, tyD, isaT, dAdd, dSub, dMul, dMod, dDiv, dPow, dInt2, dLt, dLe, dGt, dGe, dEq, dNe, dIsN, dNotN, dInSign, dInText, dNotInText, dIx, atI, ixN, dSl, dPart, dNo, dCut, dRev, dRevS, dM0, dLen, dAll, dAny, dMax2, dMin2, dList, dgName, dgNil, dgCons, dgTup, dgLst, dItL, dItT, dItR, dItE, dItZ, dItS, dYes, wipeG, noOwn, dMulS, dLstN, dSetN, dCatN, dOwnIx, dOwnLen, dOwnOp, dOpOwn, dApp, dExt, dPopAt, isOwn, isOwnL, dSetIx, dFrz, OD.d, DL.scal, dFld, dOwnFld, getF, dSetF, dMake, dMeth, dEither, dIsiC, dIsiSR, dJoin, dTextOf, dJoined3, dListN, dParN, dLc]
    exact ⟨by decide, k⟩
theorem c_flipped_item (W : W0 K mg) : DefF P w K mg base "flipped_item" ["item"] 2 (SpF sp_flipped_item) := by
  refine g_flipped_item W (c_flipped_marker W) (c_flipped_piece W) ?_ ?_
  · rintro ds Kd ⟨x, rfl, h, k⟩
    rfl
  · rintro ds Kd ⟨x, rfl, h, k⟩
    cases x with
    | pc a =>
      simp [R_flipped_item, itD, init, initO, endsO, dRet, dSeq, dNext, dDrop, dIfS, dSet, dAsg, dPar, dPar3, dNever, dNo1, dVar, dC, dOp, dChain, dB, dAnd, dOr, dNot, dAndV, dOrV, dNotV, dIf, dNil, dCons, dTup, dLst, dCall, dIsi, dIsi2, tyD, isaT, dAdd, dSub, dMul, dMod, dDiv, dPow, dInt2, dLt, dLe, dGt, dGe, dEq, dNe, dIsN, dNotN, dInSign, dInText, dNotInText, dIx, atI, ixN, dSl, dPart, dNo, dCut, dRev, dRevS, dM0, dLen, dAll, dAny, dMax2, dMin2, dList, dgName, dgNil, dgCons, dgTup, dgLst, dItL, dItT, dItR, dItE, dItZ, dItS, dYes, wipeG, noOwn, dMulS, dLstN, dSetN, dCatN, dOwnIx, dOwnLen, dOwnOp, dOpOwn, dApp, dExt, dPopAt, isOwn, isOwnL, dSetIx, dFrz, OD.d, DL.scal, dFld, dOwnFld, getF, dSetF, dMake, dMeth, dEither, dIsiC, dIsiSR, dJoin, dTextOf, dJoined3, dListN, dParN, dLc]
      exact ⟨a, rfl, h, k⟩
    | mk n u =>
      simp [R_flipped_item, itD, init, initO, endsO, dRet, dSeq, dNext, dDrop, dIfS, dSet, dAsg, dPar, dPar3, dNever, dNo1, dVar, dC, dOp, dChain, dB, dAnd, dOr, dNot, dAndV, dOrV, dNotV, dIf, dNil, dCons, dTup, dLst, dCall, dIsi, dIsi2, tyD, isaT, dAdd, dSub, dMul, dMod, dDiv, dPow, dInt2, dLt, dLe, dGt, dGe, dEq, dNe, dIsN, dNotN, dInSign, dInText, dNotInText, dIx, atI, ixN, dSl, dPart, dNo, dCut, dRev, dRevS, dM0, dLen, dAll, dAny, dMax2, dMin2, dList, dgName, dgNil, dgCons, dgTup, dgLst, dItL, dItT, dItR, dItE, dItZ, dItS, dYes, wipeG, noOwn, dMulS, dLstN, dSetN, dCatN, dOwnIx, dOwnLen, dOwnOp, dOpOwn, dApp, dExt, dPopAt, isOwn, isOwnL, dSetIx, dFrz, OD.d, DL.scal, dFld, dOwnFld, getF, dSetF, dMake, dMeth, dEither, dIsiC, dIsiSR, dJoin, dTextOf, dJoined3, dListN, dParN, dLc]
      exact ⟨n, u, rfl, k⟩
theorem c_flipped_items (W : W0 K mg) : DefF P w K mg base "flipped_items" ["items"] 3 (SpF sp_flipped_items) := by
  refine g_flipped_items W (c_flipped_item W) ?_ ?_
  · rintro ds Kd ⟨x, rfl, h, k⟩
    rfl
  · rintro ds Kd ⟨xs, rfl, h, hk, k⟩
    simp [R_flipped_items, init, initO, endsO, dRet, dSeq, dNext, dDrop, dIfS, dSet, dAsg, dPar, dPar3, dNever, dNo1, dVar, dC, dOp, dChain, dB, dAnd, dOr, dNot, dAndV, dOrV, dNotV, dIf, dNil, dCons, dTup, dLst, dCall, dIsi, dIsi2, tyD, isaT, dAdd, dSub, dMul, dMod, dDiv, dPow, dInt2, dLt, dLe, dGt, dGe, dEq, dNe, dIsN, dNotN, dInSign, dInText, dNotInText, dIx, atI, ixN, dSl, dPart, dNo, dCut, dRev, dRevS, dM0, dLen, dAll, dAny, dMax2, dMin2, dList, dgName, dgNil, dgCons, dgTup, dgLst, dItL, dItT, dItR, dItE, dItZ, dItS, dYes, wipeG, noOwn, dMulS, dLstN, dSetN, dCatN, dOwnIx, dOwnLen, dOwnOp, dOpOwn, dApp, dExt, dPopAt, isOwn, isOwnL, dSetIx, dFrz, OD.d, DL.scal, dFld, dOwnFld, getF, dSetF, dMake, dMeth, dEither, dIsiC, dIsiSR, dJoin, dTextOf, dJoined3, dListN, dParN, dLc]
    obtain ⟨f, hf⟩ := fn_of xs itD (fun x => itD (flI x)) fun x y _ _ e => by rw [itD_inj e]
    refine ⟨sz (by omega), fun _ => true, f, fun x hx => ⟨rfl, fun _ => ⟨x, rfl, hk x hx, (hf x hx).symm⟩⟩, ?_⟩
    rw [filter_tr, List.map_map, List.map_congr_left (f := f ∘ itD) (g := fun x => itD (flI x)) fun x hx => hf x hx, ← List.map_reverse]
    rw [List.map_map] at k
    exact k
theorem c_require_items (W : W0 K mg) : DefF P w K mg base "require_items" ["items"] 4 (SpF sp_require_items) := by
  refine g_require_items W (c_require_marker W) (c_require_piece W) ?_ ?_
  · rintro ds Kd ⟨x, y, rfl, h, k⟩
    rfl
  · rintro ds Kd ⟨PP, M, rfl, h, k⟩
    simp [R_require_items, dFor, init, initO, endsO, dRet, dSeq, dNext, dDrop, dIfS, dSet, dAsg, dPar, dPar3, dNever, dNo1, dVar, dC, dOp, dChain, dB, dAnd, dOr, dNot, dAndV, dOrV, dNotV, dIf, dNil, dCons, dTup, dLst, dCall, dIsi, dIsi2, tyD, isaT, dAdd, dSub, dMul, dMod, dDiv, dPow, dInt2, dLt, dLe, dGt, dGe, dEq, dNe, dIsN, dNotN, dInSign, dInText, dNotInText, dIx, atI, ixN, dSl, dPart, dNo, dCut, dRev, dRevS, dM0, dLen, dAll, dAny, dMax2, dMin2, dList, dgName, dgNil, dgCons, dgTup, dgLst, dItL, dItT, dItR, dItE, dItZ, dItS, dYes, wipeG, noOwn, dMulS, dLstN, dSetN, dCatN, dOwnIx, dOwnLen, dOwnOp, dOpOwn, dApp, dExt, dPopAt, isOwn, isOwnL, dSetIx, dFrz, OD.d, DL.scal, dFld, dOwnFld, getF, dSetF, dMake, dMeth, dEither, dIsiC, dIsiSR, dJoin, dTextOf, dJoined3, dListN, dParN, dLc]
    refine ⟨fun _ Γ => ∃ a b, Γ = [.val (rowD PP M), a, b], ⟨_, _, rfl⟩, ?_, fun Γ2 _ => k⟩
    rintro i d Γ2 hd ⟨a, b, rfl⟩
    obtain ⟨x, hx, rfl⟩ := enum_get hd
    rw [List.getElem?_map] at hx
    obtain ⟨y, hy, rfl⟩ := Option.map_eq_some_iff.mp hx
    rcases row_ok h hy with ⟨q, n, u, rfl, hn⟩ | ⟨q, a, rfl, hn⟩
    · have e : ((i : Nat) : Int) % 2 = 1 := by omega
      simp [e, itD]
      exact ⟨n, u, rfl, hn, trivial⟩
    · have e : ¬ ((i : Nat) : Int) % 2 = 1 := by omega
      simp [e, itD]
      exact ⟨a, rfl, hn, trivial⟩
theorem row_odd_len {PP : List (List Nat)} {M : List Mk1} (h : okR PP M) : ((row PP M).length : Int) % 2 = 1 := by
  rw [row_len h.len]
  omega
def sp_require_row : Fsp := fun ds R => ∃ P M, ds = [rowD P M] ∧ okR P M ∧ R .non
theorem c_require_row (W : W0 K mg) : DefF P w K mg base "require_row" ["row"] 5 (SpF sp_require_row) := by
  refine g_require_row W (c_is_sequence W) (c_require_items W) ?_ ?_
  · rintro ds Kd ⟨x, y, rfl, h, k⟩
    rfl
  · rintro ds Kd ⟨PP, M, rfl, h, k⟩
    have e : ¬ ((row PP M).length : Int) % 2 = 0 := by have := row_odd_len h; omega
    simp [R_require_row, init, initO, endsO, dRet, dSeq, dNext, dDrop, dIfS, dSet, dAsg, dPar, dPar3, dNever, dNo1, dVar, dC, dOp, dChain, dB, dAnd, dOr, dNot, dAndV, dOrV, dNotV, dIf, dNil, dCons, dTup, dLst, dCall, dIsi, dIsi2, tyD, isaT, dAdd, dSub, dMul, dMod, dDiv, dPow, dInt2, dLt, dLe, dGt, dGe, dEq, dNe, dIsN, dNotN, dInSign, dInText, dNotInText, dIx, atI, ixN, dSl, dPart, dNo, dCut, dRev, dRevS, dM0, dLen, dAll, dAny, dMax2, dMin2, dList, dgName, dgNil, dgCons, dgTup, dgLst, dItL, dItT, dItR, dItE, dItZ, dItS, dYes, wipeG, noOwn, dMulS, dLstN, dSetN, dCatN, dOwnIx, dOwnLen, dOwnOp, dOpOwn, dApp, dExt, dPopAt, isOwn, isOwnL, dSetIx, dFrz, OD.d, DL.scal, dFld, dOwnFld, getF, dSetF, dMake, dMeth, dEither, dIsiC, dIsiSR, dJoin, dTextOf, dJoined3, dListN, dParN, dLc]
    refine ⟨_, rfl, ?_⟩
    simp [e]
    exact ⟨PP, M, rfl, h, k⟩
end
end MS
set_option maxHeartbeats 4000000
/-! strips and rings as objects -/
namespace MS
open PySem PySem.Spec PyProof.Rows L2 DL NL
/-! init, initO, endsO, dRet, dSeq, dNext, dDrop, dIfS, dSet, dAsg, dPar, dPar3, dNever, dNo1, dVar, dC, dOp, dChain, dB, dAnd, dOr, dNot, dAndV, dOrV, dNotV, dIf, dNil, dCons, dTup, dLst, dCall, dIsi, dIsi2, tyD, isaT, dAdd, dSub, dMul, dMod, dDiv, dPow, dInt2, dLt, dLe, dGt, dGe, dEq, dNe, dIsN, dNotN, dInSign, dInText, dNotInText, dIx, dSl, dPart, dNo, dCut, dRev, dRevS, dM0, dLen, dAll, dAny, dMax2, dMin2, dList, dgName, dgNil, dgCons, dgTup, dgLst, dItL, dItT, dItR, dItE, dItZ, dItS, dYes, wipeG, noOwn, dMulS, dLstN, dSetN, dCatN, dOwnIx, dOwnLen, dOwnOp, dOpOwn, dApp, dExt, dPopAt, isOwn, isOwnL, dSetIx, dFrz, OD.d, DL.scal, dFld, dOwnFld, getF, dSetF, dMake, dMeth, dEither, dIsiC, dIsiSR, dJoin, dTextOf, dJoined3, dListN, dParN, dLc# steps -/
theorem range_get {α β : Type} (g : α → β) : ∀ (l : List α) (f : Nat → Option β), (∀ k, f k = l[k]?.map g) → (List.range l.length).filterMap f = l.map g
  | [], f, h => rfl
  | x :: l, f, h => by
    rw [List.length_cons, List.range_succ_eq_map, List.filterMap_cons, h 0, List.filterMap_map]
    have e := range_get g l (f ∘ Nat.succ) fun k => by
      show f (k + 1) = _
      rw [h (k + 1)]
      simp
    rw [e]
    simp
theorem pick_gen {α : Type} (xs : List α) (lo st : Option Int) (a : Nat) (c : Nat) (h : (sliceRange (sliceBounds lo none st xs.length).1 (sliceBounds lo none st xs.length).2.1 (sliceBounds lo none st xs.length).2.2) = (List.range c).map fun k => 2 * k + a) :
    pickG xs lo none st = (List.range c).filterMap fun k => xs[2 * k + a]? := by
  unfold pickG
  rw [h, List.filterMap_map]
  rfl
theorem pick12 {α : Type} (xs : List α) : pickG xs (some 1) none (some 2) = (List.range (xs.length / 2)).filterMap fun k => xs[2 * k + 1]? := by
  refine pick_gen xs _ _ 1 _ ?_
  have b : sliceBounds (some 1) none (some 2) xs.length = (max 0 (min 1 (xs.length : Int)), (xs.length : Int), 2) := by simp [sliceBounds]
  rw [b]
  show sliceRange (max 0 (min 1 (xs.length : Int))) (xs.length : Int) 2 = _
  unfold sliceRange
  have e : ((if (2 : Int) > 0 then (if max 0 (min 1 (xs.length : Int)) < (xs.length : Int) then ((xs.length : Int) - max 0 (min 1 (xs.length : Int)) + 2 - 1) / 2 else 0) else (if max 0 (min 1 (xs.length : Int)) > (xs.length : Int) then (max 0 (min 1 (xs.length : Int)) - (xs.length : Int) - 2 - 1) / (-2) else 0)) : Int).toNat = xs.length / 2 := by
    rw [if_pos (by decide)]
    split <;> omega
  show (List.range (Int.toNat _)).map _ = _
  rw [e]
  refine List.map_congr_left fun k hk => ?_
  have := List.mem_range.mp hk
  omega
theorem pick2 {α : Type} (xs : List α) : pickG xs none none (some 2) = (List.range ((xs.length + 1) / 2)).filterMap fun k => xs[2 * k + 0]? := by
  refine pick_gen xs _ _ 0 _ ?_
  have b : sliceBounds none none (some 2) xs.length = ((0 : Int), (xs.length : Int), 2) := by simp [sliceBounds]
  rw [b]
  show sliceRange (0 : Int) (xs.length : Int) 2 = _
  unfold sliceRange
  have e : ((if (2 : Int) > 0 then (if 0 < (xs.length : Int) then ((xs.length : Int) - 0 + 2 - 1) / 2 else 0) else (if 0 > (xs.length : Int) then (0 - (xs.length : Int) - 2 - 1) / (-2) else 0)) : Int).toNat = (xs.length + 1) / 2 := by
    rw [if_pos (by decide)]
    split <;> omega
  show (List.range (Int.toNat _)).map _ = _
  rw [e]
  refine List.map_congr_left fun k hk => ?_
  omega
theorem marks_of_row {PP : List (List Nat)} {M : List Mk1} (h : PP.length = M.length + 1) : pickG ((row PP M).map itD) (some 1) none (some 2) = M.map fun m => mkD m.1 m.2 := by
  rw [pick12, List.length_map, row_len h, show (2 * M.length + 1) / 2 = M.length by omega]
  refine range_get (fun m => mkD m.1 m.2) M _ fun k => ?_
  rw [List.getElem?_map, row_odd k h, Option.map_map]
  rfl
theorem pieces_of_row {PP : List (List Nat)} {M : List Mk1} (h : PP.length = M.length + 1) : pickG ((row PP M).map itD) none none (some 2) = PP.map fun a => .str (tx a) := by
  rw [pick2, List.length_map, row_len h, show (2 * M.length + 1 + 1) / 2 = PP.length by omega]
  refine range_get (fun a => D.str (tx a)) PP _ fun k => ?_
  rw [Nat.add_zero, List.getElem?_map, row_even k h, Option.map_map]
  rfl
/-! init, initO, endsO, dRet, dSeq, dNext, dDrop, dIfS, dSet, dAsg, dPar, dPar3, dNever, dNo1, dVar, dC, dOp, dChain, dB, dAnd, dOr, dNot, dAndV, dOrV, dNotV, dIf, dNil, dCons, dTup, dLst, dCall, dIsi, dIsi2, tyD, isaT, dAdd, dSub, dMul, dMod, dDiv, dPow, dInt2, dLt, dLe, dGt, dGe, dEq, dNe, dIsN, dNotN, dInSign, dInText, dNotInText, dIx, dSl, dPart, dNo, dCut, dRev, dRevS, dM0, dLen, dAll, dAny, dMax2, dMin2, dList, dgName, dgNil, dgCons, dgTup, dgLst, dItL, dItT, dItR, dItE, dItZ, dItS, dYes, wipeG, noOwn, dMulS, dLstN, dSetN, dCatN, dOwnIx, dOwnLen, dOwnOp, dOpOwn, dApp, dExt, dPopAt, isOwn, isOwnL, dSetIx, dFrz, OD.d, DL.scal, dFld, dOwnFld, getF, dSetF, dMake, dMeth, dEither, dIsiC, dIsiSR, dJoin, dTextOf, dJoined3, dListN, dParN, dLc# a table -/
def tabOf (l : List (Str × D)) : Tz := l.foldl (fun z p => addZ z p.1 p.2) []
def tabD (z : Tz) : D := .dK (z.map fun q => .inr q.1) (z.map fun q => .lst q.2)
theorem addZ_len (k : Str) (d : D) : ∀ z : Tz, (addZ z k d).length ≤ z.length + 1
  | [] => Nat.le_refl _
  | (k', ds) :: z => by
    unfold addZ
    split
    · exact Nat.le_succ _
    · have := addZ_len k d z
      simp only [List.length_cons]
      omega
theorem addZ_mem {k : Str} {d : D} {n : Nat} : ∀ {z : Tz}, (∀ q ∈ z, q.2.length ≤ n) → ∀ q ∈ addZ z k d, q.2.length ≤ n + 1
  | [], h, q, hq => by
    cases List.mem_singleton.mp hq
    exact Nat.succ_le_succ (Nat.zero_le _)
  | (k', ds) :: z, h, q, hq => by
    unfold addZ at hq
    split at hq
    · rcases List.mem_cons.mp hq with rfl | hq
      · have := h _ List.mem_cons_self
        simp only [List.length_append, List.length_cons, List.length_nil] at *
        omega
      · have := h q (List.mem_cons_of_mem _ hq)
        omega
    · rcases List.mem_cons.mp hq with rfl | hq
      · have := h _ List.mem_cons_self
        omega
      · exact addZ_mem (fun q hq => h q (List.mem_cons_of_mem _ hq)) q hq
theorem tab_sz (l : List (Str × D)) : (tabOf l).length ≤ l.length ∧ ∀ q ∈ tabOf l, q.2.length ≤ l.length := by
  have gen : ∀ (l : List (Str × D)) (z : Tz) (n : Nat), z.length ≤ n → (∀ q ∈ z, q.2.length ≤ n) → (l.foldl (fun z p => addZ z p.1 p.2) z).length ≤ n + l.length ∧ ∀ q ∈ l.foldl (fun z p => addZ z p.1 p.2) z, q.2.length ≤ n + l.length := by
    intro l
    induction l with
    | nil => exact fun z n h1 h2 => ⟨h1, h2⟩
    | cons p l ih =>
      intro z n h1 h2
      have := ih (addZ z p.1 p.2) (n + 1) (Nat.le_trans (addZ_len _ _ _) (Nat.succ_le_succ h1)) (addZ_mem h2)
      rw [List.foldl_cons, List.length_cons, show n + (l.length + 1) = n + 1 + l.length by omega]
      exact this
  have := gen l [] 0 (Nat.le_refl _) (fun _ h => nomatch h)
  rwa [Nat.zero_add] at this
theorem tab_take {l : List (Str × D)} {k : Nat} {x : Str × D} (h : l[k]? = some x) : tabOf (l.take (k + 1)) = addZ (tabOf (l.take k)) x.1 x.2 := by
  unfold tabOf
  rw [List.take_add_one, h, List.foldl_append]
  rfl
def numT (M : List Mk1) : Tz := tabOf (M.mapIdx fun i m => (tx m.1, .int (i : Nat)))
abbrev stripD (K : PySem.W.Frag) (P : List (List Nat)) (M : List Mk1) : D := .ins (He.ga K "Strip") ["kept_row", "kept_places"] [rowD P M, tabD (numT M)]
abbrev ringD (K : PySem.W.Frag) (a : List Nat) : D := .ins (He.ga K "Ring") ["kept_row"] [.lst [.str (tx a)]]
abbrev namesD (M : List Mk1) : List D := (numT M).map fun q => .str q.1
section
variable {P : Program} {w : World} {K : PySem.W.Frag} {mg : Str → Option Value} {base : Heap}
def sp_marker_numbers : Fsp := fun ds R => ∃ P M, ds = [rowD P M] ∧ okR P M ∧ R (tabD (numT M))
theorem c_marker_numbers (W : W0 K mg) : DefF P w K mg base "marker_numbers" ["row"] 1 (SpF sp_marker_numbers) := by
  refine g_marker_numbers W ?_ ?_
  · rintro ds Kd ⟨x, y, rfl, h, k⟩
    rfl
  · rintro ds Kd ⟨PP, M, rfl, h, k⟩
    have le := h.le
    have len := h.len
    simp [R_marker_numbers, dTabFn, dForZ, dTab, dStep, init, initO, endsO, dRet, dSeq, dNext, dDrop, dIfS, dSet, dAsg, dPar, dPar3, dNever, dNo1, dVar, dC, dOp, dChain, dB, dAnd, dOr, dNot, dAndV, dOrV, dNotV, dIf, dNil, dCons, dTup, dLst, dCall, dIsi, dIsi2, tyD, isaT, dAdd, dSub, dMul, dMod, dDiv, dPow, dInt2, dLt, dLe, dGt, dGe, dEq, dNe, dIsN, dNotN, dInSign, dInText, dNotInText, dIx, atI, ixN, dSl, dPart, dNo, dCut, dRev, dRevS, dM0, dLen, dAll, dAny, dMax2, dMin2, dList, dgName, dgNil, dgCons, dgTup, dgLst, dItL, dItT, dItR, dItE, dItZ, dItS, dYes, wipeG, noOwn, dMulS, dLstN, dSetN, dCatN, dOwnIx, dOwnLen, dOwnOp, dOpOwn, dApp, dExt, dPopAt, isOwn, isOwnL, dSetIx, dFrz, OD.d, DL.scal, dFld, dOwnFld, getF, dSetF, dMake, dMeth, dEither, dIsiC, dIsiSR, dJoin, dTextOf, dJoined3, dListN, dParN, dLc]
    refine ⟨?_, ?_⟩
    · rw [marks_of_row h.len, List.length_map]
      exact sz (by omega)
    rw [marks_of_row h.len]
    have hl : (M.mapIdx fun i m => (tx m.1, D.int (i : Nat))).length = M.length := by simp
    refine ⟨fun i Γ z => z = tabOf ((M.mapIdx fun i m => (tx m.1, D.int (i : Nat))).take i) ∧ ∃ a b c, Γ = [.val (rowD PP M), .val .any, a, b, c], ⟨rfl, _, _, _, rfl⟩, ?_, ?_⟩
    · rintro i d Γ2 z2 hd ⟨rfl, a, b, c, rfl⟩
      obtain ⟨x, hx, rfl⟩ := enum_get hd
      rw [List.getElem?_map] at hx
      obtain ⟨⟨n, u⟩, hy, rfl⟩ := Option.map_eq_some_iff.mp hx
      have tk := tab_sz ((M.mapIdx fun i m => (tx m.1, D.int (i : Nat))).take i)
      have tl : ((M.mapIdx fun i m => (tx m.1, D.int (i : Nat))).take i).length ≤ 1000 := by
        rw [List.length_take, hl]
        omega
      have e : (M.mapIdx fun i m => (tx m.1, D.int (i : Nat)))[i]? = some (tx n, .int (i : Nat)) := by
        rw [List.getElem?_mapIdx, hy]
        rfl
      simp
      refine ⟨by omega, fun x y hq => ?_, ?_⟩
      · have := tk.2 (x, y) hq
        simp at this
        omega
      · rw [tab_take e]
    · rintro Γ2 z2 ⟨rfl, a, b, c, rfl⟩
      rw [show (enumD (M.map fun m => mkD m.1 m.2)).length = (M.mapIdx fun i m => (tx m.1, D.int (i : Nat))).length by rw [enum_len, List.length_map, hl], List.take_length]
      exact k
/-! texts of a ring -/
def it1 (a : List Nat) : List Nat := if a = [] then [95] else a
def rt (a : List Nat) : Str := tx ([40, 32] ++ it1 a ++ [32, 41])
def sp_item_text : Fsp := fun ds R => ∃ a, ds = [.str (tx a)] ∧ R (.str (tx (it1 a)))
theorem c_item_text (W : W0 K mg) : DefF P w K mg base "item_text" ["item"] 1 (SpF sp_item_text) := by
  refine g_item_text W ?_ ?_
  · rintro ds Kd ⟨a, rfl, k⟩
    rfl
  · rintro ds Kd ⟨a, rfl, k⟩
    have e0 : (tx a = Str.ofString "") ↔ a = [] := ⟨fun e => tx_inj (e.trans rfl), fun e => by rw [e] <;> rfl⟩
    have e1 : Str.ofString "_" = tx [95] := rfl
    by_cases h : a = []
    · subst h
      have e2 : tx [] = Str.ofString "" := rfl
      simp [it1] at k
      simpa [R_item_text, e1, e2, init, initO, endsO, dRet, dSeq, dNext, dDrop, dIfS, dSet, dAsg, dPar, dPar3, dNever, dNo1, dVar, dC, dOp, dChain, dB, dAnd, dOr, dNot, dAndV, dOrV, dNotV, dIf, dNil, dCons, dTup, dLst, dCall, dIsi, dIsi2, tyD, isaT, dAdd, dSub, dMul, dMod, dDiv, dPow, dInt2, dLt, dLe, dGt, dGe, dEq, dNe, dIsN, dNotN, dInSign, dInText, dNotInText, dIx, atI, ixN, dSl, dPart, dNo, dCut, dRev, dRevS, dM0, dLen, dAll, dAny, dMax2, dMin2, dList, dgName, dgNil, dgCons, dgTup, dgLst, dItL, dItT, dItR, dItE, dItZ, dItS, dYes, wipeG, noOwn, dMulS, dLstN, dSetN, dCatN, dOwnIx, dOwnLen, dOwnOp, dOpOwn, dApp, dExt, dPopAt, isOwn, isOwnL, dSetIx, dFrz, OD.d, DL.scal, dFld, dOwnFld, getF, dSetF, dMake, dMeth, dEither, dIsiC, dIsiSR, dJoin, dTextOf, dJoined3, dListN, dParN, dLc] using k
    · simp [it1, h] at k
      simpa [R_item_text, e0, e1, h, init, initO, endsO, dRet, dSeq, dNext, dDrop, dIfS, dSet, dAsg, dPar, dPar3, dNever, dNo1, dVar, dC, dOp, dChain, dB, dAnd, dOr, dNot, dAndV, dOrV, dNotV, dIf, dNil, dCons, dTup, dLst, dCall, dIsi, dIsi2, tyD, isaT, dAdd, dSub, dMul, dMod, dDiv, dPow, dInt2, dLt, dLe, dGt, dGe, dEq, dNe, dIsN, dNotN, dInSign, dInText, dNotInText, dIx, atI, ixN, dSl, dPart, dNo, dCut, dRev, dRevS, dM0, dLen, dAll, dAny, dMax2, dMin2, dList, dgName, dgNil, dgCons, dgTup, dgLst, dItL, dItT, dItR, dItE, dItZ, dItS, dYes, wipeG, noOwn, dMulS, dLstN, dSetN, dCatN, dOwnIx, dOwnLen, dOwnOp, dOpOwn, dApp, dExt, dPopAt, isOwn, isOwnL, dSetIx, dFrz, OD.d, DL.scal, dFld, dOwnFld, getF, dSetF, dMake, dMeth, dEither, dIsiC, dIsiSR, dJoin, dTextOf, dJoined3, dListN, dParN, dLc] using k
def sp_items_text : Fsp := fun ds R => ∃ a, ds = [.lst [.str (tx a)]] ∧ okP a ∧ R (.str (tx (it1 a)))
theorem it1_len (a : List Nat) : (it1 a).length ≤ a.length + 1 := by
  unfold it1
  split <;> simp
theorem c_items_text (W : W0 K mg) : DefF P w K mg base "items_text" ["items"] 2 (SpF sp_items_text) := by
  refine g_items_text W (c_item_text W) ?_ ?_
  · rintro ds Kd ⟨a, rfl, h, k⟩
    rfl
  · rintro ds Kd ⟨a, rfl, h, k⟩
    have h1 := h.1
    have := it1_len a
    simp [R_items_text, init, initO, endsO, dRet, dSeq, dNext, dDrop, dIfS, dSet, dAsg, dPar, dPar3, dNever, dNo1, dVar, dC, dOp, dChain, dB, dAnd, dOr, dNot, dAndV, dOrV, dNotV, dIf, dNil, dCons, dTup, dLst, dCall, dIsi, dIsi2, tyD, isaT, dAdd, dSub, dMul, dMod, dDiv, dPow, dInt2, dLt, dLe, dGt, dGe, dEq, dNe, dIsN, dNotN, dInSign, dInText, dNotInText, dIx, atI, ixN, dSl, dPart, dNo, dCut, dRev, dRevS, dM0, dLen, dAll, dAny, dMax2, dMin2, dList, dgName, dgNil, dgCons, dgTup, dgLst, dItL, dItT, dItR, dItE, dItZ, dItS, dYes, wipeG, noOwn, dMulS, dLstN, dSetN, dCatN, dOwnIx, dOwnLen, dOwnOp, dOpOwn, dApp, dExt, dPopAt, isOwn, isOwnL, dSetIx, dFrz, OD.d, DL.scal, dFld, dOwnFld, getF, dSetF, dMake, dMeth, dEither, dIsiC, dIsiSR, dJoin, dTextOf, dJoined3, dListN, dParN, dLc]
    refine ⟨by decide, fun _ => true, fun _ => .str (tx (it1 a)), ⟨rfl, fun _ => ⟨a, rfl, rfl⟩⟩, [tx (it1 a)], rfl, ?_, ?_⟩
    · simp [tx_len]
      show _ + 1 ≤ _
      omega
    · have e : Txt.join " " [tx (it1 a)] = tx (it1 a) := by
        unfold Txt.join
        rw [StrLaws.glued_eq_join] <;> rfl
      rw [e]
      exact k
def sp_reading_text : Fsp := fun ds R => ∃ a, ds = [.lst [.str (tx a)]] ∧ okP a ∧ R (.str (rt a))
theorem c_reading_text (W : W0 K mg) : DefF P w K mg base "reading_text" ["row"] 3 (SpF sp_reading_text) := by
  refine g_reading_text W (c_items_text W) ?_ ?_
  · rintro ds Kd ⟨a, rfl, h, k⟩
    rfl
  · rintro ds Kd ⟨a, rfl, h, k⟩
    have h1 := h.1
    have := it1_len a
    simp [R_reading_text, init, initO, endsO, dRet, dSeq, dNext, dDrop, dIfS, dSet, dAsg, dPar, dPar3, dNever, dNo1, dVar, dC, dOp, dChain, dB, dAnd, dOr, dNot, dAndV, dOrV, dNotV, dIf, dNil, dCons, dTup, dLst, dCall, dIsi, dIsi2, tyD, isaT, dAdd, dSub, dMul, dMod, dDiv, dPow, dInt2, dLt, dLe, dGt, dGe, dEq, dNe, dIsN, dNotN, dInSign, dInText, dNotInText, dIx, atI, ixN, dSl, dPart, dNo, dCut, dRev, dRevS, dM0, dLen, dAll, dAny, dMax2, dMin2, dList, dgName, dgNil, dgCons, dgTup, dgLst, dItL, dItT, dItR, dItE, dItZ, dItS, dYes, wipeG, noOwn, dMulS, dLstN, dSetN, dCatN, dOwnIx, dOwnLen, dOwnOp, dOpOwn, dApp, dExt, dPopAt, isOwn, isOwnL, dSetIx, dFrz, OD.d, DL.scal, dFld, dOwnFld, getF, dSetF, dMake, dMeth, dEither, dIsiC, dIsiSR, dJoin, dTextOf, dJoined3, dListN, dParN, dLc]
    have q1 : (Str.empty ++ Str.ofString "( ") = tx [40, 32] := rfl
    have q2 : Str.ofString " )" = tx [32, 41] := rfl
    rw [q1, q2]
    refine ⟨sz (by rw [tx_len]; decide), a, rfl, h, _, rfl, sz (by rw [tx_len]; omega), ?_, ?_, ?_⟩
    · rw [tx_app, tx_len]
      simp
      exact sz (by omega)
    · rw [tx_app, tx_app, tx_len]
      simp
      exact sz (by omega)
    · rw [tx_app, tx_app]
      exact k
def sp_Strip_row (K : PySem.W.Frag) : Fsp := fun ds R => ∃ P M, ds = [stripD K P M] ∧ R (rowD P M)
def sp_Strip_names (K : PySem.W.Frag) : Fsp := fun ds R => ∃ P M, ds = [stripD K P M] ∧ R (.lst (namesD M))
def sp_Strip_len (K : PySem.W.Frag) : Fsp := fun ds R => ∃ P M, ds = [stripD K P M] ∧ R (.int (numT M).length)
def sp_Ring_row (K : PySem.W.Frag) : Fsp := fun ds R => ∃ a, ds = [ringD K a] ∧ R (.lst [.str (tx a)])
def sp_Ring_len (K : PySem.W.Frag) : Fsp := fun ds R => ∃ a, ds = [ringD K a] ∧ R (.int 0)
def sp_Ring_str (K : PySem.W.Frag) : Fsp := fun ds R => ∃ a, ds = [ringD K a] ∧ okP a ∧ R (.str (rt a))
theorem c_Strip_row (W : W0 K mg) : MethF P w K mg base (He.ga K "Strip") "row" ["self"] 1 (SpF (sp_Strip_row K)) := by
  refine g_Strip_row W ?_ ?_
  · rintro ds Kd ⟨a, M, rfl, k⟩
    rfl
  · rintro ds Kd ⟨a, M, rfl, k⟩
    simp [R_Strip_row, init, initO, endsO, dRet, dSeq, dNext, dDrop, dIfS, dSet, dAsg, dPar, dPar3, dNever, dNo1, dVar, dC, dOp, dChain, dB, dAnd, dOr, dNot, dAndV, dOrV, dNotV, dIf, dNil, dCons, dTup, dLst, dCall, dIsi, dIsi2, tyD, isaT, dAdd, dSub, dMul, dMod, dDiv, dPow, dInt2, dLt, dLe, dGt, dGe, dEq, dNe, dIsN, dNotN, dInSign, dInText, dNotInText, dIx, atI, ixN, dSl, dPart, dNo, dCut, dRev, dRevS, dM0, dLen, dAll, dAny, dMax2, dMin2, dList, dgName, dgNil, dgCons, dgTup, dgLst, dItL, dItT, dItR, dItE, dItZ, dItS, dYes, wipeG, noOwn, dMulS, dLstN, dSetN, dCatN, dOwnIx, dOwnLen, dOwnOp, dOpOwn, dApp, dExt, dPopAt, isOwn, isOwnL, dSetIx, dFrz, OD.d, DL.scal, dFld, dOwnFld, getF, dSetF, dMake, dMeth, dEither, dIsiC, dIsiSR, dJoin, dTextOf, dJoined3, dListN, dParN, dLc]
    exact ⟨_, _, ⟨rfl, rfl⟩, _, rfl, k⟩
theorem c_Strip_names (W : W0 K mg) : MethF P w K mg base (He.ga K "Strip") "names" ["self"] 1 (SpF (sp_Strip_names K)) := by
  refine g_Strip_names W ?_ ?_
  · rintro ds Kd ⟨a, M, rfl, k⟩
    rfl
  · rintro ds Kd ⟨a, M, rfl, k⟩
    simp [R_Strip_names, init, initO, endsO, dRet, dSeq, dNext, dDrop, dIfS, dSet, dAsg, dPar, dPar3, dNever, dNo1, dVar, dC, dOp, dChain, dB, dAnd, dOr, dNot, dAndV, dOrV, dNotV, dIf, dNil, dCons, dTup, dLst, dCall, dIsi, dIsi2, tyD, isaT, dAdd, dSub, dMul, dMod, dDiv, dPow, dInt2, dLt, dLe, dGt, dGe, dEq, dNe, dIsN, dNotN, dInSign, dInText, dNotInText, dIx, atI, ixN, dSl, dPart, dNo, dCut, dRev, dRevS, dM0, dLen, dAll, dAny, dMax2, dMin2, dList, dgName, dgNil, dgCons, dgTup, dgLst, dItL, dItT, dItR, dItE, dItZ, dItS, dYes, wipeG, noOwn, dMulS, dLstN, dSetN, dCatN, dOwnIx, dOwnLen, dOwnOp, dOpOwn, dApp, dExt, dPopAt, isOwn, isOwnL, dSetIx, dFrz, OD.d, DL.scal, dFld, dOwnFld, getF, dSetF, dMake, dMeth, dEither, dIsiC, dIsiSR, dJoin, dTextOf, dJoined3, dListN, dParN, dLc]
    refine ⟨_, _, ⟨rfl, rfl⟩, _, rfl, ?_⟩
    simp [tabD]
    simp [namesD] at k
    exact k
theorem c_Ring_row (W : W0 K mg) : MethF P w K mg base (He.ga K "Ring") "row" ["self"] 1 (SpF (sp_Ring_row K)) := by
  refine g_Ring_row W ?_ ?_
  · rintro ds Kd ⟨a, rfl, k⟩
    rfl
  · rintro ds Kd ⟨a, rfl, k⟩
    simp [R_Ring_row, init, initO, endsO, dRet, dSeq, dNext, dDrop, dIfS, dSet, dAsg, dPar, dPar3, dNever, dNo1, dVar, dC, dOp, dChain, dB, dAnd, dOr, dNot, dAndV, dOrV, dNotV, dIf, dNil, dCons, dTup, dLst, dCall, dIsi, dIsi2, tyD, isaT, dAdd, dSub, dMul, dMod, dDiv, dPow, dInt2, dLt, dLe, dGt, dGe, dEq, dNe, dIsN, dNotN, dInSign, dInText, dNotInText, dIx, atI, ixN, dSl, dPart, dNo, dCut, dRev, dRevS, dM0, dLen, dAll, dAny, dMax2, dMin2, dList, dgName, dgNil, dgCons, dgTup, dgLst, dItL, dItT, dItR, dItE, dItZ, dItS, dYes, wipeG, noOwn, dMulS, dLstN, dSetN, dCatN, dOwnIx, dOwnLen, dOwnOp, dOpOwn, dApp, dExt, dPopAt, isOwn, isOwnL, dSetIx, dFrz, OD.d, DL.scal, dFld, dOwnFld, getF, dSetF, dMake, dMeth, dEither, dIsiC, dIsiSR, dJoin, dTextOf, dJoined3, dListN, dParN, dLc]
    exact ⟨_, _, ⟨rfl, rfl⟩, _, rfl, k⟩
theorem c_Strip_len (W : W0 K mg) : MethF P w K mg base (He.ga K "Strip") "__len__" ["self"] 1 (SpF (sp_Strip_len K)) := by
  refine g_Strip_len W ?_ ?_
  · rintro ds Kd ⟨a, M, rfl, k⟩
    rfl
  · rintro ds Kd ⟨a, M, rfl, k⟩
    simp [R_Strip_len, init, initO, endsO, dRet, dSeq, dNext, dDrop, dIfS, dSet, dAsg, dPar, dPar3, dNever, dNo1, dVar, dC, dOp, dChain, dB, dAnd, dOr, dNot, dAndV, dOrV, dNotV, dIf, dNil, dCons, dTup, dLst, dCall, dIsi, dIsi2, tyD, isaT, dAdd, dSub, dMul, dMod, dDiv, dPow, dInt2, dLt, dLe, dGt, dGe, dEq, dNe, dIsN, dNotN, dInSign, dInText, dNotInText, dIx, atI, ixN, dSl, dPart, dNo, dCut, dRev, dRevS, dM0, dLen, dAll, dAny, dMax2, dMin2, dList, dgName, dgNil, dgCons, dgTup, dgLst, dItL, dItT, dItR, dItE, dItZ, dItS, dYes, wipeG, noOwn, dMulS, dLstN, dSetN, dCatN, dOwnIx, dOwnLen, dOwnOp, dOpOwn, dApp, dExt, dPopAt, isOwn, isOwnL, dSetIx, dFrz, OD.d, DL.scal, dFld, dOwnFld, getF, dSetF, dMake, dMeth, dEither, dIsiC, dIsiSR, dJoin, dTextOf, dJoined3, dListN, dParN, dLc]
    refine ⟨_, _, ⟨rfl, rfl⟩, _, rfl, ?_⟩
    simpa [tabD] using k
theorem c_Ring_len (W : W0 K mg) : MethF P w K mg base (He.ga K "Ring") "__len__" ["self"] 1 (SpF (sp_Ring_len K)) := by
  refine g_Ring_len W ?_ ?_
  · rintro ds Kd ⟨a, rfl, k⟩
    rfl
  · rintro ds Kd ⟨a, rfl, k⟩
    simp [R_Ring_len, dStep, init, initO, endsO, dRet, dSeq, dNext, dDrop, dIfS, dSet, dAsg, dPar, dPar3, dNever, dNo1, dVar, dC, dOp, dChain, dB, dAnd, dOr, dNot, dAndV, dOrV, dNotV, dIf, dNil, dCons, dTup, dLst, dCall, dIsi, dIsi2, tyD, isaT, dAdd, dSub, dMul, dMod, dDiv, dPow, dInt2, dLt, dLe, dGt, dGe, dEq, dNe, dIsN, dNotN, dInSign, dInText, dNotInText, dIx, atI, ixN, dSl, dPart, dNo, dCut, dRev, dRevS, dM0, dLen, dAll, dAny, dMax2, dMin2, dList, dgName, dgNil, dgCons, dgTup, dgLst, dItL, dItT, dItR, dItE, dItZ, dItS, dYes, wipeG, noOwn, dMulS, dLstN, dSetN, dCatN, dOwnIx, dOwnLen, dOwnOp, dOpOwn, dApp, dExt, dPopAt, isOwn, isOwnL, dSetIx, dFrz, OD.d, DL.scal, dFld, dOwnFld, getF, dSetF, dMake, dMeth, dEither, dIsiC, dIsiSR, dJoin, dTextOf, dJoined3, dListN, dParN, dLc]
    refine ⟨_, _, ⟨rfl, rfl⟩, _, rfl, _, rfl, ?_, ?_⟩
    · rw [pick12]
      exact sz (by simp)
    · rw [pick12]
      simpa using k
theorem c_Ring_str (W : W0 K mg) : MethF P w K mg base (He.ga K "Ring") "__str__" ["self"] 4 (SpF (sp_Ring_str K)) := by
  refine g_Ring_str W (c_reading_text W) ?_ ?_
  · rintro ds Kd ⟨a, rfl, h, k⟩
    rfl
  · rintro ds Kd ⟨a, rfl, h, k⟩
    have h1 := h.1
    have := it1_len a
    simp [R_Ring_str, init, initO, endsO, dRet, dSeq, dNext, dDrop, dIfS, dSet, dAsg, dPar, dPar3, dNever, dNo1, dVar, dC, dOp, dChain, dB, dAnd, dOr, dNot, dAndV, dOrV, dNotV, dIf, dNil, dCons, dTup, dLst, dCall, dIsi, dIsi2, tyD, isaT, dAdd, dSub, dMul, dMod, dDiv, dPow, dInt2, dLt, dLe, dGt, dGe, dEq, dNe, dIsN, dNotN, dInSign, dInText, dNotInText, dIx, atI, ixN, dSl, dPart, dNo, dCut, dRev, dRevS, dM0, dLen, dAll, dAny, dMax2, dMin2, dList, dgName, dgNil, dgCons, dgTup, dgLst, dItL, dItT, dItR, dItE, dItZ, dItS, dYes, wipeG, noOwn, dMulS, dLstN, dSetN, dCatN, dOwnIx, dOwnLen, dOwnOp, dOpOwn, dApp, dExt, dPopAt, isOwn, isOwnL, dSetIx, dFrz, OD.d, DL.scal, dFld, dOwnFld, getF, dSetF, dMake, dMeth, dEither, dIsiC, dIsiSR, dJoin, dTextOf, dJoined3, dListN, dParN, dLc]
    refine ⟨_, _, ⟨rfl, rfl⟩, _, rfl, a, rfl, h, _, rfl, ?_, k⟩
    unfold rt
    rw [tx_len]
    simp
    exact sz (by omega)
def sp_require_reading : Fsp := fun ds R => ∃ a, ds = [.lst [.str (tx a)]] ∧ okP a ∧ R .non
theorem ok1 {a : List Nat} (h : okP a) : okR [a] [] := ⟨rfl, by simp, fun x hx => by rw [List.mem_singleton.mp hx]; exact h, fun x hx => nomatch hx⟩
theorem c_require_reading (W : W0 K mg) : DefF P w K mg base "require_reading" ["row"] 5 (SpF sp_require_reading) := by
  refine g_require_reading W (c_is_sequence W) (c_require_items W) ?_ ?_
  · rintro ds Kd ⟨a, rfl, h, k⟩
    rfl
  · rintro ds Kd ⟨a, rfl, h, k⟩
    simp [R_require_reading, init, initO, endsO, dRet, dSeq, dNext, dDrop, dIfS, dSet, dAsg, dPar, dPar3, dNever, dNo1, dVar, dC, dOp, dChain, dB, dAnd, dOr, dNot, dAndV, dOrV, dNotV, dIf, dNil, dCons, dTup, dLst, dCall, dIsi, dIsi2, tyD, isaT, dAdd, dSub, dMul, dMod, dDiv, dPow, dInt2, dLt, dLe, dGt, dGe, dEq, dNe, dIsN, dNotN, dInSign, dInText, dNotInText, dIx, atI, ixN, dSl, dPart, dNo, dCut, dRev, dRevS, dM0, dLen, dAll, dAny, dMax2, dMin2, dList, dgName, dgNil, dgCons, dgTup, dgLst, dItL, dItT, dItR, dItE, dItZ, dItS, dYes, wipeG, noOwn, dMulS, dLstN, dSetN, dCatN, dOwnIx, dOwnLen, dOwnOp, dOpOwn, dApp, dExt, dPopAt, isOwn, isOwnL, dSetIx, dFrz, OD.d, DL.scal, dFld, dOwnFld, getF, dSetF, dMake, dMeth, dEither, dIsiC, dIsiSR, dJoin, dTextOf, dJoined3, dListN, dParN, dLc]
    refine ⟨_, rfl, ?_⟩
    simp
    exact ⟨[a], [], rfl, ok1 h, k⟩
/-- the numbers of a name's marks -/
def sp_Strip_require_name (K : PySem.W.Frag) : Fsp := fun ds R => ∃ P M n, ds = [stripD K P M, .str n] ∧ n ∈ (numT M).map (·.1) ∧ R .non
theorem find_some {κ : Type} [DecidableEq κ] {k : κ} : ∀ {ks : List κ} {ds : List D}, k ∈ ks → ds.length = ks.length → (findD ks ds k).isSome = true
  | [], _, h, _ => nomatch h
  | x :: ks, [], _, h => nomatch h
  | x :: ks, d :: ds, h, hl => by
    unfold findD
    rw [List.findIdx?_cons]
    by_cases e : x = k
    · simp [e]
    · have h' : k ∈ ks := (List.mem_cons.mp h).resolve_left fun z => e z.symm
      have := find_some (ds := ds) h' (by simpa using hl)
      unfold findD at this
      simp only [e, decide_false, Bool.false_eq_true, if_false]
      cases q : ks.findIdx? fun z => decide (z = k) with
      | none =>
        rw [q] at this
        cases this
      | some i =>
        rw [q] at this
        simpa using this
theorem c_Strip_require_name (W : W0 K mg) : MethF P w K mg base (He.ga K "Strip") "require_name" ["self", "name"] 1 (SpF (sp_Strip_require_name K)) := by
  refine g_Strip_require_name W ?_ ?_
  · rintro ds Kd ⟨a, M, n, rfl, h, k⟩
    rfl
  · rintro ds Kd ⟨a, M, n, rfl, h, k⟩
    simp [R_Strip_require_name, dDNotIn, init, initO, endsO, dRet, dSeq, dNext, dDrop, dIfS, dSet, dAsg, dPar, dPar3, dNever, dNo1, dVar, dC, dOp, dChain, dB, dAnd, dOr, dNot, dAndV, dOrV, dNotV, dIf, dNil, dCons, dTup, dLst, dCall, dIsi, dIsi2, tyD, isaT, dAdd, dSub, dMul, dMod, dDiv, dPow, dInt2, dLt, dLe, dGt, dGe, dEq, dNe, dIsN, dNotN, dInSign, dInText, dNotInText, dIx, atI, ixN, dSl, dPart, dNo, dCut, dRev, dRevS, dM0, dLen, dAll, dAny, dMax2, dMin2, dList, dgName, dgNil, dgCons, dgTup, dgLst, dItL, dItT, dItR, dItE, dItZ, dItS, dYes, wipeG, noOwn, dMulS, dLstN, dSetN, dCatN, dOwnIx, dOwnLen, dOwnOp, dOpOwn, dApp, dExt, dPopAt, isOwn, isOwnL, dSetIx, dFrz, OD.d, DL.scal, dFld, dOwnFld, getF, dSetF, dMake, dMeth, dEither, dIsiC, dIsiSR, dJoin, dTextOf, dJoined3, dListN, dParN, dLc]
    refine ⟨_, _, ⟨rfl, rfl⟩, _, rfl, _, .inl rfl, ?_, k⟩
    intro e
    have z := find_some (k := (.inr n : Key)) (ks := (numT M).map fun q => .inr q.1) (ds := (numT M).map fun q => .lst q.2) (by
      obtain ⟨q, hq, rfl⟩ := List.mem_map.mp h
      exact List.mem_map.mpr ⟨q, hq, rfl⟩) (by simp)
    rw [e] at z
    cases z
def sp_Strip_init (K : PySem.W.Frag) : TFO := fun o ds R => ∃ P M, o = .ins (He.ga K "Strip") [] [] ∧ ds = [rowD P M] ∧ okR P M ∧ (∀ q ∈ numT M, q.2.length = 2) ∧ (numT M).length ≤ 12 ∧ R .non (.ins (He.ga K "Strip") ["kept_row", "kept_places"] [rowD P M, tabD (numT M)])
theorem c_Strip_init (W : W0 K mg) : MakeF P w K mg base (He.ga K "Strip") "Strip" ["self", "row"] 6 (SpO (sp_Strip_init K)) := by
  refine g_Strip_init W (c_require_row W) (c_marker_numbers W) ?_ ?_
  · rintro o ds Kd ⟨a, M, rfl, rfl, h⟩
    rfl
  · rintro o ds Kd ⟨a, M, rfl, rfl, h, h2, h12, k⟩
    simp [R_Strip_init, dItems2, init, initO, endsO, dRet, dSeq, dNext, dDrop, dIfS, dSet, dAsg, dPar, dPar3, dNever, dNo1, dVar, dC, dOp, dChain, dB, dAnd, dOr, dNot, dAndV, dOrV, dNotV, dIf, dNil, dCons, dTup, dLst, dCall, dIsi, dIsi2, tyD, isaT, dAdd, dSub, dMul, dMod, dDiv, dPow, dInt2, dLt, dLe, dGt, dGe, dEq, dNe, dIsN, dNotN, dInSign, dInText, dNotInText, dIx, atI, ixN, dSl, dPart, dNo, dCut, dRev, dRevS, dM0, dLen, dAll, dAny, dMax2, dMin2, dList, dgName, dgNil, dgCons, dgTup, dgLst, dItL, dItT, dItR, dItE, dItZ, dItS, dYes, wipeG, noOwn, dMulS, dLstN, dSetN, dCatN, dOwnIx, dOwnLen, dOwnOp, dOpOwn, dApp, dExt, dPopAt, isOwn, isOwnL, dSetIx, dFrz, OD.d, DL.scal, dFld, dOwnFld, getF, dSetF, dMake, dMeth, dEither, dIsiC, dIsiSR, dJoin, dTextOf, dJoined3, dListN, dParN, dLc]
    refine ⟨a, M, rfl, h, _, _, ⟨rfl, rfl⟩, by decide, _, _, ⟨rfl, rfl⟩, _, rfl, a, M, rfl, h, _, _, ⟨rfl, rfl⟩, (show 1 < 1000 by decide), _, _, ⟨rfl, rfl⟩, _, _, rfl, ?_, _, _, ⟨rfl, rfl⟩, _, rfl, ?_⟩
    · rintro e he
      obtain ⟨q, hq, rfl⟩ := List.mem_map.mp he
      have := h2 q hq
      match q.2, this with
      | [x, y], _ => exact ⟨x, y, rfl⟩
    · have e : decide ((12 : Int) < ((((numT M).map fun q => (.inr q.1 : Key)).length : Nat) : Int)) = false := by
        rw [List.length_map]
        exact decide_eq_false (by omega)
      show (match D.bl (decide ((12 : Int) < ((((numT M).map fun q => (.inr q.1 : Key)).length : Nat) : Int))) with
        | .bl b => b = false ∧ _
        | _ => False)
      rw [e]
      exact ⟨rfl, k⟩
/-! readings -/
def rots (a : List Nat) : List (List Nat) := (List.range (max 1 a.length)).map fun s => a.drop s ++ a.take s
def rds (a : List Nat) : List (List Nat) := rots a ++ rots (fl a)
def rac (a : List Nat) : Nat → List (List Nat)
  | 0 => []
  | 1 => rots a
  | _ => rds a
theorem cut_lo (x : List Nat) (n : Nat) : cutS (tx x) (some (n : Int)) none = tx (x.drop n) := by
  unfold cutS
  rw [tx_list, tx_len, HT.sIx_nat, HT.sIx_none]
  show tx _ = tx _
  congr 1
  rw [List.take_of_length_le (by simp)]
  by_cases h : n ≤ x.length
  · rw [Nat.min_eq_left h]
  · rw [Nat.min_eq_right (by omega), List.drop_eq_nil_of_le (Nat.le_refl _), List.drop_eq_nil_of_le (by omega)]
theorem cut_hi (x : List Nat) (n : Nat) : cutS (tx x) none (some (n : Int)) = tx (x.take n) := by
  unfold cutS
  rw [tx_list, tx_len, HT.sIx_nat, HT.sIx_none]
  show tx _ = tx _
  congr 1
  rw [List.drop_zero, Nat.sub_zero]
  by_cases h : n ≤ x.length
  · rw [Nat.min_eq_left h]
  · rw [Nat.min_eq_right (by omega), List.take_of_length_le (Nat.le_refl _), List.take_of_length_le (by omega)]
def sp_readings : Fsp := fun ds R => ∃ a, ds = [.lst [.str (tx a)]] ∧ okP a ∧ R (.lst ((rds a).map fun b => .lst [.str (tx b)]))
theorem c_readings (W : W0 K mg) : DefF P w K mg base "readings" ["row"] 2 (SpF sp_readings) := by
  refine g_readings W (c_flipped_piece W) ?_ ?_
  · rintro ds Kd ⟨a, rfl, h, k⟩
    rfl
  · rintro ds Kd ⟨a, rfl, h, k⟩
    simp [R_readings, dFor, init, initO, endsO, dRet, dSeq, dNext, dDrop, dIfS, dSet, dAsg, dPar, dPar3, dNever, dNo1, dVar, dC, dOp, dChain, dB, dAnd, dOr, dNot, dAndV, dOrV, dNotV, dIf, dNil, dCons, dTup, dLst, dCall, dIsi, dIsi2, tyD, isaT, dAdd, dSub, dMul, dMod, dDiv, dPow, dInt2, dLt, dLe, dGt, dGe, dEq, dNe, dIsN, dNotN, dInSign, dInText, dNotInText, dIx, atI, ixN, dSl, dPart, dNo, dCut, dRev, dRevS, dM0, dLen, dAll, dAny, dMax2, dMin2, dList, dgName, dgNil, dgCons, dgTup, dgLst, dItL, dItT, dItR, dItE, dItZ, dItS, dYes, wipeG, noOwn, dMulS, dLstN, dSetN, dCatN, dOwnIx, dOwnLen, dOwnOp, dOpOwn, dApp, dExt, dPopAt, isOwn, isOwnL, dSetIx, dFrz, OD.d, DL.scal, dFld, dOwnFld, getF, dSetF, dMake, dMeth, dEither, dIsiC, dIsiSR, dJoin, dTextOf, dJoined3, dListN, dParN, dLc]
    refine ⟨a, rfl, h, by decide, fun i Γ => ∃ b, Γ = [.val (.lst [.str (tx a)]), .own (.lst ((rac a i).map fun b => .lst [.str (tx b)])), b, .un, .un, .un], ⟨_, rfl⟩, ?_, ?_⟩
    · rintro i d Γ2 hd ⟨b, rfl⟩
      have : ∃ x, d = .str (tx x) ∧ okP x ∧ rac a (i + 1) = rac a i ++ rots x ∧ (rac a i).length ≤ 1001 := by
        match i, hd with
        | 0, hd =>
          cases hd
          exact ⟨a, rfl, h, rfl, by simp [rac]⟩
        | 1, hd =>
          cases hd
          refine ⟨fl a, rfl, h.fl, rfl, ?_⟩
          have := h.1
          simp [rac, rots]
          omega
        | i + 2, hd => simp at hd
      obtain ⟨x, rfl, hx, hacc, hlen⟩ := this
      have h1 := hx.1
      have emax : (if (1 : Int) < (x.length : Nat) then ((x.length : Nat) : Int) else 1).toNat = max 1 x.length := by split <;> omega
      simp [tx_len, upTo_len, emax]
      obtain ⟨f, hf⟩ := fn_of (List.range (max 1 x.length)) (fun k => D.int (k : Nat)) (fun k => .lst [.str (tx (x.drop k ++ x.take k))]) fun p q _ _ e => by
        have : p = q := by
          injection e with e
          omega
        rw [this]
      refine ⟨sz (by omega), by split <;> omega, by split <;> omega, sz (by omega), fun _ => true, f, fun k hk => ⟨rfl, fun _ => ?_⟩, ?_, ?_⟩
      · obtain ⟨n, hn, rfl⟩ := List.mem_map.mp (show k ∈ (List.range _).map fun i : Nat => D.int (i : Int) from hk)
        have hfn := hf n hn
        show _ ∧ _ ∧ _ ∧ _ ∧ _
        rw [cut_lo, cut_hi, tx_app, tx_len, tx_len, hfn]
        have h2 : (x.drop n).length + (x.take n).length ≤ 1000 := by simp; omega
        exact ⟨sz (by omega), sz (by omega), sz (by omega), by decide, rfl⟩
      · rw [filter_tr, upTo_len]
        exact sz (by omega)
      · rw [filter_tr, hacc, List.map_append]
        congr 1
        unfold DL.upTo rots
        rw [List.map_map, List.map_map]
        exact List.map_congr_left fun n hn => hf n hn
    · rintro Γ2 ⟨b, rfl⟩
      exact k
def best (a : List Nat) : Nat := argBest (btS fun i => rt ((rds a).getD i [])) ((rds a).length - 1)
def canon (a : List Nat) : List Nat := (rds a).getD (best a) []
theorem rots_ok {a b : List Nat} (h : okP a) (hb : b ∈ rots a) : okP b := by
  obtain ⟨k, hk, rfl⟩ := List.mem_map.mp hb
  have h1 := h.1
  refine ⟨by simp; omega, fun c hc => ?_⟩
  rcases List.mem_append.mp hc with hc | hc
  · exact h.2 c (List.mem_of_mem_drop hc)
  · exact h.2 c (List.mem_of_mem_take hc)
theorem rds_ok {a b : List Nat} (h : okP a) (hb : b ∈ rds a) : okP b := by
  rcases List.mem_append.mp hb with hb | hb
  · exact rots_ok h hb
  · exact rots_ok h.fl hb
theorem rds_pos (a : List Nat) : 0 < (rds a).length := by
  unfold rds rots
  simp
  omega
theorem lst_irr (a : List Nat) : ¬ a < a := List.lt_irrefl a
theorem argBest_lt_le (key : Nat → Str) : ∀ k, argBest (btS key) k ≤ k ∧ ∀ j, j ≤ k → ¬ (key j).cps.toList < (key (argBest (btS key) k)).cps.toList
  | 0 => ⟨Nat.le_refl _, fun j hj => by
    have : j = 0 := by omega
    subst this
    exact lst_irr _⟩
  | k + 1 => by
    obtain ⟨h1, h2⟩ := argBest_lt_le key k
    show (if btS key (k + 1) (argBest (btS key) k) then k + 1 else argBest (btS key) k) ≤ k + 1 ∧ ∀ j, j ≤ k + 1 → ¬ (key j).cps.toList < (key (if btS key (k + 1) (argBest (btS key) k) then k + 1 else argBest (btS key) k)).cps.toList
    cases q : btS key (k + 1) (argBest (btS key) k) with
    | true =>
      simp only [if_true]
      refine ⟨Nat.le_refl _, fun j hj => ?_⟩
      have q' : (key (k + 1)).cps.toList < (key (argBest (btS key) k)).cps.toList := of_decide_eq_true q
      by_cases e : j = k + 1
      · subst e
        exact lst_irr _
      · intro z
        exact h2 j (by omega) (List.lt_trans z q')
    | false =>
      simp only [Bool.false_eq_true, if_false]
      refine ⟨by omega, fun j hj => ?_⟩
      by_cases e : j = k + 1
      · subst e
        exact of_decide_eq_false q
      · exact h2 j (by omega)
def sp_Ring_init (K : PySem.W.Frag) : TFO := fun o ds R => ∃ a, o = .ins (He.ga K "Ring") [] [] ∧ ds = [.lst [.str (tx a)]] ∧ okP a ∧ R .non (.ins (He.ga K "Ring") ["kept_row"] [.lst [.str (tx (canon a))]])
theorem c_Ring_init (W : W0 K mg) : MakeF P w K mg base (He.ga K "Ring") "Ring" ["self", "row"] 6 (SpO (sp_Ring_init K)) := by
  refine g_Ring_init W (c_require_reading W) (c_reading_text W) (c_readings W) ?_ ?_
  · rintro o ds Kd ⟨a, rfl, rfl, h⟩
    rfl
  · rintro o ds Kd ⟨a, rfl, rfl, h, k⟩
    simp [R_Ring_init, dMinK, init, initO, endsO, dRet, dSeq, dNext, dDrop, dIfS, dSet, dAsg, dPar, dPar3, dNever, dNo1, dVar, dC, dOp, dChain, dB, dAnd, dOr, dNot, dAndV, dOrV, dNotV, dIf, dNil, dCons, dTup, dLst, dCall, dIsi, dIsi2, tyD, isaT, dAdd, dSub, dMul, dMod, dDiv, dPow, dInt2, dLt, dLe, dGt, dGe, dEq, dNe, dIsN, dNotN, dInSign, dInText, dNotInText, dIx, atI, ixN, dSl, dPart, dNo, dCut, dRev, dRevS, dM0, dLen, dAll, dAny, dMax2, dMin2, dList, dgName, dgNil, dgCons, dgTup, dgLst, dItL, dItT, dItR, dItE, dItZ, dItS, dYes, wipeG, noOwn, dMulS, dLstN, dSetN, dCatN, dOwnIx, dOwnLen, dOwnOp, dOpOwn, dApp, dExt, dPopAt, isOwn, isOwnL, dSetIx, dFrz, OD.d, DL.scal, dFld, dOwnFld, getF, dSetF, dMake, dMeth, dEither, dIsiC, dIsiSR, dJoin, dTextOf, dJoined3, dListN, dParN, dLc]
    refine ⟨a, rfl, h, a, rfl, h, _, rfl, fun i => rt ((rds a).getD i []), fun i c hc => ?_, .lst [.str (tx (canon a))], ?_, _, _, ⟨rfl, rfl⟩, by decide, k⟩
    · rw [List.getElem?_map] at hc
      obtain ⟨b, hb, rfl⟩ := Option.map_eq_some_iff.mp hc
      exact ⟨b, rfl, rds_ok h (List.mem_of_getElem? hb), by
        show D.str (rt b) = D.str (rt ((rds a).getD i []))
        rw [List.getD_eq_getElem?_getD, hb] <;> rfl⟩
    · rw [List.length_map, List.getElem?_map]
      have hl : best a < (rds a).length := by
        have := (argBest_lt_le (fun i => rt ((rds a).getD i [])) ((rds a).length - 1)).1
        have := rds_pos a
        unfold best
        omega
      show Option.map _ (rds a)[best a]? = _
      rw [List.getElem?_eq_getElem hl]
      unfold canon
      rw [List.getD_eq_getElem?_getD, List.getElem?_eq_getElem hl]
      rfl
end
end MS
set_option maxHeartbeats 4000000
/-! data that may be compared; the scrambling defs -/
namespace MS
open PySem PySem.Spec PyProof.Rows L2 DL NL
/-! init, initO, endsO, dRet, dSeq, dNext, dDrop, dIfS, dSet, dAsg, dPar, dPar3, dNever, dNo1, dVar, dC, dOp, dChain, dB, dAnd, dOr, dNot, dAndV, dOrV, dNotV, dIf, dNil, dCons, dTup, dLst, dCall, dIsi, dIsi2, tyD, isaT, dAdd, dSub, dMul, dMod, dDiv, dPow, dInt2, dLt, dLe, dGt, dGe, dEq, dNe, dIsN, dNotN, dInSign, dInText, dNotInText, dIx, dSl, dPart, dNo, dCut, dRev, dRevS, dM0, dLen, dAll, dAny, dMax2, dMin2, dList, dgName, dgNil, dgCons, dgTup, dgLst, dItL, dItT, dItR, dItE, dItZ, dItS, dYes, wipeG, noOwn, dMulS, dLstN, dSetN, dCatN, dOwnIx, dOwnLen, dOwnOp, dOpOwn, dApp, dExt, dPopAt, isOwn, isOwnL, dSetIx, dFrz, OD.d, DL.scal, dFld, dOwnFld, getF, dSetF, dMake, dMeth, dEither, dIsiC, dIsiSR, dJoin, dTextOf, dJoined3, dListN, dParN, dLc# compared -/
def shD (n : Nat) (d : D) : Prop := isPy d = true ∧ PyData.canLay0 (py d) = true ∧ PyData.depth (py d) ≤ n
theorem shp_of {n : Nat} {d : D} (h : shD n d) (hn : n ≤ 64) : shp d = true := by
  unfold shp SeqAt.shaped
  rw [h.1, h.2.1]
  simp
  have := h.2.2
  omega
theorem shD_all {n : Nat} : ∀ {ds : List D}, (∀ d ∈ ds, shD n d) → isPys ds = true ∧ PyData.canLayAll0 (pys ds) = true ∧ PyData.depthAll (pys ds) ≤ n
  | [], _ => ⟨rfl, rfl, Nat.zero_le _⟩
  | d :: ds, h => by
    obtain ⟨h1, h2, h3⟩ := h d List.mem_cons_self
    obtain ⟨g1, g2, g3⟩ := shD_all fun e he => h e (List.mem_cons_of_mem _ he)
    refine ⟨?_, ?_, ?_⟩
    · show (isPy d && isPys ds) = true
      rw [h1, g1] <;> rfl
    · show (PyData.canLay0 (py d) && PyData.canLayAll0 (pys ds)) = true
      rw [h2, g2] <;> rfl
    · show max (PyData.depth (py d)) (PyData.depthAll (pys ds)) ≤ n
      omega
theorem shD_lst {n : Nat} {ds : List D} (h : ∀ d ∈ ds, shD n d) : shD (n + 1) (.lst ds) := by
  obtain ⟨g1, g2, g3⟩ := shD_all h
  exact ⟨g1, g2, Nat.succ_le_succ g3⟩
theorem shD_tup {n : Nat} {ds : List D} (h : ∀ d ∈ ds, shD n d) : shD (n + 1) (.tup ds) := by
  obtain ⟨g1, g2, g3⟩ := shD_all h
  exact ⟨g1, g2, Nat.succ_le_succ g3⟩
theorem shD.up {n m : Nat} {d : D} (h : shD n d) (hm : n ≤ m) : shD m d := ⟨h.1, h.2.1, Nat.le_trans h.2.2 hm⟩
theorem shD_int {n : Nat} (i : Int) : shD n (.int i) := ⟨rfl, rfl, Nat.zero_le _⟩
theorem shD_bl {n : Nat} (i : Bool) : shD n (.bl i) := ⟨rfl, rfl, Nat.zero_le _⟩
theorem shD_non {n : Nat} : shD n .non := ⟨rfl, rfl, Nat.zero_le _⟩
theorem strOk_tx {a : List Nat} (h : ∀ c ∈ a, c < 128) : PyData.strOk (tx a) = true := by
  unfold PyData.strOk
  rw [Array.all_eq_true']
  intro c hc
  have := h c (by simpa [tx] using hc)
  exact decide_eq_true (by omega)
theorem shD_tx {n : Nat} {a : List Nat} (h : ∀ c ∈ a, c < 128) : shD n (.str (tx a)) := ⟨rfl, strOk_tx h, Nat.zero_le _⟩
theorem eqv_nil (ds : List D) : PyData.eqv (py (.lst ds)) (py (.lst [])) = ds.isEmpty := by
  cases ds <;> rfl
theorem okN.asc {a : List Nat} (h : okN a) : ∀ c ∈ a, c < 128 := fun c hc => isL_lt (h.2.2 c hc)
theorem shD_it {x : It} (h : okI x) : shD 1 (itD x) := by
  cases x with
  | pc a => exact shD_tx h.2.asc
  | mk n u =>
    refine shD_tup fun d hd => ?_
    rcases List.mem_cons.mp hd with rfl | hd
    · exact shD_tx h.asc
    · cases List.mem_singleton.mp hd
      exact shD_bl _
section
variable {P : Program} {w : World} {K : PySem.W.Frag} {mg : Str → Option Value} {base : Heap}
theorem mul_true (l : List D) (f : D → D) (h : ∀ d ∈ l, f d = .bl true) : l.map f = (List.replicate l.length true).map D.bl := by
  rw [List.map_congr_left h, map_const, List.map_replicate]
def sp_require_strip (K : PySem.W.Frag) : Fsp := fun ds R => ∃ P M, ds = [stripD K P M] ∧ R .non
theorem c_require_strip (W : W0 K mg) : DefF P w K mg base "require_strip" ["strip"] 1 (SpF (sp_require_strip K)) := by
  refine g_require_strip W ?_ ?_
  · rintro ds Kd ⟨a, M, rfl, k⟩
    rfl
  · rintro ds Kd ⟨a, M, rfl, k⟩
    simp [R_require_strip, init, initO, endsO, dRet, dSeq, dNext, dDrop, dIfS, dSet, dAsg, dPar, dPar3, dNever, dNo1, dVar, dC, dOp, dChain, dB, dAnd, dOr, dNot, dAndV, dOrV, dNotV, dIf, dNil, dCons, dTup, dLst, dCall, dIsi, dIsi2, tyD, isaT, dAdd, dSub, dMul, dMod, dDiv, dPow, dInt2, dLt, dLe, dGt, dGe, dEq, dNe, dIsN, dNotN, dInSign, dInText, dNotInText, dIx, atI, ixN, dSl, dPart, dNo, dCut, dRev, dRevS, dM0, dLen, dAll, dAny, dMax2, dMin2, dList, dgName, dgNil, dgCons, dgTup, dgLst, dItL, dItT, dItR, dItE, dItZ, dItS, dYes, wipeG, noOwn, dMulS, dLstN, dSetN, dCatN, dOwnIx, dOwnLen, dOwnOp, dOpOwn, dApp, dExt, dPopAt, isOwn, isOwnL, dSetIx, dFrz, OD.d, DL.scal, dFld, dOwnFld, getF, dSetF, dMake, dMeth, dEither, dIsiC, dIsiSR, dJoin, dTextOf, dJoined3, dListN, dParN, dLc]
    exact k
def sp_are_unique_names : Fsp := fun ds R => ∃ ns : List (List Nat), ds = [.lst (ns.map fun n => .str (tx n))] ∧ ns.length ≤ 1000 ∧ (∀ n ∈ ns, okN n) ∧ ns.Nodup ∧ R (.bl true)
theorem nodup_map {α β : Type} {f : α → β} (hf : ∀ x y, f x = f y → x = y) : ∀ {l : List α}, l.Nodup → (l.map f).Nodup
  | [], _ => List.nodup_nil
  | x :: l, h => by
    rw [List.map_cons, List.nodup_cons]
    obtain ⟨h1, h2⟩ := List.nodup_cons.mp h
    refine ⟨fun z => ?_, nodup_map hf h2⟩
    obtain ⟨y, hy, e⟩ := List.mem_map.mp z
    exact h1 (hf _ _ e ▸ hy)
theorem c_are_unique_names_crossings (W : W0 K mg) : DefF P w K mg base "are_unique_names_crossings" ["value"] 2 (SpF sp_are_unique_names) := by
  refine g_are_unique_names_crossings W (c_is_sequence W) (c_is_name W) ?_ ?_
  · rintro ds Kd ⟨ns, rfl, h, h2, h3, k⟩
    rfl
  · rintro ds Kd ⟨ns, rfl, h, h2, h3, k⟩
    simp [R_are_unique_names_crossings, dLenSet, init, initO, endsO, dRet, dSeq, dNext, dDrop, dIfS, dSet, dAsg, dPar, dPar3, dNever, dNo1, dVar, dC, dOp, dChain, dB, dAnd, dOr, dNot, dAndV, dOrV, dNotV, dIf, dNil, dCons, dTup, dLst, dCall, dIsi, dIsi2, tyD, isaT, dAdd, dSub, dMul, dMod, dDiv, dPow, dInt2, dLt, dLe, dGt, dGe, dEq, dNe, dIsN, dNotN, dInSign, dInText, dNotInText, dIx, atI, ixN, dSl, dPart, dNo, dCut, dRev, dRevS, dM0, dLen, dAll, dAny, dMax2, dMin2, dList, dgName, dgNil, dgCons, dgTup, dgLst, dItL, dItT, dItR, dItE, dItZ, dItS, dYes, wipeG, noOwn, dMulS, dLstN, dSetN, dCatN, dOwnIx, dOwnLen, dOwnOp, dOpOwn, dApp, dExt, dPopAt, isOwn, isOwnL, dSetIx, dFrz, OD.d, DL.scal, dFld, dOwnFld, getF, dSetF, dMake, dMeth, dEither, dIsiC, dIsiSR, dJoin, dTextOf, dJoined3, dListN, dParN, dLc]
    refine ⟨_, rfl, ?_⟩
    refine ⟨sz (by omega), fun _ => true, fun _ => .bl true, fun n hn => ⟨rfl, fun _ => ⟨n, rfl, h2 n hn, rfl⟩⟩, List.replicate ns.length true, ?_, ?_⟩
    · rw [filter_tr, mul_true _ _ (fun _ _ => rfl), List.length_map]
    · simp
      refine ⟨ns.map fun n => .inr (tx n), ?_, ?_, ?_, ?_⟩
      · rw [List.map_map]
        rfl
      · exact nodup_map (fun x y e => tx_inj (Sum.inr.inj e)) h3
      · rw [List.length_map]
        exact h
      · simp
        exact k
def sp_require_pieces : Fsp := fun ds R => ∃ (ps : List (List Nat)) (lo hi : Nat), ds = [.lst (ps.map fun n => .str (tx n)), .int lo, .int hi] ∧ lo ≤ ps.length ∧ ps.length ≤ hi ∧ (∀ n ∈ ps, okP n) ∧ R .non
theorem c_require_pieces (W : W0 K mg) : DefF P w K mg base "require_pieces" ["pieces", "least", "most"] 3 (SpF sp_require_pieces) := by
  refine g_require_pieces W (c_is_sequence W) (c_require_piece W) ?_ ?_
  · rintro ds Kd ⟨ns, lo, hi, rfl, h, h2, h3, k⟩
    rfl
  · rintro ds Kd ⟨ns, lo, hi, rfl, h, h2, h3, k⟩
    simp [R_require_pieces, dFor, h, h2, init, initO, endsO, dRet, dSeq, dNext, dDrop, dIfS, dSet, dAsg, dPar, dPar3, dNever, dNo1, dVar, dC, dOp, dChain, dB, dAnd, dOr, dNot, dAndV, dOrV, dNotV, dIf, dNil, dCons, dTup, dLst, dCall, dIsi, dIsi2, tyD, isaT, dAdd, dSub, dMul, dMod, dDiv, dPow, dInt2, dLt, dLe, dGt, dGe, dEq, dNe, dIsN, dNotN, dInSign, dInText, dNotInText, dIx, atI, ixN, dSl, dPart, dNo, dCut, dRev, dRevS, dM0, dLen, dAll, dAny, dMax2, dMin2, dList, dgName, dgNil, dgCons, dgTup, dgLst, dItL, dItT, dItR, dItE, dItZ, dItS, dYes, wipeG, noOwn, dMulS, dLstN, dSetN, dCatN, dOwnIx, dOwnLen, dOwnOp, dOpOwn, dApp, dExt, dPopAt, isOwn, isOwnL, dSetIx, dFrz, OD.d, DL.scal, dFld, dOwnFld, getF, dSetF, dMake, dMeth, dEither, dIsiC, dIsiSR, dJoin, dTextOf, dJoined3, dListN, dParN, dLc]
    refine ⟨_, rfl, ?_⟩
    simp [h, h2]
    refine ⟨fun _ Γ => ∃ a, Γ = [.val (.lst (ns.map fun n => .str (tx n))), .val (.int lo), .val (.int hi), a], ⟨_, rfl⟩, ?_, fun _ _ => k⟩
    rintro i d Γ2 n hd rfl ⟨a, rfl⟩
    simp
    exact ⟨n, rfl, h3 n (List.mem_of_getElem? hd), trivial⟩
def sp_require_order : Fsp := fun ds R => ∃ (os : List Nat), ds = [.lst (os.map fun n => .int (n : Nat)), .int os.length] ∧ os.length ≤ 1000 ∧ (∀ n ∈ os, n < os.length) ∧ os.Nodup ∧ R .non
theorem c_require_order (W : W0 K mg) : DefF P w K mg base "require_order" ["order", "count"] 2 (SpF sp_require_order) := by
  refine g_require_order W (c_is_sequence W) (c_is_integer W) ?_ ?_
  · rintro ds Kd ⟨ns, rfl, h, h2, h3, k⟩
    rfl
  · rintro ds Kd ⟨ns, rfl, h, h2, h3, k⟩
    simp [R_require_order, dLenSet, init, initO, endsO, dRet, dSeq, dNext, dDrop, dIfS, dSet, dAsg, dPar, dPar3, dNever, dNo1, dVar, dC, dOp, dChain, dB, dAnd, dOr, dNot, dAndV, dOrV, dNotV, dIf, dNil, dCons, dTup, dLst, dCall, dIsi, dIsi2, tyD, isaT, dAdd, dSub, dMul, dMod, dDiv, dPow, dInt2, dLt, dLe, dGt, dGe, dEq, dNe, dIsN, dNotN, dInSign, dInText, dNotInText, dIx, atI, ixN, dSl, dPart, dNo, dCut, dRev, dRevS, dM0, dLen, dAll, dAny, dMax2, dMin2, dList, dgName, dgNil, dgCons, dgTup, dgLst, dItL, dItT, dItR, dItE, dItZ, dItS, dYes, wipeG, noOwn, dMulS, dLstN, dSetN, dCatN, dOwnIx, dOwnLen, dOwnOp, dOpOwn, dApp, dExt, dPopAt, isOwn, isOwnL, dSetIx, dFrz, OD.d, DL.scal, dFld, dOwnFld, getF, dSetF, dMake, dMeth, dEither, dIsiC, dIsiSR, dJoin, dTextOf, dJoined3, dListN, dParN, dLc]
    refine ⟨_, rfl, ?_⟩
    refine ⟨rfl, sz (by omega), fun _ => true, fun _ => .bl true, fun n hn => ⟨rfl, fun _ => ⟨_, _, _, rfl, ?_⟩⟩, List.replicate ns.length true, ?_, ?_⟩
    · have := h2 n hn
      rw [decide_eq_true (by omega)]
    · rw [filter_tr, mul_true _ _ (fun _ _ => rfl), List.length_map]
    · refine ⟨by simp, ns.map fun n => .inl (n : Nat), ?_, ?_, ?_, ?_⟩
      · rw [List.map_map]
        rfl
      · exact nodup_map (fun x y e => by have := Sum.inl.inj e; omega) h3
      · rw [List.length_map]
        exact h
      · simp
        exact k
def sp_require_flips : Fsp := fun ds R => ∃ (fs : List Bool), ds = [.lst (fs.map D.bl), .int fs.length] ∧ fs.length ≤ 1000 ∧ R .non
theorem c_require_flips (W : W0 K mg) : DefF P w K mg base "require_flips" ["flips", "count"] 2 (SpF sp_require_flips) := by
  refine g_require_flips W (c_is_sequence W) ?_ ?_
  · rintro ds Kd ⟨ns, rfl, h, k⟩
    rfl
  · rintro ds Kd ⟨ns, rfl, h, k⟩
    simp [R_require_flips, init, initO, endsO, dRet, dSeq, dNext, dDrop, dIfS, dSet, dAsg, dPar, dPar3, dNever, dNo1, dVar, dC, dOp, dChain, dB, dAnd, dOr, dNot, dAndV, dOrV, dNotV, dIf, dNil, dCons, dTup, dLst, dCall, dIsi, dIsi2, tyD, isaT, dAdd, dSub, dMul, dMod, dDiv, dPow, dInt2, dLt, dLe, dGt, dGe, dEq, dNe, dIsN, dNotN, dInSign, dInText, dNotInText, dIx, atI, ixN, dSl, dPart, dNo, dCut, dRev, dRevS, dM0, dLen, dAll, dAny, dMax2, dMin2, dList, dgName, dgNil, dgCons, dgTup, dgLst, dItL, dItT, dItR, dItE, dItZ, dItS, dYes, wipeG, noOwn, dMulS, dLstN, dSetN, dCatN, dOwnIx, dOwnLen, dOwnOp, dOpOwn, dApp, dExt, dPopAt, isOwn, isOwnL, dSetIx, dFrz, OD.d, DL.scal, dFld, dOwnFld, getF, dSetF, dMake, dMeth, dEither, dIsiC, dIsiSR, dJoin, dTextOf, dJoined3, dListN, dParN, dLc]
    refine ⟨_, rfl, ?_⟩
    simp
    refine ⟨sz (by omega), fun _ => true, fun _ => .bl true, ?_, List.replicate ns.length true, ?_, ?_⟩
    · rintro d (⟨_, rfl⟩ | ⟨_, rfl⟩) <;> exact ⟨rfl, fun _ => ⟨_, rfl, rfl⟩⟩
    · rw [filter_tr, mul_true _ _ (fun _ _ => rfl), List.length_map]
    · exact ⟨by simp, k⟩
theorem get_getD {α : Type} {l : List α} {k : Nat} {d : α} (h : k < l.length) : l[k]? = some (l.getD k d) := by
  rw [List.getD_eq_getElem?_getD, List.getElem?_eq_getElem h]
  rfl
theorem atI_nat {α : Type} {l : List α} {k : Nat} {x : α} (h : l[k]? = some x) : atI l (k : Int) = some x := by
  have hl : k < l.length := (List.getElem?_eq_some_iff.mp h).1
  unfold atI ixN
  rw [if_pos (by omega), if_pos (by omega)]
  simpa using h
def blk (S Nm : List (List Nat)) (k : Nat) : List It := (if 0 < k then [.mk (Nm.getD (k - 1) []) true] else []) ++ .pc (S.getD k []) :: (if k + 1 < S.length then [.mk (Nm.getD k []) true] else [])
def sp_segment_block : Fsp := fun ds R => ∃ (S Nm : List (List Nat)) (k : Nat), ds = [.lst (S.map fun a => .str (tx a)), .lst (Nm.map fun a => .str (tx a)), .int k] ∧ Nm.length + 1 = S.length ∧ S.length ≤ 1000 ∧ k < S.length ∧ R (.lst ((blk S Nm k).map itD))
theorem c_segment_block (W : W0 K mg) : DefF P w K mg base "segment_block" ["segments", "names", "number"] 1 (SpF sp_segment_block) := by
  refine g_segment_block W ?_ ?_
  · rintro ds Kd ⟨S, Nm, k, rfl, _⟩
    rfl
  · rintro ds Kd ⟨S, Nm, k, rfl, h1, h2, h3, q⟩
    have z1 : 1 ≤ sizeLine := by decide
    have z2 : 2 ≤ sizeLine := by decide
    have z3 : 2 < sizeLine := by decide
    have z4 : 1 < sizeLine := by decide
    unfold blk at q
    obtain ⟨x, gS⟩ : ∃ x, S[k]? = some x := ⟨_, List.getElem?_eq_getElem h3⟩
    have dS : S.getD k [] = x := by rw [List.getD_eq_getElem?_getD, gS] <;> rfl
    rw [dS] at q
    have i1 : atI (S.map fun a => D.str (tx a)) ((k : Nat) : Int) = some (.str (tx x)) := atI_nat (by rw [List.getElem?_map, gS] <;> rfl)
    have i2 : ∀ y, Nm[k]? = some y → atI (Nm.map fun a => D.str (tx a)) ((k : Nat) : Int) = some (.str (tx y)) := fun y h => atI_nat (by rw [List.getElem?_map, h] <;> rfl)
    by_cases c0 : 0 < k
    · obtain ⟨y, gN⟩ : ∃ y, Nm[k - 1]? = some y := ⟨_, List.getElem?_eq_getElem (by omega)⟩
      have dN : Nm.getD (k - 1) [] = y := by rw [List.getD_eq_getElem?_getD, gN] <;> rfl
      have i3 : atI (Nm.map fun a => D.str (tx a)) (((k : Nat) : Int) - 1) = some (.str (tx y)) := by
        rw [show ((k : Nat) : Int) - 1 = ((k - 1 : Nat) : Int) by omega]
        exact atI_nat (by rw [List.getElem?_map, gN] <;> rfl)
      rw [dN] at q
      by_cases c1 : k + 1 < S.length
      · have e3 : ((k : Nat) : Int) < (S.length : Nat) - 1 := by omega
        obtain ⟨v, gM⟩ : ∃ y, Nm[k]? = some y := ⟨_, List.getElem?_eq_getElem (by omega)⟩
        have dM : Nm.getD k [] = v := by rw [List.getD_eq_getElem?_getD, gM] <;> rfl
        rw [dM] at q
        simp [c0, c1, itD] at q
        simp [R_segment_block, c0, i1, i2 v gM, i3, e3, z1, z2, z3, z4, init, initO, endsO, dRet, dSeq, dNext, dDrop, dIfS, dSet, dAsg, dPar, dPar3, dNever, dNo1, dVar, dC, dOp, dChain, dB, dAnd, dOr, dNot, dAndV, dOrV, dNotV, dIf, dNil, dCons, dTup, dLst, dCall, dIsi, dIsi2, tyD, isaT, dAdd, dSub, dMul, dMod, dDiv, dPow, dInt2, dLt, dLe, dGt, dGe, dEq, dNe, dIsN, dNotN, dInSign, dInText, dNotInText, dIx, dSl, dPart, dNo, dCut, dRev, dRevS, dM0, dLen, dAll, dAny, dMax2, dMin2, dList, dgName, dgNil, dgCons, dgTup, dgLst, dItL, dItT, dItR, dItE, dItZ, dItS, dYes, wipeG, noOwn, dMulS, dLstN, dSetN, dCatN, dOwnIx, dOwnLen, dOwnOp, dOpOwn, dApp, dExt, dPopAt, isOwn, isOwnL, dSetIx, dFrz, OD.d, DL.scal, dFld, dOwnFld, getF, dSetF, dMake, dMeth, dEither, dIsiC, dIsiSR, dJoin, dTextOf, dJoined3, dListN, dParN, dLc]
        exact q
      · have e3 : ¬ ((k : Nat) : Int) < (S.length : Nat) - 1 := by omega
        simp [c0, c1, itD] at q
        simp [R_segment_block, c0, i1, i3, e3, z1, z2, z3, z4, init, initO, endsO, dRet, dSeq, dNext, dDrop, dIfS, dSet, dAsg, dPar, dPar3, dNever, dNo1, dVar, dC, dOp, dChain, dB, dAnd, dOr, dNot, dAndV, dOrV, dNotV, dIf, dNil, dCons, dTup, dLst, dCall, dIsi, dIsi2, tyD, isaT, dAdd, dSub, dMul, dMod, dDiv, dPow, dInt2, dLt, dLe, dGt, dGe, dEq, dNe, dIsN, dNotN, dInSign, dInText, dNotInText, dIx, dSl, dPart, dNo, dCut, dRev, dRevS, dM0, dLen, dAll, dAny, dMax2, dMin2, dList, dgName, dgNil, dgCons, dgTup, dgLst, dItL, dItT, dItR, dItE, dItZ, dItS, dYes, wipeG, noOwn, dMulS, dLstN, dSetN, dCatN, dOwnIx, dOwnLen, dOwnOp, dOpOwn, dApp, dExt, dPopAt, isOwn, isOwnL, dSetIx, dFrz, OD.d, DL.scal, dFld, dOwnFld, getF, dSetF, dMake, dMeth, dEither, dIsiC, dIsiSR, dJoin, dTextOf, dJoined3, dListN, dParN, dLc]
        exact q
    · by_cases c1 : k + 1 < S.length
      · have e3 : ((k : Nat) : Int) < (S.length : Nat) - 1 := by omega
        obtain ⟨v, gM⟩ : ∃ y, Nm[k]? = some y := ⟨_, List.getElem?_eq_getElem (by omega)⟩
        have dM : Nm.getD k [] = v := by rw [List.getD_eq_getElem?_getD, gM] <;> rfl
        rw [dM] at q
        simp [c0, c1, itD] at q
        simp [R_segment_block, c0, i1, i2 v gM, e3, z1, z2, z3, z4, init, initO, endsO, dRet, dSeq, dNext, dDrop, dIfS, dSet, dAsg, dPar, dPar3, dNever, dNo1, dVar, dC, dOp, dChain, dB, dAnd, dOr, dNot, dAndV, dOrV, dNotV, dIf, dNil, dCons, dTup, dLst, dCall, dIsi, dIsi2, tyD, isaT, dAdd, dSub, dMul, dMod, dDiv, dPow, dInt2, dLt, dLe, dGt, dGe, dEq, dNe, dIsN, dNotN, dInSign, dInText, dNotInText, dIx, dSl, dPart, dNo, dCut, dRev, dRevS, dM0, dLen, dAll, dAny, dMax2, dMin2, dList, dgName, dgNil, dgCons, dgTup, dgLst, dItL, dItT, dItR, dItE, dItZ, dItS, dYes, wipeG, noOwn, dMulS, dLstN, dSetN, dCatN, dOwnIx, dOwnLen, dOwnOp, dOpOwn, dApp, dExt, dPopAt, isOwn, isOwnL, dSetIx, dFrz, OD.d, DL.scal, dFld, dOwnFld, getF, dSetF, dMake, dMeth, dEither, dIsiC, dIsiSR, dJoin, dTextOf, dJoined3, dListN, dParN, dLc]
        exact q
      · have e3 : ¬ ((k : Nat) : Int) < (S.length : Nat) - 1 := by omega
        simp [c0, c1, itD] at q
        simp [R_segment_block, c0, i1, e3, z1, z2, z3, z4, init, initO, endsO, dRet, dSeq, dNext, dDrop, dIfS, dSet, dAsg, dPar, dPar3, dNever, dNo1, dVar, dC, dOp, dChain, dB, dAnd, dOr, dNot, dAndV, dOrV, dNotV, dIf, dNil, dCons, dTup, dLst, dCall, dIsi, dIsi2, tyD, isaT, dAdd, dSub, dMul, dMod, dDiv, dPow, dInt2, dLt, dLe, dGt, dGe, dEq, dNe, dIsN, dNotN, dInSign, dInText, dNotInText, dIx, dSl, dPart, dNo, dCut, dRev, dRevS, dM0, dLen, dAll, dAny, dMax2, dMin2, dList, dgName, dgNil, dgCons, dgTup, dgLst, dItL, dItT, dItR, dItE, dItZ, dItS, dYes, wipeG, noOwn, dMulS, dLstN, dSetN, dCatN, dOwnIx, dOwnLen, dOwnOp, dOpOwn, dApp, dExt, dPopAt, isOwn, isOwnL, dSetIx, dFrz, OD.d, DL.scal, dFld, dOwnFld, getF, dSetF, dMake, dMeth, dEither, dIsiC, dIsiSR, dJoin, dTextOf, dJoined3, dListN, dParN, dLc]
        exact q
end
end MS
set_option maxHeartbeats 4000000
/-! merge_pieces, scramble, contains -/
namespace MS
open PySem PySem.Spec PyProof.Rows L2 DL NL
theorem atI_last {α : Type} (l : List α) (x : α) : atI (l ++ [x]) (-1) = some x := by
  unfold atI ixN
  rw [if_neg (by omega), if_pos (by simp; omega)]
  simp only [Option.bind_some]
  rw [show ((-1 : Int) + ((l ++ [x]).length : Nat)).toNat = l.length by simp; omega]
  simp
theorem ixN_last {α : Type} (l : List α) (x : α) : ixN (l ++ [x]).length (-1) = some l.length := by
  unfold ixN
  rw [if_neg (by omega), if_pos (by simp; omega)]
  congr 1
  simp
  omega
/-- one more item -/
def mg (acc : List It) (x : It) : List It := match acc.getLast?, x with
  | some (.pc a), .pc b => acc.dropLast ++ [.pc (a ++ b)]
  | _, x => acc ++ [x]
theorem mg_nil (x : It) : mg [] x = [x] := by cases x <;> rfl
theorem mg_pp (l : List It) (a b : List Nat) : mg (l ++ [.pc a]) (.pc b) = l ++ [.pc (a ++ b)] := by simp [mg]
theorem mg_pm (l : List It) (a n : List Nat) (u : Bool) : mg (l ++ [.pc a]) (.mk n u) = l ++ [.pc a] ++ [.mk n u] := by simp [mg]
theorem mg_mx (l : List It) (n : List Nat) (u : Bool) (x : It) : mg (l ++ [.mk n u]) x = l ++ [.mk n u] ++ [x] := by simp [mg]
def ilen : It → Nat
  | .pc a => a.length
  | .mk _ _ => 0
def tot (l : List It) : Nat := (l.map ilen).sum
theorem tot_app (a b : List It) : tot (a ++ b) = tot a + tot b := by simp [tot]
theorem tot_one (x : It) : tot [x] = ilen x := by simp [tot]
def mgs (xs : List It) : List It := xs.foldl mg []
/-- letters of the pieces, names of the marks -/
def okJ : It → Prop
  | .pc a => Lt a
  | .mk n _ => okN n
theorem okI.j {x : It} (h : okI x) : okJ x := by
  cases x with
  | pc a => exact h.2
  | mk n u => exact h
theorem shD_jt {x : It} (h : okJ x) : shD 1 (itD x) := by
  cases x with
  | pc a => exact shD_tx h.asc
  | mk n u => exact shD_it (x := .mk n u) h
theorem mg_ok {acc : List It} {x : It} (h : ∀ y ∈ acc, okJ y) (hx : okJ x) : (∀ y ∈ mg acc x, okJ y) ∧ tot (mg acc x) = tot acc + ilen x ∧ (mg acc x).length ≤ acc.length + 1 := by
  rcases List.eq_nil_or_concat acc with rfl | ⟨l, y, e⟩
  · rw [mg_nil, tot_one]
    exact ⟨fun y hy => by rw [List.mem_singleton.mp hy]; exact hx, by simp [tot], by simp⟩
  · rw [List.concat_eq_append] at e
    subst e
    have app : (∀ z ∈ l ++ [y] ++ [x], okJ z) ∧ tot (l ++ [y] ++ [x]) = tot (l ++ [y]) + ilen x ∧ (l ++ [y] ++ [x]).length ≤ (l ++ [y]).length + 1 := by
      refine ⟨fun z hz => ?_, by rw [tot_app, tot_one], by simp⟩
      rcases List.mem_append.mp hz with hz | hz
      · exact h z hz
      · rw [List.mem_singleton.mp hz]
        exact hx
    cases y with
    | mk n u => rw [mg_mx]; exact app
    | pc a => cases x with
      | mk n u => rw [mg_pm]; exact app
      | pc b =>
        rw [mg_pp]
        refine ⟨fun z hz => ?_, ?_, by simp⟩
        · rcases List.mem_append.mp hz with hz | hz
          · exact h z (List.mem_append_left _ hz)
          · rw [List.mem_singleton.mp hz]
            exact Lt.app (h (.pc a) (List.mem_append_right _ (List.mem_singleton.mpr rfl))) hx
        · rw [tot_app, tot_app, tot_one, tot_one]
          simp [ilen]
          omega
theorem mgs_ok {xs : List It} (h : ∀ y ∈ xs, okJ y) : (∀ y ∈ mgs xs, okJ y) ∧ tot (mgs xs) = tot xs ∧ (mgs xs).length ≤ xs.length := by
  have gen : ∀ (xs acc : List It), (∀ y ∈ xs, okJ y) → (∀ y ∈ acc, okJ y) → (∀ y ∈ xs.foldl mg acc, okJ y) ∧ tot (xs.foldl mg acc) = tot acc + tot xs ∧ (xs.foldl mg acc).length ≤ acc.length + xs.length := by
    intro xs
    induction xs with
    | nil => exact fun acc _ ha => ⟨ha, by simp [tot], by simp⟩
    | cons x xs ih =>
      intro acc hx ha
      obtain ⟨h1, h2, h3⟩ := mg_ok ha (hx x List.mem_cons_self)
      obtain ⟨g1, g2, g3⟩ := ih (mg acc x) (fun y hy => hx y (List.mem_cons_of_mem _ hy)) h1
      refine ⟨g1, ?_, ?_⟩
      · rw [List.foldl_cons, g2, h2, show x :: xs = [x] ++ xs from rfl, tot_app, tot_one]
        omega
      · rw [List.foldl_cons, List.length_cons]
        omega
  have := gen xs [] h (fun _ h => nomatch h)
  simpa [mgs, tot] using this
theorem mgs_take {xs : List It} {i : Nat} {x : It} (h : xs[i]? = some x) : mgs (xs.take (i + 1)) = mg (mgs (xs.take i)) x := by
  unfold mgs
  rw [List.take_add_one, h, List.foldl_append]
  rfl
theorem tot_take (xs : List It) (i : Nat) : tot (xs.take i) ≤ tot xs := by
  have := tot_app (xs.take i) (xs.drop i)
  rw [List.take_append_drop] at this
  omega
theorem ilen_le {xs : List It} {x : It} (h : x ∈ xs) : ilen x ≤ tot xs := by
  induction xs with
  | nil => cases h
  | cons y xs ih =>
    rw [show y :: xs = [y] ++ xs from rfl, tot_app, tot_one]
    rcases List.mem_cons.mp h with rfl | h
    · omega
    · have := ih h
      omega
section
variable {P : Program} {w : World} {K : PySem.W.Frag} {mg' : Str → Option Value} {base : Heap}
def sp_merge_pieces : Fsp := fun ds R => ∃ xs : List It, ds = [.lst (xs.map itD)] ∧ xs.length ≤ 1000 ∧ tot xs ≤ 1000 ∧ (∀ x ∈ xs, okJ x) ∧ R (.lst ((mgs xs).map itD))
theorem c_merge_pieces (W : W0 K mg') : DefF P w K mg' base "merge_pieces" ["items"] 1 (SpF sp_merge_pieces) := by
  refine g_merge_pieces W ?_ ?_
  · rintro ds Kd ⟨S, rfl, _⟩
    rfl
  · rintro ds Kd ⟨xs, rfl, h1, h2, h3, q⟩
    simp [R_merge_pieces, dFor, init, initO, endsO, dRet, dSeq, dNext, dDrop, dIfS, dSet, dAsg, dPar, dPar3, dNever, dNo1, dVar, dC, dOp, dChain, dB, dAnd, dOr, dNot, dAndV, dOrV, dNotV, dIf, dNil, dCons, dTup, dLst, dCall, dIsi, dIsi2, tyD, isaT, dAdd, dSub, dMul, dMod, dDiv, dPow, dInt2, dLt, dLe, dGt, dGe, dEq, dNe, dIsN, dNotN, dInSign, dInText, dNotInText, dIx, dSl, dPart, dNo, dCut, dRev, dRevS, dM0, dLen, dAll, dAny, dMax2, dMin2, dList, dgName, dgNil, dgCons, dgTup, dgLst, dItL, dItT, dItR, dItE, dItZ, dItS, dYes, wipeG, noOwn, dMulS, dLstN, dSetN, dCatN, dOwnIx, dOwnLen, dOwnOp, dOpOwn, dApp, dExt, dPopAt, isOwn, isOwnL, dSetIx, dFrz, OD.d, DL.scal, dFld, dOwnFld, getF, dSetF, dMake, dMeth, dEither, dIsiC, dIsiSR, dJoin, dTextOf, dJoined3, dListN, dParN, dLc]
    refine ⟨fun i Γ => ∃ a, Γ = [.val (.lst (xs.map itD)), .own (.lst ((mgs (xs.take i)).map itD)), a], ⟨_, rfl⟩, ?_, ?_⟩
    · rintro i d Γ2 x hx rfl ⟨a, rfl⟩
      have okx := h3 x (List.mem_of_getElem? hx)
      obtain ⟨g1, g2, g3⟩ := mgs_ok (xs := xs.take i) fun y hy => h3 y (List.mem_of_mem_take hy)
      have gt := tot_take xs i
      have gl : (xs.take i).length ≤ xs.length := by rw [List.length_take]; omega
      have il := ilen_le (List.mem_of_getElem? hx)
      simp only [mgs_take hx]
      generalize mgs (xs.take i) = acc at *
      have sh : shp (.lst (acc.map itD)) = true := shp_of (n := 2) (shD_lst fun d hd => by
        obtain ⟨y, hy, rfl⟩ := List.mem_map.mp hd
        exact shD_jt (g1 y hy)) (by decide)
      have s0 : shp (.lst []) = true := rfl
      have la : acc.length < sizeLine := Nat.lt_of_le_of_lt (show acc.length ≤ 1000 by omega) (by decide)
      simp [sh, s0, eqv_nil]
      rcases List.eq_nil_or_concat acc with rfl | ⟨l, y, e⟩
      · simp [mg_nil]
        decide
      · rw [List.concat_eq_append] at e
        subst e
        have ai : atI (List.map itD (l ++ [y])) (-1) = some (itD y) := by
          rw [List.map_append]
          exact atI_last _ _
        have ix := ixN_last l y
        have la' : l.length + 1 < sizeLine := by simpa using la
        rw [if_neg (by simp), ai, ix]
        cases x with
        | mk n u =>
          refine ⟨.tup, rfl, ?_⟩
          rw [if_neg (by decide)]
          refine ⟨la, ?_⟩
          cases y with
          | mk n2 u2 => rw [mg_mx, List.map_append (l₁ := l ++ [It.mk n2 u2])] <;> rfl
          | pc b => rw [mg_pm, List.map_append (l₁ := l ++ [It.pc b])] <;> rfl
        | pc b =>
          refine ⟨.str, rfl, ?_⟩
          rw [if_pos rfl]
          refine ⟨_, rfl, ?_⟩
          cases y with
          | mk n2 u2 =>
            refine ⟨.tup, rfl, ?_⟩
            rw [if_neg (by decide)]
            exact ⟨la, by rw [mg_mx, List.map_append (l₁ := l ++ [It.mk n2 u2])] <;> rfl⟩
          | pc c =>
            refine ⟨.str, rfl, ?_⟩
            rw [if_pos rfl]
            have cl : c.length ≤ tot (l ++ [.pc c]) := ilen_le (x := .pc c) (List.mem_append_right _ (List.mem_singleton.mpr rfl))
            have bl : b.length ≤ tot xs := il
            refine ⟨_, rfl, ?_⟩
            show _ ≤ _ ∧ _
            rw [tx_len, tx_len]
            refine ⟨sz (by omega), _, rfl, ?_⟩
            rw [mg_pp, tx_app, List.map_append, List.map_append]
            rw [List.set_append_right _ _ (by simp)]
            simp [itD]
    · rintro Γ2 ⟨a, rfl⟩
      simp
      exact q
def inT (a b : List Nat) : Bool := inText (tx a) (tx b)
def sp_contains (K : PySem.W.Frag) : Fsp := fun ds R => ∃ (d : D) (wh t : List Nat), ds = [d, .str (tx wh)] ∧ okP wh ∧ okP t ∧ ((d = stripD K [t] [] ∧ R (.bl (inT wh t || inT (fl wh) t))) ∨ (d = ringD K t ∧ R (.bl (decide (wh.length ≤ t.length) && (inT wh (t ++ t) || inT (fl wh) (t ++ t))))))
theorem c_contains (W : W0 K mg') : DefF P w K mg' base "contains" ["part", "piece"] 3 (SpF (sp_contains K)) := by
  refine g_contains W (c_require_piece W) (c_Strip_row W) (c_Ring_row W) (c_flipped_piece W) ?_ ?_
  · rintro ds Kd ⟨S, _, _, rfl, _⟩
    rfl
  · rintro ds Kd ⟨d, wh, t, rfl, hw, ht, ⟨rfl, q⟩ | ⟨rfl, q⟩⟩
    · simp [R_contains, dStep, init, initO, endsO, dRet, dSeq, dNext, dDrop, dIfS, dSet, dAsg, dPar, dPar3, dNever, dNo1, dVar, dC, dOp, dChain, dB, dAnd, dOr, dNot, dAndV, dOrV, dNotV, dIf, dNil, dCons, dTup, dLst, dCall, dIsi, dIsi2, tyD, isaT, dAdd, dSub, dMul, dMod, dDiv, dPow, dInt2, dLt, dLe, dGt, dGe, dEq, dNe, dIsN, dNotN, dInSign, dInText, dNotInText, dIx, dSl, dPart, dNo, dCut, dRev, dRevS, dM0, dLen, dAll, dAny, dMax2, dMin2, dList, dgName, dgNil, dgCons, dgTup, dgLst, dItL, dItT, dItR, dItE, dItZ, dItS, dYes, wipeG, noOwn, dMulS, dLstN, dSetN, dCatN, dOwnIx, dOwnLen, dOwnOp, dOpOwn, dApp, dExt, dPopAt, isOwn, isOwnL, dSetIx, dFrz, OD.d, DL.scal, dFld, dOwnFld, getF, dSetF, dMake, dMeth, dEither, dIsiC, dIsiSR, dJoin, dTextOf, dJoined3, dListN, dParN, dLc]
      have hp : pickG ((row [t] []).map itD) none none (some 2) = [.str (tx t)] := pieces_of_row (PP := [t]) (M := []) rfl
      have ne : ¬ He.ga K (Str.ofString "Strip") = He.ga K (Str.ofString "Ring") := (W.two 57 62 rfl rfl).ne
      refine ⟨wh, rfl, hw, .inl ⟨_, _, ⟨rfl, rfl⟩, rfl, [t], [], rfl, _, rfl, ?_⟩⟩
      rw [hp, if_neg ne]
      refine ⟨sz (by simp), sz (by simp), fun _ => true, fun _ => .bl (inT wh t || inT (fl wh) t), ?_, [inT wh t || inT (fl wh) t], rfl, ?_⟩
      · intro d hd
        rw [List.mem_singleton.mp hd]
        refine ⟨rfl, fun _ => ?_⟩
        cases e : inT wh t with
        | true =>
          unfold inT at e
          simp [e]
        | false =>
          have e' := e
          unfold inT at e
          simp [e]
          exact ⟨wh, rfl, hw, rfl⟩
      · simpa using q
    · simp [R_contains, dStep, init, initO, endsO, dRet, dSeq, dNext, dDrop, dIfS, dSet, dAsg, dPar, dPar3, dNever, dNo1, dVar, dC, dOp, dChain, dB, dAnd, dOr, dNot, dAndV, dOrV, dNotV, dIf, dNil, dCons, dTup, dLst, dCall, dIsi, dIsi2, tyD, isaT, dAdd, dSub, dMul, dMod, dDiv, dPow, dInt2, dLt, dLe, dGt, dGe, dEq, dNe, dIsN, dNotN, dInSign, dInText, dNotInText, dIx, dSl, dPart, dNo, dCut, dRev, dRevS, dM0, dLen, dAll, dAny, dMax2, dMin2, dList, dgName, dgNil, dgCons, dgTup, dgLst, dItL, dItT, dItR, dItE, dItZ, dItS, dYes, wipeG, noOwn, dMulS, dLstN, dSetN, dCatN, dOwnIx, dOwnLen, dOwnOp, dOpOwn, dApp, dExt, dPopAt, isOwn, isOwnL, dSetIx, dFrz, OD.d, DL.scal, dFld, dOwnFld, getF, dSetF, dMake, dMeth, dEither, dIsiC, dIsiSR, dJoin, dTextOf, dJoined3, dListN, dParN, dLc]
      have hp : pickG [D.str (tx t)] none none (some 2) = [.str (tx t)] := pieces_of_row (PP := [t]) (M := []) rfl
      refine ⟨wh, rfl, hw, .inr ⟨_, _, ⟨rfl, rfl⟩, rfl, t, rfl, _, rfl, ?_⟩⟩
      rw [hp]
      have h0 : atI [D.str (tx t)] 0 = some (.str (tx t)) := rfl
      have w1 := hw.1
      have t1 := ht.1
      simp [h0, tx_len]
      refine ⟨by decide, sz (by omega), sz (by omega), ?_⟩
      by_cases c : wh.length ≤ t.length
      · simp [c] at q ⊢
        refine ⟨sz (by omega), by decide, fun _ => true, fun _ => .bl (inT wh (t ++ t) || inT (fl wh) (t ++ t)), ⟨rfl, fun _ => ?_⟩, [inT wh (t ++ t) || inT (fl wh) (t ++ t)], rfl, ?_⟩
        · rw [tx_app]
          cases e : inT wh (t ++ t) with
          | true =>
            unfold inT at e
            simp [e]
          | false =>
            have e' := e
            unfold inT at e
            simp [e]
            exact ⟨wh, rfl, hw, rfl⟩
        · simpa using q
      · simp [c] at q ⊢
        exact q
end
end MS
set_option maxHeartbeats 4000000
/-! scramble -/
namespace MS
open PySem PySem.Spec PyProof.Rows L2 DL NL
structure Cut where
  S : List (List Nat)
  O : List Nat
  F : List Bool
  Q : List (List Nat)
  N : List (List Nat)
abbrev txsD (l : List (List Nat)) : D := .lst (l.map fun a => .str (tx a))
abbrev cutDs (c : Cut) : List D := [txsD c.S, .lst (c.O.map fun k => .int (k : Nat)), .lst (c.F.map D.bl), txsD c.Q, txsD c.N]
structure okC (c : Cut) : Prop where
  n1 : 1 ≤ c.S.length
  n2 : c.S.length ≤ 13
  o1 : c.O.length = c.S.length
  o2 : ∀ k ∈ c.O, k < c.S.length
  o3 : c.O.Nodup
  f : c.F.length = c.S.length
  q : c.Q.length = c.S.length + 1
  n : c.N.length + 1 = c.S.length
  n3 : c.N.Nodup
  n4 : ∀ a ∈ c.N, okN a
  s5 : ∀ a ∈ c.S, Lt a ∧ a.length ≤ 5
  q5 : ∀ a ∈ c.Q, Lt a ∧ a.length ≤ 4
def bl (c : Cut) (k : Nat) : List It := if c.F.getD k false = true then (blk c.S c.N k).reverse.map flI else blk c.S c.N k
def blq (c : Cut) (p : Nat × List Nat) : List It := bl c p.1 ++ [.pc p.2]
def its (c : Cut) : List It := .pc (c.Q.getD 0 []) :: (c.O.zip (c.Q.drop 1)).flatMap (blq c)
theorem getD_mem {α : Type} {l : List α} {k : Nat} {d : α} (h : k < l.length) : l.getD k d ∈ l := by
  rw [List.getD_eq_getElem?_getD, List.getElem?_eq_getElem h]
  exact List.getElem_mem h
theorem flI_j {x : It} (h : okJ x) : okJ (flI x) := by
  cases x with
  | pc a => exact Lt.fl h
  | mk n u => exact h
theorem flI_len (x : It) : ilen (flI x) = ilen x := by
  cases x with
  | pc a => exact fl_len a
  | mk n u => rfl
theorem tot_rev (l : List It) : tot (l.reverse.map flI) = tot l := by
  induction l with
  | nil => rfl
  | cons x l ih =>
    rw [List.reverse_cons, List.map_append, tot_app, ih, show x :: l = [x] ++ l from rfl, tot_app, tot_one]
    show _ + tot [flI x] = _
    rw [tot_one, flI_len]
    omega
section
variable {c : Cut} (ok : okC c)
include ok
theorem blk_ok {k : Nat} (h : k < c.S.length) : (∀ y ∈ blk c.S c.N k, okJ y) ∧ tot (blk c.S c.N k) ≤ 5 ∧ (blk c.S c.N k).length ≤ 3 := by
  have hn := ok.n
  have hs := ok.s5 _ (getD_mem (d := []) h)
  unfold blk
  refine ⟨fun y hy => ?_, ?_, ?_⟩
  · rcases List.mem_append.mp hy with hy | hy
    · split at hy
      · rw [List.mem_singleton.mp hy]
        exact ok.n4 _ (getD_mem (by omega))
      · cases hy
    · rcases List.mem_cons.mp hy with rfl | hy
      · exact hs.1
      · split at hy
        · rw [List.mem_singleton.mp hy]
          exact ok.n4 _ (getD_mem (by omega))
        · cases hy
  · have := hs.2
    split <;> split <;> simp [tot, ilen] <;> simpa using this
  · split <;> split <;> simp
theorem bl_ok {k : Nat} (h : k < c.S.length) : (∀ y ∈ bl c k, okJ y) ∧ tot (bl c k) ≤ 5 ∧ (bl c k).length ≤ 3 := by
  obtain ⟨h1, h2, h3⟩ := blk_ok ok h
  unfold bl
  split
  · refine ⟨fun y hy => ?_, by rw [tot_rev]; exact h2, by simpa using h3⟩
    obtain ⟨x, hx, rfl⟩ := List.mem_map.mp hy
    exact flI_j (h1 x (List.mem_reverse.mp hx))
  · exact ⟨h1, h2, h3⟩
theorem fm_ok : ∀ (l : List (Nat × List Nat)), (∀ p ∈ l, p.1 < c.S.length ∧ Lt p.2 ∧ p.2.length ≤ 4) → (∀ y ∈ l.flatMap (blq c), okJ y) ∧ tot (l.flatMap (blq c)) ≤ 9 * l.length ∧ (l.flatMap (blq c)).length ≤ 4 * l.length
  | [], _ => ⟨fun _ h => (nomatch h), Nat.le_refl _, Nat.le_refl _⟩
  | p :: l, h => by
    obtain ⟨h1, h2, h3⟩ := h p List.mem_cons_self
    obtain ⟨g1, g2, g3⟩ := fm_ok l fun q hq => h q (List.mem_cons_of_mem _ hq)
    obtain ⟨b1, b2, b3⟩ := bl_ok ok h1
    rw [List.flatMap_cons]
    refine ⟨fun y hy => ?_, ?_, ?_⟩
    · rcases List.mem_append.mp hy with hy | hy
      · rcases List.mem_append.mp hy with hy | hy
        · exact b1 y hy
        · rw [List.mem_singleton.mp hy]
          exact h2
      · exact g1 y hy
    · rw [tot_app, blq, tot_app, tot_one, List.length_cons]
      show _ + p.2.length + _ ≤ _
      omega
    · rw [List.length_append, blq, List.length_append, List.length_cons, List.length_cons, List.length_nil]
      omega
theorem zip_ok : ∀ p ∈ c.O.zip (c.Q.drop 1), p.1 < c.S.length ∧ Lt p.2 ∧ p.2.length ≤ 4 := fun p hp => by
  obtain ⟨h1, h2⟩ := List.of_mem_zip (a := p.1) (b := p.2) hp
  exact ⟨ok.o2 _ h1, ok.q5 _ (List.mem_of_mem_drop h2)⟩
theorem zip_len : (c.O.zip (c.Q.drop 1)).length = c.S.length := by
  rw [List.length_zip, List.length_drop, ok.o1, ok.q]
  omega
theorem its_ok : (∀ y ∈ its c, okJ y) ∧ tot (its c) ≤ 121 ∧ (its c).length ≤ 53 := by
  obtain ⟨g1, g2, g3⟩ := fm_ok ok _ (zip_ok ok)
  rw [zip_len ok] at g2 g3
  have n2 := ok.n2
  have hq := ok.q5 _ (getD_mem (d := []) (k := 0) (by rw [ok.q]; omega))
  unfold its
  refine ⟨fun y hy => ?_, ?_, ?_⟩
  · rcases List.mem_cons.mp hy with rfl | hy
    · exact hq.1
    · exact g1 y hy
  · rw [show ∀ (x : It) (l : List It), x :: l = [x] ++ l from fun _ _ => rfl, tot_app, tot_one]
    have := hq.2
    show (c.Q.getD 0 []).length + _ ≤ _
    omega
  · rw [List.length_cons]
    omega
end
section
variable {P : Program} {w : World} {K : PySem.W.Frag} {mg' : Str → Option Value} {base : Heap}
theorem okP5 {a : List Nat} (h : Lt a ∧ a.length ≤ 5) : okP a := ⟨by omega, h.1⟩
theorem okP4 {a : List Nat} (h : Lt a ∧ a.length ≤ 4) : okP a := ⟨by omega, h.1⟩
theorem okI_of {x : It} (h : okJ x) (hl : ilen x ≤ 1000) : okI x := by
  cases x with
  | pc a => exact ⟨hl, h⟩
  | mk n u => exact h
theorem cutL_drop {α : Type} (xs : List α) (n : Nat) : cutL xs (some (n : Int)) none = xs.drop n := by
  unfold cutL
  rw [HT.sIx_nat, HT.sIx_none, List.take_of_length_le (by simp)]
  by_cases h : n ≤ xs.length
  · rw [Nat.min_eq_left h]
  · rw [Nat.min_eq_right (by omega), List.drop_eq_nil_of_le (Nat.le_refl _), List.drop_eq_nil_of_le (by omega)]
theorem cutL_one {α : Type} (xs : List α) : cutL xs (some 1) none = xs.drop 1 := cutL_drop xs 1
def sp_scramble (K : PySem.W.Frag) : Fsp := fun ds R => ∃ c PP M, ds = cutDs c ∧ okC c ∧ mgs (its c) = row PP M ∧ okR PP M ∧ (∀ q ∈ numT M, q.2.length = 2) ∧ (numT M).length ≤ 12 ∧ R (stripD K PP M)
theorem c_scramble (W : W0 K mg') : DefF P w K mg' base "scramble" ["segments", "order", "flips", "spacers", "names"] 8 (SpF (sp_scramble K)) := by
  refine g_scramble W (c_require_pieces W) (c_require_order W) (c_require_flips W) (c_are_unique_names_crossings W) (c_segment_block W) (c_flipped_items W) (c_Strip_init W) (c_merge_pieces W) ?_ ?_
  · rintro ds Kd ⟨c, _, _, rfl, _⟩
    rfl
  · rintro ds Kd ⟨c, PP, M, rfl, ok, e, hR, h2, h12, q⟩
    obtain ⟨i1, i2, i3⟩ := its_ok ok
    have n2 := ok.n2
    have hn := ok.n
    simp [R_scramble, dFor, init, initO, endsO, dRet, dSeq, dNext, dDrop, dIfS, dSet, dAsg, dPar, dPar3, dNever, dNo1, dVar, dC, dOp, dChain, dB, dAnd, dOr, dNot, dAndV, dOrV, dNotV, dIf, dNil, dCons, dTup, dLst, dCall, dIsi, dIsi2, tyD, isaT, dAdd, dSub, dMul, dMod, dDiv, dPow, dInt2, dLt, dLe, dGt, dGe, dEq, dNe, dIsN, dNotN, dInSign, dInText, dNotInText, dIx, dSl, dPart, dNo, dCut, dRev, dRevS, dM0, dLen, dAll, dAny, dMax2, dMin2, dList, dgName, dgNil, dgCons, dgTup, dgLst, dItL, dItT, dItR, dItE, dItZ, dItS, dYes, wipeG, noOwn, dMulS, dLstN, dSetN, dCatN, dOwnIx, dOwnLen, dOwnOp, dOpOwn, dApp, dExt, dPopAt, isOwn, isOwnL, dSetIx, dFrz, OD.d, DL.scal, dFld, dOwnFld, getF, dSetF, dMake, dMeth, dEither, dIsiC, dIsiSR, dJoin, dTextOf, dJoined3, dListN, dParN, dLc]
    refine ⟨c.S, 1, 13, rfl, ok.n1, ok.n2, fun a ha => okP5 (ok.s5 a ha), c.O, by rw [ok.o1], by rw [ok.o1]; omega, fun k hk => by rw [ok.o1]; exact ok.o2 k hk, ok.o3, c.F, by rw [ok.f], by rw [ok.f]; omega,
      c.Q, c.S.length + 1, c.S.length + 1, by simp, Nat.le_of_eq ok.q.symm, Nat.le_of_eq ok.q, fun a ha => okP4 (ok.q5 a ha), c.N, rfl, by omega, ok.n4, ok.n3, rfl, by omega, .str (tx (c.Q.getD 0 [])), ?_, by decide, ?_⟩
    · exact atI_nat (k := 0) (by rw [List.getElem?_map, get_getD (d := []) (by rw [ok.q]; omega)] <;> rfl)
    rw [cutL_one]
    have zl := zip_len ok
    have zeq : zipD (c.O.map fun k => D.int (k : Nat)) ((c.Q.map fun a => D.str (tx a)).drop 1) = (c.O.zip (c.Q.drop 1)).map fun p => .tup [.int (p.1 : Nat), .str (tx p.2)] := by
      unfold zipD
      rw [← List.map_drop, List.zip_map, List.map_map]
      rfl
    rw [zeq]
    refine ⟨fun i Γ => ∃ x y z, Γ = [.val (txsD c.S), .val (.lst (c.O.map fun k => D.int (k : Nat))), .val (.lst (c.F.map D.bl)), .val (txsD c.Q), .val (txsD c.N), .val (.int c.S.length), .own (.lst ((It.pc (c.Q.getD 0 []) :: ((c.O.zip (c.Q.drop 1)).take i).flatMap (blq c)).map itD)), x, y, z], ⟨_, _, _, rfl⟩, ?_, ?_⟩
    · rintro i d Γ2 hd ⟨x, y, z, rfl⟩
      rw [List.getElem?_map] at hd
      obtain ⟨⟨k, q'⟩, hp, rfl⟩ := Option.map_eq_some_iff.mp hd
      obtain ⟨hk, hq1, hq2⟩ := zip_ok ok _ (List.mem_of_getElem? hp)
      have hk : k < c.S.length := hk
      obtain ⟨g1, g2, g3⟩ := fm_ok ok ((c.O.zip (c.Q.drop 1)).take i) fun p hp => zip_ok ok p (List.mem_of_mem_take hp)
      have tl : ((c.O.zip (c.Q.drop 1)).take i).length ≤ 13 := by rw [List.length_take]; omega
      have stp : ((c.O.zip (c.Q.drop 1)).take (i + 1)).flatMap (blq c) = ((c.O.zip (c.Q.drop 1)).take i).flatMap (blq c) ++ (bl c k ++ [.pc q']) := by
        rw [List.take_add_one, hp, List.flatMap_append]
        show _ ++ (blq c (k, q') ++ []) = _
        rw [List.append_nil]
        rfl
      simp only [stp]
      generalize ((c.O.zip (c.Q.drop 1)).take i).flatMap (blq c) = acc at *
      obtain ⟨b1, b2, b3⟩ := blk_ok ok hk
      obtain ⟨v, gF⟩ : ∃ v, c.F[k]? = some v := ⟨_, List.getElem?_eq_getElem (by rw [ok.f]; exact hk)⟩
      have dF : c.F.getD k false = v := by rw [List.getD_eq_getElem?_getD, gF] <;> rfl
      have ai : atI (c.F.map D.bl) ((k : Nat) : Int) = some (.bl v) := atI_nat (by rw [List.getElem?_map, gF] <;> rfl)
      simp [ai]
      refine ⟨c.S, c.N, k, rfl, hn, by omega, hk, ?_⟩
      cases v with
      | true =>
        simp
        refine ⟨_, rfl, by omega, fun x hx => okI_of (b1 x hx) (by have := ilen_le hx; omega), _, rfl, ?_, ?_, ?_, rfl⟩
        · simp
          exact sz (by omega)
        · simp
          exact Nat.lt_of_le_of_lt (show _ ≤ 1000 by omega) (by decide)
        · unfold bl
          rw [if_pos dF]
      | false =>
        simp
        refine ⟨sz (by omega), ?_, ?_, rfl⟩
        · exact Nat.lt_of_le_of_lt (show _ ≤ 1000 by omega) (by decide)
        unfold bl
        rw [if_neg (by rw [dF]; decide)]
    · rintro Γ2 ⟨x, y, z, rfl⟩
      rw [show ((c.O.zip (c.Q.drop 1)).map fun p => D.tup [.int (p.1 : Nat), .str (tx p.2)]).length = (c.O.zip (c.Q.drop 1)).length by rw [List.length_map], List.take_length]
      simp
      refine ⟨its c, by simp [its], by omega, by omega, i1, PP, M, rfl, by rw [e], hR, h2, h12, rfl, q⟩
end
end MS
set_option maxHeartbeats 4000000
/-! walking -/
namespace MS
open PySem PySem.Spec PyProof.Rows L2 DL NL
abbrev End := Nat × Bool
def sd (s : Bool) : Int := if s = true then 1 else 0
abbrev endD (e : End) : D := .tup [.int 0, .int (e.1 : Nat), .int (sd e.2)]
abbrev kend (e : End) : List Key := [.inl 0, .inl (e.1 : Nat), .inl (sd e.2)]
theorem keyD_end (e : End) : endD e = keyD (kend e) := rfl
theorem sd_inj {a b : Bool} (h : sd a = sd b) : a = b := by cases a <;> cases b <;> first | rfl | (exact absurd h (by decide))
theorem kend_inj {e e' : End} (h : kend e = kend e') : e = e' := by
  simp [kend] at h
  exact Prod.ext (by omega) (sd_inj h.2)
def bef (g : Nat) (u : Bool) : End := if u = true then (g, true) else (g + 1, false)
def aft (g : Nat) (u : Bool) : End := if u = true then (g + 1, false) else (g, true)
abbrev Lnk := End → Option End
def Links (ks : List (List Key)) (ds : List D) (L : Lnk) : Prop := ∀ e, findD ks ds (kend e) = (L e).map endD
section
variable {P : Program} {w : World} {K : PySem.W.Frag} {mg' : Str → Option Value} {base : Heap}
def sp_end_before : Fsp := fun ds R => ∃ (g : Nat) (u : Bool), ds = [.int 0, .int g, .bl u] ∧ R (endD (bef g u))
def sp_end_after : Fsp := fun ds R => ∃ (g : Nat) (u : Bool), ds = [.int 0, .int g, .bl u] ∧ R (endD (aft g u))
theorem c_end_before (W : W0 K mg') : DefF P w K mg' base "end_before" ["index", "number", "upright"] 1 (SpF sp_end_before) := by
  refine g_end_before W ?_ ?_
  · rintro ds Kd ⟨g, u, rfl, _⟩
    rfl
  · rintro ds Kd ⟨g, u, rfl, k⟩
    cases u
    · simp [R_end_before, init, initO, endsO, dRet, dSeq, dNext, dDrop, dIfS, dSet, dAsg, dPar, dPar3, dNever, dNo1, dVar, dC, dOp, dChain, dB, dAnd, dOr, dNot, dAndV, dOrV, dNotV, dIf, dNil, dCons, dTup, dLst, dCall, dIsi, dIsi2, tyD, isaT, dAdd, dSub, dMul, dMod, dDiv, dPow, dInt2, dLt, dLe, dGt, dGe, dEq, dNe, dIsN, dNotN, dInSign, dInText, dNotInText, dIx, dSl, dPart, dNo, dCut, dRev, dRevS, dM0, dLen, dAll, dAny, dMax2, dMin2, dList, dgName, dgNil, dgCons, dgTup, dgLst, dItL, dItT, dItR, dItE, dItZ, dItS, dYes, wipeG, noOwn, dMulS, dLstN, dSetN, dCatN, dOwnIx, dOwnLen, dOwnOp, dOpOwn, dApp, dExt, dPopAt, isOwn, isOwnL, dSetIx, dFrz, OD.d, DL.scal, dFld, dOwnFld, getF, dSetF, dMake, dMeth, dEither, dIsiC, dIsiSR, dJoin, dTextOf, dJoined3, dListN, dParN, dLc]
      exact ⟨by decide, k⟩
    · simp [R_end_before, init, initO, endsO, dRet, dSeq, dNext, dDrop, dIfS, dSet, dAsg, dPar, dPar3, dNever, dNo1, dVar, dC, dOp, dChain, dB, dAnd, dOr, dNot, dAndV, dOrV, dNotV, dIf, dNil, dCons, dTup, dLst, dCall, dIsi, dIsi2, tyD, isaT, dAdd, dSub, dMul, dMod, dDiv, dPow, dInt2, dLt, dLe, dGt, dGe, dEq, dNe, dIsN, dNotN, dInSign, dInText, dNotInText, dIx, dSl, dPart, dNo, dCut, dRev, dRevS, dM0, dLen, dAll, dAny, dMax2, dMin2, dList, dgName, dgNil, dgCons, dgTup, dgLst, dItL, dItT, dItR, dItE, dItZ, dItS, dYes, wipeG, noOwn, dMulS, dLstN, dSetN, dCatN, dOwnIx, dOwnLen, dOwnOp, dOpOwn, dApp, dExt, dPopAt, isOwn, isOwnL, dSetIx, dFrz, OD.d, DL.scal, dFld, dOwnFld, getF, dSetF, dMake, dMeth, dEither, dIsiC, dIsiSR, dJoin, dTextOf, dJoined3, dListN, dParN, dLc]
      exact ⟨by decide, k⟩
theorem c_end_after (W : W0 K mg') : DefF P w K mg' base "end_after" ["index", "number", "upright"] 1 (SpF sp_end_after) := by
  refine g_end_after W ?_ ?_
  · rintro ds Kd ⟨g, u, rfl, _⟩
    rfl
  · rintro ds Kd ⟨g, u, rfl, k⟩
    cases u
    · simp [R_end_after, init, initO, endsO, dRet, dSeq, dNext, dDrop, dIfS, dSet, dAsg, dPar, dPar3, dNever, dNo1, dVar, dC, dOp, dChain, dB, dAnd, dOr, dNot, dAndV, dOrV, dNotV, dIf, dNil, dCons, dTup, dLst, dCall, dIsi, dIsi2, tyD, isaT, dAdd, dSub, dMul, dMod, dDiv, dPow, dInt2, dLt, dLe, dGt, dGe, dEq, dNe, dIsN, dNotN, dInSign, dInText, dNotInText, dIx, dSl, dPart, dNo, dCut, dRev, dRevS, dM0, dLen, dAll, dAny, dMax2, dMin2, dList, dgName, dgNil, dgCons, dgTup, dgLst, dItL, dItT, dItR, dItE, dItZ, dItS, dYes, wipeG, noOwn, dMulS, dLstN, dSetN, dCatN, dOwnIx, dOwnLen, dOwnOp, dOpOwn, dApp, dExt, dPopAt, isOwn, isOwnL, dSetIx, dFrz, OD.d, DL.scal, dFld, dOwnFld, getF, dSetF, dMake, dMeth, dEither, dIsiC, dIsiSR, dJoin, dTextOf, dJoined3, dListN, dParN, dLc]
      exact ⟨by decide, k⟩
    · simp [R_end_after, init, initO, endsO, dRet, dSeq, dNext, dDrop, dIfS, dSet, dAsg, dPar, dPar3, dNever, dNo1, dVar, dC, dOp, dChain, dB, dAnd, dOr, dNot, dAndV, dOrV, dNotV, dIf, dNil, dCons, dTup, dLst, dCall, dIsi, dIsi2, tyD, isaT, dAdd, dSub, dMul, dMod, dDiv, dPow, dInt2, dLt, dLe, dGt, dGe, dEq, dNe, dIsN, dNotN, dInSign, dInText, dNotInText, dIx, dSl, dPart, dNo, dCut, dRev, dRevS, dM0, dLen, dAll, dAny, dMax2, dMin2, dList, dgName, dgNil, dgCons, dgTup, dgLst, dItL, dItT, dItR, dItE, dItZ, dItS, dYes, wipeG, noOwn, dMulS, dLstN, dSetN, dCatN, dOwnIx, dOwnLen, dOwnOp, dOpOwn, dApp, dExt, dPopAt, isOwn, isOwnL, dSetIx, dFrz, OD.d, DL.scal, dFld, dOwnFld, getF, dSetF, dMake, dMeth, dEither, dIsiC, dIsiSR, dJoin, dTextOf, dJoined3, dListN, dParN, dLc]
      exact ⟨by decide, k⟩
abbrev gapD (g : Nat) (u : Bool) : D := .tup [.int 0, .int g, .bl u]
def sp_ends_at : Fsp := fun ds R => ∃ (f s : Nat) (u v : Bool), ds = [.lst [gapD f u, gapD s v]] ∧ R (.lst [.tup [endD (bef f u), endD (aft s v)], .tup [endD (bef s v), endD (aft f u)]])
theorem c_ends_at (W : W0 K mg') : DefF P w K mg' base "ends_at" ["marks"] 2 (SpF sp_ends_at) := by
  refine g_ends_at W (c_end_before W) (c_end_after W) ?_ ?_
  · rintro ds Kd ⟨f, s, u, v, rfl, _⟩
    rfl
  · rintro ds Kd ⟨f, s, u, v, rfl, k⟩
    simp [R_ends_at, init, initO, endsO, dRet, dSeq, dNext, dDrop, dIfS, dSet, dAsg, dPar, dPar3, dNever, dNo1, dVar, dC, dOp, dChain, dB, dAnd, dOr, dNot, dAndV, dOrV, dNotV, dIf, dNil, dCons, dTup, dLst, dCall, dIsi, dIsi2, tyD, isaT, dAdd, dSub, dMul, dMod, dDiv, dPow, dInt2, dLt, dLe, dGt, dGe, dEq, dNe, dIsN, dNotN, dInSign, dInText, dNotInText, dIx, atI, ixN, dSl, dPart, dNo, dCut, dRev, dRevS, dM0, dLen, dAll, dAny, dMax2, dMin2, dList, dgName, dgNil, dgCons, dgTup, dgLst, dItL, dItT, dItR, dItE, dItZ, dItS, dYes, wipeG, noOwn, dMulS, dLstN, dSetN, dCatN, dOwnIx, dOwnLen, dOwnOp, dOpOwn, dApp, dExt, dPopAt, isOwn, isOwnL, dSetIx, dFrz, OD.d, DL.scal, dFld, dOwnFld, getF, dSetF, dMake, dMeth, dEither, dIsiC, dIsiSR, dJoin, dTextOf, dJoined3, dListN, dParN, dLc]
    refine ⟨f, u, rfl, s, v, rfl, by decide, s, v, rfl, f, u, rfl, by decide, k⟩
def markT (M : List Mk1) : Tz := tabOf (M.mapIdx fun i m => (tx m.1, gapD i m.2))
def sp_marks_of : Fsp := fun ds R => ∃ P M, ds = [.lst [rowD P M]] ∧ okR P M ∧ R (tabD (markT M))
theorem c_marks_of (W : W0 K mg') : DefF P w K mg' base "marks_of" ["rows"] 1 (SpF sp_marks_of) := by
  refine g_marks_of W ?_ ?_
  · rintro ds Kd ⟨x, y, rfl, h, k⟩
    rfl
  · rintro ds Kd ⟨PP, M, rfl, h, k⟩
    have le := h.le
    have len := h.len
    have hl : (M.mapIdx fun i m => (tx m.1, gapD i m.2)).length = M.length := by simp
    simp [R_marks_of, dTabFn, dForZ, dTab, dStep, init, initO, endsO, dRet, dSeq, dNext, dDrop, dIfS, dSet, dAsg, dPar, dPar3, dNever, dNo1, dVar, dC, dOp, dChain, dB, dAnd, dOr, dNot, dAndV, dOrV, dNotV, dIf, dNil, dCons, dTup, dLst, dCall, dIsi, dIsi2, tyD, isaT, dAdd, dSub, dMul, dMod, dDiv, dPow, dInt2, dLt, dLe, dGt, dGe, dEq, dNe, dIsN, dNotN, dInSign, dInText, dNotInText, dIx, dSl, dPart, dNo, dCut, dRev, dRevS, dM0, dLen, dAll, dAny, dMax2, dMin2, dList, dgName, dgNil, dgCons, dgTup, dgLst, dItL, dItT, dItR, dItE, dItZ, dItS, dYes, wipeG, noOwn, dMulS, dLstN, dSetN, dCatN, dOwnIx, dOwnLen, dOwnOp, dOpOwn, dApp, dExt, dPopAt, isOwn, isOwnL, dSetIx, dFrz, OD.d, DL.scal, dFld, dOwnFld, getF, dSetF, dMake, dMeth, dEither, dIsiC, dIsiSR, dJoin, dTextOf, dJoined3, dListN, dParN, dLc]
    refine ⟨fun i Γ z => z = (if i = 0 then [] else markT M) ∧ ∃ a b c d e, Γ = [.val (.lst [rowD PP M]), .val .any, a, b, c, d, e], ⟨rfl, _, _, _, _, _, rfl⟩, ?_, ?_⟩
    · rintro i d Γ2 z2 hd ⟨rfl, a, b, c, d', e', rfl⟩
      obtain ⟨x, hx, rfl⟩ := enum_get hd
      match i, hx with
      | 0, hx =>
        cases hx
        simp
        rw [marks_of_row h.len, List.length_map]
        refine ⟨sz (by omega), fun i Γ z => z = tabOf ((M.mapIdx fun i m => (tx m.1, gapD i m.2)).take i) ∧ ∃ a b c, Γ = [.val (.lst [rowD PP M]), .val .any, .val (.int 0), .val (rowD PP M), a, b, c], ⟨rfl, _, _, _, rfl⟩, ?_, ?_⟩
        · rintro i d Γ2 z2 hd ⟨rfl, a, b, c, rfl⟩
          obtain ⟨x, hx, rfl⟩ := enum_get hd
          rw [List.getElem?_map] at hx
          obtain ⟨⟨n, u⟩, hy, rfl⟩ := Option.map_eq_some_iff.mp hx
          have tk := tab_sz ((M.mapIdx fun i m => (tx m.1, gapD i m.2)).take i)
          have tl : ((M.mapIdx fun i m => (tx m.1, gapD i m.2)).take i).length ≤ 1000 := by
            rw [List.length_take, hl]
            omega
          have e : (M.mapIdx fun i m => (tx m.1, gapD i m.2))[i]? = some (tx n, gapD i u) := by
            rw [List.getElem?_mapIdx, hy]
            rfl
          simp only [tab_take e]
          generalize tabOf ((M.mapIdx fun i m => (tx m.1, gapD i m.2)).take i) = T at *
          simp
          refine ⟨by omega, fun x y hq => ?_, by decide⟩
          have := tk.2 (x, y) hq
          have : y.length ≤ _ := this
          omega
        · rintro Γ2 z2 ⟨rfl, a, b, c, rfl⟩
          rw [show (enumD (M.map fun m => mkD m.1 m.2)).length = (M.mapIdx fun i m => (tx m.1, gapD i m.2)).length by rw [enum_len, List.length_map, hl], List.take_length]
          exact ⟨rfl, _, _, _, _, _, rfl⟩
      | i + 1, hx => simp at hx
    · rintro Γ2 z2 ⟨rfl, a, b, c, d, e, rfl⟩
      exact k
def sp_next_end : Fsp := fun ds R => ∃ P M ks vs L e, ds = [.lst [rowD P M], .dT ks vs, endD e] ∧ okR P M ∧ Links ks vs L ∧ (L e = none → e = (0, false) ∨ e = (M.length, true)) ∧ (match L e with
  | some e' => R (.tup [.non, endD e'])
  | none => R .non)
theorem c_next_end (W : W0 K mg') : DefF P w K mg' base "next_end" ["rows", "links", "end"] 1 (SpF sp_next_end) := by
  refine g_next_end W ?_ ?_
  · rintro ds Kd ⟨PP, M, ks, vs, L, e, rfl, _⟩
    rfl
  · rintro ds Kd ⟨PP, M, ks, vs, L, e, rfl, h, hL, hn, k⟩
    have le := h.le
    have len := h.len
    have he := hL e
    simp [R_next_end, dDIn, dDGet, init, initO, endsO, dRet, dSeq, dNext, dDrop, dIfS, dSet, dAsg, dPar, dPar3, dNever, dNo1, dVar, dC, dOp, dChain, dB, dAnd, dOr, dNot, dAndV, dOrV, dNotV, dIf, dNil, dCons, dTup, dLst, dCall, dIsi, dIsi2, tyD, isaT, dAdd, dSub, dMul, dMod, dDiv, dPow, dInt2, dLt, dLe, dGt, dGe, dEq, dNe, dIsN, dNotN, dInSign, dInText, dNotInText, dIx, atI, ixN, dSl, dPart, dNo, dCut, dRev, dRevS, dM0, dLen, dAll, dAny, dMax2, dMin2, dList, dgName, dgNil, dgCons, dgTup, dgLst, dItL, dItT, dItR, dItE, dItZ, dItS, dYes, wipeG, noOwn, dMulS, dLstN, dSetN, dCatN, dOwnIx, dOwnLen, dOwnOp, dOpOwn, dApp, dExt, dPopAt, isOwn, isOwnL, dSetIx, dFrz, OD.d, DL.scal, dFld, dOwnFld, getF, dSetF, dMake, dMeth, dEither, dIsiC, dIsiSR, dJoin, dTextOf, dJoined3, dListN, dParN, dLc]
    refine ⟨findD ks vs (kend e), .inr ⟨kend e, rfl, rfl⟩, ?_⟩
    cases q : L e with
    | some e' =>
      rw [q] at he k
      rw [he]
      simp
      refine ⟨endD e', .inr ⟨kend e, rfl, ?_⟩, by decide, k⟩
      show some (findD ks vs (kend e)) = _
      rw [he] <;> rfl
    | none =>
      rw [q] at he k
      rw [he]
      simp
      have rl : ((row PP M).length : Int) = 2 * M.length + 1 := by rw [row_len h.len]; omega
      rcases hn q with rfl | rfl
      · simp [sd, rl, CMul]
        exact k
      · simp [sd, rl, CMul]
        exact k
end
end MS
set_option maxHeartbeats 4000000
/-! walk and what walks -/
namespace MS
open PySem PySem.Spec PyProof.Rows L2 DL NL
def fp (e : End) : End := (e.1, !e.2)
/-- the trace of a walk that began at s and stands at e -/
inductive Tr (L : Lnk) (s : End) : End → List End → Option End → Prop where
  | out {e : End} (h : L (fp e) = none) : Tr L s e [e] (some (fp e))
  | back {e : End} (h : L (fp e) = some s) : Tr L s e [e] none
  | go {e e' : End} {t : List End} {r : Option End} (h : L (fp e) = some e') (ne : e' ≠ s) (g : Tr L s e' t r) : Tr L s e (e :: t) r
abbrev stepD (e : End) : D := .tup [.tup [.int 0, .int (e.1 : Nat)], .bl e.2]
abbrev pthD (t : List End) : List D := t.map stepD
abbrev nons (n : Nat) : List D := List.replicate n .non
def lastD : Option End → D
  | some e => endD e
  | none => .non
def mcnt (t : List End) : Option End → Nat
  | some _ => t.length - 1
  | none => t.length
theorem shp_end (e : End) : shp (endD e) = true := shp_of (n := 1) (shD_tup fun d hd => by
  simp at hd
  rcases hd with rfl | rfl | rfl <;> exact shD_int _) (by decide)
theorem eqv_end (e e' : End) : PyData.eqv (py (endD e)) (py (endD e')) = decide (e = e') := by
  show (((0 : Int) == 0) && ((((e.1 : Nat) : Int) == ((e'.1 : Nat) : Int)) && ((sd e.2 == sd e'.2) && true))) = _
  rw [Bool.eq_iff_iff]
  simp
  constructor
  · rintro ⟨h1, h2⟩
    exact Prod.ext (by omega) (sd_inj h2)
  · rintro rfl
    exact ⟨rfl, rfl⟩
section
variable {P : Program} {w : World} {K : PySem.W.Frag} {mg' : Str → Option Value} {base : Heap}
structure Env0 (P : List (List Nat)) (M : List Mk1) (ks : List (List Key)) (vs : List D) (L : Lnk) : Prop where
  ok : okR P M
  lk : Links ks vs L
def sp_walk : Fsp := fun ds R => ∃ P M ks vs L s t r, ds = [.lst [rowD P M], .dT ks vs, endD s] ∧ okR P M ∧ Links ks vs L ∧ Tr L s s t r ∧ t.length ≤ 1000 ∧ (∀ e ∈ t, L (fp e) = none → fp e = (0, false) ∨ fp e = (M.length, true)) ∧
  R (.tup [.lst (pthD t), .lst (nons (mcnt t r)), lastD r])
theorem c_walk (W : W0 K mg') : DefF P w K mg' base "walk" ["rows", "links", "start"] 2 (SpF sp_walk) := by
  refine g_walk W (c_next_end W) ?_ ?_
  · rintro ds Kd ⟨PP, M, ks, vs, L, s, t, r, rfl, _⟩
    rfl
  · rintro ds Kd ⟨PP, M, ks, vs, L, s, t, r, rfl, h, hL, tr, tl, hn, k⟩
    have z1 : 2 ≤ sizeLine := by decide
    have z2 : 3 ≤ sizeLine := by decide
    have z0 : 0 ≤ sizeLine := by decide
    simp [R_walk, dWhile, z1, z2, z0, init, initO, endsO, dRet, dSeq, dNext, dDrop, dIfS, dSet, dAsg, dPar, dPar3, dNever, dNo1, dVar, dC, dOp, dChain, dB, dAnd, dOr, dNot, dAndV, dOrV, dNotV, dIf, dNil, dCons, dTup, dLst, dCall, dIsi, dIsi2, tyD, isaT, dAdd, dSub, dMul, dMod, dDiv, dPow, dInt2, dLt, dLe, dGt, dGe, dEq, dNe, dIsN, dNotN, dInSign, dInText, dNotInText, dIx, dSl, dPart, dNo, dCut, dRev, dRevS, dM0, dLen, dAll, dAny, dMax2, dMin2, dList, dgName, dgNil, dgCons, dgTup, dgLst, dItL, dItT, dItR, dItE, dItZ, dItS, dYes, wipeG, noOwn, dMulS, dLstN, dSetN, dCatN, dOwnIx, dOwnLen, dOwnOp, dOpOwn, dApp, dExt, dPopAt, isOwn, isOwnL, dSetIx, dFrz, OD.d, DL.scal, dFld, dOwnFld, getF, dSetF, dMake, dMeth, dEither, dIsiC, dIsiSR, dJoin, dTextOf, dJoined3, dListN, dParN, dLc]
    refine ⟨fun m Γ => ∃ dn cur n a b c d e, Γ = [.val (.lst [rowD PP M]), .val (.dT ks vs), .val (endD s), .own (.lst (pthD dn)), .own (.lst (nons n)), .val cur, a, b, c, d, e] ∧
      ((∃ e t', cur = endD e ∧ Tr L s e t' r ∧ t = dn ++ t' ∧ m = t'.length ∧ n = dn.length) ∨ (cur = .non ∧ r = none ∧ dn = t ∧ n = t.length ∧ m = 0)), ⟨t.length, [], endD s, 0, _, _, _, _, _, rfl, .inl ⟨s, t, rfl, tr, rfl, rfl, rfl⟩⟩, ?_⟩
    rintro m Γ2 ⟨dn, cur, n, a, b, c, d, e, rfl, ⟨en, t', rfl, tr', et, rfl, rfl⟩ | ⟨rfl, rfl, rfl, rfl, rfl⟩⟩
    · have dl : dn.length < 1000 := by
        have : 0 < t'.length := by cases tr' <;> simp
        have := congrArg List.length et
        rw [List.length_append] at this
        omega
      have dl2 : dn.length < sizeLine := Nat.lt_of_lt_of_le dl (by decide)
      have s1 : decide (sd en.2 = 1) = en.2 := by cases en.2 <;> rfl
      have s2 : 1 - sd en.2 = sd (!en.2) := by cases en.2 <;> rfl
      have mem : en ∈ t := by
        rw [et]
        refine List.mem_append_right _ ?_
        cases tr' <;> simp
      simp [dl2, s1, s2, z1, z2]
      refine ⟨PP, M, ks, vs, L, fp en, rfl, h, hL, hn en mem, ?_⟩
      cases tr' with
      | out q =>
        rw [q]
        simp
        subst et
        simp [mcnt, lastD] at k
        exact k
      | back q =>
        rw [q]
        simp [dl2]
        refine ⟨.non, rfl, endD s, rfl, shp_end s, shp_end s, ?_⟩
        rw [if_pos (by rw [eqv_end]; simp)]
        refine ⟨dn ++ [en], .non, dn.length + 1, ⟨?_, ?_, rfl⟩, .inr ?_⟩
        · simp [pthD]
        · rw [nons, nons, List.replicate_succ']
        · subst et
          simp
      | go q ne g =>
        rename_i e' t''
        rw [q]
        simp [dl2]
        refine ⟨.non, rfl, endD e', rfl, shp_end _, shp_end s, ?_⟩
        rw [if_neg (by rw [eqv_end]; simpa using ne)]
        refine ⟨endD e', rfl, t''.length, Nat.lt_succ_self _, dn ++ [en], endD e', dn.length + 1, ⟨?_, ?_, rfl⟩, .inl ?_⟩
        · simp [pthD]
        · rw [nons, nons, List.replicate_succ']
        · obtain ⟨i, b⟩ := e'
          cases b with
          | false => exact ⟨i, .inl ⟨rfl, t'', g, by rw [et]; simp, rfl, by simp⟩⟩
          | true => exact ⟨i, .inr ⟨rfl, t'', g, by rw [et]; simp, rfl, by simp⟩⟩
    · simp
      exact k
def ori (P : List (List Nat)) (e : End) : List Nat := if e.2 = true then fl (P.getD e.1 []) else P.getD e.1 []
def txt (P : List (List Nat)) (t : List End) : List Nat := t.flatMap (ori P)
theorem at_row {PP : List (List Nat)} {M : List Mk1} (h : PP.length = M.length + 1) {i : Nat} (hi : i < PP.length) : atI ((row PP M).map itD) (2 * (i : Int)) = some (.str (tx (PP.getD i []))) := by
  rw [show (2 * (i : Int)) = ((2 * i : Nat) : Int) by omega]
  refine atI_nat ?_
  rw [List.getElem?_map, row_even i h, get_getD (d := []) hi]
  rfl
def sp_oriented_piece : Fsp := fun ds R => ∃ P M e, ds = [.lst [rowD P M], stepD e] ∧ okR P M ∧ e.1 < P.length ∧ R (.str (tx (ori P e)))
theorem c_oriented_piece (W : W0 K mg') : DefF P w K mg' base "oriented_piece" ["rows", "step"] 2 (SpF sp_oriented_piece) := by
  refine g_oriented_piece W (c_flipped_piece W) ?_ ?_
  · rintro ds Kd ⟨PP, M, e, rfl, _⟩
    rfl
  · rintro ds Kd ⟨PP, M, ⟨i, b⟩, rfl, h, hi, k⟩
    have a0 : atI [rowD PP M] 0 = some (rowD PP M) := rfl
    have a1 := at_row h.len hi
    simp [R_oriented_piece, a0, a1, init, initO, endsO, dRet, dSeq, dNext, dDrop, dIfS, dSet, dAsg, dPar, dPar3, dNever, dNo1, dVar, dC, dOp, dChain, dB, dAnd, dOr, dNot, dAndV, dOrV, dNotV, dIf, dNil, dCons, dTup, dLst, dCall, dIsi, dIsi2, tyD, isaT, dAdd, dSub, dMul, dMod, dDiv, dPow, dInt2, dLt, dLe, dGt, dGe, dEq, dNe, dIsN, dNotN, dInSign, dInText, dNotInText, dIx, dSl, dPart, dNo, dCut, dRev, dRevS, dM0, dLen, dAll, dAny, dMax2, dMin2, dList, dgName, dgNil, dgCons, dgTup, dgLst, dItL, dItT, dItR, dItE, dItZ, dItS, dYes, wipeG, noOwn, dMulS, dLstN, dSetN, dCatN, dOwnIx, dOwnLen, dOwnOp, dOpOwn, dApp, dExt, dPopAt, isOwn, isOwnL, dSetIx, dFrz, OD.d, DL.scal, dFld, dOwnFld, getF, dSetF, dMake, dMeth, dEither, dIsiC, dIsiSR, dJoin, dTextOf, dJoined3, dListN, dParN, dLc]
    refine ⟨.inl (by decide), ?_⟩
    cases b with
    | true =>
      simp
      exact ⟨_, rfl, h.p _ (getD_mem hi), k⟩
    | false =>
      simp [ori] at k ⊢
      exact k
def sp_strand_row : Fsp := fun ds R => ∃ P M e t n, ds = [.lst [rowD P M], .lst (pthD (e :: t)), .lst (nons n)] ∧ okR P M ∧ (∀ x ∈ e :: t, x.1 < P.length) ∧ t.length ≤ n ∧ (txt P (e :: t)).length ≤ 1000 ∧ R (.lst [.str (tx (txt P (e :: t)))])
theorem c_strand_row (W : W0 K mg') : DefF P w K mg' base "strand_row" ["rows", "path", "marks"] 3 (SpF sp_strand_row) := by
  refine g_strand_row W (c_oriented_piece W) ?_ ?_
  · rintro ds Kd ⟨PP, M, e, t, n, rfl, _⟩
    rfl
  · rintro ds Kd ⟨PP, M, e, t, n, rfl, h, hi, hn, hl, k⟩
    have a0 : atI (stepD e :: t.map stepD) 0 = some (stepD e) := atI_nat (k := 0) rfl
    simp [R_strand_row, dFor, init, initO, endsO, dRet, dSeq, dNext, dDrop, dIfS, dSet, dAsg, dPar, dPar3, dNever, dNo1, dVar, dC, dOp, dChain, dB, dAnd, dOr, dNot, dAndV, dOrV, dNotV, dIf, dNil, dCons, dTup, dLst, dCall, dIsi, dIsi2, tyD, isaT, dAdd, dSub, dMul, dMod, dDiv, dPow, dInt2, dLt, dLe, dGt, dGe, dEq, dNe, dIsN, dNotN, dInSign, dInText, dNotInText, dIx, dSl, dPart, dNo, dCut, dRev, dRevS, dM0, dLen, dAll, dAny, dMax2, dMin2, dList, dgName, dgNil, dgCons, dgTup, dgLst, dItL, dItT, dItR, dItE, dItZ, dItS, dYes, wipeG, noOwn, dMulS, dLstN, dSetN, dCatN, dOwnIx, dOwnLen, dOwnOp, dOpOwn, dApp, dExt, dPopAt, isOwn, isOwnL, dSetIx, dFrz, OD.d, DL.scal, dFld, dOwnFld, getF, dSetF, dMake, dMeth, dEither, dIsiC, dIsiSR, dJoin, dTextOf, dJoined3, dListN, dParN, dLc]
    refine ⟨stepD e, a0, PP, M, e, rfl, h, hi e List.mem_cons_self, by decide, ?_⟩
    rw [cutL_one]
    have zeq : zipD ((stepD e :: t.map stepD).drop 1) (nons n) = t.map fun x => .tup [stepD x, .non] := by
      show zipD (t.map stepD) (nons n) = _
      unfold zipD
      have : ∀ (t : List End) (n : Nat), t.length ≤ n → ((t.map stepD).zip (nons n)).map (fun q => D.tup [q.1, q.2]) = t.map fun x => .tup [stepD x, .non] := by
        intro t
        induction t with
        | nil => exact fun n _ => rfl
        | cons x t ih =>
          intro n hn
          match n, hn with
          | n + 1, hn =>
            show D.tup [stepD x, .non] :: _ = _
            rw [List.map_cons]
            congr 1
            exact ih n (by simpa using hn)
      exact this t n hn
    rw [zeq]
    refine ⟨fun i Γ => ∃ a b, Γ = [.val (.lst [rowD PP M]), .val (.lst (pthD (e :: t))), .val (.lst (nons n)), .own (.lst [.str (tx (txt PP (e :: t.take i)))]), a, b], ⟨.un, .un, by simp [txt]⟩, ?_, ?_⟩
    · rintro i d Γ2 hd ⟨a, b, rfl⟩
      rw [List.getElem?_map] at hd
      obtain ⟨x, hx, rfl⟩ := Option.map_eq_some_iff.mp hd
      have e1 : txt PP (e :: t.take (i + 1)) = txt PP (e :: t.take i) ++ ori PP x := by
        unfold txt
        rw [List.take_add_one, hx]
        simp
      have le : (txt PP (e :: t.take i)).length + (ori PP x).length ≤ 1000 := by
        have : txt PP (e :: t) = txt PP (e :: t.take (i + 1)) ++ txt PP (t.drop (i + 1)) := by
          unfold txt
          rw [← List.flatMap_append, List.cons_append, List.take_append_drop]
        have := congrArg List.length this
        rw [List.length_append, e1, List.length_append] at this
        omega
      simp only [e1]
      generalize txt PP (e :: t.take i) = acc at *
      simp
      refine ⟨.str (tx acc), rfl, PP, M, x, rfl, h, hi x (List.mem_cons_of_mem _ (List.mem_of_getElem? hx)), ?_⟩
      show _ ≤ _ ∧ _
      rw [tx_len, tx_len, tx_app]
      refine ⟨sz (by omega), 0, rfl, by simp⟩
    · rintro Γ2 ⟨a, b, rfl⟩
      rw [List.length_map, List.take_length]
      simp
      exact k
def sp_ring_row : Fsp := fun ds R => ∃ P M e t n, ds = [.lst [rowD P M], .lst (pthD (e :: t)), .lst (nons n)] ∧ 0 < n ∧ okR P M ∧ (∀ x ∈ e :: t, x.1 < P.length) ∧ t.length ≤ n ∧ (txt P (e :: t)).length ≤ 1000 ∧ R (.lst [.str (tx (txt P (e :: t)))])
theorem c_ring_row (W : W0 K mg') : DefF P w K mg' base "ring_row" ["rows", "path", "marks"] 4 (SpF sp_ring_row) := by
  refine g_ring_row W (c_strand_row W) ?_ ?_
  · rintro ds Kd ⟨PP, M, e, t, n, rfl, _⟩
    rfl
  · rintro ds Kd ⟨PP, M, e, t, n, rfl, h0, h, hi, hn, hl, k⟩
    obtain ⟨n, rfl⟩ : ∃ j, n = j + 1 := ⟨n - 1, by omega⟩
    have a1 : atI (nons (n + 1)) (-1) = some .non := by
      rw [nons, List.replicate_succ']
      exact atI_last _ _
    simp [R_ring_row, init, initO, endsO, dRet, dSeq, dNext, dDrop, dIfS, dSet, dAsg, dPar, dPar3, dNever, dNo1, dVar, dC, dOp, dChain, dB, dAnd, dOr, dNot, dAndV, dOrV, dNotV, dIf, dNil, dCons, dTup, dLst, dCall, dIsi, dIsi2, tyD, isaT, dAdd, dSub, dMul, dMod, dDiv, dPow, dInt2, dLt, dLe, dGt, dGe, dEq, dNe, dIsN, dNotN, dInSign, dInText, dNotInText, dIx, dSl, dPart, dNo, dCut, dRev, dRevS, dM0, dLen, dAll, dAny, dMax2, dMin2, dList, dgName, dgNil, dgCons, dgTup, dgLst, dItL, dItT, dItR, dItE, dItZ, dItS, dYes, wipeG, noOwn, dMulS, dLstN, dSetN, dCatN, dOwnIx, dOwnLen, dOwnOp, dOpOwn, dApp, dExt, dPopAt, isOwn, isOwnL, dSetIx, dFrz, OD.d, DL.scal, dFld, dOwnFld, getF, dSetF, dMake, dMeth, dEither, dIsiC, dIsiSR, dJoin, dTextOf, dJoined3, dListN, dParN, dLc]
    refine ⟨PP, M, e, t, n + 1, rfl, h, hi, hn, hl, .non, a1, ?_⟩
    simp
    exact k
def sp_pieces_on : Fsp := fun ds R => ∃ t : List End, ds = [.lst [.lst (pthD t)]] ∧ t.length ≤ 1000 ∧ R (.lst (t.map fun e => .tup [.int 0, .int (e.1 : Nat)]))
theorem c_pieces_on (W : W0 K mg') : DefF P w K mg' base "pieces_on" ["paths"] 1 (SpF sp_pieces_on) := by
  refine g_pieces_on W ?_ ?_
  · rintro ds Kd ⟨t, rfl, _⟩
    rfl
  · rintro ds Kd ⟨t, rfl, h, k⟩
    simp [R_pieces_on, dLc2, init, initO, endsO, dRet, dSeq, dNext, dDrop, dIfS, dSet, dAsg, dPar, dPar3, dNever, dNo1, dVar, dC, dOp, dChain, dB, dAnd, dOr, dNot, dAndV, dOrV, dNotV, dIf, dNil, dCons, dTup, dLst, dCall, dIsi, dIsi2, tyD, isaT, dAdd, dSub, dMul, dMod, dDiv, dPow, dInt2, dLt, dLe, dGt, dGe, dEq, dNe, dIsN, dNotN, dInSign, dInText, dNotInText, dIx, dSl, dPart, dNo, dCut, dRev, dRevS, dM0, dLen, dAll, dAny, dMax2, dMin2, dList, dgName, dgNil, dgCons, dgTup, dgLst, dItL, dItT, dItR, dItE, dItZ, dItS, dYes, wipeG, noOwn, dMulS, dLstN, dSetN, dCatN, dOwnIx, dOwnLen, dOwnOp, dOpOwn, dApp, dExt, dPopAt, isOwn, isOwnL, dSetIx, dFrz, OD.d, DL.scal, dFld, dOwnFld, getF, dSetF, dMake, dMeth, dEither, dIsiC, dIsiSR, dJoin, dTextOf, dJoined3, dListN, dParN, dLc]
    obtain ⟨f, hf⟩ := fn_of t stepD (fun e => .tup [.int 0, .int (e.1 : Nat)]) fun x y _ _ e => by
      simp at e
      rw [e.1]
    refine ⟨fun _ => pthD t, by simp; exact sz (by omega), fun _ => f, ⟨rfl, fun d hd => ?_⟩, ?_⟩
    · obtain ⟨x, hx, rfl⟩ := List.mem_map.mp hd
      exact ⟨_, rfl, (hf x hx).symm⟩
    · show Kd (.lst ((t.map stepD).map f))
      rw [List.map_map, List.map_congr_left (f := f ∘ stepD) (g := fun e => D.tup [.int 0, .int (e.1 : Nat)]) hf]
      exact k
end
end MS
set_option maxHeartbeats 4000000
/-! strands, rings, links -/
namespace MS
open PySem PySem.Spec PyProof.Rows L2 DL NL
section
variable {P : Program} {w : World} {K : PySem.W.Frag} {mg' : Str → Option Value} {base : Heap}
theorem shD_end (e : End) : shD 1 (endD e) := shD_tup fun d hd => by
  simp at hd
  rcases hd with rfl | rfl | rfl <;> exact shD_int _
theorem eqv_rev (e e' : End) : PyData.eqv (py (endD e')) (py (endD e)) = decide (e' = e) := eqv_end e' e
def sp_find_strands : Fsp := fun ds R => ∃ P M ks vs L t, ds = [.lst [rowD P M], .dT ks vs] ∧ okR P M ∧ Links ks vs L ∧ Tr L (0, false) (0, false) t (some (M.length, true)) ∧ t.length ≤ 1000 ∧ (∀ e ∈ t, L (fp e) = none → fp e = (0, false) ∨ fp e = (M.length, true)) ∧
  R (.lst [.tup [endD (0, false), endD (M.length, true), .lst (pthD t), .lst (nons (t.length - 1))]])
theorem c_find_strands (W : W0 K mg') : DefF P w K mg' base "find_strands" ["rows", "links"] 3 (SpF sp_find_strands) := by
  refine g_find_strands W (c_walk W) ?_ ?_
  · rintro ds Kd ⟨PP, M, ks, vs, L, t, rfl, _⟩
    rfl
  · rintro ds Kd ⟨PP, M, ks, vs, L, t, rfl, h, hL, tr, tl, hn, k⟩
    have z0 : 0 ≤ sizeLine := by decide
    simp [R_find_strands, dFor, z0, init, initO, endsO, dRet, dSeq, dNext, dDrop, dIfS, dSet, dAsg, dPar, dPar3, dNever, dNo1, dVar, dC, dOp, dChain, dB, dAnd, dOr, dNot, dAndV, dOrV, dNotV, dIf, dNil, dCons, dTup, dLst, dCall, dIsi, dIsi2, tyD, isaT, dAdd, dSub, dMul, dMod, dDiv, dPow, dInt2, dLt, dLe, dGt, dGe, dEq, dNe, dIsN, dNotN, dInSign, dInText, dNotInText, dIx, dSl, dPart, dNo, dCut, dRev, dRevS, dM0, dLen, dAll, dAny, dMax2, dMin2, dList, dgName, dgNil, dgCons, dgTup, dgLst, dItL, dItT, dItR, dItE, dItZ, dItS, dYes, wipeG, noOwn, dMulS, dLstN, dSetN, dCatN, dOwnIx, dOwnLen, dOwnOp, dOpOwn, dApp, dExt, dPopAt, isOwn, isOwnL, dSetIx, dFrz, OD.d, DL.scal, dFld, dOwnFld, getF, dSetF, dMake, dMeth, dEither, dIsiC, dIsiSR, dJoin, dTextOf, dJoined3, dListN, dParN, dLc]
    refine ⟨fun i Γ => ∃ a b c d e f, Γ = [.val (.lst [rowD PP M]), .val (.dT ks vs), .own (.lst (if i = 0 then [] else [.tup [endD (0, false), endD (M.length, true), .lst (pthD t), .lst (nons (t.length - 1))]])), .own (.lst (if i = 0 then [] else [endD (M.length, true)])), a, b, c, d, e, f], ⟨_, _, _, _, _, _, rfl⟩, ?_, ?_⟩
    · rintro i d Γ2 hd ⟨a, b, c, d', e, f, rfl⟩
      obtain ⟨x, hx, rfl⟩ := enum_get hd
      match i, hx with
      | 0, hx =>
        cases hx
        simp
        have hdv : (((row PP M).length : Nat) : Int) / 2 = (M.length : Nat) := by rw [row_len h.len]; omega
        rw [hdv]
        refine ⟨by decide, ⟨by decide, by decide⟩, by decide, by decide, fun j Γ => ∃ c d e f, Γ = [.val (.lst [rowD PP M]), .val (.dT ks vs), .own (.lst (if j = 0 then [] else [.tup [endD (0, false), endD (M.length, true), .lst (pthD t), .lst (nons (t.length - 1))]])), .own (.lst (if j = 0 then [] else [endD (M.length, true)])), .val (.int 0), .val (rowD PP M), c, d, e, f], ⟨_, _, _, _, rfl⟩, ?_, ?_⟩
        · rintro j d Γ2 hd ⟨c, d', e, f, rfl⟩
          match j, hd with
          | 0, hd =>
            cases hd
            have s1 := shp_end (0, false)
            have s2 : shp (.lst []) = true := rfl
            simp [dNotInL]
            refine ⟨s1, s2, fun x hx => (nomatch hx), ?_⟩
            exact ⟨PP, M, ks, vs, L, (0, false), t, some (M.length, true), rfl, h, hL, tr, tl, hn, rfl, rfl, by decide, by decide, by decide, ⟨rfl, rfl, rfl, rfl⟩, rfl⟩
          | 1, hd =>
            cases hd
            have s1 := shp_end (M.length, true)
            simp [dNotInL]
            refine ⟨s1, shp_of (n := 2) (shD_lst fun d hd => by
              rw [List.mem_singleton.mp hd]
              exact shD_end _) (by decide), fun hx => ?_⟩
            have z := hx (py (endD (M.length, true))) (List.mem_singleton.mpr rfl)
            have z2 : PyData.eqv (py (endD (M.length, true))) (py (endD (M.length, true))) = false := z
            rw [eqv_end] at z2
            simp at z2
          | j + 2, hd => simp at hd
        · rintro Γ2 ⟨c, d', e, f, rfl⟩
          exact ⟨_, _, _, _, _, _, rfl⟩
      | i + 1, hx => simp at hx
    · rintro Γ2 ⟨a, b, c, d', e, f, rfl⟩
      simp
      exact k
/-- the rings from here on -/
inductive Rg (L : Lnk) : List Nat → List Nat → List (List End) → Prop where
  | nil {seen : List Nat} : Rg L seen [] []
  | skip {seen : List Nat} {i : Nat} {is : List Nat} {ts : List (List End)} (h : i ∈ seen) (g : Rg L seen is ts) : Rg L seen (i :: is) ts
  | walk {seen : List Nat} {i : Nat} {is : List Nat} {t : List End} {ts : List (List End)} (h : i ∉ seen) (tr : Tr L (i, false) (i, false) t none) (tl : t.length ≤ 1000) (hn : ∀ e ∈ t, L (fp e) ≠ none) (g : Rg L (seen ++ t.map (·.1)) is ts) : Rg L seen (i :: is) (t :: ts)
abbrev pcD (i : Nat) : D := .tup [.int 0, .int (i : Nat)]
theorem shD_pc (i : Nat) : shD 1 (pcD i) := shD_tup fun d hd => by
  simp at hd
  rcases hd with rfl | rfl <;> exact shD_int _
theorem eqv_pc (i j : Nat) : PyData.eqv (py (pcD i)) (py (pcD j)) = decide (i = j) := by
  show (((0 : Int) == 0) && ((((i : Nat) : Int) == ((j : Nat) : Int)) && true)) = _
  rw [Bool.eq_iff_iff]
  simp
  omega
theorem any_pc (l : List Nat) (i : Nat) : ((pys (l.map pcD)).any fun z => PyData.eqv z (py (pcD i))) = decide (i ∈ l) := by
  induction l with
  | nil => rfl
  | cons j l ih =>
    show (PyData.eqv (py (pcD j)) (py (pcD i)) || _) = _
    rw [ih, eqv_pc]
    rw [Bool.eq_iff_iff]
    simp
    constructor
    · rintro (h | h)
      · exact .inl h.symm
      · exact .inr h
    · rintro (h | h)
      · exact .inl h.symm
      · exact .inr h
abbrev ringT (t : List End) : D := .tup [.lst (pthD t), .lst (nons t.length)]
def sp_find_rings : Fsp := fun ds R => ∃ (P : List (List Nat)) (M : List Mk1) (ks : List (List Key)) (vs : List D) (L : Lnk) (known : List Nat) (ts : List (List End)), ds = [.lst [rowD P M], .dT ks vs, .lst (known.map pcD)] ∧ okR P M ∧ Links ks vs L ∧ Rg L known (List.range (M.length + 1)) ts ∧ known.length ≤ 1000 ∧ M.length ≤ 500 ∧
  R (.lst (ts.map ringT))
theorem c_find_rings (W : W0 K mg') : DefF P w K mg' base "find_rings" ["rows", "links", "known"] 3 (SpF sp_find_rings) := by
  refine g_find_rings W (c_walk W) ?_ ?_
  · rintro ds Kd ⟨PP, M, ks, vs, L, kn, ts, rfl, _⟩
    rfl
  · rintro ds Kd ⟨PP, M, ks, vs, L, kn, ts, rfl, h, hL, rg, kl, ml, k⟩
    have z0 : 0 ≤ sizeLine := by decide
    simp [R_find_rings, dFor, z0, init, initO, endsO, dRet, dSeq, dNext, dDrop, dIfS, dSet, dAsg, dPar, dPar3, dNever, dNo1, dVar, dC, dOp, dChain, dB, dAnd, dOr, dNot, dAndV, dOrV, dNotV, dIf, dNil, dCons, dTup, dLst, dCall, dIsi, dIsi2, tyD, isaT, dAdd, dSub, dMul, dMod, dDiv, dPow, dInt2, dLt, dLe, dGt, dGe, dEq, dNe, dIsN, dNotN, dInSign, dInText, dNotInText, dIx, dSl, dPart, dNo, dCut, dRev, dRevS, dM0, dLen, dAll, dAny, dMax2, dMin2, dList, dgName, dgNil, dgCons, dgTup, dgLst, dItL, dItT, dItR, dItE, dItZ, dItS, dYes, wipeG, noOwn, dMulS, dLstN, dSetN, dCatN, dOwnIx, dOwnLen, dOwnOp, dOpOwn, dApp, dExt, dPopAt, isOwn, isOwnL, dSetIx, dFrz, OD.d, DL.scal, dFld, dOwnFld, getF, dSetF, dMake, dMeth, dEither, dIsiC, dIsiSR, dJoin, dTextOf, dJoined3, dListN, dParN, dLc]
    refine ⟨fun i Γ => ∃ sn a b c d e f g, Γ = [.val (.lst [rowD PP M]), .val (.dT ks vs), .val (.lst (kn.map pcD)), .own (.lst sn), .own (.lst (if i = 0 then [] else ts.map ringT)), a, b, c, d, e, f, g] ∧ (i = 0 → sn = kn.map pcD ∧ g = .un), ⟨_, _, _, _, _, _, _, _, rfl, fun _ => ⟨rfl, rfl⟩⟩, ?_, ?_⟩
    · rintro i d Γ2 hd ⟨sn, a, b, c, d', e, f, g, rfl, hg⟩
      obtain ⟨x, hx, rfl⟩ := enum_get hd
      match i, hx with
      | 0, hx =>
        cases hx
        obtain ⟨rfl, rfl⟩ := hg rfl
        have hdv : (((row PP M).length : Nat) : Int) / 2 = (M.length : Nat) := by rw [row_len h.len]; omega
        simp
        have hto : ((M.length : Int) + 1).toNat = M.length + 1 := by omega
        rw [hdv, hto]
        refine ⟨⟨by decide, by decide⟩, by omega, by omega, fun j Γ => ∃ (seen : List Nat) (ts1 ts2 : List (List End)) (a b c e : Slot), Γ = [.val (.lst [rowD PP M]), .val (.dT ks vs), .val (.lst (kn.map pcD)), .own (.lst (seen.map pcD)), .own (.lst (ts1.map ringT)), .val (.int 0), .val (rowD PP M), a, b, c, e, .un] ∧
          ts = ts1 ++ ts2 ∧ Rg L seen ((List.range (M.length + 1)).drop j) ts2 ∧ seen.length ≤ 1000 + 1000 * j ∧ ts1.length ≤ j, ⟨kn, [], ts, _, _, _, _, rfl, rfl, rg, by omega, Nat.le_refl _⟩, ?_, ?_⟩
        · rintro j d Γ2 hd ⟨seen, ts1, ts2, a, b, c, e, rfl, et, rj, sl, t1⟩
          have hj : j < M.length + 1 := by
            have := (List.getElem?_eq_some_iff.mp hd).1
            rwa [upTo_len] at this
          rw [upTo_get hj] at hd
          cases hd
          have dr : (List.range (M.length + 1)).drop j = j :: (List.range (M.length + 1)).drop (j + 1) := by
            rw [List.drop_eq_getElem_cons (by simpa using hj)]
            simp
          rw [dr] at rj
          have sh1 := shp_of (shD_pc j) (by decide)
          have sh2 : shp (.lst (seen.map pcD)) = true := shp_of (n := 2) (shD_lst fun d hd => by
            obtain ⟨x, _, rfl⟩ := List.mem_map.mp hd
            exact shD_pc x) (by decide)
          have an := any_pc seen j
          simp only [dNotInL, List.getElem?_cons_succ, List.getElem?_cons_zero, List.set_cons_succ, List.set_cons_zero, Option.some.injEq, exists_eq_left', Slot.own.injEq]
          refine ⟨by decide, sh1, sh2, ?_⟩
          rw [an]
          refine ⟨trivial, ?_⟩
          cases rj with
          | skip hm g =>
            rw [decide_eq_true hm, if_neg (by decide)]
            exact ⟨seen, ts1, ts2, _, _, _, _, rfl, et, g, by omega, by omega⟩
          | walk hm tr tl hn g =>
            rename_i t ts'
            rw [decide_eq_false hm, if_pos (by decide)]
            obtain ⟨f, hf⟩ := fn_of t stepD (fun e => pcD e.1) fun x y _ _ e => by
              simp at e
              show pcD x.1 = pcD y.1
              have e1 : x.1 = y.1 := by omega
              rw [e1]
            refine ⟨by decide, PP, M, ks, vs, L, (j, false), t, none, rfl, h, hL, tr, tl, fun e he q => absurd q (hn e he), rfl, rfl, ⟨_, rfl⟩, by rw [List.length_map]; exact sz (by omega), trivial, fun _ => true, f, ?_, _, rfl, ?_, ⟨_, rfl⟩, by decide, _, rfl, ?_, seen ++ t.map (·.1), ts1 ++ [t], ts', .val (.int j), .val (.lst (pthD t)), .val (.lst (nons t.length)), .val .non, ?_, by rw [et]; simp, g, by rw [List.length_append, List.length_map]; omega, by simp; omega⟩
            · intro d hd
              obtain ⟨x, hx, rfl⟩ := List.mem_map.mp hd
              exact ⟨rfl, fun _ => ⟨_, rfl, (hf x hx).symm⟩⟩
            · rw [filter_tr, List.length_map, List.length_map]
              exact sz (by omega)
            · rw [List.length_map]
              exact Nat.lt_of_le_of_lt (show _ ≤ 1000 by omega) (by decide)
            · have e1 : (t.map stepD).map f = (t.map (·.1)).map pcD := by
                rw [List.map_map, List.map_map]
                exact List.map_congr_left hf
              rw [filter_tr]
              show [_, _, _, Slot.own (OD.lst (seen.map pcD ++ (t.map stepD).map f)), _, _, _, _, _, _, _, _] = _
              rw [e1, ← List.map_append]
              simp only [List.map_append, List.map_cons, List.map_nil]
              rfl
        · rintro Γ2 ⟨seen, ts1, ts2, a, b, c, e, rfl, et, rj, sl, t1⟩
          rw [upTo_len, List.drop_eq_nil_of_le (by simp)] at rj
          cases rj
          rw [List.append_nil] at et
          subst et
          exact ⟨_, _, _, _, _, _, _, _, rfl⟩
      | i + 1, hx => simp at hx
    · rintro Γ2 ⟨sn, a, b, c, d', e, f, g, rfl, _⟩
      simp
      exact k
end
end MS
set_option maxHeartbeats 4000000
/-! the tables' entries; link_ends -/
namespace MS
open PySem PySem.Spec PyProof.Rows L2 DL NL
def vals (l : List (Str × D)) (k : Str) : List D := (l.filter fun p => decide (p.1 = k)).map (·.2)
theorem vals_snoc (l : List (Str × D)) (p : Str × D) (k : Str) : vals (l ++ [p]) k = if p.1 = k then vals l k ++ [p.2] else vals l k := by
  unfold vals
  rw [List.filter_append]
  by_cases h : p.1 = k
  · simp [h]
  · simp [h]
theorem addZ_keys (k : Str) (d : D) : ∀ z : Tz, (addZ z k d).map (·.1) = if k ∈ z.map (·.1) then z.map (·.1) else z.map (·.1) ++ [k]
  | [] => rfl
  | (k', ds) :: z => by
    unfold addZ
    by_cases h : k' = k
    · simp [h]
    · rw [if_neg h, List.map_cons, addZ_keys k d z]
      have h' : ¬ k = k' := fun e => h e.symm
      by_cases g : k ∈ z.map (·.1)
      · rw [if_pos g, if_pos (by simp at g ⊢; exact .inr g)]
        rfl
      · rw [if_neg g, if_neg (by simp at g ⊢; exact ⟨h', g⟩)]
        rfl
theorem addZ_entry {k : Str} {d : D} : ∀ {z : Tz}, (z.map (·.1)).Nodup → ∀ q ∈ addZ z k d, (q ∈ z ∧ q.1 ≠ k) ∨ (q.1 = k ∧ ∃ ds, (k, ds) ∈ z ∧ q.2 = ds ++ [d]) ∨ (q = (k, [d]) ∧ k ∉ z.map (·.1))
  | [], _, q, hq => .inr (.inr ⟨List.mem_singleton.mp hq, fun h => (nomatch h)⟩)
  | (k', ds) :: z, hn, q, hq => by
    obtain ⟨h1, h2⟩ := List.nodup_cons.mp hn
    unfold addZ at hq
    by_cases h : k' = k
    · rw [if_pos h] at hq
      subst h
      rcases List.mem_cons.mp hq with rfl | hq
      · exact .inr (.inl ⟨rfl, ds, List.mem_cons_self, rfl⟩)
      · refine .inl ⟨List.mem_cons_of_mem _ hq, fun e => ?_⟩
        exact h1 (List.mem_map.mpr ⟨q, hq, e⟩)
    · rw [if_neg h] at hq
      rcases List.mem_cons.mp hq with rfl | hq
      · exact .inl ⟨List.mem_cons_self, h⟩
      · rcases addZ_entry h2 q hq with ⟨a, b⟩ | ⟨a, ds', b, c⟩ | ⟨a, b⟩
        · exact .inl ⟨List.mem_cons_of_mem _ a, b⟩
        · exact .inr (.inl ⟨a, ds', List.mem_cons_of_mem _ b, c⟩)
        · refine .inr (.inr ⟨a, fun z => ?_⟩)
          rcases List.mem_cons.mp z with e | z
          · exact h e.symm
          · exact b z
structure TabOk (l : List (Str × D)) (z : Tz) : Prop where
  nd : (z.map (·.1)).Nodup
  ent : ∀ q ∈ z, q.2 = vals l q.1
  key : ∀ k, k ∈ z.map (·.1) ↔ k ∈ l.map (·.1)
theorem vals_none {l : List (Str × D)} {k : Str} (h : k ∉ l.map (·.1)) : vals l k = [] := by
  unfold vals
  rw [List.filter_eq_nil_iff.mpr]
  · rfl
  · intro p hp e
    exact h (List.mem_map.mpr ⟨p, hp, of_decide_eq_true e⟩)
theorem TabOk.add {l : List (Str × D)} {z : Tz} (t : TabOk l z) (p : Str × D) : TabOk (l ++ [p]) (addZ z p.1 p.2) := by
  refine ⟨?_, fun q hq => ?_, fun k => ?_⟩
  · rw [addZ_keys]
    split
    · exact t.nd
    · rename_i h
      refine List.nodup_append.mpr ⟨t.nd, by simp, ?_⟩
      intro a ha b hb e
      rw [List.mem_singleton.mp hb] at e
      exact h (e ▸ ha)
  · rw [vals_snoc]
    rcases addZ_entry t.nd q hq with ⟨a, b⟩ | ⟨a, ds', b, c⟩ | ⟨a, b⟩
    · rw [if_neg fun e => b e.symm]
      exact t.ent q a
    · rw [if_pos a.symm, c, a, ← t.ent _ b]
    · rw [a]
      rw [if_pos rfl, vals_none fun h => b ((t.key _).mpr h)]
      rfl
  · rw [addZ_keys, List.map_append]
    split
    · rename_i h
      rw [t.key, List.mem_append]
      constructor
      · exact .inl
      · rintro (g | g)
        · exact g
        · rw [List.mem_singleton.mp g]
          exact (t.key _).mp h
    · rw [List.mem_append, List.mem_append, t.key]
      rfl
theorem tab_ok (l : List (Str × D)) : TabOk l (tabOf l) := by
  have gen : ∀ (l2 l1 : List (Str × D)), TabOk l1 (tabOf l1) → TabOk (l1 ++ l2) (tabOf (l1 ++ l2)) := by
    intro l2
    induction l2 with
    | nil =>
      intro l1 h
      rw [List.append_nil]
      exact h
    | cons p l2 ih =>
      intro l1 h
      rw [show l1 ++ p :: l2 = (l1 ++ [p]) ++ l2 by simp]
      refine ih _ ?_
      have e : tabOf (l1 ++ [p]) = addZ (tabOf l1) p.1 p.2 := by
        unfold tabOf
        rw [List.foldl_append]
        rfl
      rw [e]
      exact h.add p
  have := gen l [] ⟨List.nodup_nil, fun _ h => (nomatch h), fun k => Iff.rfl⟩
  simpa using this
theorem findD_mem {κ : Type} [DecidableEq κ] {α : Type} {fk : α → κ} {fd : α → D} : ∀ {z : List α} {q : α}, q ∈ z → (∀ a ∈ z, fk a = fk q → a = q) → findD (z.map fk) (z.map fd) (fk q) = some (fd q)
  | [], _, h, _ => nomatch h
  | a :: z, q, h, inj => by
    unfold findD
    rw [List.map_cons, List.findIdx?_cons]
    by_cases e : fk a = fk q
    · rw [inj a List.mem_cons_self e]
      simp
    · have h' : q ∈ z := (List.mem_cons.mp h).resolve_left fun z => e (by rw [z])
      have ih := findD_mem (fk := fk) (fd := fd) h' fun b hb => inj b (List.mem_cons_of_mem _ hb)
      unfold findD at ih
      simp only [e, decide_false, Bool.false_eq_true, if_false]
      cases c : (z.map fk).findIdx? fun z => decide (z = fk q) with
      | none =>
        rw [c] at ih
        cases ih
      | some i =>
        rw [c] at ih
        simpa using ih
theorem nodup_key {α β : Type} {f : α → β} : ∀ {z : List α}, (z.map f).Nodup → ∀ {a b : α}, a ∈ z → b ∈ z → f a = f b → a = b
  | [], _, _, _, h, _, _ => nomatch h
  | x :: z, hn, a, b, ha, hb, e => by
    obtain ⟨h1, h2⟩ := List.nodup_cons.mp hn
    rcases List.mem_cons.mp ha with ea | ha'
    · rcases List.mem_cons.mp hb with eb | hb'
      · rw [ea, eb]
      · exact absurd (List.mem_map.mpr ⟨b, hb', by rw [← e, ea]⟩) h1
    · rcases List.mem_cons.mp hb with eb | hb'
      · exact absurd (List.mem_map.mpr ⟨a, ha', by rw [e, eb]⟩) h1
      · exact nodup_key h2 ha' hb' e
theorem tab_find {l : List (Str × D)} {k : Str} (h : k ∈ l.map (·.1)) : lookD (tabD (tabOf l)) (.str k) = some (some (.lst (vals l k))) := by
  have t := tab_ok l
  obtain ⟨q, hq, rfl⟩ := List.mem_map.mp ((t.key k).mpr h)
  show some (findD ((tabOf l).map fun q => (.inr q.1 : Key)) ((tabOf l).map fun q => .lst q.2) (.inr q.1)) = _
  have nd := t.nd
  have := findD_mem (fk := fun q : Str × List D => (.inr q.1 : Key)) (fd := fun q => .lst q.2) hq fun a ha e => by
    have e1 : a.1 = q.1 := Sum.inr.inj e
    exact nodup_key nd ha hq e1
  rw [this, t.ent q hq]
end MS
set_option maxHeartbeats 4000000
/-! the links -/
namespace MS
open PySem PySem.Spec PyProof.Rows L2 DL NL
def idx (M : List Mk1) : List (Nat × Mk1) := M.mapIdx fun i m => (i, m)
def occ (M : List Mk1) (n : List Nat) : List (Nat × Mk1) := (idx M).filter fun p => decide (p.2.1 = n)
def gapOf (e : End) : Option Nat := if e.2 = true then some e.1 else if e.1 = 0 then none else some (e.1 - 1)
def mate (M : List Mk1) (g : Nat) (n : List Nat) : Option (Nat × Bool) := match occ M n with
  | [p, q] => if p.1 = g then some (q.1, q.2.2) else some (p.1, p.2.2)
  | _ => none
def mkAt (M : List Mk1) (e : End) : Option (Nat × Mk1) := (gapOf e).bind fun g => M[g]?.map fun m => (g, m)
def Lk (M : List Mk1) : Lnk := fun e => match mkAt M e with
  | some (g, (n, u)) => (mate M g n).map fun q => if e.2 = u then aft q.1 q.2 else bef q.1 q.2
  | none => none
def LkN (M : List Mk1) (ns : List (List Nat)) : Lnk := fun e => match mkAt M e with
  | some (_, m) => if m.1 ∈ ns then Lk M e else none
  | none => none
theorem gap_bef (g : Nat) (u : Bool) : gapOf (bef g u) = some g := by cases u <;> simp [gapOf, bef]
theorem gap_aft (g : Nat) (u : Bool) : gapOf (aft g u) = some g := by cases u <;> simp [gapOf, aft]
theorem bef_or {e : End} {g : Nat} (u : Bool) (h : gapOf e = some g) : (e = bef g u ∧ e.2 = u) ∨ (e = aft g u ∧ e.2 ≠ u) := by
  obtain ⟨i, s⟩ := e
  cases s
  · simp only [gapOf] at h
    by_cases h0 : i = 0
    · simp [h0] at h
    · simp [h0] at h
      cases u <;> simp [bef, aft] <;> omega
  · simp [gapOf] at h
    cases u <;> simp [bef, aft] <;> omega
theorem bef_ne_aft (g g' : Nat) (u u' : Bool) (h : g ≠ g') : bef g u ≠ aft g' u' := fun e => by
  have := congrArg gapOf e
  rw [gap_bef, gap_aft] at this
  exact h (Option.some.inj this)
theorem bef_ne (g : Nat) (u : Bool) : bef g u ≠ aft g u := by cases u <;> simp [bef, aft]
theorem idx_mem {M : List Mk1} {p : Nat × Mk1} : p ∈ idx M ↔ M[p.1]? = some p.2 := by
  unfold idx
  constructor
  · intro h
    obtain ⟨i, hi, e⟩ := List.mem_mapIdx.mp h
    rw [← e]
    exact List.getElem?_eq_getElem hi
  · intro h
    obtain ⟨hi, e⟩ := List.getElem?_eq_some_iff.mp h
    exact List.mem_mapIdx.mpr ⟨p.1, hi, by rw [e]⟩
theorem occ_mem {M : List Mk1} {n : List Nat} {p : Nat × Mk1} : p ∈ occ M n ↔ M[p.1]? = some p.2 ∧ p.2.1 = n := by
  unfold occ
  rw [List.mem_filter, idx_mem, decide_eq_true_eq]
/-- the four puts of a name -/
def up (L : Lnk) (e e' : End) : Lnk := fun x => if x = e then some e' else L x
theorem up4 {M : List Mk1} {n : List Nat} {f s : Nat} {u v : Bool} (h : occ M n = [(f, (n, u)), (s, (n, v))]) (fs : f ≠ s) (ns : List (List Nat)) (x : End) :
    up (up (up (up (LkN M ns) (bef f u) (aft s v)) (aft s v) (bef f u)) (bef s v) (aft f u)) (aft f u) (bef s v) x = LkN M (ns ++ [n]) x := by
  have mf : M[f]? = some (n, u) := (occ_mem.mp (show (f, (n, u)) ∈ occ M n by rw [h]; exact List.mem_cons_self)).1
  have ms : M[s]? = some (n, v) := (occ_mem.mp (show (s, (n, v)) ∈ occ M n by rw [h]; exact List.mem_cons_of_mem _ List.mem_cons_self)).1
  have at_ : ∀ g m, gapOf x = some g → M[g]? = some m → mkAt M x = some (g, m) := fun g m h1 h2 => by
    unfold mkAt
    rw [h1]
    show M[g]?.map _ = _
    rw [h2] <;> rfl
  have nx : ∀ g, gapOf x = some g → g ≠ f → g ≠ s → up (up (up (up (LkN M ns) (bef f u) (aft s v)) (aft s v) (bef f u)) (bef s v) (aft f u)) (aft f u) (bef s v) x = LkN M ns x := fun g hg h1 h2 => by
    have q : ∀ y : End, (gapOf y = some f ∨ gapOf y = some s) → x ≠ y := fun y hy e => by
      rw [e] at hg
      rcases hy with hy | hy
      · exact h1 (Option.some.inj (hg.symm.trans hy))
      · exact h2 (Option.some.inj (hg.symm.trans hy))
    unfold up
    rw [if_neg (q _ (.inl (gap_aft _ _))), if_neg (q _ (.inr (gap_bef _ _))), if_neg (q _ (.inr (gap_aft _ _))), if_neg (q _ (.inl (gap_bef _ _)))]
  cases hg : gapOf x with
  | none =>
    have q : ∀ y : End, gapOf y ≠ none → x ≠ y := fun y hy e => hy (e ▸ hg)
    have m0 : mkAt M x = none := by unfold mkAt; rw [hg] <;> rfl
    unfold up
    rw [if_neg (q _ (by rw [gap_aft]; simp)), if_neg (q _ (by rw [gap_bef]; simp)), if_neg (q _ (by rw [gap_aft]; simp)), if_neg (q _ (by rw [gap_bef]; simp))]
    unfold LkN
    rw [m0]
  | some g =>
    by_cases gf : g = f
    · subst gf
      have m1 := at_ g _ hg mf
      have e1 : LkN M (ns ++ [n]) x = some (if x.2 = u then aft s v else bef s v) := by
        unfold LkN Lk
        rw [m1]
        simp [mate, h]
      rw [e1]
      rcases bef_or u hg with ⟨e, e2⟩ | ⟨e, e2⟩
      · rw [if_pos e2]
        unfold up
        rw [if_neg (by rw [e]; exact bef_ne g u), if_neg (by rw [e]; intro z; have := congrArg gapOf z; rw [gap_bef, gap_bef] at this; exact fs (Option.some.inj this)), if_neg (by rw [e]; exact bef_ne_aft _ _ _ _ fs), if_pos e]
      · rw [if_neg e2]
        unfold up
        rw [if_pos e]
    · by_cases gs : g = s
      · subst gs
        have m1 := at_ g _ hg ms
        have e1 : LkN M (ns ++ [n]) x = some (if x.2 = v then aft f u else bef f u) := by
          unfold LkN Lk
          rw [m1]
          simp [mate, h, fs]
        rw [e1]
        rcases bef_or v hg with ⟨e, e2⟩ | ⟨e, e2⟩
        · rw [if_pos e2]
          unfold up
          rw [if_neg (by rw [e]; exact bef_ne_aft _ _ _ _ gf), if_pos e]
        · rw [if_neg e2]
          unfold up
          rw [if_neg (by rw [e]; intro z; have := congrArg gapOf z; rw [gap_aft, gap_aft] at this; exact gf (Option.some.inj this)), if_neg (by rw [e]; exact fun z => bef_ne g v z.symm), if_pos e]
      · rw [nx g hg gf gs]
        cases q : M[g]? with
        | none =>
          have m0 : mkAt M x = none := by
            unfold mkAt
            rw [hg]
            show M[g]?.map _ = _
            rw [q] <;> rfl
          unfold LkN
          rw [m0]
        | some m =>
          have m1 := at_ g m hg q
          have ne : m.1 ≠ n := fun e => by
            have : (g, m) ∈ occ M n := occ_mem.mpr ⟨q, e⟩
            rw [h] at this
            simp at this
            rcases this with ⟨h1, _⟩ | ⟨h1, _⟩
            · exact gf h1
            · exact gs h1
          unfold LkN
          rw [m1]
          simp [ne]
end MS
set_option maxHeartbeats 4000000
/-! link_ends -/
namespace MS
open PySem PySem.Spec PyProof.Rows L2 DL NL
theorem findIdx_map {κ : Type} [DecidableEq κ] (ks : List κ) (k : κ) : (ks.findIdx? fun z => decide (z = k)) = none ↔ k ∉ ks := by
  rw [List.findIdx?_eq_none_iff]
  constructor
  · intro h hk
    have := h k hk
    simp at this
  · intro h x hx
    exact decide_eq_false fun e => h (e ▸ hx)
theorem find_put {κ : Type} [DecidableEq κ] {k : κ} {d : D} : ∀ {ks : List κ} {ds : List D}, ks.length = ds.length → ∀ k', findD (putD ks ds k d).1 (putD ks ds k d).2 k' = if k' = k then some d else findD ks ds k'
  | [], [], _, k' => by
    unfold putD findD
    by_cases e : k' = k
    · subst e
      simp
    · have e' : ¬ k = k' := fun z => e z.symm
      simp [e, e']
  | x :: ks, y :: ds, h, k' => by
    have ih := find_put (k := k) (d := d) (ks := ks) (ds := ds) (by simpa using h) k'
    unfold putD at ih ⊢
    rw [List.findIdx?_cons]
    by_cases e : x = k
    · subst e
      simp only [decide_true, if_true]
      unfold findD
      rw [List.findIdx?_cons]
      by_cases e2 : k' = x
      · subst e2
        simp
      · have e3 : ¬ x = k' := fun z => e2 z.symm
        simp [e2, e3]
        cases ks.findIdx? fun z => decide (z = k') <;> simp
    · simp only [e, decide_false, Bool.false_eq_true, if_false]
      cases q : ks.findIdx? fun z => decide (z = k) with
      | none =>
        rw [q] at ih
        simp only [Option.map_none] at ih ⊢
        unfold findD at ih ⊢
        rw [List.cons_append, List.cons_append, List.findIdx?_cons, List.findIdx?_cons]
        by_cases e2 : x = k'
        · subst e2
          simp [e]
        · simp only [e2, decide_false, Bool.false_eq_true, if_false]
          have c : ∀ (o : Option Nat) (l : List D), ((o.map (· + 1)).bind fun i => (y :: l)[i]?) = o.bind fun i => l[i]? := fun o l => by cases o <;> simp
          rw [c, c]
          exact ih
      | some i =>
        rw [q] at ih
        simp only [Option.map_some] at ih ⊢
        unfold findD at ih ⊢
        rw [List.set_cons_succ, List.findIdx?_cons]
        by_cases e2 : x = k'
        · subst e2
          simp [e]
        · simp only [e2, decide_false, Bool.false_eq_true, if_false]
          have c : ∀ (o : Option Nat) (l : List D), ((o.map (· + 1)).bind fun i => (y :: l)[i]?) = o.bind fun i => l[i]? := fun o l => by cases o <;> simp
          rw [c, c]
          exact ih
theorem put_len {κ : Type} [DecidableEq κ] {k : κ} {d : D} {ks : List κ} {ds : List D} (h : ks.length = ds.length) : (putD ks ds k d).1.length = (putD ks ds k d).2.length ∧ (putD ks ds k d).1.length ≤ ks.length + 1 := by
  unfold putD
  split
  · simp [h]
  · simp [h]
structure LkOk (ks : List (List Key)) (ds : List D) (L : Lnk) (n : Nat) : Prop where
  lk : Links ks ds L
  nd : ks.Nodup
  len : ks.length = ds.length
  le : ks.length ≤ n
theorem LkOk.put {ks : List (List Key)} {ds : List D} {L : Lnk} {n : Nat} (h : LkOk ks ds L n) (e e' : End) : LkOk (putD ks ds (kend e) (endD e')).1 (putD ks ds (kend e) (endD e')).2 (up L e e') (n + 1) := by
  refine ⟨fun x => ?_, putD_nodup h.nd, (put_len h.len).1, Nat.le_trans (put_len h.len).2 (Nat.succ_le_succ h.le)⟩
  rw [find_put h.len]
  unfold up
  by_cases q : x = e
  · rw [if_pos q, if_pos (by rw [q])]
    rfl
  · rw [if_neg q, if_neg fun z => q (kend_inj z)]
    exact h.lk x
section
variable {P : Program} {w : World} {K : PySem.W.Frag} {mg' : Str → Option Value} {base : Heap}
structure Pd (M : List Mk1) (n : List Nat) : Prop where
  ex : ∃ f s u v, occ M n = [(f, (n, u)), (s, (n, v))] ∧ f ≠ s
theorem vals_occ (M : List Mk1) (n : List Nat) : vals (M.mapIdx fun i m => (tx m.1, gapD i m.2)) (tx n) = (occ M n).map fun p => gapD p.1 p.2.2 := by
  have e : (M.mapIdx fun i m => (tx m.1, gapD i m.2)) = (idx M).map fun p => (tx p.2.1, gapD p.1 p.2.2) := by
    unfold idx
    apply List.ext_getElem?
    intro i
    simp
    cases M[i]? <;> rfl
  unfold vals occ
  rw [e, List.filter_map, List.map_map]
  have : ((fun p : Str × D => decide (p.1 = tx n)) ∘ fun p : Nat × Mk1 => (tx p.2.1, gapD p.1 p.2.2)) = fun p : Nat × Mk1 => decide (p.2.1 = n) := by
    funext p
    show decide (tx p.2.1 = tx n) = _
    rw [decide_eq_decide]
    exact ⟨tx_inj, fun e => by rw [e]⟩
  rw [this]
  rfl
def sp_link_ends : Fsp := fun ds R => ∃ (P : List (List Nat)) (M : List Mk1) (ns : List (List Nat)), ds = [.lst [rowD P M], .lst (ns.map fun n => .str (tx n))] ∧ okR P M ∧ (∀ n ∈ ns, Pd M n) ∧ ns.length ≤ 1000 ∧ ∀ ks vs, Links ks vs (LkN M ns) → R (.dT ks vs)
theorem c_link_ends (W : W0 K mg') : DefF P w K mg' base "link_ends" ["rows", "names"] 3 (SpF sp_link_ends) := by
  refine g_link_ends W (c_marks_of W) (c_ends_at W) ?_ ?_
  · rintro ds Kd ⟨PP, M, ns, rfl, _⟩
    rfl
  · rintro ds Kd ⟨PP, M, ns, rfl, h, hp, hl, k⟩
    simp [R_link_ends, dFor, dDTN, dDGet, dSetDT, init, initO, endsO, dRet, dSeq, dNext, dDrop, dIfS, dSet, dAsg, dPar, dPar3, dNever, dNo1, dVar, dC, dOp, dChain, dB, dAnd, dOr, dNot, dAndV, dOrV, dNotV, dIf, dNil, dCons, dTup, dLst, dCall, dIsi, dIsi2, tyD, isaT, dAdd, dSub, dMul, dMod, dDiv, dPow, dInt2, dLt, dLe, dGt, dGe, dEq, dNe, dIsN, dNotN, dInSign, dInText, dNotInText, dIx, dSl, dPart, dNo, dCut, dRev, dRevS, dM0, dLen, dAll, dAny, dMax2, dMin2, dList, dgName, dgNil, dgCons, dgTup, dgLst, dItL, dItT, dItR, dItE, dItZ, dItS, dYes, wipeG, noOwn, dMulS, dLstN, dSetN, dCatN, dOwnIx, dOwnLen, dOwnOp, dOpOwn, dApp, dExt, dPopAt, isOwn, isOwnL, dSetIx, dFrz, OD.d, DL.scal, dFld, dOwnFld, getF, dSetF, dMake, dMeth, dEither, dIsiC, dIsiSR, dJoin, dTextOf, dJoined3, dListN, dParN, dLc]
    refine ⟨PP, M, rfl, h, fun i Γ => ∃ ks vs a b c, Γ = [.val (.lst [rowD PP M]), .val (.lst (ns.map fun n => .str (tx n))), .own (.dT ks vs), .val (tabD (markT M)), a, b, c] ∧ LkOk ks vs (LkN M (ns.take i)) (4 * i), ⟨[], [], _, _, _, rfl, ?_⟩, ?_, ?_⟩
    · refine ⟨fun e => ?_, List.nodup_nil, rfl, Nat.le_refl _⟩
      unfold LkN
      cases mkAt M e <;> simp [findD]
    · rintro i d Γ2 n hn rfl ⟨ks, vs, a, b, c, rfl, hk⟩
      obtain ⟨f, s, u, v, ho, fs⟩ := (hp n (List.mem_of_getElem? hn)).ex
      have hv : vals (M.mapIdx fun i m => (tx m.1, gapD i m.2)) (tx n) = [gapD f u, gapD s v] := by rw [vals_occ, ho] <;> rfl
      have hi : i < ns.length := (List.getElem?_eq_some_iff.mp hn).1
      have mf : M[f]? = some (n, u) := (occ_mem.mp (show (f, (n, u)) ∈ occ M n by rw [ho]; exact List.mem_cons_self)).1
      have tf : lookD (tabD (markT M)) (.str (tx n)) = some (some (.lst [gapD f u, gapD s v])) := by
        rw [← hv]
        refine tab_find (List.mem_map.mpr ⟨(tx n, gapD f u), ?_, rfl⟩)
        refine List.mem_of_getElem? (i := f) ?_
        rw [List.getElem?_mapIdx, mf]
        rfl
      have tk : ns.take (i + 1) = ns.take i ++ [n] := by rw [List.take_add_one, hn] <;> rfl
      simp only [tk]
      generalize ns.take i = L0 at *
      simp
      refine ⟨_, .inl tf, f, s, u, v, rfl, ?_⟩
      show ∃ I : Nat → G → Prop, _
      refine ⟨fun j Γ => ∃ ks vs b c, Γ = [.val (.lst [rowD PP M]), .val (.lst (ns.map fun n => .str (tx n))), .own (.dT ks vs), .val (tabD (markT M)), .val (.str (tx n)), b, c] ∧
        (if j = 0 then LkOk ks vs (LkN M L0) (4 * i) else if j = 1 then LkOk ks vs (up (up (LkN M L0) (bef f u) (aft s v)) (aft s v) (bef f u)) (4 * i + 1 + 1) else LkOk ks vs (LkN M (L0 ++ [n])) (4 * (i + 1))), ⟨ks, vs, _, _, rfl, hk⟩, ?_, ?_⟩
      · rintro j d Γ2 hd ⟨ks, vs, b, c, rfl, hk⟩
        match j, hd with
        | 0, hd =>
          cases hd
          have hk : LkOk ks vs (LkN M L0) (4 * i) := hk
          have h1 := hk.put (bef f u) (aft s v)
          have h2 := h1.put (aft s v) (bef f u)
          have l1 := hk.le
          have l2 := h1.le
          simp
          exact ⟨_, _, ⟨rfl, rfl⟩, kend (bef f u), rfl, hk.nd, Nat.lt_of_le_of_lt (show _ ≤ 10000 by omega) (by decide), _, _, ⟨rfl, rfl⟩, kend (aft s v), rfl, h1.nd, Nat.lt_of_le_of_lt (show _ ≤ 10000 by omega) (by decide), _, _, ⟨rfl, rfl⟩, h2⟩
        | 1, hd =>
          cases hd
          have hk : LkOk ks vs (up (up (LkN M L0) (bef f u) (aft s v)) (aft s v) (bef f u)) (4 * i + 1 + 1) := hk
          have h1 := hk.put (bef s v) (aft f u)
          have h2 := h1.put (aft f u) (bef s v)
          have l1 := hk.le
          have l2 := h1.le
          have h3 : LkOk _ _ (LkN M (L0 ++ [n])) (4 * (i + 1)) := ⟨fun x => by rw [← up4 ho fs L0 x]; exact h2.lk x, h2.nd, h2.len, by have := h2.le; omega⟩
          simp
          exact ⟨_, _, ⟨rfl, rfl⟩, kend (bef s v), rfl, hk.nd, Nat.lt_of_le_of_lt (show _ ≤ 10000 by omega) (by decide), _, _, ⟨rfl, rfl⟩, kend (aft f u), rfl, h1.nd, Nat.lt_of_le_of_lt (show _ ≤ 10000 by omega) (by decide), _, _, ⟨rfl, rfl⟩, h3⟩
        | j + 2, hd => simp at hd
      · rintro Γ2 ⟨ks, vs, b, c, rfl, hk⟩
        have hk : LkOk ks vs (LkN M (L0 ++ [n])) (4 * (i + 1)) := hk
        exact ⟨ks, vs, ⟨_, _, _, rfl⟩, hk⟩
    · rintro Γ2 ⟨ks, vs, a, b, c, rfl, hk⟩
      simp
      rw [List.take_length] at hk
      exact k ks vs hk.lk
end
end MS
set_option maxHeartbeats 4000000
/-! joining -/
namespace MS
open PySem PySem.Spec PyProof.Rows L2 DL NL
section
variable {P : Program} {w : World} {K : PySem.W.Frag} {mg' : Str → Option Value} {base : Heap}
theorem c_are_unique_names_joining (W : W0 K mg') : DefF P w K mg' base "are_unique_names_joining" ["value"] 2 (SpF sp_are_unique_names) := by
  refine g_are_unique_names_joining W (c_is_sequence W) (c_is_name W) ?_ ?_
  · rintro ds Kd ⟨ns, rfl, h, h2, h3, k⟩
    rfl
  · rintro ds Kd ⟨ns, rfl, h, h2, h3, k⟩
    simp [R_are_unique_names_joining, dLenSc, init, initO, endsO, dRet, dSeq, dNext, dDrop, dIfS, dSet, dAsg, dPar, dPar3, dNever, dNo1, dVar, dC, dOp, dChain, dB, dAnd, dOr, dNot, dAndV, dOrV, dNotV, dIf, dNil, dCons, dTup, dLst, dCall, dIsi, dIsi2, tyD, isaT, dAdd, dSub, dMul, dMod, dDiv, dPow, dInt2, dLt, dLe, dGt, dGe, dEq, dNe, dIsN, dNotN, dInSign, dInText, dNotInText, dIx, atI, ixN, dSl, dPart, dNo, dCut, dRev, dRevS, dM0, dLen, dAll, dAny, dMax2, dMin2, dList, dgName, dgNil, dgCons, dgTup, dgLst, dItL, dItT, dItR, dItE, dItZ, dItS, dYes, wipeG, noOwn, dMulS, dLstN, dSetN, dCatN, dOwnIx, dOwnLen, dOwnOp, dOpOwn, dApp, dExt, dPopAt, isOwn, isOwnL, dSetIx, dFrz, OD.d, DL.scal, dFld, dOwnFld, getF, dSetF, dMake, dMeth, dEither, dIsiC, dIsiSR, dJoin, dTextOf, dJoined3, dListN, dParN, dLc]
    refine ⟨_, rfl, ?_⟩
    refine ⟨sz (by omega), fun _ => true, fun _ => .bl true, fun n hn => ⟨rfl, fun _ => ⟨n, rfl, h2 n hn, rfl⟩⟩, List.replicate ns.length true, ?_, ?_⟩
    · rw [filter_tr, mul_true _ _ (fun _ _ => rfl), List.length_map]
    · simp
      refine ⟨h, fun d => match d with | .str s => .inr s | _ => .inl 0, fun n hn => rfl, ?_, k⟩
      exact nodup_map (f := fun n => (.inr (tx n) : Key)) (fun x y e => tx_inj (Sum.inr.inj e)) h3
def sp_require_names (K : PySem.W.Frag) : Fsp := fun ds R => ∃ (P : List (List Nat)) (M : List Mk1) (ns : List (List Nat)), ds = [stripD K P M, .lst (ns.map fun n => .str (tx n))] ∧ ns.length ≤ 1000 ∧ (∀ n ∈ ns, okN n) ∧ ns.Nodup ∧ (∀ n ∈ ns, tx n ∈ (numT M).map (·.1)) ∧ R .non
theorem c_require_names (W : W0 K mg') : DefF P w K mg' base "require_names" ["strip", "names"] 3 (SpF (sp_require_names K)) := by
  refine g_require_names W (c_are_unique_names_joining W) (c_Strip_require_name W) ?_ ?_
  · rintro ds Kd ⟨P, M, ns, rfl, _⟩
    rfl
  · rintro ds Kd ⟨PP, M, ns, rfl, h, h2, h3, h4, k⟩
    simp [R_require_names, dFor, init, initO, endsO, dRet, dSeq, dNext, dDrop, dIfS, dSet, dAsg, dPar, dPar3, dNever, dNo1, dVar, dC, dOp, dChain, dB, dAnd, dOr, dNot, dAndV, dOrV, dNotV, dIf, dNil, dCons, dTup, dLst, dCall, dIsi, dIsi2, tyD, isaT, dAdd, dSub, dMul, dMod, dDiv, dPow, dInt2, dLt, dLe, dGt, dGe, dEq, dNe, dIsN, dNotN, dInSign, dInText, dNotInText, dIx, dSl, dPart, dNo, dCut, dRev, dRevS, dM0, dLen, dAll, dAny, dMax2, dMin2, dList, dgName, dgNil, dgCons, dgTup, dgLst, dItL, dItT, dItR, dItE, dItZ, dItS, dYes, wipeG, noOwn, dMulS, dLstN, dSetN, dCatN, dOwnIx, dOwnLen, dOwnOp, dOpOwn, dApp, dExt, dPopAt, isOwn, isOwnL, dSetIx, dFrz, OD.d, DL.scal, dFld, dOwnFld, getF, dSetF, dMake, dMeth, dEither, dIsiC, dIsiSR, dJoin, dTextOf, dJoined3, dListN, dParN, dLc]
    refine ⟨ns, rfl, h, h2, h3, rfl, fun _ Γ => ∃ a, Γ = [.val (stripD K PP M), .val (.lst (ns.map fun n => .str (tx n))), a], ⟨_, rfl⟩, ?_, fun _ _ => k⟩
    rintro i d Γ2 n hn rfl ⟨a, rfl⟩
    simp
    exact ⟨_, _, ⟨rfl, rfl⟩, rfl, PP, M, tx n, rfl, h4 n (List.mem_of_getElem? hn), trivial⟩
abbrev netO (K : PySem.W.Frag) (s n p : D) (r : List Nat) (g : List (List Nat)) : OD := .ins (He.ga K "JoinedStrip") ["kept_strip", "kept_names", "kept_row", "kept_rings", "kept_paths", "owners"] [s, n, .lst [.str (tx r)], .lst (g.map (ringD K)), p, .any]
abbrev netD (K : PySem.W.Frag) (s n p : D) (r : List Nat) (g : List (List Nat)) : D := .ins (He.ga K "JoinedStrip") ["kept_strip", "kept_names", "kept_row", "kept_rings", "kept_paths", "owners"] [s, n, .lst [.str (tx r)], .lst (g.map (ringD K)), p, .any]
def sp_JoinedStrip_row (K : PySem.W.Frag) : Fsp := fun ds R => ∃ s n p r g, ds = [netD K s n p r g] ∧ R (.lst [.str (tx r)])
def sp_JoinedStrip_rings (K : PySem.W.Frag) : Fsp := fun ds R => ∃ s n p r g, ds = [netD K s n p r g] ∧ R (.lst (g.map (ringD K)))
theorem c_JoinedStrip_row (W : W0 K mg') : MethF P w K mg' base (He.ga K "JoinedStrip") "row" ["self"] 1 (SpF (sp_JoinedStrip_row K)) := by
  refine g_JoinedStrip_row W ?_ ?_
  · rintro ds Kd ⟨_, _, _, _, _, rfl, k⟩
    rfl
  · rintro ds Kd ⟨s, n, p, r, g, rfl, k⟩
    simp [R_JoinedStrip_row, init, initO, endsO, dRet, dSeq, dNext, dDrop, dIfS, dSet, dAsg, dPar, dPar3, dNever, dNo1, dVar, dC, dOp, dChain, dB, dAnd, dOr, dNot, dAndV, dOrV, dNotV, dIf, dNil, dCons, dTup, dLst, dCall, dIsi, dIsi2, tyD, isaT, dAdd, dSub, dMul, dMod, dDiv, dPow, dInt2, dLt, dLe, dGt, dGe, dEq, dNe, dIsN, dNotN, dInSign, dInText, dNotInText, dIx, atI, ixN, dSl, dPart, dNo, dCut, dRev, dRevS, dM0, dLen, dAll, dAny, dMax2, dMin2, dList, dgName, dgNil, dgCons, dgTup, dgLst, dItL, dItT, dItR, dItE, dItZ, dItS, dYes, wipeG, noOwn, dMulS, dLstN, dSetN, dCatN, dOwnIx, dOwnLen, dOwnOp, dOpOwn, dApp, dExt, dPopAt, isOwn, isOwnL, dSetIx, dFrz, OD.d, DL.scal, dFld, dOwnFld, getF, dSetF, dMake, dMeth, dEither, dIsiC, dIsiSR, dJoin, dTextOf, dJoined3, dListN, dParN, dLc]
    exact ⟨_, _, ⟨rfl, rfl⟩, _, rfl, k⟩
theorem c_JoinedStrip_rings (W : W0 K mg') : MethF P w K mg' base (He.ga K "JoinedStrip") "rings" ["self"] 1 (SpF (sp_JoinedStrip_rings K)) := by
  refine g_JoinedStrip_rings W ?_ ?_
  · rintro ds Kd ⟨_, _, _, _, _, rfl, k⟩
    rfl
  · rintro ds Kd ⟨s, n, p, r, g, rfl, k⟩
    simp [R_JoinedStrip_rings, init, initO, endsO, dRet, dSeq, dNext, dDrop, dIfS, dSet, dAsg, dPar, dPar3, dNever, dNo1, dVar, dC, dOp, dChain, dB, dAnd, dOr, dNot, dAndV, dOrV, dNotV, dIf, dNil, dCons, dTup, dLst, dCall, dIsi, dIsi2, tyD, isaT, dAdd, dSub, dMul, dMod, dDiv, dPow, dInt2, dLt, dLe, dGt, dGe, dEq, dNe, dIsN, dNotN, dInSign, dInText, dNotInText, dIx, atI, ixN, dSl, dPart, dNo, dCut, dRev, dRevS, dM0, dLen, dAll, dAny, dMax2, dMin2, dList, dgName, dgNil, dgCons, dgTup, dgLst, dItL, dItT, dItR, dItE, dItZ, dItS, dYes, wipeG, noOwn, dMulS, dLstN, dSetN, dCatN, dOwnIx, dOwnLen, dOwnOp, dOpOwn, dApp, dExt, dPopAt, isOwn, isOwnL, dSetIx, dFrz, OD.d, DL.scal, dFld, dOwnFld, getF, dSetF, dMake, dMeth, dEither, dIsiC, dIsiSR, dJoin, dTextOf, dJoined3, dListN, dParN, dLc]
    exact ⟨_, _, ⟨rfl, rfl⟩, _, rfl, k⟩
/-- what joining finds -/
structure Net (P : List (List Nat)) (M : List Mk1) (t : List End) (ts : List (List End)) : Prop where
  ok : okR P M
  ml : M.length ≤ 30
  ns : ∃ ns : List (List Nat), (numT M).map (·.1) = ns.map tx ∧ (∀ n ∈ ns, okN n) ∧ ns.Nodup ∧ ns.length ≤ 12 ∧ (∀ n ∈ ns, Pd M n) ∧ ∀ e, LkN M ns e = Lk M e
  st : Tr (Lk M) (0, false) (0, false) t (some (M.length, true))
  tl : t.length ≤ 1000
  tb : ∀ e ∈ t, e.1 < P.length
  to : ∀ e ∈ t, Lk M (fp e) = none → fp e = (0, false) ∨ fp e = (M.length, true)
  tx : (txt P t).length ≤ 1000
  rg : Rg (Lk M) (t.map (·.1)) (List.range (M.length + 1)) ts
  rl : ts.length ≤ 1000
  rl2 : ts.length ≤ 900
  rb : ∀ r ∈ ts, ∀ e ∈ r, e.1 < P.length
  rx : ∀ r ∈ ts, okP (txt P r)
  rn : ∀ r ∈ ts, r ≠ [] ∧ r.length ≤ 1000
def sp_JoinedStrip_init (K : PySem.W.Frag) : TFO := fun o ds R => ∃ P M t ts, o = .ins (He.ga K "JoinedStrip") [] [] ∧ ds = [stripD K P M, .lst (namesD M)] ∧ Net P M t ts ∧ ∀ s n p, R .non (netO K s n p (txt P t) (ts.map fun r => canon (txt P r)))
end
end MS
set_option maxHeartbeats 4000000
/-! JoinedStrip.__init__ -/
namespace MS
open PySem PySem.Spec PyProof.Rows L2 DL NL
theorem pys_mem {d : D} : ∀ {l : List D}, d ∈ l → py d ∈ pys l
  | [], h => nomatch h
  | x :: l, h => by
    rcases List.mem_cons.mp h with rfl | h
    · exact List.mem_cons_self
    · exact List.mem_cons_of_mem _ (pys_mem h)
theorem pthD_inj : ∀ {a b : List End}, pthD a = pthD b → a = b
  | [], [], _ => rfl
  | [], _ :: _, h => nomatch h
  | _ :: _, [], h => nomatch h
  | x :: a, y :: b, h => by
    have h1 : stepD x = stepD y := (List.cons.inj h).1
    have h2 := pthD_inj (List.cons.inj h).2
    rw [h2]
    simp at h1
    have : x = y := Prod.ext (by omega) h1.2
    rw [this]
theorem Tr.hd {L : Lnk} {s e : End} {t : List End} {r : Option End} (h : Tr L s e t r) : ∃ t', t = e :: t' := by
  cases h <;> exact ⟨_, rfl⟩
def rowsOf (d : D) : List D := match d with
  | .tup [_, .lst ds] => ds
  | _ => []
theorem sum_le {n : Nat} : ∀ {l : List Nat}, (∀ m ∈ l, m ≤ n) → l.sum ≤ l.length * n
  | [], _ => Nat.zero_le _
  | a :: l, h => by
    have h1 := h a List.mem_cons_self
    have h2 := sum_le fun m hm => h m (List.mem_cons_of_mem _ hm)
    rw [List.sum_cons, List.length_cons, Nat.succ_mul]
    omega
theorem eqv_str {d : D} (h : ∃ s, d = .str s) : PyData.eqv (py d) (py d) = true := by
  obtain ⟨s, rfl⟩ := h
  show (s == s) = true
  exact beq_self_eq_true s
abbrev kpD (r : List End) : D := .lst (r.map fun e => .tup [.int (e.1 : Nat), .bl e.2])
section
variable {P : Program} {w : World} {K : PySem.W.Frag} {mg' : Str → Option Value} {base : Heap}
theorem c_JoinedStrip_init (W : W0 K mg') : MakeF P w K mg' base (He.ga K "JoinedStrip") "JoinedStrip" ["self", "strip", "names"] 8 (SpO (sp_JoinedStrip_init K)) := by
  refine g_JoinedStrip_init W (c_require_strip W) (c_require_names W) (c_Strip_names W) (c_Strip_row W) (c_link_ends W) (c_find_strands W) (c_find_rings W) (c_pieces_on W) (c_strand_row W) (c_Ring_init W) (c_ring_row W) ?_ ?_
  · rintro o ds Kd ⟨_, _, _, _, rfl, rfl, _⟩
    rfl
  · rintro o ds Kd ⟨PP, M, t, ts, rfl, rfl, net, k⟩
    obtain ⟨ns, en, nk, nd, nl, np, nL⟩ := net.ns
    have eD : namesD M = ns.map fun n => .str (tx n) := by
      show (numT M).map (fun q => D.str q.1) = _
      rw [show (numT M).map (fun q => D.str q.1) = ((numT M).map (·.1)).map D.str by simp, en, List.map_map]
      rfl
    rw [eD]
    simp [R_JoinedStrip_init, dDc2, init, initO, endsO, dRet, dSeq, dNext, dDrop, dIfS, dSet, dAsg, dPar, dPar3, dNever, dNo1, dVar, dC, dOp, dChain, dB, dAnd, dOr, dNot, dAndV, dOrV, dNotV, dIf, dNil, dCons, dTup, dLst, dCall, dIsi, dIsi2, tyD, isaT, dAdd, dSub, dMul, dMod, dDiv, dPow, dInt2, dLt, dLe, dGt, dGe, dEq, dNe, dIsN, dNotN, dInSign, dInText, dNotInText, dIx, dSl, dPart, dNo, dCut, dRev, dRevS, dM0, dLen, dAll, dAny, dMax2, dMin2, dList, dgName, dgNil, dgCons, dgTup, dgLst, dItL, dItT, dItR, dItE, dItZ, dItS, dYes, wipeG, noOwn, dMulS, dLstN, dSetN, dCatN, dOwnIx, dOwnLen, dOwnOp, dOpOwn, dApp, dExt, dPopAt, isOwn, isOwnL, dSetIx, dFrz, OD.d, DL.scal, dFld, dOwnFld, getF, dSetF, dMake, dMeth, dEither, dIsiC, dIsiSR, dJoin, dTextOf, dJoined3, dListN, dParN, dLc]
    have sh : ∀ d ∈ ns.map (fun n => D.str (tx n)), shD 1 d := fun d hd => by
      obtain ⟨n, hn, rfl⟩ := List.mem_map.mp hd
      exact shD_tx (nk n hn).asc
    refine ⟨PP, M, rfl, PP, M, ns, rfl, by omega, nk, nd, fun n hn => by rw [en]; exact List.mem_map.mpr ⟨n, hn, rfl⟩, _, _, ⟨rfl, rfl⟩, by decide, _, _, ⟨rfl, rfl⟩, rfl, PP, M, rfl, ?_⟩
    rw [eD]
    refine ⟨by rw [List.length_map]; exact sz (by omega), fun _ => true, fun d => d, fun d hd => ?_, _, _, ⟨rfl, rfl⟩, (show 1 < 1000 by decide), ?_⟩
    · refine ⟨shp_of (sh d hd) (by decide), shp_of (n := 2) (shD_lst sh) (by decide), ?_, fun _ => rfl⟩
      rw [List.any_eq_true]
      exact ⟨py d, pys_mem hd, eqv_str (by obtain ⟨n, hn, rfl⟩ := List.mem_map.mp hd; exact ⟨tx n, rfl⟩)⟩
    rw [filter_tr, List.map_id']
    have eL : LkN M ns = Lk M := funext nL
    refine ⟨_, _, ⟨rfl, rfl⟩, rfl, PP, M, rfl, by decide, _, _, ⟨rfl, rfl⟩, _, rfl, PP, M, ns, rfl, net.ok, np, by omega, fun ks vs hl => ?_⟩
    rw [eL] at hl
    refine ⟨PP, M, ks, vs, Lk M, t, rfl, net.ok, hl, net.st, net.tl, net.to, _, rfl, rfl, rfl, by decide, t, rfl, net.tl, PP, M, ks, vs, Lk M, t.map (·.1), ts, ?_, net.ok, hl, net.rg, by rw [List.length_map]; exact net.tl, by have := net.ml; omega, ?_⟩
    · rw [List.map_map]
      rfl
    · obtain ⟨e0, t0, rfl⟩ : ∃ e t', t = e :: t' := by
        obtain ⟨t', e⟩ := net.st.hd
        exact ⟨_, t', e⟩
      have rl := net.rl
      obtain ⟨f1, hf1⟩ := fn_of ts ringT (fun r => .lst (pthD r)) fun x y _ _ e => by
        injection e with e
        injection e with e1 e2
      obtain ⟨f2, hf2⟩ := fn_of ts ringT (fun r => ringD K (canon (txt PP r))) fun x y _ _ e => by
        injection e with e
        injection e with e1 e2
        injection e1 with e1
        rw [pthD_inj e1]
      show _ ∧ _ ∧ _
      refine ⟨by decide, by rw [List.length_map]; exact sz (by omega), fun _ => true, f1, fun d hd => ?_, by rw [filter_tr, List.length_map]; exact sz (by omega), PP, M, e0, t0, _, rfl, net.ok, net.tb, by simp, net.tx, _, _, ⟨rfl, rfl⟩, (show 2 < 1000 by decide), by rw [List.length_map]; exact sz (by omega), fun _ => true, f2, fun d hd => ?_, _, _, ⟨rfl, rfl⟩, (show 3 < 1000 by decide), by rw [filter_tr, List.length_map]; exact sz (by omega), ?_⟩
      · obtain ⟨r, hr, rfl⟩ := List.mem_map.mp hd
        exact ⟨rfl, fun _ => ⟨_, rfl, (hf1 r hr).symm⟩⟩
      · obtain ⟨r, hr, rfl⟩ := List.mem_map.mp hd
        obtain ⟨rn, rlen⟩ := net.rn r hr
        have fr := hf2 r hr
        obtain ⟨a, r', rfl⟩ : ∃ a r', r = a :: r' := by
          cases r with
          | nil => exact absurd rfl rn
          | cons a r' => exact ⟨a, r', rfl⟩
        refine ⟨rfl, rfl, rfl, fun _ => ?_⟩
        refine ⟨PP, M, a, r', _, rfl, by simp, net.ok, net.rb _ hr, by simp, (net.rx _ hr).1, txt PP (a :: r'), rfl, rfl, net.rx _ hr, rfl, fr.symm⟩
      · obtain ⟨f3, hf3⟩ := fn_of ((e0 :: t0) :: ts) (fun r => D.lst (pthD r)) kpD fun x y _ _ e => by
          injection e with e
          rw [pthD_inj e]
        have inner : ∀ r ∈ (e0 :: t0) :: ts, r.length ≤ 1000 ∧ ∃ f : D → D, (∀ x ∈ r, f (stepD x) = .tup [.int (x.1 : Nat), .bl x.2]) ∧ D.lst ((pthD r).map f) = f3 (.lst (pthD r)) := fun r hr => by
          refine ⟨?_, ?_⟩
          · rcases List.mem_cons.mp hr with rfl | hr
            · exact net.tl
            · exact (net.rn r hr).2
          · obtain ⟨f, hf⟩ := fn_of r stepD (fun x => .tup [.int (x.1 : Nat), .bl x.2]) fun x y _ _ e => by
              simp at e
              show D.tup [.int (x.1 : Nat), .bl x.2] = .tup [.int (y.1 : Nat), .bl y.2]
              have e1 : x.1 = y.1 := by omega
              rw [e1, e.2]
            refine ⟨f, hf, ?_⟩
            rw [hf3 r hr]
            show D.lst ((r.map stepD).map f) = D.lst _
            rw [List.map_map]
            congr 1
            exact List.map_congr_left hf
        refine ⟨fun _ => true, f3, ⟨⟨rfl, fun _ => ?_⟩, ?_⟩, ?_⟩
        · obtain ⟨hl, f, hf, ef⟩ := inner _ List.mem_cons_self
          refine ⟨by rw [List.length_map]; exact sz (by omega), fun _ => true, f, fun d hd => ?_, by rw [filter_tr]; exact ef⟩
          obtain ⟨x, hx, rfl⟩ := List.mem_map.mp hd
          refine ⟨rfl, rfl, rfl, fun _ => ?_⟩
          exact ⟨_, rfl, by decide, (hf x hx).symm⟩
        · rintro a x hx _ rfl
          obtain ⟨r, hr, rfl⟩ := List.mem_map.mp hx
          rw [hf1 r hr]
          refine ⟨rfl, fun _ => ?_⟩
          obtain ⟨hl, f, hf, ef⟩ := inner _ (List.mem_cons_of_mem _ hr)
          refine ⟨by rw [List.length_map]; exact sz (by omega), fun _ => true, f, fun d hd => ?_, by rw [filter_tr]; exact ef⟩
          obtain ⟨x, hx, rfl⟩ := List.mem_map.mp hd
          refine ⟨rfl, rfl, rfl, fun _ => ?_⟩
          exact ⟨_, rfl, by decide, (hf x hx).symm⟩
        · have ep : ((D.lst (pthD (e0 :: t0)) :: ((ts.map ringT).filter fun _ => true).map f1).filter fun _ => true).map f3 = ((e0 :: t0) :: ts).map kpD := by
            rw [filter_tr, filter_tr, List.map_map, List.map_congr_left (f := f1 ∘ ringT) (g := fun r => D.lst (pthD r)) hf1, List.map_cons, List.map_map, hf3 _ List.mem_cons_self]
            rw [List.map_congr_left (f := f3 ∘ fun r => D.lst (pthD r)) (g := kpD) fun r hr => hf3 r (List.mem_cons_of_mem _ hr)]
            rfl
          have eg : ((ts.map ringT).filter fun _ => true).map f2 = (ts.map fun r => canon (txt PP r)).map (ringD K) := by
            rw [filter_tr, List.map_map, List.map_map]
            exact List.map_congr_left hf2
          rw [ep, eg]
          refine ⟨_, _, ⟨rfl, rfl⟩, (show 4 < 1000 by decide), _, _, ⟨rfl, rfl⟩, _, rfl, ?_⟩
          refine ⟨rowsOf, ?_, ?_, _, _, ⟨rfl, rfl⟩, (show 5 < 1000 by decide), k _ _ _⟩
          · refine Nat.le_trans (sum_le (n := 1000) ?_) (sz ?_)
            · intro m hm
              obtain ⟨d, hd, rfl⟩ := List.mem_map.mp hm
              obtain ⟨i, hi⟩ := List.getElem?_of_mem hd
              obtain ⟨x, hx, rfl⟩ := enum_get hi
              obtain ⟨r, hr, rfl⟩ := List.mem_map.mp (List.mem_of_getElem? hx)
              show (r.map _).length ≤ 1000
              rw [List.length_map]
              exact (inner r hr).1
            · rw [List.length_map, enum_len, List.length_map, List.length_cons]
              have := net.rl2
              omega
          · intro d hd
            obtain ⟨i, hi⟩ := List.getElem?_of_mem hd
            obtain ⟨x, hx, rfl⟩ := enum_get hi
            obtain ⟨r, hr, rfl⟩ := List.mem_map.mp (List.mem_of_getElem? hx)
            refine ⟨rfl, rfl, rfl, fun d1 h1 => ?_⟩
            obtain ⟨e, he, rfl⟩ := List.mem_map.mp (show d1 ∈ r.map _ from h1)
            exact ⟨_, rfl, _, rfl⟩
end
end MS
set_option maxHeartbeats 4000000
/-! join_all, the law's small defs -/
namespace MS
open PySem PySem.Spec PyProof.Rows L2 DL NL
section
variable {P : Program} {w : World} {K : PySem.W.Frag} {mg' : Str → Option Value} {base : Heap}
def sp_join_all (K : PySem.W.Frag) : Fsp := fun ds R => ∃ P M t ts, ds = [stripD K P M] ∧ Net P M t ts ∧ ∀ s n p, R (netD K s n p (txt P t) (ts.map fun r => canon (txt P r)))
theorem c_join_all (W : W0 K mg') : DefF P w K mg' base "join_all" ["strip"] 10 (SpF (sp_join_all K)) := by
  refine g_join_all W (c_require_strip W) (c_JoinedStrip_init W) (c_Strip_names W) ?_ ?_
  · rintro ds Kd ⟨_, _, _, _, rfl, _⟩
    rfl
  · rintro ds Kd ⟨PP, M, t, ts, rfl, net, k⟩
    simp [R_join_all, init, initO, endsO, dRet, dSeq, dNext, dDrop, dIfS, dSet, dAsg, dPar, dPar3, dNever, dNo1, dVar, dC, dOp, dChain, dB, dAnd, dOr, dNot, dAndV, dOrV, dNotV, dIf, dNil, dCons, dTup, dLst, dCall, dIsi, dIsi2, tyD, isaT, dAdd, dSub, dMul, dMod, dDiv, dPow, dInt2, dLt, dLe, dGt, dGe, dEq, dNe, dIsN, dNotN, dInSign, dInText, dNotInText, dIx, dSl, dPart, dNo, dCut, dRev, dRevS, dM0, dLen, dAll, dAny, dMax2, dMin2, dList, dgName, dgNil, dgCons, dgTup, dgLst, dItL, dItT, dItR, dItE, dItZ, dItS, dYes, wipeG, noOwn, dMulS, dLstN, dSetN, dCatN, dOwnIx, dOwnLen, dOwnOp, dOpOwn, dApp, dExt, dPopAt, isOwn, isOwnL, dSetIx, dFrz, OD.d, DL.scal, dFld, dOwnFld, getF, dSetF, dMake, dMeth, dEither, dIsiC, dIsiSR, dJoin, dTextOf, dJoined3, dListN, dParN, dLc]
    exact ⟨PP, M, rfl, _, _, ⟨rfl, rfl⟩, rfl, PP, M, rfl, PP, M, t, ts, rfl, rfl, net, fun s n p => ⟨rfl, k s n p⟩⟩
def sp_law_parts (K : PySem.W.Frag) : Fsp := fun ds R => ∃ s n p r g, ds = [netD K s n p r g] ∧ okP r ∧ g.length ≤ 1000 ∧ R (.lst (stripD K [r] [] :: g.map (ringD K)))
theorem c_law_parts (W : W0 K mg') : DefF P w K mg' base "_law_parts" ["_law_net"] 8 (SpF (sp_law_parts K)) := by
  refine g_law_parts W (c_Strip_init W) (c_JoinedStrip_row W) (c_JoinedStrip_rings W) ?_ ?_
  · rintro ds Kd ⟨_, _, _, _, _, rfl, _⟩
    rfl
  · rintro ds Kd ⟨s, n, p, r, g, rfl, h, hl, k⟩
    simp [R_law_parts, init, initO, endsO, dRet, dSeq, dNext, dDrop, dIfS, dSet, dAsg, dPar, dPar3, dNever, dNo1, dVar, dC, dOp, dChain, dB, dAnd, dOr, dNot, dAndV, dOrV, dNotV, dIf, dNil, dCons, dTup, dLst, dCall, dIsi, dIsi2, tyD, isaT, dAdd, dSub, dMul, dMod, dDiv, dPow, dInt2, dLt, dLe, dGt, dGe, dEq, dNe, dIsN, dNotN, dInSign, dInText, dNotInText, dIx, dSl, dPart, dNo, dCut, dRev, dRevS, dM0, dLen, dAll, dAny, dMax2, dMin2, dList, dgName, dgNil, dgCons, dgTup, dgLst, dItL, dItT, dItR, dItE, dItZ, dItS, dYes, wipeG, noOwn, dMulS, dLstN, dSetN, dCatN, dOwnIx, dOwnLen, dOwnOp, dOpOwn, dApp, dExt, dPopAt, isOwn, isOwnL, dSetIx, dFrz, OD.d, DL.scal, dFld, dOwnFld, getF, dSetF, dMake, dMeth, dEither, dIsiC, dIsiSR, dJoin, dTextOf, dJoined3, dListN, dParN, dLc]
    refine ⟨_, _, ⟨rfl, rfl⟩, rfl, s, n, p, r, g, rfl, [r], [], rfl, rfl, ok1 h, fun q hq => (nomatch hq), (show 0 ≤ 12 by decide), rfl, by decide, _, _, ⟨rfl, rfl⟩, rfl, s, n, p, r, g, rfl, ?_⟩
    show _ ≤ _ ∧ _
    refine ⟨?_, k⟩
    simp
    exact sz (by omega)
end
end MS
set_option maxHeartbeats 4000000
/-! the law's defs on texts and on the box -/
namespace MS
open PySem PySem.Spec PyProof.Rows L2 DL NL
section
variable {P : Program} {w : World} {K : PySem.W.Frag} {mg' : Str → Option Value} {base : Heap}
def sp_law_cell (K : PySem.W.Frag) : Fsp := fun ds R => ∃ (ns : List Int) (k : Nat), ds = [.scr K ns, .int k] ∧ k < 10 ∧ ∀ i, R (.int i)
theorem c_law_cell (W : W0 K mg') : DefF P w K mg' base "_law_cell" ["_law_script", "_law_k"] 1 (SpF (sp_law_cell K)) := by
  refine g_law_cell W ?_ ?_
  · rintro ds Kd ⟨ns, k, rfl, _⟩
    rfl
  · rintro ds Kd ⟨ns, k, rfl, hk, q⟩
    by_cases h : k < ns.length
    · have a : atI ns ((k : Nat) : Int) = some (ns.getD k 0) := atI_nat (get_getD (d := 0) h)
      simp [R_law_cell, dLenS, dIxS, h, a, init, initO, endsO, dRet, dSeq, dNext, dDrop, dIfS, dSet, dAsg, dPar, dPar3, dNever, dNo1, dVar, dC, dOp, dChain, dB, dAnd, dOr, dNot, dAndV, dOrV, dNotV, dIf, dNil, dCons, dTup, dLst, dCall, dIsi, dIsi2, tyD, isaT, dAdd, dSub, dMul, dMod, dDiv, dPow, dInt2, dLt, dLe, dGt, dGe, dEq, dNe, dIsN, dNotN, dInSign, dInText, dNotInText, dIx, dSl, dPart, dNo, dCut, dRev, dRevS, dM0, dLen, dAll, dAny, dMax2, dMin2, dList, dgName, dgNil, dgCons, dgTup, dgLst, dItL, dItT, dItR, dItE, dItZ, dItS, dYes, wipeG, noOwn, dMulS, dLstN, dSetN, dCatN, dOwnIx, dOwnLen, dOwnOp, dOpOwn, dApp, dExt, dPopAt, isOwn, isOwnL, dSetIx, dFrz, OD.d, DL.scal, dFld, dOwnFld, getF, dSetF, dMake, dMeth, dEither, dIsiC, dIsiSR, dJoin, dTextOf, dJoined3, dListN, dParN, dLc]
      exact q _
    · simp [R_law_cell, dLenS, dIxS, h, CMul, init, initO, endsO, dRet, dSeq, dNext, dDrop, dIfS, dSet, dAsg, dPar, dPar3, dNever, dNo1, dVar, dC, dOp, dChain, dB, dAnd, dOr, dNot, dAndV, dOrV, dNotV, dIf, dNil, dCons, dTup, dLst, dCall, dIsi, dIsi2, tyD, isaT, dAdd, dSub, dMul, dMod, dDiv, dPow, dInt2, dLt, dLe, dGt, dGe, dEq, dNe, dIsN, dNotN, dInSign, dInText, dNotInText, dIx, dSl, dPart, dNo, dCut, dRev, dRevS, dM0, dLen, dAll, dAny, dMax2, dMin2, dList, dgName, dgNil, dgCons, dgTup, dgLst, dItL, dItT, dItR, dItE, dItZ, dItS, dYes, wipeG, noOwn, dMulS, dLstN, dSetN, dCatN, dOwnIx, dOwnLen, dOwnOp, dOpOwn, dApp, dExt, dPopAt, isOwn, isOwnL, dSetIx, dFrz, OD.d, DL.scal, dFld, dOwnFld, getF, dSetF, dMake, dMeth, dEither, dIsiC, dIsiSR, dJoin, dTextOf, dJoined3, dListN, dParN, dLc]
      exact q _
abbrev boxO (a b c : Int) : OD := .lst [.int a, .int b, .int c]
/-- the box after at most n takes -/
def okB (n : Nat) (o : OD) : Prop := ∃ a b c : Int, o = boxO a b c ∧ 0 ≤ a ∧ 0 ≤ b ∧ b < 2147483629 ∧ 0 ≤ c ∧ c ≤ n
def sp_law_box : List D → (OD → Prop) → Prop := fun ds R => ∃ i : Int, ds = [.int i] ∧ ∀ o, okB 0 o → R o
theorem c_law_box (W : W0 K mg') : DefF P w K mg' base "_law_box" ["_law_cell_here"] 1 (SpN sp_law_box) := by
  refine g_law_box W ?_ ?_
  · rintro ds Kd ⟨i, rfl, _⟩
    rfl
  · rintro ds Kd ⟨i, rfl, q⟩
    simp [R_law_box, CPow, init, initO, endsO, dRet, dSeq, dNext, dDrop, dIfS, dSet, dAsg, dPar, dPar3, dNever, dNo1, dVar, dC, dOp, dChain, dB, dAnd, dOr, dNot, dAndV, dOrV, dNotV, dIf, dNil, dCons, dTup, dLst, dCall, dIsi, dIsi2, tyD, isaT, dAdd, dSub, dMul, dMod, dDiv, dPow, dInt2, dLt, dLe, dGt, dGe, dEq, dNe, dIsN, dNotN, dInSign, dInText, dNotInText, dIx, dSl, dPart, dNo, dCut, dRev, dRevS, dM0, dLen, dAll, dAny, dMax2, dMin2, dList, dgName, dgNil, dgCons, dgTup, dgLst, dItL, dItT, dItR, dItE, dItZ, dItS, dYes, wipeG, noOwn, dMulS, dLstN, dSetN, dCatN, dOwnIx, dOwnLen, dOwnOp, dOpOwn, dApp, dExt, dPopAt, isOwn, isOwnL, dSetIx, dFrz, OD.d, DL.scal, dFld, dOwnFld, getF, dSetF, dMake, dMeth, dEither, dIsiC, dIsiSR, dJoin, dTextOf, dJoined3, dListN, dParN, dLc]
    refine ⟨by decide, q _ ⟨_, _, 0, rfl, ?_, Int.emod_nonneg _ (by decide), Int.emod_lt_of_pos _ (by decide), by decide, by decide⟩⟩
    split <;> omega
def sp_law_take : TFO := fun o ds R => ∃ (n m : Nat), okB n o ∧ ds = [.int m] ∧ n < 1000 ∧ 1 ≤ m ∧ m ≤ 1000 ∧ ∀ (d : Nat) o', d < m → okB (n + 1) o' → R (.int d) o'
theorem c_law_take (W : W0 K mg') : DefF P w K mg' base "_law_take" ["_law_box_here", "_law_many"] 1 (SpO sp_law_take) := by
  refine g_law_take W ?_ ?_
  · rintro o ds Kd ⟨n, m, _, rfl, _⟩
    rfl
  · rintro o ds Kd ⟨n, m, ⟨a, b, c, rfl, ha, hb, hb2, hc, hc2⟩, rfl, hn, hm, hm2, q⟩
    have i0 : atI [D.int a, D.int b, D.int c] 0 = some (.int a) := rfl
    have i1 : atI [D.int a, D.int b, D.int c] 1 = some (.int b) := rfl
    have i2 : atI [D.int a, D.int b, D.int c] 2 = some (.int c) := rfl
    have j2 : atI [D.int a, D.int b, D.int (c + 1)] 2 = some (.int (c + 1)) := rfl
    have j1 : atI [D.int a, D.int b, D.int (c + 1)] 1 = some (.int b) := rfl
    have x0 : ixN 3 0 = some 0 := rfl
    have x2 : ixN 3 2 = some 2 := rfl
    have m0 : (0 : Int) < m := by omega
    have out : ∀ (z : Int) (o' : OD), okB (n + 1) o' → Kd (.int (z % m)) o' := fun z o' h => by
      have h1 := Int.emod_nonneg z (show (m : Int) ≠ 0 by omega)
      have h2 := Int.emod_lt_of_pos z m0
      have := q (z % m).toNat o' (by omega) h
      rwa [Int.toNat_of_nonneg h1] at this
    by_cases h : 0 < a
    · simp [R_law_take, h, i0, x0, m0, init, initO, endsO, dRet, dSeq, dNext, dDrop, dIfS, dSet, dAsg, dPar, dPar3, dNever, dNo1, dVar, dC, dOp, dChain, dB, dAnd, dOr, dNot, dAndV, dOrV, dNotV, dIf, dNil, dCons, dTup, dLst, dCall, dIsi, dIsi2, tyD, isaT, dAdd, dSub, dMul, dMod, dDiv, dPow, dInt2, dLt, dLe, dGt, dGe, dEq, dNe, dIsN, dNotN, dInSign, dInText, dNotInText, dIx, dSl, dPart, dNo, dCut, dRev, dRevS, dM0, dLen, dAll, dAny, dMax2, dMin2, dList, dgName, dgNil, dgCons, dgTup, dgLst, dItL, dItT, dItR, dItE, dItZ, dItS, dYes, wipeG, noOwn, dMulS, dLstN, dSetN, dCatN, dOwnIx, dOwnLen, dOwnOp, dOpOwn, dApp, dExt, dPopAt, isOwn, isOwnL, dSetIx, dFrz, OD.d, DL.scal, dFld, dOwnFld, getF, dSetF, dMake, dMeth, dEither, dIsiC, dIsiSR, dJoin, dTextOf, dJoined3, dListN, dParN, dLc]
      refine ⟨by omega, ⟨by omega, by omega⟩, out a _ ⟨_, b, c, rfl, Int.ediv_nonneg ha (by omega), hb, hb2, hc, by omega⟩⟩
    · simp [R_law_take, h, i0, i1, i2, j1, j2, x0, x2, m0, init, initO, endsO, dRet, dSeq, dNext, dDrop, dIfS, dSet, dAsg, dPar, dPar3, dNever, dNo1, dVar, dC, dOp, dChain, dB, dAnd, dOr, dNot, dAndV, dOrV, dNotV, dIf, dNil, dCons, dTup, dLst, dCall, dIsi, dIsi2, tyD, isaT, dAdd, dSub, dMul, dMod, dDiv, dPow, dInt2, dLt, dLe, dGt, dGe, dEq, dNe, dIsN, dNotN, dInSign, dInText, dNotInText, dIx, dSl, dPart, dNo, dCut, dRev, dRevS, dM0, dLen, dAll, dAny, dMax2, dMin2, dList, dgName, dgNil, dgCons, dgTup, dgLst, dItL, dItT, dItR, dItE, dItZ, dItS, dYes, wipeG, noOwn, dMulS, dLstN, dSetN, dCatN, dOwnIx, dOwnLen, dOwnOp, dOpOwn, dApp, dExt, dPopAt, isOwn, isOwnL, dSetIx, dFrz, OD.d, DL.scal, dFld, dOwnFld, getF, dSetF, dMake, dMeth, dEither, dIsiC, dIsiSR, dJoin, dTextOf, dJoined3, dListN, dParN, dLc]
      have y1 := Int.emod_nonneg ((b + 9511 * (c + 1) + 223) ^ 5) (show (2147483647 : Int) ≠ 0 by decide)
      have y2 := Int.emod_lt_of_pos ((b + 9511 * (c + 1) + 223) ^ 5) (show (0 : Int) < 2147483647 by decide)
      generalize (b + 9511 * (c + 1) + 223) ^ 5 % 2147483647 = y at *
      refine ⟨.inl ⟨by omega, by omega⟩, ⟨by decide, by decide, by omega⟩, .inl ⟨by omega, by omega⟩, ⟨by decide, by decide, by omega⟩, ⟨by decide, by decide⟩, by omega, out _ _ ⟨a, b, c + 1, rfl, ha, hb, hb2, by omega, by omega⟩⟩
end
end MS
set_option maxHeartbeats 4000000
/-! pieces, turned, folded, told apart -/
namespace MS
open PySem PySem.Spec PyProof.Rows L2 DL NL
section
variable {P : Program} {w : World} {K : PySem.W.Frag} {mg' : Str → Option Value} {base : Heap}
def okPQ (q : List Nat) : Prop := q.length ≤ 4 ∧ ∀ c ∈ q, c = 112 ∨ c = 113
theorem repS_tx (a : List Nat) (n : Nat) : repS (tx a) (n : Int) = tx (List.replicate n a).flatten := by
  unfold repS
  rw [tx_list, Int.toNat_natCast]
  rfl
def sp_law_piece : TFO := fun o ds R => ∃ n : Nat, okB n o ∧ ds = [] ∧ n + 2 < 1000 ∧ ∀ q o', okPQ q → okB (n + 2) o' → R (.str (tx q)) o'
theorem c_law_piece (W : W0 K mg') : DefF P w K mg' base "_law_piece" ["_law_box_here"] 2 (SpO sp_law_piece) := by
  refine g_law_piece W (c_law_take W) ?_ ?_
  · rintro o ds Kd ⟨n, _, rfl, _⟩
    rfl
  · rintro o ds Kd ⟨n, ho, rfl, hn, q⟩
    simp [R_law_piece, dCallO, init, initO, endsO, dRet, dSeq, dNext, dDrop, dIfS, dSet, dAsg, dPar, dPar3, dNever, dNo1, dVar, dC, dOp, dChain, dB, dAnd, dOr, dNot, dAndV, dOrV, dNotV, dIf, dNil, dCons, dTup, dLst, dCall, dIsi, dIsi2, tyD, isaT, dAdd, dSub, dMul, dMod, dDiv, dPow, dInt2, dLt, dLe, dGt, dGe, dEq, dNe, dIsN, dNotN, dInSign, dInText, dNotInText, dIx, dSl, dPart, dNo, dCut, dRev, dRevS, dM0, dLen, dAll, dAny, dMax2, dMin2, dList, dgName, dgNil, dgCons, dgTup, dgLst, dItL, dItT, dItR, dItE, dItZ, dItS, dYes, wipeG, noOwn, dMulS, dLstN, dSetN, dCatN, dOwnIx, dOwnLen, dOwnOp, dOpOwn, dApp, dExt, dPopAt, isOwn, isOwnL, dSetIx, dFrz, OD.d, DL.scal, dFld, dOwnFld, getF, dSetF, dMake, dMeth, dEither, dIsiC, dIsiSR, dJoin, dTextOf, dJoined3, dListN, dParN, dLc]
    refine ⟨n, 3, ho, rfl, by omega, by decide, by decide, fun i o1 hi h1 => ?_⟩
    show _ ≤ _ ∧ _
    refine ⟨by decide, n + 1, 3, h1, rfl, by omega, by decide, by decide, fun j o2 hj h2 => ?_⟩
    have e : Str.ofString "pq" = tx [112, 113] := rfl
    rw [e, cut_hi]
    show _ ∧ _ ∧ _ ∧ _
    rw [repS_tx, tx_len]
    have l1 : ([112, 113].take i).length ≤ 2 := by simp; omega
    refine ⟨by omega, by omega, by omega, q _ _ ⟨?_, ?_⟩ h2⟩
    · generalize [112, 113].take i = a at *
      rcases (by omega : j = 0 ∨ j = 1 ∨ j = 2) with rfl | rfl | rfl
      · simp
      · simp
        omega
      · rw [show List.replicate 2 a = [a, a] from rfl]
        simp
        omega
    · intro c hc
      obtain ⟨l, hl, hc⟩ := List.mem_flatten.mp hc
      rw [(List.mem_replicate.mp hl).2] at hc
      have := List.mem_of_mem_take hc
      simpa using this
end
end MS
set_option maxHeartbeats 4000000
/-! turned, folded, told apart -/
namespace MS
open PySem PySem.Spec PyProof.Rows L2 DL NL
theorem join0 : ∀ l : List (List Nat), Str.join (Str.ofString "") (l.map tx) = tx l.flatten
  | [] => rfl
  | [a] => by
    show tx a = _
    simp
  | a :: b :: r => by
    show tx a ++ Str.ofString "" ++ Str.join (Str.ofString "") ((b :: r).map tx) = _
    rw [join0 (b :: r), show Str.ofString "" = tx [] from rfl, tx_app, tx_app]
    simp
theorem txjoin (l : List (List Nat)) : Txt.join (Str.ofString "") (l.map tx) = tx l.flatten := by
  unfold Txt.join
  rw [StrLaws.glued_eq_join]
  exact join0 l
abbrev sa : Str := Str.ofString "abcdefghijklmnopqrstuvwxyz"
abbrev sA : Str := Str.ofString "ABCDEFGHIJKLMNOPQRSTUVWXYZ"
theorem up_abc : Txt.upper sa = sA := by
  have e : sa = SX.S sa.cps.toList := by simp [SX.S]
  rw [e, SX.upper_S (by decide +kernel)]
  rfl
def tabK : List (Key × D) := (sa.cps.toList.zip sA.cps.toList ++ sA.cps.toList.zip sa.cps.toList).map fun q => (.inr (sg q.1), .str (sg q.2))
def chk (c : Nat) : Bool := match findD (mergeD tabK).1 (mergeD tabK).2 (.inr (sg c)) with
  | some (.str s) => decide (s = sg (sw c))
  | _ => false
theorem chk_all : ∀ c, c < 128 → (isL c || isU c) = true → chk c = true := by decide +kernel
section
variable {P : Program} {w : World} {K : PySem.W.Frag} {mg' : Str → Option Value} {base : Heap}
def sp_law_turned : Fsp := fun ds R => ∃ a, ds = [.str (tx a)] ∧ okP a ∧ R (.str (tx (fl a)))
theorem c_law_turned (W : W0 K mg') : DefF P w K mg' base "_law_turned" ["_law_text"] 1 (SpF sp_law_turned) := by
  refine g_law_turned W ?_ ?_
  · rintro ds Kd ⟨a, rfl, _⟩
    rfl
  · rintro ds Kd ⟨a, rfl, h, k⟩
    simp [R_law_turned, dDict, dListZip, dDGet, up_abc, init, initO, endsO, dRet, dSeq, dNext, dDrop, dIfS, dSet, dAsg, dPar, dPar3, dNever, dNo1, dVar, dC, dOp, dChain, dB, dAnd, dOr, dNot, dAndV, dOrV, dNotV, dIf, dNil, dCons, dTup, dLst, dCall, dIsi, dIsi2, tyD, isaT, dAdd, dSub, dMul, dMod, dDiv, dPow, dInt2, dLt, dLe, dGt, dGe, dEq, dNe, dIsN, dNotN, dInSign, dInText, dNotInText, dIx, dSl, dPart, dNo, dCut, dRev, dRevS, dM0, dLen, dAll, dAny, dMax2, dMin2, dList, dgName, dgNil, dgCons, dgTup, dgLst, dItL, dItT, dItR, dItE, dItZ, dItS, dYes, wipeG, noOwn, dMulS, dLstN, dSetN, dCatN, dOwnIx, dOwnLen, dOwnOp, dOpOwn, dApp, dExt, dPopAt, isOwn, isOwnL, dSetIx, dFrz, OD.d, DL.scal, dFld, dOwnFld, getF, dSetF, dMake, dMeth, dEither, dIsiC, dIsiSR, dJoin, dTextOf, dJoined3, dListN, dParN, dLc]
    refine ⟨by decide, by decide, by decide, by decide, by decide, by decide, by decide, by decide, by decide, by decide, by decide, by decide, by decide, tabK, by rfl, ?_⟩
    rw [revS_tx, signs_tx, tx_len]
    have h1 := h.1
    obtain ⟨f, hf⟩ := fn_of a.reverse (fun c => D.str ⟨#[c]⟩) (fun c => D.str (tx [sw c])) fun x y _ _ e => by
      have : x = y := by simpa using e
      rw [this]
    refine ⟨sz (by omega), by rw [List.length_map, List.length_reverse]; exact sz (by omega), fun _ => true, f, fun d hd => ⟨rfl, fun _ => ?_⟩, (a.reverse.map fun c => [sw c]).map tx, ?_, ?_, ?_⟩
    · obtain ⟨c, hc, rfl⟩ := List.mem_map.mp hd
      refine .inl ?_
      rw [hf c hc]
      have hl := h.2 c (List.mem_reverse.mp hc)
      have hk := chk_all c (h.2.asc c (List.mem_reverse.mp hc)) (by simpa using hl)
      show some (findD (mergeD tabK).1 (mergeD tabK).2 (.inr (sg c))) = _
      unfold chk at hk
      split at hk
      · rename_i s e
        rw [e, of_decide_eq_true hk]
        rfl
      · cases hk
    · rw [filter_tr, List.map_map, List.map_map, List.map_map]
      exact List.map_congr_left hf
    · have : ∀ l : List Nat, (((l.map fun c => [sw c]).map tx).map (·.length)).sum = l.length := by
        intro l
        induction l with
        | nil => rfl
        | cons c l ih =>
          rw [List.map_cons, List.map_cons, List.map_cons, List.sum_cons, ih, tx_len]
          simp
          omega
      rw [this]
      simp
      show _ + _ * 0 ≤ _
      omega
    · rw [txjoin]
      have : (a.reverse.map fun c => [sw c]).flatten = fl a := by
        unfold fl
        induction a.reverse with
        | nil => rfl
        | cons c l ih => simp [ih]
      rw [this]
      exact k
def lo (c : Nat) : Nat := lo1 c
def sp_law_folded : Fsp := fun ds R => ∃ a, ds = [.str (tx a)] ∧ okP a ∧ ∀ ss : List Str, ss.Perm (a.map fun c => tx [lo1 c]) → SortedT ss → R (.lst (ss.map D.str))
theorem c_law_folded (W : W0 K mg') : DefF P w K mg' base "_law_folded" ["_law_text"] 1 (SpF sp_law_folded) := by
  refine g_law_folded W ?_ ?_
  · rintro ds Kd ⟨a, rfl, _⟩
    rfl
  · rintro ds Kd ⟨a, rfl, h, k⟩
    simp [R_law_folded, dSorted, init, initO, endsO, dRet, dSeq, dNext, dDrop, dIfS, dSet, dAsg, dPar, dPar3, dNever, dNo1, dVar, dC, dOp, dChain, dB, dAnd, dOr, dNot, dAndV, dOrV, dNotV, dIf, dNil, dCons, dTup, dLst, dCall, dIsi, dIsi2, tyD, isaT, dAdd, dSub, dMul, dMod, dDiv, dPow, dInt2, dLt, dLe, dGt, dGe, dEq, dNe, dIsN, dNotN, dInSign, dInText, dNotInText, dIx, dSl, dPart, dNo, dCut, dRev, dRevS, dM0, dLen, dAll, dAny, dMax2, dMin2, dList, dgName, dgNil, dgCons, dgTup, dgLst, dItL, dItT, dItR, dItE, dItZ, dItS, dYes, wipeG, noOwn, dMulS, dLstN, dSetN, dCatN, dOwnIx, dOwnLen, dOwnOp, dOpOwn, dApp, dExt, dPopAt, isOwn, isOwnL, dSetIx, dFrz, OD.d, DL.scal, dFld, dOwnFld, getF, dSetF, dMake, dMeth, dEither, dIsiC, dIsiSR, dJoin, dTextOf, dJoined3, dListN, dParN, dLc]
    rw [signs_tx]
    have h1 := h.1
    obtain ⟨f, hf⟩ := fn_of a (fun c => D.str ⟨#[c]⟩) (fun c => D.str (tx [lo1 c])) fun x y _ _ e => by
      have : x = y := by simpa using e
      rw [this]
    refine ⟨by rw [List.length_map]; exact sz (by omega), fun _ => true, f, fun d hd => ⟨rfl, fun _ => ?_⟩, a.map fun c => tx [lo1 c], ?_, k⟩
    · obtain ⟨c, hc, rfl⟩ := List.mem_map.mp hd
      rw [hf c hc]
      have := h.2.asc c hc
      refine ⟨(show 1 ≤ _ by decide), ?_⟩
      have e := SX.lower_S (a := [c]) (by simpa using this)
      show D.str (Txt.lower (SX.S [c])) = _
      rw [e]
      rfl
    · rw [filter_tr, List.map_map, List.map_map]
      exact List.map_congr_left hf
end
end MS
set_option maxHeartbeats 4000000
/-! told apart -/
namespace MS
open PySem PySem.Spec PyProof.Rows L2 DL NL
theorem abcn : ∀ i, i < 14 → (Str.ofString "abcdefghijklmn").cps.toList[i]? = some (97 + i) := by decide +kernel
theorem enum_tx (S : List (List Nat)) : enumD (S.map fun a => D.str (tx a)) = (S.mapIdx fun i a => (i, a)).map fun p => D.tup [.int (p.1 : Nat), .str (tx p.2)] := by
  apply List.ext_getElem?
  intro i
  simp [enumD]
  cases S[i]? <;> rfl
section
variable {P : Program} {w : World} {K : PySem.W.Frag} {mg' : Str → Option Value} {base : Heap}
def told (S : List (List Nat)) : List (List Nat) := S.mapIdx fun k a => List.replicate (a.length + 1) (97 + k)
def sp_law_told_apart : Fsp := fun ds R => ∃ S rest, ds = [.lst (txsD S :: rest)] ∧ S.length ≤ 13 ∧ (∀ a ∈ S, a.length ≤ 4) ∧ rest.length ≤ 10 ∧ R (.lst (txsD (told S) :: rest))
theorem c_law_told_apart (W : W0 K mg') : DefF P w K mg' base "_law_told_apart" ["_law_cut_here"] 1 (SpF sp_law_told_apart) := by
  refine g_law_told_apart W ?_ ?_
  · rintro ds Kd ⟨a, _, rfl, _⟩
    rfl
  · rintro ds Kd ⟨S, rest, rfl, h, h4, hr, k⟩
    have a0 : atI (txsD S :: rest) 0 = some (txsD S) := atI_nat (k := 0) rfl
    simp [R_law_told_apart, a0, init, initO, endsO, dRet, dSeq, dNext, dDrop, dIfS, dSet, dAsg, dPar, dPar3, dNever, dNo1, dVar, dC, dOp, dChain, dB, dAnd, dOr, dNot, dAndV, dOrV, dNotV, dIf, dNil, dCons, dTup, dLst, dCall, dIsi, dIsi2, tyD, isaT, dAdd, dSub, dMul, dMod, dDiv, dPow, dInt2, dLt, dLe, dGt, dGe, dEq, dNe, dIsN, dNotN, dInSign, dInText, dNotInText, dIx, dSl, dPart, dNo, dCut, dRev, dRevS, dM0, dLen, dAll, dAny, dMax2, dMin2, dList, dgName, dgNil, dgCons, dgTup, dgLst, dItL, dItT, dItR, dItE, dItZ, dItS, dYes, wipeG, noOwn, dMulS, dLstN, dSetN, dCatN, dOwnIx, dOwnLen, dOwnOp, dOpOwn, dApp, dExt, dPopAt, isOwn, isOwnL, dSetIx, dFrz, OD.d, DL.scal, dFld, dOwnFld, getF, dSetF, dMake, dMeth, dEither, dIsiC, dIsiSR, dJoin, dTextOf, dJoined3, dListN, dParN, dLc]
    rw [enum_tx]
    obtain ⟨f, hf⟩ := fn_of (S.mapIdx fun i a => (i, a)) (fun p => D.tup [.int (p.1 : Nat), .str (tx p.2)]) (fun p => .str (tx (List.replicate (p.2.length + 1) (97 + p.1)))) fun x y _ _ e => by
      have e1 : ((x.1 : Nat) : Int) = (y.1 : Nat) ∧ tx x.2 = tx y.2 := by simpa using e
      have e2 : x.1 = y.1 := by omega
      have e3 := tx_inj e1.2
      rw [e2, e3]
    refine ⟨by rw [List.length_map, List.length_mapIdx]; exact sz (by omega), fun _ => true, f, fun d hd => ?_, ?_⟩
    · obtain ⟨p, hp, rfl⟩ := List.mem_map.mp hd
      obtain ⟨i, hi, rfl⟩ := List.mem_mapIdx.mp hp
      refine ⟨rfl, rfl, rfl, fun _ => ?_⟩
      have hfp := hf _ hp
      have l4 := h4 _ (List.getElem_mem hi)
      have ai : atI (Str.ofString "abcdefghijklmn").cps.toList ((i : Nat) : Int) = some (97 + i) := atI_nat (abcn i (by omega))
      show _ ∧ ∃ c, atI (Str.ofString "abcdefghijklmn").cps.toList ((i : Nat) : Int) = some c ∧ _
      refine ⟨by decide, _, ai, ?_⟩
      show _ ∧ ∃ c, atI (Str.ofString "abcdefghijklmn").cps.toList ((i : Nat) : Int) = some c ∧ _
      refine ⟨by decide, _, ai, ?_⟩
      show (tx S[i]).length ≤ sizeLine ∧ _ ∧ _ ∧ _ ∧ _ ∧ _
      rw [tx_len]
      have e0 : (⟨#[97 + i]⟩ : Str) = tx [97 + i] := rfl
      rw [e0, repS_tx]
      have er : (List.replicate (S[i]).length [97 + i]).flatten = List.replicate (S[i]).length (97 + i) := by
        induction (S[i]).length with
        | zero => rfl
        | succ n ih => rw [List.replicate_succ, List.flatten_cons, ih] <;> rfl
      rw [er]
      refine ⟨sz (by omega), by omega, by omega, (show 1 ≤ 1000 by decide), ?_, ?_⟩
      · rw [tx_len, tx_len, List.length_replicate]
        simp
        exact sz (by omega)
      · rw [tx_app, hfp]
        rfl
    · rw [filter_tr, List.map_map, List.map_congr_left (f := f ∘ fun p : Nat × List Nat => D.tup [.int (p.1 : Nat), .str (tx p.2)]) hf, cutL_one]
      have e : (S.mapIdx fun i a => (i, a)).map (fun p => D.str (tx (List.replicate (p.2.length + 1) (97 + p.1)))) = (told S).map fun a => .str (tx a) := by
        apply List.ext_getElem?
        intro i
        simp [told]
        cases S[i]? <;> rfl
      rw [e]
      refine ⟨by decide, ?_, k⟩
      simp
      exact sz (by omega)
end
end MS
set_option maxHeartbeats 4000000
/-! names -/
namespace MS
open PySem PySem.Spec PyProof.Rows L2 DL NL
section
variable {P : Program} {w : World} {K : PySem.W.Frag} {mg' : Str → Option Value} {base : Heap}
theorem abc26 : ∀ i, i < 26 → (Str.ofString "abcdefghijklmnopqrstuvwxyz").cps.toList[i]? = some (97 + i) := by decide +kernel
/-- the names that may come out -/
def okNs (m : Nat) (ns : List (List Nat)) : Prop := ns.length = m ∧ ns.Nodup ∧ ∀ n ∈ ns, okN n
def sp_law_names : TFO := fun o ds R => ∃ n m : Nat, okB n o ∧ ds = [.int m] ∧ m ≤ 12 ∧ n + 10 < 1000 ∧ ∀ ns o', okNs m ns → okB (n + 10) o' → R (txsD ns) o'
theorem okB.up {n m : Nat} {o : OD} (h : okB n o) (hm : n ≤ m) : okB m o := by
  obtain ⟨a, b, c, e, h1, h2, h3, h4, h5⟩ := h
  exact ⟨a, b, c, e, h1, h2, h3, h4, by omega⟩
/-- letters far from one another -/
def sgl (f s k : Nat) : Nat := 97 + (f + s * k) % 26
def stepOk (s : Nat) : Prop := s = 1 ∨ s = 3 ∨ s = 5 ∨ s = 7 ∨ s = 9 ∨ s = 11
theorem sgl_inj {f s i j : Nat} (hs : stepOk s) (hi : i < 13) (hj : j < 13) (h : sgl f s i = sgl f s j) : i = j := by
  unfold sgl at h
  rcases hs with rfl | rfl | rfl | rfl | rfl | rfl <;> omega
theorem sgl_l (f s k : Nat) : isL (sgl f s k) = true := by
  unfold isL sgl
  rw [decide_eq_true_eq]
  omega
theorem nodup_range {α : Type} {g : Nat → α} {m : Nat} (h : ∀ i j, i < m → j < m → g i = g j → i = j) : ((List.range m).map g).Nodup := by
  induction m with
  | zero => exact List.nodup_nil
  | succ m ih =>
    rw [List.range_succ, List.map_append]
    refine List.nodup_append.mpr ⟨ih fun i j hi hj e => h i j (by omega) (by omega) e, by simp, ?_⟩
    intro a ha b hb e
    obtain ⟨i, hi, rfl⟩ := List.mem_map.mp ha
    have hi := List.mem_range.mp hi
    rw [List.map_cons, List.map_nil, List.mem_singleton] at hb
    rw [hb] at e
    have := h i m (by omega) (by omega) e
    omega
theorem ns_of {m : Nat} {g : Nat → List Nat} (hok : ∀ k, k < m → okN (g k)) (h : ∀ i j, i < m → j < m → g i = g j → i = j) : okNs m ((List.range m).map g) := by
  refine ⟨by simp, nodup_range h, fun n hn => ?_⟩
  obtain ⟨k, hk, rfl⟩ := List.mem_map.mp hn
  exact hok k (List.mem_range.mp hk)
/-- a stem: three letters -/
def okS (t : List Nat) : Prop := t.length = 3 ∧ ∀ c ∈ t, isL c = true
theorem ns0 {f s m : Nat} (hs : stepOk s) (hm : m ≤ 12) : okNs m ((List.range m).map fun k => [sgl f s k]) := by
  refine ns_of (fun k hk => ⟨by simp, by simp, fun c hc => ?_⟩) fun i j hi hj e => ?_
  · rw [List.mem_singleton.mp hc]
    exact sgl_l _ _ _
  · exact sgl_inj hs (by omega) (by omega) (List.cons.inj e).1
theorem ns3 {f s m a : Nat} {t : List Nat} (hs : stepOk s) (hm : m ≤ 12) (ht : okS t) : okNs m ((List.range m).map fun k => t.take a ++ [sgl f s k] ++ t.drop a) := by
  refine ns_of (fun k hk => ⟨by simp; omega, ?_, fun c hc => ?_⟩) fun i j hi hj e => ?_
  · have := ht.1
    simp
    omega
  · simp at hc
    rcases hc with hc | rfl | hc
    · exact ht.2 c (List.mem_of_mem_take hc)
    · exact sgl_l _ _ _
    · exact ht.2 c (List.mem_of_mem_drop hc)
  · simp at e
    exact sgl_inj hs (by omega) (by omega) e
theorem ns1 {f s m : Nat} {t : List Nat} (hs : stepOk s) (hm : m ≤ 12) (ht : okS t) : okNs m ((List.range m).map fun k => t.take (1 + k % 3) ++ [sgl f s k]) := by
  refine ns_of (fun k hk => ⟨by simp, ?_, fun c hc => ?_⟩) fun i j hi hj e => ?_
  · have := ht.1
    simp
    omega
  · simp at hc
    rcases hc with hc | rfl
    · exact ht.2 c (List.mem_of_mem_take hc)
    · exact sgl_l _ _ _
  · have e2 := congrArg List.getLast? e
    simp at e2
    exact sgl_inj hs (by omega) (by omega) e2
theorem ns2 {f s m : Nat} (hs : stepOk s) (hm : m ≤ 12) : okNs m ((List.range m).map fun k => List.replicate (1 + k % 4) (sgl f s k)) := by
  refine ns_of (fun k hk => ⟨by simp, by simp; omega, fun c hc => ?_⟩) fun i j hi hj e => ?_
  · rw [(List.mem_replicate.mp hc).2]
    exact sgl_l _ _ _
  · have e2 := congrArg List.head? e
    rw [show 1 + i % 4 = (i % 4) + 1 by omega, show 1 + j % 4 = (j % 4) + 1 by omega, List.replicate_succ, List.replicate_succ] at e2
    simp at e2
    exact sgl_inj hs (by omega) (by omega) e2
def glu (a b : Nat) : List (List Nat) := [[a], [b], [a, b], [b, a], [a, a], [b, b], [a, b, a], [b, a, b]] ++ [[a, a, b], [b, b, a], [a, b, a, b], [b, a, b, a]]
theorem glu_nodup {a b : Nat} (h : a ≠ b) : (glu a b).Nodup := by
  have h' : b ≠ a := fun e => h e.symm
  simp [glu, h, h']
theorem glu_ok {a b : Nat} (ha : isL a = true) (hb : isL b = true) : ∀ n ∈ glu a b, okN n := by
  intro n hn
  simp [glu] at hn
  rcases hn with rfl | rfl | rfl | rfl | rfl | rfl | rfl | rfl | rfl | rfl | rfl | rfl <;> (refine ⟨by simp, by simp, fun c hc => ?_⟩; simp at hc; rcases hc with rfl | hc <;> first | assumption | (rcases hc with rfl | hc <;> first | assumption | (rcases hc with rfl | hc <;> first | assumption | (subst hc; assumption))) | (subst hc; assumption))
theorem nodup_get {α : Type} {l : List α} (h : l.Nodup) {i j : Nat} {a : α} (hi : l[i]? = some a) (hj : l[j]? = some a) : i = j := by
  obtain ⟨li, ei⟩ := List.getElem?_eq_some_iff.mp hi
  obtain ⟨lj, ej⟩ := List.getElem?_eq_some_iff.mp hj
  exact (List.getElem_inj h).mp (ei.trans ej.symm)
theorem ns4 {f m a b : Nat} (hm : m ≤ 12) (ha : isL a = true) (hb : isL b = true) (ne : a ≠ b) : okNs m ((List.range m).map fun k => (glu a b).getD ((f + 5 * k) % 12) []) := by
  have l : (glu a b).length = 12 := rfl
  have lt : ∀ k, (f + 5 * k) % 12 < (glu a b).length := fun k => by
    rw [l]
    omega
  refine ns_of (fun k hk => glu_ok ha hb _ (getD_mem (lt k))) fun i j hi hj e => ?_
  have e1 := get_getD (d := ([] : List Nat)) (lt i)
  have e2 := get_getD (d := ([] : List Nat)) (lt j)
  rw [e] at e1
  have := nodup_get (glu_nodup ne) e1 e2
  omega
end
end MS
set_option maxHeartbeats 4000000
/-! law_names -/
namespace MS
open PySem PySem.Spec PyProof.Rows L2 DL NL
section
variable {P : Program} {w : World} {K : PySem.W.Frag} {mg' : Str → Option Value} {base : Heap}
theorem c_law_names (W : W0 K mg') : DefF P w K mg' base "_law_names" ["_law_box_here", "_law_many"] 2 (SpO sp_law_names) := by
  refine g_law_names W (c_law_take W) ?_ ?_
  · rintro o ds Kd ⟨n, m, _, rfl, _⟩
    rfl
  · rintro o ds Kd ⟨n, m, ho, rfl, hm, hn, k⟩
    simp [R_law_names, dCallO, init, initO, endsO, dRet, dSeq, dNext, dDrop, dIfS, dSet, dAsg, dPar, dPar3, dNever, dNo1, dVar, dC, dOp, dChain, dB, dAnd, dOr, dNot, dAndV, dOrV, dNotV, dIf, dNil, dCons, dTup, dLst, dCall, dIsi, dIsi2, tyD, isaT, dAdd, dSub, dMul, dMod, dDiv, dPow, dInt2, dLt, dLe, dGt, dGe, dEq, dNe, dIsN, dNotN, dInSign, dInText, dNotInText, dIx, dSl, dPart, dNo, dCut, dRev, dRevS, dM0, dLen, dAll, dAny, dMax2, dMin2, dList, dgName, dgNil, dgCons, dgTup, dgLst, dItL, dItT, dItR, dItE, dItZ, dItS, dYes, wipeG, noOwn, dMulS, dLstN, dSetN, dCatN, dOwnIx, dOwnLen, dOwnOp, dOpOwn, dApp, dExt, dPopAt, isOwn, isOwnL, dSetIx, dFrz, OD.d, DL.scal, dFld, dOwnFld, getF, dSetF, dMake, dMeth, dEither, dIsiC, dIsiSR, dJoin, dTextOf, dJoined3, dListN, dParN, dLc]
    refine ⟨n, 26, ho, rfl, by omega, by decide, by decide, fun f o1 hf h1 => ?_⟩
    show _ ∧ _
    refine ⟨by decide, n + 1, 6, h1, rfl, by omega, by decide, by decide, fun s0 o2 hs h2 => ?_⟩
    obtain ⟨st, hst, so⟩ : ∃ st : Nat, atI [D.int 1, D.int 3, D.int 5, D.int 7, D.int 9, D.int 11] ((s0 : Nat) : Int) = some (.int st) ∧ stepOk st := by
      have z : s0 = 0 ∨ s0 = 1 ∨ s0 = 2 ∨ s0 = 3 ∨ s0 = 4 ∨ s0 = 5 := by omega
      rcases z with rfl | rfl | rfl | rfl | rfl | rfl
      · exact ⟨1, rfl, by simp [stepOk]⟩
      · exact ⟨3, rfl, by simp [stepOk]⟩
      · exact ⟨5, rfl, by simp [stepOk]⟩
      · exact ⟨7, rfl, by simp [stepOk]⟩
      · exact ⟨9, rfl, by simp [stepOk]⟩
      · exact ⟨11, rfl, by simp [stepOk]⟩
    refine ⟨_, hst, n + 2, 5, h2, rfl, by omega, by decide, by decide, fun wy o3 hw h3 => ?_⟩
    obtain ⟨g, hg⟩ := fn_of (List.range m) (fun k => D.int (k : Nat)) (fun k => .str (tx [sgl f st k])) fun x y _ _ e => by
      have : x = y := by
        injection e with e
        omega
      rw [this]
    refine ⟨by decide, Int.lt_of_le_of_lt (show (m : Int) ≤ 12 by omega) (by decide), by rw [upTo_len]; exact sz (by omega), fun _ => true, g, fun d hd => ?_, ?_⟩
    · obtain ⟨k, hk, rfl⟩ := List.mem_map.mp (show d ∈ (List.range _).map fun i : Nat => D.int (i : Int) from hd)
      refine ⟨rfl, fun _ => ?_⟩
      have hk := List.mem_range.mp hk
      have hgk := hg k (List.mem_range.mpr hk)
      have z : (((f : Nat) : Int) + (st : Nat) * (k : Nat)) % 26 = (((f + st * k) % 26 : Nat) : Int) := by omega
      refine ⟨?_, ?_⟩
      · unfold stepOk at so
        exact .inl ⟨by omega, by omega⟩
      · show 0 < _ ∧ _
        refine ⟨by decide, ?_⟩
        rw [z]
        show _ ∧ ∃ c, atI _ _ = some c ∧ _
        refine ⟨by decide, _, atI_nat (abc26 _ (by omega)), ?_⟩
        rw [hgk]
        rfl
    · rw [filter_tr]
      have eg : (DL.upTo m).map g = (List.range m).map fun k => D.str (tx [sgl f st k]) := by
        show ((List.range _).map fun i : Nat => D.int (i : Int)).map g = _
        rw [List.map_map]
        exact List.map_congr_left hg
      rw [eg]
      have sok := @ns0 f st m so hm
      have s3 := fun (a : Nat) (t : List Nat) (ht : okS t) => @ns3 f st m a t so hm ht
      have s1 := fun (t : List Nat) (ht : okS t) => @ns1 f st m t so hm ht
      have s2 := @ns2 f st m so hm
      simp [dLcI, dCallO, init, initO, endsO, dRet, dSeq, dNext, dDrop, dIfS, dSet, dAsg, dPar, dPar3, dNever, dNo1, dVar, dC, dOp, dChain, dB, dAnd, dOr, dNot, dAndV, dOrV, dNotV, dIf, dNil, dCons, dTup, dLst, dCall, dIsi, dIsi2, tyD, isaT, dAdd, dSub, dMul, dMod, dDiv, dPow, dInt2, dLt, dLe, dGt, dGe, dEq, dNe, dIsN, dNotN, dInSign, dInText, dNotInText, dIx, dSl, dPart, dNo, dCut, dRev, dRevS, dM0, dLen, dAll, dAny, dMax2, dMin2, dList, dgName, dgNil, dgCons, dgTup, dgLst, dItL, dItT, dItR, dItE, dItZ, dItS, dYes, wipeG, noOwn, dMulS, dLstN, dSetN, dCatN, dOwnIx, dOwnLen, dOwnOp, dOpOwn, dApp, dExt, dPopAt, isOwn, isOwnL, dSetIx, dFrz, OD.d, DL.scal, dFld, dOwnFld, getF, dSetF, dMake, dMeth, dEither, dIsiC, dIsiSR, dJoin, dTextOf, dJoined3, dListN, dParN, dLc]
      refine ⟨by rw [upTo_len]; exact sz (by omega), fun i ys Γa => ∃ (t : List Nat) (o : OD), ys = t.map (fun c => D.str (tx [c])) ∧ t.length = i ∧ (∀ c ∈ t, isL c = true) ∧ okB (n + 3 + i) o ∧ Γa = [.own o, .val (.int m), .val (.str (Str.ofString "abcdefghijklmnopqrstuvwxyz")), .val (.int f), .val (.int st), .val (.int wy), .val (.lst ((List.range m).map fun k => D.str (tx [sgl f st k]))), .un, .un, .un, .un, .un, .un], ⟨[], o3, rfl, rfl, fun _ h => (nomatch h), h3, rfl⟩, ?_, ?_⟩
      · rintro i d ys Γa hd ⟨t, o, rfl, rfl, tl, ho, rfl⟩
        have hi : t.length < 3 := by
          have := (List.getElem?_eq_some_iff.mp hd).1
          rwa [upTo_len] at this
        simp
        refine ⟨n + 3 + t.length, 26, ho, rfl, by omega, by decide, by decide, fun x o5 hx h5 => ?_⟩
        show _ ∧ ∃ c, atI (Str.ofString "abcdefghijklmnopqrstuvwxyz").cps.toList ((x : Nat) : Int) = some c ∧ _
        refine ⟨by decide, _, atI_nat (abc26 x hx), t ++ [97 + x], ?_, ?_, ?_, o5, h5, rfl⟩
        · rw [List.map_append]
          rfl
        · rw [List.length_append]
          rfl
        · intro c hc
          rcases List.mem_append.mp hc with hc | hc
          · exact tl c hc
          · rw [List.mem_singleton.mp hc]
            unfold isL
            rw [decide_eq_true_eq]
            omega
      · rintro ys Γa ⟨t, o, rfl, tl, tL, ho, rfl⟩
        rw [upTo_len] at tl ho
        have ts : okS t := ⟨tl, tL⟩
        refine ⟨t.map fun c => tx [c], by rw [List.map_map]; rfl, ?_, ?_⟩
        · match t, tl with
          | [x, y, z], _ => exact (show 3 + 3 * 0 ≤ 16777216 by decide)
        have ej : Txt.join (Str.ofString "") (t.map fun c => tx [c]) = tx t := by
          have := txjoin (t.map fun c => [c])
          rw [List.map_map] at this
          refine this.trans ?_
          congr 1
          clear tl tL ts this
          induction t with
          | nil => rfl
          | cons x t ih => rw [List.map_cons, List.flatten_cons, ih]; rfl
        rw [ej]
        simp
        have sgi : ∀ x y, x ∈ List.range m → y ∈ List.range m → sgl f st x = sgl f st y → x = y := fun x y hx hy e => by
          have hx := List.mem_range.mp hx
          have hy := List.mem_range.mp hy
          exact sgl_inj so (by omega) (by omega) e
        have kk : ∀ (F : Nat → List Nat) (ns : List D), ns = ((List.range m).map F).map (fun a => D.str (tx a)) → okNs m ((List.range m).map F) → ∀ o', okB (n + 10) o' → Kd (.lst ns) o' := fun F ns e h o' h' => by
          rw [e]
          exact k _ _ h h'
        have een : enumD ((List.range m).map fun k => D.str (tx [sgl f st k])) = (List.range m).map fun k => D.tup [.int (k : Nat), .str (tx [sgl f st k])] := by
          refine List.ext_getElem (by simp [enumD]) fun i h1 h2 => ?_
          simp [enumD]
        by_cases w3 : wy = 3
        · rw [if_pos (by omega)]
          refine ⟨n + 6, 3, ho, rfl, by omega, by decide, by decide, fun a o6 ha h6 => ?_⟩
          obtain ⟨g3, hg3⟩ := fn_of (List.range m) (fun k => D.str (tx [sgl f st k])) (fun k => .str (tx (t.take a ++ [sgl f st k] ++ t.drop a))) fun x y hx hy e => by
            have : x = y := sgi x y hx hy (by
              injection e with e
              exact (List.cons.inj (tx_inj e)).1)
            rw [this]
          refine ⟨sz (by omega), fun _ => true, g3, fun k hk => ⟨rfl, fun _ => ?_⟩, ?_⟩
          · have := hg3 k (List.mem_range.mpr hk)
            show _ ≤ _ ∧ _ ≤ _ ∧ _ ≤ _ ∧ _ ≤ _ ∧ _ = _
            rw [cut_hi, cut_lo, tx_app, tx_app, this]
            simp only [tx_len, List.length_append, List.length_take, List.length_drop, List.length_cons, List.length_nil]
            exact ⟨sz (by omega), sz (by omega), sz (by omega), sz (by omega), trivial⟩
          · rw [filter_tr, List.map_map]
            refine kk _ _ ?_ (s3 a t ts) _ (h6.up (by omega))
            rw [List.map_map]
            exact List.map_congr_left hg3
        rw [if_neg (by omega)]
        by_cases w4 : wy = 4
        · rw [if_pos (by omega), if_pos (by omega)]
          have e1 : (⟨#[97 + f]⟩ : Str) = tx [97 + f] := rfl
          have e2 : (⟨#[97 + (f + 7) % 26]⟩ : Str) = tx [97 + (f + 7) % 26] := rfl
          refine ⟨by decide, 97 + f, atI_nat (abc26 f hf), by decide, 97 + (f + 7) % 26, by rw [show ((f : Int) + 7) % 26 = (((f + 7) % 26 : Nat) : Int) by omega]; exact atI_nat (abc26 _ (by omega)), ?_⟩
          rw [e1, e2]
          simp only [tx_app, tx_len, List.length_append, List.length_cons, List.length_nil, List.cons_append, List.nil_append]
          iterate 21 (refine And.intro (by decide) ?_)
          have el : ∀ k, (f + 5 * k) % 12 < (glu (97 + f) (97 + (f + 7) % 26)).length := fun k => (show (f + 5 * k) % 12 < 12 by omega)
          obtain ⟨g4, hg4⟩ := fn_of (List.range m) (fun k => D.int (k : Nat)) (fun k => .str (tx ((glu (97 + f) (97 + (f + 7) % 26)).getD ((f + 5 * k) % 12) []))) fun x y _ _ e => by
            have : x = y := by
              injection e with e
              omega
            rw [this]
          refine ⟨Int.lt_of_le_of_lt (show (m : Int) ≤ 12 by omega) (by decide), by rw [upTo_len]; exact sz (by omega), fun _ => true, g4, fun d hd => ?_, ?_⟩
          · obtain ⟨k, hk, rfl⟩ := List.mem_map.mp (show d ∈ (List.range _).map fun i : Nat => D.int (i : Int) from hd)
            have hgk := hg4 k hk
            have hk := List.mem_range.mp hk
            refine ⟨rfl, fun _ => ⟨.inl ⟨by decide, by decide⟩, ?_⟩⟩
            show 0 < _ ∧ _
            refine ⟨by decide, ?_⟩
            rw [show (((f : Nat) : Int) + 5 * ((k : Nat) : Int)) % 12 = (((f + 5 * k) % 12 : Nat) : Int) by omega]
            exact ⟨_, atI_nat (l := (glu (97 + f) (97 + (f + 7) % 26)).map fun x => D.str (tx x)) (by rw [List.getElem?_map, get_getD (d := []) (el k)] <;> rfl), hgk.symm⟩
          · rw [filter_tr]
            refine kk _ _ ?_ (ns4 (f := f) hm (a := 97 + f) (b := 97 + (f + 7) % 26) ?_ ?_ ?_) _ (ho.up (by omega))
            · show ((List.range _).map fun i : Nat => D.int (i : Int)).map g4 = _
              rw [List.map_map, List.map_map]
              exact List.map_congr_left hg4
            · unfold isL
              rw [decide_eq_true_eq]
              omega
            · unfold isL
              rw [decide_eq_true_eq]
              omega
            · omega
        rw [if_neg (by omega)]
        by_cases w0 : wy = 0
        · rw [if_pos (by omega)]
          refine kk _ _ ?_ sok _ (ho.up (by omega))
          rw [List.map_map]
          rfl
        rw [if_neg (by omega)]
        by_cases w1 : wy = 1
        · rw [if_pos (by omega)]
          obtain ⟨g1, hg1⟩ := fn_of (List.range m) (fun k => D.tup [.int (k : Nat), .str (tx [sgl f st k])]) (fun k => .str (tx (t.take (1 + k % 3) ++ [sgl f st k]))) fun x y _ _ e => by
            have : x = y := by
              injection e with e
              have e := (List.cons.inj e).1
              injection e with e
              omega
            rw [this]
          rw [een]
          refine ⟨by rw [List.length_map, List.length_range]; exact sz (by omega), fun _ => true, g1, fun d hd => ?_, ?_⟩
          · obtain ⟨k, hk, rfl⟩ := List.mem_map.mp hd
            have hgk := hg1 k hk
            have hk := List.mem_range.mp hk
            refine ⟨rfl, rfl, rfl, fun _ => ⟨(by decide), ?_⟩⟩
            show (tx t).length ≤ _ ∧ (cutS (tx t) none (some (1 + (k : Int) % 3))).length + _ ≤ _ ∧ D.str (cutS (tx t) none (some (1 + (k : Int) % 3)) ++ _) = _
            rw [show (1 + (k : Int) % 3) = ((1 + k % 3 : Nat) : Int) by omega, cut_hi, tx_app, hgk, tx_len, tx_len, tx_len]
            refine ⟨sz (by omega), ?_, rfl⟩
            rw [List.length_take]
            exact sz (by simp; omega)
          · rw [filter_tr, List.map_map]
            refine kk _ _ ?_ (s1 t ts) _ (ho.up (by omega))
            rw [List.map_map]
            exact List.map_congr_left hg1
        rw [if_neg (by omega)]
        obtain ⟨g2, hg2⟩ := fn_of (List.range m) (fun k => D.tup [.int (k : Nat), .str (tx [sgl f st k])]) (fun k => .str (tx (List.replicate (1 + k % 4) (sgl f st k)))) fun x y _ _ e => by
          have : x = y := by
            injection e with e
            have e := (List.cons.inj e).1
            injection e with e
            omega
          rw [this]
        rw [een]
        refine ⟨by rw [List.length_map, List.length_range]; exact sz (by omega), fun _ => true, g2, fun d hd => ?_, ?_⟩
        · obtain ⟨k, hk, rfl⟩ := List.mem_map.mp hd
          have hgk := hg2 k hk
          have hk := List.mem_range.mp hk
          refine ⟨rfl, rfl, rfl, fun _ => ⟨(by decide), ?_⟩⟩
          show 0 ≤ 1 + (k : Int) % 4 ∧ 1 + (k : Int) % 4 ≤ 1000 ∧ (tx [sgl f st k]).length ≤ 1000 ∧ D.str (repS (tx [sgl f st k]) (1 + (k : Int) % 4)) = _
          rw [show (1 + (k : Int) % 4) = ((1 + k % 4 : Nat) : Int) by omega, repS_tx, hgk, tx_len]
          refine ⟨by omega, by omega, by simp, ?_⟩
          have : ∀ (j c : Nat), (List.replicate j [c]).flatten = List.replicate j c := fun j c => by
            induction j with
            | zero => rfl
            | succ j ih => rw [List.replicate_succ, List.flatten_cons, ih]; rfl
          rw [this]
        · rw [filter_tr, List.map_map]
          refine kk _ _ ?_ s2 _ (ho.up (by omega))
          rw [List.map_map]
          exact List.map_congr_left hg2
end
end MS
set_option maxHeartbeats 4000000
/-! law_cut -/
namespace MS
open PySem PySem.Spec PyProof.Rows L2 DL NL
section
variable {P : Program} {w : World} {K : PySem.W.Frag} {mg' : Str → Option Value} {base : Heap}
theorem erase_map {α β : Type} (f : α → β) : ∀ (l : List α) (k : Nat), (l.map f).eraseIdx k = (l.eraseIdx k).map f
  | [], _ => rfl
  | _ :: _, 0 => rfl
  | x :: l, k + 1 => congrArg (f x :: ·) (erase_map f l k)
theorem erase_perm {α : Type} {a : α} : ∀ {l : List α} {k : Nat}, l[k]? = some a → (a :: l.eraseIdx k).Perm l
  | [], k, h => by simp at h
  | x :: l, 0, h => by
    have h : x = a := by simpa using h
    rw [h]
    exact .refl _
  | x :: l, k + 1, h => .trans (.swap _ _ _) (.cons x (erase_perm (l := l) (k := k) (by simpa using h)))
structure Raw (c : Cut) : Prop where
  n1 : 1 ≤ c.S.length
  n2 : c.S.length ≤ 13
  s : ∀ a ∈ c.S, okPQ a
  o1 : c.O.length = c.S.length
  o2 : ∀ k ∈ c.O, k < c.S.length
  o3 : c.O.Nodup
  f : c.F.length = c.S.length
  q : c.Q.length = c.S.length + 1
  q2 : ∀ a ∈ c.Q, okPQ a
  n : okNs (c.S.length - 1) c.N
def sp_law_cut : TFO := fun o ds R => ∃ n : Nat, okB n o ∧ ds = [.int 13] ∧ n + 100 < 1000 ∧ ∀ c o', Raw c → R (.lst (cutDs c)) o'
theorem c_law_cut (W : W0 K mg') : DefF P w K mg' base "_law_cut" ["_law_box_here", "_law_most"] 3 (SpO sp_law_cut) := by
  refine g_law_cut W (c_law_take W) (c_law_piece W) (c_law_names W) ?_ ?_
  · rintro o ds Kd ⟨n, _, rfl, _⟩
    rfl
  · rintro o ds Kd ⟨n, ho, rfl, hn, k⟩
    simp [R_law_cut, dCallO, dLcI, dParN, dListRg, dLstN, dFor, dPopAt, dApp, dOwnLen, dFrz, init, initO, endsO, dRet, dSeq, dNext, dDrop, dIfS, dSet, dAsg, dPar, dPar3, dNever, dNo1, dVar, dC, dOp, dChain, dB, dAnd, dOr, dNot, dAndV, dOrV, dNotV, dIf, dNil, dCons, dTup, dLst, dCall, dIsi, dIsi2, tyD, isaT, dAdd, dSub, dMul, dMod, dDiv, dPow, dInt2, dLt, dLe, dGt, dGe, dEq, dNe, dIsN, dNotN, dInSign, dInText, dNotInText, dIx, dSl, dPart, dNo, dCut, dRev, dRevS, dM0, dLen, dAll, dAny, dMax2, dMin2, dList, dgName, dgNil, dgCons, dgTup, dgLst, dItL, dItT, dItR, dItE, dItZ, dItS, dYes, wipeG, noOwn, dMulS, dLstN, dSetN, dCatN, dOwnIx, dOwnLen, dOwnOp, dOpOwn, dApp, dExt, dPopAt, isOwn, isOwnL, dSetIx, dFrz, OD.d, DL.scal, dFld, dOwnFld, getF, dSetF, dMake, dMeth, dEither, dIsiC, dIsiSR, dJoin, dTextOf, dJoined3, dListN, dParN, dLc]
    refine ⟨n, 13, ho, rfl, by omega, by decide, by decide, fun d o1 hd h1 => ?_⟩
    obtain ⟨m, em, m1, m2⟩ : ∃ m : Nat, (1 : Int) + (d : Nat) = (m : Nat) ∧ 1 ≤ m ∧ m ≤ 13 := ⟨1 + d, by omega, by omega, by omega⟩
    dsimp only [dAdd]
    simp only [em, Int.toNat_natCast]
    have ul : (DL.upTo m).length ≤ sizeLine := by rw [upTo_len]; exact sz (by omega)
    have mi : (m : Int) < 4611686018427387904 := Int.lt_of_le_of_lt (show (m : Int) ≤ 13 by omega) (by decide)
    have mi2 : (-4611686018427387904 : Int) ≤ (m : Int) := Int.le_trans (show (-4611686018427387904 : Int) ≤ 0 by decide) (by omega)
    refine ⟨mi, mi2, ul, fun i ys Γa => ∃ (S : List (List Nat)) (o : OD), ys = S.map (fun a => D.str (tx a)) ∧ S.length = i ∧ (∀ a ∈ S, okPQ a) ∧ okB (n + 1 + 2 * i) o ∧ Γa = [.own o, .val (.int 13), .val (.int m), .un, .un, .un, .un, .un, .un], ⟨[], o1, rfl, rfl, fun _ h => (nomatch h), h1, rfl⟩, ?_, ?_⟩
    · rintro i d ys Γa hd ⟨S, o, rfl, rfl, hS, ho, rfl⟩
      have hi : S.length < m := by
        have := (List.getElem?_eq_some_iff.mp hd).1
        rwa [upTo_len] at this
      simp
      refine ⟨n + 1 + 2 * S.length, ho, rfl, by omega, fun q o5 hq h5 => ?_⟩
      refine ⟨S ++ [q], ?_, ?_, ?_, o5, ?_, rfl⟩
      · rw [List.map_append]
        rfl
      · rw [List.length_append]
        rfl
      · intro c hc
        rcases List.mem_append.mp hc with hc | hc
        · exact hS c hc
        · rw [List.mem_singleton.mp hc]
          exact hq
      · exact h5.up (by omega)
    rintro ys Γa ⟨S, o, rfl, hSl, hS, ho, rfl⟩
    rw [upTo_len] at hSl ho
    simp
    refine ⟨by omega, mi, fun i Γ => ∃ (lf od : List Nat) (o : OD) (x : Slot), Γ = [.own o, .val (.int 13), .val (.int m), .val (.lst (S.map fun a => D.str (tx a))), .own (.lst (lf.map fun k => D.int (k : Nat))), .own (.lst (od.map fun k => D.int (k : Nat))), x, .un, .un] ∧ (∀ o, x ≠ .own o) ∧ od.length = i ∧ (od ++ lf).Perm (List.range m) ∧ okB (n + 1 + 2 * m + i) o, ⟨List.range m, [], o, .un, rfl, fun _ h => (nomatch h), rfl, .refl _, ho⟩, ?_, ?_⟩
    · rintro i d Γ2 hd ⟨lf, od, o, x, rfl, _, rfl, pm, ho⟩
      have hi : od.length < m := by
        have := (List.getElem?_eq_some_iff.mp hd).1
        rwa [upTo_len] at this
      have pl := pm.length_eq
      rw [List.length_append, List.length_range] at pl
      simp
      refine ⟨n + 1 + 2 * m + od.length, lf.length, ho, rfl, by omega, by omega, by omega, fun x o5 hx h5 => ?_⟩
      have ge : lf[x]? = some (lf.getD x 0) := get_getD hx
      refine ⟨x, rfl, D.int (lf.getD x 0 : Nat), ⟨_, ge, rfl⟩, by omega, sz (by omega), lf.eraseIdx x, od ++ [lf.getD x 0], o5, .val d, ⟨rfl, ?_, ?_, rfl⟩, fun _ h => (nomatch h), ?_, ?_, h5⟩
      · exact erase_map _ _ _
      · rw [List.map_append]
        rfl
      · rw [List.length_append]
        rfl
      · refine .trans ?_ pm
        rw [List.append_assoc]
        refine .append_left _ ?_
        exact erase_perm ge
    rintro Γ2 ⟨lf, od, o, x, rfl, nx, odl, pm, ho⟩
    rw [upTo_len] at odl ho
    simp
    have nx' : (match some x with
      | some (Slot.own o) => false
      | x => true) = true := by
      cases x with
      | own o => exact absurd rfl (nx o)
      | _ => rfl
    refine ⟨mi, ul, fun i ys Γa => ∃ (F : List Bool) (o : OD), ys = F.map D.bl ∧ F.length = i ∧ okB (n + 1 + 2 * m + m + i) o ∧ Γa = [.own o, .val (.int 13), .val (.int m), .val (.lst (S.map fun a => D.str (tx a))), .own (.lst (lf.map fun k => D.int (k : Nat))), .own (.lst (od.map fun k => D.int (k : Nat))), x, .un, .un], ⟨[], o, rfl, rfl, ho, rfl⟩, ?_, ?_⟩
    · rintro i d ys Γa hd ⟨F, o, rfl, rfl, ho, rfl⟩
      have hi : F.length < m := by
        have := (List.getElem?_eq_some_iff.mp hd).1
        rwa [upTo_len] at this
      refine ⟨nx', ?_⟩
      simp
      refine ⟨n + 1 + 2 * m + m + F.length, 2, ho, rfl, by omega, by decide, by decide, fun y o5 hy h5 => ?_⟩
      refine ⟨F ++ [decide (((y : Nat) : Int) = 0)], ?_, ?_, o5, h5, rfl⟩
      · rw [List.map_append]
        rfl
      · rw [List.length_append]
        rfl
    rintro ys Γa ⟨F, o, rfl, Fl, ho, rfl⟩
    rw [upTo_len] at Fl ho
    simp
    refine ⟨Int.lt_of_le_of_lt (show (m : Int) + 1 ≤ 14 by omega) (by decide), Int.le_trans (show (-4611686018427387904 : Int) ≤ 0 by decide) (by omega), by rw [upTo_len]; exact sz (by omega), fun i ys Γa => ∃ (Q : List (List Nat)) (o : OD), ys = Q.map (fun a => D.str (tx a)) ∧ Q.length = i ∧ (∀ a ∈ Q, okPQ a) ∧ okB (n + 1 + 2 * m + m + m + 2 * i) o ∧ Γa = [.own o, .val (.int 13), .val (.int m), .val (.lst (S.map fun a => D.str (tx a))), .own (.lst (lf.map fun k => D.int (k : Nat))), .own (.lst (od.map fun k => D.int (k : Nat))), x, .val (.lst (F.map D.bl)), .un], ⟨[], o, rfl, rfl, fun _ h => (nomatch h), ho, rfl⟩, ?_, ?_⟩
    · rintro i d ys Γa hd ⟨Q, o, rfl, rfl, hQ, ho, rfl⟩
      have hi : Q.length < m + 1 := by
        have := (List.getElem?_eq_some_iff.mp hd).1
        rwa [upTo_len] at this
      refine ⟨nx', ?_⟩
      simp
      refine ⟨n + 1 + 2 * m + m + m + 2 * Q.length, ho, rfl, by omega, fun q o5 hq h5 => ?_⟩
      refine ⟨Q ++ [q], ?_, ?_, ?_, o5, ?_, rfl⟩
      · rw [List.map_append]
        rfl
      · rw [List.length_append]
        rfl
      · intro c hc
        rcases List.mem_append.mp hc with hc | hc
        · exact hQ c hc
        · rw [List.mem_singleton.mp hc]
          exact hq
      · exact h5.up (by omega)
    rintro ys Γa ⟨Q, o, rfl, Ql, hQ, ho, rfl⟩
    rw [upTo_len] at Ql ho
    have pl := pm.length_eq
    rw [List.length_append, List.length_range] at pl
    have lf0 : lf = [] := List.eq_nil_of_length_eq_zero (by omega)
    subst lf0
    rw [List.append_nil] at pm
    simp
    refine ⟨n + 1 + 2 * m + m + m + 2 * (m + 1), m - 1, ho, ?_, by omega, by omega, fun ns o6 hns h6 => ?_⟩
    · rw [show (m : Int) - 1 = ((m - 1 : Nat) : Int) by omega]
    refine ⟨by decide, ?_⟩
    refine k ⟨S, od, F, Q, ns⟩ o6 ⟨?_, ?_, hS, ?_, ?_, ?_, ?_, ?_, hQ, ?_⟩
    · show 1 ≤ S.length
      omega
    · show S.length ≤ 13
      omega
    · show od.length = S.length
      omega
    · intro v hv
      have := List.mem_range.mp (pm.mem_iff.mp hv)
      show v < S.length
      omega
    · exact pm.nodup_iff.mpr List.nodup_range
    · show F.length = S.length
      omega
    · show Q.length = S.length + 1
      omega
    · show okNs (S.length - 1) ns
      rw [hSl]
      exact hns
end
end MS
set_option maxHeartbeats 4000000
/-! steps on ends: orbits, parts -/
namespace MS
theorem fp_fp (e : End) : fp (fp e) = e := by simp [fp]
theorem fp_inj {a b : End} (h : fp a = fp b) : a = b := by rw [← fp_fp a, h, fp_fp]
theorem fp_ne (e : End) : fp e ≠ e := by
  obtain ⟨i, s⟩ := e
  cases s <;> simp [fp]
def pw (N : End → End) : Nat → End → End
  | 0, x => x
  | k + 1, x => pw N k (N x)
theorem pw_add (N : End → End) : ∀ (a b : Nat) (x : End), pw N (a + b) x = pw N b (pw N a x)
  | 0, b, x => by rw [Nat.zero_add] <;> rfl
  | a + 1, b, x => by
    rw [show a + 1 + b = (a + b) + 1 by omega]
    exact pw_add N a b (N x)
theorem pw_s (N : End → End) (k : Nat) (x : End) : pw N (k + 1) x = N (pw N k x) := pw_add N k 1 x
structure Sys (m : Nat) (N : End → End) : Prop where
  rev : ∀ x, N (fp (N x)) = fp x
  rng : ∀ x : End, x.1 ≤ m → (N x).1 ≤ m
  nf : ∀ x : End, x.1 ≤ m → N x ≠ fp x
theorem nd_len {α : Type} [DecidableEq α] : ∀ {l X : List α}, l.Nodup → (∀ x ∈ l, x ∈ X) → l.length ≤ X.length
  | [], X, _, _ => Nat.zero_le _
  | a :: l, X, h, s => by
    have ha := s a List.mem_cons_self
    have h' := List.nodup_cons.mp h
    have := nd_len (l := l) (X := X.erase a) h'.2 fun x hx => (List.mem_erase_of_ne (fun (e : x = a) => h'.1 (by rw [← e]; exact hx))).mpr (s x (List.mem_cons_of_mem _ hx))
    rw [List.length_erase_of_mem ha] at this
    have := List.length_pos_of_mem ha
    rw [List.length_cons]
    omega
theorem perm_nd {α : Type} [DecidableEq α] : ∀ {l X : List α}, l.Nodup → X.Nodup → (∀ x, x ∈ l ↔ x ∈ X) → l.Perm X
  | [], X, _, _, s => by
    cases X with
    | nil => exact .nil
    | cons a X => exact nomatch (s a).mpr List.mem_cons_self
  | a :: l, X, h, hX, s => by
    have ha := (s a).mp List.mem_cons_self
    have h' := List.nodup_cons.mp h
    refine .trans (.cons a (perm_nd (X := X.erase a) h'.2 (hX.erase a) fun x => ?_)) (List.perm_cons_erase ha).symm
    rw [hX.mem_erase_iff]
    constructor
    · intro hx
      exact ⟨fun e => h'.1 (e ▸ hx), (s x).mp (List.mem_cons_of_mem _ hx)⟩
    · rintro ⟨ne, hx⟩
      exact (List.mem_cons.mp ((s x).mpr hx)).resolve_left ne
theorem min_ex {Q : Nat → Prop} : ∀ n, Q n → ∃ p, Q p ∧ p ≤ n ∧ ∀ i, i < p → ¬ Q i := by
  intro n
  induction n using Nat.strongRecOn with
  | _ n ih =>
    intro h
    by_cases g : ∃ i, i < n ∧ Q i
    · obtain ⟨i, hi, q⟩ := g
      obtain ⟨p, hp, hl, hm⟩ := ih i hi q
      exact ⟨p, hp, by omega, hm⟩
    · exact ⟨n, h, Nat.le_refl _, fun i hi q => g ⟨i, hi, q⟩⟩
structure Per (N : End → End) (s : End) (p : Nat) : Prop where
  pos : 1 ≤ p
  ret : pw N p s = s
  min : ∀ i, 0 < i → i < p → pw N i s ≠ s
theorem Per.uniq {N : End → End} {s : End} {p q : Nat} (h : Per N s p) (g : Per N s q) : p = q := by
  rcases Nat.lt_trichotomy p q with l | l | l
  · exact absurd h.ret (g.min p h.pos l)
  · exact l
  · exact absurd g.ret (h.min q g.pos l)
open Classical in
noncomputable def prd (N : End → End) (s : End) : Nat := if h : ∃ p, Per N s p then choose h else 1
def tr (N : End → End) (p : Nat) (s : End) : List End := (List.range p).map fun i => pw N i s
noncomputable def orb (N : End → End) (s : End) : List End := tr N (prd N s) s
theorem tr_s (N : End → End) (p : Nat) (s : End) : tr N (p + 1) s = s :: tr N p (N s) := by
  unfold tr
  rw [List.range_succ_eq_map, List.map_cons, List.map_map]
  rfl
theorem tr_e (N : End → End) (p : Nat) (s : End) : tr N (p + 1) s = tr N p s ++ [pw N p s] := by
  unfold tr
  rw [List.range_succ, List.map_append]
  rfl
theorem tr_add (N : End → End) : ∀ (a b : Nat) (s : End), tr N (a + b) s = tr N a s ++ tr N b (pw N a s)
  | 0, b, s => by rw [Nat.zero_add] <;> rfl
  | a + 1, b, s => by
    rw [show a + 1 + b = (a + b) + 1 by omega, tr_s, tr_s, tr_add N a b (N s)]
    rfl
theorem tr_len (N : End → End) (p : Nat) (s : End) : (tr N p s).length = p := by simp [tr]
theorem tr_mem {N : End → End} {p : Nat} {s x : End} : x ∈ tr N p s ↔ ∃ i, i < p ∧ pw N i s = x := by simp [tr]
def Or (N : End → End) (s x : End) : Prop := ∃ k, pw N k s = x
section
variable {m : Nat} {N : End → End} (S : Sys m N)
include S
theorem Sys.inj {x y : End} (h : N x = N y) : x = y := by
  have := congrArg (fun z => N (fp z)) h
  simp only [S.rev] at this
  exact fp_inj this
theorem Sys.pinj : ∀ (k : Nat) {x y : End}, pw N k x = pw N k y → x = y
  | 0, x, y, h => h
  | k + 1, x, y, h => S.inj (Sys.pinj k h)
theorem Sys.prng : ∀ (k : Nat) {x : End}, x.1 ≤ m → (pw N k x).1 ≤ m
  | 0, x, h => h
  | k + 1, x, h => Sys.prng k (S.rng x h)
theorem Sys.per_ex {s : End} (h : s.1 ≤ m) : ∃ p, Per N s p ∧ p ≤ 2 * m + 2 := by
  by_cases g : ∃ p, p ≤ 2 * m + 2 ∧ 1 ≤ p ∧ pw N p s = s
  · obtain ⟨p, hp, q⟩ := g
    obtain ⟨p', hq, hl, hm⟩ := min_ex (Q := fun p => 1 ≤ p ∧ pw N p s = s) p q
    exact ⟨p', ⟨hq.1, hq.2, fun i hi hip e => hm i hip ⟨hi, e⟩⟩, by omega⟩
  · exfalso
    have nd : (tr N (2 * m + 3) s).Nodup := by
      refine nodup_range fun i j hi hj e => ?_
      rcases Nat.lt_trichotomy i j with l | l | l
      · exfalso
        rw [show j = (j - i) + i by omega, pw_add] at e
        exact g ⟨j - i, by omega, by omega, (S.pinj i e).symm⟩
      · exact l
      · exfalso
        rw [show i = (i - j) + j by omega, pw_add] at e
        exact g ⟨i - j, by omega, by omega, S.pinj j e⟩
    have := nd_len (X := (List.range (m + 1)).map (fun i => (i, false)) ++ (List.range (m + 1)).map (fun i => (i, true))) nd fun x hx => by
      obtain ⟨i, _, rfl⟩ := tr_mem.mp hx
      have := S.prng i h
      generalize pw N i s = y at *
      obtain ⟨a, b⟩ := y
      cases b <;> simp <;> simpa [Nat.lt_succ_iff] using this
    rw [tr_len] at this
    simp at this
    omega
theorem Sys.per {s : End} (h : s.1 ≤ m) : Per N s (prd N s) := by
  obtain ⟨p, hp, _⟩ := S.per_ex h
  have : ∃ p, Per N s p := ⟨p, hp⟩
  unfold prd
  rw [dif_pos this]
  exact Classical.choose_spec this
theorem Sys.per_le {s : End} (h : s.1 ≤ m) : prd N s ≤ 2 * m + 2 := by
  obtain ⟨p, hp, hl⟩ := S.per_ex h
  rw [(S.per h).uniq hp]
  exact hl
theorem Sys.per_mul {s : End} {p : Nat} (h : pw N p s = s) : ∀ k, pw N (p * k) s = s
  | 0 => rfl
  | k + 1 => by rw [Nat.mul_succ, pw_add, Sys.per_mul h k, h]
theorem Sys.or_refl (s : End) : Or N s s := ⟨0, rfl⟩
theorem Sys.or_trans {a b c : End} (h : Or N a b) (g : Or N b c) : Or N a c := by
  obtain ⟨i, rfl⟩ := h
  obtain ⟨j, rfl⟩ := g
  exact ⟨i + j, pw_add N i j a⟩
theorem Sys.or_symm {a b : End} (ha : a.1 ≤ m) (h : Or N a b) : Or N b a := by
  obtain ⟨k, rfl⟩ := h
  have P := S.per ha
  refine ⟨prd N a * k - k, ?_⟩
  have hk : k ≤ prd N a * k := Nat.le_mul_of_pos_left k P.pos
  rw [← pw_add, show k + (prd N a * k - k) = prd N a * k by omega, S.per_mul P.ret]
theorem Sys.or_rng {a b : End} (ha : a.1 ≤ m) (h : Or N a b) : b.1 ≤ m := by
  obtain ⟨k, rfl⟩ := h
  exact S.prng k ha
theorem Sys.orb_mem {a x : End} (ha : a.1 ≤ m) : x ∈ orb N a ↔ Or N a x := by
  unfold orb
  rw [tr_mem]
  constructor
  · rintro ⟨i, _, h⟩
    exact ⟨i, h⟩
  · rintro ⟨k, rfl⟩
    have P := S.per ha
    refine ⟨k % prd N a, Nat.mod_lt _ P.pos, ?_⟩
    have e : k = prd N a * (k / prd N a) + k % prd N a := (Nat.div_add_mod k _).symm
    rw [show pw N k a = pw N (prd N a * (k / prd N a) + k % prd N a) a by rw [← e], pw_add, S.per_mul P.ret]
theorem Sys.orb_nd {a : End} (ha : a.1 ≤ m) : (orb N a).Nodup := by
  have P := S.per ha
  refine nodup_range fun i j hi hj e => ?_
  rcases Nat.lt_trichotomy i j with l | l | l
  · exfalso
    rw [show j = (j - i) + i by omega, pw_add] at e
    exact P.min (j - i) (by omega) (by omega) (S.pinj i e).symm
  · exact l
  · exfalso
    rw [show i = (i - j) + j by omega, pw_add] at e
    exact P.min (i - j) (by omega) (by omega) (S.pinj j e)
/-- backwards -/
theorem Sys.pw_rev : ∀ (k j : Nat) (s : End), pw N k (fp (pw N (j + k) s)) = fp (pw N j s)
  | 0, j, s => rfl
  | k + 1, j, s => by
    rw [pw_s, show j + (k + 1) = (j + 1) + k by omega, Sys.pw_rev k (j + 1) s, pw_s, S.rev]
theorem Sys.no_fp {s : End} (h : s.1 ≤ m) : ¬ Or N s (fp s) := by
  rintro ⟨k, e⟩
  have key : ∀ i, i ≤ k → fp (pw N i s) = pw N (k - i) s := by
    intro i
    induction i with
    | zero => exact fun _ => e.symm
    | succ i ih =>
      intro hi
      have := ih (by omega)
      refine S.inj ?_
      rw [pw_s, S.rev, this, show k - i = k - (i + 1) + 1 by omega, pw_s]
  rcases Nat.mod_two_eq_zero_or_one k with q | q
  · have := key (k / 2) (by omega)
    rw [show k - k / 2 = k / 2 by omega] at this
    exact fp_ne _ this
  · have := key (k / 2) (by omega)
    rw [show k - k / 2 = k / 2 + 1 by omega, pw_s] at this
    exact S.nf _ (S.prng _ h) this.symm
theorem Sys.or_fp {s x : End} (h : s.1 ≤ m) (g : Or N s x) : Or N (fp s) (fp x) := by
  obtain ⟨k, rfl⟩ := g
  refine S.or_symm (by exact S.prng k h) ⟨k, ?_⟩
  have := S.pw_rev k 0 s
  rw [Nat.zero_add] at this
  exact this
theorem Sys.no_fp2 {s x : End} (h : s.1 ≤ m) (g : Or N s x) (g2 : Or N s (fp x)) : False :=
  S.no_fp (S.or_rng h g) (S.or_trans (S.or_symm h g) g2)
theorem Sys.orb_fst {a : End} (ha : a.1 ≤ m) : ((orb N a).map (·.1)).Nodup := by
  have nd := S.orb_nd ha
  have sub : ∀ x ∈ orb N a, Or N a x := fun x hx => (S.orb_mem ha).mp hx
  generalize orb N a = l at *
  induction l with
  | nil => exact List.nodup_nil
  | cons x l ih =>
    have nd' := List.nodup_cons.mp nd
    rw [List.map_cons, List.nodup_cons]
    refine ⟨fun hx => ?_, ih nd'.2 fun y hy => sub y (List.mem_cons_of_mem _ hy)⟩
    obtain ⟨y, hy, e⟩ := List.mem_map.mp hx
    have hx1 := sub x List.mem_cons_self
    have hy1 := sub y (List.mem_cons_of_mem _ hy)
    obtain ⟨i, b⟩ := x
    obtain ⟨j, b'⟩ := y
    simp only at e
    subst e
    by_cases eb : b = b'
    · subst eb
      exact nd'.1 hy
    · refine S.no_fp2 ha hx1 ?_
      have : fp (j, b) = (j, b') := by cases b <;> cases b' <;> simp_all [fp]
      rw [this]
      exact hy1
/-- the same part -/
def Pt (N : End → End) (a b : End) : Prop := Or N a b ∨ Or N a (fp b)
theorem Sys.pt_refl (a : End) : Pt N a a := .inl (S.or_refl a)
theorem Sys.pt_symm {a b : End} (ha : a.1 ≤ m) (h : Pt N a b) : Pt N b a := by
  rcases h with h | h
  · exact .inl (S.or_symm ha h)
  · have := S.or_fp (S.or_rng ha h) (S.or_symm ha h)
    rw [fp_fp] at this
    exact .inr this
theorem Sys.pt_trans {a b c : End} (ha : a.1 ≤ m) (hb : b.1 ≤ m) (h : Pt N a b) (g : Pt N b c) : Pt N a c := by
  rcases h with h | h
  · rcases g with g | g
    · exact .inl (S.or_trans h g)
    · exact .inr (S.or_trans h g)
  · rcases g with g | g
    · exact .inr (S.or_trans h (S.or_fp hb g))
    · have := S.or_fp hb g
      rw [fp_fp] at this
      exact .inl (S.or_trans h this)
theorem Sys.pt_fp {a b : End} : Pt N a (fp b) ↔ Pt N a b := by
  unfold Pt
  rw [fp_fp]
  exact Or.comm
theorem Sys.pt_rng {a b : End} (ha : a.1 ≤ m) (h : Pt N a b) : b.1 ≤ m := by
  rcases h with h | h
  · exact S.or_rng ha h
  · have : (fp b).1 ≤ m := S.or_rng ha h
    exact this
theorem Sys.pt_bool {a : End} {i : Nat} (b b' : Bool) : Pt N a (i, b) ↔ Pt N a (i, b') := by
  by_cases e : b = b'
  · rw [e]
  · have : (i, b) = fp (i, b') := by cases b <;> cases b' <;> simp_all [fp]
    rw [this]
    exact S.pt_fp
theorem Sys.pt_orb {a : End} (ha : a.1 ≤ m) {i : Nat} : i ∈ (orb N a).map (·.1) ↔ Pt N a (i, false) := by
  constructor
  · intro h
    obtain ⟨⟨j, b⟩, hx, e⟩ := List.mem_map.mp h
    simp only at e
    subst e
    exact (S.pt_bool b false).mp (.inl ((S.orb_mem ha).mp hx))
  · rintro (h | h)
    · exact List.mem_map.mpr ⟨_, (S.orb_mem ha).mpr h, rfl⟩
    · exact List.mem_map.mpr ⟨_, (S.orb_mem ha).mpr h, rfl⟩
end
end MS
set_option maxHeartbeats 4000000
/-! links closed at the outer ends: strand and rings -/
namespace MS
structure Gd (m : Nat) (L : Lnk) : Prop where
  inv : ∀ e e', L e = some e' → L e' = some e
  ne : ∀ e, L e ≠ some e
  rng : ∀ e e', L e = some e' → e.1 ≤ m
  out : ∀ e : End, e.1 ≤ m → L e = none → e = (0, false) ∨ e = (m, true)
  o1 : L (0, false) = none
  o2 : L (m, true) = none
def cl (m : Nat) (L : Lnk) (e : End) : End := match L e with
  | some e' => e'
  | none => if e = (0, false) then (m, true) else if e = (m, true) then (0, false) else e
def nx (m : Nat) (L : Lnk) (e : End) : End := cl m L (fp e)
theorem cl_some {m : Nat} {L : Lnk} {e e' : End} (h : L e = some e') : cl m L e = e' := by
  unfold cl
  rw [h]
theorem cl_a {m : Nat} {L : Lnk} (h : L (0, false) = none) : cl m L (0, false) = (m, true) := by
  unfold cl
  rw [h]
  simp
theorem cl_b {m : Nat} {L : Lnk} (h : L (m, true) = none) : cl m L (m, true) = (0, false) := by
  unfold cl
  rw [h]
  simp
section
variable {m : Nat} {L : Lnk} (G : Gd m L)
include G
theorem Gd.cl_cl (e : End) (h : e.1 ≤ m) : cl m L (cl m L e) = e := by
  cases q : L e with
  | some e' => rw [cl_some q, cl_some (G.inv _ _ q)]
  | none =>
    rcases G.out e h q with rfl | rfl
    · rw [cl_a q, cl_b G.o2]
    · rw [cl_b q, cl_a G.o1]
theorem Gd.cl_cl2 (e : End) : cl m L (cl m L e) = e := by
  by_cases h : e.1 ≤ m
  · exact G.cl_cl e h
  · have q : L e = none := by
      cases q : L e with
      | none => rfl
      | some e' => exact absurd (G.rng _ _ q) h
    have n1 : e ≠ (0, false) := fun z => h (by rw [z]; exact Nat.zero_le _)
    have n2 : e ≠ (m, true) := fun z => h (by rw [z]; exact Nat.le_refl _)
    have : cl m L e = e := by
      unfold cl
      rw [q]
      simp [n1, n2]
    rw [this, this]
theorem Gd.cl_rng (e : End) (h : e.1 ≤ m) : (cl m L e).1 ≤ m := by
  cases q : L e with
  | some e' =>
    rw [cl_some q]
    exact G.rng _ _ (G.inv _ _ q)
  | none =>
    rcases G.out e h q with rfl | rfl
    · rw [cl_a q]
      exact Nat.le_refl _
    · rw [cl_b q]
      exact Nat.zero_le _
theorem Gd.cl_ne (e : End) (h : e.1 ≤ m) : cl m L e ≠ e := by
  cases q : L e with
  | some e' =>
    rw [cl_some q]
    intro z
    rw [z] at q
    exact G.ne _ q
  | none =>
    rcases G.out e h q with rfl | rfl
    · rw [cl_a q]
      simp
    · rw [cl_b q]
      simp
theorem Gd.sys : Sys m (nx m L) where
  rev x := by
    show cl m L (fp (fp (cl m L (fp x)))) = _
    rw [fp_fp, G.cl_cl2]
  rng x h := G.cl_rng (fp x) h
  nf x h := G.cl_ne (fp x) h
theorem Gd.nx_some {e y : End} (h : L (fp e) = some y) : nx m L e = y := cl_some h
/-- on the way to the outer end -/
theorem Gd.tr_out (s : End) : ∀ (d : Nat) (x : End), (∀ i, i < d → ∃ y, L (fp (pw (nx m L) i x)) = some y ∧ y ≠ s) → L (fp (pw (nx m L) d x)) = none → Tr L s x (tr (nx m L) (d + 1) x) (some (fp (pw (nx m L) d x)))
  | 0, x, _, h => Tr.out h
  | d + 1, x, hs, h => by
    obtain ⟨y, hy, ne⟩ := hs 0 (Nat.succ_pos _)
    have hy : L (fp x) = some y := hy
    have e : nx m L x = y := cl_some hy
    rw [tr_s, e]
    have := Gd.tr_out s d y (fun i hi => by
      have := hs (i + 1) (by omega)
      rwa [show pw (nx m L) (i + 1) x = pw (nx m L) i (nx m L x) from rfl, e] at this) (by
      rwa [show pw (nx m L) (d + 1) x = pw (nx m L) d (nx m L x) from rfl, e] at h)
    have e2 : pw (nx m L) (d + 1) x = pw (nx m L) d y := by
      rw [← e]
      rfl
    rw [e2]
    exact Tr.go hy ne this
theorem Gd.tr_back (s : End) : ∀ (d : Nat) (x : End), (∀ i, i < d → ∃ y, L (fp (pw (nx m L) i x)) = some y ∧ y ≠ s) → L (fp (pw (nx m L) d x)) = some s → Tr L s x (tr (nx m L) (d + 1) x) none
  | 0, x, _, h => Tr.back h
  | d + 1, x, hs, h => by
    obtain ⟨y, hy, ne⟩ := hs 0 (Nat.succ_pos _)
    have hy : L (fp x) = some y := hy
    have e : nx m L x = y := cl_some hy
    rw [tr_s, e]
    have := Gd.tr_back s d y (fun i hi => by
      have := hs (i + 1) (by omega)
      rwa [show pw (nx m L) (i + 1) x = pw (nx m L) i (nx m L x) from rfl, e] at this) (by
      rwa [show pw (nx m L) (d + 1) x = pw (nx m L) d (nx m L x) from rfl, e] at h)
    exact Tr.go hy ne this
theorem Gd.strand_none {x : End} (h : Or (nx m L) (0, false) x) (q : L (fp x) = none) : fp x = (m, true) := by
  have r : x.1 ≤ m := G.sys.or_rng (a := (0, false)) (Nat.zero_le _) h
  rcases G.out (fp x) r q with e | e
  · exfalso
    have : x = fp (0, false) := by rw [← e, fp_fp]
    rw [this] at h
    exact G.sys.no_fp (s := (0, false)) (Nat.zero_le _) h
  · exact e
theorem Gd.strand : Tr L (0, false) (0, false) (orb (nx m L) (0, false)) (some (m, true)) := by
  have P := G.sys.per (s := (0, false)) (Nat.zero_le _)
  obtain ⟨d, hd⟩ : ∃ d, prd (nx m L) (0, false) = d + 1 := ⟨prd (nx m L) (0, false) - 1, by have := P.pos; omega⟩
  unfold orb
  rw [hd] at P ⊢
  have last : L (fp (pw (nx m L) d (0, false))) = none := by
    have r := P.ret
    rw [pw_s] at r
    cases q : L (fp (pw (nx m L) d (0, false))) with
    | none => rfl
    | some y =>
      have e : nx m L (pw (nx m L) d (0, false)) = y := cl_some q
      rw [e] at r
      rw [r] at q
      have := G.inv _ _ q
      rw [G.o1] at this
      cases this
  have := G.tr_out (0, false) d (0, false) (fun i hi => by
    cases q : L (fp (pw (nx m L) i (0, false))) with
    | none =>
      exfalso
      have e := G.strand_none ⟨i, rfl⟩ q
      have : pw (nx m L) (i + 1) (0, false) = (0, false) := by
        rw [pw_s]
        show cl m L (fp (pw (nx m L) i (0, false))) = _
        rw [e, cl_b G.o2]
      exact P.min (i + 1) (by omega) (by omega) this
    | some y =>
      refine ⟨y, rfl, fun e => ?_⟩
      have e2 : nx m L (pw (nx m L) i (0, false)) = y := cl_some q
      rw [← pw_s (nx m L) i (0, false), e] at e2
      exact P.min (i + 1) (by omega) (by omega) e2) last
  rw [G.strand_none ⟨d, rfl⟩ last] at this
  exact this
theorem Gd.to_end : Pt (nx m L) (0, false) (m, true) := by
  have h : nx m L (fp (0, false)) = (m, true) := by
    show cl m L (fp (fp (0, false))) = _
    rw [fp_fp, cl_a G.o1]
  have := G.sys.or_fp (s := fp (0, false)) (x := (m, true)) (Nat.zero_le _) ⟨1, h⟩
  rw [fp_fp] at this
  exact .inr this
theorem Gd.ring_some {s x : End} (hs : s.1 ≤ m) (n : ¬ Pt (nx m L) (0, false) s) (h : Or (nx m L) s x) : L (fp x) ≠ none := by
  intro q
  have r := G.sys.or_rng hs h
  have ps : Pt (nx m L) s (fp x) := .inr (by rw [fp_fp]; exact h)
  have sp := G.sys.pt_symm hs ps
  rcases G.out (fp x) r q with e | e
  · rw [e] at sp
    exact n sp
  · rw [e] at sp
    exact n (G.sys.pt_trans (a := (0, false)) (b := (m, true)) (Nat.zero_le _) (Nat.le_refl _) G.to_end sp)
theorem Gd.ring {s : End} (hs : s.1 ≤ m) (n : ¬ Pt (nx m L) (0, false) s) : Tr L s s (orb (nx m L) s) none := by
  have P := G.sys.per hs
  obtain ⟨d, hd⟩ : ∃ d, prd (nx m L) s = d + 1 := ⟨prd (nx m L) s - 1, by have := P.pos; omega⟩
  unfold orb
  rw [hd] at P ⊢
  refine G.tr_back s d s (fun i hi => ?_) ?_
  · cases q : L (fp (pw (nx m L) i s)) with
    | none => exact absurd q (G.ring_some hs n ⟨i, rfl⟩)
    | some y =>
      refine ⟨y, rfl, fun e => ?_⟩
      have e2 : nx m L (pw (nx m L) i s) = y := cl_some q
      rw [← pw_s (nx m L) i s, e] at e2
      exact P.min (i + 1) (by omega) (by omega) e2
  · cases q : L (fp (pw (nx m L) d s)) with
    | none => exact absurd q (G.ring_some hs n ⟨d, rfl⟩)
    | some y =>
      have e2 : nx m L (pw (nx m L) d s) = y := cl_some q
      rw [← pw_s (nx m L) d s, P.ret] at e2
      rw [e2]
theorem Gd.rg_ex (hm : m ≤ 400) : ∀ (is seen : List Nat), (∀ i ∈ is, i ≤ m) → (∀ i ∈ seen, i ≤ m) → (∀ i ∈ seen, ∀ j, Pt (nx m L) (i, false) (j, false) → j ∈ seen) → 0 ∈ seen → seen.Nodup →
    ∃ A : List Nat, Rg L seen is (A.map fun i => orb (nx m L) (i, false)) ∧ (∀ i ∈ A, i ∈ is ∧ i ∉ seen) ∧ A.Pairwise (fun i j => ¬ Pt (nx m L) (i, false) (j, false)) ∧ (∀ i ∈ is, i ∈ seen ∨ ∃ a ∈ A, Pt (nx m L) (a, false) (i, false)) ∧ (seen ++ (A.map fun i => (orb (nx m L) (i, false)).map (·.1)).flatten).Nodup
  | [], seen, _, _, _, _, nd => ⟨[], .nil, fun _ h => (nomatch h), .nil, fun _ h => (nomatch h), by simpa using nd⟩
  | i :: is, seen, hi, hs, cs, h0, nd => by
    have S := G.sys
    by_cases h : i ∈ seen
    · obtain ⟨A, r1, r2, r3, r4, r5⟩ := Gd.rg_ex hm is seen (fun j hj => hi j (List.mem_cons_of_mem _ hj)) hs cs h0 nd
      refine ⟨A, .skip h r1, fun j hj => ⟨List.mem_cons_of_mem _ (r2 j hj).1, (r2 j hj).2⟩, r3, fun j hj => ?_, r5⟩
      rcases List.mem_cons.mp hj with rfl | hj
      · exact .inl h
      · exact r4 j hj
    · have im : ((i, false) : End).1 ≤ m := hi i List.mem_cons_self
      have mo : ∀ j, j ∈ (orb (nx m L) (i, false)).map (·.1) ↔ Pt (nx m L) (i, false) (j, false) := fun j => S.pt_orb im
      have nst : ¬ Pt (nx m L) (0, false) (i, false) := fun p => h (cs 0 h0 i p)
      have dis : ∀ j ∈ seen, ¬ Pt (nx m L) (i, false) (j, false) := fun j hj p => h (cs j hj i (S.pt_symm im p))
      obtain ⟨A, r1, r2, r3, r4, r5⟩ := Gd.rg_ex hm is (seen ++ (orb (nx m L) (i, false)).map (·.1)) (fun j hj => hi j (List.mem_cons_of_mem _ hj)) (fun j hj => by
          rcases List.mem_append.mp hj with hj | hj
          · exact hs j hj
          · exact S.pt_rng (b := (j, false)) im ((mo j).mp hj)) (fun j hj k p => by
          rcases List.mem_append.mp hj with hj | hj
          · exact List.mem_append_left _ (cs j hj k p)
          · have := (mo j).mp hj
            exact List.mem_append_right _ ((mo k).mpr (S.pt_trans im (S.pt_rng (b := (j, false)) im this) this p))) (List.mem_append_left _ h0) (by
          refine List.nodup_append.mpr ⟨nd, S.orb_fst im, fun a ha b hb e => ?_⟩
          subst e
          exact dis a ha ((mo a).mp hb))
      refine ⟨i :: A, .walk h (G.ring im nst) ?_ ?_ r1, ?_, ?_, ?_, ?_⟩
      · unfold orb
        rw [tr_len]
        have := S.per_le im
        omega
      · intro e he
        exact G.ring_some im nst ((S.orb_mem im).mp he)
      · intro j hj
        rcases List.mem_cons.mp hj with rfl | hj
        · exact ⟨List.mem_cons_self, h⟩
        · exact ⟨List.mem_cons_of_mem _ (r2 j hj).1, fun z => (r2 j hj).2 (List.mem_append_left _ z)⟩
      · refine List.pairwise_cons.mpr ⟨fun a ha p => (r2 a ha).2 (List.mem_append_right _ ((mo a).mpr p)), r3⟩
      · intro j hj
        rcases List.mem_cons.mp hj with rfl | hj
        · exact .inr ⟨j, List.mem_cons_self, S.pt_refl _⟩
        · rcases r4 j hj with z | ⟨a, ha, p⟩
          · rcases List.mem_append.mp z with z | z
            · exact .inl z
            · exact .inr ⟨i, List.mem_cons_self, (mo j).mp z⟩
          · exact .inr ⟨a, List.mem_cons_of_mem _ ha, p⟩
      · rw [List.map_cons, List.flatten_cons, ← List.append_assoc]
        exact r5
end
end MS
set_option maxHeartbeats 4000000
/-! the links of marks in pairs -/
namespace MS
def Pa (M : List Mk1) : Prop := ∀ m ∈ M, Pd M m.1
theorem idx_nd (M : List Mk1) : (idx M).Nodup := by
  have : (idx M).map (·.1) = (List.range M.length).map id := by
    unfold idx
    apply List.ext_getElem?
    intro i
    simp
    cases h : M[i]? with
    | none => simp at h; simp [h]
    | some x =>
      have := (List.getElem?_eq_some_iff.mp h).1
      simp [this]
  have nd : ((idx M).map (·.1)).Nodup := by
    rw [this]
    exact nodup_range fun i j _ _ e => e
  generalize idx M = l at *
  induction l with
  | nil => exact List.nodup_nil
  | cons x l ih =>
    rw [List.map_cons, List.nodup_cons] at nd
    refine List.nodup_cons.mpr ⟨fun h => nd.1 (List.mem_map.mpr ⟨x, h, rfl⟩), ?_⟩
    have nd2 := nd.2
    clear ih this nd
    induction l with
    | nil => exact List.nodup_nil
    | cons y l ih =>
      rw [List.map_cons, List.nodup_cons] at nd2
      exact List.nodup_cons.mpr ⟨fun h => nd2.1 (List.mem_map.mpr ⟨y, h, rfl⟩), ih nd2.2⟩
theorem pd_of {M : List Mk1} {n : List Nat} {f s : Nat} {u v : Bool} (fs : f ≠ s) (hf : M[f]? = some (n, u)) (hs : M[s]? = some (n, v)) (h : ∀ g w, M[g]? = some (n, w) → g = f ∨ g = s) : Pd M n := by
  have nd : (occ M n).Nodup := List.Nodup.sublist List.filter_sublist (idx_nd M)
  have mem : ∀ x, x ∈ occ M n ↔ x ∈ [(f, (n, u)), (s, (n, v))] := by
    rintro ⟨g, n', w⟩
    rw [occ_mem]
    constructor
    · rintro ⟨h1, h2⟩
      simp only at h1 h2
      subst h2
      rcases h g w h1 with rfl | rfl
      · rw [hf] at h1
        have := Option.some.inj h1
        simp [this]
      · rw [hs] at h1
        have := Option.some.inj h1
        simp [this]
    · intro hx
      rcases List.mem_cons.mp hx with e | hx
      · rw [e]
        exact ⟨hf, rfl⟩
      · rw [List.mem_singleton.mp hx]
        exact ⟨hs, rfl⟩
  have p := perm_nd nd (by simp [fs]) mem
  have l := p.length_eq
  match e : occ M n, l with
  | [a, b], _ =>
    rw [e] at nd mem
    have ha := (mem a).mp List.mem_cons_self
    have hb := (mem b).mp (List.mem_cons_of_mem _ List.mem_cons_self)
    have ab : a ≠ b := by simpa using nd
    simp at ha hb
    rcases ha with rfl | rfl
    · rcases hb with rfl | rfl
      · exact absurd rfl ab
      · exact ⟨f, s, u, v, e, fs⟩
    · rcases hb with rfl | rfl
      · exact ⟨s, f, v, u, e, fs.symm⟩
      · exact absurd rfl ab
theorem mate_ex {M : List Mk1} (pa : Pa M) {g : Nat} {n : List Nat} {u : Bool} (h : M[g]? = some (n, u)) : ∃ q v, g ≠ q ∧ M[q]? = some (n, v) ∧ mate M g n = some (q, v) ∧ mate M q n = some (g, u) := by
  obtain ⟨f, s, u', v', ho, fs⟩ := (pa (n, u) (List.mem_of_getElem? h)).ex
  have m1 : (g, (n, u)) ∈ occ M n := occ_mem.mpr ⟨h, rfl⟩
  have hf : M[f]? = some (n, u') := (occ_mem.mp (show (f, (n, u')) ∈ occ M n by rw [show occ M n = _ from ho]; exact List.mem_cons_self)).1
  have hs : M[s]? = some (n, v') := (occ_mem.mp (show (s, (n, v')) ∈ occ M n by rw [show occ M n = _ from ho]; exact List.mem_cons_of_mem _ List.mem_cons_self)).1
  have ho : occ M n = _ := ho
  rw [ho] at m1
  have sf : s ≠ f := fs.symm
  rcases List.mem_cons.mp m1 with e | m1
  · simp only [Prod.mk.injEq, true_and] at e
    obtain ⟨rfl, rfl⟩ := e
    exact ⟨s, v', fs, hs, by simp [mate, ho], by simp [mate, ho, fs]⟩
  · have e := List.mem_singleton.mp m1
    simp only [Prod.mk.injEq, true_and] at e
    obtain ⟨rfl, rfl⟩ := e
    exact ⟨f, u', sf, hf, by simp [mate, ho, fs], by simp [mate, ho]⟩
theorem mate_uniq {M : List Mk1} (pa : Pa M) {g q : Nat} {n : List Nat} {u v : Bool} (h : M[g]? = some (n, u)) (hq : M[q]? = some (n, v)) (ne : g ≠ q) : mate M g n = some (q, v) := by
  obtain ⟨f, s, u', v', ho, fs⟩ := (pa (n, u) (List.mem_of_getElem? h)).ex
  have m1 : (g, (n, u)) ∈ occ M n := occ_mem.mpr ⟨h, rfl⟩
  have m2 : (q, (n, v)) ∈ occ M n := occ_mem.mpr ⟨hq, rfl⟩
  have ho : occ M n = _ := ho
  rw [ho] at m1 m2
  simp at m1 m2
  rcases m1 with ⟨rfl, rfl⟩ | ⟨rfl, rfl⟩ <;> rcases m2 with ⟨rfl, rfl⟩ | ⟨rfl, rfl⟩
  · exact absurd rfl ne
  · simp [mate, ho]
  · simp [mate, ho, ne.symm]
  · exact absurd rfl ne
theorem bef_2 (g : Nat) (u : Bool) : (bef g u).2 = u := by cases u <;> rfl
theorem aft_2 (g : Nat) (u : Bool) : (aft g u).2 = !u := by cases u <;> rfl
theorem mkAt_of {M : List Mk1} {e : End} {g : Nat} {m : Mk1} (h1 : gapOf e = some g) (h2 : M[g]? = some m) : mkAt M e = some (g, m) := by
  unfold mkAt
  rw [h1]
  show M[g]?.map _ = _
  rw [h2]
  rfl
theorem lk_bef {M : List Mk1} {g q : Nat} {n : List Nat} {u v : Bool} (h : M[g]? = some (n, u)) (hm : mate M g n = some (q, v)) : Lk M (bef g u) = some (aft q v) := by
  unfold Lk
  rw [mkAt_of (gap_bef g u) h]
  simp [hm, bef_2]
theorem lk_aft {M : List Mk1} {g q : Nat} {n : List Nat} {u v : Bool} (h : M[g]? = some (n, u)) (hm : mate M g n = some (q, v)) : Lk M (aft g u) = some (bef q v) := by
  unfold Lk
  rw [mkAt_of (gap_aft g u) h]
  simp [hm, aft_2]
/-- two marks of one name -/
def Lr (M : List Mk1) (e e' : End) : Prop := ∃ g q n u v, g ≠ q ∧ M[g]? = some (n, u) ∧ M[q]? = some (n, v) ∧ ((e = bef g u ∧ e' = aft q v) ∨ (e = aft g u ∧ e' = bef q v))
theorem Lr.lk {M : List Mk1} (pa : Pa M) {e e' : End} (h : Lr M e e') : Lk M e = some e' := by
  obtain ⟨g, q, n, u, v, ne, h1, h2, ⟨rfl, rfl⟩ | ⟨rfl, rfl⟩⟩ := h
  · exact lk_bef h1 (mate_uniq pa h1 h2 ne)
  · exact lk_aft h1 (mate_uniq pa h1 h2 ne)
theorem Lr.symm {M : List Mk1} {e e' : End} (h : Lr M e e') : Lr M e' e := by
  obtain ⟨g, q, n, u, v, ne, h1, h2, ⟨rfl, rfl⟩ | ⟨rfl, rfl⟩⟩ := h
  · exact ⟨q, g, n, v, u, ne.symm, h2, h1, .inr ⟨rfl, rfl⟩⟩
  · exact ⟨q, g, n, v, u, ne.symm, h2, h1, .inl ⟨rfl, rfl⟩⟩
theorem gap_some {e : End} {g : Nat} (h : gapOf e = some g) : e = (g, true) ∨ e = (g + 1, false) := by
  rcases bef_or true h with ⟨e1, _⟩ | ⟨e1, _⟩
  · exact .inl e1
  · exact .inr e1
theorem lk_ex {M : List Mk1} (pa : Pa M) {e : End} {g : Nat} (h : gapOf e = some g) (hg : g < M.length) : ∃ e', Lr M e e' := by
  obtain ⟨n, u, q⟩ : ∃ n u, M[g]? = some (n, u) := ⟨_, _, List.getElem?_eq_getElem hg⟩
  obtain ⟨q', v, ne, h2, _⟩ := mate_ex pa q
  rcases bef_or u h with ⟨e1, _⟩ | ⟨e1, _⟩
  · exact ⟨_, g, q', n, u, v, ne, q, h2, .inl ⟨e1, rfl⟩⟩
  · exact ⟨_, g, q', n, u, v, ne, q, h2, .inr ⟨e1, rfl⟩⟩
theorem lk_lr {M : List Mk1} (pa : Pa M) {e e' : End} (h : Lk M e = some e') : Lr M e e' := by
  cases hg : gapOf e with
  | none =>
    have : mkAt M e = none := by unfold mkAt; rw [hg]; rfl
    unfold Lk at h
    rw [this] at h
    cases h
  | some g =>
    by_cases l : g < M.length
    · obtain ⟨e2, h2⟩ := lk_ex pa hg l
      have := h2.lk pa
      rw [h] at this
      rw [Option.some.inj this]
      exact h2
    · have : mkAt M e = none := by
        unfold mkAt
        rw [hg]
        show M[g]?.map _ = _
        rw [List.getElem?_eq_none (by omega)]
        rfl
      unfold Lk at h
      rw [this] at h
      cases h
theorem bef_rng {g m : Nat} (u : Bool) (h : g < m) : (bef g u).1 ≤ m := by cases u <;> simp [bef] <;> omega
theorem aft_rng {g m : Nat} (u : Bool) (h : g < m) : (aft g u).1 ≤ m := by cases u <;> simp [aft] <;> omega
theorem gd_of {M : List Mk1} (pa : Pa M) : Gd M.length (Lk M) where
  inv e e' h := (lk_lr pa h).symm.lk pa
  ne e h := by
    obtain ⟨g, q, n, u, v, ne, h1, h2, ⟨h3, h4⟩ | ⟨h3, h4⟩⟩ := lk_lr pa h
    · have := congrArg gapOf (h3.symm.trans h4)
      rw [gap_bef, gap_aft] at this
      exact ne (Option.some.inj this)
    · have := congrArg gapOf (h3.symm.trans h4)
      rw [gap_bef, gap_aft] at this
      exact ne (Option.some.inj this)
  rng e e' h := by
    obtain ⟨g, q, n, u, v, ne, h1, h2, ⟨h3, h4⟩ | ⟨h3, h4⟩⟩ := lk_lr pa h
    · rw [h3]
      exact bef_rng u (List.getElem?_eq_some_iff.mp h1).1
    · rw [h3]
      exact aft_rng u (List.getElem?_eq_some_iff.mp h1).1
  out e h q := by
    cases hg : gapOf e with
    | none =>
      obtain ⟨i, s⟩ := e
      cases s
      · simp [gapOf] at hg
        simp [hg]
      · simp [gapOf] at hg
    | some g =>
      have : ¬ g < M.length := fun l => by
        obtain ⟨e2, h2⟩ := lk_ex pa hg l
        rw [h2.lk pa] at q
        cases q
      rcases gap_some hg with rfl | rfl
      · have : g = M.length := by
          have : g ≤ M.length := h
          omega
        rw [this]
        exact .inr rfl
      · have : g + 1 ≤ M.length := h
        omega
  o1 := by simp [Lk, mkAt, gapOf]
  o2 := by simp [Lk, mkAt, gapOf]
/-! the other side -/
def mir (m : Nat) (e : End) : End := (m - e.1, !e.2)
def mirM (M : List Mk1) : List Mk1 := M.reverse.map fun x => (x.1, !x.2)
theorem mirM_len (M : List Mk1) : (mirM M).length = M.length := by simp [mirM]
theorem mir_mir {m : Nat} {e : End} (h : e.1 ≤ m) : mir m (mir m e) = e := by
  obtain ⟨i, s⟩ := e
  have h : i ≤ m := h
  simp [mir]
  omega
theorem mir_fp (m : Nat) (e : End) : mir m (fp e) = fp (mir m e) := rfl
theorem mirM_at {M : List Mk1} {g : Nat} {n : List Nat} {u : Bool} (h : M[g]? = some (n, u)) : (mirM M)[M.length - 1 - g]? = some (n, !u) := by
  have l := (List.getElem?_eq_some_iff.mp h).1
  unfold mirM
  rw [List.getElem?_map, List.getElem?_reverse (by omega), show M.length - 1 - (M.length - 1 - g) = g by omega, h]
  rfl
theorem mir_bef {g m : Nat} (u : Bool) (h : g < m) : mir m (bef g u) = bef (m - 1 - g) (!u) := by
  cases u <;> simp [mir, bef] <;> omega
theorem mir_aft {g m : Nat} (u : Bool) (h : g < m) : mir m (aft g u) = aft (m - 1 - g) (!u) := by
  cases u <;> simp [mir, aft] <;> omega
theorem Lr.mir {M : List Mk1} {e e' : End} (h : Lr M e e') : Lr (mirM M) (mir M.length e) (mir M.length e') := by
  obtain ⟨g, q, n, u, v, ne, h1, h2, h3⟩ := h
  have l1 := (List.getElem?_eq_some_iff.mp h1).1
  have l2 := (List.getElem?_eq_some_iff.mp h2).1
  refine ⟨M.length - 1 - g, M.length - 1 - q, n, !u, !v, by omega, mirM_at h1, mirM_at h2, ?_⟩
  rcases h3 with ⟨rfl, rfl⟩ | ⟨rfl, rfl⟩
  · exact .inl ⟨mir_bef u l1, mir_aft v l2⟩
  · exact .inr ⟨mir_aft u l1, mir_bef v l2⟩
theorem mir_nx {M : List Mk1} (pa : Pa M) (pa' : Pa (mirM M)) {e : End} (h : e.1 ≤ M.length) : nx M.length (Lk (mirM M)) (mir M.length e) = mir M.length (nx M.length (Lk M) e) := by
  have G := gd_of pa
  have G' := gd_of pa'
  rw [mirM_len] at G'
  show cl M.length (Lk (mirM M)) (mir M.length (fp e)) = mir M.length (cl M.length (Lk M) (fp e))
  generalize hx : fp e = x
  have hr : x.1 ≤ M.length := by rw [← hx]; exact h
  cases q : Lk M x with
  | some y => rw [cl_some q, cl_some ((lk_lr pa q).mir.lk pa')]
  | none =>
    rcases G.out x hr q with rfl | rfl
    · rw [cl_a q]
      have : mir M.length (0, false) = (M.length, true) := by simp [mir]
      rw [this, cl_b G'.o2]
      simp [mir]
    · rw [cl_b q]
      have : mir M.length (M.length, true) = (0, false) := by simp [mir]
      rw [this, cl_a G'.o1]
      simp [mir]
end MS
set_option maxHeartbeats 4000000
/-! the scrambled row -/
namespace MS
def mks : List It → List Mk1
  | [] => []
  | .pc _ :: xs => mks xs
  | .mk n u :: xs => (n, u) :: mks xs
def hd1 (P : List (List Nat)) : List Nat := P.headD []
def pcs : List It → List (List Nat)
  | [] => [[]]
  | .pc a :: xs => (a ++ hd1 (pcs xs)) :: (pcs xs).tail
  | .mk _ _ :: xs => [] :: pcs xs
theorem mks_app (a b : List It) : mks (a ++ b) = mks a ++ mks b := by
  induction a with
  | nil => rfl
  | cons x a ih => cases x <;> simp [mks, ih]
theorem pcs_len : ∀ xs : List It, (pcs xs).length = (mks xs).length + 1
  | [] => rfl
  | .pc a :: xs => by
    have := pcs_len xs
    simp only [pcs, mks, List.length_cons, List.length_tail]
    omega
  | .mk n u :: xs => by
    have := pcs_len xs
    simp only [pcs, mks, List.length_cons]
    omega
theorem pcs_hd (xs : List It) : pcs xs = hd1 (pcs xs) :: (pcs xs).tail := by
  have := pcs_len xs
  match h : pcs xs, this with
  | a :: l, _ => rfl
inductive Safe : List It → Prop where
  | nil : Safe []
  | pc {a : List Nat} {xs : List It} (h : Safe xs) : Safe (.pc a :: xs)
  | mk {n : List Nat} {u : Bool} {a : List Nat} {xs : List It} (h : Safe xs) : Safe (.mk n u :: .pc a :: xs)
theorem mg_row {xs : List It} (h : Safe xs) : ∀ (acc : List It) (a : List Nat), xs.foldl mg (acc ++ [.pc a]) = acc ++ row ((a ++ hd1 (pcs xs)) :: (pcs xs).tail) (mks xs) := by
  induction h with
  | nil =>
    intro acc a
    simp [pcs, hd1, mks, row]
  | pc h ih =>
    intro acc a
    rename_i b xs
    rw [List.foldl_cons, mg_pp, ih]
    simp [pcs, mks, hd1]
  | mk h ih =>
    intro acc a
    rename_i n u b xs
    rw [List.foldl_cons, mg_pm, List.foldl_cons, mg_mx, ih]
    simp [pcs, mks, hd1, row]
theorem mgs_row {a : List Nat} {xs : List It} (h : Safe xs) : mgs (.pc a :: xs) = row (pcs (.pc a :: xs)) (mks (.pc a :: xs)) := by
  unfold mgs
  rw [List.foldl_cons, mg_nil]
  have := mg_row h [] a
  rw [List.nil_append, List.nil_append] at this
  rw [this]
  rfl
/-- letters -/
def lets : List It → List Nat
  | [] => []
  | .pc a :: xs => a ++ lets xs
  | .mk _ _ :: xs => lets xs
theorem lets_app (a b : List It) : lets (a ++ b) = lets a ++ lets b := by
  induction a with
  | nil => rfl
  | cons x a ih => cases x <;> simp [lets, ih]
theorem pcs_flat : ∀ xs : List It, (pcs xs).flatten = lets xs
  | [] => rfl
  | .pc a :: xs => by
    have := pcs_flat xs
    rw [pcs_hd xs, List.flatten_cons] at this
    simp only [pcs, lets, List.flatten_cons]
    rw [← this, List.append_assoc]
  | .mk n u :: xs => by
    simp only [pcs, lets, List.flatten_cons, List.nil_append]
    exact pcs_flat xs
/-- the block of a segment -/
def bL (c : Cut) (k : Nat) : List It := if c.F.getD k false = true then (if k + 1 < c.S.length then [.mk (c.N.getD k []) false] else []) else (if 0 < k then [.mk (c.N.getD (k - 1) []) true] else [])
def bR (c : Cut) (k : Nat) : List It := if c.F.getD k false = true then (if 0 < k then [.mk (c.N.getD (k - 1) []) false] else []) else (if k + 1 < c.S.length then [.mk (c.N.getD k []) true] else [])
def bT (c : Cut) (k : Nat) : List Nat := if c.F.getD k false = true then fl (c.S.getD k []) else c.S.getD k []
theorem bl_eq (c : Cut) (k : Nat) : bl c k = bL c k ++ .pc (bT c k) :: bR c k := by
  unfold bl bL bR bT blk
  cases h : c.F.getD k false
  · rfl
  · simp only [if_true]
    split <;> split <;> simp [flI]
theorem safe_bl (c : Cut) (k : Nat) (q : List Nat) {xs : List It} (h : Safe xs) : Safe (bl c k ++ .pc q :: xs) := by
  rw [bl_eq]
  unfold bL bR
  split <;> split <;> split <;> first
    | exact .mk (.mk h)
    | exact .mk (.pc h)
    | exact .pc (.mk h)
    | exact .pc (.pc h)
theorem safe_fm (c : Cut) : ∀ l : List (Nat × List Nat), Safe (l.flatMap (blq c))
  | [] => .nil
  | (k, q) :: l => by
    rw [List.flatMap_cons]
    show Safe (bl c k ++ [.pc q] ++ _)
    rw [List.append_assoc]
    exact safe_bl c k q (safe_fm c l)
abbrev cP (c : Cut) : List (List Nat) := pcs (its c)
abbrev cM (c : Cut) : List Mk1 := mks (its c)
theorem its_row (c : Cut) : mgs (its c) = row (cP c) (cM c) := mgs_row (safe_fm c _)
def bm (c : Cut) (k : Nat) : List Mk1 := mks (bl c k)
theorem mks_fm (c : Cut) : ∀ (O : List Nat) (Q : List (List Nat)), O.length ≤ Q.length → mks ((O.zip Q).flatMap (blq c)) = O.flatMap (bm c)
  | [], _, _ => rfl
  | k :: O, [], h => nomatch h
  | k :: O, q :: Q, h => by
    show mks (bl c k ++ [.pc q] ++ (O.zip Q).flatMap (blq c)) = _
    rw [mks_app, mks_app, mks_fm c O Q (by simpa using h), List.flatMap_cons]
    simp [mks, bm]
section
variable {c : Cut} (ok : okC c)
include ok
theorem cM_eq : cM c = c.O.flatMap (bm c) := by
  show mks ((c.O.zip (c.Q.drop 1)).flatMap (blq c)) = _
  refine mks_fm c _ _ ?_
  rw [List.length_drop, ok.o1, ok.q]
  omega
end
/-! places in a joined list -/
section
variable {α β : Type} (f : α → List β)
theorem fm_get {l : List α} {j : Nat} {a : α} (h : l[j]? = some a) {i : Nat} (hi : i < (f a).length) : (l.flatMap f)[((l.take j).flatMap f).length + i]? = (f a)[i]? := by
  have e : l = l.take j ++ a :: l.drop (j + 1) := by
    obtain ⟨hj, ha⟩ := List.getElem?_eq_some_iff.mp h
    rw [← ha, ← List.drop_eq_getElem_cons hj, List.take_append_drop]
  have e2 : l.flatMap f = (l.take j).flatMap f ++ (f a ++ (l.drop (j + 1)).flatMap f) := by
    rw [show l.flatMap f = (l.take j ++ a :: l.drop (j + 1)).flatMap f by rw [← e], List.flatMap_append, List.flatMap_cons]
  rw [e2, List.getElem?_append_right (by omega), List.getElem?_append_left (by omega)]
  congr 1
  omega
theorem fm_inv : ∀ {l : List α} {g : Nat} {y : β}, (l.flatMap f)[g]? = some y → ∃ j a i, l[j]? = some a ∧ i < (f a).length ∧ g = ((l.take j).flatMap f).length + i ∧ (f a)[i]? = some y
  | [], g, y, h => by simp at h
  | a :: l, g, y, h => by
    rw [List.flatMap_cons] at h
    by_cases q : g < (f a).length
    · rw [List.getElem?_append_left q] at h
      exact ⟨0, a, g, rfl, q, by simp, h⟩
    · rw [List.getElem?_append_right (by omega)] at h
      obtain ⟨j, b, i, h1, h2, h3, h4⟩ := fm_inv h
      refine ⟨j + 1, b, i, h1, h2, ?_, h4⟩
      rw [List.take_succ_cons, List.flatMap_cons, List.length_append]
      omega
theorem fm_mono {l : List α} {j j' : Nat} {a : α} (h : l[j]? = some a) (lt : j < j') : ((l.take j).flatMap f).length + (f a).length ≤ ((l.take j').flatMap f).length := by
  have e : l.take j' = l.take j ++ a :: (l.take j').drop (j + 1) := by
    have h' : (l.take j')[j]? = some a := by
      rw [List.getElem?_take_of_lt lt]
      exact h
    obtain ⟨hj, ha⟩ := List.getElem?_eq_some_iff.mp h'
    have : l.take j = (l.take j').take j := by rw [List.take_take, Nat.min_eq_left (by omega)]
    rw [this, ← ha, ← List.drop_eq_getElem_cons hj, List.take_append_drop]
  rw [e, List.flatMap_append, List.flatMap_cons, List.length_append, List.length_append]
  omega
theorem fm_uniq {l : List α} {j j' i i' : Nat} {a a' : α} (h : l[j]? = some a) (h' : l[j']? = some a') (hi : i < (f a).length) (hi' : i' < (f a').length) (e : ((l.take j).flatMap f).length + i = ((l.take j').flatMap f).length + i') : j = j' := by
  rcases Nat.lt_trichotomy j j' with q | q | q
  · have := fm_mono f h q
    omega
  · exact q
  · have := fm_mono f h' q
    omega
end
section
variable {c : Cut} (ok : okC c)
include ok
theorem O_ex {k : Nat} (h : k < c.S.length) : ∃ j : Nat, c.O[j]? = some k := by
  by_cases m : k ∈ c.O
  · exact List.getElem?_of_mem m
  · exfalso
    have := nd_len (l := k :: c.O) (X := List.range c.S.length) (List.nodup_cons.mpr ⟨m, ok.o3⟩) fun x hx => by
      rw [List.mem_range]
      rcases List.mem_cons.mp hx with rfl | hx
      · exact h
      · exact ok.o2 x hx
    rw [List.length_cons, List.length_range, ok.o1] at this
    omega
end
def Jk (c : Cut) (k : Nat) : Nat := c.O.idxOf k
def bk (c : Cut) (k : Nat) : Nat := ((c.O.take (Jk c k)).flatMap (bm c)).length
def xi (c : Cut) (k : Nat) : Nat := if c.F.getD k false = true then 0 else if 0 < k then 1 else 0
def ni (c : Cut) (k : Nat) : Nat := if c.F.getD k false = true then (if k + 1 < c.S.length then 1 else 0) else 0
def pk (c : Cut) (k : Nat) : Nat := bk c k + (bL c k).length
def ek (c : Cut) (k : Nat) : End := (pk c k, c.F.getD k false)
theorem bm_x {c : Cut} {k : Nat} (h : k + 1 < c.S.length) : (bm c k)[xi c k]? = some (c.N.getD k [], !c.F.getD k false) := by
  unfold bm xi
  rw [bl_eq]
  unfold bL bR
  cases q : c.F.getD k false
  · simp only [h, if_true, Bool.false_eq_true, if_false]
    split <;> simp [mks]
  · simp only [if_true, h]
    simp [mks]
theorem bm_n {c : Cut} {k : Nat} (h : 0 < k) : (bm c k)[ni c k]? = some (c.N.getD (k - 1) [], !c.F.getD k false) := by
  unfold bm ni
  rw [bl_eq]
  unfold bL bR
  cases q : c.F.getD k false
  · simp only [h, if_true, Bool.false_eq_true, if_false]
    simp [mks]
  · simp only [if_true, h]
    split <;> simp [mks]
theorem bm_inv {c : Cut} {a i : Nat} {m : Mk1} (h : (bm c a)[i]? = some m) : (a + 1 < c.S.length ∧ i = xi c a ∧ m.1 = c.N.getD a []) ∨ (0 < a ∧ i = ni c a ∧ m.1 = c.N.getD (a - 1) []) := by
  unfold bm at h
  rw [bl_eq] at h
  unfold xi ni
  unfold bL bR at h
  cases q : c.F.getD a false
  · simp only [q, Bool.false_eq_true, if_false] at h ⊢
    by_cases h1 : a + 1 < c.S.length <;> by_cases h2 : 0 < a <;> simp only [h1, h2, if_true, if_false] at h ⊢ <;> (rcases i with _ | _ | i <;> simp [mks] at h <;> simp [← h])
  · simp only [q, if_true] at h ⊢
    by_cases h1 : a + 1 < c.S.length <;> by_cases h2 : 0 < a <;> simp only [h1, h2, if_true, if_false] at h ⊢ <;> (rcases i with _ | _ | i <;> simp [mks] at h <;> simp [← h])
section
variable {c : Cut} (ok : okC c)
include ok
theorem Jk_at {k : Nat} (h : k < c.S.length) : c.O[Jk c k]? = some k := by
  obtain ⟨j, hj⟩ := O_ex ok h
  have m : k ∈ c.O := List.mem_of_getElem? hj
  unfold Jk
  have l := List.idxOf_lt_length_of_mem m
  rw [List.getElem?_eq_getElem l]
  congr 1
  exact List.getElem_idxOf l
theorem M_x {k : Nat} (h : k + 1 < c.S.length) : (cM c)[bk c k + xi c k]? = some (c.N.getD k [], !c.F.getD k false) := by
  rw [cM_eq ok]
  have e := bm_x h
  rw [← e]
  exact fm_get (bm c) (Jk_at ok (by omega)) (List.getElem?_eq_some_iff.mp e).1
theorem M_n {k : Nat} (h : 0 < k) (h2 : k < c.S.length) : (cM c)[bk c k + ni c k]? = some (c.N.getD (k - 1) [], !c.F.getD k false) := by
  rw [cM_eq ok]
  have e := bm_n (c := c) h
  rw [← e]
  exact fm_get (bm c) (Jk_at ok h2) (List.getElem?_eq_some_iff.mp e).1
theorem N_inj {i j : Nat} (hi : i < c.N.length) (hj : j < c.N.length) (h : c.N.getD i [] = c.N.getD j []) : i = j := by
  have e1 := get_getD (d := ([] : List Nat)) hi
  have e2 := get_getD (d := ([] : List Nat)) hj
  rw [h] at e1
  exact nodup_get ok.n3 e1 e2
theorem M_inv {g : Nat} {m : Mk1} (h : (cM c)[g]? = some m) : ∃ k, k + 1 < c.S.length ∧ m.1 = c.N.getD k [] ∧ (g = bk c k + xi c k ∨ g = bk c (k + 1) + ni c (k + 1)) := by
  rw [cM_eq ok] at h
  obtain ⟨j, a, i, h1, h2, h3, h4⟩ := fm_inv (bm c) h
  have ha : a < c.S.length := ok.o2 a (List.mem_of_getElem? h1)
  have ej : j = Jk c a := nodup_get ok.o3 h1 (Jk_at ok ha)
  subst ej
  rcases bm_inv h4 with ⟨q1, q2, q3⟩ | ⟨q1, q2, q3⟩
  · exact ⟨a, q1, q3, .inl (by rw [h3, q2]; rfl)⟩
  · obtain ⟨b, rfl⟩ : ∃ b, a = b + 1 := ⟨a - 1, by omega⟩
    exact ⟨b, ha, q3, .inr (by rw [h3, q2]; rfl)⟩
theorem x_ne_n {k : Nat} (h : k + 1 < c.S.length) : bk c k + xi c k ≠ bk c (k + 1) + ni c (k + 1) := by
  intro e
  have a1 := Jk_at ok (k := k) (by omega)
  have a2 := Jk_at ok h
  have := fm_uniq (bm c) a1 a2 (List.getElem?_eq_some_iff.mp (bm_x h)).1 (List.getElem?_eq_some_iff.mp (bm_n (c := c) (k := k + 1) (Nat.succ_pos _))).1 e
  rw [this, a2] at a1
  have := Option.some.inj a1
  omega
theorem c_pa : Pa (cM c) := by
  intro m hm
  obtain ⟨g, hg⟩ := List.getElem?_of_mem hm
  obtain ⟨k, hk, e, _⟩ := M_inv ok hg
  rw [e]
  have nl := ok.n
  refine pd_of (x_ne_n ok hk) (M_x ok hk) (M_n ok (Nat.succ_pos _) hk) fun g' w h' => ?_
  obtain ⟨k', hk', e', o⟩ := M_inv ok h'
  have e' : c.N.getD k [] = c.N.getD k' [] := e'
  have : k = k' := N_inj ok (by omega) (by omega) e'
  rw [this]
  exact o
theorem ek_x {k : Nat} (h : k + 1 < c.S.length) : fp (ek c k) = bef (bk c k + xi c k) (!c.F.getD k false) := by
  unfold ek fp pk xi bL
  cases q : c.F.getD k false
  · simp only [Bool.false_eq_true, if_false]
    split <;> simp [bef]
  · simp only [if_true, h]
    simp [bef]
theorem ek_n {k : Nat} (h : 0 < k) : ek c k = aft (bk c k + ni c k) (!c.F.getD k false) := by
  unfold ek pk ni bL
  cases q : c.F.getD k false
  · simp only [Bool.false_eq_true, if_false, h, if_true]
    simp [aft]
  · simp only [if_true]
    split <;> simp [aft]
theorem chain {k : Nat} (h : k + 1 < c.S.length) : Lk (cM c) (fp (ek c k)) = some (ek c (k + 1)) := by
  refine Lr.lk (c_pa ok) ⟨_, _, _, _, _, x_ne_n ok h, M_x ok h, M_n ok (Nat.succ_pos _) h, .inl ⟨ek_x ok h, ?_⟩⟩
  exact ek_n ok (Nat.succ_pos _)
end
end MS
set_option maxHeartbeats 4000000
/-! the whole text along the chain -/
namespace MS
def endsM (X : List It) : Prop := X = [] ∨ ∃ X0 n u, X = X0 ++ [.mk n u]
def begM (Y : List It) : Prop := ∃ n u Y0, Y = .mk n u :: Y0
theorem pcs_at : ∀ (X : List It) (a : List Nat) (Y : List It), ∃ u v, (pcs (X ++ .pc a :: Y))[(mks X).length]? = some (u ++ a ++ v) ∧ (endsM X → u = []) ∧ (begM Y → v = [])
  | [], a, Y => ⟨[], hd1 (pcs Y), by simp [pcs, mks], fun _ => rfl, by
      rintro ⟨n, u, Y0, rfl⟩
      rfl⟩
  | .mk n u :: X, a, Y => by
    obtain ⟨p, q, h1, h2, h3⟩ := pcs_at X a Y
    refine ⟨p, q, by simpa [pcs, mks] using h1, fun h => h2 ?_, h3⟩
    rcases h with h | ⟨X0, n', u', h⟩
    · cases h
    · cases X0 with
      | nil =>
        have := (List.cons.inj h).2
        exact .inl this
      | cons y X0 => exact .inr ⟨X0, n', u', (List.cons.inj h).2⟩
  | .pc b :: X, a, Y => by
    obtain ⟨p, q, h1, h2, h3⟩ := pcs_at X a Y
    have hX : endsM (.pc b :: X) → X ≠ [] ∧ endsM X := by
      rintro (h | ⟨X0, n', u', h⟩)
      · cases h
      · cases X0 with
        | nil => exact nomatch (List.cons.inj h).1
        | cons y X0 =>
          have e := (List.cons.inj h).2
          exact ⟨by rw [e]; simp, .inr ⟨X0, n', u', e⟩⟩
    by_cases z : (mks X).length = 0
    · refine ⟨b ++ p, q, ?_, fun h => ?_, h3⟩
      · rw [z] at h1
        show (pcs (.pc b :: (X ++ .pc a :: Y)))[(mks X).length]? = _
        rw [z]
        simp only [pcs, List.getElem?_cons_zero]
        rw [pcs_hd (X ++ .pc a :: Y), List.getElem?_cons_zero] at h1
        rw [Option.some.inj h1]
        simp
      · exfalso
        obtain ⟨ne, h | ⟨X0, n', u', h⟩⟩ := hX h
        · exact ne h
        · rw [h, mks_app] at z
          simp [mks] at z
    · refine ⟨p, q, ?_, fun h => h2 (hX h).2, h3⟩
      obtain ⟨l, hl⟩ : ∃ l, (mks X).length = l + 1 := ⟨(mks X).length - 1, by omega⟩
      show (pcs (.pc b :: (X ++ .pc a :: Y)))[(mks X).length]? = _
      rw [hl] at h1 ⊢
      rw [pcs_hd (X ++ .pc a :: Y), List.getElem?_cons_succ] at h1
      simp only [pcs, List.getElem?_cons_succ]
      exact h1
theorem lets_len : ∀ xs : List It, (lets xs).length = tot xs
  | [] => rfl
  | .pc a :: xs => by
    rw [show It.pc a :: xs = [.pc a] ++ xs from rfl, tot_app, ← lets_len xs]
    simp [lets, tot, ilen]
  | .mk n u :: xs => by
    rw [show It.mk n u :: xs = [.mk n u] ++ xs from rfl, tot_app, ← lets_len xs]
    simp [lets, tot, ilen]
theorem lets_Lt : ∀ {xs : List It}, (∀ y ∈ xs, okJ y) → Lt (lets xs)
  | [], _ => fun _ h => nomatch h
  | .pc a :: xs, h => Lt.app (h _ List.mem_cons_self) (lets_Lt fun y hy => h y (List.mem_cons_of_mem _ hy))
  | .mk n u :: xs, h => lets_Lt (xs := xs) fun y hy => h y (List.mem_cons_of_mem _ hy)
theorem mks_ok : ∀ {xs : List It}, (∀ y ∈ xs, okJ y) → ∀ m ∈ mks xs, okN m.1
  | [], _, _, h => nomatch h
  | .pc a :: xs, h, m, hm => mks_ok (xs := xs) (fun y hy => h y (List.mem_cons_of_mem _ hy)) m hm
  | .mk n u :: xs, h, m, hm => by
    rcases List.mem_cons.mp hm with rfl | hm
    · exact h _ List.mem_cons_self
    · exact mks_ok (xs := xs) (fun y hy => h y (List.mem_cons_of_mem _ hy)) m hm
theorem len_flat {α : Type} : ∀ {P : List (List α)} {a : List α}, a ∈ P → a.length ≤ P.flatten.length
  | b :: P, a, h => by
    rw [List.flatten_cons, List.length_append]
    rcases List.mem_cons.mp h with rfl | h
    · omega
    · have := len_flat h
      omega
theorem bm_len (c : Cut) (k : Nat) : (bm c k).length ≤ 2 := by
  unfold bm
  rw [bl_eq]
  unfold bL bR
  split <;> split <;> split <;> simp [mks]
theorem fm_len {α β : Type} {f : α → List β} {n : Nat} (h : ∀ a, (f a).length ≤ n) : ∀ l : List α, (l.flatMap f).length ≤ n * l.length
  | [] => Nat.zero_le _
  | a :: l => by
    have := h a
    have := fm_len h l
    rw [List.flatMap_cons, List.length_append, List.length_cons, Nat.mul_succ]
    omega
theorem zip_tk {α β : Type} : ∀ (n : Nat) (l : List α) (l' : List β), (l.zip l').take n = (l.take n).zip (l'.take n)
  | 0, _, _ => by simp
  | n + 1, [], _ => by simp
  | n + 1, _ :: _, [] => by simp
  | n + 1, a :: l, b :: l' => by simp [zip_tk n l l']
theorem bL_or (c : Cut) (k : Nat) : bL c k = [] ∨ ∃ n u, bL c k = [.mk n u] := by
  unfold bL
  split <;> split <;> simp
theorem bR_or (c : Cut) (k : Nat) : bR c k = [] ∨ ∃ n u, bR c k = [.mk n u] := by
  unfold bR
  split <;> split <;> simp
section
variable {c : Cut} (ok : okC c)
include ok
theorem cM_len : (cM c).length ≤ 26 := by
  rw [cM_eq ok]
  have := fm_len (bm_len c) c.O
  have := ok.n2
  rw [ok.o1] at *
  omega
theorem cP_len : (cP c).length = (cM c).length + 1 := pcs_len _
theorem cP_flat : (cP c).flatten.length ≤ 121 ∧ Lt (cP c).flatten := by
  obtain ⟨h1, h2, _⟩ := its_ok ok
  rw [show (cP c).flatten = lets (its c) from pcs_flat _, lets_len]
  exact ⟨h2, lets_Lt h1⟩
theorem cP_Lt : ∀ a ∈ cP c, Lt a := fun a ha x hx => (cP_flat ok).2 x (List.mem_flatten.mpr ⟨a, ha, hx⟩)
theorem c_okR : okR (cP c) (cM c) where
  len := cP_len ok
  le := by
    have := cM_len ok
    rw [cP_len ok]
    omega
  p a ha := ⟨by have := len_flat ha; have := (cP_flat ok).1; omega, cP_Lt ok a ha⟩
  n := mks_ok (its_ok ok).1
theorem its_at {k : Nat} (h : k < c.S.length) : ∃ X Y, its c = X ++ (bl c k ++ Y) ∧ (mks X).length = bk c k := by
  have a1 := Jk_at ok h
  have zl := zip_len ok
  have jl : Jk c k < c.O.length := (List.getElem?_eq_some_iff.mp a1).1
  have zj : Jk c k < (c.O.zip (c.Q.drop 1)).length := by rw [zl, ← ok.o1]; exact jl
  have e := List.drop_eq_getElem_cons zj
  have e1 : ((c.O.zip (c.Q.drop 1))[Jk c k]'zj).1 = k := by
    rw [List.getElem_zip]
    rw [List.getElem?_eq_getElem jl] at a1
    exact Option.some.inj a1
  refine ⟨.pc (c.Q.getD 0 []) :: ((c.O.zip (c.Q.drop 1)).take (Jk c k)).flatMap (blq c), .pc ((c.O.zip (c.Q.drop 1))[Jk c k]'zj).2 :: ((c.O.zip (c.Q.drop 1)).drop (Jk c k + 1)).flatMap (blq c), ?_, ?_⟩
  · unfold its
    rw [List.cons_append]
    congr 1
    have : (c.O.zip (c.Q.drop 1)).flatMap (blq c) = ((c.O.zip (c.Q.drop 1)).take (Jk c k) ++ (c.O.zip (c.Q.drop 1)).drop (Jk c k)).flatMap (blq c) := by rw [List.take_append_drop]
    rw [this, List.flatMap_append, e, List.flatMap_cons]
    congr 1
    unfold blq
    rw [e1]
    simp
  · show (mks (((c.O.zip (c.Q.drop 1)).take (Jk c k)).flatMap (blq c))).length = _
    rw [zip_tk, mks_fm]
    · rfl
    · rw [List.length_take, List.length_take, List.length_drop, ok.o1, ok.q]
      omega
theorem ek_piece {k : Nat} (h : k < c.S.length) : ∃ u v, (cP c)[pk c k]? = some (u ++ bT c k ++ v) ∧ (bL c k ≠ [] → u = []) ∧ (bR c k ≠ [] → v = []) := by
  obtain ⟨X, Y, e, hX⟩ := its_at ok h
  rw [bl_eq] at e
  have e2 : its c = (X ++ bL c k) ++ .pc (bT c k) :: (bR c k ++ Y) := by
    rw [e]
    simp
  obtain ⟨u, v, h1, h2, h3⟩ := pcs_at (X ++ bL c k) (bT c k) (bR c k ++ Y)
  refine ⟨u, v, ?_, fun ne => h2 ?_, fun ne => h3 ?_⟩
  · show (pcs (its c))[pk c k]? = _
    rw [e2, ← h1]
    congr 1
    unfold pk
    rw [mks_app, List.length_append, hX]
    congr 1
    unfold bL
    split <;> split <;> rfl
  · right
    have := (bL_or c k).resolve_left ne
    obtain ⟨n, u', hb⟩ := this
    exact ⟨X, n, u', by rw [hb]⟩
  · have := (bR_or c k).resolve_left ne
    obtain ⟨n, u', hb⟩ := this
    exact ⟨n, u', Y, by rw [hb]; rfl⟩
theorem ek_rng {k : Nat} (h : k < c.S.length) : (ek c k).1 ≤ (cM c).length := by
  obtain ⟨u, v, h1, _⟩ := ek_piece ok h
  have := (List.getElem?_eq_some_iff.mp h1).1
  rw [cP_len ok] at this
  show pk c k ≤ _
  omega
theorem ek_ori {k : Nat} (h : k < c.S.length) : ∃ A B, ori (cP c) (ek c k) = A ++ c.S.getD k [] ++ B ∧ (0 < k → A = []) ∧ (k + 1 < c.S.length → B = []) := by
  obtain ⟨u, v, h1, h2, h3⟩ := ek_piece ok h
  have sL : Lt (c.S.getD k []) := (ok.s5 _ (getD_mem h)).1
  have g : (cP c).getD (pk c k) [] = u ++ bT c k ++ v := by
    rw [List.getD_eq_getElem?_getD, h1]
    rfl
  unfold ori ek
  unfold bT at g h1
  unfold bL at h2
  unfold bR at h3
  cases q : c.F.getD k false
  · simp only [q, Bool.false_eq_true, if_false] at g h2 h3 ⊢
    refine ⟨u, v, g, fun z => h2 ?_, fun z => h3 ?_⟩
    · rw [if_pos z]
      simp
    · rw [if_pos z]
      simp
  · simp only [q, if_true] at g h2 h3 ⊢
    refine ⟨fl v, fl u, ?_, fun z => ?_, fun z => ?_⟩
    · rw [g, fl_app, fl_app, fl_fl sL, List.append_assoc]
    · rw [h3 (by rw [if_pos z]; simp)]
      rfl
    · rw [h2 (by rw [if_pos z]; simp)]
      rfl
theorem ek_tail : ∀ (d j : Nat), j + d = c.S.length → 0 < j → ∃ B, txt (cP c) ((List.range d).map fun i => ek c (j + i)) = (c.S.drop j).flatten ++ B
  | 0, j, h, _ => ⟨[], by rw [List.drop_eq_nil_of_le (by omega)]; rfl⟩
  | d + 1, j, h, hj => by
    obtain ⟨A, B, e, hA, hB⟩ := ek_ori ok (k := j) (by omega)
    obtain ⟨B', e'⟩ := ek_tail d (j + 1) (by omega) (by omega)
    have ed : c.S.drop j = c.S.getD j [] :: c.S.drop (j + 1) := by
      rw [List.drop_eq_getElem_cons (by omega), List.getD_eq_getElem?_getD, List.getElem?_eq_getElem (by omega)]
      rfl
    have er : (List.range (d + 1)).map (fun i => ek c (j + i)) = ek c j :: (List.range d).map fun i => ek c (j + 1 + i) := by
      rw [List.range_succ_eq_map, List.map_cons, List.map_map]
      congr 1
      apply List.map_congr_left
      intro i _
      show ek c (j + (i + 1)) = _
      congr 1
      omega
    rw [er, ed, List.flatten_cons]
    show ∃ B, ori (cP c) (ek c j) ++ txt (cP c) ((List.range d).map fun i => ek c (j + 1 + i)) = _
    rw [e, e', hA hj, List.nil_append]
    by_cases z : j + 1 < c.S.length
    · rw [hB z]
      exact ⟨B', by simp⟩
    · rw [List.drop_eq_nil_of_le (i := j + 1) (by omega)]
      exact ⟨B ++ B', by simp⟩
theorem ek_whole : ∃ A B, txt (cP c) ((List.range c.S.length).map (ek c)) = A ++ c.S.flatten ++ B := by
  have n1 := ok.n1
  obtain ⟨d, hd⟩ : ∃ d, c.S.length = d + 1 := ⟨c.S.length - 1, by omega⟩
  obtain ⟨A, B, e, hA, hB⟩ := ek_ori ok (k := 0) (by omega)
  obtain ⟨B', e'⟩ := ek_tail ok d 1 (by omega) (by omega)
  have ed : c.S = c.S.getD 0 [] :: c.S.drop 1 := by
    have := List.drop_eq_getElem_cons (l := c.S) (i := 0) (by omega)
    rw [List.drop_zero] at this
    rw [List.getD_eq_getElem?_getD, List.getElem?_eq_getElem (by omega)]
    exact this
  have er : (List.range c.S.length).map (ek c) = ek c 0 :: (List.range d).map fun i => ek c (1 + i) := by
    rw [hd, List.range_succ_eq_map, List.map_cons, List.map_map]
    congr 1
    apply List.map_congr_left
    intro i _
    show ek c (i + 1) = _
    congr 1
    omega
  have ef : c.S.flatten = c.S.getD 0 [] ++ (c.S.drop 1).flatten := by
    rw [show c.S.flatten = (c.S.getD 0 [] :: c.S.drop 1).flatten by rw [← ed], List.flatten_cons]
  rw [er, ef]
  show ∃ A B, ori (cP c) (ek c 0) ++ txt (cP c) ((List.range d).map fun i => ek c (1 + i)) = _
  rw [e, e']
  by_cases z : 0 + 1 < c.S.length
  · rw [hB z]
    exact ⟨A, B', by simp⟩
  · have : (c.S.drop 1).flatten = [] := by
      rw [List.drop_eq_nil_of_le (by omega)]
      rfl
    rw [this]
    exact ⟨A, B ++ B', by simp⟩
/-- the chain is a walk -/
theorem ek_pw : ∀ k, k < c.S.length → pw (nx (cM c).length (Lk (cM c))) k (ek c 0) = ek c k
  | 0, _ => rfl
  | k + 1, h => by
    rw [pw_s, ek_pw k (by omega)]
    exact cl_some (chain ok h)
theorem ek_mid : ∀ (d j : Nat), j + d + 1 = c.S.length → 0 < j → txt (cP c) ((List.range d).map fun i => ek c (j + i)) ++ c.S.getD (j + d) [] = (c.S.drop j).flatten
  | 0, j, h, hj => by
    rw [List.drop_eq_getElem_cons (by omega), List.drop_eq_nil_of_le (by omega), List.getD_eq_getElem?_getD, List.getElem?_eq_getElem (by omega)]
    simp [txt]
  | d + 1, j, h, hj => by
    obtain ⟨A, B, e, hA, hB⟩ := ek_ori ok (k := j) (by omega)
    have e' := ek_mid d (j + 1) (by omega) (by omega)
    have ed : c.S.drop j = c.S.getD j [] :: c.S.drop (j + 1) := by
      rw [List.drop_eq_getElem_cons (by omega), List.getD_eq_getElem?_getD, List.getElem?_eq_getElem (by omega)]
      rfl
    have er : (List.range (d + 1)).map (fun i => ek c (j + i)) = ek c j :: (List.range d).map fun i => ek c (j + 1 + i) := by
      rw [List.range_succ_eq_map, List.map_cons, List.map_map]
      congr 1
      apply List.map_congr_left
      intro i _
      show ek c (j + (i + 1)) = _
      congr 1
      omega
    rw [er, ed, List.flatten_cons]
    show ori (cP c) (ek c j) ++ txt (cP c) ((List.range d).map fun i => ek c (j + 1 + i)) ++ _ = _
    rw [e, hA hj, hB (by omega), List.append_assoc, show j + (d + 1) = j + 1 + d by omega, e']
    simp
end
/-- segments with letters of their own -/
structure Own (S : List (List Nat)) : Prop where
  ne : ∀ k, k < S.length → S.getD k [] ≠ []
  own : ∀ k, k < S.length → ∀ x ∈ S.getD k [], x = 97 + k
theorem app_split {α : Type} {A S B T : List α} (h : A ++ S = T ++ B) (d : ∀ x ∈ S, x ∉ T) (ne : S ≠ []) : ∃ X, A = T ++ X ∧ B = X ++ S := by
  rcases List.append_eq_append_iff.mp h with ⟨X, h1, h2⟩ | ⟨X, h1, h2⟩
  · cases X with
    | nil => exact ⟨[], by simpa using h1.symm, by simpa using h2.symm⟩
    | cons x X =>
      exfalso
      exact d x (by rw [h2]; exact List.mem_append_left _ List.mem_cons_self) (by rw [h1]; exact List.mem_append_right _ List.mem_cons_self)
  · exact ⟨X, h1, h2⟩
theorem txt_app (P : List (List Nat)) (a b : List End) : txt P (a ++ b) = txt P a ++ txt P b := List.flatMap_append
theorem tr_map {N : End → End} {p : Nat} {s : End} {f : Nat → End} (h : ∀ i, i < p → pw N i s = f i) : tr N p s = (List.range p).map f :=
  List.map_congr_left fun i hi => h i (List.mem_range.mp hi)
abbrev cN (c : Cut) : End → End := nx (cM c).length (Lk (cM c))
section
variable {c : Cut} (ok : okC c)
include ok
theorem c_gd : Gd (cM c).length (Lk (cM c)) := gd_of (c_pa ok)
theorem c_sys : Sys (cM c).length (cN c) := (c_gd ok).sys
theorem tr_whole : ∃ A B, txt (cP c) (tr (cN c) c.S.length (ek c 0)) = A ++ c.S.flatten ++ B := by
  rw [tr_map (f := ek c) fun i hi => ek_pw ok i hi]
  exact ek_whole ok
/-- a ring with the first segment: a rotation of its text begins with the whole -/
theorem ring_whole (own : Own c.S) : ∃ x y z, txt (cP c) (orb (cN c) (ek c 0)) = x ++ y ∧ y ++ x = c.S.flatten ++ z := by
  have n1 := ok.n1
  have S := c_sys ok
  have r0 := ek_rng ok (k := 0) (by omega)
  have Pp := S.per r0
  unfold orb
  generalize prd (cN c) (ek c 0) = p at *
  by_cases h : c.S.length ≤ p
  · obtain ⟨A, B, e⟩ := tr_whole ok
    refine ⟨A, c.S.flatten ++ B ++ txt (cP c) (tr (cN c) (p - c.S.length) (pw (cN c) c.S.length (ek c 0))), B ++ txt (cP c) (tr (cN c) (p - c.S.length) (pw (cN c) c.S.length (ek c 0))) ++ A, ?_, by simp⟩
    rw [show tr (cN c) p (ek c 0) = tr (cN c) (c.S.length + (p - c.S.length)) (ek c 0) by rw [show c.S.length + (p - c.S.length) = p by omega], tr_add, txt_app, e]
    simp
  · have pp := Pp.pos
    have ret : ek c p = ek c 0 := by
      rw [← ek_pw ok p (by omega)]
      exact Pp.ret
    obtain ⟨A, B, e0, _, hB⟩ := ek_ori ok (k := 0) (by omega)
    obtain ⟨A', B', ep, hA', hB'⟩ := ek_ori ok (k := p) (by omega)
    rw [hB (by omega), List.append_nil] at e0
    rw [hA' (by omega), List.nil_append, ret] at ep
    have e := e0.symm.trans ep
    obtain ⟨X, hX, _⟩ := app_split e (fun x hx hx' => by
      have h1 := own.own 0 (by omega) x hx
      have h2 := own.own p (by omega) x hx'
      omega) (own.ne 0 (by omega))
    have last : p + 1 = c.S.length := by
      by_cases l : p + 1 < c.S.length
      · exfalso
        rw [hB' l, List.append_nil] at e
        have ne := own.ne 0 (by omega)
        cases q : c.S.getD 0 [] with
        | nil => exact ne q
        | cons x xs =>
          have h1 := own.own 0 (by omega) x (by rw [q]; exact List.mem_cons_self)
          have h2 := own.own p (by omega) x (by rw [← e, q]; exact List.mem_append_right _ List.mem_cons_self)
          omega
      · omega
    obtain ⟨d, rfl⟩ : ∃ d, p = d + 1 := ⟨p - 1, by omega⟩
    have em := ek_mid ok d 1 (by omega) (by omega)
    have et : tr (cN c) (d + 1) (ek c 0) = ek c 0 :: (List.range d).map fun i => ek c (1 + i) := by
      rw [tr_map (f := ek c) fun i hi => ek_pw ok i (by omega), List.range_succ_eq_map, List.map_cons, List.map_map]
      congr 1
      apply List.map_congr_left
      intro i _
      show ek c (i + 1) = _
      congr 1
      omega
    have ed : c.S = c.S.getD 0 [] :: c.S.drop 1 := by
      have := List.drop_eq_getElem_cons (l := c.S) (i := 0) (by omega)
      rw [List.drop_zero] at this
      rw [List.getD_eq_getElem?_getD, List.getElem?_eq_getElem (by omega)]
      exact this
    have ef : c.S.flatten = c.S.getD 0 [] ++ (c.S.drop 1).flatten := by
      rw [show c.S.flatten = (c.S.getD 0 [] :: c.S.drop 1).flatten by rw [← ed], List.flatten_cons]
    have em := show txt (cP c) ((List.range d).map fun i => ek c (1 + i)) ++ c.S.getD (d + 1) [] = (c.S.drop 1).flatten by rw [← em, show 1 + d = d + 1 by omega]
    refine ⟨c.S.getD (d + 1) [] ++ X, c.S.getD 0 [] ++ txt (cP c) ((List.range d).map fun i => ek c (1 + i)), X, ?_, ?_⟩
    · rw [et]
      show ori (cP c) (ek c 0) ++ txt (cP c) ((List.range d).map fun i => ek c (1 + i)) = _
      rw [e0, hX]
      simp
    · rw [ef, ← em]
      simp
end
theorem ori_fp {P : List (List Nat)} (h : ∀ a ∈ P, Lt a) (e : End) : ori P (fp e) = fl (ori P e) := by
  have l : Lt (P.getD e.1 []) := by
    by_cases q : e.1 < P.length
    · exact h _ (getD_mem q)
    · rw [List.getD_eq_getElem?_getD, List.getElem?_eq_none (by omega)]
      exact fun _ h => nomatch h
  obtain ⟨i, s⟩ := e
  cases s
  · rfl
  · show P.getD i [] = fl (fl (P.getD i []))
    exact (fl_fl l).symm
theorem txt_rev {P : List (List Nat)} (h : ∀ a ∈ P, Lt a) : ∀ l : List End, txt P (l.reverse.map fp) = fl (txt P l)
  | [] => rfl
  | e :: l => by
    rw [List.reverse_cons, List.map_append, txt_app, txt_rev h l]
    show _ ++ txt P [fp e] = fl (ori P e ++ txt P l)
    rw [fl_app]
    congr 1
    show ori P (fp e) ++ [] = _
    rw [List.append_nil, ori_fp h]
theorem tr_rev {m : Nat} {N : End → End} (S : Sys m N) : ∀ (n : Nat) (s : End), tr N (n + 1) (fp (pw N n s)) = (tr N (n + 1) s).reverse.map fp
  | 0, s => rfl
  | n + 1, s => by
    rw [tr_s, tr_e N (n + 1) s, List.reverse_append, List.map_append]
    show _ = [fp (pw N (n + 1) s)] ++ _
    rw [← tr_rev S n s, pw_s N n s, S.rev]
    rfl
section
variable {m : Nat} {L : Lnk} (G : Gd m L)
include G
theorem Gd.strand_part {g : End} {n : Nat} (n1 : 1 ≤ n) (h : Or (nx m L) (0, false) g) (hc : ∀ k, k + 1 < n → L (fp (pw (nx m L) k g)) ≠ none) : ∃ X Y, orb (nx m L) (0, false) = X ++ tr (nx m L) n g ++ Y := by
  have S := G.sys
  have Pp := S.per (s := (0, false)) (Nat.zero_le _)
  have mem := (S.orb_mem (a := (0, false)) (Nat.zero_le _)).mpr h
  unfold orb at mem ⊢
  obtain ⟨j, hj, e⟩ := tr_mem.mp mem
  generalize prd (nx m L) (0, false) = p at *
  have le : j + n ≤ p := by
    refine Nat.le_of_not_lt fun lt => ?_
    have hk := hc (p - j - 1) (by omega)
    cases q : L (fp (pw (nx m L) (p - j - 1) g)) with
    | none => exact hk q
    | some y =>
      have e2 : nx m L (pw (nx m L) (p - j - 1) g) = y := cl_some q
      rw [← pw_s (nx m L) (p - j - 1) g, show p - j - 1 + 1 = p - j by omega, ← e, ← pw_add, show j + (p - j) = p by omega, Pp.ret] at e2
      rw [← e2] at q
      have := G.inv _ _ q
      rw [G.o1] at this
      cases this
  refine ⟨tr (nx m L) j (0, false), tr (nx m L) (p - j - n) (pw (nx m L) n g), ?_⟩
  rw [show tr (nx m L) p (0, false) = tr (nx m L) (j + (n + (p - j - n))) (0, false) by rw [show j + (n + (p - j - n)) = p by omega], tr_add, tr_add, e, List.append_assoc]
end
end MS
set_option maxHeartbeats 4000000
/-! letters, rotations, the other cut -/
namespace MS
open PyProof.Rows
theorem lo1_sw {c : Nat} (h : isL c = true ∨ isU c = true) : lo1 (sw c) = lo1 c := by
  rw [let_iff] at h
  unfold lo1
  rcases h with h | h
  · rw [sw_lo h, if_pos (by omega), if_neg (by omega)]
    omega
  · rw [sw_up h, if_neg (by omega), if_pos h]
abbrev lw (a : List Nat) : List Nat := a.map lo1
theorem lw_fl {a : List Nat} (h : Lt a) : (lw (fl a)).Perm (lw a) := by
  have e : lw (fl a) = (lw a).reverse := by
    unfold lw fl
    rw [List.map_map, ← List.map_reverse]
    exact List.map_congr_left fun c hc => lo1_sw (h c (List.mem_reverse.mp hc))
  rw [e]
  exact List.reverse_perm _
theorem P_Lt {P : List (List Nat)} (h : ∀ a ∈ P, Lt a) (i : Nat) : Lt (P.getD i []) := by
  by_cases q : i < P.length
  · exact h _ (getD_mem q)
  · rw [List.getD_eq_getElem?_getD, List.getElem?_eq_none (by omega)]
    exact fun _ h => nomatch h
theorem ori_Lt {P : List (List Nat)} (h : ∀ a ∈ P, Lt a) (e : End) : Lt (ori P e) := by
  unfold ori
  split
  · exact (P_Lt h _).fl
  · exact P_Lt h _
theorem txt_Lt {P : List (List Nat)} (h : ∀ a ∈ P, Lt a) (t : List End) : Lt (txt P t) := fun c hc => by
  obtain ⟨e, _, he⟩ := List.mem_flatMap.mp hc
  exact ori_Lt h e c he
theorem lw_ori {P : List (List Nat)} (h : ∀ a ∈ P, Lt a) (e : End) : (lw (ori P e)).Perm (lw (P.getD e.1 [])) := by
  unfold ori
  split
  · exact lw_fl (P_Lt h _)
  · exact .refl _
theorem lw_txt {P : List (List Nat)} (h : ∀ a ∈ P, Lt a) : ∀ t : List End, (lw (txt P t)).Perm ((t.map (·.1)).flatMap fun i => lw (P.getD i []))
  | [] => .nil
  | e :: t => by
    show (lw (ori P e ++ txt P t)).Perm _
    rw [lw, List.map_append, List.map_cons, List.flatMap_cons]
    exact (lw_ori h e).append (lw_txt h t)
theorem range_flat : ∀ P : List (List Nat), (List.range P.length).flatMap (fun i => lw (P.getD i [])) = lw P.flatten
  | [] => rfl
  | a :: P => by
    have r := range_flat P
    unfold lw at *
    rw [List.length_cons, List.range_succ_eq_map, List.flatMap_cons, List.flatMap_map, List.flatten_cons, List.map_append, ← r]
    rfl
theorem lets_bl (c : Cut) (k : Nat) : lets (bl c k) = bT c k := by
  rw [bl_eq, lets_app]
  have h1 : lets (bL c k) = [] := by
    rcases bL_or c k with h | ⟨n, u, h⟩ <;> rw [h] <;> rfl
  have h2 : lets (bR c k) = [] := by
    rcases bR_or c k with h | ⟨n, u, h⟩ <;> rw [h] <;> rfl
  rw [h1]
  simp [lets, h2]
theorem lw_bT {c : Cut} (k : Nat) (h : Lt (c.S.getD k [])) : (lw (bT c k)).Perm (lw (c.S.getD k [])) := by
  unfold bT
  split
  · exact lw_fl h
  · exact .refl _
theorem lets_fm {c : Cut} (h : ∀ a ∈ c.S, Lt a) : ∀ (O : List Nat) (Q : List (List Nat)), O.length = Q.length → (lw (lets ((O.zip Q).flatMap (blq c)))).Perm (O.flatMap (fun k => lw (c.S.getD k [])) ++ lw Q.flatten)
  | [], [], _ => .nil
  | [], _ :: _, h => nomatch h
  | _ :: _, [], h => nomatch h
  | k :: O, q :: Q, hl => by
    have ih := lets_fm h O Q (by simpa using hl)
    show (lw (lets (bl c k ++ [.pc q] ++ (O.zip Q).flatMap (blq c)))).Perm _
    rw [lets_app, lets_app, lets_bl, List.flatMap_cons, List.flatten_cons]
    have : lets [.pc q] = q := by simp [lets]
    rw [this]
    unfold lw at *
    rw [List.map_append, List.map_append, List.map_append, List.append_assoc, List.append_assoc]
    refine .trans ((lw_bT k (P_Lt h k)).append (.append_left _ ih)) ?_
    refine .append_left _ ?_
    exact List.perm_append_comm_assoc _ _ _
section
variable {c : Cut} (ok : okC c)
include ok
theorem O_perm : c.O.Perm (List.range c.S.length) := by
  refine perm_nd ok.o3 (by simpa using List.nodup_range) fun x => ?_
  rw [List.mem_range]
  constructor
  · exact ok.o2 x
  · intro h
    obtain ⟨j, hj⟩ := O_ex ok h
    exact List.mem_of_getElem? hj
theorem S_Lt : ∀ a ∈ c.S, Lt a := fun a ha => (ok.s5 a ha).1
theorem lets_its : (lw (lets (its c))).Perm (lw (c.S.flatten ++ c.Q.flatten)) := by
  have h := lets_fm (S_Lt ok) c.O (c.Q.drop 1) (by rw [ok.o1, List.length_drop, ok.q]; omega)
  have e : c.Q.flatten = c.Q.getD 0 [] ++ (c.Q.drop 1).flatten := by
    have := ok.q
    cases q : c.Q with
    | nil => rw [q] at this; cases this
    | cons a l => rfl
  unfold its
  show (lw (c.Q.getD 0 [] ++ lets ((c.O.zip (c.Q.drop 1)).flatMap (blq c)))).Perm _
  rw [e]
  unfold lw at *
  rw [List.map_append, List.map_append, List.map_append]
  refine .trans (.append_left _ h) ?_
  refine .trans (List.perm_append_comm_assoc _ _ _) ?_
  refine .append_right _ ?_
  have p := (O_perm ok).flatMap_right (fun k => List.map lo1 (c.S.getD k []))
  have r := range_flat c.S
  unfold lw at r
  rw [r] at p
  exact p
end
/-! canon -/
structure Cn (cn : List Nat → List Nat) : Prop where
  rot : ∀ x y, cn (x ++ y) = cn (y ++ x)
  tur : ∀ a, Lt a → cn (fl a) = cn a
  mem : ∀ a, ∃ x y, (a = x ++ y ∨ fl a = x ++ y) ∧ cn a = y ++ x
section
variable {cn : List Nat → List Nat} (C : Cn cn)
include C
theorem Cn.clw {a : List Nat} (h : Lt a) : (lw (cn a)).Perm (lw a) := by
  obtain ⟨x, y, e, e2⟩ := C.mem a
  rw [e2]
  have p : (lw (y ++ x)).Perm (lw (x ++ y)) := by
    unfold lw
    exact List.perm_append_comm.map _
  rcases e with e | e
  · rw [e]
    exact p
  · refine p.trans ?_
    rw [← e]
    exact lw_fl h
theorem Cn.cLt {a : List Nat} (h : Lt a) : Lt (cn a) := by
  obtain ⟨x, y, e, e2⟩ := C.mem a
  rw [e2]
  rcases e with e | e
  · rw [e] at h
    exact Lt.app h.right h.left
  · have h' := h.fl
    rw [e] at h'
    exact Lt.app h'.right h'.left
theorem Cn.len {a : List Nat} : (cn a).length = a.length := by
  obtain ⟨x, y, e, e2⟩ := C.mem a
  rw [e2, List.length_append]
  rcases e with e | e
  · rw [e, List.length_append]
    exact Nat.add_comm _ _
  · rw [← fl_len a, e, List.length_append]
    exact Nat.add_comm _ _
section
variable {m : Nat} {N : End → End} (S : Sys m N) {P : List (List Nat)} (hP : ∀ a ∈ P, Lt a)
include S
theorem Cn.step {e : End} (h : e.1 ≤ m) : cn (txt P (orb N (N e))) = cn (txt P (orb N e)) := by
  have p1 := S.per h
  have p2 := S.per (S.rng e h)
  have pe : prd N (N e) = prd N e := by
    refine p2.uniq ⟨p1.pos, ?_, fun i h1 h2 z => p1.min i h1 h2 (S.inj ?_)⟩
    · show pw N (prd N e + 1) e = _
      rw [pw_s, p1.ret]
    · exact (pw_s N i e).symm.trans z
  unfold orb
  rw [pe]
  obtain ⟨q, hq⟩ : ∃ q, prd N e = q + 1 := ⟨prd N e - 1, by have := p1.pos; omega⟩
  rw [hq] at p1 ⊢
  rw [tr_s N q e, tr_e N q (N e), show pw N q (N e) = pw N (q + 1) e from rfl, p1.ret, txt_app]
  rw [C.rot, ← txt_app]
  rfl
theorem Cn.step_k : ∀ (k : Nat) {e : End}, e.1 ≤ m → cn (txt P (orb N (pw N k e))) = cn (txt P (orb N e))
  | 0, e, h => rfl
  | k + 1, e, h => (Cn.step_k k (S.rng e h)).trans (C.step S h)
include hP
theorem Cn.turn {e : End} (h : e.1 ≤ m) : cn (txt P (orb N (fp e))) = cn (txt P (orb N e)) := by
  have p1 := S.per h
  have p2 : Per N (fp e) (prd N (fp e)) := S.per (s := fp e) h
  have key : ∀ i, pw N i (fp e) = fp e → pw N i e = e := fun i z => by
    have := S.pw_rev i 0 e
    rw [Nat.zero_add] at this
    exact fp_inj (S.pinj i (this.trans z.symm))
  have key2 : ∀ i, pw N i e = e → pw N i (fp e) = fp e := fun i z => by
    have := S.pw_rev i 0 e
    rw [Nat.zero_add, z] at this
    exact this
  have pe : prd N (fp e) = prd N e := p2.uniq ⟨p1.pos, key2 _ p1.ret, fun i h1 h2 z => p1.min i h1 h2 (key i z)⟩
  rw [← C.step S h]
  have pn : prd N (N e) = prd N e := by
    refine (S.per (S.rng e h)).uniq ⟨p1.pos, ?_, fun i h1 h2 z => p1.min i h1 h2 (S.inj ?_)⟩
    · show pw N (prd N e + 1) e = _
      rw [pw_s, p1.ret]
    · exact (pw_s N i e).symm.trans z
  have e3 : orb N (fp e) = (orb N (N e)).reverse.map fp := by
    unfold orb
    rw [pe, pn]
    obtain ⟨q, hq⟩ : ∃ q, prd N e = q + 1 := ⟨prd N e - 1, by have := p1.pos; omega⟩
    rw [hq] at p1 ⊢
    rw [← tr_rev S q (N e), show pw N q (N e) = pw N (q + 1) e from rfl, p1.ret]
  rw [e3, txt_rev hP]
  exact C.tur _ (txt_Lt hP _)
theorem Cn.const {a b : End} (h : a.1 ≤ m) (p : Pt N a b) : cn (txt P (orb N b)) = cn (txt P (orb N a)) := by
  rcases p with ⟨k, rfl⟩ | ⟨k, e⟩
  · exact C.step_k S k h
  · have hb : (fp b).1 ≤ m := by rw [← e]; exact S.prng k h
    rw [← fp_fp b, C.turn S hP hb, ← e]
    exact C.step_k S k h
end
end
/-- two systems of representatives -/
theorem reps_perm {α β : Type} {D : α → Prop} {R : α → α → Prop} {f : α → β} (sy : ∀ a b, D a → D b → R a b → R b a) (tr : ∀ a b c, D a → D b → D c → R a b → R b c → R a c) (hf : ∀ a b, D a → D b → R a b → f a = f b) :
    ∀ (A B : List α), (∀ a ∈ A, D a) → (∀ b ∈ B, D b) → A.Pairwise (fun x y => ¬ R x y) → B.Pairwise (fun x y => ¬ R x y) → (∀ a ∈ A, ∃ b ∈ B, R a b) → (∀ b ∈ B, ∃ a ∈ A, R a b) → (A.map f).Perm (B.map f)
  | [], [], _, _, _, _, _, _ => .nil
  | [], b :: B, _, _, _, _, _, h => by
    obtain ⟨a, ha, _⟩ := h b List.mem_cons_self
    cases ha
  | a :: A, B, dA, dB, pA, pB, h1, h2 => by
    obtain ⟨b, hb, r⟩ := h1 a List.mem_cons_self
    obtain ⟨B1, B2, rfl⟩ := List.append_of_mem hb
    have pA' := List.pairwise_cons.mp pA
    have da := dA a List.mem_cons_self
    have db := dB b hb
    have pm : (B1 ++ b :: B2).Perm (b :: (B1 ++ B2)) := List.perm_middle
    have sub : ∀ x ∈ B1 ++ B2, x ∈ B1 ++ b :: B2 := fun x hx => pm.mem_iff.mpr (List.mem_cons_of_mem _ hx)
    have nb : ∀ x ∈ B1 ++ B2, ¬ R x b := fun x hx z => by
      rcases List.mem_append.mp hx with hx | hx
      · exact (List.pairwise_append.mp pB).2.2 x hx b List.mem_cons_self z
      · have := (List.pairwise_cons.mp (List.pairwise_append.mp pB).2.1).1 x hx
        exact this (sy x b (dB x (sub x (List.mem_append_right _ hx))) db z)
    have ih := reps_perm sy tr hf A (B1 ++ B2) (fun x hx => dA x (List.mem_cons_of_mem _ hx)) (fun x hx => dB x (sub x hx)) pA'.2 (by
        refine List.Pairwise.sublist ?_ pB
        exact List.Sublist.append (.refl _) (List.sublist_cons_self b B2)) (fun x hx => by
        obtain ⟨y, hy, q⟩ := h1 x (List.mem_cons_of_mem _ hx)
        rcases List.mem_cons.mp (pm.mem_iff.mp hy) with rfl | hy'
        · exfalso
          have dx := dA x (List.mem_cons_of_mem _ hx)
          exact pA'.1 x hx (tr a y x da db dx r (sy x y dx db q))
        · exact ⟨y, hy', q⟩) (fun y hy => by
        obtain ⟨x, hx, q⟩ := h2 y (sub y hy)
        rcases List.mem_cons.mp hx with rfl | hx'
        · exfalso
          have dy := dB y (sub y hy)
          exact nb y hy (tr y x b dy da db (sy x y da dy q) r)
        · exact ⟨x, hx', q⟩)
    refine .trans ?_ (pm.map f).symm
    rw [List.map_cons, List.map_cons, hf a b da db r]
    exact .cons _ ih
end MS
set_option maxHeartbeats 4000000
/-! the other cut -/
namespace MS
open PyProof.Rows
theorem pcs_snoc_mk (n : List Nat) (u : Bool) : ∀ ys : List It, pcs (ys ++ [.mk n u]) = pcs ys ++ [[]]
  | [] => rfl
  | .mk n' u' :: ys => by
    show [] :: pcs (ys ++ [.mk n u]) = _
    rw [pcs_snoc_mk n u ys]
    rfl
  | .pc b :: ys => by
    show (b ++ hd1 (pcs (ys ++ [.mk n u]))) :: (pcs (ys ++ [.mk n u])).tail = (b ++ hd1 (pcs ys)) :: (pcs ys).tail ++ [[]]
    rw [pcs_snoc_mk n u ys, pcs_hd ys]
    rfl
theorem pcs_snoc_pc (a : List Nat) : ∀ (ys : List It) (l : List (List Nat)) (x : List Nat), pcs ys = l ++ [x] → pcs (ys ++ [.pc a]) = l ++ [x ++ a]
  | [], l, x, h => by
    have h : [[]] = l ++ [x] := h
    cases l with
    | nil =>
      have := (List.cons.inj h).1
      rw [← this]
      simp [pcs, hd1]
    | cons y l =>
      have := congrArg List.length h
      simp at this
  | .mk n u :: ys, l, x, h => by
    have h : [] :: pcs ys = l ++ [x] := h
    cases l with
    | nil =>
      have := (List.cons.inj h).2
      have l := pcs_len ys
      rw [this] at l
      simp at l
    | cons y l =>
      have h1 := (List.cons.inj h).1
      have h2 := (List.cons.inj h).2
      show [] :: pcs (ys ++ [.pc a]) = _
      rw [pcs_snoc_pc a ys l x h2, h1]
      rfl
  | .pc b :: ys, l, x, h => by
    have h : (b ++ hd1 (pcs ys)) :: (pcs ys).tail = l ++ [x] := h
    show (b ++ hd1 (pcs (ys ++ [.pc a]))) :: (pcs (ys ++ [.pc a])).tail = _
    cases l with
    | nil =>
      have h1 := (List.cons.inj h).1
      have h2 := (List.cons.inj h).2
      have e : pcs ys = [] ++ [hd1 (pcs ys)] := by
        have := pcs_hd ys
        rw [h2] at this
        exact this
      rw [pcs_snoc_pc a ys [] _ e, ← h1]
      simp [hd1]
    | cons y l =>
      have h1 := (List.cons.inj h).1
      have h2 := (List.cons.inj h).2
      have e : pcs ys = (hd1 (pcs ys) :: l) ++ [x] := by
        have := pcs_hd ys
        rw [h2] at this
        exact this
      rw [pcs_snoc_pc a ys _ _ e, ← h1]
      simp [hd1]
theorem pcs_rev : ∀ xs : List It, pcs (xs.reverse.map flI) = (pcs xs).reverse.map fl
  | [] => rfl
  | .mk n u :: xs => by
    rw [List.reverse_cons, List.map_append]
    show pcs (xs.reverse.map flI ++ [.mk n (!u)]) = ([] :: pcs xs).reverse.map fl
    rw [pcs_snoc_mk, pcs_rev xs, List.reverse_cons, List.map_append]
    rfl
  | .pc a :: xs => by
    rw [List.reverse_cons, List.map_append]
    show pcs (xs.reverse.map flI ++ [.pc (fl a)]) = ((a ++ hd1 (pcs xs)) :: (pcs xs).tail).reverse.map fl
    have e : pcs (xs.reverse.map flI) = (pcs xs).tail.reverse.map fl ++ [fl (hd1 (pcs xs))] := by
      rw [pcs_rev xs]
      rw [show (pcs xs).reverse = (hd1 (pcs xs) :: (pcs xs).tail).reverse by rw [← pcs_hd xs], List.reverse_cons, List.map_append]
      rfl
    rw [pcs_snoc_pc _ _ _ _ e, List.reverse_cons, List.map_append]
    show _ = _ ++ [fl _]
    rw [fl_app]
theorem mks_rev : ∀ xs : List It, mks (xs.reverse.map flI) = mirM (mks xs)
  | [] => rfl
  | .mk n u :: xs => by
    rw [List.reverse_cons, List.map_append, mks_app, mks_rev xs]
    show mirM (mks xs) ++ [(n, !u)] = mirM ((n, u) :: mks xs)
    simp [mirM]
  | .pc a :: xs => by
    rw [List.reverse_cons, List.map_append, mks_app, mks_rev xs]
    show mirM (mks xs) ++ [] = mirM (mks xs)
    simp
def oth (c : Cut) : Cut := ⟨c.S, c.O.reverse, c.F.map not, (c.Q.reverse.map fl), c.N⟩
theorem not_getD {F : List Bool} {k : Nat} (h : k < F.length) : (F.map not).getD k false = !F.getD k false := by
  rw [List.getD_eq_getElem?_getD, List.getElem?_map, get_getD (d := false) h]
  rfl
section
variable {c : Cut} (ok : okC c)
include ok
theorem oth_ok : okC (oth c) where
  n1 := ok.n1
  n2 := ok.n2
  o1 := List.length_reverse.trans ok.o1
  o2 k hk := ok.o2 k (List.mem_reverse.mp hk)
  o3 := (List.reverse_perm c.O).nodup_iff.mpr ok.o3
  f := (List.length_map ..).trans ok.f
  q := by
    show (c.Q.reverse.map fl).length = c.S.length + 1
    rw [List.length_map, List.length_reverse, ok.q]
  n := ok.n
  n3 := ok.n3
  n4 := ok.n4
  s5 := ok.s5
  q5 a ha := by
    obtain ⟨b, hb, rfl⟩ := List.mem_map.mp ha
    have := ok.q5 b (List.mem_reverse.mp hb)
    exact ⟨this.1.fl, by rw [fl_len]; exact this.2⟩
theorem bl_oth {k : Nat} (h : k < c.S.length) : bl (oth c) k = (bl c k).reverse.map flI := by
  have sL : Lt (c.S.getD k []) := (ok.s5 _ (getD_mem h)).1
  have e : (oth c).F.getD k false = !c.F.getD k false := not_getD (by rw [ok.f]; exact h)
  rw [bl_eq, bl_eq]
  unfold bL bR bT
  rw [e]
  show (if (!c.F.getD k false) = true then (if k + 1 < c.S.length then [It.mk (c.N.getD k []) false] else []) else (if 0 < k then [It.mk (c.N.getD (k - 1) []) true] else [])) ++ It.pc (if (!c.F.getD k false) = true then fl (c.S.getD k []) else c.S.getD k []) :: (if (!c.F.getD k false) = true then (if 0 < k then [It.mk (c.N.getD (k - 1) []) false] else []) else (if k + 1 < c.S.length then [It.mk (c.N.getD k []) true] else [])) = _
  cases c.F.getD k false
  · simp only [Bool.not_false, if_true, Bool.false_eq_true, if_false]
    split <;> split <;> simp [flI]
  · simp only [Bool.not_true, if_true, Bool.false_eq_true, if_false]
    have ff := fl_fl sL
    generalize c.S.getD k [] = s at *
    split <;> split <;> simp [flI, ff]
theorem its_rev : ∀ (O : List Nat) (q0 : List Nat) (Q : List (List Nat)), O.length = Q.length → (∀ k ∈ O, k < c.S.length) →
    (It.pc q0 :: (O.zip Q).flatMap (blq c)).reverse.map flI = It.pc (((q0 :: Q).reverse.map fl).getD 0 []) :: (O.reverse.zip (((q0 :: Q).reverse.map fl).drop 1)).flatMap (blq (oth c))
  | [], q0, [], _, _ => by simp [flI]
  | [], _, _ :: _, h, _ => nomatch h
  | _ :: _, _, [], h, _ => nomatch h
  | k :: O, q0, q1 :: Q, h, hO => by
    have ih := its_rev O q1 Q (by simpa using h) fun k hk => hO k (List.mem_cons_of_mem _ hk)
    have hl : O.length = Q.length := by simpa using h
    have e1 : (It.pc q0 :: ((k :: O).zip (q1 :: Q)).flatMap (blq c)) = [It.pc q0] ++ (bl c k ++ (It.pc q1 :: (O.zip Q).flatMap (blq c))) := by
      rw [List.zip_cons_cons, List.flatMap_cons]
      show _ :: ((bl c k ++ [It.pc q1]) ++ _) = _
      simp
    rw [e1, List.reverse_append, List.reverse_append, List.map_append, List.map_append, ih, ← bl_oth ok (hO k List.mem_cons_self)]
    have e2 : (q0 :: q1 :: Q).reverse.map fl = (q1 :: Q).reverse.map fl ++ [fl q0] := by simp
    have l2 : ((q1 :: Q).reverse.map fl).length = Q.length + 1 := by simp
    rw [e2]
    generalize (q1 :: Q).reverse.map fl = R at *
    have e3 : (R ++ [fl q0]).getD 0 [] = R.getD 0 [] := by
      rw [List.getD_eq_getElem?_getD, List.getElem?_append_left (by omega), List.getD_eq_getElem?_getD]
    have e4 : (R ++ [fl q0]).drop 1 = R.drop 1 ++ [fl q0] := List.drop_append_of_le_length (by omega)
    rw [e3, e4, show (k :: O).reverse = O.reverse ++ [k] from List.reverse_cons, List.zip_append (by rw [List.length_reverse, List.length_drop]; omega), List.flatMap_append]
    simp [blq, flI]
theorem its_oth : its (oth c) = (its c).reverse.map flI := by
  have e : c.Q = c.Q.getD 0 [] :: c.Q.drop 1 := by
    have := ok.q
    cases q : c.Q with
    | nil => rw [q] at this; cases this
    | cons a l => rfl
  have r := its_rev ok c.O (c.Q.getD 0 []) (c.Q.drop 1) (by rw [ok.o1, List.length_drop, ok.q]; omega) ok.o2
  rw [← e] at r
  exact r.symm
theorem cP_oth : cP (oth c) = (cP c).reverse.map fl := by
  show pcs (its (oth c)) = _
  rw [its_oth ok, pcs_rev]
theorem cM_oth : cM (oth c) = mirM (cM c) := by
  show mks (its (oth c)) = _
  rw [its_oth ok, mks_rev]
theorem cM_oth_len : (cM (oth c)).length = (cM c).length := by rw [cM_oth ok, mirM_len]
abbrev mr (c : Cut) (e : End) : End := mir (cM c).length e
theorem cN_oth {e : End} (h : e.1 ≤ (cM c).length) : cN (oth c) (mr c e) = mr c (cN c e) := by
  have p' := c_pa (oth_ok ok)
  rw [cM_oth ok] at p'
  unfold cN
  rw [cM_oth ok, mirM_len]
  exact mir_nx (c_pa ok) p' h
theorem mr_rng (e : End) : (mr c e).1 ≤ (cM c).length := Nat.sub_le _ _
theorem pw_oth : ∀ (k : Nat) {e : End}, e.1 ≤ (cM c).length → pw (cN (oth c)) k (mr c e) = mr c (pw (cN c) k e)
  | 0, e, h => rfl
  | k + 1, e, h => by
    show pw (cN (oth c)) k (cN (oth c) (mr c e)) = mr c (pw (cN c) k (cN c e))
    rw [cN_oth ok h]
    exact pw_oth k ((c_sys ok).rng e h)
theorem mr_inj {a b : End} (ha : a.1 ≤ (cM c).length) (hb : b.1 ≤ (cM c).length) (h : mr c a = mr c b) : a = b := by
  rw [← mir_mir ha, ← mir_mir hb]
  exact congrArg (mir (cM c).length) h
theorem prd_oth {e : End} (h : e.1 ≤ (cM c).length) : prd (cN (oth c)) (mr c e) = prd (cN c) e := by
  have S := c_sys ok
  have S' := c_sys (oth_ok ok)
  have p := S.per h
  have p' := S'.per (s := mr c e) (by rw [cM_oth_len ok]; exact mr_rng ok e)
  refine p'.uniq ⟨p.pos, ?_, fun i h1 h2 z => p.min i h1 h2 ?_⟩
  · rw [pw_oth ok _ h, p.ret]
  · rw [pw_oth ok _ h] at z
    exact mr_inj ok (S.prng i h) h z
theorem orb_oth {e : End} (h : e.1 ≤ (cM c).length) : orb (cN (oth c)) (mr c e) = (orb (cN c) e).map (mr c) := by
  unfold orb tr
  rw [prd_oth ok h, List.map_map]
  exact List.map_congr_left fun i _ => pw_oth ok i h
theorem ori_oth {e : End} (h : e.1 ≤ (cM c).length) : ori (cP (oth c)) (mr c e) = ori (cP c) e := by
  obtain ⟨i, s⟩ := e
  have h : i ≤ (cM c).length := h
  have hl := cP_len ok
  have sL : Lt ((cP c).getD i []) := P_Lt (cP_Lt ok) i
  have e1 : (cP (oth c)).getD ((cM c).length - i) [] = fl ((cP c).getD i []) := by
    rw [cP_oth ok, List.getD_eq_getElem?_getD, List.getElem?_map, List.getElem?_reverse (by omega), show (cP c).length - 1 - ((cM c).length - i) = i by omega, get_getD (d := []) (by omega)]
    rfl
  unfold ori mr mir
  simp only
  rw [e1]
  have ff := fl_fl sL
  generalize (cP c).getD i [] = p at *
  cases s
  · simp [ff]
  · simp
theorem txt_oth {e : End} (h : e.1 ≤ (cM c).length) : txt (cP (oth c)) (orb (cN (oth c)) (mr c e)) = txt (cP c) (orb (cN c) e) := by
  rw [orb_oth ok h]
  have : ∀ l : List End, (∀ x ∈ l, x.1 ≤ (cM c).length) → txt (cP (oth c)) (l.map (mr c)) = txt (cP c) l := by
    intro l hl
    induction l with
    | nil => rfl
    | cons x l ih =>
      show ori _ (mr c x) ++ txt _ (l.map (mr c)) = ori _ x ++ txt _ l
      rw [ori_oth ok (hl x List.mem_cons_self), ih fun y hy => hl y (List.mem_cons_of_mem _ hy)]
  exact this _ fun x hx => (c_sys ok).or_rng h (((c_sys ok).orb_mem h).mp hx)
theorem pt_oth {a b : End} (ha : a.1 ≤ (cM c).length) (h : Pt (cN c) a b) : Pt (cN (oth c)) (mr c a) (mr c b) := by
  rcases h with ⟨k, e⟩ | ⟨k, e⟩
  · exact .inl ⟨k, by rw [pw_oth ok k ha, e]⟩
  · exact .inr ⟨k, by rw [pw_oth ok k ha, e]; exact mir_fp _ _⟩
theorem pt_oth2 {a b : End} (ha : a.1 ≤ (cM c).length) (hb : b.1 ≤ (cM c).length) (h : Pt (cN (oth c)) (mr c a) (mr c b)) : Pt (cN c) a b := by
  have key : ∀ k, pw (cN (oth c)) k (mr c a) = mr c (pw (cN c) k a) := fun k => pw_oth ok k ha
  rcases h with ⟨k, e⟩ | ⟨k, e⟩
  · rw [key] at e
    exact .inl ⟨k, mr_inj ok ((c_sys ok).prng k ha) hb e⟩
  · rw [key] at e
    exact .inr ⟨k, mr_inj ok ((c_sys ok).prng k ha) (b := fp b) hb e⟩
end
/-- where the rings begin -/
structure Rgs (c : Cut) (A : List Nat) : Prop where
  rg : Rg (Lk (cM c)) ((orb (cN c) (0, false)).map (·.1)) (List.range ((cM c).length + 1)) (A.map fun i => orb (cN c) (i, false))
  a1 : ∀ i ∈ A, i ≤ (cM c).length ∧ ¬ Pt (cN c) (0, false) (i, false)
  a2 : A.Pairwise fun i j => ¬ Pt (cN c) (i, false) (j, false)
  a3 : ∀ i, i ≤ (cM c).length → Pt (cN c) (0, false) (i, false) ∨ ∃ a ∈ A, Pt (cN c) (a, false) (i, false)
  a4 : ((orb (cN c) (0, false)).map (·.1) ++ (A.map fun i => (orb (cN c) (i, false)).map (·.1)).flatten).Perm (List.range ((cM c).length + 1))
theorem rgs_ex {c : Cut} (ok : okC c) : ∃ A, Rgs c A := by
  have S := c_sys ok
  have G := c_gd ok
  have ml := cM_len ok
  have z : ((0, false) : End).1 ≤ (cM c).length := Nat.zero_le _
  have mo : ∀ j, j ∈ (orb (cN c) (0, false)).map (·.1) ↔ Pt (cN c) (0, false) (j, false) := fun j => S.pt_orb z
  obtain ⟨A, h1, h2, h3, h4, h5⟩ := G.rg_ex (by omega) (List.range ((cM c).length + 1)) ((orb (cN c) (0, false)).map (·.1)) (fun i hi => by
      have := List.mem_range.mp hi
      omega) (fun i hi => S.pt_rng (b := (i, false)) z ((mo i).mp hi)) (fun i hi j p => by
      have hi := (mo i).mp hi
      exact (mo j).mpr (S.pt_trans z (S.pt_rng (b := (i, false)) z hi) hi p)) ((mo 0).mpr (S.pt_refl _)) (S.orb_fst z)
  have a1 : ∀ i ∈ A, i ≤ (cM c).length ∧ ¬ Pt (cN c) (0, false) (i, false) := fun i hi => by
    have := List.mem_range.mp (h2 i hi).1
    exact ⟨by omega, fun p => (h2 i hi).2 ((mo i).mpr p)⟩
  have a3 : ∀ i, i ≤ (cM c).length → Pt (cN c) (0, false) (i, false) ∨ ∃ a ∈ A, Pt (cN c) (a, false) (i, false) := fun i hi => by
    rcases h4 i (List.mem_range.mpr (by omega)) with h | h
    · exact .inl ((mo i).mp h)
    · exact .inr h
  refine ⟨A, h1, a1, h3, a3, perm_nd h5 (by simpa using List.nodup_range) fun x => ?_⟩
  rw [List.mem_range, List.mem_append]
  constructor
  · rintro (h | h)
    · have : x ≤ (cM c).length := S.pt_rng (b := (x, false)) z ((mo x).mp h)
      omega
    · obtain ⟨l, hl, hx⟩ := List.mem_flatten.mp h
      obtain ⟨a, ha, rfl⟩ := List.mem_map.mp hl
      have : x ≤ (cM c).length := S.pt_rng (b := (x, false)) (a1 a ha).1 ((S.pt_orb (a := (a, false)) (a1 a ha).1).mp hx)
      omega
  · intro h
    rcases a3 x (by omega) with h | ⟨a, ha, p⟩
    · exact .inl ((mo x).mpr h)
    · exact .inr (List.mem_flatten.mpr ⟨_, List.mem_map.mpr ⟨a, ha, rfl⟩, (S.pt_orb (a := (a, false)) (a1 a ha).1).mpr p⟩)
/-- the texts of the rings -/
noncomputable def gtx (cn : List Nat → List Nat) (c : Cut) (A : List Nat) : List (List Nat) := A.map fun i => cn (txt (cP c) (orb (cN c) (i, false)))
theorem same_rings {cn : List Nat → List Nat} (C : Cn cn) {c : Cut} (ok : okC c) {A B : List Nat} (hA : Rgs c A) (hB : Rgs (oth c) B) : (gtx cn c A).Perm (gtx cn (oth c) B) := by
  have S := c_sys ok
  have ok' := oth_ok ok
  have S' := c_sys ok'
  have lm := cM_oth_len ok
  have z : ((0, false) : End).1 ≤ (cM c).length := Nat.zero_le _
  have z' : ((0, false) : End).1 ≤ (cM (oth c)).length := Nat.zero_le _
  have G := c_gd ok
  have te := G.to_end
  have m0 : mr c ((cM c).length, true) = (0, false) := by simp [mr, mir]
  have bb : ∀ j ∈ B, mr c (mr c (j, false)) = (j, false) := fun j hj => mir_mir (e := (j, false)) (by have := (hB.a1 j hj).1; rw [lm] at this; exact this)
  have p := reps_perm (D := fun e : End => e.1 ≤ (cM c).length) (R := Pt (cN c)) (f := fun e => cn (txt (cP c) (orb (cN c) e))) (fun a b ha hb h => S.pt_symm ha h) (fun a b d ha hb _ h g => S.pt_trans ha hb h g) (fun a b ha hb h => (C.const S (cP_Lt ok) ha h).symm)
    (A.map fun i => (i, false)) (B.map fun j => mr c (j, false)) ?_ ?_ ?_ ?_ ?_ ?_
  · unfold gtx
    rw [List.map_map, List.map_map] at p
    refine p.trans (.of_eq ?_)
    refine List.map_congr_left fun j hj => ?_
    show cn (txt (cP c) (orb (cN c) (mr c (j, false)))) = _
    rw [← txt_oth ok (mr_rng ok _), bb j hj]
  · intro a ha
    obtain ⟨i, hi, rfl⟩ := List.mem_map.mp ha
    exact (hA.a1 i hi).1
  · intro b hb
    obtain ⟨j, hj, rfl⟩ := List.mem_map.mp hb
    exact mr_rng ok _
  · rw [List.pairwise_map]
    exact hA.a2
  · rw [List.pairwise_map]
    refine List.Pairwise.imp_of_mem ?_ hB.a2
    intro i j hi hj n q
    have := pt_oth ok (mr_rng ok _) q
    rw [bb i hi, bb j hj] at this
    exact n this
  · intro a ha
    obtain ⟨i, hi, rfl⟩ := List.mem_map.mp ha
    obtain ⟨hi1, hi2⟩ := hA.a1 i hi
    have hi1' : ((i, false) : End).1 ≤ (cM c).length := hi1
    have q := hB.a3 ((cM c).length - i) (by rw [lm]; exact Nat.sub_le _ _)
    have bo : ∀ e : End, Pt (cN (oth c)) e ((cM c).length - i, false) → Pt (cN (oth c)) e (mr c (i, false)) := fun e h => (S'.pt_bool false true).mp h
    rcases q with q | ⟨j, hj, q⟩
    · exfalso
      have q := bo _ q
      rw [← m0] at q
      have q := pt_oth2 ok (a := ((cM c).length, true)) (b := (i, false)) (Nat.le_refl _) hi1' q
      exact hi2 (S.pt_trans z (b := ((cM c).length, true)) (Nat.le_refl _) te q)
    · have q := bo _ q
      rw [← bb j hj] at q
      have q := pt_oth2 ok (mr_rng ok _) hi1' q
      exact ⟨_, List.mem_map.mpr ⟨j, hj, rfl⟩, S.pt_symm (mr_rng ok _) q⟩
  · intro b hb
    obtain ⟨j, hj, rfl⟩ := List.mem_map.mp hb
    obtain ⟨hj1, hj2⟩ := hB.a1 j hj
    rw [lm] at hj1
    have q := hA.a3 ((cM c).length - j) (Nat.sub_le _ _)
    have bo : ∀ e : End, Pt (cN c) e ((cM c).length - j, false) → Pt (cN c) e (mr c (j, false)) := fun e h => (S.pt_bool false true).mp h
    rcases q with q | ⟨i, hi, q⟩
    · exfalso
      have q := bo _ q
      have q := S.pt_trans (a := ((cM c).length, true)) (Nat.le_refl _) z (S.pt_symm z te) q
      have q := pt_oth ok (a := ((cM c).length, true)) (Nat.le_refl _) q
      rw [m0, bb j hj] at q
      exact hj2 q
    · exact ⟨_, List.mem_map.mpr ⟨i, hi, rfl⟩, bo _ q⟩
end MS
set_option maxHeartbeats 4000000
/-! what is asked of the parts -/
namespace MS
open PyProof.Rows
def Ifx (a b : List Nat) : Prop := ∃ x y, b = x ++ a ++ y
theorem Ifx.fl {a b : List Nat} (h : Ifx a b) : Ifx (fl a) (fl b) := by
  obtain ⟨x, y, rfl⟩ := h
  exact ⟨MS.fl y, MS.fl x, by rw [fl_app, fl_app, List.append_assoc]⟩
theorem rot_in {x y p q a : List Nat} (h : x ++ y = p ++ q) (i : Ifx a (y ++ x)) : Ifx a (q ++ p ++ (q ++ p)) := by
  obtain ⟨u, v, e⟩ := i
  rcases List.append_eq_append_iff.mp h with ⟨r, h1, h2⟩ | ⟨r, h1, h2⟩
  · subst h1 h2
    exact ⟨q ++ x ++ u, v ++ r, by rw [show q ++ (x ++ r) ++ (q ++ (x ++ r)) = q ++ x ++ (r ++ q ++ x) ++ r by simp, e]; simp⟩
  · subst h1 h2
    exact ⟨r ++ u, v ++ (y ++ p), by rw [show r ++ y ++ p ++ (r ++ y ++ p) = r ++ (y ++ (p ++ r)) ++ (y ++ p) by simp, e]; simp⟩
noncomputable def stx (c : Cut) : List Nat := txt (cP c) (orb (cN c) (0, false))
section
variable {cn : List Nat → List Nat} (C : Cn cn) {c : Cut} (ok : okC c) {A : List Nat} (hA : Rgs c A)
include C ok
theorem gtx_lw : ∀ A : List Nat, (lw (gtx cn c A).flatten).Perm ((A.map fun i => (orb (cN c) (i, false)).map (·.1)).flatten.flatMap fun i => lw ((cP c).getD i []))
  | [] => .nil
  | i :: A => by
    have ih := gtx_lw A
    show (lw (cn (txt (cP c) (orb (cN c) (i, false))) ++ (gtx cn c A).flatten)).Perm _
    rw [List.map_cons, List.flatten_cons, List.flatMap_append]
    unfold lw at *
    rw [List.map_append]
    refine .append ?_ ih
    exact (C.clw (txt_Lt (cP_Lt ok) _)).trans (lw_txt (cP_Lt ok) _)
include hA
/-- every letter once -/
theorem letters : (lw (stx c ++ (gtx cn c A).flatten)).Perm (lw (c.S.flatten ++ c.Q.flatten)) := by
  have h1 := lw_txt (cP_Lt ok) (orb (cN c) (0, false))
  have h2 := gtx_lw C ok A
  have h3 := hA.a4.flatMap_right (fun i => lw ((cP c).getD i []))
  rw [List.flatMap_append] at h3
  have h4 := range_flat (cP c)
  rw [cP_len ok] at h4
  rw [h4, show (cP c).flatten = lets (its c) from pcs_flat _] at h3
  have h5 := lets_its ok
  refine .trans ?_ (h3.trans h5)
  unfold lw at *
  rw [List.map_append]
  exact h1.append h2
theorem parts_len : (stx c).length + (gtx cn c A).flatten.length ≤ 121 := by
  have h := (letters C ok hA).length_eq
  have h5 := (lets_its ok).length_eq
  simp only [List.length_map, List.length_append] at h
  rw [List.length_map, lets_len, List.length_map, List.length_append] at h5
  have := (its_ok ok).2.1
  omega
theorem A_len : A.length ≤ 27 := by
  have S := c_sys ok
  have nd : A.Nodup := by
    refine hA.a2.imp ?_
    rintro i j h rfl
    exact h (S.pt_refl _)
  have := nd_len (X := List.range ((cM c).length + 1)) nd fun i hi => List.mem_range.mpr (Nat.lt_succ_of_le (hA.a1 i hi).1)
  rw [List.length_range] at this
  have := cM_len ok
  omega
/-- some part holds the whole -/
theorem holds (own : Own c.S) : (Ifx c.S.flatten (stx c) ∨ Ifx (fl c.S.flatten) (stx c)) ∨ ∃ i ∈ A, c.S.flatten.length ≤ (cn (txt (cP c) (orb (cN c) (i, false)))).length ∧ (Ifx c.S.flatten (cn (txt (cP c) (orb (cN c) (i, false))) ++ cn (txt (cP c) (orb (cN c) (i, false)))) ∨ Ifx (fl c.S.flatten) (cn (txt (cP c) (orb (cN c) (i, false))) ++ cn (txt (cP c) (orb (cN c) (i, false))))) ∧
    ∃ z, (lw (cn (txt (cP c) (orb (cN c) (i, false))))).Perm (lw (c.S.flatten ++ z)) := by
  have S := c_sys ok
  have G := c_gd ok
  have n1 := ok.n1
  have r0 := ek_rng ok (k := 0) (by omega)
  have z : ((0, false) : End).1 ≤ (cM c).length := Nat.zero_le _
  obtain ⟨d, hd⟩ : ∃ d, c.S.length = d + 1 := ⟨c.S.length - 1, by omega⟩
  have part : Pt (cN c) (0, false) (ek c 0) ∨ ∃ a ∈ A, Pt (cN c) (a, false) (ek c 0) := by
    rcases hA.a3 (ek c 0).1 r0 with h | ⟨a, ha, h⟩
    · exact .inl ((S.pt_bool false (ek c 0).2).mp h)
    · exact .inr ⟨a, ha, (S.pt_bool false (ek c 0).2).mp h⟩
  rcases part with h | ⟨a, ha, h⟩
  · left
    obtain ⟨X, Y, e⟩ := tr_whole ok
    rcases h with h | h
    · left
      obtain ⟨U, V, e2⟩ := G.strand_part (n := c.S.length) (by omega) h fun k hk => by
        have := ek_pw ok k (by omega)
        unfold cN at this
        rw [this, chain ok hk]
        simp
      unfold stx
      unfold cN at e ⊢
      rw [e2, txt_app, txt_app, e]
      exact ⟨txt (cP c) U ++ X, Y ++ txt (cP c) V, by simp⟩
    · right
      have hg : Or (cN c) (0, false) (fp (ek c d)) := by
        refine S.or_trans h (S.or_symm (a := fp (ek c d)) (ek_rng ok (by omega)) ⟨d, ?_⟩)
        have := S.pw_rev d 0 (ek c 0)
        rw [Nat.zero_add, ek_pw ok d (by omega)] at this
        exact this
      obtain ⟨U, V, e2⟩ := G.strand_part (n := c.S.length) (by omega) hg fun k hk => by
        have := S.pw_rev k (d - k) (ek c 0)
        rw [show d - k + k = d by omega, ek_pw ok d (by omega), ek_pw ok (d - k) (by omega)] at this
        unfold cN at this
        rw [this, fp_fp]
        have := G.inv _ _ (chain ok (k := d - k - 1) (by omega))
        rw [show d - k - 1 + 1 = d - k by omega] at this
        rw [this]
        simp
      have e3 := tr_rev S d (ek c 0)
      rw [ek_pw ok d (by omega), ← hd] at e3
      unfold stx
      unfold cN at e e3 ⊢
      rw [e2, txt_app, txt_app, e3, txt_rev (cP_Lt ok), e, fl_app, fl_app]
      exact ⟨txt (cP c) U ++ fl Y, fl X ++ txt (cP c) V, by simp⟩
  · right
    have am := (hA.a1 a ha).1
    obtain ⟨x, y, w, e1, e2⟩ := ring_whole ok own
    have ce := C.const S (cP_Lt ok) (a := (a, false)) am h
    have lT := txt_Lt (cP_Lt ok) (orb (cN c) (ek c 0))
    refine ⟨a, ha, ?_⟩
    rw [← ce]
    generalize txt (cP c) (orb (cN c) (ek c 0)) = T at *
    have lt : T.length = c.S.flatten.length + w.length := by
      have := congrArg List.length e2
      rw [List.length_append, List.length_append] at this
      rw [e1, List.length_append]
      omega
    have inT : Ifx c.S.flatten (T ++ T) := ⟨x, w ++ y, by rw [e1, show x ++ y ++ (x ++ y) = x ++ (y ++ x) ++ y by simp, e2]; simp⟩
    refine ⟨by rw [C.len]; omega, ?_, w, ?_⟩
    · obtain ⟨p, q, e3, e4⟩ := C.mem T
      rw [e4]
      have base : Ifx c.S.flatten (y ++ x) := ⟨[], w, by rw [e2]; rfl⟩
      rcases e3 with e3 | e3
      · exact .inl (rot_in (e1.symm.trans e3) base)
      · right
        have b2 := base.fl
        rw [fl_app] at b2
        rw [e1, fl_app] at e3
        exact rot_in e3 b2
    · refine (C.clw lT).trans ?_
      have : (lw T).Perm (lw (y ++ x)) := by
        unfold lw
        rw [e1]
        exact List.perm_append_comm.map _
      rw [e2] at this
      exact this
end
end MS
set_option maxHeartbeats 4000000
/-! one part alone holds the whole -/
namespace MS
open PyProof.Rows
def cnt (a : List Nat) : Nat := (lw a).count 97
theorem cnt_app (a b : List Nat) : cnt (a ++ b) = cnt a + cnt b := by simp [cnt, lw]
theorem cnt_fl {a : List Nat} (h : Lt a) : cnt (fl a) = cnt a := (lw_fl h).count_eq 97
theorem cnt_ifx {a b : List Nat} (h : Ifx a b) : cnt a ≤ cnt b := by
  obtain ⟨x, y, rfl⟩ := h
  rw [cnt_app, cnt_app]
  omega
theorem mem_sum : ∀ {l : List Nat} {a : Nat}, a ∈ l → a ≤ l.sum
  | x :: l, a, h => by
    rw [List.sum_cons]
    rcases List.mem_cons.mp h with rfl | h
    · omega
    · have := mem_sum h
      omega
theorem sum2 : ∀ {l : List Nat} {i j a b : Nat}, l[i]? = some a → l[j]? = some b → i ≠ j → a + b ≤ l.sum
  | [], i, j, a, b, h, _, _ => by simp at h
  | x :: l, 0, 0, a, b, _, _, n => absurd rfl n
  | x :: l, 0, j + 1, a, b, h, g, _ => by
    have h : x = a := by simpa using h
    have g : l[j]? = some b := g
    have := mem_sum (List.mem_of_getElem? g)
    rw [List.sum_cons]
    omega
  | x :: l, i + 1, 0, a, b, h, g, _ => by
    have g : x = b := by simpa using g
    have h : l[i]? = some a := h
    have := mem_sum (List.mem_of_getElem? h)
    rw [List.sum_cons]
    omega
  | x :: l, i + 1, j + 1, a, b, h, g, n => by
    have := sum2 (l := l) (i := i) (j := j) h g (by omega)
    rw [List.sum_cons]
    omega
theorem cnt_flat : ∀ G : List (List Nat), cnt G.flatten = (G.map cnt).sum
  | [] => rfl
  | g :: G => by rw [List.flatten_cons, cnt_app, cnt_flat G, List.map_cons, List.sum_cons]
def Pq (c : Cut) : Prop := ∀ q ∈ c.Q, ∀ x ∈ q, lo1 x = 112 ∨ lo1 x = 113
theorem cnt_q {c : Cut} (h : Pq c) : cnt c.Q.flatten = 0 := by
  unfold cnt
  rw [List.count_eq_zero]
  intro m
  obtain ⟨x, hx, e⟩ := List.mem_map.mp m
  obtain ⟨q, hq, hx⟩ := List.mem_flatten.mp hx
  have := h q hq x hx
  omega
theorem cnt_w {c : Cut} (n1 : 1 ≤ c.S.length) (own : Own c.S) : 1 ≤ cnt c.S.flatten := by
  have e : c.S = c.S.getD 0 [] :: c.S.drop 1 := by
    have := List.drop_eq_getElem_cons (l := c.S) (i := 0) (by omega)
    rw [List.drop_zero] at this
    rw [List.getD_eq_getElem?_getD, List.getElem?_eq_getElem (by omega)]
    exact this
  have ef : c.S.flatten = c.S.getD 0 [] ++ (c.S.drop 1).flatten := by
    rw [show c.S.flatten = (c.S.getD 0 [] :: c.S.drop 1).flatten by rw [← e], List.flatten_cons]
  rw [ef, cnt_app]
  have ne := own.ne 0 (by omega)
  have ow := own.own 0 (by omega)
  cases q : c.S.getD 0 [] with
  | nil => exact absurd q ne
  | cons x xs =>
    have : x = 97 := ow x (by rw [q]; exact List.mem_cons_self)
    subst this
    have : 1 ≤ cnt (97 :: xs) := by
      unfold cnt
      have : lw (97 :: xs) = 97 :: lw xs := rfl
      rw [this, List.count_cons_self]
      omega
    omega
def hdS (ifx : List Nat → List Nat → Bool) (wh t : List Nat) : Bool := ifx wh t || ifx (fl wh) t
def hdR (ifx : List Nat → List Nat → Bool) (wh g : List Nat) : Bool := decide (wh.length ≤ g.length) && (ifx wh (g ++ g) || ifx (fl wh) (g ++ g))
theorem one_holds {cn : List Nat → List Nat} (C : Cn cn) {c : Cut} (ok : okC c) {A : List Nat} (hA : Rgs c A) (own : Own c.S) (hq : Pq c) {ifx : List Nat → List Nat → Bool} (hi : ∀ a b, ifx a b = true ↔ Ifx a b) :
    ∃ i : Nat, (hdS ifx c.S.flatten (stx c) :: (gtx cn c A).map (hdR ifx c.S.flatten))[i]? = some true ∧ ∀ j : Nat, (hdS ifx c.S.flatten (stx c) :: (gtx cn c A).map (hdR ifx c.S.flatten))[j]? = some true → j = i := by
  have tot : cnt (stx c) + ((gtx cn c A).map cnt).sum = cnt c.S.flatten := by
    have p := (letters C ok hA).count_eq 97
    have p : cnt (stx c ++ (gtx cn c A).flatten) = cnt (c.S.flatten ++ c.Q.flatten) := p
    rw [cnt_app, cnt_app, cnt_flat, cnt_q hq] at p
    omega
  have w1 := cnt_w ok.n1 own
  have wL : Lt c.S.flatten := fun x hx => by
    obtain ⟨a, ha, hx⟩ := List.mem_flatten.mp hx
    exact S_Lt ok a ha x hx
  have sH : hdS ifx c.S.flatten (stx c) = true ↔ (Ifx c.S.flatten (stx c) ∨ Ifx (fl c.S.flatten) (stx c)) := by
    unfold hdS
    rw [Bool.or_eq_true, hi, hi]
  have rH : ∀ g, hdR ifx c.S.flatten g = true ↔ c.S.flatten.length ≤ g.length ∧ (Ifx c.S.flatten (g ++ g) ∨ Ifx (fl c.S.flatten) (g ++ g)) := fun g => by
    unfold hdR
    rw [Bool.and_eq_true, Bool.or_eq_true, hi, hi, decide_eq_true_eq]
  have sC : hdS ifx c.S.flatten (stx c) = true → cnt c.S.flatten ≤ cnt (stx c) := fun h => by
    rcases sH.mp h with h | h
    · exact cnt_ifx h
    · have := cnt_ifx h
      rwa [cnt_fl wL] at this
  have rC : ∀ g, hdR ifx c.S.flatten g = true → 1 ≤ cnt g := fun g h => by
    have : cnt c.S.flatten ≤ cnt (g ++ g) := by
      rcases ((rH g).mp h).2 with h | h
      · exact cnt_ifx h
      · have := cnt_ifx h
        rwa [cnt_fl wL] at this
    rw [cnt_app] at this
    omega
  have at_ : ∀ j : Nat, ((gtx cn c A).map (hdR ifx c.S.flatten))[j]? = some true → ∃ g, (gtx cn c A)[j]? = some g ∧ 1 ≤ cnt g := fun j h => by
    rw [List.getElem?_map] at h
    obtain ⟨g, hg, e⟩ := Option.map_eq_some_iff.mp h
    exact ⟨g, hg, rC g e⟩
  rcases holds C ok hA own with h | ⟨a, ha, h1, h2, z, hz⟩
  · have hs := sH.mpr h
    refine ⟨0, by rw [hs]; rfl, fun j hj => ?_⟩
    cases j with
    | zero => rfl
    | succ j =>
      exfalso
      obtain ⟨g, hg, h3⟩ := at_ j hj
      have := sC hs
      have := mem_sum (List.mem_of_getElem? (show ((gtx cn c A).map cnt)[j]? = some (cnt g) by rw [List.getElem?_map, hg]; rfl))
      omega
  · obtain ⟨i, hi2⟩ := List.getElem?_of_mem ha
    have hg : (gtx cn c A)[i]? = some (cn (txt (cP c) (orb (cN c) (a, false)))) := by
      unfold gtx
      rw [List.getElem?_map, hi2]
      rfl
    generalize cn (txt (cP c) (orb (cN c) (a, false))) = g at *
    have hh := (rH g).mpr ⟨h1, h2⟩
    have big : cnt c.S.flatten ≤ cnt g := by
      have := hz.count_eq 97
      have : cnt g = cnt (c.S.flatten ++ z) := this
      rw [cnt_app] at this
      omega
    have hgc : ((gtx cn c A).map cnt)[i]? = some (cnt g) := by rw [List.getElem?_map, hg]; rfl
    have le := mem_sum (List.mem_of_getElem? hgc)
    refine ⟨i + 1, ?_, fun j hj => ?_⟩
    · show ((gtx cn c A).map (hdR ifx c.S.flatten))[i]? = _
      rw [List.getElem?_map, hg]
      exact congrArg some hh
    · cases j with
      | zero =>
        exfalso
        have := sC (Option.some.inj hj)
        omega
      | succ j =>
        obtain ⟨g', hg', h3⟩ := at_ j hj
        by_cases e : j = i
        · rw [e]
        · exfalso
          have := sum2 (show ((gtx cn c A).map cnt)[j]? = some (cnt g') by rw [List.getElem?_map, hg']; rfl) hgc e
          omega
theorem told_own {S : List (List Nat)} : Own (told S) where
  ne k h := by
    rw [told, List.length_mapIdx] at h
    rw [told, List.getD_eq_getElem?_getD, List.getElem?_mapIdx, List.getElem?_eq_getElem h]
    simp
  own k h x hx := by
    rw [told, List.length_mapIdx] at h
    rw [told, List.getD_eq_getElem?_getD, List.getElem?_mapIdx, List.getElem?_eq_getElem h] at hx
    exact (List.mem_replicate.mp hx).2
theorem pq_oth {c : Cut} (ok : okC c) (h : Pq c) : Pq (oth c) := by
  intro q hq x hx
  obtain ⟨b, hb, rfl⟩ := List.mem_map.mp hq
  obtain ⟨y, hy, rfl⟩ := List.mem_map.mp hx
  have hb := List.mem_reverse.mp hb
  have hy := List.mem_reverse.mp hy
  rw [lo1_sw ((ok.q5 b hb).1 y hy)]
  exact h b hb y hy
end MS
set_option maxHeartbeats 4000000
/-! canon, text in text -/
namespace MS
open PySem PySem.Spec PyProof.Rows L2 DL NL
theorem rots_mem {a b : List Nat} : b ∈ rots a ↔ ∃ x y, a = x ++ y ∧ b = y ++ x := by
  unfold rots
  rw [List.mem_map]
  constructor
  · rintro ⟨k, _, rfl⟩
    exact ⟨a.take k, a.drop k, (List.take_append_drop k a).symm, rfl⟩
  · rintro ⟨x, y, rfl, rfl⟩
    cases y with
    | nil => exact ⟨0, List.mem_range.mpr (by omega), by simp⟩
    | cons c y => exact ⟨x.length, List.mem_range.mpr (by simp; omega), by simp⟩
theorem rot_rot {x y p q : List Nat} (h : x ++ y = p ++ q) : ∃ s t, y ++ x = s ++ t ∧ q ++ p = t ++ s := by
  rcases List.append_eq_append_iff.mp h with ⟨r, h1, h2⟩ | ⟨r, h1, h2⟩
  · subst h1 h2
    exact ⟨r, q ++ x, by simp, by simp⟩
  · subst h1 h2
    exact ⟨y ++ p, r, by simp, by simp⟩
theorem rots_rot {x y b : List Nat} (h : b ∈ rots (x ++ y)) : b ∈ rots (y ++ x) := by
  obtain ⟨p, q, e, rfl⟩ := rots_mem.mp h
  exact rots_mem.mpr (rot_rot e)
theorem rds_rot {x y b : List Nat} (h : b ∈ rds (x ++ y)) : b ∈ rds (y ++ x) := by
  rcases List.mem_append.mp h with h | h
  · exact List.mem_append_left _ (rots_rot h)
  · refine List.mem_append_right _ ?_
    rw [fl_app] at h ⊢
    exact rots_rot h
theorem rds_tur {a b : List Nat} (l : Lt a) : b ∈ rds (fl a) ↔ b ∈ rds a := by
  unfold rds
  rw [fl_fl l, List.mem_append, List.mem_append]
  exact Or.comm
theorem canon_mem (a : List Nat) : canon a ∈ rds a := by
  refine getD_mem ?_
  have := (argBest_lt_le (fun i => rt ((rds a).getD i [])) ((rds a).length - 1)).1
  have := rds_pos a
  unfold best
  omega
theorem canon_min {a b : List Nat} (h : b ∈ rds a) : ¬ (rt b).cps.toList < (rt (canon a)).cps.toList := by
  obtain ⟨i, hi⟩ := List.getElem?_of_mem h
  have hl := (List.getElem?_eq_some_iff.mp hi).1
  have := (argBest_lt_le (fun i => rt ((rds a).getD i [])) ((rds a).length - 1)).2 i (by omega)
  have e : (rds a).getD i [] = b := by rw [List.getD_eq_getElem?_getD, hi] <;> rfl
  simp only [e] at this
  exact this
theorem rds_len {a b : List Nat} (h : b ∈ rds a) : b.length = a.length := by
  have key : ∀ {a b : List Nat}, b ∈ rots a → b.length = a.length := fun h => by
    obtain ⟨x, y, rfl, rfl⟩ := rots_mem.mp h
    rw [List.length_append, List.length_append, Nat.add_comm]
  rcases List.mem_append.mp h with h | h
  · exact key h
  · rw [key h, fl_len]
theorem rt_inj {a b : List Nat} (l : a.length = b.length) (h : (rt a).cps.toList = (rt b).cps.toList) : a = b := by
  unfold rt at h
  rw [tx_list, tx_list] at h
  have h := List.append_cancel_right h
  have h := List.append_cancel_left h
  unfold it1 at h
  by_cases ea : a = []
  · subst ea
    exact (List.eq_nil_of_length_eq_zero l.symm).symm
  · have eb : b ≠ [] := fun z => ea (List.eq_nil_of_length_eq_zero (by rw [l, z]; rfl))
    rwa [if_neg ea, if_neg eb] at h
theorem lst_anti {a b : List Nat} (h : ¬ a < b) (g : ¬ b < a) : a = b := List.le_antisymm (List.not_lt.mp g) (List.not_lt.mp h)
theorem canon_uniq {a c : List Nat} (h : c ∈ rds a) (m : ∀ b ∈ rds a, ¬ (rt b).cps.toList < (rt c).cps.toList) : canon a = c := by
  refine rt_inj ((rds_len (canon_mem a)).trans (rds_len h).symm) ?_
  exact lst_anti (m _ (canon_mem a)) (canon_min h)
theorem canon_cn : Cn canon where
  rot x y := canon_uniq (rds_rot (canon_mem _)) fun b hb => canon_min (rds_rot hb)
  tur a l := canon_uniq ((rds_tur l).mpr (canon_mem _)) fun b hb => canon_min ((rds_tur l).mp hb)
  mem a := by
    rcases List.mem_append.mp (canon_mem a) with h | h
    · obtain ⟨x, y, e, e2⟩ := rots_mem.mp h
      exact ⟨x, y, .inl e, e2⟩
    · obtain ⟨x, y, e, e2⟩ := rots_mem.mp h
      exact ⟨x, y, .inr e, e2⟩
theorem inT_iff (a b : List Nat) : inT a b = true ↔ Ifx a b := by
  unfold inT inText
  rw [StrLaws.found_iff]
  constructor
  · rintro ⟨i, h1, h2⟩
    rw [StrLaws.subAt_eq, tx_list, tx_list, tx_len, beq_iff_eq] at h2
    refine ⟨b.take i, b.drop (i + a.length), ?_⟩
    have e : b = b.take i ++ ((b.drop i).take a.length ++ (b.drop i).drop a.length) := by rw [List.take_append_drop, List.take_append_drop]
    rw [h2, List.drop_drop] at e
    rw [List.append_assoc]
    exact e
  · rintro ⟨x, y, rfl⟩
    refine ⟨x.length, ?_, ?_⟩
    · rw [tx_len, tx_len, List.length_append, List.length_append]
      omega
    · rw [StrLaws.subAt_eq, tx_list, tx_list, tx_len, beq_iff_eq, List.append_assoc, List.drop_left, List.take_left]
end MS
set_option maxHeartbeats 4000000
/-! what joining finds of a scrambled row -/
namespace MS
open PySem PySem.Spec PyProof.Rows L2 DL NL
theorem vals_num (M : List Mk1) (n : List Nat) : (vals (M.mapIdx fun i m => (tx m.1, D.int (i : Nat))) (tx n)).length = (occ M n).length := by
  have e : (M.mapIdx fun i m => (tx m.1, D.int (i : Nat))) = (idx M).map fun p => (tx p.2.1, D.int (p.1 : Nat)) := by
    unfold idx
    apply List.ext_getElem?
    intro i
    simp
    cases M[i]? <;> rfl
  unfold vals occ
  rw [e, List.filter_map, List.length_map, List.length_map]
  congr 1
  congr 1
  funext p
  show decide (tx p.2.1 = tx n) = _
  rw [decide_eq_decide]
  exact ⟨fun h => tx_inj h, fun h => by rw [h]⟩
theorem num_key (M : List Mk1) (k : Str) : k ∈ (numT M).map (·.1) ↔ ∃ m ∈ M, tx m.1 = k := by
  have := (tab_ok (M.mapIdx fun i m => (tx m.1, D.int (i : Nat)))).key k
  refine this.trans ?_
  rw [List.mem_map]
  constructor
  · rintro ⟨q, hq, rfl⟩
    obtain ⟨i, hi, rfl⟩ := List.mem_mapIdx.mp hq
    exact ⟨_, List.getElem_mem hi, rfl⟩
  · rintro ⟨m, hm, rfl⟩
    obtain ⟨i, hi, rfl⟩ := List.getElem_of_mem hm
    exact ⟨_, List.mem_mapIdx.mpr ⟨i, hi, rfl⟩, rfl⟩
theorem num_ent (M : List Mk1) : ∀ q ∈ numT M, ∃ m ∈ M, tx m.1 = q.1 ∧ q.2.length = (occ M m.1).length := fun q hq => by
  have e := (tab_ok (M.mapIdx fun (i : Nat) (m : Mk1) => (tx m.1, D.int (i : Nat)))).ent q hq
  obtain ⟨m, hm, e2⟩ := (num_key M q.1).mp (List.mem_map.mpr ⟨q, hq, rfl⟩)
  exact ⟨m, hm, e2, by rw [e, ← e2, vals_num]⟩
def nsT (M : List Mk1) : List (List Nat) := (numT M).map fun q => q.1.cps.toList
theorem nsT_tx (M : List Mk1) : (numT M).map (·.1) = (nsT M).map tx := by
  unfold nsT
  rw [List.map_map]
  exact List.map_congr_left fun q _ => tx_of q.1
theorem nsT_mem (M : List Mk1) (n : List Nat) : n ∈ nsT M ↔ ∃ m ∈ M, m.1 = n := by
  have := num_key M (tx n)
  rw [nsT_tx] at this
  constructor
  · intro h
    obtain ⟨m, hm, e⟩ := this.mp (List.mem_map.mpr ⟨n, h, rfl⟩)
    exact ⟨m, hm, tx_inj e⟩
  · rintro ⟨m, hm, rfl⟩
    obtain ⟨n', h, e⟩ := List.mem_map.mp (this.mpr ⟨m, hm, rfl⟩)
    rw [← tx_inj e]
    exact h
theorem nsT_nd (M : List Mk1) : (nsT M).Nodup := by
  have := (tab_ok (M.mapIdx fun i m => (tx m.1, D.int (i : Nat)))).nd
  have e : (nsT M).map tx = _ := (nsT_tx M).symm
  have nd : ((nsT M).map tx).Nodup := by
    rw [e]
    exact this
  generalize nsT M = l at *
  clear e this
  induction l with
  | nil => exact List.nodup_nil
  | cons x l ih =>
    rw [List.map_cons, List.nodup_cons] at nd
    exact List.nodup_cons.mpr ⟨fun h => nd.1 (List.mem_map.mpr ⟨x, h, rfl⟩), ih nd.2⟩
section
variable {c : Cut} (ok : okC c)
include ok
theorem names_of : ∀ m ∈ cM c, m.1 ∈ c.N := fun m hm => by
  obtain ⟨g, hg⟩ := List.getElem?_of_mem hm
  obtain ⟨k, hk, e, _⟩ := M_inv ok hg
  rw [e]
  have := ok.n
  exact getD_mem (by omega)
theorem nsT_len : (nsT (cM c)).length ≤ 12 := by
  have := nd_len (nsT_nd (cM c)) (X := c.N) fun n hn => by
    obtain ⟨m, hm, rfl⟩ := (nsT_mem _ _).mp hn
    exact names_of ok m hm
  have := ok.n
  have := ok.n2
  omega
theorem c_num : (∀ q ∈ numT (cM c), q.2.length = 2) ∧ (numT (cM c)).length ≤ 12 := by
  refine ⟨fun q hq => ?_, ?_⟩
  · obtain ⟨m, hm, _, e⟩ := num_ent (cM c) q hq
    rw [e]
    obtain ⟨f, s, u, v, ho, _⟩ := (c_pa ok m hm).ex
    rw [ho]
    rfl
  · have := nsT_len ok
    unfold nsT at this
    rwa [List.length_map] at this
theorem c_net {A : List Nat} (hA : Rgs c A) : Net (cP c) (cM c) (orb (cN c) (0, false)) (A.map fun i => orb (cN c) (i, false)) := by
  have S := c_sys ok
  have G := c_gd ok
  have ml := cM_len ok
  have pl := cP_len ok
  have z : ((0, false) : End).1 ≤ (cM c).length := Nat.zero_le _
  have tot := parts_len canon_cn ok hA
  have olen : ∀ {a : End}, a.1 ≤ (cM c).length → (orb (cN c) a).length ≤ 1000 ∧ orb (cN c) a ≠ [] := fun {a} h => by
    have p := S.per h
    have := S.per_le h
    have l : (orb (cN c) a).length = prd (cN c) a := tr_len _ _ _
    refine ⟨by omega, fun e => ?_⟩
    rw [e] at l
    have := p.pos
    simp at l
    omega
  have ob : ∀ {a : End}, a.1 ≤ (cM c).length → ∀ e ∈ orb (cN c) a, e.1 < (cP c).length := fun {a} h e he => by
    have := S.or_rng h ((S.orb_mem h).mp he)
    omega
  refine ⟨c_okR ok, by omega, ⟨nsT (cM c), nsT_tx _, fun n hn => ?_, nsT_nd _, nsT_len ok, fun n hn => ?_, fun e => ?_⟩, G.strand, (olen z).1, ob z, fun e he q => ?_, ?_, hA.rg, ?_, ?_, fun r hr => ?_, fun r hr => ?_, fun r hr => ?_⟩
  · obtain ⟨m, hm, rfl⟩ := (nsT_mem _ _).mp hn
    exact (c_okR ok).n m hm
  · obtain ⟨m, hm, rfl⟩ := (nsT_mem _ _).mp hn
    exact c_pa ok m hm
  · unfold LkN
    cases q : mkAt (cM c) e with
    | none =>
      unfold Lk
      rw [q]
    | some p =>
      obtain ⟨g, m⟩ := p
      have hm : m ∈ cM c := by
        unfold mkAt at q
        obtain ⟨g', _, q2⟩ := Option.bind_eq_some_iff.mp q
        obtain ⟨m', h1, h2⟩ := Option.map_eq_some_iff.mp q2
        have : m' = m := (Prod.mk.inj h2).2
        rw [← this]
        exact List.mem_of_getElem? h1
      exact if_pos ((nsT_mem _ _).mpr ⟨m, hm, rfl⟩)
  · have r : e.1 ≤ (cM c).length := S.or_rng z ((S.orb_mem z).mp he)
    exact G.out (fp e) r q
  · have : (txt (cP c) (orb (cN c) (0, false))).length ≤ 121 := by
      have : (stx c).length ≤ 121 := by omega
      exact this
    omega
  · rw [List.length_map]
    have := A_len canon_cn ok hA
    omega
  · rw [List.length_map]
    have := A_len canon_cn ok hA
    omega
  · obtain ⟨i, hi, rfl⟩ := List.mem_map.mp hr
    exact ob (hA.a1 i hi).1
  · obtain ⟨i, hi, rfl⟩ := List.mem_map.mp hr
    refine ⟨?_, txt_Lt (cP_Lt ok) _⟩
    have : canon (txt (cP c) (orb (cN c) (i, false))) ∈ gtx canon c A := List.mem_map.mpr ⟨i, hi, rfl⟩
    have := len_flat this
    rw [canon_cn.len] at this
    omega
  · obtain ⟨i, hi, rfl⟩ := List.mem_map.mp hr
    exact ⟨(olen (a := (i, false)) (hA.a1 i hi).1).2, (olen (a := (i, false)) (hA.a1 i hi).1).1⟩
theorem gtx_eq (A : List Nat) : (A.map fun i => orb (cN c) (i, false)).map (fun r => canon (txt (cP c) r)) = gtx canon c A := by
  rw [List.map_map]
  rfl
end
end MS
set_option maxHeartbeats 4000000
/-! law_right -/
namespace MS
open PySem PySem.Spec PyProof.Rows L2 DL NL
section
variable {P : Program} {w : World} {K : PySem.W.Frag} {mg' : Str → Option Value} {base : Heap}
def sp_law_right : Fsp := fun ds R => ∃ c A, ds = [.lst (cutDs c)] ∧ okC c ∧ Own c.S ∧ Pq c ∧ Rgs c A ∧ ∀ ss : List Str, ss.Perm ((gtx canon c A).map rt) → SortedT ss → R (.lst (ss.map D.str))
theorem tx_sum (l : List (List Nat)) : ((l.map tx).map (·.length)).sum = l.flatten.length := by
  induction l with
  | nil => rfl
  | cons a l ih => rw [List.map_cons, List.map_cons, List.sum_cons, ih, tx_len, List.flatten_cons, List.length_append]
/-- a part: the strip or a ring -/
def prD (K : PySem.W.Frag) (p : Bool × List Nat) : D := if p.1 = true then stripD K [p.2] [] else ringD K p.2
theorem prD_inj (W : W0 K mg') {p q : Bool × List Nat} (h : prD K p = prD K q) : p = q := by
  have ne : ¬ He.ga K (Str.ofString "Strip") = He.ga K (Str.ofString "Ring") := (W.two 57 62 rfl rfl).ne
  obtain ⟨b, a⟩ := p
  obtain ⟨b', a'⟩ := q
  cases b <;> cases b'
  · have h : ringD K a = ringD K a' := h
    simp at h
    exact Prod.ext rfl (tx_inj h)
  · have h : ringD K a = stripD K [a'] [] := h
    simp at h
  · have h : stripD K [a] [] = ringD K a' := h
    simp at h
  · have h : stripD K [a] [] = stripD K [a'] [] := h
    simp [row, itD] at h
    exact Prod.ext rfl (tx_inj h)
theorem eqv_strs : ∀ ss : List Str, PyData.eqvAll (pys (ss.map D.str)) (pys (ss.map D.str)) = true
  | [] => rfl
  | s :: ss => by
    show ((s == s) && PyData.eqvAll (pys (ss.map D.str)) (pys (ss.map D.str))) = true
    rw [eqv_strs ss, beq_self_eq_true]
    rfl
theorem shp_strs {ss : List Str} (h : ∀ s ∈ ss, ∀ c ∈ s.cps.toList, c < 128) : shp (.lst (ss.map D.str)) = true := shp_of (n := 2) (shD_lst fun d hd => by
  obtain ⟨s, hs, rfl⟩ := List.mem_map.mp hd
  rw [tx_of s]
  exact shD_tx (h s hs)) (by decide)
theorem sorted_eq {ss tt : List Str} (h1 : SortedT ss) (h2 : SortedT tt) (p : ss.Perm tt) : ss = tt :=
  List.Perm.eq_of_pairwise (fun a b _ _ x y => by
    have := lst_anti y x
    rw [tx_of a, tx_of b, this]) h1 h2 p
theorem filt1 {α : Type} (h : α → Bool) : ∀ (L : List α) (i : Nat), (L.map h)[i]? = some true → (∀ j : Nat, (L.map h)[j]? = some true → j = i) → ∃ a, L[i]? = some a ∧ h a = true ∧ ∀ off, ((L.mapIdx fun k a => (k + off, a)).filter fun q => h q.2) = [(i + off, a)]
  | [], i, h1, _ => by simp at h1
  | x :: L, 0, h1, h2 => by
    have h1 : h x = true := by simpa using h1
    refine ⟨x, rfl, h1, fun off => ?_⟩
    rw [List.mapIdx_cons, List.filter_cons]
    have : (L.mapIdx fun k a => (k + 1 + off, a)).filter (fun q => h q.2) = [] := by
      rw [List.filter_eq_nil_iff]
      intro q hq e
      obtain ⟨k, hk, rfl⟩ := List.mem_mapIdx.mp hq
      have := h2 (k + 1) (by
        show (L.map h)[k]? = _
        rw [List.getElem?_map, List.getElem?_eq_getElem hk]
        exact congrArg some e)
      omega
    rw [this]
    simp [h1]
  | x :: L, i + 1, h1, h2 => by
    have h1 : (L.map h)[i]? = some true := h1
    have hx : h x = false := by
      cases q : h x with
      | false => rfl
      | true =>
        have := h2 0 (by simp [q])
        omega
    obtain ⟨a, e1, e2, e3⟩ := filt1 h L i h1 fun j hj => by
      have := h2 (j + 1) hj
      omega
    refine ⟨a, e1, e2, fun off => ?_⟩
    rw [List.mapIdx_cons, List.filter_cons]
    have := e3 (off + 1)
    have f : (fun (k : Nat) (a : α) => (k + 1 + off, a)) = fun k a => (k + (off + 1), a) := by
      funext k a
      rw [Nat.add_right_comm, Nat.add_assoc]
    rw [f, this]
    simp [hx]
    omega
def bof : D → Bool
  | .bl b => b
  | _ => false
def hb (wh : List Nat) (p : Bool × List Nat) : Bool := if p.1 = true then hdS inT wh p.2 else hdR inT wh p.2
theorem c_law_right (W : W0 K mg') : DefF P w K mg' base "_law_right" ["_law_cut_here"] 11 (SpF sp_law_right) := by
  refine g_law_right W (c_join_all W) (c_scramble W) (c_law_parts W) (c_Strip_len W) (c_Ring_len W) (c_Strip_row W) (c_Ring_row W) (c_law_folded W) (c_contains W) (c_law_turned W) (c_Ring_str W) ?_ ?_
  · rintro ds Kd ⟨_, _, rfl, _⟩
    rfl
  · rintro ds Kd ⟨c, A, rfl, ok, own, hq, hA, k⟩
    have i0 : atI (cutDs c) 0 = some (txsD c.S) := atI_nat (k := 0) rfl
    have i1 : atI (cutDs c) 1 = some (.lst (c.O.map fun k => .int (k : Nat))) := atI_nat (k := 1) rfl
    have i2 : atI (cutDs c) 2 = some (.lst (c.F.map D.bl)) := atI_nat (k := 2) rfl
    have i3 : atI (cutDs c) 3 = some (txsD c.Q) := atI_nat (k := 3) rfl
    have i4 : atI (cutDs c) 4 = some (txsD c.N) := atI_nat (k := 4) rfl
    simp [R_law_right, i0, i1, i2, i3, i4, init, initO, endsO, dRet, dSeq, dNext, dDrop, dIfS, dSet, dAsg, dPar, dPar3, dNever, dNo1, dVar, dC, dOp, dChain, dB, dAnd, dOr, dNot, dAndV, dOrV, dNotV, dIf, dNil, dCons, dTup, dLst, dCall, dIsi, dIsi2, tyD, isaT, dAdd, dSub, dMul, dMod, dDiv, dPow, dInt2, dLt, dLe, dGt, dGe, dEq, dNe, dIsN, dNotN, dInSign, dInText, dNotInText, dIx, dSl, dPart, dNo, dCut, dRev, dRevS, dM0, dLen, dAll, dAny, dMax2, dMin2, dList, dgName, dgNil, dgCons, dgTup, dgLst, dItL, dItT, dItR, dItE, dItZ, dItS, dYes, wipeG, noOwn, dMulS, dLstN, dSetN, dCatN, dOwnIx, dOwnLen, dOwnOp, dOpOwn, dApp, dExt, dPopAt, isOwn, isOwnL, dSetIx, dFrz, OD.d, DL.scal, dFld, dOwnFld, getF, dSetF, dMake, dMeth, dEither, dIsiC, dIsiSR, dJoin, dTextOf, dJoined3, dListN, dParN, dLc]
    obtain ⟨n2, n12⟩ := c_num ok
    have net := c_net ok hA
    refine ⟨c, cP c, cM c, rfl, ok, its_row c, c_okR ok, n2, n12, cP c, cM c, _, _, rfl, net, fun s n p => ?_⟩
    rw [gtx_eq ok]
    have tot := parts_len canon_cn ok hA
    have Al := A_len canon_cn ok hA
    have gl : (gtx canon c A).length ≤ 27 := by
      unfold gtx
      rw [List.length_map]
      exact Al
    have okT : okP (stx c) := ⟨by omega, txt_Lt (cP_Lt ok) _⟩
    have okG : ∀ g ∈ gtx canon c A, okP g := fun g hg => by
      refine ⟨by have := len_flat hg; omega, ?_⟩
      obtain ⟨i, _, rfl⟩ := List.mem_map.mp hg
      exact canon_cn.cLt (txt_Lt (cP_Lt ok) _)
    show ∃ ys : List Str, _ ∧ _
    refine ⟨c.S.map tx, by rw [List.map_map]; rfl, ?_, s, n, p, stx c, gtx canon c A, rfl, okT, by omega, by decide, ?_⟩
    · rw [tx_sum]
      have := tot
      have h := (letters canon_cn ok hA).length_eq
      rw [List.length_map, List.length_map, List.length_append, List.length_append] at h
      show _ + _ * 0 ≤ _
      omega
    have tot2 : (c.S.flatten ++ c.Q.flatten).length ≤ 121 := by
      have := (letters canon_cn ok hA).length_eq
      rw [List.length_map, List.length_map, List.length_append] at this
      omega
    have one := one_holds canon_cn ok hA own hq inT_iff
    have lts := letters canon_cn ok hA
    generalize eT : stx c = T at *
    generalize eG : gtx canon c A = G at *
    have ePL : stripD K [T] [] :: G.map (ringD K) = ((true, T) :: G.map fun g => (false, g)).map (prD K) := by
      rw [List.map_cons, List.map_map]
      rfl
    have e2 : (((true, T) :: G.map fun g => (false, g)).map fun p : Bool × List Nat => tx p.2) = (T :: G).map tx := by
      rw [List.map_cons, List.map_map, List.map_cons]
      rfl
    have lPL : ((true, T) :: G.map fun g => (false, g)).length ≤ 28 := by
      rw [List.length_cons, List.length_map]
      omega
    have okPL : ∀ p ∈ (true, T) :: G.map fun g => (false, g), okP p.2 := fun p hp => by
      rcases List.mem_cons.mp hp with rfl | hp
      · exact okT
      · obtain ⟨g, hg, rfl⟩ := List.mem_map.mp hp
        exact okG g hg
    rw [txjoin, ePL]
    generalize hPL : ((true, T) :: G.map fun g => (false, g)) = PL at *
    have sl : ∀ l : List D, l.filter (fun _ => false) = [] := fun l => List.filter_eq_nil_iff.mpr fun _ _ h => nomatch h
    refine ⟨by rw [List.length_map]; exact sz (by omega), fun _ => false, fun d => d, fun d hd => ?_, ?_⟩
    · obtain ⟨⟨b, a⟩, hp, rfl⟩ := List.mem_map.mp hd
      cases b with
      | true =>
        left
        exact ⟨_, _, rfl, [a], [], rfl, _, rfl, Int.natCast_nonneg _, by decide, rfl, fun h => nomatch h⟩
      | false =>
        right
        exact ⟨_, _, rfl, a, rfl, 0, rfl, Int.le_refl _, by decide, rfl, fun h => nomatch h⟩
    rw [sl, List.map_nil]
    refine ⟨rfl, rfl, ?_⟩
    rw [if_pos (by rw [eqv_nil]; rfl)]
    obtain ⟨f1, hf1⟩ := fn_of PL (prD K) (fun p => D.str (tx p.2)) fun x y _ _ e => by rw [prD_inj W e]
    refine ⟨by rw [List.length_map]; exact sz (by omega), fun _ => true, f1, fun d hd => ?_, (T :: G).map tx, ?_, ?_, ?_⟩
    · obtain ⟨⟨b, a⟩, hp, rfl⟩ := List.mem_map.mp hd
      refine ⟨rfl, fun _ => ?_⟩
      have hfp := hf1 _ hp
      cases b with
      | true =>
        left
        exact ⟨_, _, rfl, rfl, [a], [], rfl, _, rfl, hfp.symm⟩
      | false =>
        right
        exact ⟨_, _, rfl, rfl, a, rfl, _, rfl, hfp.symm⟩
    · rw [filter_tr, List.map_map, ← e2, List.map_map]
      exact List.map_congr_left hf1
    · rw [tx_sum]
      show (T :: G).flatten.length + _ * 0 ≤ _
      rw [List.flatten_cons, List.length_append]
      omega
    rw [txjoin]
    have eT2 : (T :: G).flatten = T ++ G.flatten := List.flatten_cons
    have wL : Lt c.S.flatten := fun x hx => by
      obtain ⟨a, ha, hx⟩ := List.mem_flatten.mp hx
      exact S_Lt ok a ha x hx
    have qL : Lt c.Q.flatten := fun x hx => by
      obtain ⟨a, ha, hx⟩ := List.mem_flatten.mp hx
      exact (ok.q5 a ha).1 x hx
    have gL : Lt G.flatten := fun x hx => by
      obtain ⟨a, ha, hx⟩ := List.mem_flatten.mp hx
      exact (okG a ha).2 x hx
    have wl : c.S.flatten.length ≤ 121 := by
      rw [List.length_append] at tot2
      omega
    have ql : c.Q.flatten.length ≤ 121 := by
      rw [List.length_append] at tot2
      omega
    have asc : ∀ {a : List Nat} {ss : List Str}, Lt a → ss.Perm (a.map fun c => tx [lo1 c]) → ∀ s ∈ ss, ∀ c ∈ s.cps.toList, c < 128 := fun {a ss} ha p s hs c hc => by
      obtain ⟨x, hx, rfl⟩ := List.mem_map.mp (p.mem_iff.mp hs)
      rw [tx_list, List.mem_singleton] at hc
      have := ha.asc x hx
      rw [hc]
      unfold lo1
      split <;> omega
    refine ⟨_, rfl, ⟨by rw [eT2, List.length_append]; omega, by rw [eT2]; exact okT.2.app gL⟩, fun s1 p1 t1 => ⟨c.Q.map tx, by rw [List.map_map]; rfl, ?_, ?_⟩⟩
    · rw [tx_sum]
      show c.Q.flatten.length + _ * 0 ≤ _
      omega
    rw [txjoin, tx_app, tx_len, tx_len]
    refine ⟨sz (by omega), _, rfl, ⟨by omega, wL.app qL⟩, fun s2 p2 t2 => ?_⟩
    have s12 : s1 = s2 := by
      refine sorted_eq t1 t2 (p1.trans (.trans ?_ p2.symm))
      rw [eT2]
      have := lts.map (fun c => tx [c])
      rw [List.map_map, List.map_map] at this
      exact this
    have sh1 := shp_strs (asc (by rw [eT2]; exact okT.2.app gL) p1)
    subst s12
    refine ⟨sh1, sh1, ?_⟩
    have ev : (py (.lst (s1.map D.str))).eqv (py (.lst (s1.map D.str))) = true := eqv_strs s1
    rw [ev]
    show (enumD (PL.map (prD K))).length ≤ _ ∧ _
    have eQ : enumD (PL.map (prD K)) = (PL.mapIdx fun k a => (k + 0, a)).map fun q => D.tup [.int (q.1 : Nat), prD K q.2] := by
      apply List.ext_getElem?
      intro i
      simp [enumD]
      cases PL[i]? <;> rfl
    rw [eQ]
    have okwh : okP c.S.flatten := ⟨by omega, wL⟩
    have eH : hdS inT c.S.flatten T :: G.map (hdR inT c.S.flatten) = PL.map (hb c.S.flatten) := by
      rw [← hPL, List.map_cons, List.map_map]
      rfl
    rw [eH] at one
    obtain ⟨i, o1, o2⟩ := one
    obtain ⟨⟨b, a⟩, e1, h1, e3⟩ := filt1 (hb c.S.flatten) PL i o1 o2
    have e3 := e3 0
    have pin : (b, a) ∈ PL := List.mem_of_getElem? e1
    have qmem : ∀ q ∈ PL.mapIdx (fun k a => (k + 0, a)), q.2 ∈ PL := fun q hq => by
      obtain ⟨k, hk, rfl⟩ := List.mem_mapIdx.mp hq
      exact List.getElem_mem hk
    have ql : (PL.mapIdx fun k a => (k + 0, a)).length ≤ 28 := by
      rw [List.length_mapIdx]
      exact lPL
    generalize (PL.mapIdx fun k a => (k + 0, a)) = QL at *
    have enc : ∀ x y : Nat × Bool × List Nat, D.tup [.int (x.1 : Nat), prD K x.2] = D.tup [.int (y.1 : Nat), prD K y.2] → x = y := fun x y e => by
      injection e with e
      have h1 := (List.cons.inj e).1
      have h2 := (List.cons.inj (List.cons.inj e).2).1
      injection h1 with h1
      exact Prod.ext (by omega) (prD_inj W h2)
    obtain ⟨f2, hf2⟩ := fn_of QL (fun q => D.tup [.int (q.1 : Nat), prD K q.2]) (fun q => D.int (q.1 : Nat)) fun x y _ _ e => by rw [enc x y e]
    obtain ⟨g2, hg2⟩ := fn_of QL (fun q => D.tup [.int (q.1 : Nat), prD K q.2]) (fun q => D.bl (hb c.S.flatten q.2)) fun x y _ _ e => by rw [enc x y e]
    refine ⟨by rw [List.length_map]; exact sz (by omega), fun d => bof (g2 d), f2, fun d hd => ?_, ?_⟩
    · obtain ⟨⟨k, b, a⟩, hp, rfl⟩ := List.mem_map.mp hd
      refine ⟨rfl, rfl, ?_⟩
      have h3 := hf2 _ hp
      have h4 := hg2 _ hp
      have hq := okPL _ (qmem _ hp)
      have h5 : bof (g2 (D.tup [D.int (k : Nat), prD K (b, a)])) = hb c.S.flatten (b, a) := by rw [h4]; rfl
      refine ⟨prD K (b, a), c.S.flatten, a, rfl, okwh, hq, ?_⟩
      cases b with
      | true =>
        left
        exact ⟨rfl, h5.symm, fun _ => h3.symm⟩
      | false =>
        right
        exact ⟨rfl, h5.symm, fun _ => h3.symm⟩
    have fl1 : (QL.map fun q => D.tup [.int (q.1 : Nat), prD K q.2]).filter (fun d => bof (g2 d)) = [D.tup [.int (i : Nat), prD K (b, a)]] := by
      rw [List.filter_map]
      have : QL.filter ((fun d => bof (g2 d)) ∘ fun q => D.tup [.int (q.1 : Nat), prD K q.2]) = QL.filter fun q => hb c.S.flatten q.2 := by
        refine List.filter_congr fun q hq => ?_
        show bof (g2 (D.tup [.int (q.1 : Nat), prD K q.2])) = _
        rw [hg2 q hq]
        rfl
      rw [this, e3]
      rfl
    rw [fl1]
    have imem : (i, b, a) ∈ QL := by
      have : (i + 0, b, a) ∈ QL.filter fun q => hb c.S.flatten q.2 := by
        rw [e3]
        exact List.mem_singleton.mpr rfl
      exact (List.mem_filter.mp this).1
    have f2i : f2 (D.tup [.int (i : Nat), prD K (b, a)]) = .int (i : Nat) := hf2 _ imem
    rw [List.length_singleton, if_pos (by decide)]
    have at0 : atI [D.int (i : Nat)] 0 = some (.int (i : Nat)) := rfl
    rw [List.map_cons, List.map_nil, f2i]
    refine ⟨_, at0, ?_⟩
    have rowsE : List.map f1 (List.filter (fun x => true) (List.map (prD K) PL)) = PL.map fun p => D.str (tx p.2) := by
      rw [filter_tr, List.map_map]
      exact List.map_congr_left hf1
    rw [rowsE]
    show ∃ d, atI _ _ = some d ∧ _
    refine ⟨_, atI_nat (by rw [List.getElem?_map, e1] <;> rfl), _, at0, ?_⟩
    show ∃ d, atI _ _ = some d ∧ _
    refine ⟨_, atI_nat (by rw [List.getElem?_map, e1] <;> rfl), ?_⟩
    have okA := okPL _ pin
    have ne : ¬ He.ga K (Str.ofString "Strip") = He.ga K (Str.ofString "Ring") := (W.two 57 62 rfl rfl).ne
    have tl : PL.tail = G.map fun g => (false, g) := by rw [← hPL] <;> rfl
    have inN : ∀ {x : List Nat}, inT c.S.flatten x = false → (inT c.S.flatten x = true ∨ inT (fl c.S.flatten) x = true) → inT c.S.flatten (fl x) = true := fun {x} h h2 => by
      rcases h2 with h2 | h2
      · rw [h] at h2
        cases h2
      · have := ((inT_iff _ _).mp h2).fl
        rw [fl_fl wL] at this
        exact (inT_iff _ _).mpr this
    unfold inT at inN
    have cE : cutL (PL.map (prD K)) (some 1) none = G.map (ringD K) := by
      rw [cutL_one, ← hPL, List.map_cons, List.map_map]
      rfl
    have fin : (cutL (PL.map (prD K)) (some 1) none).length ≤ sizeLine ∧ ∃ (p : D → Bool) (f : D → D), (∀ d, d ∈ cutL (PL.map (prD K)) (some 1) none → p d = true ∧ (p d = true → dStrO (He.ga K (Str.ofString "Ring")) (sp_Ring_str K) [d] fun d_1 => d_1 = f d)) ∧ dSorted [D.lst (List.map f (List.filter p (cutL (PL.map (prD K)) (some 1) none)))] fun d => Kd d := by
      rw [cE]
      obtain ⟨f3, hf3⟩ := fn_of G (ringD K) (fun g => D.str (rt g)) fun x y _ _ e => by
        have := prD_inj W (p := (false, x)) (q := (false, y)) e
        rw [(Prod.mk.inj this).2]
      refine ⟨by rw [List.length_map]; exact sz (by omega), fun _ => true, f3, fun d hd => ⟨rfl, fun _ => ?_⟩, ?_⟩
      · obtain ⟨g, hg, rfl⟩ := List.mem_map.mp hd
        exact ⟨_, _, rfl, g, rfl, okG g hg, _, rfl, (hf3 g hg).symm⟩
      · rw [filter_tr]
        refine ⟨G.map rt, ?_, fun ss p q => k ss p q⟩
        rw [List.map_map, List.map_map]
        exact List.map_congr_left hf3
    cases b with
    | true =>
      refine ⟨_, ⟨_, _, rfl⟩, .inl rfl, ?_⟩
      rw [if_neg ne]
      have h1 : (inT c.S.flatten a || inT (fl c.S.flatten) a) = true := h1
      rw [Bool.or_eq_true] at h1
      unfold inT at h1
      show if (!inText (tx c.S.flatten) (tx a)) = true then _ else _
      cases e : inText (tx c.S.flatten) (tx a) with
      | true =>
        rw [if_neg (by decide)]
        exact fin
      | false =>
        rw [if_pos (by decide)]
        refine ⟨a, rfl, okA, ?_⟩
        show if (!inText (tx c.S.flatten) (tx (fl a))) = true then _ else _
        rw [inN e h1, if_neg (by decide)]
        exact fin
    | false =>
      have h1 : (decide (c.S.flatten.length ≤ a.length) && (inT c.S.flatten (a ++ a) || inT (fl c.S.flatten) (a ++ a))) = true := h1
      rw [Bool.and_eq_true, Bool.or_eq_true] at h1
      have h1 := h1.2
      unfold inT at h1
      have al : a.length ≤ 121 := by
        rw [← hPL] at pin
        rcases List.mem_cons.mp pin with e | hp
        · injection e with e _
          cases e
        · obtain ⟨g, hg, e⟩ := List.mem_map.mp hp
          have : g = a := (Prod.mk.inj e).2
          rw [← this]
          have := len_flat hg
          omega
      refine ⟨_, ⟨_, _, rfl⟩, .inr rfl, ?_⟩
      rw [if_pos rfl]
      show (tx a).length + (tx a).length ≤ sizeLine ∧ _
      rw [tx_len]
      refine ⟨sz (by omega), ?_⟩
      show if (!inText (tx c.S.flatten) (tx a ++ tx a)) = true then _ else _
      rw [tx_app]
      cases e : inText (tx c.S.flatten) (tx (a ++ a)) with
      | true =>
        rw [if_neg (by decide)]
        exact fin
      | false =>
        rw [if_pos (by decide)]
        refine ⟨a ++ a, rfl, ⟨by rw [List.length_append]; omega, okA.2.app okA.2⟩, ?_⟩
        show if (!inText (tx c.S.flatten) (tx (fl (a ++ a)))) = true then _ else _
        rw [inN e h1, if_neg (by decide)]
        exact fin
end
end MS
set_option maxHeartbeats 4000000
/-! law -/
namespace MS
open PySem PySem.Spec PyProof.Rows L2 DL NL
section
variable {P : Program} {w : World} {K : PySem.W.Frag} {mg' : Str → Option Value} {base : Heap}
def sp_law (K : PySem.W.Frag) : Fsp := fun ds R => ∃ ns : List Int, ds = [.scr K ns] ∧ ns.length ≤ 63 ∧ R (.bl true)
theorem okPQ.lt {q : List Nat} (h : okPQ q) : Lt q ∧ q.length ≤ 4 := ⟨fun c hc => by
  rw [let_iff]
  have := h.2 c hc
  omega, h.1⟩
def tld (c : Cut) : Cut := ⟨told c.S, c.O, c.F, c.Q, c.N⟩
theorem told_len (S : List (List Nat)) : (told S).length = S.length := by simp [told]
theorem told_mem {S : List (List Nat)} {a : List Nat} (h : a ∈ told S) : ∃ k b, k < S.length ∧ b ∈ S ∧ a = List.replicate (b.length + 1) (97 + k) := by
  obtain ⟨k, hk, rfl⟩ := List.mem_mapIdx.mp h
  exact ⟨k, S[k], hk, List.getElem_mem hk, rfl⟩
theorem Raw.ok {c : Cut} (r : Raw c) : okC (tld c) where
  n1 := by rw [show (tld c).S.length = c.S.length from told_len _]; exact r.n1
  n2 := by rw [show (tld c).S.length = c.S.length from told_len _]; exact r.n2
  o1 := by rw [show (tld c).S.length = c.S.length from told_len _]; exact r.o1
  o2 := by rw [show (tld c).S.length = c.S.length from told_len _]; exact r.o2
  o3 := r.o3
  f := by rw [show (tld c).S.length = c.S.length from told_len _]; exact r.f
  q := by rw [show (tld c).S.length = c.S.length from told_len _]; exact r.q
  n := by
    rw [show (tld c).S.length = c.S.length from told_len _]
    have h : c.N.length = c.S.length - 1 := r.n.1
    have := r.n1
    show c.N.length + 1 = c.S.length
    omega
  n3 := r.n.2.1
  n4 := r.n.2.2
  s5 a ha := by
    obtain ⟨k, b, hk, hb, rfl⟩ := told_mem ha
    have := r.n2
    have := (r.s b hb).1
    refine ⟨fun x hx => ?_, by rw [List.length_replicate]; omega⟩
    rw [(List.mem_replicate.mp hx).2, let_iff]
    omega
  q5 a ha := (r.q2 a ha).lt
theorem Raw.pq {c : Cut} (r : Raw c) : Pq (tld c) := fun q hq x hx => by
  have := (r.q2 q hq).2 x hx
  unfold lo1
  rcases this with rfl | rfl
  · exact .inl rfl
  · exact .inr rfl
theorem rt_asc {g : List Nat} (h : Lt g) : ∀ c ∈ (rt g).cps.toList, c < 128 := fun c hc => by
  unfold rt at hc
  rw [tx_list] at hc
  rcases List.mem_append.mp hc with hc | hc
  · rcases List.mem_append.mp hc with hc | hc
    · simp at hc
      omega
    · unfold it1 at hc
      split at hc
      · rw [List.mem_singleton.mp hc]
        decide
      · exact h.asc c hc
  · simp at hc
    omega
theorem gtx_shp {c : Cut} (ok : okC c) {A : List Nat} {ss : List Str} (p : ss.Perm ((gtx canon c A).map rt)) : shp (.lst (ss.map D.str)) = true := shp_strs fun s hs => by
  obtain ⟨g, hg, rfl⟩ := List.mem_map.mp (p.mem_iff.mp hs)
  obtain ⟨i, _, rfl⟩ := List.mem_map.mp hg
  exact rt_asc (canon_cn.cLt (txt_Lt (cP_Lt ok) _))
theorem p_law {Kd : D → Prop} {ds : List D} (h : sp_law K ds Kd) : (R_law K sp_law_box (sp_law_cell K) sp_law_told_apart sp_law_cut sp_law_right sp_law_turned) { nx := fun _ => Kd .non, rt := fun d _ => Kd d } (init N_law ["_law_script"] ds) := by
    obtain ⟨ns, rfl, hl, k⟩ := h
    simp [R_law, dLenS, dFor, dCallO, dCallN, init, initO, endsO, dRet, dSeq, dNext, dDrop, dIfS, dSet, dAsg, dPar, dPar3, dNever, dNo1, dVar, dC, dOp, dChain, dB, dAnd, dOr, dNot, dAndV, dOrV, dNotV, dIf, dNil, dCons, dTup, dLst, dCall, dIsi, dIsi2, tyD, isaT, dAdd, dSub, dMul, dMod, dDiv, dPow, dInt2, dLt, dLe, dGt, dGe, dEq, dNe, dIsN, dNotN, dInSign, dInText, dNotInText, dIx, dSl, dPart, dNo, dCut, dRev, dRevS, dM0, dLen, dAll, dAny, dMax2, dMin2, dList, dgName, dgNil, dgCons, dgTup, dgLst, dItL, dItT, dItR, dItE, dItZ, dItS, dYes, wipeG, noOwn, dMulS, dLstN, dSetN, dCatN, dOwnIx, dOwnLen, dOwnOp, dOpOwn, dApp, dExt, dPopAt, isOwn, isOwnL, dSetIx, dFrz, OD.d, DL.scal, dFld, dOwnFld, getF, dSetF, dMake, dMeth, dEither, dIsiC, dIsiSR, dJoin, dTextOf, dJoined3, dListN, dParN, dLc]
    have z5 : (if (2 : Int) < if (ns.length : Int) < 5 then (ns.length : Int) else 5 then if (ns.length : Int) < 5 then (ns.length : Int) else 5 else 2) ≤ 5 := by
      split
      · split <;> omega
      · omega
    have z2 : 2 ≤ (if (2 : Int) < if (ns.length : Int) < 5 then (ns.length : Int) else 5 then if (ns.length : Int) < 5 then (ns.length : Int) else 5 else 2) := by
      split
      · omega
      · omega
    generalize (if (2 : Int) < if (ns.length : Int) < 5 then (ns.length : Int) else 5 then if (ns.length : Int) < 5 then (ns.length : Int) else 5 else 2) = z at *
    refine ⟨by omega, by omega, fun i Γ => ∃ a1 a2 a3 a4 a5 a6, Γ = [.val (.scr K ns), a1, a2, a3, a4, a5, a6, .un, .un], ⟨_, _, _, _, _, _, rfl⟩, ?_, ?_⟩
    · rintro i d Γ2 hd ⟨a1, a2, a3, a4, a5, a6, rfl⟩
      have hi : i < z.toNat := by
        have := (List.getElem?_eq_some_iff.mp hd).1
        rwa [upTo_len] at this
      rw [upTo_get hi] at hd
      cases hd
      simp
      refine ⟨ns, i, rfl, by omega, fun v => ?_⟩
      refine ⟨v, rfl, fun o ho => ⟨0, ho, rfl, by decide, fun c o' raw => ?_⟩⟩
      have ok := raw.ok
      have pq := raw.pq
      obtain ⟨A, hA⟩ := rgs_ex ok
      obtain ⟨B, hB⟩ := rgs_ex (oth_ok ok)
      refine ⟨c.S, _, rfl, raw.n2, fun a ha => (raw.s a ha).1, (show 4 ≤ 10 by decide), ?_⟩
      refine ⟨tld c, A, rfl, ok, told_own, pq, hA, fun ss p1 t1 => ?_⟩
      have i0 : atI (cutDs (tld c)) 0 = some (txsD (told c.S)) := atI_nat (k := 0) rfl
      have i1 : atI (cutDs (tld c)) 1 = some (.lst (c.O.map fun k => .int (k : Nat))) := atI_nat (k := 1) rfl
      have i2 : atI (cutDs (tld c)) 2 = some (.lst (c.F.map D.bl)) := atI_nat (k := 2) rfl
      have i3 : atI (cutDs (tld c)) 3 = some (txsD c.Q) := atI_nat (k := 3) rfl
      have i4 : atI (cutDs (tld c)) 4 = some (txsD c.N) := atI_nat (k := 4) rfl
      obtain ⟨f1, hf1⟩ := fn_of c.Q (fun a => D.str (tx a)) (fun a => D.str (tx (fl a))) fun x y _ _ e => by
        injection e with e
        rw [tx_inj e]
      obtain ⟨f2, hf2⟩ := fn_of c.F (fun a => D.bl a) (fun a => D.bl (!a)) fun x y _ _ e => by
        injection e with e
        rw [e]
      have ql := raw.q
      have n2 := raw.n2
      have fL := raw.f
      refine ⟨_, i3, ?_⟩
      show (c.Q.map fun a => D.str (tx a)).length ≤ _ ∧ _
      refine ⟨by rw [List.length_map]; exact sz (by omega), fun _ => true, f1, fun d hd => ⟨rfl, fun _ => ?_⟩, ?_⟩
      · obtain ⟨a, ha, rfl⟩ := List.mem_map.mp hd
        have := (raw.q2 a ha).lt
        exact ⟨a, rfl, ⟨by omega, this.1⟩, (hf1 a ha).symm⟩
      refine ⟨_, i0, _, i1, _, i2, ?_⟩
      show (c.F.map D.bl).length ≤ _ ∧ _
      refine ⟨by rw [List.length_map]; exact sz (by omega), fun _ => true, f2, fun d hd => ⟨rfl, fun _ => ?_⟩, ?_⟩
      · obtain ⟨a, ha, rfl⟩ := List.mem_map.mp hd
        exact (hf2 a ha).symm
      refine ⟨_, i4, by decide, ?_⟩
      show if false = true then _ else _
      rw [if_neg (by decide)]
      refine ⟨oth (tld c), B, ?_, oth_ok ok, told_own, pq_oth ok pq, hB, fun s2 p2 t2 => ?_⟩
      · rw [filter_tr, filter_tr, List.map_map, List.map_map, List.map_congr_left (f := f1 ∘ fun a => D.str (tx a)) hf1, List.map_congr_left (f := f2 ∘ D.bl) hf2]
        show [D.lst [txsD (told c.S), _, _, _, txsD c.N]] = [D.lst [txsD (told c.S), .lst (c.O.reverse.map fun k => .int (k : Nat)), .lst ((c.F.map not).map D.bl), .lst ((c.Q.reverse.map fl).map fun a => .str (tx a)), txsD c.N]]
        rw [List.map_reverse, List.map_map, List.map_map, ← List.map_reverse (l := c.Q)]
        rfl
      have e : s2 = ss := sorted_eq t2 t1 (p2.trans (.trans ((same_rings canon_cn ok hA hB).map rt).symm p1.symm))
      subst e
      have sh := gtx_shp ok p1
      refine ⟨sh, sh, ?_⟩
      have ev : (py (.lst (s2.map D.str))).eqv (py (.lst (s2.map D.str))) = true := eqv_strs s2
      rw [ev]
      intro h
      cases h
    · rintro Γ2 ⟨a1, a2, a3, a4, a5, a6, rfl⟩
      exact k
theorem c_law (W : W0 K mg') {f : Addr} {fd : FuncData} (F : FunD K "law" "law" (defArgs s_law) (defBody s_law) (defScope s_law) [] [] f fd) : FnOk P w K mg' base CX0 12 f fd ["_law_script"] (SpF (sp_law K)) :=
  fn_ok F (C8.fnScope_by (by decide +kernel)) (fun ds Kd h => by
    obtain ⟨_, rfl, _⟩ := h
    rfl) fun cdv A outer s H E hr => ⟨_, w_law W (c_law_box W) (c_law_cell W) (c_law_told_apart W) (c_law_cut W) (c_law_right W) (c_law_turned W) cdv A outer s H E f hr, fun ds Kd h => p_law h⟩
end
end MS
set_option maxHeartbeats 0
namespace MS
open PySem PySem.Spec PyProof.Rows L2 DL
def spLaw (K : PySem.W.Frag) : Sp := fun vs H Q _ => ∃ (a : Addr) (ns : List Int), vs = [.ref a] ∧ ns.length ≤ 63 ∧ SqL K H a (ns.map V.int) ∧ ∀ H', Q (.bl true) H'
theorem spLaw_of {K : PySem.W.Frag} (vs : List V) (H : Hp) (Q : VK) (E : XK) (h : spLaw K vs H Q E) : SpF (sp_law K) vs H Q E := by
  obtain ⟨a, ns, rfl, hl, hS, q⟩ := h
  refine ⟨H, [.scr K ns], fun d => d = .bl true, DL.Ex.refl _, ⟨.ref a, [], rfl, ⟨a, rfl, hS⟩, rfl⟩, ⟨ns, rfl, hl, rfl⟩, ?_⟩
  rintro d v Hk2 H2 rfl _ i
  cases (show v = .bl true from i)
  exact q H2
theorem facts {P : Program} {w : World} {K : PySem.W.Frag} {h : Heap} {mg : Str → Option Value} {f : Addr} (X : K.In h) (G : h.Ns mainGlobals mg) (hfa : mg ("law" : Str) = some (.ref f)) (ce : exM K = true) (c : He.SaysD fa fn K) :
    ∃ fd : FuncData, (∀ (s : Shared) (v : Value), BindsTo s fd ⟨[v], []⟩ [("_law_script", v)]) ∧ ∀ base : Heap, K.In base → base.Ns mainGlobals mg → FnOk P w K mg base CX0 20 f fd ["_law_script"] (spLaw K) := by
  have W : W0 K mg := ⟨⟨h, X, G⟩, ce, c⟩
  obtain ⟨fd, F⟩ := W.c.def_ 67 (d := d_law) rfl
  have e := hfa.symm.trans (W.glo 55 (x := "law") rfl)
  cases e
  have b := FunD.bindsA (ps := ["_law_script"]) F fun _ _ _ _ _ _ us hl => match us, hl with | [_], _ => rfl
  exact ⟨fd, fun s v => b s [v] rfl, fun base _ _ => ((c_law (base := base) W F).mono (by decide)).imp spLaw_of⟩
end MS
open PySem PySem.W PySem.Calls PyProof.Rows
theorem PySem.Challenge.cw_markersplice_k61_whole_scrambled_text_su_holds : PySem.Challenge.rw_markersplice_k61_whole_scrambled_text_su.Holds := by
  w_on; o_law
  refine HandSHeadRun.head_any (r := OpenLaw.row PySem.Challenge.rw_markersplice_k61_whole_scrambled_text_su) (q := view (OpenLaw.row PySem.Challenge.rw_markersplice_k61_whole_scrambled_text_su).prog [89]) (H := MS.hk) (ob := MS.ob) (M := 20000) (loose := MS.loose) (d := HandSHeadRun.topDef (OpenLaw.row PySem.Challenge.rw_markersplice_k61_whole_scrambled_text_su).prog 89) (kwd := []) MS.ob_eq
    (by kernel_rfl) (fun s => by kernel_rfl) MS.run (by kernel_rfl) (by kernel_rfl) (by kernel_rfl) (by rfl) (by first | assumption | decide +kernel) (by decide +kernel) ⟨rfl, rfl, rfl, rfl, rfl, by decide +kernel⟩ ?hw ?hc
  case hw => w_witness2
  case hc =>
    refine L2.walk_ofE (l := PySem.Challenge.rw_markersplice_k61_whole_scrambled_text_su) (n := 63) (k := 20) (x := "_law_script") (CX := L2.CX0) rfl (by decide) (by kernel_rfl) ⟨rfl, by decide, by decide⟩ ?F (fun _ _ _ _ z => z)
    intro w mg fa h Y G hmg0
    obtain ⟨K, KX, ce, c⟩ := Y
    have hmg : mg ("law" : PySem.Str) = some (.ref fa) := by
      have e : (HandSHeadRun.topDef (OpenLaw.row PySem.Challenge.rw_markersplice_k61_whole_scrambled_text_su).prog 89).name = ("law" : PySem.Str) := by kernel_rfl
      rw [← e]
      exact hmg0
    obtain ⟨fd, hb, hF⟩ := MS.facts (P := (PySem.Challenge.rw_markersplice_k61_whole_scrambled_text_su).prog) (w := w) KX G hmg ce c
    exact ⟨K, fd, MS.spLaw K, KX, hb, fun H a ns hl _ hS => ⟨a, ns, rfl, hl, hS, fun _ => rfl⟩, hF⟩
