import PyProof.Rows.All
import Wide.All
import OpenK.AllK
import Wide.FinOn
import HandS.ForMost
import HandS.ForExc
import HandS.Defaults
import HandS.HeadHook1
import HandS.HeadHook2
import HandS.ExcInit
import HandS.ExcField
import HandS.Head0
import HandS.Head1
import HandS.Head2
import HandS.HeadEnd
import HandS.HotCalls
import HandS.Strs
import HandS.SetFor
import HandS.ExcCtx
import HandS.WordsExc
import KE.DataMinMax
import HandS.SortKw
import HandS.Walk
import HandS.Wide
import HandS.IsInst
import HandS.Iter
import HandS.Keys
import HandS.Words
import HandS.Text
import PySem.Challenge.RW_nightbook_k87_whole_line_stable
section
set_option Elab.async false
set_option linter.all false
set_option maxRecDepth 100000
set_option maxHeartbeats 4000000
namespace Nb
open PySem PySem.Spec PyProof.Rows L2
def top (i : Nat) : Stmt := PySem.Challenge.pw_nightbook_k87_whole_line_stable.main.body.getD i (.Pass ⟨0, 0, 0, 0⟩)
abbrev s_Full__init_ : Stmt := inClass (top 5) 0
def d_Full__init_ : He.DefD := ⟨("Full", some "__init__"), "__init__", "Full.__init__", defArgs s_Full__init_, defBody s_Full__init_, defScope s_Full__init_, [], []⟩
abbrev s_is_whole : Stmt := top 16
def d_is_whole : He.DefD := ⟨("is_whole", none), "is_whole", "is_whole", defArgs s_is_whole, defBody s_is_whole, defScope s_is_whole, [], []⟩
abbrev s_divisor : Stmt := top 17
def d_divisor : He.DefD := ⟨("divisor", none), "divisor", "divisor", defArgs s_divisor, defBody s_divisor, defScope s_divisor, [], []⟩
abbrev s_ratio : Stmt := top 18
def d_ratio : He.DefD := ⟨("ratio", none), "ratio", "ratio", defArgs s_ratio, defBody s_ratio, defScope s_ratio, [.int 1], []⟩
abbrev s_is_ratio : Stmt := top 19
def d_is_ratio : He.DefD := ⟨("is_ratio", none), "is_ratio", "is_ratio", defArgs s_is_ratio, defBody s_is_ratio, defScope s_is_ratio, [], []⟩
abbrev s_is_chance : Stmt := top 20
def d_is_chance : He.DefD := ⟨("is_chance", none), "is_chance", "is_chance", defArgs s_is_chance, defBody s_is_chance, defScope s_is_chance, [], []⟩
abbrev s_under : Stmt := top 21
def d_under : He.DefD := ⟨("under", none), "under", "under", defArgs s_under, defBody s_under, defScope s_under, [], []⟩
abbrev s_is_stretch : Stmt := top 24
def d_is_stretch : He.DefD := ⟨("is_stretch", none), "is_stretch", "is_stretch", defArgs s_is_stretch, defBody s_is_stretch, defScope s_is_stretch, [], []⟩
abbrev s_holds : Stmt := top 25
def d_holds : He.DefD := ⟨("holds", none), "holds", "holds", defArgs s_holds, defBody s_holds, defScope s_holds, [], []⟩
abbrev s_widened : Stmt := top 27
def d_widened : He.DefD := ⟨("widened", none), "widened", "widened", defArgs s_widened, defBody s_widened, defScope s_widened, [], []⟩
abbrev s_tops_of : Stmt := top 28
def d_tops_of : He.DefD := ⟨("tops_of", none), "tops_of", "tops_of", defArgs s_tops_of, defBody s_tops_of, defScope s_tops_of, [], []⟩
abbrev s_is_ladder : Stmt := top 32
def d_is_ladder : He.DefD := ⟨("is_ladder", none), "is_ladder", "is_ladder", defArgs s_is_ladder, defBody s_is_ladder, defScope s_is_ladder, [], []⟩
abbrev s_rooms_from : Stmt := top 33
def d_rooms_from : He.DefD := ⟨("rooms_from", none), "rooms_from", "rooms_from", defArgs s_rooms_from, defBody s_rooms_from, defScope s_rooms_from, [], []⟩
abbrev s_chance_at : Stmt := top 34
def d_chance_at : He.DefD := ⟨("chance_at", none), "chance_at", "chance_at", defArgs s_chance_at, defBody s_chance_at, defScope s_chance_at, [], []⟩
abbrev s_begun_within : Stmt := top 35
def d_begun_within : He.DefD := ⟨("begun_within", none), "begun_within", "begun_within", defArgs s_begun_within, defBody s_begun_within, defScope s_begun_within, [], []⟩
abbrev s_tight : Stmt := top 36
def d_tight : He.DefD := ⟨("tight", none), "tight", "tight", defArgs s_tight, defBody s_tight, defScope s_tight, [], []⟩
abbrev s_free_from : Stmt := top 38
def d_free_from : He.DefD := ⟨("free_from", none), "free_from", "free_from", defArgs s_free_from, defBody s_free_from, defScope s_free_from, [], []⟩
abbrev s_wishes_from : Stmt := top 39
def d_wishes_from : He.DefD := ⟨("wishes_from", none), "wishes_from", "wishes_from", defArgs s_wishes_from, defBody s_wishes_from, defScope s_wishes_from, [], []⟩
abbrev s_falls_of : Stmt := top 40
def d_falls_of : He.DefD := ⟨("falls_of", none), "falls_of", "falls_of", defArgs s_falls_of, defBody s_falls_of, defScope s_falls_of, [], []⟩
abbrev s_guest_at : Stmt := top 41
def d_guest_at : He.DefD := ⟨("guest_at", none), "guest_at", "guest_at", defArgs s_guest_at, defBody s_guest_at, defScope s_guest_at, [], []⟩
abbrev s_admitted : Stmt := top 42
def d_admitted : He.DefD := ⟨("admitted", none), "admitted", "admitted", defArgs s_admitted, defBody s_admitted, defScope s_admitted, [], []⟩
abbrev s_is_name : Stmt := top 47
def d_is_name : He.DefD := ⟨("is_name", none), "is_name", "is_name", defArgs s_is_name, defBody s_is_name, defScope s_is_name, [], []⟩
abbrev s_House__init_ : Stmt := inClass (top 48) 0
def d_House__init_ : He.DefD := ⟨("House", some "__init__"), "__init__", "House.__init__", defArgs s_House__init_, defBody s_House__init_, defScope s_House__init_, [], []⟩
abbrev s_House_need : Stmt := inClass (top 48) 1
def d_House_need : He.DefD := ⟨("House", some "need"), "need", "House.need", defArgs s_House_need, defBody s_House_need, defScope s_House_need, [], []⟩
abbrev s_House_guests : Stmt := inClass (top 48) 5
def d_House_guests : He.DefD := ⟨("House", some "guests"), "guests", "House.guests", defArgs s_House_guests, defBody s_House_guests, defScope s_House_guests, [], []⟩
abbrev s_House_moved : Stmt := inClass (top 48) 7
def d_House_moved : He.DefD := ⟨("House", some "moved"), "moved", "House.moved", defArgs s_House_moved, defBody s_House_moved, defScope s_House_moved, [], []⟩
abbrev s_House_name_in : Stmt := inClass (top 48) 8
def d_House_name_in : He.DefD := ⟨("House", some "name_in"), "name_in", "House.name_in", defArgs s_House_name_in, defBody s_House_name_in, defScope s_House_name_in, [], []⟩
abbrev s_House_let_in : Stmt := inClass (top 48) 9
def d_House_let_in : He.DefD := ⟨("House", some "let_in"), "let_in", "House.let_in", defArgs s_House_let_in, defBody s_House_let_in, defScope s_House_let_in, [], []⟩
abbrev s_House_out : Stmt := inClass (top 48) 10
def d_House_out : He.DefD := ⟨("House", some "out"), "out", "House.out", defArgs s_House_out, defBody s_House_out, defScope s_House_out, [], []⟩
abbrev s_stay_of : Stmt := top 51
def d_stay_of : He.DefD := ⟨("stay_of", none), "stay_of", "stay_of", defArgs s_stay_of, defBody s_stay_of, defScope s_stay_of, [], []⟩
abbrev s_counted : Stmt := top 52
def d_counted : He.DefD := ⟨("counted", none), "counted", "counted", defArgs s_counted, defBody s_counted, defScope s_counted, [], []⟩
abbrev s_paper_of : Stmt := top 53
def d_paper_of : He.DefD := ⟨("paper_of", none), "paper_of", "paper_of", defArgs s_paper_of, defBody s_paper_of, defScope s_paper_of, [], []⟩
abbrev s_waiting : Stmt := top 54
def d_waiting : He.DefD := ⟨("waiting", none), "waiting", "waiting", defArgs s_waiting, defBody s_waiting, defScope s_waiting, [], []⟩
abbrev s_walked : Stmt := top 55
def d_walked : He.DefD := ⟨("walked", none), "walked", "walked", defArgs s_walked, defBody s_walked, defScope s_walked, [], []⟩
abbrev s_rooms_of : Stmt := top 60
def d_rooms_of : He.DefD := ⟨("rooms_of", none), "rooms_of", "rooms_of", defArgs s_rooms_of, defBody s_rooms_of, defScope s_rooms_of, [], []⟩
abbrev s_Book__init_ : Stmt := inClass (top 61) 0
def d_Book__init_ : He.DefD := ⟨("Book", some "__init__"), "__init__", "Book.__init__", defArgs s_Book__init_, defBody s_Book__init_, defScope s_Book__init_, [], []⟩
abbrev s_Book_note : Stmt := inClass (top 61) 1
def d_Book_note : He.DefD := ⟨("Book", some "note"), "note", "Book.note", defArgs s_Book_note, defBody s_Book_note, defScope s_Book_note, [], []⟩
abbrev s_Book_need : Stmt := inClass (top 61) 2
def d_Book_need : He.DefD := ⟨("Book", some "need"), "need", "Book.need", defArgs s_Book_need, defBody s_Book_need, defScope s_Book_need, [], []⟩
abbrev s_Book_drop : Stmt := inClass (top 61) 3
def d_Book_drop : He.DefD := ⟨("Book", some "drop"), "drop", "Book.drop", defArgs s_Book_drop, defBody s_Book_drop, defScope s_Book_drop, [], []⟩
abbrev s_Book_is_due : Stmt := inClass (top 61) 4
def d_Book_is_due : He.DefD := ⟨("Book", some "is_due"), "is_due", "Book.is_due", defArgs s_Book_is_due, defBody s_Book_is_due, defScope s_Book_is_due, [], []⟩
abbrev s_Book_inside : Stmt := inClass (top 61) 5
def d_Book_inside : He.DefD := ⟨("Book", some "inside"), "inside", "Book.inside", defArgs s_Book_inside, defBody s_Book_inside, defScope s_Book_inside, [], []⟩
abbrev s_Book_fill : Stmt := inClass (top 61) 6
def d_Book_fill : He.DefD := ⟨("Book", some "fill"), "fill", "Book.fill", defArgs s_Book_fill, defBody s_Book_fill, defScope s_Book_fill, [], []⟩
abbrev s_Book_check_wish : Stmt := inClass (top 61) 7
def d_Book_check_wish : He.DefD := ⟨("Book", some "check_wish"), "check_wish", "Book.check_wish", defArgs s_Book_check_wish, defBody s_Book_check_wish, defScope s_Book_check_wish, [], []⟩
abbrev s_Book_wish : Stmt := inClass (top 61) 8
def d_Book_wish : He.DefD := ⟨("Book", some "wish"), "wish", "Book.wish", defArgs s_Book_wish, defBody s_Book_wish, defScope s_Book_wish, [.non], []⟩
abbrev s_Book_withdraw : Stmt := inClass (top 61) 9
def d_Book_withdraw : He.DefD := ⟨("Book", some "withdraw"), "withdraw", "Book.withdraw", defArgs s_Book_withdraw, defBody s_Book_withdraw, defScope s_Book_withdraw, [], []⟩
abbrev s_Book_need_tonight : Stmt := inClass (top 61) 11
def d_Book_need_tonight : He.DefD := ⟨("Book", some "need_tonight"), "need_tonight", "Book.need_tonight", defArgs s_Book_need_tonight, defBody s_Book_need_tonight, defScope s_Book_need_tonight, [], []⟩
abbrev s_Book_come : Stmt := inClass (top 61) 12
def d_Book_come : He.DefD := ⟨("Book", some "come"), "come", "Book.come", defArgs s_Book_come, defBody s_Book_come, defScope s_Book_come, [], []⟩
abbrev s_Book_absent : Stmt := inClass (top 61) 13
def d_Book_absent : He.DefD := ⟨("Book", some "absent"), "absent", "Book.absent", defArgs s_Book_absent, defBody s_Book_absent, defScope s_Book_absent, [], []⟩
abbrev s_Book_go : Stmt := inClass (top 61) 14
def d_Book_go : He.DefD := ⟨("Book", some "go"), "go", "Book.go", defArgs s_Book_go, defBody s_Book_go, defScope s_Book_go, [], []⟩
abbrev s_Book_close : Stmt := inClass (top 61) 15
def d_Book_close : He.DefD := ⟨("Book", some "close"), "close", "Book.close", defArgs s_Book_close, defBody s_Book_close, defScope s_Book_close, [], []⟩
abbrev s_Book_tonight : Stmt := inClass (top 61) 16
def d_Book_tonight : He.DefD := ⟨("Book", some "tonight"), "tonight", "Book.tonight", defArgs s_Book_tonight, defBody s_Book_tonight, defScope s_Book_tonight, [], []⟩
abbrev s_Book_names : Stmt := inClass (top 61) 17
def d_Book_names : He.DefD := ⟨("Book", some "names"), "names", "Book.names", defArgs s_Book_names, defBody s_Book_names, defScope s_Book_names, [], []⟩
abbrev s_Book_state : Stmt := inClass (top 61) 18
def d_Book_state : He.DefD := ⟨("Book", some "state"), "state", "Book.state", defArgs s_Book_state, defBody s_Book_state, defScope s_Book_state, [], []⟩
abbrev s_Book_line : Stmt := inClass (top 61) 21
def d_Book_line : He.DefD := ⟨("Book", some "line"), "line", "Book.line", defArgs s_Book_line, defBody s_Book_line, defScope s_Book_line, [], []⟩
abbrev s_law_cell : Stmt := top 63
def d_law_cell : He.DefD := ⟨("_law_cell", none), "_law_cell", "_law_cell", defArgs s_law_cell, defBody s_law_cell, defScope s_law_cell, [], []⟩
abbrev s_law_part : Stmt := top 64
def d_law_part : He.DefD := ⟨("_law_part", none), "_law_part", "_law_part", defArgs s_law_part, defBody s_law_part, defScope s_law_part, [], []⟩
abbrev s_law_row : Stmt := top 65
def d_law_row : He.DefD := ⟨("_law_row", none), "_law_row", "_law_row", defArgs s_law_row, defBody s_law_row, defScope s_law_row, [], []⟩
abbrev s_law_lowest : Stmt := top 67
def d_law_lowest : He.DefD := ⟨("_law_lowest", none), "_law_lowest", "_law_lowest", defArgs s_law_lowest, defBody s_law_lowest, defScope s_law_lowest, [], []⟩
abbrev s_law_names : Stmt := top 68
def d_law_names : He.DefD := ⟨("_law_names", none), "_law_names", "_law_names", defArgs s_law_names, defBody s_law_names, defScope s_law_names, [], []⟩
abbrev s_law_inn : Stmt := top 69
def d_law_inn : He.DefD := ⟨("_law_inn", none), "_law_inn", "_law_inn", defArgs s_law_inn, defBody s_law_inn, defScope s_law_inn, [], []⟩
abbrev s_law_chance : Stmt := top 70
def d_law_chance : He.DefD := ⟨("_law_chance", none), "_law_chance", "_law_chance", defArgs s_law_chance, defBody s_law_chance, defScope s_law_chance, [], []⟩
abbrev s_law_pick : Stmt := top 71
def d_law_pick : He.DefD := ⟨("_law_pick", none), "_law_pick", "_law_pick", defArgs s_law_pick, defBody s_law_pick, defScope s_law_pick, [], []⟩
abbrev s_law_chosen : Stmt := top 72
def d_law_chosen : He.DefD := ⟨("_law_chosen", none), "_law_chosen", "_law_chosen", defArgs s_law_chosen, defBody s_law_chosen, defScope s_law_chosen, [], []⟩
abbrev s_law_without : Stmt := top 73
def d_law_without : He.DefD := ⟨("_law_without", none), "_law_without", "_law_without", defArgs s_law_without, defBody s_law_without, defScope s_law_without, [], []⟩
abbrev s_law_do : Stmt := top 74
def d_law_do : He.DefD := ⟨("_law_do", none), "_law_do", "_law_do", defArgs s_law_do, defBody s_law_do, defScope s_law_do, [], []⟩
abbrev s_law_alike : Stmt := top 75
def d_law_alike : He.DefD := ⟨("_law_alike", none), "_law_alike", "_law_alike", defArgs s_law_alike, defBody s_law_alike, defScope s_law_alike, [], []⟩
abbrev s_law_shut : Stmt := top 76
def d_law_shut : He.DefD := ⟨("_law_shut", none), "_law_shut", "_law_shut", defArgs s_law_shut, defBody s_law_shut, defScope s_law_shut, [], []⟩
abbrev s_law_kept : Stmt := top 77
def d_law_kept : He.DefD := ⟨("_law_kept", none), "_law_kept", "_law_kept", defArgs s_law_kept, defBody s_law_kept, defScope s_law_kept, [], []⟩
abbrev s_law : Stmt := top 78
def d_law : He.DefD := ⟨("law", none), "law", "law", defArgs s_law, defBody s_law, defScope s_law, [], []⟩
abbrev CB (K : PySem.W.Frag) : Addr := He.ga K "Book"
abbrev CH (K : PySem.W.Frag) : Addr := He.ga K "House"
abbrev CF (K : PySem.W.Frag) : Addr := He.ga K "Full"
/-- a def as it stands behind the top -/
def FD (K : PySem.W.Frag) (d : He.DefD) : Prop := ∃ fd, FunD K d.name d.qual d.params d.body d.scope (d.dvs K) (d.kws K) (He.fAd K d.at_) fd
/-- all that the walk asks of the written part -/
structure Txt (K : PySem.W.Frag) (mg : Str → Option Value) : Prop where
  f_Full__init_ : FD K d_Full__init_
  f_is_whole : FD K d_is_whole
  f_divisor : FD K d_divisor
  f_ratio : FD K d_ratio
  f_is_ratio : FD K d_is_ratio
  f_is_chance : FD K d_is_chance
  f_under : FD K d_under
  f_is_stretch : FD K d_is_stretch
  f_holds : FD K d_holds
  f_widened : FD K d_widened
  f_tops_of : FD K d_tops_of
  f_is_ladder : FD K d_is_ladder
  f_rooms_from : FD K d_rooms_from
  f_chance_at : FD K d_chance_at
  f_begun_within : FD K d_begun_within
  f_tight : FD K d_tight
  f_free_from : FD K d_free_from
  f_wishes_from : FD K d_wishes_from
  f_falls_of : FD K d_falls_of
  f_guest_at : FD K d_guest_at
  f_admitted : FD K d_admitted
  f_is_name : FD K d_is_name
  f_House__init_ : FD K d_House__init_
  f_House_need : FD K d_House_need
  f_House_guests : FD K d_House_guests
  f_House_moved : FD K d_House_moved
  f_House_name_in : FD K d_House_name_in
  f_House_let_in : FD K d_House_let_in
  f_House_out : FD K d_House_out
  f_stay_of : FD K d_stay_of
  f_counted : FD K d_counted
  f_paper_of : FD K d_paper_of
  f_waiting : FD K d_waiting
  f_walked : FD K d_walked
  f_rooms_of : FD K d_rooms_of
  f_Book__init_ : FD K d_Book__init_
  f_Book_note : FD K d_Book_note
  f_Book_need : FD K d_Book_need
  f_Book_drop : FD K d_Book_drop
  f_Book_is_due : FD K d_Book_is_due
  f_Book_inside : FD K d_Book_inside
  f_Book_fill : FD K d_Book_fill
  f_Book_check_wish : FD K d_Book_check_wish
  f_Book_wish : FD K d_Book_wish
  f_Book_withdraw : FD K d_Book_withdraw
  f_Book_need_tonight : FD K d_Book_need_tonight
  f_Book_come : FD K d_Book_come
  f_Book_absent : FD K d_Book_absent
  f_Book_go : FD K d_Book_go
  f_Book_close : FD K d_Book_close
  f_Book_tonight : FD K d_Book_tonight
  f_Book_names : FD K d_Book_names
  f_Book_state : FD K d_Book_state
  f_Book_line : FD K d_Book_line
  f_law_cell : FD K d_law_cell
  f_law_part : FD K d_law_part
  f_law_row : FD K d_law_row
  f_law_lowest : FD K d_law_lowest
  f_law_names : FD K d_law_names
  f_law_inn : FD K d_law_inn
  f_law_chance : FD K d_law_chance
  f_law_pick : FD K d_law_pick
  f_law_chosen : FD K d_law_chosen
  f_law_without : FD K d_law_without
  f_law_do : FD K d_law_do
  f_law_alike : FD K d_law_alike
  f_law_shut : FD K d_law_shut
  f_law_kept : FD K d_law_kept
  f_law : FD K d_law
  g_is_whole : mg "is_whole" = some (.ref (He.ga K "is_whole"))
  g_divisor : mg "divisor" = some (.ref (He.ga K "divisor"))
  g_ratio : mg "ratio" = some (.ref (He.ga K "ratio"))
  g_is_ratio : mg "is_ratio" = some (.ref (He.ga K "is_ratio"))
  g_is_chance : mg "is_chance" = some (.ref (He.ga K "is_chance"))
  g_under : mg "under" = some (.ref (He.ga K "under"))
  g_is_stretch : mg "is_stretch" = some (.ref (He.ga K "is_stretch"))
  g_holds : mg "holds" = some (.ref (He.ga K "holds"))
  g_widened : mg "widened" = some (.ref (He.ga K "widened"))
  g_tops_of : mg "tops_of" = some (.ref (He.ga K "tops_of"))
  g_is_ladder : mg "is_ladder" = some (.ref (He.ga K "is_ladder"))
  g_rooms_from : mg "rooms_from" = some (.ref (He.ga K "rooms_from"))
  g_chance_at : mg "chance_at" = some (.ref (He.ga K "chance_at"))
  g_begun_within : mg "begun_within" = some (.ref (He.ga K "begun_within"))
  g_tight : mg "tight" = some (.ref (He.ga K "tight"))
  g_free_from : mg "free_from" = some (.ref (He.ga K "free_from"))
  g_wishes_from : mg "wishes_from" = some (.ref (He.ga K "wishes_from"))
  g_falls_of : mg "falls_of" = some (.ref (He.ga K "falls_of"))
  g_guest_at : mg "guest_at" = some (.ref (He.ga K "guest_at"))
  g_admitted : mg "admitted" = some (.ref (He.ga K "admitted"))
  g_is_name : mg "is_name" = some (.ref (He.ga K "is_name"))
  m_House_need : Meth K (He.ga K "House") "need" (He.ma K (He.ga K "House") "need")
  m_House_guests : Meth K (He.ga K "House") "guests" (He.ma K (He.ga K "House") "guests")
  m_House_moved : Meth K (He.ga K "House") "moved" (He.ma K (He.ga K "House") "moved")
  m_House_name_in : Meth K (He.ga K "House") "name_in" (He.ma K (He.ga K "House") "name_in")
  m_House_let_in : Meth K (He.ga K "House") "let_in" (He.ma K (He.ga K "House") "let_in")
  m_House_out : Meth K (He.ga K "House") "out" (He.ma K (He.ga K "House") "out")
  g_stay_of : mg "stay_of" = some (.ref (He.ga K "stay_of"))
  g_counted : mg "counted" = some (.ref (He.ga K "counted"))
  g_paper_of : mg "paper_of" = some (.ref (He.ga K "paper_of"))
  g_waiting : mg "waiting" = some (.ref (He.ga K "waiting"))
  g_walked : mg "walked" = some (.ref (He.ga K "walked"))
  g_rooms_of : mg "rooms_of" = some (.ref (He.ga K "rooms_of"))
  m_Book_note : Meth K (He.ga K "Book") "note" (He.ma K (He.ga K "Book") "note")
  m_Book_need : Meth K (He.ga K "Book") "need" (He.ma K (He.ga K "Book") "need")
  m_Book_drop : Meth K (He.ga K "Book") "drop" (He.ma K (He.ga K "Book") "drop")
  m_Book_is_due : Meth K (He.ga K "Book") "is_due" (He.ma K (He.ga K "Book") "is_due")
  m_Book_inside : Meth K (He.ga K "Book") "inside" (He.ma K (He.ga K "Book") "inside")
  m_Book_fill : Meth K (He.ga K "Book") "fill" (He.ma K (He.ga K "Book") "fill")
  m_Book_check_wish : Meth K (He.ga K "Book") "check_wish" (He.ma K (He.ga K "Book") "check_wish")
  m_Book_wish : Meth K (He.ga K "Book") "wish" (He.ma K (He.ga K "Book") "wish")
  m_Book_withdraw : Meth K (He.ga K "Book") "withdraw" (He.ma K (He.ga K "Book") "withdraw")
  m_Book_need_tonight : Meth K (He.ga K "Book") "need_tonight" (He.ma K (He.ga K "Book") "need_tonight")
  m_Book_come : Meth K (He.ga K "Book") "come" (He.ma K (He.ga K "Book") "come")
  m_Book_absent : Meth K (He.ga K "Book") "absent" (He.ma K (He.ga K "Book") "absent")
  m_Book_go : Meth K (He.ga K "Book") "go" (He.ma K (He.ga K "Book") "go")
  m_Book_close : Meth K (He.ga K "Book") "close" (He.ma K (He.ga K "Book") "close")
  m_Book_tonight : Meth K (He.ga K "Book") "tonight" (He.ma K (He.ga K "Book") "tonight")
  m_Book_names : Meth K (He.ga K "Book") "names" (He.ma K (He.ga K "Book") "names")
  m_Book_state : Meth K (He.ga K "Book") "state" (He.ma K (He.ga K "Book") "state")
  m_Book_line : Meth K (He.ga K "Book") "line" (He.ma K (He.ga K "Book") "line")
  g_law_cell : mg "_law_cell" = some (.ref (He.ga K "_law_cell"))
  g_law_part : mg "_law_part" = some (.ref (He.ga K "_law_part"))
  g_law_row : mg "_law_row" = some (.ref (He.ga K "_law_row"))
  g_law_lowest : mg "_law_lowest" = some (.ref (He.ga K "_law_lowest"))
  g_law_names : mg "_law_names" = some (.ref (He.ga K "_law_names"))
  g_law_inn : mg "_law_inn" = some (.ref (He.ga K "_law_inn"))
  g_law_chance : mg "_law_chance" = some (.ref (He.ga K "_law_chance"))
  g_law_pick : mg "_law_pick" = some (.ref (He.ga K "_law_pick"))
  g_law_chosen : mg "_law_chosen" = some (.ref (He.ga K "_law_chosen"))
  g_law_without : mg "_law_without" = some (.ref (He.ga K "_law_without"))
  g_law_do : mg "_law_do" = some (.ref (He.ga K "_law_do"))
  g_law_alike : mg "_law_alike" = some (.ref (He.ga K "_law_alike"))
  g_law_shut : mg "_law_shut" = some (.ref (He.ga K "_law_shut"))
  g_law_kept : mg "_law_kept" = some (.ref (He.ga K "_law_kept"))
  g_law : mg "law" = some (.ref (He.ga K "law"))
  g_House : mg "House" = some (.ref (He.ga K "House"))
  g_Book : mg "Book" = some (.ref (He.ga K "Book"))
  g_Full : mg "Full" = some (.ref (He.ga K "Full"))
  g_SURE : mg "SURE" = some (.ref (He.ga K "SURE"))
  n_abs : mg "abs" = none
  n_len : mg "len" = none
  n_isinstance : mg "isinstance" = none
  n_sum : mg "sum" = none
  n_sorted : mg "sorted" = none
  n_set : mg "set" = none
  n_list : mg "list" = none
  n_range : mg "range" = none
  n_enumerate : mg "enumerate" = none
  n_min : mg "min" = none
  n_max : mg "max" = none
  n_int : mg "int" = none
  n_str : mg "str" = none
  n_tuple : mg "tuple" = none
  n_bool : mg "bool" = none
  n_ValueError : mg "ValueError" = none
  i_NIGHTS : ∃ t, mg "NIGHTS" = some (.int 400 t)
  i_MOST_ROOMS : ∃ t, mg "MOST_ROOMS" = some (.int 12 t)
  i_MOST_KINDS : ∃ t, mg "MOST_KINDS" = some (.int 4 t)
  i_LONGEST : ∃ t, mg "LONGEST" = some (.int 8 t)
  i_BEST : ∃ t, mg "BEST" = some (.int 4 t)
  i_FINEST_RISK : ∃ t, mg "FINEST_RISK" = some (.int 1000000000 t)
  i_FINEST_CHANCE : ∃ t, mg "FINEST_CHANCE" = some (.int 100 t)
  i_MOST_NAMES : ∃ t, mg "MOST_NAMES" = some (.int 16 t)
  z_LETTERS : ∃ t, mg "LETTERS" = some (.str "abcdefghijklmnopqrstuvwxyz" t)
  c_House : Cls K (He.ga K "House")
  k_House : Mk K (He.ga K "House") (He.ma K (He.ga K "House") "__init__")
  a_House_rooms : NoAttr K (He.ga K "House") "rooms"
  a_House_places : NoAttr K (He.ga K "House") "places"
  a_House_wishes : NoAttr K (He.ga K "House") "wishes"
  a_House_walks : NoAttr K (He.ga K "House") "walks"
  c_Book : Cls K (He.ga K "Book")
  k_Book : Mk K (He.ga K "Book") (He.ma K (He.ga K "Book") "__init__")
  a_Book_ladder : NoAttr K (He.ga K "Book") "ladder"
  a_Book_risk : NoAttr K (He.ga K "Book") "risk"
  a_Book_inn : NoAttr K (He.ga K "Book") "inn"
  a_Book_entries : NoAttr K (He.ga K "Book") "entries"
  a_Book_evening : NoAttr K (He.ga K "Book") "evening"
  a_Book_events : NoAttr K (He.ga K "Book") "events"
  e_glob : mg "InnError" = some (.ref (He.ga K "InnError"))
  e_gg : PySem.W.specialIn K (.ref (He.ga K "InnError")) "__getattribute__" = some (some (.builtin "type.__getattribute__"))
  e_rC : PySem.W.readsIn K (He.ga K "InnError") (.type "type") = true
  e_vV : PySem.W.findCls K (.ref (He.ga K "InnError")) (.type "type") "__init__" = some (.val (.builtin "ValueError.__init__"))
  x_oex : OexC K (CF K)
  x_kind : PySem.W.findIn K (.ref (CF K)) "kind" = some none
  x_init : PySem.W.findIn K (.ref (CF K)) "__init__" = some (some (.ref (He.ma K (CF K) "__init__")))
  x_fun : PySem.W.typeIn K (.ref (He.ma K (CF K) "__init__")) = some (.type "function")
  x_xf : XfC K (CF K)
  x_exm : PySem.W.exmOne K (.ref (CF K)) (.ref (CF K)) = some true
  sure : ∀ H : Hp, SqT K H (He.ga K "SURE") [.int 1, .int 1]
end Nb
end
section
set_option Elab.async false
set_option linter.all false
set_option maxRecDepth 100000
set_option maxHeartbeats 0
namespace Nb
open PySem PySem.Spec PyProof.Rows L2
/-! ### the head -/
def cfB (r : Option PySem.W.CFound) (i : String) : Bool := match r with
  | some (.val (.builtin j)) => decide (j = i)
  | _ => false
theorem cfB_ok {r : Option PySem.W.CFound} {i : String} (h : cfB r i = true) : r = some (.val (.builtin i)) := by
  unfold cfB at h
  split at h
  · rw [of_decide_eq_true h]
  · cases h
def slB : List (Option Value) → Bool
  | [_, _, _, _, some (.builtin i), _] => decide (i = "ValueError.__new__")
  | _ => false
theorem slB_ok {l : Array (Option Value)} (h : slB l.toList = true) : ∃ k0 k1 k2 k3 k5, l = #[k0, k1, k2, k3, some (.builtin "ValueError.__new__"), k5] := by
  obtain ⟨l⟩ := l
  have h : slB l = true := h
  unfold slB at h
  split at h
  · rw [of_decide_eq_true h]
    exact ⟨_, _, _, _, _, rfl⟩
  · cases h
def oexO (C : Addr) : Obj → Bool
  | ⟨.type c, _, .cls ⟨_, _, .ref C' :: bm, _, _, true, _, _, _, _, false⟩, sl⟩ => decide (c = "type") && (decide (C' = C) && (PySem.HandSPX.refsVE bm && slB sl.toList))
  | _ => false
def oexB (K : PySem.W.Frag) (C : Addr) : Bool := (match K.lookup C with
  | some o => oexO C o
  | none => false) && (decide (PySem.W.findIn K (.ref C) "__setattr__" = some (some (.builtin "object.__setattr__"))) && (decide (PySem.W.subIn K (.ref C) (.type "BaseException") = some true) && (decide (PySem.W.typeIn K (.ref C) = some (.type "type")) && PySem.W.keepIn K (.ref C))))
theorem oexB_ok {K : PySem.W.Frag} {C : Addr} (h : oexB K C = true) : OexC K C := by
  obtain ⟨h1, h⟩ := He.ba h
  obtain ⟨h2, h⟩ := He.ba h
  obtain ⟨h3, h⟩ := He.ba h
  obtain ⟨h4, h5⟩ := He.ba h
  refine ⟨?_, of_decide_eq_true h2, of_decide_eq_true h3, of_decide_eq_true h4, h5⟩
  cases q : K.lookup C with
  | none =>
    rw [q] at h1
    cases h1
  | some o =>
    rw [q] at h1
    have h1 : oexO C o = true := h1
    unfold oexO at h1
    split at h1
    · obtain ⟨a1, h1⟩ := He.ba h1
      obtain ⟨a2, h1⟩ := He.ba h1
      obtain ⟨a3, a4⟩ := He.ba h1
      obtain ⟨k0, k1, k2, k3, k5, e⟩ := slB_ok a4
      rw [of_decide_eq_true a1, of_decide_eq_true a2, e]
      exact ⟨_, _, _, _, _, _, _, _, _, _, _, _, _, _, _, rfl, a3⟩
    · cases h1
def fn0 : List He.DefD := [d_Full__init_, d_is_whole, d_divisor, d_ratio, d_is_ratio, d_is_chance, d_under, d_is_stretch, d_holds, d_widened, d_tops_of, d_is_ladder, d_rooms_from, d_chance_at, d_begun_within, d_tight, d_free_from, d_wishes_from, d_falls_of, d_guest_at, d_admitted, d_is_name, d_House__init_, d_House_need, d_House_guests, d_House_moved, d_House_name_in, d_House_let_in, d_House_out, d_stay_of]
def fn1 : List He.DefD := [d_counted, d_paper_of, d_waiting, d_walked, d_rooms_of, d_Book__init_, d_Book_note, d_Book_need, d_Book_drop, d_Book_is_due, d_Book_inside, d_Book_fill, d_Book_check_wish, d_Book_wish, d_Book_withdraw, d_Book_need_tonight, d_Book_come, d_Book_absent, d_Book_go, d_Book_close, d_Book_tonight, d_Book_names, d_Book_state, d_Book_line, d_law_cell, d_law_part, d_law_row, d_law_lowest, d_law_names, d_law_inn]
def fn2 : List He.DefD := [d_law_chance, d_law_pick, d_law_chosen, d_law_without, d_law_do, d_law_alike, d_law_shut, d_law_kept, d_law]
def fn : List He.DefD := fn0 ++ fn1 ++ fn2
def fa0 : List He.Fa := [.glo "is_whole", .glo "divisor", .glo "ratio", .glo "is_ratio", .glo "is_chance", .glo "under", .glo "is_stretch", .glo "holds", .glo "widened", .glo "tops_of", .glo "is_ladder", .glo "rooms_from", .glo "chance_at", .glo "begun_within", .glo "tight", .glo "free_from", .glo "wishes_from", .glo "falls_of", .glo "guest_at", .glo "admitted", .glo "is_name", .meth "House" "need", .meth "House" "guests", .meth "House" "moved", .meth "House" "name_in", .meth "House" "let_in", .meth "House" "out", .glo "stay_of", .glo "counted", .glo "paper_of"]
def fa1 : List He.Fa := [.glo "waiting", .glo "walked", .glo "rooms_of", .meth "Book" "note", .meth "Book" "need", .meth "Book" "drop", .meth "Book" "is_due", .meth "Book" "inside", .meth "Book" "fill", .meth "Book" "check_wish", .meth "Book" "wish", .meth "Book" "withdraw", .meth "Book" "need_tonight", .meth "Book" "come", .meth "Book" "absent", .meth "Book" "go", .meth "Book" "close", .meth "Book" "tonight", .meth "Book" "names", .meth "Book" "state", .meth "Book" "line", .glo "_law_cell", .glo "_law_part", .glo "_law_row", .glo "_law_lowest", .glo "_law_names", .glo "_law_inn", .glo "_law_chance", .glo "_law_pick", .glo "_law_chosen"]
def fa2 : List He.Fa := [.glo "_law_without", .glo "_law_do", .glo "_law_alike", .glo "_law_shut", .glo "_law_kept", .glo "law", .glo "House", .glo "Book", .glo "Full", .glo "SURE", .free "abs", .free "len", .free "isinstance", .free "sum", .free "sorted", .free "set", .free "list", .free "range", .free "enumerate", .free "min", .free "max", .free "int", .free "str", .free "tuple", .free "bool", .free "ValueError", .int "NIGHTS" 400, .int "MOST_ROOMS" 12, .int "MOST_KINDS" 4, .int "LONGEST" 8]
def fa3 : List He.Fa := [.int "BEST" 4, .int "FINEST_RISK" 1000000000, .int "FINEST_CHANCE" 100, .int "MOST_NAMES" 16, .str "LETTERS" "abcdefghijklmnopqrstuvwxyz", .cls "House", .mkr "House", .noat "House" "rooms", .noat "House" "places", .noat "House" "wishes", .noat "House" "walks", .cls "Book", .mkr "Book", .noat "Book" "ladder", .noat "Book" "risk", .noat "Book" "inn", .noat "Book" "entries", .noat "Book" "evening", .noat "Book" "events", .glo "InnError", .exm "Full" "Full" true]
def fa : List He.Fa := fa0 ++ fa1 ++ fa2 ++ fa3
def nm0 : List PySem.Str := ["_wall", "InnError", "NoNumber", "NoBook", "Full", "NoKind", "TooMany", "NoName", "NoStretch", "NoChance", "Stands", "NoGuest", "InHouse", "NotTonight", "is_whole", "divisor", "ratio", "is_ratio", "is_chance", "under", "NIGHTS", "is_stretch", "holds", "widened", "tops_of", "MOST_ROOMS", "MOST_KINDS", "is_ladder", "rooms_from", "chance_at"]
def nm1 : List PySem.Str := ["begun_within", "tight", "free_from", "wishes_from", "falls_of", "guest_at", "admitted", "LETTERS", "LONGEST", "BEST", "is_name", "House", "SURE", "stay_of", "counted", "paper_of", "waiting", "walked", "FINEST_RISK", "FINEST_CHANCE", "MOST_NAMES", "rooms_of", "Book", "_law_cell", "_law_part", "_law_row", "_law_whole", "_law_lowest", "_law_names", "_law_inn"]
def nm2 : List PySem.Str := ["_law_chance", "_law_pick", "_law_chosen", "_law_without", "_law_do", "_law_alike", "_law_shut", "_law_kept"]
def loose : List PySem.Str := nm0 ++ nm1 ++ nm2
def exB (K : PySem.W.Frag) : Bool := (decide (PySem.W.specialIn K (.ref (He.ga K "InnError")) "__getattribute__" = some (some (.builtin "type.__getattribute__"))) && (PySem.W.readsIn K (He.ga K "InnError") (.type "type") && (cfB (PySem.W.findCls K (.ref (He.ga K "InnError")) (.type "type") "__init__") "ValueError.__init__" && (oexB K (CF K) && (decide (PySem.W.findIn K (.ref (CF K)) "kind" = some none) && (decide (PySem.W.findIn K (.ref (CF K)) "__init__" = some (some (.ref (He.ma K (CF K) "__init__")))) && (decide (PySem.W.typeIn K (.ref (He.ma K (CF K) "__init__")) = some (.type "function")) && (xfB K (CF K) && He.tupB K "SURE" [.int 1, .int 1]))))))))
theorem txt {K : PySem.W.Frag} {h : Heap} {mg : Str → Option Value} (X : K.In h) (G : h.Ns mainGlobals mg) (c : He.SaysD fa fn K) (e : exB K = true) : Txt K mg := by
  unfold exB at e
  obtain ⟨e0, e⟩ := He.ba e
  obtain ⟨e1, e⟩ := He.ba e
  obtain ⟨e2, e⟩ := He.ba e
  obtain ⟨e3, e⟩ := He.ba e
  obtain ⟨e4, e⟩ := He.ba e
  obtain ⟨e5, e⟩ := He.ba e
  obtain ⟨e6, e⟩ := He.ba e
  obtain ⟨e7, e⟩ := He.ba e
  have e8 := e
  exact {
    f_Full__init_ := c.def_ 0 (d := d_Full__init_) rfl
    f_is_whole := c.def_ 1 (d := d_is_whole) rfl
    f_divisor := c.def_ 2 (d := d_divisor) rfl
    f_ratio := c.def_ 3 (d := d_ratio) rfl
    f_is_ratio := c.def_ 4 (d := d_is_ratio) rfl
    f_is_chance := c.def_ 5 (d := d_is_chance) rfl
    f_under := c.def_ 6 (d := d_under) rfl
    f_is_stretch := c.def_ 7 (d := d_is_stretch) rfl
    f_holds := c.def_ 8 (d := d_holds) rfl
    f_widened := c.def_ 9 (d := d_widened) rfl
    f_tops_of := c.def_ 10 (d := d_tops_of) rfl
    f_is_ladder := c.def_ 11 (d := d_is_ladder) rfl
    f_rooms_from := c.def_ 12 (d := d_rooms_from) rfl
    f_chance_at := c.def_ 13 (d := d_chance_at) rfl
    f_begun_within := c.def_ 14 (d := d_begun_within) rfl
    f_tight := c.def_ 15 (d := d_tight) rfl
    f_free_from := c.def_ 16 (d := d_free_from) rfl
    f_wishes_from := c.def_ 17 (d := d_wishes_from) rfl
    f_falls_of := c.def_ 18 (d := d_falls_of) rfl
    f_guest_at := c.def_ 19 (d := d_guest_at) rfl
    f_admitted := c.def_ 20 (d := d_admitted) rfl
    f_is_name := c.def_ 21 (d := d_is_name) rfl
    f_House__init_ := c.def_ 22 (d := d_House__init_) rfl
    f_House_need := c.def_ 23 (d := d_House_need) rfl
    f_House_guests := c.def_ 24 (d := d_House_guests) rfl
    f_House_moved := c.def_ 25 (d := d_House_moved) rfl
    f_House_name_in := c.def_ 26 (d := d_House_name_in) rfl
    f_House_let_in := c.def_ 27 (d := d_House_let_in) rfl
    f_House_out := c.def_ 28 (d := d_House_out) rfl
    f_stay_of := c.def_ 29 (d := d_stay_of) rfl
    f_counted := c.def_ 30 (d := d_counted) rfl
    f_paper_of := c.def_ 31 (d := d_paper_of) rfl
    f_waiting := c.def_ 32 (d := d_waiting) rfl
    f_walked := c.def_ 33 (d := d_walked) rfl
    f_rooms_of := c.def_ 34 (d := d_rooms_of) rfl
    f_Book__init_ := c.def_ 35 (d := d_Book__init_) rfl
    f_Book_note := c.def_ 36 (d := d_Book_note) rfl
    f_Book_need := c.def_ 37 (d := d_Book_need) rfl
    f_Book_drop := c.def_ 38 (d := d_Book_drop) rfl
    f_Book_is_due := c.def_ 39 (d := d_Book_is_due) rfl
    f_Book_inside := c.def_ 40 (d := d_Book_inside) rfl
    f_Book_fill := c.def_ 41 (d := d_Book_fill) rfl
    f_Book_check_wish := c.def_ 42 (d := d_Book_check_wish) rfl
    f_Book_wish := c.def_ 43 (d := d_Book_wish) rfl
    f_Book_withdraw := c.def_ 44 (d := d_Book_withdraw) rfl
    f_Book_need_tonight := c.def_ 45 (d := d_Book_need_tonight) rfl
    f_Book_come := c.def_ 46 (d := d_Book_come) rfl
    f_Book_absent := c.def_ 47 (d := d_Book_absent) rfl
    f_Book_go := c.def_ 48 (d := d_Book_go) rfl
    f_Book_close := c.def_ 49 (d := d_Book_close) rfl
    f_Book_tonight := c.def_ 50 (d := d_Book_tonight) rfl
    f_Book_names := c.def_ 51 (d := d_Book_names) rfl
    f_Book_state := c.def_ 52 (d := d_Book_state) rfl
    f_Book_line := c.def_ 53 (d := d_Book_line) rfl
    f_law_cell := c.def_ 54 (d := d_law_cell) rfl
    f_law_part := c.def_ 55 (d := d_law_part) rfl
    f_law_row := c.def_ 56 (d := d_law_row) rfl
    f_law_lowest := c.def_ 57 (d := d_law_lowest) rfl
    f_law_names := c.def_ 58 (d := d_law_names) rfl
    f_law_inn := c.def_ 59 (d := d_law_inn) rfl
    f_law_chance := c.def_ 60 (d := d_law_chance) rfl
    f_law_pick := c.def_ 61 (d := d_law_pick) rfl
    f_law_chosen := c.def_ 62 (d := d_law_chosen) rfl
    f_law_without := c.def_ 63 (d := d_law_without) rfl
    f_law_do := c.def_ 64 (d := d_law_do) rfl
    f_law_alike := c.def_ 65 (d := d_law_alike) rfl
    f_law_shut := c.def_ 66 (d := d_law_shut) rfl
    f_law_kept := c.def_ 67 (d := d_law_kept) rfl
    f_law := c.def_ 68 (d := d_law) rfl
    g_is_whole := He.glo_ok X G (c.fact 0 (f := .glo "is_whole") rfl)
    g_divisor := He.glo_ok X G (c.fact 1 (f := .glo "divisor") rfl)
    g_ratio := He.glo_ok X G (c.fact 2 (f := .glo "ratio") rfl)
    g_is_ratio := He.glo_ok X G (c.fact 3 (f := .glo "is_ratio") rfl)
    g_is_chance := He.glo_ok X G (c.fact 4 (f := .glo "is_chance") rfl)
    g_under := He.glo_ok X G (c.fact 5 (f := .glo "under") rfl)
    g_is_stretch := He.glo_ok X G (c.fact 6 (f := .glo "is_stretch") rfl)
    g_holds := He.glo_ok X G (c.fact 7 (f := .glo "holds") rfl)
    g_widened := He.glo_ok X G (c.fact 8 (f := .glo "widened") rfl)
    g_tops_of := He.glo_ok X G (c.fact 9 (f := .glo "tops_of") rfl)
    g_is_ladder := He.glo_ok X G (c.fact 10 (f := .glo "is_ladder") rfl)
    g_rooms_from := He.glo_ok X G (c.fact 11 (f := .glo "rooms_from") rfl)
    g_chance_at := He.glo_ok X G (c.fact 12 (f := .glo "chance_at") rfl)
    g_begun_within := He.glo_ok X G (c.fact 13 (f := .glo "begun_within") rfl)
    g_tight := He.glo_ok X G (c.fact 14 (f := .glo "tight") rfl)
    g_free_from := He.glo_ok X G (c.fact 15 (f := .glo "free_from") rfl)
    g_wishes_from := He.glo_ok X G (c.fact 16 (f := .glo "wishes_from") rfl)
    g_falls_of := He.glo_ok X G (c.fact 17 (f := .glo "falls_of") rfl)
    g_guest_at := He.glo_ok X G (c.fact 18 (f := .glo "guest_at") rfl)
    g_admitted := He.glo_ok X G (c.fact 19 (f := .glo "admitted") rfl)
    g_is_name := He.glo_ok X G (c.fact 20 (f := .glo "is_name") rfl)
    m_House_need := He.meth_ok (c.fact 21 (f := .meth "House" "need") rfl)
    m_House_guests := He.meth_ok (c.fact 22 (f := .meth "House" "guests") rfl)
    m_House_moved := He.meth_ok (c.fact 23 (f := .meth "House" "moved") rfl)
    m_House_name_in := He.meth_ok (c.fact 24 (f := .meth "House" "name_in") rfl)
    m_House_let_in := He.meth_ok (c.fact 25 (f := .meth "House" "let_in") rfl)
    m_House_out := He.meth_ok (c.fact 26 (f := .meth "House" "out") rfl)
    g_stay_of := He.glo_ok X G (c.fact 27 (f := .glo "stay_of") rfl)
    g_counted := He.glo_ok X G (c.fact 28 (f := .glo "counted") rfl)
    g_paper_of := He.glo_ok X G (c.fact 29 (f := .glo "paper_of") rfl)
    g_waiting := He.glo_ok X G (c.fact 30 (f := .glo "waiting") rfl)
    g_walked := He.glo_ok X G (c.fact 31 (f := .glo "walked") rfl)
    g_rooms_of := He.glo_ok X G (c.fact 32 (f := .glo "rooms_of") rfl)
    m_Book_note := He.meth_ok (c.fact 33 (f := .meth "Book" "note") rfl)
    m_Book_need := He.meth_ok (c.fact 34 (f := .meth "Book" "need") rfl)
    m_Book_drop := He.meth_ok (c.fact 35 (f := .meth "Book" "drop") rfl)
    m_Book_is_due := He.meth_ok (c.fact 36 (f := .meth "Book" "is_due") rfl)
    m_Book_inside := He.meth_ok (c.fact 37 (f := .meth "Book" "inside") rfl)
    m_Book_fill := He.meth_ok (c.fact 38 (f := .meth "Book" "fill") rfl)
    m_Book_check_wish := He.meth_ok (c.fact 39 (f := .meth "Book" "check_wish") rfl)
    m_Book_wish := He.meth_ok (c.fact 40 (f := .meth "Book" "wish") rfl)
    m_Book_withdraw := He.meth_ok (c.fact 41 (f := .meth "Book" "withdraw") rfl)
    m_Book_need_tonight := He.meth_ok (c.fact 42 (f := .meth "Book" "need_tonight") rfl)
    m_Book_come := He.meth_ok (c.fact 43 (f := .meth "Book" "come") rfl)
    m_Book_absent := He.meth_ok (c.fact 44 (f := .meth "Book" "absent") rfl)
    m_Book_go := He.meth_ok (c.fact 45 (f := .meth "Book" "go") rfl)
    m_Book_close := He.meth_ok (c.fact 46 (f := .meth "Book" "close") rfl)
    m_Book_tonight := He.meth_ok (c.fact 47 (f := .meth "Book" "tonight") rfl)
    m_Book_names := He.meth_ok (c.fact 48 (f := .meth "Book" "names") rfl)
    m_Book_state := He.meth_ok (c.fact 49 (f := .meth "Book" "state") rfl)
    m_Book_line := He.meth_ok (c.fact 50 (f := .meth "Book" "line") rfl)
    g_law_cell := He.glo_ok X G (c.fact 51 (f := .glo "_law_cell") rfl)
    g_law_part := He.glo_ok X G (c.fact 52 (f := .glo "_law_part") rfl)
    g_law_row := He.glo_ok X G (c.fact 53 (f := .glo "_law_row") rfl)
    g_law_lowest := He.glo_ok X G (c.fact 54 (f := .glo "_law_lowest") rfl)
    g_law_names := He.glo_ok X G (c.fact 55 (f := .glo "_law_names") rfl)
    g_law_inn := He.glo_ok X G (c.fact 56 (f := .glo "_law_inn") rfl)
    g_law_chance := He.glo_ok X G (c.fact 57 (f := .glo "_law_chance") rfl)
    g_law_pick := He.glo_ok X G (c.fact 58 (f := .glo "_law_pick") rfl)
    g_law_chosen := He.glo_ok X G (c.fact 59 (f := .glo "_law_chosen") rfl)
    g_law_without := He.glo_ok X G (c.fact 60 (f := .glo "_law_without") rfl)
    g_law_do := He.glo_ok X G (c.fact 61 (f := .glo "_law_do") rfl)
    g_law_alike := He.glo_ok X G (c.fact 62 (f := .glo "_law_alike") rfl)
    g_law_shut := He.glo_ok X G (c.fact 63 (f := .glo "_law_shut") rfl)
    g_law_kept := He.glo_ok X G (c.fact 64 (f := .glo "_law_kept") rfl)
    g_law := He.glo_ok X G (c.fact 65 (f := .glo "law") rfl)
    g_House := He.glo_ok X G (c.fact 66 (f := .glo "House") rfl)
    g_Book := He.glo_ok X G (c.fact 67 (f := .glo "Book") rfl)
    g_Full := He.glo_ok X G (c.fact 68 (f := .glo "Full") rfl)
    g_SURE := He.glo_ok X G (c.fact 69 (f := .glo "SURE") rfl)
    n_abs := He.free_ok X G (c.fact 70 (f := .free "abs") rfl)
    n_len := He.free_ok X G (c.fact 71 (f := .free "len") rfl)
    n_isinstance := He.free_ok X G (c.fact 72 (f := .free "isinstance") rfl)
    n_sum := He.free_ok X G (c.fact 73 (f := .free "sum") rfl)
    n_sorted := He.free_ok X G (c.fact 74 (f := .free "sorted") rfl)
    n_set := He.free_ok X G (c.fact 75 (f := .free "set") rfl)
    n_list := He.free_ok X G (c.fact 76 (f := .free "list") rfl)
    n_range := He.free_ok X G (c.fact 77 (f := .free "range") rfl)
    n_enumerate := He.free_ok X G (c.fact 78 (f := .free "enumerate") rfl)
    n_min := He.free_ok X G (c.fact 79 (f := .free "min") rfl)
    n_max := He.free_ok X G (c.fact 80 (f := .free "max") rfl)
    n_int := He.free_ok X G (c.fact 81 (f := .free "int") rfl)
    n_str := He.free_ok X G (c.fact 82 (f := .free "str") rfl)
    n_tuple := He.free_ok X G (c.fact 83 (f := .free "tuple") rfl)
    n_bool := He.free_ok X G (c.fact 84 (f := .free "bool") rfl)
    n_ValueError := He.free_ok X G (c.fact 85 (f := .free "ValueError") rfl)
    i_NIGHTS := He.int_ok X G (c.fact 86 (f := .int "NIGHTS" 400) rfl)
    i_MOST_ROOMS := He.int_ok X G (c.fact 87 (f := .int "MOST_ROOMS" 12) rfl)
    i_MOST_KINDS := He.int_ok X G (c.fact 88 (f := .int "MOST_KINDS" 4) rfl)
    i_LONGEST := He.int_ok X G (c.fact 89 (f := .int "LONGEST" 8) rfl)
    i_BEST := He.int_ok X G (c.fact 90 (f := .int "BEST" 4) rfl)
    i_FINEST_RISK := He.int_ok X G (c.fact 91 (f := .int "FINEST_RISK" 1000000000) rfl)
    i_FINEST_CHANCE := He.int_ok X G (c.fact 92 (f := .int "FINEST_CHANCE" 100) rfl)
    i_MOST_NAMES := He.int_ok X G (c.fact 93 (f := .int "MOST_NAMES" 16) rfl)
    z_LETTERS := He.str_ok X G (c.fact 94 (f := .str "LETTERS" "abcdefghijklmnopqrstuvwxyz") rfl)
    c_House := He.cls_ok (c.fact 95 (f := .cls "House") rfl)
    k_House := He.mkr_ok (c.fact 96 (f := .mkr "House") rfl)
    a_House_rooms := He.noat_ok (c.fact 97 (f := .noat "House" "rooms") rfl)
    a_House_places := He.noat_ok (c.fact 98 (f := .noat "House" "places") rfl)
    a_House_wishes := He.noat_ok (c.fact 99 (f := .noat "House" "wishes") rfl)
    a_House_walks := He.noat_ok (c.fact 100 (f := .noat "House" "walks") rfl)
    c_Book := He.cls_ok (c.fact 101 (f := .cls "Book") rfl)
    k_Book := He.mkr_ok (c.fact 102 (f := .mkr "Book") rfl)
    a_Book_ladder := He.noat_ok (c.fact 103 (f := .noat "Book" "ladder") rfl)
    a_Book_risk := He.noat_ok (c.fact 104 (f := .noat "Book" "risk") rfl)
    a_Book_inn := He.noat_ok (c.fact 105 (f := .noat "Book" "inn") rfl)
    a_Book_entries := He.noat_ok (c.fact 106 (f := .noat "Book" "entries") rfl)
    a_Book_evening := He.noat_ok (c.fact 107 (f := .noat "Book" "evening") rfl)
    a_Book_events := He.noat_ok (c.fact 108 (f := .noat "Book" "events") rfl)
    e_glob := He.glo_ok X G (c.fact 109 (f := .glo "InnError") rfl)
    x_exm := He.exm_ok (c.fact 110 (f := .exm "Full" "Full" true) rfl)
    e_gg := of_decide_eq_true e0
    e_rC := id e1
    e_vV := cfB_ok e2
    x_oex := oexB_ok e3
    x_kind := of_decide_eq_true e4
    x_init := of_decide_eq_true e5
    x_fun := of_decide_eq_true e6
    x_xf := xfB_ok e7
    sure := He.tupB_ok e8
  }
def lkX (g : Addr → Option Obj) (a : Addr) (x : Str) : List Addr := match g a with
  | some ⟨_, _, .dict es _, _⟩ => (match es.toList.find? (·.key.isStr x) with
    | some e => He.refV e.val
    | none => [])
  | _ => []
def allX (g : Addr → Option Obj) (a : Addr) : List Addr := match g a with
  | some ⟨_, _, .dict es _, _⟩ => es.toList.flatMap fun e => He.refV e.val
  | _ => []
def nsX (g : Addr → Option Obj) (a : Addr) : List Addr := match g a with
  | some ⟨_, _, .cls cd, _⟩ => [cd.ns]
  | _ => []
def cdX (g : Addr → Option Obj) (a : Addr) : List Addr := match g a with
  | some ⟨_, _, .func fd, _⟩ => He.refV fd.code ++ He.refV fd.defaults
  | _ => []
def frA {α : Type} : List Addr → (List Addr → α) → α
  | [], k => k []
  | a :: r, k => HandSHeadRun.frNat a fun a => frA r fun r => k (a :: r)
theorem frA_eq {α : Type} : ∀ (l : List Addr) (k : List Addr → α), frA l k = k l
  | [], _ => rfl
  | a :: r, k => by
    unfold frA
    rw [HandSHeadRun.frNat_eq, frA_eq r]
def frK {α : Type} : PySem.W.Frag → (PySem.W.Frag → α) → α
  | [], k => k []
  | (a, o) :: r, k => HandSHeadRun.frNat a fun a => frK r fun r => k ((a, o) :: r)
theorem frK_eq {α : Type} : ∀ (l : PySem.W.Frag) (k : PySem.W.Frag → α), frK l k = k l
  | [], _ => rfl
  | (a, o) :: r, k => by
    unfold frK
    rw [HandSHeadRun.frNat_eq, frK_eq r]
/-- the addresses that are kept: the module's names, their code, and of these classes the own names, methods and their code -/
def asX (cl : List Str) (g : Addr → Option Obj) : List Addr :=
  frA (allX g mainGlobals) fun G => frA (cl.flatMap fun c => (lkX g mainGlobals c).flatMap (nsX g)) fun N => frA (N.flatMap (allX g)) fun M => frA (M.flatMap (cdX g)) fun MC => frA (G.flatMap (cdX g)) fun GC => mainGlobals :: cStatics :: (N ++ (G ++ (M ++ (GC ++ MC))))
abbrev AlY : Type := He.AlD × Bool
def obsY (K : PySem.W.Frag) : AlY := (He.obsD fa fn K, exB K)
def valY : AlY := (He.valD fn, true)
def obY (cl : List Str) (g : Addr → Option Obj) : AlY := frK (He.frG g (asX cl g)) fun K => obsY K
def hookY (cl : List Str) : PySem.W.Hook where
  α := AlY
  obs := fun s => obY cl s.heap.get?
  val := fun _ => valY
  says := fun _ h => ∃ K : PySem.W.Frag, K.In h ∧ He.SaysD fa fn K ∧ exB K = true
  of := fun w s e => ⟨_, He.frG_in, by
    have e' : obY cl s.heap.get? = valY := e
    unfold obY at e'
    rw [frK_eq] at e'
    exact ⟨congrArg (fun z : AlY => z.1) e', congrArg (fun z : AlY => z.2) e'⟩⟩
  keeps := fun _ _ _ ⟨K, hK, c⟩ k => ⟨K, PySem.W.Frag.In.keeps hK k, c⟩
abbrev cls4 : List Str := ["House", "Book", "Full", "InnError"]
abbrev R : PySem.W.OpenRow := PySem.W.OpenLaw.row PySem.Challenge.rw_nightbook_k87_whole_line_stable
abbrev hk : PySem.W.Hook := hookY cls4
def ob (s : PySem.W.SharedT) : AlY := obY cls4 (HandSHeadRun.getT s)
theorem ob_eq (s : PySem.W.SharedT) : ob s = hk.obs s.abs := by
  have e : HandSHeadRun.getT s = s.abs.heap.get? := funext fun a => HandSHeadRun.getT_eq s a
  unfold ob
  rw [e]
  all_goals rfl
theorem run (w : World) : HandSHeadRun.RunEq R (PySem.W.view R.prog [78]) hk ob 20000 loose w := by
  intro os
  kernel_rfl
end Nb
end
section
set_option Elab.async false
set_option linter.all false
set_option maxRecDepth 100000
set_option maxHeartbeats 4000000
/-! Iterators' ends where an exception may be being handled. -/
namespace NbU
open PySem PySem.Spec PyProof.Rows L2 HotX
/-- either nothing is handled, or an exception without a context is -/
def WarmAt (A : Around) (h : Heap) : Prop := A.handled = none ∨ ∃ x1, HotAt A x1 h
theorem WarmAt.go {A : Around} {h h' : Heap} {it : Addr} (hw : WarmAt A h)
    (k : ∀ b o, b ≠ it → h.get? b = some o → h'.get? b = some o)
    (ne : ∀ o vs, h.get? it = some o → o.data = .fields vs → vs[2]? ≠ some .none) : WarmAt A h' := by
  rcases hw with hw | ⟨x1, a, o, vs, ho, hd, h2⟩
  · exact .inl hw
  · refine .inr ⟨x1, a, o, vs, k _ _ (fun e => ?_) ho, hd, h2⟩
    subst e
    exact ne o vs ho hd h2
theorem WarmAt.kept {A : Around} {h h' : Heap} (hw : WarmAt A h) (k : ∀ b o, h.get? b = some o → h'.get? b = some o) : WarmAt A h' := by
  rcases hw with hw | ⟨x1, a, o, vs, ho, hd, h2⟩
  · exact .inl hw
  · exact .inr ⟨x1, a, o, vs, k _ _ ho, hd, h2⟩
section
variable {prog : Program} {w : World} {A : Around} {E : Value → Shared → Prop} {s : Shared}
theorem raise_warm {α : Type} {a : Addr} {oe : Obj} {vs : Array Value} {Q : α → Shared → Prop} (hw : WarmAt A s.heap)
    (hne : ∀ x1, A.handled = some (.ref x1) → x1 ≠ a) (ha : s.heap.get? a = some oe) (da : oe.data = .fields vs) (hi : 2 < vs.size)
    (hE : ∀ h' : Heap, (∀ b o, b ≠ a → s.heap.get? b = some o → h'.get? b = some o) → (∃ o', h'.get? a = some o' ∧ o'.cls = oe.cls) → E (.ref a) { s with heap := h' }) :
    wpAny (model prog w) A (raiseNew (.ref a) : Sem α) Q E s := by
  rcases hw with hw | ⟨x1, hw⟩
  · unfold raiseNew
    refine wpAny_bind (wpAny_handled ?_)
    rw [hw]
    exact wpAny_bind (wpAny_pure (wpAny_throw (hE s.heap (fun _ _ _ e => e) ⟨oe, ha, rfl⟩)))
  · refine raiseNew_hot hw (hne x1 hw.1) ha da hi (hE _ (fun b o hb e => ?_) ⟨_, Heap.get?_update_self _ ha (Obj.isFreed_of_fields (Obj.data_mapFields da _)), Obj.cls_mapFields ..⟩)
    exact (Heap.get?_update_other _ _ (Ne.symm hb)).trans e
/-- StopIteration is made and raised -/
theorem stop_made {α : Type} {Q : α → Shared → Prop} (hw : WarmAt A s.heap)
    (hE : ∀ (a : Addr) (h' : Heap), (∀ b o, s.heap.get? b = some o → h'.get? b = some o) → (∃ o, h'.get? a = some o ∧ o.cls = .type "StopIteration") → E (.ref a) { s with heap := h' }) :
    wpAny (model prog w) A (newExc (.type "StopIteration") [] >>= fun e => (raiseNew e : Sem α)) Q E s := by
  refine wpAny_bind ?_
  simp only [newExc, newTuple]
  refine wpAny_bind (wpAny_newObj_type ?_ (by size_fits))
  refine wpAny_bind (m := firstArgMember _ _) (wpAny_of_eq (a := Value.none) (by first | rfl | (simp only [firstArgMember]; rfl)) ?_)
  refine wpAny_newObj_type ?_ (by size_fits)
  refine raise_warm ?_ ?_ (Heap.get?_push_size _ rfl) rfl (by first | (simp; done) | (simp; omega) | (simp only [Array.size_append]; simp; omega)) ?_
  · exact hw.kept fun b o e => Heap.get?_push_of_some _ (Heap.get?_push_of_some _ e)
  · intro x1 hx
    rcases hw with hw | ⟨x2, h1, o, vs, ho, _⟩
    · rw [hw] at hx; cases hx
    · rw [hx] at h1
      cases h1
      exact Nat.ne_of_lt (Heap.lt_size (Heap.get?_push_of_some _ ho))
  · intro h' k ⟨o', ho', hc'⟩
    refine hE _ h' (fun b o e => ?_) ⟨o', ho', hc'⟩
    have e1 := Heap.get?_push_of_some ({ cls := .type "tuple", data := .seq (List.toArray []) } : Obj) e
    refine k b o (Nat.ne_of_lt (Heap.lt_size e1)) ?_
    exact Heap.get?_push_of_some _ e1
/-- next ends where its slot raises StopIteration -/
theorem stop_met {h0 : Heap} {it : Addr} {Q : Option Value → Shared → Prop} (hw : WarmAt A h0) (hk : ∀ b o, b ≠ it → s.heap.get? b = some o → h0.get? b = some o)
    (hQ : ∀ h', Heap.ExtBut it s.heap h' → Q none { s with heap := h' }) {α : Type} {Q' : α → Shared → Prop} :
    wpAny (model prog w) A.in1 (newExc (.type "StopIteration") [] >>= fun e => (raiseNew e : Sem α)) Q'
      (fun e s' => wpAny (model prog w) A (do if ← isInstance e (.type "StopIteration") then pure none else throw e) Q E s') { s with heap := h0 } := by
  refine stop_made (s := { s with heap := h0 }) hw fun a h' k ⟨o, ho, hc⟩ => ?_
  refine wpAny_bind (wpAny_isInstance (T := "StopIteration") (b := true) ⟨o, ho, hc⟩ isSubtype_stop ?_)
  exact wpAny_pure (hQ _ fun b ob hb e => k b ob (hk b ob hb e))

theorem tuple_end {it t : Addr} {i : Nat} {items : Array Value} {Q : Option Value → Shared → Prop} (hw : WarmAt A s.heap)
    (hit : IsTupIter s.heap it t i) (ht : IsTup s.heap t items) (hx : items[i]? = none)
    (hQ : ∀ h', Heap.ExtBut it s.heap h' → Q none { s with heap := h' }) : wpAny (model prog w) A (pyNext (.ref it)) Q E s := by
  obtain ⟨o, ho, hc, hd⟩ := id hit
  obtain ⟨ol, hol, _, nl, hdl⟩ := ht
  unfold pyNext
  refine wpAny_bind (wpAny_attempt (wpAny_callSpecial?_slot (name := Str.ofString "__next__") hit.typeIs slot_tupleiter_next
    (wpAny_call_entry slot_tupleiter_next hit.typeIs entry_tupleiter_next ?_ (args_tupleiter_next _))))
  show wpAny _ _ (field (.ref it) 0 >>= _) _ _ s
  refine wpAny_bind (wpAny_field ho hd (x := .ref t) rfl ?_)
  show wpAny _ _ (if (Value.ref t == Value.none) = true then _ else _) _ _ s
  rw [if_neg (show ¬ ((Value.ref t == Value.none) = true) from Bool.false_ne_true)]
  show wpAny _ _ (field (.ref it) 1 >>= _) _ _ s
  refine wpAny_bind (wpAny_field ho hd (x := .int i 0) rfl ?_)
  show wpAny _ _ (seqItems? (.ref t) >>= _) _ _ s
  refine wpAny_bind (wpAny_seqItems hol hdl ?_)
  simp only [Int.toNat_natCast, hx]
  refine wpAny_bind (wpAny_rule (wpAny_bind (wpAny_setField ho hd (by simp) ?_)))
  have hk : ∀ b o, b ≠ it → s.heap.get? b = some o → (s.heap.update it (Obj.mapFields (·.setIfInBounds 0 Value.none))).get? b = some o := fun b o hb e => (Heap.get?_update_other _ _ (Ne.symm hb)).trans e
  refine stop_met (s := s) (hw.go hk fun o' vs e1 e2 => ?_) hk hQ
  rw [ho] at e1; cases e1
  rw [hd] at e2; cases e2
  simp
theorem list_end {it l : Addr} {i : Nat} {items : Array Value} {Q : Option Value → Shared → Prop} (hw : WarmAt A s.heap)
    (hit : s.heap.IsListIter it l i) (hl : s.heap.IsList l items) (hx : items[i]? = none)
    (hQ : ∀ h', Heap.ExtBut it s.heap h' → Q none { s with heap := h' }) : wpAny (model prog w) A (pyNext (.ref it)) Q E s := by
  obtain ⟨o, ho, hc, hd⟩ := id hit
  obtain ⟨ol, hol, _, nl, hdl⟩ := hl
  unfold pyNext
  refine wpAny_bind (wpAny_attempt (wpAny_callSpecial?_slot (name := Str.ofString "__next__") hit.typeIs slot_listiter_next
    (wpAny_call_entry slot_listiter_next hit.typeIs entry_listiter_next ?_ (args_listiter_next _))))
  show wpAny _ _ (field (.ref it) 0 >>= _) _ _ s
  refine wpAny_bind (wpAny_field ho hd (x := .ref l) rfl ?_)
  show wpAny _ _ (if (Value.ref l == Value.none) = true then _ else _) _ _ s
  rw [if_neg (show ¬ ((Value.ref l == Value.none) = true) from Bool.false_ne_true)]
  show wpAny _ _ (field (.ref it) 1 >>= _) _ _ s
  refine wpAny_bind (wpAny_field ho hd (x := .int i 0) rfl ?_)
  show wpAny _ _ (seqItems? (.ref l) >>= _) _ _ s
  refine wpAny_bind (wpAny_seqItems hol hdl ?_)
  simp only [Int.toNat_natCast, hx]
  refine wpAny_bind (wpAny_rule (wpAny_bind (wpAny_setField ho hd (by simp) ?_)))
  have hk : ∀ b o, b ≠ it → s.heap.get? b = some o → (s.heap.update it (Obj.mapFields (·.setIfInBounds 0 Value.none))).get? b = some o := fun b o hb e => (Heap.get?_update_other _ _ (Ne.symm hb)).trans e
  refine stop_met (s := s) (hw.go hk fun o' vs e1 e2 => ?_) hk hQ
  rw [ho] at e1; cases e1
  rw [hd] at e2; cases e2
  simp

theorem range_end {it : Addr} {x left step : Int} {Q : Option Value → Shared → Prop} (hw : WarmAt A s.heap) (hit : IsRangeIter s.heap it x left step) (hleft : left ≤ 0)
    (hQ : ∀ h', Heap.ExtBut it s.heap h' → Q none { s with heap := h' }) : wpAny (model prog w) A (pyNext (.ref it)) Q E s := by
  rcases hw with hw | ⟨x1, hw⟩
  · exact wpAny_pyNext_range_end hw hit hleft hQ
  · exact pyNext_range_end_hot hw hit hleft fun h' k => hQ h' fun b o _ e => k b o e
theorem key_end {it d : Addr} {i n ep : Nat} {od : Obj} {es : Array DictEntry} {Q : Option Value → Shared → Prop} (hw : WarmAt A s.heap) (hit : s.heap.IsKeyIter it d i n ep)
    (hod : s.heap.get? d = some od) (hdd : od.data = .dict es ep) (hsz : es.size = n) (hge : n ≤ i)
    (hQ : ∀ h', Heap.ExtBut it s.heap h' → Q none { s with heap := h' }) : wpAny (model prog w) A (pyNext (.ref it)) Q E s := by
  obtain ⟨o, ho, hc, hd⟩ := id hit
  unfold pyNext
  refine wpAny_bind (wpAny_attempt (wpAny_callSpecial?_slot (name := Str.ofString "__next__") hit.typeIs F.slot_dict_keyiterator_next
    (wpAny_call_entry F.slot_dict_keyiterator_next hit.typeIs F.entry_dict_keyiterator_next ?_ (F.args_dict_keyiterator_next_1 _))))
  refine wpAny_bind (wpAny_pure ?_)
  refine wpAny_bind (wpAny_bind ?_)
  refine wpAny_bind (wpAny_typeNameOfWhole_keyiter hit.typeIs (wpAny_pure ?_))
  refine wpAny_bind (wpAny_fieldsOf ho hd ?_)
  have hown : Builtin.Dict_items.ownsTuple "dict_keyiterator" = false := by decide
  simp only [hown, Bool.false_eq_true, if_false]
  show wpAny _ _ (if (Value.ref d == Value.none) = true then _ else _) _ _ s
  rw [if_neg (show ¬ ((Value.ref d == Value.none) = true) from Bool.false_ne_true)]
  refine wpAny_bind (wpAny_pure (wpAny_bind (wpAny_dictEntries hod hdd ?_)))
  rw [if_neg (by rw [hsz]; simp)]
  refine wpAny_bind (wpAny_pure (wpAny_bind (wpAny_dictEpoch hod hdd ?_)))
  rw [if_neg (by simp)]
  refine wpAny_pure ?_
  have hge' : es.size ≤ i := by rw [hsz]; exact hge
  simp only [show ¬ ((i : Int) < 0) from by omega, if_false, Int.toNat_natCast, Array.getElem?_eq_none hge']
  refine wpAny_bind (wpAny_bind (wpAny_typeNameOfWhole_keyiter hit.typeIs (wpAny_pure ?_)))
  show wpAny _ _ (setField (.ref it) 0 .none >>= _) _ _ s
  refine wpAny_bind (wpAny_setField ho hd (by simp) ?_)
  have hk : ∀ b o, b ≠ it → s.heap.get? b = some o → (s.heap.update it (Obj.mapFields (·.setIfInBounds 0 Value.none))).get? b = some o := fun b o hb e => (Heap.get?_update_other _ _ (Ne.symm hb)).trans e
  refine stop_met (s := s) (hw.go hk fun o' vs e1 e2 => ?_) hk hQ
  rw [ho] at e1; cases e1
  rw [hd] at e2; cases e2
  simp
theorem val_end {it d : Addr} {i n ep : Nat} {od : Obj} {es : Array DictEntry} {Q : Option Value → Shared → Prop} (hw : WarmAt A s.heap) (hit : s.heap.IsValIter it d i n ep)
    (hod : s.heap.get? d = some od) (hdd : od.data = .dict es ep) (hsz : es.size = n) (hge : n ≤ i)
    (hQ : ∀ h', Heap.ExtBut it s.heap h' → Q none { s with heap := h' }) : wpAny (model prog w) A (pyNext (.ref it)) Q E s := by
  obtain ⟨o, ho, hc, hd⟩ := id hit
  unfold pyNext
  refine wpAny_bind (wpAny_attempt (wpAny_callSpecial?_slot (name := Str.ofString "__next__") hit.typeIs F.slot_dict_valueiterator_next
    (wpAny_call_entry F.slot_dict_valueiterator_next hit.typeIs F.entry_dict_valueiterator_next ?_ (F.args_dict_valueiterator_next_1 _))))
  refine wpAny_bind (wpAny_pure ?_)
  refine wpAny_bind (wpAny_bind ?_)
  refine wpAny_bind (wpAny_typeNameOfWhole_valiter hit.typeIs (wpAny_pure ?_))
  refine wpAny_bind (wpAny_fieldsOf ho hd ?_)
  have hown : Builtin.Dict_items.ownsTuple "dict_valueiterator" = false := by decide
  simp only [hown, Bool.false_eq_true, if_false]
  show wpAny _ _ (if (Value.ref d == Value.none) = true then _ else _) _ _ s
  rw [if_neg (show ¬ ((Value.ref d == Value.none) = true) from Bool.false_ne_true)]
  refine wpAny_bind (wpAny_pure (wpAny_bind (wpAny_dictEntries hod hdd ?_)))
  rw [if_neg (by rw [hsz]; simp)]
  refine wpAny_bind (wpAny_pure (wpAny_bind (wpAny_dictEpoch hod hdd ?_)))
  rw [if_neg (by simp)]
  refine wpAny_pure ?_
  have hge' : es.size ≤ i := by rw [hsz]; exact hge
  simp only [show ¬ ((i : Int) < 0) from by omega, if_false, Int.toNat_natCast, Array.getElem?_eq_none hge']
  refine wpAny_bind (wpAny_bind (wpAny_typeNameOfWhole_valiter hit.typeIs (wpAny_pure ?_)))
  show wpAny _ _ (setField (.ref it) 0 .none >>= _) _ _ s
  refine wpAny_bind (wpAny_setField ho hd (by simp) ?_)
  have hk : ∀ b o, b ≠ it → s.heap.get? b = some o → (s.heap.update it (Obj.mapFields (·.setIfInBounds 0 Value.none))).get? b = some o := fun b o hb e => (Heap.get?_update_other _ _ (Ne.symm hb)).trans e
  refine stop_met (s := s) (hw.go hk fun o' vs e1 e2 => ?_) hk hQ
  rw [ho] at e1; cases e1
  rw [hd] at e2; cases e2
  simp
theorem enum_end {e it l : Addr} {i : Nat} {items : Array Value} {old : Value} {Q : Option Value → Shared → Prop} (hw : WarmAt A s.heap)
    (he : IsEnum s.heap e it i old) (hit : s.heap.IsListIter it l i) (hl : s.heap.IsList l items) (hx : items[i]? = none)
    (hQ : ∀ h', Heap.ExtBut it s.heap h' → Q none { s with heap := h' }) : wpAny (model prog w) A (pyNext (.ref e)) Q E s := by
  have hT : s.TypeIs (.ref e) "enumerate" := ⟨_, he, rfl⟩
  obtain ⟨o, ho, hc, hd⟩ := id hit
  obtain ⟨ol, hol, _, nl, hdl⟩ := hl
  unfold pyNext
  refine wpAny_bind (wpAny_attempt (wpAny_callSpecial?_slot (name := Str.ofString "__next__") hT F.slot_enumerate_next
    (wpAny_call_entry F.slot_enumerate_next hT F.entry_enumerate_next ?_ (F.args_enumerate_next_1 _))))
  show wpAny _ _ (field (.ref e) 2 >>= _) _ _ _
  refine wpAny_bind (wpAny_field he rfl (x := .ref it) rfl ?_)
  refine wpAny_bind ?_
  unfold Builtin.SmallTypes.nextOf
  refine wpAny_bind (wpAny_callSpecial?_slot (name := Str.ofString "__next__") hit.typeIs slot_listiter_next
    (wpAny_call_entry slot_listiter_next hit.typeIs entry_listiter_next ?_ (args_listiter_next _)))
  show wpAny _ _ (field (.ref it) 0 >>= _) _ _ s
  refine wpAny_bind (wpAny_field ho hd (x := .ref l) rfl ?_)
  show wpAny _ _ (if (Value.ref l == Value.none) = true then _ else _) _ _ s
  rw [if_neg (show ¬ ((Value.ref l == Value.none) = true) from Bool.false_ne_true)]
  show wpAny _ _ (field (.ref it) 1 >>= _) _ _ s
  refine wpAny_bind (wpAny_field ho hd (x := .int i 0) rfl ?_)
  show wpAny _ _ (seqItems? (.ref l) >>= _) _ _ s
  refine wpAny_bind (wpAny_seqItems hol hdl ?_)
  simp only [Int.toNat_natCast, hx]
  refine wpAny_bind (wpAny_rule (wpAny_bind (wpAny_setField ho hd (by simp) ?_)))
  have hk : ∀ b o, b ≠ it → s.heap.get? b = some o → (s.heap.update it (Obj.mapFields (·.setIfInBounds 0 Value.none))).get? b = some o := fun b o hb e => (Heap.get?_update_other _ _ (Ne.symm hb)).trans e
  refine stop_made (hw.go (A := A) hk fun o' vs e1 e2 => ?_) fun a h' k ⟨oe, hoe, hce⟩ => ?_
  · rw [ho] at e1; cases e1
    rw [hd] at e2; cases e2
    simp
  · refine wpAny_bind (wpAny_isInstance (T := "StopIteration") (b := true) ⟨oe, hoe, hce⟩ isSubtype_stop ?_)
    exact wpAny_pure (hQ _ fun b ob hb q => k b ob (hk b ob hb q))
/-- a tuple unpacked -/
theorem items_warm {t : Addr} {items : Array Value} {Q : List Value → Shared → Prop} (hw : WarmAt A s.heap) (ht : IsTup s.heap t items)
    (hQ : ∀ h', Heap.ExtBut s.heap.objs.size s.heap h' → Q items.toList { s with heap := h' }) : wpAny (model prog w) A (unpackItems (.ref t) items.size none) Q E s := by
  have hlt : t ≠ s.heap.objs.size := by obtain ⟨o, ho, _⟩ := ht; exact Nat.ne_of_lt (Heap.lt_size ho)
  unfold unpackItems notIterableAtAll
  refine wpAny_bind (wpAny_bind (wpAny_specialOf ht.typeIs slot_tuple_iter.lookup (wpAny_pure ?_)))
  simp only [Bool.false_eq_true, if_false]
  refine wpAny_bind (wpAny_holding (iter_tuple ht ?_))
  have hk0 : ∀ b o, s.heap.get? b = some o → (s.heap.push { cls := .type "tuple_iterator", data := .fields #[.ref t, .int 0 0] }).get? b = some o := fun b o e => Heap.get?_push_of_some _ e
  refine wpAny_bind (wpAny_holding (draw_tuple hlt items.size 0 _ _ ⟨_, Heap.get?_push_size _ rfl, rfl, rfl⟩ (ht.push _) (by omega) fun h₁ hit₁ hs₁ => ?_))
  have hall : List.take items.size (List.drop 0 items.toList) = items.toList := by
    rw [List.drop_zero]; exact List.take_of_length_le (by simp)
  rw [hall, if_neg (by simp)]
  have ht₁ : IsTup h₁ t items := (ht.push _).extBut hs₁.extBut hlt
  have hw1 : WarmAt A h₁ := (hw.kept hk0).go (it := s.heap.objs.size) (fun b o hb e => (hs₁.2 b hb).trans e) fun o vs e1 e2 => by
    have e3 := Heap.get?_push_size s.heap (o := { cls := .type "tuple_iterator", data := .fields #[.ref t, .int 0 0] }) rfl
    rw [e3] at e1; cases e1
    cases e2
    simp
  refine wpAny_bind (wpAny_holding (tuple_end hw1 hit₁ ht₁ (by simp) fun h₂ he₂ => ?_))
  simp only [Option.isSome_none, Bool.false_eq_true, if_false]
  exact wpAny_pure (hQ h₂ fun b o hb e => he₂ b o hb ((hs₁.2 b hb).trans (hk0 b o e)))
theorem tup_warm {env : Env} {elts : List Expr} {x1} {pos : Pos} {t : Addr} {items : Array Value} {Q : Unit → Shared → Prop} (hw : WarmAt A s.heap) (ht : IsTup s.heap t items)
    (hn : (assignEach elts env).length = items.size) (hstar : (assignEach elts env).findIdx? (·.1) = none)
    (h : ∀ h', Heap.ExtBut s.heap.objs.size s.heap h' → wpAny (model prog w) A (assignInOrder ((assignEach elts env).map (·.2)) items.toList) Q E { s with heap := h' }) :
    wpAny (model prog w) A (assign (.Tuple elts x1 pos) env (.ref t)) Q E s := by
  rw [assign_Tuple]
  refine wpAny_bind (wpAny_standAt ?_)
  unfold unpack
  rw [hn, hstar]
  exact wpAny_bind (wpAny_holding (items_warm hw ht h))
end
end NbU
end
section
set_option Elab.async false
set_option linter.all false
set_option maxRecDepth 100000
set_option maxHeartbeats 4000000
/-! Walks of lists and sets, sums, sets and sorted sets where an exception may be being handled. -/
namespace NbU
open PySem PySem.Spec PyProof.Rows L2 HotX
/-- the handled exception, if any, stands at one of xs -/
def WarmBy (A : Around) (xs : List Addr) (h : Heap) : Prop := A.handled = none ∨ ∃ x1, x1 ∈ xs ∧ HotAt A x1 h
theorem WarmBy.at {A : Around} {xs : List Addr} {h : Heap} (hw : WarmBy A xs h) : WarmAt A h := hw.imp (fun e => e) fun ⟨x, _, e⟩ => ⟨x, e⟩
theorem WarmBy.keep {A : Around} {xs : List Addr} {h h' : Heap} (hw : WarmBy A xs h) (k : ∀ b ∈ xs, ∀ o, h.get? b = some o → h'.get? b = some o) : WarmBy A xs h' := by
  rcases hw with hw | ⟨x1, hx, a, o, vs, ho, hd, h2⟩
  · exact .inl hw
  · exact .inr ⟨x1, hx, a, o, vs, k x1 hx _ ho, hd, h2⟩
theorem WarmAt.by {A : Around} {h : Heap} (hw : WarmAt A h) : ∃ xs, WarmBy A xs h ∧ ∀ b ∈ xs, b < h.objs.size := by
  rcases hw with hw | ⟨x1, e⟩
  · exact ⟨[], .inl hw, fun b hb => nomatch hb⟩
  · obtain ⟨_, o, _, ho, _⟩ := id e
    refine ⟨[x1], .inr ⟨x1, List.mem_singleton.mpr rfl, e⟩, fun b hb => ?_⟩
    rw [List.mem_singleton.mp hb]
    exact Heap.lt_size ho
section
variable {P : Program} {w : World} {A : Around} {a I : Addr} {es : Array (Int × Value)} {ep : Nat} {t : SetTable} {xs : List Addr}
theorem walks_list (hne : a ≠ I) (hI : I ∉ xs) (items : Array Value) :
    Walks P w A I (I :: a :: xs) [I] items.size (fun i v => items[i]? = some v) (fun i h => (h.IsListIter I a i ∧ h.IsList a items) ∧ WarmBy A xs h) where
  sub := fun b hb => by simp at hb; simp [hb]
  frame := fun _ _ _ st hk => ⟨⟨st.1.1.at fun o e => hk I (by simp) o e, st.1.2.at fun o e => hk a (by simp) o e⟩, st.2.keep fun b hb o e => hk b (by simp [hb]) o e⟩
  item := fun i s Q E hi st hQ => by
    have e : items[i]? = some items[i] := by simp [hi]
    refine wpAny_pyNext_list_item st.1.1 st.1.2 e fun h' hit' hs' => hQ _ h' s.toks e ⟨⟨hit', st.1.2.at fun o q => (hs'.2 a hne).trans q⟩, st.2.keep fun b hb o q => ?_⟩ fun b o hb q => ?_
    · exact (hs'.2 b fun z => hI (z ▸ hb)).trans q
    · exact (hs'.2 b fun z => hb (by simp [z])).trans q
  done := fun s Q E st hQ => by
    refine list_end st.2.at st.1.1 st.1.2 (by simp) fun h' he => hQ h' s.toks fun b o hb q => he b o (fun z => hb (by simp [z])) q
  self := fun _ _ _ _ st hQ => wpAny_pyIter_listiter st.1.1 hQ

variable {s : Shared} {E : Value → Shared → Prop} {i sl : Nat}
theorem set_end {Q : Option Value → Shared → Prop} (hw : WarmAt A s.heap) (hit : IsSI s.heap I (.int (sl : Int) 0) i a es.size ep) (ha : SetAt s.heap a es ep t) (hf : t.fits es.size = true)
    (hN : ∀ (A' : Around) (E' : Value → Shared → Prop) (Q' : Option (Value × Nat) → Shared → Prop), Q' none s → wpAny (model P w) A' (setNext a sl i ep) Q' E' s)
    (hQ : ∀ h', Heap.ExtBut I s.heap h' → Q none { s with heap := h' }) : wpAny (model P w) A (pyNext (.ref I)) Q E s := by
  obtain ⟨o, ho, hc, hd⟩ := id hit
  obtain ⟨oa, hoa, _, hda⟩ := id ha
  unfold pyNext
  refine wpAny_bind (wpAny_attempt (wpAny_callSpecial?_slot (name := Str.ofString "__next__") hit.typeIs slot_si_next
    (wpAny_call_entry slot_si_next hit.typeIs entry_si_next ?_ (args_si_next _))))
  unfold Builtin.«set_iterator.__next__»
  refine wpAny_bind (m := slotArgs "__next__" 0 _) (wpAny_pure (wpAny_bind (wpAny_fieldsOf ho hd ?_)))
  show wpAny _ _ (setEntries a >>= _) _ _ s
  refine wpAny_bind (wpAny_setEntries_of hoa hda hf (wp_if_neg (by simp) ?_))
  try refine wpAny_bind (wpAny_pure ?_)
  show wpAny _ _ (setNext a sl i ep >>= _) _ _ s
  refine wpAny_bind (hN _ _ _ ?_)
  show wpAny _ _ (setField (.ref I) 2 .none >>= _) _ _ s
  refine wpAny_bind (wpAny_setField ho hd (by simp) ?_)
  have hk : ∀ b o, b ≠ I → s.heap.get? b = some o → (s.heap.update I (Obj.mapFields (·.setIfInBounds 2 Value.none))).get? b = some o := fun b o hb e => (Heap.get?_update_other _ _ (Ne.symm hb)).trans e
  refine stop_met (s := s) (hw.go hk fun o' vs e1 e2 => ?_) hk hQ
  rw [ho] at e1; cases e1
  rw [hd] at e2; cases e2
  simp
theorem drawn_end {p : Addr} {ys : List Nat} {Q : Option Value → Shared → Prop} (hw : WarmAt A s.heap) (hit : IsSI s.heap I (.ref p) i a es.size ep) (ha : SetAt s.heap a es ep t) (hf : t.fits es.size = true)
    (hp : s.heap.get? p = some { cls := .type "tuple", data := .seq (ys.map fun (k : Nat) => rawInt (k : Int)).toArray }) (hj : ys[i]? = none)
    (hQ : ∀ h', Heap.ExtBut I s.heap h' → Q none { s with heap := h' }) : wpAny (model P w) A (pyNext (.ref I)) Q E s := by
  obtain ⟨o, ho, hc, hd⟩ := id hit
  obtain ⟨oa, hoa, _, hda⟩ := id ha
  unfold pyNext
  refine wpAny_bind (wpAny_attempt (wpAny_callSpecial?_slot (name := Str.ofString "__next__") hit.typeIs slot_si_next
    (wpAny_call_entry slot_si_next hit.typeIs entry_si_next ?_ (args_si_next _))))
  unfold Builtin.«set_iterator.__next__»
  refine wpAny_bind (m := slotArgs "__next__" 0 _) (wpAny_pure (wpAny_bind (wpAny_fieldsOf ho hd ?_)))
  show wpAny _ _ (setEntries a >>= _) _ _ s
  refine wpAny_bind (wpAny_setEntries_of hoa hda hf (wp_if_neg (by simp) ?_))
  try refine wpAny_bind (wpAny_pure ?_)
  show wpAny _ _ (seqItems? (.ref p) >>= _) _ _ s
  refine wpAny_bind (wpAny_seqItems hp rfl ?_)
  have hij : (ys.map fun (k : Nat) => rawInt (k : Int)).toArray[(Int.toNat (i : Int))]? = none := by simp [hj]
  dsimp only
  rw [hij]
  show wpAny _ _ (setField (.ref I) 0 (rawInt 0) >>= _) _ _ s
  refine wpAny_bind (wpAny_setField ho hd (by simp) ?_)
  have ho1 := Heap.get?_update_self (Obj.mapFields (·.setIfInBounds 0 (rawInt 0))) ho (Obj.isFreed_of_fields (Obj.data_mapFields hd _))
  have hd1 := Obj.data_mapFields hd (·.setIfInBounds 0 (rawInt 0))
  show wpAny _ _ (setField (.ref I) 2 .none >>= _) _ _ _
  refine wpAny_bind (wpAny_setField ho1 hd1 (by simp) ?_)
  refine stop_met (s := s) (it := I) (hw.go (it := I) (fun b o hb e => ?_) fun o' vs e1 e2 => ?_) (fun b o hb e => ?_) hQ
  · exact (Heap.get?_update_other _ _ (Ne.symm hb)).trans ((Heap.get?_update_other _ _ (Ne.symm hb)).trans e)
  · rw [ho] at e1; cases e1
    rw [hd] at e2; cases e2
    simp
  · exact (Heap.get?_update_other _ _ (Ne.symm hb)).trans ((Heap.get?_update_other _ _ (Ne.symm hb)).trans e)

/-- the three ways a set is walked -/
theorem walk_text (hne : a ≠ I) (hI : I ∉ xs) (hf : t.fits es.size = true) (hbt : w.params.followText "set-order" = true) :
    Walks P w A I (I :: a :: xs) [I] (pickOrder (w.params.setOrder a ep) es).size (fun j v => ((pickOrder (w.params.setOrder a ep) es)[j]?).map (·.2) = some v)
      (fun i h => (IsSI h I (.int ((0 : Nat) : Int) 0) i a es.size ep ∧ SetAt h a es ep t) ∧ WarmBy A xs h) where
  sub := fun b hb => by simp at hb; simp [hb]
  frame := fun _ _ _ st hk => ⟨⟨st.1.1.at fun o e => hk I (by simp) o e, st.1.2.at fun o e => hk a (by simp) o e⟩, st.2.keep fun b hb o e => hk b (by simp [hb]) o e⟩
  item := fun i s Q E hi st hQ => by
    have e := Array.getElem?_eq_getElem hi
    refine next_item (x := ((pickOrder (w.params.setOrder a ep) es)[i]).2) (nx := 0) st.1.1 st.1.2 hf (fun A' E' Q' h => setNext_text st.1.2 hf hbt (by rw [e]; exact h)) fun h' hit' hs' => ?_
    refine hQ _ h' s.toks (congrArg (Option.map fun q : Int × Value => q.2) e) ⟨⟨hit', st.1.2.at fun o q => hs'.extBut a o hne q⟩, st.2.keep fun b hb o q => ?_⟩ fun b o hb q => ?_
    · exact (hs'.2 b fun z => hI (z ▸ hb)).trans q
    · exact (hs'.2 b fun z => hb (by simp [z])).trans q
  done := fun s Q E st hQ => by
    have e : (pickOrder (w.params.setOrder a ep) es)[(pickOrder (w.params.setOrder a ep) es).size]? = none := Array.getElem?_eq_none (Nat.le_refl _)
    exact set_end st.2.at st.1.1 st.1.2 hf (fun A' E' Q' h => setNext_text st.1.2 hf hbt (by rw [e]; exact h)) fun h' he' =>
      hQ h' s.toks fun b o hb q => he' b o (fun z => hb (by simp [z])) q
  self := fun _ _ _ _ st hQ => iter_self st.1.1 hQ
theorem walk_led (hne : a ≠ I) (hI : I ∉ xs) (hf : t.fits es.size = true) (r : Ris t.place.toList) (hbt : w.params.followText "set-order" = false)
    (hdr : (!t.plain && decide (es.size > 1)) = false) (hl : t.led = true) :
    Walks P w A I (I :: a :: xs) [I] es.size (fun j v => (es[j]?).map (·.2) = some v)
      (fun i h => (IsSI h I (.int ((slotAt t i : Nat) : Int) 0) i a es.size ep ∧ SetAt h a es ep t) ∧ WarmBy A xs h) where
  sub := fun b hb => by simp at hb; simp [hb]
  frame := fun _ _ _ st hk => ⟨⟨st.1.1.at fun o e => hk I (by simp) o e, st.1.2.at fun o e => hk a (by simp) o e⟩, st.2.keep fun b hb o e => hk b (by simp [hb]) o e⟩
  item := fun i s Q E hi st hQ => by
    have hps : t.place.size = es.size := by
      simp only [SetTable.fits, Bool.and_eq_true, beq_iff_eq] at hf
      exact hf.1
    have hip : i < t.place.size := by rw [hps]; exact hi
    have e := Array.getElem?_eq_getElem hi
    have e2 := Array.getElem?_eq_getElem hip
    have hb := below_slotAt r (Nat.le_of_lt hip)
    have hnx : slotAt t (i + 1) = t.place[i] + 1 := by
      show (t.place.toList[i]?.getD 0) + 1 = _
      rw [Array.getElem?_toList, e2] <;> rfl
    refine next_item (x := (es[i]).2) (nx := t.place[i] + 1) st.1.1 st.1.2 hf (fun A' E' Q' h => setNext_led st.1.2 hf hbt hdr hl (by rw [hb, e, e2]; exact h)) fun h' hit' hs' => ?_
    refine hQ _ h' s.toks (congrArg (Option.map fun q : Int × Value => q.2) e) ⟨⟨by rw [hnx]; exact hit', st.1.2.at fun o q => hs'.extBut a o hne q⟩, st.2.keep fun b hb o q => ?_⟩ fun b o hb q => ?_
    · exact (hs'.2 b fun z => hI (z ▸ hb)).trans q
    · exact (hs'.2 b fun z => hb (by simp [z])).trans q
  done := fun s Q E st hQ => by
    have hps : t.place.size = es.size := by
      simp only [SetTable.fits, Bool.and_eq_true, beq_iff_eq] at hf
      exact hf.1
    have e : es[es.size]? = none := Array.getElem?_eq_none (Nat.le_refl _)
    have e2 : t.place[es.size]? = none := Array.getElem?_eq_none (Nat.le_of_eq hps)
    have hb : SetTable.below t.place (slotAt t es.size) = es.size := below_slotAt r (Nat.le_of_eq hps.symm)
    exact set_end st.2.at st.1.1 st.1.2 hf (fun A' E' Q' h => setNext_led st.1.2 hf hbt hdr hl (by rw [hb, e, e2]; exact h)) fun h' he' =>
      hQ h' s.toks fun b o hb q => he' b o (fun z => hb (by simp [z])) q
  self := fun _ _ _ _ st hQ => iter_self st.1.1 hQ
theorem walk_drawn {p : Addr} {ys : List Nat} (hne : a ≠ I) (hpe : p ≠ I) (hI : I ∉ xs) (hf : t.fits es.size = true) (hy : ∀ j ∈ ys, j < es.size) :
    Walks P w A I (I :: a :: p :: xs) [I] ys.length (fun j v => (ys[j]?).bind (fun q => (es[q]?).map (·.2)) = some v)
      (fun i h => (IsSI h I (.ref p) i a es.size ep ∧ SetAt h a es ep t ∧ h.get? p = some { cls := .type "tuple", data := .seq (ys.map fun (k : Nat) => rawInt (k : Int)).toArray }) ∧ WarmBy A xs h) where
  sub := fun b hb => by simp at hb; simp [hb]
  frame := fun _ _ _ st hk => ⟨⟨st.1.1.at fun o e => hk I (by simp) o e, st.1.2.1.at fun o e => hk a (by simp) o e, hk p (by simp) _ st.1.2.2⟩, st.2.keep fun b hb o e => hk b (by simp [hb]) o e⟩
  item := fun i s Q E hi st hQ => by
    have e := List.getElem?_eq_getElem hi
    have hlt : ys[i] < es.size := hy _ (List.getElem_mem hi)
    have e2 := Array.getElem?_eq_getElem hlt
    refine next_drawn_item st.1.1 st.1.2.1 hf st.1.2.2 e e2 fun h' hit' hs' => ?_
    have hpv : (ys[i]?).bind (fun q => (es[q]?).map (·.2)) = some (es[ys[i]]'hlt).2 := by
      rw [e]
      show (es[ys[i]]?).map (·.2) = _
      rw [e2] <;> rfl
    refine hQ _ h' s.toks hpv ⟨⟨hit', st.1.2.1.at fun o q => hs'.extBut a o hne q, hs'.extBut p _ hpe st.1.2.2⟩, st.2.keep fun b hb o q => ?_⟩ fun b o hb q => ?_
    · exact (hs'.2 b fun z => hI (z ▸ hb)).trans q
    · exact (hs'.2 b fun z => hb (by simp [z])).trans q
  done := fun s Q E st hQ => by
    have e : ys[ys.length]? = none := List.getElem?_eq_none (Nat.le_refl _)
    exact drawn_end st.2.at st.1.1 st.1.2.1 hf st.1.2.2 e fun h' he' => hQ h' s.toks fun b o hb q => he' b o (fun z => hb (by simp [z])) q
  self := fun _ _ _ _ st hQ => iter_self st.1.1 hQ
/-- what iter of a set hands back -/
def SetWalk (P : Program) (w : World) (A : Around) (xs : List Addr) (s : Shared) (a : Addr) (es : Array (Int × Value)) (s₂ : Shared) (I : Addr) : Prop :=
  ∃ (fp : List Addr) (St : Nat → Heap → Prop) (out : List Value) (Pv : Nat → Value → Prop), (∀ b o, s.heap.get? b = some o → s₂.heap.get? b = some o) ∧ s₂.gens = s.gens ∧ s₂.os = s.os ∧
    s.heap.objs.size ≤ I ∧ (∀ b ∈ fp, b = a ∨ b ∈ xs ∨ s.heap.objs.size ≤ b) ∧ out.Perm (es.toList.map (·.2)) ∧ Walks P w A I fp [I] out.length Pv St ∧ (∀ j v, Pv j v → out[j]? = some v) ∧ St 0 s₂.heap
theorem SetWalk.mk {s₂ : Shared} {fp : List Addr} {St : Nat → Heap → Prop} {out : List Value} {Pv : Nat → Value → Prop} {n : Nat} (W : Walks P w A I fp [I] n Pv St) (hn : out.length = n)
    (k : ∀ b o, s.heap.get? b = some o → s₂.heap.get? b = some o) (g : s₂.gens = s.gens) (ho : s₂.os = s.os) (hI : s.heap.objs.size ≤ I) (hfp : ∀ b ∈ fp, b = a ∨ b ∈ xs ∨ s.heap.objs.size ≤ b)
    (hp : out.Perm (es.toList.map (·.2))) (hPv : ∀ j v, Pv j v → out[j]? = some v) (hst : St 0 s₂.heap) : SetWalk P w A xs s a es s₂ I := by
  subst hn
  exact ⟨fp, St, out, Pv, k, g, ho, hI, hfp, hp, W, hPv, hst⟩
theorem set_iter {Q : Value → Shared → Prop} (hw : WarmBy A xs s.heap) (hlx : ∀ b ∈ xs, b < s.heap.objs.size) (ha : SetAt s.heap a es ep t) (hf : t.fits es.size = true) (hsz : es.size < scanBound) (r : Ris t.place.toList)
    (hl : w.params.followText "set-order" = true ∨ t.led = true) (hQ : ∀ s₂ I, SetWalk P w A xs s a es s₂ I → Q (.ref I) s₂) : wpAny (model P w) A (pyIter (.ref a)) Q E s := by
  obtain ⟨o, ho, hc, hd⟩ := id ha
  have hT : s.TypeIs (.ref a) "set" := ⟨o, ho, hc⟩
  have hlt : a < s.heap.objs.size := Heap.lt_size ho
  have hkx : ∀ {h' : Heap}, (∀ b o, s.heap.get? b = some o → h'.get? b = some o) → WarmBy A xs h' := fun k => hw.keep fun b _ o e => k b o e
  refine wpAny_pyIter_slot hT F.slot_set_iter (wpAny_call_entry F.slot_set_iter hT entry_s_iter ?_ (F.args_set_iter_1 _))
  unfold Builtin.«frozenset.__iter__»
  refine wpAny_bind (m := Builtin.Frozenset.slot0 "__iter__" _) (wpAny_of_eq (a := a) (by rfl) ?_)
  refine wpAny_bind (m := Builtin.Frozenset.sizeOf a) ?_
  unfold Builtin.Frozenset.sizeOf
  refine wpAny_bind (wpAny_setEntries_of ho hd hf (wpAny_pure ?_))
  first | refine wpAny_bind (setDrawn_at ha hf ?_) | refine wpAny_bind (wpAny_bind (setDrawn_at ha hf ?_))
  cases hb : w.params.followText "set-order" with
  | true =>
    refine wp_if_neg (by simp) ?_
    first | refine wpAny_bind (wpAny_pure ?_) | refine wpAny_pure ?_
    refine wpAny_bind (wpAny_setEpoch_of ho hd hf (wpAny_bind (wpAny_newObj_type (wpAny_pure ⟨_, rfl, "set_iterator", _, ⟨_, Heap.get?_push_size _ rfl, rfl⟩, slot_si_next.lookup, ?_⟩))))
    have hk : ∀ b o, s.heap.get? b = some o → (s.heap.push { cls := .type "set_iterator", data := .fields #[.int ((0 : Nat) : Int) 0, .int ((0 : Nat) : Int) 0, .ref a, .int (es.size : Int) 0, .int (ep : Int) 0] }).get? b = some o := fun b o e => Heap.get?_push_of_some _ e
    refine hQ _ _ (SetWalk.mk (walk_text (P := P) (A := A) (xs := xs) (ep := ep) (t := t) (Nat.ne_of_lt hlt) (fun z => Nat.lt_irrefl _ (hlx _ z)) hf hb) (by rw [List.length_map, Array.length_toList]) hk rfl rfl (Nat.le_refl _) (fun b hb' => ?_)
      ((pick_perm (w.params.setOrder a ep) es).map _) (fun j v q => ?_) ⟨⟨⟨_, Heap.get?_push_size _ rfl, rfl, rfl⟩, ha.at fun u e => hk _ _ e⟩, hkx hk⟩)
    · rcases List.mem_cons.mp hb' with z | z
      · exact .inr (.inr (Nat.le_of_eq z.symm))
      · rcases List.mem_cons.mp z with z | z
        · exact .inl z
        · exact .inr (.inl z)
    · rw [List.getElem?_map, Array.getElem?_toList]; exact q
  | false =>
    have hled : t.led = true := hl.resolve_left (by rw [hb]; exact Bool.false_ne_true)
    cases hdr : (!t.plain && decide (es.size > 1)) with
    | false =>
      refine wp_if_neg (by simp) ?_
      first | refine wpAny_bind (wpAny_pure ?_) | refine wpAny_pure ?_
      refine wpAny_bind (wpAny_setEpoch_of ho hd hf (wpAny_bind (wpAny_newObj_type (wpAny_pure ⟨_, rfl, "set_iterator", _, ⟨_, Heap.get?_push_size _ rfl, rfl⟩, slot_si_next.lookup, ?_⟩))))
      have hk : ∀ b o, s.heap.get? b = some o → (s.heap.push { cls := .type "set_iterator", data := .fields #[.int ((0 : Nat) : Int) 0, .int ((0 : Nat) : Int) 0, .ref a, .int (es.size : Int) 0, .int (ep : Int) 0] }).get? b = some o := fun b o e => Heap.get?_push_of_some _ e
      refine hQ _ _ (SetWalk.mk (walk_led (P := P) (A := A) (xs := xs) (ep := ep) (Nat.ne_of_lt hlt) (fun z => Nat.lt_irrefl _ (hlx _ z)) hf r hb hdr hled) (by rw [List.length_map, Array.length_toList]) hk rfl rfl (Nat.le_refl _) (fun b hb' => ?_)
        (List.Perm.refl _) (fun j v q => ?_) ⟨⟨⟨_, Heap.get?_push_size _ rfl, rfl, rfl⟩, ha.at fun u e => hk _ _ e⟩, hkx hk⟩)
      · rcases List.mem_cons.mp hb' with z | z
        · exact .inr (.inr (Nat.le_of_eq z.symm))
        · rcases List.mem_cons.mp z with z | z
          · exact .inl z
          · exact .inr (.inl z)
      · rw [List.getElem?_map, Array.getElem?_toList]; exact q
    | true =>
      refine wp_if_pos rfl (wpAny_bind (drawOrder_at _ _ _ _ (Nat.le_of_eq List.length_range) fun ys d hp => ?_))
      have hyl : ys.length = es.size := by rw [hp.length_eq, List.length_range]
      have hsl : (ys.map fun (k : Nat) => rawInt (k : Int)).length ≤ sizeLine := by rw [List.length_map, hyl]; exact fits_of_scanBound hsz
      first | refine wpAny_bind (wpAny_newTuple ?_ hsl) | refine wpAny_newTuple ?_ hsl
      have ho2 : (s.heap.push { cls := .type "tuple", data := .seq (ys.map fun (k : Nat) => rawInt (k : Int)).toArray }).get? a = some o := Heap.get?_push_of_some _ ho
      refine wpAny_bind (wpAny_setEpoch_of ho2 hd hf (wpAny_bind (wpAny_newObj_type (wpAny_pure ⟨_, rfl, "set_iterator", _, ⟨_, Heap.get?_push_size _ rfl, rfl⟩, slot_si_next.lookup, ?_⟩))))
      have hsz2 : (s.heap.push { cls := .type "tuple", data := .seq (ys.map fun (k : Nat) => rawInt (k : Int)).toArray }).objs.size = s.heap.objs.size + 1 := Heap.size_push ..
      have hne : a ≠ (s.heap.push { cls := .type "tuple", data := .seq (ys.map fun (k : Nat) => rawInt (k : Int)).toArray }).objs.size := by rw [hsz2]; exact Nat.ne_of_lt (Nat.lt_succ_of_lt hlt)
      have hpe : s.heap.objs.size ≠ (s.heap.push { cls := .type "tuple", data := .seq (ys.map fun (k : Nat) => rawInt (k : Int)).toArray }).objs.size := by rw [hsz2]; omega
      have hIx : (s.heap.push { cls := .type "tuple", data := .seq (ys.map fun (k : Nat) => rawInt (k : Int)).toArray }).objs.size ∉ xs := fun z => by
        have h9 := hlx _ z
        rw [hsz2] at h9
        exact Nat.lt_irrefl _ (Nat.lt_of_succ_lt h9)
      have hys : ∀ j ∈ ys, j < es.size := fun j hj => List.mem_range.mp (hp.mem_iff.mp hj)
      have hpm : (ys.map fun q => ((es[q]?).map (·.2)).getD Value.none).Perm (es.toList.map (·.2)) := by
        rw [← range_map es]
        exact hp.map _
      refine hQ _ _ (SetWalk.mk (walk_drawn (P := P) (w := w) (A := A) (xs := xs) (ep := ep) (t := t) hne hpe hIx hf hys) (List.length_map _) (fun b u e => Heap.get?_push_of_some _ (Heap.get?_push_of_some _ e)) rfl rfl ?_ (fun b hb' => ?_) hpm (fun j v q => ?_)
        ⟨⟨⟨_, Heap.get?_push_size _ rfl, rfl, rfl⟩, ha.at fun u e => Heap.get?_push_of_some _ (Heap.get?_push_of_some _ e), Heap.get?_push_of_some _ (Heap.get?_push_size _ rfl)⟩, hkx fun b u e => Heap.get?_push_of_some _ (Heap.get?_push_of_some _ e)⟩)
      · rw [hsz2]; exact Nat.le_succ _
      · rcases List.mem_cons.mp hb' with z | z
        · exact .inr (.inr (by rw [z, hsz2]; exact Nat.le_succ _))
        · rcases List.mem_cons.mp z with z | z
          · exact .inl z
          · rcases List.mem_cons.mp z with z | z
            · exact .inr (.inr (Nat.le_of_eq z.symm))
            · exact .inr (.inl z)
      · rw [List.getElem?_map]
        cases hy : ys[j]? with
        | none => rw [hy] at q; cases q
        | some k =>
          rw [hy] at q
          have q' : (es[k]?).map (·.2) = some v := q
          show some (((es[k]?).map (·.2)).getD Value.none) = some v
          rw [q'] <;> rfl

theorem pre_take (ns : List Int) : ∀ j, j ≤ ns.length → preSum (fun j => ns.getD j 0) j = (ns.take j).sum
  | 0, _ => by simp [preSum]
  | j + 1, h => by
    have e : ns[j]? = some ns[j] := List.getElem?_eq_getElem h
    rw [preSum, pre_take ns j (Nat.le_of_succ_le h), sum_take e]
    rw [List.getD_eq_getElem?_getD, e] <;> rfl
/-- sum of a list of ints -/
theorem sum_warm {l : Addr} {its : List Value} {ns : List Int} {Q : Value → Shared → Prop} (hw : WarmAt A s.heap) (hl : s.heap.IsList l its.toArray) (hi : IntsAre its ns)
    (h : ∀ h' tk t', (∀ b o, s.heap.get? b = some o → h'.get? b = some o) → Q (.int ns.sum t') { s with heap := h', toks := tk }) : wpAny (model P w) A (call (.builtin "sum") [.ref l]) Q E s := by
  obtain ⟨ys, hy, hlx⟩ := hw.by
  have hlt : l < s.heap.objs.size := by obtain ⟨o, ho, _⟩ := hl; exact Heap.lt_size ho
  have hk : ∀ b o, s.heap.get? b = some o → (s.heap.push { cls := .type "list_iterator", data := .fields #[.ref l, .int 0 0] }).get? b = some o := fun b o e => Heap.get?_push_of_some _ e
  refine call_sum_walkG (wpAny_pyIter_list hl ⟨s.heap.objs.size, _, _, _, _, _, fun j => ns.getD j 0, rfl, walks_list (A := A.in1) (Nat.ne_of_lt hlt) (fun z => Nat.lt_irrefl _ (hlx _ z)) its.toArray, ?_, ?_, ?_, ?_⟩)
  · exact ⟨⟨⟨_, Heap.get?_push_size _ rfl, rfl, rfl⟩, hl.push _⟩, hy.keep fun b _ o e => hk b o e⟩
  · intro b hb
    have hz : (s.heap.push { cls := .type "list_iterator", data := .fields #[.ref l, .int 0 0] }).objs.size = s.heap.objs.size + 1 := Heap.size_push ..
    show b < (s.heap.push { cls := .type "list_iterator", data := .fields #[.ref l, .int 0 0] }).objs.size
    rw [hz]
    rcases List.mem_cons.mp hb with z | z
    · rw [z]; exact Nat.lt_succ_self _
    · rcases List.mem_cons.mp z with z | z
      · rw [z]; exact Nat.lt_succ_of_lt hlt
      · exact Nat.lt_succ_of_lt (hlx b z)
  · intro i v e
    exact IntsAre.int_at hi i v (by rw [List.getElem?_toArray] at e; exact e)
  · intro h' tk t' k
    have e := h h' tk t' fun b o e => k b o (fun z => by rw [List.mem_singleton.mp z] at e; exact absurd (Heap.lt_size e) (Nat.lt_irrefl _)) (hk b o e)
    have e2 : preSum (fun j => ns.getD j 0) its.toArray.size = ns.sum := by
      have hn : its.toArray.size = ns.length := by rw [List.size_toArray]; exact IntsAre.length hi
      rw [hn, pre_take ns _ (Nat.le_refl _), List.take_of_length_le (Nat.le_refl _)]
    rw [e2]
    exact e

/-- a set's members, gathered into a list -/
theorem set_collect {Q : List Value → Shared → Prop} (hw : WarmAt A s.heap) (ha : SetAt s.heap a es ep t) (hf : t.fits es.size = true) (hsz : es.size < scanBound) (r : Ris t.place.toList)
    (hl : w.params.followText "set-order" = true ∨ t.led = true)
    (hQ : ∀ s' out, (∀ b o, s.heap.get? b = some o → s'.heap.get? b = some o) → s.heap.objs.size ≤ s'.heap.objs.size → s'.gens = s.gens → s'.os = s.os → out.Perm (es.toList.map (·.2)) → Q out s') :
    wpAny (model P w) A (collect (.ref a)) Q E s := by
  obtain ⟨xs, hy, hlx⟩ := hw.by
  obtain ⟨o, ho, hc, hd⟩ := id ha
  have hlt : a < s.heap.objs.size := Heap.lt_size ho
  have hSa : s.heap.objs.size ≠ a := Nat.ne_of_gt hlt
  unfold collect
  refine wpAny_bind (wpAny_runValue (codeAny_builtin F.entry_proto_collect ?_))
  rw [Around.under_plainId F.plain_proto_collect _]
  show wpAny _ A.in1 (newList [] >>= fun l => again (.builtin "list.__iadd__" ⟨[l, .ref a], []⟩)) _ _ s
  refine wpAny_bind (wpAny_newObj_type (wpAny_pure ⟨plainId_quiet F.plain_list_iadd _, codeAny_builtin F.entry_list_iadd ?_⟩))
  rw [Around.under_plainId F.plain_list_iadd _]
  have hk1 : ∀ b u, s.heap.get? b = some u → (s.heap.push { cls := .type "list", data := .seq ([] : List Value).toArray }).get? b = some u := fun b u e => Heap.get?_push_of_some _ e
  have hS : (s.heap.push { cls := .type "list", data := .seq ([] : List Value).toArray }).get? s.heap.objs.size = some { cls := .type "list", data := .seq ([] : List Value).toArray } := Heap.get?_push_size _ rfl
  have hz1 : (s.heap.push { cls := .type "list", data := .seq ([] : List Value).toArray }).objs.size = s.heap.objs.size + 1 := Heap.size_push ..
  show wpAny _ A.in1 (Builtin.List.listExtendWith (.ref s.heap.objs.size) (.ref a) (.ref s.heap.objs.size)) _ _ _
  unfold Builtin.List.listExtendWith
  refine wpAny_bind (wpAny_typeOf (T := "set") ⟨o, hk1 _ _ ho, hc⟩ ?_)
  have h1 : Builtin.List.listSameRef (.ref s.heap.objs.size) (.ref a) = false := by simp [Builtin.List.listSameRef, hSa]
  have h2 : (Value.type "set" == Value.type "list") = false := by decide
  have h3 : (Value.type "set" == Value.type "tuple") = false := by decide
  simp only [h1, h2, h3, Bool.or_false, Bool.false_eq_true, if_false]
  have hy1 : WarmBy A xs (s.heap.push { cls := .type "list", data := .seq ([] : List Value).toArray }) := hy.keep fun b _ o e => hk1 b o e
  refine wpAny_bind (set_iter (A := A.in1) (s := { s with heap := s.heap.push { cls := .type "list", data := .seq ([] : List Value).toArray } }) hy1
    (fun b hb => by show b < (s.heap.push _).objs.size; rw [hz1]; exact Nat.lt_succ_of_lt (hlx b hb)) (ha.at fun u e => hk1 _ _ e) hf hsz r hl fun s₂ I hit => ?_)
  obtain ⟨fp, St, out, Pv, k2, g2, o2, hI, hfp, hp, W, hPv, hst⟩ := hit
  have hI' : s.heap.objs.size + 1 ≤ I := by rw [← hz1]; exact hI
  have hSf : s.heap.objs.size ∉ fp := fun hm => by
    rcases hfp _ hm with z | z | z
    · exact hSa z
    · exact Nat.lt_irrefl _ (hlx _ z)
    · have z' : s.heap.objs.size + 1 ≤ s.heap.objs.size := by rw [← hz1]; exact z
      omega
  have ho2 := k2 a o (hk1 _ _ ho)
  have hT2 : s₂.TypeIs (.ref a) "set" := ⟨o, ho2, hc⟩
  refine wpAny_bind (wpAny_holding ?_)
  unfold Builtin.List.listLengthHint
  refine wpAny_bind (wpAny_specialOf hT2 F.slot_set_len.lookup ?_)
  (generalize hid : ("set.__len__" : String) = id0; (fail_if_success (clear hid id0)); wp_delta; rw [show splitId id0 = some ("set", "__len__") from by subst hid; decide +kernel]; subst hid)
  refine wpAny_bind (wpAny_isInstance (b := true) hT2 sub_set_self ?_)
  show wpAny _ A.in1 (typeOf (.ref a) >>= _) _ _ _
  refine wpAny_bind (wpAny_typeOf hT2 (wpAny_pure ?_))
  show wpAny _ A.in1 (rule "list.extend.makes-room" >>= fun _ => Builtin.List.listTouch (.ref s.heap.objs.size) >>= fun _ =>
    again (.builtin "list.extend.loop" ⟨[.ref s.heap.objs.size, .ref I, .ref s.heap.objs.size], []⟩)) _ _ _
  refine wpAny_bind (wpAny_rule ?_)
  have hS2 := k2 _ _ hS
  refine wpAny_bind ?_
  show wpAny _ A.in1 (updateSeq s.heap.objs.size (·.push .none) >>= fun _ => updateSeq s.heap.objs.size (·.pop)) _ _ _
  refine wpAny_bind (wpAny_updateSeq hS2 rfl ?_)
  have hS3 := Heap.get?_update_self (Obj.mapSeq (·.push Value.none)) hS2 rfl
  refine wpAny_updateSeq hS3 rfl ?_
  have hS4 := Heap.get?_update_self (Obj.mapSeq (·.pop)) hS3 rfl
  have oth : ∀ b u, b ≠ s.heap.objs.size → s₂.heap.get? b = some u → ((s₂.heap.update s.heap.objs.size (Obj.mapSeq (·.push Value.none))).update s.heap.objs.size (Obj.mapSeq (·.pop))).get? b = some u :=
    fun b u hb e => (Heap.get?_update_other _ _ (Ne.symm hb)).trans ((Heap.get?_update_other _ _ (Ne.symm hb)).trans e)
  have hn : out.length ≤ sizeLine := by
    rw [hp.length_eq, List.length_map, Array.length_toList]
    exact fits_of_scanBound hsz
  have hst2 : St 0 ((s₂.heap.update s.heap.objs.size (Obj.mapSeq (·.push Value.none))).update s.heap.objs.size (Obj.mapSeq (·.pop))) :=
    W.frame 0 _ _ hst fun b hb u e => oth b u (fun z => hSf (z ▸ hb)) e
  refine wpAny_pure ⟨plainId_quiet F.plain_extend_loop _, codeAny_extend_loopS W.toS hn _ hSf _ out.length 0 _ _ _ rfl (Nat.zero_le _) hst2 hS4 (ItemsOf.nil Pv) fun s' acc' c' hm hS' hacc => ?_⟩
  show wpAny _ A (load s.heap.objs.size >>= _) _ _ s'
  refine wpAny_bind (wpAny_load hS' (wpAny_pure ?_))
  show Q acc'.toList s'
  rw [items_out hacc hPv]
  refine hQ s' out (fun b u e => ?_) (Nat.le_of_lt (Heap.lt_size hS')) (Eq.trans hm.gens g2) (Eq.trans hm.os o2) hp
  have hbl : b < s.heap.objs.size := Heap.lt_size e
  refine hm.heap b u (fun z => ?_) (oth b u (Nat.ne_of_lt hbl) (k2 b u (hk1 b u e)))
  rcases List.mem_cons.mp z with z | z
  · rw [z] at hbl
    exact Nat.lt_irrefl _ hbl
  · rw [List.mem_singleton.mp z] at hbl
    exact absurd hbl (Nat.not_lt_of_le (Nat.le_of_succ_le hI'))
theorem sorted_warm {S : Int → Bool} {n : Nat} {Q : Value → Shared → Prop} (R : SetR w s.heap a S n) (hw : WarmAt A s.heap) (h64 : n < 64)
    (hQ : ∀ s' p (out : Array Value) (c : Nat) (ns : List Int), (∀ b o, s.heap.get? b = some o → s'.heap.get? b = some o) → s'.gens = s.gens → s'.os = s.os → s.heap.objs.size ≤ p →
      s'.heap.get? p = some (seqObj "list" out c) → IntsAre out.toList ns → ns.Pairwise (· < ·) → (∀ k, k ∈ ns ↔ S k = true) → ns.length = n → Q (.ref p) s') :
    wpAny (model P w) A (call (.builtin "sorted") [.ref a]) Q E s := by
  obtain ⟨o, es, ep, t, ho, hex, hd, g, nd, hm, hb, hf, hn, hr, hl⟩ := R
  refine Calls.call_function_entry kind_sorted plain_sorted entry_sorted (args_sorted1 _) ?_
  unfold Builtin.«sorted»
  refine wpAny_bind (m := checkCount "sorted" 1 1 _) (wpAny_pure ?_)
  refine wpAny_bind (set_collect (A := A.in1) hw ⟨o, ho, hex.1, hd⟩ hf hb hr hl fun s1 vs k1 hz g1 o1 pm => ?_)
  have hvl : vs.length = n := by rw [pm.length_eq, List.length_map, Array.length_toList]; exact hn
  have hI : IntsAre vs (vs.map Builtin.Re.reRawOf) := ints_of vs fun v hv => by
    obtain ⟨e, he, q⟩ := List.mem_map.mp (pm.mem_iff.mp hv)
    obtain ⟨k, tk, h1, _⟩ := g e he
    exact ⟨k, tk, by rw [← q]; exact h1⟩
  have pk : (vs.map Builtin.Re.reRawOf).Perm (es.toList.map keyOf) := by
    have q := pm.map Builtin.Re.reRawOf
    rw [List.map_map] at q
    exact q
  refine wpAny_bind (wpAny_newList ?_ (by rw [hvl, sizeLine_eq]; omega))
  have hoL : (s1.heap.push (seqObj "list" vs.toArray 0)).get? s1.heap.objs.size = some (seqObj "list" vs.toArray 0) := Heap.get?_push_size _ rfl
  refine wpAny_bind (wpAny_holding (wpAny_call_entry slot_list_sort ⟨_, hoL, rfl⟩ entry_list_sort (list_sort_tree hoL hI (by rw [hvl]; exact h64) fun out ns' a1 a2 a3 => ⟨_, rfl, ?_⟩) (args_list_sort _)))
  obtain ⟨c, hc⟩ := sortedHeap_at (vs := vs) (out := out) hoL
  have pn : ns'.Perm (es.toList.map keyOf) := a2.trans pk
  refine wpAny_pure ⟨_, rfl, hQ _ s1.heap.objs.size out c ns' (fun b u e => ?_) g1 o1 hz hc a1 (lt_of_le_nodup ns' a3 (pn.nodup_iff.mpr nd)) (fun k => by rw [pn.mem_iff, ← hm k]) ?_⟩
  · have q := k1 b u e
    have hlt := Heap.lt_size q
    show (sortedHeap (s1.heap.push (seqObj "list" vs.toArray 0)) s1.heap.objs.size vs out).get? b = some u
    rw [sortedHeap_old (Nat.ne_of_lt hlt) (by rw [size_push']; exact Nat.lt_succ_of_lt hlt)]
    exact Heap.get?_push_of_some _ q
  · rw [pn.length_eq, List.length_map, Array.length_toList]; exact hn
end
end NbU
end
section
set_option Elab.async false
set_option linter.all false
set_option maxRecDepth 100000
set_option maxHeartbeats 4000000
set_option profiler true
set_option profiler.threshold 1500
/-! set(list of ints) where an exception may be being handled. -/
namespace NbU
open PySem PySem.Spec PyProof.Rows L2 HotX
section
variable {P : Program} {w : World} {A : Around} {E : Value → Shared → Prop} {s : Shared}
abbrev newSetO (w : World) : Obj := { cls := .type "set", dict := none, data := .set #[] 0 (.fresh 0 0 (!w.params.followText "set-order")) }
theorem set_warm {l : Addr} {items : Array Value} (ns : List Int) {Q : Value → Shared → Prop} (hw : WarmAt A s.heap) (hl : s.heap.IsList l items) (hit : IntsAre items.toList ns) (hb : ns.length + 1 < scanBound)
    (h : ∀ (h' : Heap) (tk c : Nat), SetR w h' s.heap.objs.size (fun j => decide (j ∈ ns)) c → c ≤ ns.length → (∀ b o, s.heap.get? b = some o → h'.get? b = some o) → Q (.ref s.heap.objs.size) { s with heap := h', toks := tk }) :
    wpAny (model P w) A (call (.type "set") [.ref l]) Q E s := by
  obtain ⟨ys, hy, hlx⟩ := hw.by
  have hisz : items.size = ns.length := by
    have q := IntsAre.length hit
    rw [Array.length_toList] at q
    exact q
  obtain ⟨c, tl, hmro⟩ := F.called_set.mro
  have hmade := F.called_set.made
  have hsub := F.called_set.sub
  refine wpAny_call (codeAny_of_tree ?_)
  show wpAny _ _ (callAny (.type "set") _) _ _ _
  refine wpAny_pure ⟨Code.quiet_builtin _ (by decide +kernel), codeAny_builtin F.entry_type_call ?_⟩
  rw [Around.under_plain (weight_type_call_type "set" [.ref l] []) rfl]
  have h1 := F.called_set.notType
  have h2 := F.called_set.canCreate
  have hct := F.typeCall_set_1 (.ref l)
  repeat (any_goals (first | assumption | wp_step))
  refine codeAny_mono (code_set_led1 (.ref l) (E := E) (Q₁ := fun obj s₁ => obj = .ref s.heap.objs.size ∧ s₁ = { s with heap := s.heap.push (newSetO w) }) ⟨rfl, rfl⟩) fun r s₁ hr => ?_
  rcases r with e | (_ | _ | _ | obj)
  · exact hr
  · exact hr.elim
  · exact hr.elim
  · exact hr.elim
  · obtain ⟨rfl, rfl⟩ := hr
    have hS : (s.heap.push (newSetO w)).get? s.heap.objs.size = some (newSetO w) := Heap.get?_push_size _ rfl
    have hT : Shared.TypeIs { s with heap := s.heap.push (newSetO w) } (.ref s.heap.objs.size) "set" := ⟨_, hS, rfl⟩
    have hli := F.called_set.init.lookup
    have hbi := F.called_set.init.bind (.ref s.heap.objs.size)
    repeat (any_goals (first | assumption | wp_step))
    refine codeAny_mono (codeAny_call_builtin (R := wants (fun r s₂ => r = .none ∧ ∃ h' tk c, s₂ = { s with heap := h', toks := tk } ∧ SetR w h' s.heap.objs.size (fun j => decide (j ∈ ns)) c ∧ c ≤ ns.length ∧
        (∀ b o, s.heap.get? b = some o → h'.get? b = some o)) E) F.called_set.init.plain F.entry_set_init (check_set_init_1 hT ?_)) fun r₂ s₂ hr₂ => ?_
    · obtain ⟨ol, hol, hcl, nl, hdl⟩ := hl
      obtain ⟨ocls, odict, odata, oslots⟩ := ol
      simp only at hcl hdl
      subst hcl; subst hdl
      have hol' : (s.heap.push (newSetO w)).get? l = some { cls := .type "list", dict := odict, data := .seq items nl, slots := oslots } := Heap.get?_push_of_some _ hol
      have hsls := F.sub_list_set
      have hslf := F.sub_list_frozenset
      have hne : (Value.type "list" == Value.type "dict") = false := by decide
      have hl1 : (s.heap.push (newSetO w)).IsList l items := ⟨_, hol', rfl, nl, rfl⟩
      unfold Builtin.«set.__init__» noKeywords Builtin.Frozenset.updateFrom
      generalize hPI : pyIter = PI
      wp_walk
      subst hPI
      refine wpAny_pyIter_list hl1 ?_
      refine wpAny_bind (wpAny_runValue ?_)
      have hlS : l < s.heap.objs.size := Heap.lt_size hol
      have hz1 : (s.heap.push (newSetO w)).objs.size = s.heap.objs.size + 1 := Heap.size_push ..
      have hneI : l ≠ (s.heap.push (newSetO w)).objs.size := by
        rw [hz1]; exact Nat.ne_of_lt (Nat.lt_succ_of_lt hlS)
      have hIx : (s.heap.push (newSetO w)).objs.size ∉ ys := fun z => by
        have h9 := hlx _ z
        rw [hz1] at h9
        exact Nat.lt_irrefl _ (Nat.lt_of_succ_lt h9)
      have hSf : s.heap.objs.size ∉ (s.heap.push (newSetO w)).objs.size :: l :: ys := fun z => by
        rcases List.mem_cons.mp z with z | z
        · rw [hz1] at z; exact absurd z (Nat.ne_of_lt (Nat.lt_succ_self _))
        · rcases List.mem_cons.mp z with z | z
          · rw [← z] at hlS; exact Nat.lt_irrefl _ hlS
          · exact Nat.lt_irrefl _ (hlx _ z)
      have hval : ∀ (i : Nat) (v : Value), items[i]? = some v → ∃ k t, ns[i]? = some k ∧ v = .int k t := fun i v hv => by
        have hi : i < ns.length := by rw [← hisz]; exact (Array.getElem?_eq_some_iff.mp hv).1
        obtain ⟨t, e⟩ := PyProof.Rows.IntsAre.int_at hit i v (by rw [Array.getElem?_toList]; exact hv)
        refine ⟨ns[i], t, List.getElem?_eq_getElem hi, ?_⟩
        rw [e, List.getD_eq_getElem?_getD, List.getElem?_eq_getElem hi] <;> rfl
      have hk2 : ∀ b o, s.heap.get? b = some o → ((s.heap.push (newSetO w)).push { cls := .type "list_iterator", data := .fields #[.ref l, .int 0 0] }).get? b = some o := fun b o e => Heap.get?_push_of_some _ (Heap.get?_push_of_some _ e)
      refine set_update_ints
        ((walks_list (P := P) (w := w) (A := A.in1.in1.in1) hneI hIx items).toS) s.heap.objs.size hSf ns hisz hb hval (items.size - 0) 0
        { s with heap := (s.heap.push (newSetO w)).push { cls := .type "list_iterator", data := .fields #[.ref l, .int 0 0] } } (by omega) (Nat.zero_le _)
        ⟨⟨⟨_, Heap.get?_push_size _ rfl, rfl, rfl⟩, hl1.push _⟩, hy.keep fun b _ o e => hk2 b o e⟩ ?hS0 ?hR
      case hS0 => exact ⟨0, Nat.le_refl 0, setR_new_at (Heap.get?_push_of_some _ hS)⟩
      case hR =>
        intro s' c' hm hc' hS'
        obtain ⟨h', g2, d', tk', os'⟩ := s'
        obtain rfl : g2 = s.gens := hm.gens
        obtain rfl : d' = s.drawn := hm.drawn
        obtain rfl : os' = s.os := hm.os
        show wpAny _ _ _ _ _ _
        refine wpAny_pure ?_
        show wpAny _ _ (ret Value.none) _ _ _
        rw [hisz] at hc'
        refine wpAny_pure ⟨rfl, h', tk', c', rfl, hS', hc', fun b o e => ?_⟩
        have hb0 : b < s.heap.objs.size := Heap.lt_size e
        refine hm.heap b o (fun z => ?_) (hk2 b o e)
        rcases List.mem_cons.mp z with z | z
        · rw [z] at hb0; exact Nat.lt_irrefl _ hb0
        · rw [List.mem_singleton.mp z, hz1] at hb0
          exact Nat.lt_irrefl _ (Nat.lt_of_succ_lt hb0)
    · rcases r₂ with e | (_ | _ | _ | r)
      · exact hr₂
      · exact hr₂.elim
      · exact hr₂.elim
      · exact hr₂.elim
      · obtain ⟨rfl, h', tk, c', rfl, hS', hc', hk'⟩ := hr₂
        repeat (any_goals (first | assumption | wp_step))
        exact h _ _ _ hS' hc' hk'
end
end NbU
end
section
set_option Elab.async false
set_option linter.all false
set_option maxRecDepth 100000
set_option maxHeartbeats 4000000
/-! The layer's loops, comprehensions and calls where an exception may be being handled. -/
namespace NbU
open PySem PySem.Spec PyProof.Rows L2 HotX
abbrev St := L2.St
/-- nothing is handled, or an exception that the context holds fast -/
def Warm (X : Cx) : Prop := X.A.handled = none ∨ ∃ p : Addr × Obj, L2H.Hot1 X.A p ∧ p ∈ X.pn
theorem Warm.at {X : Cx} {pins : List (Addr × Obj)} {σ : St} {H : Hp} {s : Shared} (c : Warm X) (I : Inv X pins σ H s) : WarmAt X.A s.heap := by
  rcases c with c | ⟨p, ⟨hh, v1, e1, c1⟩, hp⟩
  · exact .inl c
  · exact .inr ⟨p.1, hh, p.2, v1, (I.pin p (List.mem_append_left _ hp)).1, e1, c1⟩
/-- an iterator's objects, turn by turn -/
structure TurnU (P : Program) (w : World) (K : PySem.W.Frag) (tg : Expr) (J : It) (fp : List Addr) (it : Addr) (tn : Nat → Heap → Prop) : Prop where
  mem : it ∈ fp
  obj : ∀ i h, tn i h → ∀ b ∈ fp, ∃ o, h.get? b = some o ∧ ∀ v, o.data ≠ .cell v
  keep : ∀ i h h', tn i h → (∀ b ∈ fp, ∀ o, h.get? b = some o → h'.get? b = some o) → tn i h'
  item : ∀ X : Cx, X.prog = P → X.w = w → X.K = K → ∀ (i : Nat) (pins : List (Addr × Obj)) (s : Shared) (σ : St) (H : Hp) (E : Value → Shared → Prop),
    Inv X pins σ H s → (∀ b ∈ fp, FpOk X pins H b) → tn i s.heap → J.go i H →
    wpAny (model P w) X.A (pyNext (.ref it)) (fun r s1 => ∃ u, r = some u ∧ wpAny (model P w) X.A (letOwnedTupleGo tg (.ref it) u)
      (fun _ s2 => ∃ x H', Inv X pins σ H' s2 ∧ RelV x u ∧ J.yld i H x H' ∧ tn (i + 1) s2.heap ∧ ∀ b ∈ fp, H' b = none) E s1) E s
  done : ∀ X : Cx, X.prog = P → X.w = w → X.K = K → Warm X → ∀ (i : Nat) (pins : List (Addr × Obj)) (s : Shared) (σ : St) (H : Hp) (E : Value → Shared → Prop),
    Inv X pins σ H s → (∀ b ∈ fp, FpOk X pins H b) → tn i s.heap → J.stop i H → wpAny (model P w) X.A (pyNext (.ref it)) (fun r s1 => r = none ∧ Inv X pins σ H s1) E s
  self : ∀ (A : Around) (i : Nat) (s : Shared) (Q : Value → Shared → Prop) (E : Value → Shared → Prop), tn i s.heap → Q (.ref it) s → wpAny (model P w) A (pyIter (.ref it)) Q E s
section
variable {P : Program} {w : World} {K : PySem.W.Frag} {tg : Expr}
theorem turnU_list (a it : Addr) : TurnU P w K tg (Itl K a) [it] it (fun i h => h.IsListIter it a i) where
  mem := by simp
  obj := fun i h st b hb => by
    obtain rfl : b = it := by simpa using hb
    obtain ⟨o, e, c, d⟩ := st
    exact ⟨o, e, fun v z => by rw [d] at z; cases z⟩
  keep := fun i h h' st k => st.at fun o e => k it (by simp) o e
  item := by
    rintro X rfl rfl rfl i pins s σ H E I hf st ⟨xs, x, hq, hx⟩
    obtain ⟨its, rv, p, hz⟩ := I.list hq
    obtain ⟨u, hu, ru⟩ := rv.get hx
    obtain ⟨f0, f1, f2, f3, f4, f5⟩ := hf it (by simp)
    refine wpAny_pyNext_list_item st p.isList (x := u) (by simpa using hu) fun h' st' sb => ?_
    have I1 : Inv X pins σ H { s with heap := h' } := I.turned (t' := s.toks) (fun b o hb e => (sb.2 b hb).trans e) f0 f1 f3 f4 f5
    obtain ⟨o, e, c, d⟩ := id st'
    refine ⟨u, rfl, go_of (s := { s with heap := h' }) e c d (by decide) ⟨x, H, I1, ru, ⟨rfl, fun ys hy => ?_⟩, st', fun b hb => (hf b hb).1⟩⟩
    rw [I.list_inj hy hq]
    exact hx
  done := by
    rintro X rfl rfl rfl hc i pins s σ H E I hf st ⟨xs, hq, hx⟩
    obtain ⟨its, rv, p, hz⟩ := I.list hq
    obtain ⟨f0, f1, f2, f3, f4, f5⟩ := hf it (by simp)
    have hl := rv.length
    exact list_end (hc.at I) st p.isList (by simp; omega) fun h' eb => ⟨rfl, I.turned (t' := s.toks) (fun b o hb e => eb b o hb e) f0 f1 f3 f4 f5⟩
  self := fun _ _ _ _ _ st h => wpAny_pyIter_listiter st h
theorem turnU_range (it : Addr) (lo : Int) (n : Nat) : TurnU P w K tg (Itr lo n) [it] it (fun i h => IsRangeIter h it (lo + (i : Nat) * 1) ((n : Int) - (i : Nat)) 1) where
  mem := by simp
  obj := fun i h st b hb => by
    obtain rfl : b = it := by simpa using hb
    exact ⟨_, st, fun v z => nomatch (show Data.fields _ = Data.cell v from z)⟩
  keep := fun i h h' st k => k it (by simp) _ st
  item := by
    intro X hP hw hK i pins s σ H E I hf st hlt
    subst hP hw hK
    obtain ⟨f0, f1, f2, f3, f4, f5⟩ := hf it (by simp)
    have hlt : i < n := hlt
    refine wpAny_pyNext_range_item st (by omega) fun h' st' sb => ?_
    have st2 : IsRangeIter h' it (lo + ((i + 1 : Nat) : Int) * 1) ((n : Int) - ((i + 1 : Nat) : Int)) 1 := by
      rw [show lo + ((i + 1 : Nat) : Int) * 1 = lo + ((i : Nat) : Int) * 1 + 1 by omega, show (n : Int) - ((i + 1 : Nat) : Int) = (n : Int) - ((i : Nat) : Int) - 1 by omega]
      exact st'
    have I1 : Inv X pins σ H { s with heap := h', toks := s.toks + 1 } := I.turned (fun b o hb e => (sb.2 b hb).trans e) f0 f1 f3 f4 f5
    refine ⟨_, rfl, go_of (s := { s with heap := h', toks := s.toks + 1 }) (n := "range_iterator") st2 rfl rfl (by decide) ⟨.int (lo + i), H, I1, ⟨s.toks, ?_⟩, ⟨rfl, rfl⟩, st2, fun b hb => (hf b hb).1⟩⟩
    rw [Int.mul_one]
  done := by
    intro X hP hw hK hc i pins s σ H E I hf st hg
    subst hP hw hK
    obtain ⟨f0, f1, f2, f3, f4, f5⟩ := hf it (by simp)
    exact range_end (hc.at I) st (by have : n ≤ i := hg; omega) fun h' eb => ⟨rfl, I.turned (t' := s.toks) (fun b o hb e => eb b o hb e) f0 f1 f3 f4 f5⟩
  self := fun _ _ _ _ _ st h => wpAny_pyIter_rangeiter st h
variable {d : Addr} {o : Obj} {es : Array DictEntry} {ep : Nat}
theorem turnU_keys {kvs : List (Key × V)} (it : Addr) (hod : o.data = .dict es ep) : TurnU P w K tg (Itk d o kvs) [it] it (fun i h => h.IsKeyIter it d i kvs.length ep) where
  mem := by simp
  obj := fun i h st b hb => by
    obtain rfl : b = it := by simpa using hb
    obtain ⟨o, e, c, d⟩ := st
    exact ⟨o, e, fun v z => by rw [d] at z; cases z⟩
  keep := fun i h h' st k => st.at fun oi e => k it (by simp) oi e
  item := by
    rintro X rfl rfl rfl i pins s σ H E I hf st ⟨hd, hi⟩
    obtain ⟨f0, f1, f2, f3, f4, f5⟩ := hf it (by simp)
    obtain ⟨hs, hgd, hx, es', ep', vs, hdt, hsz, kv, hm⟩ := I.frzK hd
    obtain ⟨rfl, rfl⟩ := dict_ep hod hdt
    obtain ⟨⟨k, v⟩, hkv⟩ : ∃ p, kvs[i]? = some p := ⟨kvs[i], List.getElem?_eq_getElem hi⟩
    obtain ⟨u, hu, ru⟩ := kv_get kv hkv
    have hl : kvs.length = vs.length := Paired.length kv
    rw [hl] at st
    refine wpAny_pyNext_dict_item st hm hu fun key h' hkey st' sb => ?_
    have I1 : Inv X pins σ H { s with heap := h' } := I.turned (t' := s.toks) (fun b ob hb e => (sb.2 b hb).trans e) f0 f1 f3 f4 f5
    obtain ⟨oi, e, c, dd⟩ := id st'
    refine ⟨key, rfl, go_of (s := { s with heap := h' }) e c dd (by decide) ⟨kV k, H, I1, relV_key (show keyIs k key = true from hkey), ⟨rfl, k, v, hkv, rfl⟩, ?_, fun b hb => (hf b hb).1⟩⟩
    show h'.IsKeyIter it d (i + 1) kvs.length _
    rw [hl]
    exact st'
  done := by
    rintro X rfl rfl rfl hc i pins s σ H E I hf st ⟨hd, hi⟩
    obtain ⟨f0, f1, f2, f3, f4, f5⟩ := hf it (by simp)
    obtain ⟨hs, hgd, hx, es', ep', vs, hdt, hsz, kv, hm⟩ := I.frzK hd
    obtain ⟨rfl, rfl⟩ := dict_ep hod hdt
    exact key_end (hc.at I) st hgd hdt hsz hi fun h' eb => ⟨rfl, I.turned (t' := s.toks) (fun b ob hb e => eb b ob hb e) f0 f1 f3 f4 f5⟩
  self := fun A i s Q E st h => wpAny_pyIter_keyiter st h
theorem turnU_vals {kvs : List (Key × V)} (it : Addr) (hod : o.data = .dict es ep) : TurnU P w K tg (Itd d o kvs) [it] it (fun i h => h.IsValIter it d i kvs.length ep) where
  mem := by simp
  obj := fun i h st b hb => by
    obtain rfl : b = it := by simpa using hb
    obtain ⟨o, e, c, d⟩ := st
    exact ⟨o, e, fun v z => by rw [d] at z; cases z⟩
  keep := fun i h h' st k => st.at fun oi e => k it (by simp) oi e
  item := by
    rintro X rfl rfl rfl i pins s σ H E I hf st ⟨hd, hi⟩
    obtain ⟨f0, f1, f2, f3, f4, f5⟩ := hf it (by simp)
    obtain ⟨hs, hgd, hx, es', ep', vs, hdt, hsz, kv, hm⟩ := I.frzK hd
    obtain ⟨rfl, rfl⟩ := dict_ep hod hdt
    obtain ⟨⟨k, v⟩, hkv⟩ : ∃ p, kvs[i]? = some p := ⟨kvs[i], List.getElem?_eq_getElem hi⟩
    obtain ⟨u, hu, ru⟩ := kv_get kv hkv
    have hl : kvs.length = vs.length := Paired.length kv
    rw [hl] at st
    refine wpAny_pyNext_values_item st hm hu fun h' st' sb => ?_
    have I1 : Inv X pins σ H { s with heap := h' } := I.turned (t' := s.toks) (fun b ob hb e => (sb.2 b hb).trans e) f0 f1 f3 f4 f5
    obtain ⟨oi, e, c, dd⟩ := id st'
    refine ⟨u, rfl, go_of (s := { s with heap := h' }) e c dd (by decide) ⟨v, H, I1, ru, ⟨rfl, k, hkv⟩, ?_, fun b hb => (hf b hb).1⟩⟩
    show h'.IsValIter it d (i + 1) kvs.length _
    rw [hl]
    exact st'
  done := by
    rintro X rfl rfl rfl hc i pins s σ H E I hf st ⟨hd, hi⟩
    obtain ⟨f0, f1, f2, f3, f4, f5⟩ := hf it (by simp)
    obtain ⟨hs, hgd, hx, es', ep', vs, hdt, hsz, kv, hm⟩ := I.frzK hd
    obtain ⟨rfl, rfl⟩ := dict_ep hod hdt
    exact val_end (hc.at I) st hgd hdt hsz hi fun h' eb => ⟨rfl, I.turned (t' := s.toks) (fun b ob hb e => eb b ob hb e) f0 f1 f3 f4 f5⟩
  self := fun A i s Q E st h => wpAny_pyIter_valiter st h
theorem turnU_enum {elts : List Expr} {kk : Nat} {tpos : Pos} (a e it : Addr) :
    TurnU P w K (.Tuple elts kk tpos) (Ite K a) [e, it] e (fun i h => (∃ old, IsEnum h e it ((i : Nat) : Int) old) ∧ h.IsListIter it a i ∧ e ≠ it) where
  mem := by simp
  obj := fun i h st b hb => by
    obtain ⟨⟨old, he⟩, ⟨o, ho, hc, hd⟩, _⟩ := st
    have e' : b = e ∨ b = it := by simpa using hb
    rcases e' with z | z
    · rw [z]; exact ⟨_, he, fun v q => nomatch q⟩
    · rw [z]; exact ⟨o, ho, fun v q => by rw [hd] at q; cases q⟩
  keep := fun i h h' st k => let ⟨⟨old, he⟩, hi, hne⟩ := st; ⟨⟨old, k e (by simp) _ he⟩, hi.at fun o q => k it (by simp) o q, hne⟩
  item := by
    rintro X rfl rfl rfl i pins s σ H E I hf ⟨⟨old, he⟩, hit, hne⟩ ⟨xs, x, hq, hx⟩
    obtain ⟨its, rv, p, hz⟩ := I.list hq
    obtain ⟨u, hu, ru⟩ := rv.get hx
    have hel : e < s.heap.objs.size := Heap.lt_size he
    have hil : it < s.heap.objs.size := by obtain ⟨_, q, _⟩ := hit; exact Heap.lt_size q
    refine wpAny_pyNext_enum_item he hit p.isList (x := u) (by simpa using hu) hne fun h' ho hit' hT hsz hk => ?_
    refine ⟨_, rfl, wpAny_letOwnedTupleGo_enum (s := { s with heap := h', toks := s.toks + 1 }) ho fun h'' he' sb => ?_⟩
    have hT2 : h''.get? s.heap.objs.size = some { cls := .type "tuple", data := .seq #[.int i s.toks, u] } := (sb.2 _ (Nat.ne_of_gt hel)).trans hT
    have new : ObjOk X.prog X.w (upd H s.heap.objs.size (.tup [.int (i : Nat), x])) h'' s.heap.objs.size (.tup [.int (i : Nat), x]) :=
      ⟨by show 2 ≤ sizeLine; decide, [.int i s.toks, u], .cons ⟨_, rfl⟩ (.cons ru .nil), ⟨_, hT2, rfl, _, rfl⟩⟩
    have I1 : Inv X pins σ (upd H s.heap.objs.size (.tup [.int (i : Nat), x])) { s with heap := h'', toks := s.toks + 1 } := by
      refine I.turnedNew (ch := [e, it]) (fun b ob hb q => ?_) hf (Nat.le_refl _) new
      have ne1 : b ≠ e := fun z => hb (by simp [z])
      have ne2 : b ≠ it := fun z => hb (by simp [z])
      exact (sb.2 b ne1).trans (hk b ob ne1 ne2 q)
    refine ⟨.ref s.heap.objs.size, _, I1, rfl, ⟨_, x, rfl, I.hok.fresh (Nat.le_refl _), rfl, fun ys hy => by rw [I.list_inj hy hq]; exact hx⟩, ⟨⟨u, ?_⟩, hit'.at fun o q => (sb.2 it (Ne.symm hne)).trans q, hne⟩, fun b hb => ?_⟩
    · rw [show ((i + 1 : Nat) : Int) = (i : Int) + 1 by omega]
      exact he'
    · have hb' : b < s.heap.objs.size := by
        have e' : b = e ∨ b = it := by simpa using hb
        rcases e' with z | z
        · rw [z]; exact hel
        · rw [z]; exact hil
      rw [upd_ne (Nat.ne_of_lt hb')]
      exact (hf b hb).1
  done := by
    rintro X rfl rfl rfl hc i pins s σ H E I hf ⟨⟨old, he⟩, hit, hne⟩ ⟨xs, hq, hx⟩
    obtain ⟨its, rv, p, hz⟩ := I.list hq
    obtain ⟨f0, f1, f2, f3, f4, f5⟩ := hf it (by simp)
    have hl := rv.length
    exact enum_end (hc.at I) he hit p.isList (by simp; omega) fun h' eb => ⟨rfl, I.turned (t' := s.toks) (fun b o hb q => eb b o hb q) f0 f1 f3 f4 f5⟩
  self := fun A i s Q E st h => let ⟨⟨_, he⟩, _⟩ := st; wpAny_pyIter_enum he h
end
/-! ### what is walked -/
def GotU (X : Cx) (pins : List (Addr × Obj)) (σ : St) (tg : Expr) (R : It → Hp → Prop) (itv : Value) (s2 : Shared) : Prop :=
  ∃ (it : Addr) (fp : List Addr) (tn : Nat → Heap → Prop) (J : It) (H' : Hp), itv = .ref it ∧ Inv X pins σ H' s2 ∧ TurnU X.prog X.w X.K tg J fp it tn ∧ tn 0 s2.heap ∧ (∀ b ∈ fp, FpOk X pins H' b) ∧ R J H'
structure PIU (X : Cx) (tg iter : Expr) (wi : TI) : Prop where
  run : ∀ (pins : List (Addr × Obj)) (s : Shared) (σ : St) (H : Hp) (R : It → Hp → Prop), Inv X pins σ H s → wi σ H R →
    wpAny (model X.prog X.w) X.A (eval iter X.env) (fun v s1 => wpAny (model X.prog X.w) X.A (pyIter v) (GotU X pins σ tg R) X.xe s1) X.xe s
section
variable {X : Cx} {tg : Expr}
theorem got_one {pins : List (Addr × Obj)} {σ : St} {H : Hp} {s : Shared} {R : It → Hp → Prop} {J : It} {tn : Nat → Heap → Prop} {tk : Nat} (I : Inv X pins σ H s) (o : Obj)
    (T : TurnU X.prog X.w X.K tg J [s.heap.objs.size] s.heap.objs.size tn) (st : tn 0 (s.heap.push o)) (q : R J H) : GotU X pins σ tg R (.ref s.heap.objs.size) { s with heap := s.heap.push o, toks := tk } := by
  refine ⟨s.heap.objs.size, [s.heap.objs.size], tn, J, H, rfl, I.kept fun b ob e => Heap.get?_push_of_some _ e, T, st, fun b hb => ?_, q⟩
  obtain rfl : b = s.heap.objs.size := by simpa using hb
  exact I.fpOk (Nat.le_refl _) (I.hok.fresh (Nat.le_refl _))
theorem piu_list {l : Expr} {tl : TE} (hl : PE X l tl) : PIU X tg l (iList X.K tl) := by
  refine ⟨fun pins s σ H R I h => thn (hl.run pins s σ H _ I h) fun v s1 ⟨x, H1, I1, r1, a, e, ⟨xs, hq⟩, q⟩ => ?_⟩
  subst e
  cases r1
  obtain ⟨its, rv, p, hz⟩ := I1.list hq
  exact wpAny_pyIter_list p.isList (got_one (tk := s1.toks) I1 _ (turnU_list a _) ⟨_, Heap.get?_push_size _ rfl, rfl, rfl⟩ q)
theorem piu_keys {e : Expr} {td : TE} (he : PE X e td) : PIU X tg e (fun σ H R => td σ H fun x H1 => ∃ d o kvs, x = .ref d ∧ H1 d = some (.frz o (.dK kvs)) ∧ R (Itk d o kvs) H1) := by
  refine ⟨fun pins s σ H R I h => thn (he.run pins s σ H _ I h) fun u s1 ⟨x, H1, I1, rx, d, o, kvs, ex, hd, q⟩ => ?_⟩
  subst ex
  cases rx
  obtain ⟨hs, hgd, hx, es, ep, vs, hdt, hsz, kv, hm⟩ := I1.frzK hd
  refine iter_keys hs hgd hx hdt (got_one (tk := s1.toks) I1 _ (turnU_keys _ hdt) ⟨_, Heap.get?_push_size _ rfl, rfl, ?_⟩ q)
  rw [hsz] <;> rfl
theorem piu_values {e : Expr} {td : TE} {apos cpos : Pos} (he : PE X e td) (hbase : attributeBase e "values" X.env (eval e X.env) = eval e X.env := by rfl) (hline : (apos.endLine == cpos.line) = true := by rfl) :
    PIU X tg (.Call (.Attribute e "values" apos) [] [] cpos) (iVals td) := by
  refine ⟨fun pins s σ H R I h => ?_⟩
  refine wpAny_Call_method (T := "dict") (id := "dict.values") hbase rfl hline F.plainAttrs_dict F.slot_dict_values F.type_dict_values (thn (he.run pins s σ H _ I h) fun u s1 ⟨x, H1, I1, rx, d, o, kvs, ex, hd, q⟩ => ?_)
  subst ex
  cases rx
  obtain ⟨hs, hgd, hx, es, ep, vs, hdt, hsz, kv, hm⟩ := I1.frzK hd
  have hl : kvs.length = vs.length := Paired.length kv
  refine ⟨hm.dictOf.typeIs, hm.dictOf.mapOf.noDict, ?_⟩
  have I2 : Inv X pins σ H1 { s1 with heap := s1.heap.push { cls := .type "dict_values", data := .fields #[.ref d] } } := I1.kept (t' := s1.toks) fun b ob q => Heap.get?_push_of_some _ q
  have fin : wpAny (model X.prog X.w) X.A (pyIter (.ref s1.heap.objs.size)) (GotU X pins σ tg R) X.xe { s1 with heap := s1.heap.push { cls := .type "dict_values", data := .fields #[.ref d] } } := by
    refine wpAny_pyIter_values (d := d) (knd := mixKind X.prog X.w) ⟨_, Heap.get?_push_size _ rfl, rfl, rfl⟩ (hm.push _) (got_one (tk := s1.toks) I2 _ (turnU_vals _ hdt) ⟨_, Heap.get?_push_size _ rfl, rfl, ?_⟩ q)
    rw [hl] <;> rfl
  show wpAny _ _ (callWith cpos (.builtin "dict.values") [.ref d] [] []) _ X.xe s1
  exact method_meetsIn F.slot_dict_values F.entry_dict_values rfl (PySem.evalArgs_none ⟨rfl, hm.dictOf.typeIs, F.args_dict_values_1 _, _, meets_dict_values (mixKind X.prog X.w) d hs, ⟨vs, hm.dictOf⟩, fin⟩)
theorem piu_enum {e : Expr} {ta : TA} {p pos tpos : Pos} {elts : List Expr} {kk : Nat} (hg : Gl X "enumerate") (hm : X.mg "enumerate" = none) (ha : PA X [e] ta) (hs : starEach [e] X.env = [(false, eval e X.env)] := by rfl) :
    PIU X (.Tuple elts kk tpos) (.Call (.Name "enumerate" p) [e] [] pos) (iEnum X.K ta) := by
  refine ⟨fun pins s σ H R I h => ?_⟩
  refine Call_ (ld_blt I hg hm boot_enumerate (PyProof.Rows.callWith_type1 (thn (ha.run pos pins s σ H _ I h) fun us s1 ⟨vs, H1, I1, r1, a, xs, ex, hq, q⟩ => ?_) hs rfl))
  subst ex
  rw [Vals.ref1 r1]
  obtain ⟨its, rv, p', hz⟩ := I1.list hq
  refine call_enumerate_list p'.isList fun h' he hit hsz hk => wpAny_pyIter_enum he ?_
  refine ⟨s1.heap.objs.size + 1, [s1.heap.objs.size + 1, s1.heap.objs.size], _, _, H1, rfl, I1.kept (t' := s1.toks) hk, turnU_enum a (s1.heap.objs.size + 1) s1.heap.objs.size, ⟨⟨.none, he⟩, hit, Nat.succ_ne_self _⟩, fun b hb => ?_, q⟩
  have hle : s1.heap.objs.size ≤ b := by
    have e' : b = s1.heap.objs.size + 1 ∨ b = s1.heap.objs.size := by simpa using hb
    rcases e' with z | z
    · rw [z]; exact Nat.le_add_right _ _
    · rw [z]; exact Nat.le_refl _
  exact I1.fpOk hle (I1.hok.fresh hle)
theorem piu_range2 {a b : Expr} {ta : TA} {p pos : Pos} (hg : Gl X "range") (hm : X.mg "range" = none) (ha : PA X [a, b] ta) (hs : starEach [a, b] X.env = [(false, eval a X.env), (false, eval b X.env)] := by rfl)
    (hs2 : starEach [b] X.env = [(false, eval b X.env)] := by rfl) : PIU X tg (.Call (.Name "range" p) [a, b] [] pos) (iRng2 ta) := by
  refine ⟨fun pins s σ H R I h => ?_⟩
  refine Call_ (ld_blt I hg hm boot_range (PyProof.Rows.callWith_type1 (thn (ha.run pos pins s σ H _ I h) fun us s1 ⟨vs, H1, I1, r1, i, j, e, ⟨q1, q2, q3, q4⟩, q⟩ => ?_) (by rw [hs, hs2]) (by rw [hs2]; rfl)))
  subst e
  obtain ⟨t, t', rfl⟩ := Vals.int2 r1
  refine call_range_2 (wpAny_pyIter_range (IsRange.new ..) (small_one q1 q2 q3 q4) ?_)
  have I2 : ∀ (o : Obj) (tk : Nat), Inv X pins σ H1 { s1 with heap := s1.heap.push o, toks := tk } := fun o tk => I1.kept fun b o e => Heap.get?_push_of_some _ e
  refine got_one (I2 _ _) _ (turnU_range _ i (j - i).toNat) ?_ q
  have e2 : (((j - i).toNat : Nat) : Int) - ((0 : Nat) : Int) = Builtin.Range.rangeSize i j 1 := by rw [rangeSize_one]; split <;> omega
  show IsRangeIter _ _ (i + ((0 : Nat) : Int) * 1) ((((j - i).toNat : Nat) : Int) - ((0 : Nat) : Int)) 1
  rw [show i + ((0 : Nat) : Int) * 1 = i by simp, e2]
  exact Heap.get?_push_size _ rfl
/-- (a, b, ..) = a tuple of that length -/
theorem pgu_tup {es : List Expr} {k : Nat} {pos : Pos} {t : TGs} {n : Nat} (hc : Warm X) (h : PGs X es t)
    (hn : (assignEach es X.env).length = n := by rfl) (hst : (assignEach es X.env).findIdx? (·.1) = none := by rfl) : PG X (.Tuple es k pos) (gTup X.K n t) := by
  refine ⟨fun pins s σ H v u Q I r hw => ?_⟩
  obtain ⟨a, xs, e1, hq, hl, hw⟩ := hw
  subst e1
  cases r
  obtain ⟨its, rv, ht, hz⟩ := I.tuple hq
  refine tup_warm (hc.at I) ht (by simp [hn, ← hl, rv.length]) hst fun h' hx => ?_
  have I1 : Inv X pins σ H { s with heap := h' } := I.kept (t' := s.toks) fun b o e => hx b o (Nat.ne_of_lt (Heap.lt_size e)) e
  exact h.run pins _ σ H xs _ Q I1 (by simpa using rv) hw
theorem psu_for {iter : Expr} {body : List Stmt} {wi : TI} {g : TG} {tb : TS} {pos : Pos} (hp : PassesOwn (model X.prog X.w) X.A X.env X.xe) (hc : Warm X) (hi : PIU X tg iter wi) (hg : PG X tg g) (hb : PSs X body tb)
    (hs : ∀ x, foldedSetIterable iter X.env x = pure x := by intro _; rfl) : PS X (.For tg iter body [] pos) (tFor wi g tb) := by
  refine ⟨fun pins s σ H D I h => ?_⟩
  refine wpAny_For (thn (hi.run pins s σ H _ I h) fun v s1 h1 => thn h1 fun itv s2 h2 => ?_) hs
  obtain ⟨it, fp, tn, J, H2, e, I2, T, st2, f2, W, ⟨m0, w0⟩, turn⟩ := h2
  subst e
  have stat : ∀ {H' : Hp}, (∀ b ∈ fp, H' b = none) → ∀ b ∈ fp, FpOk X pins H' b := fun hn b hb => ⟨hn b hb, (f2 b hb).2⟩
  refine codeAny_forLoop_any (fun n s' => ∃ i σ' H', Inv X pins σ' H' s' ∧ tn i s'.heap ∧ (∀ b ∈ fp, H' b = none) ∧ W i n σ' H') ?_ m0 ⟨0, σ, H2, I2, st2, fun b hb => (f2 b hb).1, w0⟩
  rintro n s3 ⟨i, σ3, H3, I3, st3, fr3, w3⟩
  rcases turn i n σ3 H3 w3 with ⟨stop, qn⟩ | ⟨go, N, hN, step⟩
  · refine wpAny_passesOwn hp (thn (T.done X rfl rfl rfl hc i pins s3 σ3 H3 X.xe I3 (stat fr3) st3 stop) fun r s4 ⟨hr, I4⟩ => ?_)
    subst hr
    exact wpAny_execs_nil ⟨σ3, H3, I4, qn⟩
  · refine wpAny_passesOwn hp (thn (T.item X rfl rfl rfl i pins s3 σ3 H3 X.xe I3 (stat fr3) st3 go) fun r s4 ⟨u, hr, h4⟩ => ?_)
    subst hr
    refine wpAny_passesOwn hp (thn h4 fun _ s5 ⟨x, H5, I5, r5, y5, st5, fr5⟩ => ?_)
    refine wpAny_passesOwn hp (thn (hg.run _ s5 σ3 H5 x u _ (I5.pinned (stat fr5) (T.obj _ _ st5)) r5 (step x H5 y5)) fun _ s6 ⟨σ6, H6, I6, q6⟩ => ?_)
    refine wpAny_passesOwn hp (thn (hb.run _ s6 σ6 H6 _ I6 q6) fun f s7 q7 => ?_)
    have again : ∀ {σ7 : St} {H7 : Hp}, Inv X (pins ++ pinsAt fp s5.heap) σ7 H7 s7 → N σ7 H7 → ∃ m, m < n ∧ ∃ i σ' H', Inv X pins σ' H' s7 ∧ tn i s7.heap ∧ (∀ b ∈ fp, H' b = none) ∧ W i m σ' H' := fun {σ7 H7} I7 n7 => by
      obtain ⟨m', hm, w7⟩ := hN σ7 H7 n7
      have pin : ∀ b ∈ fp, ∀ o, s5.heap.get? b = some o → s7.heap.get? b = some o ∧ H7 b = none := fun b hb o e =>
        let z := I7.pin (b, o) (List.mem_append_right _ (List.mem_append_right _ (mem_pinsAt hb e)))
        ⟨z.1, z.2.1⟩
      refine ⟨m', hm, i + 1, σ7, H7, I7.unpinned, T.keep _ _ _ st5 fun b hb o e => (pin b hb o e).1, fun b hb => ?_, w7⟩
      obtain ⟨o, e, d⟩ := T.obj _ _ st5 b hb
      exact (pin b hb o e).2
    cases f with
    | next => obtain ⟨σ7, H7, I7, n7⟩ := q7; exact again I7 n7
    | cont => obtain ⟨σ7, H7, I7, n7⟩ := q7; exact again I7 n7
    | brk => obtain ⟨σ7, H7, I7, q7⟩ := q7; exact ⟨σ7, H7, I7.unpinned, q7⟩
    | ret v => obtain ⟨x7, σ7, H7, I7, r7, q7⟩ := q7; exact ⟨x7, σ7, H7, I7.unpinned, r7, q7⟩
end
/-! ### calls of built-ins -/
section
variable {X : Cx}
theorem cu_sum (hc : Warm X) : CallR X (.builtin "sum") (rSum X.K) := by
  intro pins s σ H vs us Q I r h
  obtain ⟨a, ns, rfl, hs, q⟩ := h
  obtain ⟨its, rv, hl, _⟩ := I.list hs
  rw [Vals.ref1 r]
  exact sum_warm (hc.at I) hl.isList rv.ints fun h' tk t' hk => ⟨.int _, H, I.kept hk, ⟨_, rfl⟩, q⟩
/-- set(xs) of a list of ints -/
def rSetL (K : PySem.W.Frag) (w : World) : List V → Hp → VK → Prop := fun vs H Q => ∃ (a : Addr) (ns : List Int), vs = [V.ref a] ∧ SqL K H a (ns.map V.int) ∧ ns.length ≤ 1000 ∧
  ∀ p c, H p = none → c ≤ ns.length → Q (.ref p) (upd H p (SetO w p (fun j => decide (j ∈ ns)) c))
theorem cu_set (hc : Warm X) : CallR X (.type "set") (rSetL X.K X.w) := by
  intro pins s σ H vs us Q I r h
  obtain ⟨a, ns, rfl, hs, hz, q⟩ := h
  obtain ⟨its, rv, hl, _⟩ := I.list hs
  rw [Vals.ref1 r]
  have hb : ns.length + 1 < scanBound := by unfold scanBound; omega
  refine set_warm ns (hc.at I) hl.isList rv.ints hb fun h' tk c R hcn k => ?_
  exact ⟨.ref _, _, I.laid (a := s.heap.objs.size) (t' := tk) k (Nat.le_refl _) (setO_new R), rfl, q _ c (I.hok.fresh (Nat.le_refl _)) hcn⟩
theorem cu_sorted (hc : Warm X) : CallR X (.builtin "sorted") (rSortedSet X.w) := by
  intro pins s σ H vs us Q I r h
  obtain ⟨a, S, n, rfl, ha, h64, q⟩ := h
  rw [Vals.ref1 r]
  refine sorted_warm (setO_get I ha) (hc.at I) h64 fun s' p out c ns k g o hp hg hi hs hm hl => ?_
  have hlen : (ns.map V.int).length ≤ sizeLine := by rw [List.length_map, hl, sizeLine_eq]; omega
  have hn : H p = none := I.hok.fresh hp
  exact ⟨.ref p, upd H p (.lst (ns.map V.int)), I.call' (ch := []) o (Un.laid k hp hn) (I.hok.laid k hp ⟨hlen, out.toList, c, vals_of_ints hi, hg⟩) (by rw [g]; exact I.bare) (fun _ z => nomatch z), rfl, q ns p hs hm hl hn⟩
end
end NbU
end
section
set_option Elab.async false
set_option linter.all false
set_option maxRecDepth 100000
set_option maxHeartbeats 4000000
namespace NbU
open PySem PySem.Spec PyProof.Rows L2 HotX
/-! ### list comprehensions -/
/-- the block's context keeps the pins -/
abbrev blkU (X : Cx) (s : Shared) (H : Hp) (scope : Scope) (cenv : Env) (fp : List Addr) : Cx := { X.blk s H scope cenv fp with pn := X.pn }
section
variable {X : Cx}
theorem startU {pins : List (Addr × Obj)} {σ : St} {H : Hp} {s : Shared} {scope : Scope} {own : List (Str × Nat)} {fp : List Addr} (I : Inv X pins σ H s) (ok : BlkOk X.N X.env.scope scope own) (hN : X.N.Nodup) (hfp : ∀ b ∈ fp, FpOk X pins H b ∧ b < s.heap.objs.size) :
    Inv (blkU X s H scope (compEnvC scope (cellsFrom (s.heap.objs.size + 1) scope.names (cloFrom X.env.cells scope.names [])) s.heap.objs.size X.env) fp) [] (wipe σ (own.map (·.2))) H { s with heap := pushCells (s.heap.push { cls := .type "dict", data := .dict #[] }) scope.names } := by
  have J := block_start I ok hN hfp
  have o := J.ok
  refine ⟨⟨o.mod, o.kind, o.glob, o.blt, o.above, o.inj, o.has, o.cab, o.hd, o.frames, o.stk, o.exf, o.bs, o.bsz, o.noex, o.exfs, o.funs, o.frf⟩, J.os, J.bare, J.base, J.loc, J.cell, J.free, J.freeC, fun p hp => ?_, J.hok, J.len⟩
  have hp' : p ∈ X.pn := by simpa using (show p ∈ X.pn ++ [] from hp)
  obtain ⟨e, n, ne, nf, d⟩ := I.pin p (List.mem_append_left _ hp')
  refine ⟨pushCells_keeps _ _ _ _ (Heap.get?_push_of_some _ e), n, Nat.ne_of_lt (Heap.lt_size e), fun hm => ?_, d⟩
  rcases List.mem_cons.mp (I.stkSub p.1 hm) with z | z
  · exact ne z
  · exact nf z
theorem lcU_core {pins : List (Addr × Obj)} {s : Shared} {σ : St} {H : Hp} {Q : VK} {elt tg iter : Expr} {ifs : List Expr} {scope : Scope} {own : List (Str × Nat)} {pos pos' : Pos} {wi : TI} {g : TG} {tt : TT} {te : TE} {use : Option (Value → Sem Unit)} {Qf : Value → Shared → Prop}
    (hc : Warm X) (hN : X.N.Nodup) (I : Inv X pins σ H s) (hi : PIU X tg iter wi) (ok : BlkOk X.N X.env.scope scope own)
    (hg : ∀ (s : Shared) (H : Hp) (C : Addr) (cl : List (Str × Addr)) (fp : List Addr), PG (blkU X s H scope (compEnvC scope cl C X.env) fp) tg g) (ht : ∀ (s : Shared) (H : Hp) (C : Addr) (cl : List (Str × Addr)) (fp : List Addr), PTs (blkU X s H scope (compEnvC scope cl C X.env) fp) ifs tt)
    (he : ∀ (s : Shared) (H : Hp) (C : Addr) (cl : List (Str × Addr)) (fp : List Addr), PE (blkU X s H scope (compEnvC scope cl C X.env) fp) elt te) (hs : ∀ x, foldedSetIterable iter X.env x = pure x)
    (h : tLc wi g tt te (own.map (·.2)) σ H Q)
    (hRR : ∀ D C s' m H', Inv X pins σ H' s' → Q (.ref D) H' → s'.heap.Ns C m → FpOk X pins H' C → compPost (model X.prog X.w) X.A X.xe use Qf (.ref D) C (.ok .next) s') :
    wpAny (model X.prog X.w) X.A (comprehension (.ListComp elt [⟨tg, iter, ifs, 0⟩] scope pos) scope X.env pos' (newList []) false (eval iter X.env) use) Qf X.xe s := by
  have hfree : ∀ y ∈ scope.names, y.2 = .free → ∃ c, X.env.cells.lookup y.1 = some c := fun y hy e => (ok.free y hy e).elim (fun k => I.ok.has _ (.inl k)) fun k => I.ok.has _ (.inr k)
  refine wpAny_comprehension_free (use := use) rfl hs (closure_ok hfree) ok.kind (fun y hy e => by rw [ok.uniq y hy, e])
    (thn (hi.run pins s σ H _ I h) fun xv s1 hx => thn hx fun itv s2 h2 => ?_)
  obtain ⟨it, fp, tn, J, H2, e, I2, T, st2, f2, q⟩ := h2
  subst e
  refine wpAny_newObj_type (newEnv_comp ?_) (by show 0 ≤ sizeLine; decide)
  generalize hD : s2.heap.objs.size = D
  obtain ⟨W, ⟨m0, w0⟩, turn⟩ := q D (I2.hok.fresh (Nat.le_of_eq hD))
  generalize hs3 : ({ s2 with heap := s2.heap.push { cls := .type "list", data := .seq ([] : List Value).toArray } } : Shared) = s3
  have h3 : s3.heap = s2.heap.push { cls := .type "list", data := .seq ([] : List Value).toArray } := by rw [← hs3]
  have I3 : Inv X pins σ (upd H2 D (.lst [])) s3 := by
    rw [← hs3]
    refine I2.laid (t' := s2.toks) (fun b o e => Heap.get?_push_of_some _ e) (Nat.le_of_eq hD) ⟨Nat.zero_le _, [], 0, .nil, ?_⟩
    rw [← hD]
    exact Heap.get?_push_size _ rfl
  have f3 : ∀ b ∈ fp, FpOk X pins (upd H2 D (.lst [])) b ∧ b < s3.heap.objs.size := fun b hb => by
    obtain ⟨o, e, _⟩ := T.obj _ _ st2 b hb
    have hlt := Heap.lt_size e
    exact ⟨⟨by rw [upd_ne (by rw [← hD]; exact Nat.ne_of_lt hlt)]; exact (f2 b hb).1, (f2 b hb).2⟩, by rw [h3, Heap.size_push]; exact Nat.lt_succ_of_lt hlt⟩
  have st3 : tn 0 s3.heap := T.keep _ _ _ st2 fun b _ o e => by rw [h3]; exact Heap.get?_push_of_some _ e
  have I4 := startU I3 ok hN f3
  have pg := hg s3 (upd H2 D (.lst [])) s3.heap.objs.size (cellsFrom (s3.heap.objs.size + 1) scope.names (cloFrom X.env.cells scope.names [])) fp
  have pt := ht s3 (upd H2 D (.lst [])) s3.heap.objs.size (cellsFrom (s3.heap.objs.size + 1) scope.names (cloFrom X.env.cells scope.names [])) fp
  have pe := he s3 (upd H2 D (.lst [])) s3.heap.objs.size (cellsFrom (s3.heap.objs.size + 1) scope.names (cloFrom X.env.cells scope.names [])) fp
  show codeAny _ _ (.compStart (.ListComp elt [⟨tg, iter, ifs, 0⟩] scope pos) 0 (.ref it) (.ref D) (compEnvC scope (cellsFrom (s3.heap.objs.size + 1) scope.names (cloFrom X.env.cells scope.names [])) s3.heap.objs.size X.env)) (compPost (model X.prog X.w) X.A X.xe use Qf (.ref D) s3.heap.objs.size) { s3 with heap := pushCells (s3.heap.push { cls := .type "dict", data := .dict #[] }) scope.names }
  have nfp : ∀ b ∈ fp, (upd H2 D (.lst [])) b = none := fun b hb => (f3 b hb).1.1
  generalize hce : compEnvC scope (cellsFrom (s3.heap.objs.size + 1) scope.names (cloFrom X.env.cells scope.names [])) s3.heap.objs.size X.env = ce at I4 pg pt pe ⊢
  have cL : ce.locals = s3.heap.objs.size := by subst hce; rfl
  generalize hH3 : upd H2 D (.lst []) = H3 at I3 I4 pg pt pe w0 nfp f3
  generalize hs4 : ({ s3 with heap := pushCells (s3.heap.push { cls := .type "dict", data := .dict #[] }) scope.names } : Shared) = s4 at I4 ⊢
  have st4 : tn 0 s4.heap := T.keep _ _ _ st3 fun b _ o e => by rw [← hs4]; exact pushCells_keeps _ _ _ _ (Heap.get?_push_of_some _ e)
  have wB : Warm (blkU X s3 H3 scope ce fp) := hc
  have pinlt : ∀ {p}, p ∈ X.pn → p.1 < s2.heap.objs.size := fun {p} hp => Heap.lt_size (I2.pin p (List.mem_append_left _ hp)).1
  have stat : ∀ {σ' : St} {H' : Hp} {s' : Shared}, Inv (blkU X s3 H3 scope ce fp) [] σ' H' s' → (∀ b ∈ fp, H' b = none) → ∀ b ∈ fp, FpOk (blkU X s3 H3 scope ce fp) [] H' b := fun {σ' H' s'} I' hn b hb =>
    ⟨hn b hb, (I'.ok.exf b hb).1, I'.ok.exfs b hb, .inl hb, fun x c e => (I'.ok.exf b hb).2 x c e, fun p hp => (f2 b hb).2.2.2.2.2 p (List.mem_append_left _ (by simpa using (show p ∈ X.pn ++ [] from hp)))⟩
  have loop : codeAny (model X.prog X.w) X.A (.compLoop (.ListComp elt [⟨tg, iter, ifs, 0⟩] scope pos) 0 (.ref it) (.ref D) ce) (compPost (model X.prog X.w) X.A X.xe use Qf (.ref D) s3.heap.objs.size) s4 := by
    refine compLoop_any (fun n s' => ∃ i H', Inv (blkU X s3 H3 scope ce fp) [] (wipe σ (own.map (·.2))) H' s' ∧ tn i s'.heap ∧ (∀ b ∈ fp, H' b = none) ∧ W i n H') ?_ m0 ⟨0, H3, I4, st4, nfp, w0⟩
    rintro n s5 ⟨i, H5, I5, st5, n5, w5⟩
    rcases turn i n H5 w5 with ⟨stop, qq⟩ | ⟨go, Nx, hNx, step⟩
    · refine thnF (T.done (blkU X s3 H3 scope ce fp) rfl rfl rfl wB i [] s5 _ H5 (fun _ _ => False) I5 (stat I5 n5) st5 stop) fun r s6 ⟨hr, I6⟩ => ?_
      subst hr
      have I7 : Inv X pins σ H5 s6 := I3.call' (ch := fp) I6.os I6.base I6.hok I6.bare fun b hb => ⟨(f3 b hb).1.2.2.2.1, (f3 b hb).1.2.1, (f3 b hb).1.2.2.2.2.1, (f3 b hb).1.2.2.2.2.2⟩
      have nC : H5 s3.heap.objs.size = none := by
        have z : H5 ce.locals = none := I6.free
        rwa [cL] at z
      obtain ⟨m, hn, _⟩ := I6.loc
      have hn : s6.heap.Ns ce.locals m := hn
      rw [cL] at hn
      exact hRR D s3.heap.objs.size s6 m H5 I7 qq hn (I3.fpOk (Nat.le_refl _) nC)
    · refine thnF (T.item (blkU X s3 H3 scope ce fp) rfl rfl rfl i [] s5 _ H5 (fun _ _ => False) I5 (stat I5 n5) st5 go) fun r s6 ⟨u, hr, h6⟩ => ?_
      subst hr
      refine thnF h6 fun _ s7 ⟨x, H7, I7, r7, y7, st7, n7⟩ => ?_
      refine thnF (pg.run _ s7 _ H7 x u _ (I7.pinned (stat I7 n7) (T.obj _ _ st7)) r7 (step x H7 y7)) fun _ s8 ⟨σ8, H8, I8, hw8, q8⟩ => ?_
      refine thnF (pt.run _ s8 σ8 H8 _ I8 q8) fun b s9 ⟨H9, I9, q9⟩ => ?_
      have fin : ∀ {s' : Shared} {H' : Hp}, Inv (blkU X s3 H3 scope ce fp) ([] ++ pinsAt fp s7.heap) σ8 H' s' → Nx H' → ∃ m, m < n ∧ ∃ i H', Inv (blkU X s3 H3 scope ce fp) [] (wipe σ (own.map (·.2))) H' s' ∧ tn i s'.heap ∧ (∀ b ∈ fp, H' b = none) ∧ W i m H' := fun {s' H'} I' nx => by
        obtain ⟨m', hm, w'⟩ := hNx H' nx
        have pin' : ∀ b ∈ fp, ∀ o, s7.heap.get? b = some o → s'.heap.get? b = some o ∧ H' b = none := fun b hb o e =>
          let z := I'.pin (b, o) (List.mem_append_right _ (List.mem_append_right _ (mem_pinsAt hb e)))
          ⟨z.1, z.2.1⟩
        refine ⟨m', hm, i + 1, H', (I'.unpinned (pins := [])).weak (by rw [← hw8, wipe_length]) (fun j v e => by rw [← hw8] at e; exact (wipe_some e).1), T.keep _ _ _ st7 fun b hb o e => (pin' b hb o e).1, fun b hb => ?_, w'⟩
        obtain ⟨o, e, _⟩ := T.obj _ _ st7 b hb
        exact (pin' b hb o e).2
      cases b with
      | false =>
        simp only [Bool.false_eq_true, if_false] at q9 ⊢
        exact fin I9 q9
      | true =>
        simp only [if_true] at q9 ⊢
        refine thnF (pe.run _ s9 σ8 H9 _ I9 q9) fun z s10 ⟨yv, H10, I10, r10, acc, hD10, hz10, nx⟩ => ?_
        exact app_ok (X := blkU X s3 H3 scope ce fp) I10 hD10 hz10 r10 fun s11 I11 => fin I11 nx
  exact codeAny_compStart_list loop (T.self X.A 0 _ _ _ st4 loop)
theorem pe_lcU {elt tg iter : Expr} {ifs : List Expr} {scope : Scope} {own : List (Str × Nat)} {pos : Pos} {wi : TI} {g : TG} {tt : TT} {te : TE} (hc : Warm X) (hN : X.N.Nodup) (hi : PIU X tg iter wi) (ok : BlkOk X.N X.env.scope scope own)
    (hg : ∀ (s : Shared) (H : Hp) (C : Addr) (cl : List (Str × Addr)) (fp : List Addr), PG (blkU X s H scope (compEnvC scope cl C X.env) fp) tg g) (ht : ∀ (s : Shared) (H : Hp) (C : Addr) (cl : List (Str × Addr)) (fp : List Addr), PTs (blkU X s H scope (compEnvC scope cl C X.env) fp) ifs tt)
    (he : ∀ (s : Shared) (H : Hp) (C : Addr) (cl : List (Str × Addr)) (fp : List Addr), PE (blkU X s H scope (compEnvC scope cl C X.env) fp) elt te) (hs : ∀ x, foldedSetIterable iter X.env x = pure x := by intro _; rfl) :
    PE X (.ListComp elt [⟨tg, iter, ifs, 0⟩] scope pos) (tLc wi g tt te (own.map (·.2))) := by
  refine ⟨fun pins s σ H Q I h => ?_⟩
  rw [eval_ListComp]
  refine lcU_core hc hN I hi ok hg ht he hs h fun D C s' m H' I' q hn f => ⟨m, hn, fun h'' sb => ?_⟩
  obtain ⟨f0, f1, f2, f3, f4, f5⟩ := f
  exact ⟨.ref D, H', I'.turned (t' := s'.toks) (fun b o hb e => (sb.2 b hb).trans e) f0 f1 f3 f4 f5, rfl, q⟩
theorem ps_setLcU {i : Nat} {y : Str} {py : Pos} {elt tg iter : Expr} {ifs : List Expr} {scope : Scope} {own : List (Str × Nat)} {pos spos : Pos} {wi : TI} {g : TG} {tt : TT} {te : TE} (hc : Warm X) (hN : X.N.Nodup) (hy : X.N[i]? = some y) (hyl : X.env.scope.names.lookup y = some .local)
    (hsw : swapsWith (.ListComp elt [⟨tg, iter, ifs, 0⟩] scope pos) (some (.Name y py)) spos.line X.env = pure true) (hi : PIU X tg iter wi) (ok : BlkOk X.N X.env.scope scope own)
    (hg : ∀ (s : Shared) (H : Hp) (C : Addr) (cl : List (Str × Addr)) (fp : List Addr), PG (blkU X s H scope (compEnvC scope cl C X.env) fp) tg g) (ht : ∀ (s : Shared) (H : Hp) (C : Addr) (cl : List (Str × Addr)) (fp : List Addr), PTs (blkU X s H scope (compEnvC scope cl C X.env) fp) ifs tt)
    (he : ∀ (s : Shared) (H : Hp) (C : Addr) (cl : List (Str × Addr)) (fp : List Addr), PE (blkU X s H scope (compEnvC scope cl C X.env) fp) elt te) (hs : ∀ x, foldedSetIterable iter X.env x = pure x := by intro _; rfl) :
    PS X (.Assign [.Name y py] (.ListComp elt [⟨tg, iter, ifs, 0⟩] scope pos) spos) (tAsg (tLc wi g tt te (own.map (·.2))) (gName i)) := by
  refine ⟨fun pins s σ H D I h => ?_⟩
  rw [exec_Assign_Name_used _ _ _ _ hsw]
  refine wpAny_bind (wpAny_standAt (wpAny_bind ?_))
  show wpAny _ X.A (do let _ ← comprehension (.ListComp elt [⟨tg, iter, ifs, 0⟩] scope pos) scope X.env (firstIterPos [⟨tg, iter, ifs, 0⟩] pos) (newList []) false (eval iter X.env) (some (assign (.Name y py) X.env))) _ _ s
  have h : tLc wi g tt te (own.map (·.2)) σ H (fun x H1 => gName i x σ H1 D.nx) := h
  refine wpAny_bind (thn (lcU_core (Qf := fun _ s' => SP X pins D .next s') hc hN I hi ok hg ht he hs h fun L C s' m H' I' q hn f => ?_) fun _ s' hq => wpAny_pure (wpAny_pure hq))
  show wpAny _ _ (assign (.Name y py) X.env (.ref L)) _ _ _
  refine wpAny_assign_Name (store_ok2 (v := V.ref L) I' hN hy (.inl hyl) rfl (fun s2 I2 ⟨a, sb, ha⟩ => ?_) (.inr hyl))
  obtain ⟨f0, f1, f2, f3, f4, f5⟩ := f
  have haC : C ≠ a := by
    rcases ha with z | z
    · rw [z]; exact f1
    · exact fun e => f4 y a z e.symm
  refine ⟨m, hn.sameBut sb haC, fun h3 sb3 => ?_⟩
  exact ⟨_, H', I2.turned (t' := s2.toks) (fun b o hb e => (sb3.2 b hb).trans e) f0 f1 f3 f4 f5, q⟩
end
/-! ### defs -/
structure PinsOk (outer : List Env) (H : Hp) (s : Shared) (pl : List (Addr × Obj)) : Prop where
  all : ∀ p ∈ pl, L2H.PinOk outer H s p
/-- c: only where nothing is handled -/
def WarmA (c : Bool) (A : Around) (pl : List (Addr × Obj)) : Prop := A.handled = none ∨ (c = false ∧ ∃ p ∈ pl, L2H.Hot1 A p)
structure FnU (P : Program) (w : World) (K : PySem.W.Frag) (mg : Str → Option Value) (base : Heap) (c : Bool) (CX : CXT) (k : Nat) (f : Addr) (fd : FuncData) (ps : List Str) (sp : Sp) : Prop where
  len : ∀ vs H Q E, sp vs H Q E → vs.length = ps.length
  run : ∀ (A : Around) (outer : List Env) (s : Shared) (H : Hp) (args : Args) (us : List Value) (vs : List V) (Q : VK) (E : XK) (pl : List (Addr × Obj)), L2H.RoomH k A → WarmA c A pl → PinsOk outer H s pl → Env0 P w K mg base A outer s H → BindsTo s fd args (ps.zip us) → Vals vs us → sp vs H Q E →
    codeAny (model P w) A (.call (.ref f) args) (CR CX outer P w H s Q E) s
theorem FnU.fn {P : Program} {w : World} {K : PySem.W.Frag} {mg : Str → Option Value} {base : Heap} {c : Bool} {CX : CXT} {k : Nat} {f : Addr} {fd : FuncData} {ps : List Str} {sp : Sp} (F : FnU P w K mg base c CX k f fd ps sp) : FnOk P w K mg base CX k f fd ps sp :=
  ⟨F.len, fun A outer s H args us vs Q E hr e0 hb r h => F.run A outer s H args us vs Q E [] ⟨hr.dp, hr.un⟩ (.inl hr.hd) ⟨fun p hp => absurd hp (by simp)⟩ e0 hb r h⟩
def cxU (c : Bool) (CX : CXT) (P : Program) (w : World) (K : PySem.W.Frag) (mg : Str → Option Value) (base : Heap) (N : List Str) (qual : Str) (scope : Scope) (f : Addr) (cd : Value) (A : Around) (outer : List Env) (s : Shared) (H : Hp) (E : XK) (pl : List (Addr × Obj)) : Cx :=
  { cxOf CX P w K mg base N qual scope f cd A outer s H E with calm := c, pn := pl }
section
variable {P : Program} {w : World} {K : PySem.W.Frag} {mg : Str → Option Value} {base : Heap} {x qual : Str} {params : Arguments} {body : List Stmt} {scope : Scope} {dvs : List V} {kws : List (Str × V)} {f : Addr} {fd : FuncData}
theorem inv_startU {c : Bool} {CX : CXT} {N ps : List Str} {cd : Value} {A : Around} {outer : List Env} {s s1 : Shared} {H : Hp} {E : XK} {us : List Value} {vs : List V} {pl : List (Addr × Obj)}
    (S : FnScope N ps scope) (hd : c = true → A.handled = none) (hpin : PinsOk outer H s pl) (e0 : Env0 P w K mg base A outer s H) (hl : vs.length = ps.length) (r : Vals vs us)
    (x : InCallC s s.heap.objs.size (bindL (envOfC qual scope s.heap.objs.size f cd).kindOf (ps.zip us) fun _ => none) (cellsFrom (s.heap.objs.size + 1) scope.names []) (bindC (envOfC qual scope s.heap.objs.size f cd).kindOf (ps.zip us) fun _ => none) s1) :
    Inv (cxU c CX P w K mg base N qual scope f cd A outer s H E pl) [] (L2.start N vs) H s1 := by
  -- through the calm context of an unhandled surrounding
  have e0' : Env0 P w K mg base { A with handled := none } outer s H := ⟨e0.frames, e0.mod, e0.bs, e0.bsz, e0.funs, e0.frf, e0.hok, e0.bare⟩
  have J := inv_start (CX := CX) (E := E) (cd := cd) (f := f) (qual := qual) (A := { A with handled := none }) S rfl e0' hl r x
  have o := J.ok
  obtain ⟨h1, tk, es, hk⟩ := x.done
  refine ⟨⟨o.mod, o.kind, o.glob, o.blt, o.above, o.inj, o.has, o.cab, hd, Around.frames_deeper e0.frames, o.stk, o.exf, o.bs, o.bsz, o.noex, o.exfs, o.funs, o.frf⟩, J.os, J.bare, J.base, J.loc, J.cell, J.free, J.freeC, fun q hq => ?_, J.hok, J.len⟩
  have hq' : q ∈ pl := by simpa using (show q ∈ pl ++ [] from hq)
  have pq := hpin.all q hq'
  refine ⟨?_, pq.free, Nat.ne_of_lt (Heap.lt_size pq.get), pq.nofs, pq.nocell⟩
  rw [es]
  exact hk _ _ pq.get
theorem okU {c : Bool} {CX : CXT} {N ps : List Str} {k : Nat} {sp : Sp} (F : FunD K x qual params body scope dvs kws f fd) (S : FnScope N ps scope) (len : ∀ vs H Q E, sp vs H Q E → vs.length = ps.length)
    (hbody : ∀ (cdv : Value) (A : Around) (outer : List Env) (s : Shared) (H : Hp) (vs : List V) (Q : VK) (E : XK) (pl : List (Addr × Obj)), L2H.RoomH k (A.deeper (envOfC qual scope s.heap.objs.size f cdv)) → (c = true → A.handled = none) → Warm (cxU c CX P w K mg base N qual scope f cdv A outer s H E pl) → sp vs H Q E →
      ∃ t, PSs (cxU c CX P w K mg base N qual scope f cdv A outer s H E pl) body t ∧ t { nx := fun _ H' => Q .non H', rt := Q } (start N vs) H) : FnU P w K mg base c CX (k + 1) f fd ps sp := by
  obtain ⟨oc, od, dV, kV, doc, pm, an, cdv, ct, osl, rfl, lk, hcd, _, _⟩ := F.ex
  refine ⟨len, fun A outer s H args us vs Q E pl hr hot hpin e0 hb r hsp => ?_⟩
  have hl := len _ _ _ _ hsp
  have KX : K.In s.heap := e0.mod.kin.keeps fun b o e => (e0.bs b o e).1
  have lim : s.heap.NoLimit := e0.mod.nolimit.keeps fun b o e => (e0.bs b o e).1
  have hkind : ∀ y ∈ ps.zip us, scope.names.lookup y.1 = some .local ∨ (scope.names.lookup y.1 = some .cell ∧ ((cellsFrom (s.heap.objs.size + 1) scope.names []).lookup y.1).isSome = true) := fun ⟨n, v⟩ hy => by
    rcases S.par n (List.of_mem_zip hy).1 with q | q
    · exact .inl q
    · exact .inr ⟨q, PySem.W.cellsFrom_some _ _ _ (.inl q)⟩
  refine codeAny_call_function hr.depth (KX _ _ lk) rfl S.co S.gen rfl (PySem.W.codeRec_of KX hcd) (hb _ _ _ _ ?_)
  refine wpAny_newFunctionEnv_cells S.kind hkind fun env he s1 xi => ?_
  subst he
  refine ⟨lim.keeps xi.toInCall.keep, codeAny_func ?_⟩
  have hh : c = true → A.handled = none := fun hc => hot.elim id fun z => absurd (z.1.symm.trans hc) (by decide)
  have wm : Warm (cxU c CX P w K mg base N qual scope f cdv A outer s H E pl) := hot.elim .inl fun z => .inr (let ⟨p, hp, h1⟩ := z.2; ⟨p, h1, hp⟩)
  obtain ⟨t, ht, hq⟩ := hbody cdv A outer s H vs Q E pl (hr.deeper _) hh wm hsp
  have I : Inv (cxU c CX P w K mg base N qual scope f cdv A outer s H E pl) [] (L2.start N vs) H s1 := inv_startU S hh hpin e0 hl r xi
  refine wpAny_mono (ht.run [] s1 (L2.start N vs) H _ I hq) (fun fl s' hs => ?_) fun e s' hs => hs
  have fin : ∀ {σ' : St} {H' : Hp} {v : V} {u : Value}, Inv (cxU c CX P w K mg base N qual scope f cdv A outer s H E pl) [] σ' H' s' → RelV v u → Q v H' → CE outer P w H s Q u s' :=
    fun {σ' H' v u} J rv q => ⟨v, H', J.os, J.bare, J.base, J.hok, rv, q⟩
  cases fl with
  | ret u =>
    obtain ⟨v, σ', H', J, rv, q⟩ := hs
    exact fin J rv q
  | next =>
    obtain ⟨σ', H', J, q⟩ := hs
    exact fin (v := V.non) (u := Value.none) J rfl q
  | brk => exact hs.elim fun _ z => z.elim fun _ z => z.2.elim
  | cont => exact hs.elim fun _ z => z.elim fun _ z => z.2.elim
end
/-! ### calls -/
/-- a def of the module, a method, with what it promises -/
def GF (P : Program) (w : World) (K : PySem.W.Frag) (mg : Str → Option Value) (base : Heap) (c : Bool) (k : Nat) (x : Str) (dvs : List V) (sp : Sp) : Prop :=
  ∃ (f : Addr) (fd : FuncData) (ps : List Str) (ds : List Value), mg x = some (.ref f) ∧ PySem.W.keepIn K (.ref f) = true ∧ Binds K fd ps ds ∧ Vals dvs ds ∧ FnU P w K mg base c CX0 k f fd ps sp
def GM (P : Program) (w : World) (K : PySem.W.Frag) (mg : Str → Option Value) (base : Heap) (c : Bool) (CX : CXT) (k : Nat) (C : Addr) (m : Str) (dvs : List V) (sp : Sp) : Prop :=
  ∃ (f : Addr) (fd : FuncData) (ps : List Str) (ds : List Value), Meth K C m f ∧ Binds K fd ps ds ∧ Vals dvs ds ∧ FnU P w K mg base c CX k f fd ps sp
section
variable {X : Cx} {CX : CXT} {c : Bool} {k : Nat} {f C : Addr} {fd : FuncData} {ps : List Str} {sp : Sp} {dvs : List V} {ds : List Value} {E : St → XK} {x m : Str} {p pos apos : Pos} {e o : Expr} {es : List Expr} {ta : TE} {t : TA}
theorem warm_pins {pins : List (Addr × Obj)} {σ : St} {H : Hp} {s : Shared} (I : Inv X pins σ H s) : PinsOk X.stack H s X.pn :=
  ⟨fun p hp => let z := I.pin p (List.mem_append_left _ hp); ⟨z.1, z.2.1, fun hm => (List.mem_cons.mp (I.stkSub p.1 hm)).elim z.2.2.1 z.2.2.2.1, z.2.2.2.2⟩⟩
theorem warm_a (hw : Warm X) (hcl : c = true → X.A.handled = none) : WarmA c X.A X.pn := by
  rcases hw with h | ⟨p, h1, h2⟩
  · exact .inl h
  · cases c with
    | true => exact .inl (hcl rfl)
    | false => exact .inr ⟨rfl, p, h2, h1⟩
theorem run_fnU {pins : List (Addr × Obj)} {σ : St} {H : Hp} {s : Shared} {Q : VK} {us : List Value} {vs : List V} (F : FnU X.prog X.w X.K X.mg X.base c CX k f fd ps sp) (hr : L2H.RoomH k X.A) (hw : Warm X) (hcl : c = true → X.A.handled = none) (hb : Binds X.K fd ps ds) (hd : Vals dvs ds) (hx : PassesAt CX X σ (E σ))
    (I : Inv X pins σ H s) (r : Vals vs us) (h : sp (vs ++ dvs) H Q (E σ)) : wpAny (model X.prog X.w) X.A (call (.ref f) us) (EP X pins σ Q) X.xe s := by
  have r2 : Vals (vs ++ dvs) (us ++ ds) := r.append hd
  have hl : (us ++ ds).length = ps.length := by rw [← r2.length]; exact F.len _ _ _ _ h
  refine wpAny_call (codeAny_mono (F.run X.A X.stack s H ⟨us, []⟩ (us ++ ds) (vs ++ dvs) Q (E σ) X.pn hr (warm_a hw hcl) (warm_pins I) I.env0 (hb s us I.kIn hl) r2 h) fun r s' hq => ?_)
  cases r with
  | error e => exact hx pins H s e s' I hq
  | ok fl =>
    cases fl with
    | ret u => exact I.after hq
    | next => exact False.elim hq
    | brk => exact False.elim hq
    | cont => exact False.elim hq
/-- the reading of a call that lets nothing out -/
def tCU (sp : Sp) (dvs : List V) (t : TA) : TE := fun σ H Q => t σ H fun vs H1 => sp (vs ++ dvs) H1 Q (fun _ _ _ => False)
def tMU (C : Addr) (m : Str) (sp : Sp) (dvs : List V) (ta : TE) (t : TA) : TE := fun σ H Q => ta σ H fun x H1 => ∃ a dx fs, x = .ref a ∧ H1 a = some (.ins C dx fs) ∧ fs.lookup m = none ∧ t σ H1 fun vs H2 => sp (x :: (vs ++ dvs)) H2 Q (fun _ _ _ => False)
def tMX (C : Addr) (m : Str) (sp : Sp) (E : St → XK) (ta : TE) (t : TA) : TE := fun σ H Q => ta σ H fun x H1 => ∃ a dx fs, x = .ref a ∧ H1 a = some (.ins C dx fs) ∧ fs.lookup m = none ∧ t σ H1 fun vs H2 => sp (x :: vs) H2 Q (E σ)
theorem no_pass (σ : St) : PassesAt CX0 X σ (fun _ _ _ => False) := fun _ _ _ _ _ _ h => h.elim
theorem pe_cu (G : GF X.prog X.w X.K X.mg X.base c k x dvs sp) (hr : L2H.RoomH k X.A) (hw : Warm X) (hcl : c = true → X.A.handled = none) (hg : Gl X x) (ha : PA X (e :: es) t)
    (hdb : (x == ("__debug__" : Str)) = false := by decide) (he : starEach (e :: es) X.env = (false, eval e X.env) :: starEach es X.env := by rfl) (hpl : (backTo pos (starEach es X.env)).any (·.1) = false := by rfl) :
    PE X (.Call (.Name x p) (e :: es) [] pos) (tCU sp dvs t) := by
  obtain ⟨f, fd, ps, ds, hm, hk, hb, hd, F⟩ := G
  refine ⟨fun pins s σ H Q I h => ?_⟩
  refine wpAny_Call_Name_kw (ld_glob I hg hm ?_ hdb)
  refine PySem.W.callWith_K (h₀ := X.base) I.ok.mod.kin hk (thn (ha.run pos pins s σ H _ I h) fun us s1 ⟨vs, H1, I1, r, q⟩ => ⟨I1.kIn, ?_⟩) he hpl
  exact run_fnU (E := fun _ _ _ _ => False) F hr hw hcl hb hd (no_pass σ) I1 r q
theorem pe_mx {pl : Sem Bool} (he : PE X o ta) (cc : Cls X.K C) (G : GM X.prog X.w X.K X.mg X.base c CX k C m [] sp) (hr : L2H.RoomH k X.A) (hw : Warm X) (hcl : c = true → X.A.handled = none) (hx : ∀ σ, PassesAt CX X σ (E σ)) (ha : PA X (e :: es) t)
    (hst : starEach (e :: es) X.env = (false, eval e X.env) :: starEach es X.env := by rfl) (hpl : (backTo pos (starEach es X.env)).any (·.1) = false := by rfl)
    (ht : eval (.Call (.Attribute o m apos) (e :: es) [] pos) X.env = (do
      let ov ← eval o X.env
      standAt apos.atName
      let (f, first) ← holding [ov] (getMethod ov m pl)
      callWith pos f first (backTo pos (starEach (e :: es) X.env)) (backToKw pos (keywordEach [] X.env))) := by rfl) :
    PE X (.Call (.Attribute o m apos) (e :: es) [] pos) (tMX C m sp E ta t) := by
  obtain ⟨f, fd, ps, ds, hm, hb, hd, F⟩ := G
  refine ⟨fun pins s σ H Q I h => ?_⟩
  refine PySem.W.methodCall_KW (pl := pl) (thn (he.run pins s σ H _ I h) fun u s1 ⟨x, H1, I1, rx, a, dx, fs, ex, ea, l, q⟩ => ?_) ht
  subst ex
  obtain rfl : u = Value.ref a := rx
  refine getmeth_ok I1 ea cc hm l ?_
  refine PySem.W.callWith_K (first := [.ref a]) (h₀ := X.base) I.ok.mod.kin hm.kp (thn (ha.run pos pins s1 σ H1 _ I1 q) fun us s2 ⟨vs, H2, I2, r, q2⟩ => ⟨I2.kIn, ?_⟩) hst hpl
  exact run_fnU (us := .ref a :: us) (vs := .ref a :: vs) F hr hw hcl hb hd (hx σ) I2 (.cons rfl r) (by rw [List.append_nil]; exact q2)
theorem pe_mu {pl : Sem Bool} (he : PE X o ta) (cc : Cls X.K C) (G : GM X.prog X.w X.K X.mg X.base c CX0 k C m dvs sp) (hr : L2H.RoomH k X.A) (hw : Warm X) (hcl : c = true → X.A.handled = none) (ha : PA X (e :: es) t)
    (hst : starEach (e :: es) X.env = (false, eval e X.env) :: starEach es X.env := by rfl) (hpl : (backTo pos (starEach es X.env)).any (·.1) = false := by rfl)
    (ht : eval (.Call (.Attribute o m apos) (e :: es) [] pos) X.env = (do
      let ov ← eval o X.env
      standAt apos.atName
      let (f, first) ← holding [ov] (getMethod ov m pl)
      callWith pos f first (backTo pos (starEach (e :: es) X.env)) (backToKw pos (keywordEach [] X.env))) := by rfl) :
    PE X (.Call (.Attribute o m apos) (e :: es) [] pos) (tMU C m sp dvs ta t) := by
  obtain ⟨f, fd, ps, ds, hm, hb, hd, F⟩ := G
  refine ⟨fun pins s σ H Q I h => ?_⟩
  refine PySem.W.methodCall_KW (pl := pl) (thn (he.run pins s σ H _ I h) fun u s1 ⟨x, H1, I1, rx, a, dx, fs, ex, ea, l, q⟩ => ?_) ht
  subst ex
  obtain rfl : u = Value.ref a := rx
  refine getmeth_ok I1 ea cc hm l ?_
  refine PySem.W.callWith_K (first := [.ref a]) (h₀ := X.base) I.ok.mod.kin hm.kp (thn (ha.run pos pins s1 σ H1 _ I1 q) fun us s2 ⟨vs, H2, I2, r, q2⟩ => ⟨I2.kIn, ?_⟩) hst hpl
  exact run_fnU (E := fun _ _ _ _ => False) (us := .ref a :: us) (vs := .ref a :: vs) F hr hw hcl hb hd (no_pass σ) I2 (.cons rfl r) q2
theorem pe_mu0 {pl : Sem Bool} (he : PE X o ta) (cc : Cls X.K C) (G : GM X.prog X.w X.K X.mg X.base c CX0 k C m dvs sp) (hr : L2H.RoomH k X.A) (hw : Warm X) (hcl : c = true → X.A.handled = none)
    (ht : eval (.Call (.Attribute o m apos) [] [] pos) X.env = (do
      let ov ← eval o X.env
      standAt apos.atName
      let (f, first) ← holding [ov] (getMethod ov m pl)
      callWith pos f first (backTo pos (starEach [] X.env)) (backToKw pos (keywordEach [] X.env))) := by rfl) :
    PE X (.Call (.Attribute o m apos) [] [] pos) (tMU C m sp dvs ta tNil) := by
  obtain ⟨f, fd, ps, ds, hm, hb, hd, F⟩ := G
  refine ⟨fun pins s σ H Q I h => ?_⟩
  refine PySem.W.methodCall_KW (pl := pl) (thn (he.run pins s σ H _ I h) fun u s1 ⟨x, H1, I1, rx, a, dx, fs, ex, ea, l, q⟩ => ?_) ht
  subst ex
  obtain rfl : u = Value.ref a := rx
  refine getmeth_ok I1 ea cc hm l ?_
  exact PySem.W.callWith_K0 (first := [.ref a]) I1.kIn hm.kp (run_fnU (E := fun _ _ _ _ => False) (us := [.ref a]) (vs := [.ref a]) F hr hw hcl hb hd (no_pass σ) I1 (.cons rfl .nil) q)
end
end NbU
end
section
set_option linter.all false
/-! The plain model: nights, chances, the walk along the line. No program in sight. -/
namespace NbM
section
variable {α : Type} [DecidableEq α] {β : Type}
def getE (l : List (α × β)) (k : α) : Option β := (l.find? fun p => decide (p.1 = k)).map (·.2)
def putE (l : List (α × β)) (k : α) (v : β) : List (α × β) := if (l.any fun p => decide (p.1 = k)) = true then l.map fun p => if p.1 = k then (p.1, v) else p else l ++ [(k, v)]
def dropE (l : List (α × β)) (k : α) : List (α × β) := l.filter fun p => decide (p.1 ≠ k)
end
inductive Word | waits | taken | house
  deriving DecidableEq
structure Ent where
  word : Word
  kind : Int
  first : Int
  behind : Int
  ch : Int × Int
  deriving DecidableEq
structure Stay where
  first : Int
  behind : Int
  kind : Int
  ch : Int × Int
  deriving DecidableEq
def stayOf (e : Ent) : Stay := ⟨e.first, e.behind, e.kind, if e.word = .house then (1, 1) else e.ch⟩
def counted {α : Type} (es : List (α × Ent)) : List Stay := (es.filter fun p => decide (p.2.word ≠ .waits)).map fun p => stayOf p.2
def ChOk (c : Int × Int) : Prop := 0 ≤ c.1 ∧ c.1 ≤ c.2 ∧ 1 ≤ c.2 ∧ c.2 ≤ 100
/-! ### the table of chances -/
def wid (t : List Int) (c : Int × Int) : List Int := List.zipWith (· + ·) (t.map (· * (c.2 - c.1)) ++ [0]) (0 :: t.map (· * c.1))
def topsGo (s : List Int × Int) (rows : List (Int × Int)) : List Int × Int := rows.foldl (fun s c => (wid s.1 c, s.2 * c.2)) s
def topsOf (rows : List (Int × Int)) : List Int × Int := topsGo ([1], 1) rows
def ratioOf (a b : Int) : Int × Int := (a / (Int.gcd a b : Int), b / (Int.gcd a b : Int))
def rowsAt (stays : List Stay) (n k : Int) : List (Int × Int) := (stays.filter fun s => decide (s.first ≤ n) && decide (n < s.behind) && decide (k ≤ s.kind)).map (·.ch)
def roomsFrom (ladder : List Int) (k : Int) : Int := (ladder.drop (k - 1).toNat).sum
def chanceAt (stays : List Stay) (n k : Int) (ladder : List Int) : Int × Int :=
  ratioOf ((topsOf (rowsAt stays n k)).1.drop (roomsFrom ladder k + 1).toNat).sum (topsOf (rowsAt stays n k)).2
def underB (one other : Int × Int) : Bool := decide (one.1 * other.2 < other.1 * one.2)
/-- the first nights within the new stay, in order -/
def begun (stays : List Stay) (new : Stay) : List Int :=
  ((List.range 400).map fun i : Nat => (i : Int)).filter fun n => decide (n = new.first) || stays.any fun s => decide (s.first = n) && decide (new.first ≤ n) && decide (n < new.behind)
def kindsTo (k : Int) : List Int := (List.range k.toNat).map fun i : Nat => (i : Int) + 1
def tightAt (every : List Stay) (ladder : List Int) (risk : Int × Int) (n : Int) (ks : List Int) : Option (Int × Int × (Int × Int)) :=
  ks.findSome? fun k => if underB risk (chanceAt every n k ladder) = true then some (n, k, chanceAt every n k ladder) else none
def tight (stays : List Stay) (new : Stay) (ladder : List Int) (risk : Int × Int) : Option (Int × Int × (Int × Int)) :=
  (begun stays new).findSome? fun n => tightAt (stays ++ [new]) ladder risk n (kindsTo new.kind)
/-! ### sums of tails -/
def tl (t : List Int) (r : Nat) : Int := (t.drop r).sum
def tl' (t : List Int) : Nat → Int
  | 0 => tl t 0
  | r + 1 => tl t r
theorem sum_zip : ∀ (u v : List Int), u.length = v.length → (List.zipWith (· + ·) u v).sum = u.sum + v.sum
  | [], [], _ => rfl
  | [], _ :: _, h => by simp at h
  | _ :: _, [], h => by simp at h
  | a :: u, b :: v, h => by
    have ih := sum_zip u v (by simpa using h)
    simp only [List.zipWith_cons_cons, List.sum_cons, ih]
    omega
theorem sum_map_mul (c : Int) : ∀ t : List Int, (t.map (· * c)).sum = t.sum * c
  | [] => by simp
  | a :: t => by simp only [List.map_cons, List.sum_cons, sum_map_mul c t, Int.add_mul]
theorem sum_app (u v : List Int) : (u ++ v).sum = u.sum + v.sum := by simp
theorem tl_map (c : Int) (t : List Int) (r : Nat) : ((t.map (· * c)).drop r).sum = tl t r * c := by
  rw [← List.map_drop, sum_map_mul]
  rfl
theorem tl_map0 (c : Int) (t : List Int) (r : Nat) : ((t.map (· * c) ++ [0]).drop r).sum = tl t r * c := by
  by_cases h : r ≤ (t.map (· * c)).length
  · rw [List.drop_append_of_le_length h, sum_app, tl_map]
    simp
  · have e1 : (t.map (· * c) ++ [0]).drop r = [] := List.drop_eq_nil_of_le (by simp at h ⊢; omega)
    have e2 : t.drop r = [] := List.drop_eq_nil_of_le (by simp at h; omega)
    unfold tl
    rw [e1, e2]
    simp
theorem tl_cons (c : Int) (t : List Int) : ∀ r : Nat, ((0 :: t.map (· * c)).drop r).sum = tl' t r * c
  | 0 => by
    show (0 :: t.map (· * c)).sum = tl t 0 * c
    rw [List.sum_cons, sum_map_mul]
    unfold tl
    simp
  | r + 1 => by
    show ((t.map (· * c)).drop r).sum = tl t r * c
    exact tl_map c t r
theorem tl_wid (t : List Int) (c : Int × Int) (r : Nat) : tl (wid t c) r = tl t r * (c.2 - c.1) + tl' t r * c.1 := by
  unfold wid
  rw [show tl (List.zipWith (· + ·) (t.map (· * (c.2 - c.1)) ++ [0]) (0 :: t.map (· * c.1))) r = ((List.zipWith (· + ·) (t.map (· * (c.2 - c.1)) ++ [0]) (0 :: t.map (· * c.1))).drop r).sum from rfl]
  rw [List.drop_zipWith, sum_zip _ _ (by simp), tl_map0, tl_cons]
def Nn (t : List Int) : Prop := ∀ x ∈ t, 0 ≤ x
theorem sum_nn : ∀ {t : List Int}, Nn t → 0 ≤ t.sum
  | [], _ => by simp
  | a :: t, h => by
    have h1 := h a List.mem_cons_self
    have h2 := sum_nn (t := t) fun x hx => h x (List.mem_cons_of_mem _ hx)
    rw [List.sum_cons]
    omega
theorem tl_nn {t : List Int} (h : Nn t) (r : Nat) : 0 ≤ tl t r := sum_nn fun x hx => h x (List.mem_of_mem_drop hx)
theorem tl_le : ∀ {t : List Int}, Nn t → ∀ r, tl t (r + 1) ≤ tl t r
  | [], _, r => by simp [tl]
  | a :: t, h, 0 => by
    have h1 := h a List.mem_cons_self
    show t.sum ≤ (a :: t).sum
    rw [List.sum_cons]
    omega
  | a :: t, h, r + 1 => tl_le (t := t) (fun x hx => h x (List.mem_cons_of_mem _ hx)) r
theorem tl_le' {t : List Int} (h : Nn t) : ∀ r, tl t r ≤ tl' t r
  | 0 => Int.le_refl _
  | r + 1 => tl_le h r
theorem tl'_nn {t : List Int} (h : Nn t) : ∀ r, 0 ≤ tl' t r
  | 0 => tl_nn h 0
  | r + 1 => tl_nn h r
theorem nn_wid {t : List Int} {c : Int × Int} (h : Nn t) (h0 : 0 ≤ c.1) (h1 : c.1 ≤ c.2) : Nn (wid t c) := fun x hx => by
  unfold wid at hx
  obtain ⟨i, hi, e⟩ := List.getElem_of_mem hx
  rw [List.getElem_zipWith] at e
  have a : ∀ y ∈ t.map (· * (c.2 - c.1)) ++ [0], 0 ≤ y := fun y hy => by
    rcases List.mem_append.mp hy with hy | hy
    · obtain ⟨z, hz, e⟩ := List.mem_map.mp hy
      rw [← e]
      exact Int.mul_nonneg (h z hz) (by omega)
    · rw [List.mem_singleton.mp hy]
      exact Int.le_refl _
  have b : ∀ y ∈ 0 :: t.map (· * c.1), 0 ≤ y := fun y hy => by
    rcases List.mem_cons.mp hy with hy | hy
    · rw [hy]
      exact Int.le_refl _
    · obtain ⟨z, hz, e⟩ := List.mem_map.mp hy
      rw [← e]
      exact Int.mul_nonneg (h z hz) h0
  rw [← e]
  exact Int.add_nonneg (a _ (List.getElem_mem _)) (b _ (List.getElem_mem _))
/-! ### more rows, greater chances: the tables grow -/
structure Tab (s : List Int × Int) : Prop where
  nn : Nn s.1
  pos : 0 < s.2
def Le (s s' : List Int × Int) : Prop := ∀ r, tl s.1 r * s'.2 ≤ tl s'.1 r * s.2
theorem Le.up {s s' : List Int × Int} (h : Le s s') : ∀ r, tl' s.1 r * s'.2 ≤ tl' s'.1 r * s.2
  | 0 => h 0
  | r + 1 => h r
def step (s : List Int × Int) (c : Int × Int) : List Int × Int := (wid s.1 c, s.2 * c.2)
structure Row (c : Int × Int) : Prop where
  nn : 0 ≤ c.1
  le : c.1 ≤ c.2
  pos : 1 ≤ c.2
theorem Tab.step {s : List Int × Int} {c : Int × Int} (h : Tab s) (hc : Row c) : Tab (step s c) :=
  ⟨nn_wid h.nn hc.nn hc.le, Int.mul_pos h.pos (by have := hc.pos; omega)⟩
theorem row_one : Row (1, 1) := ⟨by decide, by decide, by decide⟩
theorem mul4 (x b y : Int) : x * (y * b) = (x * y) * b := (Int.mul_assoc x y b).symm
theorem le_same {s s' : List Int × Int} {c : Int × Int} (hc : Row c) (h : Le s s') : Le (step s c) (step s' c) := fun r => by
  show tl (wid s.1 c) r * (s'.2 * c.2) ≤ tl (wid s'.1 c) r * (s.2 * c.2)
  rw [tl_wid, tl_wid, mul4, mul4]
  have hb : 0 ≤ c.2 := by have := hc.pos; omega
  refine Int.mul_le_mul_of_nonneg_right ?_ hb
  rw [Int.add_mul, Int.add_mul, Int.mul_right_comm, Int.mul_right_comm (tl' s.1 r), Int.mul_right_comm (tl s'.1 r), Int.mul_right_comm (tl' s'.1 r)]
  exact Int.add_le_add (Int.mul_le_mul_of_nonneg_right (h r) (by have := hc.le; omega)) (Int.mul_le_mul_of_nonneg_right (h.up r) hc.nn)
theorem widen_ge {s : List Int × Int} {c : Int × Int} (hs : Tab s) (hc : Row c) (r : Nat) : tl s.1 r * c.2 ≤ tl s.1 r * (c.2 - c.1) + tl' s.1 r * c.1 := by
  have h1 := Int.mul_le_mul_of_nonneg_right (tl_le' hs.nn r) hc.nn
  have h2 : tl s.1 r * (c.2 - c.1) = tl s.1 r * c.2 - tl s.1 r * c.1 := Int.mul_sub ..
  omega
theorem widen_le {s : List Int × Int} {c : Int × Int} (hs : Tab s) (hc : Row c) (r : Nat) : tl s.1 r * (c.2 - c.1) + tl' s.1 r * c.1 ≤ tl' s.1 r * c.2 := by
  have h1 := Int.mul_le_mul_of_nonneg_right (tl_le' hs.nn r) (show 0 ≤ c.2 - c.1 by have := hc.le; omega)
  have h2 : tl' s.1 r * (c.2 - c.1) = tl' s.1 r * c.2 - tl' s.1 r * c.1 := Int.mul_sub ..
  omega
theorem le_add {s s' : List Int × Int} {c : Int × Int} (h0 : Tab s) (hs : Tab s') (hc : Row c) (h : Le s s') : Le s (step s' c) := fun r => by
  show tl s.1 r * (s'.2 * c.2) ≤ tl (wid s'.1 c) r * s.2
  have hb : 0 ≤ c.2 := by have := hc.pos; omega
  rw [tl_wid, ← Int.mul_assoc]
  refine Int.le_trans (Int.mul_le_mul_of_nonneg_right (h r) hb) ?_
  rw [Int.mul_right_comm]
  exact Int.mul_le_mul_of_nonneg_right (widen_ge hs hc r) (Int.le_of_lt h0.pos)
theorem le_raise {s s' : List Int × Int} {c : Int × Int} (hs : Tab s) (hs' : Tab s') (hc : Row c) (h : Le s s') : Le (step s c) (step s' (1, 1)) := fun r => by
  show tl (wid s.1 c) r * (s'.2 * 1) ≤ tl (wid s'.1 (1, 1)) r * (s.2 * c.2)
  have hb : 0 ≤ c.2 := by have := hc.pos; omega
  rw [tl_wid, tl_wid, Int.mul_one, show ((1 : Int), (1 : Int)).2 - ((1 : Int), (1 : Int)).1 = 0 from rfl, Int.mul_zero, Int.zero_add, show ((1 : Int), (1 : Int)).1 = 1 from rfl, Int.mul_one, ← Int.mul_assoc]
  refine Int.le_trans (Int.mul_le_mul_of_nonneg_right (widen_le hs hc r) (Int.le_of_lt hs'.pos)) ?_
  rw [Int.mul_right_comm]
  exact Int.mul_le_mul_of_nonneg_right (h.up r) hb
/-- rows kept, added, raised to certainty -/
inductive RLe : List (Int × Int) → List (Int × Int) → Prop
  | nil : RLe [] []
  | same {c l l'} : RLe l l' → RLe (c :: l) (c :: l')
  | add {c l l'} : RLe l l' → RLe l (c :: l')
  | up {c l l'} : RLe l l' → RLe (c :: l) ((1, 1) :: l')
theorem topsGo_le {l l' : List (Int × Int)} (h : RLe l l') : ∀ {s s' : List Int × Int}, Tab s → Tab s' → (∀ c ∈ l, Row c) → (∀ c ∈ l', Row c) → Le s s' → Le (topsGo s l) (topsGo s' l') ∧ Tab (topsGo s l) ∧ Tab (topsGo s' l') := by
  induction h with
  | nil => exact fun a b _ _ h => ⟨h, a, b⟩
  | same _ ih =>
    intro s s' a b h1 h2 h
    have c1 := h1 _ List.mem_cons_self
    exact ih (a.step c1) (b.step c1) (fun c hc => h1 c (List.mem_cons_of_mem _ hc)) (fun c hc => h2 c (List.mem_cons_of_mem _ hc)) (le_same c1 h)
  | add _ ih =>
    intro s s' a b h1 h2 h
    have c1 := h2 _ List.mem_cons_self
    exact ih a (b.step c1) h1 (fun c hc => h2 c (List.mem_cons_of_mem _ hc)) (le_add a b c1 h)
  | up _ ih =>
    intro s s' a b h1 h2 h
    have c1 := h1 _ List.mem_cons_self
    exact ih (a.step c1) (b.step row_one) (fun c hc => h1 c (List.mem_cons_of_mem _ hc)) (fun c hc => h2 c (List.mem_cons_of_mem _ hc)) (le_raise a b c1 h)
theorem tab_one : Tab ([1], 1) := ⟨fun x hx => by rw [List.mem_singleton.mp hx]; decide, by decide⟩
theorem topsOf_le {l l' : List (Int × Int)} (h : RLe l l') (h1 : ∀ c ∈ l, Row c) (h2 : ∀ c ∈ l', Row c) : Le (topsOf l) (topsOf l') ∧ Tab (topsOf l) ∧ Tab (topsOf l') :=
  topsGo_le h tab_one tab_one h1 h2 fun _ => Int.le_refl _
theorem topsOf_tab {l : List (Int × Int)} (h1 : ∀ c ∈ l, Row c) : Tab (topsOf l) := by
  have : ∀ (l : List (Int × Int)) (s : List Int × Int), Tab s → (∀ c ∈ l, Row c) → Tab (topsGo s l) := by
    intro l
    induction l with
    | nil => exact fun s h _ => h
    | cons c l ih => exact fun s h hc => ih _ (h.step (hc c List.mem_cons_self)) fun c' h' => hc c' (List.mem_cons_of_mem _ h')
  exact this l _ tab_one h1
/-! ### the ratio -/
theorem under_ratio {risk : Int × Int} {S B : Int} (hB : 0 < B) : underB risk (ratioOf S B) = decide (risk.1 * B < S * risk.2) := by
  have hg : 0 < (Int.gcd S B : Int) := by
    have : 0 < Int.gcd S B := Int.gcd_pos_of_ne_zero_right _ (by omega)
    omega
  obtain ⟨p, hp⟩ := Int.gcd_dvd_left (a := S) (b := B)
  obtain ⟨q, hq⟩ := Int.gcd_dvd_right (a := S) (b := B)
  unfold underB ratioOf
  generalize (Int.gcd S B : Int) = g at hg hp hq
  subst hp hq
  rw [show (g * p / g, g * q / g).1 = g * p / g from rfl, show (g * p / g, g * q / g).2 = g * q / g from rfl, Int.mul_ediv_cancel_left _ (by omega), Int.mul_ediv_cancel_left _ (by omega)]
  have e1 : risk.1 * (g * q) = g * (risk.1 * q) := by rw [Int.mul_left_comm]
  have e2 : g * p * risk.2 = g * (p * risk.2) := by rw [Int.mul_assoc]
  rw [e1, e2]
  refine decide_eq_decide.mpr ⟨fun h => Int.mul_lt_mul_of_pos_left h hg, fun h => Int.lt_of_mul_lt_mul_left h (Int.le_of_lt hg)⟩
theorem under_mono {risk : Int × Int} {S B S' B' : Int} (hr : 0 ≤ risk.2) (hB : 0 < B) (hB' : 0 < B') (h : S * B' ≤ S' * B) (u : underB risk (ratioOf S B) = true) : underB risk (ratioOf S' B') = true := by
  rw [under_ratio hB] at u
  rw [under_ratio hB']
  have u := of_decide_eq_true u
  refine decide_eq_true ?_
  have h1 : risk.1 * B * B' < S * risk.2 * B' := Int.mul_lt_mul_of_pos_right u hB'
  have h2 : S * B' * risk.2 ≤ S' * B * risk.2 := Int.mul_le_mul_of_nonneg_right h hr
  have e1 : risk.1 * B * B' = risk.1 * B' * B := Int.mul_right_comm ..
  have e2 : S * risk.2 * B' = S * B' * risk.2 := Int.mul_right_comm ..
  have e3 : S' * B * risk.2 = S' * risk.2 * B := Int.mul_right_comm ..
  have h3 : risk.1 * B' * B < S' * risk.2 * B := by omega
  exact Int.lt_of_mul_lt_mul_right h3 (Int.le_of_lt hB)
/-! ### stays -/
structure StayOk (s : Stay) : Prop where
  f0 : 0 ≤ s.first
  f1 : s.first < 400
  ch : ChOk s.ch
theorem ChOk.row {c : Int × Int} (h : ChOk c) : Row c := ⟨h.1, h.2.1, h.2.2.1⟩
inductive Dom : List Stay → List Stay → Prop
  | nil : Dom [] []
  | same {s l l'} : Dom l l' → Dom (s :: l) (s :: l')
  | add {s l l'} : Dom l l' → Dom l (s :: l')
  | up {s l l'} : Dom l l' → Dom (s :: l) ({ s with ch := (1, 1) } :: l')
theorem Dom.refl : ∀ l : List Stay, Dom l l
  | [] => .nil
  | _ :: l => .same (Dom.refl l)
theorem Dom.snoc {l l' : List Stay} (h : Dom l l') (s : Stay) : Dom (l ++ [s]) (l' ++ [s]) := by
  induction h with
  | nil => exact .same .nil
  | same _ ih => exact .same ih
  | add _ ih => exact .add ih
  | up _ ih => exact .up ih
theorem Dom.rows {l l' : List Stay} (h : Dom l l') (n k : Int) : RLe (rowsAt l n k) (rowsAt l' n k) := by
  have cons : ∀ (s : Stay) (l : List Stay), rowsAt (s :: l) n k = if (decide (s.first ≤ n) && decide (n < s.behind) && decide (k ≤ s.kind)) = true then s.ch :: rowsAt l n k else rowsAt l n k := fun s l => by
    unfold rowsAt
    rw [List.filter_cons]
    split
    · rw [List.map_cons]
    · rfl
  induction h with
  | nil => exact .nil
  | @same s l l' _ ih =>
    rw [cons, cons]
    split
    · exact .same ih
    · exact ih
  | @add s l l' _ ih =>
    rw [cons]
    split
    · exact .add ih
    · exact ih
  | @up s l l' _ ih =>
    rw [cons, cons]
    show RLe (if (decide (s.first ≤ n) && decide (n < s.behind) && decide (k ≤ s.kind)) = true then s.ch :: rowsAt l n k else rowsAt l n k) (if (decide (s.first ≤ n) && decide (n < s.behind) && decide (k ≤ s.kind)) = true then (1, 1) :: rowsAt l' n k else rowsAt l' n k)
    split
    · exact .up ih
    · exact ih
theorem rows_ok {l : List Stay} (h : ∀ s ∈ l, StayOk s) (n k : Int) : ∀ c ∈ rowsAt l n k, Row c := fun c hc => by
  unfold rowsAt at hc
  obtain ⟨s, hs, e⟩ := List.mem_map.mp hc
  rw [← e]
  exact (h s (List.mem_filter.mp hs).1).ch.row
theorem chance_mono {l l' : List Stay} {n k : Int} {ladder : List Int} {risk : Int × Int} (hr : 0 ≤ risk.2) (h : Dom l l') (h1 : ∀ s ∈ l, StayOk s) (h2 : ∀ s ∈ l', StayOk s) (u : underB risk (chanceAt l n k ladder) = true) :
    underB risk (chanceAt l' n k ladder) = true := by
  obtain ⟨a, b, c⟩ := topsOf_le (h.rows n k) (rows_ok h1 n k) (rows_ok h2 n k)
  exact under_mono hr b.pos c.pos (a _) u
theorem begun_mem {l : List Stay} {s : Stay} {n : Int} : n ∈ begun l s ↔ (0 ≤ n ∧ n < 400) ∧ (n = s.first ∨ ∃ x ∈ l, x.first = n ∧ s.first ≤ n ∧ n < s.behind) := by
  unfold begun
  rw [List.mem_filter, List.mem_map]
  simp only [List.mem_range, Bool.or_eq_true, decide_eq_true_eq, List.any_eq_true, Bool.and_eq_true]
  constructor
  · rintro ⟨⟨i, hi, e⟩, h⟩
    refine ⟨by omega, ?_⟩
    rcases h with h | ⟨x, hx, h⟩
    · exact .inl h
    · exact .inr ⟨x, hx, h.1.1, h.1.2, h.2⟩
  · rintro ⟨h0, h⟩
    refine ⟨⟨n.toNat, by omega, by omega⟩, ?_⟩
    rcases h with h | ⟨x, hx, h⟩
    · exact .inl h
    · exact .inr ⟨x, hx, ⟨h.1, h.2.1⟩, h.2.2⟩
theorem Dom.first {l l' : List Stay} (h : Dom l l') : ∀ s ∈ l, ∃ s' ∈ l', s'.first = s.first := by
  induction h with
  | nil => exact fun s h => absurd h (by simp)
  | same _ ih =>
    intro s h
    rcases List.mem_cons.mp h with e | h
    · exact ⟨_, List.mem_cons_self, by rw [e]⟩
    · obtain ⟨x, hx, e⟩ := ih s h
      exact ⟨x, List.mem_cons_of_mem _ hx, e⟩
  | add _ ih =>
    intro s h
    obtain ⟨x, hx, e⟩ := ih s h
    exact ⟨x, List.mem_cons_of_mem _ hx, e⟩
  | up _ ih =>
    intro s h
    rcases List.mem_cons.mp h with e | h
    · exact ⟨_, List.mem_cons_self, by rw [e]⟩
    · obtain ⟨x, hx, e⟩ := ih s h
      exact ⟨x, List.mem_cons_of_mem _ hx, e⟩
theorem tight_iff {l : List Stay} {s : Stay} {ladder : List Int} {risk : Int × Int} : tight l s ladder risk ≠ none ↔ ∃ n ∈ begun l s, ∃ k ∈ kindsTo s.kind, underB risk (chanceAt (l ++ [s]) n k ladder) = true := by
  unfold tight tightAt
  rw [ne_eq, List.findSome?_eq_none_iff]
  simp only [List.findSome?_eq_none_iff]
  constructor
  · intro h
    refine Classical.byContradiction fun c => h fun n hn k hk => ?_
    rw [if_neg fun u => c ⟨n, hn, k, hk, u⟩]
  · rintro ⟨n, hn, k, hk, u⟩ h
    have q := h n hn k hk
    rw [if_pos u] at q
    cases q
theorem tight_mono {l l' : List Stay} {s : Stay} {ladder : List Int} {risk : Int × Int} (hr : 0 ≤ risk.2) (h : Dom l l') (h1 : ∀ s ∈ l, StayOk s) (h2 : ∀ s ∈ l', StayOk s) (hs : StayOk s) (t : tight l s ladder risk ≠ none) : tight l' s ladder risk ≠ none := by
  rw [tight_iff] at t ⊢
  obtain ⟨n, hn, k, hk, u⟩ := t
  rw [begun_mem] at hn
  refine ⟨n, ?_, k, hk, chance_mono hr (h.snoc s) (fun x hx => ?_) (fun x hx => ?_) u⟩
  · rw [begun_mem]
    refine ⟨hn.1, ?_⟩
    rcases hn.2 with e | ⟨x, hx, e1, e2⟩
    · exact .inl e
    · obtain ⟨y, hy, e⟩ := h.first x hx
      exact .inr ⟨y, hy, e.trans e1, e2⟩
  · rcases List.mem_append.mp hx with q | q
    · exact h1 x q
    · rw [List.mem_singleton.mp q]; exact hs
  · rcases List.mem_append.mp hx with q | q
    · exact h2 x q
    · rw [List.mem_singleton.mp q]; exact hs
/-- what a paper tells -/
theorem tight_some {l : List Stay} {s : Stay} {ladder : List Int} {risk : Int × Int} {n k : Int} {c : Int × Int} (t : tight l s ladder risk = some (n, k, c)) (hb : s.first < s.behind) : (s.first ≤ n ∧ n < s.behind) ∧ (1 ≤ k ∧ k ≤ s.kind) ∧ underB risk c = true := by
  unfold tight tightAt at t
  obtain ⟨n', hn, t⟩ := List.exists_of_findSome?_eq_some t
  obtain ⟨k', hk, t⟩ := List.exists_of_findSome?_eq_some t
  by_cases u : underB risk (chanceAt (l ++ [s]) n' k' ladder) = true
  · rw [if_pos u] at t
    cases t
    refine ⟨?_, ?_, u⟩
    · rw [begun_mem] at hn
      rcases hn.2 with e | ⟨x, hx, e1, e2, e3⟩
      · omega
      · omega
    · unfold kindsTo at hk
      obtain ⟨i, hi, e⟩ := List.mem_map.mp hk
      have := List.mem_range.mp hi
      omega
  · rw [if_neg u] at t
    cases t
end NbM
end
section
set_option linter.all false
/-! The walk along the line, by itself and of two books. -/
namespace NbM
section
variable {α : Type} [DecidableEq α]
def keysE {β : Type} (es : List (α × β)) : List α := es.map (·.1)
def waitingE (es : List (α × Ent)) : List α := (es.filter fun p => decide (p.2.word = .waits)).map (·.1)
def paper (ladder : List Int) (risk : Int × Int) (es : List (α × Ent)) (n : α) : Option (Int × Int × (Int × Int)) :=
  match getE es n with
  | some e => tight (counted es) (stayOf e) ladder risk
  | none => none
def setW (es : List (α × Ent)) (n : α) (w : Word) : List (α × Ent) := es.map fun p => if p.1 = n then (p.1, { p.2 with word := w }) else p
def wstep (ladder : List Int) (risk : Int × Int) (s : List (α × Ent) × List α) (n : α) : List (α × Ent) × List α :=
  if paper ladder risk s.1 n = none then (setW s.1 n .taken, s.2 ++ [n]) else s
def walk (ladder : List Int) (risk : Int × Int) (names : List α) (es : List (α × Ent)) : List (α × Ent) × List α := names.foldl (wstep ladder risk) (es, [])
structure EntOk (L : Int) (e : Ent) : Prop where
  k1 : 1 ≤ e.kind
  k2 : e.kind ≤ L
  f0 : 0 ≤ e.first
  fb : e.first < e.behind
  b4 : e.behind ≤ 400
  ch : ChOk e.ch
theorem EntOk.word {L : Int} {e : Ent} (h : EntOk L e) (w : Word) : EntOk L { e with word := w } := ⟨h.k1, h.k2, h.f0, h.fb, h.b4, h.ch⟩
theorem one_ok : ChOk (1, 1) := ⟨by decide, by decide, by decide, by decide⟩
theorem EntOk.stay {L : Int} {e : Ent} (h : EntOk L e) : StayOk (stayOf e) := by
  refine ⟨h.f0, by show e.first < 400; have := h.fb; have := h.b4; omega, ?_⟩
  show ChOk (if e.word = .house then (1, 1) else e.ch)
  split
  · exact one_ok
  · exact h.ch
structure Good (L : Int) (es : List (α × Ent)) : Prop where
  nd : (keysE es).Nodup
  ok : ∀ p ∈ es, EntOk L p.2
theorem counted_ok {L : Int} {es : List (α × Ent)} (h : ∀ p ∈ es, EntOk L p.2) : ∀ s ∈ counted es, StayOk s := fun s hs => by
  unfold counted at hs
  obtain ⟨p, hp, e⟩ := List.mem_map.mp hs
  rw [← e]
  exact (h p (List.mem_filter.mp hp).1).stay
theorem counted_cons (p : α × Ent) (es : List (α × Ent)) : counted (p :: es) = if p.2.word = .waits then counted es else stayOf p.2 :: counted es := by
  unfold counted
  rw [List.filter_cons]
  by_cases h : p.2.word = .waits
  · rw [if_pos h, if_neg (by simp [h])]
  · rw [if_neg h, if_pos (by simp [h]), List.map_cons]
theorem counted_app (es es' : List (α × Ent)) : counted (es ++ es') = counted es ++ counted es' := by
  unfold counted
  rw [List.filter_append, List.map_append]
theorem counted_taken (n : α) : ∀ {es : List (α × Ent)}, (∀ p ∈ es, p.1 = n → p.2.word = .waits) → Dom (counted es) (counted (setW es n .taken))
  | [], _ => .nil
  | p :: es, h => by
    have ih := counted_taken n (es := es) fun q hq => h q (List.mem_cons_of_mem _ hq)
    rw [show setW (p :: es) n .taken = (if p.1 = n then (p.1, { p.2 with word := .taken }) else p) :: setW es n .taken from rfl, counted_cons, counted_cons]
    by_cases e : p.1 = n
    · rw [if_pos e, if_pos (h p List.mem_cons_self e), if_neg (show ¬ Word.taken = Word.waits by decide)]
      exact .add ih
    · rw [if_neg e]
      split
      · exact ih
      · exact .same ih
theorem counted_house (n : α) : ∀ {es : List (α × Ent)}, (∀ p ∈ es, p.1 = n → p.2.word = .taken) → Dom (counted es) (counted (setW es n .house))
  | [], _ => .nil
  | p :: es, h => by
    have ih := counted_house n (es := es) fun q hq => h q (List.mem_cons_of_mem _ hq)
    rw [show setW (p :: es) n .house = (if p.1 = n then (p.1, { p.2 with word := .house }) else p) :: setW es n .house from rfl, counted_cons, counted_cons]
    by_cases e : p.1 = n
    · have t := h p List.mem_cons_self e
      rw [if_pos e, if_neg (by rw [t]; decide), if_neg (show ¬ Word.house = Word.waits by decide)]
      exact .up ih
    · rw [if_neg e]
      split
      · exact ih
      · exact .same ih
theorem keys_setW (es : List (α × Ent)) (n : α) (w : Word) : keysE (setW es n w) = keysE es := by
  unfold keysE setW
  rw [List.map_map]
  refine List.map_congr_left fun p _ => ?_
  show (if p.1 = n then (p.1, { p.2 with word := w }) else p).1 = p.1
  split <;> rfl
theorem mem_setW {es : List (α × Ent)} {n : α} {w : Word} {p : α × Ent} (h : p ∈ setW es n w) : (p ∈ es ∧ p.1 ≠ n) ∨ (p.1 = n ∧ ∃ e, (n, e) ∈ es ∧ p.2 = { e with word := w }) := by
  obtain ⟨q, hq, e⟩ := List.mem_map.mp h
  by_cases c : q.1 = n
  · rw [if_pos c] at e
    refine .inr ⟨by rw [← e]; exact c, q.2, by rw [← c]; exact hq, by rw [← e]⟩
  · rw [if_neg c] at e
    exact .inl ⟨e ▸ hq, e ▸ c⟩
theorem setW_keep {es : List (α × Ent)} {n : α} {w : Word} {p : α × Ent} (h : p ∈ es) (c : p.1 ≠ n) : p ∈ setW es n w := List.mem_map.mpr ⟨p, h, if_neg c⟩
theorem setW_at {es : List (α × Ent)} {n : α} {w : Word} {e : Ent} (h : (n, e) ∈ es) : (n, { e with word := w }) ∈ setW es n w := List.mem_map.mpr ⟨(n, e), h, if_pos rfl⟩
theorem Good.setW {L : Int} {es : List (α × Ent)} (g : Good L es) (n : α) (w : Word) : Good L (NbM.setW es n w) := by
  refine ⟨by rw [keys_setW]; exact g.nd, fun p hp => ?_⟩
  rcases mem_setW hp with h | ⟨_, e, he, h⟩
  · exact g.ok p h.1
  · rw [h]
    exact (g.ok _ he).word w
theorem getE_mem {β : Type} {es : List (α × β)} {n : α} {e : β} (h : getE es n = some e) : (n, e) ∈ es := by
  unfold getE at h
  cases q : es.find? fun p => decide (p.1 = n) with
  | none => rw [q] at h; cases h
  | some p =>
    rw [q] at h
    have e1 : p.2 = e := Option.some.inj h
    have e2 : p.1 = n := of_decide_eq_true (List.find?_some (p := fun p : α × β => decide (p.1 = n)) q)
    have m := List.mem_of_find?_eq_some q
    rw [← e1, ← e2]
    exact m
theorem mem_getE {β : Type} : ∀ {es : List (α × β)} {n : α} {e : β}, (keysE es).Nodup → (n, e) ∈ es → getE es n = some e
  | p :: es, n, e, nd, h => by
    unfold getE
    rw [List.find?_cons]
    rcases List.mem_cons.mp h with h | h
    · rw [← h]
      simp
    · have hn : p.1 ≠ n := fun z => (List.nodup_cons.mp (show (p.1 :: keysE es).Nodup from nd)).1 (by rw [z]; exact List.mem_map.mpr ⟨_, h, rfl⟩)
      rw [decide_eq_false hn]
      exact mem_getE (List.nodup_cons.mp (show (p.1 :: keysE es).Nodup from nd)).2 h
theorem getE_none {β : Type} {es : List (α × β)} {n : α} (h : getE es n = none) : n ∉ keysE es := fun m => by
  obtain ⟨p, hp, e⟩ := List.mem_map.mp m
  unfold getE at h
  rw [Option.map_eq_none_iff, List.find?_eq_none] at h
  exact h p hp (decide_eq_true e)
theorem key_inj {β : Type} {es : List (α × β)} {n : α} {e e' : β} (nd : (keysE es).Nodup) (h : (n, e) ∈ es) (h' : (n, e') ∈ es) : e = e' := Option.some.inj ((mem_getE nd h).symm.trans (mem_getE nd h'))
/-! ### one walk -/
variable {ladder : List Int} {risk : Int × Int} {L : Int}
def NoPaper (ladder : List Int) (risk : Int × Int) (es : List (α × Ent)) (e : Ent) : Prop := tight (counted es) (stayOf e) ladder risk = none
structure Walked (ladder : List Int) (risk : Int × Int) (L : Int) (names : List α) (es es' : List (α × Ent)) : Prop where
  good : Good L es'
  keys : keysE es' = keysE es
  dom : Dom (counted es) (counted es')
  old : ∀ p ∈ es', p ∈ es ∨ ∃ e, (p.1, e) ∈ es ∧ e.word = .waits ∧ p.2 = { e with word := .taken } ∧ p.1 ∈ names
  keep : ∀ p ∈ es, (p.2.word ≠ .waits ∨ p.1 ∉ names) → p ∈ es'
  held : ∀ p ∈ es', p.1 ∈ names → p.2.word = .waits → tight (counted es') (stayOf p.2) ladder risk ≠ none
theorem walk_ok (hr : 0 ≤ risk.2) : ∀ (names : List α) (es : List (α × Ent)) (acc : List α), Good L es → names.Nodup → (∀ n ∈ names, ∀ p ∈ es, p.1 = n → p.2.word = .waits) →
    Walked ladder risk L names es (names.foldl (wstep ladder risk) (es, acc)).1
  | [], es, acc, g, _, _ => ⟨g, rfl, Dom.refl _, fun p h => .inl h, fun p h _ => h, fun p _ h => absurd h (by simp)⟩
  | n :: r, es, acc, g, nd, hw => by
    obtain ⟨nr, ndr⟩ := List.nodup_cons.mp nd
    rw [List.foldl_cons]
    unfold wstep
    by_cases c : paper ladder risk es n = none
    · rw [show (es, acc).1 = es from rfl, if_pos c]
      have hwn := hw n List.mem_cons_self
      have d1 := counted_taken n hwn
      have W := walk_ok hr r (setW es n .taken) (acc ++ [n]) (g.setW n .taken) ndr fun m hm p hp e => by
        rcases mem_setW hp with h | ⟨h, _⟩
        · exact hw m (List.mem_cons_of_mem _ hm) p h.1 e
        · exact absurd (by rw [← h, e]; exact hm) nr
      have tr : ∀ {a b c : List Stay}, Dom a b → Dom b c → Dom a c := by
        intro a b c h1 h2
        induction h2 generalizing a with
        | nil => exact h1
        | same _ ih => cases h1 with
          | same h => exact .same (ih h)
          | add h => exact .add (ih h)
          | up h => exact .up (ih h)
        | add _ ih => exact .add (ih h1)
        | up _ ih => cases h1 with
          | same h => exact .up (ih h)
          | add h => exact .add (ih h)
          | up h => exact .up (ih h)
      refine ⟨W.good, W.keys.trans (keys_setW ..), tr d1 W.dom, fun p hp => ?_, fun p hp hc => ?_, fun p hp hn hpw => ?_⟩
      · rcases W.old p hp with h | ⟨e, he, ew, e2, e3⟩
        · rcases mem_setW h with h | ⟨h, e, he, e2⟩
          · exact .inl h.1
          · exact .inr ⟨e, h ▸ he, hw n List.mem_cons_self _ he rfl, e2, by rw [h]; exact List.mem_cons_self⟩
        · rcases mem_setW he with h | ⟨h, e', he', e2'⟩
          · exact .inr ⟨e, h.1, ew, e2, List.mem_cons_of_mem _ e3⟩
          · exact absurd (show p.1 = n from h) fun z => nr (z ▸ e3)
      · have hpn : p.1 ≠ n := fun z => by
          rcases hc with hc | hc
          · exact hc (hw n List.mem_cons_self p hp z)
          · exact hc (by rw [z]; exact List.mem_cons_self)
        exact W.keep p (setW_keep hp hpn) (hc.imp id fun h z => h (List.mem_cons_of_mem _ z))
      · rcases List.mem_cons.mp hn with h | h
        · -- the one just taken does not wait
          exfalso
          rcases W.old p hp with q | ⟨e, _, _, e2, _⟩
          · rcases mem_setW q with q | ⟨_, e, _, e2⟩
            · exact q.2 h
            · rw [e2] at hpw; cases hpw
          · rw [e2] at hpw; cases hpw
        · exact W.held p hp h hpw
    · rw [show (es, acc).1 = es from rfl, if_neg c]
      have W := walk_ok hr r es acc g ndr fun m hm => hw m (List.mem_cons_of_mem _ hm)
      refine ⟨W.good, W.keys, W.dom, fun p hp => (W.old p hp).imp id fun ⟨e, a, b, c, d⟩ => ⟨e, a, b, c, List.mem_cons_of_mem _ d⟩, fun p hp hc => W.keep p hp (hc.imp id fun h z => h (List.mem_cons_of_mem _ z)), fun p hp hn hpw => ?_⟩
      rcases List.mem_cons.mp hn with h | h
      · -- refused when it was asked: refused still
        have hpe : p ∈ es := by
          rcases W.old p hp with q | ⟨e, _, _, e2, _⟩
          · exact q
          · rw [e2] at hpw; cases hpw
        have hp0 : paper ladder risk es n = tight (counted es) (stayOf p.2) ladder risk := by
          unfold paper
          rw [mem_getE g.nd (show (n, p.2) ∈ es from h ▸ hpe)]
        rw [hp0] at c
        exact tight_mono hr W.dom (counted_ok g.ok) (counted_ok W.good.ok) (g.ok p hpe).stay c
      · exact W.held p hp h hpw
def Stable (ladder : List Int) (risk : Int × Int) (es : List (α × Ent)) : Prop := ∀ p ∈ es, p.2.word = .waits → tight (counted es) (stayOf p.2) ladder risk ≠ none
theorem mem_waiting {es : List (α × Ent)} {n : α} : n ∈ waitingE es ↔ ∃ e, (n, e) ∈ es ∧ e.word = .waits := by
  unfold waitingE
  rw [List.mem_map]
  constructor
  · rintro ⟨p, hp, e⟩
    obtain ⟨h1, h2⟩ := List.mem_filter.mp hp
    exact ⟨p.2, e ▸ h1, of_decide_eq_true h2⟩
  · rintro ⟨e, h1, h2⟩
    exact ⟨(n, e), List.mem_filter.mpr ⟨h1, decide_eq_true h2⟩, rfl⟩
theorem waiting_nodup {es : List (α × Ent)} (nd : (keysE es).Nodup) : (waitingE es).Nodup := nd.sublist (List.Sublist.map _ List.filter_sublist)
/-- the book's walk -/
theorem fill_ok (hr : 0 ≤ risk.2) {es : List (α × Ent)} (g : Good L es) : Walked ladder risk L (waitingE es) es (walk ladder risk (waitingE es) es).1 ∧ Stable ladder risk (walk ladder risk (waitingE es) es).1 := by
  have W := walk_ok (ladder := ladder) hr (waitingE es) es [] g (waiting_nodup g.nd) fun n hn p hp e => by
    obtain ⟨e', h1, h2⟩ := mem_waiting.mp hn
    rw [key_inj g.nd (show (n, p.2) ∈ es from e ▸ hp) h1]
    exact h2
  refine ⟨W, fun p hp hw => W.held p hp ?_ hw⟩
  rcases W.old p hp with h | ⟨e, _, _, e2, _⟩
  · exact mem_waiting.mpr ⟨p.2, h, hw⟩
  · rw [e2] at hw; cases hw
/-! ### two walks -/
theorem counted_drop {zz : α} {B : List (α × Ent)} (hz : ∀ p ∈ B, p.1 = zz → p.2.word = .waits) : counted (dropE B zz) = counted B := by
  induction B with
  | nil => rfl
  | cons p B ih =>
    have ih := ih fun q hq => hz q (List.mem_cons_of_mem _ hq)
    unfold dropE at ih ⊢
    rw [List.filter_cons]
    by_cases e : p.1 = zz
    · rw [if_neg (by simp [e]), ih, counted_cons, if_pos (hz p List.mem_cons_self e)]
    · rw [if_pos (by simp [e]), counted_cons, counted_cons, ih]
theorem getE_drop {β : Type} {zz n : α} (h : n ≠ zz) (B : List (α × β)) : getE (dropE B zz) n = getE B n := by
  induction B with
  | nil => rfl
  | cons p B ih =>
    unfold dropE getE at ih ⊢
    rw [List.filter_cons]
    by_cases e : p.1 = zz
    · rw [if_neg (by simp [e]), List.find?_cons, decide_eq_false (show ¬ p.1 = n from fun z => h (z.symm.trans e))]
      exact ih
    · rw [if_pos (by simp [e]), List.find?_cons, List.find?_cons]
      by_cases e' : p.1 = n
      · rw [decide_eq_true e']
      · rw [decide_eq_false e']
        exact ih
theorem setW_drop {zz n : α} (w : Word) (B : List (α × Ent)) : setW (dropE B zz) n w = dropE (setW B n w) zz := by
  induction B with
  | nil => rfl
  | cons p B ih =>
    have k : (if p.1 = n then (p.1, { p.2 with word := w }) else p).1 = p.1 := by split <;> rfl
    unfold dropE at ih ⊢
    rw [show setW (p :: B) n w = (if p.1 = n then (p.1, { p.2 with word := w }) else p) :: setW B n w from rfl, List.filter_cons, List.filter_cons, k]
    by_cases e : p.1 = zz
    · rw [if_neg (by simp [e]), if_neg (by simp [e]), ih]
    · rw [if_pos (by simp [e]), if_pos (by simp [e]), ← ih]
      rfl
theorem paper_drop {zz n : α} (h : n ≠ zz) {B : List (α × Ent)} (hz : ∀ p ∈ B, p.1 = zz → p.2.word = .waits) : paper ladder risk (dropE B zz) n = paper ladder risk B n := by
  unfold paper
  rw [getE_drop h, counted_drop hz]
def ZTaken (zz : α) (es : List (α × Ent)) : Prop := ∃ e, (zz, e) ∈ es ∧ e.word = .taken
theorem ztaken_walk {zz : α} : ∀ (names : List α) (s : List (α × Ent) × List α), ZTaken zz s.1 → ZTaken zz (names.foldl (wstep ladder risk) s).1
  | [], _, h => h
  | n :: r, s, h => by
    rw [List.foldl_cons]
    refine ztaken_walk r _ ?_
    unfold wstep
    split
    · obtain ⟨e, h1, h2⟩ := h
      by_cases c : zz = n
      · subst c
        exact ⟨_, setW_at h1, rfl⟩
      · exact ⟨e, setW_keep h1 c, h2⟩
    · exact h
def noZ (zz : α) (l : List α) : List α := l.filter fun n => decide (n ≠ zz)
theorem two_walks {zz : α} : ∀ (names : List α) (B : List (α × Ent)) (acc : List α), (∀ p ∈ B, p.1 = zz → p.2.word = .waits) → (zz ∈ names → zz ∈ keysE B) →
    ZTaken zz (names.foldl (wstep ladder risk) (B, acc)).1 ∨
      ((∀ p ∈ (names.foldl (wstep ladder risk) (B, acc)).1, p.1 = zz → p.2.word = .waits) ∧
        (noZ zz names).foldl (wstep ladder risk) (dropE B zz, noZ zz acc) = (dropE (names.foldl (wstep ladder risk) (B, acc)).1 zz, noZ zz (names.foldl (wstep ladder risk) (B, acc)).2))
  | [], B, acc, hz, _ => .inr ⟨hz, rfl⟩
  | n :: r, B, acc, hz, hk => by
    rw [List.foldl_cons]
    by_cases c : n = zz
    · have e1 : noZ zz (n :: r) = noZ zz r := by unfold noZ; rw [List.filter_cons, if_neg (by simp [c])]
      rw [e1]
      unfold wstep
      by_cases p : paper ladder risk B n = none
      · rw [show (B, acc).1 = B from rfl, if_pos p]
        obtain ⟨q, hq, e⟩ := List.mem_map.mp (hk (by rw [c]; exact List.mem_cons_self))
        exact .inl (ztaken_walk r _ ⟨_, setW_at (n := zz) (e := q.2) (by rw [← e]; exact hq) |> fun h => by rw [c]; exact h, rfl⟩)
      · rw [show (B, acc).1 = B from rfl, if_neg p]
        exact two_walks r B acc hz fun h => hk (List.mem_cons_of_mem _ h)
    · have e1 : noZ zz (n :: r) = n :: noZ zz r := by unfold noZ; rw [List.filter_cons, if_pos (by simp [c])]
      rw [e1, List.foldl_cons]
      have e2 : wstep ladder risk (dropE B zz, noZ zz acc) n = (dropE (wstep ladder risk (B, acc) n).1 zz, noZ zz (wstep ladder risk (B, acc) n).2) := by
        unfold wstep
        rw [show (dropE B zz, noZ zz acc).1 = dropE B zz from rfl, paper_drop c hz, show (B, acc).1 = B from rfl]
        split
        · rw [setW_drop]
          have : noZ zz (acc ++ [n]) = noZ zz acc ++ [n] := by unfold noZ; rw [List.filter_append]; simp [c]
          rw [← this]
        · rfl
      rw [e2]
      refine two_walks r (wstep ladder risk (B, acc) n).1 (wstep ladder risk (B, acc) n).2 (fun p hp e => ?_) fun h => ?_
      · unfold wstep at hp
        split at hp
        · rcases mem_setW hp with q | ⟨q, _⟩
          · exact hz p q.1 e
          · exact absurd (q.symm.trans e) c
        · exact hz p hp e
      · have := hk (List.mem_cons_of_mem _ h)
        unfold wstep
        split
        · rw [show keysE (setW (B, acc).1 n .taken) = keysE B from keys_setW ..]; exact this
        · exact this
end
end NbM
end
section
set_option linter.all false
/-! The house: who moves where. -/
namespace NbM
section
variable {α : Type} [DecidableEq α]
structure Hs (α : Type) where
  rooms : List Int
  places : List (α × Int)
  wishes : List (α × Int)
def roomAt (rooms : List Int) (r : Int) : Int := rooms.getD r.toNat 0
def guestsOf (h : Hs α) : List (Int × Int) := h.places.foldl (fun g p => putE g p.2 ((getE h.wishes p.1).getD 0)) []
def freeStep (rooms : List Int) (g : List (Int × Int)) (kind : Int) (f : Option Int) (i : Nat) : Option Int :=
  if getE g (i : Int) = none ∧ kind ≤ roomAt rooms i ∧ (∀ r, f = some r → roomAt rooms i < roomAt rooms r) then some i else f
instance (rooms : List Int) (i : Nat) (f : Option Int) : Decidable (∀ r, f = some r → roomAt rooms i < roomAt rooms r) :=
  match f with
  | none => .isTrue fun _ h => nomatch h
  | some r => if h : roomAt rooms i < roomAt rooms r then .isTrue fun _ e => by cases e; exact h else .isFalse fun z => h (z r rfl)
def freeFrom (rooms : List Int) (g : List (Int × Int)) (kind : Int) : Option Int := (List.range rooms.length).foldl (freeStep rooms g kind) none
def wishesFrom (rooms : List Int) (g : List (Int × Int)) (kind : Int) : List Int := (g.filter fun p => decide (kind ≤ roomAt rooms p.1)).map (·.2)
def minD (d : Int) : List Int → Int
  | [] => d
  | a :: r => r.foldl (fun m x => if x < m then x else m) a
def fallsGo (rooms : List Int) (g : List (Int × Int)) : Nat → Int → List Int
  | 0, k => [k]
  | n + 1, k => if freeFrom rooms g k = none then (if k ≤ minD k (wishesFrom rooms g k) then [k] else k :: fallsGo rooms g n (minD k (wishesFrom rooms g k))) else [k]
def guestAt (rooms : List Int) (g : List (Int × Int)) (kind wished : Int) : Int := minD 0 ((g.filter fun p => decide (p.2 = wished) && decide (kind ≤ roomAt rooms p.1)).map (·.1))
/-- the falls from the last to the first: (room, free) each; the room that is free at the end -/
def movesGo (rooms : List Int) (g : List (Int × Int)) : List Int → Int → List (Int × Int) × Int
  | w :: k :: r, free => ((guestAt rooms g k w, free) :: (movesGo rooms g (k :: r) (guestAt rooms g k w)).1, (movesGo rooms g (k :: r) (guestAt rooms g k w)).2)
  | _, free => ([], free)
def lastD (d : Int) (l : List Int) : Int := l.getLast?.getD d
def nameIn (places : List (α × Int)) (room : Int) : Option α := ((places.filter fun p => decide (p.2 = room)).map (·.1)).head?
def moveOne (places : List (α × Int)) (m : Int × Int) : List (α × Int) :=
  match nameIn places m.1 with
  | some n => putE places n m.2
  | none => places
def fallsOf (h : Hs α) (kind : Int) : List Int := fallsGo h.rooms (guestsOf h) kind.toNat kind
def letIn (h : Hs α) (name : α) (kind : Int) : Int ⊕ Hs α :=
  match freeFrom h.rooms (guestsOf h) (lastD kind (fallsOf h kind)) with
  | none => .inl (lastD kind (fallsOf h kind))
  | some free =>
    .inr { h with places := putE ((movesGo h.rooms (guestsOf h) (fallsOf h kind).reverse free).1.foldl moveOne h.places) name (movesGo h.rooms (guestsOf h) (fallsOf h kind).reverse free).2, wishes := putE h.wishes name kind }
def outH (h : Hs α) (n : α) : Hs α := { h with places := dropE h.places n, wishes := dropE h.wishes n }
structure HsOk (h : Hs α) : Prop where
  nd : (keysE h.places).Nodup
  keys : keysE h.wishes = keysE h.places
  inr : ∀ p ∈ h.places, 0 ≤ p.2 ∧ p.2 < h.rooms.length
  wi : ∀ p ∈ h.wishes, 1 ≤ p.2
/-! ### tables -/
section
variable {κ β : Type} [DecidableEq κ]
theorem putE_of_mem {l : List (κ × β)} {k : κ} {v : β} (h : k ∈ keysE l) : putE l k v = l.map fun p => if p.1 = k then (p.1, v) else p := by
  unfold putE
  obtain ⟨p, hp, e⟩ := List.mem_map.mp h
  rw [if_pos (List.any_eq_true.mpr ⟨p, hp, decide_eq_true e⟩)]
theorem putE_of_not {l : List (κ × β)} {k : κ} {v : β} (h : k ∉ keysE l) : putE l k v = l ++ [(k, v)] := by
  unfold putE
  rw [if_neg fun z => ?_]
  obtain ⟨p, hp, e⟩ := List.any_eq_true.mp z
  exact h (List.mem_map.mpr ⟨p, hp, of_decide_eq_true e⟩)
theorem keys_put_old {l : List (κ × β)} {k : κ} {v : β} (h : k ∈ keysE l) : keysE (putE l k v) = keysE l := by
  rw [putE_of_mem h]
  unfold keysE
  rw [List.map_map]
  refine List.map_congr_left fun p _ => ?_
  show (if p.1 = k then (p.1, v) else p).1 = p.1
  split <;> rfl
theorem keys_put_new {l : List (κ × β)} {k : κ} {v : β} (h : k ∉ keysE l) : keysE (putE l k v) = keysE l ++ [k] := by
  rw [putE_of_not h]
  unfold keysE
  rw [List.map_append]
  rfl
theorem nodup_put {l : List (κ × β)} {k : κ} {v : β} (nd : (keysE l).Nodup) : (keysE (putE l k v)).Nodup := by
  by_cases h : k ∈ keysE l
  · rw [keys_put_old h]; exact nd
  · rw [keys_put_new h, List.nodup_append]
    exact ⟨nd, by simp, fun a ha b hb e => h (by rw [← List.mem_singleton.mp hb, ← e]; exact ha)⟩
theorem mem_put {l : List (κ × β)} {k : κ} {v : β} {p : κ × β} (h : p ∈ putE l k v) : (p ∈ l ∧ p.1 ≠ k) ∨ (p = (k, v)) := by
  by_cases c : k ∈ keysE l
  · rw [putE_of_mem c] at h
    obtain ⟨q, hq, e⟩ := List.mem_map.mp h
    by_cases d : q.1 = k
    · rw [if_pos d] at e
      exact .inr (by rw [← e, d])
    · rw [if_neg d] at e
      exact .inl ⟨e ▸ hq, e ▸ d⟩
  · rw [putE_of_not c] at h
    rcases List.mem_append.mp h with h | h
    · exact .inl ⟨h, fun z => c (List.mem_map.mpr ⟨p, h, z⟩)⟩
    · exact .inr (List.mem_singleton.mp h)
theorem put_keep {l : List (κ × β)} {k : κ} {v : β} {p : κ × β} (h : p ∈ l) (c : p.1 ≠ k) : p ∈ putE l k v := by
  by_cases d : k ∈ keysE l
  · rw [putE_of_mem d]
    exact List.mem_map.mpr ⟨p, h, if_neg c⟩
  · rw [putE_of_not d]
    exact List.mem_append_left _ h
theorem keys_drop (l : List (κ × β)) (k : κ) : keysE (dropE l k) = (keysE l).filter fun x => decide (x ≠ k) := by
  unfold keysE dropE
  rw [List.filter_map]
  rfl
theorem nodup_drop {l : List (κ × β)} {k : κ} (nd : (keysE l).Nodup) : (keysE (dropE l k)).Nodup := by
  rw [keys_drop]
  exact nd.sublist List.filter_sublist
theorem mem_drop {l : List (κ × β)} {k : κ} {p : κ × β} : p ∈ dropE l k ↔ p ∈ l ∧ p.1 ≠ k := by
  unfold dropE
  rw [List.mem_filter, decide_eq_true_eq]
theorem getE_some_iff {l : List (κ × β)} {k : κ} : k ∈ keysE l ↔ ∃ v, getE l k = some v := by
  constructor
  · intro h
    cases e : getE l k with
    | none => exact absurd h (getE_none e)
    | some v => exact ⟨v, rfl⟩
  · rintro ⟨v, h⟩
    exact List.mem_map.mpr ⟨_, getE_mem h, rfl⟩
end
/-! ### guests -/
theorem guests_go (wi : List (α × Int)) : ∀ (pl : List (α × Int)) (g : List (Int × Int)), (keysE g).Nodup →
    (keysE (pl.foldl (fun g p => putE g p.2 ((getE wi p.1).getD 0)) g)).Nodup ∧ ∀ q ∈ pl.foldl (fun g p => putE g p.2 ((getE wi p.1).getD 0)) g, q ∈ g ∨ ∃ p ∈ pl, p.2 = q.1 ∧ q.2 = (getE wi p.1).getD 0
  | [], g, nd => ⟨nd, fun q h => .inl h⟩
  | p :: pl, g, nd => by
    obtain ⟨h1, h2⟩ := guests_go wi pl (putE g p.2 ((getE wi p.1).getD 0)) (nodup_put nd)
    refine ⟨h1, fun q hq => ?_⟩
    rcases h2 q hq with h | ⟨p', hp, e⟩
    · rcases mem_put h with h | h
      · exact .inl h.1
      · exact .inr ⟨p, List.mem_cons_self, by rw [h], by rw [h]⟩
    · exact .inr ⟨p', List.mem_cons_of_mem _ hp, e⟩
/-- what is known of the guests: rooms in range, taken by a name; wishes at least one -/
structure GOk (h : Hs α) (g : List (Int × Int)) : Prop where
  nd : (keysE g).Nodup
  at_ : ∀ q ∈ g, (∃ p ∈ h.places, p.2 = q.1) ∧ 0 ≤ q.1 ∧ q.1 < h.rooms.length ∧ 1 ≤ q.2
theorem guests_ok {h : Hs α} (ok : HsOk h) : GOk h (guestsOf h) := by
  obtain ⟨h1, h2⟩ := guests_go h.wishes h.places [] (by simp [keysE])
  refine ⟨h1, fun q hq => ?_⟩
  rcases h2 q hq with z | ⟨p, hp, e1, e2⟩
  · exact absurd z (by simp)
  · have hr := ok.inr p hp
    refine ⟨⟨p, hp, e1⟩, e1 ▸ hr.1, e1 ▸ hr.2, ?_⟩
    have hk : p.1 ∈ keysE h.wishes := by rw [ok.keys]; exact List.mem_map.mpr ⟨p, hp, rfl⟩
    obtain ⟨v, hv⟩ := getE_some_iff.mp hk
    rw [e2, hv]
    exact ok.wi _ (getE_mem hv)
theorem foldl_min : ∀ (r : List Int) (a : Int), (r.foldl (fun m x => if x < m then x else m) a = a ∨ r.foldl (fun m x => if x < m then x else m) a ∈ r)
  | [], a => .inl rfl
  | x :: r, a => by
    rw [List.foldl_cons]
    rcases foldl_min r (if x < a then x else a) with h | h
    · rw [h]
      split
      · exact .inr List.mem_cons_self
      · exact .inl rfl
    · exact .inr (List.mem_cons_of_mem _ h)
theorem minD_mem {d : Int} {l : List Int} (h : l ≠ []) : minD d l ∈ l := by
  cases l with
  | nil => exact absurd rfl h
  | cons a r =>
    rcases foldl_min r a with e | e
    · show r.foldl _ a ∈ _
      rw [e]; exact List.mem_cons_self
    · exact List.mem_cons_of_mem _ e
/-- one fall follows another: a guest who wishes the less lives well enough -/
def Fall (rooms : List Int) (g : List (Int × Int)) (k w : Int) : Prop := w < k ∧ ∃ p ∈ g, p.2 = w ∧ k ≤ roomAt rooms p.1
inductive Falls (rooms : List Int) (g : List (Int × Int)) : List Int → Prop
  | one (k) : Falls rooms g [k]
  | cons {k w r} : Fall rooms g k w → Falls rooms g (w :: r) → Falls rooms g (k :: w :: r)
theorem fall_step {rooms : List Int} {g : List (Int × Int)} {k : Int} (h : ¬ k ≤ minD k (wishesFrom rooms g k)) : Fall rooms g k (minD k (wishesFrom rooms g k)) := by
  have hne : wishesFrom rooms g k ≠ [] := fun z => h (by rw [z]; exact Int.le_refl k)
  have hm := minD_mem (d := k) hne
  refine ⟨by omega, ?_⟩
  unfold wishesFrom at hm ⊢
  obtain ⟨p, hp, e⟩ := List.mem_map.mp hm
  obtain ⟨h1, h2⟩ := List.mem_filter.mp hp
  exact ⟨p, h1, e, of_decide_eq_true h2⟩
theorem falls_ok (rooms : List Int) (g : List (Int × Int)) : ∀ (n : Nat) (k : Int), Falls rooms g (fallsGo rooms g n k) ∧ (fallsGo rooms g n k).head? = some k
  | 0, k => ⟨.one k, rfl⟩
  | n + 1, k => by
    unfold fallsGo
    split
    · split
      · exact ⟨.one k, rfl⟩
      · rename_i h
        obtain ⟨h1, h2⟩ := falls_ok rooms g n (minD k (wishesFrom rooms g k))
        refine ⟨?_, rfl⟩
        cases e : fallsGo rooms g n (minD k (wishesFrom rooms g k)) with
        | nil => rw [e] at h2; cases h2
        | cons a r =>
          rw [e] at h1 h2
          have : a = minD k (wishesFrom rooms g k) := Option.some.inj h2
          exact .cons (this ▸ fall_step h) h1
    · exact ⟨.one k, rfl⟩
/-- with enough turns the end is reached: a free room, or nobody who wishes less -/
theorem falls_end {rooms : List Int} {g : List (Int × Int)} (hg : ∀ q ∈ g, 1 ≤ q.2) : ∀ (n : Nat) (k : Int), k ≤ n → fallsGo rooms g (n + 1) k = fallsGo rooms g n k
  | 0, k, hk => by
    unfold fallsGo
    split
    · split
      · rfl
      · rename_i h
        obtain ⟨h1, p, hp, e, _⟩ := fall_step h
        have := hg p hp
        omega
    · rfl
  | n + 1, k, hk => by
    rw [show fallsGo rooms g (n + 1 + 1) k = if freeFrom rooms g k = none then (if k ≤ minD k (wishesFrom rooms g k) then [k] else k :: fallsGo rooms g (n + 1) (minD k (wishesFrom rooms g k))) else [k] from rfl]
    rw [show fallsGo rooms g (n + 1) k = if freeFrom rooms g k = none then (if k ≤ minD k (wishesFrom rooms g k) then [k] else k :: fallsGo rooms g n (minD k (wishesFrom rooms g k))) else [k] from rfl]
    split
    · split
      · rfl
      · rename_i h
        obtain ⟨h1, _⟩ := fall_step h
        rw [falls_end hg n (minD k (wishesFrom rooms g k)) (by omega)]
    · rfl
theorem guestAt_ok {h : Hs α} {g : List (Int × Int)} (ok : GOk h g) {k w : Int} (f : Fall h.rooms g k w) : getE g (guestAt h.rooms g k w) = some w ∧ 0 ≤ guestAt h.rooms g k w ∧ guestAt h.rooms g k w < h.rooms.length ∧ (∃ p ∈ h.places, p.2 = guestAt h.rooms g k w) := by
  obtain ⟨_, p, hp, e1, e2⟩ := f
  have hm : guestAt h.rooms g k w ∈ (g.filter fun p => decide (p.2 = w) && decide (k ≤ roomAt h.rooms p.1)).map (·.1) :=
    minD_mem fun z => by
      have : p.1 ∈ (g.filter fun p => decide (p.2 = w) && decide (k ≤ roomAt h.rooms p.1)).map (·.1) := List.mem_map.mpr ⟨p, List.mem_filter.mpr ⟨hp, by simp [e1, e2]⟩, rfl⟩
      rw [z] at this
      exact absurd this (by simp)
  obtain ⟨q, hq, e⟩ := List.mem_map.mp hm
  obtain ⟨q1, q2⟩ := List.mem_filter.mp hq
  have q3 : q.2 = w := by simp at q2; exact q2.1
  obtain ⟨a, b, c, _⟩ := ok.at_ q q1
  rw [← e]
  exact ⟨mem_getE ok.nd (by rw [← q3]; exact q1), b, c, a⟩
/-- what the moves are: each room has a guest, no room twice -/
structure MovesOk (h : Hs α) (ms : List (Int × Int)) : Prop where
  there : ∀ m ∈ ms, (∃ p ∈ h.places, p.2 = m.1)
  rng : ∀ m ∈ ms, 0 ≤ m.2 ∧ m.2 < h.rooms.length
  diff : ms.Pairwise fun a b => a.1 ≠ b.1
theorem falls_rev {rooms : List Int} {g : List (Int × Int)} : ∀ {l : List Int}, Falls rooms g l → ∀ (r : List Int) (a b : Int), l.reverse = a :: b :: r → Fall rooms g b a ∧ ∃ l', Falls rooms g l' ∧ l'.reverse = b :: r := by
  intro l hl
  induction hl with
  | one k => intro r a b e; simp at e
  | @cons k w r f hl ih =>
    intro r' a b e
    cases r with
    | nil =>
      simp at e
      obtain ⟨e1, e2, e3⟩ := e
      subst e1 e2 e3
      exact ⟨f, [k], .one k, rfl⟩
    | cons x xs =>
      rw [List.reverse_cons] at e
      cases q : (w :: x :: xs).reverse with
      | nil => simp at q
      | cons a1 q' =>
        cases q' with
        | nil =>
          have := congrArg List.length q
          simp at this
        | cons b1 r1 =>
          rw [q] at e
          simp only [List.cons_append, List.cons.injEq] at e
          obtain ⟨rfl, rfl, e⟩ := e
          obtain ⟨f1, l', hl', e'⟩ := ih r1 a1 b1 q
          refine ⟨f1, k :: l', ?_, by rw [List.reverse_cons, e', ← e]; rfl⟩
          cases l' with
          | nil => exact .one k
          | cons y ys =>
            -- l' begins as w :: x :: xs does
            have hh : (y :: ys).reverse = b1 :: r1 := e'
            have hy : y = w := by
              have h1 : w :: x :: xs = (a1 :: b1 :: r1).reverse := by rw [← q, List.reverse_reverse]
              have h2 : y :: ys = (b1 :: r1).reverse := by rw [← hh, List.reverse_reverse]
              rw [List.reverse_cons, ← h2] at h1
              simp at h1
              exact h1.1.symm
            subst hy
            exact .cons f hl'
theorem moves_ok {h : Hs α} {g : List (Int × Int)} (ok : GOk h g) : ∀ (rl : List Int) (free : Int), (∃ l, Falls h.rooms g l ∧ l.reverse = rl) → 0 ≤ free → free < h.rooms.length →
    MovesOk h (movesGo h.rooms g rl free).1 ∧ (∀ m ∈ (movesGo h.rooms g rl free).1, ∃ v, getE g m.1 = some v ∧ (∀ a r, rl = a :: r → a ≤ v)) ∧ 0 ≤ (movesGo h.rooms g rl free).2 ∧ (movesGo h.rooms g rl free).2 < h.rooms.length
  | [], free, _, h0, h1 => ⟨⟨fun _ z => absurd z (by simp [movesGo]), fun _ z => absurd z (by simp [movesGo]), .nil⟩, fun _ z => absurd z (by simp [movesGo]), h0, h1⟩
  | [_], free, _, h0, h1 => ⟨⟨fun _ z => absurd z (by simp [movesGo]), fun _ z => absurd z (by simp [movesGo]), .nil⟩, fun _ z => absurd z (by simp [movesGo]), h0, h1⟩
  | w :: k :: r, free, ⟨l, hl, e⟩, h0, h1 => by
    obtain ⟨f, l', hl', e'⟩ := falls_rev hl r w k e
    obtain ⟨g1, g2, g3, g4⟩ := guestAt_ok ok f
    obtain ⟨a, b, c, d⟩ := moves_ok ok (k :: r) (guestAt h.rooms g k w) ⟨l', hl', e'⟩ g2 g3
    refine ⟨⟨fun m hm => ?_, fun m hm => ?_, ?_⟩, fun m hm => ?_, c, d⟩
    · rcases List.mem_cons.mp (show m ∈ (guestAt h.rooms g k w, free) :: (movesGo h.rooms g (k :: r) (guestAt h.rooms g k w)).1 from hm) with e | hm
      · rw [e]; exact g4
      · exact a.there m hm
    · rcases List.mem_cons.mp (show m ∈ (guestAt h.rooms g k w, free) :: (movesGo h.rooms g (k :: r) (guestAt h.rooms g k w)).1 from hm) with e | hm
      · rw [e]; exact ⟨h0, h1⟩
      · exact a.rng m hm
    · refine List.pairwise_cons.mpr ⟨fun m hm z => ?_, a.diff⟩
      obtain ⟨v, e1, e2⟩ := b m hm
      have z' : guestAt h.rooms g k w = m.1 := z
      rw [← z', g1] at e1
      have h3 := e2 k r rfl
      have h4 : w = v := Option.some.inj e1
      have := f.1
      omega
    · rcases List.mem_cons.mp (show m ∈ (guestAt h.rooms g k w, free) :: (movesGo h.rooms g (k :: r) (guestAt h.rooms g k w)).1 from hm) with e | hm
      · refine ⟨w, by rw [e]; exact g1, fun a r' q => ?_⟩
        have : w = a := (List.cons.inj q).1
        omega
      · obtain ⟨v, e1, e2⟩ := b m hm
        refine ⟨v, e1, fun a r' q => ?_⟩
        have h5 : w = a := (List.cons.inj q).1
        have h3 := e2 k r rfl
        have := f.1
        omega
/-! ### the moves carried out -/
theorem nameIn_some {places : List (α × Int)} {room : Int} (h : ∃ p ∈ places, p.2 = room) : ∃ n, nameIn places room = some n ∧ (n, room) ∈ places := by
  obtain ⟨p, hp, e⟩ := h
  unfold nameIn
  cases q : (places.filter fun p => decide (p.2 = room)) with
  | nil =>
    have : p ∈ places.filter fun p => decide (p.2 = room) := List.mem_filter.mpr ⟨hp, decide_eq_true e⟩
    rw [q] at this
    exact absurd this (by simp)
  | cons a r =>
    have ha : a ∈ places.filter fun p => decide (p.2 = room) := by rw [q]; exact List.mem_cons_self
    obtain ⟨h1, h2⟩ := List.mem_filter.mp ha
    refine ⟨a.1, rfl, ?_⟩
    rw [← of_decide_eq_true h2]
    exact h1
structure PlOk (n : Nat) (pl0 pl : List (α × Int)) (ms : List (Int × Int)) : Prop where
  nd : (keysE pl).Nodup
  keys : keysE pl = keysE pl0
  inr : ∀ p ∈ pl, 0 ≤ p.2 ∧ p.2 < n
  there : ∀ m ∈ ms, ∃ p ∈ pl, p.2 = m.1
theorem move_ok {n : Nat} {pl0 pl : List (α × Int)} {m : Int × Int} {ms : List (Int × Int)} (ok : PlOk n pl0 pl (m :: ms)) (hr : 0 ≤ m.2 ∧ m.2 < n) (hd : ∀ b ∈ ms, m.1 ≠ b.1) :
    ∃ g, nameIn pl m.1 = some g ∧ g ∈ keysE pl ∧ moveOne pl m = putE pl g m.2 ∧ PlOk n pl0 (moveOne pl m) ms := by
  obtain ⟨g, h1, h2⟩ := nameIn_some (ok.there m List.mem_cons_self)
  have hk : g ∈ keysE pl := List.mem_map.mpr ⟨_, h2, rfl⟩
  have e : moveOne pl m = putE pl g m.2 := by unfold moveOne; rw [h1]
  refine ⟨g, h1, hk, e, ?_⟩
  rw [e]
  refine ⟨nodup_put ok.nd, (keys_put_old hk).trans ok.keys, fun p hp => ?_, fun b hb => ?_⟩
  · rcases mem_put hp with q | q
    · exact ok.inr p q.1
    · rw [q]; exact hr
  · obtain ⟨p, hp, e2⟩ := ok.there b (List.mem_cons_of_mem _ hb)
    by_cases c : p.1 = g
    · exact absurd ((key_inj ok.nd h2 (show (g, p.2) ∈ pl from c ▸ hp)).trans e2) (hd b hb)
    · exact ⟨p, put_keep hp c, e2⟩
theorem moves_end {n : Nat} {pl0 : List (α × Int)} : ∀ {ms : List (Int × Int)} {pl : List (α × Int)}, PlOk n pl0 pl ms → (∀ m ∈ ms, 0 ≤ m.2 ∧ m.2 < n) → ms.Pairwise (fun a b => a.1 ≠ b.1) → PlOk n pl0 (ms.foldl moveOne pl) []
  | [], _, ok, _, _ => ok
  | m :: ms, pl, ok, hr, hd => by
    obtain ⟨h1, h2⟩ := List.pairwise_cons.mp hd
    obtain ⟨_, _, _, _, h⟩ := move_ok ok (hr m List.mem_cons_self) h1
    rw [List.foldl_cons]
    exact moves_end (ms := ms) (pl := moveOne pl m) h (fun b hb => hr b (List.mem_cons_of_mem _ hb)) h2
theorem free_go {rooms : List Int} {g : List (Int × Int)} {k : Int} : ∀ (l : List Nat) (f : Option Int), (∀ i ∈ l, i < rooms.length) → (∀ r, f = some r → 0 ≤ r ∧ r < rooms.length) → ∀ r, l.foldl (freeStep rooms g k) f = some r → 0 ≤ r ∧ r < rooms.length
  | [], f, _, hf => hf
  | i :: l, f, hl, hf => by
    rw [List.foldl_cons]
    refine free_go l _ (fun j hj => hl j (List.mem_cons_of_mem _ hj)) fun r e => ?_
    unfold freeStep at e
    split at e
    · cases e
      have := hl i List.mem_cons_self
      omega
    · exact hf r e
theorem free_rng {rooms : List Int} {g : List (Int × Int)} {k r : Int} (h : freeFrom rooms g k = some r) : 0 ≤ r ∧ r < rooms.length :=
  free_go (List.range rooms.length) none (fun i hi => List.mem_range.mp hi) (fun _ e => nomatch e) r h
theorem letIn_ok {h h' : Hs α} (ok : HsOk h) {name : α} {kind : Int} (hk : 1 ≤ kind) (hn : name ∉ keysE h.places) (e : letIn h name kind = .inr h') : HsOk h' ∧ h'.rooms = h.rooms ∧ keysE h'.places = keysE h.places ++ [name] := by
  unfold letIn at e
  split at e
  · cases e
  · rename_i free hf
    have e := Sum.inr.inj e
    have G := guests_ok ok
    obtain ⟨f0, f1⟩ := free_rng hf
    obtain ⟨M, _, c, d⟩ := moves_ok G (fallsOf h kind).reverse free ⟨_, (falls_ok h.rooms (guestsOf h) kind.toNat kind).1, rfl⟩ f0 f1
    have P := moves_end (n := h.rooms.length) (pl0 := h.places) ⟨ok.nd, rfl, ok.inr, M.there⟩ M.rng M.diff
    have hn' : name ∉ keysE ((movesGo h.rooms (guestsOf h) (fallsOf h kind).reverse free).1.foldl moveOne h.places) := by rw [P.keys]; exact hn
    have hw : name ∉ keysE h.wishes := by rw [ok.keys]; exact hn
    subst e
    refine ⟨⟨nodup_put P.nd, ?_, fun p hp => ?_, fun p hp => ?_⟩, rfl, ?_⟩
    · show keysE (putE h.wishes name kind) = keysE (putE _ name _)
      rw [keys_put_new hn', keys_put_new hw, P.keys, ok.keys]
    · rcases mem_put hp with q | q
      · exact P.inr p q.1
      · rw [q]; exact ⟨c, d⟩
    · rcases mem_put hp with q | q
      · exact ok.wi p q.1
      · rw [q]; exact hk
    · show keysE (putE _ name _) = _
      rw [keys_put_new hn', P.keys]
theorem out_ok {h : Hs α} (ok : HsOk h) (n : α) : HsOk (outH h n) :=
  ⟨nodup_drop ok.nd, by show keysE (dropE h.wishes n) = keysE (dropE h.places n); rw [keys_drop, keys_drop, ok.keys], fun p hp => ok.inr p (mem_drop.mp hp).1, fun p hp => ok.wi p (mem_drop.mp hp).1⟩
end
end NbM
end
section
set_option linter.all false
/-! The deeds; what stays true of a book; two books, one with zz in the line. -/
namespace NbM
section
variable {α : Type} [DecidableEq α]
structure Bk (α : Type) where
  ladder : List Int
  risk : Int × Int
  es : List (α × Ent)
  ev : Int
  hs : Hs α
inductive Tell (α : Type) where
  | unit | yes (b : Bool) | names (l : List α) | lists (l : List (List α)) | inn | away (k : Int) (l : List α)
inductive Deed (α : Type) where
  | non | wish (n : α) (k f b : Int) (c : Int × Int) | withdraw (n : α) | absent (n : α) | go (n : α) | come (n : α) | close
def fillB (b : Bk α) : Bk α := { b with es := (walk b.ladder b.risk (waitingE b.es) b.es).1 }
def fillN (b : Bk α) : List α := (walk b.ladder b.risk (waitingE b.es) b.es).2
def dropB (b : Bk α) (n : α) : Bk α := { b with es := dropE b.es n }
def outB (b : Bk α) (n : α) : Bk α := { b with es := dropE b.es n, hs := outH b.hs n }
def newE (k f bh : Int) (c : Int × Int) (w : Word) : Ent := ⟨w, k, f, bh, c⟩
def missingOf (b : Bk α) : List α := (b.es.filter fun p => decide (p.2.word = .taken) && decide (p.2.first = b.ev)).map (·.1)
def leavingOf (b : Bk α) : List α := (b.es.filter fun p => decide (p.2.word = .house) && decide (p.2.behind = b.ev)).map (·.1)
def lateOf (b : Bk α) : List α := (b.es.filter fun p => decide (p.2.word = .waits) && decide (p.2.first < b.ev)).map (·.1)
def close1 (b : Bk α) : Bk α := { (missingOf b).foldl dropB b with ev := b.ev + 1 }
def close2 (b : Bk α) : Bk α := (leavingOf b).foldl outB b
def close3 (b : Bk α) : Bk α := (lateOf b).foldl dropB b
def doB (b : Bk α) : Deed α → Bk α × Tell α
  | .non => (b, .unit)
  | .wish n k f bh c => if paper b.ladder b.risk (b.es ++ [(n, newE k f bh c .waits)]) n = none then ({ b with es := b.es ++ [(n, newE k f bh c .taken)] }, .yes true) else ({ b with es := b.es ++ [(n, newE k f bh c .waits)] }, .yes false)
  | .withdraw n => (fillB (dropB b n), .names (fillN (dropB b n)))
  | .absent n => (fillB (dropB b n), .names (fillN (dropB b n)))
  | .go n => (fillB (outB b n), .names (fillN (outB b n)))
  | .come n =>
    match getE b.es n with
    | none => (b, .unit)
    | some e =>
      match letIn b.hs n e.kind with
      | .inl k => (fillB (dropB b n), .away k (fillN (dropB b n)))
      | .inr h => ({ b with hs := h, es := setW b.es n .house }, .inn)
  | .close => (fillB (close3 (close2 (close1 b))), .lists [missingOf b, leavingOf (close1 b), lateOf (close2 (close1 b)), fillN (close3 (close2 (close1 b)))])
/-- all that stays true of a book, but that the line is stable -/
structure Pre (al : List α) (b : Bk α) : Prop where
  l1 : 1 ≤ b.ladder.length
  l4 : b.ladder.length ≤ 4
  ln : ∀ x ∈ b.ladder, 0 ≤ x
  r0 : 0 ≤ b.risk.1
  r1 : b.risk.1 ≤ b.risk.2
  r2 : 1 ≤ b.risk.2
  r9 : b.risk.2 ≤ 1000000000
  good : Good b.ladder.length b.es
  hs : HsOk b.hs
  hk : ∀ n, n ∈ keysE b.hs.places ↔ ∃ e, (n, e) ∈ b.es ∧ e.word = .house
  now : ∀ p ∈ b.es, (p.2.word ≠ .house → b.ev ≤ p.2.first) ∧ (p.2.word = .house → b.ev < p.2.behind)
  e0 : 0 ≤ b.ev
  e9 : b.ev ≤ 399
  al : ∀ n ∈ keysE b.es, n ∈ al
structure Ok (al : List α) (b : Bk α) : Prop where
  pre : Pre al b
  stab : Stable b.ladder b.risk b.es
def DeedOk (al : List α) (b : Bk α) : Deed α → Prop
  | .non => True
  | .wish n k f bh c => n ∈ al ∧ n ∉ keysE b.es ∧ EntOk b.ladder.length (newE k f bh c .waits) ∧ b.ev ≤ f
  | .withdraw n => ∃ e, (n, e) ∈ b.es ∧ e.word ≠ .house
  | .absent n => ∃ e, (n, e) ∈ b.es ∧ e.word = .taken ∧ e.first = b.ev
  | .come n => ∃ e, (n, e) ∈ b.es ∧ e.word = .taken ∧ e.first = b.ev
  | .go n => ∃ e, (n, e) ∈ b.es ∧ e.word = .house
  | .close => b.ev < 399
theorem good_drop {L : Int} {es : List (α × Ent)} (g : Good L es) (n : α) : Good L (dropE es n) := ⟨nodup_drop g.nd, fun p hp => g.ok p (mem_drop.mp hp).1⟩
theorem pre_fill {al : List α} {b : Bk α} (p : Pre al b) : Ok al (fillB b) := by
  obtain ⟨W, S⟩ := fill_ok (ladder := b.ladder) (risk := b.risk) (by have := p.r2; omega) p.good
  have kp := W.keys
  refine ⟨⟨p.l1, p.l4, p.ln, p.r0, p.r1, p.r2, p.r9, W.good, p.hs, fun n => ?_, fun q hq => ?_, p.e0, p.e9, fun n hn => p.al n (by rw [← kp]; exact hn)⟩, S⟩
  · rw [show (fillB b).hs = b.hs from rfl, p.hk n]
    constructor
    · rintro ⟨e, h1, h2⟩
      exact ⟨e, W.keep _ h1 (.inl (by rw [h2]; decide)), h2⟩
    · rintro ⟨e, h1, h2⟩
      rcases W.old _ h1 with h | ⟨e', _, _, e2, _⟩
      · exact ⟨e, h, h2⟩
      · rw [show e = { e' with word := Word.taken } from e2] at h2; cases h2
  · rcases W.old q hq with h | ⟨e, he, ew, e2, _⟩
    · exact p.now q h
    · have := p.now _ he
      rw [e2]
      exact ⟨fun _ => this.1 (by rw [ew]; decide), fun z => by cases z⟩
theorem pre_drop {al : List α} {b : Bk α} (p : Pre al b) {n : α} (hn : ∀ e, (n, e) ∈ b.es → e.word ≠ .house) : Pre al (dropB b n) := by
  refine ⟨p.l1, p.l4, p.ln, p.r0, p.r1, p.r2, p.r9, good_drop p.good n, p.hs, fun m => ?_, fun q hq => p.now q (mem_drop.mp hq).1, p.e0, p.e9, fun m hm => ?_⟩
  · rw [show (dropB b n).hs = b.hs from rfl, p.hk m]
    constructor
    · rintro ⟨e, h1, h2⟩
      exact ⟨e, mem_drop.mpr ⟨h1, fun z => hn e (z ▸ h1) h2⟩, h2⟩
    · rintro ⟨e, h1, h2⟩
      exact ⟨e, (mem_drop.mp h1).1, h2⟩
  · obtain ⟨q, hq, e⟩ := List.mem_map.mp hm
    exact p.al m (List.mem_map.mpr ⟨q, (mem_drop.mp hq).1, e⟩)
theorem keys_out (h : Hs α) (n m : α) : m ∈ keysE (outH h n).places ↔ m ∈ keysE h.places ∧ m ≠ n := by
  show m ∈ keysE (dropE h.places n) ↔ _
  rw [keys_drop, List.mem_filter, decide_eq_true_eq]
theorem pre_out {al : List α} {b : Bk α} (p : Pre al b) (n : α) : Pre al (outB b n) := by
  refine ⟨p.l1, p.l4, p.ln, p.r0, p.r1, p.r2, p.r9, good_drop p.good n, out_ok p.hs n, fun m => ?_, fun q hq => p.now q (mem_drop.mp hq).1, p.e0, p.e9, fun m hm => ?_⟩
  · rw [show (outB b n).hs = outH b.hs n from rfl, keys_out, p.hk m]
    constructor
    · rintro ⟨⟨e, h1, h2⟩, h3⟩
      exact ⟨e, mem_drop.mpr ⟨h1, h3⟩, h2⟩
    · rintro ⟨e, h1, h2⟩
      exact ⟨⟨e, (mem_drop.mp h1).1, h2⟩, (mem_drop.mp h1).2⟩
  · obtain ⟨q, hq, e⟩ := List.mem_map.mp hm
    exact p.al m (List.mem_map.mpr ⟨q, (mem_drop.mp hq).1, e⟩)
theorem dom_snoc (l : List Stay) (s : Stay) : Dom l (l ++ [s]) := by
  induction l with
  | nil => exact .add .nil
  | cons a l ih => exact .same ih
theorem good_snoc {L : Int} {es : List (α × Ent)} (g : Good L es) {n : α} {e : Ent} (hn : n ∉ keysE es) (he : EntOk L e) : Good L (es ++ [(n, e)]) := by
  refine ⟨?_, fun p hp => ?_⟩
  · unfold keysE
    rw [List.map_append, List.nodup_append]
    exact ⟨g.nd, by simp, fun a ha b hb z => hn (by simp at hb; rw [← hb, ← z]; exact ha)⟩
  · rcases List.mem_append.mp hp with h | h
    · exact g.ok p h
    · rw [List.mem_singleton.mp h]; exact he
theorem pre_snoc {al : List α} {b : Bk α} (p : Pre al b) {n : α} {e : Ent} (ha : n ∈ al) (hn : n ∉ keysE b.es) (he : EntOk b.ladder.length e) (hw : e.word ≠ .house) (hf : b.ev ≤ e.first) : Pre al { b with es := b.es ++ [(n, e)] } := by
  refine ⟨p.l1, p.l4, p.ln, p.r0, p.r1, p.r2, p.r9, good_snoc p.good hn he, p.hs, fun m => ?_, fun q hq => ?_, p.e0, p.e9, fun m hm => ?_⟩
  · rw [p.hk m]
    constructor
    · rintro ⟨e, h1, h2⟩
      exact ⟨e, List.mem_append_left _ h1, h2⟩
    · rintro ⟨e', h1, h2⟩
      rcases List.mem_append.mp h1 with h | h
      · exact ⟨e', h, h2⟩
      · have := congrArg Prod.snd (List.mem_singleton.mp h)
        rw [show e' = e from this] at h2
        exact absurd h2 hw
  · rcases List.mem_append.mp hq with h | h
    · exact p.now q h
    · rw [List.mem_singleton.mp h]
      exact ⟨fun _ => hf, fun z => absurd z hw⟩
  · obtain ⟨q, hq, z⟩ := List.mem_map.mp hm
    rcases List.mem_append.mp hq with h | h
    · exact p.al m (List.mem_map.mpr ⟨q, h, z⟩)
    · rw [← z, List.mem_singleton.mp h]; exact ha
theorem drops_mem {β : Type} {ns : List α} {es : List (α × β)} {p : α × β} : p ∈ ns.foldl dropE es ↔ p ∈ es ∧ p.1 ∉ ns := by
  induction ns generalizing es with
  | nil => simp
  | cons n r ih =>
    rw [List.foldl_cons, ih, mem_drop, List.mem_cons, not_or]
    constructor
    · rintro ⟨⟨a, b⟩, c⟩; exact ⟨a, b, c⟩
    · rintro ⟨a, b, c⟩; exact ⟨⟨a, b⟩, c⟩
theorem dropB_fold (ns : List α) : ∀ b : Bk α, ns.foldl dropB b = { b with es := ns.foldl dropE b.es } := by
  induction ns with
  | nil => intro b; rfl
  | cons n r ih => intro b; rw [List.foldl_cons, ih, List.foldl_cons]; rfl
theorem outB_fold (ns : List α) : ∀ b : Bk α, ns.foldl outB b = { b with es := ns.foldl dropE b.es, hs := ns.foldl outH b.hs } := by
  induction ns with
  | nil => intro b; rfl
  | cons n r ih => intro b; rw [List.foldl_cons, ih, List.foldl_cons, List.foldl_cons]; rfl
theorem pre_outs {al : List α} : ∀ (ns : List α) (b : Bk α), Pre al b → Pre al (ns.foldl outB b)
  | [], _, p => p
  | n :: r, b, p => pre_outs r (outB b n) (pre_out p n)
theorem pre_drops {al : List α} : ∀ (ns : List α) (b : Bk α), Pre al b → (∀ n ∈ ns, ∀ e, (n, e) ∈ b.es → e.word ≠ .house) → Pre al (ns.foldl dropB b)
  | [], _, p, _ => p
  | n :: r, b, p, h => pre_drops r (dropB b n) (pre_drop p (h n List.mem_cons_self)) fun m hm e he => h m (List.mem_cons_of_mem _ hm) e (mem_drop.mp he).1
/-- a book in the middle of its closing: what is over still stands for a while -/
theorem mem_by {q : α × Ent → Bool} {es : List (α × Ent)} {n : α} (h : n ∈ (es.filter q).map (·.1)) : ∃ e, (n, e) ∈ es ∧ q (n, e) = true := by
  obtain ⟨p, hp, e⟩ := List.mem_map.mp h
  obtain ⟨h1, h2⟩ := List.mem_filter.mp hp
  subst e
  exact ⟨p.2, h1, h2⟩
theorem by_mem {q : α × Ent → Bool} {es : List (α × Ent)} {n : α} {e : Ent} (h : (n, e) ∈ es) (hq : q (n, e) = true) : n ∈ (es.filter q).map (·.1) := List.mem_map.mpr ⟨(n, e), List.mem_filter.mpr ⟨h, hq⟩, rfl⟩
/-- the entries behind the three dropings -/
theorem close_mem {b : Bk α} {L : Int} (g : Good L b.es) {p : α × Ent} : p ∈ (close3 (close2 (close1 b))).es ↔ p ∈ b.es ∧ ¬ (p.2.word = .taken ∧ p.2.first = b.ev) ∧ ¬ (p.2.word = .house ∧ p.2.behind = b.ev + 1) ∧ ¬ (p.2.word = .waits ∧ p.2.first < b.ev + 1) := by
  have e1 : (close1 b).es = (missingOf b).foldl dropE b.es := by unfold close1; rw [dropB_fold]
  have e2 : (close2 (close1 b)).es = (leavingOf (close1 b)).foldl dropE (close1 b).es := by unfold close2; rw [outB_fold]
  have e3 : (close3 (close2 (close1 b))).es = (lateOf (close2 (close1 b))).foldl dropE (close2 (close1 b)).es := by unfold close3; rw [dropB_fold]
  have v1 : (close1 b).ev = b.ev + 1 := rfl
  have v2 : (close2 (close1 b)).ev = b.ev + 1 := by unfold close2; rw [outB_fold]; rfl
  have m1 : ∀ {p : α × Ent}, p ∈ (close1 b).es ↔ p ∈ b.es ∧ ¬ (p.2.word = .taken ∧ p.2.first = b.ev) := fun {p} => by
    rw [e1, drops_mem]
    refine ⟨fun ⟨h1, h2⟩ => ⟨h1, fun z => h2 (by_mem (e := p.2) h1 (by simp [z.1, z.2]))⟩, fun ⟨h1, h2⟩ => ⟨h1, fun z => ?_⟩⟩
    obtain ⟨e, he, q⟩ := mem_by z
    have : e = p.2 := key_inj g.nd he h1
    subst this
    simp at q
    exact h2 q
  have m2 : ∀ {p : α × Ent}, p ∈ (close2 (close1 b)).es ↔ p ∈ (close1 b).es ∧ ¬ (p.2.word = .house ∧ p.2.behind = b.ev + 1) := fun {p} => by
    rw [e2, drops_mem]
    refine ⟨fun ⟨h1, h2⟩ => ⟨h1, fun z => h2 (by_mem (e := p.2) h1 (by simp [z.1, z.2, v1]))⟩, fun ⟨h1, h2⟩ => ⟨h1, fun z => ?_⟩⟩
    obtain ⟨e, he, q⟩ := mem_by z
    have : e = p.2 := key_inj g.nd (m1.mp he).1 (m1.mp h1).1
    subst this
    simp [v1] at q
    exact h2 q
  rw [e3, drops_mem]
  constructor
  · rintro ⟨h1, h2⟩
    obtain ⟨h3, h4⟩ := m2.mp h1
    obtain ⟨h5, h6⟩ := m1.mp h3
    exact ⟨h5, h6, h4, fun z => h2 (by_mem (e := p.2) h1 (by simp [z.1, z.2, v2]))⟩
  · rintro ⟨h1, h2, h3, h4⟩
    have a := m2.mpr ⟨m1.mpr ⟨h1, h2⟩, h3⟩
    refine ⟨a, fun z => ?_⟩
    obtain ⟨e, he, q⟩ := mem_by z
    have : e = p.2 := key_inj g.nd (m1.mp (m2.mp he).1).1 h1
    subst this
    simp [v2] at q
    exact h4 q
/-- the same book, an evening on; the times are told apart -/
structure Pre' (al : List α) (b : Bk α) : Prop where
  l1 : 1 ≤ b.ladder.length
  l4 : b.ladder.length ≤ 4
  ln : ∀ x ∈ b.ladder, 0 ≤ x
  r0 : 0 ≤ b.risk.1
  r1 : b.risk.1 ≤ b.risk.2
  r2 : 1 ≤ b.risk.2
  r9 : b.risk.2 ≤ 1000000000
  good : Good b.ladder.length b.es
  hs : HsOk b.hs
  hk : ∀ n, n ∈ keysE b.hs.places ↔ ∃ e, (n, e) ∈ b.es ∧ e.word = .house
  e0 : 0 ≤ b.ev
  e9 : b.ev ≤ 399
  al : ∀ n ∈ keysE b.es, n ∈ al
theorem Pre.less {al : List α} {b : Bk α} (p : Pre al b) : Pre' al b := ⟨p.l1, p.l4, p.ln, p.r0, p.r1, p.r2, p.r9, p.good, p.hs, p.hk, p.e0, p.e9, p.al⟩
theorem Pre'.drop {al : List α} {b : Bk α} (p : Pre' al b) {n : α} (hn : ∀ e, (n, e) ∈ b.es → e.word ≠ .house) : Pre' al (dropB b n) := by
  refine ⟨p.l1, p.l4, p.ln, p.r0, p.r1, p.r2, p.r9, good_drop p.good n, p.hs, fun m => ?_, p.e0, p.e9, fun m hm => ?_⟩
  · rw [show (dropB b n).hs = b.hs from rfl, p.hk m]
    constructor
    · rintro ⟨e, h1, h2⟩
      exact ⟨e, mem_drop.mpr ⟨h1, fun z => hn e (z ▸ h1) h2⟩, h2⟩
    · rintro ⟨e, h1, h2⟩
      exact ⟨e, (mem_drop.mp h1).1, h2⟩
  · obtain ⟨q, hq, e⟩ := List.mem_map.mp hm
    exact p.al m (List.mem_map.mpr ⟨q, (mem_drop.mp hq).1, e⟩)
theorem Pre'.out {al : List α} {b : Bk α} (p : Pre' al b) (n : α) : Pre' al (outB b n) := by
  refine ⟨p.l1, p.l4, p.ln, p.r0, p.r1, p.r2, p.r9, good_drop p.good n, out_ok p.hs n, fun m => ?_, p.e0, p.e9, fun m hm => ?_⟩
  · rw [show (outB b n).hs = outH b.hs n from rfl, keys_out, p.hk m]
    constructor
    · rintro ⟨⟨e, h1, h2⟩, h3⟩
      exact ⟨e, mem_drop.mpr ⟨h1, h3⟩, h2⟩
    · rintro ⟨e, h1, h2⟩
      exact ⟨⟨e, (mem_drop.mp h1).1, h2⟩, (mem_drop.mp h1).2⟩
  · obtain ⟨q, hq, e⟩ := List.mem_map.mp hm
    exact p.al m (List.mem_map.mpr ⟨q, (mem_drop.mp hq).1, e⟩)
theorem Pre'.drops {al : List α} : ∀ (ns : List α) (b : Bk α), Pre' al b → (∀ n ∈ ns, ∀ e, (n, e) ∈ b.es → e.word ≠ .house) → Pre' al (ns.foldl dropB b)
  | [], _, p, _ => p
  | n :: r, b, p, h => Pre'.drops r (dropB b n) (p.drop (h n List.mem_cons_self)) fun m hm e he => h m (List.mem_cons_of_mem _ hm) e (mem_drop.mp he).1
theorem Pre'.outs {al : List α} : ∀ (ns : List α) (b : Bk α), Pre' al b → Pre' al (ns.foldl outB b)
  | [], _, p => p
  | n :: r, b, p => Pre'.outs r (outB b n) (p.out n)
theorem pre'_close1 {al : List α} {b : Bk α} (p : Pre' al b) (h : b.ev < 399) : Pre' al (close1 b) := by
  have q := Pre'.drops (missingOf b) b p fun n hn e he => by
    obtain ⟨e', he', z⟩ := mem_by hn
    rw [key_inj p.good.nd he he']
    simp at z
    rw [z.1]
    decide
  have ee : ((missingOf b).foldl dropB b).ev = b.ev := by rw [dropB_fold]
  exact ⟨q.l1, q.l4, q.ln, q.r0, q.r1, q.r2, q.r9, q.good, q.hs, q.hk, by show 0 ≤ b.ev + 1; have := p.e0; omega, by show b.ev + 1 ≤ 399; omega, q.al⟩
theorem pre'_close2 {al : List α} {b : Bk α} (p : Pre' al b) : Pre' al (close2 b) := Pre'.outs _ _ p
theorem pre'_close3 {al : List α} {b : Bk α} (p : Pre' al b) : Pre' al (close3 b) := Pre'.drops _ _ p fun n hn e he => by
  obtain ⟨e', he', z⟩ := mem_by hn
  rw [key_inj p.good.nd he he']
  simp at z
  rw [z.1]
  decide
theorem close_pre {al : List α} {b : Bk α} (p : Pre al b) (h : b.ev < 399) : Pre al (close3 (close2 (close1 b))) := by
  have q := pre'_close3 (pre'_close2 (pre'_close1 p.less h))
  have ee : (close3 (close2 (close1 b))).ev = b.ev + 1 := by unfold close3 close2; rw [dropB_fold, outB_fold]; rfl
  refine ⟨q.l1, q.l4, q.ln, q.r0, q.r1, q.r2, q.r9, q.good, q.hs, q.hk, fun x hx => ?_, q.e0, q.e9, q.al⟩
  obtain ⟨h1, h2, h3, h4⟩ := (close_mem p.good).mp hx
  have n := p.now x h1
  rw [ee]
  refine ⟨fun hw => ?_, fun hw => ?_⟩
  · have := n.1 hw
    cases hx : x.2.word with
    | waits => have : ¬ x.2.first < b.ev + 1 := fun z => h4 ⟨hx, z⟩; omega
    | taken => have : ¬ x.2.first = b.ev := fun z => h2 ⟨hx, z⟩; omega
    | house => exact absurd hx hw
  · have := n.2 hw
    have : ¬ x.2.behind = b.ev + 1 := fun z => h3 ⟨hw, z⟩
    omega
theorem doB_ok {al : List α} {b : Bk α} (o : Ok al b) {d : Deed α} (h : DeedOk al b d) : Ok al (doB b d).1 := by
  have p := o.pre
  have hr : 0 ≤ b.risk.2 := by have := p.r2; omega
  cases d with
  | non => exact o
  | wish n k f bh c =>
    obtain ⟨ha, hn, he, hf⟩ := h
    have pp : paper b.ladder b.risk (b.es ++ [(n, newE k f bh c .waits)]) n = tight (counted b.es) (stayOf (newE k f bh c .waits)) b.ladder b.risk := by
      unfold paper
      rw [mem_getE (good_snoc p.good hn he).nd (List.mem_append_right _ (List.mem_singleton.mpr rfl)), counted_app]
      show tight (counted b.es ++ []) _ _ _ = _
      rw [List.append_nil]
    show Ok al (if _ then _ else _ : Bk α × Tell α).1
    split
    · refine ⟨pre_snoc p ha hn (he.word .taken) (show Word.taken ≠ Word.house by decide) hf, fun x hx hw => ?_⟩
      rcases List.mem_append.mp hx with hx | hx
      · show tight (counted (b.es ++ [(n, newE k f bh c .taken)])) _ _ _ ≠ none
        rw [counted_app]
        exact tight_mono hr (dom_snoc _ _) (counted_ok p.good.ok) (fun s hs => by
          rcases List.mem_append.mp hs with hs | hs
          · exact counted_ok p.good.ok s hs
          · rw [List.mem_singleton.mp hs]; exact (he.word .taken).stay) (p.good.ok x hx).stay (o.stab x hx hw)
      · rw [List.mem_singleton.mp hx] at hw; cases hw
    · rename_i hno
      refine ⟨pre_snoc p ha hn he (show Word.waits ≠ Word.house by decide) hf, fun x hx hw => ?_⟩
      have ec : counted (b.es ++ [(n, newE k f bh c .waits)]) = counted b.es := by rw [counted_app]; exact List.append_nil _
      show tight (counted (b.es ++ [(n, newE k f bh c .waits)])) _ _ _ ≠ none
      rw [ec]
      rcases List.mem_append.mp hx with hx | hx
      · exact o.stab x hx hw
      · rw [List.mem_singleton.mp hx]
        rw [pp] at hno
        exact hno
  | withdraw n =>
    obtain ⟨e, he, hw⟩ := h
    exact pre_fill (pre_drop p fun e' he' => by rw [key_inj p.good.nd he' he]; exact hw)
  | absent n =>
    obtain ⟨e, he, hw, _⟩ := h
    exact pre_fill (pre_drop p fun e' he' => by rw [key_inj p.good.nd he' he, hw]; decide)
  | go n => exact pre_fill (pre_out p n)
  | come n =>
    obtain ⟨e, he, hw, hf⟩ := h
    have hg := mem_getE p.good.nd he
    show Ok al (match getE b.es n with | none => (b, Tell.unit) | some e => _ : Bk α × Tell α).1
    rw [hg]
    show Ok al (match letIn b.hs n e.kind with | .inl k => _ | .inr h => _ : Bk α × Tell α).1
    have hnh : n ∉ keysE b.hs.places := fun z => by
      obtain ⟨e', he', w'⟩ := (p.hk n).mp z
      rw [key_inj p.good.nd he' he, hw] at w'
      cases w'
    cases hl : letIn b.hs n e.kind with
    | inl k => exact pre_fill (pre_drop p fun e' he' => by rw [key_inj p.good.nd he' he, hw]; decide)
    | inr h' =>
      obtain ⟨H, hro, hke⟩ := letIn_ok p.hs (p.good.ok _ he).k1 hnh hl
      have ht : ∀ q ∈ b.es, q.1 = n → q.2.word = .taken := fun q hq z => by rw [key_inj p.good.nd (show (n, q.2) ∈ b.es from z ▸ hq) he]; exact hw
      have G := p.good.setW n .house
      refine ⟨⟨p.l1, p.l4, p.ln, p.r0, p.r1, p.r2, p.r9, G, H, fun m => ?_, fun x hx => ?_, p.e0, p.e9, fun m hm => p.al m (by rw [← keys_setW b.es n .house]; exact hm)⟩, fun x hx hxw => ?_⟩
      · show m ∈ keysE h'.places ↔ _
        rw [hke, List.mem_append, List.mem_singleton, p.hk m]
        constructor
        · rintro (⟨e', h1, h2⟩ | rfl)
          · by_cases c : m = n
            · subst c
              exact ⟨_, setW_at h1, rfl⟩
            · exact ⟨e', setW_keep h1 c, h2⟩
          · exact ⟨_, setW_at he, rfl⟩
        · rintro ⟨e', h1, h2⟩
          rcases mem_setW h1 with q | ⟨q, _⟩
          · exact .inl ⟨e', q.1, h2⟩
          · exact .inr q
      · rcases mem_setW hx with q | ⟨q, e', he', q2⟩
        · exact p.now x q.1
        · rw [q2]
          have z : e' = e := key_inj p.good.nd he' he
          refine ⟨fun w => absurd rfl w, fun _ => ?_⟩
          show b.ev < e'.behind
          rw [z]
          have := (p.good.ok _ he).fb
          have h5 : e.first < e.behind := this
          omega
      · rcases mem_setW hx with q | ⟨q, e', he', q2⟩
        · exact tight_mono hr (counted_house n ht) (counted_ok p.good.ok) (counted_ok G.ok) (p.good.ok x q.1).stay (o.stab x q.1 hxw)
        · rw [q2] at hxw; cases hxw
  | close => exact pre_fill (close_pre p h)
end
end NbM
end
section
set_option linter.all false
/-! Two books, one with zz in the line: every deed does the same to both, or zz is taken. -/
namespace NbM
section
variable {α : Type} [DecidableEq α]
structure Rel (zz : α) (B O : Bk α) : Prop where
  lad : O.ladder = B.ladder
  risk : O.risk = B.risk
  ev : O.ev = B.ev
  hs : O.hs = B.hs
  es : O.es = dropE B.es zz
  zw : ∀ p ∈ B.es, p.1 = zz → p.2.word = .waits
def tellZ (zz : α) : Tell α → Tell α
  | .unit => .unit
  | .yes b => .yes b
  | .names l => .names (noZ zz l)
  | .lists l => .lists (l.map (noZ zz))
  | .inn => .inn
  | .away k l => .away k (noZ zz l)
theorem noZ_noZ (zz : α) (l : List α) : noZ zz (noZ zz l) = noZ zz l := by
  unfold noZ
  rw [List.filter_filter]
  simp
theorem noZ_self {zz : α} {l : List α} (h : zz ∉ l) : noZ zz l = l := by
  unfold noZ
  rw [List.filter_eq_self]
  exact fun a ha => decide_eq_true fun e => h (e ▸ ha)
theorem drop_comm {β : Type} (es : List (α × β)) (a b : α) : dropE (dropE es a) b = dropE (dropE es b) a := by
  unfold dropE
  rw [List.filter_filter, List.filter_filter]
  refine List.filter_congr fun p _ => ?_
  exact Bool.and_comm ..
theorem drop_drop {β : Type} (es : List (α × β)) (a : α) : dropE (dropE es a) a = dropE es a := by
  unfold dropE
  rw [List.filter_filter]
  simp
theorem drops_z {β : Type} (zz : α) : ∀ (ns : List α) (es : List (α × β)), (noZ zz ns).foldl dropE (dropE es zz) = dropE (ns.foldl dropE es) zz
  | [], _ => rfl
  | n :: r, es => by
    rw [List.foldl_cons]
    by_cases c : n = zz
    · have e1 : noZ zz (n :: r) = noZ zz r := by unfold noZ; rw [List.filter_cons, if_neg (by simp [c])]
      rw [e1, ← drops_z zz r (dropE es n), c, drop_drop]
    · have e1 : noZ zz (n :: r) = n :: noZ zz r := by unfold noZ; rw [List.filter_cons, if_pos (by simp [c])]
      rw [e1, List.foldl_cons, drop_comm, drops_z zz r]
theorem by_z (zz : α) (q : α × Ent → Bool) (es : List (α × Ent)) : ((dropE es zz).filter q).map (·.1) = noZ zz ((es.filter q).map (·.1)) := by
  induction es with
  | nil => rfl
  | cons p es ih =>
    unfold dropE noZ at ih ⊢
    rw [List.filter_cons]
    by_cases c : p.1 = zz
    · rw [if_neg (by simp [c]), ih, List.filter_cons]
      split
      · rw [List.map_cons, List.filter_cons, if_neg (by simp [c])]
      · rfl
    · rw [if_pos (by simp [c]), List.filter_cons, List.filter_cons]
      split
      · rw [List.map_cons, List.map_cons, List.filter_cons, if_pos (by simp [c]), ih]
      · exact ih
theorem waiting_z (zz : α) (es : List (α × Ent)) : waitingE (dropE es zz) = noZ zz (waitingE es) := by_z zz _ es
theorem rel_fill {zz : α} {B O : Bk α} (r : Rel zz B O) : ZTaken zz (fillB B).es ∨ (Rel zz (fillB B) (fillB O) ∧ fillN O = noZ zz (fillN B)) := by
  rcases two_walks (ladder := B.ladder) (risk := B.risk) (waitingE B.es) B.es [] r.zw (fun h => by
    obtain ⟨e, he, _⟩ := mem_waiting.mp h
    exact List.mem_map.mpr ⟨_, he, rfl⟩) with h | ⟨h1, h2⟩
  · exact .inl h
  · have e : walk O.ladder O.risk (waitingE O.es) O.es = (dropE (fillB B).es zz, noZ zz (fillN B)) := by
      unfold walk
      rw [r.lad, r.risk, r.es, waiting_z]
      exact h2
    refine .inr ⟨⟨r.lad, r.risk, r.ev, r.hs, by show (walk O.ladder O.risk (waitingE O.es) O.es).1 = _; rw [e], h1⟩, by show (walk O.ladder O.risk (waitingE O.es) O.es).2 = _; rw [e]⟩
theorem rel_drop {zz : α} {B O : Bk α} (r : Rel zz B O) (n : α) : Rel zz (dropB B n) (dropB O n) :=
  ⟨r.lad, r.risk, r.ev, r.hs, by show dropE O.es n = dropE (dropE B.es n) zz; rw [r.es, drop_comm], fun p hp => r.zw p (mem_drop.mp hp).1⟩
theorem rel_out {zz : α} {B O : Bk α} (r : Rel zz B O) (n : α) : Rel zz (outB B n) (outB O n) :=
  ⟨r.lad, r.risk, r.ev, by show outH O.hs n = outH B.hs n; rw [r.hs], by show dropE O.es n = dropE (dropE B.es n) zz; rw [r.es, drop_comm], fun p hp => r.zw p (mem_drop.mp hp).1⟩
theorem rel_close1 {zz : α} {B O : Bk α} (r : Rel zz B O) : Rel zz (close1 B) (close1 O) ∧ missingOf O = noZ zz (missingOf B) := by
  have em : missingOf O = noZ zz (missingOf B) := by unfold missingOf; rw [r.es, r.ev, by_z]
  have e1 : (close1 B).es = (missingOf B).foldl dropE B.es := by unfold close1; rw [dropB_fold]
  have e2 : (close1 O).es = (missingOf O).foldl dropE O.es := by unfold close1; rw [dropB_fold]
  have f : ∀ b : Bk α, (close1 b).ladder = b.ladder ∧ (close1 b).risk = b.risk ∧ (close1 b).hs = b.hs := fun b => by unfold close1; rw [dropB_fold]; exact ⟨rfl, rfl, rfl⟩
  refine ⟨⟨by rw [(f O).1, (f B).1]; exact r.lad, by rw [(f O).2.1, (f B).2.1]; exact r.risk, by show O.ev + 1 = B.ev + 1; rw [r.ev], by rw [(f O).2.2, (f B).2.2]; exact r.hs, by rw [e2, e1, em, r.es, drops_z], fun p hp => ?_⟩, em⟩
  rw [e1, drops_mem] at hp
  exact r.zw p hp.1
theorem rel_close2 {zz : α} {B O : Bk α} (r : Rel zz B O) : Rel zz (close2 B) (close2 O) ∧ leavingOf O = noZ zz (leavingOf B) := by
  have em : leavingOf O = noZ zz (leavingOf B) := by unfold leavingOf; rw [r.es, r.ev, by_z]
  have ez : leavingOf O = leavingOf B := by
    rw [em]
    refine noZ_self fun h => ?_
    obtain ⟨e, he, q⟩ := mem_by h
    have := r.zw _ he rfl
    simp at q
    rw [show e.word = _ from this] at q
    exact absurd q.1 (by decide)
  have c2 : ∀ b : Bk α, close2 b = { b with es := (leavingOf b).foldl dropE b.es, hs := (leavingOf b).foldl outH b.hs } := fun b => by unfold close2; rw [outB_fold]
  rw [c2 B, c2 O]
  refine ⟨⟨r.lad, r.risk, r.ev, by show (leavingOf O).foldl outH O.hs = (leavingOf B).foldl outH B.hs; rw [ez, r.hs], by show (leavingOf O).foldl dropE O.es = dropE ((leavingOf B).foldl dropE B.es) zz; rw [em, r.es, drops_z], fun p hp => r.zw p (drops_mem.mp hp).1⟩, em⟩
theorem rel_close3 {zz : α} {B O : Bk α} (r : Rel zz B O) : Rel zz (close3 B) (close3 O) ∧ lateOf O = noZ zz (lateOf B) := by
  have em : lateOf O = noZ zz (lateOf B) := by unfold lateOf; rw [r.es, r.ev, by_z]
  have c3 : ∀ b : Bk α, close3 b = { b with es := (lateOf b).foldl dropE b.es } := fun b => by unfold close3; rw [dropB_fold]
  rw [c3 B, c3 O]
  exact ⟨⟨r.lad, r.risk, r.ev, r.hs, by show (lateOf O).foldl dropE O.es = dropE ((lateOf B).foldl dropE B.es) zz; rw [em, r.es, drops_z], fun p hp => r.zw p (drops_mem.mp hp).1⟩, em⟩
def nameOf : Deed α → Option α
  | .non => none
  | .wish n _ _ _ _ => some n
  | .withdraw n => some n
  | .absent n => some n
  | .go n => some n
  | .come n => some n
  | .close => none
theorem deed_B {al : List α} {zz : α} {B O : Bk α} (r : Rel zz B O) {d : Deed α} (hz : nameOf d ≠ some zz) (h : DeedOk al O d) : DeedOk al B d := by
  have up : ∀ {n e}, (n, e) ∈ O.es → (n, e) ∈ B.es := fun {n e} z => by rw [r.es] at z; exact (mem_drop.mp z).1
  cases d with
  | non => trivial
  | wish n k f b c =>
    obtain ⟨h1, h2, h3, h4⟩ := h
    refine ⟨h1, fun z => h2 ?_, by rw [← r.lad]; exact h3, by rw [← r.ev]; exact h4⟩
    rw [r.es, keys_drop, List.mem_filter]
    exact ⟨z, decide_eq_true fun e => hz (congrArg some e)⟩
  | withdraw n => obtain ⟨e, he, hw⟩ := h; exact ⟨e, up he, hw⟩
  | absent n => obtain ⟨e, he, hw, hf⟩ := h; exact ⟨e, up he, hw, by rw [← r.ev]; exact hf⟩
  | go n => obtain ⟨e, he, hw⟩ := h; exact ⟨e, up he, hw⟩
  | come n => obtain ⟨e, he, hw, hf⟩ := h; exact ⟨e, up he, hw, by rw [← r.ev]; exact hf⟩
  | close => show B.ev < 399; rw [← r.ev]; exact h
theorem two_books {al : List α} {zz : α} {B O : Bk α} (r : Rel zz B O) (oB : Ok al B) (oO : Ok al O) {d : Deed α} (hz : nameOf d ≠ some zz) (h : DeedOk al O d) :
    ZTaken zz (doB B d).1.es ∨ (Rel zz (doB B d).1 (doB O d).1 ∧ tellZ zz (doB B d).2 = tellZ zz (doB O d).2) := by
  have fin : ∀ {B' O' : Bk α}, Rel zz B' O' → ∀ f : List α → Tell α, (∀ l l', noZ zz l = noZ zz l' → tellZ zz (f l) = tellZ zz (f l')) → ZTaken zz (fillB B').es ∨ (Rel zz (fillB B') (fillB O') ∧ tellZ zz (f (fillN B')) = tellZ zz (f (fillN O'))) := fun {B' O'} r' f hf =>
    (rel_fill r').imp id fun ⟨a, b⟩ => ⟨a, hf _ _ (by rw [b, noZ_noZ])⟩
  cases d with
  | non => exact .inr ⟨r, rfl⟩
  | wish n k f b c =>
    have hn : n ≠ zz := fun e => hz (congrArg some e)
    have app : ∀ w, O.es ++ [(n, newE k f b c w)] = dropE (B.es ++ [(n, newE k f b c w)]) zz := fun w => by
      rw [r.es]
      unfold dropE
      rw [List.filter_append, List.filter_cons, if_pos (by simp [hn])]
      rfl
    have zw : ∀ w, ∀ p ∈ B.es ++ [(n, newE k f b c w)], p.1 = zz → p.2.word = .waits := fun w p hp e => by
      rcases List.mem_append.mp hp with q | q
      · exact r.zw p q e
      · rw [List.mem_singleton.mp q] at e; exact absurd e hn
    have pe : paper O.ladder O.risk (O.es ++ [(n, newE k f b c .waits)]) n = paper B.ladder B.risk (B.es ++ [(n, newE k f b c .waits)]) n := by
      rw [r.lad, r.risk, app, paper_drop hn (zw _)]
    right
    show Rel zz (if _ then _ else _ : Bk α × Tell α).1 (if _ then _ else _ : Bk α × Tell α).1 ∧ tellZ zz (if _ then _ else _ : Bk α × Tell α).2 = tellZ zz (if _ then _ else _ : Bk α × Tell α).2
    rw [pe]
    split
    · exact ⟨⟨r.lad, r.risk, r.ev, r.hs, app _, zw _⟩, rfl⟩
    · exact ⟨⟨r.lad, r.risk, r.ev, r.hs, app _, zw _⟩, rfl⟩
  | withdraw n => exact fin (rel_drop r n) .names fun l l' e => by show Tell.names _ = Tell.names _; rw [e]
  | absent n => exact fin (rel_drop r n) .names fun l l' e => by show Tell.names _ = Tell.names _; rw [e]
  | go n => exact fin (rel_out r n) .names fun l l' e => by show Tell.names _ = Tell.names _; rw [e]
  | come n =>
    obtain ⟨e, he, hw, hf⟩ := h
    have hg : getE O.es n = some e := mem_getE oO.pre.good.nd he
    have hgB : getE B.es n = some e := mem_getE oB.pre.good.nd (by rw [r.es] at he; exact (mem_drop.mp he).1)
    have hn : n ≠ zz := by rw [r.es] at he; exact (mem_drop.mp he).2
    show ZTaken zz (match getE B.es n with | none => (B, Tell.unit) | some e => _ : Bk α × Tell α).1.es ∨ (Rel zz (match getE B.es n with | none => (B, Tell.unit) | some e => _ : Bk α × Tell α).1 (match getE O.es n with | none => (O, Tell.unit) | some e => _ : Bk α × Tell α).1 ∧
      tellZ zz (match getE B.es n with | none => (B, Tell.unit) | some e => _ : Bk α × Tell α).2 = tellZ zz (match getE O.es n with | none => (O, Tell.unit) | some e => _ : Bk α × Tell α).2)
    rw [hg, hgB]
    show ZTaken zz (match letIn B.hs n e.kind with | .inl k => _ | .inr h => _ : Bk α × Tell α).1.es ∨ (Rel zz (match letIn B.hs n e.kind with | .inl k => _ | .inr h => _ : Bk α × Tell α).1 (match letIn O.hs n e.kind with | .inl k => _ | .inr h => _ : Bk α × Tell α).1 ∧
      tellZ zz (match letIn B.hs n e.kind with | .inl k => _ | .inr h => _ : Bk α × Tell α).2 = tellZ zz (match letIn O.hs n e.kind with | .inl k => _ | .inr h => _ : Bk α × Tell α).2)
    rw [r.hs]
    cases letIn B.hs n e.kind with
    | inl k => exact fin (rel_drop r n) (.away k) fun l l' e => by show Tell.away _ _ = Tell.away _ _; rw [e]
    | inr h' =>
      refine .inr ⟨⟨r.lad, r.risk, r.ev, rfl, by show setW O.es n .house = dropE (setW B.es n .house) zz; rw [r.es, setW_drop], fun p hp e => ?_⟩, rfl⟩
      rcases mem_setW hp with q | ⟨q, _⟩
      · exact r.zw p q.1 e
      · exact absurd (q.symm.trans e) hn
  | close =>
    obtain ⟨r1, e1⟩ := rel_close1 r
    obtain ⟨r2, e2⟩ := rel_close2 r1
    obtain ⟨r3, e3⟩ := rel_close3 r2
    rcases rel_fill r3 with q | ⟨q, e4⟩
    · exact .inl q
    · refine .inr ⟨q, ?_⟩
      show Tell.lists [_, _, _, _] = Tell.lists [_, _, _, _]
      rw [e1, e2, e3, e4, noZ_noZ, noZ_noZ, noZ_noZ, noZ_noZ]
/-- what a deed leaves of the entries that do not wait -/
theorem kept_ok {al : List α} {O : Bk α} (o : Ok al O) {d : Deed α} (h : DeedOk al O d) {n : α} {e : Ent} (hne : nameOf d ≠ some n) (he : (n, e) ∈ O.es) (hw : e.word ≠ .waits) :
    ((if e.word = .taken then e.first < (doB O d).1.ev else e.behind ≤ (doB O d).1.ev) → n ∉ keysE (doB O d).1.es) ∧ (¬ (if e.word = .taken then e.first < (doB O d).1.ev else e.behind ≤ (doB O d).1.ev) → (n, e) ∈ (doB O d).1.es) := by
  have p := o.pre
  have hr : 0 ≤ O.risk.2 := by have := p.r2; omega
  have over : ¬ (if e.word = .taken then e.first < O.ev else e.behind ≤ O.ev) := by
    have q := p.now _ he
    split
    · rename_i ht
      have := q.1 (by rw [ht]; decide)
      have h2 : O.ev ≤ e.first := this
      omega
    · rename_i ht
      have hh : e.word = .house := by
        cases hx : e.word with
        | waits => exact absurd hx hw
        | taken => exact absurd hx ht
        | house => rfl
      have h2 : O.ev < e.behind := q.2 hh
      omega
  have fin : ∀ {b' : Bk α}, b'.ev = O.ev → (n, e) ∈ b'.es → ((if e.word = .taken then e.first < b'.ev else e.behind ≤ b'.ev) → n ∉ keysE b'.es) ∧ (¬ (if e.word = .taken then e.first < b'.ev else e.behind ≤ b'.ev) → (n, e) ∈ b'.es) := fun {b'} ev m => by
    rw [ev]
    exact ⟨fun z => absurd z over, fun _ => m⟩
  have fl : ∀ {b' : Bk α}, Good b'.ladder.length b'.es → 0 ≤ b'.risk.2 → (n, e) ∈ b'.es → (n, e) ∈ (fillB b').es := fun {b'} g r m => (fill_ok (ladder := b'.ladder) (risk := b'.risk) r g).1.keep _ m (.inl hw)
  cases d with
  | non => exact fin rfl he
  | wish m k f b c =>
    have key : (doB O (.wish m k f b c)).1.ev = O.ev ∧ (n, e) ∈ (doB O (.wish m k f b c)).1.es := by
      show (if _ then _ else _ : Bk α × Tell α).1.ev = O.ev ∧ (n, e) ∈ (if _ then _ else _ : Bk α × Tell α).1.es
      split
      · exact ⟨rfl, List.mem_append_left _ he⟩
      · exact ⟨rfl, List.mem_append_left _ he⟩
    exact fin key.1 key.2
  | withdraw m => exact fin rfl (fl (good_drop p.good m) hr (mem_drop.mpr ⟨he, fun z => hne (congrArg some z.symm)⟩))
  | absent m => exact fin rfl (fl (good_drop p.good m) hr (mem_drop.mpr ⟨he, fun z => hne (congrArg some z.symm)⟩))
  | go m => exact fin rfl (fl (b' := outB O m) (good_drop p.good m) hr (mem_drop.mpr ⟨he, fun z => hne (congrArg some z.symm)⟩))
  | come m =>
    obtain ⟨e', he', _, _⟩ := h
    have hm : n ≠ m := fun z => hne (congrArg some z.symm)
    have hg := mem_getE p.good.nd he'
    have key : (doB O (.come m)).1.ev = O.ev ∧ (n, e) ∈ (doB O (.come m)).1.es := by
      show (match getE O.es m with | none => (O, Tell.unit) | some e => _ : Bk α × Tell α).1.ev = O.ev ∧ (n, e) ∈ (match getE O.es m with | none => (O, Tell.unit) | some e => _ : Bk α × Tell α).1.es
      rw [hg]
      show (match letIn O.hs m e'.kind with | .inl k => _ | .inr h => _ : Bk α × Tell α).1.ev = O.ev ∧ (n, e) ∈ (match letIn O.hs m e'.kind with | .inl k => _ | .inr h => _ : Bk α × Tell α).1.es
      cases letIn O.hs m e'.kind with
      | inl k => exact ⟨rfl, fl (good_drop p.good m) hr (mem_drop.mpr ⟨he, hm⟩)⟩
      | inr h' => exact ⟨rfl, setW_keep he hm⟩
    exact fin key.1 key.2
  | close =>
    have ee : (doB O .close).1.ev = O.ev + 1 := by
      show (close3 (close2 (close1 O))).ev = O.ev + 1
      unfold close3 close2; rw [dropB_fold, outB_fold]; rfl
    have q := p.now _ he
    have kk : keysE (doB O .close).1.es = keysE (close3 (close2 (close1 O))).es := (fill_ok (ladder := (close3 (close2 (close1 O))).ladder) (risk := (close3 (close2 (close1 O))).risk) (by have := (close_pre p h).r2; omega) (close_pre p h).good).1.keys
    rw [ee, kk]
    refine ⟨fun z m => ?_, fun z => ?_⟩
    · obtain ⟨x, hx, e1⟩ := List.mem_map.mp m
      obtain ⟨h1, h2, h3, _⟩ := (close_mem p.good).mp hx
      have h1' : (n, x.2) ∈ O.es := by rw [← e1]; exact h1
      have : x.2 = e := key_inj p.good.nd h1' he
      rw [this] at h2 h3
      by_cases ht : e.word = .taken
      · rw [if_pos ht] at z
        have h4 : O.ev ≤ e.first := q.1 (by rw [ht]; decide)
        exact h2 ⟨ht, by omega⟩
      · rw [if_neg ht] at z
        have hh : e.word = .house := by
          cases hx : e.word with
          | waits => exact absurd hx hw
          | taken => exact absurd hx ht
          | house => rfl
        have h4 : O.ev < e.behind := q.2 hh
        exact h3 ⟨hh, by omega⟩
    · have P := close_pre p h
      refine fl P.good (by have := P.r2; omega) ((close_mem p.good).mpr ⟨he, fun c => ?_, fun c => ?_, fun c => absurd c.1 hw⟩)
      · rw [if_pos c.1] at z
        have : e.first = O.ev := c.2
        omega
      · have nt : ¬ e.word = .taken := by rw [show e.word = Word.house from c.1]; decide
        rw [if_neg nt] at z
        have : e.behind = O.ev + 1 := c.2
        omega
theorem walk_still {ladder : List Int} {risk : Int × Int} {es : List (α × Ent)} : ∀ (names : List α) (acc : List α), (∀ n ∈ names, paper ladder risk es n ≠ none) → names.foldl (wstep ladder risk) (es, acc) = (es, acc)
  | [], _, _ => rfl
  | n :: r, acc, h => by
    rw [List.foldl_cons]
    unfold wstep
    rw [if_neg (h n List.mem_cons_self)]
    exact walk_still r acc fun m hm => h m (List.mem_cons_of_mem _ hm)
theorem paper_stab {al : List α} {b : Bk α} (o : Ok al b) {n : α} (h : n ∈ waitingE b.es) : paper b.ladder b.risk b.es n ≠ none := by
  obtain ⟨e, he, hw⟩ := mem_waiting.mp h
  have q : tight (counted b.es) (stayOf e) b.ladder b.risk ≠ none := o.stab (n, e) he hw
  unfold paper
  rw [mem_getE o.pre.good.nd he]
  exact q
theorem fill_still {al : List α} {b : Bk α} (o : Ok al b) : fillB b = b ∧ fillN b = [] := by
  have e := walk_still (ladder := b.ladder) (risk := b.risk) (es := b.es) (waitingE b.es) [] fun n hn => paper_stab o hn
  have e' : walk b.ladder b.risk (waitingE b.es) b.es = (b.es, []) := e
  unfold fillB fillN
  rw [e']
  exact ⟨rfl, rfl⟩
/-- zz gives way at the end: nobody is the better for it -/
theorem withdraw_z {al : List α} {zz : α} {B O : Bk α} (r : Rel zz B O) (oO : Ok al O) : fillB (dropB B zz) = O ∧ fillN (dropB B zz) = [] := by
  have e : dropB B zz = O := by
    obtain ⟨l, k, es, ev, hs⟩ := O
    have h1 : l = B.ladder := r.lad
    have h2 : k = B.risk := r.risk
    have h3 : ev = B.ev := r.ev
    have h4 : hs = B.hs := r.hs
    have h5 : es = dropE B.es zz := r.es
    subst h1 h2 h3 h4 h5
    rfl
  rw [e]
  exact fill_still oO
/-- few names, few entries -/
theorem nodup_le : ∀ (l m : List α), l.Nodup → (∀ x ∈ l, x ∈ m) → l.length ≤ m.length
  | [], _, _, _ => Nat.zero_le _
  | a :: l, m, nd, h => by
    obtain ⟨h1, h2⟩ := List.nodup_cons.mp nd
    have := nodup_le l (m.erase a) h2 fun x hx => (List.mem_erase_of_ne (fun e => h1 (by rw [← e]; exact hx))).mpr (h x (List.mem_cons_of_mem _ hx))
    have e := List.length_erase_of_mem (h a List.mem_cons_self)
    have p := List.length_pos_of_mem (h a List.mem_cons_self)
    rw [List.length_cons]
    omega
theorem es_le {al : List α} {b : Bk α} (p : Pre al b) : b.es.length ≤ al.length := by
  have := nodup_le (keysE b.es) al p.good.nd p.al
  unfold keysE at this
  rw [List.length_map] at this
  exact this
end
end NbM
end
section
set_option Elab.async false
set_option linter.all false
set_option maxRecDepth 100000
set_option maxHeartbeats 4000000
/-! Rules that the layer lacks. -/
namespace NbU
open PySem PySem.Spec PyProof.Rows L2
section
variable {X : Cx} {a b c d : Expr} {ta tb tc td : TE} {pos : Pos}
/-! ### a op b op c op d -/
def tChain3 (r1 r2 r3 : R2) (ta tb tc td : TE) : TE := fun σ H Q => ta σ H fun x H1 => tb σ H1 fun y H2 => r1 x y H2 fun z H3 => ∃ k, z = .bl k ∧
  (if k = true then tc σ H3 fun w H4 => r2 y w H4 fun z2 H5 => ∃ k2, z2 = .bl k2 ∧ (if k2 = true then td σ H5 fun u H6 => r3 w u H6 Q else Q (.bl false) H5) else Q (.bl false) H3)
theorem pe_chain3 {op1 op2 op3 : CmpOp} {r1 r2 r3 : R2} (h1 : OpR X (compareOp op1) r1) (h2 : OpR X (compareOp op2) r2) (h3 : OpR X (compareOp op3) r3) (ha : PE X a ta) (hb : PE X b tb) (hc : PE X c tc) (hd : PE X d td)
    (hm : lastMarks [op1, op2, op3] [b, c, d] = false := by with_unfolding_all rfl) : PE X (.Compare a [op1, op2, op3] [b, c, d] pos) (tChain3 r1 r2 r3 ta tb tc td) := by
  refine ⟨fun pins s σ H Q I h => ?_⟩
  refine Compare_chain (thn (ha.run pins s σ H _ I h) fun v s1 ⟨x, H1, I1, e1, q1⟩ => chain_link (thn (hb.run pins s1 σ H1 _ I1 q1) fun u s2 ⟨y, H2, I2, e2, q2⟩ =>
    thn (h1 pins s2 σ H2 x y v u _ I2 e1 e2 q2) fun d1 s3 ⟨z, H3, I3, e3, k, ek, q3⟩ => ?_)) hm
  subst ek
  cases e3
  refine wpAny_truthy_bool ?_
  cases k with
  | false => exact ite_ff ⟨.bl false, H3, I3, rfl, q3⟩
  | true =>
    refine ite_tt (chain_link (thn (hc.run pins s3 σ H3 _ I3 q3) fun w' s4 ⟨z', H4, I4, e4, q4⟩ => thn (h2 pins s4 σ H4 y z' u w' _ I4 e2 e4 q4) fun d2 s5 ⟨z2, H5, I5, e5, k2, ek2, q5⟩ => ?_))
    subst ek2
    cases e5
    refine wpAny_truthy_bool ?_
    cases k2 with
    | false => exact ite_ff ⟨.bl false, H5, I5, rfl, q5⟩
    | true => exact ite_tt (chain_last (thn (hd.run pins s5 σ H5 _ I5 q5) fun u' s6 ⟨z3, H6, I6, e6, q6⟩ => h3 pins s6 σ H6 z' z3 w' u' Q I6 e4 e6 q6))
/-! ### xs[i], for xs[i] op= v -/
def rGetL : V → V → Hp → VK → Prop := fun o i H Q => ∃ p xs k v, o = .ref p ∧ i = .int k ∧ H p = some (.lst xs) ∧ 0 ≤ k ∧ xs[k.toNat]? = some v ∧ Q v H
theorem get_list : PGet X rGetL := by
  intro pins s σ H o i ov iv Q I ro ri h
  obtain ⟨p, xs, k, v, rfl, rfl, hp, h0, hx, q⟩ := h
  cases ro
  obtain ⟨t, rfl⟩ := ri
  obtain ⟨its, r, pl, hz⟩ := I.list (SqL.of hp)
  obtain ⟨u, hu, ru⟩ := r.get hx
  have hlt : k.toNat < xs.length := (List.getElem?_eq_some_iff.mp hx).1
  have hn := line63
  exact wpAny_getItem_list pl.isList h0 (by omega) (by simpa using hu) ⟨v, H, I, ru, q⟩
/-! ### min(xs, default=d) of ints -/
theorem minD_data : ∀ (l : List Int) (a : Int), PySem.W.minD (.int a) (l.map PyData.int) = .int (l.foldl (fun m x => if x < m then x else m) a)
  | [], _ => rfl
  | x :: l, a => by
    have e : PySem.W.minD (.int a) ((x :: l).map PyData.int) = PySem.W.minD (if PySem.W.dataLt (.int x) (.int a) = true then .int x else .int a) (l.map PyData.int) := rfl
    rw [e, PySem.W.dataLt_int, List.foldl_cons]
    by_cases h : x < a
    · rw [if_pos (decide_eq_true h), if_pos h]
      exact minD_data l x
    · rw [if_neg (by simpa using h), if_neg h]
      exact minD_data l a
theorem reads_ints {h : Heap} : ∀ {vs : List Value} {ns : List Int}, IntsAre vs ns → ∃ as, ReadsAll h vs (ns.map PyData.int) as
  | _, _, .nil => ⟨_, .nil⟩
  | _, _, .cons n t r => let ⟨as, q⟩ := reads_ints r; ⟨_, .cons (.int n t) q⟩
theorem depth_ints : ∀ ns : List Int, PyData.depthAll (ns.map PyData.int) ≤ 1
  | [] => by decide
  | n :: ns => by
    have := depth_ints ns
    show max (PyData.depth (.int n)) (PyData.depthAll (ns.map PyData.int)) ≤ 1
    have h1 : PyData.depth (.int n) ≤ 1 := by simp [PyData.depth]
    omega
def rMinD (K : PySem.W.Frag) : List V → List V → Hp → VK → Prop := fun vs zs H Q => ∃ (p : Addr) (ns : List Int) (d : Int), vs = [.ref p] ∧ zs = [.int d] ∧ SqL K H p (ns.map V.int) ∧ Q (.int (NbM.minD d ns)) H
theorem call_minD (hc : X.calm = true) (hu : X.A.units + 3 < cLine) : CallRK X (.builtin "min") ["default"] (rMinD X.K) := by
  intro pins s σ H vs zs us ws Q I r1 r2 h
  obtain ⟨p, ns, d, rfl, rfl, hq, q⟩ := h
  obtain ⟨its, rv, pl, _⟩ := I.list hq
  rw [Vals.ref1 r1]
  obtain ⟨w', rfl, t, rfl⟩ := vals1 r2
  have hi := rv.ints
  obtain ⟨as, hr⟩ := reads_ints (h := s.heap) hi
  have hd := depth_ints ns
  refine PySem.W.min_list_default (I.ok.hd hc) pl.isList (xs := ns.map PyData.int) hr ⟨fun x hx y hy => ?_, fun x hx => ?_⟩ (by omega) (fun e h' tk k => ?_) (fun y ys i v h' tk bs e hv hrd k => ?_)
  · obtain ⟨i, _, rfl⟩ := List.mem_map.mp hx
    obtain ⟨j, _, rfl⟩ := List.mem_map.mp hy
    rfl
  · obtain ⟨i, _, rfl⟩ := List.mem_map.mp hx
    exact fun z => nomatch z
  · have e' : ns = [] := by simpa using e
    subst e'
    exact ⟨.int d, H, I.kept k, ⟨t, rfl⟩, q⟩
  · cases ns with
    | nil => cases e
    | cons n ns =>
      obtain ⟨rfl, rfl⟩ : PyData.int n = y ∧ ns.map PyData.int = ys := by
        have := List.cons.inj (show PyData.int n :: ns.map PyData.int = y :: ys from e)
        exact this
      rw [minD_data] at hrd
      cases hrd with
      | int i t => exact ⟨.int _, H, I.kept k, ⟨t, rfl⟩, q⟩
/-! ### an own class's inherited __init__, called by the class's name -/
theorem pe_owninit {pl : Sem Bool} {x : Str} {C : Addr} {e : Expr} {es : List Expr} {ta : TA} {p1 p2 : Pos} (hg : Gl X x) (gC : X.mg x = some (.ref C)) (gg : PySem.W.specialIn X.K (.ref C) "__getattribute__" = some (some (.builtin "type.__getattribute__")))
    (rC : PySem.W.readsIn X.K C (.type "type") = true) (vV : PySem.W.findCls X.K (.ref C) (.type "type") "__init__" = some (.val (.builtin "ValueError.__init__"))) (ha : PA X (e :: es) ta) (hdb : (x == ("__debug__" : Str)) = false := by decide)
    (hc : eval (.Call (.Attribute (.Name x p1) "__init__" p2) (e :: es) [] pos) X.env = (do
      let ov ← eval (.Name x p1) X.env
      standAt p2.atName
      let (f, first) ← holding [ov] (getMethod ov "__init__" pl)
      callWith pos f first (backTo pos (starEach (e :: es) X.env)) (backToKw pos (keywordEach [] X.env))) := by rfl)
    (he : starEach (e :: es) X.env = (false, eval e X.env) :: starEach es X.env := by rfl) (hpl : (backTo pos (starEach es X.env)).any (·.1) = false := by rfl) :
    PE X (.Call (.Attribute (.Name x p1) "__init__" p2) (e :: es) [] pos) (tVeI X.K ta) := by
  refine ⟨fun pins s σ H Q I h => ?_⟩
  refine PySem.W.methodCall_KW (ld_glob I hg gC ?_ hdb) hc
  refine PySem.W.method_cls I.kIn gg (PySem.W.cls_value I.kIn rC vV rfl ?_)
  show wpAny _ _ (callWith pos (Value.builtin "ValueError.__init__") [] (backTo pos (starEach (e :: es) X.env)) []) _ _ _
  refine PyProof.Rows.callWith_method1 (thn (ha.run pos pins _ σ H _ (I.tok _) h) fun us s1 ⟨vs, H1, I1, r1, a, C, ws, ev, hl, T, ea, q⟩ => ?_) he hpl
  subst ev
  cases r1 with
  | @cons _ u0 _ ur ra rw' =>
    obtain rfl : u0 = Value.ref a := ra
    have hlen : ur.length ≤ sizeLine := by
      rw [← Paired.length rw', sizeLine_eq]
      omega
    exact oinit_ok T I1 ea hlen fun s' J => ⟨.non, H1, J, rfl, q⟩
end
/-! ### an own exception is made (its context None) -/
section
variable {X : Cx} {e : Expr} {es : List Expr} {ta : TA} {p pos : Pos}
theorem pmk_oexN {CX : CXT} {x : Str} {C fI : Addr} {k : Nat} {fd : FuncData} {ps : List Str} {sp : Sp} (T : OexC X.K C) (iC : PySem.W.findIn X.K (.ref C) "__init__" = some (some (.ref fI))) (tI : PySem.W.typeIn X.K (.ref fI) = some (.type "function"))
    (F1 : FnOk X.prog X.w X.K X.mg X.base CX k fI fd ps sp) (hr : Room (k + 1) X.A) (hb : Binds X.K fd ps []) (hx : Passes CX X (fun _ _ _ => False)) (hg : Gl X x) (hm : X.mg x = some (.ref C)) (ha : PA X (e :: es) ta)
    (hdb : (x == ("__debug__" : Str)) = false := by decide) (he : starEach (e :: es) X.env = (false, eval e X.env) :: starEach es X.env := by rfl) (hpl : (backTo pos (starEach es X.env)).any (·.1) = false := by rfl) :
    L2N.PMk X (.Call (.Name x p) (e :: es) [] pos) (tMkO C sp [] ta) := by
  intro pins s σ H Q I h
  obtain ⟨nm, q, N, bs, bm, sn, sub, ab, col, dd, k0, k1, k2, k3, k5, hC, hbm⟩ := T.cls
  refine wpAny_Call_Name_kw (ld_glob I hg hm ?_ hdb)
  refine PySem.W.callWith_K (h₀ := X.base) I.ok.mod.kin T.kC (thn (ha.run pos pins s σ H _ I h) fun us s1 ⟨vs, H1, I1, r1, hz, q1⟩ => ⟨I1.kIn, ?_⟩) he hpl
  show wpAny _ _ (call (.ref C) us) _ _ _
  obtain ⟨hp, g, dr, tk, os⟩ := s1
  have above : hp.objs.size ≤ hp.objs.size + 1 := Nat.le_succ _
  have hq := q1 (hp.objs.size + 1) (I1.hok.fresh above)
  rw [List.append_nil] at hq
  have keeps : ∀ b o, hp.get? b = some o → ((hp.push (PySem.W.kdv_tup us)).push (PySem.HandSPX.excO C hp.objs.size)).get? b = some o := fun b o z => Heap.get?_push_of_some _ (Heap.get?_push_of_some _ z)
  have at1 : ((hp.push (PySem.W.kdv_tup us)).push (PySem.HandSPX.excO C hp.objs.size)).get? (hp.objs.size + 1) = some (PySem.HandSPX.excO C hp.objs.size) := by heap_get
  have I2 : Inv X pins σ (upd H1 (hp.objs.size + 1) (exo (hp.objs.size + 1) C none)) ⟨(hp.push (PySem.W.kdv_tup us)).push (PySem.HandSPX.excO C hp.objs.size), g, dr, tk, os⟩ :=
    I1.laid (t' := tk) (h' := (hp.push (PySem.W.kdv_tup us)).push (PySem.HandSPX.excO C hp.objs.size)) keeps above (exo_ok at1)
  have r2 : Vals (V.ref (hp.objs.size + 1) :: vs) (Value.ref (hp.objs.size + 1) :: us) := .cons rfl r1
  have hl : (Value.ref (hp.objs.size + 1) :: us ++ []).length = ps.length := by
    have z := r2.length
    rw [F1.len _ _ _ _ hq] at z
    rw [List.append_nil]
    exact z.symm
  have hus : us.length ≤ sizeLine := by
    rw [← Paired.length r1, sizeLine_eq]
    omega
  have b2 := hb _ (Value.ref (hp.objs.size + 1) :: us) I2.kIn hl
  rw [List.append_nil] at b2
  refine wpAny_call (PySem.HandSPX.call_own F.excBase_ValueError (fun Y => PySem.HandSPX.refsVE_contains Y bm hbm) (I1.kIn _ _ hC) (PySem.W.looks_findIn I1.kIn iC) (fun self => PySem.W.bind_fn I1.kIn self tI) hus
    (codeAny_mono (F1.run _ X.stack _ _ ⟨Value.ref (hp.objs.size + 1) :: us, []⟩ (Value.ref (hp.objs.size + 1) :: us) _ _ (fun _ _ _ => False) (hr.make C us []) (I2.env0.make C us []) b2 r2 hq) fun r s' hq' => ?_))
  cases r with
  | error er => exact hx pins σ _ _ er s' I2 hq'
  | ok fl =>
    cases fl with
    | ret u =>
      obtain ⟨v, H2, os2, bare2, un2, hok2, rv, ev, d, fs, ea, ed, hd1, q2⟩ := hq'
      subst ev
      obtain ⟨h2, g2, d2, t2, os'⟩ := s'
      obtain ⟨t0, G, J, kG, ge, hoe, na⟩ := mk_end0 (d2 := d2) (t2 := t2) I1 above keeps un2 hok2 os2 bare2 ea ed hd1
      exact ⟨rv, hp.objs.size + 1, _, _, ⟨G, g2, d2, t2, os'⟩, _, .ref C, some d, rfl, J, kG, ge, hoe, ⟨rfl, rfl, fun vs hv => by cases hv; rfl⟩, rfl, rfl, na, rfl, bare2, raises_own T.exC T.tyC, q2⟩
    | next => exact False.elim hq'
    | brk => exact False.elim hq'
    | cont => exact False.elim hq'
end
end NbU
end
section
set_option Elab.async false
set_option linter.all false
set_option maxRecDepth 100000
set_option maxHeartbeats 4000000
namespace NbU
open PySem PySem.Spec PyProof.Rows L2
def tRaise (t : St → Hp → XK → Prop) (W : L2.WX) : TS := fun _ σ H => t σ H fun cls d H2 => W cls d σ H2
theorem a_tVar (i : Nat) (σ : St) (H : Hp) (Q : VK) : (tVar i σ H Q) = (∃ v, σ[i]? = some (some v) ∧ Q v H) := rfl
theorem a_tC (v : V) (σ : St) (H : Hp) (Q : VK) : (tC v σ H Q) = (Q v H) := rfl
theorem a_tOp (r : R2) (ta tb : TE) (σ : St) (H : Hp) (Q : VK) : (tOp r ta tb σ H Q) = (ta σ H fun x H1 => tb σ H1 fun y H2 => r x y H2 Q) := rfl
theorem a_tUn (r : V → Hp → VK → Prop) (ta : TE) (σ : St) (H : Hp) (Q : VK) : (tUn r ta σ H Q) = (ta σ H fun x H1 => r x H1 Q) := rfl
theorem a_rI (C : Int → Int → Prop) (g : Int → Int → V) (x y : V) (H : Hp) (Q : VK) : (rI C g x y H Q) = (∃ i j, x = .int i ∧ y = .int j ∧ C i j ∧ Q (g i j) H) := rfl
theorem a_rI0 (g : Int → Int → V) (x y : V) (H : Hp) (Q : VK) : (rI0 g x y H Q) = (∃ i j, x = .int i ∧ y = .int j ∧ Q (g i j) H) := rfl
theorem a_rU (g : Int → V) (x : V) (H : Hp) (Q : VK) : (rU g x H Q) = (∃ i, x = .int i ∧ Q (g i) H) := rfl
theorem a_rEq (x y : V) (H : Hp) (Q : VK) : (rEq x y H Q) = (scal x y = true ∧ Q (.bl (decide (x = y))) H) := rfl
theorem a_rNe (x y : V) (H : Hp) (Q : VK) : (rNe x y H Q) = (scal x y = true ∧ Q (.bl (!decide (x = y))) H) := rfl
theorem a_tTest (t : TE) (σ : St) (H : Hp) (Q : Bool → Hp → Prop) : (tTest t σ H Q) = (t σ H fun x H1 => ∃ k, x = .bl k ∧ Q k H1) := rfl
theorem a_tB (t : TE) (σ : St) (H : Hp) (Q : Bool → Hp → Prop) : (tB t σ H Q) = (t σ H fun x H1 => ∃ c, x = .bl c ∧ Q c H1) := rfl
theorem a_tIsN (t : TE) (σ : St) (H : Hp) (Q : VK) : (tIsN t σ H Q) = (t σ H fun x H1 => Q (.bl (decide (x = .non))) H1) := rfl
theorem a_tNotN (t : TE) (σ : St) (H : Hp) (Q : VK) : (tNotN t σ H Q) = (t σ H fun x H1 => Q (.bl (!decide (x = .non))) H1) := rfl
theorem a_tChain (r r' : R2) (ta tb tc : TE) (σ : St) (H : Hp) (Q : VK) : (tChain r r' ta tb tc σ H Q) = (ta σ H fun x H1 => tb σ H1 fun y H2 => r x y H2 fun z H3 => ∃ k, z = .bl k ∧ (if k = true then tc σ H3 fun w' H4 => r' y w' H4 Q else Q (.bl false) H3)) := rfl
theorem a_tAnd (t u : TT) (σ : St) (H : Hp) (Q : Bool → Hp → Prop) : (tAnd t u σ H Q) = (t σ H fun c H1 => if c = true then u σ H1 Q else Q false H1) := rfl
theorem a_tOr (t u : TT) (σ : St) (H : Hp) (Q : Bool → Hp → Prop) : (tOr t u σ H Q) = (t σ H fun c H1 => if c = true then Q true H1 else u σ H1 Q) := rfl
theorem a_tNot (t : TT) (σ : St) (H : Hp) (Q : Bool → Hp → Prop) : (tNot t σ H Q) = (t σ H fun c H1 => Q (!c) H1) := rfl
theorem a_tAndV (ta tb : TE) (σ : St) (H : Hp) (Q : VK) : (tAndV ta tb σ H Q) = (ta σ H fun x H1 => ∃ c, x = .bl c ∧ if c = true then tb σ H1 Q else Q (.bl false) H1) := rfl
theorem a_tOrV (ta tb : TE) (σ : St) (H : Hp) (Q : VK) : (tOrV ta tb σ H Q) = (ta σ H fun x H1 => ∃ c, x = .bl c ∧ if c = true then Q (.bl true) H1 else tb σ H1 Q) := rfl
theorem a_tNotV (ta : TE) (σ : St) (H : Hp) (Q : VK) : (tNotV ta σ H Q) = (ta σ H fun x H1 => ∃ c, x = .bl c ∧ Q (.bl (!c)) H1) := rfl
theorem a_tYes (σ : St) (H : Hp) (Q : Bool → Hp → Prop) : (tYes σ H Q) = (Q true H) := rfl
theorem a_tNext (D : Ends) (σ : St) (H : Hp) : (tNext D σ H) = (D.nx σ H) := rfl
theorem a_tSeq (t u : TS) (D : Ends) (σ : St) (H : Hp) : (tSeq t u D σ H) = (t { D with nx := u D } σ H) := rfl
theorem a_tCont (D : Ends) (σ : St) (H : Hp) : (tCont D σ H) = (D.ct σ H) := rfl
theorem a_tBreak (D : Ends) (σ : St) (H : Hp) : (tBreak D σ H) = (D.bk σ H) := rfl
theorem a_tDrop (te : TE) (D : Ends) (σ : St) (H : Hp) : (tDrop te D σ H) = (te σ H fun _ H1 => D.nx σ H1) := rfl
theorem a_tRet (te : TE) (D : Ends) (σ : St) (H : Hp) : (tRet te D σ H) = (te σ H D.rt) := rfl
theorem a_tIfS (c : TT) (t u : TS) (D : Ends) (σ : St) (H : Hp) : (tIfS c t u D σ H) = (c σ H fun b H1 => if b = true then t D σ H1 else u D σ H1) := rfl
theorem a_tNever (D : Ends) (σ : St) (H : Hp) : (tNever D σ H) = (False) := rfl
theorem a_gName (i : Nat) (v : V) (σ : St) (H : Hp) (Q : St → Hp → Prop) : (gName i v σ H Q) = (Q (σ.set i (some v)) H) := rfl
theorem a_gNil (vs : List V) (σ : St) (H : Hp) (Q : St → Hp → Prop) : (gNil vs σ H Q) = (vs = [] ∧ Q σ H) := rfl
theorem a_gCons (t : TG) (u : TGs) (vs : List V) (σ : St) (H : Hp) (Q : St → Hp → Prop) : (gCons t u vs σ H Q) = (∃ v r, vs = v :: r ∧ t v σ H fun σ' H' => u r σ' H' Q) := rfl
theorem a_gTup (K : PySem.W.Frag) (n : Nat) (t : TGs) (v : V) (σ : St) (H : Hp) (Q : St → Hp → Prop) : (gTup K n t v σ H Q) = (∃ a xs, v = .ref a ∧ SqT K H a xs ∧ xs.length = n ∧ t xs σ H Q) := rfl
theorem a_tAsg (te : TE) (g : TG) (D : Ends) (σ : St) (H : Hp) : (tAsg te g D σ H) = (te σ H fun x H1 => g x σ H1 D.nx) := rfl
theorem a_tNil (σ : St) (H : Hp) (Q : List V → Hp → Prop) : (tNil σ H Q) = (Q [] H) := rfl
theorem a_tCons (ta : TE) (tr : TA) (σ : St) (H : Hp) (Q : List V → Hp → Prop) : (tCons ta tr σ H Q) = (ta σ H fun x H1 => tr σ H1 fun xs H2 => Q (x :: xs) H2) := rfl
theorem a_tTup (t : TA) (σ : St) (H : Hp) (Q : VK) : (tTup t σ H Q) = (t σ H fun xs H1 => xs.length ≤ sizeLine ∧ ∀ p, H1 p = none → Q (.ref p) (upd H1 p (.tup xs))) := rfl
theorem a_tLst (t : TA) (σ : St) (H : Hp) (Q : VK) : (tLst t σ H Q) = (t σ H fun xs H1 => xs.length ≤ sizeLine ∧ ∀ p, H1 p = none → Q (.ref p) (upd H1 p (.lst xs))) := rfl
theorem a_tCB (r : List V → Hp → VK → Prop) (t : TA) (σ : St) (H : Hp) (Q : VK) : (tCB r t σ H Q) = (t σ H fun vs H1 => r vs H1 Q) := rfl
theorem a_tCU (sp : Sp) (dvs : List V) (t : TA) (σ : St) (H : Hp) (Q : VK) : (tCU sp dvs t σ H Q) = (t σ H fun vs H1 => sp (vs ++ dvs) H1 Q (fun _ _ _ => False)) := rfl
theorem a_tMU (C : Addr) (m : Str) (sp : Sp) (dvs : List V) (ta : TE) (t : TA) (σ : St) (H : Hp) (Q : VK) : (tMU C m sp dvs ta t σ H Q) = (ta σ H fun x H1 => ∃ a dx fs, x = .ref a ∧ H1 a = some (.ins C dx fs) ∧ fs.lookup m = none ∧ t σ H1 fun vs H2 => sp (x :: (vs ++ dvs)) H2 Q (fun _ _ _ => False)) := rfl
theorem a_tFld (K : PySem.W.Frag) (ta : TE) (f : Str) (σ : St) (H : Hp) (Q : VK) : (tFld K ta f σ H Q) = (ta σ H fun x H1 => ∃ a C dx fs v, x = .ref a ∧ H1 a = some (.ins C dx fs) ∧ Cls K C ∧ NoAttr K C f ∧ fs.lookup f = some v ∧ Q v H1) := rfl
theorem a_sFld (K : PySem.W.Frag) (ta tv : TE) (f : Str) (D : Ends) (σ : St) (H : Hp) : (sFld K ta tv f D σ H) = (tv σ H fun y H1 => ta σ H1 fun x H2 => ∃ a C dx fs, x = .ref a ∧ H2 a = some (.ins C dx fs) ∧ Cls K C ∧ NoAttr K C f ∧ fs.length < 1000 ∧ D.nx σ (upd H2 a (.ins C dx (putF f y fs)))) := rfl
theorem a_tSl (r : V → Option Int → Option Int → Hp → VK → Prop) (te : TE) (tl th : TO) (σ : St) (H : Hp) (Q : VK) : (L2.tSl r te tl th σ H Q) = (te σ H fun x H1 => tl σ H1 fun l H2 => th σ H2 fun u H3 => r x l u H3 Q) := rfl
theorem a_tNoPart (σ : St) (H : Hp) (Q : Option Int → Hp → Prop) : (tNoPart σ H Q) = (Q none H) := rfl
theorem a_tPart (t : TE) (σ : St) (H : Hp) (Q : Option Int → Hp → Prop) : (tPart t σ H Q) = (t σ H fun x H1 => ∃ i, x = .int i ∧ Q (some i) H1) := rfl
theorem a_rSlL (K : PySem.W.Frag) (x : V) (lo hi : Option Int) (H : Hp) (Q : VK) : (rSlL K x lo hi H Q) = (∃ a xs, x = .ref a ∧ SqL K H a xs ∧ ∀ p, H p = none → Q (.ref p) (upd H p (.lst (cutV xs lo hi)))) := rfl
theorem a_rSlT (K : PySem.W.Frag) (x : V) (lo hi : Option Int) (H : Hp) (Q : VK) : (rSlT K x lo hi H Q) = (∃ a xs, x = .ref a ∧ SqT K H a xs ∧ ¬ (HT.sIx xs.length 0 lo = 0 ∧ HT.sIx xs.length xs.length hi = xs.length) ∧ ∀ p, H p = none → Q (.ref p) (upd H p (.tup (cutV xs lo hi)))) := rfl
theorem a_rIxL (K : PySem.W.Frag) (x y : V) (H : Hp) (Q : VK) : (rIxL K x y H Q) = (∃ p xs i v, x = .ref p ∧ y = .int i ∧ SqL K H p xs ∧ atI xs i = some v ∧ Q v H) := rfl
theorem a_rIxT (K : PySem.W.Frag) (x y : V) (H : Hp) (Q : VK) : (rIxT K x y H Q) = (∃ p xs i v, x = .ref p ∧ y = .int i ∧ SqT K H p xs ∧ atI xs i = some v ∧ Q v H) := rfl
theorem a_rCat (x y : V) (H : Hp) (Q : VK) : (rCat x y H Q) = (∃ l b xs zs, x = .ref l ∧ y = .ref b ∧ H l = some (.lst xs) ∧ H b = some (.lst zs) ∧ xs.length + zs.length ≤ sizeLine ∧ ∀ p, H p = none → Q (.ref p) (upd H p (.lst (xs ++ zs)))) := rfl
theorem a_rRep (x y : V) (H : Hp) (Q : VK) : (rRep x y H Q) = (∃ l k xs, x = .ref l ∧ y = .int k ∧ H l = some (.lst xs) ∧ -(2 ^ 63) ≤ k ∧ k < 2 ^ 63 ∧ xs.length * k.toNat ≤ sizeLine ∧ ∀ p, H p = none → Q (.ref p) (upd H p (.lst (List.replicate k.toNat xs).flatten))) := rfl
theorem a_rCatT (K : PySem.W.Frag) (x y : V) (H : Hp) (Q : VK) : (rCatT K x y H Q) = (∃ a b xs ys, x = .ref a ∧ y = .ref b ∧ SqT K H a xs ∧ SqT K H b ys ∧ xs ≠ [] ∧ xs.length + ys.length ≤ sizeLine ∧ (ys = [] → Q (.ref a) H) ∧ (ys ≠ [] → ∀ p, H p = none → Q (.ref p) (upd H p (.tup (xs ++ ys))))) := rfl
theorem a_tDGet (td ty : TE) (σ : St) (H : Hp) (Q : VK) : (tDGet td ty σ H Q) = (td σ H fun x H1 => ty σ H1 fun y H2 => ∃ a v, x = .ref a ∧ DGet H2 a y (some v) ∧ Q v H2) := rfl
theorem a_tDIn (ty td : TE) (σ : St) (H : Hp) (Q : VK) : (tDIn ty td σ H Q) = (ty σ H fun y H1 => td σ H1 fun x H2 => ∃ a o, x = .ref a ∧ DGet H2 a y o ∧ Q (.bl o.isSome) H2) := rfl
theorem a_tDNotIn (ty td : TE) (σ : St) (H : Hp) (Q : VK) : (tDNotIn ty td σ H Q) = (ty σ H fun y H1 => td σ H1 fun x H2 => ∃ a o, x = .ref a ∧ DGet H2 a y o ∧ Q (.bl (!o.isSome)) H2) := rfl
theorem a_sDPut (td ty tv : TE) (D : Ends) (σ : St) (H : Hp) : (sDPut td ty tv D σ H) = (tv σ H fun v H1 => td σ H1 fun x H2 => ty σ H2 fun y H3 => ∃ a H4, x = .ref a ∧ DPut H3 a y v H4 ∧ D.nx σ H4) := rfl
theorem a_tDPop1 (td ty : TE) (σ : St) (H : Hp) (Q : VK) : (tDPop1 td ty σ H Q) = (td σ H fun x H1 => ∃ a, x = .ref a ∧ IsD H1 a ∧ ty σ H1 fun y H2 => ∃ kvs k v, H2 a = some (.dK kvs) ∧ y = kV k ∧ valV kvs k = some v ∧ Q v (upd H2 a (.dK (dropK kvs k)))) := rfl
theorem a_tDNewK (σ : St) (H : Hp) (Q : VK) : (tDNewK σ H Q) = (∀ p, H p = none → Q (.ref p) (upd H p (.dK []))) := rfl
theorem a_tBM (K : PySem.W.Frag) (T : String) (r : V → List V → Hp → VK → Prop) (to : TE) (t : TA) (σ : St) (H : Hp) (Q : VK) : (tBM K T r to t σ H Q) = (to σ H fun x H1 => tyV K T x H1 ∧ t σ H1 fun xs H2 => r x xs H2 Q) := rfl
theorem a_rAppend (x : V) (vs : List V) (H : Hp) (Q : VK) : (rAppend x vs H Q) = (∃ l xs y, x = .ref l ∧ vs = [y] ∧ H l = some (.lst xs) ∧ xs.length < sizeLine ∧ Q .non (upd H l (.lst (xs ++ [y])))) := rfl
theorem a_rExtend (x : V) (vs : List V) (H : Hp) (Q : VK) : (rExtend x vs H Q) = (∃ l b xs zs, x = .ref l ∧ vs = [.ref b] ∧ H l = some (.lst xs) ∧ H b = some (.lst zs) ∧ xs.length + zs.length ≤ sizeLine ∧ Q .non (upd H l (.lst (xs ++ zs)))) := rfl
theorem a_iList (K : PySem.W.Frag) (tl : TE) (σ : St) (H : Hp) (R : It → Hp → Prop) : (iList K tl σ H R) = (tl σ H fun x H1 => ∃ a, x = .ref a ∧ (∃ xs, SqL K H1 a xs) ∧ R (Itl K a) H1) := rfl
theorem a_iEnum (K : PySem.W.Frag) (ta : TA) (σ : St) (H : Hp) (R : It → Hp → Prop) : (iEnum K ta σ H R) = (ta σ H fun vs H1 => ∃ a xs, vs = [.ref a] ∧ SqL K H1 a xs ∧ R (Ite K a) H1) := rfl
theorem a_iRng1 (ta : TA) (σ : St) (H : Hp) (R : It → Hp → Prop) : (iRng1 ta σ H R) = (ta σ H fun vs H1 => ∃ j : Int, vs = [.int j] ∧ -(2 ^ 62) ≤ j ∧ j < 2 ^ 62 ∧ R (Itr 0 j.toNat) H1) := rfl
theorem a_iRng2 (ta : TA) (σ : St) (H : Hp) (R : It → Hp → Prop) : (iRng2 ta σ H R) = (ta σ H fun vs H1 => ∃ i j : Int, vs = [.int i, .int j] ∧ (-(2 ^ 62) ≤ i ∧ i < 2 ^ 62 ∧ -(2 ^ 62) ≤ j ∧ j < 2 ^ 62) ∧ R (Itr i (j - i).toNat) H1) := rfl
theorem a_iVals (td : TE) (σ : St) (H : Hp) (R : It → Hp → Prop) : (iVals td σ H R) = (td σ H fun x H1 => ∃ d o kvs, x = .ref d ∧ H1 d = some (.frz o (.dK kvs)) ∧ R (Itd d o kvs) H1) := rfl
theorem a_iItems (td : TE) (σ : St) (H : Hp) (R : It → Hp → Prop) : (iItems td σ H R) = (td σ H fun x H1 => ∃ d o kvs, x = .ref d ∧ H1 d = some (.frz o (.dK kvs)) ∧ R (Iti d o kvs) H1) := rfl
theorem a_iRng3 (ta : TA) (σ : St) (H : Hp) (R : It → Hp → Prop) : (iRng3 ta σ H R) = (ta σ H fun vs H1 => ∃ (i j c : Int) (n : Nat), vs = [.int i, .int j, .int c] ∧ RgC i j c n ∧ R (Itc i c n) H1) := rfl
theorem a_iStr (te : TE) (σ : St) (H : Hp) (R : It → Hp → Prop) : (iStr te σ H R) = (te σ H fun v H1 => ∃ x, v = .str x ∧ R (Its x) H1) := rfl
theorem a_tMX (C : Addr) (m : Str) (sp : Sp) (E : St → XK) (ta : TE) (t : TA) (σ : St) (H : Hp) (Q : VK) : (tMX C m sp E ta t σ H Q) = (ta σ H fun x H1 => ∃ a dx fs, x = .ref a ∧ H1 a = some (.ins C dx fs) ∧ fs.lookup m = none ∧ t σ H1 fun vs H2 => sp (x :: vs) H2 Q (E σ)) := rfl
theorem a_tXf (a : Addr) (cls : Value) (d : Option Addr) (C : Addr) (f : Str) (te : TE) (σ : St) (H : Hp) (Q : VK) : (tXf a cls d C f te σ H Q) = (te σ H fun x H1 => x = .ref a ∧ cls = .ref C ∧ ∃ (dd : Addr) (fs : List (Str × V)) (v : V), d = some dd ∧ H1 dd = some (.xd fs) ∧ fs.lookup f = some v ∧ Q v H1) := rfl
theorem a_wAs (K : PySem.W.Frag) (c : Value) (i : Nat) (ts : Addr → Value → Option Addr → TS) (Wout : L2.WX) (D : Ends) (cls : Value) (d : Option Addr) (σ : St) (H : Hp) : (wAs K c i ts Wout D cls d σ H) = (∃ b, PySem.W.exmOne K cls c = some b ∧ (b = true → ∀ a, H a = none → ts a cls d { nx := fun σ' H' => D.nx (σ'.set i none) H', rt := D.rt, bk := fun σ' H' => D.bk (σ'.set i none) H', ct := fun σ' H' => D.ct (σ'.set i none) H' } (σ.set i (some (.ref a))) H) ∧ (b = false → Wout cls d σ H)) := rfl
theorem a_tRaise (t : St → Hp → XK → Prop) (W : L2.WX) (D : Ends) (σ : St) (H : Hp) : (tRaise t W D σ H) = (t σ H fun cls d H2 => W cls d σ H2) := rfl
theorem a_tVeI (K : PySem.W.Frag) (ta : TA) (σ : St) (H : Hp) (Q : VK) : (tVeI K ta σ H Q) = (ta σ H fun vs H1 => ∃ (a C : Addr) (ws : List V), vs = .ref a :: ws ∧ ws.length ≤ 1000 ∧ OexC K C ∧ H1 a = some (exo a C none) ∧ Q .non H1) := rfl
theorem a_tOst (K : PySem.W.Frag) (f : Str) (to te : TE) (D : Ends) (σ : St) (H : Hp) : (tOst K f to te D σ H) = (te σ H fun y H1 => to σ H1 fun x H2 => ∃ a C : Addr, x = .ref a ∧ OexC K C ∧ PySem.W.findIn K (.ref C) f = some none ∧ ((H2 a = some (exo a C none) ∧ ∀ dx, H2 dx = none → dx ≠ a → D.nx σ (upd (upd H2 dx (exd dx [(f, y)])) a (exo a C (some dx)))) ∨ ∃ (dx : Addr) (fs : List (Str × V)), H2 a = some (exo a C (some dx)) ∧ H2 dx = some (exd dx fs) ∧ fs.length ≤ 900 ∧ D.nx σ (upd H2 dx (exd dx ((f, y) :: fs))))) := rfl
theorem a_tMkO (C : Addr) (sp : Sp) (dvs : List V) (ta : TA) (σ : St) (H : Hp) (Q : XK) : (tMkO C sp dvs ta σ H Q) = (ta σ H fun vs H1 => vs.length ≤ 1000 ∧ ∀ a, H1 a = none → sp (.ref a :: (vs ++ dvs)) (upd H1 a (exo a C none)) (fun v H2 => v = .non ∧ ∃ (d : Addr) (fs : List (Str × V)), H2 a = some (exo a C (some d)) ∧ H2 d = some (exd d fs) ∧ H1 d = none ∧ Q (.ref C) (some d) (upd (del H2 a) d (.xd fs))) (fun _ _ _ => False)) := rfl
theorem a_tMake (C : Addr) (sp : Sp) (dvs : List V) (E : XK) (t : TA) (σ : St) (H : Hp) (Q : VK) : (tMake C sp dvs E t σ H Q) = (t σ H fun vs H1 => ∀ x dx, H1 x = none → H1 dx = none → dx ≠ x → sp (.ref x :: (vs ++ dvs)) (upd (upd H1 dx (.own x)) x (.ins C dx [])) (fun v H2 => v = .non ∧ Q (.ref x) H2) E) := rfl
theorem a_rSum (K : PySem.W.Frag) (vs : List V) (H : Hp) (Q : VK) : (rSum K vs H Q) = (∃ (a : Addr) (ns : List Int), vs = [V.ref a] ∧ SqL K H a (ns.map V.int) ∧ Q (.int ns.sum) H) := rfl
theorem a_rIsi (K : PySem.W.Frag) (xs : List V) (H : Hp) (Q : VK) : (rIsi K xs H Q) = (∃ (x c : V) (t u : Value) (b : Bool), xs = [x, c] ∧ ClsV c u ∧ TyX K H x t ∧ PySem.W.kitOne K t u = some b ∧ Q (.bl b) H) := rfl
theorem a_tChain3 (r1 r2 r3 : R2) (ta tb tc td : TE) (σ : St) (H : Hp) (Q : VK) : (tChain3 r1 r2 r3 ta tb tc td σ H Q) = (ta σ H fun x H1 => tb σ H1 fun y H2 => r1 x y H2 fun z H3 => ∃ k, z = .bl k ∧ (if k = true then tc σ H3 fun w H4 => r2 y w H4 fun z2 H5 => ∃ k2, z2 = .bl k2 ∧ (if k2 = true then td σ H5 fun u H6 => r3 w u H6 Q else Q (.bl false) H5) else Q (.bl false) H3)) := rfl
theorem a_tAugS (to ti te : TE) (tget : V → V → Hp → VK → Prop) (tip : TIp) (tset : TSet) (D : Ends) (σ : St) (H : Hp) : (tAugS to ti te tget tip tset D σ H) = (to σ H fun o H1 => ti σ H1 fun i H2 => tget o i H2 fun x H3 => te σ H3 fun y H4 => tip x y H4 fun z H5 => tset o i z H5 fun H6 => D.nx σ H6) := rfl
theorem a_rGetL (o i : V) (H : Hp) (Q : VK) : (rGetL o i H Q) = (∃ p xs k v, o = .ref p ∧ i = .int k ∧ H p = some (.lst xs) ∧ 0 ≤ k ∧ xs[k.toNat]? = some v ∧ Q v H) := rfl
theorem a_rPutL (o i v : V) (H : Hp) (Q : Hp → Prop) : (L2.rSetL o i v H Q) = (∃ p xs k j, o = .ref p ∧ i = .int k ∧ H p = some (.lst xs) ∧ ixN xs.length k = some j ∧ Q (upd H p (.lst (xs.set j v)))) := rfl
theorem a_ipI (f : Int → Int → Int) (x y : V) (H : Hp) (Q : VK) : (ipI f x y H Q) = (∃ i j, x = .int i ∧ y = .int j ∧ Q (.int (f i j)) H) := rfl
theorem a_rSet (K : PySem.W.Frag) (w : World) (vs : List V) (H : Hp) (Q : VK) : (NbU.rSetL K w vs H Q) = (∃ (a : Addr) (ns : List Int), vs = [V.ref a] ∧ SqL K H a (ns.map V.int) ∧ ns.length ≤ 1000 ∧ ∀ p c, H p = none → c ≤ ns.length → Q (.ref p) (upd H p (SetO w p (fun j => decide (j ∈ ns)) c))) := rfl
theorem a_tCKw (r : List V → List V → Hp → VK → Prop) (t tk : TA) (σ : St) (H : Hp) (Q : VK) : (tCKw r t tk σ H Q) = (t σ H fun vs H1 => tk σ H1 fun zs H2 => r vs zs H2 Q) := rfl
theorem a_rMinD (K : PySem.W.Frag) (vs zs : List V) (H : Hp) (Q : VK) : (rMinD K vs zs H Q) = (∃ (p : Addr) (ns : List Int) (d : Int), vs = [.ref p] ∧ zs = [.int d] ∧ SqL K H p (ns.map V.int) ∧ Q (.int (NbM.minD d ns)) H) := rfl
theorem a_rMin (K : PySem.W.Frag) (vs : List V) (H : Hp) (Q : VK) : (rMin K vs H Q) = (∃ (a : Addr) (ns : List Int), vs = [V.ref a] ∧ SqL K H a (ns.map V.int) ∧ 0 < ns.length ∧ ∀ m, m ∈ ns → (∀ y, y ∈ ns → m ≤ y) → Q (.int m) H) := rfl
theorem a_rIxS (x y : V) (H : Hp) (Q : VK) : (rIxS x y H Q) = (∃ z i c, x = .str z ∧ y = .int i ∧ z.length ≤ sizeLine ∧ atI z.cps.toList i = some c ∧ Q (.str ⟨#[c]⟩) H) := rfl
theorem a_rSlS (x : V) (lo hi : Option Int) (H : Hp) (Q : VK) : (rSlS x lo hi H Q) = (∃ z, x = .str z ∧ z.length ≤ sizeLine ∧ Q (.str (cutS z lo hi)) H) := rfl
theorem a_iTup (K : PySem.W.Frag) (tl : TE) (σ : St) (H : Hp) (R : It → Hp → Prop) : (iTup K tl σ H R) = (tl σ H fun x H1 => ∃ a, x = .ref a ∧ (∃ xs, SqT K H1 a xs) ∧ R (Itt K a) H1) := rfl
theorem a_rIn (K : PySem.W.Frag) (neg : Bool) (x y : V) (H : Hp) (Q : VK) : (rIn K neg x y H Q) = (∃ p xs, y = .ref p ∧ (SqL K H p xs ∨ SqT K H p xs) ∧ flatV x = true ∧ xs.all flatV = true ∧ Q (.bl (if neg then !inV x xs else inV x xs)) H) := rfl
theorem a_rEqD (K : PySem.W.Frag) (x y : V) (H : Hp) (Q : VK) : (rEqD K x y H Q) = (∃ d e, Dp K H x d ∧ Dp K H y e ∧ SeqAt.shaped d = true ∧ SeqAt.shaped e = true ∧ Q (.bl (PyData.eqv d e)) H) := rfl
theorem a_rNeD (K : PySem.W.Frag) (x y : V) (H : Hp) (Q : VK) : (rNeD K x y H Q) = (∃ d e, Dp K H x d ∧ Dp K H y e ∧ SeqAt.shaped d = true ∧ SeqAt.shaped e = true ∧ Q (.bl (!PyData.eqv d e)) H) := rfl
theorem k_cxU {c : Bool} {CX : CXT} {P : Program} {w : World} {K : PySem.W.Frag} {mg : Str → Option Value} {base : Heap} {N : List Str} {qual : Str} {scope : Scope} {f : Addr} {cd : Value} {A : Around} {outer : List Env} {s : Shared} {H : Hp} {E : XK} {pl : List (Addr × Obj)} : (cxU c CX P w K mg base N qual scope f cd A outer s H E pl).K = K := rfl
theorem w_cxU {c : Bool} {CX : CXT} {P : Program} {w : World} {K : PySem.W.Frag} {mg : Str → Option Value} {base : Heap} {N : List Str} {qual : Str} {scope : Scope} {f : Addr} {cd : Value} {A : Around} {outer : List Env} {s : Shared} {H : Hp} {E : XK} {pl : List (Addr × Obj)} : (cxU c CX P w K mg base N qual scope f cd A outer s H E pl).w = w := rfl
theorem k_blk {X : Cx} {s : Shared} {H : Hp} {scope : Scope} {cenv : Env} {fp : List Addr} : (X.blk s H scope cenv fp).K = X.K := rfl
theorem w_blk {X : Cx} {s : Shared} {H : Hp} {scope : Scope} {cenv : Env} {fp : List Addr} : (X.blk s H scope cenv fp).w = X.w := rfl
/-! ### loops, shut -/
def ForW (J : It) (g : TG) (tb : TS) (D : Ends) (σ : St) (H : Hp) : Prop := ∃ W : Nat → Nat → St → Hp → Prop, (∃ m, W 0 m σ H) ∧ ∀ i m σ H, W i m σ H →
  (J.stop i H ∧ D.nx σ H) ∨ (J.go i H ∧ ∃ N : St → Hp → Prop, (∀ σ' H', N σ' H' → ∃ m', m' < m ∧ W (i + 1) m' σ' H') ∧ ∀ x H', J.yld i H x H' → g x σ H' fun σ2 H2 => tb { D with nx := N, ct := N, bk := D.nx } σ2 H2)
theorem a_tFor (wi : TI) (g : TG) (tb : TS) (D : Ends) (σ : St) (H : Hp) : tFor wi g tb D σ H = wi σ H fun J H1 => ForW J g tb D σ H1 := rfl
def LcW (J : It) (g : TG) (tt : TT) (te : TE) (vs : List Nat) (σ : St) (H1 : Hp) (D : Addr) (Q : Hp → Prop) : Prop := ∃ W : Nat → Nat → Hp → Prop, (∃ m, W 0 m (upd H1 D (.lst []))) ∧ ∀ i m H, W i m H →
  (J.stop i H ∧ Q H) ∨ (J.go i H ∧ ∃ Nx : Hp → Prop, (∀ H', Nx H' → ∃ m', m' < m ∧ W (i + 1) m' H') ∧ ∀ x H', J.yld i H x H' → g x (wipe σ vs) H' fun σ2 H2 => wipe σ2 vs = wipe σ vs ∧ tt σ2 H2 fun b H3 =>
    if b = true then te σ2 H3 fun y H4 => ∃ acc, H4 D = some (.lst acc) ∧ acc.length < sizeLine ∧ Nx (upd H4 D (.lst (acc ++ [y]))) else Nx H3)
theorem a_tLc (wi : TI) (g : TG) (tt : TT) (te : TE) (vs : List Nat) (σ : St) (H : Hp) (Q : VK) : tLc wi g tt te vs σ H Q = wi σ H fun J H1 => ∀ D, H1 D = none → LcW J g tt te vs σ H1 D (fun H' => Q (.ref D) H') := rfl
def WhW (c : TT) (tb : TS) (D : Ends) (σ : St) (H : Hp) : Prop := tWhile c tb D σ H
theorem a_tWhile (c : TT) (tb : TS) (D : Ends) (σ : St) (H : Hp) : tWhile c tb D σ H = WhW c tb D σ H := rfl
theorem a_wipe0 (σ : St) : wipe σ [] = σ := rfl
theorem a_wipe1 (σ : St) (v : Nat) (vs : List Nat) : wipe σ (v :: vs) = (wipe σ vs).set v none := rfl
section
variable {J : It} {n : Nat} {G : Hp → Prop} {Y : Nat → Hp → V → Hp → Prop}
theorem for_go (w : Walk J n G Y) {g : TG} {tb : TS} {D : Ends} {σ : St} {H : Hp} (Pv : Nat → St → Hp → Prop) (h0 : Pv 0 σ H) (hG : ∀ i σ H, i ≤ n → Pv i σ H → G H)
    (hs : ∀ i x σ H H', i < n → Pv i σ H → Y i H x H' → g x σ H' fun σ2 H2 => tb { D with nx := Pv (i + 1), ct := Pv (i + 1), bk := D.nx } σ2 H2) (hd : ∀ σ H, Pv n σ H → D.nx σ H) : ForW J g tb D σ H := for_it w Pv h0 hG hs hd
theorem lc_go (w : Walk J n G Y) {g : TG} {tt : TT} {te : TE} {vs : List Nat} {σ : St} {H1 : Hp} {D : Addr} {Q : Hp → Prop} (hD : H1 D = none) (accs : Nat → List V) (h0 : accs 0 = []) (hG : ∀ H, Same H1 H → G H)
    (hs : ∀ i x H H', i < n → Same H1 H → H D = some (.lst (accs i)) → Y i H x H' → g x (wipe σ vs) H' fun σ2 H2 => wipe σ2 vs = wipe σ vs ∧ tt σ2 H2 fun b H3 =>
      if b = true then te σ2 H3 fun y H4 => ∃ acc, H4 D = some (.lst acc) ∧ acc.length < sizeLine ∧ (Same H1 (upd H4 D (.lst (acc ++ [y]))) ∧ upd H4 D (.lst (acc ++ [y])) D = some (.lst (accs (i + 1)))) else Same H1 H3 ∧ H3 D = some (.lst (accs (i + 1))))
    (hd : ∀ H, Same H1 H → H D = some (.lst (accs n)) → Q H) : LcW J g tt te vs σ H1 D Q :=
  lc_it w (fun i H => Same H1 H ∧ H D = some (.lst (accs i))) ⟨fun b o e => by rw [upd_ne (ne_of_none e hD)]; exact e, by rw [upd_same, h0]⟩ (fun i H _ h => hG H h.1) (fun i x H H' hi h y => hs i x H H' hi h.1 h.2 y) fun H h => hd H h.1 h.2
theorem lc_ex (w : Walk J n G Y) {g : TG} {tt : TT} {te : TE} {vs : List Nat} {σ : St} {H1 : Hp} {D : Addr} {Q : Hp → Prop} (hD : H1 D = none) (R : Nat → Hp → List V → Prop) (h0 : R 0 (upd H1 D (.lst [])) []) (hG : ∀ H, Same H1 H → G H)
    (hs : ∀ i x H H' acc, i < n → Same H1 H → H D = some (.lst acc) → R i H acc → Y i H x H' → g x (wipe σ vs) H' fun σ2 H2 => wipe σ2 vs = wipe σ vs ∧ tt σ2 H2 fun b H3 =>
      if b = true then te σ2 H3 fun y H4 => ∃ acc', H4 D = some (.lst acc') ∧ acc'.length < sizeLine ∧ (Same H1 (upd H4 D (.lst (acc' ++ [y]))) ∧ ∃ acc2, upd H4 D (.lst (acc' ++ [y])) D = some (.lst acc2) ∧ R (i + 1) (upd H4 D (.lst (acc' ++ [y]))) acc2) else Same H1 H3 ∧ ∃ acc2, H3 D = some (.lst acc2) ∧ R (i + 1) H3 acc2)
    (hd : ∀ H acc, Same H1 H → H D = some (.lst acc) → R n H acc → Q H) : LcW J g tt te vs σ H1 D Q :=
  lc_it w (fun i H => Same H1 H ∧ ∃ acc, H D = some (.lst acc) ∧ R i H acc) ⟨fun b o e => by rw [upd_ne (ne_of_none e hD)]; exact e, [], upd_same, h0⟩ (fun i H _ h => hG H h.1) (fun i x H H' hi ⟨h1, acc, h2, h3⟩ y => hs i x H H' acc hi h1 h2 h3 y) fun H ⟨h1, acc, h2, h3⟩ => hd H acc h1 h2 h3
end
theorem while_go {c : TT} {tb : TS} {D : Ends} {σ : St} {H : Hp} (Pv : Nat → St → Hp → Prop) (m0 : Nat) (h0 : Pv m0 σ H) (hs : ∀ m σ H, Pv m σ H → c σ H fun b H1 => if b = true then ∃ N : St → Hp → Prop, (∀ σ' H', N σ' H' → ∃ m', m' < m ∧ Pv m' σ' H') ∧ tb { D with nx := N, ct := N, bk := D.nx } σ H1 else D.nx σ H1) : WhW c tb D σ H :=
  ⟨Pv, ⟨m0, h0⟩, hs⟩
theorem huU {k : Nat} {A : Around} (r : L2H.RoomH k A) : A.units + 1 < cLine := by have := r.un; omega
theorem hu64 {k : Nat} {A : Around} (r : L2H.RoomH k A) : A.units + 64 < cLine := by have := r.un; omega
theorem hu3 {k : Nat} {A : Around} (r : L2H.RoomH k A) : A.units + 3 < cLine := by have := r.un; omega
/-! ### within a comprehension's block: the written part by its own name -/
section
variable {X : Cx} {e : Expr} {es : List Expr} {ta : TE} {f : Str} {pos : Pos} {t : TGs} {n k : Nat}
theorem ix_listK (K : PySem.W.Frag) (h : X.K = K := by rfl) : IxR X (rIxL K) := h ▸ ix_list
theorem ix_tupK (K : PySem.W.Frag) (h : X.K = K := by rfl) : IxR X (rIxT K) := h ▸ ix_tup
theorem sl_listK (K : PySem.W.Frag) (h : X.K = K := by rfl) : SlR X (rSlL K) := h ▸ sl_list
theorem sl_tupK (K : PySem.W.Frag) (h : X.K = K := by rfl) : SlR X (rSlT K) := h ▸ sl_tup
theorem op_catTK (K : PySem.W.Frag) (h : X.K = K := by rfl) : OpR X (binaryOp .Add) (rCatT K) := h ▸ op_catT
theorem op_eqDK (K : PySem.W.Frag) (hu : X.A.units + 64 < cLine) (h : X.K = K := by rfl) : OpR X (compareOp .Eq) (rEqD K) := h ▸ op_eqD hu
theorem op_neDK (K : PySem.W.Frag) (hu : X.A.units + 64 < cLine) (h : X.K = K := by rfl) : OpR X (compareOp .NotEq) (rNeD K) := h ▸ op_neD hu
theorem pe_fldK (K : PySem.W.Frag) (he : PE X e ta) (hb : attributeBase e f X.env (eval e X.env) = eval e X.env) (h : X.K = K := by rfl) : PE X (.Attribute e f pos) (tFld K ta f) := h ▸ pe_fld he hb
theorem pgu_tupK (K : PySem.W.Frag) (hc : Warm X) (h : PGs X es t) (hn : (assignEach es X.env).length = n := by rfl) (hst : (assignEach es X.env).findIdx? (·.1) = none := by rfl) (hk : X.K = K := by rfl) : PG X (.Tuple es k pos) (gTup K n t) := hk ▸ pgu_tup hc h hn hst
theorem len_seqK (K : PySem.W.Frag) (h : X.K = K := by rfl) : CallR X (.builtin "len") (fun xs H Q => ∃ p ys, xs = [.ref p] ∧ (SqL K H p ys ∨ SqT K H p ys) ∧ Q (.int ys.length) H) := h ▸ call_len_seq
theorem op_inK (K : PySem.W.Frag) (h : X.K = K := by rfl) : OpR X (compareOp .In) (rIn K false) := h ▸ op_in_seq
theorem op_notInK (K : PySem.W.Frag) (h : X.K = K := by rfl) : OpR X (compareOp .NotIn) (rIn K true) := h ▸ op_notIn_seq
end
/-! ### an __init__ -/
def GI (P : Program) (w : World) (K : PySem.W.Frag) (mg : Str → Option Value) (base : Heap) (c : Bool) (k : Nat) (C : Addr) (sp : Sp) : Prop :=
  ∃ (fd : FuncData) (ps : List Str) (ds : List Value), Binds K fd ps ds ∧ Vals [] ds ∧ FnU P w K mg base c CX0 k (He.ma K C "__init__") fd ps sp
theorem pe_mkU {X : Cx} {c : Bool} {k : Nat} {C : Addr} {sp : Sp} {x : Str} {p pos : Pos} {e : Expr} {es : List Expr} {t : TA} (M : Mk X.K C (He.ma X.K C "__init__")) (G : GI X.prog X.w X.K X.mg X.base c k C sp) (hr : L2H.RoomH (k + 1) X.A) (hh : X.A.handled = none) (hg : Gl X x) (hm : X.mg x = some (.ref C))
    (ha : PA X (e :: es) t) (hdb : (x == ("__debug__" : Str)) = false := by decide) (he : starEach (e :: es) X.env = (false, eval e X.env) :: starEach es X.env := by rfl) (hpl : (backTo pos (starEach es X.env)).any (·.1) = false := by rfl) :
    PE X (.Call (.Name x p) (e :: es) [] pos) (tMake C sp [] E0 t) := by
  obtain ⟨fd, ps, ds, hb, hd, F⟩ := G
  exact pe_make M F.fn ⟨hh, hr.dp, hr.un⟩ hg hm hb hd pass0 ha hdb he hpl
theorem pmk_own {X : Cx} {c : Bool} {k : Nat} {C : Addr} {sp : Sp} {x : Str} {p pos : Pos} {e : Expr} {es : List Expr} {ta : TA} (T : OexC X.K C) (iC : PySem.W.findIn X.K (.ref C) "__init__" = some (some (.ref (He.ma X.K C "__init__")))) (tI : PySem.W.typeIn X.K (.ref (He.ma X.K C "__init__")) = some (.type "function"))
    (G : GI X.prog X.w X.K X.mg X.base c k C sp) (hr : L2H.RoomH (k + 1) X.A) (hh : X.A.handled = none) (hg : Gl X x) (hm : X.mg x = some (.ref C)) (ha : PA X (e :: es) ta)
    (hdb : (x == ("__debug__" : Str)) = false := by decide) (he : starEach (e :: es) X.env = (false, eval e X.env) :: starEach es X.env := by rfl) (hpl : (backTo pos (starEach es X.env)).any (·.1) = false := by rfl) :
    L2N.PMk X (.Call (.Name x p) (e :: es) [] pos) (tMkO C sp [] ta) := by
  obtain ⟨fd, ps, ds, hb, hd, F⟩ := G
  cases hd
  exact pmk_oexN T iC tI F.fn ⟨hh, hr.dp, hr.un⟩ hb pass0 hg hm ha hdb he hpl
theorem ps_raiseW {X : Cx} {W : L2.WX} {e : Expr} {t : St → Hp → XK → Prop} {pos : Pos} (hc : X.calm = true) (tk : L2N.Takes X W) (he : L2N.PMk X e t) : PS X (.Raise (some e) none pos) (tRaise t W) := L2N.ps_raise hc tk he
theorem ps_nox {X : Cx} {st : Stmt} {t : TS} (h : PS X.nox st t) : PS X st t := ⟨fun pins s σ H D I hw =>
  wpAny_mono (h.run pins s σ H D (I.wish _) hw) (fun _ _ q => q.unwish) fun _ _ z => False.elim z⟩
theorem takes_never {X : Cx} : L2N.Takes X.nox (fun _ _ _ _ => False) := fun u s' ⟨_, _, _, _, _, _, _, _, _, _, _, _, _, _, _, _, w⟩ => w
theorem roomS {k : Nat} {X : Cx} {a : Addr} {l : List (Addr × Obj)} (h : L2H.RoomH k X.A) : L2H.RoomH k (X.suite a l).A := ⟨h.dp, h.un⟩
theorem warmS {X : Cx} {a : Addr} {oe : Obj} {cls : Value} {d : Option Addr} {pn : List (Addr × Obj)} (hz : L2N.Zn cls d oe) (hf : ∃ vs, oe.data = .fields vs) : Warm (X.suite a ((a, oe) :: pn)) := let ⟨vs, hd⟩ := hf; .inr ⟨(a, oe), ⟨rfl, vs, hd, hz.2.2 vs hd⟩, List.mem_cons_self⟩
/-! ### heaps that grow -/
theorem _root_.L2.Same.rfl' {H : Hp} : Same H H := fun _ _ h => h
theorem _root_.L2.Same.tr {H H' H'' : Hp} (h : Same H H') (h' : Same H' H'') : Same H H'' := fun b o e => h' b o (h b o e)
theorem _root_.L2.Same.new {H H' : Hp} {p : Addr} {o : HO} (h : Same H H') (hp : H' p = none) : Same H (upd H' p o) := fun b u e => by
  rw [upd_ne (ne_of_none (h b u e) hp)]
  exact h b u e
theorem get_new {H : Hp} {b p : Addr} {o u : HO} (h : H b = some u) (hp : H p = none) : upd H p o b = some u := by
  rw [upd_ne (ne_of_none h hp)]
  exact h
/-- what was free at the start and has been laid there: rewritten -/
theorem _root_.L2.Same.put {H H' : Hp} {p : Addr} {o : HO} (h : Same H H') (hp : H p = none) : Same H (upd H' p o) := fun b u e => by
  rw [upd_ne (ne_of_none e hp)]
  exact h b u e
/-- a comprehension's turn has an item -/
theorem leaf {H1 H4 : Hp} {D : Addr} {accs : Nat → List V} {i : Nat} {y : V} (hD : H1 D = none) (h : H4 D = some (.lst (accs i))) (s : Same H1 H4) (hl : (accs i).length < sizeLine) (e : accs (i + 1) = accs i ++ [y]) :
    ∃ acc, H4 D = some (.lst acc) ∧ acc.length < sizeLine ∧ Same H1 (upd H4 D (.lst (acc ++ [y]))) ∧ acc ++ [y] = accs (i + 1) :=
  ⟨accs i, h, hl, s.put hD, e.symm⟩
theorem leafN {H1 H4 : Hp} {D : Addr} {accs : Nat → List V} {i : Nat} (h : H4 D = some (.lst (accs i))) (s : Same H1 H4) (e : accs (i + 1) = accs i) : Same H1 H4 ∧ H4 D = some (.lst (accs (i + 1))) := ⟨s, by rw [e]; exact h⟩
/-! ### tuples are for ever -/
/-- a tuple that is read: tracked, or of the module -/
def Tu (K : PySem.W.Frag) (H : Hp) (a : Addr) (xs : List V) : Prop :=
  H a = some (.tup xs) ∨ ∃ (o : Obj) (its : Array Value) (n : Nat), K.lookup a = some o ∧ o.cls = .type "tuple" ∧ o.data = .seq its n ∧ its.size ≤ sizeLine ∧ Vals xs its.toList
theorem Tu.sq {K : PySem.W.Frag} {H : Hp} {a : Addr} {xs : List V} (h : Tu K H a xs) : SqT K H a xs := h.elim (fun e => .inl (.inl e)) .inr
def Tups (H H' : Hp) : Prop := ∀ b xs, H b = some (.tup xs) → H' b = some (.tup xs)
theorem Tu.keep {K : PySem.W.Frag} {H H' : Hp} {a : Addr} {xs : List V} (h : Tu K H a xs) (k : Tups H H') : Tu K H' a xs := h.imp (k a xs) id
theorem _root_.L2.Same.tups {H H' : Hp} (s : Same H H') : Tups H H' := fun b xs e => s b _ e
theorem tups_put {H : Hp} {r : Addr} {u o : HO} (h : H r = some u) (n : ∀ xs, u ≠ .tup xs) : Tups H (upd H r o) := fun b xs e => by
  by_cases c : b = r
  · rw [c, h] at e
    exact absurd (Option.some.inj e) (n xs)
  · rw [upd_ne c]
    exact e
theorem Tups.tr {H H' H'' : Hp} (a : Tups H H') (b : Tups H' H'') : Tups H H'' := fun c xs e => b c xs (a c xs e)
/-- a lock is taken off -/
theorem unlock {H H' : Hp} {d : Addr} {u : HO} {od : Obj} (s : Same (upd H d (.frz od u)) H') (h : H d = some u) : Same H (upd H' d u) := fun b o e => by
  by_cases c : b = d
  · subst c
    rw [upd_same, ← e, h]
  · rw [upd_ne c]
    exact s b o (by rw [upd_ne c]; exact e)
theorem locked {H H' : Hp} {d : Addr} {u : HO} {od : Obj} (s : Same (upd H d (.frz od u)) H') : H' d = some (.frz od u) := s _ _ upd_same
/-- all but the things at fp stand, the tuples all -/
structure Fr (fp : List Addr) (H H' : Hp) : Prop where
  keep : ∀ b o, H b = some o → b ∉ fp → H' b = some o
  tups : Tups H H'
theorem _root_.L2.Same.fr {H H' : Hp} (s : Same H H') (fp : List Addr) : Fr fp H H' := ⟨fun b o e _ => s b o e, s.tups⟩
theorem Fr.tr {fp : List Addr} {H H' H'' : Hp} (a : Fr fp H H') (b : Fr fp H' H'') : Fr fp H H'' := ⟨fun c o e n => b.keep c o (a.keep c o e n) n, a.tups.tr b.tups⟩
theorem Fr.mono {fp fq : List Addr} {H H' : Hp} (a : Fr fp H H') (h : ∀ x ∈ fp, x ∈ fq) : Fr fq H H' := ⟨fun c o e n => a.keep c o e fun z => n (h c z), a.tups⟩
theorem Fr.put {fp : List Addr} {H H' : Hp} {r : Addr} {u o : HO} (a : Fr fp H H') (hr : r ∈ fp) (h : H' r = some u) (n : ∀ xs, u ≠ .tup xs) : Fr fp H (upd H' r o) :=
  ⟨fun c v e m => by rw [upd_ne fun z => m (by rw [z]; exact hr)]; exact a.keep c v e m, a.tups.tr (tups_put h n)⟩
/-- what was not there before may be rewritten at will -/
theorem Fr.fresh {fp : List Addr} {H H' : Hp} {r : Addr} {u o : HO} (a : Fr fp H H') (hr : H r = none) (h : H' r = some u) (n : ∀ xs, u ≠ .tup xs) : Fr fp H (upd H' r o) :=
  ⟨fun c v e m => by rw [upd_ne (ne_of_none e hr)]; exact a.keep c v e m, a.tups.tr (tups_put h n)⟩
theorem Fr.new {fp : List Addr} {H H' : Hp} {p : Addr} {o : HO} (a : Fr fp H H') (hp : H' p = none) : Fr fp H (upd H' p o) := a.tr ((Same.rfl'.new hp).fr fp)
theorem tyL {K : PySem.W.Frag} {H : Hp} {a : Addr} {xs : List V} (h : H a = some (.lst xs)) : tyV K "list" (.ref a) H := .inl ⟨rfl, xs, SqL.of h⟩
theorem Tu.same {K : PySem.W.Frag} {H H' : Hp} {a : Addr} {xs : List V} (h : Tu K H a xs) (k : Same H H') : Tu K H' a xs := h.keep k.tups
theorem a_scal (i j : Int) : (scal (V.int i) (V.int j) = true) = True := by simp [scal]
theorem a_scals (i j : Str) : (scal (V.str i) (V.str j) = true) = True := by simp [scal]
theorem a_scaln (i : Int) : (scal (V.int i) .non = true) = True := by simp [scal]
theorem a_s0 : (0 ≤ sizeLine) = True := by simp
theorem a_s1 : (1 ≤ sizeLine) = True := by simp [sizeLine_eq]
theorem a_s2 : (2 ≤ sizeLine) = True := by simp [sizeLine_eq]
theorem a_s3 : (3 ≤ sizeLine) = True := by simp [sizeLine_eq]
theorem a_s4 : (4 ≤ sizeLine) = True := by simp [sizeLine_eq]
theorem a_s5 : (5 ≤ sizeLine) = True := by simp [sizeLine_eq]
theorem a_s6 : (6 ≤ sizeLine) = True := by simp [sizeLine_eq]
theorem a_s8 : (8 ≤ sizeLine) = True := by simp [sizeLine_eq]
theorem ixN_nat {n j : Nat} (h : j < n) : ixN n (j : Int) = some j := by
  unfold ixN
  rw [if_pos (by omega), if_pos (by omega)]
  simp
theorem atI_n {xs : List V} {i : Int} {v : V} (j : Nat) (e : i = (j : Int)) (h : xs[j]? = some v) : atI xs i = some v := by rw [e]; exact atI_nat h
end NbU
end
section
set_option Elab.async false
set_option linter.all false
set_option maxRecDepth 100000
set_option maxHeartbeats 4000000
namespace Nb
open PySem PySem.Spec PyProof.Rows L2 NbU NbM
abbrev CX0 : CXT := L2.CX0
theorem pg_int {X : Cx} {x : Str} {i : Int} {pos : Pos} (h : ∃ t, X.mg x = some (.int i t)) (hg : Gl X x := by rfl) (hd : (x == ("__debug__" : Str)) = false := by decide) : PE X (.Name x pos) (tC (.int i)) := by
  obtain ⟨t, e⟩ := h
  exact pe_glob hg e ⟨t, rfl⟩ hd
theorem pg_str {X : Cx} {x z : Str} {pos : Pos} (h : ∃ t, X.mg x = some (.str z t)) (hg : Gl X x := by rfl) (hd : (x == ("__debug__" : Str)) = false := by decide) : PE X (.Name x pos) (tC (.str z)) := by
  obtain ⟨t, e⟩ := h
  exact pe_glob hg e ⟨t, rfl⟩ hd
/-- lists of ints -/
abbrev IL (ns : List Int) : List V := ns.map V.int
theorem il_get {ns : List Int} {i : Nat} {x : V} (h : (IL ns)[i]? = some x) : ∃ z, ns[i]? = some z ∧ x = .int z := by
  rw [List.getElem?_map] at h
  cases e : ns[i]? with
  | none => rw [e] at h; cases h
  | some z => rw [e] at h; exact ⟨z, rfl, (Option.some.inj h).symm⟩
theorem take_snoc {α : Type} {l : List α} {i : Nat} {x : α} (h : l[i]? = some x) : l.take (i + 1) = l.take i ++ [x] := by rw [List.take_add_one, h]; rfl
theorem sz (n : Nat) (h : n ≤ 1000000) : n ≤ sizeLine := by rw [sizeLine_eq]; omega
theorem szl (n : Nat) (h : n ≤ 1000000) : n < sizeLine := by rw [sizeLine_eq]; omega
section
variable {P : Program} {w : World} {K : PySem.W.Frag} {mg : Str → Option Value} {base : Heap}
theorem _root_.NbU.Tu.ty {H : Hp} {a : Addr} {xs : List V} (h : Tu K H a xs) : TyX K H (.ref a) (.type "tuple") := by
  rcases h with h | ⟨o, its, n, h1, h2, _⟩
  · exact .base (.tup h)
  · exact .kTuple h1 h2
/-! ### is_whole -/
def sp_is_whole : Sp := fun vs H Q _ => ∃ i : Int, vs = [.int i] ∧ Q (.bl true) H
theorem sc_is_whole : FnScope ["thing"] ["thing"] (defScope s_is_whole) := ⟨rfl, rfl, rfl, by decide +kernel, rfl, by decide +kernel, by decide +kernel⟩
theorem g_is_whole (T : Txt K mg) : GF P w K mg base false 1 "is_whole" [] sp_is_whole := by
  obtain ⟨fd, F⟩ := T.f_is_whole
  refine ⟨_, fd, ["thing"], [], T.g_is_whole, F.kp, F.bindsN (fun _ _ _ _ _ _ us hl => match us, hl with | [_], _ => rfl), .nil, okU F sc_is_whole (fun vs H Q E h => ?_) (fun cdv A outer s H vs Q E pl hr hh hw h => ⟨_, PSs.nox (pss_one (ps_ret (pe_and (pe_callB call_isi rfl T.n_isinstance boot_isinstance (pa_cons (pv 0) (pa_cons (pe_bltn (v := .ty "int") rfl T.n_int boot_int rfl) pa_nil))) (pe_one (pe_not (pe_callB call_isi rfl T.n_isinstance boot_isinstance (pa_cons (pv 0) (pa_cons (pe_bltn (v := .ty "bool") rfl T.n_bool boot_bool rfl) pa_nil)))))))), ?_⟩)⟩
  · obtain ⟨i, rfl, _⟩ := h
    rfl
  · obtain ⟨i, rfl, q⟩ := h
    simp only [a_tVar, a_tC, a_tOp, a_tUn, a_rI, a_rI0, a_rU, a_rEq, a_rNe, a_tTest, a_tB, a_tIsN, a_tNotN, a_tChain, a_tAnd, a_tOr, a_tNot, a_tAndV, a_tOrV, a_tNotV, a_tYes, a_tNext, a_tSeq, a_tCont, a_tBreak, a_tDrop, a_tRet, a_tIfS, a_tNever, a_gName, a_gNil, a_gCons, a_gTup, a_tAsg, a_tNil, a_tCons, a_tTup, a_tLst, a_tCB, a_tCU, a_tMU, a_tFld, a_sFld, a_tSl, a_tNoPart, a_tPart, a_rSlL, a_rSlT, a_rIxL, a_rIxT, a_rCat, a_rRep, a_rCatT, a_tDGet, a_tDIn, a_tDNotIn, a_sDPut, a_tDPop1, a_tDNewK, a_tBM, a_rAppend, a_rExtend, a_iList, a_iEnum, a_iRng1, a_iRng2, a_iVals, a_iItems, a_iRng3, a_iStr, a_tMX, a_tXf, a_wAs, a_tRaise, a_tVeI, a_tOst, a_tMkO, a_tMake, a_rSum, a_rIsi, a_tChain3, a_tAugS, a_rGetL, a_rPutL, a_ipI, a_rSet, a_tCKw, a_rMinD, a_rMin, a_rIxS, a_rSlS, a_iTup, a_rIn, a_rEqD, a_rNeD, upd_same, HO.lst.injEq, HO.tup.injEq, HO.dK.injEq, HO.frz.injEq, a_s0, a_s1, a_s2, a_s3, a_s4, a_s5, a_s6, a_s8, a_scal, a_scals, a_tFor, a_tLc, a_tWhile, a_wipe0, a_wipe1, k_cxU, w_cxU, k_blk, w_blk, and_assoc, exists_and_left, exists_eq_left, exists_eq_left', exists_eq_right, exists_eq, exists_const, List.getElem?_cons_zero, List.getElem?_cons_succ, List.set_cons_zero, List.set_cons_succ, Option.some.injEq, V.int.injEq, V.bl.injEq, V.ref.injEq, V.str.injEq, List.cons.injEq, and_true, true_and, List.cons_append, List.nil_append, List.append_nil, L2.start, List.map_cons, List.map_nil, List.length_cons, List.length_nil, List.replicate, Nat.sub_self, Nat.reduceSub, Nat.reduceAdd, Nat.zero_add, if_true, if_false, Bool.false_eq_true, Bool.true_eq_false, reduceIte, decide_eq_true_eq, Bool.not_eq_true', decide_eq_false_iff_not]
    refine ⟨_, _, .ty _, .base (.int i), true, kit_ty (by decide +kernel), ?_⟩
    rw [if_pos rfl]
    exact ⟨_, _, .ty _, .base (.int i), false, kit_ty (by decide +kernel), q⟩
/-! ### divisor -/
def sp_divisor : Sp := fun vs H Q _ => ∃ a b : Int, vs = [.int a, .int b] ∧ Q (.int (Int.gcd a b)) H
theorem sc_divisor : FnScope ["one", "other", "rest"] ["one", "other"] (defScope s_divisor) := ⟨rfl, rfl, rfl, by decide +kernel, rfl, by decide +kernel, by decide +kernel⟩
theorem g_divisor (T : Txt K mg) : GF P w K mg base false 1 "divisor" [] sp_divisor := by
  obtain ⟨fd, F⟩ := T.f_divisor
  refine ⟨_, fd, ["one", "other"], [], T.g_divisor, F.kp, F.bindsN (fun _ _ _ _ _ _ us hl => match us, hl with | [_, _], _ => rfl), .nil, okU F sc_divisor (fun vs H Q E h => ?_) (fun cdv A outer s H vs Q E pl hr hh hw h => ⟨_, PSs.nox (pss_cons (ps_set (i := 0) sc_divisor.nd rfl (by first | exact Or.inl rfl | exact Or.inr rfl) (pe_callB call_abs rfl T.n_abs boot_abs (pa_cons (pv 0) pa_nil)))
      (pss_cons (ps_set (i := 1) sc_divisor.nd rfl (by first | exact Or.inl rfl | exact Or.inr rfl) (pe_callB call_abs rfl T.n_abs boot_abs (pa_cons (pv 1) pa_nil)))
      (pss_cons (ps_while PassesOwn.never (pt_cmpR (op_gt) (pv 1) pe_int (nomark _)) (pss_cons (ps_set (i := 2) sc_divisor.nd rfl (by first | exact Or.inl rfl | exact Or.inr rfl) (pe_op op_mod (pv 0) (pv 1)))
      (pss_cons (ps_set (i := 0) sc_divisor.nd rfl (by first | exact Or.inl rfl | exact Or.inr rfl) (pv 1))
      (pss_one (ps_set (i := 1) sc_divisor.nd rfl (by first | exact Or.inl rfl | exact Or.inr rfl) (pv 2))))))
      (pss_one (ps_ret (pv 0)))))), ?_⟩)⟩
  · obtain ⟨a, b, rfl, _⟩ := h
    rfl
  · obtain ⟨a, b, rfl, q⟩ := h
    simp only [a_tVar, a_tC, a_tOp, a_tUn, a_rI, a_rI0, a_rU, a_rEq, a_rNe, a_tTest, a_tB, a_tIsN, a_tNotN, a_tChain, a_tAnd, a_tOr, a_tNot, a_tAndV, a_tOrV, a_tNotV, a_tYes, a_tNext, a_tSeq, a_tCont, a_tBreak, a_tDrop, a_tRet, a_tIfS, a_tNever, a_gName, a_gNil, a_gCons, a_gTup, a_tAsg, a_tNil, a_tCons, a_tTup, a_tLst, a_tCB, a_tCU, a_tMU, a_tFld, a_sFld, a_tSl, a_tNoPart, a_tPart, a_rSlL, a_rSlT, a_rIxL, a_rIxT, a_rCat, a_rRep, a_rCatT, a_tDGet, a_tDIn, a_tDNotIn, a_sDPut, a_tDPop1, a_tDNewK, a_tBM, a_rAppend, a_rExtend, a_iList, a_iEnum, a_iRng1, a_iRng2, a_iVals, a_iItems, a_iRng3, a_iStr, a_tMX, a_tXf, a_wAs, a_tRaise, a_tVeI, a_tOst, a_tMkO, a_tMake, a_rSum, a_rIsi, a_tChain3, a_tAugS, a_rGetL, a_rPutL, a_ipI, a_rSet, a_tCKw, a_rMinD, a_rMin, a_rIxS, a_rSlS, a_iTup, a_rIn, a_rEqD, a_rNeD, upd_same, HO.lst.injEq, HO.tup.injEq, HO.dK.injEq, HO.frz.injEq, a_s0, a_s1, a_s2, a_s3, a_s4, a_s5, a_s6, a_s8, a_scal, a_scals, a_tFor, a_tLc, a_tWhile, a_wipe0, a_wipe1, k_cxU, w_cxU, k_blk, w_blk, and_assoc, exists_and_left, exists_eq_left, exists_eq_left', exists_eq_right, exists_eq, exists_const, List.getElem?_cons_zero, List.getElem?_cons_succ, List.set_cons_zero, List.set_cons_succ, Option.some.injEq, V.int.injEq, V.bl.injEq, V.ref.injEq, V.str.injEq, List.cons.injEq, and_true, true_and, List.cons_append, List.nil_append, List.append_nil, L2.start, List.map_cons, List.map_nil, List.length_cons, List.length_nil, List.replicate, Nat.sub_self, Nat.reduceSub, Nat.reduceAdd, Nat.zero_add, if_true, if_false, Bool.false_eq_true, Bool.true_eq_false, reduceIte, decide_eq_true_eq, Bool.not_eq_true', decide_eq_false_iff_not]
    refine while_go (fun m σ H' => H' = H ∧ ∃ (x y : Nat) (r : Option V), σ = [some (.int x), some (.int y), r] ∧ m = y ∧ Nat.gcd x y = Int.gcd a b) b.natAbs ⟨rfl, a.natAbs, b.natAbs, none, ?_, rfl, rfl⟩ ?_
    · have e : ∀ z : Int, (if z < 0 then -z else z) = (z.natAbs : Int) := fun z => by split <;> omega
      rw [e, e]
    · rintro m σ H' ⟨rfl, x, y, r, rfl, rfl, e⟩
      simp only [a_tVar, a_tC, a_tOp, a_tUn, a_rI, a_rI0, a_rU, a_rEq, a_rNe, a_tTest, a_tB, a_tIsN, a_tNotN, a_tChain, a_tAnd, a_tOr, a_tNot, a_tAndV, a_tOrV, a_tNotV, a_tYes, a_tNext, a_tSeq, a_tCont, a_tBreak, a_tDrop, a_tRet, a_tIfS, a_tNever, a_gName, a_gNil, a_gCons, a_gTup, a_tAsg, a_tNil, a_tCons, a_tTup, a_tLst, a_tCB, a_tCU, a_tMU, a_tFld, a_sFld, a_tSl, a_tNoPart, a_tPart, a_rSlL, a_rSlT, a_rIxL, a_rIxT, a_rCat, a_rRep, a_rCatT, a_tDGet, a_tDIn, a_tDNotIn, a_sDPut, a_tDPop1, a_tDNewK, a_tBM, a_rAppend, a_rExtend, a_iList, a_iEnum, a_iRng1, a_iRng2, a_iVals, a_iItems, a_iRng3, a_iStr, a_tMX, a_tXf, a_wAs, a_tRaise, a_tVeI, a_tOst, a_tMkO, a_tMake, a_rSum, a_rIsi, a_tChain3, a_tAugS, a_rGetL, a_rPutL, a_ipI, a_rSet, a_tCKw, a_rMinD, a_rMin, a_rIxS, a_rSlS, a_iTup, a_rIn, a_rEqD, a_rNeD, upd_same, HO.lst.injEq, HO.tup.injEq, HO.dK.injEq, HO.frz.injEq, a_s0, a_s1, a_s2, a_s3, a_s4, a_s5, a_s6, a_s8, a_scal, a_scals, a_tFor, a_tLc, a_tWhile, a_wipe0, a_wipe1, k_cxU, w_cxU, k_blk, w_blk, and_assoc, exists_and_left, exists_eq_left, exists_eq_left', exists_eq_right, exists_eq, exists_const, List.getElem?_cons_zero, List.getElem?_cons_succ, List.set_cons_zero, List.set_cons_succ, Option.some.injEq, V.int.injEq, V.bl.injEq, V.ref.injEq, V.str.injEq, List.cons.injEq, and_true, true_and, List.cons_append, List.nil_append, List.append_nil, L2.start, List.map_cons, List.map_nil, List.length_cons, List.length_nil, List.replicate, Nat.sub_self, Nat.reduceSub, Nat.reduceAdd, Nat.zero_add, if_true, if_false, Bool.false_eq_true, Bool.true_eq_false, reduceIte, decide_eq_true_eq, Bool.not_eq_true', decide_eq_false_iff_not]
      by_cases c : (0 : Int) < (m : Int)
      · rw [if_pos c]
        refine ⟨fun σ' H'' => H'' = H' ∧ σ' = [some (.int m), some (.int ((x : Int) % m)), some (.int ((x : Int) % m))], ?_, ?_⟩
        · rintro σ' H'' ⟨rfl, rfl⟩
          have hm : 0 < m := by omega
          refine ⟨x % m, Nat.mod_lt _ hm, rfl, m, x % m, _, by rw [Int.natCast_emod], rfl, ?_⟩
          rw [Nat.gcd_comm, ← e, Nat.gcd_comm x m, Nat.gcd_rec m x]
        · simp only [a_tVar, a_tC, a_tOp, a_tUn, a_rI, a_rI0, a_rU, a_rEq, a_rNe, a_tTest, a_tB, a_tIsN, a_tNotN, a_tChain, a_tAnd, a_tOr, a_tNot, a_tAndV, a_tOrV, a_tNotV, a_tYes, a_tNext, a_tSeq, a_tCont, a_tBreak, a_tDrop, a_tRet, a_tIfS, a_tNever, a_gName, a_gNil, a_gCons, a_gTup, a_tAsg, a_tNil, a_tCons, a_tTup, a_tLst, a_tCB, a_tCU, a_tMU, a_tFld, a_sFld, a_tSl, a_tNoPart, a_tPart, a_rSlL, a_rSlT, a_rIxL, a_rIxT, a_rCat, a_rRep, a_rCatT, a_tDGet, a_tDIn, a_tDNotIn, a_sDPut, a_tDPop1, a_tDNewK, a_tBM, a_rAppend, a_rExtend, a_iList, a_iEnum, a_iRng1, a_iRng2, a_iVals, a_iItems, a_iRng3, a_iStr, a_tMX, a_tXf, a_wAs, a_tRaise, a_tVeI, a_tOst, a_tMkO, a_tMake, a_rSum, a_rIsi, a_tChain3, a_tAugS, a_rGetL, a_rPutL, a_ipI, a_rSet, a_tCKw, a_rMinD, a_rMin, a_rIxS, a_rSlS, a_iTup, a_rIn, a_rEqD, a_rNeD, upd_same, HO.lst.injEq, HO.tup.injEq, HO.dK.injEq, HO.frz.injEq, a_s0, a_s1, a_s2, a_s3, a_s4, a_s5, a_s6, a_s8, a_scal, a_scals, a_tFor, a_tLc, a_tWhile, a_wipe0, a_wipe1, k_cxU, w_cxU, k_blk, w_blk, and_assoc, exists_and_left, exists_eq_left, exists_eq_left', exists_eq_right, exists_eq, exists_const, List.getElem?_cons_zero, List.getElem?_cons_succ, List.set_cons_zero, List.set_cons_succ, Option.some.injEq, V.int.injEq, V.bl.injEq, V.ref.injEq, V.str.injEq, List.cons.injEq, and_true, true_and, List.cons_append, List.nil_append, List.append_nil, L2.start, List.map_cons, List.map_nil, List.length_cons, List.length_nil, List.replicate, Nat.sub_self, Nat.reduceSub, Nat.reduceAdd, Nat.zero_add, if_true, if_false, Bool.false_eq_true, Bool.true_eq_false, reduceIte, decide_eq_true_eq, Bool.not_eq_true', decide_eq_false_iff_not]
          exact c
      · rw [if_neg c]
        have h0 : m = 0 := by omega
        subst h0
        rw [Nat.gcd_zero_right] at e
        rw [e]
        exact q
/-! ### ratio -/
def sp_ratio : Sp := fun vs H Q _ => ∃ a b : Int, vs = [.int a, .int b] ∧ 0 < b ∧ b.natAbs < 2 ^ 2000 ∧ ∀ p, H p = none → Q (.ref p) (upd H p (.tup [.int (ratioOf a b).1, .int (ratioOf a b).2]))
theorem sc_ratio : FnScope ["top", "bottom", "share"] ["top", "bottom"] (defScope s_ratio) := ⟨rfl, rfl, rfl, by decide +kernel, rfl, by decide +kernel, by decide +kernel⟩
theorem g_ratio (T : Txt K mg) : GF P w K mg base false 2 "ratio" [] sp_ratio := by
  obtain ⟨fd, F⟩ := T.f_ratio
  obtain ⟨ds, hd, hb⟩ := F.binds1 (ps := ["top", "bottom"]) 2 1 (List.cons_ne_nil _ _) rfl (fun T kV doc pm an cdv ct us its h1 h2 => match us, its, h1, h2 with | [_, _], [_], _, _ => ⟨_, rfl, rfl⟩)
  refine ⟨_, fd, ["top", "bottom"], ds, T.g_ratio, F.kp, hb, hd, okU F sc_ratio (fun vs H Q E h => ?_) (fun cdv A outer s H vs Q E pl hr hh hw h => ⟨_, PSs.nox (pss_cons (ps_if (PW.pt (pw_or (pt_not (pt_val (pe_cu (g_is_whole T) (hr.mono (by decide)) hw (fun z => Bool.noConfusion z) rfl (pa_cons (pv 0) pa_nil)))) (pw_or (pt_not (pt_val (pe_cu (g_is_whole T) (hr.mono (by decide)) hw (fun z => Bool.noConfusion z) rfl (pa_cons (pv 1) pa_nil)))) (pw_or1 (pt_cmpR (op_eq) (pv 1) pe_int (nomark _)))))) pss_never pss_nil)
      (pss_cons (ps_set (i := 2) sc_ratio.nd rfl (by first | exact Or.inl rfl | exact Or.inr rfl) (pe_cu (g_divisor T) (hr.mono (by decide)) hw (fun z => Bool.noConfusion z) rfl (pa_cons (pv 0) (pa_cons (pv 1) pa_nil))))
      (pss_cons (ps_if (pt_cmpR (op_lt) (pv 1) pe_int (nomark _)) (pss_one (ps_set (i := 2) sc_ratio.nd rfl (by first | exact Or.inl rfl | exact Or.inr rfl) (pe_un un_neg (pv 2)))) pss_nil)
      (pss_one (ps_ret (pe_tup (pa_cons (pe_op op_fdivW (pv 0) (pv 2)) (pa_cons (pe_op op_fdivW (pv 1) (pv 2)) pa_nil)))))))), ?_⟩)⟩
  · obtain ⟨a, b, rfl, _⟩ := h
    rfl
  · obtain ⟨a, b, rfl, h0, hb, q⟩ := h
    have hg : 0 < Int.gcd a b := Int.gcd_pos_of_ne_zero_right _ (by omega)
    have hd : CDivW 0 (Int.gcd a b : Int) := by
      refine wide_div (by omega) (Nat.lt_of_le_of_lt ?_ hb) (by decide) (by decide)
      have := Nat.le_of_dvd (by omega) (Int.gcd_dvd_natAbs_right a b)
      simpa using this
    simp only [a_tVar, a_tC, a_tOp, a_tUn, a_rI, a_rI0, a_rU, a_rEq, a_rNe, a_tTest, a_tB, a_tIsN, a_tNotN, a_tChain, a_tAnd, a_tOr, a_tNot, a_tAndV, a_tOrV, a_tNotV, a_tYes, a_tNext, a_tSeq, a_tCont, a_tBreak, a_tDrop, a_tRet, a_tIfS, a_tNever, a_gName, a_gNil, a_gCons, a_gTup, a_tAsg, a_tNil, a_tCons, a_tTup, a_tLst, a_tCB, a_tCU, a_tMU, a_tFld, a_sFld, a_tSl, a_tNoPart, a_tPart, a_rSlL, a_rSlT, a_rIxL, a_rIxT, a_rCat, a_rRep, a_rCatT, a_tDGet, a_tDIn, a_tDNotIn, a_sDPut, a_tDPop1, a_tDNewK, a_tBM, a_rAppend, a_rExtend, a_iList, a_iEnum, a_iRng1, a_iRng2, a_iVals, a_iItems, a_iRng3, a_iStr, a_tMX, a_tXf, a_wAs, a_tRaise, a_tVeI, a_tOst, a_tMkO, a_tMake, a_rSum, a_rIsi, a_tChain3, a_tAugS, a_rGetL, a_rPutL, a_ipI, a_rSet, a_tCKw, a_rMinD, a_rMin, a_rIxS, a_rSlS, a_iTup, a_rIn, a_rEqD, a_rNeD, upd_same, HO.lst.injEq, HO.tup.injEq, HO.dK.injEq, HO.frz.injEq, a_s0, a_s1, a_s2, a_s3, a_s4, a_s5, a_s6, a_s8, a_scal, a_scals, a_tFor, a_tLc, a_tWhile, a_wipe0, a_wipe1, k_cxU, w_cxU, k_blk, w_blk, and_assoc, exists_and_left, exists_eq_left, exists_eq_left', exists_eq_right, exists_eq, exists_const, List.getElem?_cons_zero, List.getElem?_cons_succ, List.set_cons_zero, List.set_cons_succ, Option.some.injEq, V.int.injEq, V.bl.injEq, V.ref.injEq, V.str.injEq, List.cons.injEq, and_true, true_and, List.cons_append, List.nil_append, List.append_nil, L2.start, List.map_cons, List.map_nil, List.length_cons, List.length_nil, List.replicate, Nat.sub_self, Nat.reduceSub, Nat.reduceAdd, Nat.zero_add, if_true, if_false, Bool.false_eq_true, Bool.true_eq_false, reduceIte, decide_eq_true_eq, Bool.not_eq_true', decide_eq_false_iff_not, sp_is_whole, sp_divisor]
    rw [if_neg (by omega), if_neg (by omega)]
    exact ⟨hd, hd, q⟩
/-! ### under, holds -/
def sp_under (K : PySem.W.Frag) : Sp := fun vs H Q _ => ∃ (a b : Addr) (p q : Int × Int), vs = [.ref a, .ref b] ∧ SqT K H a [.int p.1, .int p.2] ∧ SqT K H b [.int q.1, .int q.2] ∧ CMul p.1 q.2 ∧ CMul q.1 p.2 ∧ Q (.bl (underB p q)) H
theorem sc_under : FnScope ["one", "other"] ["one", "other"] (defScope s_under) := ⟨rfl, rfl, rfl, by decide +kernel, rfl, by decide +kernel, by decide +kernel⟩
theorem g_under (T : Txt K mg) : GF P w K mg base false 1 "under" [] (sp_under K) := by
  obtain ⟨fd, F⟩ := T.f_under
  refine ⟨_, fd, ["one", "other"], [], T.g_under, F.kp, F.bindsN (fun _ _ _ _ _ _ us hl => match us, hl with | [_, _], _ => rfl), .nil, okU F sc_under (fun vs H Q E h => ?_) (fun cdv A outer s H vs Q E pl hr hh hw h => ⟨_, PSs.nox (pss_one (ps_ret (pe_cmpR (op_lt) (pe_op op_mul (pe_ix (ix_tupK K) (pv 0) pe_int (fun _ _ => rfl)) (pe_ix (ix_tupK K) (pv 1) pe_int (fun _ _ => rfl))) (pe_op op_mul (pe_ix (ix_tupK K) (pv 1) pe_int (fun _ _ => rfl)) (pe_ix (ix_tupK K) (pv 0) pe_int (fun _ _ => rfl))) (nomark _)))), ?_⟩)⟩
  · obtain ⟨a, b, p, q, rfl, _⟩ := h
    rfl
  · obtain ⟨a, b, p, q, rfl, h1, h2, m1, m2, h3⟩ := h
    simp only [a_tVar, a_tC, a_tOp, a_tUn, a_rI, a_rI0, a_rU, a_rEq, a_rNe, a_tTest, a_tB, a_tIsN, a_tNotN, a_tChain, a_tAnd, a_tOr, a_tNot, a_tAndV, a_tOrV, a_tNotV, a_tYes, a_tNext, a_tSeq, a_tCont, a_tBreak, a_tDrop, a_tRet, a_tIfS, a_tNever, a_gName, a_gNil, a_gCons, a_gTup, a_tAsg, a_tNil, a_tCons, a_tTup, a_tLst, a_tCB, a_tCU, a_tMU, a_tFld, a_sFld, a_tSl, a_tNoPart, a_tPart, a_rSlL, a_rSlT, a_rIxL, a_rIxT, a_rCat, a_rRep, a_rCatT, a_tDGet, a_tDIn, a_tDNotIn, a_sDPut, a_tDPop1, a_tDNewK, a_tBM, a_rAppend, a_rExtend, a_iList, a_iEnum, a_iRng1, a_iRng2, a_iVals, a_iItems, a_iRng3, a_iStr, a_tMX, a_tXf, a_wAs, a_tRaise, a_tVeI, a_tOst, a_tMkO, a_tMake, a_rSum, a_rIsi, a_tChain3, a_tAugS, a_rGetL, a_rPutL, a_ipI, a_rSet, a_tCKw, a_rMinD, a_rMin, a_rIxS, a_rSlS, a_iTup, a_rIn, a_rEqD, a_rNeD, upd_same, HO.lst.injEq, HO.tup.injEq, HO.dK.injEq, HO.frz.injEq, a_s0, a_s1, a_s2, a_s3, a_s4, a_s5, a_s6, a_s8, a_scal, a_scals, a_tFor, a_tLc, a_tWhile, a_wipe0, a_wipe1, k_cxU, w_cxU, k_blk, w_blk, and_assoc, exists_and_left, exists_eq_left, exists_eq_left', exists_eq_right, exists_eq, exists_const, List.getElem?_cons_zero, List.getElem?_cons_succ, List.set_cons_zero, List.set_cons_succ, Option.some.injEq, V.int.injEq, V.bl.injEq, V.ref.injEq, V.str.injEq, List.cons.injEq, and_true, true_and, List.cons_append, List.nil_append, List.append_nil, L2.start, List.map_cons, List.map_nil, List.length_cons, List.length_nil, List.replicate, Nat.sub_self, Nat.reduceSub, Nat.reduceAdd, Nat.zero_add, if_true, if_false, Bool.false_eq_true, Bool.true_eq_false, reduceIte, decide_eq_true_eq, Bool.not_eq_true', decide_eq_false_iff_not]
    exact ⟨_, h1, _, rfl, _, h2, _, rfl, _, rfl, _, rfl, m1, _, h2, _, rfl, _, h1, _, rfl, _, rfl, _, rfl, m2, h3⟩
def sp_holds (K : PySem.W.Frag) : Sp := fun vs H Q _ => ∃ (a : Addr) (f b n : Int) (r : List V), vs = [.ref a, .int n] ∧ SqT K H a (.int f :: .int b :: r) ∧ Q (.bl (decide (f ≤ n) && decide (n < b))) H
theorem sc_holds : FnScope ["stretch", "night"] ["stretch", "night"] (defScope s_holds) := ⟨rfl, rfl, rfl, by decide +kernel, rfl, by decide +kernel, by decide +kernel⟩
theorem g_holds (T : Txt K mg) : GF P w K mg base false 1 "holds" [] (sp_holds K) := by
  obtain ⟨fd, F⟩ := T.f_holds
  refine ⟨_, fd, ["stretch", "night"], [], T.g_holds, F.kp, F.bindsN (fun _ _ _ _ _ _ us hl => match us, hl with | [_, _], _ => rfl), .nil, okU F sc_holds (fun vs H Q E h => ?_) (fun cdv A outer s H vs Q E pl hr hh hw h => ⟨_, PSs.nox (pss_one (ps_ret (pe_chain op_le op_lt (pe_ix (ix_tupK K) (pv 0) pe_int (fun _ _ => rfl)) (pv 1) (pe_ix (ix_tupK K) (pv 0) pe_int (fun _ _ => rfl))))), ?_⟩)⟩
  · obtain ⟨a, f, b, n, r, rfl, _⟩ := h
    rfl
  · obtain ⟨a, f, b, n, r, rfl, h1, q⟩ := h
    have g0 : atI (.int f :: .int b :: r) 0 = some (V.int f) := atI_n 0 rfl rfl
    have g1 : atI (.int f :: .int b :: r) 1 = some (V.int b) := atI_n 1 rfl rfl
    simp only [a_tVar, a_tC, a_tOp, a_tUn, a_rI, a_rI0, a_rU, a_rEq, a_rNe, a_tTest, a_tB, a_tIsN, a_tNotN, a_tChain, a_tAnd, a_tOr, a_tNot, a_tAndV, a_tOrV, a_tNotV, a_tYes, a_tNext, a_tSeq, a_tCont, a_tBreak, a_tDrop, a_tRet, a_tIfS, a_tNever, a_gName, a_gNil, a_gCons, a_gTup, a_tAsg, a_tNil, a_tCons, a_tTup, a_tLst, a_tCB, a_tCU, a_tMU, a_tFld, a_sFld, a_tSl, a_tNoPart, a_tPart, a_rSlL, a_rSlT, a_rIxL, a_rIxT, a_rCat, a_rRep, a_rCatT, a_tDGet, a_tDIn, a_tDNotIn, a_sDPut, a_tDPop1, a_tDNewK, a_tBM, a_rAppend, a_rExtend, a_iList, a_iEnum, a_iRng1, a_iRng2, a_iVals, a_iItems, a_iRng3, a_iStr, a_tMX, a_tXf, a_wAs, a_tRaise, a_tVeI, a_tOst, a_tMkO, a_tMake, a_rSum, a_rIsi, a_tChain3, a_tAugS, a_rGetL, a_rPutL, a_ipI, a_rSet, a_tCKw, a_rMinD, a_rMin, a_rIxS, a_rSlS, a_iTup, a_rIn, a_rEqD, a_rNeD, upd_same, HO.lst.injEq, HO.tup.injEq, HO.dK.injEq, HO.frz.injEq, a_s0, a_s1, a_s2, a_s3, a_s4, a_s5, a_s6, a_s8, a_scal, a_scals, a_tFor, a_tLc, a_tWhile, a_wipe0, a_wipe1, k_cxU, w_cxU, k_blk, w_blk, and_assoc, exists_and_left, exists_eq_left, exists_eq_left', exists_eq_right, exists_eq, exists_const, List.getElem?_cons_zero, List.getElem?_cons_succ, List.set_cons_zero, List.set_cons_succ, Option.some.injEq, V.int.injEq, V.bl.injEq, V.ref.injEq, V.str.injEq, List.cons.injEq, and_true, true_and, List.cons_append, List.nil_append, List.append_nil, L2.start, List.map_cons, List.map_nil, List.length_cons, List.length_nil, List.replicate, Nat.sub_self, Nat.reduceSub, Nat.reduceAdd, Nat.zero_add, if_true, if_false, Bool.false_eq_true, Bool.true_eq_false, reduceIte, decide_eq_true_eq, Bool.not_eq_true', decide_eq_false_iff_not]
    refine ⟨_, h1, _, g0, _, rfl, ?_⟩
    by_cases c : f ≤ n
    · rw [if_pos c]
      rw [decide_eq_true c, Bool.true_and] at q
      exact ⟨_, h1, _, g1, _, rfl, q⟩
    · rw [if_neg c]
      rw [decide_eq_false c, Bool.false_and] at q
      exact q
/-! ### is_ratio, is_chance, is_stretch -/
def sp_is_ratio (K : PySem.W.Frag) : Sp := fun vs H Q _ => ∃ (a : Addr) (p : Int × Int), vs = [.ref a] ∧ Tu K H a [.int p.1, .int p.2] ∧ 1 ≤ p.2 ∧ Int.gcd p.1 p.2 = 1 ∧ Q (.bl true) H
theorem sc_is_ratio : FnScope ["thing", "top", "bottom"] ["thing"] (defScope s_is_ratio) := ⟨rfl, rfl, rfl, by decide +kernel, rfl, by decide +kernel, by decide +kernel⟩
theorem g_is_ratio (T : Txt K mg) : GF P w K mg base true 2 "is_ratio" [] (sp_is_ratio K) := by
  obtain ⟨fd, F⟩ := T.f_is_ratio
  refine ⟨_, fd, ["thing"], [], T.g_is_ratio, F.kp, F.bindsN (fun _ _ _ _ _ _ us hl => match us, hl with | [_], _ => rfl), .nil, okU F sc_is_ratio (fun vs H Q E h => ?_) (fun cdv A outer s H vs Q E pl hr hh hw h => ⟨_, PSs.nox (pss_cons (ps_if (PW.pt (pw_or (pt_not (pt_val (pe_callB call_isi rfl T.n_isinstance boot_isinstance (pa_cons (pv 0) (pa_cons (pe_bltn (v := .ty "tuple") rfl T.n_tuple boot_tuple rfl) pa_nil))))) (pw_or1 (pt_cmpR (op_ne) (pe_callB (len_seqK K) rfl T.n_len boot_len (pa_cons (pv 0) pa_nil)) pe_int (nomark _))))) (pss_one (ps_ret pe_bl)) pss_nil)
      (pss_cons (ps_asg (pv 0) (pgu_tupK (n := 2) K hw (pgs_cons (pg_name (i := 1) sc_is_ratio.nd rfl (by first | exact Or.inl rfl | exact Or.inr rfl)) (pgs_cons (pg_name (i := 2) sc_is_ratio.nd rfl (by first | exact Or.inl rfl | exact Or.inr rfl)) pgs_nil))))
      (pss_cons (ps_if (PW.pt (pw_or (pt_not (pt_val (pe_cu (g_is_whole T) (hr.mono (by decide)) hw (fun z => Bool.noConfusion z) rfl (pa_cons (pv 1) pa_nil)))) (pw_or (pt_not (pt_val (pe_cu (g_is_whole T) (hr.mono (by decide)) hw (fun z => Bool.noConfusion z) rfl (pa_cons (pv 2) pa_nil)))) (pw_or1 (pt_cmpR (op_lt) (pv 2) pe_int (nomark _)))))) (pss_one (ps_ret pe_bl)) pss_nil)
      (pss_one (ps_ret (pe_cmpR (op_eq) (pe_cu (g_divisor T) (hr.mono (by decide)) hw (fun z => Bool.noConfusion z) rfl (pa_cons (pv 1) (pa_cons (pv 2) pa_nil))) pe_int (nomark _))))))), ?_⟩)⟩
  · obtain ⟨a, p, rfl, _⟩ := h
    rfl
  · obtain ⟨a, p, rfl, h1, h2, h3, q⟩ := h
    simp only [a_tVar, a_tC, a_tOp, a_tUn, a_rI, a_rI0, a_rU, a_rEq, a_rNe, a_tTest, a_tB, a_tIsN, a_tNotN, a_tChain, a_tAnd, a_tOr, a_tNot, a_tAndV, a_tOrV, a_tNotV, a_tYes, a_tNext, a_tSeq, a_tCont, a_tBreak, a_tDrop, a_tRet, a_tIfS, a_tNever, a_gName, a_gNil, a_gCons, a_gTup, a_tAsg, a_tNil, a_tCons, a_tTup, a_tLst, a_tCB, a_tCU, a_tMU, a_tFld, a_sFld, a_tSl, a_tNoPart, a_tPart, a_rSlL, a_rSlT, a_rIxL, a_rIxT, a_rCat, a_rRep, a_rCatT, a_tDGet, a_tDIn, a_tDNotIn, a_sDPut, a_tDPop1, a_tDNewK, a_tBM, a_rAppend, a_rExtend, a_iList, a_iEnum, a_iRng1, a_iRng2, a_iVals, a_iItems, a_iRng3, a_iStr, a_tMX, a_tXf, a_wAs, a_tRaise, a_tVeI, a_tOst, a_tMkO, a_tMake, a_rSum, a_rIsi, a_tChain3, a_tAugS, a_rGetL, a_rPutL, a_ipI, a_rSet, a_tCKw, a_rMinD, a_rMin, a_rIxS, a_rSlS, a_iTup, a_rIn, a_rEqD, a_rNeD, upd_same, HO.lst.injEq, HO.tup.injEq, HO.dK.injEq, HO.frz.injEq, a_s0, a_s1, a_s2, a_s3, a_s4, a_s5, a_s6, a_s8, a_scal, a_scals, a_tFor, a_tLc, a_tWhile, a_wipe0, a_wipe1, k_cxU, w_cxU, k_blk, w_blk, and_assoc, exists_and_left, exists_eq_left, exists_eq_left', exists_eq_right, exists_eq, exists_const, List.getElem?_cons_zero, List.getElem?_cons_succ, List.set_cons_zero, List.set_cons_succ, Option.some.injEq, V.int.injEq, V.bl.injEq, V.ref.injEq, V.str.injEq, List.cons.injEq, and_true, true_and, List.cons_append, List.nil_append, List.append_nil, L2.start, List.map_cons, List.map_nil, List.length_cons, List.length_nil, List.replicate, Nat.sub_self, Nat.reduceSub, Nat.reduceAdd, Nat.zero_add, if_true, if_false, Bool.false_eq_true, Bool.true_eq_false, reduceIte, decide_eq_true_eq, Bool.not_eq_true', decide_eq_false_iff_not, sp_is_whole, sp_divisor]
    refine ⟨_, _, .ty _, h1.ty, true, kit_ty (by decide +kernel), ?_⟩
    rw [if_neg (by simp)]
    refine ⟨_, .inr h1.sq, ?_⟩
    rw [if_neg (by simp)]
    refine ⟨_, h1.sq, rfl, _, _, rfl, _, _, rfl, rfl, _, rfl, _, rfl, _, rfl, ?_⟩
    rw [if_neg (by omega)]
    refine ⟨_, rfl, _, rfl, ?_⟩
    rw [h3]
    exact q
def sp_is_chance (K : PySem.W.Frag) : Sp := fun vs H Q _ => ∃ (a : Addr) (p : Int × Int), vs = [.ref a] ∧ Tu K H a [.int p.1, .int p.2] ∧ 0 ≤ p.1 ∧ p.1 ≤ p.2 ∧ 1 ≤ p.2 ∧ Int.gcd p.1 p.2 = 1 ∧ Q (.bl true) H
theorem sc_is_chance : FnScope ["thing"] ["thing"] (defScope s_is_chance) := ⟨rfl, rfl, rfl, by decide +kernel, rfl, by decide +kernel, by decide +kernel⟩
theorem g_is_chance (T : Txt K mg) : GF P w K mg base true 3 "is_chance" [] (sp_is_chance K) := by
  obtain ⟨fd, F⟩ := T.f_is_chance
  refine ⟨_, fd, ["thing"], [], T.g_is_chance, F.kp, F.bindsN (fun _ _ _ _ _ _ us hl => match us, hl with | [_], _ => rfl), .nil, okU F sc_is_chance (fun vs H Q E h => ?_) (fun cdv A outer s H vs Q E pl hr hh hw h => ⟨_, PSs.nox (pss_one (ps_ret (pe_and (pe_cu (g_is_ratio T) (hr.mono (by decide)) hw (fun _ => hh rfl) rfl (pa_cons (pv 0) pa_nil)) (pe_one (pe_chain op_le op_le pe_int (pe_ix (ix_tupK K) (pv 0) pe_int (fun _ _ => rfl)) (pe_ix (ix_tupK K) (pv 0) pe_int (fun _ _ => rfl))))))), ?_⟩)⟩
  · obtain ⟨a, p, rfl, _⟩ := h
    rfl
  · obtain ⟨a, p, rfl, h1, h2, h3, h4, h5, q⟩ := h
    simp only [a_tVar, a_tC, a_tOp, a_tUn, a_rI, a_rI0, a_rU, a_rEq, a_rNe, a_tTest, a_tB, a_tIsN, a_tNotN, a_tChain, a_tAnd, a_tOr, a_tNot, a_tAndV, a_tOrV, a_tNotV, a_tYes, a_tNext, a_tSeq, a_tCont, a_tBreak, a_tDrop, a_tRet, a_tIfS, a_tNever, a_gName, a_gNil, a_gCons, a_gTup, a_tAsg, a_tNil, a_tCons, a_tTup, a_tLst, a_tCB, a_tCU, a_tMU, a_tFld, a_sFld, a_tSl, a_tNoPart, a_tPart, a_rSlL, a_rSlT, a_rIxL, a_rIxT, a_rCat, a_rRep, a_rCatT, a_tDGet, a_tDIn, a_tDNotIn, a_sDPut, a_tDPop1, a_tDNewK, a_tBM, a_rAppend, a_rExtend, a_iList, a_iEnum, a_iRng1, a_iRng2, a_iVals, a_iItems, a_iRng3, a_iStr, a_tMX, a_tXf, a_wAs, a_tRaise, a_tVeI, a_tOst, a_tMkO, a_tMake, a_rSum, a_rIsi, a_tChain3, a_tAugS, a_rGetL, a_rPutL, a_ipI, a_rSet, a_tCKw, a_rMinD, a_rMin, a_rIxS, a_rSlS, a_iTup, a_rIn, a_rEqD, a_rNeD, upd_same, HO.lst.injEq, HO.tup.injEq, HO.dK.injEq, HO.frz.injEq, a_s0, a_s1, a_s2, a_s3, a_s4, a_s5, a_s6, a_s8, a_scal, a_scals, a_tFor, a_tLc, a_tWhile, a_wipe0, a_wipe1, k_cxU, w_cxU, k_blk, w_blk, and_assoc, exists_and_left, exists_eq_left, exists_eq_left', exists_eq_right, exists_eq, exists_const, List.getElem?_cons_zero, List.getElem?_cons_succ, List.set_cons_zero, List.set_cons_succ, Option.some.injEq, V.int.injEq, V.bl.injEq, V.ref.injEq, V.str.injEq, List.cons.injEq, and_true, true_and, List.cons_append, List.nil_append, List.append_nil, L2.start, List.map_cons, List.map_nil, List.length_cons, List.length_nil, List.replicate, Nat.sub_self, Nat.reduceSub, Nat.reduceAdd, Nat.zero_add, if_true, if_false, Bool.false_eq_true, Bool.true_eq_false, reduceIte, decide_eq_true_eq, Bool.not_eq_true', decide_eq_false_iff_not]
    refine ⟨a, p, rfl, h1, h4, h5, true, rfl, ?_⟩
    rw [if_pos rfl]
    refine ⟨_, h1.sq, _, rfl, _, rfl, ?_⟩
    rw [if_pos h2]
    refine ⟨_, h1.sq, _, rfl, _, rfl, _, rfl, ?_⟩
    rw [decide_eq_true h3]
    exact q
def sp_is_stretch (K : PySem.W.Frag) : Sp := fun vs H Q _ => ∃ (a : Addr) (f b : Int), vs = [.ref a] ∧ Tu K H a [.int f, .int b] ∧ 0 ≤ f ∧ f < b ∧ b ≤ 400 ∧ Q (.bl true) H
theorem sc_is_stretch : FnScope ["thing"] ["thing"] (defScope s_is_stretch) := ⟨rfl, rfl, rfl, by decide +kernel, rfl, by decide +kernel, by decide +kernel⟩
theorem g_is_stretch (T : Txt K mg) : GF P w K mg base true 2 "is_stretch" [] (sp_is_stretch K) := by
  obtain ⟨fd, F⟩ := T.f_is_stretch
  refine ⟨_, fd, ["thing"], [], T.g_is_stretch, F.kp, F.bindsN (fun _ _ _ _ _ _ us hl => match us, hl with | [_], _ => rfl), .nil, okU F sc_is_stretch (fun vs H Q E h => ?_) (fun cdv A outer s H vs Q E pl hr hh hw h => ⟨_, PSs.nox (pss_cons (ps_if (PW.pt (pw_or (pt_not (pt_val (pe_callB call_isi rfl T.n_isinstance boot_isinstance (pa_cons (pv 0) (pa_cons (pe_bltn (v := .ty "tuple") rfl T.n_tuple boot_tuple rfl) pa_nil))))) (pw_or1 (pt_cmpR (op_ne) (pe_callB (len_seqK K) rfl T.n_len boot_len (pa_cons (pv 0) pa_nil)) pe_int (nomark _))))) (pss_one (ps_ret pe_bl)) pss_nil)
      (pss_cons (ps_if (PW.pt (pw_or (pt_not (pt_val (pe_cu (g_is_whole T) (hr.mono (by decide)) hw (fun z => Bool.noConfusion z) rfl (pa_cons (pe_ix (ix_tupK K) (pv 0) pe_int (fun _ _ => rfl)) pa_nil)))) (pw_or1 (pt_not (pt_val (pe_cu (g_is_whole T) (hr.mono (by decide)) hw (fun z => Bool.noConfusion z) rfl (pa_cons (pe_ix (ix_tupK K) (pv 0) pe_int (fun _ _ => rfl)) pa_nil))))))) (pss_one (ps_ret pe_bl)) pss_nil)
      (pss_one (ps_ret (pe_chain3 op_le op_lt op_le pe_int (pe_ix (ix_tupK K) (pv 0) pe_int (fun _ _ => rfl)) (pe_ix (ix_tupK K) (pv 0) pe_int (fun _ _ => rfl)) (pg_int T.i_NIGHTS)))))), ?_⟩)⟩
  · obtain ⟨a, f, b, rfl, _⟩ := h
    rfl
  · obtain ⟨a, f, b, rfl, h1, h2, h3, h4, q⟩ := h
    simp only [a_tVar, a_tC, a_tOp, a_tUn, a_rI, a_rI0, a_rU, a_rEq, a_rNe, a_tTest, a_tB, a_tIsN, a_tNotN, a_tChain, a_tAnd, a_tOr, a_tNot, a_tAndV, a_tOrV, a_tNotV, a_tYes, a_tNext, a_tSeq, a_tCont, a_tBreak, a_tDrop, a_tRet, a_tIfS, a_tNever, a_gName, a_gNil, a_gCons, a_gTup, a_tAsg, a_tNil, a_tCons, a_tTup, a_tLst, a_tCB, a_tCU, a_tMU, a_tFld, a_sFld, a_tSl, a_tNoPart, a_tPart, a_rSlL, a_rSlT, a_rIxL, a_rIxT, a_rCat, a_rRep, a_rCatT, a_tDGet, a_tDIn, a_tDNotIn, a_sDPut, a_tDPop1, a_tDNewK, a_tBM, a_rAppend, a_rExtend, a_iList, a_iEnum, a_iRng1, a_iRng2, a_iVals, a_iItems, a_iRng3, a_iStr, a_tMX, a_tXf, a_wAs, a_tRaise, a_tVeI, a_tOst, a_tMkO, a_tMake, a_rSum, a_rIsi, a_tChain3, a_tAugS, a_rGetL, a_rPutL, a_ipI, a_rSet, a_tCKw, a_rMinD, a_rMin, a_rIxS, a_rSlS, a_iTup, a_rIn, a_rEqD, a_rNeD, upd_same, HO.lst.injEq, HO.tup.injEq, HO.dK.injEq, HO.frz.injEq, a_s0, a_s1, a_s2, a_s3, a_s4, a_s5, a_s6, a_s8, a_scal, a_scals, a_tFor, a_tLc, a_tWhile, a_wipe0, a_wipe1, k_cxU, w_cxU, k_blk, w_blk, and_assoc, exists_and_left, exists_eq_left, exists_eq_left', exists_eq_right, exists_eq, exists_const, List.getElem?_cons_zero, List.getElem?_cons_succ, List.set_cons_zero, List.set_cons_succ, Option.some.injEq, V.int.injEq, V.bl.injEq, V.ref.injEq, V.str.injEq, List.cons.injEq, and_true, true_and, List.cons_append, List.nil_append, List.append_nil, L2.start, List.map_cons, List.map_nil, List.length_cons, List.length_nil, List.replicate, Nat.sub_self, Nat.reduceSub, Nat.reduceAdd, Nat.zero_add, if_true, if_false, Bool.false_eq_true, Bool.true_eq_false, reduceIte, decide_eq_true_eq, Bool.not_eq_true', decide_eq_false_iff_not, sp_is_whole]
    refine ⟨_, _, .ty _, h1.ty, true, kit_ty (by decide +kernel), ?_⟩
    rw [if_neg (by simp)]
    refine ⟨_, .inr h1.sq, ?_⟩
    rw [if_neg (by simp)]
    refine ⟨_, h1.sq, _, rfl, _, rfl, _, h1.sq, _, rfl, _, rfl, _, h1.sq, _, rfl, _, rfl, ?_⟩
    rw [if_pos h2]
    refine ⟨_, h1.sq, _, rfl, _, rfl, _, rfl, ?_⟩
    rw [if_pos h3]
    refine ⟨_, rfl, ?_⟩
    rw [decide_eq_true h4]
    exact q
/-! ### the table -/
def wacc (ts : List Int) (c d : Int) (i : Nat) : List Int := List.zipWith (· + ·) (ts.map (· * c) ++ [0]) (0 :: (List.range ts.length).map fun j => if j < i then ts.getD j 0 * d else 0)
theorem wacc_len (ts : List Int) (c d : Int) (i : Nat) : (wacc ts c d i).length = ts.length + 1 := by simp [wacc]
theorem wacc_get (ts : List Int) (c d : Int) (i j : Nat) : (wacc ts c d i)[j]? = if j < ts.length + 1 then some ((ts.map (· * c) ++ [0]).getD j 0 + (if 0 < j ∧ j - 1 < i then ts.getD (j - 1) 0 * d else 0)) else none := by
  unfold wacc
  rw [List.getElem?_zipWith]
  by_cases h : j < ts.length + 1
  · rw [if_pos h]
    have h1 : j < (ts.map (· * c) ++ [0]).length := by simp; omega
    rw [List.getElem?_eq_getElem h1, List.getD_eq_getElem?_getD, List.getElem?_eq_getElem h1]
    cases j with
    | zero => simp
    | succ j =>
      have h2 : j < ts.length := by omega
      simp [h2]
  · rw [if_neg h]
    have h1 : (ts.map (· * c) ++ [0])[j]? = none := List.getElem?_eq_none (by simp; omega)
    rw [h1]
theorem wacc_step {ts : List Int} {c d : Int} {i : Nat} {z : Int} (h : ts[i]? = some z) : ∃ old, (wacc ts c d i)[i + 1]? = some old ∧ (wacc ts c d i).set (i + 1) (old + z * d) = wacc ts c d (i + 1) := by
  have hi : i < ts.length := (List.getElem?_eq_some_iff.mp h).1
  have hz : ts.getD i 0 = z := by rw [List.getD_eq_getElem?_getD, h]; rfl
  refine ⟨(ts.map (· * c) ++ [0]).getD (i + 1) 0, by rw [wacc_get, if_pos (by omega), if_neg (by omega), Int.add_zero], ?_⟩
  refine List.ext_getElem? fun j => ?_
  rw [List.getElem?_set, wacc_len, wacc_get, wacc_get]
  by_cases e : i + 1 = j
  · subst e
    rw [if_pos rfl, if_pos (by omega), if_pos (by omega), if_pos (by omega)]
    simp only [Nat.add_sub_cancel, hz]
  · rw [if_neg e]
    by_cases l : j < ts.length + 1
    · rw [if_pos l, if_pos l]
      have q : (0 < j ∧ j - 1 < i) ↔ (0 < j ∧ j - 1 < i + 1) := by omega
      simp only [q]
    · rw [if_neg l, if_neg l]
theorem wacc_zero (ts : List Int) (c d : Int) : wacc ts c d 0 = ts.map (· * c) ++ [0] := by
  refine List.ext_getElem? fun j => ?_
  rw [wacc_get]
  by_cases l : j < ts.length + 1
  · have h1 : j < (ts.map (· * c) ++ [0]).length := by simp; omega
    rw [if_pos l, if_neg (by omega), List.getD_eq_getElem?_getD, List.getElem?_eq_getElem h1]
    simp
  · rw [if_neg l, List.getElem?_eq_none (by simp; omega)]
theorem wacc_end (ts : List Int) (x : Int × Int) : wacc ts (x.2 - x.1) x.1 ts.length = wid ts x := by
  unfold wacc wid
  congr 2
  refine List.ext_getElem? fun j => ?_
  by_cases l : j < ts.length
  · simp [l]
  · simp [l]
def sp_widened (K : PySem.W.Frag) : Sp := fun vs H Q _ => ∃ (a c : Addr) (ts : List Int) (x : Int × Int), vs = [.ref a, .int 1, .ref c] ∧ SqL K H a (IL ts) ∧ Tu K H c [.int x.1, .int x.2] ∧ ChOk x ∧ ts.length ≤ 1000 ∧
  ∀ H' p, Same H H' → H' p = some (.lst (IL (wid ts x))) → Q (.ref p) H'
theorem sc_widened : FnScope ["tops", "many", "chance", "stays", "found", "place", "top"] ["tops", "many", "chance"] (defScope s_widened) := ⟨rfl, rfl, rfl, by decide +kernel, rfl, by decide +kernel, by decide +kernel⟩
theorem g_widened (T : Txt K mg) : GF P w K mg base false 1 "widened" [] (sp_widened K) := by
  obtain ⟨fd, F⟩ := T.f_widened
  refine ⟨_, fd, ["tops", "many", "chance"], [], T.g_widened, F.kp, F.bindsN (fun _ _ _ _ _ _ us hl => match us, hl with | [_, _, _], _ => rfl), .nil, okU F sc_widened (fun vs H Q E h => ?_) (fun cdv A outer s H vs Q E pl hr hh hw h => ⟨_, PSs.nox (pss_cons (ps_set (i := 3) sc_widened.nd rfl (by first | exact Or.inl rfl | exact Or.inr rfl) (pe_op op_sub (pe_ix (ix_tupK K) (pv 2) pe_int (fun _ _ => rfl)) (pe_ix (ix_tupK K) (pv 2) pe_int (fun _ _ => rfl))))
      (pss_cons (ps_set (i := 4) sc_widened.nd rfl (by first | exact Or.inl rfl | exact Or.inr rfl) (pe_op op_cat (pe_lcU hw sc_widened.nd (piu_list (pv 0)) (blkOk_by (own := [("top", 6)]) (by kernel_rfl)) (fun _ _ _ _ _ => (pg_name (i := 6) sc_widened.nd rfl (by first | exact Or.inl rfl | exact Or.inr rfl))) (fun _ _ _ _ _ => pts_nil) (fun _ _ _ _ _ => (pe_op op_mul (pv 6) (pv 3)))) (pe_op op_rep (pe_lst (pa_cons pe_int pa_nil)) (pv 1))))
      (pss_cons (psu_for PassesOwn.never hw (piu_enum rfl T.n_enumerate (pa_cons (pv 0) pa_nil)) (pgu_tupK (n := 2) K hw (pgs_cons (pg_name (i := 5) sc_widened.nd rfl (by first | exact Or.inl rfl | exact Or.inr rfl)) (pgs_cons (pg_name (i := 6) sc_widened.nd rfl (by first | exact Or.inl rfl | exact Or.inr rfl)) pgs_nil))) (pss_one (ps_augS (pv 4) (pe_op op_add (pv 5) (pv 1)) get_list (pe_op op_mul (pv 6) (pe_ix ix_tup (pv 2) pe_int (fun _ _ => rfl))) ip_add set_list)))
      (pss_one (ps_ret (pv 4)))))), ?_⟩)⟩
  · obtain ⟨a, c, ts, x, rfl, _⟩ := h
    rfl
  · obtain ⟨a, c, ts, x, rfl, h1, h2, h3, h4, q⟩ := h
    obtain ⟨c0, c1, c2, c3⟩ := h3
    simp only [a_tVar, a_tC, a_tOp, a_tUn, a_rI, a_rI0, a_rU, a_rEq, a_rNe, a_tTest, a_tB, a_tIsN, a_tNotN, a_tChain, a_tAnd, a_tOr, a_tNot, a_tAndV, a_tOrV, a_tNotV, a_tYes, a_tNext, a_tSeq, a_tCont, a_tBreak, a_tDrop, a_tRet, a_tIfS, a_tNever, a_gName, a_gNil, a_gCons, a_gTup, a_tAsg, a_tNil, a_tCons, a_tTup, a_tLst, a_tCB, a_tCU, a_tMU, a_tFld, a_sFld, a_tSl, a_tNoPart, a_tPart, a_rSlL, a_rSlT, a_rIxL, a_rIxT, a_rCat, a_rRep, a_rCatT, a_tDGet, a_tDIn, a_tDNotIn, a_sDPut, a_tDPop1, a_tDNewK, a_tBM, a_rAppend, a_rExtend, a_iList, a_iEnum, a_iRng1, a_iRng2, a_iVals, a_iItems, a_iRng3, a_iStr, a_tMX, a_tXf, a_wAs, a_tRaise, a_tVeI, a_tOst, a_tMkO, a_tMake, a_rSum, a_rIsi, a_tChain3, a_tAugS, a_rGetL, a_rPutL, a_ipI, a_rSet, a_tCKw, a_rMinD, a_rMin, a_rIxS, a_rSlS, a_iTup, a_rIn, a_rEqD, a_rNeD, upd_same, HO.lst.injEq, HO.tup.injEq, HO.dK.injEq, HO.frz.injEq, a_s0, a_s1, a_s2, a_s3, a_s4, a_s5, a_s6, a_s8, a_scal, a_scals, a_tFor, a_tLc, a_tWhile, a_wipe0, a_wipe1, k_cxU, w_cxU, k_blk, w_blk, and_assoc, exists_and_left, exists_eq_left, exists_eq_left', exists_eq_right, exists_eq, exists_const, List.getElem?_cons_zero, List.getElem?_cons_succ, List.set_cons_zero, List.set_cons_succ, Option.some.injEq, V.int.injEq, V.bl.injEq, V.ref.injEq, V.str.injEq, List.cons.injEq, and_true, true_and, List.cons_append, List.nil_append, List.append_nil, L2.start, List.map_cons, List.map_nil, List.length_cons, List.length_nil, List.replicate, Nat.sub_self, Nat.reduceSub, Nat.reduceAdd, Nat.zero_add, if_true, if_false, Bool.false_eq_true, Bool.true_eq_false, reduceIte, decide_eq_true_eq, Bool.not_eq_true', decide_eq_false_iff_not]
    refine ⟨_, h2.sq, _, rfl, _, h2.sq, _, rfl, _, rfl, _, rfl, ⟨_, h1⟩, fun D hD => ?_⟩
    obtain ⟨ac, ha⟩ : ∃ f : Nat → List V, ∀ i, f i = IL ((ts.take i).map (· * (x.2 - x.1))) := ⟨_, fun _ => rfl⟩
    refine lc_go walk_list hD ac (ha 0) (fun _ s => Same.seq s h1) ?_ ?_
    · rintro i y H' H'' hi s hD' ⟨rfl, hy⟩
      obtain ⟨z, hz, rfl⟩ := il_get hy
      simp only [a_tVar, a_tC, a_tOp, a_tUn, a_rI, a_rI0, a_rU, a_rEq, a_rNe, a_tTest, a_tB, a_tIsN, a_tNotN, a_tChain, a_tAnd, a_tOr, a_tNot, a_tAndV, a_tOrV, a_tNotV, a_tYes, a_tNext, a_tSeq, a_tCont, a_tBreak, a_tDrop, a_tRet, a_tIfS, a_tNever, a_gName, a_gNil, a_gCons, a_gTup, a_tAsg, a_tNil, a_tCons, a_tTup, a_tLst, a_tCB, a_tCU, a_tMU, a_tFld, a_sFld, a_tSl, a_tNoPart, a_tPart, a_rSlL, a_rSlT, a_rIxL, a_rIxT, a_rCat, a_rRep, a_rCatT, a_tDGet, a_tDIn, a_tDNotIn, a_sDPut, a_tDPop1, a_tDNewK, a_tBM, a_rAppend, a_rExtend, a_iList, a_iEnum, a_iRng1, a_iRng2, a_iVals, a_iItems, a_iRng3, a_iStr, a_tMX, a_tXf, a_wAs, a_tRaise, a_tVeI, a_tOst, a_tMkO, a_tMake, a_rSum, a_rIsi, a_tChain3, a_tAugS, a_rGetL, a_rPutL, a_ipI, a_rSet, a_tCKw, a_rMinD, a_rMin, a_rIxS, a_rSlS, a_iTup, a_rIn, a_rEqD, a_rNeD, upd_same, HO.lst.injEq, HO.tup.injEq, HO.dK.injEq, HO.frz.injEq, a_s0, a_s1, a_s2, a_s3, a_s4, a_s5, a_s6, a_s8, a_scal, a_scals, a_tFor, a_tLc, a_tWhile, a_wipe0, a_wipe1, k_cxU, w_cxU, k_blk, w_blk, and_assoc, exists_and_left, exists_eq_left, exists_eq_left', exists_eq_right, exists_eq, exists_const, List.getElem?_cons_zero, List.getElem?_cons_succ, List.set_cons_zero, List.set_cons_succ, Option.some.injEq, V.int.injEq, V.bl.injEq, V.ref.injEq, V.str.injEq, List.cons.injEq, and_true, true_and, List.cons_append, List.nil_append, List.append_nil, L2.start, List.map_cons, List.map_nil, List.length_cons, List.length_nil, List.replicate, Nat.sub_self, Nat.reduceSub, Nat.reduceAdd, Nat.zero_add, if_true, if_false, Bool.false_eq_true, Bool.true_eq_false, reduceIte, decide_eq_true_eq, Bool.not_eq_true', decide_eq_false_iff_not]
      refine ⟨.inr (by omega), leaf hD hD' s (szl _ (by rw [ha]; simp; omega)) (by rw [ha, ha, take_snoc hz, List.map_append]; exact List.map_append)⟩
    · intro H' s hD'
      rw [ha, show (IL ts).length = ts.length by simp, List.take_length] at hD'
      intro p hp
      refine ⟨by omega, by omega, by decide, fun p1 hp1 => ?_⟩
      refine ⟨_, get_new (get_new hD' hp) hp1, by simp [sizeLine_eq]; omega, fun p2 hp2 => ?_⟩
      have n2 : H' p2 = none := by
        have q1 : p2 ≠ p1 := fun e => by rw [e, upd_same] at hp2; cases hp2
        rw [upd_ne q1] at hp2
        have q2 : p2 ≠ p := fun e => by rw [e, upd_same] at hp2; cases hp2
        rw [upd_ne q2] at hp2
        exact hp2
      have s2 : Same H (upd (upd H' p (.lst [V.int 0])) p1 (.lst (List.replicate (Int.toNat 1) [V.int 0]).flatten)) := (s.new hp).new hp1
      refine ⟨IL ts, Same.seq (s2.new hp2) h1, ?_⟩
      have n0 : H p2 = none := Same.free s n2
      refine for_go walk_enum (fun i σ H3 => Same H H3 ∧ H3 p2 = some (.lst (IL (wacc ts (x.2 - x.1) x.1 i))) ∧ ∃ u v, σ = [some (.ref a), some (.int 1), some (.ref c), some (.int (x.2 - x.1)), some (.ref p2), u, v]) ⟨s2.new hp2, ?_, _, _, rfl⟩ (fun i σ H3 _ h => Same.seq h.1 h1) ?_ ?_
      · rw [upd_same, wacc_zero]
        simp
      · rintro i y σ H3 H4 hi ⟨s3, g3, u, v, rfl⟩ ⟨T, y1, y2, rfl, hT, rfl, e1, e2⟩
        obtain ⟨z, hz, rfl⟩ := il_get e2
        cases e1
        obtain ⟨old, o1, o2⟩ := wacc_step (c := x.2 - x.1) (d := x.1) hz
        have hl : i < ts.length := by simpa using hi
        simp only [a_tVar, a_tC, a_tOp, a_tUn, a_rI, a_rI0, a_rU, a_rEq, a_rNe, a_tTest, a_tB, a_tIsN, a_tNotN, a_tChain, a_tAnd, a_tOr, a_tNot, a_tAndV, a_tOrV, a_tNotV, a_tYes, a_tNext, a_tSeq, a_tCont, a_tBreak, a_tDrop, a_tRet, a_tIfS, a_tNever, a_gName, a_gNil, a_gCons, a_gTup, a_tAsg, a_tNil, a_tCons, a_tTup, a_tLst, a_tCB, a_tCU, a_tMU, a_tFld, a_sFld, a_tSl, a_tNoPart, a_tPart, a_rSlL, a_rSlT, a_rIxL, a_rIxT, a_rCat, a_rRep, a_rCatT, a_tDGet, a_tDIn, a_tDNotIn, a_sDPut, a_tDPop1, a_tDNewK, a_tBM, a_rAppend, a_rExtend, a_iList, a_iEnum, a_iRng1, a_iRng2, a_iVals, a_iItems, a_iRng3, a_iStr, a_tMX, a_tXf, a_wAs, a_tRaise, a_tVeI, a_tOst, a_tMkO, a_tMake, a_rSum, a_rIsi, a_tChain3, a_tAugS, a_rGetL, a_rPutL, a_ipI, a_rSet, a_tCKw, a_rMinD, a_rMin, a_rIxS, a_rSlS, a_iTup, a_rIn, a_rEqD, a_rNeD, upd_same, HO.lst.injEq, HO.tup.injEq, HO.dK.injEq, HO.frz.injEq, a_s0, a_s1, a_s2, a_s3, a_s4, a_s5, a_s6, a_s8, a_scal, a_scals, a_tFor, a_tLc, a_tWhile, a_wipe0, a_wipe1, k_cxU, w_cxU, k_blk, w_blk, and_assoc, exists_and_left, exists_eq_left, exists_eq_left', exists_eq_right, exists_eq, exists_const, List.getElem?_cons_zero, List.getElem?_cons_succ, List.set_cons_zero, List.set_cons_succ, Option.some.injEq, V.int.injEq, V.bl.injEq, V.ref.injEq, V.str.injEq, List.cons.injEq, and_true, true_and, List.cons_append, List.nil_append, List.append_nil, L2.start, List.map_cons, List.map_nil, List.length_cons, List.length_nil, List.replicate, Nat.sub_self, Nat.reduceSub, Nat.reduceAdd, Nat.zero_add, if_true, if_false, Bool.false_eq_true, Bool.true_eq_false, reduceIte, decide_eq_true_eq, Bool.not_eq_true', decide_eq_false_iff_not]
        refine ⟨_, SqT.of upd_same, rfl, _, _, rfl, _, _, rfl, rfl, ?_⟩
        refine ⟨_, rfl, _, get_new g3 hT, by omega, .int old, ?_, _, ((h2.same s3).same (Same.rfl'.new hT)).sq, _, rfl, _, rfl, _, rfl, .inr (by omega), _, rfl, _, get_new g3 hT, i + 1, ?_, (s3.new hT).put n0, ?_, _, rfl⟩
        · rw [show ((i : Int) + 1).toNat = i + 1 by omega, List.getElem?_map, o1]
          rfl
        · rw [show (i : Int) + 1 = ((i + 1 : Nat) : Int) from rfl]
          exact ixN_nat (by simp [wacc_len, hl])
        · rw [← o2]
          exact List.map_set.symm
      · rintro σ H3 ⟨s3, g3, u, v, rfl⟩
        simp only [a_tVar, a_tC, a_tOp, a_tUn, a_rI, a_rI0, a_rU, a_rEq, a_rNe, a_tTest, a_tB, a_tIsN, a_tNotN, a_tChain, a_tAnd, a_tOr, a_tNot, a_tAndV, a_tOrV, a_tNotV, a_tYes, a_tNext, a_tSeq, a_tCont, a_tBreak, a_tDrop, a_tRet, a_tIfS, a_tNever, a_gName, a_gNil, a_gCons, a_gTup, a_tAsg, a_tNil, a_tCons, a_tTup, a_tLst, a_tCB, a_tCU, a_tMU, a_tFld, a_sFld, a_tSl, a_tNoPart, a_tPart, a_rSlL, a_rSlT, a_rIxL, a_rIxT, a_rCat, a_rRep, a_rCatT, a_tDGet, a_tDIn, a_tDNotIn, a_sDPut, a_tDPop1, a_tDNewK, a_tBM, a_rAppend, a_rExtend, a_iList, a_iEnum, a_iRng1, a_iRng2, a_iVals, a_iItems, a_iRng3, a_iStr, a_tMX, a_tXf, a_wAs, a_tRaise, a_tVeI, a_tOst, a_tMkO, a_tMake, a_rSum, a_rIsi, a_tChain3, a_tAugS, a_rGetL, a_rPutL, a_ipI, a_rSet, a_tCKw, a_rMinD, a_rMin, a_rIxS, a_rSlS, a_iTup, a_rIn, a_rEqD, a_rNeD, upd_same, HO.lst.injEq, HO.tup.injEq, HO.dK.injEq, HO.frz.injEq, a_s0, a_s1, a_s2, a_s3, a_s4, a_s5, a_s6, a_s8, a_scal, a_scals, a_tFor, a_tLc, a_tWhile, a_wipe0, a_wipe1, k_cxU, w_cxU, k_blk, w_blk, and_assoc, exists_and_left, exists_eq_left, exists_eq_left', exists_eq_right, exists_eq, exists_const, List.getElem?_cons_zero, List.getElem?_cons_succ, List.set_cons_zero, List.set_cons_succ, Option.some.injEq, V.int.injEq, V.bl.injEq, V.ref.injEq, V.str.injEq, List.cons.injEq, and_true, true_and, List.cons_append, List.nil_append, List.append_nil, L2.start, List.map_cons, List.map_nil, List.length_cons, List.length_nil, List.replicate, Nat.sub_self, Nat.reduceSub, Nat.reduceAdd, Nat.zero_add, if_true, if_false, Bool.false_eq_true, Bool.true_eq_false, reduceIte, decide_eq_true_eq, Bool.not_eq_true', decide_eq_false_iff_not]
        rw [show (IL ts).length = ts.length by simp, wacc_end] at g3
        exact q _ _ s3 g3
/-! ### tops_of -/
def RowsAt (K : PySem.W.Frag) (H : Hp) (vs : List V) (rows : List (Int × Int)) : Prop := Paired (fun (v : V) (r : Int × Int) => ∃ a c : Addr, v = .ref a ∧ Tu K H a [.int 1, .ref c] ∧ Tu K H c [.int r.1, .int r.2]) vs rows
theorem RowsAt.same {H H' : Hp} {vs : List V} {rows : List (Int × Int)} (h : RowsAt K H vs rows) (s : Same H H') : RowsAt K H' vs rows := Paired.mapP h fun v r ⟨a, c, e, h1, h2⟩ => ⟨a, c, e, h1.same s, h2.same s⟩
theorem paired_get {α β : Type} {F : α → β → Prop} : ∀ {l : List α} {m : List β} {i : Nat} {x : α}, Paired F l m → l[i]? = some x → ∃ y, m[i]? = some y ∧ F x y
  | _, _, _, _, .nil, e => by simp at e
  | _, _, 0, _, .cons r _, e => by simp at e; subst e; exact ⟨_, rfl, r⟩
  | _, _, i + 1, x, .cons _ t, e => by
    obtain ⟨u, h1, h2⟩ := paired_get (i := i) (x := x) t (by simpa using e)
    exact ⟨u, by simpa using h1, h2⟩
theorem paired_snoc {α β : Type} {F : α → β → Prop} : ∀ {l : List α} {m : List β} {x : α} {y : β}, Paired F l m → F x y → Paired F (l ++ [x]) (m ++ [y])
  | _, _, _, _, .nil, h => .cons h .nil
  | _, _, _, _, .cons r t, h => .cons r (paired_snoc t h)
theorem topsGo_snoc (s : List Int × Int) (l : List (Int × Int)) (c : Int × Int) : topsGo s (l ++ [c]) = NbM.step (topsGo s l) c := by
  unfold topsGo
  rw [List.foldl_append]
  rfl
theorem wid_len (t : List Int) (c : Int × Int) : (wid t c).length = t.length + 1 := by simp [wid]
theorem topsGo_len : ∀ (l : List (Int × Int)) (s : List Int × Int), (topsGo s l).1.length = s.1.length + l.length
  | [], s => rfl
  | c :: l, s => by
    show (topsGo (wid s.1 c, s.2 * c.2) l).1.length = _
    rw [topsGo_len l, wid_len, List.length_cons]
    omega
def sp_tops_of (K : PySem.W.Frag) : Sp := fun vs H Q _ => ∃ (a : Addr) (xs : List V) (rows : List (Int × Int)), vs = [.ref a] ∧ SqL K H a xs ∧ RowsAt K H xs rows ∧ (∀ c ∈ rows, ChOk c) ∧ rows.length ≤ 100 ∧
  ∀ H' p l, Same H H' → H' l = some (.lst (IL (topsOf rows).1)) → H' p = some (.tup [.ref l, .int (topsOf rows).2]) → Q (.ref p) H'
theorem sc_tops_of : FnScope ["rows", "tops", "bottom", "many", "chance"] ["rows"] (defScope s_tops_of) := ⟨rfl, rfl, rfl, by decide +kernel, rfl, by decide +kernel, by decide +kernel⟩
theorem g_tops_of (T : Txt K mg) : GF P w K mg base false 2 "tops_of" [] (sp_tops_of K) := by
  obtain ⟨fd, F⟩ := T.f_tops_of
  refine ⟨_, fd, ["rows"], [], T.g_tops_of, F.kp, F.bindsN (fun _ _ _ _ _ _ us hl => match us, hl with | [_], _ => rfl), .nil, okU F sc_tops_of (fun vs H Q E h => ?_) (fun cdv A outer s H vs Q E pl hr hh hw h => ⟨_, PSs.nox (pss_cons (ps_set (i := 1) sc_tops_of.nd rfl (by first | exact Or.inl rfl | exact Or.inr rfl) (pe_lst (pa_cons pe_int pa_nil)))
      (pss_cons (ps_set (i := 2) sc_tops_of.nd rfl (by first | exact Or.inl rfl | exact Or.inr rfl) pe_int)
      (pss_cons (psu_for PassesOwn.never hw (piu_list (pv 0)) (pgu_tupK (n := 2) K hw (pgs_cons (pg_name (i := 3) sc_tops_of.nd rfl (by first | exact Or.inl rfl | exact Or.inr rfl)) (pgs_cons (pg_name (i := 4) sc_tops_of.nd rfl (by first | exact Or.inl rfl | exact Or.inr rfl)) pgs_nil))) (pss_cons (ps_set (i := 1) sc_tops_of.nd rfl (by first | exact Or.inl rfl | exact Or.inr rfl) (pe_cu (g_widened T) (hr.mono (by decide)) hw (fun z => Bool.noConfusion z) rfl (pa_cons (pv 1) (pa_cons (pv 3) (pa_cons (pv 4) pa_nil)))))
      (pss_one (ps_set (i := 2) sc_tops_of.nd rfl (by first | exact Or.inl rfl | exact Or.inr rfl) (pe_op op_mul (pv 2) (pe_ix (ix_tupK K) (pv 4) pe_int (fun _ _ => rfl)))))))
      (pss_one (ps_ret (pe_tup (pa_cons (pv 1) (pa_cons (pv 2) pa_nil)))))))), ?_⟩)⟩
  · obtain ⟨a, xs, rows, rfl, _⟩ := h
    rfl
  · obtain ⟨a, xs, rows, rfl, h1, h2, h3, h4, q⟩ := h
    have hl := Paired.length h2
    simp only [a_tVar, a_tC, a_tOp, a_tUn, a_rI, a_rI0, a_rU, a_rEq, a_rNe, a_tTest, a_tB, a_tIsN, a_tNotN, a_tChain, a_tAnd, a_tOr, a_tNot, a_tAndV, a_tOrV, a_tNotV, a_tYes, a_tNext, a_tSeq, a_tCont, a_tBreak, a_tDrop, a_tRet, a_tIfS, a_tNever, a_gName, a_gNil, a_gCons, a_gTup, a_tAsg, a_tNil, a_tCons, a_tTup, a_tLst, a_tCB, a_tCU, a_tMU, a_tFld, a_sFld, a_tSl, a_tNoPart, a_tPart, a_rSlL, a_rSlT, a_rIxL, a_rIxT, a_rCat, a_rRep, a_rCatT, a_tDGet, a_tDIn, a_tDNotIn, a_sDPut, a_tDPop1, a_tDNewK, a_tBM, a_rAppend, a_rExtend, a_iList, a_iEnum, a_iRng1, a_iRng2, a_iVals, a_iItems, a_iRng3, a_iStr, a_tMX, a_tXf, a_wAs, a_tRaise, a_tVeI, a_tOst, a_tMkO, a_tMake, a_rSum, a_rIsi, a_tChain3, a_tAugS, a_rGetL, a_rPutL, a_ipI, a_rSet, a_tCKw, a_rMinD, a_rMin, a_rIxS, a_rSlS, a_iTup, a_rIn, a_rEqD, a_rNeD, upd_same, HO.lst.injEq, HO.tup.injEq, HO.dK.injEq, HO.frz.injEq, a_s0, a_s1, a_s2, a_s3, a_s4, a_s5, a_s6, a_s8, a_scal, a_scals, a_tFor, a_tLc, a_tWhile, a_wipe0, a_wipe1, k_cxU, w_cxU, k_blk, w_blk, and_assoc, exists_and_left, exists_eq_left, exists_eq_left', exists_eq_right, exists_eq, exists_const, List.getElem?_cons_zero, List.getElem?_cons_succ, List.set_cons_zero, List.set_cons_succ, Option.some.injEq, V.int.injEq, V.bl.injEq, V.ref.injEq, V.str.injEq, List.cons.injEq, and_true, true_and, List.cons_append, List.nil_append, List.append_nil, L2.start, List.map_cons, List.map_nil, List.length_cons, List.length_nil, List.replicate, Nat.sub_self, Nat.reduceSub, Nat.reduceAdd, Nat.zero_add, if_true, if_false, Bool.false_eq_true, Bool.true_eq_false, reduceIte, decide_eq_true_eq, Bool.not_eq_true', decide_eq_false_iff_not]
    intro p hp
    refine ⟨⟨xs, Same.seq (Same.rfl'.new hp) h1⟩, ?_⟩
    refine for_go walk_list (fun i σ H' => Same H H' ∧ ∃ t u v, H' t = some (.lst (IL (topsOf (rows.take i)).1)) ∧ σ = [some (.ref a), some (.ref t), some (.int (topsOf (rows.take i)).2), u, v]) ⟨Same.rfl'.new hp, p, none, none, upd_same, rfl⟩ (fun i σ H' _ h => Same.seq h.1 h1) ?_ ?_
    · rintro i y σ H' H'' hi ⟨s, t, u, v, ht, rfl⟩ ⟨rfl, hy⟩
      obtain ⟨r, hr, a1, c1, rfl, t1, t2⟩ := paired_get h2 hy
      have hrm := List.mem_of_getElem? hr
      have ck := h3 r hrm
      have hi' : i < rows.length := by rw [← hl]; exact hi
      simp only [a_tVar, a_tC, a_tOp, a_tUn, a_rI, a_rI0, a_rU, a_rEq, a_rNe, a_tTest, a_tB, a_tIsN, a_tNotN, a_tChain, a_tAnd, a_tOr, a_tNot, a_tAndV, a_tOrV, a_tNotV, a_tYes, a_tNext, a_tSeq, a_tCont, a_tBreak, a_tDrop, a_tRet, a_tIfS, a_tNever, a_gName, a_gNil, a_gCons, a_gTup, a_tAsg, a_tNil, a_tCons, a_tTup, a_tLst, a_tCB, a_tCU, a_tMU, a_tFld, a_sFld, a_tSl, a_tNoPart, a_tPart, a_rSlL, a_rSlT, a_rIxL, a_rIxT, a_rCat, a_rRep, a_rCatT, a_tDGet, a_tDIn, a_tDNotIn, a_sDPut, a_tDPop1, a_tDNewK, a_tBM, a_rAppend, a_rExtend, a_iList, a_iEnum, a_iRng1, a_iRng2, a_iVals, a_iItems, a_iRng3, a_iStr, a_tMX, a_tXf, a_wAs, a_tRaise, a_tVeI, a_tOst, a_tMkO, a_tMake, a_rSum, a_rIsi, a_tChain3, a_tAugS, a_rGetL, a_rPutL, a_ipI, a_rSet, a_tCKw, a_rMinD, a_rMin, a_rIxS, a_rSlS, a_iTup, a_rIn, a_rEqD, a_rNeD, upd_same, HO.lst.injEq, HO.tup.injEq, HO.dK.injEq, HO.frz.injEq, a_s0, a_s1, a_s2, a_s3, a_s4, a_s5, a_s6, a_s8, a_scal, a_scals, a_tFor, a_tLc, a_tWhile, a_wipe0, a_wipe1, k_cxU, w_cxU, k_blk, w_blk, and_assoc, exists_and_left, exists_eq_left, exists_eq_left', exists_eq_right, exists_eq, exists_const, List.getElem?_cons_zero, List.getElem?_cons_succ, List.set_cons_zero, List.set_cons_succ, Option.some.injEq, V.int.injEq, V.bl.injEq, V.ref.injEq, V.str.injEq, List.cons.injEq, and_true, true_and, List.cons_append, List.nil_append, List.append_nil, L2.start, List.map_cons, List.map_nil, List.length_cons, List.length_nil, List.replicate, Nat.sub_self, Nat.reduceSub, Nat.reduceAdd, Nat.zero_add, if_true, if_false, Bool.false_eq_true, Bool.true_eq_false, reduceIte, decide_eq_true_eq, Bool.not_eq_true', decide_eq_false_iff_not]
      refine ⟨_, (t1.same s).sq, rfl, _, _, rfl, _, _, rfl, rfl, ?_⟩
      simp only [a_tVar, a_tC, a_tOp, a_tUn, a_rI, a_rI0, a_rU, a_rEq, a_rNe, a_tTest, a_tB, a_tIsN, a_tNotN, a_tChain, a_tAnd, a_tOr, a_tNot, a_tAndV, a_tOrV, a_tNotV, a_tYes, a_tNext, a_tSeq, a_tCont, a_tBreak, a_tDrop, a_tRet, a_tIfS, a_tNever, a_gName, a_gNil, a_gCons, a_gTup, a_tAsg, a_tNil, a_tCons, a_tTup, a_tLst, a_tCB, a_tCU, a_tMU, a_tFld, a_sFld, a_tSl, a_tNoPart, a_tPart, a_rSlL, a_rSlT, a_rIxL, a_rIxT, a_rCat, a_rRep, a_rCatT, a_tDGet, a_tDIn, a_tDNotIn, a_sDPut, a_tDPop1, a_tDNewK, a_tBM, a_rAppend, a_rExtend, a_iList, a_iEnum, a_iRng1, a_iRng2, a_iVals, a_iItems, a_iRng3, a_iStr, a_tMX, a_tXf, a_wAs, a_tRaise, a_tVeI, a_tOst, a_tMkO, a_tMake, a_rSum, a_rIsi, a_tChain3, a_tAugS, a_rGetL, a_rPutL, a_ipI, a_rSet, a_tCKw, a_rMinD, a_rMin, a_rIxS, a_rSlS, a_iTup, a_rIn, a_rEqD, a_rNeD, upd_same, HO.lst.injEq, HO.tup.injEq, HO.dK.injEq, HO.frz.injEq, a_s0, a_s1, a_s2, a_s3, a_s4, a_s5, a_s6, a_s8, a_scal, a_scals, a_tFor, a_tLc, a_tWhile, a_wipe0, a_wipe1, k_cxU, w_cxU, k_blk, w_blk, and_assoc, exists_and_left, exists_eq_left, exists_eq_left', exists_eq_right, exists_eq, exists_const, List.getElem?_cons_zero, List.getElem?_cons_succ, List.set_cons_zero, List.set_cons_succ, Option.some.injEq, V.int.injEq, V.bl.injEq, V.ref.injEq, V.str.injEq, List.cons.injEq, and_true, true_and, List.cons_append, List.nil_append, List.append_nil, L2.start, List.map_cons, List.map_nil, List.length_cons, List.length_nil, List.replicate, Nat.sub_self, Nat.reduceSub, Nat.reduceAdd, Nat.zero_add, if_true, if_false, Bool.false_eq_true, Bool.true_eq_false, reduceIte, decide_eq_true_eq, Bool.not_eq_true', decide_eq_false_iff_not]
      have e : topsOf (rows.take (i + 1)) = NbM.step (topsOf (rows.take i)) r := by rw [take_snoc hr]; exact topsGo_snoc _ _ _
      obtain ⟨k0, k1, k2, k3⟩ := ck
      refine ⟨t, c1, _, r, rfl, SqL.of ht, t2.same s, ⟨k0, k1, k2, k3⟩, ?_, fun H3 p s3 hp => ?_⟩
      · have := topsGo_len (rows.take i) ([1], 1)
        have h5 : (topsOf (rows.take i)).1.length = 1 + (rows.take i).length := this
        rw [h5, List.length_take]
        omega
      · exact ⟨_, ((t2.same s).same s3).sq, _, rfl, _, rfl, .inr (by omega), s.tr s3, p, by rw [e]; exact hp, rfl, by rw [e]; rfl, _, rfl⟩
    · rintro σ H' ⟨s, t, u, v, ht, rfl⟩
      rw [hl, List.take_length] at *
      simp only [a_tVar, a_tC, a_tOp, a_tUn, a_rI, a_rI0, a_rU, a_rEq, a_rNe, a_tTest, a_tB, a_tIsN, a_tNotN, a_tChain, a_tAnd, a_tOr, a_tNot, a_tAndV, a_tOrV, a_tNotV, a_tYes, a_tNext, a_tSeq, a_tCont, a_tBreak, a_tDrop, a_tRet, a_tIfS, a_tNever, a_gName, a_gNil, a_gCons, a_gTup, a_tAsg, a_tNil, a_tCons, a_tTup, a_tLst, a_tCB, a_tCU, a_tMU, a_tFld, a_sFld, a_tSl, a_tNoPart, a_tPart, a_rSlL, a_rSlT, a_rIxL, a_rIxT, a_rCat, a_rRep, a_rCatT, a_tDGet, a_tDIn, a_tDNotIn, a_sDPut, a_tDPop1, a_tDNewK, a_tBM, a_rAppend, a_rExtend, a_iList, a_iEnum, a_iRng1, a_iRng2, a_iVals, a_iItems, a_iRng3, a_iStr, a_tMX, a_tXf, a_wAs, a_tRaise, a_tVeI, a_tOst, a_tMkO, a_tMake, a_rSum, a_rIsi, a_tChain3, a_tAugS, a_rGetL, a_rPutL, a_ipI, a_rSet, a_tCKw, a_rMinD, a_rMin, a_rIxS, a_rSlS, a_iTup, a_rIn, a_rEqD, a_rNeD, upd_same, HO.lst.injEq, HO.tup.injEq, HO.dK.injEq, HO.frz.injEq, a_s0, a_s1, a_s2, a_s3, a_s4, a_s5, a_s6, a_s8, a_scal, a_scals, a_tFor, a_tLc, a_tWhile, a_wipe0, a_wipe1, k_cxU, w_cxU, k_blk, w_blk, and_assoc, exists_and_left, exists_eq_left, exists_eq_left', exists_eq_right, exists_eq, exists_const, List.getElem?_cons_zero, List.getElem?_cons_succ, List.set_cons_zero, List.set_cons_succ, Option.some.injEq, V.int.injEq, V.bl.injEq, V.ref.injEq, V.str.injEq, List.cons.injEq, and_true, true_and, List.cons_append, List.nil_append, List.append_nil, L2.start, List.map_cons, List.map_nil, List.length_cons, List.length_nil, List.replicate, Nat.sub_self, Nat.reduceSub, Nat.reduceAdd, Nat.zero_add, if_true, if_false, Bool.false_eq_true, Bool.true_eq_false, reduceIte, decide_eq_true_eq, Bool.not_eq_true', decide_eq_false_iff_not]
      exact fun p hp => q _ _ _ (s.new hp) (get_new ht hp) upd_same
/-! ### is_ladder, rooms_from -/
def sp_is_ladder (K : PySem.W.Frag) : Sp := fun vs H Q _ => ∃ (a : Addr) (ns : List Int), vs = [.ref a] ∧ H a = some (.lst (IL ns)) ∧ 1 ≤ ns.length ∧ ns.length ≤ 4 ∧ (∀ x ∈ ns, 0 ≤ x) ∧ ns.sum ≤ 12 ∧ Q (.bl true) H
theorem sc_is_ladder : FnScope ["thing", "many"] ["thing"] (defScope s_is_ladder) := ⟨rfl, rfl, rfl, by decide +kernel, rfl, by decide +kernel, by decide +kernel⟩
theorem g_is_ladder (T : Txt K mg) : GF P w K mg base true 2 "is_ladder" [] (sp_is_ladder K) := by
  obtain ⟨fd, F⟩ := T.f_is_ladder
  refine ⟨_, fd, ["thing"], [], T.g_is_ladder, F.kp, F.bindsN (fun _ _ _ _ _ _ us hl => match us, hl with | [_], _ => rfl), .nil, okU F sc_is_ladder (fun vs H Q E h => ?_) (fun cdv A outer s H vs Q E pl hr hh hw h => ⟨_, PSs.nox (pss_cons (ps_if (PW.pt (pw_or (pt_not (pt_val (pe_callB call_isi rfl T.n_isinstance boot_isinstance (pa_cons (pv 0) (pa_cons (pe_bltn (v := .ty "list") rfl T.n_list boot_list rfl) pa_nil))))) (pw_or (pt_cmpR (op_lt) (pe_callB (len_seqK K) rfl T.n_len boot_len (pa_cons (pv 0) pa_nil)) pe_int (nomark _)) (pw_or1 (pt_cmpR (op_gt) (pe_callB (len_seqK K) rfl T.n_len boot_len (pa_cons (pv 0) pa_nil)) (pg_int T.i_MOST_KINDS) (nomark _)))))) (pss_one (ps_ret pe_bl)) pss_nil)
      (pss_cons (psu_for PassesOwn.never hw (piu_list (pv 0)) (pg_name (i := 1) sc_is_ladder.nd rfl (by first | exact Or.inl rfl | exact Or.inr rfl)) (pss_one (ps_if (PW.pt (pw_or (pt_not (pt_val (pe_cu (g_is_whole T) (hr.mono (by decide)) hw (fun z => Bool.noConfusion z) rfl (pa_cons (pv 1) pa_nil)))) (pw_or1 (pt_cmpR (op_lt) (pv 1) pe_int (nomark _))))) (pss_one (ps_ret pe_bl)) pss_nil)))
      (pss_one (ps_ret (pe_cmpR (op_le) (pe_callB (cu_sum hw) rfl T.n_sum boot_sum (pa_cons (pv 0) pa_nil)) (pg_int T.i_MOST_ROOMS) (nomark _)))))), ?_⟩)⟩
  · obtain ⟨a, ns, rfl, _⟩ := h
    rfl
  · obtain ⟨a, ns, rfl, h1, h2, h3, h4, h5, q⟩ := h
    have hl : (IL ns).length = ns.length := by simp
    simp only [a_tVar, a_tC, a_tOp, a_tUn, a_rI, a_rI0, a_rU, a_rEq, a_rNe, a_tTest, a_tB, a_tIsN, a_tNotN, a_tChain, a_tAnd, a_tOr, a_tNot, a_tAndV, a_tOrV, a_tNotV, a_tYes, a_tNext, a_tSeq, a_tCont, a_tBreak, a_tDrop, a_tRet, a_tIfS, a_tNever, a_gName, a_gNil, a_gCons, a_gTup, a_tAsg, a_tNil, a_tCons, a_tTup, a_tLst, a_tCB, a_tCU, a_tMU, a_tFld, a_sFld, a_tSl, a_tNoPart, a_tPart, a_rSlL, a_rSlT, a_rIxL, a_rIxT, a_rCat, a_rRep, a_rCatT, a_tDGet, a_tDIn, a_tDNotIn, a_sDPut, a_tDPop1, a_tDNewK, a_tBM, a_rAppend, a_rExtend, a_iList, a_iEnum, a_iRng1, a_iRng2, a_iVals, a_iItems, a_iRng3, a_iStr, a_tMX, a_tXf, a_wAs, a_tRaise, a_tVeI, a_tOst, a_tMkO, a_tMake, a_rSum, a_rIsi, a_tChain3, a_tAugS, a_rGetL, a_rPutL, a_ipI, a_rSet, a_tCKw, a_rMinD, a_rMin, a_rIxS, a_rSlS, a_iTup, a_rIn, a_rEqD, a_rNeD, upd_same, HO.lst.injEq, HO.tup.injEq, HO.dK.injEq, HO.frz.injEq, a_s0, a_s1, a_s2, a_s3, a_s4, a_s5, a_s6, a_s8, a_scal, a_scals, a_tFor, a_tLc, a_tWhile, a_wipe0, a_wipe1, k_cxU, w_cxU, k_blk, w_blk, and_assoc, exists_and_left, exists_eq_left, exists_eq_left', exists_eq_right, exists_eq, exists_const, List.getElem?_cons_zero, List.getElem?_cons_succ, List.set_cons_zero, List.set_cons_succ, Option.some.injEq, V.int.injEq, V.bl.injEq, V.ref.injEq, V.str.injEq, List.cons.injEq, and_true, true_and, List.cons_append, List.nil_append, List.append_nil, L2.start, List.map_cons, List.map_nil, List.length_cons, List.length_nil, List.replicate, Nat.sub_self, Nat.reduceSub, Nat.reduceAdd, Nat.zero_add, if_true, if_false, Bool.false_eq_true, Bool.true_eq_false, reduceIte, decide_eq_true_eq, Bool.not_eq_true', decide_eq_false_iff_not]
    refine ⟨_, _, .ty _, .base (.lst h1), true, kit_ty (by decide +kernel), ?_⟩
    rw [if_neg (by simp)]
    refine ⟨_, .inl (SqL.of h1), ?_⟩
    rw [if_neg (by rw [hl]; omega)]
    refine ⟨_, .inl (SqL.of h1), ?_⟩
    rw [if_neg (by rw [hl]; omega)]
    refine ⟨⟨_, SqL.of h1⟩, ?_⟩
    refine for_go (walk_list (xs := IL ns)) (fun i σ H' => H' = H ∧ ∃ u, σ = [some (.ref a), u]) ⟨rfl, none, rfl⟩ (fun i σ H' _ h => by rw [h.1]; exact SqL.of h1) ?_ ?_
    · rintro i y σ H' H'' hi ⟨rfl, u, rfl⟩ ⟨rfl, hy⟩
      obtain ⟨z, hz, rfl⟩ := il_get hy
      have := h4 z (List.mem_of_getElem? hz)
      simp only [a_tVar, a_tC, a_tOp, a_tUn, a_rI, a_rI0, a_rU, a_rEq, a_rNe, a_tTest, a_tB, a_tIsN, a_tNotN, a_tChain, a_tAnd, a_tOr, a_tNot, a_tAndV, a_tOrV, a_tNotV, a_tYes, a_tNext, a_tSeq, a_tCont, a_tBreak, a_tDrop, a_tRet, a_tIfS, a_tNever, a_gName, a_gNil, a_gCons, a_gTup, a_tAsg, a_tNil, a_tCons, a_tTup, a_tLst, a_tCB, a_tCU, a_tMU, a_tFld, a_sFld, a_tSl, a_tNoPart, a_tPart, a_rSlL, a_rSlT, a_rIxL, a_rIxT, a_rCat, a_rRep, a_rCatT, a_tDGet, a_tDIn, a_tDNotIn, a_sDPut, a_tDPop1, a_tDNewK, a_tBM, a_rAppend, a_rExtend, a_iList, a_iEnum, a_iRng1, a_iRng2, a_iVals, a_iItems, a_iRng3, a_iStr, a_tMX, a_tXf, a_wAs, a_tRaise, a_tVeI, a_tOst, a_tMkO, a_tMake, a_rSum, a_rIsi, a_tChain3, a_tAugS, a_rGetL, a_rPutL, a_ipI, a_rSet, a_tCKw, a_rMinD, a_rMin, a_rIxS, a_rSlS, a_iTup, a_rIn, a_rEqD, a_rNeD, upd_same, HO.lst.injEq, HO.tup.injEq, HO.dK.injEq, HO.frz.injEq, a_s0, a_s1, a_s2, a_s3, a_s4, a_s5, a_s6, a_s8, a_scal, a_scals, a_tFor, a_tLc, a_tWhile, a_wipe0, a_wipe1, k_cxU, w_cxU, k_blk, w_blk, and_assoc, exists_and_left, exists_eq_left, exists_eq_left', exists_eq_right, exists_eq, exists_const, List.getElem?_cons_zero, List.getElem?_cons_succ, List.set_cons_zero, List.set_cons_succ, Option.some.injEq, V.int.injEq, V.bl.injEq, V.ref.injEq, V.str.injEq, List.cons.injEq, and_true, true_and, List.cons_append, List.nil_append, List.append_nil, L2.start, List.map_cons, List.map_nil, List.length_cons, List.length_nil, List.replicate, Nat.sub_self, Nat.reduceSub, Nat.reduceAdd, Nat.zero_add, if_true, if_false, Bool.false_eq_true, Bool.true_eq_false, reduceIte, decide_eq_true_eq, Bool.not_eq_true', decide_eq_false_iff_not, sp_is_whole]
      rw [if_neg (by omega)]
      exact ⟨_, rfl⟩
    · rintro σ H' ⟨rfl, u, rfl⟩
      simp only [a_tVar, a_tC, a_tOp, a_tUn, a_rI, a_rI0, a_rU, a_rEq, a_rNe, a_tTest, a_tB, a_tIsN, a_tNotN, a_tChain, a_tAnd, a_tOr, a_tNot, a_tAndV, a_tOrV, a_tNotV, a_tYes, a_tNext, a_tSeq, a_tCont, a_tBreak, a_tDrop, a_tRet, a_tIfS, a_tNever, a_gName, a_gNil, a_gCons, a_gTup, a_tAsg, a_tNil, a_tCons, a_tTup, a_tLst, a_tCB, a_tCU, a_tMU, a_tFld, a_sFld, a_tSl, a_tNoPart, a_tPart, a_rSlL, a_rSlT, a_rIxL, a_rIxT, a_rCat, a_rRep, a_rCatT, a_tDGet, a_tDIn, a_tDNotIn, a_sDPut, a_tDPop1, a_tDNewK, a_tBM, a_rAppend, a_rExtend, a_iList, a_iEnum, a_iRng1, a_iRng2, a_iVals, a_iItems, a_iRng3, a_iStr, a_tMX, a_tXf, a_wAs, a_tRaise, a_tVeI, a_tOst, a_tMkO, a_tMake, a_rSum, a_rIsi, a_tChain3, a_tAugS, a_rGetL, a_rPutL, a_ipI, a_rSet, a_tCKw, a_rMinD, a_rMin, a_rIxS, a_rSlS, a_iTup, a_rIn, a_rEqD, a_rNeD, upd_same, HO.lst.injEq, HO.tup.injEq, HO.dK.injEq, HO.frz.injEq, a_s0, a_s1, a_s2, a_s3, a_s4, a_s5, a_s6, a_s8, a_scal, a_scals, a_tFor, a_tLc, a_tWhile, a_wipe0, a_wipe1, k_cxU, w_cxU, k_blk, w_blk, and_assoc, exists_and_left, exists_eq_left, exists_eq_left', exists_eq_right, exists_eq, exists_const, List.getElem?_cons_zero, List.getElem?_cons_succ, List.set_cons_zero, List.set_cons_succ, Option.some.injEq, V.int.injEq, V.bl.injEq, V.ref.injEq, V.str.injEq, List.cons.injEq, and_true, true_and, List.cons_append, List.nil_append, List.append_nil, L2.start, List.map_cons, List.map_nil, List.length_cons, List.length_nil, List.replicate, Nat.sub_self, Nat.reduceSub, Nat.reduceAdd, Nat.zero_add, if_true, if_false, Bool.false_eq_true, Bool.true_eq_false, reduceIte, decide_eq_true_eq, Bool.not_eq_true', decide_eq_false_iff_not]
      refine ⟨ns, SqL.of h1, ?_⟩
      rw [decide_eq_true h5]
      exact q
theorem cutV_drop (xs : List V) (i : Int) (h : 0 ≤ i) : cutV xs (some i) none = xs.drop i.toNat := by
  show ((xs.drop (if i < 0 then (i + (xs.length : Int)).toNat else min i.toNat xs.length)).take (xs.length - (if i < 0 then (i + (xs.length : Int)).toNat else min i.toNat xs.length))) = xs.drop i.toNat
  rw [if_neg (by omega), List.take_of_length_le (by rw [List.length_drop]; omega)]
  by_cases c : i.toNat ≤ xs.length
  · rw [Nat.min_eq_left c]
  · rw [Nat.min_eq_right (by omega), List.drop_length, List.drop_eq_nil_of_le (by omega)]
def sp_rooms_from (K : PySem.W.Frag) : Sp := fun vs H Q _ => ∃ (a : Addr) (ns : List Int) (k : Int), vs = [.ref a, .int k] ∧ SqL K H a (IL ns) ∧ 1 ≤ k ∧ ∀ H', Same H H' → Q (.int (roomsFrom ns k)) H'
theorem sc_rooms_from : FnScope ["ladder", "kind"] ["ladder", "kind"] (defScope s_rooms_from) := ⟨rfl, rfl, rfl, by decide +kernel, rfl, by decide +kernel, by decide +kernel⟩
theorem g_rooms_from (T : Txt K mg) : GF P w K mg base false 1 "rooms_from" [] (sp_rooms_from K) := by
  obtain ⟨fd, F⟩ := T.f_rooms_from
  refine ⟨_, fd, ["ladder", "kind"], [], T.g_rooms_from, F.kp, F.bindsN (fun _ _ _ _ _ _ us hl => match us, hl with | [_, _], _ => rfl), .nil, okU F sc_rooms_from (fun vs H Q E h => ?_) (fun cdv A outer s H vs Q E pl hr hh hw h => ⟨_, PSs.nox (pss_one (ps_ret (pe_callB (cu_sum hw) rfl T.n_sum boot_sum (pa_cons (pe_slice (sl_listK K) (pv 0) (po_some (pe_op op_sub (pv 1) pe_int)) po_none) pa_nil)))), ?_⟩)⟩
  · obtain ⟨a, ns, k, rfl, _⟩ := h
    rfl
  · obtain ⟨a, ns, k, rfl, h1, h2, q⟩ := h
    simp only [a_tVar, a_tC, a_tOp, a_tUn, a_rI, a_rI0, a_rU, a_rEq, a_rNe, a_tTest, a_tB, a_tIsN, a_tNotN, a_tChain, a_tAnd, a_tOr, a_tNot, a_tAndV, a_tOrV, a_tNotV, a_tYes, a_tNext, a_tSeq, a_tCont, a_tBreak, a_tDrop, a_tRet, a_tIfS, a_tNever, a_gName, a_gNil, a_gCons, a_gTup, a_tAsg, a_tNil, a_tCons, a_tTup, a_tLst, a_tCB, a_tCU, a_tMU, a_tFld, a_sFld, a_tSl, a_tNoPart, a_tPart, a_rSlL, a_rSlT, a_rIxL, a_rIxT, a_rCat, a_rRep, a_rCatT, a_tDGet, a_tDIn, a_tDNotIn, a_sDPut, a_tDPop1, a_tDNewK, a_tBM, a_rAppend, a_rExtend, a_iList, a_iEnum, a_iRng1, a_iRng2, a_iVals, a_iItems, a_iRng3, a_iStr, a_tMX, a_tXf, a_wAs, a_tRaise, a_tVeI, a_tOst, a_tMkO, a_tMake, a_rSum, a_rIsi, a_tChain3, a_tAugS, a_rGetL, a_rPutL, a_ipI, a_rSet, a_tCKw, a_rMinD, a_rMin, a_rIxS, a_rSlS, a_iTup, a_rIn, a_rEqD, a_rNeD, upd_same, HO.lst.injEq, HO.tup.injEq, HO.dK.injEq, HO.frz.injEq, a_s0, a_s1, a_s2, a_s3, a_s4, a_s5, a_s6, a_s8, a_scal, a_scals, a_tFor, a_tLc, a_tWhile, a_wipe0, a_wipe1, k_cxU, w_cxU, k_blk, w_blk, and_assoc, exists_and_left, exists_eq_left, exists_eq_left', exists_eq_right, exists_eq, exists_const, List.getElem?_cons_zero, List.getElem?_cons_succ, List.set_cons_zero, List.set_cons_succ, Option.some.injEq, V.int.injEq, V.bl.injEq, V.ref.injEq, V.str.injEq, List.cons.injEq, and_true, true_and, List.cons_append, List.nil_append, List.append_nil, L2.start, List.map_cons, List.map_nil, List.length_cons, List.length_nil, List.replicate, Nat.sub_self, Nat.reduceSub, Nat.reduceAdd, Nat.zero_add, if_true, if_false, Bool.false_eq_true, Bool.true_eq_false, reduceIte, decide_eq_true_eq, Bool.not_eq_true', decide_eq_false_iff_not]
    refine ⟨_, h1, fun p hp => ⟨ns.drop (k - 1).toNat, SqL.of ?_, q _ (Same.rfl'.new hp)⟩⟩
    rw [upd_same, cutV_drop _ _ (by omega)]
    exact congrArg (fun l => some (HO.lst l)) List.map_drop.symm
end
end Nb
end
section
set_option Elab.async false
set_option linter.all false
set_option maxRecDepth 100000
set_option maxHeartbeats 4000000
namespace Nb
open PySem PySem.Spec PyProof.Rows L2 NbU NbM
section
variable {P : Program} {w : World} {K : PySem.W.Frag} {mg : Str → Option Value} {base : Heap}
/-! ### chance_at -/
theorem RowsAt.keep {H H' : Hp} {vs : List V} {rows : List (Int × Int)} (h : RowsAt K H vs rows) (s : Tups H H') : RowsAt K H' vs rows := Paired.mapP h fun v r ⟨a, c, e, h1, h2⟩ => ⟨a, c, e, h1.keep s, h2.keep s⟩
def StayAt (K : PySem.W.Frag) (H : Hp) (v : V) (s : Stay) : Prop := ∃ a c : Addr, v = .ref a ∧ Tu K H a [.int s.first, .int s.behind, .int s.kind, .ref c] ∧ Tu K H c [.int s.ch.1, .int s.ch.2]
theorem StayAt.same {H H' : Hp} {v : V} {t : Stay} (h : StayAt K H v t) (s : Same H H') : StayAt K H' v t := let ⟨a, c, e, h1, h2⟩ := h; ⟨a, c, e, h1.same s, h2.same s⟩
def StaysAt (K : PySem.W.Frag) (H : Hp) (vs : List V) (ss : List Stay) : Prop := Paired (StayAt K H) vs ss
theorem StaysAt.same {H H' : Hp} {vs : List V} {ss : List Stay} (h : StaysAt K H vs ss) (s : Same H H') : StaysAt K H' vs ss := Paired.mapP h fun v r q => q.same s
theorem bottom_lt : ∀ (l : List (Int × Int)) (s : List Int × Int) (n : Nat), (∀ c ∈ l, ChOk c) → 0 < s.2 → s.2.natAbs < 2 ^ n → 0 < (topsGo s l).2 ∧ (topsGo s l).2.natAbs < 2 ^ (n + 7 * l.length)
  | [], s, n, _, h0, h1 => ⟨h0, by show s.2.natAbs < 2 ^ (n + 7 * 0); simpa using h1⟩
  | c :: l, s, n, hc, h0, h1 => by
    obtain ⟨k0, k1, k2, k3⟩ := hc c List.mem_cons_self
    have h2 : (s.2 * c.2).natAbs < 2 ^ (n + 7) := wide_lt h1 (by omega)
    have h3 : 0 < s.2 * c.2 := Int.mul_pos h0 (by omega)
    have := bottom_lt l (wid s.1 c, s.2 * c.2) (n + 7) (fun d hd => hc d (List.mem_cons_of_mem _ hd)) h3 h2
    rw [List.length_cons, show n + 7 * (l.length + 1) = n + 7 + 7 * l.length by omega]
    exact this
theorem rowsAt_snoc (l : List Stay) (s : Stay) (n k : Int) : rowsAt (l ++ [s]) n k = rowsAt l n k ++ (if (decide (s.first ≤ n) && decide (n < s.behind) && decide (k ≤ s.kind)) = true then [s.ch] else []) := by
  unfold rowsAt
  rw [List.filter_append, List.map_append]
  congr 1
  rw [List.filter_cons]
  split <;> rfl
theorem rowsAt_len (l : List Stay) (n k : Int) : (rowsAt l n k).length ≤ l.length := by
  unfold rowsAt
  rw [List.length_map]
  exact List.length_filter_le ..
def sp_chance_at (K : PySem.W.Frag) : Sp := fun vs H Q _ => ∃ (a l : Addr) (xs : List V) (ss : List Stay) (n k : Int) (lad : List Int), vs = [.ref a, .int n, .int k, .ref l] ∧ SqL K H a xs ∧ StaysAt K H xs ss ∧ (∀ s ∈ ss, ChOk s.ch) ∧ ss.length ≤ 100 ∧
  SqL K H l (IL lad) ∧ (∀ x ∈ lad, 0 ≤ x) ∧ 1 ≤ k ∧ ∀ H' p, Same H H' → H' p = some (.tup [.int (chanceAt ss n k lad).1, .int (chanceAt ss n k lad).2]) → Q (.ref p) H'
theorem sc_chance_at : FnScope ["stays", "night", "kind", "ladder", "rows", "first", "behind", "wished", "chance", "tops", "bottom"] ["stays", "night", "kind", "ladder"] (defScope s_chance_at) := ⟨rfl, rfl, rfl, by decide +kernel, rfl, by decide +kernel, by decide +kernel⟩
theorem g_chance_at (T : Txt K mg) : GF P w K mg base false 3 "chance_at" [] (sp_chance_at K) := by
  obtain ⟨fd, F⟩ := T.f_chance_at
  refine ⟨_, fd, ["stays", "night", "kind", "ladder"], [], T.g_chance_at, F.kp, F.bindsN (fun _ _ _ _ _ _ us hl => match us, hl with | [_, _, _, _], _ => rfl), .nil, okU F sc_chance_at (fun vs H Q E h => ?_) (fun cdv A outer s H vs Q E pl hr hh hw h => ⟨_, PSs.nox (pss_cons (ps_set (i := 4) sc_chance_at.nd rfl (by first | exact Or.inl rfl | exact Or.inr rfl) (pe_lst pa_nil))
      (pss_cons (psu_for PassesOwn.never hw (piu_list (pv 0)) (pgu_tupK (n := 4) K hw (pgs_cons (pg_name (i := 5) sc_chance_at.nd rfl (by first | exact Or.inl rfl | exact Or.inr rfl)) (pgs_cons (pg_name (i := 6) sc_chance_at.nd rfl (by first | exact Or.inl rfl | exact Or.inr rfl)) (pgs_cons (pg_name (i := 7) sc_chance_at.nd rfl (by first | exact Or.inl rfl | exact Or.inr rfl)) (pgs_cons (pg_name (i := 8) sc_chance_at.nd rfl (by first | exact Or.inl rfl | exact Or.inr rfl)) pgs_nil))))) (pss_one (ps_if (PW.pt (pw_and (pt_val (pe_cu (g_holds T) (hr.mono (by decide)) hw (fun z => Bool.noConfusion z) rfl (pa_cons (pe_tup (pa_cons (pv 5) (pa_cons (pv 6) pa_nil))) (pa_cons (pv 1) pa_nil)))) (pw_and1 (pt_cmpR (op_ge) (pv 7) (pv 2) (nomark _))))) (pss_one (ps_expr (pe_bm PySem.F.plainAttrs_list PySem.F.slot_list_append PySem.F.type_list_append mt_append (pv 4) (pa_cons (pe_tup (pa_cons pe_int (pa_cons (pv 8) pa_nil))) pa_nil)))) pss_nil)))
      (pss_cons (ps_asg (pe_cu (g_tops_of T) (hr.mono (by decide)) hw (fun z => Bool.noConfusion z) rfl (pa_cons (pv 4) pa_nil)) (pgu_tupK (n := 2) K hw (pgs_cons (pg_name (i := 9) sc_chance_at.nd rfl (by first | exact Or.inl rfl | exact Or.inr rfl)) (pgs_cons (pg_name (i := 10) sc_chance_at.nd rfl (by first | exact Or.inl rfl | exact Or.inr rfl)) pgs_nil))))
      (pss_one (ps_ret (pe_cu (g_ratio T) (hr.mono (by decide)) hw (fun z => Bool.noConfusion z) rfl (pa_cons (pe_callB (cu_sum hw) rfl T.n_sum boot_sum (pa_cons (pe_slice (sl_listK K) (pv 9) (po_some (pe_op op_add (pe_cu (g_rooms_from T) (hr.mono (by decide)) hw (fun z => Bool.noConfusion z) rfl (pa_cons (pv 3) (pa_cons (pv 2) pa_nil))) pe_int)) po_none) pa_nil)) (pa_cons (pv 10) pa_nil)))))))), ?_⟩)⟩
  · obtain ⟨a, l, xs, ss, n, k, lad, rfl, _⟩ := h
    rfl
  · obtain ⟨a, l, xs, ss, n, k, lad, rfl, h1, h2, h3, h4, h5, h6, h7, q⟩ := h
    have hl := Paired.length h2
    simp only [a_tVar, a_tC, a_tOp, a_tUn, a_rI, a_rI0, a_rU, a_rEq, a_rNe, a_tTest, a_tB, a_tIsN, a_tNotN, a_tChain, a_tAnd, a_tOr, a_tNot, a_tAndV, a_tOrV, a_tNotV, a_tYes, a_tNext, a_tSeq, a_tCont, a_tBreak, a_tDrop, a_tRet, a_tIfS, a_tNever, a_gName, a_gNil, a_gCons, a_gTup, a_tAsg, a_tNil, a_tCons, a_tTup, a_tLst, a_tCB, a_tCU, a_tMU, a_tFld, a_sFld, a_tSl, a_tNoPart, a_tPart, a_rSlL, a_rSlT, a_rIxL, a_rIxT, a_rCat, a_rRep, a_rCatT, a_tDGet, a_tDIn, a_tDNotIn, a_sDPut, a_tDPop1, a_tDNewK, a_tBM, a_rAppend, a_rExtend, a_iList, a_iEnum, a_iRng1, a_iRng2, a_iVals, a_iItems, a_iRng3, a_iStr, a_tMX, a_tXf, a_wAs, a_tRaise, a_tVeI, a_tOst, a_tMkO, a_tMake, a_rSum, a_rIsi, a_tChain3, a_tAugS, a_rGetL, a_rPutL, a_ipI, a_rSet, a_tCKw, a_rMinD, a_rMin, a_rIxS, a_rSlS, a_iTup, a_rIn, a_rEqD, a_rNeD, upd_same, HO.lst.injEq, HO.tup.injEq, HO.dK.injEq, HO.frz.injEq, a_s0, a_s1, a_s2, a_s3, a_s4, a_s5, a_s6, a_s8, a_scal, a_scals, a_tFor, a_tLc, a_tWhile, a_wipe0, a_wipe1, k_cxU, w_cxU, k_blk, w_blk, and_assoc, exists_and_left, exists_eq_left, exists_eq_left', exists_eq_right, exists_eq, exists_const, List.getElem?_cons_zero, List.getElem?_cons_succ, List.set_cons_zero, List.set_cons_succ, Option.some.injEq, V.int.injEq, V.bl.injEq, V.ref.injEq, V.str.injEq, List.cons.injEq, and_true, true_and, List.cons_append, List.nil_append, List.append_nil, L2.start, List.map_cons, List.map_nil, List.length_cons, List.length_nil, List.replicate, Nat.sub_self, Nat.reduceSub, Nat.reduceAdd, Nat.zero_add, if_true, if_false, Bool.false_eq_true, Bool.true_eq_false, reduceIte, decide_eq_true_eq, Bool.not_eq_true', decide_eq_false_iff_not]
    intro r hr
    refine ⟨⟨xs, Same.seq (Same.rfl'.new hr) h1⟩, ?_⟩
    refine for_go walk_list (fun i σ H' => Same H H' ∧ ∃ ys u1 u2 u3 u4, H' r = some (.lst ys) ∧ RowsAt K H' ys (rowsAt (ss.take i) n k) ∧ σ = [some (.ref a), some (.int n), some (.int k), some (.ref l), some (.ref r), u1, u2, u3, u4, none, none]) ⟨Same.rfl'.new hr, [], none, none, none, none, upd_same, .nil, rfl⟩ (fun i σ H' _ h => Same.seq h.1 h1) ?_ ?_
    · rintro i y σ H' H'' hi ⟨s, ys, u1, u2, u3, u4, hy1, hy2, rfl⟩ ⟨rfl, hy⟩
      obtain ⟨t, ht, a1, c1, rfl, t1, t2⟩ := paired_get h2 hy
      have ck := h3 t (List.mem_of_getElem? ht)
      have hi' : i < ss.length := by rw [← hl]; exact hi
      simp only [a_tVar, a_tC, a_tOp, a_tUn, a_rI, a_rI0, a_rU, a_rEq, a_rNe, a_tTest, a_tB, a_tIsN, a_tNotN, a_tChain, a_tAnd, a_tOr, a_tNot, a_tAndV, a_tOrV, a_tNotV, a_tYes, a_tNext, a_tSeq, a_tCont, a_tBreak, a_tDrop, a_tRet, a_tIfS, a_tNever, a_gName, a_gNil, a_gCons, a_gTup, a_tAsg, a_tNil, a_tCons, a_tTup, a_tLst, a_tCB, a_tCU, a_tMU, a_tFld, a_sFld, a_tSl, a_tNoPart, a_tPart, a_rSlL, a_rSlT, a_rIxL, a_rIxT, a_rCat, a_rRep, a_rCatT, a_tDGet, a_tDIn, a_tDNotIn, a_sDPut, a_tDPop1, a_tDNewK, a_tBM, a_rAppend, a_rExtend, a_iList, a_iEnum, a_iRng1, a_iRng2, a_iVals, a_iItems, a_iRng3, a_iStr, a_tMX, a_tXf, a_wAs, a_tRaise, a_tVeI, a_tOst, a_tMkO, a_tMake, a_rSum, a_rIsi, a_tChain3, a_tAugS, a_rGetL, a_rPutL, a_ipI, a_rSet, a_tCKw, a_rMinD, a_rMin, a_rIxS, a_rSlS, a_iTup, a_rIn, a_rEqD, a_rNeD, upd_same, HO.lst.injEq, HO.tup.injEq, HO.dK.injEq, HO.frz.injEq, a_s0, a_s1, a_s2, a_s3, a_s4, a_s5, a_s6, a_s8, a_scal, a_scals, a_tFor, a_tLc, a_tWhile, a_wipe0, a_wipe1, k_cxU, w_cxU, k_blk, w_blk, and_assoc, exists_and_left, exists_eq_left, exists_eq_left', exists_eq_right, exists_eq, exists_const, List.getElem?_cons_zero, List.getElem?_cons_succ, List.set_cons_zero, List.set_cons_succ, Option.some.injEq, V.int.injEq, V.bl.injEq, V.ref.injEq, V.str.injEq, List.cons.injEq, and_true, true_and, List.cons_append, List.nil_append, List.append_nil, L2.start, List.map_cons, List.map_nil, List.length_cons, List.length_nil, List.replicate, Nat.sub_self, Nat.reduceSub, Nat.reduceAdd, Nat.zero_add, if_true, if_false, Bool.false_eq_true, Bool.true_eq_false, reduceIte, decide_eq_true_eq, Bool.not_eq_true', decide_eq_false_iff_not]
      refine ⟨_, (t1.same s).sq, rfl, _, _, rfl, _, _, rfl, _, _, rfl, _, _, rfl, rfl, ?_⟩
      simp only [a_tVar, a_tC, a_tOp, a_tUn, a_rI, a_rI0, a_rU, a_rEq, a_rNe, a_tTest, a_tB, a_tIsN, a_tNotN, a_tChain, a_tAnd, a_tOr, a_tNot, a_tAndV, a_tOrV, a_tNotV, a_tYes, a_tNext, a_tSeq, a_tCont, a_tBreak, a_tDrop, a_tRet, a_tIfS, a_tNever, a_gName, a_gNil, a_gCons, a_gTup, a_tAsg, a_tNil, a_tCons, a_tTup, a_tLst, a_tCB, a_tCU, a_tMU, a_tFld, a_sFld, a_tSl, a_tNoPart, a_tPart, a_rSlL, a_rSlT, a_rIxL, a_rIxT, a_rCat, a_rRep, a_rCatT, a_tDGet, a_tDIn, a_tDNotIn, a_sDPut, a_tDPop1, a_tDNewK, a_tBM, a_rAppend, a_rExtend, a_iList, a_iEnum, a_iRng1, a_iRng2, a_iVals, a_iItems, a_iRng3, a_iStr, a_tMX, a_tXf, a_wAs, a_tRaise, a_tVeI, a_tOst, a_tMkO, a_tMake, a_rSum, a_rIsi, a_tChain3, a_tAugS, a_rGetL, a_rPutL, a_ipI, a_rSet, a_tCKw, a_rMinD, a_rMin, a_rIxS, a_rSlS, a_iTup, a_rIn, a_rEqD, a_rNeD, upd_same, HO.lst.injEq, HO.tup.injEq, HO.dK.injEq, HO.frz.injEq, a_s0, a_s1, a_s2, a_s3, a_s4, a_s5, a_s6, a_s8, a_scal, a_scals, a_tFor, a_tLc, a_tWhile, a_wipe0, a_wipe1, k_cxU, w_cxU, k_blk, w_blk, and_assoc, exists_and_left, exists_eq_left, exists_eq_left', exists_eq_right, exists_eq, exists_const, List.getElem?_cons_zero, List.getElem?_cons_succ, List.set_cons_zero, List.set_cons_succ, Option.some.injEq, V.int.injEq, V.bl.injEq, V.ref.injEq, V.str.injEq, List.cons.injEq, and_true, true_and, List.cons_append, List.nil_append, List.append_nil, L2.start, List.map_cons, List.map_nil, List.length_cons, List.length_nil, List.replicate, Nat.sub_self, Nat.reduceSub, Nat.reduceAdd, Nat.zero_add, if_true, if_false, Bool.false_eq_true, Bool.true_eq_false, reduceIte, decide_eq_true_eq, Bool.not_eq_true', decide_eq_false_iff_not]
      intro p hp
      have e := rowsAt_snoc (ss.take i) t n k
      rw [← take_snoc ht] at e
      have s2 := s.new hp (o := .tup [.int t.first, .int t.behind])
      have y2 := get_new hy1 hp (o := .tup [.int t.first, .int t.behind])
      have w2 := hy2.same (Same.rfl'.new hp (o := .tup [.int t.first, .int t.behind]))
      refine ⟨p, t.first, t.behind, n, [], rfl, SqT.of upd_same, _, rfl, ?_⟩
      by_cases c : (decide (t.first ≤ n) && decide (n < t.behind)) = true
      · rw [if_pos c]
        rw [c, Bool.true_and] at e
        by_cases d : k ≤ t.kind
        · rw [if_pos d]
          rw [decide_eq_true d, if_pos rfl] at e
          refine ⟨tyL y2, fun p2 hp2 => ⟨ys, get_new y2 hp2, ?_, (s2.new hp2).put (Same.free Same.rfl' hr), ?_, _, rfl⟩⟩
          · have := Paired.length hy2
            have := rowsAt_len (ss.take i) n k
            have : (ss.take i).length ≤ ss.length := by rw [List.length_take]; omega
            exact szl _ (by omega)
          · rw [e]
            have k3 : Tups (upd H'' p (.tup [.int t.first, .int t.behind])) (upd (upd (upd H'' p (.tup [.int t.first, .int t.behind])) p2 (.tup [.int 1, .ref c1])) r (.lst (ys ++ [.ref p2]))) := (Same.rfl'.new hp2).tups.tr (tups_put (get_new y2 hp2) fun _ z => nomatch z)
            refine paired_snoc (w2.keep k3) ⟨p2, c1, rfl, .inl ?_, ((t2.same s2).keep k3)⟩
            exact (tups_put (get_new y2 hp2) fun _ z => nomatch z) p2 _ upd_same
        · rw [if_neg d]
          rw [decide_eq_false d, if_neg (by decide), List.append_nil] at e
          exact ⟨s2, ys, y2, by rw [e]; exact w2, _, rfl⟩
      · rw [if_neg c]
        have c' : (decide (t.first ≤ n) && decide (n < t.behind)) = false := by simpa using c
        rw [c', Bool.false_and, if_neg (by decide), List.append_nil] at e
        exact ⟨s2, ys, y2, by rw [e]; exact w2, _, rfl⟩
    · rintro σ H' ⟨s, ys, u1, u2, u3, u4, hy1, hy2, rfl⟩
      rw [hl, List.take_length] at hy2
      have rl := rowsAt_len ss n k
      have rk : ∀ c ∈ rowsAt ss n k, ChOk c := fun c hc => by
        unfold rowsAt at hc
        obtain ⟨t, ht, e⟩ := List.mem_map.mp hc
        rw [← e]
        exact h3 t (List.mem_filter.mp ht).1
      obtain ⟨b1, b2⟩ := bottom_lt (rowsAt ss n k) ([1], 1) 1 rk (by decide) (by decide)
      simp only [a_tVar, a_tC, a_tOp, a_tUn, a_rI, a_rI0, a_rU, a_rEq, a_rNe, a_tTest, a_tB, a_tIsN, a_tNotN, a_tChain, a_tAnd, a_tOr, a_tNot, a_tAndV, a_tOrV, a_tNotV, a_tYes, a_tNext, a_tSeq, a_tCont, a_tBreak, a_tDrop, a_tRet, a_tIfS, a_tNever, a_gName, a_gNil, a_gCons, a_gTup, a_tAsg, a_tNil, a_tCons, a_tTup, a_tLst, a_tCB, a_tCU, a_tMU, a_tFld, a_sFld, a_tSl, a_tNoPart, a_tPart, a_rSlL, a_rSlT, a_rIxL, a_rIxT, a_rCat, a_rRep, a_rCatT, a_tDGet, a_tDIn, a_tDNotIn, a_sDPut, a_tDPop1, a_tDNewK, a_tBM, a_rAppend, a_rExtend, a_iList, a_iEnum, a_iRng1, a_iRng2, a_iVals, a_iItems, a_iRng3, a_iStr, a_tMX, a_tXf, a_wAs, a_tRaise, a_tVeI, a_tOst, a_tMkO, a_tMake, a_rSum, a_rIsi, a_tChain3, a_tAugS, a_rGetL, a_rPutL, a_ipI, a_rSet, a_tCKw, a_rMinD, a_rMin, a_rIxS, a_rSlS, a_iTup, a_rIn, a_rEqD, a_rNeD, upd_same, HO.lst.injEq, HO.tup.injEq, HO.dK.injEq, HO.frz.injEq, a_s0, a_s1, a_s2, a_s3, a_s4, a_s5, a_s6, a_s8, a_scal, a_scals, a_tFor, a_tLc, a_tWhile, a_wipe0, a_wipe1, k_cxU, w_cxU, k_blk, w_blk, and_assoc, exists_and_left, exists_eq_left, exists_eq_left', exists_eq_right, exists_eq, exists_const, List.getElem?_cons_zero, List.getElem?_cons_succ, List.set_cons_zero, List.set_cons_succ, Option.some.injEq, V.int.injEq, V.bl.injEq, V.ref.injEq, V.str.injEq, List.cons.injEq, and_true, true_and, List.cons_append, List.nil_append, List.append_nil, L2.start, List.map_cons, List.map_nil, List.length_cons, List.length_nil, List.replicate, Nat.sub_self, Nat.reduceSub, Nat.reduceAdd, Nat.zero_add, if_true, if_false, Bool.false_eq_true, Bool.true_eq_false, reduceIte, decide_eq_true_eq, Bool.not_eq_true', decide_eq_false_iff_not]
      refine ⟨r, ys, rowsAt ss n k, rfl, SqL.of hy1, hy2, rk, by omega, fun H2 p l2 s2 hl2 hp => ?_⟩
      refine ⟨p, rfl, _, SqT.of hp, rfl, _, _, rfl, _, _, rfl, rfl, ?_⟩
      have s02 := s.tr s2
      refine ⟨l, lad, k, rfl, Same.seq s02 h5, h7, fun H3 s3 => ?_⟩
      have rn : 0 ≤ roomsFrom lad k := sum_nn fun x hx => h6 x (List.mem_of_mem_drop hx)
      refine ⟨_, rfl, l2, rfl, _, SqL.of (s3 _ _ hl2), fun p3 hp3 => ?_⟩
      refine ⟨(topsOf (rowsAt ss n k)).1.drop (roomsFrom lad k + 1).toNat, SqL.of ?_, ?_⟩
      · rw [upd_same, cutV_drop _ _ (by omega)]
        exact congrArg (fun l => some (HO.lst l)) List.map_drop.symm
      · refine ⟨_, _, rfl, b1, Nat.lt_of_lt_of_le b2 (Nat.pow_le_pow_right (by decide) (by omega)), fun p4 hp4 => ?_⟩
        exact q _ _ (((s02.tr s3).new hp3).new hp4) upd_same
/-! ### begun_within, tight -/
def fsOf (l : List Stay) (t : Stay) : List Int := (l.filter fun s => decide (t.first ≤ s.first) && decide (s.first < t.behind)).map (·.first)
theorem fsOf_snoc (l : List Stay) (s t : Stay) : fsOf (l ++ [s]) t = fsOf l t ++ (if (decide (t.first ≤ s.first) && decide (s.first < t.behind)) = true then [s.first] else []) := by
  unfold fsOf
  rw [List.filter_append, List.map_append, List.filter_cons]
  split <;> rfl
theorem fsOf_len (l : List Stay) (t : Stay) : (fsOf l t).length ≤ l.length := by
  unfold fsOf
  rw [List.length_map]
  exact List.length_filter_le ..
/-- lists in strict order with the same members are the same -/
theorem strict_eq : ∀ {l m : List Int}, l.Pairwise (· < ·) → m.Pairwise (· < ·) → (∀ x, x ∈ l ↔ x ∈ m) → l = m
  | [], [], _, _, _ => rfl
  | [], b :: m, _, _, h => absurd ((h b).mpr List.mem_cons_self) (by simp)
  | a :: l, [], _, _, h => absurd ((h a).mp List.mem_cons_self) (by simp)
  | a :: l, b :: m, h1, h2, h => by
    obtain ⟨a1, a2⟩ := List.pairwise_cons.mp h1
    obtain ⟨b1, b2⟩ := List.pairwise_cons.mp h2
    have e : a = b := by
      rcases List.mem_cons.mp ((h a).mp List.mem_cons_self) with e | e
      · exact e
      · rcases List.mem_cons.mp ((h b).mpr List.mem_cons_self) with e' | e'
        · exact e'.symm
        · have := b1 a e
          have := a1 b e'
          omega
    subst e
    refine congrArg (a :: ·) (strict_eq a2 b2 fun x => ?_)
    constructor
    · intro hx
      rcases List.mem_cons.mp ((h x).mp (List.mem_cons_of_mem _ hx)) with e | e
      · have := a1 x hx
        omega
      · exact e
    · intro hx
      rcases List.mem_cons.mp ((h x).mpr (List.mem_cons_of_mem _ hx)) with e | e
      · have := b1 x hx
        omega
      · exact e
theorem begun_sorted (l : List Stay) (t : Stay) : (begun l t).Pairwise (· < ·) := by
  unfold begun
  refine List.Pairwise.filter _ (List.Pairwise.map _ (fun a b h => ?_) List.pairwise_lt_range)
  show (a : Int) < (b : Int)
  omega
theorem begun_fs {l : List Stay} {t : Stay} (h1 : ∀ s ∈ l, 0 ≤ s.first ∧ s.first < 400) (h2 : 0 ≤ t.first) (h3 : t.first < 400) (x : Int) : x ∈ begun l t ↔ x ∈ fsOf l t ++ [t.first] := by
  rw [begun_mem, List.mem_append, List.mem_singleton]
  unfold fsOf
  rw [List.mem_map]
  constructor
  · rintro ⟨_, e | ⟨s, hs, e, q1, q2⟩⟩
    · exact .inr e
    · exact .inl ⟨s, List.mem_filter.mpr ⟨hs, by simp [e, q1, q2]⟩, e⟩
  · rintro (⟨s, hs, e⟩ | e)
    · obtain ⟨m, d⟩ := List.mem_filter.mp hs
      simp at d
      have := h1 s m
      exact ⟨by omega, .inr ⟨s, m, e, by omega, by omega⟩⟩
    · exact ⟨by omega, .inl e⟩
def sp_begun_within (K : PySem.W.Frag) : Sp := fun vs H Q _ => ∃ (a b : Addr) (xs : List V) (ss : List Stay) (t : Stay), vs = [.ref a, .ref b] ∧ SqL K H a xs ∧ StaysAt K H xs ss ∧ StayAt K H (.ref b) t ∧ (∀ s ∈ ss, 0 ≤ s.first ∧ s.first < 400) ∧ 0 ≤ t.first ∧ t.first < 400 ∧ ss.length ≤ 50 ∧
  ∀ H' p, Same H H' → H' p = some (.lst (IL (begun ss t))) → Q (.ref p) H'
theorem sc_begun_within : FnScope ["stays", "new", "firsts", "one"] ["stays", "new"] (defScope s_begun_within) := ⟨rfl, rfl, rfl, by decide +kernel, rfl, by decide +kernel, by decide +kernel⟩
theorem g_begun_within (T : Txt K mg) : GF P w K mg base false 2 "begun_within" [] (sp_begun_within K) := by
  obtain ⟨fd, F⟩ := T.f_begun_within
  refine ⟨_, fd, ["stays", "new"], [], T.g_begun_within, F.kp, F.bindsN (fun _ _ _ _ _ _ us hl => match us, hl with | [_, _], _ => rfl), .nil, okU F sc_begun_within (fun vs H Q E h => ?_) (fun cdv A outer s H vs Q E pl hr hh hw h => ⟨_, PSs.nox (pss_cons (ps_setLcU (i := 2) hw sc_begun_within.nd rfl rfl (sw_true rfl rfl rfl rfl) (piu_list (pv 0)) (blkOk_by (own := [("one", 3)]) (by kernel_rfl)) (fun _ _ _ _ _ => (pg_name (i := 3) sc_begun_within.nd rfl (by first | exact Or.inl rfl | exact Or.inr rfl))) (fun _ _ _ _ _ => (pts_one (pt_val (pe_cu (g_holds T) (hr.mono (by decide)) hw (fun z => Bool.noConfusion z) rfl (pa_cons (pv 1) (pa_cons (pe_ix (ix_tupK K) (pv 3) pe_int (fun _ _ => rfl)) pa_nil)))))) (fun _ _ _ _ _ => (pe_ix (ix_tupK K) (pv 3) pe_int (fun _ _ => rfl))))
      (pss_one (ps_ret (pe_callB (cu_sorted hw) rfl T.n_sorted boot_sorted (pa_cons (pe_callTy (cu_set hw) rfl T.n_set boot_set (pa_cons (pe_op op_cat (pv 2) (pe_lst (pa_cons (pe_ix (ix_tupK K) (pv 1) pe_int (fun _ _ => rfl)) pa_nil))) pa_nil)) pa_nil))))), ?_⟩)⟩
  · obtain ⟨a, b, xs, ss, t, rfl, _⟩ := h
    rfl
  · obtain ⟨a, b, xs, ss, t, rfl, h1, h2, h3, h4, h5, h6, h7, q⟩ := h
    obtain ⟨b', c, eb, t1, t2⟩ := id h3
    cases eb
    have hl := Paired.length h2
    obtain ⟨ac, ha⟩ : ∃ f : Nat → List V, ∀ i, f i = IL (fsOf (ss.take i) t) := ⟨_, fun _ => rfl⟩
    simp only [a_tVar, a_tC, a_tOp, a_tUn, a_rI, a_rI0, a_rU, a_rEq, a_rNe, a_tTest, a_tB, a_tIsN, a_tNotN, a_tChain, a_tAnd, a_tOr, a_tNot, a_tAndV, a_tOrV, a_tNotV, a_tYes, a_tNext, a_tSeq, a_tCont, a_tBreak, a_tDrop, a_tRet, a_tIfS, a_tNever, a_gName, a_gNil, a_gCons, a_gTup, a_tAsg, a_tNil, a_tCons, a_tTup, a_tLst, a_tCB, a_tCU, a_tMU, a_tFld, a_sFld, a_tSl, a_tNoPart, a_tPart, a_rSlL, a_rSlT, a_rIxL, a_rIxT, a_rCat, a_rRep, a_rCatT, a_tDGet, a_tDIn, a_tDNotIn, a_sDPut, a_tDPop1, a_tDNewK, a_tBM, a_rAppend, a_rExtend, a_iList, a_iEnum, a_iRng1, a_iRng2, a_iVals, a_iItems, a_iRng3, a_iStr, a_tMX, a_tXf, a_wAs, a_tRaise, a_tVeI, a_tOst, a_tMkO, a_tMake, a_rSum, a_rIsi, a_tChain3, a_tAugS, a_rGetL, a_rPutL, a_ipI, a_rSet, a_tCKw, a_rMinD, a_rMin, a_rIxS, a_rSlS, a_iTup, a_rIn, a_rEqD, a_rNeD, upd_same, HO.lst.injEq, HO.tup.injEq, HO.dK.injEq, HO.frz.injEq, a_s0, a_s1, a_s2, a_s3, a_s4, a_s5, a_s6, a_s8, a_scal, a_scals, a_tFor, a_tLc, a_tWhile, a_wipe0, a_wipe1, k_cxU, w_cxU, k_blk, w_blk, and_assoc, exists_and_left, exists_eq_left, exists_eq_left', exists_eq_right, exists_eq, exists_const, List.getElem?_cons_zero, List.getElem?_cons_succ, List.set_cons_zero, List.set_cons_succ, Option.some.injEq, V.int.injEq, V.bl.injEq, V.ref.injEq, V.str.injEq, List.cons.injEq, and_true, true_and, List.cons_append, List.nil_append, List.append_nil, L2.start, List.map_cons, List.map_nil, List.length_cons, List.length_nil, List.replicate, Nat.sub_self, Nat.reduceSub, Nat.reduceAdd, Nat.zero_add, if_true, if_false, Bool.false_eq_true, Bool.true_eq_false, reduceIte, decide_eq_true_eq, Bool.not_eq_true', decide_eq_false_iff_not]
    refine ⟨⟨_, h1⟩, fun D hD => lc_go walk_list hD ac (ha 0) (fun _ s => Same.seq s h1) ?_ ?_⟩
    · rintro i y H' H'' hi s hD' ⟨rfl, hy⟩
      obtain ⟨u, hu, a1, c1, rfl, u1, u2⟩ := paired_get h2 hy
      have g0 : ∀ r : List V, atI (.int u.first :: r) 0 = some (V.int u.first) := fun r => atI_n 0 rfl rfl
      have e := fsOf_snoc (ss.take i) u t
      rw [← take_snoc hu] at e
      simp only [a_tVar, a_tC, a_tOp, a_tUn, a_rI, a_rI0, a_rU, a_rEq, a_rNe, a_tTest, a_tB, a_tIsN, a_tNotN, a_tChain, a_tAnd, a_tOr, a_tNot, a_tAndV, a_tOrV, a_tNotV, a_tYes, a_tNext, a_tSeq, a_tCont, a_tBreak, a_tDrop, a_tRet, a_tIfS, a_tNever, a_gName, a_gNil, a_gCons, a_gTup, a_tAsg, a_tNil, a_tCons, a_tTup, a_tLst, a_tCB, a_tCU, a_tMU, a_tFld, a_sFld, a_tSl, a_tNoPart, a_tPart, a_rSlL, a_rSlT, a_rIxL, a_rIxT, a_rCat, a_rRep, a_rCatT, a_tDGet, a_tDIn, a_tDNotIn, a_sDPut, a_tDPop1, a_tDNewK, a_tBM, a_rAppend, a_rExtend, a_iList, a_iEnum, a_iRng1, a_iRng2, a_iVals, a_iItems, a_iRng3, a_iStr, a_tMX, a_tXf, a_wAs, a_tRaise, a_tVeI, a_tOst, a_tMkO, a_tMake, a_rSum, a_rIsi, a_tChain3, a_tAugS, a_rGetL, a_rPutL, a_ipI, a_rSet, a_tCKw, a_rMinD, a_rMin, a_rIxS, a_rSlS, a_iTup, a_rIn, a_rEqD, a_rNeD, upd_same, HO.lst.injEq, HO.tup.injEq, HO.dK.injEq, HO.frz.injEq, a_s0, a_s1, a_s2, a_s3, a_s4, a_s5, a_s6, a_s8, a_scal, a_scals, a_tFor, a_tLc, a_tWhile, a_wipe0, a_wipe1, k_cxU, w_cxU, k_blk, w_blk, and_assoc, exists_and_left, exists_eq_left, exists_eq_left', exists_eq_right, exists_eq, exists_const, List.getElem?_cons_zero, List.getElem?_cons_succ, List.set_cons_zero, List.set_cons_succ, Option.some.injEq, V.int.injEq, V.bl.injEq, V.ref.injEq, V.str.injEq, List.cons.injEq, and_true, true_and, List.cons_append, List.nil_append, List.append_nil, L2.start, List.map_cons, List.map_nil, List.length_cons, List.length_nil, List.replicate, Nat.sub_self, Nat.reduceSub, Nat.reduceAdd, Nat.zero_add, if_true, if_false, Bool.false_eq_true, Bool.true_eq_false, reduceIte, decide_eq_true_eq, Bool.not_eq_true', decide_eq_false_iff_not]
      refine ⟨_, (u1.same s).sq, _, g0 _, b, t.first, t.behind, u.first, _, rfl, (t1.same s).sq, _, rfl, ?_⟩
      by_cases d : (decide (t.first ≤ u.first) && decide (u.first < t.behind)) = true
      · rw [if_pos d]
        rw [if_pos d] at e
        refine ⟨_, (u1.same s).sq, _, g0 _, leaf hD hD' s (szl _ ?_) ?_⟩
        · rw [ha, List.length_map]
          have := fsOf_len (ss.take i) t
          rw [List.length_take] at this
          omega
        · rw [ha, ha, e]
          exact List.map_append
      · rw [if_neg d]
        rw [if_neg d, List.append_nil] at e
        exact leafN hD' s (by rw [ha, ha, e])
    · intro H' s hD'
      rw [ha, hl, List.take_length] at hD'
      refine ⟨_, (t1.same s).sq, _, atI_n 0 rfl rfl, fun p hp => ⟨_, get_new hD' hp, ?_, fun p1 hp1 => ⟨fsOf ss t ++ [t.first], ?_, ?_, fun p2 k hp2 hk => ?_⟩⟩⟩
      · rw [List.length_map]
        have := fsOf_len ss t
        exact sz _ (by omega)
      · rw [show (fsOf ss t ++ [t.first]).map V.int = IL (fsOf ss t) ++ [V.int t.first] from List.map_append]
        exact SqL.of upd_same
      · have := fsOf_len ss t
        rw [List.length_append, List.length_singleton]
        omega
      · refine ⟨p2, _, _, rfl, upd_same, ?_, fun ns p3 o1 o2 o3 o4 => ?_⟩
        · have := fsOf_len ss t
          rw [List.length_append, List.length_singleton] at hk
          omega
        · have e : ns = begun ss t := strict_eq o1 (begun_sorted ss t) fun x => by rw [o2, begun_fs h4 h5 h6, decide_eq_true_eq]
          exact q _ _ ((((s.new hp).new hp1).new hp2).new o4) (by rw [upd_same, e])
/-- what a paper is -/
def PaperAt (K : PySem.W.Frag) (H : Hp) (v : V) : Option (Int × Int × (Int × Int)) → Prop
  | none => v = .non
  | some p => ∃ a c : Addr, v = .ref a ∧ Tu K H a [.int p.1, .int p.2.1, .ref c] ∧ Tu K H c [.int p.2.2.1, .int p.2.2.2]
theorem find_at {α β : Type} {f : α → Option β} : ∀ {l : List α} {i : Nat} {y : α} {v : β}, (∀ x ∈ l.take i, f x = none) → l[i]? = some y → f y = some v → l.findSome? f = some v
  | a :: l, 0, y, v, _, e, h => by
    simp at e
    subst e
    rw [List.findSome?_cons, h]
  | a :: l, i + 1, y, v, p, e, h => by
    rw [List.findSome?_cons, p a (by simp)]
    exact find_at (i := i) (fun x hx => p x (by rw [List.take_succ_cons]; exact List.mem_cons_of_mem _ hx)) (by simpa using e) h
def sp_tight (K : PySem.W.Frag) : Sp := fun vs H Q _ => ∃ (a b l r : Addr) (xs : List V) (ss : List Stay) (t : Stay) (lad : List Int) (risk : Int × Int), vs = [.ref a, .ref b, .ref l, .ref r] ∧ SqL K H a xs ∧ StaysAt K H xs ss ∧ StayAt K H (.ref b) t ∧
  (∀ s ∈ ss, StayOk s) ∧ StayOk t ∧ ss.length ≤ 50 ∧ SqL K H l (IL lad) ∧ (∀ x ∈ lad, 0 ≤ x) ∧ Tu K H r [.int risk.1, .int risk.2] ∧ 0 ≤ risk.1 ∧ risk.1 ≤ risk.2 ∧ risk.2 ≤ 1000000000 ∧ 1 ≤ t.kind ∧ t.kind ≤ 100 ∧
  ∀ H' v, Same H H' → PaperAt K H' v (tight ss t lad risk) → Q v H'
theorem sc_tight : FnScope ["stays", "new", "ladder", "risk", "every", "night", "kind", "chance"] ["stays", "new", "ladder", "risk"] (defScope s_tight) := ⟨rfl, rfl, rfl, by decide +kernel, rfl, by decide +kernel, by decide +kernel⟩
theorem g_tight (T : Txt K mg) : GF P w K mg base false 4 "tight" [] (sp_tight K) := by
  obtain ⟨fd, F⟩ := T.f_tight
  refine ⟨_, fd, ["stays", "new", "ladder", "risk"], [], T.g_tight, F.kp, F.bindsN (fun _ _ _ _ _ _ us hl => match us, hl with | [_, _, _, _], _ => rfl), .nil, okU F sc_tight (fun vs H Q E h => ?_) (fun cdv A outer s H vs Q E pl hr hh hw h => ⟨_, PSs.nox (pss_cons (ps_set (i := 4) sc_tight.nd rfl (by first | exact Or.inl rfl | exact Or.inr rfl) (pe_op op_cat (pe_callTy call_list_of rfl T.n_list boot_list (pa_cons (pv 0) pa_nil)) (pe_lst (pa_cons (pv 1) pa_nil))))
      (pss_cons (psu_for PassesOwn.never hw (piu_list (pe_cu (g_begun_within T) (hr.mono (by decide)) hw (fun z => Bool.noConfusion z) rfl (pa_cons (pv 0) (pa_cons (pv 1) pa_nil)))) (pg_name (i := 5) sc_tight.nd rfl (by first | exact Or.inl rfl | exact Or.inr rfl)) (pss_one (psu_for PassesOwn.never hw (piu_range2 rfl T.n_range (pa_cons pe_int (pa_cons (pe_op op_add (pe_ix (ix_tupK K) (pv 1) pe_int (fun _ _ => rfl)) pe_int) pa_nil))) (pg_name (i := 6) sc_tight.nd rfl (by first | exact Or.inl rfl | exact Or.inr rfl)) (pss_cons (ps_set (i := 7) sc_tight.nd rfl (by first | exact Or.inl rfl | exact Or.inr rfl) (pe_cu (g_chance_at T) (hr.mono (by decide)) hw (fun z => Bool.noConfusion z) rfl (pa_cons (pv 4) (pa_cons (pv 5) (pa_cons (pv 6) (pa_cons (pv 2) pa_nil))))))
      (pss_one (ps_if (pt_val (pe_cu (g_under T) (hr.mono (by decide)) hw (fun z => Bool.noConfusion z) rfl (pa_cons (pv 3) (pa_cons (pv 7) pa_nil)))) (pss_one (ps_ret (pe_tup (pa_cons (pv 5) (pa_cons (pv 6) (pa_cons (pv 7) pa_nil)))))) pss_nil))))))
      (pss_one (ps_ret pe_non)))), ?_⟩)⟩
  · obtain ⟨a, b, l, r, xs, ss, t, lad, risk, rfl, _⟩ := h
    rfl
  · obtain ⟨a, b, l, r, xs, ss, t, lad, risk, rfl, h1, h2, h3, h4, h5, h6, h7, h8, h9, k0, k1, k2, k3, k4, q⟩ := h
    obtain ⟨b', c, eb, t1, t2⟩ := id h3
    cases eb
    have hl := Paired.length h2
    simp only [a_tVar, a_tC, a_tOp, a_tUn, a_rI, a_rI0, a_rU, a_rEq, a_rNe, a_tTest, a_tB, a_tIsN, a_tNotN, a_tChain, a_tAnd, a_tOr, a_tNot, a_tAndV, a_tOrV, a_tNotV, a_tYes, a_tNext, a_tSeq, a_tCont, a_tBreak, a_tDrop, a_tRet, a_tIfS, a_tNever, a_gName, a_gNil, a_gCons, a_gTup, a_tAsg, a_tNil, a_tCons, a_tTup, a_tLst, a_tCB, a_tCU, a_tMU, a_tFld, a_sFld, a_tSl, a_tNoPart, a_tPart, a_rSlL, a_rSlT, a_rIxL, a_rIxT, a_rCat, a_rRep, a_rCatT, a_tDGet, a_tDIn, a_tDNotIn, a_sDPut, a_tDPop1, a_tDNewK, a_tBM, a_rAppend, a_rExtend, a_iList, a_iEnum, a_iRng1, a_iRng2, a_iVals, a_iItems, a_iRng3, a_iStr, a_tMX, a_tXf, a_wAs, a_tRaise, a_tVeI, a_tOst, a_tMkO, a_tMake, a_rSum, a_rIsi, a_tChain3, a_tAugS, a_rGetL, a_rPutL, a_ipI, a_rSet, a_tCKw, a_rMinD, a_rMin, a_rIxS, a_rSlS, a_iTup, a_rIn, a_rEqD, a_rNeD, upd_same, HO.lst.injEq, HO.tup.injEq, HO.dK.injEq, HO.frz.injEq, a_s0, a_s1, a_s2, a_s3, a_s4, a_s5, a_s6, a_s8, a_scal, a_scals, a_tFor, a_tLc, a_tWhile, a_wipe0, a_wipe1, k_cxU, w_cxU, k_blk, w_blk, and_assoc, exists_and_left, exists_eq_left, exists_eq_left', exists_eq_right, exists_eq, exists_const, List.getElem?_cons_zero, List.getElem?_cons_succ, List.set_cons_zero, List.set_cons_succ, Option.some.injEq, V.int.injEq, V.bl.injEq, V.ref.injEq, V.str.injEq, List.cons.injEq, and_true, true_and, List.cons_append, List.nil_append, List.append_nil, L2.start, List.map_cons, List.map_nil, List.length_cons, List.length_nil, List.replicate, Nat.sub_self, Nat.reduceSub, Nat.reduceAdd, Nat.zero_add, if_true, if_false, Bool.false_eq_true, Bool.true_eq_false, reduceIte, decide_eq_true_eq, Bool.not_eq_true', decide_eq_false_iff_not]
    refine ⟨_, .inl h1, fun p hp p1 hp1 => ⟨_, get_new upd_same hp1, sz _ (by omega), fun p2 hp2 => ?_⟩⟩
    have s2 : Same H (upd (upd (upd H p (.lst xs)) p1 (.lst [.ref b])) p2 (.lst (xs ++ [.ref b]))) := ((Same.rfl'.new hp).new hp1).new hp2
    refine ⟨a, b, xs, ss, t, rfl, Same.seq s2 h1, h2.same s2, h3.same s2, fun s hs => ⟨(h4 s hs).f0, (h4 s hs).f1⟩, h5.f0, h5.f1, h6, fun H3 p3 s3 hp3 => ?_⟩
    have g2 := s3 _ _ (upd_same (H := upd (upd H p (.lst xs)) p1 (.lst [.ref b])) (a := p2) (o := .lst (xs ++ [.ref b])))
    have s3 := s2.tr s3
    refine ⟨p3, rfl, ⟨_, SqL.of hp3⟩, ?_⟩
    refine for_go (walk_list (xs := IL (begun ss t))) (fun i σ H' => Same H3 H' ∧ (∀ x ∈ (begun ss t).take i, tightAt (ss ++ [t]) lad risk x (kindsTo t.kind) = none) ∧ ∃ u1 u2 u3, σ = [some (.ref a), some (.ref b), some (.ref l), some (.ref r), some (.ref p2), u1, u2, u3]) ⟨Same.rfl', by simp, _, _, _, rfl⟩ (fun i σ H' _ h => SqL.of (h.1 _ _ hp3)) ?_ ?_
    · rintro i y σ H4 H5 hi ⟨s4, no, u1, u2, u3, rfl⟩ ⟨rfl, hy⟩
      obtain ⟨n, hn, rfl⟩ := il_get hy
      have s34 := s3.tr s4
      simp only [a_tVar, a_tC, a_tOp, a_tUn, a_rI, a_rI0, a_rU, a_rEq, a_rNe, a_tTest, a_tB, a_tIsN, a_tNotN, a_tChain, a_tAnd, a_tOr, a_tNot, a_tAndV, a_tOrV, a_tNotV, a_tYes, a_tNext, a_tSeq, a_tCont, a_tBreak, a_tDrop, a_tRet, a_tIfS, a_tNever, a_gName, a_gNil, a_gCons, a_gTup, a_tAsg, a_tNil, a_tCons, a_tTup, a_tLst, a_tCB, a_tCU, a_tMU, a_tFld, a_sFld, a_tSl, a_tNoPart, a_tPart, a_rSlL, a_rSlT, a_rIxL, a_rIxT, a_rCat, a_rRep, a_rCatT, a_tDGet, a_tDIn, a_tDNotIn, a_sDPut, a_tDPop1, a_tDNewK, a_tBM, a_rAppend, a_rExtend, a_iList, a_iEnum, a_iRng1, a_iRng2, a_iVals, a_iItems, a_iRng3, a_iStr, a_tMX, a_tXf, a_wAs, a_tRaise, a_tVeI, a_tOst, a_tMkO, a_tMake, a_rSum, a_rIsi, a_tChain3, a_tAugS, a_rGetL, a_rPutL, a_ipI, a_rSet, a_tCKw, a_rMinD, a_rMin, a_rIxS, a_rSlS, a_iTup, a_rIn, a_rEqD, a_rNeD, upd_same, HO.lst.injEq, HO.tup.injEq, HO.dK.injEq, HO.frz.injEq, a_s0, a_s1, a_s2, a_s3, a_s4, a_s5, a_s6, a_s8, a_scal, a_scals, a_tFor, a_tLc, a_tWhile, a_wipe0, a_wipe1, k_cxU, w_cxU, k_blk, w_blk, and_assoc, exists_and_left, exists_eq_left, exists_eq_left', exists_eq_right, exists_eq, exists_const, List.getElem?_cons_zero, List.getElem?_cons_succ, List.set_cons_zero, List.set_cons_succ, Option.some.injEq, V.int.injEq, V.bl.injEq, V.ref.injEq, V.str.injEq, List.cons.injEq, and_true, true_and, List.cons_append, List.nil_append, List.append_nil, L2.start, List.map_cons, List.map_nil, List.length_cons, List.length_nil, List.replicate, Nat.sub_self, Nat.reduceSub, Nat.reduceAdd, Nat.zero_add, if_true, if_false, Bool.false_eq_true, Bool.true_eq_false, reduceIte, decide_eq_true_eq, Bool.not_eq_true', decide_eq_false_iff_not]
      refine ⟨_, (t1.same s34).sq, _, atI_n 2 rfl rfl, _, rfl, by omega, by omega, by omega, by omega, ?_⟩
      refine for_go walk_range (fun j σ H' => Same H5 H' ∧ (∀ x ∈ (kindsTo t.kind).take j, (if underB risk (chanceAt (ss ++ [t]) n x lad) = true then some (n, x, chanceAt (ss ++ [t]) n x lad) else none) = none) ∧ ∃ u2 u3, σ = [some (.ref a), some (.ref b), some (.ref l), some (.ref r), some (.ref p2), some (.int n), u2, u3]) ⟨Same.rfl', by simp, _, _, rfl⟩ (fun _ _ _ _ _ => trivial) ?_ ?_
      · rintro j y2 σ H6 H7 hj ⟨s6, no6, v2, v3, rfl⟩ ⟨rfl, rfl⟩
        have s36 := s34.tr s6
        have hj' : (kindsTo t.kind)[j]? = some (1 + (j : Int)) := by
          unfold kindsTo
          rw [List.getElem?_map, List.getElem?_range (by omega)]
          exact congrArg some (Int.add_comm _ _)
        have hb : n ∈ begun ss t := List.mem_of_getElem? hn
        simp only [a_tVar, a_tC, a_tOp, a_tUn, a_rI, a_rI0, a_rU, a_rEq, a_rNe, a_tTest, a_tB, a_tIsN, a_tNotN, a_tChain, a_tAnd, a_tOr, a_tNot, a_tAndV, a_tOrV, a_tNotV, a_tYes, a_tNext, a_tSeq, a_tCont, a_tBreak, a_tDrop, a_tRet, a_tIfS, a_tNever, a_gName, a_gNil, a_gCons, a_gTup, a_tAsg, a_tNil, a_tCons, a_tTup, a_tLst, a_tCB, a_tCU, a_tMU, a_tFld, a_sFld, a_tSl, a_tNoPart, a_tPart, a_rSlL, a_rSlT, a_rIxL, a_rIxT, a_rCat, a_rRep, a_rCatT, a_tDGet, a_tDIn, a_tDNotIn, a_sDPut, a_tDPop1, a_tDNewK, a_tBM, a_rAppend, a_rExtend, a_iList, a_iEnum, a_iRng1, a_iRng2, a_iVals, a_iItems, a_iRng3, a_iStr, a_tMX, a_tXf, a_wAs, a_tRaise, a_tVeI, a_tOst, a_tMkO, a_tMake, a_rSum, a_rIsi, a_tChain3, a_tAugS, a_rGetL, a_rPutL, a_ipI, a_rSet, a_tCKw, a_rMinD, a_rMin, a_rIxS, a_rSlS, a_iTup, a_rIn, a_rEqD, a_rNeD, upd_same, HO.lst.injEq, HO.tup.injEq, HO.dK.injEq, HO.frz.injEq, a_s0, a_s1, a_s2, a_s3, a_s4, a_s5, a_s6, a_s8, a_scal, a_scals, a_tFor, a_tLc, a_tWhile, a_wipe0, a_wipe1, k_cxU, w_cxU, k_blk, w_blk, and_assoc, exists_and_left, exists_eq_left, exists_eq_left', exists_eq_right, exists_eq, exists_const, List.getElem?_cons_zero, List.getElem?_cons_succ, List.set_cons_zero, List.set_cons_succ, Option.some.injEq, V.int.injEq, V.bl.injEq, V.ref.injEq, V.str.injEq, List.cons.injEq, and_true, true_and, List.cons_append, List.nil_append, List.append_nil, L2.start, List.map_cons, List.map_nil, List.length_cons, List.length_nil, List.replicate, Nat.sub_self, Nat.reduceSub, Nat.reduceAdd, Nat.zero_add, if_true, if_false, Bool.false_eq_true, Bool.true_eq_false, reduceIte, decide_eq_true_eq, Bool.not_eq_true', decide_eq_false_iff_not]
        refine ⟨p2, l, xs ++ [.ref b], ss ++ [t], n, 1 + j, lad, rfl, SqL.of (s6 _ _ (s4 _ _ g2)), paired_snoc (h2.same s36) (h3.same s36), fun s hs => ?_, by simp; omega, Same.seq s36 h7, h8, by omega, fun H8 p8 s8 hp8 => ?_⟩
        · rcases List.mem_append.mp hs with z | z
          · exact (h4 s z).ch
          · rw [List.mem_singleton.mp z]
            exact h5.ch
        · refine ⟨r, p8, risk, chanceAt (ss ++ [t]) n (1 + j) lad, rfl, ((h9.same s36).same s8).sq, SqT.of hp8, .inl (by omega), .inr (by omega), _, rfl, ?_⟩
          by_cases u : underB risk (chanceAt (ss ++ [t]) n (1 + j) lad) = true
          · rw [if_pos u]
            intro p9 hp9
            refine q _ _ ((s36.tr s8).new hp9) ?_
            have e1 : tightAt (ss ++ [t]) lad risk n (kindsTo t.kind) = some (n, 1 + (j : Int), chanceAt (ss ++ [t]) n (1 + j) lad) := find_at no6 hj' (if_pos u)
            have e2 : tight ss t lad risk = some (n, 1 + (j : Int), chanceAt (ss ++ [t]) n (1 + j) lad) := find_at no hn e1
            rw [e2]
            exact ⟨p9, p8, rfl, .inl upd_same, .inl (get_new hp8 hp9)⟩
          · rw [if_neg u]
            refine ⟨s6.tr s8, fun x hx => ?_, _, rfl⟩
            rw [take_snoc hj'] at hx
            rcases List.mem_append.mp hx with z | z
            · exact no6 x z
            · rw [List.mem_singleton.mp z, if_neg u]
      · rintro σ H6 ⟨s6, no6, v2, v3, rfl⟩
        refine ⟨s4.tr s6, fun x hx => ?_, _, _, _, rfl⟩
        rw [take_snoc hn] at hx
        rcases List.mem_append.mp hx with z | z
        · exact no x z
        · rw [List.mem_singleton.mp z]
          have ek : (kindsTo t.kind).take (t.kind + 1 - 1).toNat = kindsTo t.kind := List.take_of_length_le (by simp [kindsTo])
          rw [ek] at no6
          exact List.findSome?_eq_none_iff.mpr no6
    · rintro σ H4 ⟨s4, no, u1, u2, u3, rfl⟩
      simp only [a_tVar, a_tC, a_tOp, a_tUn, a_rI, a_rI0, a_rU, a_rEq, a_rNe, a_tTest, a_tB, a_tIsN, a_tNotN, a_tChain, a_tAnd, a_tOr, a_tNot, a_tAndV, a_tOrV, a_tNotV, a_tYes, a_tNext, a_tSeq, a_tCont, a_tBreak, a_tDrop, a_tRet, a_tIfS, a_tNever, a_gName, a_gNil, a_gCons, a_gTup, a_tAsg, a_tNil, a_tCons, a_tTup, a_tLst, a_tCB, a_tCU, a_tMU, a_tFld, a_sFld, a_tSl, a_tNoPart, a_tPart, a_rSlL, a_rSlT, a_rIxL, a_rIxT, a_rCat, a_rRep, a_rCatT, a_tDGet, a_tDIn, a_tDNotIn, a_sDPut, a_tDPop1, a_tDNewK, a_tBM, a_rAppend, a_rExtend, a_iList, a_iEnum, a_iRng1, a_iRng2, a_iVals, a_iItems, a_iRng3, a_iStr, a_tMX, a_tXf, a_wAs, a_tRaise, a_tVeI, a_tOst, a_tMkO, a_tMake, a_rSum, a_rIsi, a_tChain3, a_tAugS, a_rGetL, a_rPutL, a_ipI, a_rSet, a_tCKw, a_rMinD, a_rMin, a_rIxS, a_rSlS, a_iTup, a_rIn, a_rEqD, a_rNeD, upd_same, HO.lst.injEq, HO.tup.injEq, HO.dK.injEq, HO.frz.injEq, a_s0, a_s1, a_s2, a_s3, a_s4, a_s5, a_s6, a_s8, a_scal, a_scals, a_tFor, a_tLc, a_tWhile, a_wipe0, a_wipe1, k_cxU, w_cxU, k_blk, w_blk, and_assoc, exists_and_left, exists_eq_left, exists_eq_left', exists_eq_right, exists_eq, exists_const, List.getElem?_cons_zero, List.getElem?_cons_succ, List.set_cons_zero, List.set_cons_succ, Option.some.injEq, V.int.injEq, V.bl.injEq, V.ref.injEq, V.str.injEq, List.cons.injEq, and_true, true_and, List.cons_append, List.nil_append, List.append_nil, L2.start, List.map_cons, List.map_nil, List.length_cons, List.length_nil, List.replicate, Nat.sub_self, Nat.reduceSub, Nat.reduceAdd, Nat.zero_add, if_true, if_false, Bool.false_eq_true, Bool.true_eq_false, reduceIte, decide_eq_true_eq, Bool.not_eq_true', decide_eq_false_iff_not]
      refine q _ _ (s3.tr s4) ?_
      have eb : (begun ss t).take (IL (begun ss t)).length = begun ss t := List.take_of_length_le (by simp)
      rw [eb] at no
      have e2 : tight ss t lad risk = none := List.findSome?_eq_none_iff.mpr no
      rw [e2]
      exact rfl
end
end Nb
end
section
set_option Elab.async false
set_option linter.all false
set_option maxRecDepth 100000
set_option maxHeartbeats 4000000
namespace Nb
open PySem PySem.Spec PyProof.Rows L2 NbU NbM
/-! ### dicts of names -/
section
variable {β : Type} {F : V → β → Prop}
def KvAt (F : V → β → Prop) (kvs : List (Key × V)) (es : List (Str × β)) : Prop := Paired (fun (kv : Key × V) (p : Str × β) => kv.1 = Sum.inr p.1 ∧ F kv.2 p.2) kvs es
theorem KvAt.imp {F' : V → β → Prop} {kvs : List (Key × V)} {es : List (Str × β)} (h : KvAt F kvs es) (f : ∀ v e, F v e → F' v e) : KvAt F' kvs es := Paired.mapP h fun a b q => ⟨q.1, f _ _ q.2⟩
theorem KvAt.keys {kvs : List (Key × V)} {es : List (Str × β)} (h : KvAt F kvs es) : kvs.map (fun kv => kV kv.1) = es.map fun p => V.str p.1 := by
  induction h with
  | nil => rfl
  | cons r _ ih => rw [List.map_cons, List.map_cons, ih, r.1]; rfl
theorem key_dec (a b : Str) : decide ((Sum.inr a : Key) = Sum.inr b) = decide (a = b) := key_rr a b
theorem KvAt.get {kvs : List (Key × V)} {es : List (Str × β)} (h : KvAt F kvs es) (n : Str) : (∃ v e, valV kvs (Sum.inr n) = some v ∧ getE es n = some e ∧ F v e) ∨ (valV kvs (Sum.inr n) = none ∧ getE es n = none) := by
  induction h with
  | nil => exact .inr ⟨rfl, rfl⟩
  | @cons a b l m r _ ih =>
    by_cases c : b.1 = n
    · refine .inl ⟨a.2, b.2, valV_pos (by rw [r.1, c]), ?_, r.2⟩
      unfold getE
      rw [List.find?_cons, decide_eq_true c]
      rfl
    · have c' : ¬ a.1 = Sum.inr n := fun z => c (by rw [r.1] at z; exact Sum.inr.inj z)
      rw [valV_neg c']
      have e : getE (b :: m) n = getE m n := by
        unfold getE
        rw [List.find?_cons, decide_eq_false c]
      rw [e]
      exact ih
theorem KvAt.some {kvs : List (Key × V)} {es : List (Str × β)} (h : KvAt F kvs es) {n : Str} {e : β} (g : getE es n = some e) : ∃ v, valV kvs (Sum.inr n) = some v ∧ F v e := by
  rcases h.get n with ⟨v, e', h1, h2, h3⟩ | ⟨_, h2⟩
  · rw [g] at h2
    cases h2
    exact ⟨v, h1, h3⟩
  · rw [g] at h2; cases h2
theorem KvAt.map {kvs : List (Key × V)} {es : List (Str × β)} (h : KvAt F kvs es) {n : Str} {v : V} {e : β} (f : F v e) : KvAt F (kvs.map fun kv => if kv.1 = Sum.inr n then (kv.1, v) else kv) (es.map fun p => if p.1 = n then (p.1, e) else p) := by
  induction h with
  | nil => exact .nil
  | @cons a b l m r _ ih =>
    refine .cons ?_ ih
    by_cases c : b.1 = n
    · have c2 : a.1 = Sum.inr n := by rw [r.1, c]
      dsimp only
      rw [if_pos c, if_pos c2]
      exact ⟨r.1, f⟩
    · have c2 : ¬ a.1 = Sum.inr n := fun z => c (by rw [r.1] at z; exact Sum.inr.inj z)
      dsimp only
      rw [if_neg c, if_neg c2]
      exact r
theorem KvAt.any {kvs : List (Key × V)} {es : List (Str × β)} (h : KvAt F kvs es) (n : Str) : (kvs.any fun kv => decide (kv.1 = Sum.inr n)) = es.any fun p => decide (p.1 = n) := by
  induction h with
  | nil => rfl
  | @cons a b l m r _ ih =>
    rw [List.any_cons, List.any_cons, ih, r.1, key_dec]
theorem KvAt.put {kvs : List (Key × V)} {es : List (Str × β)} (h : KvAt F kvs es) {n : Str} {v : V} {e : β} (f : F v e) : KvAt F (putK kvs (Sum.inr n) v) (putE es n e) := by
  unfold putK putE
  rw [h.any n]
  split
  · exact h.map f
  · exact paired_snoc h ⟨rfl, f⟩
theorem KvAt.drop {kvs : List (Key × V)} {es : List (Str × β)} (h : KvAt F kvs es) (n : Str) : KvAt F (dropK kvs (Sum.inr n)) (dropE es n) := by
  unfold dropK dropE
  induction h with
  | nil => exact .nil
  | @cons a b l m r _ ih =>
    rw [List.filter_cons, List.filter_cons]
    by_cases c : b.1 = n
    · have c2 : a.1 = Sum.inr n := by rw [r.1, c]
      rw [if_neg (by simp [c2]), if_neg (by simp [c])]
      exact ih
    · have c2 : ¬ a.1 = Sum.inr n := fun z => c (by rw [r.1] at z; exact Sum.inr.inj z)
      rw [if_pos (by simp [c2]), if_pos (by simp [c])]
      exact .cons r ih
end
/-! ### entries -/
def wordS : Word → Str
  | .waits => "waits"
  | .taken => "taken"
  | .house => "house"
theorem wordS_w (w : Word) : decide (wordS w = "waits") = decide (w = .waits) := by cases w <;> decide
theorem wordS_t (w : Word) : decide (wordS w = "taken") = decide (w = .taken) := by cases w <;> decide
theorem wordS_h (w : Word) : decide (wordS w = "house") = decide (w = .house) := by cases w <;> decide
theorem wordS_w' (w : Word) : (wordS w = "waits") = (w = .waits) := by cases w <;> simp [wordS] <;> decide
theorem wordS_t' (w : Word) : (wordS w = "taken") = (w = .taken) := by cases w <;> simp [wordS] <;> decide
theorem wordS_h' (w : Word) : (wordS w = "house") = (w = .house) := by cases w <;> simp [wordS] <;> decide
section
variable {P : Program} {w : World} {K : PySem.W.Frag} {mg : Str → Option Value} {base : Heap}
def EntAt (K : PySem.W.Frag) (H : Hp) (v : V) (e : Ent) : Prop := ∃ a c : Addr, v = .ref a ∧ Tu K H a [.str (wordS e.word), .int e.kind, .int e.first, .int e.behind, .ref c] ∧ Tu K H c [.int e.ch.1, .int e.ch.2]
theorem EntAt.keep {H H' : Hp} {v : V} {e : Ent} (h : EntAt K H v e) (s : Tups H H') : EntAt K H' v e := let ⟨a, c, e, h1, h2⟩ := h; ⟨a, c, e, h1.keep s, h2.keep s⟩
abbrev EsAt (K : PySem.W.Frag) (H : Hp) (kvs : List (Key × V)) (es : List (Str × Ent)) : Prop := KvAt (EntAt K H) kvs es
theorem EsAt.keep {H H' : Hp} {kvs : List (Key × V)} {es : List (Str × Ent)} (h : EsAt K H kvs es) (s : Tups H H') : EsAt K H' kvs es := h.imp fun v e q => q.keep s
theorem StayAt.keep {H H' : Hp} {v : V} {t : Stay} (h : StayAt K H v t) (s : Tups H H') : StayAt K H' v t := let ⟨a, c, e, h1, h2⟩ := h; ⟨a, c, e, h1.keep s, h2.keep s⟩
theorem StaysAt.keep {H H' : Hp} {vs : List V} {ss : List Stay} (h : StaysAt K H vs ss) (s : Tups H H') : StaysAt K H' vs ss := Paired.mapP h fun v r q => q.keep s
theorem PaperAt.keep {H H' : Hp} {v : V} {p : Option (Int × Int × (Int × Int))} (h : PaperAt K H v p) (s : Tups H H') : PaperAt K H' v p := by
  cases p with
  | none => exact h
  | some p => exact let ⟨a, c, e, h1, h2⟩ := h; ⟨a, c, e, h1.keep s, h2.keep s⟩
theorem sure_tu (T : Txt K mg) (H : Hp) : Tu K H (He.ga K "SURE") [.int 1, .int 1] := by
  rcases T.sure (fun _ => none) with (z | ⟨o, z⟩) | z
  · exact absurd z (by simp)
  · exact absurd z (by simp)
  · exact .inr z
def sp_stay_of (K : PySem.W.Frag) : Sp := fun vs H Q _ => ∃ (a : Addr) (e : Ent), vs = [.ref a] ∧ EntAt K H (.ref a) e ∧ ∀ H' v, Same H H' → StayAt K H' v (stayOf e) → Q v H'
theorem sc_stay_of : FnScope ["entry", "word", "kind", "first", "behind", "chance"] ["entry"] (defScope s_stay_of) := ⟨rfl, rfl, rfl, by decide +kernel, rfl, by decide +kernel, by decide +kernel⟩
theorem g_stay_of (T : Txt K mg) : GF P w K mg base false 1 "stay_of" [] (sp_stay_of K) := by
  obtain ⟨fd, F⟩ := T.f_stay_of
  refine ⟨_, fd, ["entry"], [], T.g_stay_of, F.kp, F.bindsN (fun _ _ _ _ _ _ us hl => match us, hl with | [_], _ => rfl), .nil, okU F sc_stay_of (fun vs H Q E h => ?_) (fun cdv A outer s H vs Q E pl hr hh hw h => ⟨_, PSs.nox (pss_cons (ps_asg (pv 0) (pgu_tupK (n := 5) K hw (pgs_cons (pg_name (i := 1) sc_stay_of.nd rfl (by first | exact Or.inl rfl | exact Or.inr rfl)) (pgs_cons (pg_name (i := 2) sc_stay_of.nd rfl (by first | exact Or.inl rfl | exact Or.inr rfl)) (pgs_cons (pg_name (i := 3) sc_stay_of.nd rfl (by first | exact Or.inl rfl | exact Or.inr rfl)) (pgs_cons (pg_name (i := 4) sc_stay_of.nd rfl (by first | exact Or.inl rfl | exact Or.inr rfl)) (pgs_cons (pg_name (i := 5) sc_stay_of.nd rfl (by first | exact Or.inl rfl | exact Or.inr rfl)) pgs_nil)))))))
      (pss_cons (ps_if (pt_cmpR (op_eq) (pv 1) pe_str (nomark _)) (pss_one (ps_ret (pe_tup (pa_cons (pv 3) (pa_cons (pv 4) (pa_cons (pv 2) (pa_cons (pe_glob (v := .ref (He.ga K "SURE")) rfl T.g_SURE rfl) pa_nil))))))) pss_nil)
      (pss_one (ps_ret (pe_tup (pa_cons (pv 3) (pa_cons (pv 4) (pa_cons (pv 2) (pa_cons (pv 5) pa_nil))))))))), ?_⟩)⟩
  · obtain ⟨a, e, rfl, _⟩ := h
    rfl
  · obtain ⟨a, e, rfl, h1, q⟩ := h
    obtain ⟨b, c, eb, t1, t2⟩ := id h1
    cases eb
    simp only [a_tVar, a_tC, a_tOp, a_tUn, a_rI, a_rI0, a_rU, a_rEq, a_rNe, a_tTest, a_tB, a_tIsN, a_tNotN, a_tChain, a_tAnd, a_tOr, a_tNot, a_tAndV, a_tOrV, a_tNotV, a_tYes, a_tNext, a_tSeq, a_tCont, a_tBreak, a_tDrop, a_tRet, a_tIfS, a_tNever, a_gName, a_gNil, a_gCons, a_gTup, a_tAsg, a_tNil, a_tCons, a_tTup, a_tLst, a_tCB, a_tCU, a_tMU, a_tFld, a_sFld, a_tSl, a_tNoPart, a_tPart, a_rSlL, a_rSlT, a_rIxL, a_rIxT, a_rCat, a_rRep, a_rCatT, a_tDGet, a_tDIn, a_tDNotIn, a_sDPut, a_tDPop1, a_tDNewK, a_tBM, a_rAppend, a_rExtend, a_iList, a_iEnum, a_iRng1, a_iRng2, a_iVals, a_iItems, a_iRng3, a_iStr, a_tMX, a_tXf, a_wAs, a_tRaise, a_tVeI, a_tOst, a_tMkO, a_tMake, a_rSum, a_rIsi, a_tChain3, a_tAugS, a_rGetL, a_rPutL, a_ipI, a_rSet, a_tCKw, a_rMinD, a_rMin, a_rIxS, a_rSlS, a_iTup, a_rIn, a_rEqD, a_rNeD, upd_same, HO.lst.injEq, HO.tup.injEq, HO.dK.injEq, HO.frz.injEq, a_s0, a_s1, a_s2, a_s3, a_s4, a_s5, a_s6, a_s8, a_scal, a_scals, a_tFor, a_tLc, a_tWhile, a_wipe0, a_wipe1, k_cxU, w_cxU, k_blk, w_blk, and_assoc, exists_and_left, exists_eq_left, exists_eq_left', exists_eq_right, exists_eq, exists_const, List.getElem?_cons_zero, List.getElem?_cons_succ, List.set_cons_zero, List.set_cons_succ, Option.some.injEq, V.int.injEq, V.bl.injEq, V.ref.injEq, V.str.injEq, List.cons.injEq, and_true, true_and, List.cons_append, List.nil_append, List.append_nil, L2.start, List.map_cons, List.map_nil, List.length_cons, List.length_nil, List.replicate, Nat.sub_self, Nat.reduceSub, Nat.reduceAdd, Nat.zero_add, if_true, if_false, Bool.false_eq_true, Bool.true_eq_false, reduceIte, decide_eq_true_eq, Bool.not_eq_true', decide_eq_false_iff_not]
    refine ⟨_, t1.sq, rfl, _, _, rfl, _, _, rfl, _, _, rfl, _, _, rfl, _, _, rfl, rfl, ?_⟩
    simp only [a_tVar, a_tC, a_tOp, a_tUn, a_rI, a_rI0, a_rU, a_rEq, a_rNe, a_tTest, a_tB, a_tIsN, a_tNotN, a_tChain, a_tAnd, a_tOr, a_tNot, a_tAndV, a_tOrV, a_tNotV, a_tYes, a_tNext, a_tSeq, a_tCont, a_tBreak, a_tDrop, a_tRet, a_tIfS, a_tNever, a_gName, a_gNil, a_gCons, a_gTup, a_tAsg, a_tNil, a_tCons, a_tTup, a_tLst, a_tCB, a_tCU, a_tMU, a_tFld, a_sFld, a_tSl, a_tNoPart, a_tPart, a_rSlL, a_rSlT, a_rIxL, a_rIxT, a_rCat, a_rRep, a_rCatT, a_tDGet, a_tDIn, a_tDNotIn, a_sDPut, a_tDPop1, a_tDNewK, a_tBM, a_rAppend, a_rExtend, a_iList, a_iEnum, a_iRng1, a_iRng2, a_iVals, a_iItems, a_iRng3, a_iStr, a_tMX, a_tXf, a_wAs, a_tRaise, a_tVeI, a_tOst, a_tMkO, a_tMake, a_rSum, a_rIsi, a_tChain3, a_tAugS, a_rGetL, a_rPutL, a_ipI, a_rSet, a_tCKw, a_rMinD, a_rMin, a_rIxS, a_rSlS, a_iTup, a_rIn, a_rEqD, a_rNeD, upd_same, HO.lst.injEq, HO.tup.injEq, HO.dK.injEq, HO.frz.injEq, a_s0, a_s1, a_s2, a_s3, a_s4, a_s5, a_s6, a_s8, a_scal, a_scals, a_tFor, a_tLc, a_tWhile, a_wipe0, a_wipe1, k_cxU, w_cxU, k_blk, w_blk, and_assoc, exists_and_left, exists_eq_left, exists_eq_left', exists_eq_right, exists_eq, exists_const, List.getElem?_cons_zero, List.getElem?_cons_succ, List.set_cons_zero, List.set_cons_succ, Option.some.injEq, V.int.injEq, V.bl.injEq, V.ref.injEq, V.str.injEq, List.cons.injEq, and_true, true_and, List.cons_append, List.nil_append, List.append_nil, L2.start, List.map_cons, List.map_nil, List.length_cons, List.length_nil, List.replicate, Nat.sub_self, Nat.reduceSub, Nat.reduceAdd, Nat.zero_add, if_true, if_false, Bool.false_eq_true, Bool.true_eq_false, reduceIte, decide_eq_true_eq, Bool.not_eq_true', decide_eq_false_iff_not, wordS_h']
    by_cases c : e.word = .house
    · rw [if_pos c]
      intro p hp
      refine q _ _ (Same.rfl'.new hp) ⟨p, _, rfl, .inl upd_same, ?_⟩
      have e2 : (stayOf e).ch = (1, 1) := if_pos c
      rw [e2]
      exact sure_tu T _
    · rw [if_neg c]
      intro p hp
      have e2 : (stayOf e).ch = e.ch := if_neg c
      refine q _ _ (Same.rfl'.new hp) ⟨p, _, rfl, .inl upd_same, ?_⟩
      rw [e2]
      exact t2.same (Same.rfl'.new hp)
theorem counted_snoc (es : List (Str × Ent)) (p : Str × Ent) : counted (es ++ [p]) = counted es ++ (if p.2.word = .waits then [] else [stayOf p.2]) := by
  rw [counted_app, counted_cons]
  split <;> rfl
theorem counted_len (es : List (Str × Ent)) : (counted es).length ≤ es.length := by
  unfold counted
  rw [List.length_map]
  exact List.length_filter_le ..
def sp_counted (K : PySem.W.Frag) : Sp := fun vs H Q _ => ∃ (d : Addr) (kvs : List (Key × V)) (es : List (Str × Ent)), vs = [.ref d] ∧ H d = some (.dK kvs) ∧ EsAt K H kvs es ∧ es.length ≤ 1000 ∧
  ∀ H' p xs, Same H H' → H' p = some (.lst xs) → StaysAt K H' xs (counted es) → Q (.ref p) H'
theorem sc_counted : FnScope ["entries", "entry"] ["entries"] (defScope s_counted) := ⟨rfl, rfl, rfl, by decide +kernel, rfl, by decide +kernel, by decide +kernel⟩
theorem g_counted (T : Txt K mg) : GF P w K mg base false 2 "counted" [] (sp_counted K) := by
  obtain ⟨fd, F⟩ := T.f_counted
  refine ⟨_, fd, ["entries"], [], T.g_counted, F.kp, F.bindsN (fun _ _ _ _ _ _ us hl => match us, hl with | [_], _ => rfl), .nil, okU F sc_counted (fun vs H Q E h => ?_) (fun cdv A outer s H vs Q E pl hr hh hw h => ⟨_, PSs.nox (pss_one (ps_ret (pe_lock (pe_lcU hw sc_counted.nd (piu_values (pv 0)) (blkOk_by (own := [("entry", 1)]) (by kernel_rfl)) (fun _ _ _ _ _ => (pg_name (i := 1) sc_counted.nd rfl (by first | exact Or.inl rfl | exact Or.inr rfl))) (fun _ _ _ _ _ => (pts_one (pt_cmpR (op_ne) (pe_ix (ix_tupK K) (pv 1) pe_int (fun _ _ => rfl)) pe_str (nomark _)))) (fun _ _ _ _ _ => (pe_cu (g_stay_of T) (hr.mono (by decide)) hw (fun z => Bool.noConfusion z) rfl (pa_cons (pv 1) pa_nil))))))), ?_⟩)⟩
  · obtain ⟨d, kvs, es, rfl, _⟩ := h
    rfl
  · obtain ⟨d, kvs, es, rfl, h1, h2, h3, q⟩ := h
    have hl := Paired.length h2
    refine ⟨d, _, h1, trivial, fun od => ?_⟩
    simp only [a_tVar, a_tC, a_tOp, a_tUn, a_rI, a_rI0, a_rU, a_rEq, a_rNe, a_tTest, a_tB, a_tIsN, a_tNotN, a_tChain, a_tAnd, a_tOr, a_tNot, a_tAndV, a_tOrV, a_tNotV, a_tYes, a_tNext, a_tSeq, a_tCont, a_tBreak, a_tDrop, a_tRet, a_tIfS, a_tNever, a_gName, a_gNil, a_gCons, a_gTup, a_tAsg, a_tNil, a_tCons, a_tTup, a_tLst, a_tCB, a_tCU, a_tMU, a_tFld, a_sFld, a_tSl, a_tNoPart, a_tPart, a_rSlL, a_rSlT, a_rIxL, a_rIxT, a_rCat, a_rRep, a_rCatT, a_tDGet, a_tDIn, a_tDNotIn, a_sDPut, a_tDPop1, a_tDNewK, a_tBM, a_rAppend, a_rExtend, a_iList, a_iEnum, a_iRng1, a_iRng2, a_iVals, a_iItems, a_iRng3, a_iStr, a_tMX, a_tXf, a_wAs, a_tRaise, a_tVeI, a_tOst, a_tMkO, a_tMake, a_rSum, a_rIsi, a_tChain3, a_tAugS, a_rGetL, a_rPutL, a_ipI, a_rSet, a_tCKw, a_rMinD, a_rMin, a_rIxS, a_rSlS, a_iTup, a_rIn, a_rEqD, a_rNeD, upd_same, HO.lst.injEq, HO.tup.injEq, HO.dK.injEq, HO.frz.injEq, a_s0, a_s1, a_s2, a_s3, a_s4, a_s5, a_s6, a_s8, a_scal, a_scals, a_tFor, a_tLc, a_tWhile, a_wipe0, a_wipe1, k_cxU, w_cxU, k_blk, w_blk, and_assoc, exists_and_left, exists_eq_left, exists_eq_left', exists_eq_right, exists_eq, exists_const, List.getElem?_cons_zero, List.getElem?_cons_succ, List.set_cons_zero, List.set_cons_succ, Option.some.injEq, V.int.injEq, V.bl.injEq, V.ref.injEq, V.str.injEq, List.cons.injEq, and_true, true_and, List.cons_append, List.nil_append, List.append_nil, L2.start, List.map_cons, List.map_nil, List.length_cons, List.length_nil, List.replicate, Nat.sub_self, Nat.reduceSub, Nat.reduceAdd, Nat.zero_add, if_true, if_false, Bool.false_eq_true, Bool.true_eq_false, reduceIte, decide_eq_true_eq, Bool.not_eq_true', decide_eq_false_iff_not]
    intro D hD
    refine lc_ex walk_values hD (fun i H' acc => StaysAt K H' acc (counted (es.take i))) .nil (fun _ s => locked s) ?_ ?_
    · rintro i y H' H'' acc hi s hD' hR ⟨rfl, k, hy⟩
      obtain ⟨pr, hp, e1, a, c, rfl, t1, t2⟩ := paired_get h2 hy
      have tu : Tups H H'' := (tups_put h1 fun _ z => nomatch z).tr s.tups
      have ec := counted_snoc (es.take i) pr
      rw [← take_snoc hp] at ec
      have tt := t1.keep tu
      simp only [a_tVar, a_tC, a_tOp, a_tUn, a_rI, a_rI0, a_rU, a_rEq, a_rNe, a_tTest, a_tB, a_tIsN, a_tNotN, a_tChain, a_tAnd, a_tOr, a_tNot, a_tAndV, a_tOrV, a_tNotV, a_tYes, a_tNext, a_tSeq, a_tCont, a_tBreak, a_tDrop, a_tRet, a_tIfS, a_tNever, a_gName, a_gNil, a_gCons, a_gTup, a_tAsg, a_tNil, a_tCons, a_tTup, a_tLst, a_tCB, a_tCU, a_tMU, a_tFld, a_sFld, a_tSl, a_tNoPart, a_tPart, a_rSlL, a_rSlT, a_rIxL, a_rIxT, a_rCat, a_rRep, a_rCatT, a_tDGet, a_tDIn, a_tDNotIn, a_sDPut, a_tDPop1, a_tDNewK, a_tBM, a_rAppend, a_rExtend, a_iList, a_iEnum, a_iRng1, a_iRng2, a_iVals, a_iItems, a_iRng3, a_iStr, a_tMX, a_tXf, a_wAs, a_tRaise, a_tVeI, a_tOst, a_tMkO, a_tMake, a_rSum, a_rIsi, a_tChain3, a_tAugS, a_rGetL, a_rPutL, a_ipI, a_rSet, a_tCKw, a_rMinD, a_rMin, a_rIxS, a_rSlS, a_iTup, a_rIn, a_rEqD, a_rNeD, upd_same, HO.lst.injEq, HO.tup.injEq, HO.dK.injEq, HO.frz.injEq, a_s0, a_s1, a_s2, a_s3, a_s4, a_s5, a_s6, a_s8, a_scal, a_scals, a_tFor, a_tLc, a_tWhile, a_wipe0, a_wipe1, k_cxU, w_cxU, k_blk, w_blk, and_assoc, exists_and_left, exists_eq_left, exists_eq_left', exists_eq_right, exists_eq, exists_const, List.getElem?_cons_zero, List.getElem?_cons_succ, List.set_cons_zero, List.set_cons_succ, Option.some.injEq, V.int.injEq, V.bl.injEq, V.ref.injEq, V.str.injEq, List.cons.injEq, and_true, true_and, List.cons_append, List.nil_append, List.append_nil, L2.start, List.map_cons, List.map_nil, List.length_cons, List.length_nil, List.replicate, Nat.sub_self, Nat.reduceSub, Nat.reduceAdd, Nat.zero_add, if_true, if_false, Bool.false_eq_true, Bool.true_eq_false, reduceIte, decide_eq_true_eq, Bool.not_eq_true', decide_eq_false_iff_not, wordS_w']
      refine ⟨_, tt.sq, _, atI_n 0 rfl rfl, rfl, ?_⟩
      by_cases c : pr.2.word = .waits
      · rw [if_neg (by simp [c, wordS])]
        rw [if_pos c, List.append_nil] at ec
        exact ⟨s, acc, hD', by rw [ec]; exact hR⟩
      · rw [if_pos (by rw [V.str.injEq, wordS_w']; exact c)]
        rw [if_neg c] at ec
        refine ⟨a, pr.2, rfl, ⟨a, _, rfl, tt, t2.keep tu⟩, fun H4 v s4 hv => ?_⟩
        refine ⟨acc, s4 _ _ hD', szl _ ?_, (s.tr s4).put hD, ?_⟩
        · have := Paired.length hR
          have := counted_len (es.take i)
          rw [List.length_take] at this
          omega
        · rw [ec]
          have k4 : Tups H4 (upd H4 D (.lst (acc ++ [v]))) := tups_put (s4 _ _ hD') fun _ z => nomatch z
          exact paired_snoc ((hR.same s4).keep k4) (hv.keep k4)
    · rintro H' acc s hD' hR
      rw [hl, List.take_length] at hR
      have hne : D ≠ d := fun e => by rw [e, upd_same] at hD; cases hD
      exact ⟨locked s, q _ _ _ (unlock s h1) (by rw [upd_ne hne]; exact hD') (hR.keep (tups_put (locked s) fun _ z => nomatch z))⟩
/-! ### paper_of -/
def sp_paper_of (K : PySem.W.Frag) : Sp := fun vs H Q _ => ∃ (d l r : Addr) (n : Str) (kvs : List (Key × V)) (es : List (Str × Ent)) (lad : List Int) (risk : Int × Int) (e : Ent), vs = [.ref d, .str n, .ref l, .ref r] ∧ H d = some (.dK kvs) ∧ EsAt K H kvs es ∧ es.length ≤ 40 ∧
  (∀ p ∈ es, EntOk 4 p.2) ∧ getE es n = some e ∧ SqL K H l (IL lad) ∧ (∀ x ∈ lad, 0 ≤ x) ∧ Tu K H r [.int risk.1, .int risk.2] ∧ 0 ≤ risk.1 ∧ risk.1 ≤ risk.2 ∧ risk.2 ≤ 1000000000 ∧
  ∀ H' v, Same H H' → PaperAt K H' v (paper lad risk es n) → Q v H'
theorem sc_paper_of : FnScope ["entries", "name", "ladder", "risk"] ["entries", "name", "ladder", "risk"] (defScope s_paper_of) := ⟨rfl, rfl, rfl, by decide +kernel, rfl, by decide +kernel, by decide +kernel⟩
theorem g_paper_of (T : Txt K mg) : GF P w K mg base false 5 "paper_of" [] (sp_paper_of K) := by
  obtain ⟨fd, F⟩ := T.f_paper_of
  refine ⟨_, fd, ["entries", "name", "ladder", "risk"], [], T.g_paper_of, F.kp, F.bindsN (fun _ _ _ _ _ _ us hl => match us, hl with | [_, _, _, _], _ => rfl), .nil, okU F sc_paper_of (fun vs H Q E h => ?_) (fun cdv A outer s H vs Q E pl hr hh hw h => ⟨_, PSs.nox (pss_one (ps_ret (pe_cu (g_tight T) (hr.mono (by decide)) hw (fun z => Bool.noConfusion z) rfl (pa_cons (pe_cu (g_counted T) (hr.mono (by decide)) hw (fun z => Bool.noConfusion z) rfl (pa_cons (pv 0) pa_nil)) (pa_cons (pe_cu (g_stay_of T) (hr.mono (by decide)) hw (fun z => Bool.noConfusion z) rfl (pa_cons (pe_dget (huU hr) (pv 0) (pv 1) (fun _ _ => rfl)) pa_nil)) (pa_cons (pv 2) (pa_cons (pv 3) pa_nil))))))), ?_⟩)⟩
  · obtain ⟨d, l, r, n, kvs, es, lad, risk, e, rfl, _⟩ := h
    rfl
  · obtain ⟨d, l, r, n, kvs, es, lad, risk, e, rfl, h1, h2, h3, h4, h5, h6, h7, h8, k0, k1, k2, q⟩ := h
    obtain ⟨v, hv, hve⟩ := h2.some h5
    obtain ⟨a, c, rfl, t1, t2⟩ := id hve
    have he := h4 _ (getE_mem h5)
    simp only [a_tVar, a_tC, a_tOp, a_tUn, a_rI, a_rI0, a_rU, a_rEq, a_rNe, a_tTest, a_tB, a_tIsN, a_tNotN, a_tChain, a_tAnd, a_tOr, a_tNot, a_tAndV, a_tOrV, a_tNotV, a_tYes, a_tNext, a_tSeq, a_tCont, a_tBreak, a_tDrop, a_tRet, a_tIfS, a_tNever, a_gName, a_gNil, a_gCons, a_gTup, a_tAsg, a_tNil, a_tCons, a_tTup, a_tLst, a_tCB, a_tCU, a_tMU, a_tFld, a_sFld, a_tSl, a_tNoPart, a_tPart, a_rSlL, a_rSlT, a_rIxL, a_rIxT, a_rCat, a_rRep, a_rCatT, a_tDGet, a_tDIn, a_tDNotIn, a_sDPut, a_tDPop1, a_tDNewK, a_tBM, a_rAppend, a_rExtend, a_iList, a_iEnum, a_iRng1, a_iRng2, a_iVals, a_iItems, a_iRng3, a_iStr, a_tMX, a_tXf, a_wAs, a_tRaise, a_tVeI, a_tOst, a_tMkO, a_tMake, a_rSum, a_rIsi, a_tChain3, a_tAugS, a_rGetL, a_rPutL, a_ipI, a_rSet, a_tCKw, a_rMinD, a_rMin, a_rIxS, a_rSlS, a_iTup, a_rIn, a_rEqD, a_rNeD, upd_same, HO.lst.injEq, HO.tup.injEq, HO.dK.injEq, HO.frz.injEq, a_s0, a_s1, a_s2, a_s3, a_s4, a_s5, a_s6, a_s8, a_scal, a_scals, a_tFor, a_tLc, a_tWhile, a_wipe0, a_wipe1, k_cxU, w_cxU, k_blk, w_blk, and_assoc, exists_and_left, exists_eq_left, exists_eq_left', exists_eq_right, exists_eq, exists_const, List.getElem?_cons_zero, List.getElem?_cons_succ, List.set_cons_zero, List.set_cons_succ, Option.some.injEq, V.int.injEq, V.bl.injEq, V.ref.injEq, V.str.injEq, List.cons.injEq, and_true, true_and, List.cons_append, List.nil_append, List.append_nil, L2.start, List.map_cons, List.map_nil, List.length_cons, List.length_nil, List.replicate, Nat.sub_self, Nat.reduceSub, Nat.reduceAdd, Nat.zero_add, if_true, if_false, Bool.false_eq_true, Bool.true_eq_false, reduceIte, decide_eq_true_eq, Bool.not_eq_true', decide_eq_false_iff_not]
    refine ⟨d, kvs, es, rfl, h1, h2, by omega, fun H1 p xs s1 hp hx => ?_⟩
    refine ⟨.ref a, .inl ⟨kvs, Sum.inr n, .inl (s1 _ _ h1), rfl, hv.symm⟩, a, e, rfl, hve.keep s1.tups, fun H2 v2 s2 hs => ?_⟩
    have hs' := hs
    obtain ⟨a2, c2, rfl, _⟩ := hs
    have s12 := s1.tr s2
    refine ⟨p, a2, l, r, xs, counted es, stayOf e, lad, risk, rfl, SqL.of (s2 _ _ hp), hx.same s2, hs', counted_ok h4, he.stay, ?_, Same.seq s12 h6, h7, h8.same s12, k0, k1, k2, he.k1, ?_, fun H3 v3 s3 hp3 => ?_⟩
    · have := counted_len es
      omega
    · have : e.kind ≤ 4 := he.k2
      show e.kind ≤ 100
      omega
    · refine q _ _ (s12.tr s3) ?_
      unfold paper
      rw [h5]
      exact hp3
/-! ### waiting, walked -/
def sp_waiting (K : PySem.W.Frag) : Sp := fun vs H Q _ => ∃ (d : Addr) (kvs : List (Key × V)) (es : List (Str × Ent)), vs = [.ref d] ∧ H d = some (.dK kvs) ∧ EsAt K H kvs es ∧ (keysE es).Nodup ∧ es.length ≤ 1000 ∧
  ∀ H' p, Same H H' → H' p = some (.lst ((waitingE es).map V.str)) → H p = none → Q (.ref p) H'
theorem sc_waiting : FnScope ["entries", "name"] ["entries"] (defScope s_waiting) := ⟨rfl, rfl, rfl, by decide +kernel, rfl, by decide +kernel, by decide +kernel⟩
theorem g_waiting (T : Txt K mg) : GF P w K mg base false 1 "waiting" [] (sp_waiting K) := by
  obtain ⟨fd, F⟩ := T.f_waiting
  refine ⟨_, fd, ["entries"], [], T.g_waiting, F.kp, F.bindsN (fun _ _ _ _ _ _ us hl => match us, hl with | [_], _ => rfl), .nil, okU F sc_waiting (fun vs H Q E h => ?_) (fun cdv A outer s H vs Q E pl hr hh hw h => ⟨_, PSs.nox (pss_one (ps_ret (pe_lock (pe_lcU hw sc_waiting.nd (piu_keys (pv 0)) (blkOk_by (own := [("name", 1)]) (by kernel_rfl)) (fun _ _ _ _ _ => (pg_name (i := 1) sc_waiting.nd rfl (by first | exact Or.inl rfl | exact Or.inr rfl))) (fun _ _ _ _ _ => (pts_one (pt_cmpR (op_eq) (pe_ix (ix_tupK K) (pe_dget (huU hr) (pv 0) (pv 1) (fun _ _ => rfl)) pe_int (fun _ _ => rfl)) pe_str (nomark _)))) (fun _ _ _ _ _ => (pv 1)))))), ?_⟩)⟩
  · obtain ⟨d, kvs, es, rfl, _⟩ := h
    rfl
  · obtain ⟨d, kvs, es, rfl, h1, h2, h3, h4, q⟩ := h
    have hl := Paired.length h2
    obtain ⟨ac, ha⟩ : ∃ f : Nat → List V, ∀ i, f i = (waitingE (es.take i)).map V.str := ⟨_, fun _ => rfl⟩
    refine ⟨d, _, h1, trivial, fun od => ?_⟩
    simp only [a_tVar, a_tC, a_tOp, a_tUn, a_rI, a_rI0, a_rU, a_rEq, a_rNe, a_tTest, a_tB, a_tIsN, a_tNotN, a_tChain, a_tAnd, a_tOr, a_tNot, a_tAndV, a_tOrV, a_tNotV, a_tYes, a_tNext, a_tSeq, a_tCont, a_tBreak, a_tDrop, a_tRet, a_tIfS, a_tNever, a_gName, a_gNil, a_gCons, a_gTup, a_tAsg, a_tNil, a_tCons, a_tTup, a_tLst, a_tCB, a_tCU, a_tMU, a_tFld, a_sFld, a_tSl, a_tNoPart, a_tPart, a_rSlL, a_rSlT, a_rIxL, a_rIxT, a_rCat, a_rRep, a_rCatT, a_tDGet, a_tDIn, a_tDNotIn, a_sDPut, a_tDPop1, a_tDNewK, a_tBM, a_rAppend, a_rExtend, a_iList, a_iEnum, a_iRng1, a_iRng2, a_iVals, a_iItems, a_iRng3, a_iStr, a_tMX, a_tXf, a_wAs, a_tRaise, a_tVeI, a_tOst, a_tMkO, a_tMake, a_rSum, a_rIsi, a_tChain3, a_tAugS, a_rGetL, a_rPutL, a_ipI, a_rSet, a_tCKw, a_rMinD, a_rMin, a_rIxS, a_rSlS, a_iTup, a_rIn, a_rEqD, a_rNeD, upd_same, HO.lst.injEq, HO.tup.injEq, HO.dK.injEq, HO.frz.injEq, a_s0, a_s1, a_s2, a_s3, a_s4, a_s5, a_s6, a_s8, a_scal, a_scals, a_tFor, a_tLc, a_tWhile, a_wipe0, a_wipe1, k_cxU, w_cxU, k_blk, w_blk, and_assoc, exists_and_left, exists_eq_left, exists_eq_left', exists_eq_right, exists_eq, exists_const, List.getElem?_cons_zero, List.getElem?_cons_succ, List.set_cons_zero, List.set_cons_succ, Option.some.injEq, V.int.injEq, V.bl.injEq, V.ref.injEq, V.str.injEq, List.cons.injEq, and_true, true_and, List.cons_append, List.nil_append, List.append_nil, L2.start, List.map_cons, List.map_nil, List.length_cons, List.length_nil, List.replicate, Nat.sub_self, Nat.reduceSub, Nat.reduceAdd, Nat.zero_add, if_true, if_false, Bool.false_eq_true, Bool.true_eq_false, reduceIte, decide_eq_true_eq, Bool.not_eq_true', decide_eq_false_iff_not]
    intro D hD
    have hne : D ≠ d := fun e => by rw [e, upd_same] at hD; cases hD
    refine lc_go walk_keys hD ac (ha 0) (fun _ s => locked s) ?_ ?_
    · rintro i y H' H'' hi s hD' ⟨rfl, k, v, hy, rfl⟩
      obtain ⟨pr, hp, e1, a, c, rfl, t1, t2⟩ := paired_get h2 hy
      have e1 : k = Sum.inr pr.1 := e1
      subst e1
      have tu : Tups H H'' := (tups_put h1 fun _ z => nomatch z).tr s.tups
      have hg : getE es pr.1 = some pr.2 := mem_getE h3 (List.mem_of_getElem? hp)
      obtain ⟨v, hv, a2, c2, rfl, u1, u2⟩ := h2.some hg
      have ec : waitingE (es.take (i + 1)) = waitingE (es.take i) ++ (if pr.2.word = .waits then [pr.1] else []) := by
        rw [take_snoc hp]
        unfold waitingE
        rw [List.filter_append, List.map_append, List.filter_cons]
        by_cases z : pr.2.word = .waits
        · rw [if_pos (by simp [z]), if_pos z]
          rfl
        · rw [if_neg (by simp [z]), if_neg z]
          rfl
      simp only [a_tVar, a_tC, a_tOp, a_tUn, a_rI, a_rI0, a_rU, a_rEq, a_rNe, a_tTest, a_tB, a_tIsN, a_tNotN, a_tChain, a_tAnd, a_tOr, a_tNot, a_tAndV, a_tOrV, a_tNotV, a_tYes, a_tNext, a_tSeq, a_tCont, a_tBreak, a_tDrop, a_tRet, a_tIfS, a_tNever, a_gName, a_gNil, a_gCons, a_gTup, a_tAsg, a_tNil, a_tCons, a_tTup, a_tLst, a_tCB, a_tCU, a_tMU, a_tFld, a_sFld, a_tSl, a_tNoPart, a_tPart, a_rSlL, a_rSlT, a_rIxL, a_rIxT, a_rCat, a_rRep, a_rCatT, a_tDGet, a_tDIn, a_tDNotIn, a_sDPut, a_tDPop1, a_tDNewK, a_tBM, a_rAppend, a_rExtend, a_iList, a_iEnum, a_iRng1, a_iRng2, a_iVals, a_iItems, a_iRng3, a_iStr, a_tMX, a_tXf, a_wAs, a_tRaise, a_tVeI, a_tOst, a_tMkO, a_tMake, a_rSum, a_rIsi, a_tChain3, a_tAugS, a_rGetL, a_rPutL, a_ipI, a_rSet, a_tCKw, a_rMinD, a_rMin, a_rIxS, a_rSlS, a_iTup, a_rIn, a_rEqD, a_rNeD, upd_same, HO.lst.injEq, HO.tup.injEq, HO.dK.injEq, HO.frz.injEq, a_s0, a_s1, a_s2, a_s3, a_s4, a_s5, a_s6, a_s8, a_scal, a_scals, a_tFor, a_tLc, a_tWhile, a_wipe0, a_wipe1, k_cxU, w_cxU, k_blk, w_blk, and_assoc, exists_and_left, exists_eq_left, exists_eq_left', exists_eq_right, exists_eq, exists_const, List.getElem?_cons_zero, List.getElem?_cons_succ, List.set_cons_zero, List.set_cons_succ, Option.some.injEq, V.int.injEq, V.bl.injEq, V.ref.injEq, V.str.injEq, List.cons.injEq, and_true, true_and, List.cons_append, List.nil_append, List.append_nil, L2.start, List.map_cons, List.map_nil, List.length_cons, List.length_nil, List.replicate, Nat.sub_self, Nat.reduceSub, Nat.reduceAdd, Nat.zero_add, if_true, if_false, Bool.false_eq_true, Bool.true_eq_false, reduceIte, decide_eq_true_eq, Bool.not_eq_true', decide_eq_false_iff_not]
      refine ⟨.ref a2, .inl ⟨kvs, Sum.inr pr.1, .inr ⟨od, locked s⟩, rfl, hv.symm⟩, a2, rfl, _, (u1.keep tu).sq, _, atI_n 0 rfl rfl, rfl, ?_⟩
      by_cases z : pr.2.word = .waits
      · rw [if_pos (by rw [V.str.injEq, wordS_w']; exact z)]
        rw [if_pos z] at ec
        refine leaf hD hD' s (szl _ ?_) (by rw [ha, ha, ec]; exact List.map_append)
        rw [ha, List.length_map]
        unfold waitingE
        rw [List.length_map]
        have := List.length_filter_le (fun p : Str × Ent => decide (p.2.word = .waits)) (es.take i)
        rw [List.length_take] at this
        omega
      · rw [if_neg (by rw [V.str.injEq, wordS_w']; exact z)]
        rw [if_neg z, List.append_nil] at ec
        exact leafN hD' s (by rw [ha, ha, ec])
    · intro H' s hD'
      rw [ha, hl, List.take_length] at hD'
      exact ⟨locked s, q _ _ (unlock s h1) (by rw [upd_ne hne]; exact hD') (by rw [upd_ne hne] at hD; exact hD)⟩
theorem walk_snoc (lad : List Int) (risk : Int × Int) (ns : List Str) (n : Str) (es : List (Str × Ent)) : walk lad risk (ns ++ [n]) es = wstep lad risk (walk lad risk ns es) n := by
  unfold walk
  rw [List.foldl_append]
  rfl
theorem walk_good {lad : List Int} {risk : Int × Int} {L : Int} : ∀ (ns : List Str) (s : List (Str × Ent) × List Str), NbM.Good L s.1 → NbM.Good L (ns.foldl (wstep lad risk) s).1 ∧ keysE (ns.foldl (wstep lad risk) s).1 = keysE s.1 ∧ (ns.foldl (wstep lad risk) s).2.length ≤ s.2.length + ns.length
  | [], s, h => ⟨h, rfl, Nat.le_refl _⟩
  | n :: r, s, h => by
    rw [List.foldl_cons]
    have h2 : NbM.Good L (wstep lad risk s n).1 ∧ keysE (wstep lad risk s n).1 = keysE s.1 ∧ (wstep lad risk s n).2.length ≤ s.2.length + 1 := by
      unfold wstep
      split
      · exact ⟨h.setW n .taken, keys_setW .., by simp⟩
      · exact ⟨h, rfl, Nat.le_succ _⟩
    obtain ⟨a, b, c⟩ := walk_good r _ h2.1
    refine ⟨a, b.trans h2.2.1, ?_⟩
    rw [List.length_cons]
    have := h2.2.2
    omega
theorem put_setW {es : List (Str × Ent)} {n : Str} {e : Ent} (nd : (keysE es).Nodup) (g : getE es n = some e) (w : Word) : putE es n { e with word := w } = setW es n w := by
  rw [putE_of_mem (getE_some_iff.mpr ⟨e, g⟩)]
  unfold setW
  refine List.map_congr_left fun p hp => ?_
  by_cases c : p.1 = n
  · rw [if_pos c, if_pos c]
    have : p.2 = e := key_inj nd (show (n, p.2) ∈ es from c ▸ hp) (getE_mem g)
    rw [this]
  · rw [if_neg c, if_neg c]
def sp_walked (K : PySem.W.Frag) : Sp := fun vs H Q _ => ∃ (d l r : Addr) (kvs : List (Key × V)) (es : List (Str × Ent)) (lad : List Int) (risk : Int × Int), vs = [.ref d, .ref l, .ref r] ∧ H d = some (.dK kvs) ∧ EsAt K H kvs es ∧ es.length ≤ 40 ∧ Good 4 es ∧
  (∃ xs, H l = some (.lst xs) ∧ xs = IL lad) ∧ (∀ x ∈ lad, 0 ≤ x) ∧ Tu K H r [.int risk.1, .int risk.2] ∧ 0 ≤ risk.1 ∧ risk.1 ≤ risk.2 ∧ 1 ≤ risk.2 ∧ risk.2 ≤ 1000000000 ∧
  ∀ H' p kvs', Fr [d] H H' → H' d = some (.dK kvs') → EsAt K H' kvs' (walk lad risk (waitingE es) es).1 → H' p = some (.lst ((walk lad risk (waitingE es) es).2.map V.str)) → H p = none → Q (.ref p) H'
theorem sc_walked : FnScope ["entries", "ladder", "risk", "names", "name"] ["entries", "ladder", "risk"] (defScope s_walked) := ⟨rfl, rfl, rfl, by decide +kernel, rfl, by decide +kernel, by decide +kernel⟩
theorem g_walked (T : Txt K mg) : GF P w K mg base false 6 "walked" [] (sp_walked K) := by
  obtain ⟨fd, F⟩ := T.f_walked
  refine ⟨_, fd, ["entries", "ladder", "risk"], [], T.g_walked, F.kp, F.bindsN (fun _ _ _ _ _ _ us hl => match us, hl with | [_, _, _], _ => rfl), .nil, okU F sc_walked (fun vs H Q E h => ?_) (fun cdv A outer s H vs Q E pl hr hh hw h => ⟨_, PSs.nox (pss_cons (ps_set (i := 3) sc_walked.nd rfl (by first | exact Or.inl rfl | exact Or.inr rfl) (pe_lst pa_nil))
      (pss_cons (psu_for PassesOwn.never hw (piu_list (pe_cu (g_waiting T) (hr.mono (by decide)) hw (fun z => Bool.noConfusion z) rfl (pa_cons (pv 0) pa_nil))) (pg_name (i := 4) sc_walked.nd rfl (by first | exact Or.inl rfl | exact Or.inr rfl)) (pss_one (ps_if (pt_cmp (pc_isN (pe_cu (g_paper_of T) (hr.mono (by decide)) hw (fun z => Bool.noConfusion z) rfl (pa_cons (pv 0) (pa_cons (pv 4) (pa_cons (pv 1) (pa_cons (pv 2) pa_nil))))))) (pss_cons (ps_dput (huU hr) (pv 0) (pv 4) (pe_op (op_catTK K) (pe_tup (pa_cons pe_str pa_nil)) (pe_slice (sl_tupK K) (pe_dget (huU hr) (pv 0) (pv 4) (fun _ _ => rfl)) (po_some pe_int) po_none)) rfl)
      (pss_one (ps_expr (pe_bm PySem.F.plainAttrs_list PySem.F.slot_list_append PySem.F.type_list_append mt_append (pv 3) (pa_cons (pv 4) pa_nil))))) pss_nil)))
      (pss_one (ps_ret (pv 3))))), ?_⟩)⟩
  · obtain ⟨d, l, r, kvs, es, lad, risk, rfl, _⟩ := h
    rfl
  · obtain ⟨d, l, r, kvs, es, lad, risk, rfl, h1, h2, h3, h4, ⟨_, h5, rfl⟩, h6, h7, k0, k1, k2, k3, q⟩ := h
    simp only [a_tVar, a_tC, a_tOp, a_tUn, a_rI, a_rI0, a_rU, a_rEq, a_rNe, a_tTest, a_tB, a_tIsN, a_tNotN, a_tChain, a_tAnd, a_tOr, a_tNot, a_tAndV, a_tOrV, a_tNotV, a_tYes, a_tNext, a_tSeq, a_tCont, a_tBreak, a_tDrop, a_tRet, a_tIfS, a_tNever, a_gName, a_gNil, a_gCons, a_gTup, a_tAsg, a_tNil, a_tCons, a_tTup, a_tLst, a_tCB, a_tCU, a_tMU, a_tFld, a_sFld, a_tSl, a_tNoPart, a_tPart, a_rSlL, a_rSlT, a_rIxL, a_rIxT, a_rCat, a_rRep, a_rCatT, a_tDGet, a_tDIn, a_tDNotIn, a_sDPut, a_tDPop1, a_tDNewK, a_tBM, a_rAppend, a_rExtend, a_iList, a_iEnum, a_iRng1, a_iRng2, a_iVals, a_iItems, a_iRng3, a_iStr, a_tMX, a_tXf, a_wAs, a_tRaise, a_tVeI, a_tOst, a_tMkO, a_tMake, a_rSum, a_rIsi, a_tChain3, a_tAugS, a_rGetL, a_rPutL, a_ipI, a_rSet, a_tCKw, a_rMinD, a_rMin, a_rIxS, a_rSlS, a_iTup, a_rIn, a_rEqD, a_rNeD, upd_same, HO.lst.injEq, HO.tup.injEq, HO.dK.injEq, HO.frz.injEq, a_s0, a_s1, a_s2, a_s3, a_s4, a_s5, a_s6, a_s8, a_scal, a_scals, a_tFor, a_tLc, a_tWhile, a_wipe0, a_wipe1, k_cxU, w_cxU, k_blk, w_blk, and_assoc, exists_and_left, exists_eq_left, exists_eq_left', exists_eq_right, exists_eq, exists_const, List.getElem?_cons_zero, List.getElem?_cons_succ, List.set_cons_zero, List.set_cons_succ, Option.some.injEq, V.int.injEq, V.bl.injEq, V.ref.injEq, V.str.injEq, List.cons.injEq, and_true, true_and, List.cons_append, List.nil_append, List.append_nil, L2.start, List.map_cons, List.map_nil, List.length_cons, List.length_nil, List.replicate, Nat.sub_self, Nat.reduceSub, Nat.reduceAdd, Nat.zero_add, if_true, if_false, Bool.false_eq_true, Bool.true_eq_false, reduceIte, decide_eq_true_eq, Bool.not_eq_true', decide_eq_false_iff_not]
    intro p hp
    have s1 : Same H (upd H p (.lst [])) := Same.rfl'.new hp
    refine ⟨d, kvs, es, rfl, s1 _ _ h1, h2.keep s1.tups, h4.nd, by omega, fun H1 p1 s2 hp1 np1 => ?_⟩
    have s12 := s1.tr s2
    have gp : H1 p = some (.lst []) := s2 _ _ upd_same
    refine ⟨p1, rfl, ⟨_, SqL.of hp1⟩, ?_⟩
    have p1p : p1 ≠ p := fun e => by rw [e, upd_same] at np1; cases np1
    have p1d : p1 ≠ d := ne_of hp1 (s12 _ _ h1) fun z => nomatch z
    have pd : p ≠ d := fun e => by rw [e, h1] at hp; cases hp
    have ld : l ≠ d := ne_of h5 h1 fun z => nomatch z
    have lp : l ≠ p := fun e => by rw [← e, h5] at hp; cases hp
    have hmem : ∀ n ∈ waitingE es, n ∈ keysE es := fun n hn => by
      obtain ⟨e, he, _⟩ := mem_waiting.mp hn
      exact List.mem_map.mpr ⟨_, he, rfl⟩
    have wl : (waitingE es).length ≤ es.length := by
      unfold waitingE
      rw [List.length_map]
      exact List.length_filter_le ..
    refine for_go (walk_list (xs := (waitingE es).map V.str)) (fun i σ H' => Fr [d, p] H1 H' ∧ ∃ kvs' u, H' d = some (.dK kvs') ∧ EsAt K H' kvs' (walk lad risk ((waitingE es).take i) es).1 ∧ H' p = some (.lst ((walk lad risk ((waitingE es).take i) es).2.map V.str)) ∧ σ = [some (.ref d), some (.ref l), some (.ref r), some (.ref p), u])
      ⟨Same.rfl'.fr _, kvs, none, s12 _ _ h1, h2.keep s12.tups, gp, rfl⟩ (fun i σ H' _ h => SqL.of (h.1.keep _ _ hp1 (by simp [p1d, p1p]))) ?_ ?_
    · rintro i y σ H3 H4 hi ⟨fr, kvs', u, g1, g2, g3, rfl⟩ ⟨rfl, hy⟩
      obtain ⟨n, hn, rfl⟩ : ∃ n, (waitingE es)[i]? = some n ∧ y = V.str n := by
        rw [List.getElem?_map] at hy
        cases e : (waitingE es)[i]? with
        | none => rw [e] at hy; cases hy
        | some z => rw [e] at hy; exact ⟨z, rfl, (Option.some.inj hy).symm⟩
      obtain ⟨G, gk, gl⟩ := walk_good (lad := lad) (risk := risk) ((waitingE es).take i) (es, []) h4
      have gk : keysE (walk lad risk ((waitingE es).take i) es).1 = keysE es := gk
      have G : NbM.Good 4 (walk lad risk ((waitingE es).take i) es).1 := G
      have gl : (walk lad risk ((waitingE es).take i) es).2.length ≤ 0 + ((waitingE es).take i).length := gl
      have ew := walk_snoc lad risk ((waitingE es).take i) n es
      rw [← take_snoc hn] at ew
      obtain ⟨e, he⟩ := getE_some_iff.mp (by rw [gk]; exact hmem n (List.mem_of_getElem? hn))
      have glen : (walk lad risk ((waitingE es).take i) es).1.length = es.length := by
        have := congrArg List.length gk
        unfold keysE at this
        simpa using this
      generalize walk lad risk ((waitingE es).take i) es = wi at *
      have tH : Tups H H4 := s12.tups.tr fr.tups
      simp only [a_tVar, a_tC, a_tOp, a_tUn, a_rI, a_rI0, a_rU, a_rEq, a_rNe, a_tTest, a_tB, a_tIsN, a_tNotN, a_tChain, a_tAnd, a_tOr, a_tNot, a_tAndV, a_tOrV, a_tNotV, a_tYes, a_tNext, a_tSeq, a_tCont, a_tBreak, a_tDrop, a_tRet, a_tIfS, a_tNever, a_gName, a_gNil, a_gCons, a_gTup, a_tAsg, a_tNil, a_tCons, a_tTup, a_tLst, a_tCB, a_tCU, a_tMU, a_tFld, a_sFld, a_tSl, a_tNoPart, a_tPart, a_rSlL, a_rSlT, a_rIxL, a_rIxT, a_rCat, a_rRep, a_rCatT, a_tDGet, a_tDIn, a_tDNotIn, a_sDPut, a_tDPop1, a_tDNewK, a_tBM, a_rAppend, a_rExtend, a_iList, a_iEnum, a_iRng1, a_iRng2, a_iVals, a_iItems, a_iRng3, a_iStr, a_tMX, a_tXf, a_wAs, a_tRaise, a_tVeI, a_tOst, a_tMkO, a_tMake, a_rSum, a_rIsi, a_tChain3, a_tAugS, a_rGetL, a_rPutL, a_ipI, a_rSet, a_tCKw, a_rMinD, a_rMin, a_rIxS, a_rSlS, a_iTup, a_rIn, a_rEqD, a_rNeD, upd_same, HO.lst.injEq, HO.tup.injEq, HO.dK.injEq, HO.frz.injEq, a_s0, a_s1, a_s2, a_s3, a_s4, a_s5, a_s6, a_s8, a_scal, a_scals, a_tFor, a_tLc, a_tWhile, a_wipe0, a_wipe1, k_cxU, w_cxU, k_blk, w_blk, and_assoc, exists_and_left, exists_eq_left, exists_eq_left', exists_eq_right, exists_eq, exists_const, List.getElem?_cons_zero, List.getElem?_cons_succ, List.set_cons_zero, List.set_cons_succ, Option.some.injEq, V.int.injEq, V.bl.injEq, V.ref.injEq, V.str.injEq, List.cons.injEq, and_true, true_and, List.cons_append, List.nil_append, List.append_nil, L2.start, List.map_cons, List.map_nil, List.length_cons, List.length_nil, List.replicate, Nat.sub_self, Nat.reduceSub, Nat.reduceAdd, Nat.zero_add, if_true, if_false, Bool.false_eq_true, Bool.true_eq_false, reduceIte, decide_eq_true_eq, Bool.not_eq_true', decide_eq_false_iff_not]
      refine ⟨d, l, r, n, kvs', wi.1, lad, risk, e, rfl, g1, g2, by omega, G.ok, he, SqL.of (fr.keep _ _ (s12 _ _ h5) (by simp [ld, lp])), h6, h7.keep tH, k0, k1, k3, fun H5 v s5 hv => ?_⟩
      have g5 := s5 _ _ g1
      have g6 := s5 _ _ g3
      have fr5 := fr.tr (s5.fr _)
      unfold wstep at ew
      cases hpap : paper lad risk wi.1 n with
      | some pp =>
        rw [hpap] at hv
        obtain ⟨a9, c9, rfl, _⟩ := hv
        rw [hpap, if_neg (fun z => Option.some_ne_none _ z)] at ew
        dsimp only
        rw [if_neg (fun z => V.noConfusion z)]
        exact ⟨fr5, kvs', g5, by rw [ew]; exact g2.keep s5.tups, by rw [ew]; exact g6, _, rfl⟩
      | none =>
        rw [hpap] at hv
        have hv : v = .non := hv
        subst hv
        rw [hpap, if_pos rfl] at ew
        dsimp only
        rw [if_pos rfl]
        obtain ⟨v, hv, a2, c2, rfl, u1, u2⟩ := g2.some he
        intro p2 hp2
        have ec : cutV [.str (wordS e.word), .int e.kind, .int e.first, .int e.behind, .ref c2] (some 1) none = [.int e.kind, .int e.first, .int e.behind, .ref c2] := by
          rw [cutV_drop _ _ (by decide)]
          rfl
        refine ⟨.ref a2, .inl ⟨kvs', Sum.inr n, .inl (get_new g5 hp2), rfl, hv.symm⟩, a2, rfl, _, ((u1.same s5).same (Same.rfl'.new hp2)).sq, fun z => absurd z.1 (by simp [HT.sIx]), fun p3 hp3 => ?_⟩
        rw [ec] at *
        refine ⟨_, SqT.of (get_new upd_same hp3), _, SqT.of upd_same, List.cons_ne_nil _ _, sz 5 (by decide), fun z => absurd z (List.cons_ne_nil _ _), fun _ p4 hp4 => ?_⟩
        have sC : Same H5 (upd (upd (upd H5 p2 (.tup [.str "taken"])) p3 (.tup [.int e.kind, .int e.first, .int e.behind, .ref c2])) p4 (.tup ([.str "taken"] ++ [.int e.kind, .int e.first, .int e.behind, .ref c2]))) := ((Same.rfl'.new hp2).new hp3).new hp4
        have e4 : (upd (upd (upd H5 p2 (.tup [.str "taken"])) p3 (.tup [.int e.kind, .int e.first, .int e.behind, .ref c2])) p4 (.tup ([.str "taken"] ++ [.int e.kind, .int e.first, .int e.behind, .ref c2]))) p4 = some (.tup [.str "taken", .int e.kind, .int e.first, .int e.behind, .ref c2]) := upd_same
        have kl := Paired.length g2
        refine ⟨_, DPut.k (k := Sum.inr n) (sC _ _ g5) (szl _ (by omega)), ?_⟩
        generalize upd (upd (upd H5 p2 (.tup [.str "taken"])) p3 (.tup [.int e.kind, .int e.first, .int e.behind, .ref c2])) p4 (.tup ([.str "taken"] ++ [.int e.kind, .int e.first, .int e.behind, .ref c2])) = C at *
        have cd := sC _ _ g5
        have cp := sC _ _ g6
        have dp : upd C d (.dK (putK kvs' (Sum.inr n) (.ref p4))) p = some (.lst (wi.2.map V.str)) := by rw [upd_ne pd]; exact cp
        have t1 : Tups C (upd C d (.dK (putK kvs' (Sum.inr n) (.ref p4)))) := tups_put cd fun _ z => nomatch z
        have t2 : Tups (upd C d (.dK (putK kvs' (Sum.inr n) (.ref p4)))) (upd (upd C d (.dK (putK kvs' (Sum.inr n) (.ref p4)))) p (.lst (wi.2.map V.str ++ [.str n]))) := tups_put dp fun _ z => nomatch z
        have t12 := t1.tr t2
        refine ⟨tyL dp, _, dp, szl _ (by rw [List.length_map]; have : (List.take i (waitingE es)).length ≤ (waitingE es).length := (by rw [List.length_take]; omega); omega), ((fr5.tr (sC.fr _)).put (by simp) cd (fun _ z => nomatch z)).put (by simp) dp (fun _ z => nomatch z), _, by rw [upd_ne (Ne.symm pd), upd_same], ?_, ?_, _, rfl⟩
        · rw [ew, ← put_setW G.nd he .taken]
          exact KvAt.put ((g2.keep s5.tups).keep (sC.tups.tr t12)) ⟨p4, c2, rfl, .inl (t12 _ _ e4), u2.keep (s5.tups.tr (sC.tups.tr t12))⟩
        · rw [ew]
          show _ = (wi.2 ++ [n]).map V.str
          rw [List.map_append]
          rfl
    · rintro σ H3 ⟨fr, kvs', u, g1, g2, g3, rfl⟩
      have et : (waitingE es).take ((waitingE es).map V.str).length = waitingE es := List.take_of_length_le (by simp)
      rw [et] at g2 g3
      simp only [a_tVar, a_tC, a_tOp, a_tUn, a_rI, a_rI0, a_rU, a_rEq, a_rNe, a_tTest, a_tB, a_tIsN, a_tNotN, a_tChain, a_tAnd, a_tOr, a_tNot, a_tAndV, a_tOrV, a_tNotV, a_tYes, a_tNext, a_tSeq, a_tCont, a_tBreak, a_tDrop, a_tRet, a_tIfS, a_tNever, a_gName, a_gNil, a_gCons, a_gTup, a_tAsg, a_tNil, a_tCons, a_tTup, a_tLst, a_tCB, a_tCU, a_tMU, a_tFld, a_sFld, a_tSl, a_tNoPart, a_tPart, a_rSlL, a_rSlT, a_rIxL, a_rIxT, a_rCat, a_rRep, a_rCatT, a_tDGet, a_tDIn, a_tDNotIn, a_sDPut, a_tDPop1, a_tDNewK, a_tBM, a_rAppend, a_rExtend, a_iList, a_iEnum, a_iRng1, a_iRng2, a_iVals, a_iItems, a_iRng3, a_iStr, a_tMX, a_tXf, a_wAs, a_tRaise, a_tVeI, a_tOst, a_tMkO, a_tMake, a_rSum, a_rIsi, a_tChain3, a_tAugS, a_rGetL, a_rPutL, a_ipI, a_rSet, a_tCKw, a_rMinD, a_rMin, a_rIxS, a_rSlS, a_iTup, a_rIn, a_rEqD, a_rNeD, upd_same, HO.lst.injEq, HO.tup.injEq, HO.dK.injEq, HO.frz.injEq, a_s0, a_s1, a_s2, a_s3, a_s4, a_s5, a_s6, a_s8, a_scal, a_scals, a_tFor, a_tLc, a_tWhile, a_wipe0, a_wipe1, k_cxU, w_cxU, k_blk, w_blk, and_assoc, exists_and_left, exists_eq_left, exists_eq_left', exists_eq_right, exists_eq, exists_const, List.getElem?_cons_zero, List.getElem?_cons_succ, List.set_cons_zero, List.set_cons_succ, Option.some.injEq, V.int.injEq, V.bl.injEq, V.ref.injEq, V.str.injEq, List.cons.injEq, and_true, true_and, List.cons_append, List.nil_append, List.append_nil, L2.start, List.map_cons, List.map_nil, List.length_cons, List.length_nil, List.replicate, Nat.sub_self, Nat.reduceSub, Nat.reduceAdd, Nat.zero_add, if_true, if_false, Bool.false_eq_true, Bool.true_eq_false, reduceIte, decide_eq_true_eq, Bool.not_eq_true', decide_eq_false_iff_not]
      exact q _ _ _ ⟨fun b o hb hn => fr.keep b o (s12 b o hb) (by simp at hn ⊢; exact ⟨hn, fun e => by rw [e, hp] at hb; cases hb⟩), s12.tups.tr fr.tups⟩ g1 g2 g3 hp
end
end Nb
end
section
set_option Elab.async false
set_option linter.all false
set_option maxRecDepth 100000
set_option maxHeartbeats 4000000
namespace Nb
open PySem PySem.Spec PyProof.Rows L2 NbU NbM
/-! ### dicts of ints -/
def kI (g : List (Int × Int)) : List (Key × V) := g.map fun p => (Sum.inl p.1, V.int p.2)
def optV : Option Int → V
  | none => .non
  | some i => .int i
def optI : Option Int → Option V
  | none => none
  | some i => some (.int i)
theorem val_kI (g : List (Int × Int)) (r : Int) : valV (kI g) (Sum.inl r) = optI (getE g r) := by
  induction g with
  | nil => rfl
  | cons p g ih =>
    by_cases c : p.1 = r
    · have e : getE (p :: g) r = some p.2 := by unfold getE; rw [List.find?_cons, decide_eq_true c]; rfl
      rw [e]
      exact valV_pos (p := (Sum.inl p.1, V.int p.2)) (by rw [c])
    · have e : getE (p :: g) r = getE g r := by unfold getE; rw [List.find?_cons, decide_eq_false c]
      rw [e, ← ih]
      exact valV_neg (p := (Sum.inl p.1, V.int p.2)) (fun z => c (Sum.inl.inj z))
theorem put_kI (g : List (Int × Int)) (r v : Int) : putK (kI g) (Sum.inl r) (.int v) = kI (putE g r v) := by
  have a : ((kI g).any fun kv => decide (kv.1 = Sum.inl r)) = g.any fun p => decide (p.1 = r) := by
    unfold kI
    rw [List.any_map]
    congr 1
    funext p
    show decide ((Sum.inl p.1 : Key) = Sum.inl r) = _
    rw [key_ll, Bool.beq_eq_decide_eq]
  unfold putK putE
  rw [a]
  split
  · unfold kI
    rw [List.map_map, List.map_map]
    refine List.map_congr_left fun p _ => ?_
    show (if (Sum.inl p.1 : Key) = Sum.inl r then ((Sum.inl p.1 : Key), V.int v) else (Sum.inl p.1, V.int p.2)) = ((Sum.inl (if p.1 = r then (p.1, v) else p).1 : Key), V.int (if p.1 = r then (p.1, v) else p).2)
    by_cases c : p.1 = r
    · rw [if_pos c, if_pos (by rw [c])]
    · rw [if_neg c, if_neg fun z => c (Sum.inl.inj z)]
  · unfold kI
    rw [List.map_append]
    rfl
theorem kI_get {g : List (Int × Int)} {i : Nat} {k : V} {v : V} (h1 : ((kI g)[i]?.map fun kv => kV kv.1) = some k) (h2 : (kI g)[i]?.map Prod.snd = some v) : ∃ p, g[i]? = some p ∧ k = .int p.1 ∧ v = .int p.2 := by
  unfold kI at h1 h2
  rw [List.getElem?_map] at h1 h2
  cases e : g[i]? with
  | none => rw [e] at h1; cases h1
  | some p =>
    rw [e] at h1 h2
    exact ⟨p, rfl, (Option.some.inj h1).symm, (Option.some.inj h2).symm⟩
theorem at_room {rooms : List Int} {r : Int} (h0 : 0 ≤ r) (h1 : r < rooms.length) : atI (IL rooms) r = some (.int (roomAt rooms r)) := by
  refine atI_n r.toNat (by omega) ?_
  rw [List.getElem?_map]
  unfold roomAt
  rw [List.getD_eq_getElem?_getD, List.getElem?_eq_getElem (by omega)]
  rfl
section
variable {P : Program} {w : World} {K : PySem.W.Frag} {mg : Str → Option Value} {base : Heap}
/-! ### free_from -/
theorem free_pos {rooms : List Int} {g : List (Int × Int)} {k : Int} {f : Option Int} {i : Nat} (h : getE g (i : Int) = none ∧ k ≤ roomAt rooms i ∧ (∀ r, f = some r → roomAt rooms i < roomAt rooms r)) : freeStep rooms g k f i = some (i : Int) := by
  unfold freeStep
  exact if_pos h
theorem free_neg {rooms : List Int} {g : List (Int × Int)} {k : Int} {f : Option Int} {i : Nat} (h : ¬ (getE g (i : Int) = none ∧ k ≤ roomAt rooms i ∧ (∀ r, f = some r → roomAt rooms i < roomAt rooms r))) : freeStep rooms g k f i = f := by
  unfold freeStep
  exact if_neg h
def sp_free_from (K : PySem.W.Frag) : Sp := fun vs H Q _ => ∃ (a d : Addr) (rooms : List Int) (g : List (Int × Int)) (k : Int), vs = [.ref a, .ref d, .int k] ∧ SqL K H a (IL rooms) ∧ H d = some (.dK (kI g)) ∧ ∀ H', Same H H' → Q (optV (freeFrom rooms g k)) H'
theorem sc_free_from : FnScope ["rooms", "guests", "kind", "found", "room", "here"] ["rooms", "guests", "kind"] (defScope s_free_from) := ⟨rfl, rfl, rfl, by decide +kernel, rfl, by decide +kernel, by decide +kernel⟩
theorem g_free_from (T : Txt K mg) : GF P w K mg base true 1 "free_from" [] (sp_free_from K) := by
  obtain ⟨fd, F⟩ := T.f_free_from
  refine ⟨_, fd, ["rooms", "guests", "kind"], [], T.g_free_from, F.kp, F.bindsN (fun _ _ _ _ _ _ us hl => match us, hl with | [_, _, _], _ => rfl), .nil, okU F sc_free_from (fun vs H Q E h => ?_) (fun cdv A outer s H vs Q E pl hr hh hw h => ⟨_, PSs.nox (pss_cons (ps_set (i := 3) sc_free_from.nd rfl (by first | exact Or.inl rfl | exact Or.inr rfl) pe_non)
      (pss_cons (psu_for PassesOwn.never hw (piu_enum rfl T.n_enumerate (pa_cons (pv 0) pa_nil)) (pgu_tupK (n := 2) K hw (pgs_cons (pg_name (i := 4) sc_free_from.nd rfl (by first | exact Or.inl rfl | exact Or.inr rfl)) (pgs_cons (pg_name (i := 5) sc_free_from.nd rfl (by first | exact Or.inl rfl | exact Or.inr rfl)) pgs_nil))) (pss_one (ps_if (PW.pt (pw_and (pt_cmp (pc_dnotin (huU hr) (pv 4) (pv 1))) (pw_and (pt_cmpR (op_ge) (pv 5) (pv 2) (nomark _)) (pw_and1 (PW.pt (pw_or (pt_cmp (pc_isN (pv 3))) (pw_or1 (pt_cmpR (op_lt) (pv 5) (pe_ix (ix_listK K) (pv 0) (pv 3) (fun _ _ => rfl)) (nomark _))))))))) (pss_one (ps_set (i := 3) sc_free_from.nd rfl (by first | exact Or.inl rfl | exact Or.inr rfl) (pv 4))) pss_nil)))
      (pss_one (ps_ret (pv 3))))), ?_⟩)⟩
  · obtain ⟨a, d, rooms, g, k, rfl, _⟩ := h
    rfl
  · obtain ⟨a, d, rooms, g, k, rfl, h1, h2, q⟩ := h
    have hl : (IL rooms).length = rooms.length := by simp
    simp only [a_tVar, a_tC, a_tOp, a_tUn, a_rI, a_rI0, a_rU, a_rEq, a_rNe, a_tTest, a_tB, a_tIsN, a_tNotN, a_tChain, a_tAnd, a_tOr, a_tNot, a_tAndV, a_tOrV, a_tNotV, a_tYes, a_tNext, a_tSeq, a_tCont, a_tBreak, a_tDrop, a_tRet, a_tIfS, a_tNever, a_gName, a_gNil, a_gCons, a_gTup, a_tAsg, a_tNil, a_tCons, a_tTup, a_tLst, a_tCB, a_tCU, a_tMU, a_tFld, a_sFld, a_tSl, a_tNoPart, a_tPart, a_rSlL, a_rSlT, a_rIxL, a_rIxT, a_rCat, a_rRep, a_rCatT, a_tDGet, a_tDIn, a_tDNotIn, a_sDPut, a_tDPop1, a_tDNewK, a_tBM, a_rAppend, a_rExtend, a_iList, a_iEnum, a_iRng1, a_iRng2, a_iVals, a_iItems, a_iRng3, a_iStr, a_tMX, a_tXf, a_wAs, a_tRaise, a_tVeI, a_tOst, a_tMkO, a_tMake, a_rSum, a_rIsi, a_tChain3, a_tAugS, a_rGetL, a_rPutL, a_ipI, a_rSet, a_tCKw, a_rMinD, a_rMin, a_rIxS, a_rSlS, a_iTup, a_rIn, a_rEqD, a_rNeD, upd_same, HO.lst.injEq, HO.tup.injEq, HO.dK.injEq, HO.frz.injEq, a_s0, a_s1, a_s2, a_s3, a_s4, a_s5, a_s6, a_s8, a_scal, a_scals, a_tFor, a_tLc, a_tWhile, a_wipe0, a_wipe1, k_cxU, w_cxU, k_blk, w_blk, and_assoc, exists_and_left, exists_eq_left, exists_eq_left', exists_eq_right, exists_eq, exists_const, List.getElem?_cons_zero, List.getElem?_cons_succ, List.set_cons_zero, List.set_cons_succ, Option.some.injEq, V.int.injEq, V.bl.injEq, V.ref.injEq, V.str.injEq, List.cons.injEq, and_true, true_and, List.cons_append, List.nil_append, List.append_nil, L2.start, List.map_cons, List.map_nil, List.length_cons, List.length_nil, List.replicate, Nat.sub_self, Nat.reduceSub, Nat.reduceAdd, Nat.zero_add, if_true, if_false, Bool.false_eq_true, Bool.true_eq_false, reduceIte, decide_eq_true_eq, Bool.not_eq_true', decide_eq_false_iff_not]
    refine ⟨_, h1, ?_⟩
    refine for_go (walk_enum (xs := IL rooms)) (fun i σ H' => Same H H' ∧ ∃ u v, σ = [some (.ref a), some (.ref d), some (.int k), some (optV ((List.range i).foldl (freeStep rooms g k) none)), u, v]) ⟨Same.rfl', none, none, rfl⟩ (fun i σ H' _ h => Same.seq h.1 h1) ?_ ?_
    · rintro i y σ H3 H4 hi ⟨s3, u, v, rfl⟩ ⟨T, y1, y2, rfl, hT, rfl, e1, e2⟩
      obtain ⟨z, hz, rfl⟩ := il_get e2
      cases e1
      have hi' : i < rooms.length := by rw [← hl]; exact hi
      have s4 := s3.new hT (o := .tup [.int (i : Nat), .int z])
      have hr : z = roomAt rooms (i : Int) := by
        unfold roomAt
        rw [List.getD_eq_getElem?_getD, Int.toNat_natCast, hz]
        rfl
      have ef : (List.range (i + 1)).foldl (freeStep rooms g k) none = freeStep rooms g k ((List.range i).foldl (freeStep rooms g k) none) i := by
        rw [List.range_succ, List.foldl_append]
        rfl
      simp only [a_tVar, a_tC, a_tOp, a_tUn, a_rI, a_rI0, a_rU, a_rEq, a_rNe, a_tTest, a_tB, a_tIsN, a_tNotN, a_tChain, a_tAnd, a_tOr, a_tNot, a_tAndV, a_tOrV, a_tNotV, a_tYes, a_tNext, a_tSeq, a_tCont, a_tBreak, a_tDrop, a_tRet, a_tIfS, a_tNever, a_gName, a_gNil, a_gCons, a_gTup, a_tAsg, a_tNil, a_tCons, a_tTup, a_tLst, a_tCB, a_tCU, a_tMU, a_tFld, a_sFld, a_tSl, a_tNoPart, a_tPart, a_rSlL, a_rSlT, a_rIxL, a_rIxT, a_rCat, a_rRep, a_rCatT, a_tDGet, a_tDIn, a_tDNotIn, a_sDPut, a_tDPop1, a_tDNewK, a_tBM, a_rAppend, a_rExtend, a_iList, a_iEnum, a_iRng1, a_iRng2, a_iVals, a_iItems, a_iRng3, a_iStr, a_tMX, a_tXf, a_wAs, a_tRaise, a_tVeI, a_tOst, a_tMkO, a_tMake, a_rSum, a_rIsi, a_tChain3, a_tAugS, a_rGetL, a_rPutL, a_ipI, a_rSet, a_tCKw, a_rMinD, a_rMin, a_rIxS, a_rSlS, a_iTup, a_rIn, a_rEqD, a_rNeD, upd_same, HO.lst.injEq, HO.tup.injEq, HO.dK.injEq, HO.frz.injEq, a_s0, a_s1, a_s2, a_s3, a_s4, a_s5, a_s6, a_s8, a_scal, a_scals, a_tFor, a_tLc, a_tWhile, a_wipe0, a_wipe1, k_cxU, w_cxU, k_blk, w_blk, and_assoc, exists_and_left, exists_eq_left, exists_eq_left', exists_eq_right, exists_eq, exists_const, List.getElem?_cons_zero, List.getElem?_cons_succ, List.set_cons_zero, List.set_cons_succ, Option.some.injEq, V.int.injEq, V.bl.injEq, V.ref.injEq, V.str.injEq, List.cons.injEq, and_true, true_and, List.cons_append, List.nil_append, List.append_nil, L2.start, List.map_cons, List.map_nil, List.length_cons, List.length_nil, List.replicate, Nat.sub_self, Nat.reduceSub, Nat.reduceAdd, Nat.zero_add, if_true, if_false, Bool.false_eq_true, Bool.true_eq_false, reduceIte, decide_eq_true_eq, Bool.not_eq_true', decide_eq_false_iff_not]
      refine ⟨_, SqT.of upd_same, rfl, _, _, rfl, _, _, rfl, rfl, ?_⟩
      have fr : ∀ r, (List.range i).foldl (freeStep rooms g k) none = some r → 0 ≤ r ∧ r < rooms.length := free_go (List.range i) none (fun j hj => by have := List.mem_range.mp hj; omega) (fun _ e => nomatch e)
      generalize (List.range i).foldl (freeStep rooms g k) none = f at *
      refine ⟨_, .inl ⟨kI g, Sum.inl (i : Int), .inl (s4 _ _ h2), rfl, rfl⟩, ?_⟩
      rw [val_kI]
      cases hg : getE g (i : Int) with
      | some v =>
        rw [free_neg (by simp [hg])] at ef
        rw [if_neg (by simp [optI])]
        exact ⟨s4, by rw [ef], _, rfl⟩
      | none =>
        rw [if_pos (by rfl)]
        refine ⟨_, rfl, ?_⟩
        by_cases c : k ≤ z
        · rw [if_pos c]
          cases f with
          | none =>
            rw [free_pos ⟨hg, by rw [← hr]; exact c, fun _ e => by cases e⟩] at ef
            rw [if_pos (show optV none = V.non from rfl)]
            exact ⟨s4, by rw [ef]; rfl, _, rfl⟩
          | some r =>
            obtain ⟨r0, r1⟩ := fr r rfl
            rw [if_neg (fun z => V.noConfusion z)]
            refine ⟨_, _, rfl, Same.seq s4 h1, _, at_room r0 r1, _, rfl, _, rfl, ?_⟩
            by_cases e : z < roomAt rooms r
            · rw [if_pos e]
              rw [free_pos ⟨hg, by rw [← hr]; exact c, fun x hx => by cases hx; rw [← hr]; exact e⟩] at ef
              exact ⟨s4, by rw [ef]; rfl, _, rfl⟩
            · rw [if_neg e]
              rw [free_neg fun q => e (by rw [hr]; exact q.2.2 r rfl)] at ef
              exact ⟨s4, by rw [ef], _, rfl⟩
        · rw [if_neg c]
          rw [free_neg fun q => c (by rw [hr]; exact q.2.1)] at ef
          exact ⟨s4, by rw [ef], _, rfl⟩
    · rintro σ H3 ⟨s3, u, v, rfl⟩
      rw [hl]
      simp only [a_tVar, a_tC, a_tOp, a_tUn, a_rI, a_rI0, a_rU, a_rEq, a_rNe, a_tTest, a_tB, a_tIsN, a_tNotN, a_tChain, a_tAnd, a_tOr, a_tNot, a_tAndV, a_tOrV, a_tNotV, a_tYes, a_tNext, a_tSeq, a_tCont, a_tBreak, a_tDrop, a_tRet, a_tIfS, a_tNever, a_gName, a_gNil, a_gCons, a_gTup, a_tAsg, a_tNil, a_tCons, a_tTup, a_tLst, a_tCB, a_tCU, a_tMU, a_tFld, a_sFld, a_tSl, a_tNoPart, a_tPart, a_rSlL, a_rSlT, a_rIxL, a_rIxT, a_rCat, a_rRep, a_rCatT, a_tDGet, a_tDIn, a_tDNotIn, a_sDPut, a_tDPop1, a_tDNewK, a_tBM, a_rAppend, a_rExtend, a_iList, a_iEnum, a_iRng1, a_iRng2, a_iVals, a_iItems, a_iRng3, a_iStr, a_tMX, a_tXf, a_wAs, a_tRaise, a_tVeI, a_tOst, a_tMkO, a_tMake, a_rSum, a_rIsi, a_tChain3, a_tAugS, a_rGetL, a_rPutL, a_ipI, a_rSet, a_tCKw, a_rMinD, a_rMin, a_rIxS, a_rSlS, a_iTup, a_rIn, a_rEqD, a_rNeD, upd_same, HO.lst.injEq, HO.tup.injEq, HO.dK.injEq, HO.frz.injEq, a_s0, a_s1, a_s2, a_s3, a_s4, a_s5, a_s6, a_s8, a_scal, a_scals, a_tFor, a_tLc, a_tWhile, a_wipe0, a_wipe1, k_cxU, w_cxU, k_blk, w_blk, and_assoc, exists_and_left, exists_eq_left, exists_eq_left', exists_eq_right, exists_eq, exists_const, List.getElem?_cons_zero, List.getElem?_cons_succ, List.set_cons_zero, List.set_cons_succ, Option.some.injEq, V.int.injEq, V.bl.injEq, V.ref.injEq, V.str.injEq, List.cons.injEq, and_true, true_and, List.cons_append, List.nil_append, List.append_nil, L2.start, List.map_cons, List.map_nil, List.length_cons, List.length_nil, List.replicate, Nat.sub_self, Nat.reduceSub, Nat.reduceAdd, Nat.zero_add, if_true, if_false, Bool.false_eq_true, Bool.true_eq_false, reduceIte, decide_eq_true_eq, Bool.not_eq_true', decide_eq_false_iff_not]
      exact q _ s3
/-! ### wishes_from, guest_at -/
theorem wishes_snoc (rooms : List Int) (g : List (Int × Int)) (p : Int × Int) (k : Int) : wishesFrom rooms (g ++ [p]) k = wishesFrom rooms g k ++ (if k ≤ roomAt rooms p.1 then [p.2] else []) := by
  unfold wishesFrom
  rw [List.filter_append, List.map_append, List.filter_cons]
  by_cases c : k ≤ roomAt rooms p.1
  · rw [if_pos (by simp [c]), if_pos c]; rfl
  · rw [if_neg (by simp [c]), if_neg c]; rfl
theorem wishes_len (rooms : List Int) (g : List (Int × Int)) (k : Int) : (wishesFrom rooms g k).length ≤ g.length := by
  unfold wishesFrom
  rw [List.length_map]
  exact List.length_filter_le ..
/-- the guests' rooms are rooms -/
def GIn (rooms : List Int) (g : List (Int × Int)) : Prop := ∀ q ∈ g, 0 ≤ q.1 ∧ q.1 < rooms.length
def sp_wishes_from (K : PySem.W.Frag) : Sp := fun vs H Q _ => ∃ (a d : Addr) (rooms : List Int) (g : List (Int × Int)) (k : Int), vs = [.ref a, .ref d, .int k] ∧ SqL K H a (IL rooms) ∧ H d = some (.dK (kI g)) ∧ GIn rooms g ∧ g.length ≤ 1000 ∧
  ∀ H' p, Same H H' → H' p = some (.lst (IL (wishesFrom rooms g k))) → Q (.ref p) H'
theorem sc_wishes_from : FnScope ["rooms", "guests", "kind", "room", "wished"] ["rooms", "guests", "kind"] (defScope s_wishes_from) := ⟨rfl, rfl, rfl, by decide +kernel, rfl, by decide +kernel, by decide +kernel⟩
theorem g_wishes_from (T : Txt K mg) : GF P w K mg base true 1 "wishes_from" [] (sp_wishes_from K) := by
  obtain ⟨fd, F⟩ := T.f_wishes_from
  refine ⟨_, fd, ["rooms", "guests", "kind"], [], T.g_wishes_from, F.kp, F.bindsN (fun _ _ _ _ _ _ us hl => match us, hl with | [_, _, _], _ => rfl), .nil, okU F sc_wishes_from (fun vs H Q E h => ?_) (fun cdv A outer s H vs Q E pl hr hh hw h => ⟨_, PSs.nox (pss_one (ps_ret (pe_lock (pe_lc rfl sc_wishes_from.nd (pi_items (pv 1)) (blkOk_by (own := [("room", 3), ("wished", 4)]) (by kernel_rfl)) (fun _ _ _ _ _ => (pgu_tupK (n := 2) K (Or.inl (hh rfl)) (pgs_cons (pg_name (i := 3) sc_wishes_from.nd rfl (by first | exact Or.inl rfl | exact Or.inr rfl)) (pgs_cons (pg_name (i := 4) sc_wishes_from.nd rfl (by first | exact Or.inl rfl | exact Or.inr rfl)) pgs_nil)))) (fun _ _ _ _ _ => (pts_one (pt_cmpR (op_ge) (pe_ix (ix_listK K) (pv 0) (pv 3) (fun _ _ => rfl)) (pv 2) (nomark _)))) (fun _ _ _ _ _ => (pv 4)))))), ?_⟩)⟩
  · obtain ⟨a, d, rooms, g, k, rfl, _⟩ := h
    rfl
  · obtain ⟨a, d, rooms, g, k, rfl, h1, h2, h3, h4, q⟩ := h
    obtain ⟨ac, ha⟩ : ∃ f : Nat → List V, ∀ i, f i = IL (wishesFrom rooms (g.take i) k) := ⟨_, fun _ => rfl⟩
    refine ⟨d, _, h2, trivial, fun od => ?_⟩
    simp only [a_tVar, a_tC, a_tOp, a_tUn, a_rI, a_rI0, a_rU, a_rEq, a_rNe, a_tTest, a_tB, a_tIsN, a_tNotN, a_tChain, a_tAnd, a_tOr, a_tNot, a_tAndV, a_tOrV, a_tNotV, a_tYes, a_tNext, a_tSeq, a_tCont, a_tBreak, a_tDrop, a_tRet, a_tIfS, a_tNever, a_gName, a_gNil, a_gCons, a_gTup, a_tAsg, a_tNil, a_tCons, a_tTup, a_tLst, a_tCB, a_tCU, a_tMU, a_tFld, a_sFld, a_tSl, a_tNoPart, a_tPart, a_rSlL, a_rSlT, a_rIxL, a_rIxT, a_rCat, a_rRep, a_rCatT, a_tDGet, a_tDIn, a_tDNotIn, a_sDPut, a_tDPop1, a_tDNewK, a_tBM, a_rAppend, a_rExtend, a_iList, a_iEnum, a_iRng1, a_iRng2, a_iVals, a_iItems, a_iRng3, a_iStr, a_tMX, a_tXf, a_wAs, a_tRaise, a_tVeI, a_tOst, a_tMkO, a_tMake, a_rSum, a_rIsi, a_tChain3, a_tAugS, a_rGetL, a_rPutL, a_ipI, a_rSet, a_tCKw, a_rMinD, a_rMin, a_rIxS, a_rSlS, a_iTup, a_rIn, a_rEqD, a_rNeD, upd_same, HO.lst.injEq, HO.tup.injEq, HO.dK.injEq, HO.frz.injEq, a_s0, a_s1, a_s2, a_s3, a_s4, a_s5, a_s6, a_s8, a_scal, a_scals, a_tFor, a_tLc, a_tWhile, a_wipe0, a_wipe1, k_cxU, w_cxU, k_blk, w_blk, and_assoc, exists_and_left, exists_eq_left, exists_eq_left', exists_eq_right, exists_eq, exists_const, List.getElem?_cons_zero, List.getElem?_cons_succ, List.set_cons_zero, List.set_cons_succ, Option.some.injEq, V.int.injEq, V.bl.injEq, V.ref.injEq, V.str.injEq, List.cons.injEq, and_true, true_and, List.cons_append, List.nil_append, List.append_nil, L2.start, List.map_cons, List.map_nil, List.length_cons, List.length_nil, List.replicate, Nat.sub_self, Nat.reduceSub, Nat.reduceAdd, Nat.zero_add, if_true, if_false, Bool.false_eq_true, Bool.true_eq_false, reduceIte, decide_eq_true_eq, Bool.not_eq_true', decide_eq_false_iff_not]
    intro D hD
    have hne : D ≠ d := fun e => by rw [e, upd_same] at hD; cases hD
    have ad : ∀ {H' : Hp}, Same (upd H d (.frz od (.dK (kI g)))) H' → SqL K H' a (IL rooms) := fun {H'} s => by
      rcases h1 with (e | ⟨o, e⟩) | e
      · exact SqL.of (s _ _ (by rw [upd_ne (ne_of e h2 fun z => nomatch z)]; exact e))
      · exact .inl (.inr ⟨o, s _ _ (by rw [upd_ne (ne_of e h2 fun z => nomatch z)]; exact e)⟩)
      · exact .inr e
    refine lc_go walk_items hD ac (ha 0) (fun _ s => locked s) ?_ ?_
    · rintro i y H3 H4 hi s hD' ⟨T, y1, y2, rfl, hT, rfl, e1, e2⟩
      obtain ⟨pr, hp, rfl, rfl⟩ := kI_get e1 e2
      obtain ⟨r0, r1⟩ := h3 pr (List.mem_of_getElem? hp)
      have s4 := s.new hT (o := .tup [.int pr.1, .int pr.2])
      have ec := wishes_snoc rooms (g.take i) pr k
      rw [← take_snoc hp] at ec
      simp only [a_tVar, a_tC, a_tOp, a_tUn, a_rI, a_rI0, a_rU, a_rEq, a_rNe, a_tTest, a_tB, a_tIsN, a_tNotN, a_tChain, a_tAnd, a_tOr, a_tNot, a_tAndV, a_tOrV, a_tNotV, a_tYes, a_tNext, a_tSeq, a_tCont, a_tBreak, a_tDrop, a_tRet, a_tIfS, a_tNever, a_gName, a_gNil, a_gCons, a_gTup, a_tAsg, a_tNil, a_tCons, a_tTup, a_tLst, a_tCB, a_tCU, a_tMU, a_tFld, a_sFld, a_tSl, a_tNoPart, a_tPart, a_rSlL, a_rSlT, a_rIxL, a_rIxT, a_rCat, a_rRep, a_rCatT, a_tDGet, a_tDIn, a_tDNotIn, a_sDPut, a_tDPop1, a_tDNewK, a_tBM, a_rAppend, a_rExtend, a_iList, a_iEnum, a_iRng1, a_iRng2, a_iVals, a_iItems, a_iRng3, a_iStr, a_tMX, a_tXf, a_wAs, a_tRaise, a_tVeI, a_tOst, a_tMkO, a_tMake, a_rSum, a_rIsi, a_tChain3, a_tAugS, a_rGetL, a_rPutL, a_ipI, a_rSet, a_tCKw, a_rMinD, a_rMin, a_rIxS, a_rSlS, a_iTup, a_rIn, a_rEqD, a_rNeD, upd_same, HO.lst.injEq, HO.tup.injEq, HO.dK.injEq, HO.frz.injEq, a_s0, a_s1, a_s2, a_s3, a_s4, a_s5, a_s6, a_s8, a_scal, a_scals, a_tFor, a_tLc, a_tWhile, a_wipe0, a_wipe1, k_cxU, w_cxU, k_blk, w_blk, and_assoc, exists_and_left, exists_eq_left, exists_eq_left', exists_eq_right, exists_eq, exists_const, List.getElem?_cons_zero, List.getElem?_cons_succ, List.set_cons_zero, List.set_cons_succ, Option.some.injEq, V.int.injEq, V.bl.injEq, V.ref.injEq, V.str.injEq, List.cons.injEq, and_true, true_and, List.cons_append, List.nil_append, List.append_nil, L2.start, List.map_cons, List.map_nil, List.length_cons, List.length_nil, List.replicate, Nat.sub_self, Nat.reduceSub, Nat.reduceAdd, Nat.zero_add, if_true, if_false, Bool.false_eq_true, Bool.true_eq_false, reduceIte, decide_eq_true_eq, Bool.not_eq_true', decide_eq_false_iff_not]
      refine ⟨_, SqT.of upd_same, rfl, _, _, rfl, _, _, rfl, rfl, ?_⟩
      simp only [a_tVar, a_tC, a_tOp, a_tUn, a_rI, a_rI0, a_rU, a_rEq, a_rNe, a_tTest, a_tB, a_tIsN, a_tNotN, a_tChain, a_tAnd, a_tOr, a_tNot, a_tAndV, a_tOrV, a_tNotV, a_tYes, a_tNext, a_tSeq, a_tCont, a_tBreak, a_tDrop, a_tRet, a_tIfS, a_tNever, a_gName, a_gNil, a_gCons, a_gTup, a_tAsg, a_tNil, a_tCons, a_tTup, a_tLst, a_tCB, a_tCU, a_tMU, a_tFld, a_sFld, a_tSl, a_tNoPart, a_tPart, a_rSlL, a_rSlT, a_rIxL, a_rIxT, a_rCat, a_rRep, a_rCatT, a_tDGet, a_tDIn, a_tDNotIn, a_sDPut, a_tDPop1, a_tDNewK, a_tBM, a_rAppend, a_rExtend, a_iList, a_iEnum, a_iRng1, a_iRng2, a_iVals, a_iItems, a_iRng3, a_iStr, a_tMX, a_tXf, a_wAs, a_tRaise, a_tVeI, a_tOst, a_tMkO, a_tMake, a_rSum, a_rIsi, a_tChain3, a_tAugS, a_rGetL, a_rPutL, a_ipI, a_rSet, a_tCKw, a_rMinD, a_rMin, a_rIxS, a_rSlS, a_iTup, a_rIn, a_rEqD, a_rNeD, upd_same, HO.lst.injEq, HO.tup.injEq, HO.dK.injEq, HO.frz.injEq, a_s0, a_s1, a_s2, a_s3, a_s4, a_s5, a_s6, a_s8, a_scal, a_scals, a_tFor, a_tLc, a_tWhile, a_wipe0, a_wipe1, k_cxU, w_cxU, k_blk, w_blk, and_assoc, exists_and_left, exists_eq_left, exists_eq_left', exists_eq_right, exists_eq, exists_const, List.getElem?_cons_zero, List.getElem?_cons_succ, List.set_cons_zero, List.set_cons_succ, Option.some.injEq, V.int.injEq, V.bl.injEq, V.ref.injEq, V.str.injEq, List.cons.injEq, and_true, true_and, List.cons_append, List.nil_append, List.append_nil, L2.start, List.map_cons, List.map_nil, List.length_cons, List.length_nil, List.replicate, Nat.sub_self, Nat.reduceSub, Nat.reduceAdd, Nat.zero_add, if_true, if_false, Bool.false_eq_true, Bool.true_eq_false, reduceIte, decide_eq_true_eq, Bool.not_eq_true', decide_eq_false_iff_not]
      refine ⟨_, ad s4, _, at_room r0 r1, _, rfl, ?_⟩
      by_cases c : k ≤ roomAt rooms pr.1
      · rw [if_pos c]
        rw [if_pos c] at ec
        refine leaf hD (get_new hD' hT) s4 (szl _ ?_) (by rw [ha, ha, ec]; exact List.map_append)
        rw [ha, List.length_map]
        have := wishes_len rooms (g.take i) k
        rw [List.length_take] at this
        omega
      · rw [if_neg c]
        rw [if_neg c, List.append_nil] at ec
        exact leafN (get_new hD' hT) s4 (by rw [ha, ha, ec])
    · intro H' s hD'
      rw [ha, show (kI g).length = g.length by simp [kI], List.take_length] at hD'
      exact ⟨locked s, q _ _ (unlock s h2) (by rw [upd_ne hne]; exact hD')⟩
theorem guest_snoc (rooms : List Int) (g : List (Int × Int)) (p : Int × Int) (k w : Int) : ((g ++ [p]).filter fun p => decide (p.2 = w) && decide (k ≤ roomAt rooms p.1)).map (·.1) =
    ((g.filter fun p => decide (p.2 = w) && decide (k ≤ roomAt rooms p.1)).map (·.1)) ++ (if p.2 = w ∧ k ≤ roomAt rooms p.1 then [p.1] else []) := by
  rw [List.filter_append, List.map_append, List.filter_cons]
  by_cases c : p.2 = w ∧ k ≤ roomAt rooms p.1
  · rw [if_pos (by simp [c]), if_pos c]; rfl
  · rw [if_neg (by simp; intro a; have := fun b => c ⟨a, b⟩; omega), if_neg c]; rfl
theorem minD_le : ∀ (r : List Int) (a : Int), (∀ x ∈ r, r.foldl (fun m x => if x < m then x else m) a ≤ x) ∧ r.foldl (fun m x => if x < m then x else m) a ≤ a
  | [], a => ⟨fun x h => absurd h (by simp), Int.le_refl _⟩
  | y :: r, a => by
    obtain ⟨h1, h2⟩ := minD_le r (if y < a then y else a)
    rw [List.foldl_cons]
    have h3 : (if y < a then y else a) ≤ y ∧ (if y < a then y else a) ≤ a := by split <;> omega
    refine ⟨fun x hx => ?_, by omega⟩
    rcases List.mem_cons.mp hx with e | e
    · rw [e]; omega
    · exact h1 x e
theorem min_uniq {d m : Int} {l : List Int} (h : m ∈ l) (hm : ∀ y ∈ l, m ≤ y) : m = NbM.minD d l := by
  cases l with
  | nil => exact absurd h (by simp)
  | cons a r =>
    have h1 := hm _ (minD_mem (d := d) (l := a :: r) (List.cons_ne_nil _ _))
    obtain ⟨q1, q2⟩ := minD_le r a
    have h2 : NbM.minD d (a :: r) ≤ m := by
      show r.foldl _ a ≤ m
      rcases List.mem_cons.mp h with e | e
      · rw [e]; exact q2
      · exact q1 m e
    omega
def sp_guest_at (K : PySem.W.Frag) : Sp := fun vs H Q _ => ∃ (a d : Addr) (rooms : List Int) (g : List (Int × Int)) (k wd : Int), vs = [.ref a, .ref d, .int k, .int wd] ∧ SqL K H a (IL rooms) ∧ H d = some (.dK (kI g)) ∧ GIn rooms g ∧ g.length ≤ 1000 ∧ Fall rooms g k wd ∧
  ∀ H', Same H H' → Q (.int (guestAt rooms g k wd)) H'
theorem sc_guest_at : FnScope ["rooms", "guests", "kind", "wished", "room", "one"] ["rooms", "guests", "kind", "wished"] (defScope s_guest_at) := ⟨rfl, rfl, rfl, by decide +kernel, rfl, by decide +kernel, by decide +kernel⟩
theorem g_guest_at (T : Txt K mg) : GF P w K mg base true 1 "guest_at" [] (sp_guest_at K) := by
  obtain ⟨fd, F⟩ := T.f_guest_at
  refine ⟨_, fd, ["rooms", "guests", "kind", "wished"], [], T.g_guest_at, F.kp, F.bindsN (fun _ _ _ _ _ _ us hl => match us, hl with | [_, _, _, _], _ => rfl), .nil, okU F sc_guest_at (fun vs H Q E h => ?_) (fun cdv A outer s H vs Q E pl hr hh hw h => ⟨_, PSs.nox (pss_one (ps_ret (pe_callB (cr_min rfl) rfl T.n_min boot_min (pa_cons (pe_lock (pe_lc rfl sc_guest_at.nd (pi_items (pv 1)) (blkOk_by (own := [("room", 4), ("one", 5)]) (by kernel_rfl)) (fun _ _ _ _ _ => (pgu_tupK (n := 2) K (Or.inl (hh rfl)) (pgs_cons (pg_name (i := 4) sc_guest_at.nd rfl (by first | exact Or.inl rfl | exact Or.inr rfl)) (pgs_cons (pg_name (i := 5) sc_guest_at.nd rfl (by first | exact Or.inl rfl | exact Or.inr rfl)) pgs_nil)))) (fun _ _ _ _ _ => (pts_one (PW.pt (pw_and (pt_cmpR (op_eq) (pv 5) (pv 3) (nomark _)) (pw_and1 (pt_cmpR (op_ge) (pe_ix (ix_listK K) (pv 0) (pv 4) (fun _ _ => rfl)) (pv 2) (nomark _))))))) (fun _ _ _ _ _ => (pv 4)))) pa_nil)))), ?_⟩)⟩
  · obtain ⟨a, d, rooms, g, k, wd, rfl, _⟩ := h
    rfl
  · obtain ⟨a, d, rooms, g, k, wd, rfl, h1, h2, h3, h4, h5, q⟩ := h
    obtain ⟨ac, ha⟩ : ∃ f : Nat → List V, ∀ i, f i = IL (((g.take i).filter fun p => decide (p.2 = wd) && decide (k ≤ roomAt rooms p.1)).map (·.1)) := ⟨_, fun _ => rfl⟩
    simp only [a_tVar, a_tC, a_tOp, a_tUn, a_rI, a_rI0, a_rU, a_rEq, a_rNe, a_tTest, a_tB, a_tIsN, a_tNotN, a_tChain, a_tAnd, a_tOr, a_tNot, a_tAndV, a_tOrV, a_tNotV, a_tYes, a_tNext, a_tSeq, a_tCont, a_tBreak, a_tDrop, a_tRet, a_tIfS, a_tNever, a_gName, a_gNil, a_gCons, a_gTup, a_tAsg, a_tNil, a_tCons, a_tTup, a_tLst, a_tCB, a_tCU, a_tMU, a_tFld, a_sFld, a_tSl, a_tNoPart, a_tPart, a_rSlL, a_rSlT, a_rIxL, a_rIxT, a_rCat, a_rRep, a_rCatT, a_tDGet, a_tDIn, a_tDNotIn, a_sDPut, a_tDPop1, a_tDNewK, a_tBM, a_rAppend, a_rExtend, a_iList, a_iEnum, a_iRng1, a_iRng2, a_iVals, a_iItems, a_iRng3, a_iStr, a_tMX, a_tXf, a_wAs, a_tRaise, a_tVeI, a_tOst, a_tMkO, a_tMake, a_rSum, a_rIsi, a_tChain3, a_tAugS, a_rGetL, a_rPutL, a_ipI, a_rSet, a_tCKw, a_rMinD, a_rMin, a_rIxS, a_rSlS, a_iTup, a_rIn, a_rEqD, a_rNeD, upd_same, HO.lst.injEq, HO.tup.injEq, HO.dK.injEq, HO.frz.injEq, a_s0, a_s1, a_s2, a_s3, a_s4, a_s5, a_s6, a_s8, a_scal, a_scals, a_tFor, a_tLc, a_tWhile, a_wipe0, a_wipe1, k_cxU, w_cxU, k_blk, w_blk, and_assoc, exists_and_left, exists_eq_left, exists_eq_left', exists_eq_right, exists_eq, exists_const, List.getElem?_cons_zero, List.getElem?_cons_succ, List.set_cons_zero, List.set_cons_succ, Option.some.injEq, V.int.injEq, V.bl.injEq, V.ref.injEq, V.str.injEq, List.cons.injEq, and_true, true_and, List.cons_append, List.nil_append, List.append_nil, L2.start, List.map_cons, List.map_nil, List.length_cons, List.length_nil, List.replicate, Nat.sub_self, Nat.reduceSub, Nat.reduceAdd, Nat.zero_add, if_true, if_false, Bool.false_eq_true, Bool.true_eq_false, reduceIte, decide_eq_true_eq, Bool.not_eq_true', decide_eq_false_iff_not]
    refine ⟨d, _, h2, trivial, fun od => ?_⟩
    simp only [a_tVar, a_tC, a_tOp, a_tUn, a_rI, a_rI0, a_rU, a_rEq, a_rNe, a_tTest, a_tB, a_tIsN, a_tNotN, a_tChain, a_tAnd, a_tOr, a_tNot, a_tAndV, a_tOrV, a_tNotV, a_tYes, a_tNext, a_tSeq, a_tCont, a_tBreak, a_tDrop, a_tRet, a_tIfS, a_tNever, a_gName, a_gNil, a_gCons, a_gTup, a_tAsg, a_tNil, a_tCons, a_tTup, a_tLst, a_tCB, a_tCU, a_tMU, a_tFld, a_sFld, a_tSl, a_tNoPart, a_tPart, a_rSlL, a_rSlT, a_rIxL, a_rIxT, a_rCat, a_rRep, a_rCatT, a_tDGet, a_tDIn, a_tDNotIn, a_sDPut, a_tDPop1, a_tDNewK, a_tBM, a_rAppend, a_rExtend, a_iList, a_iEnum, a_iRng1, a_iRng2, a_iVals, a_iItems, a_iRng3, a_iStr, a_tMX, a_tXf, a_wAs, a_tRaise, a_tVeI, a_tOst, a_tMkO, a_tMake, a_rSum, a_rIsi, a_tChain3, a_tAugS, a_rGetL, a_rPutL, a_ipI, a_rSet, a_tCKw, a_rMinD, a_rMin, a_rIxS, a_rSlS, a_iTup, a_rIn, a_rEqD, a_rNeD, upd_same, HO.lst.injEq, HO.tup.injEq, HO.dK.injEq, HO.frz.injEq, a_s0, a_s1, a_s2, a_s3, a_s4, a_s5, a_s6, a_s8, a_scal, a_scals, a_tFor, a_tLc, a_tWhile, a_wipe0, a_wipe1, k_cxU, w_cxU, k_blk, w_blk, and_assoc, exists_and_left, exists_eq_left, exists_eq_left', exists_eq_right, exists_eq, exists_const, List.getElem?_cons_zero, List.getElem?_cons_succ, List.set_cons_zero, List.set_cons_succ, Option.some.injEq, V.int.injEq, V.bl.injEq, V.ref.injEq, V.str.injEq, List.cons.injEq, and_true, true_and, List.cons_append, List.nil_append, List.append_nil, L2.start, List.map_cons, List.map_nil, List.length_cons, List.length_nil, List.replicate, Nat.sub_self, Nat.reduceSub, Nat.reduceAdd, Nat.zero_add, if_true, if_false, Bool.false_eq_true, Bool.true_eq_false, reduceIte, decide_eq_true_eq, Bool.not_eq_true', decide_eq_false_iff_not]
    intro D hD
    have hne : D ≠ d := fun e => by rw [e, upd_same] at hD; cases hD
    have ad : ∀ {H' : Hp}, Same (upd H d (.frz od (.dK (kI g)))) H' → SqL K H' a (IL rooms) := fun {H'} s => by
      rcases h1 with (e | ⟨o, e⟩) | e
      · exact SqL.of (s _ _ (by rw [upd_ne (ne_of e h2 fun z => nomatch z)]; exact e))
      · exact .inl (.inr ⟨o, s _ _ (by rw [upd_ne (ne_of e h2 fun z => nomatch z)]; exact e)⟩)
      · exact .inr e
    refine lc_go walk_items hD ac (ha 0) (fun _ s => locked s) ?_ ?_
    · rintro i y H3 H4 hi s hD' ⟨T, y1, y2, rfl, hT, rfl, e1, e2⟩
      obtain ⟨pr, hp, rfl, rfl⟩ := kI_get e1 e2
      obtain ⟨r0, r1⟩ := h3 pr (List.mem_of_getElem? hp)
      have s4 := s.new hT (o := .tup [.int pr.1, .int pr.2])
      have ec := guest_snoc rooms (g.take i) pr k wd
      rw [← take_snoc hp] at ec
      simp only [a_tVar, a_tC, a_tOp, a_tUn, a_rI, a_rI0, a_rU, a_rEq, a_rNe, a_tTest, a_tB, a_tIsN, a_tNotN, a_tChain, a_tAnd, a_tOr, a_tNot, a_tAndV, a_tOrV, a_tNotV, a_tYes, a_tNext, a_tSeq, a_tCont, a_tBreak, a_tDrop, a_tRet, a_tIfS, a_tNever, a_gName, a_gNil, a_gCons, a_gTup, a_tAsg, a_tNil, a_tCons, a_tTup, a_tLst, a_tCB, a_tCU, a_tMU, a_tFld, a_sFld, a_tSl, a_tNoPart, a_tPart, a_rSlL, a_rSlT, a_rIxL, a_rIxT, a_rCat, a_rRep, a_rCatT, a_tDGet, a_tDIn, a_tDNotIn, a_sDPut, a_tDPop1, a_tDNewK, a_tBM, a_rAppend, a_rExtend, a_iList, a_iEnum, a_iRng1, a_iRng2, a_iVals, a_iItems, a_iRng3, a_iStr, a_tMX, a_tXf, a_wAs, a_tRaise, a_tVeI, a_tOst, a_tMkO, a_tMake, a_rSum, a_rIsi, a_tChain3, a_tAugS, a_rGetL, a_rPutL, a_ipI, a_rSet, a_tCKw, a_rMinD, a_rMin, a_rIxS, a_rSlS, a_iTup, a_rIn, a_rEqD, a_rNeD, upd_same, HO.lst.injEq, HO.tup.injEq, HO.dK.injEq, HO.frz.injEq, a_s0, a_s1, a_s2, a_s3, a_s4, a_s5, a_s6, a_s8, a_scal, a_scals, a_tFor, a_tLc, a_tWhile, a_wipe0, a_wipe1, k_cxU, w_cxU, k_blk, w_blk, and_assoc, exists_and_left, exists_eq_left, exists_eq_left', exists_eq_right, exists_eq, exists_const, List.getElem?_cons_zero, List.getElem?_cons_succ, List.set_cons_zero, List.set_cons_succ, Option.some.injEq, V.int.injEq, V.bl.injEq, V.ref.injEq, V.str.injEq, List.cons.injEq, and_true, true_and, List.cons_append, List.nil_append, List.append_nil, L2.start, List.map_cons, List.map_nil, List.length_cons, List.length_nil, List.replicate, Nat.sub_self, Nat.reduceSub, Nat.reduceAdd, Nat.zero_add, if_true, if_false, Bool.false_eq_true, Bool.true_eq_false, reduceIte, decide_eq_true_eq, Bool.not_eq_true', decide_eq_false_iff_not]
      refine ⟨_, SqT.of upd_same, rfl, _, _, rfl, _, _, rfl, rfl, ?_⟩
      simp only [a_tVar, a_tC, a_tOp, a_tUn, a_rI, a_rI0, a_rU, a_rEq, a_rNe, a_tTest, a_tB, a_tIsN, a_tNotN, a_tChain, a_tAnd, a_tOr, a_tNot, a_tAndV, a_tOrV, a_tNotV, a_tYes, a_tNext, a_tSeq, a_tCont, a_tBreak, a_tDrop, a_tRet, a_tIfS, a_tNever, a_gName, a_gNil, a_gCons, a_gTup, a_tAsg, a_tNil, a_tCons, a_tTup, a_tLst, a_tCB, a_tCU, a_tMU, a_tFld, a_sFld, a_tSl, a_tNoPart, a_tPart, a_rSlL, a_rSlT, a_rIxL, a_rIxT, a_rCat, a_rRep, a_rCatT, a_tDGet, a_tDIn, a_tDNotIn, a_sDPut, a_tDPop1, a_tDNewK, a_tBM, a_rAppend, a_rExtend, a_iList, a_iEnum, a_iRng1, a_iRng2, a_iVals, a_iItems, a_iRng3, a_iStr, a_tMX, a_tXf, a_wAs, a_tRaise, a_tVeI, a_tOst, a_tMkO, a_tMake, a_rSum, a_rIsi, a_tChain3, a_tAugS, a_rGetL, a_rPutL, a_ipI, a_rSet, a_tCKw, a_rMinD, a_rMin, a_rIxS, a_rSlS, a_iTup, a_rIn, a_rEqD, a_rNeD, upd_same, HO.lst.injEq, HO.tup.injEq, HO.dK.injEq, HO.frz.injEq, a_s0, a_s1, a_s2, a_s3, a_s4, a_s5, a_s6, a_s8, a_scal, a_scals, a_tFor, a_tLc, a_tWhile, a_wipe0, a_wipe1, k_cxU, w_cxU, k_blk, w_blk, and_assoc, exists_and_left, exists_eq_left, exists_eq_left', exists_eq_right, exists_eq, exists_const, List.getElem?_cons_zero, List.getElem?_cons_succ, List.set_cons_zero, List.set_cons_succ, Option.some.injEq, V.int.injEq, V.bl.injEq, V.ref.injEq, V.str.injEq, List.cons.injEq, and_true, true_and, List.cons_append, List.nil_append, List.append_nil, L2.start, List.map_cons, List.map_nil, List.length_cons, List.length_nil, List.replicate, Nat.sub_self, Nat.reduceSub, Nat.reduceAdd, Nat.zero_add, if_true, if_false, Bool.false_eq_true, Bool.true_eq_false, reduceIte, decide_eq_true_eq, Bool.not_eq_true', decide_eq_false_iff_not]
      have no : ¬ (pr.2 = wd ∧ k ≤ roomAt rooms pr.1) → Same (upd H d (.frz od (.dK (kI g)))) (upd H3 T (.tup [.int pr.1, .int pr.2])) ∧ upd H3 T (.tup [.int pr.1, .int pr.2]) D = some (.lst (ac (i + 1))) := fun c => by
        rw [if_neg c, List.append_nil] at ec
        exact leafN (get_new hD' hT) s4 (by rw [ha, ha, ec])
      by_cases c1 : pr.2 = wd
      · rw [if_pos c1]
        refine ⟨_, ad s4, _, at_room r0 r1, _, rfl, ?_⟩
        by_cases c : k ≤ roomAt rooms pr.1
        · rw [if_pos c]
          rw [if_pos ⟨c1, c⟩] at ec
          refine leaf hD (get_new hD' hT) s4 (szl _ ?_) (by rw [ha, ha, ec]; exact List.map_append)
          rw [ha, List.length_map, List.length_map]
          have := List.length_filter_le (fun p : Int × Int => decide (p.2 = wd) && decide (k ≤ roomAt rooms p.1)) (g.take i)
          rw [List.length_take] at this
          omega
        · rw [if_neg c]
          exact no fun z => c z.2
      · rw [if_neg c1]
        exact no fun z => c1 z.1
    · intro H' s hD'
      rw [ha, show (kI g).length = g.length by simp [kI], List.take_length] at hD'
      refine ⟨locked s, _, SqL.of (by rw [upd_ne hne]; exact hD'), ?_, fun m hm hle => ?_⟩
      · obtain ⟨_, p, hp, e1, e2⟩ := h5
        exact List.length_pos_of_mem (List.mem_map.mpr ⟨p, List.mem_filter.mpr ⟨hp, by simp [e1, e2]⟩, rfl⟩)
      · rw [show m = guestAt rooms g k wd from min_uniq hm hle]
        exact q _ (unlock s h2)
/-! ### falls_of -/
def sp_falls_of (K : PySem.W.Frag) : Sp := fun vs H Q _ => ∃ (a d : Addr) (rooms : List Int) (g : List (Int × Int)) (k : Int), vs = [.ref a, .ref d, .int k] ∧ SqL K H a (IL rooms) ∧ H d = some (.dK (kI g)) ∧ GIn rooms g ∧ g.length ≤ 1000 ∧ (∀ q ∈ g, 1 ≤ q.2) ∧ 1 ≤ k ∧ k ≤ 1000 ∧
  ∀ H' p, Same H H' → H' p = some (.lst (IL (fallsGo rooms g k.toNat k))) → Q (.ref p) H'
theorem sc_falls_of : FnScope ["rooms", "guests", "kind", "falls", "least"] ["rooms", "guests", "kind"] (defScope s_falls_of) := ⟨rfl, rfl, rfl, by decide +kernel, rfl, by decide +kernel, by decide +kernel⟩
theorem g_falls_of (T : Txt K mg) : GF P w K mg base true 2 "falls_of" [] (sp_falls_of K) := by
  obtain ⟨fd, F⟩ := T.f_falls_of
  refine ⟨_, fd, ["rooms", "guests", "kind"], [], T.g_falls_of, F.kp, F.bindsN (fun _ _ _ _ _ _ us hl => match us, hl with | [_, _, _], _ => rfl), .nil, okU F sc_falls_of (fun vs H Q E h => ?_) (fun cdv A outer s H vs Q E pl hr hh hw h => ⟨_, PSs.nox (pss_cons (ps_set (i := 3) sc_falls_of.nd rfl (by first | exact Or.inl rfl | exact Or.inr rfl) (pe_lst (pa_cons (pv 2) pa_nil)))
      (pss_cons (ps_while PassesOwn.never (pt_cmp (pc_isN (pe_cu (g_free_from T) (hr.mono (by decide)) hw (fun _ => hh rfl) rfl (pa_cons (pv 0) (pa_cons (pv 1) (pa_cons (pe_ix (ix_listK K) (pv 3) (pe_un un_neg pe_int) (fun _ _ => rfl)) pa_nil)))))) (pss_cons (ps_set (i := 4) sc_falls_of.nd rfl (by first | exact Or.inl rfl | exact Or.inr rfl) (pe_callBK (call_minD rfl (hu3 hr)) rfl T.n_min boot_min (pa_cons (pe_cu (g_wishes_from T) (hr.mono (by decide)) hw (fun _ => hh rfl) rfl (pa_cons (pv 0) (pa_cons (pv 1) (pa_cons (pe_ix (ix_listK K) (pv 3) (pe_un un_neg pe_int) (fun _ _ => rfl)) pa_nil)))) pa_nil) (pk_cons (pe_ix (ix_listK K) (pv 3) (pe_un un_neg pe_int) (fun _ _ => rfl)) pk_nil)))
      (pss_cons (ps_if (pt_cmpR (op_ge) (pv 4) (pe_ix (ix_listK K) (pv 3) (pe_un un_neg pe_int) (fun _ _ => rfl)) (nomark _)) (pss_one (ps_ret (pv 3))) pss_nil)
      (pss_one (ps_expr (pe_bm PySem.F.plainAttrs_list PySem.F.slot_list_append PySem.F.type_list_append mt_append (pv 3) (pa_cons (pv 4) pa_nil)))))))
      (pss_one (ps_ret (pv 3))))), ?_⟩)⟩
  · obtain ⟨a, d, rooms, g, k, rfl, _⟩ := h
    rfl
  · obtain ⟨a, d, rooms, g, k, rfl, h1, h2, h3, h4, h5, h6, h7, q⟩ := h
    simp only [a_tVar, a_tC, a_tOp, a_tUn, a_rI, a_rI0, a_rU, a_rEq, a_rNe, a_tTest, a_tB, a_tIsN, a_tNotN, a_tChain, a_tAnd, a_tOr, a_tNot, a_tAndV, a_tOrV, a_tNotV, a_tYes, a_tNext, a_tSeq, a_tCont, a_tBreak, a_tDrop, a_tRet, a_tIfS, a_tNever, a_gName, a_gNil, a_gCons, a_gTup, a_tAsg, a_tNil, a_tCons, a_tTup, a_tLst, a_tCB, a_tCU, a_tMU, a_tFld, a_sFld, a_tSl, a_tNoPart, a_tPart, a_rSlL, a_rSlT, a_rIxL, a_rIxT, a_rCat, a_rRep, a_rCatT, a_tDGet, a_tDIn, a_tDNotIn, a_sDPut, a_tDPop1, a_tDNewK, a_tBM, a_rAppend, a_rExtend, a_iList, a_iEnum, a_iRng1, a_iRng2, a_iVals, a_iItems, a_iRng3, a_iStr, a_tMX, a_tXf, a_wAs, a_tRaise, a_tVeI, a_tOst, a_tMkO, a_tMake, a_rSum, a_rIsi, a_tChain3, a_tAugS, a_rGetL, a_rPutL, a_ipI, a_rSet, a_tCKw, a_rMinD, a_rMin, a_rIxS, a_rSlS, a_iTup, a_rIn, a_rEqD, a_rNeD, upd_same, HO.lst.injEq, HO.tup.injEq, HO.dK.injEq, HO.frz.injEq, a_s0, a_s1, a_s2, a_s3, a_s4, a_s5, a_s6, a_s8, a_scal, a_scals, a_tFor, a_tLc, a_tWhile, a_wipe0, a_wipe1, k_cxU, w_cxU, k_blk, w_blk, and_assoc, exists_and_left, exists_eq_left, exists_eq_left', exists_eq_right, exists_eq, exists_const, List.getElem?_cons_zero, List.getElem?_cons_succ, List.set_cons_zero, List.set_cons_succ, Option.some.injEq, V.int.injEq, V.bl.injEq, V.ref.injEq, V.str.injEq, List.cons.injEq, and_true, true_and, List.cons_append, List.nil_append, List.append_nil, L2.start, List.map_cons, List.map_nil, List.length_cons, List.length_nil, List.replicate, Nat.sub_self, Nat.reduceSub, Nat.reduceAdd, Nat.zero_add, if_true, if_false, Bool.false_eq_true, Bool.true_eq_false, reduceIte, decide_eq_true_eq, Bool.not_eq_true', decide_eq_false_iff_not]
    intro p hp
    have s1 := (Same.rfl' (H := H)).new hp (o := .lst [.int k])
    refine while_go (fun m σ H' => Same H H' ∧ ∃ pre c u, σ = [some (.ref a), some (.ref d), some (.int k), some (.ref p), u] ∧ H' p = some (.lst (IL (pre ++ [c]))) ∧ fallsGo rooms g k.toNat k = pre ++ fallsGo rooms g m c ∧ c ≤ m ∧ pre.length + m ≤ 1000) k.toNat ⟨s1, [], k, none, rfl, upd_same, rfl, by omega, by simp; omega⟩ ?_
    rintro m σ H2 ⟨s2, pre, c, u, rfl, hp2, he, hc, hm⟩
    simp only [a_tVar, a_tC, a_tOp, a_tUn, a_rI, a_rI0, a_rU, a_rEq, a_rNe, a_tTest, a_tB, a_tIsN, a_tNotN, a_tChain, a_tAnd, a_tOr, a_tNot, a_tAndV, a_tOrV, a_tNotV, a_tYes, a_tNext, a_tSeq, a_tCont, a_tBreak, a_tDrop, a_tRet, a_tIfS, a_tNever, a_gName, a_gNil, a_gCons, a_gTup, a_tAsg, a_tNil, a_tCons, a_tTup, a_tLst, a_tCB, a_tCU, a_tMU, a_tFld, a_sFld, a_tSl, a_tNoPart, a_tPart, a_rSlL, a_rSlT, a_rIxL, a_rIxT, a_rCat, a_rRep, a_rCatT, a_tDGet, a_tDIn, a_tDNotIn, a_sDPut, a_tDPop1, a_tDNewK, a_tBM, a_rAppend, a_rExtend, a_iList, a_iEnum, a_iRng1, a_iRng2, a_iVals, a_iItems, a_iRng3, a_iStr, a_tMX, a_tXf, a_wAs, a_tRaise, a_tVeI, a_tOst, a_tMkO, a_tMake, a_rSum, a_rIsi, a_tChain3, a_tAugS, a_rGetL, a_rPutL, a_ipI, a_rSet, a_tCKw, a_rMinD, a_rMin, a_rIxS, a_rSlS, a_iTup, a_rIn, a_rEqD, a_rNeD, upd_same, HO.lst.injEq, HO.tup.injEq, HO.dK.injEq, HO.frz.injEq, a_s0, a_s1, a_s2, a_s3, a_s4, a_s5, a_s6, a_s8, a_scal, a_scals, a_tFor, a_tLc, a_tWhile, a_wipe0, a_wipe1, k_cxU, w_cxU, k_blk, w_blk, and_assoc, exists_and_left, exists_eq_left, exists_eq_left', exists_eq_right, exists_eq, exists_const, List.getElem?_cons_zero, List.getElem?_cons_succ, List.set_cons_zero, List.set_cons_succ, Option.some.injEq, V.int.injEq, V.bl.injEq, V.ref.injEq, V.str.injEq, List.cons.injEq, and_true, true_and, List.cons_append, List.nil_append, List.append_nil, L2.start, List.map_cons, List.map_nil, List.length_cons, List.length_nil, List.replicate, Nat.sub_self, Nat.reduceSub, Nat.reduceAdd, Nat.zero_add, if_true, if_false, Bool.false_eq_true, Bool.true_eq_false, reduceIte, decide_eq_true_eq, Bool.not_eq_true', decide_eq_false_iff_not]
    have gl : ∀ {H' : Hp}, H' p = some (.lst (IL (pre ++ [c]))) → SqL K H' p (IL pre ++ [.int c]) := fun {H'} z => SqL.of (by rw [z]; exact congrArg (fun l => some (HO.lst l)) List.map_append)
    refine ⟨_, gl hp2, _, atI_last _ _, a, d, rooms, g, c, rfl, Same.seq s2 h1, s2 _ _ h2, fun H3 s3 => ?_⟩
    have s23 := s2.tr s3
    have hp3 := s3 _ _ hp2
    cases hf : freeFrom rooms g c with
    | some r =>
      dsimp only
      rw [if_neg (show ¬ optV (some r) = V.non from fun z => V.noConfusion z)]
      have e1 : fallsGo rooms g m c = [c] := by
        cases m with
        | zero => rfl
        | succ n =>
          show (if freeFrom rooms g c = none then _ else [c]) = [c]
          rw [if_neg (by rw [hf]; exact fun z => Option.some_ne_none _ z)]
      exact q _ _ s23 (by rw [he, e1]; exact hp3)
    | none =>
      dsimp only
      rw [if_pos (show optV none = V.non from rfl)]
      refine ⟨fun σ' H' => ∃ m', m' < m ∧ Same H H' ∧ ∃ pre c u, σ' = [some (.ref a), some (.ref d), some (.int k), some (.ref p), u] ∧ H' p = some (.lst (IL (pre ++ [c]))) ∧ fallsGo rooms g k.toNat k = pre ++ fallsGo rooms g m' c ∧ c ≤ m' ∧ pre.length + m' ≤ 1000, fun _ _ h => h, ?_⟩
      refine ⟨_, gl hp3, _, atI_last _ _, a, d, rooms, g, c, rfl, Same.seq s23 h1, s23 _ _ h2, h3, h4, fun H4 p4 s4 hp4 => ?_⟩
      have s24 := s23.tr s4
      have hp4' := s4 _ _ hp3
      refine ⟨_, gl hp4', _, atI_last _ _, p4, rfl, wishesFrom rooms g c, c, rfl, SqL.of hp4, _, gl hp4', _, atI_last _ _, c, rfl, ?_⟩
      by_cases le : c ≤ NbM.minD c (wishesFrom rooms g c)
      · rw [if_pos le]
        have e1 : fallsGo rooms g m c = [c] := by
          cases m with
          | zero => rfl
          | succ n =>
            show (if freeFrom rooms g c = none then (if c ≤ NbM.minD c (wishesFrom rooms g c) then [c] else _) else [c]) = [c]
            rw [if_pos hf, if_pos le]
        exact q _ _ s24 (by rw [he, e1]; exact hp4')
      · rw [if_neg le]
        obtain ⟨lt, pr, hpr, e2, e3⟩ := fall_step le
        have := h5 pr hpr
        cases m with
        | zero => omega
        | succ n =>
          have e1 : fallsGo rooms g (n + 1) c = c :: fallsGo rooms g n (NbM.minD c (wishesFrom rooms g c)) := by
            show (if freeFrom rooms g c = none then (if c ≤ NbM.minD c (wishesFrom rooms g c) then [c] else _) else [c]) = _
            rw [if_pos hf, if_neg le]
          refine ⟨tyL hp4', _, hp4', szl _ (by simp; omega), n, Nat.lt_succ_self n, s24.put hp, pre ++ [c], NbM.minD c (wishesFrom rooms g c), _, rfl, ?_, ?_, by omega, by simp; omega⟩
          · rw [upd_same]
            exact congrArg (fun l => some (HO.lst l)) (List.map_append (f := V.int) (l₁ := pre ++ [c]) (l₂ := [NbM.minD c (wishesFrom rooms g c)])).symm
          · rw [he, e1, List.append_assoc]
            rfl
/-! ### admitted -/
def MsAt (K : PySem.W.Frag) (H : Hp) (vs : List V) (ms : List (Int × Int)) : Prop := Paired (fun (v : V) (m : Int × Int) => ∃ a : Addr, v = .ref a ∧ Tu K H a [.int m.1, .int m.2]) vs ms
theorem MsAt.keep {H H' : Hp} {vs : List V} {ms : List (Int × Int)} (h : MsAt K H vs ms) (s : Tups H H') : MsAt K H' vs ms := Paired.mapP h fun v m ⟨a, e, t⟩ => ⟨a, e, t.keep s⟩
def AdmAt (K : PySem.W.Frag) (H0 H : Hp) (p : Addr) (rooms : List Int) (g : List (Int × Int)) (k : Int) : Prop :=
  match freeFrom rooms g (lastD k (fallsGo rooms g k.toNat k)) with
  | none => Tu K H p [.str "full", .int (lastD k (fallsGo rooms g k.toNat k))]
  | some free => ∃ (m f : Addr) (ms : List V), H0 m = none ∧ Tu K H p [.str "in", .ref m, .int (movesGo rooms g (fallsGo rooms g k.toNat k).reverse free).2, .ref f] ∧ H m = some (.lst ms) ∧ MsAt K H ms (movesGo rooms g (fallsGo rooms g k.toNat k).reverse free).1
theorem falls_len (rooms : List Int) (g : List (Int × Int)) : ∀ (n : Nat) (k : Int), (fallsGo rooms g n k).length ≤ n + 1
  | 0, k => Nat.le_refl _
  | n + 1, k => by
    unfold fallsGo
    have := falls_len rooms g n (NbM.minD k (wishesFrom rooms g k))
    split
    · split
      · simp
      · rw [List.length_cons]; omega
    · simp
theorem moves_cons (rooms : List Int) (g : List (Int × Int)) (w k : Int) (r : List Int) (free : Int) : movesGo rooms g (w :: k :: r) free = ((guestAt rooms g k w, free) :: (movesGo rooms g (k :: r) (guestAt rooms g k w)).1, (movesGo rooms g (k :: r) (guestAt rooms g k w)).2) := rfl
theorem moves_one (rooms : List Int) (g : List (Int × Int)) (w : Int) (free : Int) : movesGo rooms g [w] free = ([], free) := rfl
def sp_admitted (K : PySem.W.Frag) : Sp := fun vs H Q _ => ∃ (a d : Addr) (h : Hs Str) (g : List (Int × Int)) (k : Int), vs = [.ref a, .ref d, .int k] ∧ SqL K H a (IL h.rooms) ∧ H d = some (.dK (kI g)) ∧ GOk h g ∧ g.length ≤ 1000 ∧ 1 ≤ k ∧ k ≤ 900 ∧
  ∀ H' p, Same H H' → AdmAt K H H' p h.rooms g k → Q (.ref p) H'
theorem sc_admitted : FnScope ["rooms", "guests", "kind", "falls", "free", "moves", "k", "room"] ["rooms", "guests", "kind"] (defScope s_admitted) := ⟨rfl, rfl, rfl, by decide +kernel, rfl, by decide +kernel, by decide +kernel⟩
theorem g_admitted (T : Txt K mg) : GF P w K mg base true 3 "admitted" [] (sp_admitted K) := by
  obtain ⟨fd, F⟩ := T.f_admitted
  refine ⟨_, fd, ["rooms", "guests", "kind"], [], T.g_admitted, F.kp, F.bindsN (fun _ _ _ _ _ _ us hl => match us, hl with | [_, _, _], _ => rfl), .nil, okU F sc_admitted (fun vs H Q E h => ?_) (fun cdv A outer s H vs Q E pl hr hh hw h => ⟨_, PSs.nox (pss_cons (ps_set (i := 3) sc_admitted.nd rfl (by first | exact Or.inl rfl | exact Or.inr rfl) (pe_cu (g_falls_of T) (hr.mono (by decide)) hw (fun _ => hh rfl) rfl (pa_cons (pv 0) (pa_cons (pv 1) (pa_cons (pv 2) pa_nil)))))
      (pss_cons (ps_set (i := 4) sc_admitted.nd rfl (by first | exact Or.inl rfl | exact Or.inr rfl) (pe_cu (g_free_from T) (hr.mono (by decide)) hw (fun _ => hh rfl) rfl (pa_cons (pv 0) (pa_cons (pv 1) (pa_cons (pe_ix (ix_listK K) (pv 3) (pe_un un_neg pe_int) (fun _ _ => rfl)) pa_nil)))))
      (pss_cons (ps_if (pt_cmp (pc_isN (pv 4))) (pss_one (ps_ret (pe_tup (pa_cons pe_str (pa_cons (pe_ix (ix_listK K) (pv 3) (pe_un un_neg pe_int) (fun _ _ => rfl)) pa_nil))))) pss_nil)
      (pss_cons (ps_set (i := 5) sc_admitted.nd rfl (by first | exact Or.inl rfl | exact Or.inr rfl) (pe_lst pa_nil))
      (pss_cons (ps_for PassesOwn.never rfl (pi_range3 rfl T.n_range (pa_cons (pe_op op_sub (pe_callB (len_seqK K) rfl T.n_len boot_len (pa_cons (pv 3) pa_nil)) pe_int) (pa_cons pe_int (pa_cons (pe_un un_neg pe_int) pa_nil)))) (pg_name (i := 6) sc_admitted.nd rfl (by first | exact Or.inl rfl | exact Or.inr rfl)) (pss_cons (ps_set (i := 7) sc_admitted.nd rfl (by first | exact Or.inl rfl | exact Or.inr rfl) (pe_cu (g_guest_at T) (hr.mono (by decide)) hw (fun _ => hh rfl) rfl (pa_cons (pv 0) (pa_cons (pv 1) (pa_cons (pe_ix (ix_listK K) (pv 3) (pe_op op_sub (pv 6) pe_int) (fun _ _ => rfl)) (pa_cons (pe_ix (ix_listK K) (pv 3) (pv 6) (fun _ _ => rfl)) pa_nil))))))
      (pss_cons (ps_expr (pe_bm PySem.F.plainAttrs_list PySem.F.slot_list_append PySem.F.type_list_append mt_append (pv 5) (pa_cons (pe_tup (pa_cons (pv 7) (pa_cons (pv 4) pa_nil))) pa_nil)))
      (pss_one (ps_set (i := 4) sc_admitted.nd rfl (by first | exact Or.inl rfl | exact Or.inr rfl) (pv 7))))))
      (pss_one (ps_ret (pe_tup (pa_cons pe_str (pa_cons (pv 5) (pa_cons (pv 4) (pa_cons (pv 3) pa_nil)))))))))))), ?_⟩)⟩
  · obtain ⟨a, d, h, g, k, rfl, _⟩ := h
    rfl
  · obtain ⟨a, d, h, g, k, rfl, h1, h2, h3, h4, h5, h6, q⟩ := h
    simp only [a_tVar, a_tC, a_tOp, a_tUn, a_rI, a_rI0, a_rU, a_rEq, a_rNe, a_tTest, a_tB, a_tIsN, a_tNotN, a_tChain, a_tAnd, a_tOr, a_tNot, a_tAndV, a_tOrV, a_tNotV, a_tYes, a_tNext, a_tSeq, a_tCont, a_tBreak, a_tDrop, a_tRet, a_tIfS, a_tNever, a_gName, a_gNil, a_gCons, a_gTup, a_tAsg, a_tNil, a_tCons, a_tTup, a_tLst, a_tCB, a_tCU, a_tMU, a_tFld, a_sFld, a_tSl, a_tNoPart, a_tPart, a_rSlL, a_rSlT, a_rIxL, a_rIxT, a_rCat, a_rRep, a_rCatT, a_tDGet, a_tDIn, a_tDNotIn, a_sDPut, a_tDPop1, a_tDNewK, a_tBM, a_rAppend, a_rExtend, a_iList, a_iEnum, a_iRng1, a_iRng2, a_iVals, a_iItems, a_iRng3, a_iStr, a_tMX, a_tXf, a_wAs, a_tRaise, a_tVeI, a_tOst, a_tMkO, a_tMake, a_rSum, a_rIsi, a_tChain3, a_tAugS, a_rGetL, a_rPutL, a_ipI, a_rSet, a_tCKw, a_rMinD, a_rMin, a_rIxS, a_rSlS, a_iTup, a_rIn, a_rEqD, a_rNeD, upd_same, HO.lst.injEq, HO.tup.injEq, HO.dK.injEq, HO.frz.injEq, a_s0, a_s1, a_s2, a_s3, a_s4, a_s5, a_s6, a_s8, a_scal, a_scals, a_tFor, a_tLc, a_tWhile, a_wipe0, a_wipe1, k_cxU, w_cxU, k_blk, w_blk, and_assoc, exists_and_left, exists_eq_left, exists_eq_left', exists_eq_right, exists_eq, exists_const, List.getElem?_cons_zero, List.getElem?_cons_succ, List.set_cons_zero, List.set_cons_succ, Option.some.injEq, V.int.injEq, V.bl.injEq, V.ref.injEq, V.str.injEq, List.cons.injEq, and_true, true_and, List.cons_append, List.nil_append, List.append_nil, L2.start, List.map_cons, List.map_nil, List.length_cons, List.length_nil, List.replicate, Nat.sub_self, Nat.reduceSub, Nat.reduceAdd, Nat.zero_add, if_true, if_false, Bool.false_eq_true, Bool.true_eq_false, reduceIte, decide_eq_true_eq, Bool.not_eq_true', decide_eq_false_iff_not]
    have gi : GIn h.rooms g := fun q hq => ⟨(h3.at_ q hq).2.1, (h3.at_ q hq).2.2.1⟩
    refine ⟨a, d, h.rooms, g, k, rfl, h1, h2, gi, h4, fun q hq => (h3.at_ q hq).2.2.2, h5, by omega, fun H1 p s1 hp => ?_⟩
    obtain ⟨hfa, hhd⟩ := falls_ok h.rooms g k.toNat k
    have hlen := falls_len h.rooms g k.toNat k
    unfold AdmAt at q
    generalize fallsGo h.rooms g k.toNat k = fs at *
    obtain ⟨ini, c, rfl⟩ : ∃ ini c, fs = ini ++ [c] := by
      rcases List.eq_nil_or_concat fs with e | ⟨i, c, e⟩
      · rw [e] at hhd; cases hhd
      · exact ⟨i, c, by rw [e]; simp⟩
    have hlast : lastD k (ini ++ [c]) = c := by simp [lastD]
    rw [hlast] at q
    have ea : atI (IL (ini ++ [c])) (-1) = some (.int c) := by rw [show IL (ini ++ [c]) = IL ini ++ [.int c] from List.map_append]; exact atI_last _ _
    refine ⟨p, rfl, _, SqL.of hp, _, ea, a, d, h.rooms, g, c, rfl, Same.seq s1 h1, s1 _ _ h2, fun H2 s2 => ?_⟩
    dsimp only
    have s12 := s1.tr s2
    have hp2 := s2 _ _ hp
    cases hf : freeFrom h.rooms g c with
    | none =>
      rw [if_pos (show optV none = V.non from rfl)]
      rw [hf] at q
      exact ⟨p, rfl, _, SqL.of hp2, _, ea, fun r hr => q _ r (s12.new hr) (.inl upd_same)⟩
    | some free =>
      rw [if_neg (show ¬ optV (some free) = V.non from fun z => V.noConfusion z)]
      rw [hf] at q
      dsimp only at q
      obtain ⟨f0, f1⟩ := free_rng hf
      intro m hm
      have s3 := s12.new hm (o := .lst [])
      have hm0 : H m = none := Same.free s12 hm
      have hpm : p ≠ m := fun e => by rw [e, hm] at hp2; cases hp2
      have hp3 : upd H2 m (.lst []) p = some (.lst (IL (ini ++ [c]))) := get_new hp2 hm
      have hL : (IL (ini ++ [c])).length = (ini ++ [c]).length := by simp
      refine ⟨p, rfl, _, .inl (SqL.of hp3), _, RgC.neg (by omega) (by omega) (by omega) (by omega), ?_⟩
      have hpos : 0 < (ini ++ [c]).length := by simp
      have gs : ∀ (i j : Nat), i + j + 1 = (ini ++ [c]).length → ∀ {w}, (ini ++ [c]).reverse[i]? = some w → (IL (ini ++ [c]))[j]? = some (.int w) := fun i j hij w hw => by
        rw [List.getElem?_map]
        rw [List.getElem?_reverse (by omega), show (ini ++ [c]).length - 1 - i = j by omega] at hw
        rw [hw]
        rfl
      generalize hfs : ini ++ [c] = fs at *
      refine for_go walk_rangeC (fun i σ H' => Same H H' ∧ ∃ (ms : List V) (mi : List (Int × Int)) (fr : Int) (u v : Option V), σ = [some (.ref a), some (.ref d), some (.int k), some (.ref p), some (.int fr), some (.ref m), u, v] ∧ H' p = some (.lst (IL fs)) ∧ H' m = some (.lst ms) ∧ MsAt K H' ms mi ∧ mi.length = i ∧
        movesGo h.rooms g fs.reverse free = (mi ++ (movesGo h.rooms g (fs.reverse.drop i) fr).1, (movesGo h.rooms g (fs.reverse.drop i) fr).2) ∧ ∃ l, Falls h.rooms g l ∧ l.reverse = fs.reverse.drop i) ⟨s3, [], [], free, none, none, rfl, hp3, upd_same, .nil, rfl, rfl, fs, hfa, rfl⟩ (fun _ _ _ _ _ => trivial) ?_ ?_
      · rintro i y σ H3 H4 hi ⟨s4, ms, mi, fr, u, v, rfl, e1, e2, e3, e4, e5, l, hl, e6⟩ ⟨rfl, rfl⟩
        rw [hL] at hi
        have hr : fs.reverse.length = fs.length := List.length_reverse
        obtain ⟨w1, hw1⟩ : ∃ w, fs.reverse[i]? = some w := ⟨_, List.getElem?_eq_getElem (by omega)⟩
        obtain ⟨k1, hk1⟩ : ∃ w, fs.reverse[i + 1]? = some w := ⟨_, List.getElem?_eq_getElem (by omega)⟩
        have d1 : fs.reverse.drop i = w1 :: k1 :: fs.reverse.drop (i + 2) := by
          rw [List.drop_eq_getElem_cons (by omega), List.drop_eq_getElem_cons (by omega)]
          rw [List.getElem?_eq_getElem (by omega)] at hw1 hk1
          rw [Option.some.inj hw1, Option.some.inj hk1]
        have d2 : fs.reverse.drop (i + 1) = k1 :: fs.reverse.drop (i + 2) := by
          rw [List.drop_eq_getElem_cons (by omega)]
          rw [List.getElem?_eq_getElem (by omega)] at hk1
          rw [Option.some.inj hk1]
        rw [d1] at e6 e5
        obtain ⟨fl, l', hl', e7⟩ := falls_rev hl _ _ _ e6
        have j1 := gs i (fs.length - 1 - i) (by omega) hw1
        have j2 := gs (i + 1) (fs.length - 2 - i) (by omega) hk1
        simp only [a_tVar, a_tC, a_tOp, a_tUn, a_rI, a_rI0, a_rU, a_rEq, a_rNe, a_tTest, a_tB, a_tIsN, a_tNotN, a_tChain, a_tAnd, a_tOr, a_tNot, a_tAndV, a_tOrV, a_tNotV, a_tYes, a_tNext, a_tSeq, a_tCont, a_tBreak, a_tDrop, a_tRet, a_tIfS, a_tNever, a_gName, a_gNil, a_gCons, a_gTup, a_tAsg, a_tNil, a_tCons, a_tTup, a_tLst, a_tCB, a_tCU, a_tMU, a_tFld, a_sFld, a_tSl, a_tNoPart, a_tPart, a_rSlL, a_rSlT, a_rIxL, a_rIxT, a_rCat, a_rRep, a_rCatT, a_tDGet, a_tDIn, a_tDNotIn, a_sDPut, a_tDPop1, a_tDNewK, a_tBM, a_rAppend, a_rExtend, a_iList, a_iEnum, a_iRng1, a_iRng2, a_iVals, a_iItems, a_iRng3, a_iStr, a_tMX, a_tXf, a_wAs, a_tRaise, a_tVeI, a_tOst, a_tMkO, a_tMake, a_rSum, a_rIsi, a_tChain3, a_tAugS, a_rGetL, a_rPutL, a_ipI, a_rSet, a_tCKw, a_rMinD, a_rMin, a_rIxS, a_rSlS, a_iTup, a_rIn, a_rEqD, a_rNeD, upd_same, HO.lst.injEq, HO.tup.injEq, HO.dK.injEq, HO.frz.injEq, a_s0, a_s1, a_s2, a_s3, a_s4, a_s5, a_s6, a_s8, a_scal, a_scals, a_tFor, a_tLc, a_tWhile, a_wipe0, a_wipe1, k_cxU, w_cxU, k_blk, w_blk, and_assoc, exists_and_left, exists_eq_left, exists_eq_left', exists_eq_right, exists_eq, exists_const, List.getElem?_cons_zero, List.getElem?_cons_succ, List.set_cons_zero, List.set_cons_succ, Option.some.injEq, V.int.injEq, V.bl.injEq, V.ref.injEq, V.str.injEq, List.cons.injEq, and_true, true_and, List.cons_append, List.nil_append, List.append_nil, L2.start, List.map_cons, List.map_nil, List.length_cons, List.length_nil, List.replicate, Nat.sub_self, Nat.reduceSub, Nat.reduceAdd, Nat.zero_add, if_true, if_false, Bool.false_eq_true, Bool.true_eq_false, reduceIte, decide_eq_true_eq, Bool.not_eq_true', decide_eq_false_iff_not]
        rw [hL]
        refine ⟨_, SqL.of e1, _, atI_n (fs.length - 2 - i) (by omega) j2, _, SqL.of e1, _, atI_n (fs.length - 1 - i) (by omega) j1, a, d, h.rooms, g, k1, w1, rfl, Same.seq s4 h1, s4 _ _ h2, gi, h4, fl, fun H5 s5 => ?_⟩
        have s45 := s4.tr s5
        have g2 := s5 _ _ e2
        refine ⟨tyL g2, fun t ht => ?_⟩
        have hmt : m ≠ t := fun e => by rw [e, ht] at g2; cases g2
        have hpt : p ≠ t := fun e => by rw [← e, s5 _ _ e1] at ht; cases ht
        have ml := Paired.length e3
        refine ⟨_, get_new g2 ht, szl _ (by omega), (s45.new ht).put hm0, _, mi ++ [(guestAt h.rooms g k1 w1, fr)], _, rfl, ?_, rfl, ?_, by simp [e4], ?_, l', hl', by rw [e7, d2]⟩
        · rw [upd_ne hpm, upd_ne hpt]; exact s5 _ _ e1
        · have tp : Tups (upd H5 t (.tup [.int (guestAt h.rooms g k1 w1), .int fr])) (upd (upd H5 t (.tup [.int (guestAt h.rooms g k1 w1), .int fr])) m (.lst (ms ++ [.ref t]))) := tups_put (get_new g2 ht) (fun _ z => nomatch z)
          exact paired_snoc ((e3.keep s5.tups).keep ((Same.rfl'.new ht).tups.tr tp)) ⟨t, rfl, .inl (tp _ _ upd_same)⟩
        · rw [e5, d2, moves_cons]
          simp
      · rintro σ H3 ⟨s4, ms, mi, fr, u, v, rfl, e1, e2, e3, e4, e5, l, hl, e6⟩
        simp only [a_tVar, a_tC, a_tOp, a_tUn, a_rI, a_rI0, a_rU, a_rEq, a_rNe, a_tTest, a_tB, a_tIsN, a_tNotN, a_tChain, a_tAnd, a_tOr, a_tNot, a_tAndV, a_tOrV, a_tNotV, a_tYes, a_tNext, a_tSeq, a_tCont, a_tBreak, a_tDrop, a_tRet, a_tIfS, a_tNever, a_gName, a_gNil, a_gCons, a_gTup, a_tAsg, a_tNil, a_tCons, a_tTup, a_tLst, a_tCB, a_tCU, a_tMU, a_tFld, a_sFld, a_tSl, a_tNoPart, a_tPart, a_rSlL, a_rSlT, a_rIxL, a_rIxT, a_rCat, a_rRep, a_rCatT, a_tDGet, a_tDIn, a_tDNotIn, a_sDPut, a_tDPop1, a_tDNewK, a_tBM, a_rAppend, a_rExtend, a_iList, a_iEnum, a_iRng1, a_iRng2, a_iVals, a_iItems, a_iRng3, a_iStr, a_tMX, a_tXf, a_wAs, a_tRaise, a_tVeI, a_tOst, a_tMkO, a_tMake, a_rSum, a_rIsi, a_tChain3, a_tAugS, a_rGetL, a_rPutL, a_ipI, a_rSet, a_tCKw, a_rMinD, a_rMin, a_rIxS, a_rSlS, a_iTup, a_rIn, a_rEqD, a_rNeD, upd_same, HO.lst.injEq, HO.tup.injEq, HO.dK.injEq, HO.frz.injEq, a_s0, a_s1, a_s2, a_s3, a_s4, a_s5, a_s6, a_s8, a_scal, a_scals, a_tFor, a_tLc, a_tWhile, a_wipe0, a_wipe1, k_cxU, w_cxU, k_blk, w_blk, and_assoc, exists_and_left, exists_eq_left, exists_eq_left', exists_eq_right, exists_eq, exists_const, List.getElem?_cons_zero, List.getElem?_cons_succ, List.set_cons_zero, List.set_cons_succ, Option.some.injEq, V.int.injEq, V.bl.injEq, V.ref.injEq, V.str.injEq, List.cons.injEq, and_true, true_and, List.cons_append, List.nil_append, List.append_nil, L2.start, List.map_cons, List.map_nil, List.length_cons, List.length_nil, List.replicate, Nat.sub_self, Nat.reduceSub, Nat.reduceAdd, Nat.zero_add, if_true, if_false, Bool.false_eq_true, Bool.true_eq_false, reduceIte, decide_eq_true_eq, Bool.not_eq_true', decide_eq_false_iff_not]
        intro r hr
        have hmr : m ≠ r := fun e => by rw [e, hr] at e2; cases e2
        have : (((IL fs).length : Int) - 1 - 0).toNat = fs.length - 1 := by rw [hL]; omega
        rw [this] at e5
        have d1 : ∃ x, fs.reverse.drop (fs.length - 1) = [x] := by
          have : (fs.reverse.drop (fs.length - 1)).length = 1 := by rw [List.length_drop, List.length_reverse]; omega
          exact List.length_eq_one_iff.mp this
        obtain ⟨x, d1⟩ := d1
        rw [d1] at e5
        have e5' : movesGo h.rooms g fs.reverse free = (mi, fr) := by rw [e5, moves_one]; simp
        rw [e5'] at q
        exact q _ r (s4.new hr) ⟨m, p, ms, hm0, .inl upd_same, get_new e2 hr, e3.keep (Same.rfl'.new hr).tups⟩
end
end Nb
end
section
set_option Elab.async false
set_option linter.all false
set_option maxRecDepth 100000
set_option maxHeartbeats 4000000
namespace Nb
open PySem PySem.Spec PyProof.Rows L2 NbU NbM
theorem none_upd {H : Hp} {a b : Addr} {o : HO} (h : upd H a o b = none) : b ≠ a ∧ H b = none := by
  by_cases c : b = a
  · rw [c, upd_same] at h; cases h
  · rw [upd_ne c] at h; exact ⟨c, h⟩
theorem putF_len (f : Str) (v : V) : ∀ fs : List (Str × V), (putF f v fs).length ≤ fs.length + 1
  | [] => Nat.le_refl _
  | (g, x) :: r => by
    unfold putF
    split
    · simp
    · have := putF_len f v r
      simp; omega
theorem _root_.NbU.Fr.rfl' {fp : List Addr} {H : Hp} : Fr fp H H := (Same.rfl').fr fp
/-! ### dicts of ints by names -/
def kS (g : List (Str × Int)) : List (Key × V) := g.map fun p => (Sum.inr p.1, V.int p.2)
theorem kS_at (g : List (Str × Int)) : KvAt (fun v i => v = .int i) (kS g) g := by
  induction g with
  | nil => exact .nil
  | cons p g ih => exact .cons ⟨rfl, rfl⟩ ih
theorem kS_of {kvs : List (Key × V)} {g : List (Str × Int)} (h : KvAt (fun v i => v = .int i) kvs g) : kvs = kS g := by
  induction h with
  | nil => rfl
  | cons h t ih =>
    rename_i a b r s
    obtain ⟨k, v⟩ := a
    obtain ⟨h1, h2⟩ := h
    obtain rfl : k = Sum.inr b.1 := h1
    obtain rfl : v = .int b.2 := h2
    show _ = _ :: kS _
    rw [ih]
theorem val_kS (g : List (Str × Int)) (n : Str) : valV (kS g) (Sum.inr n) = optI (getE g n) := by
  rcases (kS_at g).get n with ⟨v, e, h1, h2, h3⟩ | ⟨h1, h2⟩
  · rw [h1, h2, h3]; rfl
  · rw [h1, h2]; rfl
theorem put_kS (g : List (Str × Int)) (n : Str) (v : Int) : putK (kS g) (Sum.inr n) (.int v) = kS (putE g n v) := kS_of ((kS_at g).put rfl)
theorem drop_kS (g : List (Str × Int)) (n : Str) : dropK (kS g) (Sum.inr n) = kS (dropE g n) := kS_of ((kS_at g).drop n)
theorem kS_len (g : List (Str × Int)) : (kS g).length = g.length := List.length_map ..
theorem kS_get {g : List (Str × Int)} {i : Nat} {k : V} {v : V} (h1 : ((kS g)[i]?.map fun kv => kV kv.1) = some k) (h2 : (kS g)[i]?.map Prod.snd = some v) : ∃ p, g[i]? = some p ∧ k = .str p.1 ∧ v = .int p.2 := by
  unfold kS at h1 h2
  rw [List.getElem?_map] at h1 h2
  cases e : g[i]? with
  | none => rw [e] at h1; cases h1
  | some p =>
    rw [e] at h1 h2
    exact ⟨p, rfl, (Option.some.inj h1).symm, (Option.some.inj h2).symm⟩
theorem dgs {H : Hp} {a : Addr} {kvs : List (Key × V)} {n : Str} {v : V} (h : H a = some (.dK kvs)) (e : valV kvs (Sum.inr n) = some v) : DGet H a (.str n) (some v) := e ▸ DGet.k (k := Sum.inr n) h
/-! ### the house as it stands -/
structure HA where
  o : Addr
  r : Addr
  p : Addr
  q : Addr
  l : Addr
def Trip (K : PySem.W.Frag) (H : Hp) (v : V) : Prop := ∃ (a : Addr) (x y z : V), v = .ref a ∧ Tu K H a [x, y, z]
structure HsAt (K : PySem.W.Frag) (H : Hp) (A : HA) (n : Nat) (h : Hs Str) : Prop where
  ins : ∃ dx, H A.o = some (.ins (CH K) dx [("rooms", .ref A.r), ("places", .ref A.p), ("wishes", .ref A.q), ("walks", .ref A.l)])
  rooms : H A.r = some (.lst (IL h.rooms))
  places : H A.p = some (.dK (kS h.places))
  wishes : H A.q = some (.dK (kS h.wishes))
  walks : ∃ wl, H A.l = some (.lst wl) ∧ wl.length = n ∧ ∀ v ∈ wl, Trip K H v
  nd : A.p ≠ A.q
  ne : A.r ≠ A.l
theorem Trip.keep {K : PySem.W.Frag} {H H' : Hp} {v : V} (h : Trip K H v) (s : Tups H H') : Trip K H' v := let ⟨a, x, y, z, e, t⟩ := h; ⟨a, x, y, z, e, t.keep s⟩
def HA.all (A : HA) : List Addr := [A.o, A.r, A.p, A.q, A.l]
def HA.fp (A : HA) : List Addr := [A.p, A.q, A.l]
theorem HsAt.keep {K : PySem.W.Frag} {H H' : Hp} {A : HA} {n : Nat} {h : Hs Str} (a : HsAt K H A n h) {fp : List Addr} (f : Fr fp H H') (d : ∀ x ∈ A.all, x ∉ fp) : HsAt K H' A n h where
  ins := let ⟨dx, e⟩ := a.ins; ⟨dx, f.keep _ _ e (d _ (by simp [HA.all]))⟩
  rooms := f.keep _ _ a.rooms (d _ (by simp [HA.all]))
  places := f.keep _ _ a.places (d _ (by simp [HA.all]))
  wishes := f.keep _ _ a.wishes (d _ (by simp [HA.all]))
  walks := let ⟨wl, e, l, t⟩ := a.walks; ⟨wl, f.keep _ _ e (d _ (by simp [HA.all])), l, fun v hv => (t v hv).keep f.tups⟩
  nd := a.nd
  ne := a.ne
theorem HsAt.same {K : PySem.W.Frag} {H H' : Hp} {A : HA} {n : Nat} {h : Hs Str} (a : HsAt K H A n h) (s : Same H H') : HsAt K H' A n h := a.keep (s.fr []) fun _ _ z => absurd z (by simp)
section
variable {P : Program} {w : World} {K : PySem.W.Frag} {mg : Str → Option Value} {base : Heap}
/-! ### is_name -/
def NmOk (x : Str) : Prop := 1 ≤ x.cps.size ∧ x.cps.size ≤ 8 ∧ ∀ c ∈ x.cps.toList, c ∈ (Str.ofString "abcdefghijklmnopqrstuvwxyz").cps.toList
def sp_is_name : Sp := fun vs H Q _ => ∃ x : Str, vs = [.str x] ∧ NmOk x ∧ Q (.bl true) H
theorem sc_is_name : FnScope ["thing", "letter"] ["thing"] (defScope s_is_name) := ⟨rfl, rfl, rfl, by decide +kernel, rfl, by decide +kernel, by decide +kernel⟩
theorem g_is_name (T : Txt K mg) : GF P w K mg base true 1 "is_name" [] sp_is_name := by
  obtain ⟨fd, F⟩ := T.f_is_name
  refine ⟨_, fd, ["thing"], [], T.g_is_name, F.kp, F.bindsN (fun _ _ _ _ _ _ us hl => match us, hl with | [_], _ => rfl), .nil, okU F sc_is_name (fun vs H Q E h => ?_) (fun cdv A outer s H vs Q E pl hr hh hw h => ⟨_, PSs.nox (pss_cons (ps_if (PW.pt (pw_or (pt_not (pt_val (pe_callB call_isi rfl T.n_isinstance boot_isinstance (pa_cons (pv 0) (pa_cons (pe_bltn (v := .ty "str") rfl T.n_str boot_str rfl) pa_nil))))) (pw_or1 (pt_not (pt_chain op_le op_le pe_int (pe_callB call_len_str rfl T.n_len boot_len (pa_cons (pv 0) pa_nil)) (pg_int T.i_LONGEST)))))) (pss_one (ps_ret pe_bl)) pss_nil)
      (pss_cons (ps_for PassesOwn.never rfl (pi_str (pv 0)) (pg_name (i := 1) sc_is_name.nd rfl (by first | exact Or.inl rfl | exact Or.inr rfl)) (pss_one (ps_if (pt_cmpR op_notIn_sign (pv 1) (pg_str T.z_LETTERS) rfl) (pss_one (ps_ret pe_bl)) pss_nil)))
      (pss_one (ps_ret pe_bl)))), ?_⟩)⟩
  · obtain ⟨x, rfl, _⟩ := h
    rfl
  · obtain ⟨x, rfl, h1, q⟩ := h
    simp only [a_tVar, a_tC, a_tOp, a_tUn, a_rI, a_rI0, a_rU, a_rEq, a_rNe, a_tTest, a_tB, a_tIsN, a_tNotN, a_tChain, a_tAnd, a_tOr, a_tNot, a_tAndV, a_tOrV, a_tNotV, a_tYes, a_tNext, a_tSeq, a_tCont, a_tBreak, a_tDrop, a_tRet, a_tIfS, a_tNever, a_gName, a_gNil, a_gCons, a_gTup, a_tAsg, a_tNil, a_tCons, a_tTup, a_tLst, a_tCB, a_tCU, a_tMU, a_tFld, a_sFld, a_tSl, a_tNoPart, a_tPart, a_rSlL, a_rSlT, a_rIxL, a_rIxT, a_rCat, a_rRep, a_rCatT, a_tDGet, a_tDIn, a_tDNotIn, a_sDPut, a_tDPop1, a_tDNewK, a_tBM, a_rAppend, a_rExtend, a_iList, a_iEnum, a_iRng1, a_iRng2, a_iVals, a_iItems, a_iRng3, a_iStr, a_tMX, a_tXf, a_wAs, a_tRaise, a_tVeI, a_tOst, a_tMkO, a_tMake, a_rSum, a_rIsi, a_tChain3, a_tAugS, a_rGetL, a_rPutL, a_ipI, a_rSet, a_tCKw, a_rMinD, a_rMin, a_rIxS, a_rSlS, a_iTup, a_rIn, a_rEqD, a_rNeD, upd_same, HO.lst.injEq, HO.tup.injEq, HO.dK.injEq, HO.frz.injEq, a_s0, a_s1, a_s2, a_s3, a_s4, a_s5, a_s6, a_s8, a_scal, a_scals, a_tFor, a_tLc, a_tWhile, a_wipe0, a_wipe1, k_cxU, w_cxU, k_blk, w_blk, and_assoc, exists_and_left, exists_eq_left, exists_eq_left', exists_eq_right, exists_eq, exists_const, List.getElem?_cons_zero, List.getElem?_cons_succ, List.set_cons_zero, List.set_cons_succ, Option.some.injEq, V.int.injEq, V.bl.injEq, V.ref.injEq, V.str.injEq, List.cons.injEq, and_true, true_and, List.cons_append, List.nil_append, List.append_nil, L2.start, List.map_cons, List.map_nil, List.length_cons, List.length_nil, List.replicate, Nat.sub_self, Nat.reduceSub, Nat.reduceAdd, Nat.zero_add, if_true, if_false, Bool.false_eq_true, Bool.true_eq_false, reduceIte, decide_eq_true_eq, Bool.not_eq_true', decide_eq_false_iff_not]
    obtain ⟨n1, n2, n3⟩ := h1
    have e : x.length = x.cps.size := rfl
    rw [e]
    refine ⟨_, _, .ty _, .base (.str x), true, kit_ty (by decide +kernel), ?_⟩
    rw [if_neg (fun z => Bool.noConfusion z)]
    refine ⟨sz _ (by omega), ?_⟩
    rw [if_pos (by omega), if_neg (by omega)]
    refine for_go walk_str (fun i σ H' => H' = H ∧ ∃ u, σ = [some (.str x), u]) ⟨rfl, none, rfl⟩ (fun _ _ _ _ _ => trivial) ?_ ?_
    · rintro i y σ H3 H4 hi ⟨rfl, u, rfl⟩ ⟨rfl, c, hc, rfl⟩
      simp only [a_tVar, a_tC, a_tOp, a_tUn, a_rI, a_rI0, a_rU, a_rEq, a_rNe, a_tTest, a_tB, a_tIsN, a_tNotN, a_tChain, a_tAnd, a_tOr, a_tNot, a_tAndV, a_tOrV, a_tNotV, a_tYes, a_tNext, a_tSeq, a_tCont, a_tBreak, a_tDrop, a_tRet, a_tIfS, a_tNever, a_gName, a_gNil, a_gCons, a_gTup, a_tAsg, a_tNil, a_tCons, a_tTup, a_tLst, a_tCB, a_tCU, a_tMU, a_tFld, a_sFld, a_tSl, a_tNoPart, a_tPart, a_rSlL, a_rSlT, a_rIxL, a_rIxT, a_rCat, a_rRep, a_rCatT, a_tDGet, a_tDIn, a_tDNotIn, a_sDPut, a_tDPop1, a_tDNewK, a_tBM, a_rAppend, a_rExtend, a_iList, a_iEnum, a_iRng1, a_iRng2, a_iVals, a_iItems, a_iRng3, a_iStr, a_tMX, a_tXf, a_wAs, a_tRaise, a_tVeI, a_tOst, a_tMkO, a_tMake, a_rSum, a_rIsi, a_tChain3, a_tAugS, a_rGetL, a_rPutL, a_ipI, a_rSet, a_tCKw, a_rMinD, a_rMin, a_rIxS, a_rSlS, a_iTup, a_rIn, a_rEqD, a_rNeD, upd_same, HO.lst.injEq, HO.tup.injEq, HO.dK.injEq, HO.frz.injEq, a_s0, a_s1, a_s2, a_s3, a_s4, a_s5, a_s6, a_s8, a_scal, a_scals, a_tFor, a_tLc, a_tWhile, a_wipe0, a_wipe1, k_cxU, w_cxU, k_blk, w_blk, and_assoc, exists_and_left, exists_eq_left, exists_eq_left', exists_eq_right, exists_eq, exists_const, List.getElem?_cons_zero, List.getElem?_cons_succ, List.set_cons_zero, List.set_cons_succ, Option.some.injEq, V.int.injEq, V.bl.injEq, V.ref.injEq, V.str.injEq, List.cons.injEq, and_true, true_and, List.cons_append, List.nil_append, List.append_nil, L2.start, List.map_cons, List.map_nil, List.length_cons, List.length_nil, List.replicate, Nat.sub_self, Nat.reduceSub, Nat.reduceAdd, Nat.zero_add, if_true, if_false, Bool.false_eq_true, Bool.true_eq_false, reduceIte, decide_eq_true_eq, Bool.not_eq_true', decide_eq_false_iff_not]
      refine ⟨c, rfl, ?_⟩
      have hm : c ∈ (Str.ofString "abcdefghijklmnopqrstuvwxyz").cps.toList := n3 c (Array.mem_toList_iff.mpr (Array.mem_of_getElem? hc))
      rw [if_neg (by simp only [hm]; simp)]
      exact ⟨_, rfl⟩
    · rintro σ H3 ⟨rfl, u, rfl⟩
      simp only [a_tVar, a_tC, a_tOp, a_tUn, a_rI, a_rI0, a_rU, a_rEq, a_rNe, a_tTest, a_tB, a_tIsN, a_tNotN, a_tChain, a_tAnd, a_tOr, a_tNot, a_tAndV, a_tOrV, a_tNotV, a_tYes, a_tNext, a_tSeq, a_tCont, a_tBreak, a_tDrop, a_tRet, a_tIfS, a_tNever, a_gName, a_gNil, a_gCons, a_gTup, a_tAsg, a_tNil, a_tCons, a_tTup, a_tLst, a_tCB, a_tCU, a_tMU, a_tFld, a_sFld, a_tSl, a_tNoPart, a_tPart, a_rSlL, a_rSlT, a_rIxL, a_rIxT, a_rCat, a_rRep, a_rCatT, a_tDGet, a_tDIn, a_tDNotIn, a_sDPut, a_tDPop1, a_tDNewK, a_tBM, a_rAppend, a_rExtend, a_iList, a_iEnum, a_iRng1, a_iRng2, a_iVals, a_iItems, a_iRng3, a_iStr, a_tMX, a_tXf, a_wAs, a_tRaise, a_tVeI, a_tOst, a_tMkO, a_tMake, a_rSum, a_rIsi, a_tChain3, a_tAugS, a_rGetL, a_rPutL, a_ipI, a_rSet, a_tCKw, a_rMinD, a_rMin, a_rIxS, a_rSlS, a_iTup, a_rIn, a_rEqD, a_rNeD, upd_same, HO.lst.injEq, HO.tup.injEq, HO.dK.injEq, HO.frz.injEq, a_s0, a_s1, a_s2, a_s3, a_s4, a_s5, a_s6, a_s8, a_scal, a_scals, a_tFor, a_tLc, a_tWhile, a_wipe0, a_wipe1, k_cxU, w_cxU, k_blk, w_blk, and_assoc, exists_and_left, exists_eq_left, exists_eq_left', exists_eq_right, exists_eq, exists_const, List.getElem?_cons_zero, List.getElem?_cons_succ, List.set_cons_zero, List.set_cons_succ, Option.some.injEq, V.int.injEq, V.bl.injEq, V.ref.injEq, V.str.injEq, List.cons.injEq, and_true, true_and, List.cons_append, List.nil_append, List.append_nil, L2.start, List.map_cons, List.map_nil, List.length_cons, List.length_nil, List.replicate, Nat.sub_self, Nat.reduceSub, Nat.reduceAdd, Nat.zero_add, if_true, if_false, Bool.false_eq_true, Bool.true_eq_false, reduceIte, decide_eq_true_eq, Bool.not_eq_true', decide_eq_false_iff_not]
      exact q
/-! ### House -/
def sp_House__init_ (K : PySem.W.Frag) : Sp := fun vs H Q _ => ∃ (a r dx : Addr) (rooms : List Int), vs = [.ref a, .ref r] ∧ H r = some (.lst (IL rooms)) ∧ H a = some (.ins (CH K) dx []) ∧
  ∀ H' A, A.o = a → Fr [a] H H' → (∀ x ∈ A.all, x ≠ a → H x = none) → HsAt K H' A 0 ⟨rooms, [], []⟩ → Q .non H'
theorem sc_House__init_ : FnScope ["self", "rooms"] ["self", "rooms"] (defScope s_House__init_) := ⟨rfl, rfl, rfl, by decide +kernel, rfl, by decide +kernel, by decide +kernel⟩
theorem g_House__init_ (T : Txt K mg) : GI P w K mg base true 1 (He.ga K "House") (sp_House__init_ K) := by
  obtain ⟨fd, F⟩ := T.f_House__init_
  refine ⟨fd, ["self", "rooms"], [], F.bindsN (fun _ _ _ _ _ _ us hl => match us, hl with | [_, _], _ => rfl), .nil, okU F sc_House__init_ (fun vs H Q E h => ?_) (fun cdv A outer s H vs Q E pl hr hh hw h => ⟨_, PSs.nox (pss_cons (ps_fld (pv 0) (pe_callTy call_list_of rfl T.n_list boot_list (pa_cons (pv 1) pa_nil)) rfl)
      (pss_cons (ps_fld (pv 0) pe_dnewK rfl)
      (pss_cons (ps_fld (pv 0) pe_dnewK rfl)
      (pss_one (ps_fld (pv 0) (pe_lst pa_nil) rfl))))), ?_⟩)⟩
  · obtain ⟨a, r, dx, rooms, rfl, _⟩ := h
    rfl
  · obtain ⟨a, r, dx, rooms, rfl, h1, h2, q⟩ := h
    simp only [a_tVar, a_tC, a_tOp, a_tUn, a_rI, a_rI0, a_rU, a_rEq, a_rNe, a_tTest, a_tB, a_tIsN, a_tNotN, a_tChain, a_tAnd, a_tOr, a_tNot, a_tAndV, a_tOrV, a_tNotV, a_tYes, a_tNext, a_tSeq, a_tCont, a_tBreak, a_tDrop, a_tRet, a_tIfS, a_tNever, a_gName, a_gNil, a_gCons, a_gTup, a_tAsg, a_tNil, a_tCons, a_tTup, a_tLst, a_tCB, a_tCU, a_tMU, a_tFld, a_sFld, a_tSl, a_tNoPart, a_tPart, a_rSlL, a_rSlT, a_rIxL, a_rIxT, a_rCat, a_rRep, a_rCatT, a_tDGet, a_tDIn, a_tDNotIn, a_sDPut, a_tDPop1, a_tDNewK, a_tBM, a_rAppend, a_rExtend, a_iList, a_iEnum, a_iRng1, a_iRng2, a_iVals, a_iItems, a_iRng3, a_iStr, a_tMX, a_tXf, a_wAs, a_tRaise, a_tVeI, a_tOst, a_tMkO, a_tMake, a_rSum, a_rIsi, a_tChain3, a_tAugS, a_rGetL, a_rPutL, a_ipI, a_rSet, a_tCKw, a_rMinD, a_rMin, a_rIxS, a_rSlS, a_iTup, a_rIn, a_rEqD, a_rNeD, upd_same, HO.lst.injEq, HO.tup.injEq, HO.dK.injEq, HO.frz.injEq, a_s0, a_s1, a_s2, a_s3, a_s4, a_s5, a_s6, a_s8, a_scal, a_scals, a_tFor, a_tLc, a_tWhile, a_wipe0, a_wipe1, k_cxU, w_cxU, k_blk, w_blk, and_assoc, exists_and_left, exists_eq_left, exists_eq_left', exists_eq_right, exists_eq, exists_const, List.getElem?_cons_zero, List.getElem?_cons_succ, List.set_cons_zero, List.set_cons_succ, Option.some.injEq, V.int.injEq, V.bl.injEq, V.ref.injEq, V.str.injEq, List.cons.injEq, and_true, true_and, List.cons_append, List.nil_append, List.append_nil, L2.start, List.map_cons, List.map_nil, List.length_cons, List.length_nil, List.replicate, Nat.sub_self, Nat.reduceSub, Nat.reduceAdd, Nat.zero_add, if_true, if_false, Bool.false_eq_true, Bool.true_eq_false, reduceIte, decide_eq_true_eq, Bool.not_eq_true', decide_eq_false_iff_not]
    have hal : ∀ {l : Addr}, H l = none → a ≠ l := fun z => ne_of_none h2 z
    refine ⟨_, .inl (SqL.of h1), fun l hl => ⟨CH K, dx, [], get_new h2 hl, T.c_House, T.a_House_rooms, by simp, fun p hp => ⟨_, _, _, get_new upd_same hp, T.c_House, T.a_House_places, ?_, fun p2 hq => ⟨_, _, _, get_new upd_same hq, T.c_House, T.a_House_wishes, ?_, fun l2 hl2 => ⟨_, _, _, get_new upd_same hl2, T.c_House, T.a_House_walks, ?_, ?_⟩⟩⟩⟩⟩
    · have := putF_len "rooms" (V.ref l) []
      simp at this; omega
    · have := putF_len "places" (V.ref p) (putF "rooms" (V.ref l) [])
      have := putF_len "rooms" (V.ref l) []
      simp at *; omega
    · have := putF_len "wishes" (V.ref p2) (putF "places" (V.ref p) (putF "rooms" (V.ref l) []))
      have := putF_len "places" (V.ref p) (putF "rooms" (V.ref l) [])
      have := putF_len "rooms" (V.ref l) []
      simp at *; omega
    · obtain ⟨pa, pl'⟩ := none_upd hp
      obtain ⟨pl, p0⟩ := none_upd pl'
      obtain ⟨qa, q1⟩ := none_upd hq
      obtain ⟨qp, q2⟩ := none_upd q1
      obtain ⟨_, q3⟩ := none_upd q2
      obtain ⟨ql, q0⟩ := none_upd q3
      obtain ⟨la, m1⟩ := none_upd hl2
      obtain ⟨lq, m2⟩ := none_upd m1
      obtain ⟨_, m3⟩ := none_upd m2
      obtain ⟨lp, m4⟩ := none_upd m3
      obtain ⟨_, m5⟩ := none_upd m4
      obtain ⟨ll, m0⟩ := none_upd m5
      have ma : a ∈ [a] := List.mem_singleton.mpr rfl
      have al := hal hl
      refine q _ ⟨a, l, p, p2, l2⟩ rfl ((((((((Fr.rfl'.new hl).put ma (get_new h2 hl) (fun _ z => nomatch z)).new hp).put ma (get_new upd_same hp) (fun _ z => nomatch z)).new hq).put ma (get_new upd_same hq) (fun _ z => nomatch z)).new hl2).put ma (get_new upd_same hl2) (fun _ z => nomatch z)) ?_ ⟨⟨dx, by rw [upd_same]; rfl⟩, ?_, ?_, ?_, ⟨[], ?_, rfl, fun _ z => absurd z (by simp)⟩, Ne.symm qp, Ne.symm ll⟩
      · intro x hx hxa
        simp only [HA.all, List.mem_cons, List.not_mem_nil, or_false] at hx
        rcases hx with e | e | e | e | e
        · exact absurd e hxa
        all_goals rw [e]; assumption
      · show upd _ a _ l = _
        rw [upd_ne (Ne.symm al), upd_ne (Ne.symm ll), upd_ne (Ne.symm al), upd_ne (Ne.symm ql), upd_ne (Ne.symm al), upd_ne (Ne.symm pl), upd_ne (Ne.symm al), upd_same]
      · show upd _ a _ p = _
        rw [upd_ne pa, upd_ne (Ne.symm lp), upd_ne pa, upd_ne (Ne.symm qp), upd_ne pa, upd_same]
        rfl
      · show upd _ a _ p2 = _
        rw [upd_ne qa, upd_ne (Ne.symm lq), upd_ne qa, upd_same]
        rfl
      · show upd _ a _ l2 = _
        rw [upd_ne la, upd_same]
def sp_House_need (K : PySem.W.Frag) : Sp := fun vs H Q _ => ∃ (A : HA) (m : Nat) (h : Hs Str) (n : Str), vs = [.ref A.o, .str n] ∧ HsAt K H A m h ∧ n ∈ keysE h.places ∧ Q .non H
theorem sc_House_need : FnScope ["self", "name"] ["self", "name"] (defScope s_House_need) := ⟨rfl, rfl, rfl, by decide +kernel, rfl, by decide +kernel, by decide +kernel⟩
theorem g_House_need (T : Txt K mg) : GM P w K mg base true CX0 1 (He.ga K "House") "need" [] (sp_House_need K) := by
  obtain ⟨fd, F⟩ := T.f_House_need
  refine ⟨_, fd, ["self", "name"], [], T.m_House_need, F.bindsN (fun _ _ _ _ _ _ us hl => match us, hl with | [_, _], _ => rfl), .nil, okU F sc_House_need (fun vs H Q E h => ?_) (fun cdv A outer s H vs Q E pl hr hh hw h => ⟨_, PSs.nox (pss_one (ps_if (pt_cmp (pc_dnotin (huU hr) (pv 1) (pe_fldK K (pv 0) rfl))) pss_never pss_nil)), ?_⟩)⟩
  · obtain ⟨A, m, h, n, rfl, _⟩ := h
    rfl
  · obtain ⟨A, m, h, n, rfl, h1, h2, q⟩ := h
    obtain ⟨dx, hi⟩ := h1.ins
    simp only [a_tVar, a_tC, a_tOp, a_tUn, a_rI, a_rI0, a_rU, a_rEq, a_rNe, a_tTest, a_tB, a_tIsN, a_tNotN, a_tChain, a_tAnd, a_tOr, a_tNot, a_tAndV, a_tOrV, a_tNotV, a_tYes, a_tNext, a_tSeq, a_tCont, a_tBreak, a_tDrop, a_tRet, a_tIfS, a_tNever, a_gName, a_gNil, a_gCons, a_gTup, a_tAsg, a_tNil, a_tCons, a_tTup, a_tLst, a_tCB, a_tCU, a_tMU, a_tFld, a_sFld, a_tSl, a_tNoPart, a_tPart, a_rSlL, a_rSlT, a_rIxL, a_rIxT, a_rCat, a_rRep, a_rCatT, a_tDGet, a_tDIn, a_tDNotIn, a_sDPut, a_tDPop1, a_tDNewK, a_tBM, a_rAppend, a_rExtend, a_iList, a_iEnum, a_iRng1, a_iRng2, a_iVals, a_iItems, a_iRng3, a_iStr, a_tMX, a_tXf, a_wAs, a_tRaise, a_tVeI, a_tOst, a_tMkO, a_tMake, a_rSum, a_rIsi, a_tChain3, a_tAugS, a_rGetL, a_rPutL, a_ipI, a_rSet, a_tCKw, a_rMinD, a_rMin, a_rIxS, a_rSlS, a_iTup, a_rIn, a_rEqD, a_rNeD, upd_same, HO.lst.injEq, HO.tup.injEq, HO.dK.injEq, HO.frz.injEq, a_s0, a_s1, a_s2, a_s3, a_s4, a_s5, a_s6, a_s8, a_scal, a_scals, a_tFor, a_tLc, a_tWhile, a_wipe0, a_wipe1, k_cxU, w_cxU, k_blk, w_blk, and_assoc, exists_and_left, exists_eq_left, exists_eq_left', exists_eq_right, exists_eq, exists_const, List.getElem?_cons_zero, List.getElem?_cons_succ, List.set_cons_zero, List.set_cons_succ, Option.some.injEq, V.int.injEq, V.bl.injEq, V.ref.injEq, V.str.injEq, List.cons.injEq, and_true, true_and, List.cons_append, List.nil_append, List.append_nil, L2.start, List.map_cons, List.map_nil, List.length_cons, List.length_nil, List.replicate, Nat.sub_self, Nat.reduceSub, Nat.reduceAdd, Nat.zero_add, if_true, if_false, Bool.false_eq_true, Bool.true_eq_false, reduceIte, decide_eq_true_eq, Bool.not_eq_true', decide_eq_false_iff_not]
    obtain ⟨v, hv⟩ := getE_some_iff.mp h2
    refine ⟨_, _, _, hi, T.c_House, T.a_House_places, _, rfl, _, rfl, _, DGet.k (k := Sum.inr n) h1.places, ?_⟩
    rw [val_kS, hv, if_neg (fun z => Bool.noConfusion z)]
    exact q
theorem putE_len {κ β : Type} [DecidableEq κ] (l : List (κ × β)) (k : κ) (v : β) : (putE l k v).length ≤ l.length + 1 := by
  unfold putE
  split <;> simp
theorem guests_len : ∀ (pl wi : List (Str × Int)) (g : List (Int × Int)), (pl.foldl (fun g p => putE g p.2 ((getE wi p.1).getD 0)) g).length ≤ g.length + pl.length
  | [], _, _ => Nat.le_refl _
  | p :: pl, wi, g => by
    rw [List.foldl_cons]
    have h1 := guests_len pl wi (putE g p.2 ((getE wi p.1).getD 0))
    have h2 := putE_len g p.2 ((getE wi p.1).getD 0)
    rw [List.length_cons]
    omega
def sp_House_guests (K : PySem.W.Frag) : Sp := fun vs H Q _ => ∃ (A : HA) (m : Nat) (h : Hs Str), vs = [.ref A.o] ∧ HsAt K H A m h ∧ HsOk h ∧ h.places.length ≤ 900 ∧
  ∀ H' p, Same H H' → H' p = some (.dK (kI (guestsOf h))) → Q (.ref p) H'
theorem sc_House_guests : FnScope ["self", "found", "name", "room"] ["self"] (defScope s_House_guests) := ⟨rfl, rfl, rfl, by decide +kernel, rfl, by decide +kernel, by decide +kernel⟩
theorem g_House_guests (T : Txt K mg) : GM P w K mg base true CX0 1 (He.ga K "House") "guests" [] (sp_House_guests K) := by
  obtain ⟨fd, F⟩ := T.f_House_guests
  refine ⟨_, fd, ["self"], [], T.m_House_guests, F.bindsN (fun _ _ _ _ _ _ us hl => match us, hl with | [_], _ => rfl), .nil, okU F sc_House_guests (fun vs H Q E h => ?_) (fun cdv A outer s H vs Q E pl hr hh hw h => ⟨_, PSs.nox (pss_cons (ps_set (i := 1) sc_House_guests.nd rfl (by first | exact Or.inl rfl | exact Or.inr rfl) pe_dnewK)
      (pss_cons (ps_lock (ps_for PassesOwn.never rfl (pi_items (pe_fldK K (pv 0) rfl)) (pgu_tupK (n := 2) K hw (pgs_cons (pg_name (i := 2) sc_House_guests.nd rfl (by first | exact Or.inl rfl | exact Or.inr rfl)) (pgs_cons (pg_name (i := 3) sc_House_guests.nd rfl (by first | exact Or.inl rfl | exact Or.inr rfl)) pgs_nil))) (pss_one (ps_dput (huU hr) (pv 1) (pv 3) (pe_dget (huU hr) (pe_fldK K (pv 0) rfl) (pv 2) (fun _ _ => rfl)) rfl))))
      (pss_one (ps_ret (pv 1))))), ?_⟩)⟩
  · obtain ⟨A, m, h, rfl, _⟩ := h
    rfl
  · obtain ⟨A, m, h, rfl, h1, h2, h3, q⟩ := h
    obtain ⟨dx, hi⟩ := h1.ins
    simp only [a_tVar, a_tC, a_tOp, a_tUn, a_rI, a_rI0, a_rU, a_rEq, a_rNe, a_tTest, a_tB, a_tIsN, a_tNotN, a_tChain, a_tAnd, a_tOr, a_tNot, a_tAndV, a_tOrV, a_tNotV, a_tYes, a_tNext, a_tSeq, a_tCont, a_tBreak, a_tDrop, a_tRet, a_tIfS, a_tNever, a_gName, a_gNil, a_gCons, a_gTup, a_tAsg, a_tNil, a_tCons, a_tTup, a_tLst, a_tCB, a_tCU, a_tMU, a_tFld, a_sFld, a_tSl, a_tNoPart, a_tPart, a_rSlL, a_rSlT, a_rIxL, a_rIxT, a_rCat, a_rRep, a_rCatT, a_tDGet, a_tDIn, a_tDNotIn, a_sDPut, a_tDPop1, a_tDNewK, a_tBM, a_rAppend, a_rExtend, a_iList, a_iEnum, a_iRng1, a_iRng2, a_iVals, a_iItems, a_iRng3, a_iStr, a_tMX, a_tXf, a_wAs, a_tRaise, a_tVeI, a_tOst, a_tMkO, a_tMake, a_rSum, a_rIsi, a_tChain3, a_tAugS, a_rGetL, a_rPutL, a_ipI, a_rSet, a_tCKw, a_rMinD, a_rMin, a_rIxS, a_rSlS, a_iTup, a_rIn, a_rEqD, a_rNeD, upd_same, HO.lst.injEq, HO.tup.injEq, HO.dK.injEq, HO.frz.injEq, a_s0, a_s1, a_s2, a_s3, a_s4, a_s5, a_s6, a_s8, a_scal, a_scals, a_tFor, a_tLc, a_tWhile, a_wipe0, a_wipe1, k_cxU, w_cxU, k_blk, w_blk, and_assoc, exists_and_left, exists_eq_left, exists_eq_left', exists_eq_right, exists_eq, exists_const, List.getElem?_cons_zero, List.getElem?_cons_succ, List.set_cons_zero, List.set_cons_succ, Option.some.injEq, V.int.injEq, V.bl.injEq, V.ref.injEq, V.str.injEq, List.cons.injEq, and_true, true_and, List.cons_append, List.nil_append, List.append_nil, L2.start, List.map_cons, List.map_nil, List.length_cons, List.length_nil, List.replicate, Nat.sub_self, Nat.reduceSub, Nat.reduceAdd, Nat.zero_add, if_true, if_false, Bool.false_eq_true, Bool.true_eq_false, reduceIte, decide_eq_true_eq, Bool.not_eq_true', decide_eq_false_iff_not]
    intro p hp
    have hne : ∀ {x : Addr} {o : HO}, H x = some o → x ≠ p := fun e => ne_of_none e hp
    refine ⟨A.p, _, get_new h1.places hp, trivial, fun od => ?_⟩
    simp only [a_tVar, a_tC, a_tOp, a_tUn, a_rI, a_rI0, a_rU, a_rEq, a_rNe, a_tTest, a_tB, a_tIsN, a_tNotN, a_tChain, a_tAnd, a_tOr, a_tNot, a_tAndV, a_tOrV, a_tNotV, a_tYes, a_tNext, a_tSeq, a_tCont, a_tBreak, a_tDrop, a_tRet, a_tIfS, a_tNever, a_gName, a_gNil, a_gCons, a_gTup, a_tAsg, a_tNil, a_tCons, a_tTup, a_tLst, a_tCB, a_tCU, a_tMU, a_tFld, a_sFld, a_tSl, a_tNoPart, a_tPart, a_rSlL, a_rSlT, a_rIxL, a_rIxT, a_rCat, a_rRep, a_rCatT, a_tDGet, a_tDIn, a_tDNotIn, a_sDPut, a_tDPop1, a_tDNewK, a_tBM, a_rAppend, a_rExtend, a_iList, a_iEnum, a_iRng1, a_iRng2, a_iVals, a_iItems, a_iRng3, a_iStr, a_tMX, a_tXf, a_wAs, a_tRaise, a_tVeI, a_tOst, a_tMkO, a_tMake, a_rSum, a_rIsi, a_tChain3, a_tAugS, a_rGetL, a_rPutL, a_ipI, a_rSet, a_tCKw, a_rMinD, a_rMin, a_rIxS, a_rSlS, a_iTup, a_rIn, a_rEqD, a_rNeD, upd_same, HO.lst.injEq, HO.tup.injEq, HO.dK.injEq, HO.frz.injEq, a_s0, a_s1, a_s2, a_s3, a_s4, a_s5, a_s6, a_s8, a_scal, a_scals, a_tFor, a_tLc, a_tWhile, a_wipe0, a_wipe1, k_cxU, w_cxU, k_blk, w_blk, and_assoc, exists_and_left, exists_eq_left, exists_eq_left', exists_eq_right, exists_eq, exists_const, List.getElem?_cons_zero, List.getElem?_cons_succ, List.set_cons_zero, List.set_cons_succ, Option.some.injEq, V.int.injEq, V.bl.injEq, V.ref.injEq, V.str.injEq, List.cons.injEq, and_true, true_and, List.cons_append, List.nil_append, List.append_nil, L2.start, List.map_cons, List.map_nil, List.length_cons, List.length_nil, List.replicate, Nat.sub_self, Nat.reduceSub, Nat.reduceAdd, Nat.zero_add, if_true, if_false, Bool.false_eq_true, Bool.true_eq_false, reduceIte, decide_eq_true_eq, Bool.not_eq_true', decide_eq_false_iff_not]
    have hop : A.o ≠ A.p := ne_of hi h1.places fun z => nomatch z
    have s0 : Same (upd H A.p (.frz od (.dK (kS h.places)))) (upd (upd H p (.dK [])) A.p (.frz od (.dK (kS h.places)))) := fun b o e => by
      by_cases c : b = A.p
      · rw [c, upd_same] at e
        rw [c, upd_same]; exact e
      · rw [upd_ne c] at e
        rw [upd_ne c]
        exact get_new e hp
    have hi0 : upd H A.p (.frz od (.dK (kS h.places))) A.o = _ := (upd_ne hop).trans hi
    have hq0 : upd H A.p (.frz od (.dK (kS h.places))) A.q = _ := (upd_ne (Ne.symm h1.nd)).trans h1.wishes
    have hpf : upd H A.p (.frz od (.dK (kS h.places))) p = none := by rw [upd_ne (Ne.symm (hne h1.places))]; exact hp
    refine ⟨_, _, _, s0 _ _ hi0, T.c_House, T.a_House_places, _, rfl, _, rfl, _, _, upd_same, ?_⟩
    refine for_go walk_items (fun i σ H' => Same (upd H A.p (.frz od (.dK (kS h.places)))) H' ∧ ∃ u v, σ = [some (.ref A.o), some (.ref p), u, v] ∧ H' p = some (.dK (kI ((h.places.take i).foldl (fun g p => putE g p.2 ((getE h.wishes p.1).getD 0)) [])))) ⟨s0, none, none, rfl, by rw [upd_ne (Ne.symm (hne h1.places)), upd_same]; rfl⟩ (fun i σ H' _ h => locked h.1) ?_ ?_
    · rintro i y σ H3 H4 hi' ⟨s, u, v, rfl, e1⟩ ⟨T', y1, y2, rfl, hT, rfl, k1, k2⟩
      obtain ⟨pr, hp', rfl, rfl⟩ := kS_get k1 k2
      have s4 := s.new hT (o := .tup [.str pr.1, .int pr.2])
      have hk : pr.1 ∈ keysE h.wishes := by rw [h2.keys]; exact List.mem_map.mpr ⟨pr, List.mem_of_getElem? hp', rfl⟩
      obtain ⟨wv, hwv⟩ := getE_some_iff.mp hk
      simp only [a_tVar, a_tC, a_tOp, a_tUn, a_rI, a_rI0, a_rU, a_rEq, a_rNe, a_tTest, a_tB, a_tIsN, a_tNotN, a_tChain, a_tAnd, a_tOr, a_tNot, a_tAndV, a_tOrV, a_tNotV, a_tYes, a_tNext, a_tSeq, a_tCont, a_tBreak, a_tDrop, a_tRet, a_tIfS, a_tNever, a_gName, a_gNil, a_gCons, a_gTup, a_tAsg, a_tNil, a_tCons, a_tTup, a_tLst, a_tCB, a_tCU, a_tMU, a_tFld, a_sFld, a_tSl, a_tNoPart, a_tPart, a_rSlL, a_rSlT, a_rIxL, a_rIxT, a_rCat, a_rRep, a_rCatT, a_tDGet, a_tDIn, a_tDNotIn, a_sDPut, a_tDPop1, a_tDNewK, a_tBM, a_rAppend, a_rExtend, a_iList, a_iEnum, a_iRng1, a_iRng2, a_iVals, a_iItems, a_iRng3, a_iStr, a_tMX, a_tXf, a_wAs, a_tRaise, a_tVeI, a_tOst, a_tMkO, a_tMake, a_rSum, a_rIsi, a_tChain3, a_tAugS, a_rGetL, a_rPutL, a_ipI, a_rSet, a_tCKw, a_rMinD, a_rMin, a_rIxS, a_rSlS, a_iTup, a_rIn, a_rEqD, a_rNeD, upd_same, HO.lst.injEq, HO.tup.injEq, HO.dK.injEq, HO.frz.injEq, a_s0, a_s1, a_s2, a_s3, a_s4, a_s5, a_s6, a_s8, a_scal, a_scals, a_tFor, a_tLc, a_tWhile, a_wipe0, a_wipe1, k_cxU, w_cxU, k_blk, w_blk, and_assoc, exists_and_left, exists_eq_left, exists_eq_left', exists_eq_right, exists_eq, exists_const, List.getElem?_cons_zero, List.getElem?_cons_succ, List.set_cons_zero, List.set_cons_succ, Option.some.injEq, V.int.injEq, V.bl.injEq, V.ref.injEq, V.str.injEq, List.cons.injEq, and_true, true_and, List.cons_append, List.nil_append, List.append_nil, L2.start, List.map_cons, List.map_nil, List.length_cons, List.length_nil, List.replicate, Nat.sub_self, Nat.reduceSub, Nat.reduceAdd, Nat.zero_add, if_true, if_false, Bool.false_eq_true, Bool.true_eq_false, reduceIte, decide_eq_true_eq, Bool.not_eq_true', decide_eq_false_iff_not]
      refine ⟨_, SqT.of upd_same, rfl, _, _, rfl, _, _, rfl, rfl, ?_⟩
      refine ⟨_, _, _, s4 _ _ hi0, T.c_House, T.a_House_wishes, _, rfl, _, rfl, .int wv, dgs (s4 _ _ hq0) (by rw [val_kS, hwv]; rfl), _, DPut.k (k := Sum.inl pr.2) (get_new e1 hT) (szl _ ?_), s4.put hpf, ?_⟩
      · unfold kI
        rw [List.length_map]
        have := guests_len (h.places.take i) h.wishes []
        rw [List.length_take] at this
        simp at this; omega
      · rw [upd_same, put_kI, take_snoc hp', List.foldl_append]
        simp [hwv]
    · rintro σ H3 ⟨s, u, v, rfl, e1⟩
      rw [kS_len, List.take_length] at e1
      simp only [a_tVar, a_tC, a_tOp, a_tUn, a_rI, a_rI0, a_rU, a_rEq, a_rNe, a_tTest, a_tB, a_tIsN, a_tNotN, a_tChain, a_tAnd, a_tOr, a_tNot, a_tAndV, a_tOrV, a_tNotV, a_tYes, a_tNext, a_tSeq, a_tCont, a_tBreak, a_tDrop, a_tRet, a_tIfS, a_tNever, a_gName, a_gNil, a_gCons, a_gTup, a_tAsg, a_tNil, a_tCons, a_tTup, a_tLst, a_tCB, a_tCU, a_tMU, a_tFld, a_sFld, a_tSl, a_tNoPart, a_tPart, a_rSlL, a_rSlT, a_rIxL, a_rIxT, a_rCat, a_rRep, a_rCatT, a_tDGet, a_tDIn, a_tDNotIn, a_sDPut, a_tDPop1, a_tDNewK, a_tBM, a_rAppend, a_rExtend, a_iList, a_iEnum, a_iRng1, a_iRng2, a_iVals, a_iItems, a_iRng3, a_iStr, a_tMX, a_tXf, a_wAs, a_tRaise, a_tVeI, a_tOst, a_tMkO, a_tMake, a_rSum, a_rIsi, a_tChain3, a_tAugS, a_rGetL, a_rPutL, a_ipI, a_rSet, a_tCKw, a_rMinD, a_rMin, a_rIxS, a_rSlS, a_iTup, a_rIn, a_rEqD, a_rNeD, upd_same, HO.lst.injEq, HO.tup.injEq, HO.dK.injEq, HO.frz.injEq, a_s0, a_s1, a_s2, a_s3, a_s4, a_s5, a_s6, a_s8, a_scal, a_scals, a_tFor, a_tLc, a_tWhile, a_wipe0, a_wipe1, k_cxU, w_cxU, k_blk, w_blk, and_assoc, exists_and_left, exists_eq_left, exists_eq_left', exists_eq_right, exists_eq, exists_const, List.getElem?_cons_zero, List.getElem?_cons_succ, List.set_cons_zero, List.set_cons_succ, Option.some.injEq, V.int.injEq, V.bl.injEq, V.ref.injEq, V.str.injEq, List.cons.injEq, and_true, true_and, List.cons_append, List.nil_append, List.append_nil, L2.start, List.map_cons, List.map_nil, List.length_cons, List.length_nil, List.replicate, Nat.sub_self, Nat.reduceSub, Nat.reduceAdd, Nat.zero_add, if_true, if_false, Bool.false_eq_true, Bool.true_eq_false, reduceIte, decide_eq_true_eq, Bool.not_eq_true', decide_eq_false_iff_not]
      refine ⟨locked s, q _ _ (unlock s h1.places) ?_⟩
      rw [upd_ne (Ne.symm (hne h1.places))]
      exact e1
theorem HsAt.putP {H : Hp} {A : HA} {n : Nat} {h : Hs Str} (a : HsAt K H A n h) (pl : List (Str × Int)) : HsAt K (upd H A.p (.dK (kS pl))) A n { h with places := pl } := by
  obtain ⟨dx, hi⟩ := a.ins
  obtain ⟨wl, e, l, t⟩ := a.walks
  have tp := tups_put (H := H) (o := .dK (kS pl)) a.places (fun _ z => nomatch z)
  exact ⟨⟨dx, by rw [upd_ne (ne_of hi a.places fun z => nomatch z)]; exact hi⟩, by rw [upd_ne (ne_of a.rooms a.places fun z => nomatch z)]; exact a.rooms, upd_same, by rw [upd_ne (Ne.symm a.nd)]; exact a.wishes,
    ⟨wl, by rw [upd_ne (ne_of e a.places fun z => nomatch z)]; exact e, l, fun v hv => (t v hv).keep tp⟩, a.nd, a.ne⟩
theorem HsAt.putQ {H : Hp} {A : HA} {n : Nat} {h : Hs Str} (a : HsAt K H A n h) (pl : List (Str × Int)) : HsAt K (upd H A.q (.dK (kS pl))) A n { h with wishes := pl } := by
  obtain ⟨dx, hi⟩ := a.ins
  obtain ⟨wl, e, l, t⟩ := a.walks
  have tp := tups_put (H := H) (o := .dK (kS pl)) a.wishes (fun _ z => nomatch z)
  exact ⟨⟨dx, by rw [upd_ne (ne_of hi a.wishes fun z => nomatch z)]; exact hi⟩, by rw [upd_ne (ne_of a.rooms a.wishes fun z => nomatch z)]; exact a.rooms, by rw [upd_ne a.nd]; exact a.places, upd_same,
    ⟨wl, by rw [upd_ne (ne_of e a.wishes fun z => nomatch z)]; exact e, l, fun v hv => (t v hv).keep tp⟩, a.nd, a.ne⟩
theorem HsAt.addW {H : Hp} {A : HA} {n : Nat} {h : Hs Str} {wl : List V} {v : V} (a : HsAt K H A n h) (e : H A.l = some (.lst wl)) (hv : Trip K H v) : HsAt K (upd H A.l (.lst (wl ++ [v]))) A (n + 1) h := by
  obtain ⟨dx, hi⟩ := a.ins
  obtain ⟨wl', e', l, t⟩ := a.walks
  rw [e] at e'
  obtain rfl : wl = wl' := by injection e' with e'; injection e'
  have tp := tups_put (H := H) (o := .lst (wl ++ [v])) e (fun _ z => nomatch z)
  refine ⟨⟨dx, by rw [upd_ne (ne_of hi e fun z => nomatch z)]; exact hi⟩, by rw [upd_ne a.ne]; exact a.rooms, by rw [upd_ne (ne_of a.places e fun z => nomatch z)]; exact a.places, by rw [upd_ne (ne_of a.wishes e fun z => nomatch z)]; exact a.wishes,
    ⟨_, upd_same, by simp; omega, fun u hu => ?_⟩, a.nd, a.ne⟩
  rcases List.mem_append.mp hu with z | z
  · exact (t u z).keep tp
  · rw [List.mem_singleton.mp z]; exact hv.keep tp
def sp_House_moved (K : PySem.W.Frag) : Sp := fun vs H Q _ => ∃ (A : HA) (m : Nat) (h : Hs Str), vs = [.ref A.o] ∧ HsAt K H A m h ∧
  ∀ H' p ws, Same H H' → H' p = some (.lst ws) → ws.length = m → (∀ v ∈ ws, Trip K H' v) → Q (.ref p) H'
theorem sc_House_moved : FnScope ["self"] ["self"] (defScope s_House_moved) := ⟨rfl, rfl, rfl, by decide +kernel, rfl, by decide +kernel, by decide +kernel⟩
theorem g_House_moved (T : Txt K mg) : GM P w K mg base true CX0 1 (He.ga K "House") "moved" [] (sp_House_moved K) := by
  obtain ⟨fd, F⟩ := T.f_House_moved
  refine ⟨_, fd, ["self"], [], T.m_House_moved, F.bindsN (fun _ _ _ _ _ _ us hl => match us, hl with | [_], _ => rfl), .nil, okU F sc_House_moved (fun vs H Q E h => ?_) (fun cdv A outer s H vs Q E pl hr hh hw h => ⟨_, PSs.nox (pss_one (ps_ret (pe_callTy call_list_of rfl T.n_list boot_list (pa_cons (pe_fldK K (pv 0) rfl) pa_nil)))), ?_⟩)⟩
  · obtain ⟨A, m, h, rfl, _⟩ := h
    rfl
  · obtain ⟨A, m, h, rfl, h1, q⟩ := h
    obtain ⟨dx, hi⟩ := h1.ins
    obtain ⟨wl, e, l, t⟩ := h1.walks
    simp only [a_tVar, a_tC, a_tOp, a_tUn, a_rI, a_rI0, a_rU, a_rEq, a_rNe, a_tTest, a_tB, a_tIsN, a_tNotN, a_tChain, a_tAnd, a_tOr, a_tNot, a_tAndV, a_tOrV, a_tNotV, a_tYes, a_tNext, a_tSeq, a_tCont, a_tBreak, a_tDrop, a_tRet, a_tIfS, a_tNever, a_gName, a_gNil, a_gCons, a_gTup, a_tAsg, a_tNil, a_tCons, a_tTup, a_tLst, a_tCB, a_tCU, a_tMU, a_tFld, a_sFld, a_tSl, a_tNoPart, a_tPart, a_rSlL, a_rSlT, a_rIxL, a_rIxT, a_rCat, a_rRep, a_rCatT, a_tDGet, a_tDIn, a_tDNotIn, a_sDPut, a_tDPop1, a_tDNewK, a_tBM, a_rAppend, a_rExtend, a_iList, a_iEnum, a_iRng1, a_iRng2, a_iVals, a_iItems, a_iRng3, a_iStr, a_tMX, a_tXf, a_wAs, a_tRaise, a_tVeI, a_tOst, a_tMkO, a_tMake, a_rSum, a_rIsi, a_tChain3, a_tAugS, a_rGetL, a_rPutL, a_ipI, a_rSet, a_tCKw, a_rMinD, a_rMin, a_rIxS, a_rSlS, a_iTup, a_rIn, a_rEqD, a_rNeD, upd_same, HO.lst.injEq, HO.tup.injEq, HO.dK.injEq, HO.frz.injEq, a_s0, a_s1, a_s2, a_s3, a_s4, a_s5, a_s6, a_s8, a_scal, a_scals, a_tFor, a_tLc, a_tWhile, a_wipe0, a_wipe1, k_cxU, w_cxU, k_blk, w_blk, and_assoc, exists_and_left, exists_eq_left, exists_eq_left', exists_eq_right, exists_eq, exists_const, List.getElem?_cons_zero, List.getElem?_cons_succ, List.set_cons_zero, List.set_cons_succ, Option.some.injEq, V.int.injEq, V.bl.injEq, V.ref.injEq, V.str.injEq, List.cons.injEq, and_true, true_and, List.cons_append, List.nil_append, List.append_nil, L2.start, List.map_cons, List.map_nil, List.length_cons, List.length_nil, List.replicate, Nat.sub_self, Nat.reduceSub, Nat.reduceAdd, Nat.zero_add, if_true, if_false, Bool.false_eq_true, Bool.true_eq_false, reduceIte, decide_eq_true_eq, Bool.not_eq_true', decide_eq_false_iff_not]
    refine ⟨_, _, _, hi, T.c_House, T.a_House_walks, _, rfl, _, rfl, _, .inl (SqL.of e), fun p hp => ?_⟩
    have s := (Same.rfl' (H := H)).new hp (o := .lst wl)
    exact q _ _ _ s upd_same l fun v hv => (t v hv).keep s.tups
theorem nameIn_map (pl : List (Str × Int)) (room : Int) : nameIn pl room = (((pl.filter fun p => decide (p.2 = room)).map (·.1)).head?) := rfl
def sp_House_name_in (K : PySem.W.Frag) : Sp := fun vs H Q _ => ∃ (A : HA) (m : Nat) (h : Hs Str) (room : Int) (n : Str), vs = [.ref A.o, .int room] ∧ HsAt K H A m h ∧ nameIn h.places room = some n ∧ h.places.length ≤ 900 ∧
  ∀ H', Same H H' → Q (.str n) H'
theorem sc_House_name_in : FnScope ["self", "room", "name", "other"] ["self", "room"] (defScope s_House_name_in) := ⟨rfl, rfl, rfl, by decide +kernel, rfl, by decide +kernel, by decide +kernel⟩
theorem g_House_name_in (T : Txt K mg) : GM P w K mg base true CX0 1 (He.ga K "House") "name_in" [] (sp_House_name_in K) := by
  obtain ⟨fd, F⟩ := T.f_House_name_in
  refine ⟨_, fd, ["self", "room"], [], T.m_House_name_in, F.bindsN (fun _ _ _ _ _ _ us hl => match us, hl with | [_, _], _ => rfl), .nil, okU F sc_House_name_in (fun vs H Q E h => ?_) (fun cdv A outer s H vs Q E pl hr hh hw h => ⟨_, PSs.nox (pss_one (ps_ret (pe_ix (ix_listK K) (pe_lock (pe_lc rfl sc_House_name_in.nd (pi_items (pe_fldK K (pv 0) rfl)) (blkOk_by (own := [("name", 2), ("other", 3)]) (by kernel_rfl)) (fun _ _ _ _ _ => (pgu_tupK (n := 2) K (Or.inl (hh rfl)) (pgs_cons (pg_name (i := 2) sc_House_name_in.nd rfl (by first | exact Or.inl rfl | exact Or.inr rfl)) (pgs_cons (pg_name (i := 3) sc_House_name_in.nd rfl (by first | exact Or.inl rfl | exact Or.inr rfl)) pgs_nil)))) (fun _ _ _ _ _ => (pts_one (pt_cmpR (op_eq) (pv 3) (pv 1) (nomark _)))) (fun _ _ _ _ _ => (pv 2)))) pe_int (fun _ _ => rfl)))), ?_⟩)⟩
  · obtain ⟨A, m, h, room, n, rfl, _⟩ := h
    rfl
  · obtain ⟨A, m, h, room, n, rfl, h1, h2, h3, q⟩ := h
    obtain ⟨dx, hi⟩ := h1.ins
    simp only [a_tVar, a_tC, a_tOp, a_tUn, a_rI, a_rI0, a_rU, a_rEq, a_rNe, a_tTest, a_tB, a_tIsN, a_tNotN, a_tChain, a_tAnd, a_tOr, a_tNot, a_tAndV, a_tOrV, a_tNotV, a_tYes, a_tNext, a_tSeq, a_tCont, a_tBreak, a_tDrop, a_tRet, a_tIfS, a_tNever, a_gName, a_gNil, a_gCons, a_gTup, a_tAsg, a_tNil, a_tCons, a_tTup, a_tLst, a_tCB, a_tCU, a_tMU, a_tFld, a_sFld, a_tSl, a_tNoPart, a_tPart, a_rSlL, a_rSlT, a_rIxL, a_rIxT, a_rCat, a_rRep, a_rCatT, a_tDGet, a_tDIn, a_tDNotIn, a_sDPut, a_tDPop1, a_tDNewK, a_tBM, a_rAppend, a_rExtend, a_iList, a_iEnum, a_iRng1, a_iRng2, a_iVals, a_iItems, a_iRng3, a_iStr, a_tMX, a_tXf, a_wAs, a_tRaise, a_tVeI, a_tOst, a_tMkO, a_tMake, a_rSum, a_rIsi, a_tChain3, a_tAugS, a_rGetL, a_rPutL, a_ipI, a_rSet, a_tCKw, a_rMinD, a_rMin, a_rIxS, a_rSlS, a_iTup, a_rIn, a_rEqD, a_rNeD, upd_same, HO.lst.injEq, HO.tup.injEq, HO.dK.injEq, HO.frz.injEq, a_s0, a_s1, a_s2, a_s3, a_s4, a_s5, a_s6, a_s8, a_scal, a_scals, a_tFor, a_tLc, a_tWhile, a_wipe0, a_wipe1, k_cxU, w_cxU, k_blk, w_blk, and_assoc, exists_and_left, exists_eq_left, exists_eq_left', exists_eq_right, exists_eq, exists_const, List.getElem?_cons_zero, List.getElem?_cons_succ, List.set_cons_zero, List.set_cons_succ, Option.some.injEq, V.int.injEq, V.bl.injEq, V.ref.injEq, V.str.injEq, List.cons.injEq, and_true, true_and, List.cons_append, List.nil_append, List.append_nil, L2.start, List.map_cons, List.map_nil, List.length_cons, List.length_nil, List.replicate, Nat.sub_self, Nat.reduceSub, Nat.reduceAdd, Nat.zero_add, if_true, if_false, Bool.false_eq_true, Bool.true_eq_false, reduceIte, decide_eq_true_eq, Bool.not_eq_true', decide_eq_false_iff_not]
    refine ⟨A.p, _, h1.places, trivial, fun od => ?_⟩
    simp only [a_tVar, a_tC, a_tOp, a_tUn, a_rI, a_rI0, a_rU, a_rEq, a_rNe, a_tTest, a_tB, a_tIsN, a_tNotN, a_tChain, a_tAnd, a_tOr, a_tNot, a_tAndV, a_tOrV, a_tNotV, a_tYes, a_tNext, a_tSeq, a_tCont, a_tBreak, a_tDrop, a_tRet, a_tIfS, a_tNever, a_gName, a_gNil, a_gCons, a_gTup, a_tAsg, a_tNil, a_tCons, a_tTup, a_tLst, a_tCB, a_tCU, a_tMU, a_tFld, a_sFld, a_tSl, a_tNoPart, a_tPart, a_rSlL, a_rSlT, a_rIxL, a_rIxT, a_rCat, a_rRep, a_rCatT, a_tDGet, a_tDIn, a_tDNotIn, a_sDPut, a_tDPop1, a_tDNewK, a_tBM, a_rAppend, a_rExtend, a_iList, a_iEnum, a_iRng1, a_iRng2, a_iVals, a_iItems, a_iRng3, a_iStr, a_tMX, a_tXf, a_wAs, a_tRaise, a_tVeI, a_tOst, a_tMkO, a_tMake, a_rSum, a_rIsi, a_tChain3, a_tAugS, a_rGetL, a_rPutL, a_ipI, a_rSet, a_tCKw, a_rMinD, a_rMin, a_rIxS, a_rSlS, a_iTup, a_rIn, a_rEqD, a_rNeD, upd_same, HO.lst.injEq, HO.tup.injEq, HO.dK.injEq, HO.frz.injEq, a_s0, a_s1, a_s2, a_s3, a_s4, a_s5, a_s6, a_s8, a_scal, a_scals, a_tFor, a_tLc, a_tWhile, a_wipe0, a_wipe1, k_cxU, w_cxU, k_blk, w_blk, and_assoc, exists_and_left, exists_eq_left, exists_eq_left', exists_eq_right, exists_eq, exists_const, List.getElem?_cons_zero, List.getElem?_cons_succ, List.set_cons_zero, List.set_cons_succ, Option.some.injEq, V.int.injEq, V.bl.injEq, V.ref.injEq, V.str.injEq, List.cons.injEq, and_true, true_and, List.cons_append, List.nil_append, List.append_nil, L2.start, List.map_cons, List.map_nil, List.length_cons, List.length_nil, List.replicate, Nat.sub_self, Nat.reduceSub, Nat.reduceAdd, Nat.zero_add, if_true, if_false, Bool.false_eq_true, Bool.true_eq_false, reduceIte, decide_eq_true_eq, Bool.not_eq_true', decide_eq_false_iff_not]
    have hop : A.o ≠ A.p := ne_of hi h1.places fun z => nomatch z
    refine ⟨_, _, _, (upd_ne hop).trans hi, T.c_House, T.a_House_places, _, rfl, _, rfl, _, _, upd_same, fun D hD => ?_⟩
    obtain ⟨ac, ha⟩ : ∃ f : Nat → List V, ∀ i, f i = (((h.places.take i).filter fun p => decide (p.2 = room)).map fun p => V.str p.1) := ⟨_, fun _ => rfl⟩
    refine lc_go walk_items hD ac (ha 0) (fun _ s => locked s) ?_ ?_
    · rintro i y H3 H4 hi' s hD' ⟨T', y1, y2, rfl, hT, rfl, k1, k2⟩
      obtain ⟨pr, hp', rfl, rfl⟩ := kS_get k1 k2
      have s4 := s.new hT (o := .tup [.str pr.1, .int pr.2])
      have ec : ac (i + 1) = ac i ++ (if pr.2 = room then [V.str pr.1] else []) := by
        rw [ha, ha, take_snoc hp', List.filter_append, List.map_append, List.filter_cons]
        by_cases c : pr.2 = room
        · rw [if_pos (decide_eq_true c), if_pos c]; rfl
        · rw [if_neg (by simpa using c), if_neg c]; rfl
      simp only [a_tVar, a_tC, a_tOp, a_tUn, a_rI, a_rI0, a_rU, a_rEq, a_rNe, a_tTest, a_tB, a_tIsN, a_tNotN, a_tChain, a_tAnd, a_tOr, a_tNot, a_tAndV, a_tOrV, a_tNotV, a_tYes, a_tNext, a_tSeq, a_tCont, a_tBreak, a_tDrop, a_tRet, a_tIfS, a_tNever, a_gName, a_gNil, a_gCons, a_gTup, a_tAsg, a_tNil, a_tCons, a_tTup, a_tLst, a_tCB, a_tCU, a_tMU, a_tFld, a_sFld, a_tSl, a_tNoPart, a_tPart, a_rSlL, a_rSlT, a_rIxL, a_rIxT, a_rCat, a_rRep, a_rCatT, a_tDGet, a_tDIn, a_tDNotIn, a_sDPut, a_tDPop1, a_tDNewK, a_tBM, a_rAppend, a_rExtend, a_iList, a_iEnum, a_iRng1, a_iRng2, a_iVals, a_iItems, a_iRng3, a_iStr, a_tMX, a_tXf, a_wAs, a_tRaise, a_tVeI, a_tOst, a_tMkO, a_tMake, a_rSum, a_rIsi, a_tChain3, a_tAugS, a_rGetL, a_rPutL, a_ipI, a_rSet, a_tCKw, a_rMinD, a_rMin, a_rIxS, a_rSlS, a_iTup, a_rIn, a_rEqD, a_rNeD, upd_same, HO.lst.injEq, HO.tup.injEq, HO.dK.injEq, HO.frz.injEq, a_s0, a_s1, a_s2, a_s3, a_s4, a_s5, a_s6, a_s8, a_scal, a_scals, a_tFor, a_tLc, a_tWhile, a_wipe0, a_wipe1, k_cxU, w_cxU, k_blk, w_blk, and_assoc, exists_and_left, exists_eq_left, exists_eq_left', exists_eq_right, exists_eq, exists_const, List.getElem?_cons_zero, List.getElem?_cons_succ, List.set_cons_zero, List.set_cons_succ, Option.some.injEq, V.int.injEq, V.bl.injEq, V.ref.injEq, V.str.injEq, List.cons.injEq, and_true, true_and, List.cons_append, List.nil_append, List.append_nil, L2.start, List.map_cons, List.map_nil, List.length_cons, List.length_nil, List.replicate, Nat.sub_self, Nat.reduceSub, Nat.reduceAdd, Nat.zero_add, if_true, if_false, Bool.false_eq_true, Bool.true_eq_false, reduceIte, decide_eq_true_eq, Bool.not_eq_true', decide_eq_false_iff_not]
      refine ⟨_, SqT.of upd_same, rfl, _, _, rfl, _, _, rfl, rfl, ?_⟩
      simp only [a_tVar, a_tC, a_tOp, a_tUn, a_rI, a_rI0, a_rU, a_rEq, a_rNe, a_tTest, a_tB, a_tIsN, a_tNotN, a_tChain, a_tAnd, a_tOr, a_tNot, a_tAndV, a_tOrV, a_tNotV, a_tYes, a_tNext, a_tSeq, a_tCont, a_tBreak, a_tDrop, a_tRet, a_tIfS, a_tNever, a_gName, a_gNil, a_gCons, a_gTup, a_tAsg, a_tNil, a_tCons, a_tTup, a_tLst, a_tCB, a_tCU, a_tMU, a_tFld, a_sFld, a_tSl, a_tNoPart, a_tPart, a_rSlL, a_rSlT, a_rIxL, a_rIxT, a_rCat, a_rRep, a_rCatT, a_tDGet, a_tDIn, a_tDNotIn, a_sDPut, a_tDPop1, a_tDNewK, a_tBM, a_rAppend, a_rExtend, a_iList, a_iEnum, a_iRng1, a_iRng2, a_iVals, a_iItems, a_iRng3, a_iStr, a_tMX, a_tXf, a_wAs, a_tRaise, a_tVeI, a_tOst, a_tMkO, a_tMake, a_rSum, a_rIsi, a_tChain3, a_tAugS, a_rGetL, a_rPutL, a_ipI, a_rSet, a_tCKw, a_rMinD, a_rMin, a_rIxS, a_rSlS, a_iTup, a_rIn, a_rEqD, a_rNeD, upd_same, HO.lst.injEq, HO.tup.injEq, HO.dK.injEq, HO.frz.injEq, a_s0, a_s1, a_s2, a_s3, a_s4, a_s5, a_s6, a_s8, a_scal, a_scals, a_tFor, a_tLc, a_tWhile, a_wipe0, a_wipe1, k_cxU, w_cxU, k_blk, w_blk, and_assoc, exists_and_left, exists_eq_left, exists_eq_left', exists_eq_right, exists_eq, exists_const, List.getElem?_cons_zero, List.getElem?_cons_succ, List.set_cons_zero, List.set_cons_succ, Option.some.injEq, V.int.injEq, V.bl.injEq, V.ref.injEq, V.str.injEq, List.cons.injEq, and_true, true_and, List.cons_append, List.nil_append, List.append_nil, L2.start, List.map_cons, List.map_nil, List.length_cons, List.length_nil, List.replicate, Nat.sub_self, Nat.reduceSub, Nat.reduceAdd, Nat.zero_add, if_true, if_false, Bool.false_eq_true, Bool.true_eq_false, reduceIte, decide_eq_true_eq, Bool.not_eq_true', decide_eq_false_iff_not]
      by_cases c : pr.2 = room
      · rw [if_pos c]
        rw [if_pos c] at ec
        refine leaf hD (get_new hD' hT) s4 (szl _ ?_) ec
        rw [ha, List.length_map]
        have := List.length_filter_le (fun p : Str × Int => decide (p.2 = room)) (h.places.take i)
        rw [List.length_take] at this
        omega
      · rw [if_neg c]
        rw [if_neg c, List.append_nil] at ec
        exact leafN (get_new hD' hT) s4 ec
    · intro H' s hD'
      rw [ha, kS_len, List.take_length] at hD'
      have hne : D ≠ A.p := fun e => by rw [e, upd_same] at hD; cases hD
      refine ⟨locked s, _, SqL.of (by rw [upd_ne hne]; exact hD'), .str n, ?_, q _ (unlock s h1.places)⟩
      rw [nameIn_map] at h2
      cases e : (h.places.filter fun p => decide (p.2 = room)) with
      | nil => rw [e] at h2; cases h2
      | cons x r =>
        rw [e] at h2
        have : x.1 = n := Option.some.inj h2
        rw [← this]
        exact atI_n 0 rfl rfl
def sp_Full__init_ (K : PySem.W.Frag) : Sp := fun vs H Q _ => ∃ (a : Addr) (k : Int), vs = [.ref a, .int k] ∧ H a = some (exo a (CF K) none) ∧ ∀ dx, H dx = none → dx ≠ a → Q .non (upd (upd H dx (exd dx [("kind", .int k)])) a (exo a (CF K) (some dx)))
theorem sc_Full__init_ : FnScope ["self", "kind"] ["self", "kind"] (defScope s_Full__init_) := ⟨rfl, rfl, rfl, by decide +kernel, rfl, by decide +kernel, by decide +kernel⟩
theorem g_Full__init_ (T : Txt K mg) : GI P w K mg base true 1 (He.ga K "Full") (sp_Full__init_ K) := by
  obtain ⟨fd, F⟩ := T.f_Full__init_
  refine ⟨fd, ["self", "kind"], [], F.bindsN (fun _ _ _ _ _ _ us hl => match us, hl with | [_, _], _ => rfl), .nil, okU F sc_Full__init_ (fun vs H Q E h => ?_) (fun cdv A outer s H vs Q E pl hr hh hw h => ⟨_, PSs.nox (pss_cons (ps_expr (pe_owninit rfl T.e_glob T.e_gg T.e_rC T.e_vV (pa_cons (pv 0) (pa_cons pe_str pa_nil))))
      (pss_one (ps_ost (pv 0) (pv 1)))), ?_⟩)⟩
  · obtain ⟨a, k, rfl, _⟩ := h
    rfl
  · obtain ⟨a, k, rfl, h1, q⟩ := h
    simp only [a_tVar, a_tC, a_tOp, a_tUn, a_rI, a_rI0, a_rU, a_rEq, a_rNe, a_tTest, a_tB, a_tIsN, a_tNotN, a_tChain, a_tAnd, a_tOr, a_tNot, a_tAndV, a_tOrV, a_tNotV, a_tYes, a_tNext, a_tSeq, a_tCont, a_tBreak, a_tDrop, a_tRet, a_tIfS, a_tNever, a_gName, a_gNil, a_gCons, a_gTup, a_tAsg, a_tNil, a_tCons, a_tTup, a_tLst, a_tCB, a_tCU, a_tMU, a_tFld, a_sFld, a_tSl, a_tNoPart, a_tPart, a_rSlL, a_rSlT, a_rIxL, a_rIxT, a_rCat, a_rRep, a_rCatT, a_tDGet, a_tDIn, a_tDNotIn, a_sDPut, a_tDPop1, a_tDNewK, a_tBM, a_rAppend, a_rExtend, a_iList, a_iEnum, a_iRng1, a_iRng2, a_iVals, a_iItems, a_iRng3, a_iStr, a_tMX, a_tXf, a_wAs, a_tRaise, a_tVeI, a_tOst, a_tMkO, a_tMake, a_rSum, a_rIsi, a_tChain3, a_tAugS, a_rGetL, a_rPutL, a_ipI, a_rSet, a_tCKw, a_rMinD, a_rMin, a_rIxS, a_rSlS, a_iTup, a_rIn, a_rEqD, a_rNeD, upd_same, HO.lst.injEq, HO.tup.injEq, HO.dK.injEq, HO.frz.injEq, a_s0, a_s1, a_s2, a_s3, a_s4, a_s5, a_s6, a_s8, a_scal, a_scals, a_tFor, a_tLc, a_tWhile, a_wipe0, a_wipe1, k_cxU, w_cxU, k_blk, w_blk, and_assoc, exists_and_left, exists_eq_left, exists_eq_left', exists_eq_right, exists_eq, exists_const, List.getElem?_cons_zero, List.getElem?_cons_succ, List.set_cons_zero, List.set_cons_succ, Option.some.injEq, V.int.injEq, V.bl.injEq, V.ref.injEq, V.str.injEq, List.cons.injEq, and_true, true_and, List.cons_append, List.nil_append, List.append_nil, L2.start, List.map_cons, List.map_nil, List.length_cons, List.length_nil, List.replicate, Nat.sub_self, Nat.reduceSub, Nat.reduceAdd, Nat.zero_add, if_true, if_false, Bool.false_eq_true, Bool.true_eq_false, reduceIte, decide_eq_true_eq, Bool.not_eq_true', decide_eq_false_iff_not]
    exact ⟨by decide, _, T.x_oex, h1, _, T.x_oex, T.x_kind, .inl ⟨h1, q⟩⟩
def sp_House_out (K : PySem.W.Frag) : Sp := fun vs H Q _ => ∃ (A : HA) (m : Nat) (h : Hs Str) (n : Str), vs = [.ref A.o, .str n] ∧ HsAt K H A m h ∧ HsOk h ∧ n ∈ keysE h.places ∧
  ∀ H' r, Fr A.fp H H' → HsAt K H' A m (outH h n) → Q (.int r) H'
theorem sc_House_out : FnScope ["self", "name"] ["self", "name"] (defScope s_House_out) := ⟨rfl, rfl, rfl, by decide +kernel, rfl, by decide +kernel, by decide +kernel⟩
theorem g_House_out (T : Txt K mg) : GM P w K mg base true CX0 2 (He.ga K "House") "out" [] (sp_House_out K) := by
  obtain ⟨fd, F⟩ := T.f_House_out
  refine ⟨_, fd, ["self", "name"], [], T.m_House_out, F.bindsN (fun _ _ _ _ _ _ us hl => match us, hl with | [_, _], _ => rfl), .nil, okU F sc_House_out (fun vs H Q E h => ?_) (fun cdv A outer s H vs Q E pl hr hh hw h => ⟨_, PSs.nox (pss_cons (ps_expr (pe_mu (pv 0) T.c_House (g_House_need T) (hr.mono (by decide)) hw (fun _ => hh rfl) (pa_cons (pv 1) pa_nil)))
      (pss_cons (ps_expr (pe_dpop1 (pe_fldK K (pv 0) rfl) (pv 1) ⟨rfl, rfl, rfl, rfl⟩))
      (pss_one (ps_ret (pe_dpop1 (pe_fldK K (pv 0) rfl) (pv 1) ⟨rfl, rfl, rfl, rfl⟩))))), ?_⟩)⟩
  · obtain ⟨A, m, h, n, rfl, _⟩ := h
    rfl
  · obtain ⟨A, m, h, n, rfl, h1, h2, h3, q⟩ := h
    obtain ⟨dx, hi⟩ := h1.ins
    simp only [a_tVar, a_tC, a_tOp, a_tUn, a_rI, a_rI0, a_rU, a_rEq, a_rNe, a_tTest, a_tB, a_tIsN, a_tNotN, a_tChain, a_tAnd, a_tOr, a_tNot, a_tAndV, a_tOrV, a_tNotV, a_tYes, a_tNext, a_tSeq, a_tCont, a_tBreak, a_tDrop, a_tRet, a_tIfS, a_tNever, a_gName, a_gNil, a_gCons, a_gTup, a_tAsg, a_tNil, a_tCons, a_tTup, a_tLst, a_tCB, a_tCU, a_tMU, a_tFld, a_sFld, a_tSl, a_tNoPart, a_tPart, a_rSlL, a_rSlT, a_rIxL, a_rIxT, a_rCat, a_rRep, a_rCatT, a_tDGet, a_tDIn, a_tDNotIn, a_sDPut, a_tDPop1, a_tDNewK, a_tBM, a_rAppend, a_rExtend, a_iList, a_iEnum, a_iRng1, a_iRng2, a_iVals, a_iItems, a_iRng3, a_iStr, a_tMX, a_tXf, a_wAs, a_tRaise, a_tVeI, a_tOst, a_tMkO, a_tMake, a_rSum, a_rIsi, a_tChain3, a_tAugS, a_rGetL, a_rPutL, a_ipI, a_rSet, a_tCKw, a_rMinD, a_rMin, a_rIxS, a_rSlS, a_iTup, a_rIn, a_rEqD, a_rNeD, upd_same, HO.lst.injEq, HO.tup.injEq, HO.dK.injEq, HO.frz.injEq, a_s0, a_s1, a_s2, a_s3, a_s4, a_s5, a_s6, a_s8, a_scal, a_scals, a_tFor, a_tLc, a_tWhile, a_wipe0, a_wipe1, k_cxU, w_cxU, k_blk, w_blk, and_assoc, exists_and_left, exists_eq_left, exists_eq_left', exists_eq_right, exists_eq, exists_const, List.getElem?_cons_zero, List.getElem?_cons_succ, List.set_cons_zero, List.set_cons_succ, Option.some.injEq, V.int.injEq, V.bl.injEq, V.ref.injEq, V.str.injEq, List.cons.injEq, and_true, true_and, List.cons_append, List.nil_append, List.append_nil, L2.start, List.map_cons, List.map_nil, List.length_cons, List.length_nil, List.replicate, Nat.sub_self, Nat.reduceSub, Nat.reduceAdd, Nat.zero_add, if_true, if_false, Bool.false_eq_true, Bool.true_eq_false, reduceIte, decide_eq_true_eq, Bool.not_eq_true', decide_eq_false_iff_not]
    obtain ⟨v, hv⟩ := getE_some_iff.mp h3
    have hq : n ∈ keysE h.wishes := by rw [h2.keys]; exact h3
    obtain ⟨u, hu⟩ := getE_some_iff.mp hq
    refine ⟨_, _, hi, rfl, A, m, h, n, rfl, h1, h3, ?_⟩
    have hop : A.o ≠ A.q := ne_of hi h1.wishes fun z => nomatch z
    have b1 := h1.putQ (dropE h.wishes n)
    have b2 := b1.putP (dropE h.places n)
    refine ⟨_, _, _, hi, T.c_House, T.a_House_wishes, _, rfl, _, rfl, .inl ⟨_, .inl h1.wishes⟩, _, h1.wishes, Sum.inr n, rfl, .int u, by rw [val_kS, hu]; rfl, ?_⟩
    rw [drop_kS]
    refine ⟨_, _, _, (upd_ne hop).trans hi, T.c_House, T.a_House_places, _, rfl, _, rfl, .inl ⟨_, .inl b1.places⟩, _, b1.places, Sum.inr n, rfl, .int v, by rw [val_kS, hv]; rfl, ?_⟩
    rw [drop_kS]
    have f : Fr A.fp H (upd (upd H A.q (.dK (kS (dropE h.wishes n)))) A.p (.dK (kS (dropE h.places n)))) := ((Fr.rfl'.put (by simp [HA.fp]) h1.wishes (fun _ z => nomatch z)).put (by simp [HA.fp]) b1.places (fun _ z => nomatch z))
    exact q _ v f b2
/-! ### let_in -/
theorem getE_none_of {β : Type} {l : List (Str × β)} {k : Str} (h : k ∉ keysE l) : getE l k = none := by
  cases e : getE l k with
  | none => rfl
  | some v => exact absurd (getE_some_iff.mpr ⟨v, e⟩) h
theorem moves_len (rooms : List Int) (g : List (Int × Int)) : ∀ (rl : List Int) (free : Int), (movesGo rooms g rl free).1.length ≤ rl.length
  | [], _ => Nat.zero_le _
  | [_], _ => Nat.zero_le _
  | w :: k :: r, free => by
    rw [moves_cons]
    have := moves_len rooms g (k :: r) (guestAt rooms g k w)
    simp at *
    omega
theorem admAt_letIn {H0 H : Hp} {p : Addr} {h : Hs Str} {n : Str} {k : Int} (a : AdmAt K H0 H p h.rooms (guestsOf h) k) :
    (∃ lvl, letIn h n k = .inl lvl ∧ Tu K H p [.str "full", .int lvl]) ∨
    ∃ free ms fin, freeFrom h.rooms (guestsOf h) (lastD k (fallsOf h k)) = some free ∧ movesGo h.rooms (guestsOf h) (fallsOf h k).reverse free = (ms, fin) ∧ letIn h n k = .inr { h with places := putE (ms.foldl moveOne h.places) n fin, wishes := putE h.wishes n k } ∧
      ∃ (m f : Addr) (mv : List V), H0 m = none ∧ Tu K H p [.str "in", .ref m, .int fin, .ref f] ∧ H m = some (.lst mv) ∧ MsAt K H mv ms := by
  unfold AdmAt at a
  unfold letIn
  unfold fallsOf
  cases e : freeFrom h.rooms (guestsOf h) (lastD k (fallsGo h.rooms (guestsOf h) k.toNat k)) with
  | none =>
    rw [e] at a
    exact .inl ⟨_, rfl, a⟩
  | some free =>
    rw [e] at a
    obtain ⟨m, f, mv, a1, a2, a3, a4⟩ := a
    exact .inr ⟨free, _, _, rfl, rfl, rfl, m, f, mv, a1, a2, a3, a4⟩
def sp_House_let_in (K : PySem.W.Frag) : Sp := fun vs H Q E => ∃ (A : HA) (m : Nat) (h : Hs Str) (n : Str) (k : Int), vs = [.ref A.o, .str n, .int k] ∧ HsAt K H A m h ∧ HsOk h ∧ NmOk n ∧ n ∉ keysE h.places ∧ 1 ≤ k ∧ k ≤ 4 ∧ h.places.length ≤ 900 ∧ m ≤ 990000 ∧
  (∀ lvl, letIn h n k = .inl lvl → ∀ H' d, Same H H' → H' d = some (.xd [("kind", .int lvl)]) → E (.ref (CF K)) (some d) H') ∧
  (∀ h', letIn h n k = .inr h' → ∀ m', m' ≤ m + 5 → m ≤ m' → ∀ H' p x y, Fr A.fp H H' → HsAt K H' A m' h' → Tu K H' p [x, y] → Q (.ref p) H')
theorem sc_House_let_in : FnScope ["self", "name", "kind", "told", "room", "other", "guest"] ["self", "name", "kind"] (defScope s_House_let_in) := ⟨rfl, rfl, rfl, by decide +kernel, rfl, by decide +kernel, by decide +kernel⟩
theorem g_House_let_in (T : Txt K mg) : GM P w K mg base true (L2N.CX P w) 5 (He.ga K "House") "let_in" [] (sp_House_let_in K) := by
  obtain ⟨fd, F⟩ := T.f_House_let_in
  refine ⟨_, fd, ["self", "name", "kind"], [], T.m_House_let_in, F.bindsN (fun _ _ _ _ _ _ us hl => match us, hl with | [_, _, _], _ => rfl), .nil, okU F sc_House_let_in (fun vs H Q E h => ?_) (fun cdv A outer s H vs Q E pl hr hh hw h => ⟨_, (pss_cons (ps_if (pt_not (pt_val (pe_cu (g_is_name T) (hr.mono (by decide)) hw (fun _ => hh rfl) rfl (pa_cons (pv 1) pa_nil)))) pss_never pss_nil)
      (pss_cons (ps_if (pt_cmp (pc_din (huU hr) (pv 1) (pe_fldK K (pv 0) rfl))) pss_never pss_nil)
      (pss_cons (ps_if (PW.pt (pw_or (pt_not (pt_val (pe_cu (g_is_whole T) (hr.mono (by decide)) hw (fun z => Bool.noConfusion z) rfl (pa_cons (pv 2) pa_nil)))) (pw_or1 (pt_not (pt_chain op_le op_le pe_int (pv 2) (pg_int T.i_BEST)))))) pss_never pss_nil)
      (pss_cons (ps_set (i := 3) sc_House_let_in.nd rfl (by first | exact Or.inl rfl | exact Or.inr rfl) (pe_cu (g_admitted T) (hr.mono (by decide)) hw (fun _ => hh rfl) rfl (pa_cons (pe_fldK K (pv 0) rfl) (pa_cons (pe_mu0 (pv 0) T.c_House (g_House_guests T) (hr.mono (by decide)) hw (fun _ => hh rfl)) (pa_cons (pv 2) pa_nil)))))
      (pss_cons (ps_if (pt_cmpR (op_eq) (pe_ix (ix_tupK K) (pv 3) pe_int (fun _ _ => rfl)) pe_str (nomark _)) (pss_one (ps_raiseW rfl (L2N.takes_of (E := E) rfl rfl rfl rfl) (pmk_own T.x_oex T.x_init T.x_fun (g_Full__init_ T) (hr.mono (by decide)) (hh rfl) rfl T.g_Full (pa_cons (pe_ix (ix_tupK K) (pv 3) pe_int (fun _ _ => rfl)) pa_nil)))) pss_nil)
      (pss_cons (ps_nox (psu_for PassesOwn.never hw (piu_list (pe_ix (ix_tupK K) (pv 3) pe_int (fun _ _ => rfl))) (pgu_tupK (n := 2) K hw (pgs_cons (pg_name (i := 4) sc_House_let_in.nd rfl (by first | exact Or.inl rfl | exact Or.inr rfl)) (pgs_cons (pg_name (i := 5) sc_House_let_in.nd rfl (by first | exact Or.inl rfl | exact Or.inr rfl)) pgs_nil))) (pss_cons (ps_set (i := 6) sc_House_let_in.nd rfl (by first | exact Or.inl rfl | exact Or.inr rfl) (pe_mu (pv 0) T.c_House (g_House_name_in T) (hr.mono (by decide)) hw (fun _ => hh rfl) (pa_cons (pv 4) pa_nil)))
      (pss_cons (ps_dput (huU hr) (pe_fldK K (pv 0) rfl) (pv 6) (pv 5) rfl)
      (pss_one (ps_expr (pe_bm PySem.F.plainAttrs_list PySem.F.slot_list_append PySem.F.type_list_append mt_append (pe_fldK K (pv 0) rfl) (pa_cons (pe_tup (pa_cons (pv 6) (pa_cons (pv 4) (pa_cons (pv 5) pa_nil)))) pa_nil))))))))
      (pss_cons (ps_dput (huU hr) (pe_fldK K (pv 0) rfl) (pv 1) (pe_ix (ix_tupK K) (pv 3) pe_int (fun _ _ => rfl)) rfl)
      (pss_cons (ps_dput (huU hr) (pe_fldK K (pv 0) rfl) (pv 1) (pv 2) rfl)
      (pss_one (ps_ret (pe_tup (pa_cons (pe_ix (ix_tupK K) (pv 3) pe_int (fun _ _ => rfl)) (pa_cons (pe_ix (ix_tupK K) (pv 3) pe_int (fun _ _ => rfl)) pa_nil))))))))))))), ?_⟩)⟩
  · obtain ⟨A, m, h, n, k, rfl, _⟩ := h
    rfl
  · obtain ⟨A, m, h, n, k, rfl, h1, h2, h3, h4, h5, h6, h7, h8, hE, hQ⟩ := h
    obtain ⟨dx, hi⟩ := h1.ins
    simp only [a_tVar, a_tC, a_tOp, a_tUn, a_rI, a_rI0, a_rU, a_rEq, a_rNe, a_tTest, a_tB, a_tIsN, a_tNotN, a_tChain, a_tAnd, a_tOr, a_tNot, a_tAndV, a_tOrV, a_tNotV, a_tYes, a_tNext, a_tSeq, a_tCont, a_tBreak, a_tDrop, a_tRet, a_tIfS, a_tNever, a_gName, a_gNil, a_gCons, a_gTup, a_tAsg, a_tNil, a_tCons, a_tTup, a_tLst, a_tCB, a_tCU, a_tMU, a_tFld, a_sFld, a_tSl, a_tNoPart, a_tPart, a_rSlL, a_rSlT, a_rIxL, a_rIxT, a_rCat, a_rRep, a_rCatT, a_tDGet, a_tDIn, a_tDNotIn, a_sDPut, a_tDPop1, a_tDNewK, a_tBM, a_rAppend, a_rExtend, a_iList, a_iEnum, a_iRng1, a_iRng2, a_iVals, a_iItems, a_iRng3, a_iStr, a_tMX, a_tXf, a_wAs, a_tRaise, a_tVeI, a_tOst, a_tMkO, a_tMake, a_rSum, a_rIsi, a_tChain3, a_tAugS, a_rGetL, a_rPutL, a_ipI, a_rSet, a_tCKw, a_rMinD, a_rMin, a_rIxS, a_rSlS, a_iTup, a_rIn, a_rEqD, a_rNeD, upd_same, HO.lst.injEq, HO.tup.injEq, HO.dK.injEq, HO.frz.injEq, a_s0, a_s1, a_s2, a_s3, a_s4, a_s5, a_s6, a_s8, a_scal, a_scals, a_tFor, a_tLc, a_tWhile, a_wipe0, a_wipe1, k_cxU, w_cxU, k_blk, w_blk, and_assoc, exists_and_left, exists_eq_left, exists_eq_left', exists_eq_right, exists_eq, exists_const, List.getElem?_cons_zero, List.getElem?_cons_succ, List.set_cons_zero, List.set_cons_succ, Option.some.injEq, V.int.injEq, V.bl.injEq, V.ref.injEq, V.str.injEq, List.cons.injEq, and_true, true_and, List.cons_append, List.nil_append, List.append_nil, L2.start, List.map_cons, List.map_nil, List.length_cons, List.length_nil, List.replicate, Nat.sub_self, Nat.reduceSub, Nat.reduceAdd, Nat.zero_add, if_true, if_false, Bool.false_eq_true, Bool.true_eq_false, reduceIte, decide_eq_true_eq, Bool.not_eq_true', decide_eq_false_iff_not]
    refine ⟨n, rfl, h3, true, rfl, ?_⟩
    rw [if_neg (fun z => Bool.noConfusion z)]
    refine ⟨_, _, _, hi, T.c_House, T.a_House_places, _, rfl, _, rfl, _, DGet.k (k := Sum.inr n) h1.places, ?_⟩
    rw [val_kS, getE_none_of h4, if_neg (fun z => Bool.noConfusion z)]
    refine ⟨k, rfl, true, rfl, ?_⟩
    rw [if_neg (fun z => Bool.noConfusion z), if_pos h5, if_neg (fun z => z h6)]
    refine ⟨_, _, _, hi, T.c_House, T.a_House_rooms, _, rfl, _, _, hi, rfl, A, m, h, rfl, h1, h2, h7, fun H1 g s1 hg => ?_⟩
    have G := guests_ok h2
    have gl := guests_len h.places h.wishes []
    have gl' : (guestsOf h).length ≤ 900 := by
      unfold guestsOf
      simp at gl
      omega
    refine ⟨A.r, g, h, guestsOf h, k, rfl, SqL.of (s1 _ _ h1.rooms), hg, G, by omega, h5, by omega, fun H2 p s2 ad => ?_⟩
    have s12 := s1.tr s2
    rcases admAt_letIn (n := n) ad with ⟨lvl, e1, tp⟩ | ⟨free, ms, fin, e1, e2, e3, mm, f, mv, m0, tp, hm, hms⟩
    · refine ⟨p, rfl, _, tp.sq, .str "full", atI_n 0 rfl rfl, rfl, ?_⟩
      rw [if_pos rfl]
      refine ⟨p, rfl, _, tp.sq, .int lvl, atI_n 1 rfl rfl, by decide, fun a ha => ⟨a, lvl, rfl, upd_same, fun dx hdx dxa => ⟨rfl, dx, upd_same, _, (upd_ne dxa).trans upd_same, (none_upd hdx).2, ?_⟩⟩⟩
      refine hE lvl e1 _ dx (fun b o e => ?_) upd_same
      have hb := s12 _ _ e
      have ba : b ≠ a := ne_of_none hb ha
      have bd : b ≠ dx := ne_of_none hb (none_upd hdx).2
      rw [upd_ne bd, del_ne ba, upd_ne ba, upd_ne bd, upd_ne ba]
      exact hb
    · refine ⟨p, rfl, _, tp.sq, .str "in", atI_n 0 rfl rfl, rfl, ?_⟩
      rw [if_neg (by decide)]
      refine ⟨p, rfl, _, tp.sq, .ref mm, atI_n 1 rfl rfl, mm, rfl, ⟨_, SqL.of hm⟩, ?_⟩
      have m0' : H mm = none := Same.free s1 m0
      obtain ⟨f0, f1⟩ := free_rng e1
      have fo := falls_ok h.rooms (guestsOf h) k.toNat k
      obtain ⟨M, _, c0, c1⟩ := moves_ok G (fallsOf h k).reverse free ⟨_, fo.1, rfl⟩ f0 f1
      rw [e2] at M c0 c1
      have mlen : ms.length ≤ 5 := by
        have := moves_len h.rooms (guestsOf h) (fallsOf h k).reverse free
        rw [e2, List.length_reverse] at this
        have h9 := falls_len h.rooms (guestsOf h) k.toNat k
        unfold fallsOf at this
        simp at this
        omega
      have vl := Paired.length hms
      have mpl : ∀ {x}, x ∈ A.fp → mm ≠ x := fun {x} hx e => by
        simp only [HA.fp, List.mem_cons, List.not_mem_nil, or_false] at hx
        obtain ⟨wl, ew, _⟩ := h1.walks
        rcases hx with z | z | z
        · rw [e, z, h1.places] at m0'; cases m0'
        · rw [e, z, h1.wishes] at m0'; cases m0'
        · rw [e, z, ew] at m0'; cases m0'
      have klen : ∀ {pl ms'}, PlOk h.rooms.length h.places pl ms' → pl.length ≤ 900 := fun {pl ms'} ok => by
        have := congrArg List.length ok.keys
        unfold keysE at this
        rw [List.length_map, List.length_map] at this
        omega
      refine for_go (walk_list (xs := mv)) (fun i σ H' => Fr A.fp H H' ∧ ∃ u v x, σ = [some (.ref A.o), some (.str n), some (.int k), some (.ref p), u, v, x] ∧ HsAt K H' A (m + i) { h with places := (ms.take i).foldl moveOne h.places } ∧ PlOk h.rooms.length h.places ((ms.take i).foldl moveOne h.places) (ms.drop i) ∧
        H' mm = some (.lst mv) ∧ MsAt K H' mv ms ∧ Tu K H' p [.str "in", .ref mm, .int fin, .ref f]) ⟨s12.fr _, none, none, none, rfl, h1.same s12, ⟨h2.nd, rfl, h2.inr, M.there⟩, hm, hms, tp⟩ (fun i σ H' _ ⟨_, _, _, _, _, _, _, hm', _⟩ => SqL.of hm') ?_ ?_
      · rintro i y σ H3 H4 hi' ⟨fr, u, v, x, rfl, a1, a2, a3, a4, a5⟩ ⟨rfl, e4⟩
        obtain ⟨mi, hmi, a, rfl, ta⟩ := paired_get a4 e4
        have d1 : ms.drop i = mi :: ms.drop (i + 1) := by
          obtain ⟨z, e⟩ := List.getElem?_eq_some_iff.mp hmi
          rw [List.drop_eq_getElem_cons z, e]
        rw [d1] at a2
        have dd := M.diff.sublist (List.drop_sublist i ms)
        rw [d1] at dd
        obtain ⟨gn, b1, b2, b3, b4⟩ := move_ok a2 (M.rng mi (List.mem_of_getElem? hmi)) (List.pairwise_cons.mp dd).1
        obtain ⟨dx3, hi3⟩ := a1.ins
        have ef : (ms.take (i + 1)).foldl moveOne h.places = moveOne ((ms.take i).foldl moveOne h.places) mi := by
          rw [take_snoc hmi, List.foldl_append]
          rfl
        simp only [a_tVar, a_tC, a_tOp, a_tUn, a_rI, a_rI0, a_rU, a_rEq, a_rNe, a_tTest, a_tB, a_tIsN, a_tNotN, a_tChain, a_tAnd, a_tOr, a_tNot, a_tAndV, a_tOrV, a_tNotV, a_tYes, a_tNext, a_tSeq, a_tCont, a_tBreak, a_tDrop, a_tRet, a_tIfS, a_tNever, a_gName, a_gNil, a_gCons, a_gTup, a_tAsg, a_tNil, a_tCons, a_tTup, a_tLst, a_tCB, a_tCU, a_tMU, a_tFld, a_sFld, a_tSl, a_tNoPart, a_tPart, a_rSlL, a_rSlT, a_rIxL, a_rIxT, a_rCat, a_rRep, a_rCatT, a_tDGet, a_tDIn, a_tDNotIn, a_sDPut, a_tDPop1, a_tDNewK, a_tBM, a_rAppend, a_rExtend, a_iList, a_iEnum, a_iRng1, a_iRng2, a_iVals, a_iItems, a_iRng3, a_iStr, a_tMX, a_tXf, a_wAs, a_tRaise, a_tVeI, a_tOst, a_tMkO, a_tMake, a_rSum, a_rIsi, a_tChain3, a_tAugS, a_rGetL, a_rPutL, a_ipI, a_rSet, a_tCKw, a_rMinD, a_rMin, a_rIxS, a_rSlS, a_iTup, a_rIn, a_rEqD, a_rNeD, upd_same, HO.lst.injEq, HO.tup.injEq, HO.dK.injEq, HO.frz.injEq, a_s0, a_s1, a_s2, a_s3, a_s4, a_s5, a_s6, a_s8, a_scal, a_scals, a_tFor, a_tLc, a_tWhile, a_wipe0, a_wipe1, k_cxU, w_cxU, k_blk, w_blk, and_assoc, exists_and_left, exists_eq_left, exists_eq_left', exists_eq_right, exists_eq, exists_const, List.getElem?_cons_zero, List.getElem?_cons_succ, List.set_cons_zero, List.set_cons_succ, Option.some.injEq, V.int.injEq, V.bl.injEq, V.ref.injEq, V.str.injEq, List.cons.injEq, and_true, true_and, List.cons_append, List.nil_append, List.append_nil, L2.start, List.map_cons, List.map_nil, List.length_cons, List.length_nil, List.replicate, Nat.sub_self, Nat.reduceSub, Nat.reduceAdd, Nat.zero_add, if_true, if_false, Bool.false_eq_true, Bool.true_eq_false, reduceIte, decide_eq_true_eq, Bool.not_eq_true', decide_eq_false_iff_not]
        refine ⟨_, ta.sq, rfl, _, _, rfl, _, _, rfl, rfl, ?_⟩
        refine ⟨_, _, hi3, rfl, A, m + i, _, mi.1, gn, rfl, a1, b1, klen a2, fun H5 s5 => ?_⟩
        have a1' := a1.same s5
        have hs2 := a1'.putP (putE ((ms.take i).foldl moveOne h.places) gn mi.2)
        have hkl := klen a2
        refine ⟨_, _, _, s5 _ _ hi3, T.c_House, T.a_House_places, _, rfl, _, rfl, _, DPut.k (k := Sum.inr gn) a1'.places (szl _ (by rw [kS_len]; exact Nat.le_trans hkl (by decide))), ?_⟩
        rw [put_kS]
        obtain ⟨dx6, hi6⟩ := hs2.ins
        obtain ⟨wl, ew, lw, tw⟩ := hs2.walks
        refine ⟨_, _, _, hi6, T.c_House, T.a_House_walks, _, rfl, tyL ew, fun t ht => ⟨A.l, rfl, _, get_new ew ht, szl _ (by omega), (((fr.tr (s5.fr _)).put (by simp [HA.fp]) a1'.places (fun _ z => nomatch z)).new ht).put (by simp [HA.fp]) (get_new ew ht) (fun _ z => nomatch z), ?_⟩⟩
        have hs3 := (hs2.same (Same.rfl'.new ht (o := .tup [.str gn, .int mi.1, .int mi.2]))).addW (get_new ew ht) ⟨t, _, _, _, rfl, .inl upd_same⟩
        rw [ef, b3]
        rw [b3] at b4
        have tp6 : Tups H4 _ := s5.tups.tr (tups_put (H := H5) (o := .dK (kS (putE ((ms.take i).foldl moveOne h.places) gn mi.2))) a1'.places (fun _ z => nomatch z))
        have tp7 := tp6.tr (Same.rfl'.new ht (o := .tup [.str gn, .int mi.1, .int mi.2])).tups
        have tp8 := tp7.tr (tups_put (o := .lst (wl ++ [.ref t])) (get_new ew ht) (fun _ z => nomatch z))
        refine ⟨hs3, b4, ?_, a4.keep tp8, a5.keep tp8⟩
        have g1 : upd H5 A.p (.dK (kS (putE ((ms.take i).foldl moveOne h.places) gn mi.2))) mm = some (.lst mv) := by
          rw [upd_ne (mpl (by simp [HA.fp]))]
          exact s5 _ _ a3
        rw [upd_ne (mpl (by simp [HA.fp]))]
        exact get_new g1 ht
      · rintro σ H3 ⟨fr, u, v, x, rfl, a1, a2, a3, a4, a5⟩
        rw [List.take_of_length_le (by omega)] at a1 a2
        obtain ⟨dx3, hi3⟩ := a1.ins
        simp only [a_tVar, a_tC, a_tOp, a_tUn, a_rI, a_rI0, a_rU, a_rEq, a_rNe, a_tTest, a_tB, a_tIsN, a_tNotN, a_tChain, a_tAnd, a_tOr, a_tNot, a_tAndV, a_tOrV, a_tNotV, a_tYes, a_tNext, a_tSeq, a_tCont, a_tBreak, a_tDrop, a_tRet, a_tIfS, a_tNever, a_gName, a_gNil, a_gCons, a_gTup, a_tAsg, a_tNil, a_tCons, a_tTup, a_tLst, a_tCB, a_tCU, a_tMU, a_tFld, a_sFld, a_tSl, a_tNoPart, a_tPart, a_rSlL, a_rSlT, a_rIxL, a_rIxT, a_rCat, a_rRep, a_rCatT, a_tDGet, a_tDIn, a_tDNotIn, a_sDPut, a_tDPop1, a_tDNewK, a_tBM, a_rAppend, a_rExtend, a_iList, a_iEnum, a_iRng1, a_iRng2, a_iVals, a_iItems, a_iRng3, a_iStr, a_tMX, a_tXf, a_wAs, a_tRaise, a_tVeI, a_tOst, a_tMkO, a_tMake, a_rSum, a_rIsi, a_tChain3, a_tAugS, a_rGetL, a_rPutL, a_ipI, a_rSet, a_tCKw, a_rMinD, a_rMin, a_rIxS, a_rSlS, a_iTup, a_rIn, a_rEqD, a_rNeD, upd_same, HO.lst.injEq, HO.tup.injEq, HO.dK.injEq, HO.frz.injEq, a_s0, a_s1, a_s2, a_s3, a_s4, a_s5, a_s6, a_s8, a_scal, a_scals, a_tFor, a_tLc, a_tWhile, a_wipe0, a_wipe1, k_cxU, w_cxU, k_blk, w_blk, and_assoc, exists_and_left, exists_eq_left, exists_eq_left', exists_eq_right, exists_eq, exists_const, List.getElem?_cons_zero, List.getElem?_cons_succ, List.set_cons_zero, List.set_cons_succ, Option.some.injEq, V.int.injEq, V.bl.injEq, V.ref.injEq, V.str.injEq, List.cons.injEq, and_true, true_and, List.cons_append, List.nil_append, List.append_nil, L2.start, List.map_cons, List.map_nil, List.length_cons, List.length_nil, List.replicate, Nat.sub_self, Nat.reduceSub, Nat.reduceAdd, Nat.zero_add, if_true, if_false, Bool.false_eq_true, Bool.true_eq_false, reduceIte, decide_eq_true_eq, Bool.not_eq_true', decide_eq_false_iff_not]
        have hs2 := a1.putP (putE (ms.foldl moveOne h.places) n fin)
        have hs3 := hs2.putQ (putE h.wishes n k)
        obtain ⟨dx4, hi4⟩ := hs2.ins
        have kl := klen a2
        have kw : h.wishes.length ≤ 900 := by
          have := congrArg List.length h2.keys
          unfold keysE at this
          rw [List.length_map, List.length_map] at this
          omega
        have tp1 := tups_put (H := H3) (o := .dK (kS (putE (ms.foldl moveOne h.places) n fin))) a1.places (fun _ z => nomatch z)
        have tp2 := tp1.tr (tups_put (o := .dK (kS (putE h.wishes n k))) hs2.wishes (fun _ z => nomatch z))
        refine ⟨_, a5.sq, .int fin, atI_n 2 rfl rfl, _, _, _, hi3, T.c_House, T.a_House_places, _, rfl, _, rfl, _, DPut.k (k := Sum.inr n) a1.places (szl _ (by rw [kS_len]; exact Nat.le_trans kl (by decide))), ?_⟩
        rw [put_kS]
        refine ⟨_, _, _, hi4, T.c_House, T.a_House_wishes, _, rfl, _, rfl, _, DPut.k (k := Sum.inr n) hs2.wishes (szl _ (by rw [kS_len]; exact Nat.le_trans kw (by decide))), ?_⟩
        rw [put_kS]
        refine ⟨_, (a5.keep tp2).sq, .int fin, atI_n 2 rfl rfl, _, (a5.keep tp2).sq, .ref mm, atI_n 1 rfl rfl, fun r hr => ?_⟩
        have fr3 := ((fr.put (by simp [HA.fp]) a1.places (fun _ z => nomatch z)).put (by simp [HA.fp]) hs2.wishes (fun _ z => nomatch z)).new hr (o := .tup [.int fin, .ref mm])
        exact hQ _ e3 (m + mv.length) (by omega) (by omega) _ r _ _ fr3 (hs3.same (Same.rfl'.new hr)) (.inl upd_same)
end
end Nb
end
section
set_option Elab.async false
set_option linter.all false
set_option maxRecDepth 100000
set_option maxHeartbeats 4000000
namespace Nb
open PySem PySem.Spec PyProof.Rows L2 NbU NbM
/-! ### the book as it stands -/
structure BA where
  o : Addr
  ld : Addr
  rk : Addr
  hs : HA
  d : Addr
  e : Addr
def BA.all (B : BA) : List Addr := [B.o, B.ld, B.hs.o, B.hs.r, B.hs.p, B.hs.q, B.hs.l, B.d, B.e]
def BA.fp (B : BA) : List Addr := [B.o, B.hs.p, B.hs.q, B.hs.l, B.d, B.e]
def BA.fs (B : BA) (ev : Int) : List (Str × V) := [("ladder", .ref B.ld), ("risk", .ref B.rk), ("inn", .ref B.hs.o), ("entries", .ref B.d), ("evening", .int ev), ("events", .ref B.e)]
structure BookAt (K : PySem.W.Frag) (H : Hp) (B : BA) (n : Nat) (b : Bk Str) : Prop where
  ins : ∃ dx, H B.o = some (.ins (CB K) dx (B.fs b.ev))
  ladder : H B.ld = some (.lst (IL b.ladder))
  risk : Tu K H B.rk [.int b.risk.1, .int b.risk.2]
  house : ∃ m, m ≤ n ∧ HsAt K H B.hs m b.hs
  entries : ∃ kvs, H B.d = some (.dK kvs) ∧ EsAt K H kvs b.es
  events : ∃ vs, H B.e = some (.lst vs) ∧ vs.length ≤ n
  nd : B.all.Nodup
structure BNe (B : BA) : Prop where
  o : ∀ x ∈ [B.hs.p, B.hs.q, B.hs.l, B.d, B.e], B.o ≠ x
  ld : ∀ x ∈ [B.o, B.hs.p, B.hs.q, B.hs.l, B.d, B.e], B.ld ≠ x
  h : ∀ y ∈ B.hs.all, ∀ x ∈ [B.o, B.d, B.e], y ≠ x
  d : ∀ x ∈ [B.o, B.hs.p, B.hs.q, B.hs.l, B.e], B.d ≠ x
  e : ∀ x ∈ [B.o, B.hs.p, B.hs.q, B.hs.l, B.d], B.e ≠ x
theorem BA.ne {B : BA} (nd : B.all.Nodup) : BNe B := by
  simp only [BA.all, List.nodup_cons, List.mem_cons, List.not_mem_nil, or_false, not_or] at nd
  obtain ⟨⟨a1, a2, a3, a4, a5, a6, a7, a8⟩, ⟨b1, b2, b3, b4, b5, b6, b7⟩, ⟨c1, c2, c3, c4, c5, c6⟩, ⟨d1, d2, d3, d4, d5⟩, ⟨e1, e2, e3, e4⟩, ⟨f1, f2, f3⟩, ⟨g1, g2⟩, k1, _⟩ := nd
  refine ⟨?_, ?_, ?_, ?_, ?_⟩
  · intro x hx
    simp only [List.mem_cons, List.not_mem_nil, or_false] at hx
    rcases hx with z | z | z | z | z <;> rw [z] <;> first | assumption | (exact Ne.symm (by assumption))
  · intro x hx
    simp only [List.mem_cons, List.not_mem_nil, or_false] at hx
    rcases hx with z | z | z | z | z | z <;> rw [z] <;> first | assumption | (exact Ne.symm (by assumption))
  · intro y hy x hx
    simp only [HA.all, List.mem_cons, List.not_mem_nil, or_false] at hx hy
    rcases hx with z | z | z <;> rcases hy with u | u | u | u | u <;> rw [z, u] <;> first | assumption | (exact Ne.symm (by assumption))
  · intro x hx
    simp only [List.mem_cons, List.not_mem_nil, or_false] at hx
    rcases hx with z | z | z | z | z <;> rw [z] <;> first | assumption | (exact Ne.symm (by assumption))
  · intro x hx
    simp only [List.mem_cons, List.not_mem_nil, or_false] at hx
    rcases hx with z | z | z | z | z <;> rw [z] <;> first | assumption | (exact Ne.symm (by assumption))
section
variable {P : Program} {w : World} {K : PySem.W.Frag} {mg : Str → Option Value} {base : Heap} {H H' : Hp} {B : BA} {n n' : Nat} {b : Bk Str}
theorem BookAt.keep (h : BookAt K H B n b) {fp : List Addr} (f : Fr fp H H') (d : ∀ x ∈ B.all, x ∉ fp) : BookAt K H' B n b where
  ins := let ⟨dx, e⟩ := h.ins; ⟨dx, f.keep _ _ e (d _ (by simp [BA.all]))⟩
  ladder := f.keep _ _ h.ladder (d _ (by simp [BA.all]))
  risk := h.risk.keep f.tups
  house := let ⟨m, l, e⟩ := h.house; ⟨m, l, e.keep f fun x hx => d x (by simp only [BA.all, HA.all, List.mem_cons, List.not_mem_nil, or_false] at *; rcases hx with z | z | z | z | z <;> simp [z])⟩
  entries := let ⟨kvs, e, k⟩ := h.entries; ⟨kvs, f.keep _ _ e (d _ (by simp [BA.all])), k.keep f.tups⟩
  events := let ⟨vs, e, l⟩ := h.events; ⟨vs, f.keep _ _ e (d _ (by simp [BA.all])), l⟩
  nd := h.nd
theorem BookAt.same (h : BookAt K H B n b) (s : Same H H') : BookAt K H' B n b := h.keep (s.fr []) fun _ _ z => absurd z (by simp)
theorem BookAt.up (h : BookAt K H B n b) (l : n ≤ n') : BookAt K H B n' b :=
  ⟨h.ins, h.ladder, h.risk, let ⟨m, a, e⟩ := h.house; ⟨m, by omega, e⟩, h.entries, let ⟨vs, e, a⟩ := h.events; ⟨vs, e, by omega⟩, h.nd⟩
theorem BookAt.has (h : BookAt K H B n b) {x : Addr} (hx : x ∈ B.all) : H x ≠ none := by
  obtain ⟨dx, hi⟩ := h.ins
  obtain ⟨m, _, hh⟩ := h.house
  obtain ⟨dy, hy⟩ := hh.ins
  obtain ⟨wl, hw, _⟩ := hh.walks
  obtain ⟨kvs, hk, _⟩ := h.entries
  obtain ⟨vs, hv, _⟩ := h.events
  simp only [BA.all, List.mem_cons, List.not_mem_nil, or_false] at hx
  rcases hx with z | z | z | z | z | z | z | z | z <;> rw [z]
  · rw [hi]; exact fun z => nomatch z
  · rw [h.ladder]; exact fun z => nomatch z
  · rw [hy]; exact fun z => nomatch z
  · rw [hh.rooms]; exact fun z => nomatch z
  · rw [hh.places]; exact fun z => nomatch z
  · rw [hh.wishes]; exact fun z => nomatch z
  · rw [hw]; exact fun z => nomatch z
  · rw [hk]; exact fun z => nomatch z
  · rw [hv]; exact fun z => nomatch z
theorem BA.fp_all {B : BA} {x : Addr} (h : x ∈ B.fp) : x ∈ B.all := by
  simp only [BA.all, BA.fp, List.mem_cons, List.not_mem_nil, or_false] at *
  rcases h with z | z | z | z | z | z <;> simp [z]
theorem BookAt.nofp (h : BookAt K H B n b) {x : Addr} (hx : H x = none) : x ∉ B.fp := fun z => h.has (BA.fp_all z) hx
/-- what is new behind was new before -/
theorem BookAt.free (h' : BookAt K H' B n' b) (f : Fr B.fp H H') {x : Addr} (hx : H' x = none) : H x = none := by
  cases e : H x with
  | none => rfl
  | some o =>
    by_cases c : x ∈ B.fp
    · exact absurd hx (h'.has (BA.fp_all c))
    · rw [f.keep _ _ e c] at hx; cases hx
theorem BookAt.ens (h : BookAt K H B n b) {kvs : List (Key × V)} {es : List (Str × Ent)} (f : Fr [B.d] H H') (e : H' B.d = some (.dK kvs)) (k : EsAt K H' kvs es) : BookAt K H' B n { b with es := es } := by
  have N := BA.ne h.nd
  refine ⟨let ⟨dx, e⟩ := h.ins; ⟨dx, f.keep _ _ e (by simpa using N.o B.d (by simp))⟩, f.keep _ _ h.ladder (by simpa using N.ld B.d (by simp)), h.risk.keep f.tups, ?_, ⟨kvs, e, k⟩, let ⟨vs, e, l⟩ := h.events; ⟨vs, f.keep _ _ e (by simpa using N.e B.d (by simp)), l⟩, h.nd⟩
  obtain ⟨m, l, hh⟩ := h.house
  exact ⟨m, l, hh.keep f fun x hx => by simpa using N.h x hx B.d (by simp)⟩
theorem BookAt.evs (h : BookAt K H B n b) {vs : List V} (f : Fr [B.e] H H') (e : H' B.e = some (.lst vs)) (k : vs.length ≤ n') (l : n ≤ n') : BookAt K H' B n' b := by
  have N := BA.ne h.nd
  refine ⟨let ⟨dx, e⟩ := h.ins; ⟨dx, f.keep _ _ e (by simpa using N.o B.e (by simp))⟩, f.keep _ _ h.ladder (by simpa using N.ld B.e (by simp)), h.risk.keep f.tups, ?_, let ⟨kvs, e, k⟩ := h.entries; ⟨kvs, f.keep _ _ e (by simpa using N.d B.e (by simp)), k.keep f.tups⟩, ⟨vs, e, k⟩, h.nd⟩
  obtain ⟨m, l', hh⟩ := h.house
  exact ⟨m, by omega, hh.keep f fun x hx => by simpa using N.h x hx B.e (by simp)⟩
theorem BookAt.inn (h : BookAt K H B n b) {hs : Hs Str} {m : Nat} (f : Fr B.hs.fp H H') (a : HsAt K H' B.hs m hs) (l : m ≤ n') (l' : n ≤ n') : BookAt K H' B n' { b with hs := hs } := by
  have N := BA.ne h.nd
  have no : ∀ {x : Addr} {l : List Addr}, (∀ y ∈ l, x ≠ y) → (∀ y ∈ B.hs.fp, y ∈ l) → x ∉ B.hs.fp := fun a b z => a _ (b _ z) rfl
  refine ⟨let ⟨dx, e⟩ := h.ins; ⟨dx, f.keep _ _ e (no N.o (by simp [HA.fp]))⟩, f.keep _ _ h.ladder (no N.ld (by simp [HA.fp])), h.risk.keep f.tups, ⟨m, l, a⟩, let ⟨kvs, e, k⟩ := h.entries; ⟨kvs, f.keep _ _ e (no N.d (by simp [HA.fp])), k.keep f.tups⟩, let ⟨vs, e, l⟩ := h.events; ⟨vs, f.keep _ _ e (no N.e (by simp [HA.fp])), by omega⟩, h.nd⟩
theorem BookAt.eve (h : BookAt K H B n b) {dx : Addr} {v : Int} (f : Fr [B.o] H H') (e : H' B.o = some (.ins (CB K) dx (B.fs v))) : BookAt K H' B n { b with ev := v } := by
  have N := BA.ne h.nd
  refine ⟨⟨dx, e⟩, f.keep _ _ h.ladder (by simpa using N.ld B.o (by simp)), h.risk.keep f.tups, ?_, let ⟨kvs, e, k⟩ := h.entries; ⟨kvs, f.keep _ _ e (by simpa using N.d B.o (by simp)), k.keep f.tups⟩, let ⟨vs, e, l⟩ := h.events; ⟨vs, f.keep _ _ e (by simpa using N.e B.o (by simp)), l⟩, h.nd⟩
  obtain ⟨m, l', hh⟩ := h.house
  exact ⟨m, by omega, hh.keep f fun x hx => by simpa using N.h x hx B.o (by simp)⟩
/-! ### small methods -/
def sp_Book_note (K : PySem.W.Frag) : Sp := fun vs H Q _ => ∃ (B : BA) (n : Nat) (b : Bk Str) (x y : V), vs = [.ref B.o, x, y] ∧ BookAt K H B n b ∧ n ≤ 990000 ∧
  ∀ H', Fr [B.e] H H' → BookAt K H' B (n + 1) b → Q .non H'
theorem sc_Book_note : FnScope ["self", "word", "name"] ["self", "word", "name"] (defScope s_Book_note) := ⟨rfl, rfl, rfl, by decide +kernel, rfl, by decide +kernel, by decide +kernel⟩
theorem g_Book_note (T : Txt K mg) : GM P w K mg base false CX0 1 (He.ga K "Book") "note" [] (sp_Book_note K) := by
  obtain ⟨fd, F⟩ := T.f_Book_note
  refine ⟨_, fd, ["self", "word", "name"], [], T.m_Book_note, F.bindsN (fun _ _ _ _ _ _ us hl => match us, hl with | [_, _, _], _ => rfl), .nil, okU F sc_Book_note (fun vs H Q E h => ?_) (fun cdv A outer s H vs Q E pl hr hh hw h => ⟨_, PSs.nox (pss_one (ps_expr (pe_bm PySem.F.plainAttrs_list PySem.F.slot_list_append PySem.F.type_list_append mt_append (pe_fldK K (pv 0) rfl) (pa_cons (pe_tup (pa_cons (pe_fldK K (pv 0) rfl) (pa_cons (pv 1) (pa_cons (pv 2) pa_nil)))) pa_nil)))), ?_⟩)⟩
  · obtain ⟨B, n, b, x, y, rfl, _⟩ := h
    rfl
  · obtain ⟨B, n, b, x, y, rfl, h1, h2, q⟩ := h
    obtain ⟨dx, hi⟩ := h1.ins
    obtain ⟨ev, he, hl⟩ := h1.events
    simp only [a_tVar, a_tC, a_tOp, a_tUn, a_rI, a_rI0, a_rU, a_rEq, a_rNe, a_tTest, a_tB, a_tIsN, a_tNotN, a_tChain, a_tAnd, a_tOr, a_tNot, a_tAndV, a_tOrV, a_tNotV, a_tYes, a_tNext, a_tSeq, a_tCont, a_tBreak, a_tDrop, a_tRet, a_tIfS, a_tNever, a_gName, a_gNil, a_gCons, a_gTup, a_tAsg, a_tNil, a_tCons, a_tTup, a_tLst, a_tCB, a_tCU, a_tMU, a_tFld, a_sFld, a_tSl, a_tNoPart, a_tPart, a_rSlL, a_rSlT, a_rIxL, a_rIxT, a_rCat, a_rRep, a_rCatT, a_tDGet, a_tDIn, a_tDNotIn, a_sDPut, a_tDPop1, a_tDNewK, a_tBM, a_rAppend, a_rExtend, a_iList, a_iEnum, a_iRng1, a_iRng2, a_iVals, a_iItems, a_iRng3, a_iStr, a_tMX, a_tXf, a_wAs, a_tRaise, a_tVeI, a_tOst, a_tMkO, a_tMake, a_rSum, a_rIsi, a_tChain3, a_tAugS, a_rGetL, a_rPutL, a_ipI, a_rSet, a_tCKw, a_rMinD, a_rMin, a_rIxS, a_rSlS, a_iTup, a_rIn, a_rEqD, a_rNeD, upd_same, HO.lst.injEq, HO.tup.injEq, HO.dK.injEq, HO.frz.injEq, a_s0, a_s1, a_s2, a_s3, a_s4, a_s5, a_s6, a_s8, a_scal, a_scals, a_tFor, a_tLc, a_tWhile, a_wipe0, a_wipe1, k_cxU, w_cxU, k_blk, w_blk, and_assoc, exists_and_left, exists_eq_left, exists_eq_left', exists_eq_right, exists_eq, exists_const, List.getElem?_cons_zero, List.getElem?_cons_succ, List.set_cons_zero, List.set_cons_succ, Option.some.injEq, V.int.injEq, V.bl.injEq, V.ref.injEq, V.str.injEq, List.cons.injEq, and_true, true_and, List.cons_append, List.nil_append, List.append_nil, L2.start, List.map_cons, List.map_nil, List.length_cons, List.length_nil, List.replicate, Nat.sub_self, Nat.reduceSub, Nat.reduceAdd, Nat.zero_add, if_true, if_false, Bool.false_eq_true, Bool.true_eq_false, reduceIte, decide_eq_true_eq, Bool.not_eq_true', decide_eq_false_iff_not]
    refine ⟨_, _, _, hi, T.c_Book, T.a_Book_events, _, rfl, tyL he, _, _, _, hi, T.c_Book, T.a_Book_evening, _, rfl, fun p hp => ⟨B.e, rfl, _, get_new he hp, szl _ (by omega), ?_⟩⟩
    have f : Fr [B.e] H _ := (Fr.rfl'.new hp (o := .tup [.int b.ev, x, y])).put (List.mem_singleton.mpr rfl) (get_new he hp) (o := .lst (ev ++ [.ref p])) (fun _ z => nomatch z)
    exact q _ f (h1.evs f upd_same (by simp; omega) (by omega))
def sp_Book_need (K : PySem.W.Frag) : Sp := fun vs H Q _ => ∃ (B : BA) (n : Nat) (b : Bk Str) (nm : Str) (e : Ent), vs = [.ref B.o, .str nm] ∧ BookAt K H B n b ∧ getE b.es nm = some e ∧
  ∀ v, EntAt K H v e → Q v H
theorem sc_Book_need : FnScope ["self", "name"] ["self", "name"] (defScope s_Book_need) := ⟨rfl, rfl, rfl, by decide +kernel, rfl, by decide +kernel, by decide +kernel⟩
theorem g_Book_need (T : Txt K mg) : GM P w K mg base true CX0 1 (He.ga K "Book") "need" [] (sp_Book_need K) := by
  obtain ⟨fd, F⟩ := T.f_Book_need
  refine ⟨_, fd, ["self", "name"], [], T.m_Book_need, F.bindsN (fun _ _ _ _ _ _ us hl => match us, hl with | [_, _], _ => rfl), .nil, okU F sc_Book_need (fun vs H Q E h => ?_) (fun cdv A outer s H vs Q E pl hr hh hw h => ⟨_, PSs.nox (pss_cons (ps_if (pt_cmp (pc_dnotin (huU hr) (pv 1) (pe_fldK K (pv 0) rfl))) pss_never pss_nil)
      (pss_one (ps_ret (pe_dget (huU hr) (pe_fldK K (pv 0) rfl) (pv 1) (fun _ _ => rfl))))), ?_⟩)⟩
  · obtain ⟨B, n, b, nm, e, rfl, _⟩ := h
    rfl
  · obtain ⟨B, n, b, nm, e, rfl, h1, h2, q⟩ := h
    obtain ⟨dx, hi⟩ := h1.ins
    obtain ⟨kvs, hk, he⟩ := h1.entries
    simp only [a_tVar, a_tC, a_tOp, a_tUn, a_rI, a_rI0, a_rU, a_rEq, a_rNe, a_tTest, a_tB, a_tIsN, a_tNotN, a_tChain, a_tAnd, a_tOr, a_tNot, a_tAndV, a_tOrV, a_tNotV, a_tYes, a_tNext, a_tSeq, a_tCont, a_tBreak, a_tDrop, a_tRet, a_tIfS, a_tNever, a_gName, a_gNil, a_gCons, a_gTup, a_tAsg, a_tNil, a_tCons, a_tTup, a_tLst, a_tCB, a_tCU, a_tMU, a_tFld, a_sFld, a_tSl, a_tNoPart, a_tPart, a_rSlL, a_rSlT, a_rIxL, a_rIxT, a_rCat, a_rRep, a_rCatT, a_tDGet, a_tDIn, a_tDNotIn, a_sDPut, a_tDPop1, a_tDNewK, a_tBM, a_rAppend, a_rExtend, a_iList, a_iEnum, a_iRng1, a_iRng2, a_iVals, a_iItems, a_iRng3, a_iStr, a_tMX, a_tXf, a_wAs, a_tRaise, a_tVeI, a_tOst, a_tMkO, a_tMake, a_rSum, a_rIsi, a_tChain3, a_tAugS, a_rGetL, a_rPutL, a_ipI, a_rSet, a_tCKw, a_rMinD, a_rMin, a_rIxS, a_rSlS, a_iTup, a_rIn, a_rEqD, a_rNeD, upd_same, HO.lst.injEq, HO.tup.injEq, HO.dK.injEq, HO.frz.injEq, a_s0, a_s1, a_s2, a_s3, a_s4, a_s5, a_s6, a_s8, a_scal, a_scals, a_tFor, a_tLc, a_tWhile, a_wipe0, a_wipe1, k_cxU, w_cxU, k_blk, w_blk, and_assoc, exists_and_left, exists_eq_left, exists_eq_left', exists_eq_right, exists_eq, exists_const, List.getElem?_cons_zero, List.getElem?_cons_succ, List.set_cons_zero, List.set_cons_succ, Option.some.injEq, V.int.injEq, V.bl.injEq, V.ref.injEq, V.str.injEq, List.cons.injEq, and_true, true_and, List.cons_append, List.nil_append, List.append_nil, L2.start, List.map_cons, List.map_nil, List.length_cons, List.length_nil, List.replicate, Nat.sub_self, Nat.reduceSub, Nat.reduceAdd, Nat.zero_add, if_true, if_false, Bool.false_eq_true, Bool.true_eq_false, reduceIte, decide_eq_true_eq, Bool.not_eq_true', decide_eq_false_iff_not]
    obtain ⟨v, hv, hE⟩ := he.some h2
    refine ⟨_, _, _, hi, T.c_Book, T.a_Book_entries, _, rfl, _, rfl, _, DGet.k (k := Sum.inr nm) hk, ?_⟩
    rw [hv, if_neg (fun z => Bool.noConfusion z)]
    exact ⟨_, _, _, hi, T.c_Book, T.a_Book_entries, _, rfl, _, rfl, v, dgs hk hv, q v hE⟩
def sp_Book_drop (K : PySem.W.Frag) : Sp := fun vs H Q _ => ∃ (B : BA) (n : Nat) (b : Bk Str) (nm : Str) (x : V), vs = [.ref B.o, x, .str nm] ∧ BookAt K H B n b ∧ nm ∈ keysE b.es ∧ n ≤ 990000 ∧
  ∀ H', Fr B.fp H H' → BookAt K H' B (n + 1) (dropB b nm) → Q .non H'
theorem sc_Book_drop : FnScope ["self", "word", "name"] ["self", "word", "name"] (defScope s_Book_drop) := ⟨rfl, rfl, rfl, by decide +kernel, rfl, by decide +kernel, by decide +kernel⟩
theorem g_Book_drop (T : Txt K mg) : GM P w K mg base false CX0 2 (He.ga K "Book") "drop" [] (sp_Book_drop K) := by
  obtain ⟨fd, F⟩ := T.f_Book_drop
  refine ⟨_, fd, ["self", "word", "name"], [], T.m_Book_drop, F.bindsN (fun _ _ _ _ _ _ us hl => match us, hl with | [_, _, _], _ => rfl), .nil, okU F sc_Book_drop (fun vs H Q E h => ?_) (fun cdv A outer s H vs Q E pl hr hh hw h => ⟨_, PSs.nox (pss_cons (ps_expr (pe_dpop1 (pe_fldK K (pv 0) rfl) (pv 2) ⟨rfl, rfl, rfl, rfl⟩))
      (pss_one (ps_expr (pe_mu (pv 0) T.c_Book (g_Book_note T) (hr.mono (by decide)) hw (fun z => Bool.noConfusion z) (pa_cons (pv 1) (pa_cons (pv 2) pa_nil)))))), ?_⟩)⟩
  · obtain ⟨B, n, b, nm, x, rfl, _⟩ := h
    rfl
  · obtain ⟨B, n, b, nm, x, rfl, h1, h2, h3, q⟩ := h
    obtain ⟨dx, hi⟩ := h1.ins
    obtain ⟨kvs, hk, he⟩ := h1.entries
    simp only [a_tVar, a_tC, a_tOp, a_tUn, a_rI, a_rI0, a_rU, a_rEq, a_rNe, a_tTest, a_tB, a_tIsN, a_tNotN, a_tChain, a_tAnd, a_tOr, a_tNot, a_tAndV, a_tOrV, a_tNotV, a_tYes, a_tNext, a_tSeq, a_tCont, a_tBreak, a_tDrop, a_tRet, a_tIfS, a_tNever, a_gName, a_gNil, a_gCons, a_gTup, a_tAsg, a_tNil, a_tCons, a_tTup, a_tLst, a_tCB, a_tCU, a_tMU, a_tFld, a_sFld, a_tSl, a_tNoPart, a_tPart, a_rSlL, a_rSlT, a_rIxL, a_rIxT, a_rCat, a_rRep, a_rCatT, a_tDGet, a_tDIn, a_tDNotIn, a_sDPut, a_tDPop1, a_tDNewK, a_tBM, a_rAppend, a_rExtend, a_iList, a_iEnum, a_iRng1, a_iRng2, a_iVals, a_iItems, a_iRng3, a_iStr, a_tMX, a_tXf, a_wAs, a_tRaise, a_tVeI, a_tOst, a_tMkO, a_tMake, a_rSum, a_rIsi, a_tChain3, a_tAugS, a_rGetL, a_rPutL, a_ipI, a_rSet, a_tCKw, a_rMinD, a_rMin, a_rIxS, a_rSlS, a_iTup, a_rIn, a_rEqD, a_rNeD, upd_same, HO.lst.injEq, HO.tup.injEq, HO.dK.injEq, HO.frz.injEq, a_s0, a_s1, a_s2, a_s3, a_s4, a_s5, a_s6, a_s8, a_scal, a_scals, a_tFor, a_tLc, a_tWhile, a_wipe0, a_wipe1, k_cxU, w_cxU, k_blk, w_blk, and_assoc, exists_and_left, exists_eq_left, exists_eq_left', exists_eq_right, exists_eq, exists_const, List.getElem?_cons_zero, List.getElem?_cons_succ, List.set_cons_zero, List.set_cons_succ, Option.some.injEq, V.int.injEq, V.bl.injEq, V.ref.injEq, V.str.injEq, List.cons.injEq, and_true, true_and, List.cons_append, List.nil_append, List.append_nil, L2.start, List.map_cons, List.map_nil, List.length_cons, List.length_nil, List.replicate, Nat.sub_self, Nat.reduceSub, Nat.reduceAdd, Nat.zero_add, if_true, if_false, Bool.false_eq_true, Bool.true_eq_false, reduceIte, decide_eq_true_eq, Bool.not_eq_true', decide_eq_false_iff_not]
    obtain ⟨e, h2⟩ := getE_some_iff.mp h2
    obtain ⟨v, hv, hE⟩ := he.some h2
    have N := BA.ne h1.nd
    refine ⟨_, _, _, hi, T.c_Book, T.a_Book_entries, _, rfl, _, rfl, .inl ⟨_, .inl hk⟩, kvs, hk, Sum.inr nm, rfl, v, hv, _, _, (upd_ne (N.o _ (by simp))).trans hi, rfl, ?_⟩
    have tp := tups_put (H := H) (o := .dK (dropK kvs (Sum.inr nm))) hk (fun _ z => nomatch z)
    have f1 : Fr [B.d] H (upd H B.d (.dK (dropK kvs (Sum.inr nm)))) := Fr.rfl'.put (List.mem_singleton.mpr rfl) hk (fun _ z => nomatch z)
    have b1 := h1.ens f1 upd_same (EsAt.keep (he.drop nm) tp)
    exact ⟨B, n, _, x, _, rfl, b1, h3, fun H' f2 b2 => q H' ((f1.mono (by simp [BA.fp])).tr (f2.mono (by simp [BA.fp]))) b2⟩
def sp_Book_is_due (K : PySem.W.Frag) : Sp := fun vs H Q _ => ∃ (B : BA) (dx : Addr) (ev : Int) (v : V) (e : Ent), vs = [.ref B.o, v] ∧ H B.o = some (.ins (CB K) dx (B.fs ev)) ∧ EntAt K H v e ∧
  Q (.bl (decide (e.word = .taken) && decide (e.first = ev))) H
theorem sc_Book_is_due : FnScope ["self", "entry"] ["self", "entry"] (defScope s_Book_is_due) := ⟨rfl, rfl, rfl, by decide +kernel, rfl, by decide +kernel, by decide +kernel⟩
theorem g_Book_is_due (T : Txt K mg) : GM P w K mg base true CX0 1 (He.ga K "Book") "is_due" [] (sp_Book_is_due K) := by
  obtain ⟨fd, F⟩ := T.f_Book_is_due
  refine ⟨_, fd, ["self", "entry"], [], T.m_Book_is_due, F.bindsN (fun _ _ _ _ _ _ us hl => match us, hl with | [_, _], _ => rfl), .nil, okU F sc_Book_is_due (fun vs H Q E h => ?_) (fun cdv A outer s H vs Q E pl hr hh hw h => ⟨_, PSs.nox (pss_one (ps_ret (pe_and (pe_cmpR (op_eq) (pe_ix (ix_tupK K) (pv 1) pe_int (fun _ _ => rfl)) pe_str (nomark _)) (pe_one (pe_cmpR (op_eq) (pe_ix (ix_tupK K) (pv 1) pe_int (fun _ _ => rfl)) (pe_fldK K (pv 0) rfl) (nomark _)))))), ?_⟩)⟩
  · obtain ⟨B, dx, ev, v, e, rfl, _⟩ := h
    rfl
  · obtain ⟨B, dx, ev, v, e, rfl, hi, h2, q⟩ := h
    simp only [a_tVar, a_tC, a_tOp, a_tUn, a_rI, a_rI0, a_rU, a_rEq, a_rNe, a_tTest, a_tB, a_tIsN, a_tNotN, a_tChain, a_tAnd, a_tOr, a_tNot, a_tAndV, a_tOrV, a_tNotV, a_tYes, a_tNext, a_tSeq, a_tCont, a_tBreak, a_tDrop, a_tRet, a_tIfS, a_tNever, a_gName, a_gNil, a_gCons, a_gTup, a_tAsg, a_tNil, a_tCons, a_tTup, a_tLst, a_tCB, a_tCU, a_tMU, a_tFld, a_sFld, a_tSl, a_tNoPart, a_tPart, a_rSlL, a_rSlT, a_rIxL, a_rIxT, a_rCat, a_rRep, a_rCatT, a_tDGet, a_tDIn, a_tDNotIn, a_sDPut, a_tDPop1, a_tDNewK, a_tBM, a_rAppend, a_rExtend, a_iList, a_iEnum, a_iRng1, a_iRng2, a_iVals, a_iItems, a_iRng3, a_iStr, a_tMX, a_tXf, a_wAs, a_tRaise, a_tVeI, a_tOst, a_tMkO, a_tMake, a_rSum, a_rIsi, a_tChain3, a_tAugS, a_rGetL, a_rPutL, a_ipI, a_rSet, a_tCKw, a_rMinD, a_rMin, a_rIxS, a_rSlS, a_iTup, a_rIn, a_rEqD, a_rNeD, upd_same, HO.lst.injEq, HO.tup.injEq, HO.dK.injEq, HO.frz.injEq, a_s0, a_s1, a_s2, a_s3, a_s4, a_s5, a_s6, a_s8, a_scal, a_scals, a_tFor, a_tLc, a_tWhile, a_wipe0, a_wipe1, k_cxU, w_cxU, k_blk, w_blk, and_assoc, exists_and_left, exists_eq_left, exists_eq_left', exists_eq_right, exists_eq, exists_const, List.getElem?_cons_zero, List.getElem?_cons_succ, List.set_cons_zero, List.set_cons_succ, Option.some.injEq, V.int.injEq, V.bl.injEq, V.ref.injEq, V.str.injEq, List.cons.injEq, and_true, true_and, List.cons_append, List.nil_append, List.append_nil, L2.start, List.map_cons, List.map_nil, List.length_cons, List.length_nil, List.replicate, Nat.sub_self, Nat.reduceSub, Nat.reduceAdd, Nat.zero_add, if_true, if_false, Bool.false_eq_true, Bool.true_eq_false, reduceIte, decide_eq_true_eq, Bool.not_eq_true', decide_eq_false_iff_not]
    obtain ⟨a, c, rfl, ta, tc⟩ := h2
    refine ⟨a, rfl, _, ta.sq, _, atI_n 0 rfl rfl, rfl, ?_⟩
    by_cases c1 : e.word = .taken
    · rw [if_pos (by rw [c1]; rfl)]
      rw [decide_eq_true c1, Bool.true_and] at q
      refine ⟨a, rfl, _, ta.sq, _, atI_n 2 rfl rfl, _, _, _, hi, T.c_Book, T.a_Book_evening, _, rfl, rfl, ?_⟩
      rw [show decide (V.int e.first = V.int ev) = decide (e.first = ev) by simp]
      exact q
    · rw [if_neg (fun z => c1 ((wordS_t' e.word).mp (V.str.inj z)))]
      rw [decide_eq_false c1, Bool.false_and] at q
      exact q
/-! ### fill -/
theorem good4 {L : Int} (l : L ≤ 4) {es : List (Str × Ent)} (g : Good L es) : Good 4 es := ⟨g.nd, fun p hp => let x := g.ok p hp; ⟨x.k1, by have := x.k2; omega, x.f0, x.fb, x.b4, x.ch⟩⟩
/-- the names that may be -/
structure AlOk (al : List Str) : Prop where
  len : al.length ≤ 15
  ok : ∀ n ∈ al, NmOk n
def NamesAt (H : Hp) (v : V) (l : List Str) : Prop := ∃ p, v = .ref p ∧ H p = some (.lst (l.map V.str))
def NewAt (H0 H : Hp) (v : V) (l : List Str) : Prop := ∃ p, v = .ref p ∧ H p = some (.lst (l.map V.str)) ∧ H0 p = none
def sp_Book_fill (K : PySem.W.Frag) : Sp := fun vs H Q _ => ∃ (al : List Str) (B : BA) (n : Nat) (b : Bk Str), vs = [.ref B.o] ∧ AlOk al ∧ BookAt K H B n b ∧ Pre al b ∧ n ≤ 900000 ∧
  ∀ H' v, Fr B.fp H H' → BookAt K H' B (n + 40) (fillB b) → NewAt H H' v (fillN b) → Q v H'
theorem sc_Book_fill : FnScope ["self", "names", "name"] ["self"] (defScope s_Book_fill) := ⟨rfl, rfl, rfl, by decide +kernel, rfl, by decide +kernel, by decide +kernel⟩
theorem g_Book_fill (T : Txt K mg) : GM P w K mg base false CX0 7 (He.ga K "Book") "fill" [] (sp_Book_fill K) := by
  obtain ⟨fd, F⟩ := T.f_Book_fill
  refine ⟨_, fd, ["self"], [], T.m_Book_fill, F.bindsN (fun _ _ _ _ _ _ us hl => match us, hl with | [_], _ => rfl), .nil, okU F sc_Book_fill (fun vs H Q E h => ?_) (fun cdv A outer s H vs Q E pl hr hh hw h => ⟨_, PSs.nox (pss_cons (ps_set (i := 1) sc_Book_fill.nd rfl (by first | exact Or.inl rfl | exact Or.inr rfl) (pe_cu (g_walked T) (hr.mono (by decide)) hw (fun z => Bool.noConfusion z) rfl (pa_cons (pe_fldK K (pv 0) rfl) (pa_cons (pe_fldK K (pv 0) rfl) (pa_cons (pe_fldK K (pv 0) rfl) pa_nil)))))
      (pss_cons (psu_for PassesOwn.never hw (piu_list (pv 1)) (pg_name (i := 2) sc_Book_fill.nd rfl (by first | exact Or.inl rfl | exact Or.inr rfl)) (pss_one (ps_expr (pe_mu (pv 0) T.c_Book (g_Book_note T) (hr.mono (by decide)) hw (fun z => Bool.noConfusion z) (pa_cons pe_str (pa_cons (pv 2) pa_nil))))))
      (pss_one (ps_ret (pv 1))))), ?_⟩)⟩
  · obtain ⟨al, B, n, b, rfl, _⟩ := h
    rfl
  · obtain ⟨al, B, n, b, rfl, h1, h2, h3, h4, q⟩ := h
    obtain ⟨dx, hi⟩ := h2.ins
    obtain ⟨kvs, hk, he⟩ := h2.entries
    simp only [a_tVar, a_tC, a_tOp, a_tUn, a_rI, a_rI0, a_rU, a_rEq, a_rNe, a_tTest, a_tB, a_tIsN, a_tNotN, a_tChain, a_tAnd, a_tOr, a_tNot, a_tAndV, a_tOrV, a_tNotV, a_tYes, a_tNext, a_tSeq, a_tCont, a_tBreak, a_tDrop, a_tRet, a_tIfS, a_tNever, a_gName, a_gNil, a_gCons, a_gTup, a_tAsg, a_tNil, a_tCons, a_tTup, a_tLst, a_tCB, a_tCU, a_tMU, a_tFld, a_sFld, a_tSl, a_tNoPart, a_tPart, a_rSlL, a_rSlT, a_rIxL, a_rIxT, a_rCat, a_rRep, a_rCatT, a_tDGet, a_tDIn, a_tDNotIn, a_sDPut, a_tDPop1, a_tDNewK, a_tBM, a_rAppend, a_rExtend, a_iList, a_iEnum, a_iRng1, a_iRng2, a_iVals, a_iItems, a_iRng3, a_iStr, a_tMX, a_tXf, a_wAs, a_tRaise, a_tVeI, a_tOst, a_tMkO, a_tMake, a_rSum, a_rIsi, a_tChain3, a_tAugS, a_rGetL, a_rPutL, a_ipI, a_rSet, a_tCKw, a_rMinD, a_rMin, a_rIxS, a_rSlS, a_iTup, a_rIn, a_rEqD, a_rNeD, upd_same, HO.lst.injEq, HO.tup.injEq, HO.dK.injEq, HO.frz.injEq, a_s0, a_s1, a_s2, a_s3, a_s4, a_s5, a_s6, a_s8, a_scal, a_scals, a_tFor, a_tLc, a_tWhile, a_wipe0, a_wipe1, k_cxU, w_cxU, k_blk, w_blk, and_assoc, exists_and_left, exists_eq_left, exists_eq_left', exists_eq_right, exists_eq, exists_const, List.getElem?_cons_zero, List.getElem?_cons_succ, List.set_cons_zero, List.set_cons_succ, Option.some.injEq, V.int.injEq, V.bl.injEq, V.ref.injEq, V.str.injEq, List.cons.injEq, and_true, true_and, List.cons_append, List.nil_append, List.append_nil, L2.start, List.map_cons, List.map_nil, List.length_cons, List.length_nil, List.replicate, Nat.sub_self, Nat.reduceSub, Nat.reduceAdd, Nat.zero_add, if_true, if_false, Bool.false_eq_true, Bool.true_eq_false, reduceIte, decide_eq_true_eq, Bool.not_eq_true', decide_eq_false_iff_not]
    have el := es_le h3
    have al15 := h1.len
    refine ⟨_, _, _, hi, T.c_Book, T.a_Book_entries, _, rfl, _, _, _, hi, T.c_Book, T.a_Book_ladder, _, rfl, _, _, _, hi, T.c_Book, T.a_Book_risk, _, rfl, ?_⟩
    refine ⟨B.d, B.ld, B.rk, kvs, b.es, b.ladder, b.risk, rfl, hk, he, by omega, good4 (by have := h3.l4; omega) h3.good, ⟨_, h2.ladder, rfl⟩, h3.ln, h2.risk, h3.r0, h3.r1, h3.r2, h3.r9, fun H1 p kvs1 f1 k1 e1 hp hn => ?_⟩
    have b1 : BookAt K H1 B n (fillB b) := h2.ens f1 k1 e1
    have np := h2.nofp hn
    have wl := (walk_good (lad := b.ladder) (risk := b.risk) (waitingE b.es) (b.es, []) h3.good).2.2
    have nl : (fillN b).length ≤ 15 := by
      have w1 : (waitingE b.es).length ≤ b.es.length := by
        unfold waitingE
        rw [List.length_map]
        exact List.length_filter_le ..
      have : (fillN b).length ≤ (waitingE b.es).length := by
        have z := wl
        simp at z
        exact z
      omega
    refine ⟨p, rfl, ⟨_, SqL.of hp⟩, ?_⟩
    refine for_go (walk_list (xs := (fillN b).map V.str)) (fun i σ H' => Fr B.fp H H' ∧ ∃ u, σ = [some (.ref B.o), some (.ref p), u] ∧ BookAt K H' B (n + i) (fillB b) ∧ H' p = some (.lst ((fillN b).map V.str))) ⟨f1.mono (by simp [BA.fp]), none, rfl, b1, hp⟩ (fun i σ H' _ ⟨_, _, _, _, e⟩ => SqL.of e) ?_ ?_
    · rintro i y σ H3 H4 hi' ⟨fr, u, rfl, a1, a2⟩ ⟨rfl, e4⟩
      obtain ⟨dx3, hi3⟩ := a1.ins
      rw [List.length_map] at hi'
      simp only [a_tVar, a_tC, a_tOp, a_tUn, a_rI, a_rI0, a_rU, a_rEq, a_rNe, a_tTest, a_tB, a_tIsN, a_tNotN, a_tChain, a_tAnd, a_tOr, a_tNot, a_tAndV, a_tOrV, a_tNotV, a_tYes, a_tNext, a_tSeq, a_tCont, a_tBreak, a_tDrop, a_tRet, a_tIfS, a_tNever, a_gName, a_gNil, a_gCons, a_gTup, a_tAsg, a_tNil, a_tCons, a_tTup, a_tLst, a_tCB, a_tCU, a_tMU, a_tFld, a_sFld, a_tSl, a_tNoPart, a_tPart, a_rSlL, a_rSlT, a_rIxL, a_rIxT, a_rCat, a_rRep, a_rCatT, a_tDGet, a_tDIn, a_tDNotIn, a_sDPut, a_tDPop1, a_tDNewK, a_tBM, a_rAppend, a_rExtend, a_iList, a_iEnum, a_iRng1, a_iRng2, a_iVals, a_iItems, a_iRng3, a_iStr, a_tMX, a_tXf, a_wAs, a_tRaise, a_tVeI, a_tOst, a_tMkO, a_tMake, a_rSum, a_rIsi, a_tChain3, a_tAugS, a_rGetL, a_rPutL, a_ipI, a_rSet, a_tCKw, a_rMinD, a_rMin, a_rIxS, a_rSlS, a_iTup, a_rIn, a_rEqD, a_rNeD, upd_same, HO.lst.injEq, HO.tup.injEq, HO.dK.injEq, HO.frz.injEq, a_s0, a_s1, a_s2, a_s3, a_s4, a_s5, a_s6, a_s8, a_scal, a_scals, a_tFor, a_tLc, a_tWhile, a_wipe0, a_wipe1, k_cxU, w_cxU, k_blk, w_blk, and_assoc, exists_and_left, exists_eq_left, exists_eq_left', exists_eq_right, exists_eq, exists_const, List.getElem?_cons_zero, List.getElem?_cons_succ, List.set_cons_zero, List.set_cons_succ, Option.some.injEq, V.int.injEq, V.bl.injEq, V.ref.injEq, V.str.injEq, List.cons.injEq, and_true, true_and, List.cons_append, List.nil_append, List.append_nil, L2.start, List.map_cons, List.map_nil, List.length_cons, List.length_nil, List.replicate, Nat.sub_self, Nat.reduceSub, Nat.reduceAdd, Nat.zero_add, if_true, if_false, Bool.false_eq_true, Bool.true_eq_false, reduceIte, decide_eq_true_eq, Bool.not_eq_true', decide_eq_false_iff_not]
      refine ⟨_, _, hi3, rfl, B, _, _, _, y, rfl, a1, by omega, fun H5 f5 b5 => ?_⟩
      exact ⟨fr.tr (f5.mono (by simp [BA.fp])), b5, (f5.mono (fq := B.fp) (by simp [BA.fp])).keep _ _ a2 np⟩
    · rintro σ H3 ⟨fr, u, rfl, a1, a2⟩
      rw [List.length_map] at a1
      simp only [a_tVar, a_tC, a_tOp, a_tUn, a_rI, a_rI0, a_rU, a_rEq, a_rNe, a_tTest, a_tB, a_tIsN, a_tNotN, a_tChain, a_tAnd, a_tOr, a_tNot, a_tAndV, a_tOrV, a_tNotV, a_tYes, a_tNext, a_tSeq, a_tCont, a_tBreak, a_tDrop, a_tRet, a_tIfS, a_tNever, a_gName, a_gNil, a_gCons, a_gTup, a_tAsg, a_tNil, a_tCons, a_tTup, a_tLst, a_tCB, a_tCU, a_tMU, a_tFld, a_sFld, a_tSl, a_tNoPart, a_tPart, a_rSlL, a_rSlT, a_rIxL, a_rIxT, a_rCat, a_rRep, a_rCatT, a_tDGet, a_tDIn, a_tDNotIn, a_sDPut, a_tDPop1, a_tDNewK, a_tBM, a_rAppend, a_rExtend, a_iList, a_iEnum, a_iRng1, a_iRng2, a_iVals, a_iItems, a_iRng3, a_iStr, a_tMX, a_tXf, a_wAs, a_tRaise, a_tVeI, a_tOst, a_tMkO, a_tMake, a_rSum, a_rIsi, a_tChain3, a_tAugS, a_rGetL, a_rPutL, a_ipI, a_rSet, a_tCKw, a_rMinD, a_rMin, a_rIxS, a_rSlS, a_iTup, a_rIn, a_rEqD, a_rNeD, upd_same, HO.lst.injEq, HO.tup.injEq, HO.dK.injEq, HO.frz.injEq, a_s0, a_s1, a_s2, a_s3, a_s4, a_s5, a_s6, a_s8, a_scal, a_scals, a_tFor, a_tLc, a_tWhile, a_wipe0, a_wipe1, k_cxU, w_cxU, k_blk, w_blk, and_assoc, exists_and_left, exists_eq_left, exists_eq_left', exists_eq_right, exists_eq, exists_const, List.getElem?_cons_zero, List.getElem?_cons_succ, List.set_cons_zero, List.set_cons_succ, Option.some.injEq, V.int.injEq, V.bl.injEq, V.ref.injEq, V.str.injEq, List.cons.injEq, and_true, true_and, List.cons_append, List.nil_append, List.append_nil, L2.start, List.map_cons, List.map_nil, List.length_cons, List.length_nil, List.replicate, Nat.sub_self, Nat.reduceSub, Nat.reduceAdd, Nat.zero_add, if_true, if_false, Bool.false_eq_true, Bool.true_eq_false, reduceIte, decide_eq_true_eq, Bool.not_eq_true', decide_eq_false_iff_not]
      exact q _ _ fr (a1.up (by omega)) ⟨p, rfl, a2, hn⟩
/-! ### deeds -/
def TellAt (K : PySem.W.Frag) (H0 H : Hp) (v : V) : Tell Str → Prop
  | .unit => False
  | .yes b => v = .bl b
  | .names l => NewAt H0 H v l
  | .lists ls => ∃ (t : Addr) (us : List V), v = .ref t ∧ Tu K H t us ∧ Paired (NewAt H0 H) us ls
  | .inn => ∃ (t : Addr) (x y : V), v = .ref t ∧ Tu K H t [.str "in", x, y]
  | .away k l => ∃ (t : Addr) (x : V), v = .ref t ∧ Tu K H t [.str "away", .int k, x] ∧ NewAt H0 H x l
theorem NewAt.back {H0 H1 H2 : Hp} {v : V} {l : List Str} (h : NewAt H1 H2 v l) (b1 : BookAt K H1 B n b) (f : Fr B.fp H0 H1) : NewAt H0 H2 v l := let ⟨p, e, a, z⟩ := h; ⟨p, e, a, b1.free f z⟩
structure DoesAt (K : PySem.W.Frag) (H : Hp) (d : Deed Str) (B : BA) (n : Nat) (b : Bk Str) (Q : VK) : Prop where
  al : ∃ al, AlOk al ∧ Ok al b ∧ DeedOk al b d
  at_ : BookAt K H B n b
  nb : n ≤ 800000
  q : ∀ H' v, Fr B.fp H H' → BookAt K H' B (n + 1000) (doB b d).1 → TellAt K H H' v (doB b d).2 → Q v H'
def sp_Book_check_wish (K : PySem.W.Frag) : Sp := fun vs H Q _ => ∃ (al : List Str) (B : BA) (n : Nat) (b : Bk Str) (nm : Str) (k f bh : Int) (c : Addr) (ch : Int × Int), vs = [.ref B.o, .str nm, .int k, .int f, .int bh, .ref c] ∧ AlOk al ∧ BookAt K H B n b ∧ Ok al b ∧ DeedOk al b (.wish nm k f bh ch) ∧ Tu K H c [.int ch.1, .int ch.2] ∧ Int.gcd ch.1 ch.2 = 1 ∧
  ∀ H', Same H H' → Q .non H'
theorem sc_Book_check_wish : FnScope ["self", "name", "kind", "first", "behind", "chance"] ["self", "name", "kind", "first", "behind", "chance"] (defScope s_Book_check_wish) := ⟨rfl, rfl, rfl, by decide +kernel, rfl, by decide +kernel, by decide +kernel⟩
theorem g_Book_check_wish (T : Txt K mg) : GM P w K mg base true CX0 4 (He.ga K "Book") "check_wish" [] (sp_Book_check_wish K) := by
  obtain ⟨fd, F⟩ := T.f_Book_check_wish
  refine ⟨_, fd, ["self", "name", "kind", "first", "behind", "chance"], [], T.m_Book_check_wish, F.bindsN (fun _ _ _ _ _ _ us hl => match us, hl with | [_, _, _, _, _, _], _ => rfl), .nil, okU F sc_Book_check_wish (fun vs H Q E h => ?_) (fun cdv A outer s H vs Q E pl hr hh hw h => ⟨_, PSs.nox (pss_cons (ps_if (pt_not (pt_val (pe_cu (g_is_name T) (hr.mono (by decide)) hw (fun _ => hh rfl) rfl (pa_cons (pv 1) pa_nil)))) pss_never pss_nil)
      (pss_cons (ps_if (pt_cmp (pc_din (huU hr) (pv 1) (pe_fldK K (pv 0) rfl))) pss_never pss_nil)
      (pss_cons (ps_if (PW.pt (pw_or (pt_not (pt_val (pe_cu (g_is_whole T) (hr.mono (by decide)) hw (fun z => Bool.noConfusion z) rfl (pa_cons (pv 2) pa_nil)))) (pw_or1 (pt_not (pt_chain op_le op_le pe_int (pv 2) (pe_callB (len_seqK K) rfl T.n_len boot_len (pa_cons (pe_fldK K (pv 0) rfl) pa_nil))))))) pss_never pss_nil)
      (pss_cons (ps_if (PW.pt (pw_or (pt_not (pt_val (pe_cu (g_is_stretch T) (hr.mono (by decide)) hw (fun _ => hh rfl) rfl (pa_cons (pe_tup (pa_cons (pv 3) (pa_cons (pv 4) pa_nil))) pa_nil)))) (pw_or1 (pt_cmpR (op_lt) (pv 3) (pe_fldK K (pv 0) rfl) (nomark _))))) pss_never pss_nil)
      (pss_cons (ps_if (PW.pt (pw_or (pt_not (pt_val (pe_cu (g_is_chance T) (hr.mono (by decide)) hw (fun _ => hh rfl) rfl (pa_cons (pv 5) pa_nil)))) (pw_or1 (pt_cmpR (op_gt) (pe_ix (ix_tupK K) (pv 5) pe_int (fun _ _ => rfl)) (pg_int T.i_FINEST_CHANCE) (nomark _))))) pss_never pss_nil)
      (pss_one (ps_if (pt_cmpR (op_ge) (pe_callB call_lenD rfl T.n_len boot_len (pa_cons (pe_fldK K (pv 0) rfl) pa_nil)) (pg_int T.i_MOST_NAMES) (nomark _)) pss_never pss_nil))))))), ?_⟩)⟩
  · obtain ⟨al, B, n, b, nm, k, f, bh, c, ch, rfl, _⟩ := h
    rfl
  · obtain ⟨al, B, n, b, nm, k, f, bh, c, ch, rfl, h1, h2, h3, ⟨w1, w2, w3, w4⟩, h5, h6, q⟩ := h
    obtain ⟨dx, hi⟩ := h2.ins
    obtain ⟨kvs, hk, he⟩ := h2.entries
    simp only [a_tVar, a_tC, a_tOp, a_tUn, a_rI, a_rI0, a_rU, a_rEq, a_rNe, a_tTest, a_tB, a_tIsN, a_tNotN, a_tChain, a_tAnd, a_tOr, a_tNot, a_tAndV, a_tOrV, a_tNotV, a_tYes, a_tNext, a_tSeq, a_tCont, a_tBreak, a_tDrop, a_tRet, a_tIfS, a_tNever, a_gName, a_gNil, a_gCons, a_gTup, a_tAsg, a_tNil, a_tCons, a_tTup, a_tLst, a_tCB, a_tCU, a_tMU, a_tFld, a_sFld, a_tSl, a_tNoPart, a_tPart, a_rSlL, a_rSlT, a_rIxL, a_rIxT, a_rCat, a_rRep, a_rCatT, a_tDGet, a_tDIn, a_tDNotIn, a_sDPut, a_tDPop1, a_tDNewK, a_tBM, a_rAppend, a_rExtend, a_iList, a_iEnum, a_iRng1, a_iRng2, a_iVals, a_iItems, a_iRng3, a_iStr, a_tMX, a_tXf, a_wAs, a_tRaise, a_tVeI, a_tOst, a_tMkO, a_tMake, a_rSum, a_rIsi, a_tChain3, a_tAugS, a_rGetL, a_rPutL, a_ipI, a_rSet, a_tCKw, a_rMinD, a_rMin, a_rIxS, a_rSlS, a_iTup, a_rIn, a_rEqD, a_rNeD, upd_same, HO.lst.injEq, HO.tup.injEq, HO.dK.injEq, HO.frz.injEq, a_s0, a_s1, a_s2, a_s3, a_s4, a_s5, a_s6, a_s8, a_scal, a_scals, a_tFor, a_tLc, a_tWhile, a_wipe0, a_wipe1, k_cxU, w_cxU, k_blk, w_blk, and_assoc, exists_and_left, exists_eq_left, exists_eq_left', exists_eq_right, exists_eq, exists_const, List.getElem?_cons_zero, List.getElem?_cons_succ, List.set_cons_zero, List.set_cons_succ, Option.some.injEq, V.int.injEq, V.bl.injEq, V.ref.injEq, V.str.injEq, List.cons.injEq, and_true, true_and, List.cons_append, List.nil_append, List.append_nil, L2.start, List.map_cons, List.map_nil, List.length_cons, List.length_nil, List.replicate, Nat.sub_self, Nat.reduceSub, Nat.reduceAdd, Nat.zero_add, if_true, if_false, Bool.false_eq_true, Bool.true_eq_false, reduceIte, decide_eq_true_eq, Bool.not_eq_true', decide_eq_false_iff_not]
    have hnm := h1.ok nm w1
    refine ⟨nm, rfl, hnm, true, rfl, ?_⟩
    rw [if_neg (fun z => Bool.noConfusion z)]
    have hv : valV kvs (Sum.inr nm) = none := by
      rcases KvAt.get he nm with ⟨v, e, z1, z2, _⟩ | ⟨z1, _⟩
      · exact absurd (getE_some_iff.mpr ⟨e, z2⟩) w2
      · exact z1
    refine ⟨_, _, _, hi, T.c_Book, T.a_Book_entries, _, rfl, _, rfl, _, DGet.k (k := Sum.inr nm) hk, ?_⟩
    rw [hv, if_neg (fun z => Bool.noConfusion z)]
    have k1 : 1 ≤ k := w3.k1
    have k2 : k ≤ b.ladder.length := w3.k2
    have hL : (IL b.ladder).length = b.ladder.length := by simp
    refine ⟨k, rfl, true, rfl, ?_⟩
    rw [if_neg (fun z => Bool.noConfusion z), if_pos k1]
    refine ⟨_, _, _, hi, T.c_Book, T.a_Book_ladder, _, rfl, _, rfl, _, .inl (SqL.of h2.ladder), ?_⟩
    rw [hL, if_neg (fun z => z k2)]
    intro t ht
    have s1 := (Same.rfl' (H := H)).new ht (o := .tup [.int f, .int bh])
    refine ⟨t, f, bh, rfl, .inl upd_same, w3.f0, w3.fb, w3.b4, true, rfl, ?_⟩
    rw [if_neg (fun z => Bool.noConfusion z)]
    refine ⟨_, _, _, s1 _ _ hi, T.c_Book, T.a_Book_evening, _, rfl, _, rfl, ?_⟩
    rw [if_neg (by have := w4; omega)]
    obtain ⟨c0, c1, c2, c3⟩ : ChOk ch := w3.ch
    have tc := h5.keep s1.tups
    refine ⟨c, ch, rfl, tc, c0, c1, c2, h6, true, rfl, ?_⟩
    rw [if_neg (fun z => Bool.noConfusion z)]
    refine ⟨_, tc.sq, .int ch.2, atI_n 1 rfl rfl, _, rfl, ?_⟩
    rw [if_neg (by omega)]
    have el := es_le h3.pre
    have al15 := h1.len
    have kl := Paired.length he
    refine ⟨_, _, _, s1 _ _ hi, T.c_Book, T.a_Book_entries, _, rfl, _, rfl, _, s1 _ _ hk, ?_⟩
    rw [if_neg (by omega)]
    exact q _ s1
def sp_Book_withdraw (K : PySem.W.Frag) : Sp := fun vs H Q _ => ∃ (B : BA) (n : Nat) (b : Bk Str) (nm : Str), vs = [.ref B.o, .str nm] ∧ DoesAt K H (.withdraw nm) B n b Q
theorem sc_Book_withdraw : FnScope ["self", "name"] ["self", "name"] (defScope s_Book_withdraw) := ⟨rfl, rfl, rfl, by decide +kernel, rfl, by decide +kernel, by decide +kernel⟩
theorem g_Book_withdraw (T : Txt K mg) : GM P w K mg base true CX0 8 (He.ga K "Book") "withdraw" [] (sp_Book_withdraw K) := by
  obtain ⟨fd, F⟩ := T.f_Book_withdraw
  refine ⟨_, fd, ["self", "name"], [], T.m_Book_withdraw, F.bindsN (fun _ _ _ _ _ _ us hl => match us, hl with | [_, _], _ => rfl), .nil, okU F sc_Book_withdraw (fun vs H Q E h => ?_) (fun cdv A outer s H vs Q E pl hr hh hw h => ⟨_, PSs.nox (pss_cons (ps_if (pt_cmpR (op_eq) (pe_ix (ix_tupK K) (pe_mu (pv 0) T.c_Book (g_Book_need T) (hr.mono (by decide)) hw (fun _ => hh rfl) (pa_cons (pv 1) pa_nil)) pe_int (fun _ _ => rfl)) pe_str (nomark _)) pss_never pss_nil)
      (pss_cons (ps_expr (pe_mu (pv 0) T.c_Book (g_Book_drop T) (hr.mono (by decide)) hw (fun z => Bool.noConfusion z) (pa_cons pe_str (pa_cons (pv 1) pa_nil))))
      (pss_one (ps_ret (pe_mu0 (pv 0) T.c_Book (g_Book_fill T) (hr.mono (by decide)) hw (fun z => Bool.noConfusion z)))))), ?_⟩)⟩
  · obtain ⟨B, n, b, nm, rfl, _⟩ := h
    rfl
  · obtain ⟨B, n, b, nm, rfl, ⟨al, a1, a2, e, a3, a4⟩, h2, h3, q⟩ := h
    obtain ⟨dx, hi⟩ := h2.ins
    simp only [a_tVar, a_tC, a_tOp, a_tUn, a_rI, a_rI0, a_rU, a_rEq, a_rNe, a_tTest, a_tB, a_tIsN, a_tNotN, a_tChain, a_tAnd, a_tOr, a_tNot, a_tAndV, a_tOrV, a_tNotV, a_tYes, a_tNext, a_tSeq, a_tCont, a_tBreak, a_tDrop, a_tRet, a_tIfS, a_tNever, a_gName, a_gNil, a_gCons, a_gTup, a_tAsg, a_tNil, a_tCons, a_tTup, a_tLst, a_tCB, a_tCU, a_tMU, a_tFld, a_sFld, a_tSl, a_tNoPart, a_tPart, a_rSlL, a_rSlT, a_rIxL, a_rIxT, a_rCat, a_rRep, a_rCatT, a_tDGet, a_tDIn, a_tDNotIn, a_sDPut, a_tDPop1, a_tDNewK, a_tBM, a_rAppend, a_rExtend, a_iList, a_iEnum, a_iRng1, a_iRng2, a_iVals, a_iItems, a_iRng3, a_iStr, a_tMX, a_tXf, a_wAs, a_tRaise, a_tVeI, a_tOst, a_tMkO, a_tMake, a_rSum, a_rIsi, a_tChain3, a_tAugS, a_rGetL, a_rPutL, a_ipI, a_rSet, a_tCKw, a_rMinD, a_rMin, a_rIxS, a_rSlS, a_iTup, a_rIn, a_rEqD, a_rNeD, upd_same, HO.lst.injEq, HO.tup.injEq, HO.dK.injEq, HO.frz.injEq, a_s0, a_s1, a_s2, a_s3, a_s4, a_s5, a_s6, a_s8, a_scal, a_scals, a_tFor, a_tLc, a_tWhile, a_wipe0, a_wipe1, k_cxU, w_cxU, k_blk, w_blk, and_assoc, exists_and_left, exists_eq_left, exists_eq_left', exists_eq_right, exists_eq, exists_const, List.getElem?_cons_zero, List.getElem?_cons_succ, List.set_cons_zero, List.set_cons_succ, Option.some.injEq, V.int.injEq, V.bl.injEq, V.ref.injEq, V.str.injEq, List.cons.injEq, and_true, true_and, List.cons_append, List.nil_append, List.append_nil, L2.start, List.map_cons, List.map_nil, List.length_cons, List.length_nil, List.replicate, Nat.sub_self, Nat.reduceSub, Nat.reduceAdd, Nat.zero_add, if_true, if_false, Bool.false_eq_true, Bool.true_eq_false, reduceIte, decide_eq_true_eq, Bool.not_eq_true', decide_eq_false_iff_not]
    have g := mem_getE a2.pre.good.nd a3
    have hk : nm ∈ keysE b.es := getE_some_iff.mpr ⟨e, g⟩
    refine ⟨_, _, hi, rfl, B, n, b, nm, e, rfl, h2, g, fun v hv => ?_⟩
    obtain ⟨a, c, rfl, ta, tc⟩ := hv
    refine ⟨a, rfl, _, ta.sq, _, atI_n 0 rfl rfl, rfl, ?_⟩
    rw [if_neg (fun z => a4 ((wordS_h' e.word).mp (V.str.inj z)))]
    refine ⟨_, _, hi, rfl, B, n, b, nm, _, rfl, h2, hk, by omega, fun H1 f1 b1 => ?_⟩
    obtain ⟨dx1, hi1⟩ := b1.ins
    refine ⟨_, _, hi1, rfl, al, B, n + 1, _, rfl, a1, b1, pre_drop a2.pre (fun e' z => by rw [key_inj a2.pre.good.nd z a3]; exact a4), by omega, fun H2 v f2 b2 nw => ?_⟩
    exact q _ _ (f1.tr f2) (b2.up (n' := n + 1000) (by omega)) (nw.back b1 f1)
def sp_Book_need_tonight (K : PySem.W.Frag) : Sp := fun vs H Q _ => ∃ (B : BA) (n : Nat) (b : Bk Str) (nm : Str) (e : Ent), vs = [.ref B.o, .str nm] ∧ BookAt K H B n b ∧ getE b.es nm = some e ∧ e.word = .taken ∧ e.first = b.ev ∧
  ∀ v, EntAt K H v e → Q v H
theorem sc_Book_need_tonight : FnScope ["self", "name", "entry"] ["self", "name"] (defScope s_Book_need_tonight) := ⟨rfl, rfl, rfl, by decide +kernel, rfl, by decide +kernel, by decide +kernel⟩
theorem g_Book_need_tonight (T : Txt K mg) : GM P w K mg base true CX0 2 (He.ga K "Book") "need_tonight" [] (sp_Book_need_tonight K) := by
  obtain ⟨fd, F⟩ := T.f_Book_need_tonight
  refine ⟨_, fd, ["self", "name"], [], T.m_Book_need_tonight, F.bindsN (fun _ _ _ _ _ _ us hl => match us, hl with | [_, _], _ => rfl), .nil, okU F sc_Book_need_tonight (fun vs H Q E h => ?_) (fun cdv A outer s H vs Q E pl hr hh hw h => ⟨_, PSs.nox (pss_cons (ps_set (i := 2) sc_Book_need_tonight.nd rfl (by first | exact Or.inl rfl | exact Or.inr rfl) (pe_mu (pv 0) T.c_Book (g_Book_need T) (hr.mono (by decide)) hw (fun _ => hh rfl) (pa_cons (pv 1) pa_nil)))
      (pss_cons (ps_if (pt_cmpR (op_eq) (pe_ix (ix_tupK K) (pv 2) pe_int (fun _ _ => rfl)) pe_str (nomark _)) pss_never pss_nil)
      (pss_cons (ps_if (pt_not (pt_val (pe_mu (pv 0) T.c_Book (g_Book_is_due T) (hr.mono (by decide)) hw (fun _ => hh rfl) (pa_cons (pv 2) pa_nil)))) pss_never pss_nil)
      (pss_one (ps_ret (pv 2)))))), ?_⟩)⟩
  · obtain ⟨B, n, b, nm, e, rfl, _⟩ := h
    rfl
  · obtain ⟨B, n, b, nm, e, rfl, h1, h2, h3, h4, q⟩ := h
    obtain ⟨dx, hi⟩ := h1.ins
    simp only [a_tVar, a_tC, a_tOp, a_tUn, a_rI, a_rI0, a_rU, a_rEq, a_rNe, a_tTest, a_tB, a_tIsN, a_tNotN, a_tChain, a_tAnd, a_tOr, a_tNot, a_tAndV, a_tOrV, a_tNotV, a_tYes, a_tNext, a_tSeq, a_tCont, a_tBreak, a_tDrop, a_tRet, a_tIfS, a_tNever, a_gName, a_gNil, a_gCons, a_gTup, a_tAsg, a_tNil, a_tCons, a_tTup, a_tLst, a_tCB, a_tCU, a_tMU, a_tFld, a_sFld, a_tSl, a_tNoPart, a_tPart, a_rSlL, a_rSlT, a_rIxL, a_rIxT, a_rCat, a_rRep, a_rCatT, a_tDGet, a_tDIn, a_tDNotIn, a_sDPut, a_tDPop1, a_tDNewK, a_tBM, a_rAppend, a_rExtend, a_iList, a_iEnum, a_iRng1, a_iRng2, a_iVals, a_iItems, a_iRng3, a_iStr, a_tMX, a_tXf, a_wAs, a_tRaise, a_tVeI, a_tOst, a_tMkO, a_tMake, a_rSum, a_rIsi, a_tChain3, a_tAugS, a_rGetL, a_rPutL, a_ipI, a_rSet, a_tCKw, a_rMinD, a_rMin, a_rIxS, a_rSlS, a_iTup, a_rIn, a_rEqD, a_rNeD, upd_same, HO.lst.injEq, HO.tup.injEq, HO.dK.injEq, HO.frz.injEq, a_s0, a_s1, a_s2, a_s3, a_s4, a_s5, a_s6, a_s8, a_scal, a_scals, a_tFor, a_tLc, a_tWhile, a_wipe0, a_wipe1, k_cxU, w_cxU, k_blk, w_blk, and_assoc, exists_and_left, exists_eq_left, exists_eq_left', exists_eq_right, exists_eq, exists_const, List.getElem?_cons_zero, List.getElem?_cons_succ, List.set_cons_zero, List.set_cons_succ, Option.some.injEq, V.int.injEq, V.bl.injEq, V.ref.injEq, V.str.injEq, List.cons.injEq, and_true, true_and, List.cons_append, List.nil_append, List.append_nil, L2.start, List.map_cons, List.map_nil, List.length_cons, List.length_nil, List.replicate, Nat.sub_self, Nat.reduceSub, Nat.reduceAdd, Nat.zero_add, if_true, if_false, Bool.false_eq_true, Bool.true_eq_false, reduceIte, decide_eq_true_eq, Bool.not_eq_true', decide_eq_false_iff_not]
    refine ⟨_, _, hi, rfl, B, n, b, nm, e, rfl, h1, h2, fun v hv => ?_⟩
    have hv' := hv
    obtain ⟨a, c, rfl, ta, tc⟩ := hv
    refine ⟨a, rfl, _, ta.sq, _, atI_n 0 rfl rfl, rfl, ?_⟩
    rw [if_neg (fun z => by rw [(wordS_h' e.word).mp (V.str.inj z)] at h3; cases h3)]
    refine ⟨_, _, hi, rfl, B, dx, b.ev, _, e, rfl, hi, hv', _, rfl, ?_⟩
    rw [decide_eq_true h3, decide_eq_true h4, if_neg (fun z => Bool.noConfusion z)]
    exact q _ hv'
def sp_Book_absent (K : PySem.W.Frag) : Sp := fun vs H Q _ => ∃ (B : BA) (n : Nat) (b : Bk Str) (nm : Str), vs = [.ref B.o, .str nm] ∧ DoesAt K H (.absent nm) B n b Q
theorem sc_Book_absent : FnScope ["self", "name"] ["self", "name"] (defScope s_Book_absent) := ⟨rfl, rfl, rfl, by decide +kernel, rfl, by decide +kernel, by decide +kernel⟩
theorem g_Book_absent (T : Txt K mg) : GM P w K mg base true CX0 8 (He.ga K "Book") "absent" [] (sp_Book_absent K) := by
  obtain ⟨fd, F⟩ := T.f_Book_absent
  refine ⟨_, fd, ["self", "name"], [], T.m_Book_absent, F.bindsN (fun _ _ _ _ _ _ us hl => match us, hl with | [_, _], _ => rfl), .nil, okU F sc_Book_absent (fun vs H Q E h => ?_) (fun cdv A outer s H vs Q E pl hr hh hw h => ⟨_, PSs.nox (pss_cons (ps_expr (pe_mu (pv 0) T.c_Book (g_Book_need_tonight T) (hr.mono (by decide)) hw (fun _ => hh rfl) (pa_cons (pv 1) pa_nil)))
      (pss_cons (ps_expr (pe_mu (pv 0) T.c_Book (g_Book_drop T) (hr.mono (by decide)) hw (fun z => Bool.noConfusion z) (pa_cons pe_str (pa_cons (pv 1) pa_nil))))
      (pss_one (ps_ret (pe_mu0 (pv 0) T.c_Book (g_Book_fill T) (hr.mono (by decide)) hw (fun z => Bool.noConfusion z)))))), ?_⟩)⟩
  · obtain ⟨B, n, b, nm, rfl, _⟩ := h
    rfl
  · obtain ⟨B, n, b, nm, rfl, ⟨al, a1, a2, e, a3, a4, a5⟩, h2, h3, q⟩ := h
    obtain ⟨dx, hi⟩ := h2.ins
    simp only [a_tVar, a_tC, a_tOp, a_tUn, a_rI, a_rI0, a_rU, a_rEq, a_rNe, a_tTest, a_tB, a_tIsN, a_tNotN, a_tChain, a_tAnd, a_tOr, a_tNot, a_tAndV, a_tOrV, a_tNotV, a_tYes, a_tNext, a_tSeq, a_tCont, a_tBreak, a_tDrop, a_tRet, a_tIfS, a_tNever, a_gName, a_gNil, a_gCons, a_gTup, a_tAsg, a_tNil, a_tCons, a_tTup, a_tLst, a_tCB, a_tCU, a_tMU, a_tFld, a_sFld, a_tSl, a_tNoPart, a_tPart, a_rSlL, a_rSlT, a_rIxL, a_rIxT, a_rCat, a_rRep, a_rCatT, a_tDGet, a_tDIn, a_tDNotIn, a_sDPut, a_tDPop1, a_tDNewK, a_tBM, a_rAppend, a_rExtend, a_iList, a_iEnum, a_iRng1, a_iRng2, a_iVals, a_iItems, a_iRng3, a_iStr, a_tMX, a_tXf, a_wAs, a_tRaise, a_tVeI, a_tOst, a_tMkO, a_tMake, a_rSum, a_rIsi, a_tChain3, a_tAugS, a_rGetL, a_rPutL, a_ipI, a_rSet, a_tCKw, a_rMinD, a_rMin, a_rIxS, a_rSlS, a_iTup, a_rIn, a_rEqD, a_rNeD, upd_same, HO.lst.injEq, HO.tup.injEq, HO.dK.injEq, HO.frz.injEq, a_s0, a_s1, a_s2, a_s3, a_s4, a_s5, a_s6, a_s8, a_scal, a_scals, a_tFor, a_tLc, a_tWhile, a_wipe0, a_wipe1, k_cxU, w_cxU, k_blk, w_blk, and_assoc, exists_and_left, exists_eq_left, exists_eq_left', exists_eq_right, exists_eq, exists_const, List.getElem?_cons_zero, List.getElem?_cons_succ, List.set_cons_zero, List.set_cons_succ, Option.some.injEq, V.int.injEq, V.bl.injEq, V.ref.injEq, V.str.injEq, List.cons.injEq, and_true, true_and, List.cons_append, List.nil_append, List.append_nil, L2.start, List.map_cons, List.map_nil, List.length_cons, List.length_nil, List.replicate, Nat.sub_self, Nat.reduceSub, Nat.reduceAdd, Nat.zero_add, if_true, if_false, Bool.false_eq_true, Bool.true_eq_false, reduceIte, decide_eq_true_eq, Bool.not_eq_true', decide_eq_false_iff_not]
    have g := mem_getE a2.pre.good.nd a3
    have hk : nm ∈ keysE b.es := getE_some_iff.mpr ⟨e, g⟩
    refine ⟨_, _, hi, rfl, B, n, b, nm, e, rfl, h2, g, a4, a5, fun v hv => ?_⟩
    refine ⟨_, _, hi, rfl, B, n, b, nm, _, rfl, h2, hk, by omega, fun H1 f1 b1 => ?_⟩
    obtain ⟨dx1, hi1⟩ := b1.ins
    refine ⟨_, _, hi1, rfl, al, B, n + 1, _, rfl, a1, b1, pre_drop a2.pre (fun e' z => by rw [key_inj a2.pre.good.nd z a3, a4]; exact fun z => nomatch z), by omega, fun H2 v f2 b2 nw => ?_⟩
    exact q _ _ (f1.tr f2) (b2.up (n' := n + 1000) (by omega)) (nw.back b1 f1)
def sp_Book_go (K : PySem.W.Frag) : Sp := fun vs H Q _ => ∃ (B : BA) (n : Nat) (b : Bk Str) (nm : Str), vs = [.ref B.o, .str nm] ∧ DoesAt K H (.go nm) B n b Q
theorem sc_Book_go : FnScope ["self", "name"] ["self", "name"] (defScope s_Book_go) := ⟨rfl, rfl, rfl, by decide +kernel, rfl, by decide +kernel, by decide +kernel⟩
theorem g_Book_go (T : Txt K mg) : GM P w K mg base true CX0 8 (He.ga K "Book") "go" [] (sp_Book_go K) := by
  obtain ⟨fd, F⟩ := T.f_Book_go
  refine ⟨_, fd, ["self", "name"], [], T.m_Book_go, F.bindsN (fun _ _ _ _ _ _ us hl => match us, hl with | [_, _], _ => rfl), .nil, okU F sc_Book_go (fun vs H Q E h => ?_) (fun cdv A outer s H vs Q E pl hr hh hw h => ⟨_, PSs.nox (pss_cons (ps_if (pt_cmpR (op_ne) (pe_ix (ix_tupK K) (pe_mu (pv 0) T.c_Book (g_Book_need T) (hr.mono (by decide)) hw (fun _ => hh rfl) (pa_cons (pv 1) pa_nil)) pe_int (fun _ _ => rfl)) pe_str (nomark _)) pss_never pss_nil)
      (pss_cons (ps_expr (pe_mu (pe_fldK K (pv 0) rfl) T.c_House (g_House_out T) (hr.mono (by decide)) hw (fun _ => hh rfl) (pa_cons (pv 1) pa_nil)))
      (pss_cons (ps_expr (pe_mu (pv 0) T.c_Book (g_Book_drop T) (hr.mono (by decide)) hw (fun z => Bool.noConfusion z) (pa_cons pe_str (pa_cons (pv 1) pa_nil))))
      (pss_one (ps_ret (pe_mu0 (pv 0) T.c_Book (g_Book_fill T) (hr.mono (by decide)) hw (fun z => Bool.noConfusion z))))))), ?_⟩)⟩
  · obtain ⟨B, n, b, nm, rfl, _⟩ := h
    rfl
  · obtain ⟨B, n, b, nm, rfl, ⟨al, a1, a2, e, a3, a4⟩, h2, h3, q⟩ := h
    obtain ⟨dx, hi⟩ := h2.ins
    obtain ⟨m, ml, hh⟩ := h2.house
    obtain ⟨dy, hy⟩ := hh.ins
    simp only [a_tVar, a_tC, a_tOp, a_tUn, a_rI, a_rI0, a_rU, a_rEq, a_rNe, a_tTest, a_tB, a_tIsN, a_tNotN, a_tChain, a_tAnd, a_tOr, a_tNot, a_tAndV, a_tOrV, a_tNotV, a_tYes, a_tNext, a_tSeq, a_tCont, a_tBreak, a_tDrop, a_tRet, a_tIfS, a_tNever, a_gName, a_gNil, a_gCons, a_gTup, a_tAsg, a_tNil, a_tCons, a_tTup, a_tLst, a_tCB, a_tCU, a_tMU, a_tFld, a_sFld, a_tSl, a_tNoPart, a_tPart, a_rSlL, a_rSlT, a_rIxL, a_rIxT, a_rCat, a_rRep, a_rCatT, a_tDGet, a_tDIn, a_tDNotIn, a_sDPut, a_tDPop1, a_tDNewK, a_tBM, a_rAppend, a_rExtend, a_iList, a_iEnum, a_iRng1, a_iRng2, a_iVals, a_iItems, a_iRng3, a_iStr, a_tMX, a_tXf, a_wAs, a_tRaise, a_tVeI, a_tOst, a_tMkO, a_tMake, a_rSum, a_rIsi, a_tChain3, a_tAugS, a_rGetL, a_rPutL, a_ipI, a_rSet, a_tCKw, a_rMinD, a_rMin, a_rIxS, a_rSlS, a_iTup, a_rIn, a_rEqD, a_rNeD, upd_same, HO.lst.injEq, HO.tup.injEq, HO.dK.injEq, HO.frz.injEq, a_s0, a_s1, a_s2, a_s3, a_s4, a_s5, a_s6, a_s8, a_scal, a_scals, a_tFor, a_tLc, a_tWhile, a_wipe0, a_wipe1, k_cxU, w_cxU, k_blk, w_blk, and_assoc, exists_and_left, exists_eq_left, exists_eq_left', exists_eq_right, exists_eq, exists_const, List.getElem?_cons_zero, List.getElem?_cons_succ, List.set_cons_zero, List.set_cons_succ, Option.some.injEq, V.int.injEq, V.bl.injEq, V.ref.injEq, V.str.injEq, List.cons.injEq, and_true, true_and, List.cons_append, List.nil_append, List.append_nil, L2.start, List.map_cons, List.map_nil, List.length_cons, List.length_nil, List.replicate, Nat.sub_self, Nat.reduceSub, Nat.reduceAdd, Nat.zero_add, if_true, if_false, Bool.false_eq_true, Bool.true_eq_false, reduceIte, decide_eq_true_eq, Bool.not_eq_true', decide_eq_false_iff_not]
    have g := mem_getE a2.pre.good.nd a3
    have hk : nm ∈ keysE b.es := getE_some_iff.mpr ⟨e, g⟩
    have hp : nm ∈ keysE b.hs.places := (a2.pre.hk nm).mpr ⟨e, a3, a4⟩
    refine ⟨_, _, hi, rfl, B, n, b, nm, e, rfl, h2, g, fun v hv => ?_⟩
    obtain ⟨a, c, rfl, ta, tc⟩ := hv
    refine ⟨a, rfl, _, ta.sq, _, atI_n 0 rfl rfl, rfl, ?_⟩
    rw [if_neg (fun z => z (by rw [a4]; rfl))]
    refine ⟨_, _, _, hi, T.c_Book, T.a_Book_inn, _, rfl, _, rfl, _, _, hy, rfl, B.hs, m, b.hs, nm, rfl, hh, a2.pre.hs, hp, fun H1 r f1 hh1 => ?_⟩
    have b1 := h2.inn (n' := n) f1 hh1 ml (Nat.le_refl _)
    obtain ⟨dx1, hi1⟩ := b1.ins
    refine ⟨_, _, hi1, rfl, B, n, _, nm, _, rfl, b1, hk, by omega, fun H2 f2 b2 => ?_⟩
    obtain ⟨dx2, hi2⟩ := b2.ins
    have b2' : BookAt K H2 B (n + 1) (outB b nm) := b2
    have f12 : Fr B.fp H H2 := (f1.mono (by simp [BA.fp, HA.fp])).tr f2
    refine ⟨_, _, hi2, rfl, al, B, n + 1, outB b nm, rfl, a1, b2', pre_out a2.pre nm, by omega, fun H3 v f3 b3 nw => ?_⟩
    exact q _ _ (f12.tr f3) (b3.up (n' := n + 1000) (by omega)) (nw.back b2 f12)
def sp_Book_tonight (K : PySem.W.Frag) : Sp := fun vs H Q _ => ∃ (B : BA) (n : Nat) (b : Bk Str), vs = [.ref B.o] ∧ BookAt K H B n b ∧ Q (.int b.ev) H
theorem sc_Book_tonight : FnScope ["self"] ["self"] (defScope s_Book_tonight) := ⟨rfl, rfl, rfl, by decide +kernel, rfl, by decide +kernel, by decide +kernel⟩
theorem g_Book_tonight (T : Txt K mg) : GM P w K mg base true CX0 1 (He.ga K "Book") "tonight" [] (sp_Book_tonight K) := by
  obtain ⟨fd, F⟩ := T.f_Book_tonight
  refine ⟨_, fd, ["self"], [], T.m_Book_tonight, F.bindsN (fun _ _ _ _ _ _ us hl => match us, hl with | [_], _ => rfl), .nil, okU F sc_Book_tonight (fun vs H Q E h => ?_) (fun cdv A outer s H vs Q E pl hr hh hw h => ⟨_, PSs.nox (pss_one (ps_ret (pe_fldK K (pv 0) rfl))), ?_⟩)⟩
  · obtain ⟨B, n, b, rfl, _⟩ := h
    rfl
  · obtain ⟨B, n, b, rfl, h1, q⟩ := h
    obtain ⟨dx, hi⟩ := h1.ins
    simp only [a_tVar, a_tC, a_tOp, a_tUn, a_rI, a_rI0, a_rU, a_rEq, a_rNe, a_tTest, a_tB, a_tIsN, a_tNotN, a_tChain, a_tAnd, a_tOr, a_tNot, a_tAndV, a_tOrV, a_tNotV, a_tYes, a_tNext, a_tSeq, a_tCont, a_tBreak, a_tDrop, a_tRet, a_tIfS, a_tNever, a_gName, a_gNil, a_gCons, a_gTup, a_tAsg, a_tNil, a_tCons, a_tTup, a_tLst, a_tCB, a_tCU, a_tMU, a_tFld, a_sFld, a_tSl, a_tNoPart, a_tPart, a_rSlL, a_rSlT, a_rIxL, a_rIxT, a_rCat, a_rRep, a_rCatT, a_tDGet, a_tDIn, a_tDNotIn, a_sDPut, a_tDPop1, a_tDNewK, a_tBM, a_rAppend, a_rExtend, a_iList, a_iEnum, a_iRng1, a_iRng2, a_iVals, a_iItems, a_iRng3, a_iStr, a_tMX, a_tXf, a_wAs, a_tRaise, a_tVeI, a_tOst, a_tMkO, a_tMake, a_rSum, a_rIsi, a_tChain3, a_tAugS, a_rGetL, a_rPutL, a_ipI, a_rSet, a_tCKw, a_rMinD, a_rMin, a_rIxS, a_rSlS, a_iTup, a_rIn, a_rEqD, a_rNeD, upd_same, HO.lst.injEq, HO.tup.injEq, HO.dK.injEq, HO.frz.injEq, a_s0, a_s1, a_s2, a_s3, a_s4, a_s5, a_s6, a_s8, a_scal, a_scals, a_tFor, a_tLc, a_tWhile, a_wipe0, a_wipe1, k_cxU, w_cxU, k_blk, w_blk, and_assoc, exists_and_left, exists_eq_left, exists_eq_left', exists_eq_right, exists_eq, exists_const, List.getElem?_cons_zero, List.getElem?_cons_succ, List.set_cons_zero, List.set_cons_succ, Option.some.injEq, V.int.injEq, V.bl.injEq, V.ref.injEq, V.str.injEq, List.cons.injEq, and_true, true_and, List.cons_append, List.nil_append, List.append_nil, L2.start, List.map_cons, List.map_nil, List.length_cons, List.length_nil, List.replicate, Nat.sub_self, Nat.reduceSub, Nat.reduceAdd, Nat.zero_add, if_true, if_false, Bool.false_eq_true, Bool.true_eq_false, reduceIte, decide_eq_true_eq, Bool.not_eq_true', decide_eq_false_iff_not]
    exact ⟨_, _, _, hi, T.c_Book, T.a_Book_evening, _, rfl, q⟩
def sp_Book_names (K : PySem.W.Frag) : Sp := fun vs H Q _ => ∃ (B : BA) (n : Nat) (b : Bk Str), vs = [.ref B.o] ∧ BookAt K H B n b ∧
  ∀ p, H p = none → Q (.ref p) (upd H p (.lst ((keysE b.es).map V.str)))
theorem sc_Book_names : FnScope ["self"] ["self"] (defScope s_Book_names) := ⟨rfl, rfl, rfl, by decide +kernel, rfl, by decide +kernel, by decide +kernel⟩
theorem g_Book_names (T : Txt K mg) : GM P w K mg base true CX0 1 (He.ga K "Book") "names" [] (sp_Book_names K) := by
  obtain ⟨fd, F⟩ := T.f_Book_names
  refine ⟨_, fd, ["self"], [], T.m_Book_names, F.bindsN (fun _ _ _ _ _ _ us hl => match us, hl with | [_], _ => rfl), .nil, okU F sc_Book_names (fun vs H Q E h => ?_) (fun cdv A outer s H vs Q E pl hr hh hw h => ⟨_, PSs.nox (pss_one (ps_ret (pe_callTy (call_listD rfl) rfl T.n_list boot_list (pa_cons (pe_fldK K (pv 0) rfl) pa_nil)))), ?_⟩)⟩
  · obtain ⟨B, n, b, rfl, _⟩ := h
    rfl
  · obtain ⟨B, n, b, rfl, h1, q⟩ := h
    obtain ⟨dx, hi⟩ := h1.ins
    obtain ⟨kvs, hk, he⟩ := h1.entries
    simp only [a_tVar, a_tC, a_tOp, a_tUn, a_rI, a_rI0, a_rU, a_rEq, a_rNe, a_tTest, a_tB, a_tIsN, a_tNotN, a_tChain, a_tAnd, a_tOr, a_tNot, a_tAndV, a_tOrV, a_tNotV, a_tYes, a_tNext, a_tSeq, a_tCont, a_tBreak, a_tDrop, a_tRet, a_tIfS, a_tNever, a_gName, a_gNil, a_gCons, a_gTup, a_tAsg, a_tNil, a_tCons, a_tTup, a_tLst, a_tCB, a_tCU, a_tMU, a_tFld, a_sFld, a_tSl, a_tNoPart, a_tPart, a_rSlL, a_rSlT, a_rIxL, a_rIxT, a_rCat, a_rRep, a_rCatT, a_tDGet, a_tDIn, a_tDNotIn, a_sDPut, a_tDPop1, a_tDNewK, a_tBM, a_rAppend, a_rExtend, a_iList, a_iEnum, a_iRng1, a_iRng2, a_iVals, a_iItems, a_iRng3, a_iStr, a_tMX, a_tXf, a_wAs, a_tRaise, a_tVeI, a_tOst, a_tMkO, a_tMake, a_rSum, a_rIsi, a_tChain3, a_tAugS, a_rGetL, a_rPutL, a_ipI, a_rSet, a_tCKw, a_rMinD, a_rMin, a_rIxS, a_rSlS, a_iTup, a_rIn, a_rEqD, a_rNeD, upd_same, HO.lst.injEq, HO.tup.injEq, HO.dK.injEq, HO.frz.injEq, a_s0, a_s1, a_s2, a_s3, a_s4, a_s5, a_s6, a_s8, a_scal, a_scals, a_tFor, a_tLc, a_tWhile, a_wipe0, a_wipe1, k_cxU, w_cxU, k_blk, w_blk, and_assoc, exists_and_left, exists_eq_left, exists_eq_left', exists_eq_right, exists_eq, exists_const, List.getElem?_cons_zero, List.getElem?_cons_succ, List.set_cons_zero, List.set_cons_succ, Option.some.injEq, V.int.injEq, V.bl.injEq, V.ref.injEq, V.str.injEq, List.cons.injEq, and_true, true_and, List.cons_append, List.nil_append, List.append_nil, L2.start, List.map_cons, List.map_nil, List.length_cons, List.length_nil, List.replicate, Nat.sub_self, Nat.reduceSub, Nat.reduceAdd, Nat.zero_add, if_true, if_false, Bool.false_eq_true, Bool.true_eq_false, reduceIte, decide_eq_true_eq, Bool.not_eq_true', decide_eq_false_iff_not]
    refine ⟨_, _, _, hi, T.c_Book, T.a_Book_entries, _, rfl, _, rfl, _, .inl hk, fun p hp => ?_⟩
    rw [KvAt.keys he]
    have := q p hp
    unfold keysE at this
    rw [List.map_map] at this
    exact this
def sp_Book_state (K : PySem.W.Frag) : Sp := fun vs H Q _ => ∃ (B : BA) (n : Nat) (b : Bk Str) (nm : Str) (e : Ent), vs = [.ref B.o, .str nm] ∧ BookAt K H B n b ∧ getE b.es nm = some e ∧
  ∀ v, EntAt K H v e → Q v H
theorem sc_Book_state : FnScope ["self", "name"] ["self", "name"] (defScope s_Book_state) := ⟨rfl, rfl, rfl, by decide +kernel, rfl, by decide +kernel, by decide +kernel⟩
theorem g_Book_state (T : Txt K mg) : GM P w K mg base true CX0 2 (He.ga K "Book") "state" [] (sp_Book_state K) := by
  obtain ⟨fd, F⟩ := T.f_Book_state
  refine ⟨_, fd, ["self", "name"], [], T.m_Book_state, F.bindsN (fun _ _ _ _ _ _ us hl => match us, hl with | [_, _], _ => rfl), .nil, okU F sc_Book_state (fun vs H Q E h => ?_) (fun cdv A outer s H vs Q E pl hr hh hw h => ⟨_, PSs.nox (pss_one (ps_ret (pe_mu (pv 0) T.c_Book (g_Book_need T) (hr.mono (by decide)) hw (fun _ => hh rfl) (pa_cons (pv 1) pa_nil)))), ?_⟩)⟩
  · obtain ⟨B, n, b, nm, e, rfl, _⟩ := h
    rfl
  · obtain ⟨B, n, b, nm, e, rfl, h1, h2, q⟩ := h
    obtain ⟨dx, hi⟩ := h1.ins
    simp only [a_tVar, a_tC, a_tOp, a_tUn, a_rI, a_rI0, a_rU, a_rEq, a_rNe, a_tTest, a_tB, a_tIsN, a_tNotN, a_tChain, a_tAnd, a_tOr, a_tNot, a_tAndV, a_tOrV, a_tNotV, a_tYes, a_tNext, a_tSeq, a_tCont, a_tBreak, a_tDrop, a_tRet, a_tIfS, a_tNever, a_gName, a_gNil, a_gCons, a_gTup, a_tAsg, a_tNil, a_tCons, a_tTup, a_tLst, a_tCB, a_tCU, a_tMU, a_tFld, a_sFld, a_tSl, a_tNoPart, a_tPart, a_rSlL, a_rSlT, a_rIxL, a_rIxT, a_rCat, a_rRep, a_rCatT, a_tDGet, a_tDIn, a_tDNotIn, a_sDPut, a_tDPop1, a_tDNewK, a_tBM, a_rAppend, a_rExtend, a_iList, a_iEnum, a_iRng1, a_iRng2, a_iVals, a_iItems, a_iRng3, a_iStr, a_tMX, a_tXf, a_wAs, a_tRaise, a_tVeI, a_tOst, a_tMkO, a_tMake, a_rSum, a_rIsi, a_tChain3, a_tAugS, a_rGetL, a_rPutL, a_ipI, a_rSet, a_tCKw, a_rMinD, a_rMin, a_rIxS, a_rSlS, a_iTup, a_rIn, a_rEqD, a_rNeD, upd_same, HO.lst.injEq, HO.tup.injEq, HO.dK.injEq, HO.frz.injEq, a_s0, a_s1, a_s2, a_s3, a_s4, a_s5, a_s6, a_s8, a_scal, a_scals, a_tFor, a_tLc, a_tWhile, a_wipe0, a_wipe1, k_cxU, w_cxU, k_blk, w_blk, and_assoc, exists_and_left, exists_eq_left, exists_eq_left', exists_eq_right, exists_eq, exists_const, List.getElem?_cons_zero, List.getElem?_cons_succ, List.set_cons_zero, List.set_cons_succ, Option.some.injEq, V.int.injEq, V.bl.injEq, V.ref.injEq, V.str.injEq, List.cons.injEq, and_true, true_and, List.cons_append, List.nil_append, List.append_nil, L2.start, List.map_cons, List.map_nil, List.length_cons, List.length_nil, List.replicate, Nat.sub_self, Nat.reduceSub, Nat.reduceAdd, Nat.zero_add, if_true, if_false, Bool.false_eq_true, Bool.true_eq_false, reduceIte, decide_eq_true_eq, Bool.not_eq_true', decide_eq_false_iff_not]
    exact ⟨_, _, hi, rfl, B, n, b, nm, e, rfl, h1, h2, q⟩
def sp_Book_inside (K : PySem.W.Frag) : Sp := fun vs H Q _ => ∃ (B : BA) (n : Nat) (b : Bk Str), vs = [.ref B.o] ∧ BookAt K H B n b ∧ (keysE b.es).Nodup ∧ b.es.length ≤ 1000 ∧
  ∀ H' v, Same H H' → NewAt H H' v ((b.es.filter fun p => decide (p.2.word = .house)).map (·.1)) → Q v H'
theorem sc_Book_inside : FnScope ["self", "name"] ["self"] (defScope s_Book_inside) := ⟨rfl, rfl, rfl, by decide +kernel, rfl, by decide +kernel, by decide +kernel⟩
theorem g_Book_inside (T : Txt K mg) : GM P w K mg base true CX0 1 (He.ga K "Book") "inside" [] (sp_Book_inside K) := by
  obtain ⟨fd, F⟩ := T.f_Book_inside
  refine ⟨_, fd, ["self"], [], T.m_Book_inside, F.bindsN (fun _ _ _ _ _ _ us hl => match us, hl with | [_], _ => rfl), .nil, okU F sc_Book_inside (fun vs H Q E h => ?_) (fun cdv A outer s H vs Q E pl hr hh hw h => ⟨_, PSs.nox (pss_one (ps_ret (pe_lock (pe_lcU hw sc_Book_inside.nd (piu_keys (pe_fldK K (pv 0) rfl)) (blkOk_by (own := [("name", 1)]) (by kernel_rfl)) (fun _ _ _ _ _ => (pg_name (i := 1) sc_Book_inside.nd rfl (by first | exact Or.inl rfl | exact Or.inr rfl))) (fun _ _ _ _ _ => (pts_one (pt_cmpR (op_eq) (pe_ix (ix_tupK K) (pe_dget (huU hr) (pe_fldK K (pv 0) rfl) (pv 1) (fun _ _ => rfl)) pe_int (fun _ _ => rfl)) pe_str (nomark _)))) (fun _ _ _ _ _ => (pv 1)))))), ?_⟩)⟩
  · obtain ⟨B, n, b, rfl, _⟩ := h
    rfl
  · obtain ⟨B, n, b, rfl, h1, h2, h3, q⟩ := h
    obtain ⟨dx, hi⟩ := h1.ins
    obtain ⟨kvs, hk, he⟩ := h1.entries
    simp only [a_tVar, a_tC, a_tOp, a_tUn, a_rI, a_rI0, a_rU, a_rEq, a_rNe, a_tTest, a_tB, a_tIsN, a_tNotN, a_tChain, a_tAnd, a_tOr, a_tNot, a_tAndV, a_tOrV, a_tNotV, a_tYes, a_tNext, a_tSeq, a_tCont, a_tBreak, a_tDrop, a_tRet, a_tIfS, a_tNever, a_gName, a_gNil, a_gCons, a_gTup, a_tAsg, a_tNil, a_tCons, a_tTup, a_tLst, a_tCB, a_tCU, a_tMU, a_tFld, a_sFld, a_tSl, a_tNoPart, a_tPart, a_rSlL, a_rSlT, a_rIxL, a_rIxT, a_rCat, a_rRep, a_rCatT, a_tDGet, a_tDIn, a_tDNotIn, a_sDPut, a_tDPop1, a_tDNewK, a_tBM, a_rAppend, a_rExtend, a_iList, a_iEnum, a_iRng1, a_iRng2, a_iVals, a_iItems, a_iRng3, a_iStr, a_tMX, a_tXf, a_wAs, a_tRaise, a_tVeI, a_tOst, a_tMkO, a_tMake, a_rSum, a_rIsi, a_tChain3, a_tAugS, a_rGetL, a_rPutL, a_ipI, a_rSet, a_tCKw, a_rMinD, a_rMin, a_rIxS, a_rSlS, a_iTup, a_rIn, a_rEqD, a_rNeD, upd_same, HO.lst.injEq, HO.tup.injEq, HO.dK.injEq, HO.frz.injEq, a_s0, a_s1, a_s2, a_s3, a_s4, a_s5, a_s6, a_s8, a_scal, a_scals, a_tFor, a_tLc, a_tWhile, a_wipe0, a_wipe1, k_cxU, w_cxU, k_blk, w_blk, and_assoc, exists_and_left, exists_eq_left, exists_eq_left', exists_eq_right, exists_eq, exists_const, List.getElem?_cons_zero, List.getElem?_cons_succ, List.set_cons_zero, List.set_cons_succ, Option.some.injEq, V.int.injEq, V.bl.injEq, V.ref.injEq, V.str.injEq, List.cons.injEq, and_true, true_and, List.cons_append, List.nil_append, List.append_nil, L2.start, List.map_cons, List.map_nil, List.length_cons, List.length_nil, List.replicate, Nat.sub_self, Nat.reduceSub, Nat.reduceAdd, Nat.zero_add, if_true, if_false, Bool.false_eq_true, Bool.true_eq_false, reduceIte, decide_eq_true_eq, Bool.not_eq_true', decide_eq_false_iff_not]
    refine ⟨B.d, _, hk, trivial, fun od => ?_⟩
    simp only [a_tVar, a_tC, a_tOp, a_tUn, a_rI, a_rI0, a_rU, a_rEq, a_rNe, a_tTest, a_tB, a_tIsN, a_tNotN, a_tChain, a_tAnd, a_tOr, a_tNot, a_tAndV, a_tOrV, a_tNotV, a_tYes, a_tNext, a_tSeq, a_tCont, a_tBreak, a_tDrop, a_tRet, a_tIfS, a_tNever, a_gName, a_gNil, a_gCons, a_gTup, a_tAsg, a_tNil, a_tCons, a_tTup, a_tLst, a_tCB, a_tCU, a_tMU, a_tFld, a_sFld, a_tSl, a_tNoPart, a_tPart, a_rSlL, a_rSlT, a_rIxL, a_rIxT, a_rCat, a_rRep, a_rCatT, a_tDGet, a_tDIn, a_tDNotIn, a_sDPut, a_tDPop1, a_tDNewK, a_tBM, a_rAppend, a_rExtend, a_iList, a_iEnum, a_iRng1, a_iRng2, a_iVals, a_iItems, a_iRng3, a_iStr, a_tMX, a_tXf, a_wAs, a_tRaise, a_tVeI, a_tOst, a_tMkO, a_tMake, a_rSum, a_rIsi, a_tChain3, a_tAugS, a_rGetL, a_rPutL, a_ipI, a_rSet, a_tCKw, a_rMinD, a_rMin, a_rIxS, a_rSlS, a_iTup, a_rIn, a_rEqD, a_rNeD, upd_same, HO.lst.injEq, HO.tup.injEq, HO.dK.injEq, HO.frz.injEq, a_s0, a_s1, a_s2, a_s3, a_s4, a_s5, a_s6, a_s8, a_scal, a_scals, a_tFor, a_tLc, a_tWhile, a_wipe0, a_wipe1, k_cxU, w_cxU, k_blk, w_blk, and_assoc, exists_and_left, exists_eq_left, exists_eq_left', exists_eq_right, exists_eq, exists_const, List.getElem?_cons_zero, List.getElem?_cons_succ, List.set_cons_zero, List.set_cons_succ, Option.some.injEq, V.int.injEq, V.bl.injEq, V.ref.injEq, V.str.injEq, List.cons.injEq, and_true, true_and, List.cons_append, List.nil_append, List.append_nil, L2.start, List.map_cons, List.map_nil, List.length_cons, List.length_nil, List.replicate, Nat.sub_self, Nat.reduceSub, Nat.reduceAdd, Nat.zero_add, if_true, if_false, Bool.false_eq_true, Bool.true_eq_false, reduceIte, decide_eq_true_eq, Bool.not_eq_true', decide_eq_false_iff_not]
    have hl := Paired.length he
    have hod : B.o ≠ B.d := (BA.ne h1.nd).o _ (by simp)
    have hi0 := (upd_ne hod (H := H) (o := .frz od (.dK kvs))).trans hi
    obtain ⟨ac, ha⟩ : ∃ f : Nat → List V, ∀ i, f i = (((b.es.take i).filter fun p => decide (p.2.word = .house)).map (·.1)).map V.str := ⟨_, fun _ => rfl⟩
    refine ⟨_, _, _, hi0, T.c_Book, T.a_Book_entries, _, rfl, _, rfl, _, _, upd_same, fun D hD => ?_⟩
    have hne : D ≠ B.d := fun e => by rw [e, upd_same] at hD; cases hD
    refine lc_go walk_keys hD ac (ha 0) (fun _ s => locked s) ?_ ?_
    · rintro i y H' H'' hi' s hD' ⟨rfl, k, v, hy, rfl⟩
      obtain ⟨pr, hp, e1, a, c, rfl, t1, t2⟩ := paired_get he hy
      have e1 : k = Sum.inr pr.1 := e1
      subst e1
      have tu : Tups H H'' := (tups_put hk fun _ z => nomatch z).tr s.tups
      have hg : getE b.es pr.1 = some pr.2 := mem_getE h2 (List.mem_of_getElem? hp)
      obtain ⟨v, hv, a2, c2, rfl, u1, u2⟩ := KvAt.some he hg
      have ec : ac (i + 1) = ac i ++ (if pr.2.word = .house then [V.str pr.1] else []) := by
        rw [ha, ha, take_snoc hp, List.filter_append, List.map_append, List.map_append, List.filter_cons]
        by_cases z : pr.2.word = .house
        · rw [if_pos (by simp [z]), if_pos z]
          rfl
        · rw [if_neg (by simp [z]), if_neg z]
          rfl
      simp only [a_tVar, a_tC, a_tOp, a_tUn, a_rI, a_rI0, a_rU, a_rEq, a_rNe, a_tTest, a_tB, a_tIsN, a_tNotN, a_tChain, a_tAnd, a_tOr, a_tNot, a_tAndV, a_tOrV, a_tNotV, a_tYes, a_tNext, a_tSeq, a_tCont, a_tBreak, a_tDrop, a_tRet, a_tIfS, a_tNever, a_gName, a_gNil, a_gCons, a_gTup, a_tAsg, a_tNil, a_tCons, a_tTup, a_tLst, a_tCB, a_tCU, a_tMU, a_tFld, a_sFld, a_tSl, a_tNoPart, a_tPart, a_rSlL, a_rSlT, a_rIxL, a_rIxT, a_rCat, a_rRep, a_rCatT, a_tDGet, a_tDIn, a_tDNotIn, a_sDPut, a_tDPop1, a_tDNewK, a_tBM, a_rAppend, a_rExtend, a_iList, a_iEnum, a_iRng1, a_iRng2, a_iVals, a_iItems, a_iRng3, a_iStr, a_tMX, a_tXf, a_wAs, a_tRaise, a_tVeI, a_tOst, a_tMkO, a_tMake, a_rSum, a_rIsi, a_tChain3, a_tAugS, a_rGetL, a_rPutL, a_ipI, a_rSet, a_tCKw, a_rMinD, a_rMin, a_rIxS, a_rSlS, a_iTup, a_rIn, a_rEqD, a_rNeD, upd_same, HO.lst.injEq, HO.tup.injEq, HO.dK.injEq, HO.frz.injEq, a_s0, a_s1, a_s2, a_s3, a_s4, a_s5, a_s6, a_s8, a_scal, a_scals, a_tFor, a_tLc, a_tWhile, a_wipe0, a_wipe1, k_cxU, w_cxU, k_blk, w_blk, and_assoc, exists_and_left, exists_eq_left, exists_eq_left', exists_eq_right, exists_eq, exists_const, List.getElem?_cons_zero, List.getElem?_cons_succ, List.set_cons_zero, List.set_cons_succ, Option.some.injEq, V.int.injEq, V.bl.injEq, V.ref.injEq, V.str.injEq, List.cons.injEq, and_true, true_and, List.cons_append, List.nil_append, List.append_nil, L2.start, List.map_cons, List.map_nil, List.length_cons, List.length_nil, List.replicate, Nat.sub_self, Nat.reduceSub, Nat.reduceAdd, Nat.zero_add, if_true, if_false, Bool.false_eq_true, Bool.true_eq_false, reduceIte, decide_eq_true_eq, Bool.not_eq_true', decide_eq_false_iff_not]
      refine ⟨_, _, _, s _ _ hi0, T.c_Book, T.a_Book_entries, _, rfl, _, rfl, .ref a2, .inl ⟨kvs, Sum.inr pr.1, .inr ⟨od, locked s⟩, rfl, hv.symm⟩, a2, rfl, _, (u1.keep tu).sq, _, atI_n 0 rfl rfl, rfl, ?_⟩
      by_cases z : pr.2.word = .house
      · rw [if_pos (by rw [V.str.injEq, wordS_h']; exact z)]
        rw [if_pos z] at ec
        refine leaf hD hD' s (szl _ ?_) ec
        rw [ha, List.length_map, List.length_map]
        have := List.length_filter_le (fun p : Str × Ent => decide (p.2.word = .house)) (b.es.take i)
        rw [List.length_take] at this
        omega
      · rw [if_neg (by rw [V.str.injEq, wordS_h']; exact z)]
        rw [if_neg z, List.append_nil] at ec
        exact leafN hD' s ec
    · intro H' s hD'
      rw [ha, hl, List.take_length] at hD'
      refine ⟨locked s, q _ _ (unlock s hk) ⟨D, rfl, by rw [upd_ne hne]; exact hD', ?_⟩⟩
      rw [upd_ne hne] at hD
      exact hD
theorem sum_nn : ∀ {l : List Int}, (∀ x ∈ l, 0 ≤ x) → 0 ≤ l.sum
  | [], _ => Int.le_refl _
  | a :: l, h => by
    rw [List.sum_cons]
    have := sum_nn (l := l) fun y hy => h y (List.mem_cons_of_mem _ hy)
    have := h a List.mem_cons_self
    omega
theorem le_sum : ∀ {l : List Int}, (∀ x ∈ l, 0 ≤ x) → ∀ x ∈ l, x ≤ l.sum
  | a :: l, h, x, hx => by
    have h1 : ∀ y ∈ l, 0 ≤ y := fun y hy => h y (List.mem_cons_of_mem _ hy)
    have h2 : 0 ≤ l.sum := sum_nn h1
    rw [List.sum_cons]
    rcases List.mem_cons.mp hx with e | e
    · rw [e]; omega
    · have := le_sum h1 x e
      have := h a List.mem_cons_self
      omega
def roomsOf (lad : List Int) : List Int := lad.zipIdx.flatMap fun p => List.replicate p.1.toNat ((p.2 : Int) + 1)
def sp_rooms_of (K : PySem.W.Frag) : Sp := fun vs H Q _ => ∃ (a : Addr) (lad : List Int), vs = [.ref a] ∧ H a = some (.lst (IL lad)) ∧ (∀ x ∈ lad, 0 ≤ x) ∧ lad.sum ≤ 12 ∧ lad.length ≤ 4 ∧
  ∀ H' p rooms, Same H H' → H' p = some (.lst (IL rooms)) → H p = none → rooms = roomsOf lad → Q (.ref p) H'
theorem sc_rooms_of : FnScope ["ladder", "rooms", "at", "many"] ["ladder"] (defScope s_rooms_of) := ⟨rfl, rfl, rfl, by decide +kernel, rfl, by decide +kernel, by decide +kernel⟩
theorem g_rooms_of (T : Txt K mg) : GF P w K mg base true 1 "rooms_of" [] (sp_rooms_of K) := by
  obtain ⟨fd, F⟩ := T.f_rooms_of
  refine ⟨_, fd, ["ladder"], [], T.g_rooms_of, F.kp, F.bindsN (fun _ _ _ _ _ _ us hl => match us, hl with | [_], _ => rfl), .nil, okU F sc_rooms_of (fun vs H Q E h => ?_) (fun cdv A outer s H vs Q E pl hr hh hw h => ⟨_, PSs.nox (pss_cons (ps_set (i := 1) sc_rooms_of.nd rfl (by first | exact Or.inl rfl | exact Or.inr rfl) (pe_lst pa_nil))
      (pss_cons (psu_for PassesOwn.never hw (piu_enum rfl T.n_enumerate (pa_cons (pv 0) pa_nil)) (pgu_tupK (n := 2) K hw (pgs_cons (pg_name (i := 2) sc_rooms_of.nd rfl (by first | exact Or.inl rfl | exact Or.inr rfl)) (pgs_cons (pg_name (i := 3) sc_rooms_of.nd rfl (by first | exact Or.inl rfl | exact Or.inr rfl)) pgs_nil))) (pss_one (ps_expr (pe_bm PySem.F.plainAttrs_list PySem.F.slot_list_extend PySem.F.type_list_extend mt_extend (pv 1) (pa_cons (pe_op op_rep (pe_lst (pa_cons (pe_op op_add (pv 2) pe_int) pa_nil)) (pv 3)) pa_nil)))))
      (pss_one (ps_ret (pv 1))))), ?_⟩)⟩
  · obtain ⟨a, lad, rfl, _⟩ := h
    rfl
  · obtain ⟨a, lad, rfl, h1, h2, h3, h4, q⟩ := h
    simp only [a_tVar, a_tC, a_tOp, a_tUn, a_rI, a_rI0, a_rU, a_rEq, a_rNe, a_tTest, a_tB, a_tIsN, a_tNotN, a_tChain, a_tAnd, a_tOr, a_tNot, a_tAndV, a_tOrV, a_tNotV, a_tYes, a_tNext, a_tSeq, a_tCont, a_tBreak, a_tDrop, a_tRet, a_tIfS, a_tNever, a_gName, a_gNil, a_gCons, a_gTup, a_tAsg, a_tNil, a_tCons, a_tTup, a_tLst, a_tCB, a_tCU, a_tMU, a_tFld, a_sFld, a_tSl, a_tNoPart, a_tPart, a_rSlL, a_rSlT, a_rIxL, a_rIxT, a_rCat, a_rRep, a_rCatT, a_tDGet, a_tDIn, a_tDNotIn, a_sDPut, a_tDPop1, a_tDNewK, a_tBM, a_rAppend, a_rExtend, a_iList, a_iEnum, a_iRng1, a_iRng2, a_iVals, a_iItems, a_iRng3, a_iStr, a_tMX, a_tXf, a_wAs, a_tRaise, a_tVeI, a_tOst, a_tMkO, a_tMake, a_rSum, a_rIsi, a_tChain3, a_tAugS, a_rGetL, a_rPutL, a_ipI, a_rSet, a_tCKw, a_rMinD, a_rMin, a_rIxS, a_rSlS, a_iTup, a_rIn, a_rEqD, a_rNeD, upd_same, HO.lst.injEq, HO.tup.injEq, HO.dK.injEq, HO.frz.injEq, a_s0, a_s1, a_s2, a_s3, a_s4, a_s5, a_s6, a_s8, a_scal, a_scals, a_tFor, a_tLc, a_tWhile, a_wipe0, a_wipe1, k_cxU, w_cxU, k_blk, w_blk, and_assoc, exists_and_left, exists_eq_left, exists_eq_left', exists_eq_right, exists_eq, exists_const, List.getElem?_cons_zero, List.getElem?_cons_succ, List.set_cons_zero, List.set_cons_succ, Option.some.injEq, V.int.injEq, V.bl.injEq, V.ref.injEq, V.str.injEq, List.cons.injEq, and_true, true_and, List.cons_append, List.nil_append, List.append_nil, L2.start, List.map_cons, List.map_nil, List.length_cons, List.length_nil, List.replicate, Nat.sub_self, Nat.reduceSub, Nat.reduceAdd, Nat.zero_add, if_true, if_false, Bool.false_eq_true, Bool.true_eq_false, reduceIte, decide_eq_true_eq, Bool.not_eq_true', decide_eq_false_iff_not]
    intro p hp
    have s0 := (Same.rfl' (H := H)).new hp (o := .lst [])
    have hl : (IL lad).length = lad.length := by simp
    refine ⟨_, SqL.of (s0 _ _ h1), ?_⟩
    refine for_go (walk_enum (xs := IL lad)) (fun i σ H' => Same H H' ∧ H' p = some (.lst (IL (roomsOf (lad.take i)))) ∧ (roomsOf (lad.take i)).length ≤ 12 * i ∧ ∃ u v, σ = [some (.ref a), some (.ref p), u, v]) ⟨s0, upd_same, Nat.le_refl _, none, none, rfl⟩ (fun i σ H' _ h => SqL.of (h.1 _ _ h1)) ?_ ?_
    · rintro i y σ H3 H4 hi ⟨s3, g3, l3, u, v, rfl⟩ ⟨T', y1, y2, rfl, hT, rfl, e1, e2⟩
      obtain ⟨z, hz, rfl⟩ := il_get e2
      cases e1
      have hi' : i < lad.length := by rw [← hl]; exact hi
      have zm := List.mem_of_getElem? hz
      have z0 := h2 z zm
      have z1 := le_sum h2 z zm
      have s4 := s3.new hT (o := .tup [.int (i : Nat), .int z])
      have g4 := get_new g3 hT (o := .tup [.int (i : Nat), .int z])
      have er : roomsOf (lad.take (i + 1)) = roomsOf (lad.take i) ++ List.replicate z.toNat ((i : Int) + 1) := by
        rw [take_snoc hz]
        unfold roomsOf
        rw [List.zipIdx_append, List.flatMap_append, List.length_take, Nat.min_eq_left (by omega)]
        simp
      simp only [a_tVar, a_tC, a_tOp, a_tUn, a_rI, a_rI0, a_rU, a_rEq, a_rNe, a_tTest, a_tB, a_tIsN, a_tNotN, a_tChain, a_tAnd, a_tOr, a_tNot, a_tAndV, a_tOrV, a_tNotV, a_tYes, a_tNext, a_tSeq, a_tCont, a_tBreak, a_tDrop, a_tRet, a_tIfS, a_tNever, a_gName, a_gNil, a_gCons, a_gTup, a_tAsg, a_tNil, a_tCons, a_tTup, a_tLst, a_tCB, a_tCU, a_tMU, a_tFld, a_sFld, a_tSl, a_tNoPart, a_tPart, a_rSlL, a_rSlT, a_rIxL, a_rIxT, a_rCat, a_rRep, a_rCatT, a_tDGet, a_tDIn, a_tDNotIn, a_sDPut, a_tDPop1, a_tDNewK, a_tBM, a_rAppend, a_rExtend, a_iList, a_iEnum, a_iRng1, a_iRng2, a_iVals, a_iItems, a_iRng3, a_iStr, a_tMX, a_tXf, a_wAs, a_tRaise, a_tVeI, a_tOst, a_tMkO, a_tMake, a_rSum, a_rIsi, a_tChain3, a_tAugS, a_rGetL, a_rPutL, a_ipI, a_rSet, a_tCKw, a_rMinD, a_rMin, a_rIxS, a_rSlS, a_iTup, a_rIn, a_rEqD, a_rNeD, upd_same, HO.lst.injEq, HO.tup.injEq, HO.dK.injEq, HO.frz.injEq, a_s0, a_s1, a_s2, a_s3, a_s4, a_s5, a_s6, a_s8, a_scal, a_scals, a_tFor, a_tLc, a_tWhile, a_wipe0, a_wipe1, k_cxU, w_cxU, k_blk, w_blk, and_assoc, exists_and_left, exists_eq_left, exists_eq_left', exists_eq_right, exists_eq, exists_const, List.getElem?_cons_zero, List.getElem?_cons_succ, List.set_cons_zero, List.set_cons_succ, Option.some.injEq, V.int.injEq, V.bl.injEq, V.ref.injEq, V.str.injEq, List.cons.injEq, and_true, true_and, List.cons_append, List.nil_append, List.append_nil, L2.start, List.map_cons, List.map_nil, List.length_cons, List.length_nil, List.replicate, Nat.sub_self, Nat.reduceSub, Nat.reduceAdd, Nat.zero_add, if_true, if_false, Bool.false_eq_true, Bool.true_eq_false, reduceIte, decide_eq_true_eq, Bool.not_eq_true', decide_eq_false_iff_not]
      refine ⟨_, SqT.of upd_same, rfl, _, _, rfl, _, _, rfl, rfl, ?_⟩
      simp only [a_tVar, a_tC, a_tOp, a_tUn, a_rI, a_rI0, a_rU, a_rEq, a_rNe, a_tTest, a_tB, a_tIsN, a_tNotN, a_tChain, a_tAnd, a_tOr, a_tNot, a_tAndV, a_tOrV, a_tNotV, a_tYes, a_tNext, a_tSeq, a_tCont, a_tBreak, a_tDrop, a_tRet, a_tIfS, a_tNever, a_gName, a_gNil, a_gCons, a_gTup, a_tAsg, a_tNil, a_tCons, a_tTup, a_tLst, a_tCB, a_tCU, a_tMU, a_tFld, a_sFld, a_tSl, a_tNoPart, a_tPart, a_rSlL, a_rSlT, a_rIxL, a_rIxT, a_rCat, a_rRep, a_rCatT, a_tDGet, a_tDIn, a_tDNotIn, a_sDPut, a_tDPop1, a_tDNewK, a_tBM, a_rAppend, a_rExtend, a_iList, a_iEnum, a_iRng1, a_iRng2, a_iVals, a_iItems, a_iRng3, a_iStr, a_tMX, a_tXf, a_wAs, a_tRaise, a_tVeI, a_tOst, a_tMkO, a_tMake, a_rSum, a_rIsi, a_tChain3, a_tAugS, a_rGetL, a_rPutL, a_ipI, a_rSet, a_tCKw, a_rMinD, a_rMin, a_rIxS, a_rSlS, a_iTup, a_rIn, a_rEqD, a_rNeD, upd_same, HO.lst.injEq, HO.tup.injEq, HO.dK.injEq, HO.frz.injEq, a_s0, a_s1, a_s2, a_s3, a_s4, a_s5, a_s6, a_s8, a_scal, a_scals, a_tFor, a_tLc, a_tWhile, a_wipe0, a_wipe1, k_cxU, w_cxU, k_blk, w_blk, and_assoc, exists_and_left, exists_eq_left, exists_eq_left', exists_eq_right, exists_eq, exists_const, List.getElem?_cons_zero, List.getElem?_cons_succ, List.set_cons_zero, List.set_cons_succ, Option.some.injEq, V.int.injEq, V.bl.injEq, V.ref.injEq, V.str.injEq, List.cons.injEq, and_true, true_and, List.cons_append, List.nil_append, List.append_nil, L2.start, List.map_cons, List.map_nil, List.length_cons, List.length_nil, List.replicate, Nat.sub_self, Nat.reduceSub, Nat.reduceAdd, Nat.zero_add, if_true, if_false, Bool.false_eq_true, Bool.true_eq_false, reduceIte, decide_eq_true_eq, Bool.not_eq_true', decide_eq_false_iff_not]
      refine ⟨tyL g4, fun l hl' => ?_⟩
      have hlp : p ≠ l := ne_of_none g4 hl'
      refine ⟨by omega, by omega, sz _ (by omega), fun p1 hp1 => ⟨_, get_new (get_new g4 hl') hp1, sz _ ?_, ((s4.new hl').new hp1).put hp, ?_, ?_, _, rfl⟩⟩
      · simp
        have := z1
        omega
      · rw [er]
        simp
      · rw [er, List.length_append, List.length_replicate]
        omega
    · rintro σ H3 ⟨s3, g3, l3, u, v, rfl⟩
      rw [hl, List.take_length] at g3
      simp only [a_tVar, a_tC, a_tOp, a_tUn, a_rI, a_rI0, a_rU, a_rEq, a_rNe, a_tTest, a_tB, a_tIsN, a_tNotN, a_tChain, a_tAnd, a_tOr, a_tNot, a_tAndV, a_tOrV, a_tNotV, a_tYes, a_tNext, a_tSeq, a_tCont, a_tBreak, a_tDrop, a_tRet, a_tIfS, a_tNever, a_gName, a_gNil, a_gCons, a_gTup, a_tAsg, a_tNil, a_tCons, a_tTup, a_tLst, a_tCB, a_tCU, a_tMU, a_tFld, a_sFld, a_tSl, a_tNoPart, a_tPart, a_rSlL, a_rSlT, a_rIxL, a_rIxT, a_rCat, a_rRep, a_rCatT, a_tDGet, a_tDIn, a_tDNotIn, a_sDPut, a_tDPop1, a_tDNewK, a_tBM, a_rAppend, a_rExtend, a_iList, a_iEnum, a_iRng1, a_iRng2, a_iVals, a_iItems, a_iRng3, a_iStr, a_tMX, a_tXf, a_wAs, a_tRaise, a_tVeI, a_tOst, a_tMkO, a_tMake, a_rSum, a_rIsi, a_tChain3, a_tAugS, a_rGetL, a_rPutL, a_ipI, a_rSet, a_tCKw, a_rMinD, a_rMin, a_rIxS, a_rSlS, a_iTup, a_rIn, a_rEqD, a_rNeD, upd_same, HO.lst.injEq, HO.tup.injEq, HO.dK.injEq, HO.frz.injEq, a_s0, a_s1, a_s2, a_s3, a_s4, a_s5, a_s6, a_s8, a_scal, a_scals, a_tFor, a_tLc, a_tWhile, a_wipe0, a_wipe1, k_cxU, w_cxU, k_blk, w_blk, and_assoc, exists_and_left, exists_eq_left, exists_eq_left', exists_eq_right, exists_eq, exists_const, List.getElem?_cons_zero, List.getElem?_cons_succ, List.set_cons_zero, List.set_cons_succ, Option.some.injEq, V.int.injEq, V.bl.injEq, V.ref.injEq, V.str.injEq, List.cons.injEq, and_true, true_and, List.cons_append, List.nil_append, List.append_nil, L2.start, List.map_cons, List.map_nil, List.length_cons, List.length_nil, List.replicate, Nat.sub_self, Nat.reduceSub, Nat.reduceAdd, Nat.zero_add, if_true, if_false, Bool.false_eq_true, Bool.true_eq_false, reduceIte, decide_eq_true_eq, Bool.not_eq_true', decide_eq_false_iff_not]
      exact q _ _ _ s3 g3 hp rfl
def LnAt (K : PySem.W.Frag) (H : Hp) (v : V) (p : Str × (Int × Int × (Int × Int))) : Prop := ∃ a c : Addr, v = .ref a ∧ Tu K H a [.str p.1, .int p.2.1, .int p.2.2.1, .ref c] ∧ Tu K H c [.int p.2.2.2.1, .int p.2.2.2.2]
theorem LnAt.keep {H H' : Hp} {v : V} {p : Str × (Int × Int × (Int × Int))} (h : LnAt K H v p) (s : Tups H H') : LnAt K H' v p := let ⟨a, c, e, x, y⟩ := h; ⟨a, c, e, x.keep s, y.keep s⟩
def lineE (b : Bk Str) : List (Str × (Int × Int × (Int × Int))) := (waitingE b.es).map fun n => (n, (paper b.ladder b.risk b.es n).getD (0, 0, (0, 0)))
def sp_Book_line (K : PySem.W.Frag) : Sp := fun vs H Q _ => ∃ (al : List Str) (B : BA) (n : Nat) (b : Bk Str), vs = [.ref B.o] ∧ AlOk al ∧ BookAt K H B n b ∧ Ok al b ∧
  ∀ H' p us, Same H H' → H' p = some (.lst us) → H p = none → Paired (LnAt K H') us (lineE b) → Q (.ref p) H'
theorem sc_Book_line : FnScope ["self", "found", "name"] ["self"] (defScope s_Book_line) := ⟨rfl, rfl, rfl, by decide +kernel, rfl, by decide +kernel, by decide +kernel⟩
theorem g_Book_line (T : Txt K mg) : GM P w K mg base true CX0 6 (He.ga K "Book") "line" [] (sp_Book_line K) := by
  obtain ⟨fd, F⟩ := T.f_Book_line
  refine ⟨_, fd, ["self"], [], T.m_Book_line, F.bindsN (fun _ _ _ _ _ _ us hl => match us, hl with | [_], _ => rfl), .nil, okU F sc_Book_line (fun vs H Q E h => ?_) (fun cdv A outer s H vs Q E pl hr hh hw h => ⟨_, PSs.nox (pss_cons (ps_set (i := 1) sc_Book_line.nd rfl (by first | exact Or.inl rfl | exact Or.inr rfl) (pe_lst pa_nil))
      (pss_cons (psu_for PassesOwn.never hw (piu_list (pe_cu (g_waiting T) (hr.mono (by decide)) hw (fun z => Bool.noConfusion z) rfl (pa_cons (pe_fldK K (pv 0) rfl) pa_nil))) (pg_name (i := 2) sc_Book_line.nd rfl (by first | exact Or.inl rfl | exact Or.inr rfl)) (pss_one (ps_expr (pe_bm PySem.F.plainAttrs_list PySem.F.slot_list_append PySem.F.type_list_append mt_append (pv 1) (pa_cons (pe_op (op_catTK K) (pe_tup (pa_cons (pv 2) pa_nil)) (pe_cu (g_paper_of T) (hr.mono (by decide)) hw (fun z => Bool.noConfusion z) rfl (pa_cons (pe_fldK K (pv 0) rfl) (pa_cons (pv 2) (pa_cons (pe_fldK K (pv 0) rfl) (pa_cons (pe_fldK K (pv 0) rfl) pa_nil)))))) pa_nil)))))
      (pss_one (ps_ret (pv 1))))), ?_⟩)⟩
  · obtain ⟨al, B, n, b, rfl, _⟩ := h
    rfl
  · obtain ⟨al, B, n, b, rfl, h1, h2, h3, q⟩ := h
    obtain ⟨dx, hi⟩ := h2.ins
    obtain ⟨kvs, hk, he⟩ := h2.entries
    simp only [a_tVar, a_tC, a_tOp, a_tUn, a_rI, a_rI0, a_rU, a_rEq, a_rNe, a_tTest, a_tB, a_tIsN, a_tNotN, a_tChain, a_tAnd, a_tOr, a_tNot, a_tAndV, a_tOrV, a_tNotV, a_tYes, a_tNext, a_tSeq, a_tCont, a_tBreak, a_tDrop, a_tRet, a_tIfS, a_tNever, a_gName, a_gNil, a_gCons, a_gTup, a_tAsg, a_tNil, a_tCons, a_tTup, a_tLst, a_tCB, a_tCU, a_tMU, a_tFld, a_sFld, a_tSl, a_tNoPart, a_tPart, a_rSlL, a_rSlT, a_rIxL, a_rIxT, a_rCat, a_rRep, a_rCatT, a_tDGet, a_tDIn, a_tDNotIn, a_sDPut, a_tDPop1, a_tDNewK, a_tBM, a_rAppend, a_rExtend, a_iList, a_iEnum, a_iRng1, a_iRng2, a_iVals, a_iItems, a_iRng3, a_iStr, a_tMX, a_tXf, a_wAs, a_tRaise, a_tVeI, a_tOst, a_tMkO, a_tMake, a_rSum, a_rIsi, a_tChain3, a_tAugS, a_rGetL, a_rPutL, a_ipI, a_rSet, a_tCKw, a_rMinD, a_rMin, a_rIxS, a_rSlS, a_iTup, a_rIn, a_rEqD, a_rNeD, upd_same, HO.lst.injEq, HO.tup.injEq, HO.dK.injEq, HO.frz.injEq, a_s0, a_s1, a_s2, a_s3, a_s4, a_s5, a_s6, a_s8, a_scal, a_scals, a_tFor, a_tLc, a_tWhile, a_wipe0, a_wipe1, k_cxU, w_cxU, k_blk, w_blk, and_assoc, exists_and_left, exists_eq_left, exists_eq_left', exists_eq_right, exists_eq, exists_const, List.getElem?_cons_zero, List.getElem?_cons_succ, List.set_cons_zero, List.set_cons_succ, Option.some.injEq, V.int.injEq, V.bl.injEq, V.ref.injEq, V.str.injEq, List.cons.injEq, and_true, true_and, List.cons_append, List.nil_append, List.append_nil, L2.start, List.map_cons, List.map_nil, List.length_cons, List.length_nil, List.replicate, Nat.sub_self, Nat.reduceSub, Nat.reduceAdd, Nat.zero_add, if_true, if_false, Bool.false_eq_true, Bool.true_eq_false, reduceIte, decide_eq_true_eq, Bool.not_eq_true', decide_eq_false_iff_not]
    intro p hp
    have s0 := (Same.rfl' (H := H)).new hp (o := .lst [])
    have el := es_le h3.pre
    have al15 := h1.len
    refine ⟨_, _, _, s0 _ _ hi, T.c_Book, T.a_Book_entries, _, rfl, B.d, kvs, b.es, rfl, s0 _ _ hk, EsAt.keep he s0.tups, h3.pre.good.nd, by omega, fun H1 pw s1 hpw nw => ?_⟩
    have s01 := s0.tr s1
    refine ⟨pw, rfl, ⟨_, SqL.of hpw⟩, ?_⟩
    have gp1 : H1 p = some (.lst []) := s1 _ _ upd_same
    have hpp : pw ≠ p := fun e => by rw [e, upd_same] at nw; cases nw
    have wlen : (waitingE b.es).length ≤ 15 := by
      have : (waitingE b.es).length ≤ b.es.length := by
        unfold waitingE
        rw [List.length_map]
        exact List.length_filter_le ..
      omega
    refine for_go (walk_list (xs := (waitingE b.es).map V.str)) (fun i σ H' => Same H H' ∧ H' pw = some (.lst ((waitingE b.es).map V.str)) ∧ ∃ us u, σ = [some (.ref B.o), some (.ref p), u] ∧ H' p = some (.lst us) ∧ us.length = i ∧ Paired (LnAt K H') us ((lineE b).take i)) ⟨s01, hpw, [], none, rfl, gp1, rfl, .nil⟩ (fun i σ H' _ h => SqL.of h.2.1) ?_ ?_
    · rintro i y σ H3 H4 hi' ⟨s3, g3, us, u, rfl, g4, ul, pu⟩ ⟨rfl, e4⟩
      rw [List.length_map] at hi'
      rw [List.getElem?_map] at e4
      cases ew : (waitingE b.es)[i]? with
      | none => rw [ew] at e4; cases e4
      | some nm =>
      rw [ew] at e4
      cases e4
      have wm := List.mem_of_getElem? ew
      obtain ⟨e, hem, _⟩ := mem_by wm
      have hg := mem_getE h3.pre.good.nd hem
      have hpn := paper_stab h3 wm
      simp only [a_tVar, a_tC, a_tOp, a_tUn, a_rI, a_rI0, a_rU, a_rEq, a_rNe, a_tTest, a_tB, a_tIsN, a_tNotN, a_tChain, a_tAnd, a_tOr, a_tNot, a_tAndV, a_tOrV, a_tNotV, a_tYes, a_tNext, a_tSeq, a_tCont, a_tBreak, a_tDrop, a_tRet, a_tIfS, a_tNever, a_gName, a_gNil, a_gCons, a_gTup, a_tAsg, a_tNil, a_tCons, a_tTup, a_tLst, a_tCB, a_tCU, a_tMU, a_tFld, a_sFld, a_tSl, a_tNoPart, a_tPart, a_rSlL, a_rSlT, a_rIxL, a_rIxT, a_rCat, a_rRep, a_rCatT, a_tDGet, a_tDIn, a_tDNotIn, a_sDPut, a_tDPop1, a_tDNewK, a_tBM, a_rAppend, a_rExtend, a_iList, a_iEnum, a_iRng1, a_iRng2, a_iVals, a_iItems, a_iRng3, a_iStr, a_tMX, a_tXf, a_wAs, a_tRaise, a_tVeI, a_tOst, a_tMkO, a_tMake, a_rSum, a_rIsi, a_tChain3, a_tAugS, a_rGetL, a_rPutL, a_ipI, a_rSet, a_tCKw, a_rMinD, a_rMin, a_rIxS, a_rSlS, a_iTup, a_rIn, a_rEqD, a_rNeD, upd_same, HO.lst.injEq, HO.tup.injEq, HO.dK.injEq, HO.frz.injEq, a_s0, a_s1, a_s2, a_s3, a_s4, a_s5, a_s6, a_s8, a_scal, a_scals, a_tFor, a_tLc, a_tWhile, a_wipe0, a_wipe1, k_cxU, w_cxU, k_blk, w_blk, and_assoc, exists_and_left, exists_eq_left, exists_eq_left', exists_eq_right, exists_eq, exists_const, List.getElem?_cons_zero, List.getElem?_cons_succ, List.set_cons_zero, List.set_cons_succ, Option.some.injEq, V.int.injEq, V.bl.injEq, V.ref.injEq, V.str.injEq, List.cons.injEq, and_true, true_and, List.cons_append, List.nil_append, List.append_nil, L2.start, List.map_cons, List.map_nil, List.length_cons, List.length_nil, List.replicate, Nat.sub_self, Nat.reduceSub, Nat.reduceAdd, Nat.zero_add, if_true, if_false, Bool.false_eq_true, Bool.true_eq_false, reduceIte, decide_eq_true_eq, Bool.not_eq_true', decide_eq_false_iff_not]
      refine ⟨tyL g4, fun t ht => ?_⟩
      have s4 := s3.new ht (o := .tup [.str nm])
      refine ⟨_, _, _, s4 _ _ hi, T.c_Book, T.a_Book_entries, _, rfl, _, _, _, s4 _ _ hi, T.c_Book, T.a_Book_ladder, _, rfl, _, _, _, s4 _ _ hi, T.c_Book, T.a_Book_risk, _, rfl, ?_⟩
      refine ⟨B.d, B.ld, B.rk, nm, kvs, b.es, b.ladder, b.risk, e, rfl, s4 _ _ hk, EsAt.keep he s4.tups, by omega, (good4 (by have := h3.pre.l4; omega) h3.pre.good).ok, hg, SqL.of (s4 _ _ h2.ladder), h3.pre.ln, h2.risk.keep s4.tups, h3.pre.r0, h3.pre.r1, h3.pre.r9, fun H5 v s5 pa => ?_⟩
      cases ep : paper b.ladder b.risk b.es nm with
      | none => exact absurd ep hpn
      | some pp =>
      rw [ep] at pa
      obtain ⟨a1, c1, rfl, ta, tc⟩ := pa
      have t5 : Tu K H5 t [.str nm] := .inl (s5 _ _ upd_same)
      refine ⟨a1, rfl, _, t5.sq, _, ta.sq, by simp, sz _ (by simp), fun z => absurd z (by simp), fun _ r hr => ?_⟩
      have s6 := (s4.tr s5).new hr (o := .tup ([.str nm] ++ [.int pp.1, .int pp.2.1, .ref c1]))
      have g6 := get_new (s5 _ _ (get_new g4 ht)) hr (o := .tup ([.str nm] ++ [.int pp.1, .int pp.2.1, .ref c1]))
      have tp1 : Tups H4 (upd H5 r (.tup ([.str nm] ++ [.int pp.1, .int pp.2.1, .ref c1]))) := ((Same.rfl'.new ht).tr (s5.new hr)).tups
      have tp2 := tups_put (o := .lst (us ++ [.ref r])) g6 (fun _ z => nomatch z)
      have el : (lineE b)[i]? = some (nm, pp) := by
        unfold lineE
        rw [List.getElem?_map, ew]
        simp [ep]
      refine ⟨_, g6, szl _ (by omega), s6.put hp, ?_, by simp [ul], ?_⟩
      · rw [upd_ne hpp]
        exact get_new (s5 _ _ (get_new g3 ht)) hr
      · rw [take_snoc el]
        exact paired_snoc (Paired.mapP pu fun _ _ q => q.keep (tp1.tr tp2)) ⟨r, c1, rfl, .inl (tp2 _ _ upd_same), (tc.keep (Same.rfl'.new hr).tups).keep tp2⟩
    · rintro σ H3 ⟨s3, g3, us, u, rfl, g4, ul, pu⟩
      rw [List.length_map] at pu
      rw [List.take_of_length_le (by unfold lineE; rw [List.length_map]; exact Nat.le_refl _)] at pu
      simp only [a_tVar, a_tC, a_tOp, a_tUn, a_rI, a_rI0, a_rU, a_rEq, a_rNe, a_tTest, a_tB, a_tIsN, a_tNotN, a_tChain, a_tAnd, a_tOr, a_tNot, a_tAndV, a_tOrV, a_tNotV, a_tYes, a_tNext, a_tSeq, a_tCont, a_tBreak, a_tDrop, a_tRet, a_tIfS, a_tNever, a_gName, a_gNil, a_gCons, a_gTup, a_tAsg, a_tNil, a_tCons, a_tTup, a_tLst, a_tCB, a_tCU, a_tMU, a_tFld, a_sFld, a_tSl, a_tNoPart, a_tPart, a_rSlL, a_rSlT, a_rIxL, a_rIxT, a_rCat, a_rRep, a_rCatT, a_tDGet, a_tDIn, a_tDNotIn, a_sDPut, a_tDPop1, a_tDNewK, a_tBM, a_rAppend, a_rExtend, a_iList, a_iEnum, a_iRng1, a_iRng2, a_iVals, a_iItems, a_iRng3, a_iStr, a_tMX, a_tXf, a_wAs, a_tRaise, a_tVeI, a_tOst, a_tMkO, a_tMake, a_rSum, a_rIsi, a_tChain3, a_tAugS, a_rGetL, a_rPutL, a_ipI, a_rSet, a_tCKw, a_rMinD, a_rMin, a_rIxS, a_rSlS, a_iTup, a_rIn, a_rEqD, a_rNeD, upd_same, HO.lst.injEq, HO.tup.injEq, HO.dK.injEq, HO.frz.injEq, a_s0, a_s1, a_s2, a_s3, a_s4, a_s5, a_s6, a_s8, a_scal, a_scals, a_tFor, a_tLc, a_tWhile, a_wipe0, a_wipe1, k_cxU, w_cxU, k_blk, w_blk, and_assoc, exists_and_left, exists_eq_left, exists_eq_left', exists_eq_right, exists_eq, exists_const, List.getElem?_cons_zero, List.getElem?_cons_succ, List.set_cons_zero, List.set_cons_succ, Option.some.injEq, V.int.injEq, V.bl.injEq, V.ref.injEq, V.str.injEq, List.cons.injEq, and_true, true_and, List.cons_append, List.nil_append, List.append_nil, L2.start, List.map_cons, List.map_nil, List.length_cons, List.length_nil, List.replicate, Nat.sub_self, Nat.reduceSub, Nat.reduceAdd, Nat.zero_add, if_true, if_false, Bool.false_eq_true, Bool.true_eq_false, reduceIte, decide_eq_true_eq, Bool.not_eq_true', decide_eq_false_iff_not]
      exact q _ _ _ s3 g4 hp pu
end
end Nb
end
section
set_option Elab.async false
set_option linter.all false
set_option maxRecDepth 100000
set_option maxHeartbeats 4000000
namespace Nb
open PySem PySem.Spec PyProof.Rows L2 NbU NbM
section
variable {P : Program} {w : World} {K : PySem.W.Frag} {mg : Str → Option Value} {base : Heap} {H H' : Hp} {B : BA} {n n' : Nat} {b : Bk Str}
theorem put_snoc {β : Type} {l : List (Str × β)} {k : Str} {v v' : β} (h : k ∉ keysE l) : putE (l ++ [(k, v)]) k v' = l ++ [(k, v')] := by
  have hm : k ∈ keysE (l ++ [(k, v)]) := by unfold keysE; simp
  rw [putE_of_mem hm, List.map_append]
  have : l.map (fun p => if p.1 = k then (p.1, v') else p) = l := by
    have e : l.map (fun p => if p.1 = k then (p.1, v') else p) = l.map id := List.map_congr_left fun p hp => if_neg fun z => h (List.mem_map.mpr ⟨p, hp, z⟩)
    rw [e, List.map_id]
  rw [this]
  simp
/-! ### wish -/
def sp_Book_wish (K : PySem.W.Frag) : Sp := fun vs H Q _ => ∃ (B : BA) (n : Nat) (b : Bk Str) (nm : Str) (k f bh : Int) (c : Addr) (ch : Int × Int), vs = [.ref B.o, .str nm, .int k, .int f, .int bh, .ref c] ∧ Tu K H c [.int ch.1, .int ch.2] ∧ Int.gcd ch.1 ch.2 = 1 ∧ DoesAt K H (.wish nm k f bh ch) B n b Q
theorem sc_Book_wish : FnScope ["self", "name", "kind", "first", "behind", "chance"] ["self", "name", "kind", "first", "behind", "chance"] (defScope s_Book_wish) := ⟨rfl, rfl, rfl, by decide +kernel, rfl, by decide +kernel, by decide +kernel⟩
theorem g_Book_wish (T : Txt K mg) : GM P w K mg base true CX0 6 (He.ga K "Book") "wish" [] (sp_Book_wish K) := by
  obtain ⟨fd, F⟩ := T.f_Book_wish
  obtain ⟨ds, hd, hb⟩ := F.binds1 (ps := ["self", "name", "kind", "first", "behind", "chance"]) 6 1 (List.cons_ne_nil _ _) rfl (fun T kV doc pm an cdv ct us its h1 h2 => match us, its, h1, h2 with | [_, _, _, _, _, _], [_], _, _ => ⟨_, rfl, rfl⟩)
  refine ⟨_, fd, ["self", "name", "kind", "first", "behind", "chance"], ds, T.m_Book_wish, hb, hd, okU F sc_Book_wish (fun vs H Q E h => ?_) (fun cdv A outer s H vs Q E pl hr hh hw h => ⟨_, PSs.nox (pss_cons (ps_if (pt_cmp (pc_isN (pv 5))) (pss_one (ps_set (i := 5) sc_Book_wish.nd rfl (by first | exact Or.inl rfl | exact Or.inr rfl) (pe_glob (v := .ref (He.ga K "SURE")) rfl T.g_SURE rfl))) pss_nil)
      (pss_cons (ps_expr (pe_mu (pv 0) T.c_Book (g_Book_check_wish T) (hr.mono (by decide)) hw (fun _ => hh rfl) (pa_cons (pv 1) (pa_cons (pv 2) (pa_cons (pv 3) (pa_cons (pv 4) (pa_cons (pv 5) pa_nil)))))))
      (pss_cons (ps_dput (huU hr) (pe_fldK K (pv 0) rfl) (pv 1) (pe_tup (pa_cons pe_str (pa_cons (pv 2) (pa_cons (pv 3) (pa_cons (pv 4) (pa_cons (pv 5) pa_nil)))))) rfl)
      (pss_cons (ps_if (pt_cmp (pc_notN (pe_cu (g_paper_of T) (hr.mono (by decide)) hw (fun z => Bool.noConfusion z) rfl (pa_cons (pe_fldK K (pv 0) rfl) (pa_cons (pv 1) (pa_cons (pe_fldK K (pv 0) rfl) (pa_cons (pe_fldK K (pv 0) rfl) pa_nil))))))) (pss_cons (ps_expr (pe_mu (pv 0) T.c_Book (g_Book_note T) (hr.mono (by decide)) hw (fun z => Bool.noConfusion z) (pa_cons pe_str (pa_cons (pv 1) pa_nil))))
      (pss_one (ps_ret pe_bl))) pss_nil)
      (pss_cons (ps_dput (huU hr) (pe_fldK K (pv 0) rfl) (pv 1) (pe_tup (pa_cons pe_str (pa_cons (pv 2) (pa_cons (pv 3) (pa_cons (pv 4) (pa_cons (pv 5) pa_nil)))))) rfl)
      (pss_cons (ps_expr (pe_mu (pv 0) T.c_Book (g_Book_note T) (hr.mono (by decide)) hw (fun z => Bool.noConfusion z) (pa_cons pe_str (pa_cons (pv 1) pa_nil))))
      (pss_one (ps_ret pe_bl)))))))), ?_⟩)⟩
  · obtain ⟨B, n, b, nm, k, f, bh, c, ch, rfl, _⟩ := h
    rfl
  · obtain ⟨B, n, b, nm, k, f, bh, c, ch, rfl, tc, gc, ⟨al, a1, a2, a3⟩, h2, h3, q⟩ := h
    obtain ⟨dx, hi⟩ := h2.ins
    obtain ⟨kvs, hk, he⟩ := h2.entries
    simp only [a_tVar, a_tC, a_tOp, a_tUn, a_rI, a_rI0, a_rU, a_rEq, a_rNe, a_tTest, a_tB, a_tIsN, a_tNotN, a_tChain, a_tAnd, a_tOr, a_tNot, a_tAndV, a_tOrV, a_tNotV, a_tYes, a_tNext, a_tSeq, a_tCont, a_tBreak, a_tDrop, a_tRet, a_tIfS, a_tNever, a_gName, a_gNil, a_gCons, a_gTup, a_tAsg, a_tNil, a_tCons, a_tTup, a_tLst, a_tCB, a_tCU, a_tMU, a_tFld, a_sFld, a_tSl, a_tNoPart, a_tPart, a_rSlL, a_rSlT, a_rIxL, a_rIxT, a_rCat, a_rRep, a_rCatT, a_tDGet, a_tDIn, a_tDNotIn, a_sDPut, a_tDPop1, a_tDNewK, a_tBM, a_rAppend, a_rExtend, a_iList, a_iEnum, a_iRng1, a_iRng2, a_iVals, a_iItems, a_iRng3, a_iStr, a_tMX, a_tXf, a_wAs, a_tRaise, a_tVeI, a_tOst, a_tMkO, a_tMake, a_rSum, a_rIsi, a_tChain3, a_tAugS, a_rGetL, a_rPutL, a_ipI, a_rSet, a_tCKw, a_rMinD, a_rMin, a_rIxS, a_rSlS, a_iTup, a_rIn, a_rEqD, a_rNeD, upd_same, HO.lst.injEq, HO.tup.injEq, HO.dK.injEq, HO.frz.injEq, a_s0, a_s1, a_s2, a_s3, a_s4, a_s5, a_s6, a_s8, a_scal, a_scals, a_tFor, a_tLc, a_tWhile, a_wipe0, a_wipe1, k_cxU, w_cxU, k_blk, w_blk, and_assoc, exists_and_left, exists_eq_left, exists_eq_left', exists_eq_right, exists_eq, exists_const, List.getElem?_cons_zero, List.getElem?_cons_succ, List.set_cons_zero, List.set_cons_succ, Option.some.injEq, V.int.injEq, V.bl.injEq, V.ref.injEq, V.str.injEq, List.cons.injEq, and_true, true_and, List.cons_append, List.nil_append, List.append_nil, L2.start, List.map_cons, List.map_nil, List.length_cons, List.length_nil, List.replicate, Nat.sub_self, Nat.reduceSub, Nat.reduceAdd, Nat.zero_add, if_true, if_false, Bool.false_eq_true, Bool.true_eq_false, reduceIte, decide_eq_true_eq, Bool.not_eq_true', decide_eq_false_iff_not]
    obtain ⟨w1, w2, w3, w4⟩ := id a3
    have hg0 : getE b.es nm = none := getE_none_of w2
    have el := es_le a2.pre
    have al15 := a1.len
    have kl := Paired.length he
    rw [if_neg (fun z => V.noConfusion z)]
    refine ⟨_, _, hi, rfl, al, B, n, b, nm, k, f, bh, c, ch, rfl, a1, h2, a2, a3, tc, gc, fun H1 s1 => fun p hp => ?_⟩
    have s1p := s1.new hp (o := .tup [.str "waits", .int k, .int f, .int bh, .ref c])
    have k1 := s1p _ _ hk
    have f1 : Fr [B.d] H _ := (s1p.fr [B.d]).put (List.mem_singleton.mpr rfl) k1 (o := .dK (putK kvs (Sum.inr nm) (.ref p))) (fun _ z => nomatch z)
    have tp1 := tups_put (o := .dK (putK kvs (Sum.inr nm) (.ref p))) k1 (fun _ z => nomatch z)
    have ee : putE b.es nm (newE k f bh ch .waits) = b.es ++ [(nm, newE k f bh ch .waits)] := putE_of_not w2
    have E1 : EsAt K (upd (upd H1 p (.tup [.str "waits", .int k, .int f, .int bh, .ref c])) B.d (.dK (putK kvs (Sum.inr nm) (.ref p)))) (putK kvs (Sum.inr nm) (.ref p)) (b.es ++ [(nm, newE k f bh ch .waits)]) := by
      rw [← ee]
      exact EsAt.keep (KvAt.put (EsAt.keep he s1p.tups) ⟨p, c, rfl, .inl upd_same, tc.keep s1p.tups⟩) tp1
    have b1 := h2.ens f1 upd_same E1
    refine ⟨_, _, _, s1p _ _ hi, T.c_Book, T.a_Book_entries, _, rfl, _, rfl, _, DPut.k (k := Sum.inr nm) k1 (szl _ (by omega)), ?_⟩
    obtain ⟨dx1, hi1⟩ := b1.ins
    have P1 := pre_snoc a2.pre w1 w2 w3 (by exact fun z => nomatch z) w4
    have g1 : getE (b.es ++ [(nm, newE k f bh ch .waits)]) nm = some (newE k f bh ch .waits) := mem_getE P1.good.nd (by simp)
    have l1 : (b.es ++ [(nm, newE k f bh ch .waits)]).length ≤ 40 := by simp; omega
    refine ⟨_, _, _, hi1, T.c_Book, T.a_Book_entries, _, rfl, _, _, _, hi1, T.c_Book, T.a_Book_ladder, _, rfl, _, _, _, hi1, T.c_Book, T.a_Book_risk, _, rfl, ?_⟩
    refine ⟨B.d, B.ld, B.rk, nm, _, _, b.ladder, b.risk, _, rfl, upd_same, E1, l1, (good4 (by have := a2.pre.l4; exact_mod_cast this) P1.good).ok, g1, SqL.of b1.ladder, a2.pre.ln, b1.risk, a2.pre.r0, a2.pre.r1, a2.pre.r9, fun H2 v s2 pa => ?_⟩
    have b2 := b1.same s2
    obtain ⟨dx2, hi2⟩ := b2.ins
    have ed : doB b (.wish nm k f bh ch) = if paper b.ladder b.risk (b.es ++ [(nm, newE k f bh ch .waits)]) nm = none then ({ b with es := b.es ++ [(nm, newE k f bh ch .taken)] }, .yes true) else ({ b with es := b.es ++ [(nm, newE k f bh ch .waits)] }, .yes false) := rfl
    rw [ed] at q
    cases ep : paper b.ladder b.risk (b.es ++ [(nm, newE k f bh ch .waits)]) nm with
    | some pp =>
      rw [ep] at pa
      obtain ⟨a5, c5, rfl, _⟩ := pa
      rw [if_neg (by rw [ep]; exact fun z => nomatch z)] at q
      dsimp only
      rw [if_pos (show ¬ V.ref a5 = V.non from fun z => V.noConfusion z)]
      refine ⟨_, _, hi2, rfl, B, n, _, _, _, rfl, b2, by omega, fun H3 f3 b3 => ?_⟩
      exact q _ _ (((f1.mono (by simp [BA.fp])).tr (s2.fr _)).tr (f3.mono (by simp [BA.fp]))) (b3.up (by omega)) rfl
    | none =>
      rw [ep] at pa
      have pa : v = .non := pa
      rw [if_pos ep] at q
      subst pa
      dsimp only
      rw [if_neg (fun z => z rfl)]
      intro t ht
      have s3 := (Same.rfl' (H := H2)).new ht (o := .tup [.str "taken", .int k, .int f, .int bh, .ref c])
      have b3 := b2.same s3
      obtain ⟨kvs3, k3, e3⟩ := b3.entries
      obtain ⟨dx3, hi3⟩ := b3.ins
      have kl3 := Paired.length e3
      have f3 : Fr [B.d] _ _ := (Fr.rfl' (fp := [B.d])).put (List.mem_singleton.mpr rfl) k3 (o := .dK (putK kvs3 (Sum.inr nm) (.ref t))) (fun _ z => nomatch z)
      have tp3 := tups_put (o := .dK (putK kvs3 (Sum.inr nm) (.ref t))) k3 (fun _ z => nomatch z)
      have ee3 : putE (b.es ++ [(nm, newE k f bh ch .waits)]) nm (newE k f bh ch .taken) = b.es ++ [(nm, newE k f bh ch .taken)] := put_snoc w2
      have tc3 : Tu K _ c [.int ch.1, .int ch.2] := ((tc.keep f1.tups).keep s2.tups).keep s3.tups
      have E3 := EsAt.keep (KvAt.put e3 (n := nm) (v := .ref t) (e := newE k f bh ch .taken) ⟨t, c, rfl, .inl upd_same, tc3⟩) tp3
      have E3 : EsAt K _ _ (putE (b.es ++ [(nm, newE k f bh ch .waits)]) nm (newE k f bh ch .taken)) := E3
      rw [ee3] at E3
      have b4 := b3.ens f3 upd_same E3
      refine ⟨_, _, _, hi3, T.c_Book, T.a_Book_entries, _, rfl, _, rfl, _, DPut.k (k := Sum.inr nm) k3 (szl _ (by have z : kvs3.length = (b.es ++ [(nm, newE k f bh ch .waits)]).length := kl3; omega)), ?_⟩
      obtain ⟨dx4, hi4⟩ := b4.ins
      refine ⟨_, _, hi4, rfl, B, n, _, _, _, rfl, b4, by omega, fun H5 f5 b5 => ?_⟩
      exact q _ _ (((((f1.mono (by simp [BA.fp])).tr (s2.fr _)).tr (s3.fr _)).tr (f3.mono (by simp [BA.fp]))).tr (f5.mono (by simp [BA.fp]))) (b5.up (by omega)) rfl
theorem putF_lt {f : Str} {v : V} {fs : List (Str × V)} {m : Nat} (h : fs.length ≤ m) : (putF f v fs).length ≤ m + 1 := Nat.le_trans (putF_len f v fs) (by omega)
theorem frT {a ho : Addr} {H H1 H2 : Hp} (f : Fr [a] H H1) (g : Fr [ho] H1 H2) (h : H ho = none) : Fr [a] H H2 :=
  ⟨fun b o e nb => g.keep _ _ (f.keep _ _ e nb) (fun z => by rw [List.mem_singleton.mp z, h] at e; cases e), f.tups.tr g.tups⟩
theorem ins_nt {C dx : Addr} {fs : List (Str × V)} (xs : List V) : HO.ins C dx fs ≠ .tup xs := fun z => nomatch z
theorem book_tail {H2 : Hp} {a d e C dx : Addr} {f0 f3 f4 f5 f6 : List (Str × V)} (a2 : H2 a = some (.ins C dx f0)) (hd : upd H2 a (.ins C dx f3) d = none) (he : upd (upd (upd (upd H2 a (.ins C dx f3)) d (.dK [])) a (.ins C dx f4)) a (.ins C dx f5) e = none) :
    Fr [a] H2 (upd (upd (upd (upd (upd (upd H2 a (.ins C dx f3)) d (.dK [])) a (.ins C dx f4)) a (.ins C dx f5)) e (.lst [])) a (.ins C dx f6)) ∧
    upd (upd (upd (upd (upd (upd H2 a (.ins C dx f3)) d (.dK [])) a (.ins C dx f4)) a (.ins C dx f5)) e (.lst [])) a (.ins C dx f6) d = some (.dK []) ∧
    upd (upd (upd (upd (upd (upd H2 a (.ins C dx f3)) d (.dK [])) a (.ins C dx f4)) a (.ins C dx f5)) e (.lst [])) a (.ins C dx f6) e = some (.lst []) ∧ H2 d = none ∧ H2 e = none ∧ d ≠ a ∧ e ≠ a ∧ e ≠ d := by
  have ma : a ∈ [a] := List.mem_singleton.mpr rfl
  obtain ⟨da, d0⟩ := none_upd hd
  obtain ⟨ea, e1⟩ := none_upd he
  obtain ⟨_, e2⟩ := none_upd e1
  obtain ⟨ed, e3⟩ := none_upd e2
  obtain ⟨_, e0⟩ := none_upd e3
  refine ⟨?_, ?_, ?_, d0, e0, da, ea, ed⟩
  · exact ((((((Fr.rfl'.put ma a2 ins_nt).new hd).put ma (get_new upd_same hd) ins_nt).put ma upd_same ins_nt).new he).put ma (get_new upd_same he) ins_nt)
  · rw [upd_ne da, upd_ne (Ne.symm ed), upd_ne da, upd_ne da, upd_same]
  · rw [upd_ne ea, upd_same]
/-! ### Book -/
def BookNew (K : PySem.W.Frag) (H H' : Hp) (B : BA) (ev : Bk Str) : Prop := BookAt K H' B 0 ev ∧ ∀ x ∈ B.all, x ≠ B.o → H x = none
def sp_Book__init_ (K : PySem.W.Frag) : Sp := fun vs H Q _ => ∃ (a l r dx : Addr) (lad : List Int) (risk : Int × Int), vs = [.ref a, .ref l, .ref r] ∧ H l = some (.lst (IL lad)) ∧ H a = some (.ins (CB K) dx []) ∧ Tu K H r [.int risk.1, .int risk.2] ∧
  1 ≤ lad.length ∧ lad.length ≤ 4 ∧ (∀ x ∈ lad, 0 ≤ x) ∧ lad.sum ≤ 12 ∧ 0 ≤ risk.1 ∧ risk.1 ≤ risk.2 ∧ 1 ≤ risk.2 ∧ risk.2 ≤ 1000000000 ∧ Int.gcd risk.1 risk.2 = 1 ∧
  ∀ H' B, B.o = a → Fr [a] H H' → (∀ x ∈ B.all, x ≠ a → H x = none) → BookAt K H' B 0 ⟨lad, risk, [], 0, ⟨roomsOf lad, [], []⟩⟩ → Q .non H'
theorem sc_Book__init_ : FnScope ["self", "ladder", "risk"] ["self", "ladder", "risk"] (defScope s_Book__init_) := ⟨rfl, rfl, rfl, by decide +kernel, rfl, by decide +kernel, by decide +kernel⟩
theorem g_Book__init_ (T : Txt K mg) : GI P w K mg base true 4 (He.ga K "Book") (sp_Book__init_ K) := by
  obtain ⟨fd, F⟩ := T.f_Book__init_
  refine ⟨fd, ["self", "ladder", "risk"], [], F.bindsN (fun _ _ _ _ _ _ us hl => match us, hl with | [_, _, _], _ => rfl), .nil, okU F sc_Book__init_ (fun vs H Q E h => ?_) (fun cdv A outer s H vs Q E pl hr hh hw h => ⟨_, PSs.nox (pss_cons (ps_if (PW.pt (pw_or (pt_not (pt_val (pe_cu (g_is_ladder T) (hr.mono (by decide)) hw (fun _ => hh rfl) rfl (pa_cons (pv 1) pa_nil)))) (pw_or (pt_not (pt_val (pe_cu (g_is_chance T) (hr.mono (by decide)) hw (fun _ => hh rfl) rfl (pa_cons (pv 2) pa_nil)))) (pw_or1 (pt_cmpR (op_gt) (pe_ix (ix_tupK K) (pv 2) pe_int (fun _ _ => rfl)) (pg_int T.i_FINEST_RISK) (nomark _)))))) pss_never pss_nil)
      (pss_cons (ps_fld (pv 0) (pe_callTy call_list_of rfl T.n_list boot_list (pa_cons (pv 1) pa_nil)) rfl)
      (pss_cons (ps_fld (pv 0) (pv 2) rfl)
      (pss_cons (ps_fld (pv 0) (pe_mkU T.k_House (g_House__init_ T) (hr.mono (by decide)) (hh rfl) rfl T.g_House (pa_cons (pe_cu (g_rooms_of T) (hr.mono (by decide)) hw (fun _ => hh rfl) rfl (pa_cons (pv 1) pa_nil)) pa_nil)) rfl)
      (pss_cons (ps_fld (pv 0) pe_dnewK rfl)
      (pss_cons (ps_fld (pv 0) pe_int rfl)
      (pss_one (ps_fld (pv 0) (pe_lst pa_nil) rfl)))))))), ?_⟩)⟩
  · obtain ⟨a, l, r, dx, lad, risk, rfl, _⟩ := h
    rfl
  · obtain ⟨a, l, r, dx, lad, risk, rfl, h1, h2, h3, k1, k2, k3, k4, r0, r1, r2, r9, rg, q⟩ := h
    simp only [a_tVar, a_tC, a_tOp, a_tUn, a_rI, a_rI0, a_rU, a_rEq, a_rNe, a_tTest, a_tB, a_tIsN, a_tNotN, a_tChain, a_tAnd, a_tOr, a_tNot, a_tAndV, a_tOrV, a_tNotV, a_tYes, a_tNext, a_tSeq, a_tCont, a_tBreak, a_tDrop, a_tRet, a_tIfS, a_tNever, a_gName, a_gNil, a_gCons, a_gTup, a_tAsg, a_tNil, a_tCons, a_tTup, a_tLst, a_tCB, a_tCU, a_tMU, a_tFld, a_sFld, a_tSl, a_tNoPart, a_tPart, a_rSlL, a_rSlT, a_rIxL, a_rIxT, a_rCat, a_rRep, a_rCatT, a_tDGet, a_tDIn, a_tDNotIn, a_sDPut, a_tDPop1, a_tDNewK, a_tBM, a_rAppend, a_rExtend, a_iList, a_iEnum, a_iRng1, a_iRng2, a_iVals, a_iItems, a_iRng3, a_iStr, a_tMX, a_tXf, a_wAs, a_tRaise, a_tVeI, a_tOst, a_tMkO, a_tMake, a_rSum, a_rIsi, a_tChain3, a_tAugS, a_rGetL, a_rPutL, a_ipI, a_rSet, a_tCKw, a_rMinD, a_rMin, a_rIxS, a_rSlS, a_iTup, a_rIn, a_rEqD, a_rNeD, upd_same, HO.lst.injEq, HO.tup.injEq, HO.dK.injEq, HO.frz.injEq, a_s0, a_s1, a_s2, a_s3, a_s4, a_s5, a_s6, a_s8, a_scal, a_scals, a_tFor, a_tLc, a_tWhile, a_wipe0, a_wipe1, k_cxU, w_cxU, k_blk, w_blk, and_assoc, exists_and_left, exists_eq_left, exists_eq_left', exists_eq_right, exists_eq, exists_const, List.getElem?_cons_zero, List.getElem?_cons_succ, List.set_cons_zero, List.set_cons_succ, Option.some.injEq, V.int.injEq, V.bl.injEq, V.ref.injEq, V.str.injEq, List.cons.injEq, and_true, true_and, List.cons_append, List.nil_append, List.append_nil, L2.start, List.map_cons, List.map_nil, List.length_cons, List.length_nil, List.replicate, Nat.sub_self, Nat.reduceSub, Nat.reduceAdd, Nat.zero_add, if_true, if_false, Bool.false_eq_true, Bool.true_eq_false, reduceIte, decide_eq_true_eq, Bool.not_eq_true', decide_eq_false_iff_not]
    refine ⟨l, lad, rfl, h1, k1, k2, k3, k4, true, rfl, ?_⟩
    rw [if_neg (fun z => Bool.noConfusion z)]
    refine ⟨r, risk, rfl, h3, r0, r1, r2, rg, true, rfl, ?_⟩
    rw [if_neg (fun z => Bool.noConfusion z)]
    refine ⟨_, h3.sq, .int risk.2, atI_n 1 rfl rfl, _, rfl, ?_⟩
    rw [if_neg (by omega)]
    refine ⟨_, .inl (SqL.of h1), fun x1 hx1 => ⟨CB K, dx, [], get_new h2 hx1, T.c_Book, T.a_Book_ladder, by simp, _, _, _, rfl, T.c_Book, T.a_Book_risk, ?_, ?_⟩⟩
    · have := putF_len "ladder" (V.ref x1) []
      simp at this; omega
    · have pl := putF_len
      have ma : a ∈ [a] := List.mem_singleton.mpr rfl
      have y0 := get_new h2 hx1 (o := .lst (IL lad))
      have fY : Fr [a] (upd H x1 (.lst (IL lad))) (upd (upd (upd H x1 (.lst (IL lad))) a (.ins (CB K) dx (putF "ladder" (.ref x1) []))) a (.ins (CB K) dx (putF "risk" (.ref r) (putF "ladder" (.ref x1) [])))) := (Fr.rfl'.put ma y0 (fun _ z => nomatch z)).put ma upd_same (fun _ z => nomatch z)
      have f0 := ((Fr.rfl' (fp := [a])).new hx1 (o := .lst (IL lad))).tr fY
      have xa : x1 ≠ a := Ne.symm (ne_of_none h2 hx1)
      have na : ∀ {x : Addr}, x ≠ a → x ∉ [a] := fun h z => h (List.mem_singleton.mp z)
      have la : l ≠ a := ne_of h1 h2 fun z => nomatch z
      refine ⟨l, lad, rfl, f0.keep _ _ h1 (na la), k3, k4, k2, fun H1 rp rooms s1 hrp nrp er => fun ho dxx no ndx dne => ?_⟩
      have a1 : H1 a = some _ := s1 _ _ upd_same
      have hoa : ho ≠ a := Ne.symm (ne_of_none a1 no)
      have fYh1 := fY.tr (s1.fr [a])
      have f1 := f0.tr (s1.fr [a])
      have r1' := get_new (get_new hrp ndx (o := .own ho)) (show upd H1 dxx (.own ho) ho = none by rw [upd_ne (Ne.symm dne)]; exact no) (o := .ins (CH K) dxx [])
      have nho : upd H1 dxx (.own ho) ho = none := by rw [upd_ne (Ne.symm dne)]; exact no
      have fh1 : Fr [a] H1 (upd (upd H1 dxx (.own ho)) ho (.ins (CH K) dxx [])) := ((Fr.rfl').new ndx).new nho
      have a1' := get_new (get_new a1 ndx (o := .own ho)) nho (o := .ins (CH K) dxx [])
      subst er
      refine ⟨ho, rp, dxx, roomsOf lad, rfl, r1', upd_same, fun H2 A eA f2 fr2 hA => ⟨rfl, CB K, dx, _, f2.keep _ _ a1' (fun z => hoa (List.mem_singleton.mp z).symm), T.c_Book, T.a_Book_inn, ?_, fun d hd => ⟨_, _, _, get_new upd_same hd, T.c_Book, T.a_Book_entries, ?_, _, _, _, rfl, T.c_Book, T.a_Book_evening, ?_, fun e he => ⟨_, _, _, get_new upd_same he, T.c_Book, T.a_Book_events, ?_, ?_⟩⟩⟩⟩
      · exact Nat.lt_of_le_of_lt (putF_lt (putF_lt (Nat.le_refl 0))) (by decide)
      · exact Nat.lt_of_le_of_lt (putF_lt (putF_lt (putF_lt (Nat.le_refl 0)))) (by decide)
      · exact Nat.lt_of_le_of_lt (putF_lt (putF_lt (putF_lt (putF_lt (Nat.le_refl 0))))) (by decide)
      · exact Nat.lt_of_le_of_lt (putF_lt (putF_lt (putF_lt (putF_lt (putF_lt (Nat.le_refl 0)))))) (by decide)
      · -- what was there when
        have frn : ∀ {H' : Hp} {x : Addr}, Fr [a] H H' → x ≠ a → H' x = none → H x = none := fun {H' x} f hx e => by
          cases z : H x with
          | none => rfl
          | some o => rw [f.keep _ _ z (na hx)] at e; cases e
        have ho0 := frn f1 hoa no
        have f1' := f1.tr (fh1.mono (fq := [a]) (fun _ z => z))
        have f02 : Fr [a] H H2 := frT f1' f2 ho0
        have fY2 : Fr [a] (upd H x1 (.lst (IL lad))) H2 := frT (fYh1.tr fh1) f2 (by
          rw [upd_ne (fun z => by rw [z, s1 _ _ ((fY.keep _ _ upd_same (na xa)))] at no; cases no)]
          exact ho0)
        have a2 : H2 a = some _ := f2.keep _ _ a1' (fun z => hoa (List.mem_singleton.mp z).symm)
        obtain ⟨dy, hy⟩ := hA.ins
        obtain ⟨wl, hw, hw2, hw3⟩ := hA.walks
        have hy : H2 ho = _ := eA ▸ hy
        have x2 := fY2.keep _ _ upd_same (na xa)
        obtain ⟨u2, vd, ve, d0, e0, da, ea, ed⟩ := book_tail (f6 := putF "events" (.ref e) (putF "evening" (.int 0) (putF "entries" (.ref d) (putF "inn" (.ref ho) (putF "risk" (.ref r) (putF "ladder" (.ref x1) [])))))) a2 hd he
        have nA : ∀ x ∈ A.all, x ≠ ho → H x = none ∧ a ≠ x ∧ x1 ≠ x ∧ ho ≠ x := fun x hx hxo => by
          have z := fr2 x hx hxo
          have za : x ≠ a := fun e => by rw [e, a1'] at z; cases z
          obtain ⟨_, z2⟩ := none_upd z
          obtain ⟨_, z3⟩ := none_upd z2
          refine ⟨frn f1 za z3, Ne.symm za, fun e => ?_, Ne.symm hxo⟩
          rw [← e, s1 _ _ (fY.keep _ _ upd_same (na xa))] at z3
          cases z3
        have two : ∀ {x y : Addr} {o : HO}, H2 x = some o → H2 y = none → x ≠ y := fun h1 h2 => ne_of_none h1 h2
        have hAo : A.o = ho := eA
        have ro : A.r ≠ ho := ne_of hA.rooms hy fun z => nomatch z
        have po : A.p ≠ ho := ne_of hA.places hy fun z => nomatch z
        have qo : A.q ≠ ho := ne_of hA.wishes hy fun z => nomatch z
        have lo : A.l ≠ ho := ne_of hw hy fun z => nomatch z
        obtain ⟨r0', ra', rx', _⟩ := nA A.r (by simp [HA.all]) ro
        obtain ⟨p0', pa', px', _⟩ := nA A.p (by simp [HA.all]) po
        obtain ⟨q0', qa', qx', _⟩ := nA A.q (by simp [HA.all]) qo
        obtain ⟨l0', la', lx', _⟩ := nA A.l (by simp [HA.all]) lo
        have xho : x1 ≠ ho := fun z => by rw [← z, s1 _ _ (fY.keep _ _ upd_same (na xa))] at no; cases no
        refine q _ ⟨a, x1, r, A, d, e⟩ rfl (f02.tr u2) ?_ ⟨⟨dx, ?_⟩, u2.keep _ _ x2 (na xa), h3.keep (f02.tr u2).tups, ⟨0, Nat.le_refl _, hA.keep u2 ?_⟩, ⟨[], vd, .nil⟩, ⟨[], ve, Nat.le_refl _⟩, ?_⟩
        · intro x hx hxa
          simp only [BA.all, List.mem_cons, List.not_mem_nil, or_false] at hx
          rcases hx with z | z | z | z | z | z | z | z | z
          · exact absurd z hxa
          · rw [z]; exact hx1
          · rw [z, hAo]; exact ho0
          · rw [z]; exact r0'
          · rw [z]; exact p0'
          · rw [z]; exact q0'
          · rw [z]; exact l0'
          · rw [z]; exact frn f02 da d0
          · rw [z]; exact frn f02 ea e0
        · show upd _ a _ a = _
          rw [upd_same]
          show _ = some (HO.ins (CB K) dx [("ladder", .ref x1), ("risk", .ref r), ("inn", .ref A.o), ("entries", .ref d), ("evening", .int 0), ("events", .ref e)])
          rw [hAo]
          rfl
        · intro x hx
          simp only [HA.all, List.mem_cons, List.not_mem_nil, or_false] at hx
          rcases hx with z | z | z | z | z <;> rw [z]
          · rw [hAo]; exact na hoa
          · exact na (Ne.symm ra')
          · exact na (Ne.symm pa')
          · exact na (Ne.symm qa')
          · exact na (Ne.symm la')
        · have c1 : A.r ≠ A.p := ne_of hA.rooms hA.places fun z => nomatch z
          have c2 : A.r ≠ A.q := ne_of hA.rooms hA.wishes fun z => nomatch z
          have c3 : A.p ≠ A.l := ne_of hA.places hw fun z => nomatch z
          have c4 : A.q ≠ A.l := ne_of hA.wishes hw fun z => nomatch z
          have y1 := two x2 d0
          have y2 := two x2 e0
          have y3 := two hy d0
          have y4 := two hy e0
          have y5 := two hA.rooms d0
          have y6 := two hA.rooms e0
          have y7 := two hA.places d0
          have y8 := two hA.places e0
          have y9 := two hA.wishes d0
          have y10 := two hA.wishes e0
          have y11 := two hw d0
          have y12 := two hw e0
          have := hA.nd
          have := hA.ne
          simp only [BA.all, hAo, List.nodup_cons, List.mem_cons, List.not_mem_nil, or_false, not_or]
          exact ⟨⟨Ne.symm xa, Ne.symm hoa, ra', pa', qa', la', Ne.symm da, Ne.symm ea⟩, ⟨xho, rx', px', qx', lx', y1, y2⟩, ⟨Ne.symm ro, Ne.symm po, Ne.symm qo, Ne.symm lo, y3, y4⟩, ⟨c1, c2, hA.ne, y5, y6⟩, ⟨hA.nd, c3, y7, y8⟩, ⟨c4, y9, y10⟩, ⟨y11, y12⟩, Ne.symm ed, fun z => z, List.nodup_nil⟩
end
end Nb
end
section
set_option Elab.async false
set_option linter.all false
set_option maxRecDepth 100000
set_option maxHeartbeats 4000000
namespace Nb
open PySem PySem.Spec PyProof.Rows L2 NbU NbM
section
variable {P : Program} {w : World} {K : PySem.W.Frag} {mg : Str → Option Value} {base : Heap} {H H' : Hp} {B : BA} {n n' : Nat} {b : Bk Str}
theorem NewAt.keep {H0 H H' : Hp} {v : V} {l : List Str} (h : NewAt H0 H v l) (b0 : BookAt K H0 B n b) (f : Fr B.fp H H') : NewAt H0 H' v l := let ⟨p, e, a, z⟩ := h; ⟨p, e, f.keep _ _ a (b0.nofp z), z⟩
/-! ### loops that drop -/
theorem drops_go (T : Txt K mg) {wd : Str} {pl : Addr} {L : List Str} {D : Ends} {a1 a2 a3 a4 : Option V} (h : BookAt K H B n b) (hp : H pl = some (.lst (L.map V.str))) (np : pl ∉ B.fp) (nd : L.Nodup) (hk : ∀ x ∈ L, x ∈ keysE b.es) (hl : n + L.length ≤ 990000)
    (q : ∀ H' u, Fr B.fp H H' → BookAt K H' B (n + L.length) (L.foldl dropB b) → D.nx [some (.ref B.o), a1, u, a3, a4] H') :
    ForW (Itl K pl) (gName 2) (tDrop (tMU (CB K) "drop" (sp_Book_drop K) [] (tVar 0) (tCons (tC (.str wd)) (tCons (tVar 2) tNil)))) D [some (.ref B.o), a1, a2, a3, a4] H := by
  refine for_go (walk_list (xs := L.map V.str)) (fun i σ H' => Fr B.fp H H' ∧ ∃ u, σ = [some (.ref B.o), a1, u, a3, a4] ∧ BookAt K H' B (n + i) ((L.take i).foldl dropB b)) ⟨.rfl', a2, rfl, h⟩ (fun i σ H' _ ⟨f, _⟩ => SqL.of (f.keep _ _ hp np)) ?_ ?_
  · rintro i y σ H3 H4 hi ⟨f, u, rfl, b3⟩ ⟨rfl, e⟩
    rw [List.getElem?_map] at e
    rw [List.length_map] at hi
    cases ex : L[i]? with
    | none => rw [ex] at e; cases e
    | some x =>
    rw [ex] at e
    cases e
    obtain ⟨dx, hi3⟩ := b3.ins
    have xm := List.mem_of_getElem? ex
    have et : L.take (i + 1) = L.take i ++ [x] := take_snoc ex
    have nx : x ∉ L.take i := fun z => by
      have := nd.sublist (List.take_sublist (i + 1) L)
      rw [et, List.nodup_append] at this
      exact this.2.2 x z x (by simp) rfl
    have hx : x ∈ keysE ((L.take i).foldl dropB b).es := by
      rw [dropB_fold]
      obtain ⟨p, hp, e⟩ := List.mem_map.mp (hk x xm)
      exact List.mem_map.mpr ⟨p, drops_mem.mpr ⟨hp, by rw [e]; exact nx⟩, e⟩
    simp only [a_tVar, a_tC, a_tOp, a_tUn, a_rI, a_rI0, a_rU, a_rEq, a_rNe, a_tTest, a_tB, a_tIsN, a_tNotN, a_tChain, a_tAnd, a_tOr, a_tNot, a_tAndV, a_tOrV, a_tNotV, a_tYes, a_tNext, a_tSeq, a_tCont, a_tBreak, a_tDrop, a_tRet, a_tIfS, a_tNever, a_gName, a_gNil, a_gCons, a_gTup, a_tAsg, a_tNil, a_tCons, a_tTup, a_tLst, a_tCB, a_tCU, a_tMU, a_tFld, a_sFld, a_tSl, a_tNoPart, a_tPart, a_rSlL, a_rSlT, a_rIxL, a_rIxT, a_rCat, a_rRep, a_rCatT, a_tDGet, a_tDIn, a_tDNotIn, a_sDPut, a_tDPop1, a_tDNewK, a_tBM, a_rAppend, a_rExtend, a_iList, a_iEnum, a_iRng1, a_iRng2, a_iVals, a_iItems, a_iRng3, a_iStr, a_tMX, a_tXf, a_wAs, a_tRaise, a_tVeI, a_tOst, a_tMkO, a_tMake, a_rSum, a_rIsi, a_tChain3, a_tAugS, a_rGetL, a_rPutL, a_ipI, a_rSet, a_tCKw, a_rMinD, a_rMin, a_rIxS, a_rSlS, a_iTup, a_rIn, a_rEqD, a_rNeD, upd_same, HO.lst.injEq, HO.tup.injEq, HO.dK.injEq, HO.frz.injEq, a_s0, a_s1, a_s2, a_s3, a_s4, a_s5, a_s6, a_s8, a_scal, a_scals, a_tFor, a_tLc, a_tWhile, a_wipe0, a_wipe1, k_cxU, w_cxU, k_blk, w_blk, and_assoc, exists_and_left, exists_eq_left, exists_eq_left', exists_eq_right, exists_eq, exists_const, List.getElem?_cons_zero, List.getElem?_cons_succ, List.set_cons_zero, List.set_cons_succ, Option.some.injEq, V.int.injEq, V.bl.injEq, V.ref.injEq, V.str.injEq, List.cons.injEq, and_true, true_and, List.cons_append, List.nil_append, List.append_nil, L2.start, List.map_cons, List.map_nil, List.length_cons, List.length_nil, List.replicate, Nat.sub_self, Nat.reduceSub, Nat.reduceAdd, Nat.zero_add, if_true, if_false, Bool.false_eq_true, Bool.true_eq_false, reduceIte, decide_eq_true_eq, Bool.not_eq_true', decide_eq_false_iff_not]
    refine ⟨_, _, hi3, rfl, B, n + i, _, x, _, rfl, b3, hx, by omega, fun H5 f5 b5 => ⟨f.tr f5, ?_⟩⟩
    rw [et, List.foldl_append]
    exact b5
  · rintro σ H3 ⟨f, u, rfl, b3⟩
    rw [List.length_map, List.take_length] at b3
    exact q _ _ f b3
theorem outs_go (T : Txt K mg) {al : List Str} {wd : Str} {pl : Addr} {L : List Str} {D : Ends} {a1 a2 a3 a4 : Option V} (h : BookAt K H B n b) (pr : Pre' al b) (hp : H pl = some (.lst (L.map V.str))) (np : pl ∉ B.fp) (nd : L.Nodup) (hk : ∀ x ∈ L, ∃ e, (x, e) ∈ b.es ∧ e.word = .house) (hl : n + L.length ≤ 990000)
    (q : ∀ H' u, Fr B.fp H H' → BookAt K H' B (n + L.length) (L.foldl outB b) → D.nx [some (.ref B.o), a1, u, a3, a4] H') :
    ForW (Itl K pl) (gName 2) (tSeq (tDrop (tMU (CH K) "out" (sp_House_out K) [] (tFld K (tVar 0) "inn") (tCons (tVar 2) tNil))) (tDrop (tMU (CB K) "drop" (sp_Book_drop K) [] (tVar 0) (tCons (tC (.str wd)) (tCons (tVar 2) tNil))))) D [some (.ref B.o), a1, a2, a3, a4] H := by
  refine for_go (walk_list (xs := L.map V.str)) (fun i σ H' => Fr B.fp H H' ∧ ∃ u, σ = [some (.ref B.o), a1, u, a3, a4] ∧ BookAt K H' B (n + i) ((L.take i).foldl outB b)) ⟨.rfl', a2, rfl, h⟩ (fun i σ H' _ ⟨f, _⟩ => SqL.of (f.keep _ _ hp np)) ?_ ?_
  · rintro i y σ H3 H4 hi ⟨f, u, rfl, b3⟩ ⟨rfl, e⟩
    rw [List.getElem?_map] at e
    rw [List.length_map] at hi
    cases ex : L[i]? with
    | none => rw [ex] at e; cases e
    | some x =>
    rw [ex] at e
    cases e
    obtain ⟨dx, hi3⟩ := b3.ins
    obtain ⟨m, ml, hh⟩ := b3.house
    obtain ⟨dy, hy⟩ := hh.ins
    have xm := List.mem_of_getElem? ex
    have et : L.take (i + 1) = L.take i ++ [x] := take_snoc ex
    have nx : x ∉ L.take i := fun z => by
      have := nd.sublist (List.take_sublist (i + 1) L)
      rw [et, List.nodup_append] at this
      exact this.2.2 x z x (by simp) rfl
    have pi := Pre'.outs (L.take i) b pr
    have he : ∃ e, (x, e) ∈ ((L.take i).foldl outB b).es ∧ e.word = .house := by
      rw [outB_fold]
      obtain ⟨e, h1, h2⟩ := hk x xm
      exact ⟨e, drops_mem.mpr ⟨h1, nx⟩, h2⟩
    have hx := (pi.hk x).mpr he
    have hx2 : x ∈ keysE ((L.take i).foldl outB b).es := let ⟨e, h1, _⟩ := he; List.mem_map.mpr ⟨_, h1, rfl⟩
    simp only [a_tVar, a_tC, a_tOp, a_tUn, a_rI, a_rI0, a_rU, a_rEq, a_rNe, a_tTest, a_tB, a_tIsN, a_tNotN, a_tChain, a_tAnd, a_tOr, a_tNot, a_tAndV, a_tOrV, a_tNotV, a_tYes, a_tNext, a_tSeq, a_tCont, a_tBreak, a_tDrop, a_tRet, a_tIfS, a_tNever, a_gName, a_gNil, a_gCons, a_gTup, a_tAsg, a_tNil, a_tCons, a_tTup, a_tLst, a_tCB, a_tCU, a_tMU, a_tFld, a_sFld, a_tSl, a_tNoPart, a_tPart, a_rSlL, a_rSlT, a_rIxL, a_rIxT, a_rCat, a_rRep, a_rCatT, a_tDGet, a_tDIn, a_tDNotIn, a_sDPut, a_tDPop1, a_tDNewK, a_tBM, a_rAppend, a_rExtend, a_iList, a_iEnum, a_iRng1, a_iRng2, a_iVals, a_iItems, a_iRng3, a_iStr, a_tMX, a_tXf, a_wAs, a_tRaise, a_tVeI, a_tOst, a_tMkO, a_tMake, a_rSum, a_rIsi, a_tChain3, a_tAugS, a_rGetL, a_rPutL, a_ipI, a_rSet, a_tCKw, a_rMinD, a_rMin, a_rIxS, a_rSlS, a_iTup, a_rIn, a_rEqD, a_rNeD, upd_same, HO.lst.injEq, HO.tup.injEq, HO.dK.injEq, HO.frz.injEq, a_s0, a_s1, a_s2, a_s3, a_s4, a_s5, a_s6, a_s8, a_scal, a_scals, a_tFor, a_tLc, a_tWhile, a_wipe0, a_wipe1, k_cxU, w_cxU, k_blk, w_blk, and_assoc, exists_and_left, exists_eq_left, exists_eq_left', exists_eq_right, exists_eq, exists_const, List.getElem?_cons_zero, List.getElem?_cons_succ, List.set_cons_zero, List.set_cons_succ, Option.some.injEq, V.int.injEq, V.bl.injEq, V.ref.injEq, V.str.injEq, List.cons.injEq, and_true, true_and, List.cons_append, List.nil_append, List.append_nil, L2.start, List.map_cons, List.map_nil, List.length_cons, List.length_nil, List.replicate, Nat.sub_self, Nat.reduceSub, Nat.reduceAdd, Nat.zero_add, if_true, if_false, Bool.false_eq_true, Bool.true_eq_false, reduceIte, decide_eq_true_eq, Bool.not_eq_true', decide_eq_false_iff_not]
    refine ⟨_, _, _, hi3, T.c_Book, T.a_Book_inn, _, rfl, _, rfl, _, _, hy, rfl, B.hs, m, _, x, rfl, hh, pi.hs, hx, fun H5 r f5 hh5 => ?_⟩
    have b5 := b3.inn (n' := n + i) f5 hh5 ml (Nat.le_refl _)
    obtain ⟨dx5, hi5⟩ := b5.ins
    refine ⟨_, _, hi5, rfl, B, n + i, _, x, _, rfl, b5, hx2, by omega, fun H6 f6 b6 => ⟨(f.tr (f5.mono (by simp [BA.fp, HA.fp]))).tr f6, ?_⟩⟩
    rw [et, List.foldl_append]
    exact b6
  · rintro σ H3 ⟨f, u, rfl, b3⟩
    rw [List.length_map, List.take_length] at b3
    exact q _ _ f b3
theorem pick_go {tt : TT} {pl D : Addr} {fs : List (Str × Ent)} {q2 : Ent → Bool} {Q : Hp → Prop} {s0 s1 s2 s3 s4 : Option V} (hD : H D = none) (hp : H pl = some (.lst ((fs.map (·.1)).map V.str))) (fl : fs.length ≤ 1000)
    (ht : ∀ H' pr (R : Bool → Hp → Prop), pr ∈ fs → Same H H' → R (q2 pr.2) H' → tt [s0, s1, some (.str pr.1), s3, s4] H' R)
    (q : ∀ H', Same H H' → H' D = some (.lst (((fs.filter fun p => q2 p.2).map (·.1)).map V.str)) → Q H') :
    LcW (Itl K pl) (gName 2) tt (tVar 2) [2] [s0, s1, s2, s3, s4] H D Q := by
  obtain ⟨ac, ha⟩ : ∃ f : Nat → List V, ∀ i, f i = (((fs.take i).filter fun p => q2 p.2).map (·.1)).map V.str := ⟨_, fun _ => rfl⟩
  refine lc_go (walk_list (xs := (fs.map (·.1)).map V.str)) hD ac (ha 0) (fun _ s => SqL.of (s _ _ hp)) ?_ ?_
  · rintro i y H3 H4 hi s hD' ⟨rfl, e⟩
    rw [List.getElem?_map, List.getElem?_map] at e
    cases ex : fs[i]? with
    | none => rw [ex] at e; cases e
    | some pr =>
    rw [ex] at e
    cases e
    have ec : ac (i + 1) = ac i ++ (if q2 pr.2 = true then [V.str pr.1] else []) := by
      rw [ha, ha, take_snoc ex, List.filter_append, List.map_append, List.map_append, List.filter_cons]
      cases q2 pr.2 <;> rfl
    simp only [a_tVar, a_tC, a_tOp, a_tUn, a_rI, a_rI0, a_rU, a_rEq, a_rNe, a_tTest, a_tB, a_tIsN, a_tNotN, a_tChain, a_tAnd, a_tOr, a_tNot, a_tAndV, a_tOrV, a_tNotV, a_tYes, a_tNext, a_tSeq, a_tCont, a_tBreak, a_tDrop, a_tRet, a_tIfS, a_tNever, a_gName, a_gNil, a_gCons, a_gTup, a_tAsg, a_tNil, a_tCons, a_tTup, a_tLst, a_tCB, a_tCU, a_tMU, a_tFld, a_sFld, a_tSl, a_tNoPart, a_tPart, a_rSlL, a_rSlT, a_rIxL, a_rIxT, a_rCat, a_rRep, a_rCatT, a_tDGet, a_tDIn, a_tDNotIn, a_sDPut, a_tDPop1, a_tDNewK, a_tBM, a_rAppend, a_rExtend, a_iList, a_iEnum, a_iRng1, a_iRng2, a_iVals, a_iItems, a_iRng3, a_iStr, a_tMX, a_tXf, a_wAs, a_tRaise, a_tVeI, a_tOst, a_tMkO, a_tMake, a_rSum, a_rIsi, a_tChain3, a_tAugS, a_rGetL, a_rPutL, a_ipI, a_rSet, a_tCKw, a_rMinD, a_rMin, a_rIxS, a_rSlS, a_iTup, a_rIn, a_rEqD, a_rNeD, upd_same, HO.lst.injEq, HO.tup.injEq, HO.dK.injEq, HO.frz.injEq, a_s0, a_s1, a_s2, a_s3, a_s4, a_s5, a_s6, a_s8, a_scal, a_scals, a_tFor, a_tLc, a_tWhile, a_wipe0, a_wipe1, k_cxU, w_cxU, k_blk, w_blk, and_assoc, exists_and_left, exists_eq_left, exists_eq_left', exists_eq_right, exists_eq, exists_const, List.getElem?_cons_zero, List.getElem?_cons_succ, List.set_cons_zero, List.set_cons_succ, Option.some.injEq, V.int.injEq, V.bl.injEq, V.ref.injEq, V.str.injEq, List.cons.injEq, and_true, true_and, List.cons_append, List.nil_append, List.append_nil, L2.start, List.map_cons, List.map_nil, List.length_cons, List.length_nil, List.replicate, Nat.sub_self, Nat.reduceSub, Nat.reduceAdd, Nat.zero_add, if_true, if_false, Bool.false_eq_true, Bool.true_eq_false, reduceIte, decide_eq_true_eq, Bool.not_eq_true', decide_eq_false_iff_not]
    refine ht _ pr _ (List.mem_of_getElem? ex) s ?_
    cases z : q2 pr.2 with
    | true =>
      rw [z, if_pos rfl] at ec
      rw [if_pos rfl]
      refine leaf hD hD' s (szl _ ?_) ec
      rw [ha, List.length_map, List.length_map]
      have := List.length_filter_le (fun p : Str × Ent => q2 p.2) (fs.take i)
      rw [List.length_take] at this
      omega
    | false =>
      rw [z, if_neg (fun z => Bool.noConfusion z), List.append_nil] at ec
      rw [if_neg (fun z => Bool.noConfusion z)]
      exact leafN hD' s ec
  · intro H3 s hD'
    rw [ha, List.length_map, List.length_map, List.take_length] at hD'
    exact q _ s hD'
theorem sub_nodup {es : List (Str × Ent)} {q : Str × Ent → Bool} (nd : (keysE es).Nodup) : ((es.filter q).map (·.1)).Nodup := nd.sublist (List.Sublist.map _ List.filter_sublist)
theorem sub_len {es : List (Str × Ent)} {q : Str × Ent → Bool} : ((es.filter q).map (·.1)).length ≤ es.length := by
  rw [List.length_map]
  exact List.length_filter_le ..
theorem sub_keys {es : List (Str × Ent)} {q : Str × Ent → Bool} : ∀ x ∈ (es.filter q).map (·.1), x ∈ keysE es := fun x h => by
  obtain ⟨e, he, _⟩ := mem_by h
  exact List.mem_map.mpr ⟨_, he, rfl⟩
theorem drops_len : ∀ (ns : List Str) (es : List (Str × Ent)), (ns.foldl dropE es).length ≤ es.length
  | [], _ => Nat.le_refl _
  | n :: r, es => by
    rw [List.foldl_cons]
    have h1 := drops_len r (dropE es n)
    have h2 : (dropE es n).length ≤ es.length := List.length_filter_le ..
    omega
/-! ### close -/
def sp_Book_close (K : PySem.W.Frag) : Sp := fun vs H Q _ => ∃ (B : BA) (n : Nat) (b : Bk Str), vs = [.ref B.o] ∧ DoesAt K H .close B n b Q
theorem sc_Book_close : FnScope ["self", "missing", "name", "leaving", "late"] ["self"] (defScope s_Book_close) := ⟨rfl, rfl, rfl, by decide +kernel, rfl, by decide +kernel, by decide +kernel⟩
theorem g_Book_close (T : Txt K mg) : GM P w K mg base true CX0 8 (He.ga K "Book") "close" [] (sp_Book_close K) := by
  obtain ⟨fd, F⟩ := T.f_Book_close
  refine ⟨_, fd, ["self"], [], T.m_Book_close, F.bindsN (fun _ _ _ _ _ _ us hl => match us, hl with | [_], _ => rfl), .nil, okU F sc_Book_close (fun vs H Q E h => ?_) (fun cdv A outer s H vs Q E pl hr hh hw h => ⟨_, PSs.nox (pss_cons (ps_if (pt_cmpR (op_eq) (pe_fldK K (pv 0) rfl) (pe_op op_sub (pg_int T.i_NIGHTS) pe_int) (nomark _)) pss_never pss_nil)
      (pss_cons (ps_lock (ps_setLcU (i := 1) hw sc_Book_close.nd rfl rfl (sw_true rfl rfl rfl rfl) (piu_keys (pe_fldK K (pv 0) rfl)) (blkOk_by (own := [("name", 2)]) (by kernel_rfl)) (fun _ _ _ _ _ => (pg_name (i := 2) sc_Book_close.nd rfl (by first | exact Or.inl rfl | exact Or.inr rfl))) (fun _ _ _ _ _ => (pts_one (pt_val (pe_mu (pv 0) T.c_Book (g_Book_is_due T) (hr.mono (by decide)) hw (fun _ => hh rfl) (pa_cons (pe_dget (huU hr) (pe_fldK K (pv 0) rfl) (pv 2) (fun _ _ => rfl)) pa_nil))))) (fun _ _ _ _ _ => (pv 2))))
      (pss_cons (psu_for PassesOwn.never hw (piu_list (pv 1)) (pg_name (i := 2) sc_Book_close.nd rfl (by first | exact Or.inl rfl | exact Or.inr rfl)) (pss_one (ps_expr (pe_mu (pv 0) T.c_Book (g_Book_drop T) (hr.mono (by decide)) hw (fun z => Bool.noConfusion z) (pa_cons pe_str (pa_cons (pv 2) pa_nil))))))
      (pss_cons (ps_fld (pv 0) (pe_op op_add (pe_fldK K (pv 0) rfl) pe_int) rfl)
      (pss_cons (ps_setLcU (i := 3) hw sc_Book_close.nd rfl rfl (sw_true rfl rfl rfl rfl) (piu_list (pe_mu0 (pv 0) T.c_Book (g_Book_inside T) (hr.mono (by decide)) hw (fun _ => hh rfl))) (blkOk_by (own := [("name", 2)]) (by kernel_rfl)) (fun _ _ _ _ _ => (pg_name (i := 2) sc_Book_close.nd rfl (by first | exact Or.inl rfl | exact Or.inr rfl))) (fun _ _ _ _ _ => (pts_one (pt_cmpR (op_eq) (pe_ix (ix_tupK K) (pe_dget (huU hr) (pe_fldK K (pv 0) rfl) (pv 2) (fun _ _ => rfl)) pe_int (fun _ _ => rfl)) (pe_fldK K (pv 0) rfl) (nomark _)))) (fun _ _ _ _ _ => (pv 2)))
      (pss_cons (psu_for PassesOwn.never hw (piu_list (pv 3)) (pg_name (i := 2) sc_Book_close.nd rfl (by first | exact Or.inl rfl | exact Or.inr rfl)) (pss_cons (ps_expr (pe_mu (pe_fldK K (pv 0) rfl) T.c_House (g_House_out T) (hr.mono (by decide)) hw (fun _ => hh rfl) (pa_cons (pv 2) pa_nil)))
      (pss_one (ps_expr (pe_mu (pv 0) T.c_Book (g_Book_drop T) (hr.mono (by decide)) hw (fun z => Bool.noConfusion z) (pa_cons pe_str (pa_cons (pv 2) pa_nil)))))))
      (pss_cons (ps_setLcU (i := 4) hw sc_Book_close.nd rfl rfl (sw_true rfl rfl rfl rfl) (piu_list (pe_cu (g_waiting T) (hr.mono (by decide)) hw (fun z => Bool.noConfusion z) rfl (pa_cons (pe_fldK K (pv 0) rfl) pa_nil))) (blkOk_by (own := [("name", 2)]) (by kernel_rfl)) (fun _ _ _ _ _ => (pg_name (i := 2) sc_Book_close.nd rfl (by first | exact Or.inl rfl | exact Or.inr rfl))) (fun _ _ _ _ _ => (pts_one (pt_cmpR (op_lt) (pe_ix (ix_tupK K) (pe_dget (huU hr) (pe_fldK K (pv 0) rfl) (pv 2) (fun _ _ => rfl)) pe_int (fun _ _ => rfl)) (pe_fldK K (pv 0) rfl) (nomark _)))) (fun _ _ _ _ _ => (pv 2)))
      (pss_cons (psu_for PassesOwn.never hw (piu_list (pv 4)) (pg_name (i := 2) sc_Book_close.nd rfl (by first | exact Or.inl rfl | exact Or.inr rfl)) (pss_one (ps_expr (pe_mu (pv 0) T.c_Book (g_Book_drop T) (hr.mono (by decide)) hw (fun z => Bool.noConfusion z) (pa_cons pe_str (pa_cons (pv 2) pa_nil))))))
      (pss_one (ps_ret (pe_tup (pa_cons (pv 1) (pa_cons (pv 3) (pa_cons (pv 4) (pa_cons (pe_mu0 (pv 0) T.c_Book (g_Book_fill T) (hr.mono (by decide)) hw (fun z => Bool.noConfusion z)) pa_nil))))))))))))))), ?_⟩)⟩
  · obtain ⟨B, n, b, rfl, _⟩ := h
    rfl
  · obtain ⟨B, n, b, rfl, ⟨al, a1, a2, a3⟩, h2, h3, q⟩ := h
    obtain ⟨dx, hi⟩ := h2.ins
    obtain ⟨kvs, hk, he⟩ := h2.entries
    have ev9 : b.ev < 399 := a3
    have el := es_le a2.pre
    have al15 := a1.len
    have hl := Paired.length he
    have nd := a2.pre.good.nd
    simp only [a_tVar, a_tC, a_tOp, a_tUn, a_rI, a_rI0, a_rU, a_rEq, a_rNe, a_tTest, a_tB, a_tIsN, a_tNotN, a_tChain, a_tAnd, a_tOr, a_tNot, a_tAndV, a_tOrV, a_tNotV, a_tYes, a_tNext, a_tSeq, a_tCont, a_tBreak, a_tDrop, a_tRet, a_tIfS, a_tNever, a_gName, a_gNil, a_gCons, a_gTup, a_tAsg, a_tNil, a_tCons, a_tTup, a_tLst, a_tCB, a_tCU, a_tMU, a_tFld, a_sFld, a_tSl, a_tNoPart, a_tPart, a_rSlL, a_rSlT, a_rIxL, a_rIxT, a_rCat, a_rRep, a_rCatT, a_tDGet, a_tDIn, a_tDNotIn, a_sDPut, a_tDPop1, a_tDNewK, a_tBM, a_rAppend, a_rExtend, a_iList, a_iEnum, a_iRng1, a_iRng2, a_iVals, a_iItems, a_iRng3, a_iStr, a_tMX, a_tXf, a_wAs, a_tRaise, a_tVeI, a_tOst, a_tMkO, a_tMake, a_rSum, a_rIsi, a_tChain3, a_tAugS, a_rGetL, a_rPutL, a_ipI, a_rSet, a_tCKw, a_rMinD, a_rMin, a_rIxS, a_rSlS, a_iTup, a_rIn, a_rEqD, a_rNeD, upd_same, HO.lst.injEq, HO.tup.injEq, HO.dK.injEq, HO.frz.injEq, a_s0, a_s1, a_s2, a_s3, a_s4, a_s5, a_s6, a_s8, a_scal, a_scals, a_tFor, a_tLc, a_tWhile, a_wipe0, a_wipe1, k_cxU, w_cxU, k_blk, w_blk, and_assoc, exists_and_left, exists_eq_left, exists_eq_left', exists_eq_right, exists_eq, exists_const, List.getElem?_cons_zero, List.getElem?_cons_succ, List.set_cons_zero, List.set_cons_succ, Option.some.injEq, V.int.injEq, V.bl.injEq, V.ref.injEq, V.str.injEq, List.cons.injEq, and_true, true_and, List.cons_append, List.nil_append, List.append_nil, L2.start, List.map_cons, List.map_nil, List.length_cons, List.length_nil, List.replicate, Nat.sub_self, Nat.reduceSub, Nat.reduceAdd, Nat.zero_add, if_true, if_false, Bool.false_eq_true, Bool.true_eq_false, reduceIte, decide_eq_true_eq, Bool.not_eq_true', decide_eq_false_iff_not]
    refine ⟨_, _, _, hi, T.c_Book, T.a_Book_evening, _, rfl, rfl, ?_⟩
    rw [if_neg (fun z => by have := V.int.inj z; omega)]
    refine ⟨B.d, _, hk, trivial, fun od => ?_⟩
    have hod : B.o ≠ B.d := (BA.ne h2.nd).o _ (by simp)
    have hi0 := (upd_ne hod (H := H) (o := .frz od (.dK kvs))).trans hi
    simp only [a_tVar, a_tC, a_tOp, a_tUn, a_rI, a_rI0, a_rU, a_rEq, a_rNe, a_tTest, a_tB, a_tIsN, a_tNotN, a_tChain, a_tAnd, a_tOr, a_tNot, a_tAndV, a_tOrV, a_tNotV, a_tYes, a_tNext, a_tSeq, a_tCont, a_tBreak, a_tDrop, a_tRet, a_tIfS, a_tNever, a_gName, a_gNil, a_gCons, a_gTup, a_tAsg, a_tNil, a_tCons, a_tTup, a_tLst, a_tCB, a_tCU, a_tMU, a_tFld, a_sFld, a_tSl, a_tNoPart, a_tPart, a_rSlL, a_rSlT, a_rIxL, a_rIxT, a_rCat, a_rRep, a_rCatT, a_tDGet, a_tDIn, a_tDNotIn, a_sDPut, a_tDPop1, a_tDNewK, a_tBM, a_rAppend, a_rExtend, a_iList, a_iEnum, a_iRng1, a_iRng2, a_iVals, a_iItems, a_iRng3, a_iStr, a_tMX, a_tXf, a_wAs, a_tRaise, a_tVeI, a_tOst, a_tMkO, a_tMake, a_rSum, a_rIsi, a_tChain3, a_tAugS, a_rGetL, a_rPutL, a_ipI, a_rSet, a_tCKw, a_rMinD, a_rMin, a_rIxS, a_rSlS, a_iTup, a_rIn, a_rEqD, a_rNeD, upd_same, HO.lst.injEq, HO.tup.injEq, HO.dK.injEq, HO.frz.injEq, a_s0, a_s1, a_s2, a_s3, a_s4, a_s5, a_s6, a_s8, a_scal, a_scals, a_tFor, a_tLc, a_tWhile, a_wipe0, a_wipe1, k_cxU, w_cxU, k_blk, w_blk, and_assoc, exists_and_left, exists_eq_left, exists_eq_left', exists_eq_right, exists_eq, exists_const, List.getElem?_cons_zero, List.getElem?_cons_succ, List.set_cons_zero, List.set_cons_succ, Option.some.injEq, V.int.injEq, V.bl.injEq, V.ref.injEq, V.str.injEq, List.cons.injEq, and_true, true_and, List.cons_append, List.nil_append, List.append_nil, L2.start, List.map_cons, List.map_nil, List.length_cons, List.length_nil, List.replicate, Nat.sub_self, Nat.reduceSub, Nat.reduceAdd, Nat.zero_add, if_true, if_false, Bool.false_eq_true, Bool.true_eq_false, reduceIte, decide_eq_true_eq, Bool.not_eq_true', decide_eq_false_iff_not]
    refine ⟨_, _, _, hi0, T.c_Book, T.a_Book_entries, _, rfl, _, rfl, _, _, upd_same, fun D hD => ?_⟩
    have hne : D ≠ B.d := fun e => by rw [e, upd_same] at hD; cases hD
    have hD0 : H D = none := by rw [upd_ne hne] at hD; exact hD
    obtain ⟨ac, ha⟩ : ∃ f : Nat → List V, ∀ i, f i = (((b.es.take i).filter fun p => decide (p.2.word = .taken) && decide (p.2.first = b.ev)).map (·.1)).map V.str := ⟨_, fun _ => rfl⟩
    refine lc_go walk_keys hD ac (ha 0) (fun _ s => locked s) ?_ ?_
    · rintro i y H' H'' hi' s hD' ⟨rfl, k, v, hy, rfl⟩
      obtain ⟨pr, hp, e1, a, c, rfl, t1, t2⟩ := paired_get he hy
      have e1 : k = Sum.inr pr.1 := e1
      subst e1
      have tu : Tups H H'' := (tups_put hk fun _ z => nomatch z).tr s.tups
      have hg : getE b.es pr.1 = some pr.2 := mem_getE nd (List.mem_of_getElem? hp)
      obtain ⟨v, hv, hE⟩ := KvAt.some he hg
      have ec : ac (i + 1) = ac i ++ (if (decide (pr.2.word = .taken) && decide (pr.2.first = b.ev)) = true then [V.str pr.1] else []) := by
        rw [ha, ha, take_snoc hp, List.filter_append, List.map_append, List.map_append, List.filter_cons]
        cases decide (pr.2.word = .taken) && decide (pr.2.first = b.ev) <;> rfl
      simp only [a_tVar, a_tC, a_tOp, a_tUn, a_rI, a_rI0, a_rU, a_rEq, a_rNe, a_tTest, a_tB, a_tIsN, a_tNotN, a_tChain, a_tAnd, a_tOr, a_tNot, a_tAndV, a_tOrV, a_tNotV, a_tYes, a_tNext, a_tSeq, a_tCont, a_tBreak, a_tDrop, a_tRet, a_tIfS, a_tNever, a_gName, a_gNil, a_gCons, a_gTup, a_tAsg, a_tNil, a_tCons, a_tTup, a_tLst, a_tCB, a_tCU, a_tMU, a_tFld, a_sFld, a_tSl, a_tNoPart, a_tPart, a_rSlL, a_rSlT, a_rIxL, a_rIxT, a_rCat, a_rRep, a_rCatT, a_tDGet, a_tDIn, a_tDNotIn, a_sDPut, a_tDPop1, a_tDNewK, a_tBM, a_rAppend, a_rExtend, a_iList, a_iEnum, a_iRng1, a_iRng2, a_iVals, a_iItems, a_iRng3, a_iStr, a_tMX, a_tXf, a_wAs, a_tRaise, a_tVeI, a_tOst, a_tMkO, a_tMake, a_rSum, a_rIsi, a_tChain3, a_tAugS, a_rGetL, a_rPutL, a_ipI, a_rSet, a_tCKw, a_rMinD, a_rMin, a_rIxS, a_rSlS, a_iTup, a_rIn, a_rEqD, a_rNeD, upd_same, HO.lst.injEq, HO.tup.injEq, HO.dK.injEq, HO.frz.injEq, a_s0, a_s1, a_s2, a_s3, a_s4, a_s5, a_s6, a_s8, a_scal, a_scals, a_tFor, a_tLc, a_tWhile, a_wipe0, a_wipe1, k_cxU, w_cxU, k_blk, w_blk, and_assoc, exists_and_left, exists_eq_left, exists_eq_left', exists_eq_right, exists_eq, exists_const, List.getElem?_cons_zero, List.getElem?_cons_succ, List.set_cons_zero, List.set_cons_succ, Option.some.injEq, V.int.injEq, V.bl.injEq, V.ref.injEq, V.str.injEq, List.cons.injEq, and_true, true_and, List.cons_append, List.nil_append, List.append_nil, L2.start, List.map_cons, List.map_nil, List.length_cons, List.length_nil, List.replicate, Nat.sub_self, Nat.reduceSub, Nat.reduceAdd, Nat.zero_add, if_true, if_false, Bool.false_eq_true, Bool.true_eq_false, reduceIte, decide_eq_true_eq, Bool.not_eq_true', decide_eq_false_iff_not]
      refine ⟨_, _, s _ _ hi0, rfl, _, _, _, s _ _ hi0, T.c_Book, T.a_Book_entries, _, rfl, _, rfl, v, .inl ⟨kvs, Sum.inr pr.1, .inr ⟨od, locked s⟩, rfl, hv.symm⟩, ?_⟩
      refine ⟨B, dx, b.ev, v, pr.2, rfl, s _ _ hi0, hE.keep tu, _, rfl, ?_⟩
      cases z : decide (pr.2.word = .taken) && decide (pr.2.first = b.ev) with
      | true =>
        rw [z, if_pos rfl] at ec
        rw [if_pos rfl]
        refine leaf hD hD' s (szl _ ?_) ec
        rw [ha, List.length_map]
        have := sub_len (es := b.es.take i) (q := fun p => decide (p.2.word = .taken) && decide (p.2.first = b.ev))
        rw [List.length_take] at this
        omega
      | false =>
        rw [z, if_neg (fun z => Bool.noConfusion z), List.append_nil] at ec
        rw [if_neg (fun z => Bool.noConfusion z)]
        exact leafN hD' s ec
    · intro H1 s hD'
      rw [ha, hl, List.take_length] at hD'
      refine ⟨locked s, ?_⟩
      have s1 : Same H (upd H1 B.d (.dK kvs)) := unlock s hk
      have gD : upd H1 B.d (.dK kvs) D = some (.lst ((missingOf b).map V.str)) := by rw [upd_ne hne]; exact hD'
      have N1 : NewAt H (upd H1 B.d (.dK kvs)) (.ref D) (missingOf b) := ⟨D, rfl, gD, hD0⟩
      generalize upd H1 B.d (.dK kvs) = H1 at *
      have b1 := h2.same s1
      have f1 := s1.fr B.fp
      refine ⟨⟨_, SqL.of gD⟩, ?_⟩
      have ml : (missingOf b).length ≤ 15 := Nat.le_trans sub_len (by omega)
      refine drops_go T b1 gD (h2.nofp hD0) (sub_nodup nd) sub_keys (by omega) fun H2 u f2 b2 => ?_
      obtain ⟨dx2, hi2⟩ := b2.ins
      have N2 := N1.keep h2 f2
      have f02 := f1.tr f2
      have ev2 : ((missingOf b).foldl dropB b).ev = b.ev := by rw [dropB_fold]
      simp only [a_tVar, a_tC, a_tOp, a_tUn, a_rI, a_rI0, a_rU, a_rEq, a_rNe, a_tTest, a_tB, a_tIsN, a_tNotN, a_tChain, a_tAnd, a_tOr, a_tNot, a_tAndV, a_tOrV, a_tNotV, a_tYes, a_tNext, a_tSeq, a_tCont, a_tBreak, a_tDrop, a_tRet, a_tIfS, a_tNever, a_gName, a_gNil, a_gCons, a_gTup, a_tAsg, a_tNil, a_tCons, a_tTup, a_tLst, a_tCB, a_tCU, a_tMU, a_tFld, a_sFld, a_tSl, a_tNoPart, a_tPart, a_rSlL, a_rSlT, a_rIxL, a_rIxT, a_rCat, a_rRep, a_rCatT, a_tDGet, a_tDIn, a_tDNotIn, a_sDPut, a_tDPop1, a_tDNewK, a_tBM, a_rAppend, a_rExtend, a_iList, a_iEnum, a_iRng1, a_iRng2, a_iVals, a_iItems, a_iRng3, a_iStr, a_tMX, a_tXf, a_wAs, a_tRaise, a_tVeI, a_tOst, a_tMkO, a_tMake, a_rSum, a_rIsi, a_tChain3, a_tAugS, a_rGetL, a_rPutL, a_ipI, a_rSet, a_tCKw, a_rMinD, a_rMin, a_rIxS, a_rSlS, a_iTup, a_rIn, a_rEqD, a_rNeD, upd_same, HO.lst.injEq, HO.tup.injEq, HO.dK.injEq, HO.frz.injEq, a_s0, a_s1, a_s2, a_s3, a_s4, a_s5, a_s6, a_s8, a_scal, a_scals, a_tFor, a_tLc, a_tWhile, a_wipe0, a_wipe1, k_cxU, w_cxU, k_blk, w_blk, and_assoc, exists_and_left, exists_eq_left, exists_eq_left', exists_eq_right, exists_eq, exists_const, List.getElem?_cons_zero, List.getElem?_cons_succ, List.set_cons_zero, List.set_cons_succ, Option.some.injEq, V.int.injEq, V.bl.injEq, V.ref.injEq, V.str.injEq, List.cons.injEq, and_true, true_and, List.cons_append, List.nil_append, List.append_nil, L2.start, List.map_cons, List.map_nil, List.length_cons, List.length_nil, List.replicate, Nat.sub_self, Nat.reduceSub, Nat.reduceAdd, Nat.zero_add, if_true, if_false, Bool.false_eq_true, Bool.true_eq_false, reduceIte, decide_eq_true_eq, Bool.not_eq_true', decide_eq_false_iff_not]
      refine ⟨_, _, _, hi2, T.c_Book, T.a_Book_evening, _, rfl, _, rfl, _, _, _, hi2, T.c_Book, T.a_Book_evening, (by show (6 : Nat) < 1000; decide), ?_⟩
      have f3 : Fr [B.o] H2 (upd H2 B.o (.ins (CB K) dx2 (B.fs (((missingOf b).foldl dropB b).ev + 1)))) := Fr.rfl'.put (List.mem_singleton.mpr rfl) hi2 ins_nt
      have b3 := b2.eve f3 upd_same
      rw [ev2] at b3 f3
      have b3 : BookAt K _ B (n + (missingOf b).length) (close1 b) := b3
      have e3 : upd H2 B.o (HO.ins (CB K) dx2 (putF "evening" (V.int (((missingOf b).foldl dropB b).ev + 1)) (B.fs ((missingOf b).foldl dropB b).ev))) = upd H2 B.o (.ins (CB K) dx2 (B.fs (b.ev + 1))) := by rw [ev2]; rfl
      rw [e3]
      have N3 := N2.keep (H' := upd H2 B.o (.ins (CB K) dx2 (B.fs (b.ev + 1)))) h2 (f3.mono (by simp [BA.fp]))
      have f03 := f02.tr (f3.mono (fq := B.fp) (by simp [BA.fp]))
      have P1 := pre'_close1 a2.pre.less ev9
      have e1l : (close1 b).es.length ≤ 15 := by
        have h9 : (close1 b).es.length ≤ b.es.length := by
          unfold close1
          rw [dropB_fold]
          exact drops_len _ _
        omega
      have ev1 : (close1 b).ev = b.ev + 1 := by unfold close1; rfl
      refine ⟨_, _, rfl, rfl, ?_⟩
      generalize upd H2 B.o (HO.ins (CB K) dx2 (B.fs (b.ev + 1))) = H3 at *
      refine ⟨B, _, _, rfl, b3, P1.good.nd, by omega, fun H4 v s4 nw => ?_⟩
      obtain ⟨pi, rfl, gi, ni⟩ := nw
      have b4 := b3.same s4
      refine ⟨pi, rfl, ⟨_, SqL.of gi⟩, fun D2 hD2 => ?_⟩
      refine pick_go (fs := (close1 b).es.filter fun p => decide (p.2.word = .house)) (q2 := fun e => decide (e.behind = b.ev + 1)) hD2 gi ?_ ?_ ?_
      · have := List.length_filter_le (fun p : Str × Ent => decide (p.2.word = .house)) (close1 b).es
        omega
      · intro H5 pr R hm s5 r
        have b5 := b4.same s5
        obtain ⟨dx5, hi5⟩ := b5.ins
        obtain ⟨kvs5, hk5, he5⟩ := b5.entries
        have hg : getE (close1 b).es pr.1 = some pr.2 := mem_getE P1.good.nd (List.mem_filter.mp hm).1
        obtain ⟨v, hv, a, c, rfl, u1, u2⟩ := KvAt.some he5 hg
        simp only [a_tVar, a_tC, a_tOp, a_tUn, a_rI, a_rI0, a_rU, a_rEq, a_rNe, a_tTest, a_tB, a_tIsN, a_tNotN, a_tChain, a_tAnd, a_tOr, a_tNot, a_tAndV, a_tOrV, a_tNotV, a_tYes, a_tNext, a_tSeq, a_tCont, a_tBreak, a_tDrop, a_tRet, a_tIfS, a_tNever, a_gName, a_gNil, a_gCons, a_gTup, a_tAsg, a_tNil, a_tCons, a_tTup, a_tLst, a_tCB, a_tCU, a_tMU, a_tFld, a_sFld, a_tSl, a_tNoPart, a_tPart, a_rSlL, a_rSlT, a_rIxL, a_rIxT, a_rCat, a_rRep, a_rCatT, a_tDGet, a_tDIn, a_tDNotIn, a_sDPut, a_tDPop1, a_tDNewK, a_tBM, a_rAppend, a_rExtend, a_iList, a_iEnum, a_iRng1, a_iRng2, a_iVals, a_iItems, a_iRng3, a_iStr, a_tMX, a_tXf, a_wAs, a_tRaise, a_tVeI, a_tOst, a_tMkO, a_tMake, a_rSum, a_rIsi, a_tChain3, a_tAugS, a_rGetL, a_rPutL, a_ipI, a_rSet, a_tCKw, a_rMinD, a_rMin, a_rIxS, a_rSlS, a_iTup, a_rIn, a_rEqD, a_rNeD, upd_same, HO.lst.injEq, HO.tup.injEq, HO.dK.injEq, HO.frz.injEq, a_s0, a_s1, a_s2, a_s3, a_s4, a_s5, a_s6, a_s8, a_scal, a_scals, a_tFor, a_tLc, a_tWhile, a_wipe0, a_wipe1, k_cxU, w_cxU, k_blk, w_blk, and_assoc, exists_and_left, exists_eq_left, exists_eq_left', exists_eq_right, exists_eq, exists_const, List.getElem?_cons_zero, List.getElem?_cons_succ, List.set_cons_zero, List.set_cons_succ, Option.some.injEq, V.int.injEq, V.bl.injEq, V.ref.injEq, V.str.injEq, List.cons.injEq, and_true, true_and, List.cons_append, List.nil_append, List.append_nil, L2.start, List.map_cons, List.map_nil, List.length_cons, List.length_nil, List.replicate, Nat.sub_self, Nat.reduceSub, Nat.reduceAdd, Nat.zero_add, if_true, if_false, Bool.false_eq_true, Bool.true_eq_false, reduceIte, decide_eq_true_eq, Bool.not_eq_true', decide_eq_false_iff_not]
        refine ⟨_, _, _, hi5, T.c_Book, T.a_Book_entries, _, rfl, _, rfl, _, dgs hk5 hv, a, rfl, _, u1.sq, _, atI_n 3 rfl rfl, _, _, _, hi5, T.c_Book, T.a_Book_evening, _, rfl, rfl, ?_⟩
        rw [ev1, show decide (V.int pr.2.behind = V.int (b.ev + 1)) = decide (pr.2.behind = b.ev + 1) by simp]
        exact r
      intro H5 s5 g5
      have b5 := b4.same s5
      have eL : (((close1 b).es.filter fun p => decide (p.2.word = .house)).filter fun p => decide (p.2.behind = b.ev + 1)).map (·.1) = leavingOf (close1 b) := by
        unfold leavingOf
        rw [List.filter_filter, ev1]
        congr 1
        refine List.filter_congr fun p _ => ?_
        rw [Bool.and_comm]
      rw [eL] at g5
      have f05 := (f03.tr (s4.fr _)).tr (s5.fr _)
      have hD20 : H D2 = none := b3.free f03 (Same.free s4 hD2)
      have L5 : NewAt H H5 (.ref D2) (leavingOf (close1 b)) := ⟨D2, rfl, g5, hD20⟩
      have M5 := (N3.keep h2 (s4.fr _)).keep h2 (s5.fr _)
      refine ⟨⟨_, SqL.of g5⟩, ?_⟩
      have ll : (leavingOf (close1 b)).length ≤ 15 := Nat.le_trans sub_len e1l
      refine outs_go T b5 P1 g5 (h2.nofp hD20) (sub_nodup P1.good.nd) (fun x hx => ?_) (by omega) fun H6 u6 f6 b6 => ?_
      · obtain ⟨e, h1, h2⟩ := mem_by hx
        exact ⟨e, h1, by simp at h2; exact h2.1⟩
      have b6 : BookAt K H6 B _ (close2 (close1 b)) := b6
      have M6 := M5.keep h2 f6
      have L6 := L5.keep h2 f6
      have f06 := f05.tr f6
      have P2 := pre'_close2 P1
      have e2l : (close2 (close1 b)).es.length ≤ 15 := by
        have h9 : (close2 (close1 b)).es.length ≤ (close1 b).es.length := by
          unfold close2
          rw [outB_fold]
          exact drops_len _ _
        omega
      have ev2' : (close2 (close1 b)).ev = b.ev + 1 := by unfold close2; rw [outB_fold]; exact ev1
      obtain ⟨dx6, hi6⟩ := b6.ins
      obtain ⟨kvs6, hk6, he6⟩ := b6.entries
      simp only [a_tVar, a_tC, a_tOp, a_tUn, a_rI, a_rI0, a_rU, a_rEq, a_rNe, a_tTest, a_tB, a_tIsN, a_tNotN, a_tChain, a_tAnd, a_tOr, a_tNot, a_tAndV, a_tOrV, a_tNotV, a_tYes, a_tNext, a_tSeq, a_tCont, a_tBreak, a_tDrop, a_tRet, a_tIfS, a_tNever, a_gName, a_gNil, a_gCons, a_gTup, a_tAsg, a_tNil, a_tCons, a_tTup, a_tLst, a_tCB, a_tCU, a_tMU, a_tFld, a_sFld, a_tSl, a_tNoPart, a_tPart, a_rSlL, a_rSlT, a_rIxL, a_rIxT, a_rCat, a_rRep, a_rCatT, a_tDGet, a_tDIn, a_tDNotIn, a_sDPut, a_tDPop1, a_tDNewK, a_tBM, a_rAppend, a_rExtend, a_iList, a_iEnum, a_iRng1, a_iRng2, a_iVals, a_iItems, a_iRng3, a_iStr, a_tMX, a_tXf, a_wAs, a_tRaise, a_tVeI, a_tOst, a_tMkO, a_tMake, a_rSum, a_rIsi, a_tChain3, a_tAugS, a_rGetL, a_rPutL, a_ipI, a_rSet, a_tCKw, a_rMinD, a_rMin, a_rIxS, a_rSlS, a_iTup, a_rIn, a_rEqD, a_rNeD, upd_same, HO.lst.injEq, HO.tup.injEq, HO.dK.injEq, HO.frz.injEq, a_s0, a_s1, a_s2, a_s3, a_s4, a_s5, a_s6, a_s8, a_scal, a_scals, a_tFor, a_tLc, a_tWhile, a_wipe0, a_wipe1, k_cxU, w_cxU, k_blk, w_blk, and_assoc, exists_and_left, exists_eq_left, exists_eq_left', exists_eq_right, exists_eq, exists_const, List.getElem?_cons_zero, List.getElem?_cons_succ, List.set_cons_zero, List.set_cons_succ, Option.some.injEq, V.int.injEq, V.bl.injEq, V.ref.injEq, V.str.injEq, List.cons.injEq, and_true, true_and, List.cons_append, List.nil_append, List.append_nil, L2.start, List.map_cons, List.map_nil, List.length_cons, List.length_nil, List.replicate, Nat.sub_self, Nat.reduceSub, Nat.reduceAdd, Nat.zero_add, if_true, if_false, Bool.false_eq_true, Bool.true_eq_false, reduceIte, decide_eq_true_eq, Bool.not_eq_true', decide_eq_false_iff_not]
      refine ⟨_, _, _, hi6, T.c_Book, T.a_Book_entries, _, rfl, B.d, kvs6, _, rfl, hk6, he6, P2.good.nd, by omega, fun H7 pw s7 g7 n7 => ?_⟩
      have b7 := b6.same s7
      refine ⟨pw, rfl, ⟨_, SqL.of g7⟩, fun D4 hD4 => ?_⟩
      refine pick_go (fs := (close2 (close1 b)).es.filter fun p => decide (p.2.word = .waits)) (q2 := fun e => decide (e.first < b.ev + 1)) hD4 g7 ?_ ?_ ?_
      · have := List.length_filter_le (fun p : Str × Ent => decide (p.2.word = .waits)) (close2 (close1 b)).es
        omega
      · intro H8 pr R hm s8 r
        have b8 := b7.same s8
        obtain ⟨dx8, hi8⟩ := b8.ins
        obtain ⟨kvs8, hk8, he8⟩ := b8.entries
        have hg : getE (close2 (close1 b)).es pr.1 = some pr.2 := mem_getE P2.good.nd (List.mem_filter.mp hm).1
        obtain ⟨v, hv, a, c, rfl, u1, u2⟩ := KvAt.some he8 hg
        simp only [a_tVar, a_tC, a_tOp, a_tUn, a_rI, a_rI0, a_rU, a_rEq, a_rNe, a_tTest, a_tB, a_tIsN, a_tNotN, a_tChain, a_tAnd, a_tOr, a_tNot, a_tAndV, a_tOrV, a_tNotV, a_tYes, a_tNext, a_tSeq, a_tCont, a_tBreak, a_tDrop, a_tRet, a_tIfS, a_tNever, a_gName, a_gNil, a_gCons, a_gTup, a_tAsg, a_tNil, a_tCons, a_tTup, a_tLst, a_tCB, a_tCU, a_tMU, a_tFld, a_sFld, a_tSl, a_tNoPart, a_tPart, a_rSlL, a_rSlT, a_rIxL, a_rIxT, a_rCat, a_rRep, a_rCatT, a_tDGet, a_tDIn, a_tDNotIn, a_sDPut, a_tDPop1, a_tDNewK, a_tBM, a_rAppend, a_rExtend, a_iList, a_iEnum, a_iRng1, a_iRng2, a_iVals, a_iItems, a_iRng3, a_iStr, a_tMX, a_tXf, a_wAs, a_tRaise, a_tVeI, a_tOst, a_tMkO, a_tMake, a_rSum, a_rIsi, a_tChain3, a_tAugS, a_rGetL, a_rPutL, a_ipI, a_rSet, a_tCKw, a_rMinD, a_rMin, a_rIxS, a_rSlS, a_iTup, a_rIn, a_rEqD, a_rNeD, upd_same, HO.lst.injEq, HO.tup.injEq, HO.dK.injEq, HO.frz.injEq, a_s0, a_s1, a_s2, a_s3, a_s4, a_s5, a_s6, a_s8, a_scal, a_scals, a_tFor, a_tLc, a_tWhile, a_wipe0, a_wipe1, k_cxU, w_cxU, k_blk, w_blk, and_assoc, exists_and_left, exists_eq_left, exists_eq_left', exists_eq_right, exists_eq, exists_const, List.getElem?_cons_zero, List.getElem?_cons_succ, List.set_cons_zero, List.set_cons_succ, Option.some.injEq, V.int.injEq, V.bl.injEq, V.ref.injEq, V.str.injEq, List.cons.injEq, and_true, true_and, List.cons_append, List.nil_append, List.append_nil, L2.start, List.map_cons, List.map_nil, List.length_cons, List.length_nil, List.replicate, Nat.sub_self, Nat.reduceSub, Nat.reduceAdd, Nat.zero_add, if_true, if_false, Bool.false_eq_true, Bool.true_eq_false, reduceIte, decide_eq_true_eq, Bool.not_eq_true', decide_eq_false_iff_not]
        refine ⟨_, _, _, hi8, T.c_Book, T.a_Book_entries, _, rfl, _, rfl, _, dgs hk8 hv, a, rfl, _, u1.sq, _, atI_n 2 rfl rfl, _, _, _, hi8, T.c_Book, T.a_Book_evening, _, rfl, _, rfl, _, rfl, ?_⟩
        rw [ev2']
        exact r
      intro H8 s8 g8
      have b8 := b7.same s8
      have eL2 : (((close2 (close1 b)).es.filter fun p => decide (p.2.word = .waits)).filter fun p => decide (p.2.first < b.ev + 1)).map (·.1) = lateOf (close2 (close1 b)) := by
        unfold lateOf
        rw [List.filter_filter, ev2']
        congr 1
        refine List.filter_congr fun p _ => ?_
        rw [Bool.and_comm]
      rw [eL2] at g8
      have f08 := (f06.tr (s7.fr _)).tr (s8.fr _)
      have hD40 : H D4 = none := b6.free f06 (Same.free s7 hD4)
      have T8 : NewAt H H8 (.ref D4) (lateOf (close2 (close1 b))) := ⟨D4, rfl, g8, hD40⟩
      have M8 := (M6.keep h2 (s7.fr _)).keep h2 (s8.fr _)
      have L8 := (L6.keep h2 (s7.fr _)).keep h2 (s8.fr _)
      refine ⟨⟨_, SqL.of g8⟩, ?_⟩
      have tl : (lateOf (close2 (close1 b))).length ≤ 15 := Nat.le_trans sub_len e2l
      refine drops_go T b8 g8 (h2.nofp hD40) (sub_nodup P2.good.nd) sub_keys (by omega) fun H9 u9 f9 b9 => ?_
      have b9 : BookAt K H9 B _ (close3 (close2 (close1 b))) := b9
      have M9 := M8.keep h2 f9
      have L9 := L8.keep h2 f9
      have T9 := T8.keep h2 f9
      have f09 := f08.tr f9
      have P3 := close_pre a2.pre ev9
      obtain ⟨dx9, hi9⟩ := b9.ins
      simp only [a_tVar, a_tC, a_tOp, a_tUn, a_rI, a_rI0, a_rU, a_rEq, a_rNe, a_tTest, a_tB, a_tIsN, a_tNotN, a_tChain, a_tAnd, a_tOr, a_tNot, a_tAndV, a_tOrV, a_tNotV, a_tYes, a_tNext, a_tSeq, a_tCont, a_tBreak, a_tDrop, a_tRet, a_tIfS, a_tNever, a_gName, a_gNil, a_gCons, a_gTup, a_tAsg, a_tNil, a_tCons, a_tTup, a_tLst, a_tCB, a_tCU, a_tMU, a_tFld, a_sFld, a_tSl, a_tNoPart, a_tPart, a_rSlL, a_rSlT, a_rIxL, a_rIxT, a_rCat, a_rRep, a_rCatT, a_tDGet, a_tDIn, a_tDNotIn, a_sDPut, a_tDPop1, a_tDNewK, a_tBM, a_rAppend, a_rExtend, a_iList, a_iEnum, a_iRng1, a_iRng2, a_iVals, a_iItems, a_iRng3, a_iStr, a_tMX, a_tXf, a_wAs, a_tRaise, a_tVeI, a_tOst, a_tMkO, a_tMake, a_rSum, a_rIsi, a_tChain3, a_tAugS, a_rGetL, a_rPutL, a_ipI, a_rSet, a_tCKw, a_rMinD, a_rMin, a_rIxS, a_rSlS, a_iTup, a_rIn, a_rEqD, a_rNeD, upd_same, HO.lst.injEq, HO.tup.injEq, HO.dK.injEq, HO.frz.injEq, a_s0, a_s1, a_s2, a_s3, a_s4, a_s5, a_s6, a_s8, a_scal, a_scals, a_tFor, a_tLc, a_tWhile, a_wipe0, a_wipe1, k_cxU, w_cxU, k_blk, w_blk, and_assoc, exists_and_left, exists_eq_left, exists_eq_left', exists_eq_right, exists_eq, exists_const, List.getElem?_cons_zero, List.getElem?_cons_succ, List.set_cons_zero, List.set_cons_succ, Option.some.injEq, V.int.injEq, V.bl.injEq, V.ref.injEq, V.str.injEq, List.cons.injEq, and_true, true_and, List.cons_append, List.nil_append, List.append_nil, L2.start, List.map_cons, List.map_nil, List.length_cons, List.length_nil, List.replicate, Nat.sub_self, Nat.reduceSub, Nat.reduceAdd, Nat.zero_add, if_true, if_false, Bool.false_eq_true, Bool.true_eq_false, reduceIte, decide_eq_true_eq, Bool.not_eq_true', decide_eq_false_iff_not]
      refine ⟨_, _, hi9, rfl, al, B, _, _, rfl, a1, b9, P3, by omega, fun H10 v f10 b10 nw => fun r hr => ?_⟩
      have W10 := nw.back b9 f09
      have hrs := (Same.rfl' (H := H10)).new hr (o := .tup [.ref D, .ref D2, .ref D4, v])
      refine q _ (.ref r) ((f09.tr f10).tr (hrs.fr _)) ((b10.same hrs).up (by omega)) ⟨r, _, rfl, .inl upd_same, ?_⟩
      exact .cons ((M9.keep h2 f10).keep h2 (hrs.fr _)) (.cons ((L9.keep h2 f10).keep h2 (hrs.fr _)) (.cons ((T9.keep h2 f10).keep h2 (hrs.fr _)) (.cons (W10.keep h2 (hrs.fr _)) .nil)))
end
end Nb
end
section
set_option Elab.async false
set_option linter.all false
set_option maxRecDepth 100000
set_option maxHeartbeats 4000000
namespace Nb
open PySem PySem.Spec PyProof.Rows L2 NbU NbM
section
variable {P : Program} {w : World} {K : PySem.W.Frag} {mg : Str → Option Value} {base : Heap} {H H' : Hp} {B : BA} {n n' : Nat} {b : Bk Str}
/-! ### come -/
def sp_Book_come (K : PySem.W.Frag) : Sp := fun vs H Q _ => ∃ (B : BA) (n : Nat) (b : Bk Str) (nm : Str), vs = [.ref B.o, .str nm] ∧ DoesAt K H (.come nm) B n b Q
theorem sc_Book_come : FnScope ["self", "name", "entry", "before", "e", "guest", "origin", "goal", "room", "moves", "level"] ["self", "name"] (defScope s_Book_come) := ⟨rfl, rfl, rfl, by decide +kernel, rfl, by decide +kernel, by decide +kernel⟩
theorem g_Book_come (T : Txt K mg) : GM P w K mg base true CX0 8 (He.ga K "Book") "come" [] (sp_Book_come K) := by
  obtain ⟨fd, F⟩ := T.f_Book_come
  refine ⟨_, fd, ["self", "name"], [], T.m_Book_come, F.bindsN (fun _ _ _ _ _ _ us hl => match us, hl with | [_, _], _ => rfl), .nil, okU F sc_Book_come (fun vs H Q E h => ?_) (fun cdv A outer s H vs Q E pl hr hh hw h => ⟨_, PSs.nox (pss_cons (ps_set (i := 2) sc_Book_come.nd rfl (by first | exact Or.inl rfl | exact Or.inr rfl) (pe_mu (pv 0) T.c_Book (g_Book_need_tonight T) (hr.mono (by decide)) hw (fun _ => hh rfl) (pa_cons (pv 1) pa_nil)))
      (pss_cons (ps_set (i := 3) sc_Book_come.nd rfl (by first | exact Or.inl rfl | exact Or.inr rfl) (pe_callB (len_seqK K) rfl T.n_len boot_len (pa_cons (pe_mu0 (pe_fldK K (pv 0) rfl) T.c_House (g_House_moved T) (hr.mono (by decide)) hw (fun _ => hh rfl)) pa_nil)))
      (pss_cons (L2N.ps_try_as (i := 4) (Wout := fun _ _ _ _ => False) rfl rfl sc_Book_come.nd rfl rfl ⟨rfl, by decide, .inl T.g_Full⟩ takes_never (fun W pn xe tk po => (pss_one (ps_asg (pe_mx (pe_fldK K (pv 0) rfl) T.c_House (g_House_let_in T) (hr.mono (by decide)) (.inl (hh rfl)) (fun _ => hh rfl) (fun σ => L2N.passAt tk σ) (pa_cons (pv 1) (pa_cons (pe_ix (ix_tupK K) (pv 2) pe_int (fun _ _ => rfl)) pa_nil))) (pgu_tupK (n := 2) K (.inl (hh rfl)) (pgs_cons (pg_name (i := 8) sc_Book_come.nd rfl (by first | exact Or.inl rfl | exact Or.inr rfl)) (pgs_cons (pg_name (i := 9) sc_Book_come.nd rfl (by first | exact Or.inl rfl | exact Or.inr rfl)) pgs_nil)))))) (fun a oe cls d pn hz hfv => (pss_cons (ps_set (i := 10) sc_Book_come.nd rfl (by first | exact Or.inl rfl | exact Or.inr rfl) (pe_xf T.x_xf T.x_kind hz.zc hfv (pv 4)))
      (pss_cons (ps_expr (pe_mu (pv 0) T.c_Book (g_Book_drop T) ((roomS hr).mono (by decide)) (warmS hz hfv) (fun z => Bool.noConfusion z) (pa_cons pe_str (pa_cons (pv 1) pa_nil))))
      (pss_one (ps_ret (pe_tup (pa_cons pe_str (pa_cons (pv 10) (pa_cons (pe_mu0 (pv 0) T.c_Book (g_Book_fill T) ((roomS hr).mono (by decide)) (warmS hz hfv) (fun z => Bool.noConfusion z)) pa_nil))))))))))
      (pss_cons (psu_for PassesOwn.never hw (piu_list (pe_slice (sl_listK K) (pe_mu0 (pe_fldK K (pv 0) rfl) T.c_House (g_House_moved T) (hr.mono (by decide)) hw (fun _ => hh rfl)) (po_some (pv 3)) po_none)) (pgu_tupK (n := 3) K hw (pgs_cons (pg_name (i := 5) sc_Book_come.nd rfl (by first | exact Or.inl rfl | exact Or.inr rfl)) (pgs_cons (pg_name (i := 6) sc_Book_come.nd rfl (by first | exact Or.inl rfl | exact Or.inr rfl)) (pgs_cons (pg_name (i := 7) sc_Book_come.nd rfl (by first | exact Or.inl rfl | exact Or.inr rfl)) pgs_nil)))) (pss_one (ps_expr (pe_mu (pv 0) T.c_Book (g_Book_note T) (hr.mono (by decide)) hw (fun z => Bool.noConfusion z) (pa_cons pe_str (pa_cons (pv 5) pa_nil))))))
      (pss_cons (ps_dput (huU hr) (pe_fldK K (pv 0) rfl) (pv 1) (pe_op (op_catTK K) (pe_tup (pa_cons pe_str pa_nil)) (pe_slice (sl_tupK K) (pv 2) (po_some pe_int) po_none)) rfl)
      (pss_cons (ps_expr (pe_mu (pv 0) T.c_Book (g_Book_note T) (hr.mono (by decide)) hw (fun z => Bool.noConfusion z) (pa_cons pe_str (pa_cons (pv 1) pa_nil))))
      (pss_one (ps_ret (pe_tup (pa_cons pe_str (pa_cons (pv 8) (pa_cons (pv 9) pa_nil)))))))))))), ?_⟩)⟩
  · obtain ⟨B, n, b, nm, rfl, _⟩ := h
    rfl
  · obtain ⟨B, n, b, nm, rfl, ⟨al, a1, a2, e, a3, a4, a5⟩, h2, h3, q⟩ := h
    obtain ⟨dx, hi⟩ := h2.ins
    obtain ⟨kvs, hk, he⟩ := h2.entries
    obtain ⟨m, ml, hh⟩ := h2.house
    obtain ⟨dy, hy⟩ := hh.ins
    simp only [a_tVar, a_tC, a_tOp, a_tUn, a_rI, a_rI0, a_rU, a_rEq, a_rNe, a_tTest, a_tB, a_tIsN, a_tNotN, a_tChain, a_tAnd, a_tOr, a_tNot, a_tAndV, a_tOrV, a_tNotV, a_tYes, a_tNext, a_tSeq, a_tCont, a_tBreak, a_tDrop, a_tRet, a_tIfS, a_tNever, a_gName, a_gNil, a_gCons, a_gTup, a_tAsg, a_tNil, a_tCons, a_tTup, a_tLst, a_tCB, a_tCU, a_tMU, a_tFld, a_sFld, a_tSl, a_tNoPart, a_tPart, a_rSlL, a_rSlT, a_rIxL, a_rIxT, a_rCat, a_rRep, a_rCatT, a_tDGet, a_tDIn, a_tDNotIn, a_sDPut, a_tDPop1, a_tDNewK, a_tBM, a_rAppend, a_rExtend, a_iList, a_iEnum, a_iRng1, a_iRng2, a_iVals, a_iItems, a_iRng3, a_iStr, a_tMX, a_tXf, a_wAs, a_tRaise, a_tVeI, a_tOst, a_tMkO, a_tMake, a_rSum, a_rIsi, a_tChain3, a_tAugS, a_rGetL, a_rPutL, a_ipI, a_rSet, a_tCKw, a_rMinD, a_rMin, a_rIxS, a_rSlS, a_iTup, a_rIn, a_rEqD, a_rNeD, upd_same, HO.lst.injEq, HO.tup.injEq, HO.dK.injEq, HO.frz.injEq, a_s0, a_s1, a_s2, a_s3, a_s4, a_s5, a_s6, a_s8, a_scal, a_scals, a_tFor, a_tLc, a_tWhile, a_wipe0, a_wipe1, k_cxU, w_cxU, k_blk, w_blk, and_assoc, exists_and_left, exists_eq_left, exists_eq_left', exists_eq_right, exists_eq, exists_const, List.getElem?_cons_zero, List.getElem?_cons_succ, List.set_cons_zero, List.set_cons_succ, Option.some.injEq, V.int.injEq, V.bl.injEq, V.ref.injEq, V.str.injEq, List.cons.injEq, and_true, true_and, List.cons_append, List.nil_append, List.append_nil, L2.start, List.map_cons, List.map_nil, List.length_cons, List.length_nil, List.replicate, Nat.sub_self, Nat.reduceSub, Nat.reduceAdd, Nat.zero_add, if_true, if_false, Bool.false_eq_true, Bool.true_eq_false, reduceIte, decide_eq_true_eq, Bool.not_eq_true', decide_eq_false_iff_not]
    have nd := a2.pre.good.nd
    have g := mem_getE nd a3
    have hkE : nm ∈ keysE b.es := getE_some_iff.mpr ⟨e, g⟩
    have eOk := a2.pre.good.ok _ a3
    have el := es_le a2.pre
    have al15 := a1.len
    have plen : b.hs.places.length ≤ 15 := by
      have h1 := nodup_le (keysE b.hs.places) al a2.pre.hs.nd (fun x hx => by
        obtain ⟨e', z, _⟩ := (a2.pre.hk x).mp hx
        exact a2.pre.al x (List.mem_map.mpr ⟨_, z, rfl⟩))
      unfold keysE at h1
      rw [List.length_map] at h1
      omega
    have hnp : nm ∉ keysE b.hs.places := fun z => by
      obtain ⟨e', z1, z2⟩ := (a2.pre.hk nm).mp z
      rw [key_inj nd z1 a3, a4] at z2
      cases z2
    refine ⟨_, _, hi, rfl, B, n, b, nm, e, rfl, h2, g, a4, a5, fun v hv => ?_⟩
    obtain ⟨ea, ec, rfl, ta, tc⟩ := hv
    refine ⟨_, _, _, hi, T.c_Book, T.a_Book_inn, _, rfl, _, rfl, _, _, hy, rfl, B.hs, m, b.hs, rfl, hh, fun H1 p ws s1 hp wl wt => ?_⟩
    have i1 := s1 _ _ hi
    have y1 := s1 _ _ hy
    have hh1 := hh.same s1
    refine ⟨p, rfl, _, .inl (SqL.of hp), _, _, _, i1, T.c_Book, T.a_Book_inn, _, rfl, _, rfl, _, _, y1, rfl, ea, rfl, _, (ta.keep s1.tups).sq, .int e.kind, atI_n 1 rfl rfl, ?_⟩
    refine ⟨B.hs, m, b.hs, nm, e.kind, rfl, hh1, a2.pre.hs, a1.ok nm (a2.pre.al nm hkE), hnp, eOk.k1, by have z : e.kind ≤ b.ladder.length := eOk.k2; have := a2.pre.l4; omega, by omega, by omega, fun lvl el H2 d s2 hd => ?_, fun h' el m' ml' mm' H2 r x y f2 hh2 hr => ?_⟩
    · have ed : doB b (.come nm) = (fillB (dropB b nm), .away lvl (fillN (dropB b nm))) := by
        unfold doB
        simp only [g, el]
      rw [ed] at q
      unfold L2.WE
      unfold L2.wAs
      refine ⟨true, T.x_exm, fun _ xa hxa => ?_, fun z => Bool.noConfusion z⟩
      have s02 := s1.tr s2
      have b2 := h2.same s02
      obtain ⟨dx2, hi2⟩ := b2.ins
      simp only [a_tVar, a_tC, a_tOp, a_tUn, a_rI, a_rI0, a_rU, a_rEq, a_rNe, a_tTest, a_tB, a_tIsN, a_tNotN, a_tChain, a_tAnd, a_tOr, a_tNot, a_tAndV, a_tOrV, a_tNotV, a_tYes, a_tNext, a_tSeq, a_tCont, a_tBreak, a_tDrop, a_tRet, a_tIfS, a_tNever, a_gName, a_gNil, a_gCons, a_gTup, a_tAsg, a_tNil, a_tCons, a_tTup, a_tLst, a_tCB, a_tCU, a_tMU, a_tFld, a_sFld, a_tSl, a_tNoPart, a_tPart, a_rSlL, a_rSlT, a_rIxL, a_rIxT, a_rCat, a_rRep, a_rCatT, a_tDGet, a_tDIn, a_tDNotIn, a_sDPut, a_tDPop1, a_tDNewK, a_tBM, a_rAppend, a_rExtend, a_iList, a_iEnum, a_iRng1, a_iRng2, a_iVals, a_iItems, a_iRng3, a_iStr, a_tMX, a_tXf, a_wAs, a_tRaise, a_tVeI, a_tOst, a_tMkO, a_tMake, a_rSum, a_rIsi, a_tChain3, a_tAugS, a_rGetL, a_rPutL, a_ipI, a_rSet, a_tCKw, a_rMinD, a_rMin, a_rIxS, a_rSlS, a_iTup, a_rIn, a_rEqD, a_rNeD, upd_same, HO.lst.injEq, HO.tup.injEq, HO.dK.injEq, HO.frz.injEq, a_s0, a_s1, a_s2, a_s3, a_s4, a_s5, a_s6, a_s8, a_scal, a_scals, a_tFor, a_tLc, a_tWhile, a_wipe0, a_wipe1, k_cxU, w_cxU, k_blk, w_blk, and_assoc, exists_and_left, exists_eq_left, exists_eq_left', exists_eq_right, exists_eq, exists_const, List.getElem?_cons_zero, List.getElem?_cons_succ, List.set_cons_zero, List.set_cons_succ, Option.some.injEq, V.int.injEq, V.bl.injEq, V.ref.injEq, V.str.injEq, List.cons.injEq, and_true, true_and, List.cons_append, List.nil_append, List.append_nil, L2.start, List.map_cons, List.map_nil, List.length_cons, List.length_nil, List.replicate, Nat.sub_self, Nat.reduceSub, Nat.reduceAdd, Nat.zero_add, if_true, if_false, Bool.false_eq_true, Bool.true_eq_false, reduceIte, decide_eq_true_eq, Bool.not_eq_true', decide_eq_false_iff_not]
      refine ⟨_, hd, _, rfl, _, _, hi2, rfl, B, n, b, nm, _, rfl, b2, hkE, by omega, fun H3 f3 b3 => ?_⟩
      obtain ⟨dx3, hi3⟩ := b3.ins
      have f03 := (s02.fr B.fp).tr f3
      refine ⟨_, _, hi3, rfl, al, B, n + 1, dropB b nm, rfl, a1, b3, pre_drop a2.pre (fun e' z => by rw [key_inj nd z a3, a4]; exact fun z => nomatch z), by omega, fun H4 v f4 b4 nw => fun r hr => ?_⟩
      have s5 := (Same.rfl' (H := H4)).new hr (o := .tup [.str "away", .int lvl, v])
      exact q _ _ ((f03.tr f4).tr (s5.fr _)) ((b4.same s5).up (n' := n + 1000) (by omega)) ⟨r, v, rfl, .inl upd_same, (nw.back b3 f03).keep h2 (s5.fr _)⟩
    · have ed : doB b (.come nm) = ({ b with hs := h', es := setW b.es nm .house }, .inn) := by
        unfold doB
        simp only [g, el]
      rw [ed] at q
      dsimp only
      have b2 := (h2.same s1).inn (n' := n + 5) f2 hh2 (by omega) (by omega)
      have f02 := (s1.fr B.fp).tr (f2.mono (fq := B.fp) (by simp [BA.fp, HA.fp]))
      obtain ⟨dx2, hi2⟩ := b2.ins
      obtain ⟨dy2, hy2⟩ := hh2.ins
      refine ⟨r, rfl, _, hr.sq, rfl, _, _, rfl, _, _, rfl, rfl, _, _, _, hi2, T.c_Book, T.a_Book_inn, _, rfl, _, rfl, _, _, hy2, rfl, B.hs, m', h', rfl, hh2, fun H3 p3 ws3 s3 hp3 wl3 wt3 => ⟨p3, rfl, _, SqL.of hp3, fun D hD => ?_⟩⟩
      have s3D := s3.new hD (o := .lst (cutV ws3 (some (ws.length : Int)) none))
      have b3 := b2.same s3D
      rw [cutV_drop _ _ (by omega)] at *
      have dl : (ws3.drop (ws.length : Int).toNat).length ≤ 5 := by
        rw [List.length_drop]
        omega
      have nD : D ∉ B.fp := (b2.same s3).nofp hD
      refine ⟨⟨_, SqL.of upd_same⟩, ?_⟩
      refine for_go (walk_list (xs := ws3.drop (ws.length : Int).toNat)) (fun i σ H' => Fr B.fp (upd H3 D (HO.lst (ws3.drop (ws.length : Int).toNat))) H' ∧ ∃ u5 u6 u7, σ = [some (.ref B.o), some (.str nm), some (.ref ea), some (.int ws.length), none, u5, u6, u7, some x, some y, none] ∧ BookAt K H' B (n + 5 + i) { b with hs := h' }) ⟨.rfl', none, none, none, rfl, b3⟩ (fun i σ H' _ ⟨f, _⟩ => SqL.of (f.keep _ _ upd_same nD)) ?_ ?_
      · rintro i z σ H4 H5 hi' ⟨f4, u5, u6, u7, rfl, b4⟩ ⟨rfl, ez⟩
        obtain ⟨a, x1, x2, x3, rfl, tz⟩ := wt3 z (List.mem_of_mem_drop (List.mem_of_getElem? ez))
        have tz4 := (tz.keep (Same.rfl'.new hD).tups).keep f4.tups
        obtain ⟨dx4, hi4⟩ := b4.ins
        simp only [a_tVar, a_tC, a_tOp, a_tUn, a_rI, a_rI0, a_rU, a_rEq, a_rNe, a_tTest, a_tB, a_tIsN, a_tNotN, a_tChain, a_tAnd, a_tOr, a_tNot, a_tAndV, a_tOrV, a_tNotV, a_tYes, a_tNext, a_tSeq, a_tCont, a_tBreak, a_tDrop, a_tRet, a_tIfS, a_tNever, a_gName, a_gNil, a_gCons, a_gTup, a_tAsg, a_tNil, a_tCons, a_tTup, a_tLst, a_tCB, a_tCU, a_tMU, a_tFld, a_sFld, a_tSl, a_tNoPart, a_tPart, a_rSlL, a_rSlT, a_rIxL, a_rIxT, a_rCat, a_rRep, a_rCatT, a_tDGet, a_tDIn, a_tDNotIn, a_sDPut, a_tDPop1, a_tDNewK, a_tBM, a_rAppend, a_rExtend, a_iList, a_iEnum, a_iRng1, a_iRng2, a_iVals, a_iItems, a_iRng3, a_iStr, a_tMX, a_tXf, a_wAs, a_tRaise, a_tVeI, a_tOst, a_tMkO, a_tMake, a_rSum, a_rIsi, a_tChain3, a_tAugS, a_rGetL, a_rPutL, a_ipI, a_rSet, a_tCKw, a_rMinD, a_rMin, a_rIxS, a_rSlS, a_iTup, a_rIn, a_rEqD, a_rNeD, upd_same, HO.lst.injEq, HO.tup.injEq, HO.dK.injEq, HO.frz.injEq, a_s0, a_s1, a_s2, a_s3, a_s4, a_s5, a_s6, a_s8, a_scal, a_scals, a_tFor, a_tLc, a_tWhile, a_wipe0, a_wipe1, k_cxU, w_cxU, k_blk, w_blk, and_assoc, exists_and_left, exists_eq_left, exists_eq_left', exists_eq_right, exists_eq, exists_const, List.getElem?_cons_zero, List.getElem?_cons_succ, List.set_cons_zero, List.set_cons_succ, Option.some.injEq, V.int.injEq, V.bl.injEq, V.ref.injEq, V.str.injEq, List.cons.injEq, and_true, true_and, List.cons_append, List.nil_append, List.append_nil, L2.start, List.map_cons, List.map_nil, List.length_cons, List.length_nil, List.replicate, Nat.sub_self, Nat.reduceSub, Nat.reduceAdd, Nat.zero_add, if_true, if_false, Bool.false_eq_true, Bool.true_eq_false, reduceIte, decide_eq_true_eq, Bool.not_eq_true', decide_eq_false_iff_not]
        refine ⟨_, tz4.sq, rfl, _, _, rfl, _, _, rfl, _, _, rfl, rfl, ?_⟩
        exact ⟨_, _, hi4, rfl, B, _, _, _, _, rfl, b4, by omega, fun H6 f6 b6 => ⟨f4.tr (f6.mono (by simp [BA.fp])), b6⟩⟩
      · rintro σ H4 ⟨f4, u5, u6, u7, rfl, b4⟩
        obtain ⟨dx4, hi4⟩ := b4.ins
        obtain ⟨kvs4, hk4, he4⟩ := b4.entries
        have kl4 := Paired.length he4
        have fH4 := (f02.tr (s3D.fr _)).tr f4
        have ta4 := ta.keep fH4.tups
        have tc4 := tc.keep fH4.tups
        have ec1 : cutV [.str (wordS e.word), .int e.kind, .int e.first, .int e.behind, .ref ec] (some 1) none = [.int e.kind, .int e.first, .int e.behind, .ref ec] := by
          rw [cutV_drop _ _ (by decide)]
          rfl
        simp only [a_tVar, a_tC, a_tOp, a_tUn, a_rI, a_rI0, a_rU, a_rEq, a_rNe, a_tTest, a_tB, a_tIsN, a_tNotN, a_tChain, a_tAnd, a_tOr, a_tNot, a_tAndV, a_tOrV, a_tNotV, a_tYes, a_tNext, a_tSeq, a_tCont, a_tBreak, a_tDrop, a_tRet, a_tIfS, a_tNever, a_gName, a_gNil, a_gCons, a_gTup, a_tAsg, a_tNil, a_tCons, a_tTup, a_tLst, a_tCB, a_tCU, a_tMU, a_tFld, a_sFld, a_tSl, a_tNoPart, a_tPart, a_rSlL, a_rSlT, a_rIxL, a_rIxT, a_rCat, a_rRep, a_rCatT, a_tDGet, a_tDIn, a_tDNotIn, a_sDPut, a_tDPop1, a_tDNewK, a_tBM, a_rAppend, a_rExtend, a_iList, a_iEnum, a_iRng1, a_iRng2, a_iVals, a_iItems, a_iRng3, a_iStr, a_tMX, a_tXf, a_wAs, a_tRaise, a_tVeI, a_tOst, a_tMkO, a_tMake, a_rSum, a_rIsi, a_tChain3, a_tAugS, a_rGetL, a_rPutL, a_ipI, a_rSet, a_tCKw, a_rMinD, a_rMin, a_rIxS, a_rSlS, a_iTup, a_rIn, a_rEqD, a_rNeD, upd_same, HO.lst.injEq, HO.tup.injEq, HO.dK.injEq, HO.frz.injEq, a_s0, a_s1, a_s2, a_s3, a_s4, a_s5, a_s6, a_s8, a_scal, a_scals, a_tFor, a_tLc, a_tWhile, a_wipe0, a_wipe1, k_cxU, w_cxU, k_blk, w_blk, and_assoc, exists_and_left, exists_eq_left, exists_eq_left', exists_eq_right, exists_eq, exists_const, List.getElem?_cons_zero, List.getElem?_cons_succ, List.set_cons_zero, List.set_cons_succ, Option.some.injEq, V.int.injEq, V.bl.injEq, V.ref.injEq, V.str.injEq, List.cons.injEq, and_true, true_and, List.cons_append, List.nil_append, List.append_nil, L2.start, List.map_cons, List.map_nil, List.length_cons, List.length_nil, List.replicate, Nat.sub_self, Nat.reduceSub, Nat.reduceAdd, Nat.zero_add, if_true, if_false, Bool.false_eq_true, Bool.true_eq_false, reduceIte, decide_eq_true_eq, Bool.not_eq_true', decide_eq_false_iff_not]
        intro p5 hp5
        have eS : (upd H4 p5 (.tup [.str "house"])) p5 = some (.tup [.str "house"]) := upd_same
        have s5 := (Same.rfl' (H := H4)).new hp5 (o := .tup [.str "house"])
        refine ⟨_, (ta4.keep s5.tups).sq, fun z => absurd z.1 (by simp [HT.sIx]), fun p6 hp6 => ?_⟩
        rw [ec1] at *
        refine ⟨_, SqT.of (get_new upd_same hp6), _, SqT.of upd_same, List.cons_ne_nil _ _, sz 5 (by decide), fun z => absurd z (List.cons_ne_nil _ _), fun _ p7 hp7 => ?_⟩
        have sC := (s5.new hp6 (o := .tup [.int e.kind, .int e.first, .int e.behind, .ref ec])).new hp7 (o := .tup ([.str "house"] ++ [.int e.kind, .int e.first, .int e.behind, .ref ec]))
        have e7 : (upd (upd (upd H4 p5 (.tup [.str "house"])) p6 (.tup [.int e.kind, .int e.first, .int e.behind, .ref ec])) p7 (.tup ([.str "house"] ++ [.int e.kind, .int e.first, .int e.behind, .ref ec]))) p7 = some (.tup [.str "house", .int e.kind, .int e.first, .int e.behind, .ref ec]) := upd_same
        have kC := sC _ _ hk4
        have bC := b4.same sC
        have fC : Fr [B.d] _ _ := (Fr.rfl' (fp := [B.d])).put (List.mem_singleton.mpr rfl) kC (o := .dK (putK kvs4 (Sum.inr nm) (.ref p7))) (fun _ z => nomatch z)
        have tpC := tups_put (o := .dK (putK kvs4 (Sum.inr nm) (.ref p7))) kC (fun _ z => nomatch z)
        have EC := EsAt.keep (KvAt.put (EsAt.keep he4 sC.tups) (n := nm) (v := .ref p7) (e := { e with word := .house }) ⟨p7, ec, rfl, .inl e7, tc4.keep sC.tups⟩) tpC
        have EC : EsAt K _ _ (putE b.es nm { e with word := .house }) := EC
        rw [put_setW nd g .house] at EC
        have bD := bC.ens fC upd_same EC
        obtain ⟨dxC, hiC⟩ := bC.ins
        obtain ⟨dxD, hiD⟩ := bD.ins
        refine ⟨_, _, _, hiC, T.c_Book, T.a_Book_entries, _, rfl, _, rfl, _, DPut.k (k := Sum.inr nm) kC (szl _ (by have z : kvs4.length = b.es.length := kl4; omega)), _, _, hiD, rfl, B, _, _, _, _, rfl, bD, by omega, fun H9 f9 b9 => fun r9 hr9 => ?_⟩
        have s9 := (Same.rfl' (H := H9)).new hr9 (o := .tup [.str "in", x, y])
        exact q _ _ ((((fH4.tr (sC.fr _)).tr (fC.mono (by simp [BA.fp]))).tr (f9.mono (by simp [BA.fp]))).tr (s9.fr _)) ((b9.same s9).up (by omega)) ⟨r9, x, y, rfl, .inl upd_same⟩
end
end Nb
end
section
set_option Elab.async false
set_option linter.all false
set_option maxRecDepth 100000
set_option maxHeartbeats 4000000
namespace Nb
open PySem PySem.Spec PyProof.Rows L2 NbU NbM
section
variable {P : Program} {w : World} {K : PySem.W.Frag} {mg : Str → Option Value} {base : Heap} {H H' : Hp} {B : BA} {n n' : Nat} {b : Bk Str}
/-! ### equality of data -/
theorem dp_ints {H : Hp} : ∀ ns : List Int, DpAll K H (IL ns) (ns.map PyData.int)
  | [] => .nil
  | n :: ns => .cons (.int n) (dp_ints ns)
theorem dp_strs {H : Hp} : ∀ ns : List Str, DpAll K H (ns.map V.str) (ns.map PyData.str)
  | [] => .nil
  | n :: ns => .cons (.str n) (dp_strs ns)
theorem lay_all {α : Type} (f : α → PyData) : ∀ l : List α, (∀ x ∈ l, (f x).canLay0 = true) → PyData.canLayAll0 (l.map f) = true
  | [], _ => by simp [PyData.canLayAll0]
  | x :: l, h => by
    rw [List.map_cons, PyData.canLayAll0, h x List.mem_cons_self, lay_all f l fun y hy => h y (List.mem_cons_of_mem _ hy)]
    rfl
theorem dep_all {α : Type} (f : α → PyData) (d : Nat) (h : ∀ x, (f x).depth ≤ d) : ∀ l : List α, PyData.depthAll (l.map f) ≤ d
  | [] => by simp [PyData.depthAll]
  | x :: l => by
    have h1 := dep_all f d h l
    have h2 := h x
    simp only [List.map_cons, PyData.depthAll]
    omega
theorem shaped_of {d : PyData} (h1 : d.canLay0 = true) (h2 : d.depth ≤ 64) : SeqAt.shaped d = true := by
  show (d.canLay0 && decide (d.depth ≤ 64)) = true
  rw [h1, decide_eq_true h2]
  rfl
theorem shaped_list {α : Type} (f : α → PyData) (l : List α) (h : ∀ x ∈ l, (f x).canLay0 = true) (d : Nat) (hd : d ≤ 60) (h2 : ∀ x, (f x).depth ≤ d) : SeqAt.shaped (.list (l.map f)) = true := by
  refine shaped_of (by rw [PyData.canLay0]; exact lay_all f l h) ?_
  have := dep_all f d h2 l
  simp only [PyData.depth]
  omega
theorem shaped_ints (l : List Int) : SeqAt.shaped (.list (l.map PyData.int)) = true := shaped_list _ l (fun _ _ => by simp [PyData.canLay0]) 1 (by decide) (fun _ => by simp [PyData.depth])
theorem shaped_strs (l : List Str) (h : ∀ x ∈ l, PyData.strOk x = true) : SeqAt.shaped (.list (l.map PyData.str)) = true := shaped_list _ l (fun x hx => by simp [PyData.canLay0, h x hx]) 1 (by decide) (fun _ => by simp [PyData.depth])
theorem shaped_nil : SeqAt.shaped (.list []) = true := shaped_ints []
theorem at_IL {ns : List Int} {k : Int} (h0 : 0 ≤ k) (h1 : k < ns.length) : ∃ i, atI (IL ns) k = some (.int i) := by
  have : k.toNat < ns.length := by omega
  refine ⟨ns[k.toNat], atI_n k.toNat (by omega) ?_⟩
  rw [List.getElem?_map, List.getElem?_eq_getElem this]
  rfl
/-! ### numbers of the script -/
def sp_law_cell (K : PySem.W.Frag) : Sp := fun vs H Q _ => ∃ (s : Addr) (ns : List Int) (k : Int), vs = [.ref s, .int k] ∧ SqL K H s (IL ns) ∧ 0 ≤ k ∧ ∀ H' r, Same H H' → Q (.int r) H'
theorem sc_law_cell : FnScope ["_law_script", "_law_at"] ["_law_script", "_law_at"] (defScope s_law_cell) := ⟨rfl, rfl, rfl, by decide +kernel, rfl, by decide +kernel, by decide +kernel⟩
theorem g_law_cell (T : Txt K mg) : GF P w K mg base true 1 "_law_cell" [] (sp_law_cell K) := by
  obtain ⟨fd, F⟩ := T.f_law_cell
  refine ⟨_, fd, ["_law_script", "_law_at"], [], T.g_law_cell, F.kp, F.bindsN (fun _ _ _ _ _ _ us hl => match us, hl with | [_, _], _ => rfl), .nil, okU F sc_law_cell (fun vs H Q E h => ?_) (fun cdv A outer s H vs Q E pl hr hh hw h => ⟨_, PSs.nox (pss_cons (ps_if (pt_cmpR (op_lt) (pv 1) (pe_callB (len_seqK K) rfl T.n_len boot_len (pa_cons (pv 0) pa_nil)) (nomark _)) (pss_one (ps_ret (pe_op op_mod (pe_ix (ix_listK K) (pv 0) (pv 1) (fun _ _ => rfl)) pe_int))) pss_nil)
      (pss_cons (ps_if (pt_cmpR (op_eqDK K (hu64 hr)) (pv 0) (pe_lst pa_nil) (nomark _)) (pss_one (ps_ret (pe_op op_add (pe_op op_mul pe_int (pv 1)) pe_int))) pss_nil)
      (pss_one (ps_ret (pe_op op_add (pe_op op_mod (pe_ix (ix_listK K) (pv 0) (pe_op op_mod (pe_op op_mul (pv 1) pe_int) (pe_callB (len_seqK K) rfl T.n_len boot_len (pa_cons (pv 0) pa_nil))) (fun _ _ => rfl)) pe_int) (pe_op op_mul pe_int (pv 1))))))), ?_⟩)⟩
  · obtain ⟨s, ns, k, rfl, _⟩ := h
    rfl
  · obtain ⟨s, ns, k, rfl, h1, h2, q⟩ := h
    simp only [a_tVar, a_tC, a_tOp, a_tUn, a_rI, a_rI0, a_rU, a_rEq, a_rNe, a_tTest, a_tB, a_tIsN, a_tNotN, a_tChain, a_tAnd, a_tOr, a_tNot, a_tAndV, a_tOrV, a_tNotV, a_tYes, a_tNext, a_tSeq, a_tCont, a_tBreak, a_tDrop, a_tRet, a_tIfS, a_tNever, a_gName, a_gNil, a_gCons, a_gTup, a_tAsg, a_tNil, a_tCons, a_tTup, a_tLst, a_tCB, a_tCU, a_tMU, a_tFld, a_sFld, a_tSl, a_tNoPart, a_tPart, a_rSlL, a_rSlT, a_rIxL, a_rIxT, a_rCat, a_rRep, a_rCatT, a_tDGet, a_tDIn, a_tDNotIn, a_sDPut, a_tDPop1, a_tDNewK, a_tBM, a_rAppend, a_rExtend, a_iList, a_iEnum, a_iRng1, a_iRng2, a_iVals, a_iItems, a_iRng3, a_iStr, a_tMX, a_tXf, a_wAs, a_tRaise, a_tVeI, a_tOst, a_tMkO, a_tMake, a_rSum, a_rIsi, a_tChain3, a_tAugS, a_rGetL, a_rPutL, a_ipI, a_rSet, a_tCKw, a_rMinD, a_rMin, a_rIxS, a_rSlS, a_iTup, a_rIn, a_rEqD, a_rNeD, upd_same, HO.lst.injEq, HO.tup.injEq, HO.dK.injEq, HO.frz.injEq, a_s0, a_s1, a_s2, a_s3, a_s4, a_s5, a_s6, a_s8, a_scal, a_scals, a_tFor, a_tLc, a_tWhile, a_wipe0, a_wipe1, k_cxU, w_cxU, k_blk, w_blk, and_assoc, exists_and_left, exists_eq_left, exists_eq_left', exists_eq_right, exists_eq, exists_const, List.getElem?_cons_zero, List.getElem?_cons_succ, List.set_cons_zero, List.set_cons_succ, Option.some.injEq, V.int.injEq, V.bl.injEq, V.ref.injEq, V.str.injEq, List.cons.injEq, and_true, true_and, List.cons_append, List.nil_append, List.append_nil, L2.start, List.map_cons, List.map_nil, List.length_cons, List.length_nil, List.replicate, Nat.sub_self, Nat.reduceSub, Nat.reduceAdd, Nat.zero_add, if_true, if_false, Bool.false_eq_true, Bool.true_eq_false, reduceIte, decide_eq_true_eq, Bool.not_eq_true', decide_eq_false_iff_not]
    have hl : (IL ns).length = ns.length := by simp
    refine ⟨_, .inl h1, ?_⟩
    rw [hl]
    by_cases c : k < ns.length
    · rw [if_pos c]
      obtain ⟨i, hi⟩ := at_IL h2 c
      exact ⟨_, h1, _, hi, _, rfl, by decide, q _ _ Same.rfl'⟩
    · rw [if_neg c]
      intro p hp
      have s1 := (Same.rfl' (H := H)).new hp (o := .lst [])
      refine ⟨_, .lst (Same.seq s1 h1) (dp_ints ns), _, .lst (SqL.of upd_same) .nil, shaped_ints ns, shaped_nil, ?_⟩
      cases ns with
      | nil =>
        rw [if_pos (by simp [PyData.eqv, PyData.eqvAll])]
        exact ⟨.inl ⟨by decide, by decide⟩, q _ _ s1⟩
      | cons a r =>
        rw [if_neg (by simp [PyData.eqv, PyData.eqvAll])]
        have lp : (0 : Int) < ((a :: r : List Int).length : Int) := by simp
        obtain ⟨i, hi⟩ := at_IL (ns := a :: r) (k := k * 7 % ((a :: r : List Int).length : Int)) (Int.emod_nonneg _ (by omega)) (Int.emod_lt_of_pos _ lp)
        refine ⟨.inr ⟨by decide, by decide⟩, _, .inl (Same.seq s1 h1), ?_⟩
        rw [hl]
        exact ⟨lp, _, Same.seq s1 h1, _, hi, _, rfl, by decide, .inl ⟨by decide, by decide⟩, q _ _ s1⟩
def sp_law_part (K : PySem.W.Frag) : Sp := fun vs H Q _ => ∃ (s : Addr) (ns : List Int) (k i m : Int), vs = [.ref s, .int k, .int i, .int m] ∧ SqL K H s (IL ns) ∧ 0 ≤ k ∧ 0 ≤ i ∧ i ≤ 1000 ∧ 0 < m ∧ ∀ H' r, Same H H' → 0 ≤ r → r < m → Q (.int r) H'
theorem sc_law_part : FnScope ["_law_script", "_law_at", "_law_k", "_law_many", "_law_number", "_law_j"] ["_law_script", "_law_at", "_law_k", "_law_many"] (defScope s_law_part) := ⟨rfl, rfl, rfl, by decide +kernel, rfl, by decide +kernel, by decide +kernel⟩
theorem g_law_part (T : Txt K mg) : GF P w K mg base true 2 "_law_part" [] (sp_law_part K) := by
  obtain ⟨fd, F⟩ := T.f_law_part
  refine ⟨_, fd, ["_law_script", "_law_at", "_law_k", "_law_many"], [], T.g_law_part, F.kp, F.bindsN (fun _ _ _ _ _ _ us hl => match us, hl with | [_, _, _, _], _ => rfl), .nil, okU F sc_law_part (fun vs H Q E h => ?_) (fun cdv A outer s H vs Q E pl hr hh hw h => ⟨_, PSs.nox (pss_cons (ps_if (PW.pt (pw_and (pt_cmpR (op_lt) (pv 1) (pe_callB (len_seqK K) rfl T.n_len boot_len (pa_cons (pv 0) pa_nil)) (nomark _)) (pw_and1 (pt_cmpR (op_ge) (pe_ix (ix_listK K) (pv 0) (pv 1) (fun _ _ => rfl)) (pe_op op_pow pe_int pe_int) (nomark _))))) (pss_cons (ps_set (i := 4) sc_law_part.nd rfl (by first | exact Or.inl rfl | exact Or.inr rfl) (pe_ix (ix_listK K) (pv 0) (pv 1) (fun _ _ => rfl)))
      (pss_cons (ps_for PassesOwn.never rfl (pi_range1 rfl T.n_range (pa_cons (pv 2) pa_nil)) (pg_name (i := 5) sc_law_part.nd rfl (by first | exact Or.inl rfl | exact Or.inr rfl)) (pss_one (ps_set (i := 4) sc_law_part.nd rfl (by first | exact Or.inl rfl | exact Or.inr rfl) (pe_op op_fdivW (pv 4) pe_int))))
      (pss_one (ps_if (pt_cmpR (op_gt) (pv 4) pe_int (nomark _)) (pss_one (ps_ret (pe_op op_mod (pe_op op_mod (pv 4) pe_int) (pv 3)))) pss_nil)))) pss_nil)
      (pss_cons (ps_set (i := 4) sc_law_part.nd rfl (by first | exact Or.inl rfl | exact Or.inr rfl) (pe_op op_mod (pe_op op_mul (pe_op op_add (pe_op op_add (pe_cu (g_law_cell T) (hr.mono (by decide)) hw (fun _ => hh rfl) rfl (pa_cons (pv 0) (pa_cons (pv 1) pa_nil))) (pe_op op_mul pe_int (pv 1))) pe_int) (pe_op op_add pe_int (pe_op op_mul pe_int (pv 2)))) pe_int))
      (pss_cons (ps_set (i := 4) sc_law_part.nd rfl (by first | exact Or.inl rfl | exact Or.inr rfl) (pe_op op_add (pe_op op_mod (pe_op op_mul (pv 4) (pv 4)) pe_int) pe_int))
      (pss_one (ps_ret (pe_op op_mod (pe_op op_fdivW (pe_op op_mod (pe_op op_mul (pv 4) (pv 4)) pe_int) pe_int) (pv 3))))))), ?_⟩)⟩
  · obtain ⟨s, ns, k, i, m, rfl, _⟩ := h
    rfl
  · obtain ⟨s, ns, k, i, m, rfl, h1, h2, h3, h4, h5, q⟩ := h
    simp only [a_tVar, a_tC, a_tOp, a_tUn, a_rI, a_rI0, a_rU, a_rEq, a_rNe, a_tTest, a_tB, a_tIsN, a_tNotN, a_tChain, a_tAnd, a_tOr, a_tNot, a_tAndV, a_tOrV, a_tNotV, a_tYes, a_tNext, a_tSeq, a_tCont, a_tBreak, a_tDrop, a_tRet, a_tIfS, a_tNever, a_gName, a_gNil, a_gCons, a_gTup, a_tAsg, a_tNil, a_tCons, a_tTup, a_tLst, a_tCB, a_tCU, a_tMU, a_tFld, a_sFld, a_tSl, a_tNoPart, a_tPart, a_rSlL, a_rSlT, a_rIxL, a_rIxT, a_rCat, a_rRep, a_rCatT, a_tDGet, a_tDIn, a_tDNotIn, a_sDPut, a_tDPop1, a_tDNewK, a_tBM, a_rAppend, a_rExtend, a_iList, a_iEnum, a_iRng1, a_iRng2, a_iVals, a_iItems, a_iRng3, a_iStr, a_tMX, a_tXf, a_wAs, a_tRaise, a_tVeI, a_tOst, a_tMkO, a_tMake, a_rSum, a_rIsi, a_tChain3, a_tAugS, a_rGetL, a_rPutL, a_ipI, a_rSet, a_tCKw, a_rMinD, a_rMin, a_rIxS, a_rSlS, a_iTup, a_rIn, a_rEqD, a_rNeD, upd_same, HO.lst.injEq, HO.tup.injEq, HO.dK.injEq, HO.frz.injEq, a_s0, a_s1, a_s2, a_s3, a_s4, a_s5, a_s6, a_s8, a_scal, a_scals, a_tFor, a_tLc, a_tWhile, a_wipe0, a_wipe1, k_cxU, w_cxU, k_blk, w_blk, and_assoc, exists_and_left, exists_eq_left, exists_eq_left', exists_eq_right, exists_eq, exists_const, List.getElem?_cons_zero, List.getElem?_cons_succ, List.set_cons_zero, List.set_cons_succ, Option.some.injEq, V.int.injEq, V.bl.injEq, V.ref.injEq, V.str.injEq, List.cons.injEq, and_true, true_and, List.cons_append, List.nil_append, List.append_nil, L2.start, List.map_cons, List.map_nil, List.length_cons, List.length_nil, List.replicate, Nat.sub_self, Nat.reduceSub, Nat.reduceAdd, Nat.zero_add, if_true, if_false, Bool.false_eq_true, Bool.true_eq_false, reduceIte, decide_eq_true_eq, Bool.not_eq_true', decide_eq_false_iff_not]
    have hl : (IL ns).length = ns.length := by simp
    refine ⟨_, .inl h1, ?_⟩
    rw [hl]
    have p10 : CPow 10 40 := ⟨by decide, by decide, by decide⟩
    by_cases c : k < ns.length
    · rw [if_pos c]
      obtain ⟨x, hx⟩ := at_IL h2 c
      refine ⟨_, h1, _, hx, p10, _, rfl, ?_⟩
      by_cases c2 : 10 ^ Int.toNat 40 ≤ x
      · rw [if_pos c2]
        refine ⟨_, h1, _, hx, by omega, by omega, ?_⟩
        refine for_go walk_range (fun j σ H' => H' = H ∧ ∃ (y : Int) (u : Option V), σ = [some (.ref s), some (.int k), some (.int i), some (.int m), some (.int y), u]) ⟨rfl, x, none, rfl⟩ (fun _ _ _ _ _ => trivial) ?_ ?_
        · rintro j y σ H3 H4 hi ⟨rfl, y0, u, rfl⟩ ⟨rfl, rfl⟩
          simp only [a_tVar, a_tC, a_tOp, a_tUn, a_rI, a_rI0, a_rU, a_rEq, a_rNe, a_tTest, a_tB, a_tIsN, a_tNotN, a_tChain, a_tAnd, a_tOr, a_tNot, a_tAndV, a_tOrV, a_tNotV, a_tYes, a_tNext, a_tSeq, a_tCont, a_tBreak, a_tDrop, a_tRet, a_tIfS, a_tNever, a_gName, a_gNil, a_gCons, a_gTup, a_tAsg, a_tNil, a_tCons, a_tTup, a_tLst, a_tCB, a_tCU, a_tMU, a_tFld, a_sFld, a_tSl, a_tNoPart, a_tPart, a_rSlL, a_rSlT, a_rIxL, a_rIxT, a_rCat, a_rRep, a_rCatT, a_tDGet, a_tDIn, a_tDNotIn, a_sDPut, a_tDPop1, a_tDNewK, a_tBM, a_rAppend, a_rExtend, a_iList, a_iEnum, a_iRng1, a_iRng2, a_iVals, a_iItems, a_iRng3, a_iStr, a_tMX, a_tXf, a_wAs, a_tRaise, a_tVeI, a_tOst, a_tMkO, a_tMake, a_rSum, a_rIsi, a_tChain3, a_tAugS, a_rGetL, a_rPutL, a_ipI, a_rSet, a_tCKw, a_rMinD, a_rMin, a_rIxS, a_rSlS, a_iTup, a_rIn, a_rEqD, a_rNeD, upd_same, HO.lst.injEq, HO.tup.injEq, HO.dK.injEq, HO.frz.injEq, a_s0, a_s1, a_s2, a_s3, a_s4, a_s5, a_s6, a_s8, a_scal, a_scals, a_tFor, a_tLc, a_tWhile, a_wipe0, a_wipe1, k_cxU, w_cxU, k_blk, w_blk, and_assoc, exists_and_left, exists_eq_left, exists_eq_left', exists_eq_right, exists_eq, exists_const, List.getElem?_cons_zero, List.getElem?_cons_succ, List.set_cons_zero, List.set_cons_succ, Option.some.injEq, V.int.injEq, V.bl.injEq, V.ref.injEq, V.str.injEq, List.cons.injEq, and_true, true_and, List.cons_append, List.nil_append, List.append_nil, L2.start, List.map_cons, List.map_nil, List.length_cons, List.length_nil, List.replicate, Nat.sub_self, Nat.reduceSub, Nat.reduceAdd, Nat.zero_add, if_true, if_false, Bool.false_eq_true, Bool.true_eq_false, reduceIte, decide_eq_true_eq, Bool.not_eq_true', decide_eq_false_iff_not]
          exact ⟨⟨by decide, by decide⟩, _, rfl⟩
        · rintro σ H3 ⟨rfl, y0, u, rfl⟩
          simp only [a_tVar, a_tC, a_tOp, a_tUn, a_rI, a_rI0, a_rU, a_rEq, a_rNe, a_tTest, a_tB, a_tIsN, a_tNotN, a_tChain, a_tAnd, a_tOr, a_tNot, a_tAndV, a_tOrV, a_tNotV, a_tYes, a_tNext, a_tSeq, a_tCont, a_tBreak, a_tDrop, a_tRet, a_tIfS, a_tNever, a_gName, a_gNil, a_gCons, a_gTup, a_tAsg, a_tNil, a_tCons, a_tTup, a_tLst, a_tCB, a_tCU, a_tMU, a_tFld, a_sFld, a_tSl, a_tNoPart, a_tPart, a_rSlL, a_rSlT, a_rIxL, a_rIxT, a_rCat, a_rRep, a_rCatT, a_tDGet, a_tDIn, a_tDNotIn, a_sDPut, a_tDPop1, a_tDNewK, a_tBM, a_rAppend, a_rExtend, a_iList, a_iEnum, a_iRng1, a_iRng2, a_iVals, a_iItems, a_iRng3, a_iStr, a_tMX, a_tXf, a_wAs, a_tRaise, a_tVeI, a_tOst, a_tMkO, a_tMake, a_rSum, a_rIsi, a_tChain3, a_tAugS, a_rGetL, a_rPutL, a_ipI, a_rSet, a_tCKw, a_rMinD, a_rMin, a_rIxS, a_rSlS, a_iTup, a_rIn, a_rEqD, a_rNeD, upd_same, HO.lst.injEq, HO.tup.injEq, HO.dK.injEq, HO.frz.injEq, a_s0, a_s1, a_s2, a_s3, a_s4, a_s5, a_s6, a_s8, a_scal, a_scals, a_tFor, a_tLc, a_tWhile, a_wipe0, a_wipe1, k_cxU, w_cxU, k_blk, w_blk, and_assoc, exists_and_left, exists_eq_left, exists_eq_left', exists_eq_right, exists_eq, exists_const, List.getElem?_cons_zero, List.getElem?_cons_succ, List.set_cons_zero, List.set_cons_succ, Option.some.injEq, V.int.injEq, V.bl.injEq, V.ref.injEq, V.str.injEq, List.cons.injEq, and_true, true_and, List.cons_append, List.nil_append, List.append_nil, L2.start, List.map_cons, List.map_nil, List.length_cons, List.length_nil, List.replicate, Nat.sub_self, Nat.reduceSub, Nat.reduceAdd, Nat.zero_add, if_true, if_false, Bool.false_eq_true, Bool.true_eq_false, reduceIte, decide_eq_true_eq, Bool.not_eq_true', decide_eq_false_iff_not]
          by_cases c3 : 0 < y0
          · rw [if_pos c3]
            exact ⟨by decide, h5, q _ _ Same.rfl' (Int.emod_nonneg _ (by omega)) (Int.emod_lt_of_pos _ h5)⟩
          · rw [if_neg c3]
            refine ⟨s, ns, k, rfl, h1, h2, fun H5 r s5 => ⟨.inl ⟨by decide, by decide⟩, r, rfl, .inl ⟨by decide, by decide⟩, .inr ⟨by omega, by omega⟩, by decide, .inl ⟨by omega, by omega⟩, by decide, .inl ⟨by omega, by omega⟩, by decide, ⟨by decide, by decide⟩, h5, q _ _ s5 (Int.emod_nonneg _ (by omega)) (Int.emod_lt_of_pos _ h5)⟩⟩
      · rw [if_neg c2]
        refine ⟨s, ns, k, rfl, h1, h2, fun H5 r s5 => ⟨.inl ⟨by decide, by decide⟩, r, rfl, .inl ⟨by decide, by decide⟩, .inr ⟨by omega, by omega⟩, by decide, .inl ⟨by omega, by omega⟩, by decide, .inl ⟨by omega, by omega⟩, by decide, ⟨by decide, by decide⟩, h5, q _ _ s5 (Int.emod_nonneg _ (by omega)) (Int.emod_lt_of_pos _ h5)⟩⟩
    · rw [if_neg c]
      refine ⟨s, ns, k, rfl, h1, h2, fun H5 r s5 => ⟨.inl ⟨by decide, by decide⟩, r, rfl, .inl ⟨by decide, by decide⟩, .inr ⟨by omega, by omega⟩, by decide, .inl ⟨by omega, by omega⟩, by decide, .inl ⟨by omega, by omega⟩, by decide, ⟨by decide, by decide⟩, h5, q _ _ s5 (Int.emod_nonneg _ (by omega)) (Int.emod_lt_of_pos _ h5)⟩⟩
def sp_law_row (K : PySem.W.Frag) : Sp := fun vs H Q _ => ∃ (s : Addr) (ns : List Int) (k m : Int), vs = [.ref s, .int k, .int m] ∧ SqL K H s (IL ns) ∧ 0 ≤ k ∧ 0 ≤ m ∧ m ≤ 100 ∧
  ∀ H' p xs, Same H H' → H' p = some (.lst (IL xs)) → H p = none → xs.length = m.toNat → (∀ x ∈ xs, 0 ≤ x) → Q (.ref p) H'
theorem sc_law_row : FnScope ["_law_script", "_law_at", "_law_many", "_law_k"] ["_law_script", "_law_at", "_law_many"] (defScope s_law_row) := ⟨rfl, rfl, rfl, by decide +kernel, rfl, by decide +kernel, by decide +kernel⟩
theorem g_law_row (T : Txt K mg) : GF P w K mg base true 3 "_law_row" [] (sp_law_row K) := by
  obtain ⟨fd, F⟩ := T.f_law_row
  refine ⟨_, fd, ["_law_script", "_law_at", "_law_many"], [], T.g_law_row, F.kp, F.bindsN (fun _ _ _ _ _ _ us hl => match us, hl with | [_, _, _], _ => rfl), .nil, okU F sc_law_row (fun vs H Q E h => ?_) (fun cdv A outer s H vs Q E pl hr hh hw h => ⟨_, PSs.nox (pss_one (ps_ret (pe_lc rfl sc_law_row.nd (pi_range1 rfl T.n_range (pa_cons (pv 2) pa_nil)) (blkOk_by (own := [("_law_k", 3)]) (by kernel_rfl)) (fun _ _ _ _ _ => (pg_name (i := 3) sc_law_row.nd rfl (by first | exact Or.inl rfl | exact Or.inr rfl))) (fun _ _ _ _ _ => pts_nil) (fun _ _ _ _ _ => (pe_cu (g_law_part T) (hr.mono (by decide)) (Or.inl (hh rfl)) (fun _ => hh rfl) rfl (pa_cons (pv 0) (pa_cons (pv 1) (pa_cons (pv 3) (pa_cons (pe_op op_pow pe_int pe_int) pa_nil))))))))), ?_⟩)⟩
  · obtain ⟨s, ns, k, m, rfl, _⟩ := h
    rfl
  · obtain ⟨s, ns, k, m, rfl, h1, h2, h3, h4, q⟩ := h
    simp only [a_tVar, a_tC, a_tOp, a_tUn, a_rI, a_rI0, a_rU, a_rEq, a_rNe, a_tTest, a_tB, a_tIsN, a_tNotN, a_tChain, a_tAnd, a_tOr, a_tNot, a_tAndV, a_tOrV, a_tNotV, a_tYes, a_tNext, a_tSeq, a_tCont, a_tBreak, a_tDrop, a_tRet, a_tIfS, a_tNever, a_gName, a_gNil, a_gCons, a_gTup, a_tAsg, a_tNil, a_tCons, a_tTup, a_tLst, a_tCB, a_tCU, a_tMU, a_tFld, a_sFld, a_tSl, a_tNoPart, a_tPart, a_rSlL, a_rSlT, a_rIxL, a_rIxT, a_rCat, a_rRep, a_rCatT, a_tDGet, a_tDIn, a_tDNotIn, a_sDPut, a_tDPop1, a_tDNewK, a_tBM, a_rAppend, a_rExtend, a_iList, a_iEnum, a_iRng1, a_iRng2, a_iVals, a_iItems, a_iRng3, a_iStr, a_tMX, a_tXf, a_wAs, a_tRaise, a_tVeI, a_tOst, a_tMkO, a_tMake, a_rSum, a_rIsi, a_tChain3, a_tAugS, a_rGetL, a_rPutL, a_ipI, a_rSet, a_tCKw, a_rMinD, a_rMin, a_rIxS, a_rSlS, a_iTup, a_rIn, a_rEqD, a_rNeD, upd_same, HO.lst.injEq, HO.tup.injEq, HO.dK.injEq, HO.frz.injEq, a_s0, a_s1, a_s2, a_s3, a_s4, a_s5, a_s6, a_s8, a_scal, a_scals, a_tFor, a_tLc, a_tWhile, a_wipe0, a_wipe1, k_cxU, w_cxU, k_blk, w_blk, and_assoc, exists_and_left, exists_eq_left, exists_eq_left', exists_eq_right, exists_eq, exists_const, List.getElem?_cons_zero, List.getElem?_cons_succ, List.set_cons_zero, List.set_cons_succ, Option.some.injEq, V.int.injEq, V.bl.injEq, V.ref.injEq, V.str.injEq, List.cons.injEq, and_true, true_and, List.cons_append, List.nil_append, List.append_nil, L2.start, List.map_cons, List.map_nil, List.length_cons, List.length_nil, List.replicate, Nat.sub_self, Nat.reduceSub, Nat.reduceAdd, Nat.zero_add, if_true, if_false, Bool.false_eq_true, Bool.true_eq_false, reduceIte, decide_eq_true_eq, Bool.not_eq_true', decide_eq_false_iff_not]
    refine ⟨by omega, by omega, fun D hD => ?_⟩
    refine lc_ex walk_range hD (fun i H' acc => ∃ xs : List Int, acc = IL xs ∧ xs.length = i ∧ ∀ x ∈ xs, 0 ≤ x) ⟨[], rfl, rfl, fun _ z => absurd z (by simp)⟩ (fun _ _ => trivial) ?_ ?_
    · rintro i y H3 H4 acc hi s3 hD3 ⟨xs, rfl, xl, xp⟩ ⟨rfl, rfl⟩
      simp only [a_tVar, a_tC, a_tOp, a_tUn, a_rI, a_rI0, a_rU, a_rEq, a_rNe, a_tTest, a_tB, a_tIsN, a_tNotN, a_tChain, a_tAnd, a_tOr, a_tNot, a_tAndV, a_tOrV, a_tNotV, a_tYes, a_tNext, a_tSeq, a_tCont, a_tBreak, a_tDrop, a_tRet, a_tIfS, a_tNever, a_gName, a_gNil, a_gCons, a_gTup, a_tAsg, a_tNil, a_tCons, a_tTup, a_tLst, a_tCB, a_tCU, a_tMU, a_tFld, a_sFld, a_tSl, a_tNoPart, a_tPart, a_rSlL, a_rSlT, a_rIxL, a_rIxT, a_rCat, a_rRep, a_rCatT, a_tDGet, a_tDIn, a_tDNotIn, a_sDPut, a_tDPop1, a_tDNewK, a_tBM, a_rAppend, a_rExtend, a_iList, a_iEnum, a_iRng1, a_iRng2, a_iVals, a_iItems, a_iRng3, a_iStr, a_tMX, a_tXf, a_wAs, a_tRaise, a_tVeI, a_tOst, a_tMkO, a_tMake, a_rSum, a_rIsi, a_tChain3, a_tAugS, a_rGetL, a_rPutL, a_ipI, a_rSet, a_tCKw, a_rMinD, a_rMin, a_rIxS, a_rSlS, a_iTup, a_rIn, a_rEqD, a_rNeD, upd_same, HO.lst.injEq, HO.tup.injEq, HO.dK.injEq, HO.frz.injEq, a_s0, a_s1, a_s2, a_s3, a_s4, a_s5, a_s6, a_s8, a_scal, a_scals, a_tFor, a_tLc, a_tWhile, a_wipe0, a_wipe1, k_cxU, w_cxU, k_blk, w_blk, and_assoc, exists_and_left, exists_eq_left, exists_eq_left', exists_eq_right, exists_eq, exists_const, List.getElem?_cons_zero, List.getElem?_cons_succ, List.set_cons_zero, List.set_cons_succ, Option.some.injEq, V.int.injEq, V.bl.injEq, V.ref.injEq, V.str.injEq, List.cons.injEq, and_true, true_and, List.cons_append, List.nil_append, List.append_nil, L2.start, List.map_cons, List.map_nil, List.length_cons, List.length_nil, List.replicate, Nat.sub_self, Nat.reduceSub, Nat.reduceAdd, Nat.zero_add, if_true, if_false, Bool.false_eq_true, Bool.true_eq_false, reduceIte, decide_eq_true_eq, Bool.not_eq_true', decide_eq_false_iff_not]
      refine ⟨⟨by decide, by decide, by decide⟩, s, ns, k, 0 + (i : Int), _, rfl, Same.seq s3 h1, h2, by omega, by omega, by decide, fun H5 r s5 r0 r1 => ?_⟩
      have g5 := s5 _ _ hD3
      exact ⟨_, g5, szl _ (by simp; omega), (s3.tr s5).put hD, xs ++ [r], by simp, by simp [xl], fun z hz => (List.mem_append.mp hz).elim (xp z) fun e => by rw [List.mem_singleton.mp e]; exact r0⟩
    · rintro H' acc s hD' ⟨xs, rfl, xl, xp⟩
      exact q _ _ _ s hD' hD xl xp
def sp_law_lowest : Sp := fun vs H Q _ => ∃ (a b : Int), vs = [.int a, .int b] ∧ 0 ≤ a ∧ a ≤ b ∧ 1 ≤ b ∧ b ≤ 100 ∧
  ∀ p c, H p = none → ChOk c → Int.gcd c.1 c.2 = 1 → Q (.ref p) (upd H p (.tup [.int c.1, .int c.2]))
theorem sc_law_lowest : FnScope ["_law_top", "_law_bottom", "_law_one", "_law_other", "_law_rest"] ["_law_top", "_law_bottom"] (defScope s_law_lowest) := ⟨rfl, rfl, rfl, by decide +kernel, rfl, by decide +kernel, by decide +kernel⟩
theorem g_law_lowest (T : Txt K mg) : GF P w K mg base true 1 "_law_lowest" [] sp_law_lowest := by
  obtain ⟨fd, F⟩ := T.f_law_lowest
  refine ⟨_, fd, ["_law_top", "_law_bottom"], [], T.g_law_lowest, F.kp, F.bindsN (fun _ _ _ _ _ _ us hl => match us, hl with | [_, _], _ => rfl), .nil, okU F sc_law_lowest (fun vs H Q E h => ?_) (fun cdv A outer s H vs Q E pl hr hh hw h => ⟨_, PSs.nox (pss_cons (ps_set (i := 2) sc_law_lowest.nd rfl (by first | exact Or.inl rfl | exact Or.inr rfl) (pv 0))
      (pss_cons (ps_set (i := 3) sc_law_lowest.nd rfl (by first | exact Or.inl rfl | exact Or.inr rfl) (pv 1))
      (pss_cons (ps_while PassesOwn.never (pt_cmpR (op_gt) (pv 3) pe_int (nomark _)) (pss_cons (ps_set (i := 4) sc_law_lowest.nd rfl (by first | exact Or.inl rfl | exact Or.inr rfl) (pe_op op_mod (pv 2) (pv 3)))
      (pss_cons (ps_set (i := 2) sc_law_lowest.nd rfl (by first | exact Or.inl rfl | exact Or.inr rfl) (pv 3))
      (pss_one (ps_set (i := 3) sc_law_lowest.nd rfl (by first | exact Or.inl rfl | exact Or.inr rfl) (pv 4))))))
      (pss_one (ps_ret (pe_tup (pa_cons (pe_op op_fdivW (pv 0) (pv 2)) (pa_cons (pe_op op_fdivW (pv 1) (pv 2)) pa_nil)))))))), ?_⟩)⟩
  · obtain ⟨a, b, rfl, _⟩ := h
    rfl
  · obtain ⟨a, b, rfl, h1, h2, h3, h4, q⟩ := h
    simp only [a_tVar, a_tC, a_tOp, a_tUn, a_rI, a_rI0, a_rU, a_rEq, a_rNe, a_tTest, a_tB, a_tIsN, a_tNotN, a_tChain, a_tAnd, a_tOr, a_tNot, a_tAndV, a_tOrV, a_tNotV, a_tYes, a_tNext, a_tSeq, a_tCont, a_tBreak, a_tDrop, a_tRet, a_tIfS, a_tNever, a_gName, a_gNil, a_gCons, a_gTup, a_tAsg, a_tNil, a_tCons, a_tTup, a_tLst, a_tCB, a_tCU, a_tMU, a_tFld, a_sFld, a_tSl, a_tNoPart, a_tPart, a_rSlL, a_rSlT, a_rIxL, a_rIxT, a_rCat, a_rRep, a_rCatT, a_tDGet, a_tDIn, a_tDNotIn, a_sDPut, a_tDPop1, a_tDNewK, a_tBM, a_rAppend, a_rExtend, a_iList, a_iEnum, a_iRng1, a_iRng2, a_iVals, a_iItems, a_iRng3, a_iStr, a_tMX, a_tXf, a_wAs, a_tRaise, a_tVeI, a_tOst, a_tMkO, a_tMake, a_rSum, a_rIsi, a_tChain3, a_tAugS, a_rGetL, a_rPutL, a_ipI, a_rSet, a_tCKw, a_rMinD, a_rMin, a_rIxS, a_rSlS, a_iTup, a_rIn, a_rEqD, a_rNeD, upd_same, HO.lst.injEq, HO.tup.injEq, HO.dK.injEq, HO.frz.injEq, a_s0, a_s1, a_s2, a_s3, a_s4, a_s5, a_s6, a_s8, a_scal, a_scals, a_tFor, a_tLc, a_tWhile, a_wipe0, a_wipe1, k_cxU, w_cxU, k_blk, w_blk, and_assoc, exists_and_left, exists_eq_left, exists_eq_left', exists_eq_right, exists_eq, exists_const, List.getElem?_cons_zero, List.getElem?_cons_succ, List.set_cons_zero, List.set_cons_succ, Option.some.injEq, V.int.injEq, V.bl.injEq, V.ref.injEq, V.str.injEq, List.cons.injEq, and_true, true_and, List.cons_append, List.nil_append, List.append_nil, L2.start, List.map_cons, List.map_nil, List.length_cons, List.length_nil, List.replicate, Nat.sub_self, Nat.reduceSub, Nat.reduceAdd, Nat.zero_add, if_true, if_false, Bool.false_eq_true, Bool.true_eq_false, reduceIte, decide_eq_true_eq, Bool.not_eq_true', decide_eq_false_iff_not]
    refine while_go (fun m σ H' => H' = H ∧ ∃ (x y : Nat) (r : Option V), σ = [some (.int a), some (.int b), some (.int x), some (.int y), r] ∧ m = y ∧ Nat.gcd x y = Int.gcd a b) b.natAbs ⟨rfl, a.natAbs, b.natAbs, none, ?_, rfl, rfl⟩ ?_
    · rw [Int.natAbs_of_nonneg h1, Int.natAbs_of_nonneg (by omega)]
    · rintro m σ H' ⟨rfl, x, y, r, rfl, rfl, e⟩
      simp only [a_tVar, a_tC, a_tOp, a_tUn, a_rI, a_rI0, a_rU, a_rEq, a_rNe, a_tTest, a_tB, a_tIsN, a_tNotN, a_tChain, a_tAnd, a_tOr, a_tNot, a_tAndV, a_tOrV, a_tNotV, a_tYes, a_tNext, a_tSeq, a_tCont, a_tBreak, a_tDrop, a_tRet, a_tIfS, a_tNever, a_gName, a_gNil, a_gCons, a_gTup, a_tAsg, a_tNil, a_tCons, a_tTup, a_tLst, a_tCB, a_tCU, a_tMU, a_tFld, a_sFld, a_tSl, a_tNoPart, a_tPart, a_rSlL, a_rSlT, a_rIxL, a_rIxT, a_rCat, a_rRep, a_rCatT, a_tDGet, a_tDIn, a_tDNotIn, a_sDPut, a_tDPop1, a_tDNewK, a_tBM, a_rAppend, a_rExtend, a_iList, a_iEnum, a_iRng1, a_iRng2, a_iVals, a_iItems, a_iRng3, a_iStr, a_tMX, a_tXf, a_wAs, a_tRaise, a_tVeI, a_tOst, a_tMkO, a_tMake, a_rSum, a_rIsi, a_tChain3, a_tAugS, a_rGetL, a_rPutL, a_ipI, a_rSet, a_tCKw, a_rMinD, a_rMin, a_rIxS, a_rSlS, a_iTup, a_rIn, a_rEqD, a_rNeD, upd_same, HO.lst.injEq, HO.tup.injEq, HO.dK.injEq, HO.frz.injEq, a_s0, a_s1, a_s2, a_s3, a_s4, a_s5, a_s6, a_s8, a_scal, a_scals, a_tFor, a_tLc, a_tWhile, a_wipe0, a_wipe1, k_cxU, w_cxU, k_blk, w_blk, and_assoc, exists_and_left, exists_eq_left, exists_eq_left', exists_eq_right, exists_eq, exists_const, List.getElem?_cons_zero, List.getElem?_cons_succ, List.set_cons_zero, List.set_cons_succ, Option.some.injEq, V.int.injEq, V.bl.injEq, V.ref.injEq, V.str.injEq, List.cons.injEq, and_true, true_and, List.cons_append, List.nil_append, List.append_nil, L2.start, List.map_cons, List.map_nil, List.length_cons, List.length_nil, List.replicate, Nat.sub_self, Nat.reduceSub, Nat.reduceAdd, Nat.zero_add, if_true, if_false, Bool.false_eq_true, Bool.true_eq_false, reduceIte, decide_eq_true_eq, Bool.not_eq_true', decide_eq_false_iff_not]
      by_cases c : (0 : Int) < (m : Int)
      · rw [if_pos c]
        refine ⟨fun σ' H'' => H'' = H' ∧ σ' = [some (.int a), some (.int b), some (.int m), some (.int ((x : Int) % m)), some (.int ((x : Int) % m))], ?_, ?_⟩
        · rintro σ' H'' ⟨rfl, rfl⟩
          have hm : 0 < m := by omega
          refine ⟨x % m, Nat.mod_lt _ hm, rfl, m, x % m, _, by rw [Int.natCast_emod], rfl, ?_⟩
          rw [← e, Nat.gcd_comm x m, Nat.gcd_rec m x, Nat.gcd_comm]
        · exact ⟨c, rfl, rfl⟩
      · rw [if_neg c]
        have h0 : m = 0 := by omega
        subst h0
        rw [Nat.gcd_zero_right] at e
        subst e
        have gp : 0 < Int.gcd a b := Int.gcd_pos_of_ne_zero_right a (by omega)
        have g1 : (Int.gcd a b : Int) ∣ a := Int.gcd_dvd_left ..
        have g2 : (Int.gcd a b : Int) ∣ b := Int.gcd_dvd_right ..
        have gb : (Int.gcd a b : Int) ≤ b := Int.le_of_dvd (by omega) g2
        have lg : CDivW a (Int.gcd a b : Int) := ⟨by omega, by
          have : ((Int.gcd a b : Int)).natAbs ≤ 100 := by omega
          have h9 : ((Int.gcd a b : Int)).natAbs.log2 ≤ ((Int.gcd a b : Int)).natAbs := Nat.log2_le_self _
          omega⟩
        refine ⟨lg, lg, fun p hp => ?_⟩
        refine q p (a / (Int.gcd a b : Int), b / (Int.gcd a b : Int)) hp ⟨Int.ediv_nonneg h1 (by omega), Int.ediv_le_ediv (by omega) h2, ?_, ?_⟩ ?_
        · exact Int.le_ediv_of_mul_le (by omega) (by omega)
        · exact Int.le_trans (Int.ediv_le_self _ (by omega)) h4
        · show Int.gcd (a / (Int.gcd a b : Int)) (b / (Int.gcd a b : Int)) = 1
          exact Int.gcd_ediv_gcd_ediv_gcd gp
theorem str_len (a : Str) (c : Nat) : (a ++ (⟨#[c]⟩ : Str)).length = a.length + 1 := by
  show (a ++ (⟨#[c]⟩ : Str)).cps.size = a.cps.size + 1
  show (a.cps ++ #[c]).size = _
  simp
theorem cut_len (z : Str) (lo hi : Option Int) : (cutS z lo hi).length ≤ z.length := by
  show (cutS z lo hi).cps.size ≤ z.cps.size
  unfold cutS
  rw [List.size_toArray, List.length_take, List.length_drop]
  have : z.cps.toList.length = z.cps.size := Array.length_toList
  omega
/-! ### names, inn, chance, pick -/
structure NmsOk (nms : List Str) : Prop where
  len : nms.length = 8
  ok : ∀ n ∈ nms, NmOk n
  zz : ("zz" : Str) ∉ nms
def names1 : List Str := (List.range 8).map fun (k : Nat) => cutS "abcdefgh" none (some ((k : Int) + 1))
def names2 (a : Int) : List Str := (List.range 8).map fun (k : Nat) => cutS "night" none (some a) ++ ⟨#[("abcdefgh" : Str).cps.toList.getD k 0]⟩ ++ cutS "night" (some (a + 1)) none
instance (x : Str) : Decidable (NmOk x) := by unfold NmOk; infer_instance
theorem names1_ok : NmsOk names1 := ⟨by decide +kernel, by decide +kernel, by decide +kernel⟩
theorem names2_ok {a : Int} (h0 : 0 ≤ a) (h1 : a < 5) : NmsOk (names2 a) := by
  have : a = 0 ∨ a = 1 ∨ a = 2 ∨ a = 3 ∨ a = 4 := by omega
  rcases this with z | z | z | z | z <;> rw [z] <;> exact ⟨by decide +kernel, by decide +kernel, by decide +kernel⟩
def sp_law_names (K : PySem.W.Frag) : Sp := fun vs H Q _ => ∃ (s : Addr) (ns : List Int) (k : Int), vs = [.ref s, .int k] ∧ SqL K H s (IL ns) ∧ 0 ≤ k ∧
  ∀ H' p nms, Same H H' → H' p = some (.lst (nms.map V.str)) → H p = none → NmsOk nms → Q (.ref p) H'
theorem sc_law_names : FnScope ["_law_script", "_law_at", "_law_xs", "_law_k"] ["_law_script", "_law_at"] (defScope s_law_names) := ⟨rfl, rfl, rfl, by decide +kernel, rfl, by decide +kernel, by decide +kernel⟩
theorem g_law_names (T : Txt K mg) : GF P w K mg base true 4 "_law_names" [] (sp_law_names K) := by
  obtain ⟨fd, F⟩ := T.f_law_names
  refine ⟨_, fd, ["_law_script", "_law_at"], [], T.g_law_names, F.kp, F.bindsN (fun _ _ _ _ _ _ us hl => match us, hl with | [_, _], _ => rfl), .nil, okU F sc_law_names (fun vs H Q E h => ?_) (fun cdv A outer s H vs Q E pl hr hh hw h => ⟨_, PSs.nox (pss_cons (ps_set (i := 2) sc_law_names.nd rfl (by first | exact Or.inl rfl | exact Or.inr rfl) (pe_cu (g_law_row T) (hr.mono (by decide)) hw (fun _ => hh rfl) rfl (pa_cons (pv 0) (pa_cons (pv 1) (pa_cons pe_int pa_nil)))))
      (pss_cons (ps_if (pt_cmpR (op_eq) (pe_op op_mod (pe_ix (ix_listK K) (pv 2) pe_int (fun _ _ => rfl)) pe_int) pe_int (nomark _)) (pss_one (ps_ret (pe_lc rfl sc_law_names.nd (pi_range1 rfl T.n_range (pa_cons pe_int pa_nil)) (blkOk_by (own := [("_law_k", 3)]) (by kernel_rfl)) (fun _ _ _ _ _ => (pg_name (i := 3) sc_law_names.nd rfl (by first | exact Or.inl rfl | exact Or.inr rfl))) (fun _ _ _ _ _ => pts_nil) (fun _ _ _ _ _ => (pe_slice sl_str pe_str po_none (po_some (pe_op op_add (pv 3) pe_int))))))) pss_nil)
      (pss_cons (ps_set (i := 1) sc_law_names.nd rfl (by first | exact Or.inl rfl | exact Or.inr rfl) (pe_op op_mod (pe_ix (ix_listK K) (pv 2) pe_int (fun _ _ => rfl)) pe_int))
      (pss_one (ps_ret (pe_lc rfl sc_law_names.nd (pi_range1 rfl T.n_range (pa_cons pe_int pa_nil)) (blkOk_by (own := [("_law_k", 3)]) (by kernel_rfl)) (fun _ _ _ _ _ => (pg_name (i := 3) sc_law_names.nd rfl (by first | exact Or.inl rfl | exact Or.inr rfl))) (fun _ _ _ _ _ => pts_nil) (fun _ _ _ _ _ => (pe_op op_add_str (pe_op op_add_str (pe_slice sl_str pe_str po_none (po_some (pv 1))) (pe_ix ix_str pe_str (pv 3) (fun _ _ => rfl))) (pe_slice sl_str pe_str (po_some (pe_op op_add (pv 1) pe_int)) po_none))))))))), ?_⟩)⟩
  · obtain ⟨s, ns, k, rfl, _⟩ := h
    rfl
  · obtain ⟨s, ns, k, rfl, h1, h2, q⟩ := h
    simp only [a_tVar, a_tC, a_tOp, a_tUn, a_rI, a_rI0, a_rU, a_rEq, a_rNe, a_tTest, a_tB, a_tIsN, a_tNotN, a_tChain, a_tAnd, a_tOr, a_tNot, a_tAndV, a_tOrV, a_tNotV, a_tYes, a_tNext, a_tSeq, a_tCont, a_tBreak, a_tDrop, a_tRet, a_tIfS, a_tNever, a_gName, a_gNil, a_gCons, a_gTup, a_tAsg, a_tNil, a_tCons, a_tTup, a_tLst, a_tCB, a_tCU, a_tMU, a_tFld, a_sFld, a_tSl, a_tNoPart, a_tPart, a_rSlL, a_rSlT, a_rIxL, a_rIxT, a_rCat, a_rRep, a_rCatT, a_tDGet, a_tDIn, a_tDNotIn, a_sDPut, a_tDPop1, a_tDNewK, a_tBM, a_rAppend, a_rExtend, a_iList, a_iEnum, a_iRng1, a_iRng2, a_iVals, a_iItems, a_iRng3, a_iStr, a_tMX, a_tXf, a_wAs, a_tRaise, a_tVeI, a_tOst, a_tMkO, a_tMake, a_rSum, a_rIsi, a_tChain3, a_tAugS, a_rGetL, a_rPutL, a_ipI, a_rSet, a_tCKw, a_rMinD, a_rMin, a_rIxS, a_rSlS, a_iTup, a_rIn, a_rEqD, a_rNeD, upd_same, HO.lst.injEq, HO.tup.injEq, HO.dK.injEq, HO.frz.injEq, a_s0, a_s1, a_s2, a_s3, a_s4, a_s5, a_s6, a_s8, a_scal, a_scals, a_tFor, a_tLc, a_tWhile, a_wipe0, a_wipe1, k_cxU, w_cxU, k_blk, w_blk, and_assoc, exists_and_left, exists_eq_left, exists_eq_left', exists_eq_right, exists_eq, exists_const, List.getElem?_cons_zero, List.getElem?_cons_succ, List.set_cons_zero, List.set_cons_succ, Option.some.injEq, V.int.injEq, V.bl.injEq, V.ref.injEq, V.str.injEq, List.cons.injEq, and_true, true_and, List.cons_append, List.nil_append, List.append_nil, L2.start, List.map_cons, List.map_nil, List.length_cons, List.length_nil, List.replicate, Nat.sub_self, Nat.reduceSub, Nat.reduceAdd, Nat.zero_add, if_true, if_false, Bool.false_eq_true, Bool.true_eq_false, reduceIte, decide_eq_true_eq, Bool.not_eq_true', decide_eq_false_iff_not]
    refine ⟨s, ns, k, 2, rfl, h1, h2, by decide, by decide, fun H1 p xs s1 hp np xl xp => ?_⟩
    have xl : xs.length = 2 := xl
    obtain ⟨i0, e0⟩ := at_IL (ns := xs) (k := 0) (by decide) (by omega)
    obtain ⟨i1, e1⟩ := at_IL (ns := xs) (k := 1) (by decide) (by omega)
    have lA : ("abcdefgh" : Str).length ≤ sizeLine := sz _ (by decide)
    have lN : ("night" : Str).length ≤ sizeLine := sz _ (by decide)
    refine ⟨p, rfl, _, SqL.of hp, _, e0, _, rfl, by decide, ?_⟩
    by_cases c : i0 % 2 = 0
    · rw [if_pos c]
      refine ⟨by decide, by decide, fun D hD => ?_⟩
      obtain ⟨ac, ha⟩ : ∃ f : Nat → List V, ∀ i, f i = ((List.range i).map fun (k : Nat) => cutS "abcdefgh" none (some ((k : Int) + 1))).map V.str := ⟨_, fun _ => rfl⟩
      refine lc_go walk_range hD ac (ha 0) (fun _ _ => trivial) ?_ ?_
      · rintro i y H3 H4 hi s3 hD3 ⟨rfl, rfl⟩
        simp only [a_tVar, a_tC, a_tOp, a_tUn, a_rI, a_rI0, a_rU, a_rEq, a_rNe, a_tTest, a_tB, a_tIsN, a_tNotN, a_tChain, a_tAnd, a_tOr, a_tNot, a_tAndV, a_tOrV, a_tNotV, a_tYes, a_tNext, a_tSeq, a_tCont, a_tBreak, a_tDrop, a_tRet, a_tIfS, a_tNever, a_gName, a_gNil, a_gCons, a_gTup, a_tAsg, a_tNil, a_tCons, a_tTup, a_tLst, a_tCB, a_tCU, a_tMU, a_tFld, a_sFld, a_tSl, a_tNoPart, a_tPart, a_rSlL, a_rSlT, a_rIxL, a_rIxT, a_rCat, a_rRep, a_rCatT, a_tDGet, a_tDIn, a_tDNotIn, a_sDPut, a_tDPop1, a_tDNewK, a_tBM, a_rAppend, a_rExtend, a_iList, a_iEnum, a_iRng1, a_iRng2, a_iVals, a_iItems, a_iRng3, a_iStr, a_tMX, a_tXf, a_wAs, a_tRaise, a_tVeI, a_tOst, a_tMkO, a_tMake, a_rSum, a_rIsi, a_tChain3, a_tAugS, a_rGetL, a_rPutL, a_ipI, a_rSet, a_tCKw, a_rMinD, a_rMin, a_rIxS, a_rSlS, a_iTup, a_rIn, a_rEqD, a_rNeD, upd_same, HO.lst.injEq, HO.tup.injEq, HO.dK.injEq, HO.frz.injEq, a_s0, a_s1, a_s2, a_s3, a_s4, a_s5, a_s6, a_s8, a_scal, a_scals, a_tFor, a_tLc, a_tWhile, a_wipe0, a_wipe1, k_cxU, w_cxU, k_blk, w_blk, and_assoc, exists_and_left, exists_eq_left, exists_eq_left', exists_eq_right, exists_eq, exists_const, List.getElem?_cons_zero, List.getElem?_cons_succ, List.set_cons_zero, List.set_cons_succ, Option.some.injEq, V.int.injEq, V.bl.injEq, V.ref.injEq, V.str.injEq, List.cons.injEq, and_true, true_and, List.cons_append, List.nil_append, List.append_nil, L2.start, List.map_cons, List.map_nil, List.length_cons, List.length_nil, List.replicate, Nat.sub_self, Nat.reduceSub, Nat.reduceAdd, Nat.zero_add, if_true, if_false, Bool.false_eq_true, Bool.true_eq_false, reduceIte, decide_eq_true_eq, Bool.not_eq_true', decide_eq_false_iff_not]
        refine ⟨lA, ?_⟩
        refine leaf hD hD3 s3 (szl _ ?_) ?_
        · rw [ha, List.length_map, List.length_map, List.length_range]
          have : i < 8 := hi
          omega
        · rw [ha, ha, List.range_succ, List.map_append, List.map_append, Int.zero_add]
          rfl
      · intro H3 s3 hD3
        rw [ha] at hD3
        exact q _ _ names1 (s1.tr s3) hD3 (Same.free s1 hD) names1_ok
    · rw [if_neg c]
      have a0 : 0 ≤ i1 % 5 := Int.emod_nonneg _ (by decide)
      have a5 : i1 % 5 < 5 := Int.emod_lt_of_pos _ (by decide)
      refine ⟨p, rfl, _, SqL.of hp, _, e1, _, rfl, by decide, by decide, by decide, fun D hD => ?_⟩
      generalize i1 % 5 = a at *
      obtain ⟨ac, ha⟩ : ∃ f : Nat → List V, ∀ i, f i = ((List.range i).map fun (k : Nat) => cutS "night" none (some a) ++ ⟨#[("abcdefgh" : Str).cps.toList.getD k 0]⟩ ++ cutS "night" (some (a + 1)) none).map V.str := ⟨_, fun _ => rfl⟩
      refine lc_go walk_range hD ac (ha 0) (fun _ _ => trivial) ?_ ?_
      · rintro i y H3 H4 hi s3 hD3 ⟨rfl, rfl⟩
        have i8 : i < 8 := hi
        simp only [a_tVar, a_tC, a_tOp, a_tUn, a_rI, a_rI0, a_rU, a_rEq, a_rNe, a_tTest, a_tB, a_tIsN, a_tNotN, a_tChain, a_tAnd, a_tOr, a_tNot, a_tAndV, a_tOrV, a_tNotV, a_tYes, a_tNext, a_tSeq, a_tCont, a_tBreak, a_tDrop, a_tRet, a_tIfS, a_tNever, a_gName, a_gNil, a_gCons, a_gTup, a_tAsg, a_tNil, a_tCons, a_tTup, a_tLst, a_tCB, a_tCU, a_tMU, a_tFld, a_sFld, a_tSl, a_tNoPart, a_tPart, a_rSlL, a_rSlT, a_rIxL, a_rIxT, a_rCat, a_rRep, a_rCatT, a_tDGet, a_tDIn, a_tDNotIn, a_sDPut, a_tDPop1, a_tDNewK, a_tBM, a_rAppend, a_rExtend, a_iList, a_iEnum, a_iRng1, a_iRng2, a_iVals, a_iItems, a_iRng3, a_iStr, a_tMX, a_tXf, a_wAs, a_tRaise, a_tVeI, a_tOst, a_tMkO, a_tMake, a_rSum, a_rIsi, a_tChain3, a_tAugS, a_rGetL, a_rPutL, a_ipI, a_rSet, a_tCKw, a_rMinD, a_rMin, a_rIxS, a_rSlS, a_iTup, a_rIn, a_rEqD, a_rNeD, upd_same, HO.lst.injEq, HO.tup.injEq, HO.dK.injEq, HO.frz.injEq, a_s0, a_s1, a_s2, a_s3, a_s4, a_s5, a_s6, a_s8, a_scal, a_scals, a_tFor, a_tLc, a_tWhile, a_wipe0, a_wipe1, k_cxU, w_cxU, k_blk, w_blk, and_assoc, exists_and_left, exists_eq_left, exists_eq_left', exists_eq_right, exists_eq, exists_const, List.getElem?_cons_zero, List.getElem?_cons_succ, List.set_cons_zero, List.set_cons_succ, Option.some.injEq, V.int.injEq, V.bl.injEq, V.ref.injEq, V.str.injEq, List.cons.injEq, and_true, true_and, List.cons_append, List.nil_append, List.append_nil, L2.start, List.map_cons, List.map_nil, List.length_cons, List.length_nil, List.replicate, Nat.sub_self, Nat.reduceSub, Nat.reduceAdd, Nat.zero_add, if_true, if_false, Bool.false_eq_true, Bool.true_eq_false, reduceIte, decide_eq_true_eq, Bool.not_eq_true', decide_eq_false_iff_not]
        have hx : ("abcdefgh" : Str).cps.toList[i]? = some (("abcdefgh" : Str).cps.toList.getD i 0) := by
          have hl : i < ("abcdefgh" : Str).cps.toList.length := by
            rw [show ("abcdefgh" : Str).cps.toList.length = 8 by decide +kernel]
            exact i8
          rw [List.getD_eq_getElem?_getD, List.getElem?_eq_getElem hl]
          rfl
        have c1 : ∀ (lo hi : Option Int), (cutS "night" lo hi).length ≤ 5 := fun lo hi => cut_len _ _ _
        have n1 := c1 none (some a)
        have n2 := c1 (some (a + 1)) none
        have n3 : (cutS "night" none (some a) ++ (⟨#[("abcdefgh" : Str).cps.toList.getD i 0]⟩ : Str)).length = (cutS "night" none (some a)).length + 1 := str_len _ _
        refine ⟨lN, lA, ("abcdefgh" : Str).cps.toList.getD i 0, (by rw [Int.zero_add]; exact atI_nat hx), sz _ (by have n4 : ((⟨#[("abcdefgh" : Str).cps.toList.getD i 0]⟩ : Str)).length = 1 := rfl; omega), lN, sz _ (by rw [n3]; omega), ?_⟩
        refine leaf hD hD3 s3 (szl _ ?_) ?_
        · rw [ha, List.length_map, List.length_map, List.length_range]
          omega
        · rw [ha, ha, List.range_succ, List.map_append, List.map_append]
          rfl
      · intro H3 s3 hD3
        rw [ha] at hD3
        exact q _ _ (names2 a) (s1.tr s3) hD3 (Same.free s1 hD) (names2_ok a0 a5)
def sp_law_chance (K : PySem.W.Frag) : Sp := fun vs H Q _ => ∃ (a : Addr) (xs : List Int), vs = [.ref a] ∧ SqL K H a (IL xs) ∧ 2 ≤ xs.length ∧ (∀ x ∈ xs, 0 ≤ x) ∧
  ∀ H' c (ch : Int × Int), Same H H' → Tu K H' c [.int ch.1, .int ch.2] → ChOk ch → Int.gcd ch.1 ch.2 = 1 → Q (.ref c) H'
theorem sc_law_chance : FnScope ["_law_xs", "_law_some"] ["_law_xs"] (defScope s_law_chance) := ⟨rfl, rfl, rfl, by decide +kernel, rfl, by decide +kernel, by decide +kernel⟩
theorem g_law_chance (T : Txt K mg) : GF P w K mg base true 2 "_law_chance" [] (sp_law_chance K) := by
  obtain ⟨fd, F⟩ := T.f_law_chance
  refine ⟨_, fd, ["_law_xs"], [], T.g_law_chance, F.kp, F.bindsN (fun _ _ _ _ _ _ us hl => match us, hl with | [_], _ => rfl), .nil, okU F sc_law_chance (fun vs H Q E h => ?_) (fun cdv A outer s H vs Q E pl hr hh hw h => ⟨_, PSs.nox (pss_cons (ps_set (i := 1) sc_law_chance.nd rfl (by first | exact Or.inl rfl | exact Or.inr rfl) (pe_lst (pa_cons (pe_tup (pa_cons pe_int (pa_cons pe_int pa_nil))) (pa_cons (pe_tup (pa_cons pe_int (pa_cons pe_int pa_nil))) (pa_cons (pe_tup (pa_cons pe_int (pa_cons pe_int pa_nil))) (pa_cons (pe_tup (pa_cons pe_int (pa_cons pe_int pa_nil))) (pa_cons (pe_cu (g_law_lowest T) (hr.mono (by decide)) hw (fun _ => hh rfl) rfl (pa_cons (pe_op op_add pe_int (pe_op op_mod (pe_ix (ix_listK K) (pv 0) pe_int (fun _ _ => rfl)) pe_int)) (pa_cons pe_int pa_nil))) (pa_cons (pe_cu (g_law_lowest T) (hr.mono (by decide)) hw (fun _ => hh rfl) rfl (pa_cons (pe_op op_mod (pe_ix (ix_listK K) (pv 0) pe_int (fun _ _ => rfl)) pe_int) (pa_cons pe_int pa_nil))) pa_nil))))))))
      (pss_one (ps_ret (pe_ix (ix_listK K) (pv 1) (pe_op op_mod (pe_ix (ix_listK K) (pv 0) pe_int (fun _ _ => rfl)) pe_int) (fun _ _ => rfl))))), ?_⟩)⟩
  · obtain ⟨a, xs, rfl, _⟩ := h
    rfl
  · obtain ⟨a, xs, rfl, h1, h2, h3, q⟩ := h
    simp only [a_tVar, a_tC, a_tOp, a_tUn, a_rI, a_rI0, a_rU, a_rEq, a_rNe, a_tTest, a_tB, a_tIsN, a_tNotN, a_tChain, a_tAnd, a_tOr, a_tNot, a_tAndV, a_tOrV, a_tNotV, a_tYes, a_tNext, a_tSeq, a_tCont, a_tBreak, a_tDrop, a_tRet, a_tIfS, a_tNever, a_gName, a_gNil, a_gCons, a_gTup, a_tAsg, a_tNil, a_tCons, a_tTup, a_tLst, a_tCB, a_tCU, a_tMU, a_tFld, a_sFld, a_tSl, a_tNoPart, a_tPart, a_rSlL, a_rSlT, a_rIxL, a_rIxT, a_rCat, a_rRep, a_rCatT, a_tDGet, a_tDIn, a_tDNotIn, a_sDPut, a_tDPop1, a_tDNewK, a_tBM, a_rAppend, a_rExtend, a_iList, a_iEnum, a_iRng1, a_iRng2, a_iVals, a_iItems, a_iRng3, a_iStr, a_tMX, a_tXf, a_wAs, a_tRaise, a_tVeI, a_tOst, a_tMkO, a_tMake, a_rSum, a_rIsi, a_tChain3, a_tAugS, a_rGetL, a_rPutL, a_ipI, a_rSet, a_tCKw, a_rMinD, a_rMin, a_rIxS, a_rSlS, a_iTup, a_rIn, a_rEqD, a_rNeD, upd_same, HO.lst.injEq, HO.tup.injEq, HO.dK.injEq, HO.frz.injEq, a_s0, a_s1, a_s2, a_s3, a_s4, a_s5, a_s6, a_s8, a_scal, a_scals, a_tFor, a_tLc, a_tWhile, a_wipe0, a_wipe1, k_cxU, w_cxU, k_blk, w_blk, and_assoc, exists_and_left, exists_eq_left, exists_eq_left', exists_eq_right, exists_eq, exists_const, List.getElem?_cons_zero, List.getElem?_cons_succ, List.set_cons_zero, List.set_cons_succ, Option.some.injEq, V.int.injEq, V.bl.injEq, V.ref.injEq, V.str.injEq, List.cons.injEq, and_true, true_and, List.cons_append, List.nil_append, List.append_nil, L2.start, List.map_cons, List.map_nil, List.length_cons, List.length_nil, List.replicate, Nat.sub_self, Nat.reduceSub, Nat.reduceAdd, Nat.zero_add, if_true, if_false, Bool.false_eq_true, Bool.true_eq_false, reduceIte, decide_eq_true_eq, Bool.not_eq_true', decide_eq_false_iff_not]
    obtain ⟨i0, e0⟩ := at_IL (ns := xs) (k := 0) (by decide) (by omega)
    obtain ⟨i1, e1⟩ := at_IL (ns := xs) (k := 1) (by decide) (by omega)
    intro p0 n0 p1 n1 p2 n2 p3 n3
    have s4 := ((((Same.rfl' (H := H)).new n0 (o := .tup [.int 1, .int 1])).new n1 (o := .tup [.int 0, .int 1])).new n2 (o := .tup [.int 1, .int 2])).new n3 (o := .tup [.int 9, .int 10])
    have t0 := get_new (get_new (get_new (upd_same (H := H) (a := p0) (o := .tup [.int 1, .int 1])) n1 (o := .tup [.int 0, .int 1])) n2 (o := .tup [.int 1, .int 2])) n3 (o := .tup [.int 9, .int 10])
    have t1 := get_new (get_new (upd_same (H := upd H p0 (.tup [.int 1, .int 1])) (a := p1) (o := .tup [.int 0, .int 1])) n2 (o := .tup [.int 1, .int 2])) n3 (o := .tup [.int 9, .int 10])
    have t2 := get_new (upd_same (H := upd (upd H p0 (.tup [.int 1, .int 1])) p1 (.tup [.int 0, .int 1])) (a := p2) (o := .tup [.int 1, .int 2])) n3 (o := .tup [.int 9, .int 10])
    have t3 := upd_same (H := upd (upd (upd H p0 (.tup [.int 1, .int 1])) p1 (.tup [.int 0, .int 1])) p2 (.tup [.int 1, .int 2])) (a := p3) (o := .tup [.int 9, .int 10])
    generalize upd (upd (upd (upd H p0 (.tup [.int 1, .int 1])) p1 (.tup [.int 0, .int 1])) p2 (.tup [.int 1, .int 2])) p3 (.tup [.int 9, .int 10]) = H4 at *
    have a0 : 0 ≤ i1 % 20 := Int.emod_nonneg _ (by decide)
    have a2 : i1 % 20 < 20 := Int.emod_lt_of_pos _ (by decide)
    have b0 : 0 ≤ i1 % 101 := Int.emod_nonneg _ (by decide)
    have b1 : i1 % 101 < 101 := Int.emod_lt_of_pos _ (by decide)
    refine ⟨_, Same.seq s4 h1, _, e1, _, rfl, by decide, _, _, rfl, by omega, by omega, by decide, by decide, fun p4 c4 n4 k4 g4 => ?_⟩
    have s5 := s4.new n4 (o := .tup [.int c4.1, .int c4.2])
    refine ⟨_, Same.seq s5 h1, _, e1, _, rfl, by decide, _, _, rfl, by omega, by omega, by decide, by decide, fun p5 c5 n5 k5 g5 => fun p6 n6 => ?_⟩
    have s6 := (s5.new n5 (o := .tup [.int c5.1, .int c5.2])).new n6 (o := .lst [.ref p0, .ref p1, .ref p2, .ref p3, .ref p4, .ref p5])
    have k46 := ((Same.rfl' (H := H4)).new n4 (o := .tup [.int c4.1, .int c4.2])).new n5 (o := .tup [.int c5.1, .int c5.2]) |>.new n6 (o := .lst [.ref p0, .ref p1, .ref p2, .ref p3, .ref p4, .ref p5])
    have d0 : 0 ≤ i0 % 6 := Int.emod_nonneg _ (by decide)
    have d6 : i0 % 6 < 6 := Int.emod_lt_of_pos _ (by decide)
    have t4 := get_new (get_new (upd_same (H := H4) (a := p4) (o := .tup [.int c4.1, .int c4.2])) n5 (o := .tup [.int c5.1, .int c5.2])) n6 (o := .lst [.ref p0, .ref p1, .ref p2, .ref p3, .ref p4, .ref p5])
    have t5 := get_new (upd_same (H := upd H4 p4 (.tup [.int c4.1, .int c4.2])) (a := p5) (o := .tup [.int c5.1, .int c5.2])) n6 (o := .lst [.ref p0, .ref p1, .ref p2, .ref p3, .ref p4, .ref p5])
    have fin : ∀ (pc : Addr) (ch : Int × Int), Tu K (upd (upd (upd H4 p4 (.tup [.int c4.1, .int c4.2])) p5 (.tup [.int c5.1, .int c5.2])) p6 (.lst [.ref p0, .ref p1, .ref p2, .ref p3, .ref p4, .ref p5])) pc [.int ch.1, .int ch.2] → ChOk ch → Int.gcd ch.1 ch.2 = 1 → Q (.ref pc) (upd (upd (upd H4 p4 (.tup [.int c4.1, .int c4.2])) p5 (.tup [.int c5.1, .int c5.2])) p6 (.lst [.ref p0, .ref p1, .ref p2, .ref p3, .ref p4, .ref p5])) := fun pc ch a b c => q _ pc ch s6 a b c
    refine ⟨_, Same.seq s6 h1, _, e0, _, rfl, by decide, _, SqL.of upd_same, ?_⟩
    have : i0 % 6 = 0 ∨ i0 % 6 = 1 ∨ i0 % 6 = 2 ∨ i0 % 6 = 3 ∨ i0 % 6 = 4 ∨ i0 % 6 = 5 := by omega
    rcases this with z | z | z | z | z | z <;> rw [z]
    · exact ⟨_, atI_n 0 rfl rfl, fin p0 (1, 1) (.inl (k46 _ _ t0)) ⟨by decide, by decide, by decide, by decide⟩ (by decide)⟩
    · exact ⟨_, atI_n 1 rfl rfl, fin p1 (0, 1) (.inl (k46 _ _ t1)) ⟨by decide, by decide, by decide, by decide⟩ (by decide)⟩
    · exact ⟨_, atI_n 2 rfl rfl, fin p2 (1, 2) (.inl (k46 _ _ t2)) ⟨by decide, by decide, by decide, by decide⟩ (by decide)⟩
    · exact ⟨_, atI_n 3 rfl rfl, fin p3 (9, 10) (.inl (k46 _ _ t3)) ⟨by decide, by decide, by decide, by decide⟩ (by decide)⟩
    · exact ⟨_, atI_n 4 rfl rfl, fin p4 c4 (.inl t4) k4 g4⟩
    · exact ⟨_, atI_n 5 rfl rfl, fin p5 c5 (.inl t5) k5 g5⟩
def sp_law_pick (K : PySem.W.Frag) : Sp := fun vs H Q _ => ∃ (a : Addr) (nms : List Str) (x : Int), vs = [.ref a, .int x] ∧ H a = some (.lst (nms.map V.str)) ∧ (∀ n ∈ nms, PyData.strOk n = true) ∧
  ∀ H', Same H H' → (nms = [] → Q .non H') ∧ ∀ n ∈ nms, Q (.str n) H'
theorem sc_law_pick : FnScope ["_law_some", "_law_x"] ["_law_some", "_law_x"] (defScope s_law_pick) := ⟨rfl, rfl, rfl, by decide +kernel, rfl, by decide +kernel, by decide +kernel⟩
theorem g_law_pick (T : Txt K mg) : GF P w K mg base true 1 "_law_pick" [] (sp_law_pick K) := by
  obtain ⟨fd, F⟩ := T.f_law_pick
  refine ⟨_, fd, ["_law_some", "_law_x"], [], T.g_law_pick, F.kp, F.bindsN (fun _ _ _ _ _ _ us hl => match us, hl with | [_, _], _ => rfl), .nil, okU F sc_law_pick (fun vs H Q E h => ?_) (fun cdv A outer s H vs Q E pl hr hh hw h => ⟨_, PSs.nox (pss_cons (ps_if (pt_cmpR (op_eqDK K (hu64 hr)) (pv 0) (pe_lst pa_nil) (nomark _)) (pss_one (ps_ret pe_non)) pss_nil)
      (pss_one (ps_ret (pe_ix (ix_listK K) (pv 0) (pe_op op_mod (pv 1) (pe_callB (len_seqK K) rfl T.n_len boot_len (pa_cons (pv 0) pa_nil))) (fun _ _ => rfl))))), ?_⟩)⟩
  · obtain ⟨a, nms, x, rfl, _⟩ := h
    rfl
  · obtain ⟨a, nms, x, rfl, h1, h2, q⟩ := h
    simp only [a_tVar, a_tC, a_tOp, a_tUn, a_rI, a_rI0, a_rU, a_rEq, a_rNe, a_tTest, a_tB, a_tIsN, a_tNotN, a_tChain, a_tAnd, a_tOr, a_tNot, a_tAndV, a_tOrV, a_tNotV, a_tYes, a_tNext, a_tSeq, a_tCont, a_tBreak, a_tDrop, a_tRet, a_tIfS, a_tNever, a_gName, a_gNil, a_gCons, a_gTup, a_tAsg, a_tNil, a_tCons, a_tTup, a_tLst, a_tCB, a_tCU, a_tMU, a_tFld, a_sFld, a_tSl, a_tNoPart, a_tPart, a_rSlL, a_rSlT, a_rIxL, a_rIxT, a_rCat, a_rRep, a_rCatT, a_tDGet, a_tDIn, a_tDNotIn, a_sDPut, a_tDPop1, a_tDNewK, a_tBM, a_rAppend, a_rExtend, a_iList, a_iEnum, a_iRng1, a_iRng2, a_iVals, a_iItems, a_iRng3, a_iStr, a_tMX, a_tXf, a_wAs, a_tRaise, a_tVeI, a_tOst, a_tMkO, a_tMake, a_rSum, a_rIsi, a_tChain3, a_tAugS, a_rGetL, a_rPutL, a_ipI, a_rSet, a_tCKw, a_rMinD, a_rMin, a_rIxS, a_rSlS, a_iTup, a_rIn, a_rEqD, a_rNeD, upd_same, HO.lst.injEq, HO.tup.injEq, HO.dK.injEq, HO.frz.injEq, a_s0, a_s1, a_s2, a_s3, a_s4, a_s5, a_s6, a_s8, a_scal, a_scals, a_tFor, a_tLc, a_tWhile, a_wipe0, a_wipe1, k_cxU, w_cxU, k_blk, w_blk, and_assoc, exists_and_left, exists_eq_left, exists_eq_left', exists_eq_right, exists_eq, exists_const, List.getElem?_cons_zero, List.getElem?_cons_succ, List.set_cons_zero, List.set_cons_succ, Option.some.injEq, V.int.injEq, V.bl.injEq, V.ref.injEq, V.str.injEq, List.cons.injEq, and_true, true_and, List.cons_append, List.nil_append, List.append_nil, L2.start, List.map_cons, List.map_nil, List.length_cons, List.length_nil, List.replicate, Nat.sub_self, Nat.reduceSub, Nat.reduceAdd, Nat.zero_add, if_true, if_false, Bool.false_eq_true, Bool.true_eq_false, reduceIte, decide_eq_true_eq, Bool.not_eq_true', decide_eq_false_iff_not]
    intro p hp
    have s1 := (Same.rfl' (H := H)).new hp (o := .lst [])
    obtain ⟨qn, qs⟩ := q _ s1
    refine ⟨_, .lst (SqL.of (s1 _ _ h1)) (dp_strs nms), _, .lst (SqL.of upd_same) .nil, shaped_strs nms h2, shaped_nil, ?_⟩
    cases nms with
    | nil =>
      rw [if_pos (by simp [PyData.eqv, PyData.eqvAll])]
      exact qn rfl
    | cons a' r =>
      rw [if_neg (by simp [PyData.eqv, PyData.eqvAll])]
      have lp : (0 : Int) < (((a' :: r : List Str).map V.str).length : Int) := by simp
      have m0 := Int.emod_nonneg x (b := (((a' :: r : List Str).map V.str).length : Int)) (by omega)
      have m1 := Int.emod_lt_of_pos x lp
      have hj : (x % (((a' :: r : List Str).map V.str).length : Int)).toNat < (a' :: r : List Str).length := by
        have : ((a' :: r : List Str).map V.str).length = (a' :: r : List Str).length := List.length_map ..
        omega
      refine ⟨_, .inl (SqL.of (s1 _ _ h1)), lp, _, SqL.of (s1 _ _ h1), .str ((a' :: r : List Str)[(x % (((a' :: r : List Str).map V.str).length : Int)).toNat]), atI_n _ (Int.toNat_of_nonneg m0).symm ?_, qs _ (List.getElem_mem _)⟩
      rw [List.getElem?_map, List.getElem?_eq_getElem hj]
      rfl
def sp_law_inn (K : PySem.W.Frag) : Sp := fun vs H Q _ => ∃ (s : Addr) (ns : List Int), vs = [.ref s] ∧ SqL K H s (IL ns) ∧
  ∀ H' p l r nm (lad : List Int) (risk : Int × Int) nms (sk : Int), Same H H' → Tu K H' p [.ref l, .ref r, .ref nm, .int sk] → H' l = some (.lst (IL lad)) → 1 ≤ lad.length → lad.length ≤ 4 → (∀ x ∈ lad, 0 ≤ x ∧ x ≤ 2) → Tu K H' r [.int risk.1, .int risk.2] → 0 ≤ risk.1 → risk.1 ≤ risk.2 → 1 ≤ risk.2 → risk.2 ≤ 1000000000 → Int.gcd risk.1 risk.2 = 1 →
    H' nm = some (.lst (nms.map V.str)) → NmsOk nms → 0 ≤ sk → sk ≤ 398 → H l = none → H nm = none → Q (.ref p) H'
theorem sc_law_inn : FnScope ["_law_script", "_law_xs", "_law_kinds", "_law_ladder", "_law_risk", "_law_skip", "_law_k"] ["_law_script"] (defScope s_law_inn) := ⟨rfl, rfl, rfl, by decide +kernel, rfl, by decide +kernel, by decide +kernel⟩
theorem g_law_inn (T : Txt K mg) : GF P w K mg base true 5 "_law_inn" [] (sp_law_inn K) := by
  obtain ⟨fd, F⟩ := T.f_law_inn
  refine ⟨_, fd, ["_law_script"], [], T.g_law_inn, F.kp, F.bindsN (fun _ _ _ _ _ _ us hl => match us, hl with | [_], _ => rfl), .nil, okU F sc_law_inn (fun vs H Q E h => ?_) (fun cdv A outer s H vs Q E pl hr hh hw h => ⟨_, PSs.nox (pss_cons (ps_set (i := 1) sc_law_inn.nd rfl (by first | exact Or.inl rfl | exact Or.inr rfl) (pe_cu (g_law_row T) (hr.mono (by decide)) hw (fun _ => hh rfl) rfl (pa_cons (pv 0) (pa_cons pe_int (pa_cons pe_int pa_nil)))))
      (pss_cons (ps_set (i := 2) sc_law_inn.nd rfl (by first | exact Or.inl rfl | exact Or.inr rfl) (pe_ix (ix_listK K) (pe_lst (pa_cons pe_int (pa_cons pe_int (pa_cons pe_int (pa_cons pe_int (pa_cons pe_int (pa_cons pe_int pa_nil))))))) (pe_op op_mod (pe_ix (ix_listK K) (pv 1) pe_int (fun _ _ => rfl)) pe_int) (fun _ _ => rfl)))
      (pss_cons (ps_setLc (i := 3) rfl sc_law_inn.nd rfl rfl (sw_true rfl rfl rfl rfl) (pi_range1 rfl T.n_range (pa_cons (pv 2) pa_nil)) (blkOk_by (own := [("_law_k", 6)]) (by kernel_rfl)) (fun _ _ _ _ _ => (pg_name (i := 6) sc_law_inn.nd rfl (by first | exact Or.inl rfl | exact Or.inr rfl))) (fun _ _ _ _ _ => pts_nil) (fun _ _ _ _ _ => (pe_op op_mod (pe_ix (ix_listK K) (pv 1) (pe_op op_add pe_int (pv 6)) (fun _ _ => rfl)) pe_int)))
      (pss_cons (ps_set (i := 4) sc_law_inn.nd rfl (by first | exact Or.inl rfl | exact Or.inr rfl) (pe_ix (ix_listK K) (pe_lst (pa_cons (pe_tup (pa_cons pe_int (pa_cons pe_int pa_nil))) (pa_cons (pe_tup (pa_cons pe_int (pa_cons pe_int pa_nil))) (pa_cons (pe_tup (pa_cons pe_int (pa_cons pe_int pa_nil))) (pa_cons (pe_tup (pa_cons pe_int (pa_cons pe_int pa_nil))) (pa_cons (pe_tup (pa_cons pe_int (pa_cons pe_int pa_nil))) (pa_cons (pe_tup (pa_cons pe_int (pa_cons (pe_op op_pow pe_int pe_int) pa_nil))) (pa_cons (pe_tup (pa_cons pe_int (pa_cons pe_int pa_nil))) (pa_cons (pe_tup (pa_cons pe_int (pa_cons pe_int pa_nil))) pa_nil))))))))) (pe_op op_mod (pe_ix (ix_listK K) (pv 1) pe_int (fun _ _ => rfl)) pe_int) (fun _ _ => rfl)))
      (pss_cons (ps_set (i := 5) sc_law_inn.nd rfl (by first | exact Or.inl rfl | exact Or.inr rfl) (pe_op op_mul (pe_callTy call_int1 rfl T.n_int boot_int (pa_cons (pe_cmpR (op_eq) (pe_op op_mod (pe_ix (ix_listK K) (pv 1) pe_int (fun _ _ => rfl)) pe_int) pe_int (nomark _)) pa_nil)) (pe_op op_add pe_int (pe_op op_mod (pe_ix (ix_listK K) (pv 1) pe_int (fun _ _ => rfl)) pe_int))))
      (pss_one (ps_ret (pe_tup (pa_cons (pv 3) (pa_cons (pv 4) (pa_cons (pe_cu (g_law_names T) (hr.mono (by decide)) hw (fun _ => hh rfl) rfl (pa_cons (pv 0) (pa_cons pe_int pa_nil))) (pa_cons (pv 5) pa_nil)))))))))))), ?_⟩)⟩
  · obtain ⟨s, ns, rfl, _⟩ := h
    rfl
  · obtain ⟨s, ns, rfl, h1, q⟩ := h
    simp only [a_tVar, a_tC, a_tOp, a_tUn, a_rI, a_rI0, a_rU, a_rEq, a_rNe, a_tTest, a_tB, a_tIsN, a_tNotN, a_tChain, a_tAnd, a_tOr, a_tNot, a_tAndV, a_tOrV, a_tNotV, a_tYes, a_tNext, a_tSeq, a_tCont, a_tBreak, a_tDrop, a_tRet, a_tIfS, a_tNever, a_gName, a_gNil, a_gCons, a_gTup, a_tAsg, a_tNil, a_tCons, a_tTup, a_tLst, a_tCB, a_tCU, a_tMU, a_tFld, a_sFld, a_tSl, a_tNoPart, a_tPart, a_rSlL, a_rSlT, a_rIxL, a_rIxT, a_rCat, a_rRep, a_rCatT, a_tDGet, a_tDIn, a_tDNotIn, a_sDPut, a_tDPop1, a_tDNewK, a_tBM, a_rAppend, a_rExtend, a_iList, a_iEnum, a_iRng1, a_iRng2, a_iVals, a_iItems, a_iRng3, a_iStr, a_tMX, a_tXf, a_wAs, a_tRaise, a_tVeI, a_tOst, a_tMkO, a_tMake, a_rSum, a_rIsi, a_tChain3, a_tAugS, a_rGetL, a_rPutL, a_ipI, a_rSet, a_tCKw, a_rMinD, a_rMin, a_rIxS, a_rSlS, a_iTup, a_rIn, a_rEqD, a_rNeD, upd_same, HO.lst.injEq, HO.tup.injEq, HO.dK.injEq, HO.frz.injEq, a_s0, a_s1, a_s2, a_s3, a_s4, a_s5, a_s6, a_s8, a_scal, a_scals, a_tFor, a_tLc, a_tWhile, a_wipe0, a_wipe1, k_cxU, w_cxU, k_blk, w_blk, and_assoc, exists_and_left, exists_eq_left, exists_eq_left', exists_eq_right, exists_eq, exists_const, List.getElem?_cons_zero, List.getElem?_cons_succ, List.set_cons_zero, List.set_cons_succ, Option.some.injEq, V.int.injEq, V.bl.injEq, V.ref.injEq, V.str.injEq, List.cons.injEq, and_true, true_and, List.cons_append, List.nil_append, List.append_nil, L2.start, List.map_cons, List.map_nil, List.length_cons, List.length_nil, List.replicate, Nat.sub_self, Nat.reduceSub, Nat.reduceAdd, Nat.zero_add, if_true, if_false, Bool.false_eq_true, Bool.true_eq_false, reduceIte, decide_eq_true_eq, Bool.not_eq_true', decide_eq_false_iff_not]
    refine ⟨s, ns, 0, 12, rfl, h1, by decide, by decide, by decide, fun H1 p xs s1 hp np xl xp => fun p1 n1 => ?_⟩
    have xl : xs.length = 12 := xl
    obtain ⟨i0, e0⟩ := at_IL (ns := xs) (k := 0) (by decide) (by omega)
    obtain ⟨i1, e1⟩ := at_IL (ns := xs) (k := 1) (by decide) (by omega)
    obtain ⟨i2, e2⟩ := at_IL (ns := xs) (k := 2) (by decide) (by omega)
    obtain ⟨i3, e3⟩ := at_IL (ns := xs) (k := 3) (by decide) (by omega)
    have s2 := (Same.rfl' (H := H1)).new n1 (o := .lst [.int 1, .int 2, .int 2, .int 3, .int 3, .int 4])
    have d0 : 0 ≤ i0 % 6 := Int.emod_nonneg _ (by decide)
    have d6 : i0 % 6 < 6 := Int.emod_lt_of_pos _ (by decide)
    obtain ⟨kd, ek, k1, k4⟩ : ∃ kd : Int, atI [V.int 1, V.int 2, V.int 2, V.int 3, V.int 3, V.int 4] (i0 % 6) = some (.int kd) ∧ 1 ≤ kd ∧ kd ≤ 4 := by
      have : i0 % 6 = 0 ∨ i0 % 6 = 1 ∨ i0 % 6 = 2 ∨ i0 % 6 = 3 ∨ i0 % 6 = 4 ∨ i0 % 6 = 5 := by omega
      rcases this with z | z | z | z | z | z <;> rw [z]
      · exact ⟨1, atI_n 0 rfl rfl, by decide, by decide⟩
      · exact ⟨2, atI_n 1 rfl rfl, by decide, by decide⟩
      · exact ⟨2, atI_n 2 rfl rfl, by decide, by decide⟩
      · exact ⟨3, atI_n 3 rfl rfl, by decide, by decide⟩
      · exact ⟨3, atI_n 4 rfl rfl, by decide, by decide⟩
      · exact ⟨4, atI_n 5 rfl rfl, by decide, by decide⟩
    have hp2 := s2 _ _ hp
    refine ⟨p, rfl, _, SqL.of hp2, _, e0, _, rfl, by decide, _, SqL.of upd_same, _, ek, _, rfl, by omega, by omega, fun D hD => ?_⟩
    generalize upd H1 p1 (.lst [.int 1, .int 2, .int 2, .int 3, .int 3, .int 4]) = H2 at *
    refine lc_ex walk_range hD (fun i H' acc => ∃ lad : List Int, acc = IL lad ∧ lad.length = i ∧ ∀ x ∈ lad, 0 ≤ x ∧ x ≤ 2) ⟨[], rfl, rfl, fun _ z => absurd z (by simp)⟩ (fun _ _ => trivial) ?_ ?_
    · rintro i y H3 H4 acc hi s3 hD3 ⟨lad, rfl, ll, lp⟩ ⟨rfl, rfl⟩
      obtain ⟨x, ex⟩ := at_IL (ns := xs) (k := 4 + (0 + (i : Int))) (by omega) (by omega)
      have x0 : 0 ≤ x % 3 := Int.emod_nonneg _ (by decide)
      have x3 : x % 3 < 3 := Int.emod_lt_of_pos _ (by decide)
      simp only [a_tVar, a_tC, a_tOp, a_tUn, a_rI, a_rI0, a_rU, a_rEq, a_rNe, a_tTest, a_tB, a_tIsN, a_tNotN, a_tChain, a_tAnd, a_tOr, a_tNot, a_tAndV, a_tOrV, a_tNotV, a_tYes, a_tNext, a_tSeq, a_tCont, a_tBreak, a_tDrop, a_tRet, a_tIfS, a_tNever, a_gName, a_gNil, a_gCons, a_gTup, a_tAsg, a_tNil, a_tCons, a_tTup, a_tLst, a_tCB, a_tCU, a_tMU, a_tFld, a_sFld, a_tSl, a_tNoPart, a_tPart, a_rSlL, a_rSlT, a_rIxL, a_rIxT, a_rCat, a_rRep, a_rCatT, a_tDGet, a_tDIn, a_tDNotIn, a_sDPut, a_tDPop1, a_tDNewK, a_tBM, a_rAppend, a_rExtend, a_iList, a_iEnum, a_iRng1, a_iRng2, a_iVals, a_iItems, a_iRng3, a_iStr, a_tMX, a_tXf, a_wAs, a_tRaise, a_tVeI, a_tOst, a_tMkO, a_tMake, a_rSum, a_rIsi, a_tChain3, a_tAugS, a_rGetL, a_rPutL, a_ipI, a_rSet, a_tCKw, a_rMinD, a_rMin, a_rIxS, a_rSlS, a_iTup, a_rIn, a_rEqD, a_rNeD, upd_same, HO.lst.injEq, HO.tup.injEq, HO.dK.injEq, HO.frz.injEq, a_s0, a_s1, a_s2, a_s3, a_s4, a_s5, a_s6, a_s8, a_scal, a_scals, a_tFor, a_tLc, a_tWhile, a_wipe0, a_wipe1, k_cxU, w_cxU, k_blk, w_blk, and_assoc, exists_and_left, exists_eq_left, exists_eq_left', exists_eq_right, exists_eq, exists_const, List.getElem?_cons_zero, List.getElem?_cons_succ, List.set_cons_zero, List.set_cons_succ, Option.some.injEq, V.int.injEq, V.bl.injEq, V.ref.injEq, V.str.injEq, List.cons.injEq, and_true, true_and, List.cons_append, List.nil_append, List.append_nil, L2.start, List.map_cons, List.map_nil, List.length_cons, List.length_nil, List.replicate, Nat.sub_self, Nat.reduceSub, Nat.reduceAdd, Nat.zero_add, if_true, if_false, Bool.false_eq_true, Bool.true_eq_false, reduceIte, decide_eq_true_eq, Bool.not_eq_true', decide_eq_false_iff_not]
      refine ⟨_, SqL.of (s3 _ _ hp2), _, ex, _, rfl, by decide, _, hD3, szl _ (by simp; omega), s3.put hD, lad ++ [x % 3], by simp, by simp [ll], fun z hz => (List.mem_append.mp hz).elim (lp z) fun e => by rw [List.mem_singleton.mp e]; omega⟩
    · rintro H3 acc s3 hD3 ⟨lad, rfl, ll, lp⟩
      have w0 : Same H2 H3 := s3
      intro q0 m0
      have w1 := w0.new m0 (o := .tup [.int 0, .int 1])
      have hD10 := get_new hD3 m0 (o := .tup [.int 0, .int 1])
      have u0 : upd H3 q0 (.tup [.int 0, .int 1]) q0 = some (.tup [.int 0, .int 1]) := upd_same
      generalize upd H3 q0 (.tup [.int 0, .int 1]) = A0 at *
      intro q1 m1
      have w2 := w1.new m1 (o := .tup [.int 1, .int 1])
      have hD11 := get_new hD10 m1 (o := .tup [.int 1, .int 1])
      have u0 := get_new u0 m1 (o := .tup [.int 1, .int 1])
      have u1 : upd A0 q1 (.tup [.int 1, .int 1]) q1 = some (.tup [.int 1, .int 1]) := upd_same
      generalize upd A0 q1 (.tup [.int 1, .int 1]) = A1 at *
      intro q2 m2
      have w3 := w2.new m2 (o := .tup [.int 1, .int 10])
      have hD12 := get_new hD11 m2 (o := .tup [.int 1, .int 10])
      have u0 := get_new u0 m2 (o := .tup [.int 1, .int 10])
      have u1 := get_new u1 m2 (o := .tup [.int 1, .int 10])
      have u2 : upd A1 q2 (.tup [.int 1, .int 10]) q2 = some (.tup [.int 1, .int 10]) := upd_same
      generalize upd A1 q2 (.tup [.int 1, .int 10]) = A2 at *
      intro q3 m3
      have w4 := w3.new m3 (o := .tup [.int 1, .int 20])
      have hD13 := get_new hD12 m3 (o := .tup [.int 1, .int 20])
      have u0 := get_new u0 m3 (o := .tup [.int 1, .int 20])
      have u1 := get_new u1 m3 (o := .tup [.int 1, .int 20])
      have u2 := get_new u2 m3 (o := .tup [.int 1, .int 20])
      have u3 : upd A2 q3 (.tup [.int 1, .int 20]) q3 = some (.tup [.int 1, .int 20]) := upd_same
      generalize upd A2 q3 (.tup [.int 1, .int 20]) = A3 at *
      intro q4 m4
      have w5 := w4.new m4 (o := .tup [.int 3, .int 4])
      have hD14 := get_new hD13 m4 (o := .tup [.int 3, .int 4])
      have u0 := get_new u0 m4 (o := .tup [.int 3, .int 4])
      have u1 := get_new u1 m4 (o := .tup [.int 3, .int 4])
      have u2 := get_new u2 m4 (o := .tup [.int 3, .int 4])
      have u3 := get_new u3 m4 (o := .tup [.int 3, .int 4])
      have u4 : upd A3 q4 (.tup [.int 3, .int 4]) q4 = some (.tup [.int 3, .int 4]) := upd_same
      generalize upd A3 q4 (.tup [.int 3, .int 4]) = A4 at *
      refine ⟨⟨by decide, by decide, by decide⟩, ?_⟩
      intro q5 m5
      have w6 := w5.new m5 (o := .tup [.int 1, .int (10 ^ Int.toNat 9)])
      have hD15 := get_new hD14 m5 (o := .tup [.int 1, .int (10 ^ Int.toNat 9)])
      have u0 := get_new u0 m5 (o := .tup [.int 1, .int (10 ^ Int.toNat 9)])
      have u1 := get_new u1 m5 (o := .tup [.int 1, .int (10 ^ Int.toNat 9)])
      have u2 := get_new u2 m5 (o := .tup [.int 1, .int (10 ^ Int.toNat 9)])
      have u3 := get_new u3 m5 (o := .tup [.int 1, .int (10 ^ Int.toNat 9)])
      have u4 := get_new u4 m5 (o := .tup [.int 1, .int (10 ^ Int.toNat 9)])
      have u5 : upd A4 q5 (.tup [.int 1, .int (10 ^ Int.toNat 9)]) q5 = some (.tup [.int 1, .int (10 ^ Int.toNat 9)]) := upd_same
      generalize upd A4 q5 (.tup [.int 1, .int (10 ^ Int.toNat 9)]) = A5 at *
      intro q6 m6
      have w7 := w6.new m6 (o := .tup [.int 1, .int 2])
      have hD16 := get_new hD15 m6 (o := .tup [.int 1, .int 2])
      have u0 := get_new u0 m6 (o := .tup [.int 1, .int 2])
      have u1 := get_new u1 m6 (o := .tup [.int 1, .int 2])
      have u2 := get_new u2 m6 (o := .tup [.int 1, .int 2])
      have u3 := get_new u3 m6 (o := .tup [.int 1, .int 2])
      have u4 := get_new u4 m6 (o := .tup [.int 1, .int 2])
      have u5 := get_new u5 m6 (o := .tup [.int 1, .int 2])
      have u6 : upd A5 q6 (.tup [.int 1, .int 2]) q6 = some (.tup [.int 1, .int 2]) := upd_same
      generalize upd A5 q6 (.tup [.int 1, .int 2]) = A6 at *
      intro q7 m7
      have w8 := w7.new m7 (o := .tup [.int 1, .int 10])
      have hD17 := get_new hD16 m7 (o := .tup [.int 1, .int 10])
      have u0 := get_new u0 m7 (o := .tup [.int 1, .int 10])
      have u1 := get_new u1 m7 (o := .tup [.int 1, .int 10])
      have u2 := get_new u2 m7 (o := .tup [.int 1, .int 10])
      have u3 := get_new u3 m7 (o := .tup [.int 1, .int 10])
      have u4 := get_new u4 m7 (o := .tup [.int 1, .int 10])
      have u5 := get_new u5 m7 (o := .tup [.int 1, .int 10])
      have u6 := get_new u6 m7 (o := .tup [.int 1, .int 10])
      have u7 : upd A6 q7 (.tup [.int 1, .int 10]) q7 = some (.tup [.int 1, .int 10]) := upd_same
      generalize upd A6 q7 (.tup [.int 1, .int 10]) = A7 at *
      intro q8 m8
      have w9 := w8.new m8 (o := .lst [.ref q0, .ref q1, .ref q2, .ref q3, .ref q4, .ref q5, .ref q6, .ref q7])
      have hD18 := get_new hD17 m8 (o := .lst [.ref q0, .ref q1, .ref q2, .ref q3, .ref q4, .ref q5, .ref q6, .ref q7])
      have l0 : 0 ≤ i1 % 8 := Int.emod_nonneg _ (by decide)
      have l8 : i1 % 8 < 8 := Int.emod_lt_of_pos _ (by decide)
      have hp9 := w9 _ _ hp2
      obtain ⟨qr, risk, er, tr, r0, r1, r2, r9, rg⟩ : ∃ (qr : Addr) (risk : Int × Int), atI [V.ref q0, V.ref q1, V.ref q2, V.ref q3, V.ref q4, V.ref q5, V.ref q6, V.ref q7] (i1 % 8) = some (.ref qr) ∧ A7 qr = some (.tup [.int risk.1, .int risk.2]) ∧ 0 ≤ risk.1 ∧ risk.1 ≤ risk.2 ∧ 1 ≤ risk.2 ∧ risk.2 ≤ 1000000000 ∧ Int.gcd risk.1 risk.2 = 1 := by
        have : i1 % 8 = 0 ∨ i1 % 8 = 1 ∨ i1 % 8 = 2 ∨ i1 % 8 = 3 ∨ i1 % 8 = 4 ∨ i1 % 8 = 5 ∨ i1 % 8 = 6 ∨ i1 % 8 = 7 := by omega
        rcases this with z | z | z | z | z | z | z | z <;> rw [z]
        · exact ⟨q0, (0, 1), atI_n 0 rfl rfl, u0, by decide, by decide, by decide, by decide, by decide⟩
        · exact ⟨q1, (1, 1), atI_n 1 rfl rfl, u1, by decide, by decide, by decide, by decide, by decide⟩
        · exact ⟨q2, (1, 10), atI_n 2 rfl rfl, u2, by decide, by decide, by decide, by decide, by decide⟩
        · exact ⟨q3, (1, 20), atI_n 3 rfl rfl, u3, by decide, by decide, by decide, by decide, by decide⟩
        · exact ⟨q4, (3, 4), atI_n 4 rfl rfl, u4, by decide, by decide, by decide, by decide, by decide⟩
        · exact ⟨q5, (1, 10 ^ Int.toNat 9), atI_n 5 rfl rfl, u5, by decide, by decide, by decide, by decide, by decide⟩
        · exact ⟨q6, (1, 2), atI_n 6 rfl rfl, u6, by decide, by decide, by decide, by decide, by decide⟩
        · exact ⟨q7, (1, 10), atI_n 7 rfl rfl, u7, by decide, by decide, by decide, by decide, by decide⟩
      have tr9 : Tu K _ qr [.int risk.1, .int risk.2] := .inl (get_new tr m8 (o := .lst [.ref q0, .ref q1, .ref q2, .ref q3, .ref q4, .ref q5, .ref q6, .ref q7]))
      have o8 : SqL K _ q8 [V.ref q0, V.ref q1, V.ref q2, V.ref q3, V.ref q4, V.ref q5, V.ref q6, V.ref q7] := SqL.of (upd_same (H := A7) (a := q8) (o := .lst [.ref q0, .ref q1, .ref q2, .ref q3, .ref q4, .ref q5, .ref q6, .ref q7]))
      generalize upd A7 q8 (.lst [.ref q0, .ref q1, .ref q2, .ref q3, .ref q4, .ref q5, .ref q6, .ref q7]) = A8 at *
      have sH : Same H A8 := (s1.tr s2).tr w9
      have f0 : 0 ≤ i3 % 9 := Int.emod_nonneg _ (by decide)
      have f9 : i3 % 9 < 9 := Int.emod_lt_of_pos _ (by decide)
      refine ⟨p, rfl, _, SqL.of hp9, _, e1, _, rfl, by decide, _, o8, _, er, p, rfl, _, SqL.of hp9, _, e2, _, rfl, by decide, .inr ⟨p, rfl, _, SqL.of hp9, _, e3, _, rfl, by decide, .inr ⟨by omega, by omega⟩, s, ns, 1, rfl, Same.seq sH h1, by decide, fun H5 pn nms s5 hpn npn ok => fun pt hpt => ?_⟩⟩
      have s6 := (sH.tr s5).new hpt (o := .tup [.ref D, .ref qr, .ref pn, .int ((if i2 % 12 = 5 then 1 else 0) * (390 + i3 % 9))])
      have hDn : H D = none := Same.free s1 (Same.free s2 hD)
      refine q _ pt D qr pn lad risk nms _ s6 (.inl upd_same) (get_new (s5 _ _ hD18) hpt) (by omega) (by omega) lp ((tr9.keep s5.tups).keep (Same.rfl'.new hpt).tups) r0 r1 r2 r9 rg (get_new hpn hpt) ok ?_ ?_ hDn (Same.free sH npn)
      · split <;> omega
      · split <;> omega
end
end Nb
end
section
set_option Elab.async false
set_option linter.all false
set_option maxRecDepth 100000
set_option maxHeartbeats 4000000
namespace Nb
open PySem PySem.Spec PyProof.Rows L2 NbU NbM
section
variable {P : Program} {w : World} {K : PySem.W.Frag} {mg : Str → Option Value} {base : Heap} {H H' : Hp} {B : BA} {n n' : Nat} {b : Bk Str}
abbrev ZZ : Str := "zz"
def sp_law_without : Sp := fun vs H Q _ => ∃ (a : Addr) (nms : List Str), vs = [.ref a] ∧ H a = some (.lst (nms.map V.str)) ∧ nms.length ≤ 1000 ∧
  ∀ H' v, Same H H' → NewAt H H' v (noZ ZZ nms) → Q v H'
theorem sc_law_without : FnScope ["_law_names_here", "_law_name"] ["_law_names_here"] (defScope s_law_without) := ⟨rfl, rfl, rfl, by decide +kernel, rfl, by decide +kernel, by decide +kernel⟩
theorem g_law_without (T : Txt K mg) : GF P w K mg base true 1 "_law_without" [] sp_law_without := by
  obtain ⟨fd, F⟩ := T.f_law_without
  refine ⟨_, fd, ["_law_names_here"], [], T.g_law_without, F.kp, F.bindsN (fun _ _ _ _ _ _ us hl => match us, hl with | [_], _ => rfl), .nil, okU F sc_law_without (fun vs H Q E h => ?_) (fun cdv A outer s H vs Q E pl hr hh hw h => ⟨_, PSs.nox (pss_one (ps_ret (pe_lcU hw sc_law_without.nd (piu_list (pv 0)) (blkOk_by (own := [("_law_name", 1)]) (by kernel_rfl)) (fun _ _ _ _ _ => (pg_name (i := 1) sc_law_without.nd rfl (by first | exact Or.inl rfl | exact Or.inr rfl))) (fun _ _ _ _ _ => (pts_one (pt_cmpR (op_ne) (pv 1) pe_str (nomark _)))) (fun _ _ _ _ _ => (pv 1))))), ?_⟩)⟩
  · obtain ⟨a, nms, rfl, _⟩ := h
    rfl
  · obtain ⟨a, nms, rfl, h1, h2, q⟩ := h
    simp only [a_tVar, a_tC, a_tOp, a_tUn, a_rI, a_rI0, a_rU, a_rEq, a_rNe, a_tTest, a_tB, a_tIsN, a_tNotN, a_tChain, a_tAnd, a_tOr, a_tNot, a_tAndV, a_tOrV, a_tNotV, a_tYes, a_tNext, a_tSeq, a_tCont, a_tBreak, a_tDrop, a_tRet, a_tIfS, a_tNever, a_gName, a_gNil, a_gCons, a_gTup, a_tAsg, a_tNil, a_tCons, a_tTup, a_tLst, a_tCB, a_tCU, a_tMU, a_tFld, a_sFld, a_tSl, a_tNoPart, a_tPart, a_rSlL, a_rSlT, a_rIxL, a_rIxT, a_rCat, a_rRep, a_rCatT, a_tDGet, a_tDIn, a_tDNotIn, a_sDPut, a_tDPop1, a_tDNewK, a_tBM, a_rAppend, a_rExtend, a_iList, a_iEnum, a_iRng1, a_iRng2, a_iVals, a_iItems, a_iRng3, a_iStr, a_tMX, a_tXf, a_wAs, a_tRaise, a_tVeI, a_tOst, a_tMkO, a_tMake, a_rSum, a_rIsi, a_tChain3, a_tAugS, a_rGetL, a_rPutL, a_ipI, a_rSet, a_tCKw, a_rMinD, a_rMin, a_rIxS, a_rSlS, a_iTup, a_rIn, a_rEqD, a_rNeD, upd_same, HO.lst.injEq, HO.tup.injEq, HO.dK.injEq, HO.frz.injEq, a_s0, a_s1, a_s2, a_s3, a_s4, a_s5, a_s6, a_s8, a_scal, a_scals, a_tFor, a_tLc, a_tWhile, a_wipe0, a_wipe1, k_cxU, w_cxU, k_blk, w_blk, and_assoc, exists_and_left, exists_eq_left, exists_eq_left', exists_eq_right, exists_eq, exists_const, List.getElem?_cons_zero, List.getElem?_cons_succ, List.set_cons_zero, List.set_cons_succ, Option.some.injEq, V.int.injEq, V.bl.injEq, V.ref.injEq, V.str.injEq, List.cons.injEq, and_true, true_and, List.cons_append, List.nil_append, List.append_nil, L2.start, List.map_cons, List.map_nil, List.length_cons, List.length_nil, List.replicate, Nat.sub_self, Nat.reduceSub, Nat.reduceAdd, Nat.zero_add, if_true, if_false, Bool.false_eq_true, Bool.true_eq_false, reduceIte, decide_eq_true_eq, Bool.not_eq_true', decide_eq_false_iff_not]
    obtain ⟨ac, ha⟩ : ∃ f : Nat → List V, ∀ i, f i = (noZ ZZ (nms.take i)).map V.str := ⟨_, fun _ => rfl⟩
    refine ⟨⟨_, SqL.of h1⟩, fun D hD => ?_⟩
    refine lc_go (walk_list (xs := nms.map V.str)) hD ac (ha 0) (fun _ s => SqL.of (s _ _ h1)) ?_ ?_
    · rintro i y H3 H4 hi s hD' ⟨rfl, e⟩
      rw [List.getElem?_map] at e
      cases ex : nms[i]? with
      | none => rw [ex] at e; cases e
      | some x =>
      rw [ex] at e
      cases e
      have ec : ac (i + 1) = ac i ++ (if x = "zz" then [] else [V.str x]) := by
        rw [ha, ha, take_snoc ex]
        unfold noZ
        rw [List.filter_append, List.map_append, List.filter_cons]
        by_cases z : x = "zz"
        · rw [if_neg (by simp [z]), if_pos z]; rfl
        · rw [if_pos (by simpa using z), if_neg z]; rfl
      simp only [a_tVar, a_tC, a_tOp, a_tUn, a_rI, a_rI0, a_rU, a_rEq, a_rNe, a_tTest, a_tB, a_tIsN, a_tNotN, a_tChain, a_tAnd, a_tOr, a_tNot, a_tAndV, a_tOrV, a_tNotV, a_tYes, a_tNext, a_tSeq, a_tCont, a_tBreak, a_tDrop, a_tRet, a_tIfS, a_tNever, a_gName, a_gNil, a_gCons, a_gTup, a_tAsg, a_tNil, a_tCons, a_tTup, a_tLst, a_tCB, a_tCU, a_tMU, a_tFld, a_sFld, a_tSl, a_tNoPart, a_tPart, a_rSlL, a_rSlT, a_rIxL, a_rIxT, a_rCat, a_rRep, a_rCatT, a_tDGet, a_tDIn, a_tDNotIn, a_sDPut, a_tDPop1, a_tDNewK, a_tBM, a_rAppend, a_rExtend, a_iList, a_iEnum, a_iRng1, a_iRng2, a_iVals, a_iItems, a_iRng3, a_iStr, a_tMX, a_tXf, a_wAs, a_tRaise, a_tVeI, a_tOst, a_tMkO, a_tMake, a_rSum, a_rIsi, a_tChain3, a_tAugS, a_rGetL, a_rPutL, a_ipI, a_rSet, a_tCKw, a_rMinD, a_rMin, a_rIxS, a_rSlS, a_iTup, a_rIn, a_rEqD, a_rNeD, upd_same, HO.lst.injEq, HO.tup.injEq, HO.dK.injEq, HO.frz.injEq, a_s0, a_s1, a_s2, a_s3, a_s4, a_s5, a_s6, a_s8, a_scal, a_scals, a_tFor, a_tLc, a_tWhile, a_wipe0, a_wipe1, k_cxU, w_cxU, k_blk, w_blk, and_assoc, exists_and_left, exists_eq_left, exists_eq_left', exists_eq_right, exists_eq, exists_const, List.getElem?_cons_zero, List.getElem?_cons_succ, List.set_cons_zero, List.set_cons_succ, Option.some.injEq, V.int.injEq, V.bl.injEq, V.ref.injEq, V.str.injEq, List.cons.injEq, and_true, true_and, List.cons_append, List.nil_append, List.append_nil, L2.start, List.map_cons, List.map_nil, List.length_cons, List.length_nil, List.replicate, Nat.sub_self, Nat.reduceSub, Nat.reduceAdd, Nat.zero_add, if_true, if_false, Bool.false_eq_true, Bool.true_eq_false, reduceIte, decide_eq_true_eq, Bool.not_eq_true', decide_eq_false_iff_not]
      by_cases z : x = "zz"
      · rw [if_pos z, List.append_nil] at ec
        rw [if_neg (fun q => q z)]
        exact leafN hD' s ec
      · rw [if_neg z] at ec
        rw [if_pos z]
        refine leaf hD hD' s (szl _ ?_) ec
        rw [ha, List.length_map]
        unfold noZ
        have := List.length_filter_le (fun n : Str => decide (n ≠ ZZ)) (nms.take i)
        rw [List.length_take] at this
        omega
    · intro H3 s hD'
      rw [ha, List.length_map, List.take_length] at hD'
      exact q _ _ s ⟨D, rfl, hD', hD⟩
theorem walk_len' (lad : List Int) (risk : Int × Int) : ∀ (ns : List Str) (s : List (Str × Ent) × List Str), (ns.foldl (wstep lad risk) s).2.length ≤ s.2.length + ns.length
  | [], _ => Nat.le_refl _
  | n :: r, s => by
    rw [List.foldl_cons]
    have h1 := walk_len' lad risk r (wstep lad risk s n)
    have h2 : (wstep lad risk s n).2.length ≤ s.2.length + 1 := by
      unfold wstep
      split <;> simp
    rw [List.length_cons]
    omega
theorem fillN_len (b : Bk Str) : (fillN b).length ≤ b.es.length := by
  have h1 := walk_len' b.ladder b.risk (waitingE b.es) (b.es, [])
  have h2 : (waitingE b.es).length ≤ b.es.length := by
    unfold waitingE
    rw [List.length_map]
    exact List.length_filter_le ..
  have h3 : (fillN b).length ≤ 0 + (waitingE b.es).length := h1
  omega
/-! ### deeds -/
def DeedAt (K : PySem.W.Frag) (H : Hp) (t : Addr) : Deed Str → Prop
  | .non => ∃ w : Str, Tu K H t [.str w, .non]
  | .wish n k f b c => ∃ ca : Addr, Tu K H t [.str "wish", .str n, .int k, .int f, .int b, .ref ca] ∧ Tu K H ca [.int c.1, .int c.2] ∧ Int.gcd c.1 c.2 = 1
  | .withdraw n => Tu K H t [.str "withdraw", .str n]
  | .absent n => Tu K H t [.str "absent", .str n]
  | .go n => Tu K H t [.str "go", .str n]
  | .come n => Tu K H t [.str "come", .str n]
  | .close => Tu K H t [.str "close", .str ""]
def ToldAt (K : PySem.W.Frag) (H0 H : Hp) (v : V) : Tell Str → Prop
  | .unit => ∃ t, v = .ref t ∧ Tu K H t []
  | .yes b => v = .bl b
  | .names l => NewAt H0 H v l
  | .lists ls => ∃ (t : Addr) (us : List V), v = .ref t ∧ H t = some (.lst us) ∧ H0 t = none ∧ Paired (NewAt H0 H) us ls
  | .inn => v = .str "in"
  | .away k l => ∃ (t : Addr) (x : V), v = .ref t ∧ Tu K H t [.int k, x] ∧ NewAt H0 H x l
def sp_law_do (K : PySem.W.Frag) : Sp := fun vs H Q _ => ∃ (al : List Str) (B : BA) (n : Nat) (b : Bk Str) (t : Addr) (d : Deed Str), vs = [.ref B.o, .ref t] ∧ DeedAt K H t d ∧ AlOk al ∧ Ok al b ∧ DeedOk al b d ∧ BookAt K H B n b ∧ n ≤ 800000 ∧
  ∀ H' v, Fr B.fp H H' → BookAt K H' B (n + 1000) (doB b d).1 → ToldAt K H H' v (tellZ ZZ (doB b d).2) → Q v H'
theorem sc_law_do : FnScope ["_law_book", "_law_deed", "_law_told", "_law_one"] ["_law_book", "_law_deed"] (defScope s_law_do) := ⟨rfl, rfl, rfl, by decide +kernel, rfl, by decide +kernel, by decide +kernel⟩
theorem g_law_do (T : Txt K mg) : GF P w K mg base true 9 "_law_do" [] (sp_law_do K) := by
  obtain ⟨fd, F⟩ := T.f_law_do
  refine ⟨_, fd, ["_law_book", "_law_deed"], [], T.g_law_do, F.kp, F.bindsN (fun _ _ _ _ _ _ us hl => match us, hl with | [_, _], _ => rfl), .nil, okU F sc_law_do (fun vs H Q E h => ?_) (fun cdv A outer s H vs Q E pl hr hh hw h => ⟨_, PSs.nox (pss_cons (ps_if (pt_cmp (pc_isN (pe_ix (ix_tupK K) (pv 1) pe_int (fun _ _ => rfl)))) (pss_one (ps_ret (pe_tup pa_nil))) pss_nil)
      (pss_cons (ps_if (pt_cmpR (op_eq) (pe_ix (ix_tupK K) (pv 1) pe_int (fun _ _ => rfl)) pe_str (nomark _)) (pss_one (ps_ret (pe_mu (pv 0) T.c_Book (g_Book_wish T) (hr.mono (by decide)) hw (fun _ => hh rfl) (pa_cons (pe_ix (ix_tupK K) (pv 1) pe_int (fun _ _ => rfl)) (pa_cons (pe_ix (ix_tupK K) (pv 1) pe_int (fun _ _ => rfl)) (pa_cons (pe_ix (ix_tupK K) (pv 1) pe_int (fun _ _ => rfl)) (pa_cons (pe_ix (ix_tupK K) (pv 1) pe_int (fun _ _ => rfl)) (pa_cons (pe_ix (ix_tupK K) (pv 1) pe_int (fun _ _ => rfl)) pa_nil)))))))) pss_nil)
      (pss_cons (ps_if (pt_cmpR (op_eq) (pe_ix (ix_tupK K) (pv 1) pe_int (fun _ _ => rfl)) pe_str (nomark _)) (pss_one (ps_ret (pe_cu (g_law_without T) (hr.mono (by decide)) hw (fun _ => hh rfl) rfl (pa_cons (pe_mu (pv 0) T.c_Book (g_Book_withdraw T) (hr.mono (by decide)) hw (fun _ => hh rfl) (pa_cons (pe_ix (ix_tupK K) (pv 1) pe_int (fun _ _ => rfl)) pa_nil)) pa_nil)))) pss_nil)
      (pss_cons (ps_if (pt_cmpR (op_eq) (pe_ix (ix_tupK K) (pv 1) pe_int (fun _ _ => rfl)) pe_str (nomark _)) (pss_one (ps_ret (pe_cu (g_law_without T) (hr.mono (by decide)) hw (fun _ => hh rfl) rfl (pa_cons (pe_mu (pv 0) T.c_Book (g_Book_absent T) (hr.mono (by decide)) hw (fun _ => hh rfl) (pa_cons (pe_ix (ix_tupK K) (pv 1) pe_int (fun _ _ => rfl)) pa_nil)) pa_nil)))) pss_nil)
      (pss_cons (ps_if (pt_cmpR (op_eq) (pe_ix (ix_tupK K) (pv 1) pe_int (fun _ _ => rfl)) pe_str (nomark _)) (pss_one (ps_ret (pe_cu (g_law_without T) (hr.mono (by decide)) hw (fun _ => hh rfl) rfl (pa_cons (pe_mu (pv 0) T.c_Book (g_Book_go T) (hr.mono (by decide)) hw (fun _ => hh rfl) (pa_cons (pe_ix (ix_tupK K) (pv 1) pe_int (fun _ _ => rfl)) pa_nil)) pa_nil)))) pss_nil)
      (pss_cons (ps_if (pt_cmpR (op_eq) (pe_ix (ix_tupK K) (pv 1) pe_int (fun _ _ => rfl)) pe_str (nomark _)) (pss_one (ps_ret (pe_lc rfl sc_law_do.nd (pi_tup (pe_mu0 (pv 0) T.c_Book (g_Book_close T) (hr.mono (by decide)) hw (fun _ => hh rfl))) (blkOk_by (own := [("_law_one", 3)]) (by kernel_rfl)) (fun _ _ _ _ _ => (pg_name (i := 3) sc_law_do.nd rfl (by first | exact Or.inl rfl | exact Or.inr rfl))) (fun _ _ _ _ _ => pts_nil) (fun _ _ _ _ _ => (pe_cu (g_law_without T) (hr.mono (by decide)) (Or.inl (hh rfl)) (fun _ => hh rfl) rfl (pa_cons (pv 3) pa_nil)))))) pss_nil)
      (pss_cons (ps_set (i := 2) sc_law_do.nd rfl (by first | exact Or.inl rfl | exact Or.inr rfl) (pe_mu (pv 0) T.c_Book (g_Book_come T) (hr.mono (by decide)) hw (fun _ => hh rfl) (pa_cons (pe_ix (ix_tupK K) (pv 1) pe_int (fun _ _ => rfl)) pa_nil)))
      (pss_cons (ps_if (pt_cmpR (op_eq) (pe_ix (ix_tupK K) (pv 2) pe_int (fun _ _ => rfl)) pe_str (nomark _)) (pss_one (ps_ret pe_str)) pss_nil)
      (pss_one (ps_ret (pe_tup (pa_cons (pe_ix (ix_tupK K) (pv 2) pe_int (fun _ _ => rfl)) (pa_cons (pe_cu (g_law_without T) (hr.mono (by decide)) hw (fun _ => hh rfl) rfl (pa_cons (pe_ix (ix_tupK K) (pv 2) pe_int (fun _ _ => rfl)) pa_nil)) pa_nil))))))))))))), ?_⟩)⟩
  · obtain ⟨al, B, n, b, t, d, rfl, _⟩ := h
    rfl
  · obtain ⟨al, B, n, b, t, d, rfl, h1, h2, h3, h4, h5, h6, q⟩ := h
    simp only [a_tVar, a_tC, a_tOp, a_tUn, a_rI, a_rI0, a_rU, a_rEq, a_rNe, a_tTest, a_tB, a_tIsN, a_tNotN, a_tChain, a_tAnd, a_tOr, a_tNot, a_tAndV, a_tOrV, a_tNotV, a_tYes, a_tNext, a_tSeq, a_tCont, a_tBreak, a_tDrop, a_tRet, a_tIfS, a_tNever, a_gName, a_gNil, a_gCons, a_gTup, a_tAsg, a_tNil, a_tCons, a_tTup, a_tLst, a_tCB, a_tCU, a_tMU, a_tFld, a_sFld, a_tSl, a_tNoPart, a_tPart, a_rSlL, a_rSlT, a_rIxL, a_rIxT, a_rCat, a_rRep, a_rCatT, a_tDGet, a_tDIn, a_tDNotIn, a_sDPut, a_tDPop1, a_tDNewK, a_tBM, a_rAppend, a_rExtend, a_iList, a_iEnum, a_iRng1, a_iRng2, a_iVals, a_iItems, a_iRng3, a_iStr, a_tMX, a_tXf, a_wAs, a_tRaise, a_tVeI, a_tOst, a_tMkO, a_tMake, a_rSum, a_rIsi, a_tChain3, a_tAugS, a_rGetL, a_rPutL, a_ipI, a_rSet, a_tCKw, a_rMinD, a_rMin, a_rIxS, a_rSlS, a_iTup, a_rIn, a_rEqD, a_rNeD, upd_same, HO.lst.injEq, HO.tup.injEq, HO.dK.injEq, HO.frz.injEq, a_s0, a_s1, a_s2, a_s3, a_s4, a_s5, a_s6, a_s8, a_scal, a_scals, a_tFor, a_tLc, a_tWhile, a_wipe0, a_wipe1, k_cxU, w_cxU, k_blk, w_blk, and_assoc, exists_and_left, exists_eq_left, exists_eq_left', exists_eq_right, exists_eq, exists_const, List.getElem?_cons_zero, List.getElem?_cons_succ, List.set_cons_zero, List.set_cons_succ, Option.some.injEq, V.int.injEq, V.bl.injEq, V.ref.injEq, V.str.injEq, List.cons.injEq, and_true, true_and, List.cons_append, List.nil_append, List.append_nil, L2.start, List.map_cons, List.map_nil, List.length_cons, List.length_nil, List.replicate, Nat.sub_self, Nat.reduceSub, Nat.reduceAdd, Nat.zero_add, if_true, if_false, Bool.false_eq_true, Bool.true_eq_false, reduceIte, decide_eq_true_eq, Bool.not_eq_true', decide_eq_false_iff_not]
    obtain ⟨dx, hi⟩ := h5.ins
    have el := es_le h3.pre
    have al15 := h2.len
    cases d with
    | non =>
      obtain ⟨w0, tu⟩ := h1
      refine ⟨_, tu.sq, .non, atI_n 1 rfl rfl, ?_⟩
      rw [if_pos rfl]
      intro p hp
      have s1 := (Same.rfl' (H := H)).new hp (o := .tup [])
      exact q _ _ (s1.fr _) ((h5.same s1).up (by omega)) ⟨p, rfl, .inl upd_same⟩
    | wish nm k f bh c =>
      obtain ⟨ca, tu, tc, gc⟩ := h1
      refine ⟨_, tu.sq, .str nm, atI_n 1 rfl rfl, ?_⟩
      rw [if_neg (fun z => V.noConfusion z)]
      refine ⟨_, tu.sq, .str "wish", atI_n 0 rfl rfl, rfl, ?_⟩
      rw [if_pos rfl]
      refine ⟨_, _, hi, rfl, _, tu.sq, _, atI_n 1 rfl rfl, _, tu.sq, _, atI_n 2 rfl rfl, _, tu.sq, _, atI_n 3 rfl rfl, _, tu.sq, _, atI_n 4 rfl rfl, _, tu.sq, _, atI_n 5 rfl rfl, B, n, b, nm, k, f, bh, ca, c, rfl, tc, gc, ⟨⟨al, h2, h3, h4⟩, h5, h6, fun H1 v f1 b1 tl => ?_⟩⟩
      refine q _ _ f1 b1 ?_
      obtain ⟨y, ey⟩ : ∃ y, (doB b (.wish nm k f bh c)).2 = .yes y := by
        unfold doB
        dsimp only
        split <;> exact ⟨_, rfl⟩
      rw [ey] at tl ⊢
      exact tl
    | withdraw nm =>
      have tu : Tu K H t _ := h1
      refine ⟨_, tu.sq, .str nm, atI_n 1 rfl rfl, ?_⟩
      rw [if_neg (fun z => V.noConfusion z)]
      refine ⟨_, tu.sq, .str "withdraw", atI_n 0 rfl rfl, rfl, ?_⟩
      rw [if_neg (by decide)]
      refine ⟨_, tu.sq, .str "withdraw", atI_n 0 rfl rfl, rfl, ?_⟩
      rw [if_pos rfl]
      refine ⟨_, _, hi, rfl, _, tu.sq, .str nm, atI_n 1 rfl rfl, B, n, b, nm, rfl, ⟨⟨al, h2, h3, h4⟩, h5, h6, fun H1 v f1 b1 tl => ?_⟩⟩
      obtain ⟨p, rfl, gp, np⟩ := (show NewAt H H1 v (fillN (dropB b nm)) from tl)
      refine ⟨p, _, rfl, gp, by have := fillN_len (dropB b nm); have z : (dropB b nm).es.length ≤ b.es.length := List.length_filter_le ..; omega, fun H2 v2 s2 nw => ?_⟩
      exact q _ _ (f1.tr (s2.fr _)) (b1.same s2) (show NewAt H H2 v2 (noZ ZZ (fillN (dropB b nm))) from nw.back b1 f1)
    | absent nm =>
      have tu : Tu K H t _ := h1
      refine ⟨_, tu.sq, .str nm, atI_n 1 rfl rfl, ?_⟩
      rw [if_neg (fun z => V.noConfusion z)]
      refine ⟨_, tu.sq, .str "absent", atI_n 0 rfl rfl, rfl, ?_⟩
      rw [if_neg (by decide)]
      refine ⟨_, tu.sq, .str "absent", atI_n 0 rfl rfl, rfl, ?_⟩
      rw [if_neg (by decide)]
      refine ⟨_, tu.sq, .str "absent", atI_n 0 rfl rfl, rfl, ?_⟩
      rw [if_pos rfl]
      refine ⟨_, _, hi, rfl, _, tu.sq, .str nm, atI_n 1 rfl rfl, B, n, b, nm, rfl, ⟨⟨al, h2, h3, h4⟩, h5, h6, fun H1 v f1 b1 tl => ?_⟩⟩
      obtain ⟨p, rfl, gp, np⟩ := (show NewAt H H1 v (fillN (dropB b nm)) from tl)
      refine ⟨p, _, rfl, gp, by have := fillN_len (dropB b nm); have z : (dropB b nm).es.length ≤ b.es.length := List.length_filter_le ..; omega, fun H2 v2 s2 nw => ?_⟩
      exact q _ _ (f1.tr (s2.fr _)) (b1.same s2) (show NewAt H H2 v2 (noZ ZZ (fillN (dropB b nm))) from nw.back b1 f1)
    | go nm =>
      have tu : Tu K H t _ := h1
      refine ⟨_, tu.sq, .str nm, atI_n 1 rfl rfl, ?_⟩
      rw [if_neg (fun z => V.noConfusion z)]
      refine ⟨_, tu.sq, .str "go", atI_n 0 rfl rfl, rfl, ?_⟩
      rw [if_neg (by decide)]
      refine ⟨_, tu.sq, .str "go", atI_n 0 rfl rfl, rfl, ?_⟩
      rw [if_neg (by decide)]
      refine ⟨_, tu.sq, .str "go", atI_n 0 rfl rfl, rfl, ?_⟩
      rw [if_neg (by decide)]
      refine ⟨_, tu.sq, .str "go", atI_n 0 rfl rfl, rfl, ?_⟩
      rw [if_pos rfl]
      refine ⟨_, _, hi, rfl, _, tu.sq, .str nm, atI_n 1 rfl rfl, B, n, b, nm, rfl, ⟨⟨al, h2, h3, h4⟩, h5, h6, fun H1 v f1 b1 tl => ?_⟩⟩
      obtain ⟨p, rfl, gp, np⟩ := (show NewAt H H1 v (fillN (outB b nm)) from tl)
      refine ⟨p, _, rfl, gp, by have := fillN_len (outB b nm); have z : (outB b nm).es.length ≤ b.es.length := List.length_filter_le ..; omega, fun H2 v2 s2 nw => ?_⟩
      exact q _ _ (f1.tr (s2.fr _)) (b1.same s2) (show NewAt H H2 v2 (noZ ZZ (fillN (outB b nm))) from nw.back b1 f1)
    | close =>
      have tu : Tu K H t _ := h1
      refine ⟨_, tu.sq, .str "", atI_n 1 rfl rfl, ?_⟩
      rw [if_neg (fun z => V.noConfusion z)]
      refine ⟨_, tu.sq, .str "close", atI_n 0 rfl rfl, rfl, ?_⟩
      rw [if_neg (by decide)]
      refine ⟨_, tu.sq, .str "close", atI_n 0 rfl rfl, rfl, ?_⟩
      rw [if_neg (by decide)]
      refine ⟨_, tu.sq, .str "close", atI_n 0 rfl rfl, rfl, ?_⟩
      rw [if_neg (by decide)]
      refine ⟨_, tu.sq, .str "close", atI_n 0 rfl rfl, rfl, ?_⟩
      rw [if_neg (by decide)]
      refine ⟨_, tu.sq, .str "close", atI_n 0 rfl rfl, rfl, ?_⟩
      rw [if_pos rfl]
      refine ⟨_, _, hi, rfl, B, n, b, rfl, ⟨⟨al, h2, h3, h4⟩, h5, h6, fun H1 v f1 b1 tl => ?_⟩⟩
      obtain ⟨t2, us, rfl, tt, pu⟩ := tl
      have c1l : (close1 b).es.length ≤ b.es.length := by
        unfold close1
        rw [dropB_fold]
        exact drops_len _ _
      have c2l : (close2 (close1 b)).es.length ≤ (close1 b).es.length := by
        unfold close2
        rw [outB_fold]
        exact drops_len _ _
      have c3l : (close3 (close2 (close1 b))).es.length ≤ (close2 (close1 b)).es.length := by
        unfold close3
        rw [dropB_fold]
        exact drops_len _ _
      have lls : ∀ l ∈ [missingOf b, leavingOf (close1 b), lateOf (close2 (close1 b)), fillN (close3 (close2 (close1 b)))], l.length ≤ 15 := fun l hl => by
        simp only [List.mem_cons, List.not_mem_nil, or_false] at hl
        rcases hl with z | z | z | z <;> rw [z]
        · exact Nat.le_trans sub_len (by omega)
        · exact Nat.le_trans sub_len (by omega)
        · exact Nat.le_trans sub_len (by omega)
        · exact Nat.le_trans (fillN_len _) (by omega)
      have tz : tellZ ZZ (doB b .close).2 = .lists ([missingOf b, leavingOf (close1 b), lateOf (close2 (close1 b)), fillN (close3 (close2 (close1 b)))].map (noZ ZZ)) := rfl
      rw [tz] at q
      have pu : Paired (NewAt H H1) us [missingOf b, leavingOf (close1 b), lateOf (close2 (close1 b)), fillN (close3 (close2 (close1 b)))] := pu
      have l4 : [missingOf b, leavingOf (close1 b), lateOf (close2 (close1 b)), fillN (close3 (close2 (close1 b)))].length = 4 := rfl
      generalize [missingOf b, leavingOf (close1 b), lateOf (close2 (close1 b)), fillN (close3 (close2 (close1 b)))] = ls at *
      have ul := Paired.length pu
      refine ⟨t2, rfl, ⟨_, tt.sq⟩, fun D hD => ?_⟩
      refine lc_ex walk_tup hD (fun i H' acc => acc.length = i ∧ Paired (NewAt (upd H1 D (.lst [])) H') acc ((ls.take i).map (noZ ZZ))) ⟨rfl, .nil⟩ (fun _ s => (tt.keep s.tups).sq) ?_ ?_
      · rintro i y H3 H4 acc hi s hD3 ⟨al', pa⟩ ⟨rfl, e⟩
        obtain ⟨l, hl, p, rfl, gp, np⟩ := paired_get pu e
        simp only [a_tVar, a_tC, a_tOp, a_tUn, a_rI, a_rI0, a_rU, a_rEq, a_rNe, a_tTest, a_tB, a_tIsN, a_tNotN, a_tChain, a_tAnd, a_tOr, a_tNot, a_tAndV, a_tOrV, a_tNotV, a_tYes, a_tNext, a_tSeq, a_tCont, a_tBreak, a_tDrop, a_tRet, a_tIfS, a_tNever, a_gName, a_gNil, a_gCons, a_gTup, a_tAsg, a_tNil, a_tCons, a_tTup, a_tLst, a_tCB, a_tCU, a_tMU, a_tFld, a_sFld, a_tSl, a_tNoPart, a_tPart, a_rSlL, a_rSlT, a_rIxL, a_rIxT, a_rCat, a_rRep, a_rCatT, a_tDGet, a_tDIn, a_tDNotIn, a_sDPut, a_tDPop1, a_tDNewK, a_tBM, a_rAppend, a_rExtend, a_iList, a_iEnum, a_iRng1, a_iRng2, a_iVals, a_iItems, a_iRng3, a_iStr, a_tMX, a_tXf, a_wAs, a_tRaise, a_tVeI, a_tOst, a_tMkO, a_tMake, a_rSum, a_rIsi, a_tChain3, a_tAugS, a_rGetL, a_rPutL, a_ipI, a_rSet, a_tCKw, a_rMinD, a_rMin, a_rIxS, a_rSlS, a_iTup, a_rIn, a_rEqD, a_rNeD, upd_same, HO.lst.injEq, HO.tup.injEq, HO.dK.injEq, HO.frz.injEq, a_s0, a_s1, a_s2, a_s3, a_s4, a_s5, a_s6, a_s8, a_scal, a_scals, a_tFor, a_tLc, a_tWhile, a_wipe0, a_wipe1, k_cxU, w_cxU, k_blk, w_blk, and_assoc, exists_and_left, exists_eq_left, exists_eq_left', exists_eq_right, exists_eq, exists_const, List.getElem?_cons_zero, List.getElem?_cons_succ, List.set_cons_zero, List.set_cons_succ, Option.some.injEq, V.int.injEq, V.bl.injEq, V.ref.injEq, V.str.injEq, List.cons.injEq, and_true, true_and, List.cons_append, List.nil_append, List.append_nil, L2.start, List.map_cons, List.map_nil, List.length_cons, List.length_nil, List.replicate, Nat.sub_self, Nat.reduceSub, Nat.reduceAdd, Nat.zero_add, if_true, if_false, Bool.false_eq_true, Bool.true_eq_false, reduceIte, decide_eq_true_eq, Bool.not_eq_true', decide_eq_false_iff_not]
        refine ⟨p, l, rfl, s _ _ gp, by have := lls l (List.mem_of_getElem? hl); omega, fun H5 v5 s5 nw => ?_⟩
        obtain ⟨p5, rfl, g5, n5⟩ := nw
        have p5D : p5 ≠ D := fun z => by rw [z, hD3] at n5; cases n5
        refine ⟨_, s5 _ _ hD3, szl _ ?_, (s.tr s5).put hD, by simp [al'], ?_⟩
        · have := List.length_take_le i ls
          have h9 : i < us.length := hi
          omega
        · rw [take_snoc hl, List.map_append]
          refine paired_snoc (Paired.mapP pa fun v l' ⟨p', e', g', n'⟩ => ⟨p', e', by rw [upd_ne (none_upd n').1]; exact s5 _ _ g', n'⟩) ⟨p5, rfl, by rw [upd_ne p5D]; exact g5, by rw [upd_ne p5D]; exact Same.free s n5⟩
      · rintro H3 acc s hD3 ⟨al', pa⟩
        rw [ul, List.take_length] at pa
        refine q _ _ (f1.tr (s.fr _)) (b1.same s) ⟨D, acc, rfl, hD3, b1.free f1 hD, Paired.mapP pa fun v l' ⟨p', e', g', n'⟩ => ⟨p', e', g', b1.free f1 (none_upd n').2⟩⟩
    | come nm =>
      have tu : Tu K H t _ := h1
      refine ⟨_, tu.sq, .str nm, atI_n 1 rfl rfl, ?_⟩
      rw [if_neg (fun z => V.noConfusion z)]
      refine ⟨_, tu.sq, .str "come", atI_n 0 rfl rfl, rfl, ?_⟩
      rw [if_neg (by decide)]
      refine ⟨_, tu.sq, .str "come", atI_n 0 rfl rfl, rfl, ?_⟩
      rw [if_neg (by decide)]
      refine ⟨_, tu.sq, .str "come", atI_n 0 rfl rfl, rfl, ?_⟩
      rw [if_neg (by decide)]
      refine ⟨_, tu.sq, .str "come", atI_n 0 rfl rfl, rfl, ?_⟩
      rw [if_neg (by decide)]
      refine ⟨_, tu.sq, .str "come", atI_n 0 rfl rfl, rfl, ?_⟩
      rw [if_neg (by decide)]
      refine ⟨_, _, hi, rfl, _, tu.sq, .str nm, atI_n 1 rfl rfl, B, n, b, nm, rfl, ⟨⟨al, h2, h3, h4⟩, h5, h6, fun H1 v f1 b1 tl => ?_⟩⟩
      obtain ⟨e, a3, a4, a5⟩ := id h4
      have g := mem_getE h3.pre.good.nd a3
      cases el : letIn b.hs nm e.kind with
      | inl lvl =>
        have ed : (doB b (.come nm)).2 = .away lvl (fillN (dropB b nm)) := by
          unfold doB
          simp only [g, el]
        rw [ed] at tl q
        obtain ⟨t2, x, rfl, tt, p, rfl, gp, np⟩ := tl
        refine ⟨t2, rfl, _, tt.sq, .str "away", atI_n 0 rfl rfl, rfl, ?_⟩
        rw [if_neg (by decide)]
        refine ⟨t2, rfl, _, tt.sq, .int lvl, atI_n 1 rfl rfl, t2, rfl, _, tt.sq, .ref p, atI_n 2 rfl rfl, p, _, rfl, gp, by have := fillN_len (dropB b nm); have z : (dropB b nm).es.length ≤ b.es.length := List.length_filter_le ..; omega, fun H2 v2 s2 nw => fun r hr => ?_⟩
        have s3 := s2.new hr (o := .tup [.int lvl, v2])
        exact q _ _ (f1.tr (s3.fr _)) (b1.same s3) ⟨r, v2, rfl, .inl upd_same, (nw.back b1 f1).keep h5 ((Same.rfl'.new hr).fr _)⟩
      | inr h' =>
        have ed : (doB b (.come nm)).2 = .inn := by
          unfold doB
          simp only [g, el]
        rw [ed] at tl q
        obtain ⟨t2, x, y, rfl, tt⟩ := tl
        refine ⟨t2, rfl, _, tt.sq, .str "in", atI_n 0 rfl rfl, rfl, ?_⟩
        rw [if_pos rfl]
        exact q _ _ f1 b1 rfl
end
end Nb
end
section
set_option Elab.async false
set_option linter.all false
set_option maxRecDepth 100000
set_option maxHeartbeats 4000000
namespace Nb
open PySem PySem.Spec PyProof.Rows L2 NbU NbM
section
variable {P : Program} {w : World} {K : PySem.W.Frag} {mg : Str → Option Value} {base : Heap} {H H' : Hp} {B : BA} {n n' : Nat} {b : Bk Str}
theorem paired_mem {α β : Type} {F : α → β → Prop} : ∀ {l : List α} {m : List β}, Paired F l m → Paired (fun a b => b ∈ m ∧ F a b) l m
  | _, _, .nil => .nil
  | _, _, .cons h t => .cons ⟨List.mem_cons_self, h⟩ (Paired.mapP (paired_mem t) fun a b z => ⟨List.mem_cons_of_mem _ z.1, z.2⟩)
/-! ### data -/
theorem nm_ok {x : Str} (h : NmOk x) : PyData.strOk x = true := by
  obtain ⟨_, _, h3⟩ := h
  show x.cps.all (· < 0x110000) = true
  rw [← Array.all_toList, List.all_eq_true]
  intro c hc
  have h4 : ∀ c ∈ (Str.ofString "abcdefghijklmnopqrstuvwxyz").cps.toList, c < 0x110000 := by decide +kernel
  exact decide_eq_true (h4 c (h3 c hc))
def entD (e : Ent) : PyData := .tuple [.str (wordS e.word), .int e.kind, .int e.first, .int e.behind, .tuple [.int e.ch.1, .int e.ch.2]]
theorem ent_dp {v : V} {e : Ent} (h : EntAt K H v e) : Dp K H v (entD e) := by
  obtain ⟨a, c, rfl, h1, h2⟩ := h
  exact .tup h1.sq (.cons (.str _) (.cons (.int _) (.cons (.int _) (.cons (.int _) (.cons (.tup h2.sq (.cons (.int _) (.cons (.int _) .nil))) .nil)))))
theorem entD_lay (e : Ent) : (entD e).canLay0 = true := by
  unfold entD
  have : PyData.strOk (wordS e.word) = true := by cases e.word <;> decide +kernel
  simp [PyData.canLay0, PyData.canLayAll0, this]
theorem entD_dep (e : Ent) : (entD e).depth ≤ 6 := by
  unfold entD
  simp [PyData.depth, PyData.depthAll]
def getD' (es : List (Str × Ent)) (n : Str) : PyData := (getE es n).elim .none entD
theorem ents_dp {es : List (Str × Ent)} : ∀ {vs : List V} {L : List Str}, Paired (fun v n => ∃ e, getE es n = some e ∧ EntAt K H v e) vs L → DpAll K H vs (L.map (getD' es))
  | _, _, .nil => .nil
  | _, _, .cons ⟨e, h1, h2⟩ t => by
    refine .cons ?_ (ents_dp t)
    unfold getD'
    rw [h1]
    exact ent_dp h2
theorem getD_lay (es : List (Str × Ent)) (n : Str) : (getD' es n).canLay0 = true := by
  unfold getD'
  cases getE es n with
  | none => simp [PyData.canLay0]
  | some e => exact entD_lay e
theorem getD_dep (es : List (Str × Ent)) (n : Str) : (getD' es n).depth ≤ 6 := by
  unfold getD'
  cases getE es n with
  | none => simp [PyData.depth]
  | some e => exact entD_dep e
abbrev LnT := Str × (Int × Int × (Int × Int))
def lnD (p : LnT) : PyData := .tuple [.str p.1, .int p.2.1, .int p.2.2.1, .tuple [.int p.2.2.2.1, .int p.2.2.2.2]]
theorem ln_dp {v : V} {p : LnT} (h : LnAt K H v p) : Dp K H v (lnD p) := by
  obtain ⟨a, c, rfl, h1, h2⟩ := h
  exact .tup h1.sq (.cons (.str _) (.cons (.int _) (.cons (.int _) (.cons (.tup h2.sq (.cons (.int _) (.cons (.int _) .nil))) .nil))))
theorem lns_dp : ∀ {vs : List V} {L : List LnT}, Paired (LnAt K H) vs L → DpAll K H vs (L.map lnD)
  | _, _, .nil => .nil
  | _, _, .cons h t => .cons (ln_dp h) (lns_dp t)
theorem lnD_lay {p : LnT} (h : PyData.strOk p.1 = true) : (lnD p).canLay0 = true := by
  unfold lnD
  simp [PyData.canLay0, PyData.canLayAll0, h]
theorem lnD_dep (p : LnT) : (lnD p).depth ≤ 6 := by
  unfold lnD
  simp [PyData.depth, PyData.depthAll]
theorem states_go (T : Txt K mg) {C : BA} {c : Bk Str} {L : List Str} {pl D : Addr} {j : Nat} {s0 s1 s2 s3 s4 : Option V} {Q : Hp → Prop} (h : BookAt K H C n c) (hp : H pl = some (.lst (L.map V.str))) (hL : L.length ≤ 1000) (hk : ∀ x ∈ L, x ∈ keysE c.es) (hD : H D = none)
    (hj : ∀ x, [s0, s1, s2, some x, s4][j]? = some (some (.ref C.o))) (q : ∀ H' vs, Same H H' → H' D = some (.lst vs) → Paired (fun v n => ∃ e, getE c.es n = some e ∧ EntAt K H' v e) vs L → Q H') :
    LcW (Itl K pl) (gName 3) tYes (tMU (CB K) "state" (sp_Book_state K) [] (tVar j) (tCons (tVar 3) tNil)) [3] [s0, s1, s2, s3, s4] H D Q := by
  refine lc_ex (walk_list (xs := L.map V.str)) hD (fun i H' acc => Paired (fun v n => ∃ e, getE c.es n = some e ∧ EntAt K H' v e) acc (L.take i)) .nil (fun _ s => SqL.of (s _ _ hp)) ?_ ?_
  · rintro i y H3 H4 acc hi s hD3 pa ⟨rfl, e⟩
    rw [List.getElem?_map] at e
    cases ex : L[i]? with
    | none => rw [ex] at e; cases e
    | some x =>
    rw [ex] at e
    cases e
    obtain ⟨en, hen⟩ := getE_some_iff.mp (hk x (List.mem_of_getElem? ex))
    have b3 := h.same s
    obtain ⟨dx, hi3⟩ := b3.ins
    have al := Paired.length pa
    rw [List.length_take] at al
    simp only [a_tVar, a_tC, a_tOp, a_tUn, a_rI, a_rI0, a_rU, a_rEq, a_rNe, a_tTest, a_tB, a_tIsN, a_tNotN, a_tChain, a_tAnd, a_tOr, a_tNot, a_tAndV, a_tOrV, a_tNotV, a_tYes, a_tNext, a_tSeq, a_tCont, a_tBreak, a_tDrop, a_tRet, a_tIfS, a_tNever, a_gName, a_gNil, a_gCons, a_gTup, a_tAsg, a_tNil, a_tCons, a_tTup, a_tLst, a_tCB, a_tCU, a_tMU, a_tFld, a_sFld, a_tSl, a_tNoPart, a_tPart, a_rSlL, a_rSlT, a_rIxL, a_rIxT, a_rCat, a_rRep, a_rCatT, a_tDGet, a_tDIn, a_tDNotIn, a_sDPut, a_tDPop1, a_tDNewK, a_tBM, a_rAppend, a_rExtend, a_iList, a_iEnum, a_iRng1, a_iRng2, a_iVals, a_iItems, a_iRng3, a_iStr, a_tMX, a_tXf, a_wAs, a_tRaise, a_tVeI, a_tOst, a_tMkO, a_tMake, a_rSum, a_rIsi, a_tChain3, a_tAugS, a_rGetL, a_rPutL, a_ipI, a_rSet, a_tCKw, a_rMinD, a_rMin, a_rIxS, a_rSlS, a_iTup, a_rIn, a_rEqD, a_rNeD, upd_same, HO.lst.injEq, HO.tup.injEq, HO.dK.injEq, HO.frz.injEq, a_s0, a_s1, a_s2, a_s3, a_s4, a_s5, a_s6, a_s8, a_scal, a_scals, a_tFor, a_tLc, a_tWhile, a_wipe0, a_wipe1, k_cxU, w_cxU, k_blk, w_blk, and_assoc, exists_and_left, exists_eq_left, exists_eq_left', exists_eq_right, exists_eq, exists_const, List.getElem?_cons_zero, List.getElem?_cons_succ, List.set_cons_zero, List.set_cons_succ, Option.some.injEq, V.int.injEq, V.bl.injEq, V.ref.injEq, V.str.injEq, List.cons.injEq, and_true, true_and, List.cons_append, List.nil_append, List.append_nil, L2.start, List.map_cons, List.map_nil, List.length_cons, List.length_nil, List.replicate, Nat.sub_self, Nat.reduceSub, Nat.reduceAdd, Nat.zero_add, if_true, if_false, Bool.false_eq_true, Bool.true_eq_false, reduceIte, decide_eq_true_eq, Bool.not_eq_true', decide_eq_false_iff_not]
    refine ⟨_, hj _, C.o, rfl, _, _, hi3, rfl, C, n, c, x, en, rfl, b3, hen, fun v hv => ?_⟩
    have tp := tups_put (o := .lst (acc ++ [v])) hD3 (fun _ z => nomatch z)
    refine ⟨acc, hD3, szl _ (by omega), s.put hD, ?_⟩
    rw [take_snoc ex]
    exact paired_snoc (Paired.mapP pa fun v' n' ⟨e', z1, z2⟩ => ⟨e', z1, z2.keep tp⟩) ⟨en, hen, hv.keep tp⟩
  · rintro H3 acc s hD3 pa
    rw [List.length_map, List.take_length] at pa
    exact q _ _ s hD3 pa
def lineZ (b : Bk Str) : List (Str × (Int × Int × (Int × Int))) := (lineE b).filter fun p => decide (p.1 ≠ ZZ)
def sp_law_alike (K : PySem.W.Frag) : Sp := fun vs H Q _ => ∃ (al : List Str) (A B : BA) (n m : Nat) (a b : Bk Str), vs = [.ref A.o, .ref B.o] ∧ AlOk al ∧ Ok al a ∧ Ok al b ∧ BookAt K H A n a ∧ BookAt K H B m b ∧ a.ev = b.ev ∧ b.es = dropE a.es ZZ ∧ lineE b = lineZ a ∧ ∀ H', Same H H' → Q (.bl true) H'
theorem sc_law_alike : FnScope ["_law_book", "_law_other", "_law_names_here", "_law_name", "_law_one"] ["_law_book", "_law_other"] (defScope s_law_alike) := ⟨rfl, rfl, rfl, by decide +kernel, rfl, by decide +kernel, by decide +kernel⟩
theorem g_law_alike (T : Txt K mg) : GF P w K mg base true 7 "_law_alike" [] (sp_law_alike K) := by
  obtain ⟨fd, F⟩ := T.f_law_alike
  refine ⟨_, fd, ["_law_book", "_law_other"], [], T.g_law_alike, F.kp, F.bindsN (fun _ _ _ _ _ _ us hl => match us, hl with | [_, _], _ => rfl), .nil, okU F sc_law_alike (fun vs H Q E h => ?_) (fun cdv A outer s H vs Q E pl hr hh hw h => ⟨_, PSs.nox (pss_cons (ps_set (i := 2) sc_law_alike.nd rfl (by first | exact Or.inl rfl | exact Or.inr rfl) (pe_cu (g_law_without T) (hr.mono (by decide)) hw (fun _ => hh rfl) rfl (pa_cons (pe_mu0 (pv 0) T.c_Book (g_Book_names T) (hr.mono (by decide)) hw (fun _ => hh rfl)) pa_nil)))
      (pss_cons (ps_if (PW.pt (pw_or (pt_cmpR (op_neDK K (hu64 hr)) (pv 2) (pe_cu (g_law_without T) (hr.mono (by decide)) hw (fun _ => hh rfl) rfl (pa_cons (pe_mu0 (pv 1) T.c_Book (g_Book_names T) (hr.mono (by decide)) hw (fun _ => hh rfl)) pa_nil)) (nomark _)) (pw_or1 (pt_cmpR (op_ne) (pe_mu0 (pv 0) T.c_Book (g_Book_tonight T) (hr.mono (by decide)) hw (fun _ => hh rfl)) (pe_mu0 (pv 1) T.c_Book (g_Book_tonight T) (hr.mono (by decide)) hw (fun _ => hh rfl)) (nomark _))))) (pss_one (ps_ret pe_bl)) pss_nil)
      (pss_cons (ps_if (pt_cmpR (op_neDK K (hu64 hr)) (pe_lcU hw sc_law_alike.nd (piu_list (pv 2)) (blkOk_by (own := [("_law_name", 3)]) (by kernel_rfl)) (fun _ _ _ _ _ => (pg_name (i := 3) sc_law_alike.nd rfl (by first | exact Or.inl rfl | exact Or.inr rfl))) (fun _ _ _ _ _ => pts_nil) (fun _ _ _ _ _ => (pe_mu (pv 0) T.c_Book (g_Book_state T) (hr.mono (by decide)) hw (fun _ => hh rfl) (pa_cons (pv 3) pa_nil)))) (pe_lcU hw sc_law_alike.nd (piu_list (pv 2)) (blkOk_by (own := [("_law_name", 3)]) (by kernel_rfl)) (fun _ _ _ _ _ => (pg_name (i := 3) sc_law_alike.nd rfl (by first | exact Or.inl rfl | exact Or.inr rfl))) (fun _ _ _ _ _ => pts_nil) (fun _ _ _ _ _ => (pe_mu (pv 1) T.c_Book (g_Book_state T) (hr.mono (by decide)) hw (fun _ => hh rfl) (pa_cons (pv 3) pa_nil)))) (nomark _)) (pss_one (ps_ret pe_bl)) pss_nil)
      (pss_one (ps_ret (pe_cmpR (op_eqDK K (hu64 hr)) (pe_lcU hw sc_law_alike.nd (piu_list (pe_mu0 (pv 0) T.c_Book (g_Book_line T) (hr.mono (by decide)) hw (fun _ => hh rfl))) (blkOk_by (own := [("_law_one", 4)]) (by kernel_rfl)) (fun _ _ _ _ _ => (pg_name (i := 4) sc_law_alike.nd rfl (by first | exact Or.inl rfl | exact Or.inr rfl))) (fun _ _ _ _ _ => (pts_one (pt_cmpR (op_ne) (pe_ix (ix_tupK K) (pv 4) pe_int (fun _ _ => rfl)) pe_str (nomark _)))) (fun _ _ _ _ _ => (pv 4))) (pe_mu0 (pv 1) T.c_Book (g_Book_line T) (hr.mono (by decide)) hw (fun _ => hh rfl)) (nomark _))))))), ?_⟩)⟩
  · obtain ⟨al, A, B, n, m, a, b, rfl, _⟩ := h
    rfl
  · obtain ⟨al, A, B, n, m, a, b, rfl, h1, h2, h3, h4, h5, h6, h7, h8, q⟩ := h
    simp only [a_tVar, a_tC, a_tOp, a_tUn, a_rI, a_rI0, a_rU, a_rEq, a_rNe, a_tTest, a_tB, a_tIsN, a_tNotN, a_tChain, a_tAnd, a_tOr, a_tNot, a_tAndV, a_tOrV, a_tNotV, a_tYes, a_tNext, a_tSeq, a_tCont, a_tBreak, a_tDrop, a_tRet, a_tIfS, a_tNever, a_gName, a_gNil, a_gCons, a_gTup, a_tAsg, a_tNil, a_tCons, a_tTup, a_tLst, a_tCB, a_tCU, a_tMU, a_tFld, a_sFld, a_tSl, a_tNoPart, a_tPart, a_rSlL, a_rSlT, a_rIxL, a_rIxT, a_rCat, a_rRep, a_rCatT, a_tDGet, a_tDIn, a_tDNotIn, a_sDPut, a_tDPop1, a_tDNewK, a_tBM, a_rAppend, a_rExtend, a_iList, a_iEnum, a_iRng1, a_iRng2, a_iVals, a_iItems, a_iRng3, a_iStr, a_tMX, a_tXf, a_wAs, a_tRaise, a_tVeI, a_tOst, a_tMkO, a_tMake, a_rSum, a_rIsi, a_tChain3, a_tAugS, a_rGetL, a_rPutL, a_ipI, a_rSet, a_tCKw, a_rMinD, a_rMin, a_rIxS, a_rSlS, a_iTup, a_rIn, a_rEqD, a_rNeD, upd_same, HO.lst.injEq, HO.tup.injEq, HO.dK.injEq, HO.frz.injEq, a_s0, a_s1, a_s2, a_s3, a_s4, a_s5, a_s6, a_s8, a_scal, a_scals, a_tFor, a_tLc, a_tWhile, a_wipe0, a_wipe1, k_cxU, w_cxU, k_blk, w_blk, and_assoc, exists_and_left, exists_eq_left, exists_eq_left', exists_eq_right, exists_eq, exists_const, List.getElem?_cons_zero, List.getElem?_cons_succ, List.set_cons_zero, List.set_cons_succ, Option.some.injEq, V.int.injEq, V.bl.injEq, V.ref.injEq, V.str.injEq, List.cons.injEq, and_true, true_and, List.cons_append, List.nil_append, List.append_nil, L2.start, List.map_cons, List.map_nil, List.length_cons, List.length_nil, List.replicate, Nat.sub_self, Nat.reduceSub, Nat.reduceAdd, Nat.zero_add, if_true, if_false, Bool.false_eq_true, Bool.true_eq_false, reduceIte, decide_eq_true_eq, Bool.not_eq_true', decide_eq_false_iff_not]
    obtain ⟨dxA, hiA⟩ := h4.ins
    obtain ⟨dxB, hiB⟩ := h5.ins
    have al15 := h1.len
    have elA := es_le h2.pre
    have elB := es_le h3.pre
    have kA : (keysE a.es).length ≤ 15 := by unfold keysE; rw [List.length_map]; omega
    have kB : (keysE b.es).length ≤ 15 := by unfold keysE; rw [List.length_map]; omega
    have kz : keysE b.es = noZ ZZ (keysE a.es) := by rw [h7, keys_drop]; rfl
    have kzz : noZ ZZ (keysE b.es) = keysE b.es := by rw [kz, noZ_noZ]
    have nmB : ∀ x ∈ keysE b.es, PyData.strOk x = true := fun x hx => nm_ok (h1.ok x (h3.pre.al x hx))
    refine ⟨_, _, hiA, rfl, A, n, a, rfl, h4, fun p1 n1 => ?_⟩
    have s1 := (Same.rfl' (H := H)).new n1 (o := .lst ((keysE a.es).map V.str))
    refine ⟨p1, keysE a.es, rfl, upd_same, by omega, fun H2 v2 s2 nw2 => ?_⟩
    obtain ⟨q2, rfl, g2, f2⟩ := nw2
    rw [← kz] at g2
    have s12 := s1.tr s2
    refine ⟨_, _, s12 _ _ hiB, rfl, B, m, b, rfl, h5.same s12, fun p3 n3 => ?_⟩
    have s3 := (Same.rfl' (H := H2)).new n3 (o := .lst ((keysE b.es).map V.str))
    refine ⟨p3, keysE b.es, rfl, upd_same, by omega, fun H4 v4 s4 nw4 => ?_⟩
    obtain ⟨q4, rfl, g4, f4⟩ := nw4
    rw [kzz] at g4
    have s24 := s3.tr s4
    have sH4 := s12.tr s24
    have g24 := s24 _ _ g2
    refine ⟨_, .lst (SqL.of g24) (dp_strs _), _, .lst (SqL.of g4) (dp_strs _), shaped_strs _ nmB, shaped_strs _ nmB, ?_⟩
    rw [PySem.SeqAt.eqv_refl _ (SeqAt.canLay_of_shaped (shaped_strs _ nmB)), if_neg (fun z => Bool.noConfusion z)]
    refine ⟨_, _, sH4 _ _ hiA, rfl, A, n, a, rfl, h4.same sH4, _, _, sH4 _ _ hiB, rfl, B, m, b, rfl, h5.same sH4, ?_⟩
    refine ⟨rfl, ?_⟩
    rw [if_neg (fun z => z (by rw [h6]))]
    have same_get : ∀ x ∈ keysE b.es, getE a.es x = getE b.es x := fun x hx => by
      have hz : x ≠ ZZ := fun e => by
        rw [kz] at hx
        unfold noZ at hx
        have := (List.mem_filter.mp hx).2
        simp [e] at this
      rw [h7, getE_drop hz]
    have kBA : ∀ x ∈ keysE b.es, x ∈ keysE a.es := fun x hx => by
      rw [kz] at hx
      exact (List.mem_filter.mp hx).1
    refine ⟨q2, rfl, ⟨_, SqL.of g24⟩, fun D hD => ?_⟩
    refine states_go T (h4.same sH4) g24 (by omega) kBA hD (fun _ => rfl) fun H5 vs5 s5 g5 pa5 => ?_
    refine ⟨q2, rfl, ⟨_, SqL.of (s5 _ _ g24)⟩, fun D1 hD1 => ?_⟩
    have sH5 := sH4.tr s5
    refine states_go T (h5.same sH5) (s5 _ _ g24) (by omega) (fun _ z => z) hD1 (fun _ => rfl) fun H6 vs6 s6 g6 pa6 => ?_
    have sH6 := sH5.tr s6
    have pa5' : Paired (fun v n => ∃ e, getE b.es n = some e ∧ EntAt K H6 v e) vs5 (keysE b.es) := by
      have : Paired (fun v n => (n ∈ keysE b.es) ∧ ∃ e, getE a.es n = some e ∧ EntAt K H5 v e) vs5 (keysE b.es) := paired_mem pa5
      exact Paired.mapP this fun v n ⟨hn, e, z1, z2⟩ => ⟨e, by rw [← same_get n hn]; exact z1, z2.keep s6.tups⟩
    have sh : SeqAt.shaped (.list ((keysE b.es).map (getD' b.es))) = true := shaped_list _ _ (fun x _ => getD_lay _ x) 6 (by decide) (getD_dep _)
    refine ⟨_, .lst (SqL.of (s6 _ _ g5)) (ents_dp pa5'), _, .lst (SqL.of g6) (ents_dp pa6), sh, sh, ?_⟩
    rw [PySem.SeqAt.eqv_refl _ (SeqAt.canLay_of_shaped sh), if_neg (fun z => Bool.noConfusion z)]
    refine ⟨_, _, sH6 _ _ hiA, rfl, al, A, n, a, rfl, h1, h4.same sH6, h2, fun H7 pl us s7 g7 n7 pu => ?_⟩
    refine ⟨pl, rfl, ⟨_, SqL.of g7⟩, fun D2 hD2 => ?_⟩
    have ul := Paired.length pu
    have lnm : ∀ p ∈ lineE b, PyData.strOk p.1 = true := fun p hp => by
      unfold lineE at hp
      obtain ⟨x, hx, e⟩ := List.mem_map.mp hp
      rw [← e]
      obtain ⟨en, he, _⟩ := mem_by hx
      exact nmB x (List.mem_map.mpr ⟨_, he, rfl⟩)
    have shl : SeqAt.shaped (.list ((lineE b).map lnD)) = true := shaped_list _ _ (fun p hp => lnD_lay (lnm p hp)) 6 (by decide) lnD_dep
    have ll : (lineE a).length ≤ 15 := by
      unfold lineE
      rw [List.length_map]
      exact Nat.le_trans sub_len (by omega)
    refine lc_ex (walk_list (xs := us)) hD2 (fun i H' acc => Paired (LnAt K H') acc (((lineE a).take i).filter fun p => decide (p.1 ≠ ZZ))) .nil (fun _ s => SqL.of (s _ _ g7)) ?_ ?_
    · rintro i y H8 H9 acc hi s hD3 pa ⟨rfl, e⟩
      obtain ⟨p, hp, a1, c1, rfl, t1, t2⟩ := paired_get pu e
      have t1' := t1.keep s.tups
      have t2' := t2.keep s.tups
      have al9 := Paired.length pa
      have : acc.length ≤ ((lineE a).take i).length := by rw [al9]; exact List.length_filter_le ..
      rw [List.length_take] at this
      have ec : ((lineE a).take (i + 1)).filter (fun p : LnT => decide (p.1 ≠ ZZ)) = ((lineE a).take i).filter (fun p : LnT => decide (p.1 ≠ ZZ)) ++ (if p.1 = "zz" then [] else [p]) := by
        rw [take_snoc hp, List.filter_append, List.filter_cons]
        by_cases z : p.1 = "zz"
        · rw [if_neg (by simp [z]), if_pos z]; rfl
        · rw [if_pos (by simpa using z), if_neg z]; rfl
      simp only [a_tVar, a_tC, a_tOp, a_tUn, a_rI, a_rI0, a_rU, a_rEq, a_rNe, a_tTest, a_tB, a_tIsN, a_tNotN, a_tChain, a_tAnd, a_tOr, a_tNot, a_tAndV, a_tOrV, a_tNotV, a_tYes, a_tNext, a_tSeq, a_tCont, a_tBreak, a_tDrop, a_tRet, a_tIfS, a_tNever, a_gName, a_gNil, a_gCons, a_gTup, a_tAsg, a_tNil, a_tCons, a_tTup, a_tLst, a_tCB, a_tCU, a_tMU, a_tFld, a_sFld, a_tSl, a_tNoPart, a_tPart, a_rSlL, a_rSlT, a_rIxL, a_rIxT, a_rCat, a_rRep, a_rCatT, a_tDGet, a_tDIn, a_tDNotIn, a_sDPut, a_tDPop1, a_tDNewK, a_tBM, a_rAppend, a_rExtend, a_iList, a_iEnum, a_iRng1, a_iRng2, a_iVals, a_iItems, a_iRng3, a_iStr, a_tMX, a_tXf, a_wAs, a_tRaise, a_tVeI, a_tOst, a_tMkO, a_tMake, a_rSum, a_rIsi, a_tChain3, a_tAugS, a_rGetL, a_rPutL, a_ipI, a_rSet, a_tCKw, a_rMinD, a_rMin, a_rIxS, a_rSlS, a_iTup, a_rIn, a_rEqD, a_rNeD, upd_same, HO.lst.injEq, HO.tup.injEq, HO.dK.injEq, HO.frz.injEq, a_s0, a_s1, a_s2, a_s3, a_s4, a_s5, a_s6, a_s8, a_scal, a_scals, a_tFor, a_tLc, a_tWhile, a_wipe0, a_wipe1, k_cxU, w_cxU, k_blk, w_blk, and_assoc, exists_and_left, exists_eq_left, exists_eq_left', exists_eq_right, exists_eq, exists_const, List.getElem?_cons_zero, List.getElem?_cons_succ, List.set_cons_zero, List.set_cons_succ, Option.some.injEq, V.int.injEq, V.bl.injEq, V.ref.injEq, V.str.injEq, List.cons.injEq, and_true, true_and, List.cons_append, List.nil_append, List.append_nil, L2.start, List.map_cons, List.map_nil, List.length_cons, List.length_nil, List.replicate, Nat.sub_self, Nat.reduceSub, Nat.reduceAdd, Nat.zero_add, if_true, if_false, Bool.false_eq_true, Bool.true_eq_false, reduceIte, decide_eq_true_eq, Bool.not_eq_true', decide_eq_false_iff_not]
      refine ⟨_, t1'.sq, .str p.1, atI_n 0 rfl rfl, rfl, ?_⟩
      by_cases z : p.1 = "zz"
      · rw [if_pos z, List.append_nil] at ec
        rw [if_neg (fun q => q (by rw [z]))]
        refine ⟨s, acc, hD3, ?_⟩
        rw [ec]
        exact pa
      · rw [if_neg z] at ec
        rw [if_pos (fun q => z (V.str.inj q))]
        have tp := tups_put (o := .lst (acc ++ [.ref a1])) hD3 (fun _ z => nomatch z)
        refine ⟨acc, hD3, szl _ (by omega), s.put hD2, ?_⟩
        rw [ec]
        exact paired_snoc (Paired.mapP pa fun v' p' z => z.keep tp) ⟨a1, c1, rfl, t1'.keep tp, t2'.keep tp⟩
    · rintro H8 acc s hD3 pa
      rw [ul, List.take_length] at pa
      have sH8 := (sH6.tr s7).tr s
      refine ⟨_, _, sH8 _ _ hiB, rfl, al, B, m, b, rfl, h1, h5.same sH8, h3, fun H9 pl2 us2 s9 g9 n9 pu2 => ?_⟩
      have pa9 : Paired (LnAt K H9) acc (lineE b) := by
        rw [h8]
        exact Paired.mapP pa fun v' p' z => z.keep s9.tups
      refine ⟨_, .lst (SqL.of (s9 _ _ hD3)) (lns_dp pa9), _, .lst (SqL.of g9) (lns_dp pu2), shl, shl, ?_⟩
      rw [PySem.SeqAt.eqv_refl _ (SeqAt.canLay_of_shaped shl)]
      exact q _ (sH8.tr s9)
end
end Nb
end
section
set_option Elab.async false
set_option linter.all false
set_option maxRecDepth 100000
set_option maxHeartbeats 4000000
namespace Nb
open PySem PySem.Spec PyProof.Rows L2 NbU NbM
section
variable {P : Program} {w : World} {K : PySem.W.Frag} {mg : Str → Option Value} {base : Heap} {H H' : Hp} {B : BA} {n n' : Nat} {b : Bk Str}
def sp_law_shut (K : PySem.W.Frag) : Sp := fun vs H Q _ => ∃ (al : List Str) (B : BA) (n : Nat) (b : Bk Str) (r : Addr), vs = [.ref B.o, .ref r] ∧ AlOk al ∧ Ok al b ∧ BookAt K H B n b ∧ Tu K H r [.int b.risk.1, .int b.risk.2] ∧ ∀ H', Same H H' → Q (.bl true) H'
theorem sc_law_shut : FnScope ["_law_book", "_law_risk", "_law_name", "_law_night", "_law_kind", "_law_chance_here", "_law_word", "_law_wished", "_law_first", "_law_behind", "_law_own", "_law_one"] ["_law_book", "_law_risk"] (defScope s_law_shut) := ⟨rfl, rfl, rfl, by decide +kernel, rfl, by decide +kernel, by decide +kernel⟩
theorem g_law_shut (T : Txt K mg) : GF P w K mg base true 7 "_law_shut" [] (sp_law_shut K) := by
  obtain ⟨fd, F⟩ := T.f_law_shut
  refine ⟨_, fd, ["_law_book", "_law_risk"], [], T.g_law_shut, F.kp, F.bindsN (fun _ _ _ _ _ _ us hl => match us, hl with | [_, _], _ => rfl), .nil, okU F sc_law_shut (fun vs H Q E h => ?_) (fun cdv A outer s H vs Q E pl hr hh hw h => ⟨_, PSs.nox (pss_cons (psu_for PassesOwn.never hw (piu_list (pe_mu0 (pv 0) T.c_Book (g_Book_line T) (hr.mono (by decide)) hw (fun _ => hh rfl))) (pgu_tupK (n := 4) K hw (pgs_cons (pg_name (i := 2) sc_law_shut.nd rfl (by first | exact Or.inl rfl | exact Or.inr rfl)) (pgs_cons (pg_name (i := 3) sc_law_shut.nd rfl (by first | exact Or.inl rfl | exact Or.inr rfl)) (pgs_cons (pg_name (i := 4) sc_law_shut.nd rfl (by first | exact Or.inl rfl | exact Or.inr rfl)) (pgs_cons (pg_name (i := 5) sc_law_shut.nd rfl (by first | exact Or.inl rfl | exact Or.inr rfl)) pgs_nil))))) (pss_cons (ps_asg (pe_mu (pv 0) T.c_Book (g_Book_state T) (hr.mono (by decide)) hw (fun _ => hh rfl) (pa_cons (pv 2) pa_nil)) (pgu_tupK (n := 5) K hw (pgs_cons (pg_name (i := 6) sc_law_shut.nd rfl (by first | exact Or.inl rfl | exact Or.inr rfl)) (pgs_cons (pg_name (i := 7) sc_law_shut.nd rfl (by first | exact Or.inl rfl | exact Or.inr rfl)) (pgs_cons (pg_name (i := 8) sc_law_shut.nd rfl (by first | exact Or.inl rfl | exact Or.inr rfl)) (pgs_cons (pg_name (i := 9) sc_law_shut.nd rfl (by first | exact Or.inl rfl | exact Or.inr rfl)) (pgs_cons (pg_name (i := 10) sc_law_shut.nd rfl (by first | exact Or.inl rfl | exact Or.inr rfl)) pgs_nil)))))))
      (pss_cons (ps_if (PW.pt (pw_or (pt_cmpR (op_ne) (pv 6) pe_str (nomark _)) (pw_or (pt_not (pt_chain op_le op_lt (pv 8) (pv 3) (pv 9))) (pw_or1 (pt_not (pt_chain op_le op_le pe_int (pv 4) (pv 7))))))) (pss_one (ps_ret pe_bl)) pss_nil)
      (pss_one (ps_if (pt_cmpR (op_le) (pe_op op_mul (pe_ix (ix_tupK K) (pv 5) pe_int (fun _ _ => rfl)) (pe_ix (ix_tupK K) (pv 1) pe_int (fun _ _ => rfl))) (pe_op op_mul (pe_ix (ix_tupK K) (pv 1) pe_int (fun _ _ => rfl)) (pe_ix (ix_tupK K) (pv 5) pe_int (fun _ _ => rfl))) (nomark _)) (pss_one (ps_ret pe_bl)) pss_nil)))))
      (pss_one (ps_ret (pe_cmpR (op_eqDK K (hu64 hr)) (pe_lcU hw sc_law_shut.nd (piu_list (pe_mu0 (pv 0) T.c_Book (g_Book_line T) (hr.mono (by decide)) hw (fun _ => hh rfl))) (blkOk_by (own := [("_law_one", 11)]) (by kernel_rfl)) (fun _ _ _ _ _ => (pg_name (i := 11) sc_law_shut.nd rfl (by first | exact Or.inl rfl | exact Or.inr rfl))) (fun _ _ _ _ _ => pts_nil) (fun _ _ _ _ _ => (pe_ix (ix_tupK K) (pv 11) pe_int (fun _ _ => rfl)))) (pe_lcU hw sc_law_shut.nd (piu_list (pe_mu0 (pv 0) T.c_Book (g_Book_names T) (hr.mono (by decide)) hw (fun _ => hh rfl))) (blkOk_by (own := [("_law_name", 2)]) (by kernel_rfl)) (fun _ _ _ _ _ => (pg_name (i := 2) sc_law_shut.nd rfl (by first | exact Or.inl rfl | exact Or.inr rfl))) (fun _ _ _ _ _ => (pts_one (pt_cmpR (op_eq) (pe_ix (ix_tupK K) (pe_mu (pv 0) T.c_Book (g_Book_state T) (hr.mono (by decide)) hw (fun _ => hh rfl) (pa_cons (pv 2) pa_nil)) pe_int (fun _ _ => rfl)) pe_str (nomark _)))) (fun _ _ _ _ _ => (pv 2))) (nomark _))))), ?_⟩)⟩
  · obtain ⟨al, B, n, b, r, rfl, _⟩ := h
    rfl
  · obtain ⟨al, B, n, b, r, rfl, h1, h2, h3, h4, q⟩ := h
    simp only [a_tVar, a_tC, a_tOp, a_tUn, a_rI, a_rI0, a_rU, a_rEq, a_rNe, a_tTest, a_tB, a_tIsN, a_tNotN, a_tChain, a_tAnd, a_tOr, a_tNot, a_tAndV, a_tOrV, a_tNotV, a_tYes, a_tNext, a_tSeq, a_tCont, a_tBreak, a_tDrop, a_tRet, a_tIfS, a_tNever, a_gName, a_gNil, a_gCons, a_gTup, a_tAsg, a_tNil, a_tCons, a_tTup, a_tLst, a_tCB, a_tCU, a_tMU, a_tFld, a_sFld, a_tSl, a_tNoPart, a_tPart, a_rSlL, a_rSlT, a_rIxL, a_rIxT, a_rCat, a_rRep, a_rCatT, a_tDGet, a_tDIn, a_tDNotIn, a_sDPut, a_tDPop1, a_tDNewK, a_tBM, a_rAppend, a_rExtend, a_iList, a_iEnum, a_iRng1, a_iRng2, a_iVals, a_iItems, a_iRng3, a_iStr, a_tMX, a_tXf, a_wAs, a_tRaise, a_tVeI, a_tOst, a_tMkO, a_tMake, a_rSum, a_rIsi, a_tChain3, a_tAugS, a_rGetL, a_rPutL, a_ipI, a_rSet, a_tCKw, a_rMinD, a_rMin, a_rIxS, a_rSlS, a_iTup, a_rIn, a_rEqD, a_rNeD, upd_same, HO.lst.injEq, HO.tup.injEq, HO.dK.injEq, HO.frz.injEq, a_s0, a_s1, a_s2, a_s3, a_s4, a_s5, a_s6, a_s8, a_scal, a_scals, a_tFor, a_tLc, a_tWhile, a_wipe0, a_wipe1, k_cxU, w_cxU, k_blk, w_blk, and_assoc, exists_and_left, exists_eq_left, exists_eq_left', exists_eq_right, exists_eq, exists_const, List.getElem?_cons_zero, List.getElem?_cons_succ, List.set_cons_zero, List.set_cons_succ, Option.some.injEq, V.int.injEq, V.bl.injEq, V.ref.injEq, V.str.injEq, List.cons.injEq, and_true, true_and, List.cons_append, List.nil_append, List.append_nil, L2.start, List.map_cons, List.map_nil, List.length_cons, List.length_nil, List.replicate, Nat.sub_self, Nat.reduceSub, Nat.reduceAdd, Nat.zero_add, if_true, if_false, Bool.false_eq_true, Bool.true_eq_false, reduceIte, decide_eq_true_eq, Bool.not_eq_true', decide_eq_false_iff_not]
    obtain ⟨dx, hi⟩ := h3.ins
    have el := es_le h2.pre
    have al15 := h1.len
    have nd := h2.pre.good.nd
    have ll : (lineE b).length ≤ 15 := by
      unfold lineE
      rw [List.length_map]
      exact Nat.le_trans sub_len (by omega)
    have kl : (keysE b.es).length ≤ 15 := by unfold keysE; rw [List.length_map]; omega
    refine ⟨_, _, hi, rfl, al, B, n, b, rfl, h1, h3, h2, fun H1 pl us s1 g1 n1 pu => ?_⟩
    have ul := Paired.length pu
    refine ⟨pl, rfl, ⟨_, SqL.of g1⟩, ?_⟩
    refine for_go (walk_list (xs := us)) (fun i σ H' => Same H1 H' ∧ ∃ u2 u3 u4 u5 u6 u7 u8 u9 u10, σ = [some (.ref B.o), some (.ref r), u2, u3, u4, u5, u6, u7, u8, u9, u10, none]) ⟨Same.rfl', none, none, none, none, none, none, none, none, none, rfl⟩ (fun i σ H' _ h => SqL.of (h.1 _ _ g1)) ?_ ?_
    · rintro i y σ H3 H4 hi' ⟨s, u2, u3, u4, u5, u6, u7, u8, u9, u10, rfl⟩ ⟨rfl, e⟩
      obtain ⟨p, hp, a1, c1, rfl, t1, t2⟩ := paired_get pu e
      have t1' := t1.keep s.tups
      have t2' := t2.keep s.tups
      have pm := List.mem_of_getElem? hp
      unfold lineE at pm
      obtain ⟨nm, wm, ep⟩ := List.mem_map.mp pm
      obtain ⟨en, hen, hw⟩ := mem_waiting.mp wm
      have hg := mem_getE nd hen
      obtain ⟨pp, epp⟩ : ∃ pp, paper b.ladder b.risk b.es nm = some pp := by
        cases z : paper b.ladder b.risk b.es nm with
        | none => exact absurd z (paper_stab h2 wm)
        | some pp => exact ⟨pp, rfl⟩
      have eP : p = (nm, pp) := by rw [← ep, epp]; rfl
      subst eP
      have eO := h2.pre.good.ok _ hen
      have tg : tight (counted b.es) (stayOf en) b.ladder b.risk = some (pp.1, pp.2.1, pp.2.2) := by
        have z := epp
        unfold paper at z
        rw [hg] at z
        exact z
      obtain ⟨⟨f1, f2⟩, ⟨k1, k2⟩, ub⟩ := tight_some tg eO.fb
      have sH4 := s1.tr s
      have b4 := h3.same sH4
      obtain ⟨dx4, hi4⟩ := b4.ins
      simp only [a_tVar, a_tC, a_tOp, a_tUn, a_rI, a_rI0, a_rU, a_rEq, a_rNe, a_tTest, a_tB, a_tIsN, a_tNotN, a_tChain, a_tAnd, a_tOr, a_tNot, a_tAndV, a_tOrV, a_tNotV, a_tYes, a_tNext, a_tSeq, a_tCont, a_tBreak, a_tDrop, a_tRet, a_tIfS, a_tNever, a_gName, a_gNil, a_gCons, a_gTup, a_tAsg, a_tNil, a_tCons, a_tTup, a_tLst, a_tCB, a_tCU, a_tMU, a_tFld, a_sFld, a_tSl, a_tNoPart, a_tPart, a_rSlL, a_rSlT, a_rIxL, a_rIxT, a_rCat, a_rRep, a_rCatT, a_tDGet, a_tDIn, a_tDNotIn, a_sDPut, a_tDPop1, a_tDNewK, a_tBM, a_rAppend, a_rExtend, a_iList, a_iEnum, a_iRng1, a_iRng2, a_iVals, a_iItems, a_iRng3, a_iStr, a_tMX, a_tXf, a_wAs, a_tRaise, a_tVeI, a_tOst, a_tMkO, a_tMake, a_rSum, a_rIsi, a_tChain3, a_tAugS, a_rGetL, a_rPutL, a_ipI, a_rSet, a_tCKw, a_rMinD, a_rMin, a_rIxS, a_rSlS, a_iTup, a_rIn, a_rEqD, a_rNeD, upd_same, HO.lst.injEq, HO.tup.injEq, HO.dK.injEq, HO.frz.injEq, a_s0, a_s1, a_s2, a_s3, a_s4, a_s5, a_s6, a_s8, a_scal, a_scals, a_tFor, a_tLc, a_tWhile, a_wipe0, a_wipe1, k_cxU, w_cxU, k_blk, w_blk, and_assoc, exists_and_left, exists_eq_left, exists_eq_left', exists_eq_right, exists_eq, exists_const, List.getElem?_cons_zero, List.getElem?_cons_succ, List.set_cons_zero, List.set_cons_succ, Option.some.injEq, V.int.injEq, V.bl.injEq, V.ref.injEq, V.str.injEq, List.cons.injEq, and_true, true_and, List.cons_append, List.nil_append, List.append_nil, L2.start, List.map_cons, List.map_nil, List.length_cons, List.length_nil, List.replicate, Nat.sub_self, Nat.reduceSub, Nat.reduceAdd, Nat.zero_add, if_true, if_false, Bool.false_eq_true, Bool.true_eq_false, reduceIte, decide_eq_true_eq, Bool.not_eq_true', decide_eq_false_iff_not]
      refine ⟨_, t1'.sq, rfl, _, _, rfl, _, _, rfl, _, _, rfl, _, _, rfl, rfl, ?_⟩
      refine ⟨_, _, hi4, rfl, B, n, b, nm, en, rfl, b4, hg, fun v hv => ?_⟩
      obtain ⟨a5, c5, rfl, t5, t6⟩ := hv
      refine ⟨a5, rfl, _, t5.sq, rfl, _, _, rfl, _, _, rfl, _, _, rfl, _, _, rfl, _, _, rfl, rfl, rfl, ?_⟩
      rw [if_neg (fun z => z (by rw [hw]; rfl))]
      have f1 : en.first ≤ (nm, pp).snd.fst := f1
      have f2 : (nm, pp).snd.fst < en.behind := f2
      have k2 : (nm, pp).snd.snd.fst ≤ en.kind := k2
      have r9 := h2.pre.r9
      have r0 := h2.pre.r0
      have r1 := h2.pre.r1
      have r2 := h2.pre.r2
      have t4 := h4.keep sH4.tups
      refine ⟨_, rfl, _, rfl, ?_⟩
      rw [if_pos f1]
      refine ⟨_, rfl, _, rfl, ?_⟩
      rw [if_neg (fun z => z f2)]
      refine ⟨_, rfl, ?_⟩
      rw [if_pos k1]
      refine ⟨_, rfl, _, rfl, ?_⟩
      rw [if_neg (fun z => z k2)]
      refine ⟨c1, rfl, _, t2'.sq, .int pp.2.2.1, atI_n 0 rfl rfl, _, t4.sq, .int b.risk.2, atI_n 1 rfl rfl, _, rfl, _, rfl, .inr ⟨by omega, by omega⟩, _, t4.sq, .int b.risk.1, atI_n 0 rfl rfl, c1, rfl, _, t2'.sq, .int pp.2.2.2, atI_n 1 rfl rfl, _, rfl, _, rfl, .inl ⟨by omega, by omega⟩, ?_⟩
      have ub' : b.risk.1 * pp.2.2.2 < pp.2.2.1 * b.risk.2 := of_decide_eq_true ub
      rw [if_neg (by omega)]
      exact ⟨s, _, rfl⟩
    · rintro σ H3 ⟨s, u2, u3, u4, u5, u6, u7, u8, u9, u10, rfl⟩
      simp only [a_tVar, a_tC, a_tOp, a_tUn, a_rI, a_rI0, a_rU, a_rEq, a_rNe, a_tTest, a_tB, a_tIsN, a_tNotN, a_tChain, a_tAnd, a_tOr, a_tNot, a_tAndV, a_tOrV, a_tNotV, a_tYes, a_tNext, a_tSeq, a_tCont, a_tBreak, a_tDrop, a_tRet, a_tIfS, a_tNever, a_gName, a_gNil, a_gCons, a_gTup, a_tAsg, a_tNil, a_tCons, a_tTup, a_tLst, a_tCB, a_tCU, a_tMU, a_tFld, a_sFld, a_tSl, a_tNoPart, a_tPart, a_rSlL, a_rSlT, a_rIxL, a_rIxT, a_rCat, a_rRep, a_rCatT, a_tDGet, a_tDIn, a_tDNotIn, a_sDPut, a_tDPop1, a_tDNewK, a_tBM, a_rAppend, a_rExtend, a_iList, a_iEnum, a_iRng1, a_iRng2, a_iVals, a_iItems, a_iRng3, a_iStr, a_tMX, a_tXf, a_wAs, a_tRaise, a_tVeI, a_tOst, a_tMkO, a_tMake, a_rSum, a_rIsi, a_tChain3, a_tAugS, a_rGetL, a_rPutL, a_ipI, a_rSet, a_tCKw, a_rMinD, a_rMin, a_rIxS, a_rSlS, a_iTup, a_rIn, a_rEqD, a_rNeD, upd_same, HO.lst.injEq, HO.tup.injEq, HO.dK.injEq, HO.frz.injEq, a_s0, a_s1, a_s2, a_s3, a_s4, a_s5, a_s6, a_s8, a_scal, a_scals, a_tFor, a_tLc, a_tWhile, a_wipe0, a_wipe1, k_cxU, w_cxU, k_blk, w_blk, and_assoc, exists_and_left, exists_eq_left, exists_eq_left', exists_eq_right, exists_eq, exists_const, List.getElem?_cons_zero, List.getElem?_cons_succ, List.set_cons_zero, List.set_cons_succ, Option.some.injEq, V.int.injEq, V.bl.injEq, V.ref.injEq, V.str.injEq, List.cons.injEq, and_true, true_and, List.cons_append, List.nil_append, List.append_nil, L2.start, List.map_cons, List.map_nil, List.length_cons, List.length_nil, List.replicate, Nat.sub_self, Nat.reduceSub, Nat.reduceAdd, Nat.zero_add, if_true, if_false, Bool.false_eq_true, Bool.true_eq_false, reduceIte, decide_eq_true_eq, Bool.not_eq_true', decide_eq_false_iff_not]
      have sH3 := s1.tr s
      have b3 := h3.same sH3
      obtain ⟨dx3, hi3⟩ := b3.ins
      refine ⟨_, _, hi3, rfl, al, B, n, b, rfl, h1, b3, h2, fun H5 pl5 us5 s5 g5 n5 pu5 => ?_⟩
      have ul5 := Paired.length pu5
      refine ⟨pl5, rfl, ⟨_, SqL.of g5⟩, fun D hD => ?_⟩
      obtain ⟨ac, ha⟩ : ∃ f : Nat → List V, ∀ i, f i = (((lineE b).take i).map (·.1)).map V.str := ⟨_, fun _ => rfl⟩
      refine lc_go (walk_list (xs := us5)) hD ac (ha 0) (fun _ s => SqL.of (s _ _ g5)) ?_ ?_
      · rintro i y H6 H7 hi' s6 hD6 ⟨rfl, e⟩
        obtain ⟨p, hp, a1, c1, rfl, t1, t2⟩ := paired_get pu5 e
        simp only [a_tVar, a_tC, a_tOp, a_tUn, a_rI, a_rI0, a_rU, a_rEq, a_rNe, a_tTest, a_tB, a_tIsN, a_tNotN, a_tChain, a_tAnd, a_tOr, a_tNot, a_tAndV, a_tOrV, a_tNotV, a_tYes, a_tNext, a_tSeq, a_tCont, a_tBreak, a_tDrop, a_tRet, a_tIfS, a_tNever, a_gName, a_gNil, a_gCons, a_gTup, a_tAsg, a_tNil, a_tCons, a_tTup, a_tLst, a_tCB, a_tCU, a_tMU, a_tFld, a_sFld, a_tSl, a_tNoPart, a_tPart, a_rSlL, a_rSlT, a_rIxL, a_rIxT, a_rCat, a_rRep, a_rCatT, a_tDGet, a_tDIn, a_tDNotIn, a_sDPut, a_tDPop1, a_tDNewK, a_tBM, a_rAppend, a_rExtend, a_iList, a_iEnum, a_iRng1, a_iRng2, a_iVals, a_iItems, a_iRng3, a_iStr, a_tMX, a_tXf, a_wAs, a_tRaise, a_tVeI, a_tOst, a_tMkO, a_tMake, a_rSum, a_rIsi, a_tChain3, a_tAugS, a_rGetL, a_rPutL, a_ipI, a_rSet, a_tCKw, a_rMinD, a_rMin, a_rIxS, a_rSlS, a_iTup, a_rIn, a_rEqD, a_rNeD, upd_same, HO.lst.injEq, HO.tup.injEq, HO.dK.injEq, HO.frz.injEq, a_s0, a_s1, a_s2, a_s3, a_s4, a_s5, a_s6, a_s8, a_scal, a_scals, a_tFor, a_tLc, a_tWhile, a_wipe0, a_wipe1, k_cxU, w_cxU, k_blk, w_blk, and_assoc, exists_and_left, exists_eq_left, exists_eq_left', exists_eq_right, exists_eq, exists_const, List.getElem?_cons_zero, List.getElem?_cons_succ, List.set_cons_zero, List.set_cons_succ, Option.some.injEq, V.int.injEq, V.bl.injEq, V.ref.injEq, V.str.injEq, List.cons.injEq, and_true, true_and, List.cons_append, List.nil_append, List.append_nil, L2.start, List.map_cons, List.map_nil, List.length_cons, List.length_nil, List.replicate, Nat.sub_self, Nat.reduceSub, Nat.reduceAdd, Nat.zero_add, if_true, if_false, Bool.false_eq_true, Bool.true_eq_false, reduceIte, decide_eq_true_eq, Bool.not_eq_true', decide_eq_false_iff_not]
        refine ⟨_, (t1.keep s6.tups).sq, .str p.1, atI_n 0 rfl rfl, ?_⟩
        refine leaf hD hD6 s6 (szl _ ?_) ?_
        · rw [ha, List.length_map, List.length_map, List.length_take]
          omega
        · rw [ha, ha, take_snoc hp, List.map_append, List.map_append]
          rfl
      intro H6 s6 hD6
      rw [ha, ul5, List.take_length] at hD6
      have eW : (lineE b).map (·.1) = waitingE b.es := by
        unfold lineE
        rw [List.map_map]
        exact List.map_id _
      rw [eW] at hD6
      have sH6 := (sH3.tr s5).tr s6
      have b6 := h3.same sH6
      obtain ⟨dx6, hi6⟩ := b6.ins
      refine ⟨_, _, hi6, rfl, B, n, b, rfl, b6, fun p7 n7 => ?_⟩
      have s7 := (Same.rfl' (H := H6)).new n7 (o := .lst ((keysE b.es).map V.str))
      refine ⟨p7, rfl, ⟨_, SqL.of upd_same⟩, fun D2 hD2 => ?_⟩
      have g7 : upd H6 p7 (.lst ((keysE b.es).map V.str)) p7 = some (.lst ((keysE b.es).map V.str)) := upd_same
      generalize upd H6 p7 (.lst ((keysE b.es).map V.str)) = H7 at *
      have sH7 := sH6.tr s7
      obtain ⟨bc, hb⟩ : ∃ f : Nat → List V, ∀ i, f i = (waitingE (b.es.take i)).map V.str := ⟨_, fun _ => rfl⟩
      refine lc_go (walk_list (xs := (keysE b.es).map V.str)) hD2 bc (hb 0) (fun _ s => SqL.of (s _ _ g7)) ?_ ?_
      · rintro i y H8 H9 hi' s8 hD8 ⟨rfl, e⟩
        unfold keysE at e
        rw [List.getElem?_map, List.getElem?_map] at e
        cases ex : b.es[i]? with
        | none => rw [ex] at e; cases e
        | some pr =>
        rw [ex] at e
        cases e
        have hg : getE b.es pr.1 = some pr.2 := mem_getE nd (List.mem_of_getElem? ex)
        have b8 := h3.same (sH7.tr s8)
        obtain ⟨dx8, hi8⟩ := b8.ins
        have ec : waitingE (b.es.take (i + 1)) = waitingE (b.es.take i) ++ (if pr.2.word = .waits then [pr.1] else []) := by
          rw [take_snoc ex]
          unfold waitingE
          rw [List.filter_append, List.map_append, List.filter_cons]
          by_cases z : pr.2.word = .waits
          · rw [if_pos (by simp [z]), if_pos z]
            rfl
          · rw [if_neg (by simp [z]), if_neg z]
            rfl
        simp only [a_tVar, a_tC, a_tOp, a_tUn, a_rI, a_rI0, a_rU, a_rEq, a_rNe, a_tTest, a_tB, a_tIsN, a_tNotN, a_tChain, a_tAnd, a_tOr, a_tNot, a_tAndV, a_tOrV, a_tNotV, a_tYes, a_tNext, a_tSeq, a_tCont, a_tBreak, a_tDrop, a_tRet, a_tIfS, a_tNever, a_gName, a_gNil, a_gCons, a_gTup, a_tAsg, a_tNil, a_tCons, a_tTup, a_tLst, a_tCB, a_tCU, a_tMU, a_tFld, a_sFld, a_tSl, a_tNoPart, a_tPart, a_rSlL, a_rSlT, a_rIxL, a_rIxT, a_rCat, a_rRep, a_rCatT, a_tDGet, a_tDIn, a_tDNotIn, a_sDPut, a_tDPop1, a_tDNewK, a_tBM, a_rAppend, a_rExtend, a_iList, a_iEnum, a_iRng1, a_iRng2, a_iVals, a_iItems, a_iRng3, a_iStr, a_tMX, a_tXf, a_wAs, a_tRaise, a_tVeI, a_tOst, a_tMkO, a_tMake, a_rSum, a_rIsi, a_tChain3, a_tAugS, a_rGetL, a_rPutL, a_ipI, a_rSet, a_tCKw, a_rMinD, a_rMin, a_rIxS, a_rSlS, a_iTup, a_rIn, a_rEqD, a_rNeD, upd_same, HO.lst.injEq, HO.tup.injEq, HO.dK.injEq, HO.frz.injEq, a_s0, a_s1, a_s2, a_s3, a_s4, a_s5, a_s6, a_s8, a_scal, a_scals, a_tFor, a_tLc, a_tWhile, a_wipe0, a_wipe1, k_cxU, w_cxU, k_blk, w_blk, and_assoc, exists_and_left, exists_eq_left, exists_eq_left', exists_eq_right, exists_eq, exists_const, List.getElem?_cons_zero, List.getElem?_cons_succ, List.set_cons_zero, List.set_cons_succ, Option.some.injEq, V.int.injEq, V.bl.injEq, V.ref.injEq, V.str.injEq, List.cons.injEq, and_true, true_and, List.cons_append, List.nil_append, List.append_nil, L2.start, List.map_cons, List.map_nil, List.length_cons, List.length_nil, List.replicate, Nat.sub_self, Nat.reduceSub, Nat.reduceAdd, Nat.zero_add, if_true, if_false, Bool.false_eq_true, Bool.true_eq_false, reduceIte, decide_eq_true_eq, Bool.not_eq_true', decide_eq_false_iff_not]
        refine ⟨_, _, hi8, rfl, B, n, b, pr.1, pr.2, rfl, b8, hg, fun v hv => ?_⟩
        obtain ⟨a5, c5, rfl, t5, t6⟩ := hv
        refine ⟨a5, rfl, _, t5.sq, _, atI_n 0 rfl rfl, rfl, ?_⟩
        by_cases z : pr.2.word = .waits
        · rw [if_pos (by rw [V.str.injEq, wordS_w']; exact z)]
          rw [if_pos z] at ec
          refine leaf hD2 hD8 s8 (szl _ ?_) (by rw [hb, hb, ec]; exact List.map_append)
          rw [hb, List.length_map]
          unfold waitingE
          have := sub_len (es := b.es.take i) (q := fun p => decide (p.2.word = .waits))
          rw [List.length_take] at this
          omega
        · rw [if_neg (by rw [V.str.injEq, wordS_w']; exact z)]
          rw [if_neg z, List.append_nil] at ec
          exact leafN hD8 s8 (by rw [hb, hb, ec])
      intro H8 s8 hD8
      rw [hb, List.length_map, show (keysE b.es).length = b.es.length by unfold keysE; rw [List.length_map], List.take_length] at hD8
      have sh : SeqAt.shaped (.list ((waitingE b.es).map PyData.str)) = true := shaped_strs _ fun x hx => nm_ok (h1.ok x (h2.pre.al x (sub_keys x hx)))
      refine ⟨_, .lst (SqL.of (s8 _ _ (s7 _ _ hD6))) (dp_strs _), _, .lst (SqL.of hD8) (dp_strs _), sh, sh, ?_⟩
      rw [PySem.SeqAt.eqv_refl _ (SeqAt.canLay_of_shaped sh)]
      exact q _ (sH7.tr s8)
end
end Nb
end
section
set_option Elab.async false
set_option linter.all false
set_option maxRecDepth 100000
set_option maxHeartbeats 4000000
namespace Nb
open PySem PySem.Spec PyProof.Rows L2 NbU NbM
section
variable {P : Program} {w : World} {K : PySem.W.Frag} {mg : Str → Option Value} {base : Heap} {H H' : Hp} {B : BA} {n n' : Nat} {b : Bk Str}
theorem warmB {X : Cx} {s : Shared} {H : Hp} {scope : Scope} {cenv : Env} {fp : List Addr} (h : Warm X) : Warm (blkU X s H scope cenv fp) := h
def StAt (K : PySem.W.Frag) (H : Hp) (v : V) (p : Str × Ent) : Prop := ∃ (a : Addr) (ev : V), v = .ref a ∧ Tu K H a [.str p.1, ev] ∧ EntAt K H ev p.2
theorem StAt.keep {H H' : Hp} {v : V} {p : Str × Ent} (h : StAt K H v p) (s : Tups H H') : StAt K H' v p := let ⟨a, ev, e, x, y⟩ := h; ⟨a, ev, e, x.keep s, y.keep s⟩
theorem deed_1 {t : Addr} {d : Deed Str} (h : DeedAt K H t d) : ∃ (x : V) (xs : List V), Tu K H t xs ∧ atI xs 1 = some x ∧ ((x = .non ∧ nameOf d = none) ∨ ∃ s : Str, x = .str s ∧ ∀ n, s ≠ n → nameOf d ≠ some n) := by
  cases d with
  | non => obtain ⟨w0, tu⟩ := h; exact ⟨_, _, tu, atI_n 1 rfl rfl, .inl ⟨rfl, rfl⟩⟩
  | wish nm k f bh c => obtain ⟨ca, tu, _⟩ := h; exact ⟨_, _, tu, atI_n 1 rfl rfl, .inr ⟨nm, rfl, fun n e z => e (Option.some.inj z)⟩⟩
  | withdraw nm => exact ⟨_, _, h, atI_n 1 rfl rfl, .inr ⟨nm, rfl, fun n e z => e (Option.some.inj z)⟩⟩
  | absent nm => exact ⟨_, _, h, atI_n 1 rfl rfl, .inr ⟨nm, rfl, fun n e z => e (Option.some.inj z)⟩⟩
  | go nm => exact ⟨_, _, h, atI_n 1 rfl rfl, .inr ⟨nm, rfl, fun n e z => e (Option.some.inj z)⟩⟩
  | come nm => exact ⟨_, _, h, atI_n 1 rfl rfl, .inr ⟨nm, rfl, fun n e z => e (Option.some.inj z)⟩⟩
  | close => exact ⟨_, _, h, atI_n 1 rfl rfl, .inr ⟨"", rfl, fun n _ z => nomatch z⟩⟩
theorem inV_strs (n : Str) (l : List Str) : inV (.str n) (l.map V.str) = decide (n ∈ l) := by
  unfold inV
  rw [List.any_map]
  induction l with
  | nil => simp
  | cons a l ih =>
    rw [List.any_cons, ih]
    show ((a == n) || decide (n ∈ l)) = _
    by_cases c : n = a
    · simp [c]
    · have : (a == n) = false := by simpa using fun z => c (Eq.symm z)
      rw [this]
      simp [c]
theorem flat_strs (l : List Str) : (l.map V.str).all flatV = true := by
  rw [List.all_map]
  exact List.all_eq_true.mpr fun _ _ => rfl
def sp_law_kept (K : PySem.W.Frag) : Sp := fun vs H Q _ => ∃ (al : List Str) (B : BA) (n : Nat) (b : Bk Str) (d : Deed Str) (p t : Addr) (us : List V), vs = [.ref B.o, .ref p, .ref t] ∧ AlOk al ∧ Ok al b ∧ DeedOk al b d ∧ Ok al (doB b d).1 ∧ BookAt K H B n (doB b d).1 ∧ DeedAt K H t d ∧ H p = some (.lst us) ∧ Paired (StAt K H) us b.es ∧
  ∀ H', Same H H' → Q (.bl true) H'
theorem sc_law_kept : FnScope ["_law_book", "_law_before", "_law_deed", "_law_name", "_law_state", "_law_over"] ["_law_book", "_law_before", "_law_deed"] (defScope s_law_kept) := ⟨rfl, rfl, rfl, by decide +kernel, rfl, by decide +kernel, by decide +kernel⟩
theorem g_law_kept (T : Txt K mg) : GF P w K mg base true 3 "_law_kept" [] (sp_law_kept K) := by
  obtain ⟨fd, F⟩ := T.f_law_kept
  refine ⟨_, fd, ["_law_book", "_law_before", "_law_deed"], [], T.g_law_kept, F.kp, F.bindsN (fun _ _ _ _ _ _ us hl => match us, hl with | [_, _, _], _ => rfl), .nil, okU F sc_law_kept (fun vs H Q E h => ?_) (fun cdv A outer s H vs Q E pl hr hh hw h => ⟨_, PSs.nox (pss_cons (psu_for PassesOwn.never hw (piu_list (pv 1)) (pgu_tupK (n := 2) K hw (pgs_cons (pg_name (i := 3) sc_law_kept.nd rfl (by first | exact Or.inl rfl | exact Or.inr rfl)) (pgs_cons (pg_name (i := 4) sc_law_kept.nd rfl (by first | exact Or.inl rfl | exact Or.inr rfl)) pgs_nil))) (pss_one (ps_if (PW.pt (pw_and (pt_cmpR (op_ne) (pv 3) (pe_ix (ix_tupK K) (pv 2) pe_int (fun _ _ => rfl)) (nomark _)) (pw_and1 (pt_cmpR (op_ne) (pe_ix (ix_tupK K) (pv 4) pe_int (fun _ _ => rfl)) pe_str (nomark _))))) (pss_cons (ps_set (i := 5) sc_law_kept.nd rfl (by first | exact Or.inl rfl | exact Or.inr rfl) (pe_cmpR (op_le) (pe_ix (ix_tupK K) (pv 4) pe_int (fun _ _ => rfl)) (pe_mu0 (pv 0) T.c_Book (g_Book_tonight T) (hr.mono (by decide)) hw (fun _ => hh rfl)) (nomark _)))
      (pss_cons (ps_if (pt_cmpR (op_eq) (pe_ix (ix_tupK K) (pv 4) pe_int (fun _ _ => rfl)) pe_str (nomark _)) (pss_one (ps_set (i := 5) sc_law_kept.nd rfl (by first | exact Or.inl rfl | exact Or.inr rfl) (pe_cmpR (op_lt) (pe_ix (ix_tupK K) (pv 4) pe_int (fun _ _ => rfl)) (pe_mu0 (pv 0) T.c_Book (g_Book_tonight T) (hr.mono (by decide)) hw (fun _ => hh rfl)) (nomark _)))) pss_nil)
      (pss_one (ps_if (PW.pt (pw_or (pt_cmpR (op_eq) (pe_cmpR (op_inK K) (pv 3) (pe_mu0 (pv 0) T.c_Book (g_Book_names T) (hr.mono (by decide)) hw (fun _ => hh rfl)) rfl) (pv 5) (nomark _)) (pw_or1 (PW.pt (pw_and (pt_not (pt_val (pv 5))) (pw_and1 (pt_cmpR (op_neDK K (hu64 hr)) (pe_mu (pv 0) T.c_Book (g_Book_state T) (hr.mono (by decide)) hw (fun _ => hh rfl) (pa_cons (pv 3) pa_nil)) (pv 4) (nomark _)))))))) (pss_one (ps_ret pe_bl)) pss_nil)))) pss_nil)))
      (pss_one (ps_ret pe_bl))), ?_⟩)⟩
  · obtain ⟨al, B, n, b, d, p, t, us, rfl, _⟩ := h
    rfl
  · obtain ⟨al, B, n, b, d, p, t, us, rfl, h1, h2, h3, h4, h5, h6, h7, h8, q⟩ := h
    simp only [a_tVar, a_tC, a_tOp, a_tUn, a_rI, a_rI0, a_rU, a_rEq, a_rNe, a_tTest, a_tB, a_tIsN, a_tNotN, a_tChain, a_tAnd, a_tOr, a_tNot, a_tAndV, a_tOrV, a_tNotV, a_tYes, a_tNext, a_tSeq, a_tCont, a_tBreak, a_tDrop, a_tRet, a_tIfS, a_tNever, a_gName, a_gNil, a_gCons, a_gTup, a_tAsg, a_tNil, a_tCons, a_tTup, a_tLst, a_tCB, a_tCU, a_tMU, a_tFld, a_sFld, a_tSl, a_tNoPart, a_tPart, a_rSlL, a_rSlT, a_rIxL, a_rIxT, a_rCat, a_rRep, a_rCatT, a_tDGet, a_tDIn, a_tDNotIn, a_sDPut, a_tDPop1, a_tDNewK, a_tBM, a_rAppend, a_rExtend, a_iList, a_iEnum, a_iRng1, a_iRng2, a_iVals, a_iItems, a_iRng3, a_iStr, a_tMX, a_tXf, a_wAs, a_tRaise, a_tVeI, a_tOst, a_tMkO, a_tMake, a_rSum, a_rIsi, a_tChain3, a_tAugS, a_rGetL, a_rPutL, a_ipI, a_rSet, a_tCKw, a_rMinD, a_rMin, a_rIxS, a_rSlS, a_iTup, a_rIn, a_rEqD, a_rNeD, upd_same, HO.lst.injEq, HO.tup.injEq, HO.dK.injEq, HO.frz.injEq, a_s0, a_s1, a_s2, a_s3, a_s4, a_s5, a_s6, a_s8, a_scal, a_scals, a_tFor, a_tLc, a_tWhile, a_wipe0, a_wipe1, k_cxU, w_cxU, k_blk, w_blk, and_assoc, exists_and_left, exists_eq_left, exists_eq_left', exists_eq_right, exists_eq, exists_const, List.getElem?_cons_zero, List.getElem?_cons_succ, List.set_cons_zero, List.set_cons_succ, Option.some.injEq, V.int.injEq, V.bl.injEq, V.ref.injEq, V.str.injEq, List.cons.injEq, and_true, true_and, List.cons_append, List.nil_append, List.append_nil, L2.start, List.map_cons, List.map_nil, List.length_cons, List.length_nil, List.replicate, Nat.sub_self, Nat.reduceSub, Nat.reduceAdd, Nat.zero_add, if_true, if_false, Bool.false_eq_true, Bool.true_eq_false, reduceIte, decide_eq_true_eq, Bool.not_eq_true', decide_eq_false_iff_not]
    have nd := h2.pre.good.nd
    have nd' := h4.pre.good.nd
    have el := es_le h4.pre
    have al15 := h1.len
    have kl : (keysE (doB b d).1.es).length ≤ 15 := by unfold keysE; rw [List.length_map]; omega
    obtain ⟨x1, txs, tt, tx, tn⟩ := deed_1 h6
    refine ⟨⟨_, SqL.of h7⟩, ?_⟩
    refine for_go (walk_list (xs := us)) (fun i σ H' => Same H H' ∧ ∃ u3 u4 u5, σ = [some (.ref B.o), some (.ref p), some (.ref t), u3, u4, u5]) ⟨Same.rfl', none, none, none, rfl⟩ (fun i σ H' _ h => SqL.of (h.1 _ _ h7)) ?_ ?_
    · rintro i y σ H3 H4 hi' ⟨s, u3, u4, u5, rfl⟩ ⟨rfl, e⟩
      obtain ⟨⟨nm, en⟩, hp, a1, ev, rfl, t1, hE⟩ := paired_get h8 e
      have t1' := t1.keep s.tups
      have hE' := hE.keep s.tups
      obtain ⟨a5, c5, rfl, t5, t6⟩ := hE'
      have hen := List.mem_of_getElem? hp
      have b4 := h5.same s
      obtain ⟨dx4, hi4⟩ := b4.ins
      have tt' := tt.keep s.tups
      simp only [a_tVar, a_tC, a_tOp, a_tUn, a_rI, a_rI0, a_rU, a_rEq, a_rNe, a_tTest, a_tB, a_tIsN, a_tNotN, a_tChain, a_tAnd, a_tOr, a_tNot, a_tAndV, a_tOrV, a_tNotV, a_tYes, a_tNext, a_tSeq, a_tCont, a_tBreak, a_tDrop, a_tRet, a_tIfS, a_tNever, a_gName, a_gNil, a_gCons, a_gTup, a_tAsg, a_tNil, a_tCons, a_tTup, a_tLst, a_tCB, a_tCU, a_tMU, a_tFld, a_sFld, a_tSl, a_tNoPart, a_tPart, a_rSlL, a_rSlT, a_rIxL, a_rIxT, a_rCat, a_rRep, a_rCatT, a_tDGet, a_tDIn, a_tDNotIn, a_sDPut, a_tDPop1, a_tDNewK, a_tBM, a_rAppend, a_rExtend, a_iList, a_iEnum, a_iRng1, a_iRng2, a_iVals, a_iItems, a_iRng3, a_iStr, a_tMX, a_tXf, a_wAs, a_tRaise, a_tVeI, a_tOst, a_tMkO, a_tMake, a_rSum, a_rIsi, a_tChain3, a_tAugS, a_rGetL, a_rPutL, a_ipI, a_rSet, a_tCKw, a_rMinD, a_rMin, a_rIxS, a_rSlS, a_iTup, a_rIn, a_rEqD, a_rNeD, upd_same, HO.lst.injEq, HO.tup.injEq, HO.dK.injEq, HO.frz.injEq, a_s0, a_s1, a_s2, a_s3, a_s4, a_s5, a_s6, a_s8, a_scal, a_scals, a_tFor, a_tLc, a_tWhile, a_wipe0, a_wipe1, k_cxU, w_cxU, k_blk, w_blk, and_assoc, exists_and_left, exists_eq_left, exists_eq_left', exists_eq_right, exists_eq, exists_const, List.getElem?_cons_zero, List.getElem?_cons_succ, List.set_cons_zero, List.set_cons_succ, Option.some.injEq, V.int.injEq, V.bl.injEq, V.ref.injEq, V.str.injEq, List.cons.injEq, and_true, true_and, List.cons_append, List.nil_append, List.append_nil, L2.start, List.map_cons, List.map_nil, List.length_cons, List.length_nil, List.replicate, Nat.sub_self, Nat.reduceSub, Nat.reduceAdd, Nat.zero_add, if_true, if_false, Bool.false_eq_true, Bool.true_eq_false, reduceIte, decide_eq_true_eq, Bool.not_eq_true', decide_eq_false_iff_not]
      refine ⟨_, t1'.sq, rfl, _, _, rfl, _, _, rfl, rfl, ?_⟩
      have hsc : scal (V.str (nm, en).fst) x1 = true := by rcases tn with ⟨z, _⟩ | ⟨s', z, _⟩ <;> rw [z] <;> rfl
      refine ⟨_, tt'.sq, x1, tx, hsc, ?_⟩
      by_cases c : V.str (nm, en).fst = x1
      · rw [if_neg (fun z => z c)]
        exact ⟨s, _, rfl⟩
      rw [if_pos c]
      have hne : nameOf d ≠ some nm := by
        rcases tn with ⟨_, z⟩ | ⟨s', z, z2⟩
        · rw [z]; exact fun q => nomatch q
        · exact z2 nm fun q => c (by rw [z, q])
      refine ⟨a5, rfl, _, t5.sq, .str (wordS en.word), atI_n 0 rfl rfl, rfl, ?_⟩
      by_cases hw : en.word = .waits
      · rw [if_neg (fun z => z (by rw [hw]; rfl))]
        exact ⟨s, _, rfl⟩
      rw [if_pos (fun z => hw ((wordS_w' en.word).mp (V.str.inj z)))]
      obtain ⟨K1, K2⟩ := kept_ok h2 h3 hne hen hw
      refine ⟨a5, rfl, _, t5.sq, .int en.behind, atI_n 3 rfl rfl, _, _, hi4, rfl, B, n, _, rfl, b4, ?_⟩
      refine ⟨_, rfl, _, rfl, a5, rfl, _, t5.sq, .str (wordS en.word), atI_n 0 rfl rfl, rfl, ?_⟩
      by_cases ht : en.word = .taken
      · rw [if_pos (by rw [ht]; rfl)]
        rw [if_pos ht] at K1 K2
        refine ⟨a5, rfl, _, t5.sq, .int en.first, atI_n 2 rfl rfl, _, _, hi4, rfl, B, n, _, rfl, b4, _, rfl, _, rfl, ?_⟩
        refine ⟨_, _, hi4, rfl, B, n, _, rfl, b4, fun p6 n6 => ?_⟩
        have s6 := (Same.rfl' (H := H4)).new n6 (o := .lst ((keysE (doB b d).1.es).map V.str))
        refine ⟨p6, rfl, _, .inl (SqL.of upd_same), rfl, flat_strs _, rfl, ?_⟩
        rw [inV_strs]
        by_cases ov : en.first < (doB b d).1.ev
        · rw [if_neg (by rw [decide_eq_false (K1 ov), decide_eq_true ov]; exact fun z => Bool.noConfusion z), if_neg (fun z => z ov)]
          exact ⟨s.tr s6, _, rfl⟩
        · have hm := K2 ov
          have hk : nm ∈ keysE (doB b d).1.es := List.mem_map.mpr ⟨_, hm, rfl⟩
          rw [if_neg (by rw [decide_eq_true hk, decide_eq_false ov]; exact fun z => Bool.noConfusion z), if_pos ov]
          refine ⟨_, _, s6 _ _ hi4, rfl, B, n, _, nm, en, rfl, b4.same s6, mem_getE nd' hm, fun v hv => ?_⟩
          have sh := shaped_of (entD_lay en) (Nat.le_trans (entD_dep en) (by decide))
          have hE6 := (hE.keep s.tups).keep s6.tups
          refine ⟨_, ent_dp hv, _, ent_dp hE6, sh, sh, ?_⟩
          rw [PySem.SeqAt.eqv_refl _ (entD_lay en)]
          rw [if_neg (fun z => Bool.noConfusion z)]
          exact ⟨s.tr s6, _, rfl⟩
      · rw [if_neg (fun z => ht ((wordS_t' en.word).mp (V.str.inj z)))]
        rw [if_neg ht] at K1 K2
        refine ⟨_, _, hi4, rfl, B, n, _, rfl, b4, fun p6 n6 => ?_⟩
        have s6 := (Same.rfl' (H := H4)).new n6 (o := .lst ((keysE (doB b d).1.es).map V.str))
        refine ⟨p6, rfl, _, .inl (SqL.of upd_same), rfl, flat_strs _, rfl, ?_⟩
        rw [inV_strs]
        by_cases ov : en.behind ≤ (doB b d).1.ev
        · rw [if_neg (by rw [decide_eq_false (K1 ov), decide_eq_true ov]; exact fun z => Bool.noConfusion z), if_neg (fun z => z ov)]
          exact ⟨s.tr s6, _, rfl⟩
        · have hm := K2 ov
          have hk : nm ∈ keysE (doB b d).1.es := List.mem_map.mpr ⟨_, hm, rfl⟩
          rw [if_neg (by rw [decide_eq_true hk, decide_eq_false ov]; exact fun z => Bool.noConfusion z), if_pos ov]
          refine ⟨_, _, s6 _ _ hi4, rfl, B, n, _, nm, en, rfl, b4.same s6, mem_getE nd' hm, fun v hv => ?_⟩
          have sh := shaped_of (entD_lay en) (Nat.le_trans (entD_dep en) (by decide))
          have hE6 := (hE.keep s.tups).keep s6.tups
          refine ⟨_, ent_dp hv, _, ent_dp hE6, sh, sh, ?_⟩
          rw [PySem.SeqAt.eqv_refl _ (entD_lay en)]
          rw [if_neg (fun z => Bool.noConfusion z)]
          exact ⟨s.tr s6, _, rfl⟩
    · rintro σ H3 ⟨s, u3, u4, u5, rfl⟩
      simp only [a_tVar, a_tC, a_tOp, a_tUn, a_rI, a_rI0, a_rU, a_rEq, a_rNe, a_tTest, a_tB, a_tIsN, a_tNotN, a_tChain, a_tAnd, a_tOr, a_tNot, a_tAndV, a_tOrV, a_tNotV, a_tYes, a_tNext, a_tSeq, a_tCont, a_tBreak, a_tDrop, a_tRet, a_tIfS, a_tNever, a_gName, a_gNil, a_gCons, a_gTup, a_tAsg, a_tNil, a_tCons, a_tTup, a_tLst, a_tCB, a_tCU, a_tMU, a_tFld, a_sFld, a_tSl, a_tNoPart, a_tPart, a_rSlL, a_rSlT, a_rIxL, a_rIxT, a_rCat, a_rRep, a_rCatT, a_tDGet, a_tDIn, a_tDNotIn, a_sDPut, a_tDPop1, a_tDNewK, a_tBM, a_rAppend, a_rExtend, a_iList, a_iEnum, a_iRng1, a_iRng2, a_iVals, a_iItems, a_iRng3, a_iStr, a_tMX, a_tXf, a_wAs, a_tRaise, a_tVeI, a_tOst, a_tMkO, a_tMake, a_rSum, a_rIsi, a_tChain3, a_tAugS, a_rGetL, a_rPutL, a_ipI, a_rSet, a_tCKw, a_rMinD, a_rMin, a_rIxS, a_rSlS, a_iTup, a_rIn, a_rEqD, a_rNeD, upd_same, HO.lst.injEq, HO.tup.injEq, HO.dK.injEq, HO.frz.injEq, a_s0, a_s1, a_s2, a_s3, a_s4, a_s5, a_s6, a_s8, a_scal, a_scals, a_tFor, a_tLc, a_tWhile, a_wipe0, a_wipe1, k_cxU, w_cxU, k_blk, w_blk, and_assoc, exists_and_left, exists_eq_left, exists_eq_left', exists_eq_right, exists_eq, exists_const, List.getElem?_cons_zero, List.getElem?_cons_succ, List.set_cons_zero, List.set_cons_succ, Option.some.injEq, V.int.injEq, V.bl.injEq, V.ref.injEq, V.str.injEq, List.cons.injEq, and_true, true_and, List.cons_append, List.nil_append, List.append_nil, L2.start, List.map_cons, List.map_nil, List.length_cons, List.length_nil, List.replicate, Nat.sub_self, Nat.reduceSub, Nat.reduceAdd, Nat.zero_add, if_true, if_false, Bool.false_eq_true, Bool.true_eq_false, reduceIte, decide_eq_true_eq, Bool.not_eq_true', decide_eq_false_iff_not]
      exact q _ s
end
end Nb
end
section
set_option Elab.async false
set_option linter.all false
set_option maxRecDepth 100000
set_option maxHeartbeats 4000000
namespace Nb
open PySem PySem.Spec PyProof.Rows L2 NbU NbM
section
variable {P : Program} {w : World} {K : PySem.W.Frag} {mg : Str → Option Value} {base : Heap} {H H' : Hp} {B : BA} {n n' : Nat} {b : Bk Str}
theorem stand_go {tt : TT} {q2 : Str × Ent → Bool} {σ : L2.St} {pl D1 : Addr} {us : List V} {es : List (Str × Ent)} {Q : Hp → Prop} (hD : H D1 = none) (hp : H pl = some (.lst us)) (pu : Paired (StAt K H) us es) (el : es.length ≤ 1000) (hl : 10 < σ.length)
    (ht : ∀ H' a ev pr (R : Bool → Hp → Prop), pr ∈ es → Same H H' → Tu K H' a [.str pr.1, ev] → EntAt K H' ev pr.2 → R (q2 pr) H' → tt ((σ.set 10 none).set 10 (some (.ref a))) H' R)
    (q : ∀ H', Same H H' → H' D1 = some (.lst (((es.filter q2).map (·.1)).map V.str)) → Q H') :
    LcW (Itl K pl) (gName 10) tt (tOp (rIxT K) (tVar 10) (tC (.int 0))) [10] σ H D1 Q := by
  obtain ⟨ac, ha⟩ : ∃ f : Nat → List V, ∀ i, f i = (((es.take i).filter q2).map (·.1)).map V.str := ⟨_, fun _ => rfl⟩
  have ul := Paired.length pu
  refine lc_go (walk_list (xs := us)) hD ac (ha 0) (fun _ s => SqL.of (s _ _ hp)) ?_ ?_
  · rintro i y H3 H4 hi s hD' ⟨rfl, e⟩
    obtain ⟨pr, hpr, a, ev, rfl, t1, hE⟩ := paired_get pu e
    have ec : ac (i + 1) = ac i ++ (if q2 pr = true then [V.str pr.1] else []) := by
      rw [ha, ha, take_snoc hpr, List.filter_append, List.map_append, List.map_append, List.filter_cons]
      cases q2 pr <;> rfl
    have t1' := t1.keep s.tups
    have gt : ((σ.set 10 none).set 10 (some (V.ref a)))[10]? = some (some (.ref a)) := by
      rw [List.getElem?_set_self (by simp; exact hl)]
    show wipe ((wipe σ [10]).set 10 (some (.ref a))) [10] = wipe σ [10] ∧ _
    refine ⟨by show ((σ.set 10 none).set 10 (some (.ref a))).set 10 none = σ.set 10 none; simp, ht _ a ev pr _ (List.mem_of_getElem? hpr) s t1' (hE.keep s.tups) ?_⟩
    cases z : q2 pr with
    | true =>
      rw [z, if_pos rfl] at ec
      rw [if_pos rfl]
      refine ⟨.ref a, gt, a, _, 0, .str pr.1, rfl, rfl, t1'.sq, atI_n 0 rfl rfl, ?_⟩
      have lf := leaf hD hD' s (szl _ (by
        rw [ha, List.length_map, List.length_map]
        have := List.length_filter_le q2 (es.take i)
        rw [List.length_take] at this
        omega)) ec
      obtain ⟨acc, f1, f2, f3, f4⟩ := lf
      exact ⟨acc, f1, f2, f3, by rw [upd_same, f4]⟩
    | false =>
      rw [z, if_neg (fun z => Bool.noConfusion z), List.append_nil] at ec
      rw [if_neg (fun z => Bool.noConfusion z)]
      exact leafN hD' s ec
  · intro H3 s hD'
    rw [ha, ul, List.take_length] at hD'
    exact q _ s hD'
def sp_law_chosen (K : PySem.W.Frag) : Sp := fun vs H Q _ => ∃ (al nms : List Str) (B : BA) (n : Nat) (b : Bk Str) (pn px : Addr) (kinds : Int) (xs : List Int), vs = [.ref B.o, .ref pn, .int kinds, .ref px] ∧ AlOk al ∧ Ok al b ∧ BookAt K H B n b ∧ ZZ ∉ keysE b.es ∧ H pn = some (.lst (nms.map V.str)) ∧ NmsOk nms ∧ (∀ x ∈ nms, x ∈ al) ∧ kinds = b.ladder.length ∧
  H px = some (.lst (IL xs)) ∧ xs.length = 12 ∧ (∀ x ∈ xs, 0 ≤ x) ∧
  ∀ H' t d, Same H H' → DeedAt K H' t d → DeedOk al b d → nameOf d ≠ some ZZ → Q (.ref t) H'
theorem sc_law_chosen : FnScope ["_law_book", "_law_names_here", "_law_kinds", "_law_xs", "_law_night", "_law_standing", "_law_way", "_law_free", "_law_first", "_law_name", "_law_one"] ["_law_book", "_law_names_here", "_law_kinds", "_law_xs"] (defScope s_law_chosen) := ⟨rfl, rfl, rfl, by decide +kernel, rfl, by decide +kernel, by decide +kernel⟩
theorem g_law_chosen (T : Txt K mg) : GF P w K mg base true 3 "_law_chosen" [] (sp_law_chosen K) := by
  obtain ⟨fd, F⟩ := T.f_law_chosen
  refine ⟨_, fd, ["_law_book", "_law_names_here", "_law_kinds", "_law_xs"], [], T.g_law_chosen, F.kp, F.bindsN (fun _ _ _ _ _ _ us hl => match us, hl with | [_, _, _, _], _ => rfl), .nil, okU F sc_law_chosen (fun vs H Q E h => ?_) (fun cdv A outer s H vs Q E pl hr hh hw h => ⟨_, PSs.nox (pss_cons (ps_set (i := 4) sc_law_chosen.nd rfl (by first | exact Or.inl rfl | exact Or.inr rfl) (pe_mu0 (pv 0) T.c_Book (g_Book_tonight T) (hr.mono (by decide)) hw (fun _ => hh rfl)))
      (pss_cons (ps_set (i := 5) sc_law_chosen.nd rfl (by first | exact Or.inl rfl | exact Or.inr rfl) (pe_lcU hw sc_law_chosen.nd (piu_list (pe_mu0 (pv 0) T.c_Book (g_Book_names T) (hr.mono (by decide)) hw (fun _ => hh rfl))) (blkOk_by (own := [("_law_name", 9)]) (by kernel_rfl)) (fun _ _ _ _ _ => (pg_name (i := 9) sc_law_chosen.nd rfl (by first | exact Or.inl rfl | exact Or.inr rfl))) (fun _ _ _ _ _ => (pts_one (pt_cmpR (op_ne) (pv 9) pe_str (nomark _)))) (fun _ _ _ _ _ => (pe_tup (pa_cons (pv 9) (pa_cons (pe_mu (pv 0) T.c_Book (g_Book_state T) (hr.mono (by decide)) hw (fun _ => hh rfl) (pa_cons (pv 9) pa_nil)) pa_nil))))))
      (pss_cons (ps_set (i := 6) sc_law_chosen.nd rfl (by first | exact Or.inl rfl | exact Or.inr rfl) (pe_op op_mod (pe_ix (ix_listK K) (pv 3) pe_int (fun _ _ => rfl)) pe_int))
      (pss_cons (ps_if (pt_cmpR (op_lt) (pv 6) pe_int (nomark _)) (pss_cons (ps_set (i := 7) sc_law_chosen.nd rfl (by first | exact Or.inl rfl | exact Or.inr rfl) (pe_cu (g_law_pick T) (hr.mono (by decide)) hw (fun _ => hh rfl) rfl (pa_cons (pe_lcU hw sc_law_chosen.nd (piu_list (pv 1)) (blkOk_by (own := [("_law_name", 9)]) (by kernel_rfl)) (fun _ _ _ _ _ => (pg_name (i := 9) sc_law_chosen.nd rfl (by first | exact Or.inl rfl | exact Or.inr rfl))) (fun _ _ _ _ _ => (pts_one (pt_cmpR (op_notInK K) (pv 9) (show PE _ _ (tLc (iList K (tVar 5)) (gName 10) tYes (tOp (rIxT K) (tVar 10) (tC (V.int 0))) [10]) from by
      refine pe_lcU (own := [("_law_one", 10)]) ?_ ?_ ?_ ?_ ?_ ?_ ?_
      · exact (warmB hw)
      · exact sc_law_chosen.nd
      · exact (piu_list (pv 5))
      · exact (blkOk_by (own := [("_law_one", 10)]) (by kernel_rfl))
      · exact (fun _ _ _ _ _ => (pg_name (i := 10) sc_law_chosen.nd rfl (by first | exact Or.inl rfl | exact Or.inr rfl)))
      · exact (fun _ _ _ _ _ => pts_nil)
      · exact (fun _ _ _ _ _ => (pe_ix (ix_tupK K) (pv 10) pe_int (fun _ _ => rfl)))) rfl))) (fun _ _ _ _ _ => (pv 9))) (pa_cons (pe_ix (ix_listK K) (pv 3) pe_int (fun _ _ => rfl)) pa_nil))))
      (pss_cons (ps_set (i := 8) sc_law_chosen.nd rfl (by first | exact Or.inl rfl | exact Or.inr rfl) (pe_callB (call_min2 rfl) rfl T.n_min boot_min (pa_cons pe_int (pa_cons (pe_op op_add (pv 4) (pe_ix (ix_listK K) (pe_lst (pa_cons pe_int (pa_cons pe_int (pa_cons pe_int (pa_cons pe_int (pa_cons pe_int pa_nil)))))) (pe_op op_mod (pe_ix (ix_listK K) (pv 3) pe_int (fun _ _ => rfl)) pe_int) (fun _ _ => rfl))) pa_nil))))
      (pss_one (ps_if (pt_cmp (pc_notN (pv 7))) (pss_one (ps_ret (pe_tup (pa_cons pe_str (pa_cons (pv 7) (pa_cons (pe_op op_add pe_int (pe_op op_mod (pe_ix (ix_listK K) (pv 3) pe_int (fun _ _ => rfl)) (pv 2))) (pa_cons (pv 8) (pa_cons (pe_callB (call_min2 rfl) rfl T.n_min boot_min (pa_cons pe_int (pa_cons (pe_op op_add (pe_op op_add (pv 8) pe_int) (pe_op op_mod (pe_ix (ix_listK K) (pv 3) pe_int (fun _ _ => rfl)) pe_int)) pa_nil))) (pa_cons (pe_cu (g_law_chance T) (hr.mono (by decide)) hw (fun _ => hh rfl) rfl (pa_cons (pe_slice (sl_listK K) (pv 3) (po_some pe_int) po_none) pa_nil)) pa_nil))))))))) pss_nil)))) pss_nil)
      (pss_cons (ps_if (pt_cmpR (op_eq) (pv 6) pe_int (nomark _)) (pss_one (ps_ret (pe_tup (pa_cons pe_str (pa_cons (pe_cu (g_law_pick T) (hr.mono (by decide)) hw (fun _ => hh rfl) rfl (pa_cons (pe_lcU hw sc_law_chosen.nd (piu_list (pv 5)) (blkOk_by (own := [("_law_one", 10)]) (by kernel_rfl)) (fun _ _ _ _ _ => (pg_name (i := 10) sc_law_chosen.nd rfl (by first | exact Or.inl rfl | exact Or.inr rfl))) (fun _ _ _ _ _ => (pts_one (pt_cmpR (op_ne) (pe_ix (ix_tupK K) (pe_ix (ix_tupK K) (pv 10) pe_int (fun _ _ => rfl)) pe_int (fun _ _ => rfl)) pe_str (nomark _)))) (fun _ _ _ _ _ => (pe_ix (ix_tupK K) (pv 10) pe_int (fun _ _ => rfl)))) (pa_cons (pe_ix (ix_listK K) (pv 3) pe_int (fun _ _ => rfl)) pa_nil))) pa_nil))))) pss_nil)
      (pss_cons (ps_if (pt_cmpR (op_eq) (pv 6) pe_int (nomark _)) (pss_one (ps_ret (pe_tup (pa_cons pe_str (pa_cons (pe_cu (g_law_pick T) (hr.mono (by decide)) hw (fun _ => hh rfl) rfl (pa_cons (pe_lcU hw sc_law_chosen.nd (piu_list (pv 5)) (blkOk_by (own := [("_law_one", 10)]) (by kernel_rfl)) (fun _ _ _ _ _ => (pg_name (i := 10) sc_law_chosen.nd rfl (by first | exact Or.inl rfl | exact Or.inr rfl))) (fun _ _ _ _ _ => (pts_one (PW.pt (pw_and (pt_cmpR (op_eq) (pe_ix (ix_tupK K) (pe_ix (ix_tupK K) (pv 10) pe_int (fun _ _ => rfl)) pe_int (fun _ _ => rfl)) pe_str (nomark _)) (pw_and1 (pt_cmpR (op_eq) (pe_ix (ix_tupK K) (pe_ix (ix_tupK K) (pv 10) pe_int (fun _ _ => rfl)) pe_int (fun _ _ => rfl)) (pv 4) (nomark _))))))) (fun _ _ _ _ _ => (pe_ix (ix_tupK K) (pv 10) pe_int (fun _ _ => rfl)))) (pa_cons (pe_ix (ix_listK K) (pv 3) pe_int (fun _ _ => rfl)) pa_nil))) pa_nil))))) pss_nil)
      (pss_cons (ps_if (pt_cmpR (op_eq) (pv 6) pe_int (nomark _)) (pss_one (ps_ret (pe_tup (pa_cons pe_str (pa_cons (pe_cu (g_law_pick T) (hr.mono (by decide)) hw (fun _ => hh rfl) rfl (pa_cons (pe_lcU hw sc_law_chosen.nd (piu_list (pv 5)) (blkOk_by (own := [("_law_one", 10)]) (by kernel_rfl)) (fun _ _ _ _ _ => (pg_name (i := 10) sc_law_chosen.nd rfl (by first | exact Or.inl rfl | exact Or.inr rfl))) (fun _ _ _ _ _ => (pts_one (pt_cmpR (op_eq) (pe_ix (ix_tupK K) (pe_ix (ix_tupK K) (pv 10) pe_int (fun _ _ => rfl)) pe_int (fun _ _ => rfl)) pe_str (nomark _)))) (fun _ _ _ _ _ => (pe_ix (ix_tupK K) (pv 10) pe_int (fun _ _ => rfl)))) (pa_cons (pe_ix (ix_listK K) (pv 3) pe_int (fun _ _ => rfl)) pa_nil))) pa_nil))))) pss_nil)
      (pss_cons (ps_if (PW.pt (pw_or (pt_cmpR (op_lt) (pv 6) pe_int (nomark _)) (pw_or1 (pt_cmpR (op_eq) (pv 4) pe_int (nomark _))))) (pss_one (ps_ret (pe_tup (pa_cons pe_str (pa_cons (pe_cu (g_law_pick T) (hr.mono (by decide)) hw (fun _ => hh rfl) rfl (pa_cons (pe_lcU hw sc_law_chosen.nd (piu_list (pv 5)) (blkOk_by (own := [("_law_one", 10)]) (by kernel_rfl)) (fun _ _ _ _ _ => (pg_name (i := 10) sc_law_chosen.nd rfl (by first | exact Or.inl rfl | exact Or.inr rfl))) (fun _ _ _ _ _ => (pts_one (PW.pt (pw_and (pt_cmpR (op_eq) (pe_ix (ix_tupK K) (pe_ix (ix_tupK K) (pv 10) pe_int (fun _ _ => rfl)) pe_int (fun _ _ => rfl)) pe_str (nomark _)) (pw_and1 (pt_cmpR (op_eq) (pe_ix (ix_tupK K) (pe_ix (ix_tupK K) (pv 10) pe_int (fun _ _ => rfl)) pe_int (fun _ _ => rfl)) (pv 4) (nomark _))))))) (fun _ _ _ _ _ => (pe_ix (ix_tupK K) (pv 10) pe_int (fun _ _ => rfl)))) (pa_cons (pe_ix (ix_listK K) (pv 3) pe_int (fun _ _ => rfl)) pa_nil))) pa_nil))))) pss_nil)
      (pss_one (ps_ret (pe_tup (pa_cons pe_str (pa_cons pe_str pa_nil))))))))))))), ?_⟩)⟩
  · obtain ⟨al, nms, B, n, b, pn, px, kinds, xs, rfl, _⟩ := h
    rfl
  · obtain ⟨al, nms, B, n, b, pn, px, kinds, xs, rfl, h1, h2, h3, h4, h5, h6, h7, h8, h9, h10, h11, q⟩ := h
    simp only [a_tVar, a_tC, a_tOp, a_tUn, a_rI, a_rI0, a_rU, a_rEq, a_rNe, a_tTest, a_tB, a_tIsN, a_tNotN, a_tChain, a_tAnd, a_tOr, a_tNot, a_tAndV, a_tOrV, a_tNotV, a_tYes, a_tNext, a_tSeq, a_tCont, a_tBreak, a_tDrop, a_tRet, a_tIfS, a_tNever, a_gName, a_gNil, a_gCons, a_gTup, a_tAsg, a_tNil, a_tCons, a_tTup, a_tLst, a_tCB, a_tCU, a_tMU, a_tFld, a_sFld, a_tSl, a_tNoPart, a_tPart, a_rSlL, a_rSlT, a_rIxL, a_rIxT, a_rCat, a_rRep, a_rCatT, a_tDGet, a_tDIn, a_tDNotIn, a_sDPut, a_tDPop1, a_tDNewK, a_tBM, a_rAppend, a_rExtend, a_iList, a_iEnum, a_iRng1, a_iRng2, a_iVals, a_iItems, a_iRng3, a_iStr, a_tMX, a_tXf, a_wAs, a_tRaise, a_tVeI, a_tOst, a_tMkO, a_tMake, a_rSum, a_rIsi, a_tChain3, a_tAugS, a_rGetL, a_rPutL, a_ipI, a_rSet, a_tCKw, a_rMinD, a_rMin, a_rIxS, a_rSlS, a_iTup, a_rIn, a_rEqD, a_rNeD, upd_same, HO.lst.injEq, HO.tup.injEq, HO.dK.injEq, HO.frz.injEq, a_s0, a_s1, a_s2, a_s3, a_s4, a_s5, a_s6, a_s8, a_scal, a_scals, a_tFor, a_tLc, a_tWhile, a_wipe0, a_wipe1, k_cxU, w_cxU, k_blk, w_blk, and_assoc, exists_and_left, exists_eq_left, exists_eq_left', exists_eq_right, exists_eq, exists_const, List.getElem?_cons_zero, List.getElem?_cons_succ, List.set_cons_zero, List.set_cons_succ, Option.some.injEq, V.int.injEq, V.bl.injEq, V.ref.injEq, V.str.injEq, List.cons.injEq, and_true, true_and, List.cons_append, List.nil_append, List.append_nil, L2.start, List.map_cons, List.map_nil, List.length_cons, List.length_nil, List.replicate, Nat.sub_self, Nat.reduceSub, Nat.reduceAdd, Nat.zero_add, if_true, if_false, Bool.false_eq_true, Bool.true_eq_false, reduceIte, decide_eq_true_eq, Bool.not_eq_true', decide_eq_false_iff_not]
    obtain ⟨dx, hi⟩ := h3.ins
    have nd := h2.pre.good.nd
    have el := es_le h2.pre
    have al15 := h1.len
    obtain ⟨x0, e0⟩ := at_IL (ns := xs) (k := 0) (by decide) (by omega)
    obtain ⟨x1, e1⟩ := at_IL (ns := xs) (k := 1) (by decide) (by omega)
    obtain ⟨x2, e2⟩ := at_IL (ns := xs) (k := 2) (by decide) (by omega)
    obtain ⟨x3, e3⟩ := at_IL (ns := xs) (k := 3) (by decide) (by omega)
    obtain ⟨x4, e4⟩ := at_IL (ns := xs) (k := 4) (by decide) (by omega)
    refine ⟨_, _, hi, rfl, B, n, b, rfl, h3, ?_⟩
    refine ⟨_, _, hi, rfl, B, n, b, rfl, h3, fun p1 n1 => ?_⟩
    have s1 := (Same.rfl' (H := H)).new n1 (o := .lst ((keysE b.es).map V.str))
    have g1 : upd H p1 (.lst ((keysE b.es).map V.str)) p1 = some (.lst ((keysE b.es).map V.str)) := upd_same
    generalize upd H p1 (.lst ((keysE b.es).map V.str)) = H1 at *
    refine ⟨p1, rfl, ⟨_, SqL.of g1⟩, fun D hD => ?_⟩
    refine lc_ex (walk_list (xs := (keysE b.es).map V.str)) hD (fun i H' acc => Paired (StAt K H') acc (b.es.take i)) .nil (fun _ s => SqL.of (s _ _ g1)) ?_ ?_
    · rintro i y H3 H4 acc hi' s hD3 pa ⟨rfl, e⟩
      unfold keysE at e
      rw [List.getElem?_map, List.getElem?_map] at e
      cases ex : b.es[i]? with
      | none => rw [ex] at e; cases e
      | some pr =>
      rw [ex] at e
      cases e
      have hm := List.mem_of_getElem? ex
      have hg : getE b.es pr.1 = some pr.2 := mem_getE nd hm
      have b3 := h3.same (s1.tr s)
      obtain ⟨dx3, hi3⟩ := b3.ins
      have hz : pr.1 ≠ "zz" := fun e => h4 (by rw [show ZZ = pr.1 from e.symm]; exact List.mem_map.mpr ⟨pr, hm, rfl⟩)
      have al9 := Paired.length pa
      rw [List.length_take] at al9
      simp only [a_tVar, a_tC, a_tOp, a_tUn, a_rI, a_rI0, a_rU, a_rEq, a_rNe, a_tTest, a_tB, a_tIsN, a_tNotN, a_tChain, a_tAnd, a_tOr, a_tNot, a_tAndV, a_tOrV, a_tNotV, a_tYes, a_tNext, a_tSeq, a_tCont, a_tBreak, a_tDrop, a_tRet, a_tIfS, a_tNever, a_gName, a_gNil, a_gCons, a_gTup, a_tAsg, a_tNil, a_tCons, a_tTup, a_tLst, a_tCB, a_tCU, a_tMU, a_tFld, a_sFld, a_tSl, a_tNoPart, a_tPart, a_rSlL, a_rSlT, a_rIxL, a_rIxT, a_rCat, a_rRep, a_rCatT, a_tDGet, a_tDIn, a_tDNotIn, a_sDPut, a_tDPop1, a_tDNewK, a_tBM, a_rAppend, a_rExtend, a_iList, a_iEnum, a_iRng1, a_iRng2, a_iVals, a_iItems, a_iRng3, a_iStr, a_tMX, a_tXf, a_wAs, a_tRaise, a_tVeI, a_tOst, a_tMkO, a_tMake, a_rSum, a_rIsi, a_tChain3, a_tAugS, a_rGetL, a_rPutL, a_ipI, a_rSet, a_tCKw, a_rMinD, a_rMin, a_rIxS, a_rSlS, a_iTup, a_rIn, a_rEqD, a_rNeD, upd_same, HO.lst.injEq, HO.tup.injEq, HO.dK.injEq, HO.frz.injEq, a_s0, a_s1, a_s2, a_s3, a_s4, a_s5, a_s6, a_s8, a_scal, a_scals, a_tFor, a_tLc, a_tWhile, a_wipe0, a_wipe1, k_cxU, w_cxU, k_blk, w_blk, and_assoc, exists_and_left, exists_eq_left, exists_eq_left', exists_eq_right, exists_eq, exists_const, List.getElem?_cons_zero, List.getElem?_cons_succ, List.set_cons_zero, List.set_cons_succ, Option.some.injEq, V.int.injEq, V.bl.injEq, V.ref.injEq, V.str.injEq, List.cons.injEq, and_true, true_and, List.cons_append, List.nil_append, List.append_nil, L2.start, List.map_cons, List.map_nil, List.length_cons, List.length_nil, List.replicate, Nat.sub_self, Nat.reduceSub, Nat.reduceAdd, Nat.zero_add, if_true, if_false, Bool.false_eq_true, Bool.true_eq_false, reduceIte, decide_eq_true_eq, Bool.not_eq_true', decide_eq_false_iff_not]
      rw [if_pos hz]
      refine ⟨_, _, hi3, rfl, B, n, b, pr.1, pr.2, rfl, b3, hg, fun v hv => fun t nt => ?_⟩
      have g3 := get_new hD3 nt (o := .tup [.str pr.1, v])
      have s3 := (Same.rfl' (H := H4)).new nt (o := .tup [.str pr.1, v])
      have tp := tups_put (o := .lst (acc ++ [.ref t])) g3 (fun _ z => nomatch z)
      refine ⟨acc, g3, szl _ (by omega), (s.tr s3).put hD, ?_⟩
      rw [take_snoc ex]
      exact paired_snoc (Paired.mapP pa fun v' p' z => z.keep (s3.tups.tr tp)) ⟨t, v, rfl, .inl (tp _ _ upd_same), hv.keep (s3.tups.tr tp)⟩
    rintro H2 st s2 g2 ps
    rw [List.length_map, show (keysE b.es).length = b.es.length by unfold keysE; rw [List.length_map], List.take_length] at ps
    have s12 := s1.tr s2
    have gx := s12 _ _ h9
    have gn := s12 _ _ h5
    have w0 : 0 ≤ x0 % 16 := Int.emod_nonneg _ (by decide)
    have w9 : x0 % 16 < 16 := Int.emod_lt_of_pos _ (by decide)
    refine ⟨_, SqL.of gx, _, e0, _, rfl, by decide, ?_⟩
    by_cases c0 : x0 % 16 < 7
    · rw [if_pos c0]
      refine ⟨⟨_, SqL.of gn⟩, fun D1 nD1 => ?_⟩
      obtain ⟨ac, ha⟩ : ∃ f : Nat → List V, ∀ i, f i = ((nms.take i).filter fun n => !decide (n ∈ keysE b.es)).map V.str := ⟨_, fun _ => rfl⟩
      refine lc_go (walk_list (xs := nms.map V.str)) nD1 ac (ha 0) (fun _ s => SqL.of (s _ _ gn)) ?_ ?_
      · rintro i y H3 H4 hi' s hD' ⟨rfl, e⟩
        rw [List.getElem?_map] at e
        cases ex : nms[i]? with
        | none => rw [ex] at e; cases e
        | some x =>
        rw [ex] at e
        cases e
        have ec : ac (i + 1) = ac i ++ (if x ∈ keysE b.es then [] else [V.str x]) := by
          rw [ha, ha, take_snoc ex, List.filter_append, List.map_append, List.filter_cons]
          by_cases z : x ∈ keysE b.es
          · rw [decide_eq_true z, if_neg (fun q => Bool.noConfusion q), if_pos z]; rfl
          · rw [decide_eq_false z, if_pos (by rfl), if_neg z]; rfl
        simp only [a_tVar, a_tC, a_tOp, a_tUn, a_rI, a_rI0, a_rU, a_rEq, a_rNe, a_tTest, a_tB, a_tIsN, a_tNotN, a_tChain, a_tAnd, a_tOr, a_tNot, a_tAndV, a_tOrV, a_tNotV, a_tYes, a_tNext, a_tSeq, a_tCont, a_tBreak, a_tDrop, a_tRet, a_tIfS, a_tNever, a_gName, a_gNil, a_gCons, a_gTup, a_tAsg, a_tNil, a_tCons, a_tTup, a_tLst, a_tCB, a_tCU, a_tMU, a_tFld, a_sFld, a_tSl, a_tNoPart, a_tPart, a_rSlL, a_rSlT, a_rIxL, a_rIxT, a_rCat, a_rRep, a_rCatT, a_tDGet, a_tDIn, a_tDNotIn, a_sDPut, a_tDPop1, a_tDNewK, a_tBM, a_rAppend, a_rExtend, a_iList, a_iEnum, a_iRng1, a_iRng2, a_iVals, a_iItems, a_iRng3, a_iStr, a_tMX, a_tXf, a_wAs, a_tRaise, a_tVeI, a_tOst, a_tMkO, a_tMake, a_rSum, a_rIsi, a_tChain3, a_tAugS, a_rGetL, a_rPutL, a_ipI, a_rSet, a_tCKw, a_rMinD, a_rMin, a_rIxS, a_rSlS, a_iTup, a_rIn, a_rEqD, a_rNeD, upd_same, HO.lst.injEq, HO.tup.injEq, HO.dK.injEq, HO.frz.injEq, a_s0, a_s1, a_s2, a_s3, a_s4, a_s5, a_s6, a_s8, a_scal, a_scals, a_tFor, a_tLc, a_tWhile, a_wipe0, a_wipe1, k_cxU, w_cxU, k_blk, w_blk, and_assoc, exists_and_left, exists_eq_left, exists_eq_left', exists_eq_right, exists_eq, exists_const, List.getElem?_cons_zero, List.getElem?_cons_succ, List.set_cons_zero, List.set_cons_succ, Option.some.injEq, V.int.injEq, V.bl.injEq, V.ref.injEq, V.str.injEq, List.cons.injEq, and_true, true_and, List.cons_append, List.nil_append, List.append_nil, L2.start, List.map_cons, List.map_nil, List.length_cons, List.length_nil, List.replicate, Nat.sub_self, Nat.reduceSub, Nat.reduceAdd, Nat.zero_add, if_true, if_false, Bool.false_eq_true, Bool.true_eq_false, reduceIte, decide_eq_true_eq, Bool.not_eq_true', decide_eq_false_iff_not]
        refine ⟨⟨_, SqL.of (s _ _ g2)⟩, fun D2 nD2 => ?_⟩
        refine stand_go (q2 := fun _ => true) nD2 (s _ _ g2) (Paired.mapP ps fun _ _ z => z.keep s.tups) (by omega) (by simp) (fun H' a ev pr R hm s t1 hE r => r) (fun H5 s5 g5 => ?_)
        have eK : (b.es.filter fun _ => true).map (·.1) = keysE b.es := by
          rw [List.filter_eq_self.mpr fun _ _ => rfl]
          rfl
        rw [eK] at g5
        refine ⟨_, .inl (SqL.of g5), rfl, flat_strs _, ?_⟩
        rw [inV_strs]
        have hD5 := s5 _ _ hD'
        by_cases z : x ∈ keysE b.es
        · rw [if_pos z, List.append_nil] at ec
          rw [decide_eq_true z, if_neg (fun q => Bool.noConfusion q)]
          exact leafN hD5 (s.tr s5) ec
        · rw [if_neg z] at ec
          rw [decide_eq_false z, if_pos rfl]
          refine leaf nD1 hD5 (s.tr s5) (szl _ ?_) ec
          rw [ha, List.length_map]
          have h8 := List.length_filter_le (fun n => !decide (n ∈ keysE b.es)) (nms.take i)
          have h9 := h6.len
          rw [List.length_take] at h8
          omega
      · intro H3 s3 hD3
        rw [ha, List.length_map, List.take_length] at hD3
        have s13 := s12.tr s3
        have v0 : 0 ≤ x3 % 5 := Int.emod_nonneg _ (by decide)
        have v5 : x3 % 5 < 5 := Int.emod_lt_of_pos _ (by decide)
        obtain ⟨dl, ed, d0, d4⟩ : ∃ dl : Int, atI [V.int 0, V.int 0, V.int 1, V.int 2, V.int 4] (x3 % 5) = some (.int dl) ∧ 0 ≤ dl ∧ dl ≤ 4 := by
          have : x3 % 5 = 0 ∨ x3 % 5 = 1 ∨ x3 % 5 = 2 ∨ x3 % 5 = 3 ∨ x3 % 5 = 4 := by omega
          rcases this with z | z | z | z | z <;> rw [z]
          · exact ⟨0, atI_n 0 rfl rfl, by decide, by decide⟩
          · exact ⟨0, atI_n 1 rfl rfl, by decide, by decide⟩
          · exact ⟨1, atI_n 2 rfl rfl, by decide, by decide⟩
          · exact ⟨2, atI_n 3 rfl rfl, by decide, by decide⟩
          · exact ⟨4, atI_n 4 rfl rfl, by decide, by decide⟩
        refine ⟨_, SqL.of (s3 _ _ gx), _, e1, D1, _, x1, rfl, hD3, fun n hn => nm_ok (h6.ok n (List.mem_filter.mp hn).1), fun H5 s5 => ⟨fun _ => fun p nr => ?_, fun nm hn => fun p nr => ?_⟩⟩
        · have s7 := s5.new nr (o := .lst [.int 0, .int 0, .int 1, .int 2, .int 4])
          have g7 : upd H5 p (.lst [.int 0, .int 0, .int 1, .int 2, .int 4]) p = some (.lst [.int 0, .int 0, .int 1, .int 2, .int 4]) := upd_same
          generalize upd H5 p (.lst [.int 0, .int 0, .int 1, .int 2, .int 4]) = H7 at *
          have s27 := s3.tr s7
          have sH7 := s12.tr s27
          refine ⟨_, SqL.of (s27 _ _ gx), _, e3, _, rfl, by decide, _, SqL.of g7, _, ed, _, rfl, _, rfl, ?_⟩
          rw [if_neg (fun z => z rfl), if_neg (by omega), if_neg (by omega), if_neg (by omega), if_pos (by omega)]
          refine ⟨⟨_, SqL.of (s27 _ _ g2)⟩, fun D1 nD1 => ?_⟩
          refine stand_go (q2 := fun p => decide (p.2.word = .taken) && decide (p.2.first = b.ev)) nD1 (s27 _ _ g2) (Paired.mapP ps fun _ _ z => z.keep s27.tups) (by omega) (by simp) (fun H' a ev pr R hm s t1 hE r => ?_) (fun H5 s5 g5 => ?_)
          · obtain ⟨a5, c5, rfl, t5, t6⟩ := hE
            simp only [a_tVar, a_tC, a_tOp, a_tUn, a_rI, a_rI0, a_rU, a_rEq, a_rNe, a_tTest, a_tB, a_tIsN, a_tNotN, a_tChain, a_tAnd, a_tOr, a_tNot, a_tAndV, a_tOrV, a_tNotV, a_tYes, a_tNext, a_tSeq, a_tCont, a_tBreak, a_tDrop, a_tRet, a_tIfS, a_tNever, a_gName, a_gNil, a_gCons, a_gTup, a_tAsg, a_tNil, a_tCons, a_tTup, a_tLst, a_tCB, a_tCU, a_tMU, a_tFld, a_sFld, a_tSl, a_tNoPart, a_tPart, a_rSlL, a_rSlT, a_rIxL, a_rIxT, a_rCat, a_rRep, a_rCatT, a_tDGet, a_tDIn, a_tDNotIn, a_sDPut, a_tDPop1, a_tDNewK, a_tBM, a_rAppend, a_rExtend, a_iList, a_iEnum, a_iRng1, a_iRng2, a_iVals, a_iItems, a_iRng3, a_iStr, a_tMX, a_tXf, a_wAs, a_tRaise, a_tVeI, a_tOst, a_tMkO, a_tMake, a_rSum, a_rIsi, a_tChain3, a_tAugS, a_rGetL, a_rPutL, a_ipI, a_rSet, a_tCKw, a_rMinD, a_rMin, a_rIxS, a_rSlS, a_iTup, a_rIn, a_rEqD, a_rNeD, upd_same, HO.lst.injEq, HO.tup.injEq, HO.dK.injEq, HO.frz.injEq, a_s0, a_s1, a_s2, a_s3, a_s4, a_s5, a_s6, a_s8, a_scal, a_scals, a_tFor, a_tLc, a_tWhile, a_wipe0, a_wipe1, k_cxU, w_cxU, k_blk, w_blk, and_assoc, exists_and_left, exists_eq_left, exists_eq_left', exists_eq_right, exists_eq, exists_const, List.getElem?_cons_zero, List.getElem?_cons_succ, List.set_cons_zero, List.set_cons_succ, Option.some.injEq, V.int.injEq, V.bl.injEq, V.ref.injEq, V.str.injEq, List.cons.injEq, and_true, true_and, List.cons_append, List.nil_append, List.append_nil, L2.start, List.map_cons, List.map_nil, List.length_cons, List.length_nil, List.replicate, Nat.sub_self, Nat.reduceSub, Nat.reduceAdd, Nat.zero_add, if_true, if_false, Bool.false_eq_true, Bool.true_eq_false, reduceIte, decide_eq_true_eq, Bool.not_eq_true', decide_eq_false_iff_not]
            refine ⟨_, t1.sq, .ref a5, atI_n 1 rfl rfl, a5, rfl, _, t5.sq, .str (wordS pr.2.word), atI_n 0 rfl rfl, rfl, ?_⟩
            by_cases z : pr.2.word = .taken
            · rw [if_pos (by rw [z]; rfl)]
              rw [decide_eq_true z, Bool.true_and] at r
              refine ⟨_, t1.sq, .ref a5, atI_n 1 rfl rfl, a5, rfl, _, t5.sq, .int pr.2.first, atI_n 2 rfl rfl, rfl, ?_⟩
              rw [show decide (V.int pr.2.first = V.int b.ev) = decide (pr.2.first = b.ev) by simp]
              exact r
            · rw [if_neg (fun q => z ((wordS_t' _).mp (V.str.inj q)))]
              rw [decide_eq_false z, Bool.false_and] at r
              exact r
          · refine ⟨_, SqL.of (s5 _ _ (s27 _ _ gx)), _, e1, D1, _, x1, rfl, g5, fun n hn => nm_ok (h1.ok n (h2.pre.al n (sub_keys n hn))), fun H6 s6 => ⟨fun _ => fun r nr => ?_, fun nm hn => fun r nr => ?_⟩⟩
            · exact q _ r .non (((sH7.tr s5).tr s6).new nr) ⟨"come", .inl upd_same⟩ trivial (fun z => nomatch z)
            · obtain ⟨e, he, hq⟩ := mem_by hn
              exact q _ r (.come nm) (((sH7.tr s5).tr s6).new nr) (.inl upd_same) ⟨e, he, by simp at hq; exact hq.1, by simp at hq; exact hq.2⟩ (fun z => h4 (by rw [← Option.some.inj z]; exact List.mem_map.mpr ⟨_, he, rfl⟩))
        · have s7 := s5.new nr (o := .lst [.int 0, .int 0, .int 1, .int 2, .int 4])
          have g7 : upd H5 p (.lst [.int 0, .int 0, .int 1, .int 2, .int 4]) p = some (.lst [.int 0, .int 0, .int 1, .int 2, .int 4]) := upd_same
          generalize upd H5 p (.lst [.int 0, .int 0, .int 1, .int 2, .int 4]) = H7 at *
          have s27 := s3.tr s7
          have sH7 := s12.tr s27
          refine ⟨_, SqL.of (s27 _ _ gx), _, e3, _, rfl, by decide, _, SqL.of g7, _, ed, _, rfl, _, rfl, ?_⟩
          rw [if_pos (show ¬ V.str nm = V.non from fun z => V.noConfusion z)]
          have kp : 0 < kinds := by rw [h8]; have := h2.pre.l1; omega
          refine ⟨_, SqL.of (s27 _ _ gx), _, e2, _, rfl, kp, _, SqL.of (s27 _ _ gx), _, e4, _, rfl, by decide, _, SqL.of (s27 _ _ gx), fun p8 n8 => ?_⟩
          have gc : upd H7 p8 (.lst (cutV (IL xs) (some 5) none)) p8 = some (.lst (IL (xs.drop 5))) := by
            rw [upd_same, cutV_drop _ _ (by decide)]
            show _ = some (HO.lst ((xs.drop 5).map V.int))
            rw [List.map_drop]
            rfl
          have s8 := sH7.new n8 (o := .lst (cutV (IL xs) (some 5) none))
          refine ⟨p8, xs.drop 5, rfl, SqL.of gc, by rw [List.length_drop]; omega, fun x hx => h11 x (List.mem_of_mem_drop hx), fun H9 cc ch s9 tc okc gcd => fun r nr => ?_⟩
          have m0 : 0 ≤ x2 % kinds := Int.emod_nonneg _ (by omega)
          have m1 : x2 % kinds < kinds := Int.emod_lt_of_pos _ kp
          have v40 : 0 ≤ x4 % 5 := Int.emod_nonneg _ (by decide)
          have hnm := List.mem_filter.mp hn
          have evs := h2.pre.e0
          have ev9 := h2.pre.e9
          have hz : nm ≠ ZZ := fun z => h6.zz (show ZZ ∈ nms from z ▸ hnm.1)
          have tr := Same.rfl'.new nr (H := H9) (o := .tup [.str "wish", .str nm, .int (1 + x2 % kinds), .int (if b.ev + dl < 399 then b.ev + dl else 399), .int (if (if b.ev + dl < 399 then b.ev + dl else 399) + 1 + x4 % 5 < 400 then (if b.ev + dl < 399 then b.ev + dl else 399) + 1 + x4 % 5 else 400), .ref cc])
          refine q _ r (.wish nm (1 + x2 % kinds) (if b.ev + dl < 399 then b.ev + dl else 399) (if (if b.ev + dl < 399 then b.ev + dl else 399) + 1 + x4 % 5 < 400 then (if b.ev + dl < 399 then b.ev + dl else 399) + 1 + x4 % 5 else 400) ch) ((s8.tr s9).tr tr) ⟨cc, .inl upd_same, tc.keep tr.tups, gcd⟩ ⟨h7 nm hnm.1, by simpa using hnm.2, ⟨?_, ?_, ?_, ?_, ?_, okc⟩, ?_⟩ (fun z => hz (Option.some.inj z))
          · show 1 ≤ 1 + x2 % kinds
            omega
          · show 1 + x2 % kinds ≤ (b.ladder.length : Int)
            omega
          · show 0 ≤ (if b.ev + dl < 399 then b.ev + dl else 399)
            split <;> omega
          · show (if b.ev + dl < 399 then b.ev + dl else 399) < (if (if b.ev + dl < 399 then b.ev + dl else 399) + 1 + x4 % 5 < 400 then (if b.ev + dl < 399 then b.ev + dl else 399) + 1 + x4 % 5 else 400)
            split <;> split <;> omega
          · show (if (if b.ev + dl < 399 then b.ev + dl else 399) + 1 + x4 % 5 < 400 then (if b.ev + dl < 399 then b.ev + dl else 399) + 1 + x4 % 5 else 400) ≤ 400
            split <;> omega
          · split <;> omega
    rw [if_neg c0]
    by_cases c7 : x0 % 16 = 7
    · rw [if_pos c7]
      refine ⟨⟨_, SqL.of g2⟩, fun D1 nD1 => ?_⟩
      refine stand_go (q2 := fun p => !decide (p.2.word = .house)) nD1 g2 ps (by omega) (by simp) (fun H' a ev pr R hm s t1 hE r => ?_) (fun H5 s5 g5 => ?_)
      · obtain ⟨a5, c5, rfl, t5, t6⟩ := hE
        simp only [a_tVar, a_tC, a_tOp, a_tUn, a_rI, a_rI0, a_rU, a_rEq, a_rNe, a_tTest, a_tB, a_tIsN, a_tNotN, a_tChain, a_tAnd, a_tOr, a_tNot, a_tAndV, a_tOrV, a_tNotV, a_tYes, a_tNext, a_tSeq, a_tCont, a_tBreak, a_tDrop, a_tRet, a_tIfS, a_tNever, a_gName, a_gNil, a_gCons, a_gTup, a_tAsg, a_tNil, a_tCons, a_tTup, a_tLst, a_tCB, a_tCU, a_tMU, a_tFld, a_sFld, a_tSl, a_tNoPart, a_tPart, a_rSlL, a_rSlT, a_rIxL, a_rIxT, a_rCat, a_rRep, a_rCatT, a_tDGet, a_tDIn, a_tDNotIn, a_sDPut, a_tDPop1, a_tDNewK, a_tBM, a_rAppend, a_rExtend, a_iList, a_iEnum, a_iRng1, a_iRng2, a_iVals, a_iItems, a_iRng3, a_iStr, a_tMX, a_tXf, a_wAs, a_tRaise, a_tVeI, a_tOst, a_tMkO, a_tMake, a_rSum, a_rIsi, a_tChain3, a_tAugS, a_rGetL, a_rPutL, a_ipI, a_rSet, a_tCKw, a_rMinD, a_rMin, a_rIxS, a_rSlS, a_iTup, a_rIn, a_rEqD, a_rNeD, upd_same, HO.lst.injEq, HO.tup.injEq, HO.dK.injEq, HO.frz.injEq, a_s0, a_s1, a_s2, a_s3, a_s4, a_s5, a_s6, a_s8, a_scal, a_scals, a_tFor, a_tLc, a_tWhile, a_wipe0, a_wipe1, k_cxU, w_cxU, k_blk, w_blk, and_assoc, exists_and_left, exists_eq_left, exists_eq_left', exists_eq_right, exists_eq, exists_const, List.getElem?_cons_zero, List.getElem?_cons_succ, List.set_cons_zero, List.set_cons_succ, Option.some.injEq, V.int.injEq, V.bl.injEq, V.ref.injEq, V.str.injEq, List.cons.injEq, and_true, true_and, List.cons_append, List.nil_append, List.append_nil, L2.start, List.map_cons, List.map_nil, List.length_cons, List.length_nil, List.replicate, Nat.sub_self, Nat.reduceSub, Nat.reduceAdd, Nat.zero_add, if_true, if_false, Bool.false_eq_true, Bool.true_eq_false, reduceIte, decide_eq_true_eq, Bool.not_eq_true', decide_eq_false_iff_not]
        refine ⟨_, t1.sq, .ref a5, atI_n 1 rfl rfl, a5, rfl, _, t5.sq, .str (wordS pr.2.word), atI_n 0 rfl rfl, rfl, ?_⟩
        rw [show decide (V.str (wordS pr.2.word) = V.str "house") = decide (pr.2.word = .house) by simp [wordS_h']]
        exact r
      · refine ⟨_, SqL.of (s5 _ _ gx), _, e1, D1, _, x1, rfl, g5, fun n hn => nm_ok (h1.ok n (h2.pre.al n (sub_keys n hn))), fun H6 s6 => ⟨fun _ => fun r nr => ?_, fun nm hn => fun r nr => ?_⟩⟩
        · exact q _ r .non (((s12.tr s5).tr s6).new nr) ⟨"withdraw", .inl upd_same⟩ trivial (fun z => nomatch z)
        · obtain ⟨e, he, hq⟩ := mem_by hn
          exact q _ r (.withdraw nm) (((s12.tr s5).tr s6).new nr) (.inl upd_same) ⟨e, he, by simpa using hq⟩ (fun z => h4 (by rw [← Option.some.inj z]; exact List.mem_map.mpr ⟨_, he, rfl⟩))
    rw [if_neg c7]
    by_cases c8 : x0 % 16 = 8
    · rw [if_pos c8]
      refine ⟨⟨_, SqL.of g2⟩, fun D1 nD1 => ?_⟩
      refine stand_go (q2 := fun p => decide (p.2.word = .taken) && decide (p.2.first = b.ev)) nD1 g2 ps (by omega) (by simp) (fun H' a ev pr R hm s t1 hE r => ?_) (fun H5 s5 g5 => ?_)
      · obtain ⟨a5, c5, rfl, t5, t6⟩ := hE
        simp only [a_tVar, a_tC, a_tOp, a_tUn, a_rI, a_rI0, a_rU, a_rEq, a_rNe, a_tTest, a_tB, a_tIsN, a_tNotN, a_tChain, a_tAnd, a_tOr, a_tNot, a_tAndV, a_tOrV, a_tNotV, a_tYes, a_tNext, a_tSeq, a_tCont, a_tBreak, a_tDrop, a_tRet, a_tIfS, a_tNever, a_gName, a_gNil, a_gCons, a_gTup, a_tAsg, a_tNil, a_tCons, a_tTup, a_tLst, a_tCB, a_tCU, a_tMU, a_tFld, a_sFld, a_tSl, a_tNoPart, a_tPart, a_rSlL, a_rSlT, a_rIxL, a_rIxT, a_rCat, a_rRep, a_rCatT, a_tDGet, a_tDIn, a_tDNotIn, a_sDPut, a_tDPop1, a_tDNewK, a_tBM, a_rAppend, a_rExtend, a_iList, a_iEnum, a_iRng1, a_iRng2, a_iVals, a_iItems, a_iRng3, a_iStr, a_tMX, a_tXf, a_wAs, a_tRaise, a_tVeI, a_tOst, a_tMkO, a_tMake, a_rSum, a_rIsi, a_tChain3, a_tAugS, a_rGetL, a_rPutL, a_ipI, a_rSet, a_tCKw, a_rMinD, a_rMin, a_rIxS, a_rSlS, a_iTup, a_rIn, a_rEqD, a_rNeD, upd_same, HO.lst.injEq, HO.tup.injEq, HO.dK.injEq, HO.frz.injEq, a_s0, a_s1, a_s2, a_s3, a_s4, a_s5, a_s6, a_s8, a_scal, a_scals, a_tFor, a_tLc, a_tWhile, a_wipe0, a_wipe1, k_cxU, w_cxU, k_blk, w_blk, and_assoc, exists_and_left, exists_eq_left, exists_eq_left', exists_eq_right, exists_eq, exists_const, List.getElem?_cons_zero, List.getElem?_cons_succ, List.set_cons_zero, List.set_cons_succ, Option.some.injEq, V.int.injEq, V.bl.injEq, V.ref.injEq, V.str.injEq, List.cons.injEq, and_true, true_and, List.cons_append, List.nil_append, List.append_nil, L2.start, List.map_cons, List.map_nil, List.length_cons, List.length_nil, List.replicate, Nat.sub_self, Nat.reduceSub, Nat.reduceAdd, Nat.zero_add, if_true, if_false, Bool.false_eq_true, Bool.true_eq_false, reduceIte, decide_eq_true_eq, Bool.not_eq_true', decide_eq_false_iff_not]
        refine ⟨_, t1.sq, .ref a5, atI_n 1 rfl rfl, a5, rfl, _, t5.sq, .str (wordS pr.2.word), atI_n 0 rfl rfl, rfl, ?_⟩
        by_cases z : pr.2.word = .taken
        · rw [if_pos (by rw [z]; rfl)]
          rw [decide_eq_true z, Bool.true_and] at r
          refine ⟨_, t1.sq, .ref a5, atI_n 1 rfl rfl, a5, rfl, _, t5.sq, .int pr.2.first, atI_n 2 rfl rfl, rfl, ?_⟩
          rw [show decide (V.int pr.2.first = V.int b.ev) = decide (pr.2.first = b.ev) by simp]
          exact r
        · rw [if_neg (fun q => z ((wordS_t' _).mp (V.str.inj q)))]
          rw [decide_eq_false z, Bool.false_and] at r
          exact r
      · refine ⟨_, SqL.of (s5 _ _ gx), _, e1, D1, _, x1, rfl, g5, fun n hn => nm_ok (h1.ok n (h2.pre.al n (sub_keys n hn))), fun H6 s6 => ⟨fun _ => fun r nr => ?_, fun nm hn => fun r nr => ?_⟩⟩
        · exact q _ r .non (((s12.tr s5).tr s6).new nr) ⟨"absent", .inl upd_same⟩ trivial (fun z => nomatch z)
        · obtain ⟨e, he, hq⟩ := mem_by hn
          exact q _ r (.absent nm) (((s12.tr s5).tr s6).new nr) (.inl upd_same) ⟨e, he, by simp at hq; exact hq.1, by simp at hq; exact hq.2⟩ (fun z => h4 (by rw [← Option.some.inj z]; exact List.mem_map.mpr ⟨_, he, rfl⟩))
    rw [if_neg c8]
    by_cases c9 : x0 % 16 = 9
    · rw [if_pos c9]
      refine ⟨⟨_, SqL.of g2⟩, fun D1 nD1 => ?_⟩
      refine stand_go (q2 := fun p => decide (p.2.word = .house)) nD1 g2 ps (by omega) (by simp) (fun H' a ev pr R hm s t1 hE r => ?_) (fun H5 s5 g5 => ?_)
      · obtain ⟨a5, c5, rfl, t5, t6⟩ := hE
        simp only [a_tVar, a_tC, a_tOp, a_tUn, a_rI, a_rI0, a_rU, a_rEq, a_rNe, a_tTest, a_tB, a_tIsN, a_tNotN, a_tChain, a_tAnd, a_tOr, a_tNot, a_tAndV, a_tOrV, a_tNotV, a_tYes, a_tNext, a_tSeq, a_tCont, a_tBreak, a_tDrop, a_tRet, a_tIfS, a_tNever, a_gName, a_gNil, a_gCons, a_gTup, a_tAsg, a_tNil, a_tCons, a_tTup, a_tLst, a_tCB, a_tCU, a_tMU, a_tFld, a_sFld, a_tSl, a_tNoPart, a_tPart, a_rSlL, a_rSlT, a_rIxL, a_rIxT, a_rCat, a_rRep, a_rCatT, a_tDGet, a_tDIn, a_tDNotIn, a_sDPut, a_tDPop1, a_tDNewK, a_tBM, a_rAppend, a_rExtend, a_iList, a_iEnum, a_iRng1, a_iRng2, a_iVals, a_iItems, a_iRng3, a_iStr, a_tMX, a_tXf, a_wAs, a_tRaise, a_tVeI, a_tOst, a_tMkO, a_tMake, a_rSum, a_rIsi, a_tChain3, a_tAugS, a_rGetL, a_rPutL, a_ipI, a_rSet, a_tCKw, a_rMinD, a_rMin, a_rIxS, a_rSlS, a_iTup, a_rIn, a_rEqD, a_rNeD, upd_same, HO.lst.injEq, HO.tup.injEq, HO.dK.injEq, HO.frz.injEq, a_s0, a_s1, a_s2, a_s3, a_s4, a_s5, a_s6, a_s8, a_scal, a_scals, a_tFor, a_tLc, a_tWhile, a_wipe0, a_wipe1, k_cxU, w_cxU, k_blk, w_blk, and_assoc, exists_and_left, exists_eq_left, exists_eq_left', exists_eq_right, exists_eq, exists_const, List.getElem?_cons_zero, List.getElem?_cons_succ, List.set_cons_zero, List.set_cons_succ, Option.some.injEq, V.int.injEq, V.bl.injEq, V.ref.injEq, V.str.injEq, List.cons.injEq, and_true, true_and, List.cons_append, List.nil_append, List.append_nil, L2.start, List.map_cons, List.map_nil, List.length_cons, List.length_nil, List.replicate, Nat.sub_self, Nat.reduceSub, Nat.reduceAdd, Nat.zero_add, if_true, if_false, Bool.false_eq_true, Bool.true_eq_false, reduceIte, decide_eq_true_eq, Bool.not_eq_true', decide_eq_false_iff_not]
        refine ⟨_, t1.sq, .ref a5, atI_n 1 rfl rfl, a5, rfl, _, t5.sq, .str (wordS pr.2.word), atI_n 0 rfl rfl, rfl, ?_⟩
        rw [show decide (V.str (wordS pr.2.word) = V.str "house") = decide (pr.2.word = .house) by simp [wordS_h']]
        exact r
      · refine ⟨_, SqL.of (s5 _ _ gx), _, e1, D1, _, x1, rfl, g5, fun n hn => nm_ok (h1.ok n (h2.pre.al n (sub_keys n hn))), fun H6 s6 => ⟨fun _ => fun r nr => ?_, fun nm hn => fun r nr => ?_⟩⟩
        · exact q _ r .non (((s12.tr s5).tr s6).new nr) ⟨"go", .inl upd_same⟩ trivial (fun z => nomatch z)
        · obtain ⟨e, he, hq⟩ := mem_by hn
          exact q _ r (.go nm) (((s12.tr s5).tr s6).new nr) (.inl upd_same) ⟨e, he, by simpa using hq⟩ (fun z => h4 (by rw [← Option.some.inj z]; exact List.mem_map.mpr ⟨_, he, rfl⟩))
    rw [if_neg c9]
    by_cases c13 : x0 % 16 < 13
    · rw [if_pos c13]
      refine ⟨⟨_, SqL.of g2⟩, fun D1 nD1 => ?_⟩
      refine stand_go (q2 := fun p => decide (p.2.word = .taken) && decide (p.2.first = b.ev)) nD1 g2 ps (by omega) (by simp) (fun H' a ev pr R hm s t1 hE r => ?_) (fun H5 s5 g5 => ?_)
      · obtain ⟨a5, c5, rfl, t5, t6⟩ := hE
        simp only [a_tVar, a_tC, a_tOp, a_tUn, a_rI, a_rI0, a_rU, a_rEq, a_rNe, a_tTest, a_tB, a_tIsN, a_tNotN, a_tChain, a_tAnd, a_tOr, a_tNot, a_tAndV, a_tOrV, a_tNotV, a_tYes, a_tNext, a_tSeq, a_tCont, a_tBreak, a_tDrop, a_tRet, a_tIfS, a_tNever, a_gName, a_gNil, a_gCons, a_gTup, a_tAsg, a_tNil, a_tCons, a_tTup, a_tLst, a_tCB, a_tCU, a_tMU, a_tFld, a_sFld, a_tSl, a_tNoPart, a_tPart, a_rSlL, a_rSlT, a_rIxL, a_rIxT, a_rCat, a_rRep, a_rCatT, a_tDGet, a_tDIn, a_tDNotIn, a_sDPut, a_tDPop1, a_tDNewK, a_tBM, a_rAppend, a_rExtend, a_iList, a_iEnum, a_iRng1, a_iRng2, a_iVals, a_iItems, a_iRng3, a_iStr, a_tMX, a_tXf, a_wAs, a_tRaise, a_tVeI, a_tOst, a_tMkO, a_tMake, a_rSum, a_rIsi, a_tChain3, a_tAugS, a_rGetL, a_rPutL, a_ipI, a_rSet, a_tCKw, a_rMinD, a_rMin, a_rIxS, a_rSlS, a_iTup, a_rIn, a_rEqD, a_rNeD, upd_same, HO.lst.injEq, HO.tup.injEq, HO.dK.injEq, HO.frz.injEq, a_s0, a_s1, a_s2, a_s3, a_s4, a_s5, a_s6, a_s8, a_scal, a_scals, a_tFor, a_tLc, a_tWhile, a_wipe0, a_wipe1, k_cxU, w_cxU, k_blk, w_blk, and_assoc, exists_and_left, exists_eq_left, exists_eq_left', exists_eq_right, exists_eq, exists_const, List.getElem?_cons_zero, List.getElem?_cons_succ, List.set_cons_zero, List.set_cons_succ, Option.some.injEq, V.int.injEq, V.bl.injEq, V.ref.injEq, V.str.injEq, List.cons.injEq, and_true, true_and, List.cons_append, List.nil_append, List.append_nil, L2.start, List.map_cons, List.map_nil, List.length_cons, List.length_nil, List.replicate, Nat.sub_self, Nat.reduceSub, Nat.reduceAdd, Nat.zero_add, if_true, if_false, Bool.false_eq_true, Bool.true_eq_false, reduceIte, decide_eq_true_eq, Bool.not_eq_true', decide_eq_false_iff_not]
        refine ⟨_, t1.sq, .ref a5, atI_n 1 rfl rfl, a5, rfl, _, t5.sq, .str (wordS pr.2.word), atI_n 0 rfl rfl, rfl, ?_⟩
        by_cases z : pr.2.word = .taken
        · rw [if_pos (by rw [z]; rfl)]
          rw [decide_eq_true z, Bool.true_and] at r
          refine ⟨_, t1.sq, .ref a5, atI_n 1 rfl rfl, a5, rfl, _, t5.sq, .int pr.2.first, atI_n 2 rfl rfl, rfl, ?_⟩
          rw [show decide (V.int pr.2.first = V.int b.ev) = decide (pr.2.first = b.ev) by simp]
          exact r
        · rw [if_neg (fun q => z ((wordS_t' _).mp (V.str.inj q)))]
          rw [decide_eq_false z, Bool.false_and] at r
          exact r
      · refine ⟨_, SqL.of (s5 _ _ gx), _, e1, D1, _, x1, rfl, g5, fun n hn => nm_ok (h1.ok n (h2.pre.al n (sub_keys n hn))), fun H6 s6 => ⟨fun _ => fun r nr => ?_, fun nm hn => fun r nr => ?_⟩⟩
        · exact q _ r .non (((s12.tr s5).tr s6).new nr) ⟨"come", .inl upd_same⟩ trivial (fun z => nomatch z)
        · obtain ⟨e, he, hq⟩ := mem_by hn
          exact q _ r (.come nm) (((s12.tr s5).tr s6).new nr) (.inl upd_same) ⟨e, he, by simp at hq; exact hq.1, by simp at hq; exact hq.2⟩ (fun z => h4 (by rw [← Option.some.inj z]; exact List.mem_map.mpr ⟨_, he, rfl⟩))
    rw [if_neg c13]
    refine ⟨rfl, ?_⟩
    by_cases c399 : V.int b.ev = V.int 399
    · rw [if_pos c399]
      refine ⟨⟨_, SqL.of g2⟩, fun D1 nD1 => ?_⟩
      refine stand_go (q2 := fun p => decide (p.2.word = .taken) && decide (p.2.first = b.ev)) nD1 g2 ps (by omega) (by simp) (fun H' a ev pr R hm s t1 hE r => ?_) (fun H5 s5 g5 => ?_)
      · obtain ⟨a5, c5, rfl, t5, t6⟩ := hE
        simp only [a_tVar, a_tC, a_tOp, a_tUn, a_rI, a_rI0, a_rU, a_rEq, a_rNe, a_tTest, a_tB, a_tIsN, a_tNotN, a_tChain, a_tAnd, a_tOr, a_tNot, a_tAndV, a_tOrV, a_tNotV, a_tYes, a_tNext, a_tSeq, a_tCont, a_tBreak, a_tDrop, a_tRet, a_tIfS, a_tNever, a_gName, a_gNil, a_gCons, a_gTup, a_tAsg, a_tNil, a_tCons, a_tTup, a_tLst, a_tCB, a_tCU, a_tMU, a_tFld, a_sFld, a_tSl, a_tNoPart, a_tPart, a_rSlL, a_rSlT, a_rIxL, a_rIxT, a_rCat, a_rRep, a_rCatT, a_tDGet, a_tDIn, a_tDNotIn, a_sDPut, a_tDPop1, a_tDNewK, a_tBM, a_rAppend, a_rExtend, a_iList, a_iEnum, a_iRng1, a_iRng2, a_iVals, a_iItems, a_iRng3, a_iStr, a_tMX, a_tXf, a_wAs, a_tRaise, a_tVeI, a_tOst, a_tMkO, a_tMake, a_rSum, a_rIsi, a_tChain3, a_tAugS, a_rGetL, a_rPutL, a_ipI, a_rSet, a_tCKw, a_rMinD, a_rMin, a_rIxS, a_rSlS, a_iTup, a_rIn, a_rEqD, a_rNeD, upd_same, HO.lst.injEq, HO.tup.injEq, HO.dK.injEq, HO.frz.injEq, a_s0, a_s1, a_s2, a_s3, a_s4, a_s5, a_s6, a_s8, a_scal, a_scals, a_tFor, a_tLc, a_tWhile, a_wipe0, a_wipe1, k_cxU, w_cxU, k_blk, w_blk, and_assoc, exists_and_left, exists_eq_left, exists_eq_left', exists_eq_right, exists_eq, exists_const, List.getElem?_cons_zero, List.getElem?_cons_succ, List.set_cons_zero, List.set_cons_succ, Option.some.injEq, V.int.injEq, V.bl.injEq, V.ref.injEq, V.str.injEq, List.cons.injEq, and_true, true_and, List.cons_append, List.nil_append, List.append_nil, L2.start, List.map_cons, List.map_nil, List.length_cons, List.length_nil, List.replicate, Nat.sub_self, Nat.reduceSub, Nat.reduceAdd, Nat.zero_add, if_true, if_false, Bool.false_eq_true, Bool.true_eq_false, reduceIte, decide_eq_true_eq, Bool.not_eq_true', decide_eq_false_iff_not]
        refine ⟨_, t1.sq, .ref a5, atI_n 1 rfl rfl, a5, rfl, _, t5.sq, .str (wordS pr.2.word), atI_n 0 rfl rfl, rfl, ?_⟩
        by_cases z : pr.2.word = .taken
        · rw [if_pos (by rw [z]; rfl)]
          rw [decide_eq_true z, Bool.true_and] at r
          refine ⟨_, t1.sq, .ref a5, atI_n 1 rfl rfl, a5, rfl, _, t5.sq, .int pr.2.first, atI_n 2 rfl rfl, rfl, ?_⟩
          rw [show decide (V.int pr.2.first = V.int b.ev) = decide (pr.2.first = b.ev) by simp]
          exact r
        · rw [if_neg (fun q => z ((wordS_t' _).mp (V.str.inj q)))]
          rw [decide_eq_false z, Bool.false_and] at r
          exact r
      · refine ⟨_, SqL.of (s5 _ _ gx), _, e1, D1, _, x1, rfl, g5, fun n hn => nm_ok (h1.ok n (h2.pre.al n (sub_keys n hn))), fun H6 s6 => ⟨fun _ => fun r nr => ?_, fun nm hn => fun r nr => ?_⟩⟩
        · exact q _ r .non (((s12.tr s5).tr s6).new nr) ⟨"come", .inl upd_same⟩ trivial (fun z => nomatch z)
        · obtain ⟨e, he, hq⟩ := mem_by hn
          exact q _ r (.come nm) (((s12.tr s5).tr s6).new nr) (.inl upd_same) ⟨e, he, by simp at hq; exact hq.1, by simp at hq; exact hq.2⟩ (fun z => h4 (by rw [← Option.some.inj z]; exact List.mem_map.mpr ⟨_, he, rfl⟩))
    rw [if_neg c399]
    intro r nr
    exact q _ r .close (s12.new nr) (.inl upd_same) (by show b.ev < 399; have := h2.pre.e9; have : b.ev ≠ 399 := fun z => c399 (by rw [z]); omega) (fun z => nomatch z)
end
end Nb
end
section
set_option Elab.async false
set_option linter.all false
set_option maxRecDepth 100000
set_option maxHeartbeats 4000000
namespace Nb
open PySem PySem.Spec PyProof.Rows L2 NbU NbM
section
variable {P : Program} {w : World} {K : PySem.W.Frag} {mg : Str → Option Value} {base : Heap} {H H' : Hp} {B : BA} {n n' : Nat} {b : Bk Str}
theorem rel_line {B O : Bk Str} (r : Rel ZZ B O) : lineE O = lineZ B := by
  unfold lineE lineZ lineE
  rw [r.es, waiting_z, List.filter_map]
  unfold noZ
  have e : (waitingE B.es).filter (fun n => decide (n ≠ ZZ)) = (waitingE B.es).filter ((fun p : LnT => decide (p.1 ≠ "zz")) ∘ fun n => (n, (paper B.ladder B.risk B.es n).getD (0, 0, (0, 0)))) := List.filter_congr fun n _ => rfl
  rw [← e]
  refine List.map_congr_left fun n hn => ?_
  have hz : n ≠ ZZ := by simpa using (List.mem_filter.mp hn).2
  rw [r.lad, r.risk, paper_drop hz r.zw]
theorem close_ev (b : Bk Str) : (doB b .close).1.ev = b.ev + 1 := by
  show (close3 (close2 (close1 b))).ev = _
  unfold close3 close2
  rw [dropB_fold, outB_fold]
  rfl
theorem ToldAt.keep {H0 H H' : Hp} {v : V} {t : Tell Str} (h : ToldAt K H0 H v t) {fp : List Addr} (f : Fr fp H H') (d : ∀ x ∈ fp, H0 x ≠ none) : ToldAt K H0 H' v t := by
  have nw : ∀ {v l}, NewAt H0 H v l → NewAt H0 H' v l := fun ⟨p, e, a, z⟩ => ⟨p, e, f.keep _ _ a (fun hm => d _ hm z), z⟩
  cases t with
  | unit => obtain ⟨t, e, z⟩ := h; exact ⟨t, e, z.keep f.tups⟩
  | yes b => exact h
  | names l => exact nw h
  | lists ls => obtain ⟨t, us, e, z, z0, p⟩ := h; exact ⟨t, us, e, f.keep _ _ z (fun hm => d _ hm z0), z0, Paired.mapP p fun _ _ q => nw q⟩
  | inn => exact h
  | away k l => obtain ⟨t, x, e, z, p⟩ := h; exact ⟨t, x, e, z.keep f.tups, nw p⟩
def tellD : Tell Str → PyData
  | .unit => .tuple []
  | .yes b => .bool b
  | .names l => .list (l.map PyData.str)
  | .lists ls => .list (ls.map fun l => .list (l.map PyData.str))
  | .inn => .str "in"
  | .away k l => .tuple [.int k, .list (l.map PyData.str)]
theorem new_dp {H0 H : Hp} {v : V} {l : List Str} (h : NewAt H0 H v l) : Dp K H v (.list (l.map PyData.str)) := by
  obtain ⟨p, rfl, a, _⟩ := h
  exact .lst (SqL.of a) (dp_strs l)
theorem news_dp {H0 H : Hp} : ∀ {us : List V} {ls : List (List Str)}, Paired (NewAt H0 H) us ls → DpAll K H us (ls.map fun l => .list (l.map PyData.str))
  | _, _, .nil => .nil
  | _, _, .cons h t => .cons (new_dp h) (news_dp t)
theorem told_dp {H0 H : Hp} {v : V} {t : Tell Str} (h : ToldAt K H0 H v t) : Dp K H v (tellD t) := by
  cases t with
  | unit => obtain ⟨t, rfl, z⟩ := h; exact .tup z.sq .nil
  | yes b => obtain rfl : v = .bl b := h; exact .bl b
  | names l => exact new_dp h
  | lists ls => obtain ⟨t, us, rfl, z, _, p⟩ := h; exact .lst (SqL.of z) (news_dp p)
  | inn => obtain rfl : v = .str "in" := h; exact .str _
  | away k l => obtain ⟨t, x, rfl, z, p⟩ := h; exact .tup z.sq (.cons (.int k) (.cons (new_dp p) .nil))
theorem sum_le2 : ∀ {l : List Int}, (∀ x ∈ l, x ≤ 2) → l.sum ≤ 2 * l.length
  | [], _ => by simp
  | a :: l, h => by
    have h1 := sum_le2 (l := l) fun y hy => h y (List.mem_cons_of_mem _ hy)
    have h2 := h a List.mem_cons_self
    rw [List.sum_cons, List.length_cons]
    push_cast
    omega
/-- two books at places of their own -/
structure TwoAt (K : PySem.W.Frag) (H : Hp) (A B : BA) (n : Nat) (b o : Bk Str) : Prop where
  one : BookAt K H A n b
  two : BookAt K H B n o
  ne : ∀ x ∈ A.all, x ∉ B.all
theorem TwoAt.same {H H' : Hp} {A B : BA} {n : Nat} {b o : Bk Str} (h : TwoAt K H A B n b o) (s : Same H H') : TwoAt K H' A B n b o := ⟨h.one.same s, h.two.same s, h.ne⟩
theorem TwoAt.left {H H' : Hp} {A B : BA} {n m : Nat} {b b' o : Bk Str} (h : TwoAt K H A B n b o) (f : Fr A.fp H H') (a : BookAt K H' A m b') (l : n ≤ m) : TwoAt K H' A B m b' o :=
  ⟨a, (h.two.keep f fun x hx z => h.ne x (BA.fp_all z) hx).up l, h.ne⟩
theorem TwoAt.right {H H' : Hp} {A B : BA} {n m : Nat} {b o o' : Bk Str} (h : TwoAt K H A B n b o) (f : Fr B.fp H H') (a : BookAt K H' B m o') (l : n ≤ m) : TwoAt K H' A B m b o' :=
  ⟨(h.one.keep f fun x hx z => h.ne x hx (BA.fp_all z)).up l, a, h.ne⟩
theorem ok0 {al : List Str} {lad : List Int} {risk : Int × Int} {rooms : List Int} (l1 : 1 ≤ lad.length) (l4 : lad.length ≤ 4) (ln : ∀ x ∈ lad, 0 ≤ x) (r0 : 0 ≤ risk.1) (r1 : risk.1 ≤ risk.2) (r2 : 1 ≤ risk.2) (r9 : risk.2 ≤ 1000000000) : Ok al (⟨lad, risk, [], 0, ⟨rooms, [], []⟩⟩ : Bk Str) := by
  refine ⟨⟨l1, l4, ln, r0, r1, r2, r9, ⟨List.nodup_nil, fun _ z => absurd z (by simp)⟩, ⟨List.nodup_nil, rfl, fun _ z => absurd z (by simp), fun _ z => absurd z (by simp)⟩, fun n => ?_, fun _ z => absurd z (by simp), Int.le_refl _, (by show (0 : Int) ≤ 399; decide), fun _ z => absurd z (by simp [keysE])⟩, fun p hp => absurd hp (by simp)⟩
  constructor
  · intro z; exact absurd z (by simp [keysE])
  · rintro ⟨e, z, _⟩; exact absurd z (by simp)
theorem alOk {nms : List Str} (h : NmsOk nms) : AlOk (nms ++ [ZZ]) := by
  refine ⟨by rw [List.length_append, h.len]; decide, fun n hn => ?_⟩
  rcases List.mem_append.mp hn with z | z
  · exact h.ok n z
  · rw [List.mem_singleton.mp z]; decide +kernel
theorem ok_mono {al al' : List Str} {b : Bk Str} (h : Ok al b) (m : ∀ x ∈ al, x ∈ al') : Ok al' b := by
  obtain ⟨p, s⟩ := h
  exact ⟨⟨p.l1, p.l4, p.ln, p.r0, p.r1, p.r2, p.r9, p.good, p.hs, p.hk, p.now, p.e0, p.e9, fun n hn => m n (p.al n hn)⟩, s⟩
theorem alOk0 {nms : List Str} (h : NmsOk nms) : AlOk nms := ⟨by rw [h.len]; decide, h.ok⟩
theorem noZZ {nms : List Str} (h : NmsOk nms) {b : Bk Str} (o : Ok nms b) : ZZ ∉ keysE b.es := fun z => h.zz (o.pre.al _ z)
theorem doB_lad (b : Bk Str) (d : Deed Str) : (doB b d).1.ladder = b.ladder ∧ (doB b d).1.risk = b.risk := by
  cases d with
  | non => exact ⟨rfl, rfl⟩
  | wish n k f bh c =>
    unfold doB
    dsimp only
    split <;> exact ⟨rfl, rfl⟩
  | withdraw n => exact ⟨rfl, rfl⟩
  | absent n => exact ⟨rfl, rfl⟩
  | go n => exact ⟨rfl, rfl⟩
  | come n =>
    unfold doB
    dsimp only
    cases getE b.es n with
    | none => exact ⟨rfl, rfl⟩
    | some e =>
      dsimp only
      cases letIn b.hs n e.kind with
      | inl k => exact ⟨rfl, rfl⟩
      | inr h => exact ⟨rfl, rfl⟩
  | close =>
    show (close3 (close2 (close1 b))).ladder = _ ∧ (close3 (close2 (close1 b))).risk = _
    unfold close3 close2 close1
    rw [dropB_fold, outB_fold, dropB_fold]
    exact ⟨rfl, rfl⟩
theorem frN {H2 H H' : Hp} {fp : List Addr} (s : Same H2 H) (f : Fr fp H H') (n : ∀ x ∈ fp, H2 x = none) : Same H2 H' := fun b o e => f.keep b o (s b o e) fun z => by rw [n b z] at e; cases e
/-! ### names in what is told -/
def TellOk (p : Str → Prop) : Tell Str → Prop
  | .names l => ∀ x ∈ l, p x
  | .lists ls => ∀ l ∈ ls, ∀ x ∈ l, p x
  | .away _ l => ∀ x ∈ l, p x
  | _ => True
theorem TellOk.mono {p q : Str → Prop} {t : Tell Str} (h : TellOk p t) (i : ∀ x, p x → q x) : TellOk q t := by
  cases t with
  | names l => exact fun x hx => i x (h x hx)
  | lists ls => exact fun l hl x hx => i x (h l hl x hx)
  | away k l => exact fun x hx => i x (h x hx)
  | unit => trivial
  | yes b => trivial
  | inn => trivial
theorem TellOk.z {p : Str → Prop} {t : Tell Str} (h : TellOk p t) : TellOk p (tellZ ZZ t) := by
  cases t with
  | names l => exact fun x hx => h x (List.mem_filter.mp hx).1
  | lists ls =>
    intro l hl x hx
    obtain ⟨l', h1, rfl⟩ := List.mem_map.mp hl
    exact h l' h1 x (List.mem_filter.mp hx).1
  | away k l => exact fun x hx => h x (List.mem_filter.mp hx).1
  | unit => trivial
  | yes b => trivial
  | inn => trivial
theorem walk_names (lad : List Int) (risk : Int × Int) : ∀ (ns : List Str) (s : List (Str × Ent) × List Str), ∀ x ∈ (ns.foldl (wstep lad risk) s).2, x ∈ s.2 ∨ x ∈ ns
  | [], _, _, h => .inl h
  | n :: r, s, x, h => by
    rw [List.foldl_cons] at h
    rcases walk_names lad risk r _ x h with z | z
    · unfold wstep at z
      split at z
      · rcases List.mem_append.mp z with z | z
        · exact .inl z
        · exact .inr (by rw [List.mem_singleton.mp z]; exact List.mem_cons_self)
      · exact .inl z
    · exact .inr (List.mem_cons_of_mem _ z)
theorem fillN_keys (b : Bk Str) : ∀ x ∈ fillN b, x ∈ keysE b.es := fun x hx => by
  rcases walk_names b.ladder b.risk (waitingE b.es) (b.es, []) x hx with z | z
  · exact absurd z (by simp)
  · exact sub_keys x z
theorem drop_keys {es : List (Str × Ent)} {n : Str} : ∀ x ∈ keysE (dropE es n), x ∈ keysE es := fun x hx => by
  obtain ⟨q, hq, e⟩ := List.mem_map.mp hx
  exact List.mem_map.mpr ⟨q, (mem_drop.mp hq).1, e⟩
theorem drops_keys {es : List (Str × Ent)} {ns : List Str} : ∀ x ∈ keysE (ns.foldl dropE es), x ∈ keysE es := fun x hx => by
  obtain ⟨q, hq, e⟩ := List.mem_map.mp hx
  exact List.mem_map.mpr ⟨q, (drops_mem.mp hq).1, e⟩
theorem close1_keys (b : Bk Str) : ∀ x ∈ keysE (close1 b).es, x ∈ keysE b.es := fun x hx => by
  unfold close1 at hx
  rw [dropB_fold] at hx
  exact drops_keys x hx
theorem close2_keys (b : Bk Str) : ∀ x ∈ keysE (close2 b).es, x ∈ keysE b.es := fun x hx => by
  unfold close2 at hx
  rw [outB_fold] at hx
  exact drops_keys x hx
theorem close3_keys (b : Bk Str) : ∀ x ∈ keysE (close3 b).es, x ∈ keysE b.es := fun x hx => by
  unfold close3 at hx
  rw [dropB_fold] at hx
  exact drops_keys x hx
theorem tell_ok (b : Bk Str) (d : Deed Str) : TellOk (fun x => x ∈ keysE b.es) (doB b d).2 := by
  cases d with
  | non => trivial
  | wish n k f bh c =>
    unfold doB
    dsimp only
    split <;> trivial
  | withdraw n => exact fun x hx => drop_keys x (fillN_keys _ x hx)
  | absent n => exact fun x hx => drop_keys x (fillN_keys _ x hx)
  | go n => exact fun x hx => drop_keys x (fillN_keys (outB b n) x hx)
  | come n =>
    unfold doB
    dsimp only
    cases getE b.es n with
    | none => trivial
    | some e =>
      dsimp only
      cases letIn b.hs n e.kind with
      | inl k => exact fun x hx => drop_keys x (fillN_keys _ x hx)
      | inr h => trivial
  | close =>
    intro l hl x hx
    have hl : l ∈ [missingOf b, leavingOf (close1 b), lateOf (close2 (close1 b)), fillN (close3 (close2 (close1 b)))] := hl
    simp only [List.mem_cons, List.not_mem_nil, or_false] at hl
    rcases hl with z | z | z | z <;> rw [z] at hx
    · exact sub_keys x hx
    · exact close1_keys _ x (sub_keys x hx)
    · exact close1_keys _ x (close2_keys _ x (sub_keys x hx))
    · exact close1_keys _ x (close2_keys _ x (close3_keys _ x (fillN_keys _ x hx)))
theorem names_dep (l : List Str) : (PyData.list (l.map PyData.str)).depth ≤ 4 := by
  have := dep_all PyData.str 1 (fun _ => by simp [PyData.depth]) l
  simp only [PyData.depth]
  omega
theorem names_lay {l : List Str} (h : ∀ x ∈ l, PyData.strOk x = true) : (PyData.list (l.map PyData.str)).canLay0 = true := by
  rw [PyData.canLay0]
  exact lay_all _ l fun x hx => by simp [PyData.canLay0, h x hx]
theorem tell_shaped {t : Tell Str} (h : TellOk (fun x => PyData.strOk x = true) t) : SeqAt.shaped (tellD t) = true := by
  cases t with
  | unit => exact shaped_of (by simp [tellD, PyData.canLay0, PyData.canLayAll0]) (by simp [tellD, PyData.depth, PyData.depthAll])
  | yes b => exact shaped_of (by simp [tellD, PyData.canLay0]) (by simp [tellD, PyData.depth])
  | names l => exact shaped_strs l h
  | lists ls => exact shaped_list _ ls (fun l hl => names_lay (h l hl)) 4 (by decide) names_dep
  | inn => exact shaped_of (by decide +kernel) (by decide +kernel)
  | away k l =>
    have h1 := names_lay h
    have h2 := names_dep l
    refine shaped_of (by simp [tellD, PyData.canLay0, PyData.canLayAll0] at h1 ⊢; exact h1) ?_
    unfold tellD
    simp only [PyData.depth, PyData.depthAll] at h2 ⊢
    omega
/-! ### zz's wish -/
theorem rel_self {b : Bk Str} (h : ZZ ∉ keysE b.es) : Rel ZZ b b := by
  refine ⟨rfl, rfl, rfl, rfl, ?_, fun p hp e => absurd (e ▸ List.mem_map.mpr ⟨p, hp, rfl⟩) h⟩
  unfold dropE
  rw [eq_comm, List.filter_eq_self]
  exact fun p hp => decide_eq_true fun e => h (e ▸ List.mem_map.mpr ⟨p, hp, rfl⟩)
theorem rel_none {b o : Bk Str} (r : Rel ZZ b o) : ZZ ∉ keysE o.es := fun z => by
  rw [r.es, keys_drop] at z
  simp at z
theorem rel_eq {b o : Bk Str} (r : Rel ZZ b o) (h : ZZ ∉ keysE b.es) : b = o := by
  obtain ⟨l, k, es, ev, hs⟩ := o
  have h1 : l = b.ladder := r.lad
  have h2 : k = b.risk := r.risk
  have h3 : ev = b.ev := r.ev
  have h4 : hs = b.hs := r.hs
  have h5 : es = dropE b.es ZZ := r.es
  rw [← (rel_self h).es] at h5
  subst h1 h2 h3 h4 h5
  rfl
theorem rel_wish {b o : Bk Str} (r : Rel ZZ b o) {k f bh : Int} {c : Int × Int} (h : (doB b (.wish ZZ k f bh c)).2 = .yes false) : Rel ZZ (doB b (.wish ZZ k f bh c)).1 o := by
  unfold doB at h ⊢
  dsimp only at h ⊢
  split at h
  · cases h
  · rename_i hn
    rw [if_neg hn]
    refine ⟨r.lad, r.risk, r.ev, r.hs, ?_, fun p hp e => ?_⟩
    · show o.es = dropE (b.es ++ [_]) ZZ
      rw [r.es]
      unfold dropE
      rw [List.filter_append, List.filter_cons, if_neg (by simp)]
      simp
    · rcases List.mem_append.mp hp with q | q
      · exact r.zw p q e
      · rw [List.mem_singleton.mp q]; rfl
theorem wish_told (b : Bk Str) (n : Str) (k f bh : Int) (c : Int × Int) : ∃ y, (doB b (.wish n k f bh c)).2 = .yes y := by
  unfold doB
  dsimp only
  split <;> exact ⟨_, rfl⟩
/-- two books and their deed, with what is at other places -/
theorem not_taken {es : List (Str × Ent)} (nd : (keysE es).Nodup) (h : ∀ e, getE es ZZ = some e → e.word = .waits) : ¬ ZTaken ZZ es := fun ⟨e, he, hw⟩ => by
  have := h e (mem_getE nd he)
  rw [hw] at this
  cases this
end
end Nb
end
section
set_option Elab.async false
set_option linter.all false
set_option maxRecDepth 100000
set_option maxHeartbeats 4000000
namespace Nb
open PySem PySem.Spec PyProof.Rows L2 NbU NbM
section
variable {K : PySem.W.Frag} {mg : Str → Option Value} {H H' : Hp} {B : BA} {n n' : Nat} {b : Bk Str}
theorem seq_mid {t u : TS} {D : Ends} {σ : L2.St} {H : Hp} (M : L2.St → Hp → Prop) (h2 : ∀ σ' H', M σ' H' → u D σ' H') (h1 : ∀ N : L2.St → Hp → Prop, (∀ σ' H', M σ' H' → N σ' H') → t { D with nx := N } σ H) : tSeq t u D σ H := h1 (u D) h2
/-- what stays while the deeds are done -/
structure Lp (K : PySem.W.Frag) (H2 : Hp) (A B : BA) (px : Addr) (xs : List Int) (al : List Str) (lad : List Int) (risk : Int × Int) (H' : Hp) (n : Nat) (b o : Bk Str) : Prop where
  s : Same H2 H'
  x : H' px = some (.lst (IL xs))
  tw : TwoAt K H' A B n b o
  ob : Ok al b
  oo : Ok al o
  rel : Rel ZZ b o
  lad : o.ladder = lad
  risk : o.risk = risk
  fa : ∀ x ∈ A.all, H2 x = none
  fb : ∀ x ∈ B.all, H2 x = none
  pa : px ∉ A.all
  pb : px ∉ B.all
section
variable {H2 : Hp} {A : BA} {px : Addr} {xs : List Int} {al : List Str} {lad : List Int} {risk : Int × Int} {o : Bk Str}
theorem Lp.same (L : Lp K H2 A B px xs al lad risk H n b o) (s : Same H H') : Lp K H2 A B px xs al lad risk H' n b o :=
  ⟨L.s.tr s, s _ _ L.x, L.tw.same s, L.ob, L.oo, L.rel, L.lad, L.risk, L.fa, L.fb, L.pa, L.pb⟩
theorem Lp.up (L : Lp K H2 A B px xs al lad risk H n b o) {m : Nat} (h : n ≤ m) : Lp K H2 A B px xs al lad risk H m b o :=
  ⟨L.s, L.x, ⟨L.tw.one.up h, L.tw.two.up h, L.tw.ne⟩, L.ob, L.oo, L.rel, L.lad, L.risk, L.fa, L.fb, L.pa, L.pb⟩
end
theorem DeedAt.keep {t : Addr} {d : Deed Str} (h : DeedAt K H t d) (s : Tups H H') : DeedAt K H' t d := by
  cases d with
  | non => obtain ⟨w, tu⟩ := h; exact ⟨w, tu.keep s⟩
  | wish n k f b c => obtain ⟨ca, tu, tc, g⟩ := h; exact ⟨ca, tu.keep s, tc.keep s, g⟩
  | withdraw n => exact Tu.keep h s
  | absent n => exact Tu.keep h s
  | go n => exact Tu.keep h s
  | come n => exact Tu.keep h s
  | close => exact Tu.keep h s
theorem ite_both {c : Prop} [Decidable c] {P R : Prop} (hR : R) (h : c → R → P) : if c then P else R := by
  by_cases z : c
  · rw [if_pos z]; exact h z hR
  · rw [if_neg z]; exact hR
def sp_law (K : PySem.W.Frag) : Sp := fun vs H Q _ => ∃ (s : Addr) (ns : List Int), vs = [.ref s] ∧ SqL K H s (IL ns) ∧ ns.length ≤ 63 ∧ ∀ H', Q (.bl true) H'
theorem sc_law : FnScope ["_law_script", "_law_book", "_law_other", "_law_k", "_law_many", "_law_xs", "_law_place", "_law_ladder", "_law_risk", "_law_names_here", "_law_skip", "_law_before", "_law_deed", "_law_told", "_law_due", "_law_first", "_law_name"] ["_law_script"] (defScope s_law) := ⟨rfl, rfl, rfl, by decide +kernel, rfl, by decide +kernel, by decide +kernel⟩
theorem g_law (T : Txt K mg) : ∃ fd, (∀ (s : Shared) (v : Value), BindsTo s fd ⟨[v], []⟩ [("_law_script", v)]) ∧ ∀ (P : Program) (w : World) (base : Heap), FnOk P w K mg base CX0 10 (He.ga K "law") fd ["_law_script"] (sp_law K) := by
  obtain ⟨fd, F⟩ := T.f_law
  have b := FunD.bindsA (ps := ["_law_script"]) F fun _ _ _ _ _ _ us hl => match us, hl with | [_], _ => rfl
  refine ⟨fd, fun s v => b s [v] rfl, fun P w base => FnU.fn (c := true) (okU F sc_law (fun vs H Q E h => ?_) (fun cdv A outer s H vs Q E pl hr hh hw h => ⟨_, PSs.nox (pss_cons (ps_asg (pe_cu (g_law_inn T) (hr.mono (by decide)) hw (fun _ => hh rfl) rfl (pa_cons (pv 0) pa_nil)) (pgu_tupK (n := 4) K hw (pgs_cons (pg_name (i := 7) sc_law.nd rfl (by first | exact Or.inl rfl | exact Or.inr rfl)) (pgs_cons (pg_name (i := 8) sc_law.nd rfl (by first | exact Or.inl rfl | exact Or.inr rfl)) (pgs_cons (pg_name (i := 9) sc_law.nd rfl (by first | exact Or.inl rfl | exact Or.inr rfl)) (pgs_cons (pg_name (i := 10) sc_law.nd rfl (by first | exact Or.inl rfl | exact Or.inr rfl)) pgs_nil))))))
      (pss_cons (ps_set (i := 1) sc_law.nd rfl (by first | exact Or.inl rfl | exact Or.inr rfl) (pe_mkU T.k_Book (g_Book__init_ T) (hr.mono (by decide)) (hh rfl) rfl T.g_Book (pa_cons (pe_callTy call_list_of rfl T.n_list boot_list (pa_cons (pv 7) pa_nil)) (pa_cons (pv 8) pa_nil))))
      (pss_cons (ps_set (i := 2) sc_law.nd rfl (by first | exact Or.inl rfl | exact Or.inr rfl) (pe_mkU T.k_Book (g_Book__init_ T) (hr.mono (by decide)) (hh rfl) rfl T.g_Book (pa_cons (pe_callTy call_list_of rfl T.n_list boot_list (pa_cons (pv 7) pa_nil)) (pa_cons (pv 8) pa_nil))))
      (pss_cons (ps_for PassesOwn.never rfl (pi_range1 rfl T.n_range (pa_cons (pv 10) pa_nil)) (pg_name (i := 3) sc_law.nd rfl (by first | exact Or.inl rfl | exact Or.inr rfl)) (pss_cons (ps_expr (pe_mu0 (pv 1) T.c_Book (g_Book_close T) (hr.mono (by decide)) hw (fun _ => hh rfl)))
      (pss_one (ps_expr (pe_mu0 (pv 2) T.c_Book (g_Book_close T) (hr.mono (by decide)) hw (fun _ => hh rfl))))))
      (pss_cons (ps_set (i := 4) sc_law.nd rfl (by first | exact Or.inl rfl | exact Or.inr rfl) (pe_callB (call_max2 rfl) rfl T.n_max boot_max (pa_cons pe_int (pa_cons (pe_callB (call_min2 rfl) rfl T.n_min boot_min (pa_cons pe_int (pa_cons (pe_op op_sub (pe_callB (len_seqK K) rfl T.n_len boot_len (pa_cons (pv 0) pa_nil)) pe_int) pa_nil))) pa_nil))))
      (pss_cons (ps_set (i := 5) sc_law.nd rfl (by first | exact Or.inl rfl | exact Or.inr rfl) (pe_cu (g_law_row T) (hr.mono (by decide)) hw (fun _ => hh rfl) rfl (pa_cons (pv 0) (pa_cons pe_int (pa_cons pe_int pa_nil)))))
      (pss_cons (ps_set (i := 6) sc_law.nd rfl (by first | exact Or.inl rfl | exact Or.inr rfl) (pe_op op_mod (pe_ix (ix_listK K) (pv 5) pe_int (fun _ _ => rfl)) (pv 4)))
      (pss_cons (ps_for PassesOwn.never rfl (pi_range1 rfl T.n_range (pa_cons (pv 4) pa_nil)) (pg_name (i := 3) sc_law.nd rfl (by first | exact Or.inl rfl | exact Or.inr rfl)) (pss_cons (ps_if (pt_cmpR (op_eq) (pv 3) (pv 6) (nomark _)) (pss_cons (ps_set (i := 15) sc_law.nd rfl (by first | exact Or.inl rfl | exact Or.inr rfl) (pe_callB (call_min2 rfl) rfl T.n_min boot_min (pa_cons pe_int (pa_cons (pe_op op_add (pe_mu0 (pv 1) T.c_Book (g_Book_tonight T) (hr.mono (by decide)) hw (fun _ => hh rfl)) (pe_op op_mod (pe_ix (ix_listK K) (pv 5) pe_int (fun _ _ => rfl)) pe_int)) pa_nil))))
      (pss_one (ps_if (pt_val (pe_mu (pv 1) T.c_Book (g_Book_wish T) (hr.mono (by decide)) hw (fun _ => hh rfl) (pa_cons pe_str (pa_cons (pe_op op_add pe_int (pe_op op_mod (pe_ix (ix_listK K) (pv 5) pe_int (fun _ _ => rfl)) (pe_callB (len_seqK K) rfl T.n_len boot_len (pa_cons (pv 7) pa_nil)))) (pa_cons (pv 15) (pa_cons (pe_callB (call_min2 rfl) rfl T.n_min boot_min (pa_cons pe_int (pa_cons (pe_op op_add (pe_op op_add (pv 15) pe_int) (pe_op op_mod (pe_ix (ix_listK K) (pv 5) pe_int (fun _ _ => rfl)) pe_int)) pa_nil))) (pa_cons (pe_cu (g_law_chance T) (hr.mono (by decide)) hw (fun _ => hh rfl) rfl (pa_cons (pe_slice (sl_listK K) (pv 5) (po_some pe_int) po_none) pa_nil)) pa_nil))))))) (pss_one (ps_ret pe_bl)) pss_nil))) pss_nil)
      (pss_cons (ps_setLcU (i := 11) hw sc_law.nd rfl rfl (sw_true rfl rfl rfl rfl) (piu_list (pe_mu0 (pv 2) T.c_Book (g_Book_names T) (hr.mono (by decide)) hw (fun _ => hh rfl))) (blkOk_by (own := [("_law_name", 16)]) (by kernel_rfl)) (fun _ _ _ _ _ => (pg_name (i := 16) sc_law.nd rfl (by first | exact Or.inl rfl | exact Or.inr rfl))) (fun _ _ _ _ _ => pts_nil) (fun _ _ _ _ _ => (pe_tup (pa_cons (pv 16) (pa_cons (pe_mu (pv 2) T.c_Book (g_Book_state T) (hr.mono (by decide)) hw (fun _ => hh rfl) (pa_cons (pv 16) pa_nil)) pa_nil)))))
      (pss_cons (ps_set (i := 12) sc_law.nd rfl (by first | exact Or.inl rfl | exact Or.inr rfl) (pe_cu (g_law_chosen T) (hr.mono (by decide)) hw (fun _ => hh rfl) rfl (pa_cons (pv 2) (pa_cons (pv 9) (pa_cons (pe_callB (len_seqK K) rfl T.n_len boot_len (pa_cons (pv 7) pa_nil)) (pa_cons (pe_cu (g_law_row T) (hr.mono (by decide)) hw (fun _ => hh rfl) rfl (pa_cons (pv 0) (pa_cons (pe_op op_add pe_int (pv 3)) (pa_cons pe_int pa_nil)))) pa_nil))))))
      (pss_cons (ps_set (i := 13) sc_law.nd rfl (by first | exact Or.inl rfl | exact Or.inr rfl) (pe_cu (g_law_do T) (hr.mono (by decide)) hw (fun _ => hh rfl) rfl (pa_cons (pv 1) (pa_cons (pv 12) pa_nil))))
      (pss_cons (ps_set (i := 14) sc_law.nd rfl (by first | exact Or.inl rfl | exact Or.inr rfl) (pe_cu (g_law_do T) (hr.mono (by decide)) hw (fun _ => hh rfl) rfl (pa_cons (pv 2) (pa_cons (pv 12) pa_nil))))
      (pss_cons (ps_if (PW.pt (pw_or (pt_not (pt_val (pe_cu (g_law_kept T) (hr.mono (by decide)) hw (fun _ => hh rfl) rfl (pa_cons (pv 2) (pa_cons (pv 11) (pa_cons (pv 12) pa_nil)))))) (pw_or1 (pt_not (pt_val (pe_cu (g_law_shut T) (hr.mono (by decide)) hw (fun _ => hh rfl) rfl (pa_cons (pv 2) (pa_cons (pv 8) pa_nil)))))))) (pss_one (ps_ret pe_bl)) pss_nil)
      (pss_cons (ps_if (PW.pt (pw_and (pt_cmpR (op_inK K) pe_str (pe_mu0 (pv 1) T.c_Book (g_Book_names T) (hr.mono (by decide)) hw (fun _ => hh rfl)) rfl) (pw_and1 (pt_cmpR (op_ne) (pe_ix (ix_tupK K) (pe_mu (pv 1) T.c_Book (g_Book_state T) (hr.mono (by decide)) hw (fun _ => hh rfl) (pa_cons pe_str pa_nil)) pe_int (fun _ _ => rfl)) pe_str (nomark _))))) (pss_one (ps_ret pe_bl)) pss_nil)
      (pss_one (ps_if (PW.pt (pw_or (pt_cmpR (op_neDK K (hu64 hr)) (pv 13) (pv 14) (nomark _)) (pw_or (pt_not (pt_val (pe_cu (g_law_alike T) (hr.mono (by decide)) hw (fun _ => hh rfl) rfl (pa_cons (pv 1) (pa_cons (pv 2) pa_nil))))) (pw_or1 (pt_not (pt_val (pe_cu (g_law_shut T) (hr.mono (by decide)) hw (fun _ => hh rfl) rfl (pa_cons (pv 1) (pa_cons (pv 8) pa_nil))))))))) (pss_one (ps_ret pe_bl)) pss_nil))))))))))
      (pss_cons (ps_if (PW.pt (pw_and (pt_cmpR (op_inK K) pe_str (pe_mu0 (pv 1) T.c_Book (g_Book_names T) (hr.mono (by decide)) hw (fun _ => hh rfl)) rfl) (pw_and1 (pt_cmpR (op_neDK K (hu64 hr)) (pe_mu (pv 1) T.c_Book (g_Book_withdraw T) (hr.mono (by decide)) hw (fun _ => hh rfl) (pa_cons pe_str pa_nil)) (pe_lst pa_nil) (nomark _))))) (pss_one (ps_ret pe_bl)) pss_nil)
      (pss_one (ps_ret (pe_and (pe_cu (g_law_alike T) (hr.mono (by decide)) hw (fun _ => hh rfl) rfl (pa_cons (pv 1) (pa_cons (pv 2) pa_nil))) (pe_and (pe_cmpR (op_eqDK K (hu64 hr)) (pe_mu0 (pv 1) T.c_Book (g_Book_names T) (hr.mono (by decide)) hw (fun _ => hh rfl)) (pe_mu0 (pv 2) T.c_Book (g_Book_names T) (hr.mono (by decide)) hw (fun _ => hh rfl)) (nomark _)) (pe_one (pe_cmpR (op_eqDK K (hu64 hr)) (pe_mu0 (pv 1) T.c_Book (g_Book_line T) (hr.mono (by decide)) hw (fun _ => hh rfl)) (pe_mu0 (pv 2) T.c_Book (g_Book_line T) (hr.mono (by decide)) hw (fun _ => hh rfl)) (nomark _)))))))))))))))), ?_⟩))⟩
  · obtain ⟨s, ns, rfl, _⟩ := h
    rfl
  · obtain ⟨s, ns, rfl, h1, h2, q⟩ := h
    simp only [a_tVar, a_tC, a_tOp, a_tUn, a_rI, a_rI0, a_rU, a_rEq, a_rNe, a_tTest, a_tB, a_tIsN, a_tNotN, a_tChain, a_tAnd, a_tOr, a_tNot, a_tAndV, a_tOrV, a_tNotV, a_tYes, a_tNext, a_tSeq, a_tCont, a_tBreak, a_tDrop, a_tRet, a_tIfS, a_tNever, a_gName, a_gNil, a_gCons, a_gTup, a_tAsg, a_tNil, a_tCons, a_tTup, a_tLst, a_tCB, a_tCU, a_tMU, a_tFld, a_sFld, a_tSl, a_tNoPart, a_tPart, a_rSlL, a_rSlT, a_rIxL, a_rIxT, a_rCat, a_rRep, a_rCatT, a_tDGet, a_tDIn, a_tDNotIn, a_sDPut, a_tDPop1, a_tDNewK, a_tBM, a_rAppend, a_rExtend, a_iList, a_iEnum, a_iRng1, a_iRng2, a_iVals, a_iItems, a_iRng3, a_iStr, a_tMX, a_tXf, a_wAs, a_tRaise, a_tVeI, a_tOst, a_tMkO, a_tMake, a_rSum, a_rIsi, a_tChain3, a_tAugS, a_rGetL, a_rPutL, a_ipI, a_rSet, a_tCKw, a_rMinD, a_rMin, a_rIxS, a_rSlS, a_iTup, a_rIn, a_rEqD, a_rNeD, upd_same, HO.lst.injEq, HO.tup.injEq, HO.dK.injEq, HO.frz.injEq, a_s0, a_s1, a_s2, a_s3, a_s4, a_s5, a_s6, a_s8, a_scal, a_scals, a_tFor, a_tLc, a_tWhile, a_wipe0, a_wipe1, k_cxU, w_cxU, k_blk, w_blk, and_assoc, exists_and_left, exists_eq_left, exists_eq_left', exists_eq_right, exists_eq, exists_const, List.getElem?_cons_zero, List.getElem?_cons_succ, List.set_cons_zero, List.set_cons_succ, Option.some.injEq, V.int.injEq, V.bl.injEq, V.ref.injEq, V.str.injEq, List.cons.injEq, and_true, true_and, List.cons_append, List.nil_append, List.append_nil, L2.start, List.map_cons, List.map_nil, List.length_cons, List.length_nil, List.replicate, Nat.sub_self, Nat.reduceSub, Nat.reduceAdd, Nat.zero_add, if_true, if_false, Bool.false_eq_true, Bool.true_eq_false, reduceIte, decide_eq_true_eq, Bool.not_eq_true', decide_eq_false_iff_not]
    refine ⟨s, ns, rfl, h1, fun H1 pt l r nm lad risk nms sk s1 tt gl l1 l4 lb tr r0 r1 r2 r9 rg gn nok k0 k3 fl fn => ?_⟩
    refine ⟨pt, rfl, _, tt.sq, rfl, _, _, rfl, _, _, rfl, _, _, rfl, _, _, rfl, rfl, l, rfl, _, .inl (SqL.of gl), fun la nla => ?_⟩
    have lsum : lad.sum ≤ 12 := by have := sum_le2 fun x hx => (lb x hx).2; omega
    have s2 := s1.new nla (o := .lst (IL lad))
    have gla : upd H1 la (.lst (IL lad)) la = some (.lst (IL lad)) := upd_same
    have gl2 := get_new gl nla (o := .lst (IL lad))
    have gn2 := get_new gn nla (o := .lst (IL lad))
    have tr2 := tr.keep (Same.rfl'.new nla (o := .lst (IL lad))).tups
    generalize upd H1 la (.lst (IL lad)) = H2 at *
    intro xo xd no nd dne
    have no' : upd H2 xd (.own xo) xo = none := by rw [upd_ne (Ne.symm dne)]; exact no
    have s3 : Same H2 (upd (upd H2 xd (.own xo)) xo (.ins (CB K) xd [])) := (Same.rfl'.new nd).new no'
    refine ⟨xo, la, r, xd, lad, risk, rfl, s3 _ _ gla, upd_same, tr2.keep s3.tups, l1, l4, fun x hx => (lb x hx).1, lsum, r0, r1, r2, r9, rg, fun H3 A eA f3 fr3 hA => ⟨rfl, l, rfl, ?_⟩⟩
    have s23 : Same H2 H3 := fun b o e => f3.keep b o (s3 b o e) fun z => by rw [List.mem_singleton.mp z, no] at e; cases e
    have gl3 := s23 _ _ gl2
    refine ⟨_, .inl (SqL.of gl3), fun lb' nlb => ?_⟩
    have s34 := (Same.rfl' (H := H3)).new nlb (o := .lst (IL lad))
    have glb : upd H3 lb' (.lst (IL lad)) lb' = some (.lst (IL lad)) := upd_same
    generalize upd H3 lb' (.lst (IL lad)) = H4 at *
    intro yo yd mo md mne
    have mo' : upd H4 yd (.own yo) yo = none := by rw [upd_ne (Ne.symm mne)]; exact mo
    have s5 : Same H4 (upd (upd H4 yd (.own yo)) yo (.ins (CB K) yd [])) := (Same.rfl'.new md).new mo'
    have s24 := s23.tr s34
    refine ⟨yo, lb', r, yd, lad, risk, rfl, s5 _ _ glb, upd_same, (tr2.keep s24.tups).keep s5.tups, l1, l4, fun x hx => (lb x hx).1, lsum, r0, r1, r2, r9, rg, fun H5 B eB f5 fr5 hB => ⟨rfl, sk, rfl, by omega, by omega, ?_⟩⟩
    have s45 : Same H4 H5 := fun b o e => f5.keep b o (s5 b o e) fun z => by rw [List.mem_singleton.mp z, mo] at e; cases e
    have s25 := s24.tr s45
    have s05 := s2.tr s25
    have s35 := s34.tr s45
    have two : TwoAt K H5 A B 0 ⟨lad, risk, [], 0, ⟨roomsOf lad, [], []⟩⟩ ⟨lad, risk, [], 0, ⟨roomsOf lad, [], []⟩⟩ := ⟨hA.same s35, hB, fun x hx hx2 => by
      have hs := hA.has hx
      by_cases c : x = yo
      · exact hs (Same.free s34 (c ▸ mo))
      · exact hs (Same.free s34 (Same.free s5 (fr5 x hx2 c)))⟩
    subst eA eB
    have freA : ∀ x ∈ A.all, H2 x = none := fun x hx => by
      by_cases c : x = A.o
      · rw [c]; exact no
      · exact Same.free s3 (fr3 x hx c)
    have freB : ∀ x ∈ B.all, H2 x = none := fun x hx => by
      by_cases c : x = B.o
      · rw [c]; exact Same.free s24 mo
      · exact Same.free s24 (Same.free s5 (fr5 x hx c))
    have al := alOk nok
    have al0 := alOk0 nok
    have O0 : Ok nms (⟨lad, risk, [], 0, ⟨roomsOf lad, [], []⟩⟩ : Bk Str) := ok0 l1 l4 (fun x hx => (lb x hx).1) r0 r1 r2 r9
    refine for_go walk_range (fun i σ H' => Same H2 H' ∧ ∃ (u : Option V) (b : Bk Str), σ = [some (.ref s), some (.ref A.o), some (.ref B.o), u, none, none, none, some (.ref l), some (.ref r), some (.ref nm), some (.int sk), none, none, none, none, none, none] ∧ TwoAt K H' A B (1000 * i) b b ∧ Ok nms b ∧ b.ev = i ∧ b.ladder = lad ∧ b.risk = risk) ⟨s25, none, _, rfl, two, O0, rfl, rfl, rfl⟩ (fun _ _ _ _ _ => trivial) ?_ ?_
    · rintro i y σ H6 H7 hi ⟨s6, u, b, rfl, tw, ok, ev, el, er⟩ ⟨rfl, rfl⟩
      obtain ⟨dxA, hiA⟩ := tw.one.ins
      simp only [a_tVar, a_tC, a_tOp, a_tUn, a_rI, a_rI0, a_rU, a_rEq, a_rNe, a_tTest, a_tB, a_tIsN, a_tNotN, a_tChain, a_tAnd, a_tOr, a_tNot, a_tAndV, a_tOrV, a_tNotV, a_tYes, a_tNext, a_tSeq, a_tCont, a_tBreak, a_tDrop, a_tRet, a_tIfS, a_tNever, a_gName, a_gNil, a_gCons, a_gTup, a_tAsg, a_tNil, a_tCons, a_tTup, a_tLst, a_tCB, a_tCU, a_tMU, a_tFld, a_sFld, a_tSl, a_tNoPart, a_tPart, a_rSlL, a_rSlT, a_rIxL, a_rIxT, a_rCat, a_rRep, a_rCatT, a_tDGet, a_tDIn, a_tDNotIn, a_sDPut, a_tDPop1, a_tDNewK, a_tBM, a_rAppend, a_rExtend, a_iList, a_iEnum, a_iRng1, a_iRng2, a_iVals, a_iItems, a_iRng3, a_iStr, a_tMX, a_tXf, a_wAs, a_tRaise, a_tVeI, a_tOst, a_tMkO, a_tMake, a_rSum, a_rIsi, a_tChain3, a_tAugS, a_rGetL, a_rPutL, a_ipI, a_rSet, a_tCKw, a_rMinD, a_rMin, a_rIxS, a_rSlS, a_iTup, a_rIn, a_rEqD, a_rNeD, upd_same, HO.lst.injEq, HO.tup.injEq, HO.dK.injEq, HO.frz.injEq, a_s0, a_s1, a_s2, a_s3, a_s4, a_s5, a_s6, a_s8, a_scal, a_scals, a_tFor, a_tLc, a_tWhile, a_wipe0, a_wipe1, k_cxU, w_cxU, k_blk, w_blk, and_assoc, exists_and_left, exists_eq_left, exists_eq_left', exists_eq_right, exists_eq, exists_const, List.getElem?_cons_zero, List.getElem?_cons_succ, List.set_cons_zero, List.set_cons_succ, Option.some.injEq, V.int.injEq, V.bl.injEq, V.ref.injEq, V.str.injEq, List.cons.injEq, and_true, true_and, List.cons_append, List.nil_append, List.append_nil, L2.start, List.map_cons, List.map_nil, List.length_cons, List.length_nil, List.replicate, Nat.sub_self, Nat.reduceSub, Nat.reduceAdd, Nat.zero_add, if_true, if_false, Bool.false_eq_true, Bool.true_eq_false, reduceIte, decide_eq_true_eq, Bool.not_eq_true', decide_eq_false_iff_not]
      have e9 : b.ev < 399 := by have z : i < sk.toNat := hi; omega
      have i9 : i < 398 := by have z : i < sk.toNat := hi; omega
      refine ⟨_, _, hiA, rfl, A, _, b, rfl, ⟨nms, al0, ok, e9⟩, tw.one, by omega, fun H8 v8 f8 b8 t8 => ?_⟩
      have tw8 := tw.left f8 b8 (by omega)
      obtain ⟨dxB, hiB⟩ := tw8.two.ins
      have b8' := tw.two.keep f8 fun x hx z => tw.ne x (BA.fp_all z) hx
      refine ⟨_, _, hiB, rfl, B, _, b, rfl, ⟨nms, al0, ok, e9⟩, b8', by omega, fun H9 v9 f9 b9 t9 => ?_⟩
      have tw9 := tw8.right f9 b9 (Nat.le_refl _)
      refine ⟨frN (frN s6 f8 fun x hx => freA x (BA.fp_all hx)) f9 fun x hx => freB x (BA.fp_all hx), _, tw9, doB_ok ok e9, by rw [close_ev, ev]; push_cast; rfl, (doB_lad b .close).1.trans el, (doB_lad b .close).2.trans er⟩
    · rintro σ H6 ⟨s6, u, b, rfl, tw, ok, ev, el, er⟩
      simp only [a_tVar, a_tC, a_tOp, a_tUn, a_rI, a_rI0, a_rU, a_rEq, a_rNe, a_tTest, a_tB, a_tIsN, a_tNotN, a_tChain, a_tAnd, a_tOr, a_tNot, a_tAndV, a_tOrV, a_tNotV, a_tYes, a_tNext, a_tSeq, a_tCont, a_tBreak, a_tDrop, a_tRet, a_tIfS, a_tNever, a_gName, a_gNil, a_gCons, a_gTup, a_tAsg, a_tNil, a_tCons, a_tTup, a_tLst, a_tCB, a_tCU, a_tMU, a_tFld, a_sFld, a_tSl, a_tNoPart, a_tPart, a_rSlL, a_rSlT, a_rIxL, a_rIxT, a_rCat, a_rRep, a_rCatT, a_tDGet, a_tDIn, a_tDNotIn, a_sDPut, a_tDPop1, a_tDNewK, a_tBM, a_rAppend, a_rExtend, a_iList, a_iEnum, a_iRng1, a_iRng2, a_iVals, a_iItems, a_iRng3, a_iStr, a_tMX, a_tXf, a_wAs, a_tRaise, a_tVeI, a_tOst, a_tMkO, a_tMake, a_rSum, a_rIsi, a_tChain3, a_tAugS, a_rGetL, a_rPutL, a_ipI, a_rSet, a_tCKw, a_rMinD, a_rMin, a_rIxS, a_rSlS, a_iTup, a_rIn, a_rEqD, a_rNeD, upd_same, HO.lst.injEq, HO.tup.injEq, HO.dK.injEq, HO.frz.injEq, a_s0, a_s1, a_s2, a_s3, a_s4, a_s5, a_s6, a_s8, a_scal, a_scals, a_tFor, a_tLc, a_tWhile, a_wipe0, a_wipe1, k_cxU, w_cxU, k_blk, w_blk, and_assoc, exists_and_left, exists_eq_left, exists_eq_left', exists_eq_right, exists_eq, exists_const, List.getElem?_cons_zero, List.getElem?_cons_succ, List.set_cons_zero, List.set_cons_succ, Option.some.injEq, V.int.injEq, V.bl.injEq, V.ref.injEq, V.str.injEq, List.cons.injEq, and_true, true_and, List.cons_append, List.nil_append, List.append_nil, L2.start, List.map_cons, List.map_nil, List.length_cons, List.length_nil, List.replicate, Nat.sub_self, Nat.reduceSub, Nat.reduceAdd, Nat.zero_add, if_true, if_false, Bool.false_eq_true, Bool.true_eq_false, reduceIte, decide_eq_true_eq, Bool.not_eq_true', decide_eq_false_iff_not]
      have h1' := Same.seq (s2.tr s6) h1
      have hL : (IL ns).length = ns.length := by simp
      refine ⟨_, .inl h1', s, ns, 1, 12, rfl, h1', by decide, by decide, by decide, fun H7 px xs s7 gx nx xl xp => ?_⟩
      have xl : xs.length = 12 := xl
      obtain ⟨x4, e4⟩ := at_IL (ns := xs) (k := 4) (by decide) (by omega)
      obtain ⟨x5, e5⟩ := at_IL (ns := xs) (k := 5) (by decide) (by omega)
      obtain ⟨x6, e6⟩ := at_IL (ns := xs) (k := 6) (by decide) (by omega)
      obtain ⟨x7, e7⟩ := at_IL (ns := xs) (k := 7) (by decide) (by omega)
      obtain ⟨many, hm, m7, m16⟩ : ∃ m : Int, (if (if ((IL ns).length : Int) - 2 < 16 then ((IL ns).length : Int) - 2 else 16) > 7 then if ((IL ns).length : Int) - 2 < 16 then ((IL ns).length : Int) - 2 else 16 else 7) = m ∧ 7 ≤ m ∧ m ≤ 16 := ⟨_, rfl, by split <;> (try split) <;> omega, by split <;> (try split) <;> omega⟩
      simp only [hm]
      obtain ⟨place, hp⟩ : ∃ p : Int, x4 % many = p := ⟨_, rfl⟩
      have p0 : 0 ≤ place := by rw [← hp]; exact Int.emod_nonneg _ (by omega)
      have p1 : place < many := by rw [← hp]; exact Int.emod_lt_of_pos _ (by omega)
      refine ⟨px, rfl, _, SqL.of gx, _, e4, _, rfl, by omega, by omega, by omega, ?_⟩
      rw [hp]
      have s27 := s6.tr s7
      have tw7 := tw.same s7
      have pxA : px ∉ A.all := fun z => tw.one.has z nx
      have pxB : px ∉ B.all := fun z => tw.two.has z nx
      have okb := ok_mono (al' := nms ++ [ZZ]) ok fun x hx => List.mem_append_left _ hx
      have L0 : Lp K H2 A B px xs (nms ++ [ZZ]) lad risk H7 (1000 * sk.toNat) b b := ⟨s27, gx, tw7, okb, okb, rel_self (noZZ nok ok), el, er, freA, freB, pxA, pxB⟩
      refine for_go walk_range (fun i σ H' => ∃ (u3 u11 u12 u13 u14 u15 : Option V) (b o : Bk Str), σ = [some (.ref s), some (.ref A.o), some (.ref B.o), u3, some (.int many), some (.ref px), some (.int place), some (.ref l), some (.ref r), some (.ref nm), some (.int sk), u11, u12, u13, u14, u15, none] ∧ Lp K H2 A B px xs (nms ++ [ZZ]) lad risk H' (1000 * sk.toNat + 2000 * i) b o ∧ ((i : Int) ≤ place → b = o)) ⟨_, none, none, none, none, none, b, b, rfl, L0, fun _ => rfl⟩ (fun _ _ _ _ _ => trivial) ?_ ?_
      · rintro i y σ H8 H9 hi ⟨u3, u11, u12, u13, u14, u15, b, o, rfl, L, bo⟩ ⟨rfl, rfl⟩
        simp only [a_gName]
        refine seq_mid (fun σ' H' => ∃ (u15 : Option V) (b o : Bk Str), σ' = [some (.ref s), some (.ref A.o), some (.ref B.o), some (.int (0 + (i : Int))), some (.int many), some (.ref px), some (.int place), some (.ref l), some (.ref r), some (.ref nm), some (.int sk), u11, u12, u13, u14, u15, none] ∧ Lp K H2 A B px xs (nms ++ [ZZ]) lad risk H' (1000 * sk.toNat + 2000 * i + 1000) b o ∧ ((i : Int) < place → b = o)) ?_ ?_
        · rintro σ' Hb ⟨u15', b', o', rfl, L', bo'⟩
          simp only [a_tVar, a_tC, a_tOp, a_tUn, a_rI, a_rI0, a_rU, a_rEq, a_rNe, a_tTest, a_tB, a_tIsN, a_tNotN, a_tChain, a_tAnd, a_tOr, a_tNot, a_tAndV, a_tOrV, a_tNotV, a_tYes, a_tNext, a_tSeq, a_tCont, a_tBreak, a_tDrop, a_tRet, a_tIfS, a_tNever, a_gName, a_gNil, a_gCons, a_gTup, a_tAsg, a_tNil, a_tCons, a_tTup, a_tLst, a_tCB, a_tCU, a_tMU, a_tFld, a_sFld, a_tSl, a_tNoPart, a_tPart, a_rSlL, a_rSlT, a_rIxL, a_rIxT, a_rCat, a_rRep, a_rCatT, a_tDGet, a_tDIn, a_tDNotIn, a_sDPut, a_tDPop1, a_tDNewK, a_tBM, a_rAppend, a_rExtend, a_iList, a_iEnum, a_iRng1, a_iRng2, a_iVals, a_iItems, a_iRng3, a_iStr, a_tMX, a_tXf, a_wAs, a_tRaise, a_tVeI, a_tOst, a_tMkO, a_tMake, a_rSum, a_rIsi, a_tChain3, a_tAugS, a_rGetL, a_rPutL, a_ipI, a_rSet, a_tCKw, a_rMinD, a_rMin, a_rIxS, a_rSlS, a_iTup, a_rIn, a_rEqD, a_rNeD, upd_same, HO.lst.injEq, HO.tup.injEq, HO.dK.injEq, HO.frz.injEq, a_s0, a_s1, a_s2, a_s3, a_s4, a_s5, a_s6, a_s8, a_scal, a_scals, a_tFor, a_tLc, a_tWhile, a_wipe0, a_wipe1, k_cxU, w_cxU, k_blk, w_blk, and_assoc, exists_and_left, exists_eq_left, exists_eq_left', exists_eq_right, exists_eq, exists_const, List.getElem?_cons_zero, List.getElem?_cons_succ, List.set_cons_zero, List.set_cons_succ, Option.some.injEq, V.int.injEq, V.bl.injEq, V.ref.injEq, V.str.injEq, List.cons.injEq, and_true, true_and, List.cons_append, List.nil_append, List.append_nil, L2.start, List.map_cons, List.map_nil, List.length_cons, List.length_nil, List.replicate, Nat.sub_self, Nat.reduceSub, Nat.reduceAdd, Nat.zero_add, if_true, if_false, Bool.false_eq_true, Bool.true_eq_false, reduceIte, decide_eq_true_eq, Bool.not_eq_true', decide_eq_false_iff_not]
          obtain ⟨dxB, hiB⟩ := L'.tw.two.ins
          have ndO := L'.oo.pre.good.nd
          have elO := es_le L'.oo.pre
          have al15 := al.len
          refine ⟨_, _, hiB, rfl, B, _, o', rfl, L'.tw.two, fun p1 n1 => ?_⟩
          have t1 := (Same.rfl' (H := Hb)).new n1 (o := .lst ((keysE o'.es).map V.str))
          have g1 : upd Hb p1 (.lst ((keysE o'.es).map V.str)) p1 = some (.lst ((keysE o'.es).map V.str)) := upd_same
          generalize upd Hb p1 (.lst ((keysE o'.es).map V.str)) = H10 at *
          have L10 := L'.same t1
          refine ⟨p1, rfl, ⟨_, SqL.of g1⟩, fun D hD => ?_⟩
          refine lc_ex (walk_list (xs := (keysE o'.es).map V.str)) hD (fun i H' acc => Paired (StAt K H') acc (o'.es.take i)) .nil (fun _ s => SqL.of (s _ _ g1)) ?_ ?_
          · rintro j y H3 H4 acc hi' s hD3 pa ⟨rfl, e⟩
            unfold keysE at e
            rw [List.getElem?_map, List.getElem?_map] at e
            cases ex : o'.es[j]? with
            | none => rw [ex] at e; cases e
            | some pr =>
            rw [ex] at e
            cases e
            have hm := List.mem_of_getElem? ex
            have hg : getE o'.es pr.1 = some pr.2 := mem_getE ndO hm
            have b3 := L10.tw.two.same s
            obtain ⟨dx3, hi3⟩ := b3.ins
            have al9 := Paired.length pa
            rw [List.length_take] at al9
            simp only [a_tVar, a_tC, a_tOp, a_tUn, a_rI, a_rI0, a_rU, a_rEq, a_rNe, a_tTest, a_tB, a_tIsN, a_tNotN, a_tChain, a_tAnd, a_tOr, a_tNot, a_tAndV, a_tOrV, a_tNotV, a_tYes, a_tNext, a_tSeq, a_tCont, a_tBreak, a_tDrop, a_tRet, a_tIfS, a_tNever, a_gName, a_gNil, a_gCons, a_gTup, a_tAsg, a_tNil, a_tCons, a_tTup, a_tLst, a_tCB, a_tCU, a_tMU, a_tFld, a_sFld, a_tSl, a_tNoPart, a_tPart, a_rSlL, a_rSlT, a_rIxL, a_rIxT, a_rCat, a_rRep, a_rCatT, a_tDGet, a_tDIn, a_tDNotIn, a_sDPut, a_tDPop1, a_tDNewK, a_tBM, a_rAppend, a_rExtend, a_iList, a_iEnum, a_iRng1, a_iRng2, a_iVals, a_iItems, a_iRng3, a_iStr, a_tMX, a_tXf, a_wAs, a_tRaise, a_tVeI, a_tOst, a_tMkO, a_tMake, a_rSum, a_rIsi, a_tChain3, a_tAugS, a_rGetL, a_rPutL, a_ipI, a_rSet, a_tCKw, a_rMinD, a_rMin, a_rIxS, a_rSlS, a_iTup, a_rIn, a_rEqD, a_rNeD, upd_same, HO.lst.injEq, HO.tup.injEq, HO.dK.injEq, HO.frz.injEq, a_s0, a_s1, a_s2, a_s3, a_s4, a_s5, a_s6, a_s8, a_scal, a_scals, a_tFor, a_tLc, a_tWhile, a_wipe0, a_wipe1, k_cxU, w_cxU, k_blk, w_blk, and_assoc, exists_and_left, exists_eq_left, exists_eq_left', exists_eq_right, exists_eq, exists_const, List.getElem?_cons_zero, List.getElem?_cons_succ, List.set_cons_zero, List.set_cons_succ, Option.some.injEq, V.int.injEq, V.bl.injEq, V.ref.injEq, V.str.injEq, List.cons.injEq, and_true, true_and, List.cons_append, List.nil_append, List.append_nil, L2.start, List.map_cons, List.map_nil, List.length_cons, List.length_nil, List.replicate, Nat.sub_self, Nat.reduceSub, Nat.reduceAdd, Nat.zero_add, if_true, if_false, Bool.false_eq_true, Bool.true_eq_false, reduceIte, decide_eq_true_eq, Bool.not_eq_true', decide_eq_false_iff_not]
            refine ⟨_, _, hi3, rfl, B, _, o', pr.1, pr.2, rfl, b3, hg, fun v hv => fun t nt => ?_⟩
            have g3 := get_new hD3 nt (o := .tup [.str pr.1, v])
            have s3 := (Same.rfl' (H := H4)).new nt (o := .tup [.str pr.1, v])
            have tp := tups_put (o := .lst (acc ++ [.ref t])) g3 (fun _ z => nomatch z)
            refine ⟨acc, g3, szl _ (by omega), (s.tr s3).put hD, ?_⟩
            rw [take_snoc ex]
            exact paired_snoc (Paired.mapP pa fun v' p' z => z.keep (s3.tups.tr tp)) ⟨t, v, rfl, .inl (tp _ _ upd_same), hv.keep (s3.tups.tr tp)⟩
          rintro H12 us t12 gD ps
          rw [List.length_map, show (keysE o'.es).length = o'.es.length by unfold keysE; rw [List.length_map], List.take_length] at ps
          have DA : D ∉ A.all := fun z => L10.tw.one.has z hD
          have DB : D ∉ B.all := fun z => L10.tw.two.has z hD
          have L12 := L10.same t12
          refine ⟨_, .inl (SqL.of (L12.s _ _ gl2)), s, ns, _, 12, rfl, Same.seq (s2.tr L12.s) h1, by omega, by decide, by decide, fun H13 py ys s13 gy ny yl yp => ?_⟩
          have L13 := L12.same s13
          refine ⟨nms ++ [ZZ], nms, B, _, o', nm, py, _, ys, rfl, al, L13.oo, L13.tw.two, rel_none L13.rel, L13.s _ _ gn2, nok, fun x hx => List.mem_append_left _ hx, by rw [L13.lad]; simp, gy, yl, yp, fun H14 t d s14 da dk nz => ?_⟩
          have L14 := L13.same s14
          have dkB := deed_B L14.rel nz dk
          refine ⟨nms ++ [ZZ], A, _, b', t, d, rfl, da, al, L14.ob, dkB, L14.tw.one, by omega, fun H15 v1 f15 b15 t15 => ?_⟩
          have two15 := L14.tw.two.keep f15 fun x hx z => L14.tw.ne x (BA.fp_all z) hx
          have tw15 := L14.tw.left f15 b15 (by omega)
          refine ⟨nms ++ [ZZ], B, _, o', t, d, rfl, da.keep f15.tups, al, L14.oo, dk, two15, by omega, fun H16 v2 f16 b16 t16 => ?_⟩
          have tw16 := tw15.right f16 b16 (Nat.le_refl _)
          have S16 : Same H2 H16 := frN (frN L14.s f15 fun x hx => freA x (BA.fp_all hx)) f16 fun x hx => freB x (BA.fp_all hx)
          have X16 : H16 px = some (.lst (IL xs)) := f16.keep _ _ (f15.keep _ _ L14.x fun z => pxA (BA.fp_all z)) fun z => pxB (BA.fp_all z)
          have D16 : H16 D = some (.lst us) := f16.keep _ _ (f15.keep _ _ (s14 _ _ (s13 _ _ gD)) fun z => DA (BA.fp_all z)) fun z => DB (BA.fp_all z)
          have K16 := ((s13.tups.tr s14.tups).tr f15.tups).tr f16.tups
          have ob16 := doB_ok L14.ob dkB
          have oo16 := doB_ok L14.oo dk
          have T15 := t15.keep f16 fun x hx => L14.tw.two.has (BA.fp_all hx)
          refine ⟨nms ++ [ZZ], B, _, o', d, D, t, us, rfl, al, L14.oo, dk, oo16, tw16.two, da.keep (f15.tups.tr f16.tups), D16, Paired.mapP ps fun v' p' z => z.keep K16, fun H17 s17 => ⟨true, rfl, ?_⟩⟩
          rw [if_neg (fun z => Bool.noConfusion z)]
          have rkO : (doB o' d).1.risk = risk := (doB_lad o' d).2.trans L14.risk
          have ldO : (doB o' d).1.ladder = lad := (doB_lad o' d).1.trans L14.lad
          have tr17 := tr2.keep (S16.tr s17).tups
          refine ⟨nms ++ [ZZ], B, _, (doB o' d).1, r, rfl, al, oo16, tw16.two.same s17, by rw [rkO]; exact tr17, fun H18 s18 => ⟨true, rfl, ?_⟩⟩
          rw [if_neg (fun z => Bool.noConfusion z)]
          have s168 := s17.tr s18
          have tw18 := tw16.same s168
          obtain ⟨dxA, hiA⟩ := tw18.one.ins
          refine ⟨_, _, hiA, rfl, A, _, _, rfl, tw18.one, fun p19 n19 => ?_⟩
          have s19 := (Same.rfl' (H := H18)).new n19 (o := .lst ((keysE (doB b' d).1.es).map V.str))
          refine ⟨p19, rfl, _, .inl (SqL.of upd_same), rfl, flat_strs _, ?_⟩
          rw [inV_strs]
          generalize upd H18 p19 (.lst ((keysE (doB b' d).1.es).map V.str)) = H19 at *
          have s169 := s168.tr s19
          have tw19 := tw16.same s169
          obtain ⟨dxA9, hiA9⟩ := tw19.one.ins
          have nd16 := ob16.pre.good.nd
          by_cases zc : ∃ e, getE (doB b' d).1.es ZZ = some e ∧ e.word ≠ .waits
          · obtain ⟨e, ge, we⟩ := zc
            rw [if_pos (decide_eq_true (getE_some_iff.mpr ⟨e, ge⟩))]
            refine ⟨_, _, hiA9, rfl, A, _, _, ZZ, e, rfl, tw19.one, ge, fun v hv => ?_⟩
            obtain ⟨a5, c5, rfl, t5, t6⟩ := hv
            refine ⟨a5, rfl, _, t5.sq, .str (wordS e.word), atI_n 0 rfl rfl, rfl, ?_⟩
            rw [if_pos (fun z => we ((wordS_w' e.word).mp (V.str.inj z)))]
            exact q _
          have nt : ¬ ZTaken ZZ (doB b' d).1.es := not_taken nd16 fun e ge => Classical.byContradiction fun we => zc ⟨e, ge, we⟩
          obtain ⟨R, et⟩ := (two_books L14.rel L14.ob L14.oo nz dk).resolve_left nt
          refine ite_both ?_ ?_
          · have T19 := (told_dp (T15.keep (s169.fr []) fun x hx => absurd hx (by simp)))
            have U19 := (told_dp (t16.keep (s169.fr []) fun x hx => absurd hx (by simp)))
            have sh : SeqAt.shaped (tellD (tellZ ZZ (doB o' d).2)) = true := tell_shaped ((tell_ok o' d).z.mono fun x hx => nm_ok (al.ok x (L14.oo.pre.al x hx)))
            rw [et] at T19
            refine ⟨_, T19, _, U19, sh, sh, ?_⟩
            rw [PySem.SeqAt.eqv_refl _ (SeqAt.canLay_of_shaped sh), if_neg (fun z => Bool.noConfusion z)]
            refine ⟨nms ++ [ZZ], A, B, _, _, (doB b' d).1, (doB o' d).1, rfl, al, ob16, oo16, tw19.one, tw19.two, R.ev.symm, R.es, rel_line R, fun H20 s20 => ⟨true, rfl, ?_⟩⟩
            rw [if_neg (fun z => Bool.noConfusion z)]
            have s1620 := s169.tr s20
            have tr20 := tr2.keep (S16.tr s1620).tups
            refine ⟨nms ++ [ZZ], A, _, (doB b' d).1, r, rfl, al, ob16, (tw16.same s1620).one, by rw [← R.risk, rkO]; exact tr20, fun H21 s21 => ⟨true, rfl, ?_⟩⟩
            rw [if_neg (fun z => Bool.noConfusion z)]
            have s1621 := s1620.tr s21
            refine ⟨_, _, ⟨S16.tr s1621, s1621 _ _ X16, ⟨(tw16.same s1621).one.up (by omega), (tw16.same s1621).two.up (by omega), tw16.ne⟩, ob16, oo16, R, ldO, rkO, freA, freB, pxA, pxB⟩, fun z => ?_⟩
            have e := bo' (by omega)
            rw [e]
          · intro hin hR
            obtain ⟨e, ge⟩ := getE_some_iff.mp (of_decide_eq_true hin)
            have we : e.word = .waits := Classical.byContradiction fun z => zc ⟨e, ge, z⟩
            refine ⟨_, _, hiA9, rfl, A, _, _, ZZ, e, rfl, tw19.one, ge, fun v hv => ?_⟩
            obtain ⟨a5, c5, rfl, t5, t6⟩ := hv
            refine ⟨a5, rfl, _, t5.sq, .str (wordS e.word), atI_n 0 rfl rfl, rfl, ?_⟩
            rw [if_neg (fun z => z (by rw [we]; rfl))]
            exact hR
        · intro N hN
          simp only [a_tVar, a_tC, a_tOp, a_tUn, a_rI, a_rI0, a_rU, a_rEq, a_rNe, a_tTest, a_tB, a_tIsN, a_tNotN, a_tChain, a_tAnd, a_tOr, a_tNot, a_tAndV, a_tOrV, a_tNotV, a_tYes, a_tNext, a_tSeq, a_tCont, a_tBreak, a_tDrop, a_tRet, a_tIfS, a_tNever, a_gName, a_gNil, a_gCons, a_gTup, a_tAsg, a_tNil, a_tCons, a_tTup, a_tLst, a_tCB, a_tCU, a_tMU, a_tFld, a_sFld, a_tSl, a_tNoPart, a_tPart, a_rSlL, a_rSlT, a_rIxL, a_rIxT, a_rCat, a_rRep, a_rCatT, a_tDGet, a_tDIn, a_tDNotIn, a_sDPut, a_tDPop1, a_tDNewK, a_tBM, a_rAppend, a_rExtend, a_iList, a_iEnum, a_iRng1, a_iRng2, a_iVals, a_iItems, a_iRng3, a_iStr, a_tMX, a_tXf, a_wAs, a_tRaise, a_tVeI, a_tOst, a_tMkO, a_tMake, a_rSum, a_rIsi, a_tChain3, a_tAugS, a_rGetL, a_rPutL, a_ipI, a_rSet, a_tCKw, a_rMinD, a_rMin, a_rIxS, a_rSlS, a_iTup, a_rIn, a_rEqD, a_rNeD, upd_same, HO.lst.injEq, HO.tup.injEq, HO.dK.injEq, HO.frz.injEq, a_s0, a_s1, a_s2, a_s3, a_s4, a_s5, a_s6, a_s8, a_scal, a_scals, a_tFor, a_tLc, a_tWhile, a_wipe0, a_wipe1, k_cxU, w_cxU, k_blk, w_blk, and_assoc, exists_and_left, exists_eq_left, exists_eq_left', exists_eq_right, exists_eq, exists_const, List.getElem?_cons_zero, List.getElem?_cons_succ, List.set_cons_zero, List.set_cons_succ, Option.some.injEq, V.int.injEq, V.bl.injEq, V.ref.injEq, V.str.injEq, List.cons.injEq, and_true, true_and, List.cons_append, List.nil_append, List.append_nil, L2.start, List.map_cons, List.map_nil, List.length_cons, List.length_nil, List.replicate, Nat.sub_self, Nat.reduceSub, Nat.reduceAdd, Nat.zero_add, if_true, if_false, Bool.false_eq_true, Bool.true_eq_false, reduceIte, decide_eq_true_eq, Bool.not_eq_true', decide_eq_false_iff_not]
          by_cases c : 0 + (i : Int) = place
          · rw [if_pos c]
            have e := bo (by omega)
            subst e
            obtain ⟨dxA, hiA⟩ := L.tw.one.ins
            have gl9 := L.s _ _ gl2
            refine ⟨_, _, hiA, rfl, A, _, b, rfl, L.tw.one, _, SqL.of L.x, _, e5, _, rfl, by decide, _, rfl, _, _, hiA, rfl, _, SqL.of L.x, _, e6, _, .inl (SqL.of gl9), _, rfl, ?_, _, SqL.of L.x, _, e7, _, rfl, by decide, ?_⟩
            · have : (IL lad).length = lad.length := by simp
              omega
            refine ⟨_, SqL.of L.x, fun p9 n9 => ?_⟩
            have hll : (IL lad).length = lad.length := by simp
            rw [hll]
            have gc : upd H9 p9 (.lst (cutV (IL xs) (some 8) none)) p9 = some (.lst (IL (xs.drop 8))) := by
              rw [upd_same, cutV_drop _ _ (by decide)]
              show _ = some (HO.lst ((xs.drop 8).map V.int))
              rw [List.map_drop]
              rfl
            have s10 := (Same.rfl' (H := H9)).new n9 (o := .lst (cutV (IL xs) (some 8) none))
            refine ⟨p9, xs.drop 8, rfl, SqL.of gc, by rw [List.length_drop]; omega, fun x hx => xp x (List.mem_of_mem_drop hx), fun H10 cc ch s11 tc okc gcd => ?_⟩
            have m0 : 0 ≤ x6 % (lad.length : Int) := Int.emod_nonneg _ (by omega)
            have m1 : x6 % (lad.length : Int) < lad.length := Int.emod_lt_of_pos _ (by omega)
            have v0 : 0 ≤ x5 % 3 := Int.emod_nonneg _ (by decide)
            have w0 : 0 ≤ x7 % 4 := Int.emod_nonneg _ (by decide)
            have evs := L.ob.pre.e0
            have ev9 := L.ob.pre.e9
            have bl : b.ladder = lad := L.lad
            have L10 := L.same (s10.tr s11)
            have dk : DeedOk (nms ++ [ZZ]) b (.wish ZZ (1 + x6 % (lad.length : Int)) (if b.ev + x5 % 3 < 399 then b.ev + x5 % 3 else 399) (if (if b.ev + x5 % 3 < 399 then b.ev + x5 % 3 else 399) + 1 + x7 % 4 < 400 then (if b.ev + x5 % 3 < 399 then b.ev + x5 % 3 else 399) + 1 + x7 % 4 else 400) ch) := by
              refine ⟨List.mem_append_right _ (List.mem_singleton.mpr rfl), rel_none L.rel, ⟨?_, ?_, ?_, ?_, ?_, okc⟩, ?_⟩
              · show 1 ≤ 1 + x6 % (lad.length : Int)
                omega
              · rw [bl]
                show 1 + x6 % (lad.length : Int) ≤ (lad.length : Int)
                omega
              · show 0 ≤ (if b.ev + x5 % 3 < 399 then b.ev + x5 % 3 else 399)
                split <;> omega
              · show (if b.ev + x5 % 3 < 399 then b.ev + x5 % 3 else 399) < (if (if b.ev + x5 % 3 < 399 then b.ev + x5 % 3 else 399) + 1 + x7 % 4 < 400 then (if b.ev + x5 % 3 < 399 then b.ev + x5 % 3 else 399) + 1 + x7 % 4 else 400)
                split <;> split <;> omega
              · show (if (if b.ev + x5 % 3 < 399 then b.ev + x5 % 3 else 399) + 1 + x7 % 4 < 400 then (if b.ev + x5 % 3 < 399 then b.ev + x5 % 3 else 399) + 1 + x7 % 4 else 400) ≤ 400
                split <;> omega
              · split <;> omega
            refine ⟨A, _, b, ZZ, _, _, _, cc, ch, rfl, tc, gcd, ⟨⟨_, al, L10.ob, dk⟩, L10.tw.one, by omega, fun H11 v f1 b1 tl => ?_⟩⟩
            obtain ⟨y, ey⟩ := wish_told b ZZ (1 + x6 % (lad.length : Int)) (if b.ev + x5 % 3 < 399 then b.ev + x5 % 3 else 399) (if (if b.ev + x5 % 3 < 399 then b.ev + x5 % 3 else 399) + 1 + x7 % 4 < 400 then (if b.ev + x5 % 3 < 399 then b.ev + x5 % 3 else 399) + 1 + x7 % 4 else 400) ch
            rw [ey] at tl
            refine ⟨y, tl, ?_⟩
            cases y with
            | true =>
              rw [if_pos rfl]
              exact q _
            | false =>
              rw [if_neg (fun z => Bool.noConfusion z)]
              exact hN _ _ ⟨_, _, b, rfl, ⟨frN L10.s f1 fun x hx => freA x (BA.fp_all hx), f1.keep _ _ L10.x fun z => pxA (BA.fp_all z), L10.tw.left f1 b1 (by omega), doB_ok L10.ob dk, L10.oo, rel_wish L10.rel ey, L10.lad, L10.risk, freA, freB, pxA, pxB⟩, fun z => absurd z (by omega)⟩
          · rw [if_neg c]
            exact hN _ _ ⟨u15, b, o, rfl, L.up (by omega), fun z => bo (by omega)⟩
      · rintro σ H8 ⟨u3, u11, u12, u13, u14, u15, b, o, rfl, L, bo⟩
        have al15 := al.len
        obtain ⟨dxA, hiA⟩ := L.tw.one.ins
        have ndB := L.ob.pre.good.nd
        have elB := es_le L.ob.pre
        dsimp only
        refine seq_mid (fun σ' H' => ∃ (a14 a15 a16 : Option V) (m : Nat), σ' = [some (.ref s), some (.ref A.o), some (.ref B.o), u3, some (.int many), some (.ref px), some (.int place), some (.ref l), some (.ref r), some (.ref nm), some (.int sk), u11, u12, u13, a14, a15, a16] ∧ TwoAt K H' A B m o o) ?_ ?_
        · rintro σ' He ⟨a14, a15, a16, m, rfl, tw⟩
          simp only [a_tVar, a_tC, a_tOp, a_tUn, a_rI, a_rI0, a_rU, a_rEq, a_rNe, a_tTest, a_tB, a_tIsN, a_tNotN, a_tChain, a_tAnd, a_tOr, a_tNot, a_tAndV, a_tOrV, a_tNotV, a_tYes, a_tNext, a_tSeq, a_tCont, a_tBreak, a_tDrop, a_tRet, a_tIfS, a_tNever, a_gName, a_gNil, a_gCons, a_gTup, a_tAsg, a_tNil, a_tCons, a_tTup, a_tLst, a_tCB, a_tCU, a_tMU, a_tFld, a_sFld, a_tSl, a_tNoPart, a_tPart, a_rSlL, a_rSlT, a_rIxL, a_rIxT, a_rCat, a_rRep, a_rCatT, a_tDGet, a_tDIn, a_tDNotIn, a_sDPut, a_tDPop1, a_tDNewK, a_tBM, a_rAppend, a_rExtend, a_iList, a_iEnum, a_iRng1, a_iRng2, a_iVals, a_iItems, a_iRng3, a_iStr, a_tMX, a_tXf, a_wAs, a_tRaise, a_tVeI, a_tOst, a_tMkO, a_tMake, a_rSum, a_rIsi, a_tChain3, a_tAugS, a_rGetL, a_rPutL, a_ipI, a_rSet, a_tCKw, a_rMinD, a_rMin, a_rIxS, a_rSlS, a_iTup, a_rIn, a_rEqD, a_rNeD, upd_same, HO.lst.injEq, HO.tup.injEq, HO.dK.injEq, HO.frz.injEq, a_s0, a_s1, a_s2, a_s3, a_s4, a_s5, a_s6, a_s8, a_scal, a_scals, a_tFor, a_tLc, a_tWhile, a_wipe0, a_wipe1, k_cxU, w_cxU, k_blk, w_blk, and_assoc, exists_and_left, exists_eq_left, exists_eq_left', exists_eq_right, exists_eq, exists_const, List.getElem?_cons_zero, List.getElem?_cons_succ, List.set_cons_zero, List.set_cons_succ, Option.some.injEq, V.int.injEq, V.bl.injEq, V.ref.injEq, V.str.injEq, List.cons.injEq, and_true, true_and, List.cons_append, List.nil_append, List.append_nil, L2.start, List.map_cons, List.map_nil, List.length_cons, List.length_nil, List.replicate, Nat.sub_self, Nat.reduceSub, Nat.reduceAdd, Nat.zero_add, if_true, if_false, Bool.false_eq_true, Bool.true_eq_false, reduceIte, decide_eq_true_eq, Bool.not_eq_true', decide_eq_false_iff_not]
          have zo := rel_none L.rel
          have ro := rel_self zo
          have elO := es_le L.oo.pre
          have kl : (keysE o.es).length ≤ 15 := by unfold keysE; rw [List.length_map]; omega
          have nmO : ∀ x ∈ keysE o.es, PyData.strOk x = true := fun x hx => nm_ok (al.ok x (L.oo.pre.al x hx))
          refine ⟨nms ++ [ZZ], A, B, _, _, o, o, rfl, al, L.oo, L.oo, tw.one, tw.two, rfl, ro.es, rel_line ro, fun H9 s9 => ⟨true, rfl, ?_⟩⟩
          rw [if_pos rfl]
          have tw9 := tw.same s9
          obtain ⟨dxA9, hiA9⟩ := tw9.one.ins
          refine ⟨_, _, hiA9, rfl, A, _, o, rfl, tw9.one, fun p10 n10 => ?_⟩
          have s10 := (Same.rfl' (H := H9)).new n10 (o := .lst ((keysE o.es).map V.str))
          have g10 : upd H9 p10 (.lst ((keysE o.es).map V.str)) p10 = some (.lst ((keysE o.es).map V.str)) := upd_same
          generalize upd H9 p10 (.lst ((keysE o.es).map V.str)) = H10 at *
          have tw10 := tw9.same s10
          obtain ⟨dxB10, hiB10⟩ := tw10.two.ins
          refine ⟨_, _, hiB10, rfl, B, _, o, rfl, tw10.two, fun p11 n11 => ?_⟩
          have s11 := (Same.rfl' (H := H10)).new n11 (o := .lst ((keysE o.es).map V.str))
          have g11 : upd H10 p11 (.lst ((keysE o.es).map V.str)) p11 = some (.lst ((keysE o.es).map V.str)) := upd_same
          generalize upd H10 p11 (.lst ((keysE o.es).map V.str)) = H11 at *
          have tw11 := tw10.same s11
          have shk := shaped_strs (keysE o.es) nmO
          refine ⟨_, .lst (SqL.of (s11 _ _ g10)) (dp_strs _), _, .lst (SqL.of g11) (dp_strs _), shk, shk, ?_⟩
          rw [PySem.SeqAt.eqv_refl _ (SeqAt.canLay_of_shaped shk), if_pos rfl]
          obtain ⟨dxA11, hiA11⟩ := tw11.one.ins
          refine ⟨_, _, hiA11, rfl, nms ++ [ZZ], A, _, o, rfl, al, tw11.one, L.oo, fun H12 pl us s12 g12 n12 pu => ?_⟩
          have tw12 := tw11.same s12
          obtain ⟨dxB12, hiB12⟩ := tw12.two.ins
          refine ⟨_, _, hiB12, rfl, nms ++ [ZZ], B, _, o, rfl, al, tw12.two, L.oo, fun H13 pl2 us2 s13 g13 n13 pu2 => ?_⟩
          have lnm : ∀ p ∈ lineE o, PyData.strOk p.1 = true := fun p hp => by
            unfold lineE at hp
            obtain ⟨x, hx, e⟩ := List.mem_map.mp hp
            rw [← e]
            obtain ⟨en, he, _⟩ := mem_by hx
            exact nmO x (List.mem_map.mpr ⟨_, he, rfl⟩)
          have shl : SeqAt.shaped (.list ((lineE o).map lnD)) = true := shaped_list _ _ (fun p hp => lnD_lay (lnm p hp)) 6 (by decide) lnD_dep
          refine ⟨_, .lst (SqL.of (s13 _ _ g12)) (lns_dp (Paired.mapP pu fun v' p' z => z.keep s13.tups)), _, .lst (SqL.of g13) (lns_dp pu2), shl, shl, ?_⟩
          rw [PySem.SeqAt.eqv_refl _ (SeqAt.canLay_of_shaped shl)]
          exact q _
        · intro N hN
          simp only [a_tVar, a_tC, a_tOp, a_tUn, a_rI, a_rI0, a_rU, a_rEq, a_rNe, a_tTest, a_tB, a_tIsN, a_tNotN, a_tChain, a_tAnd, a_tOr, a_tNot, a_tAndV, a_tOrV, a_tNotV, a_tYes, a_tNext, a_tSeq, a_tCont, a_tBreak, a_tDrop, a_tRet, a_tIfS, a_tNever, a_gName, a_gNil, a_gCons, a_gTup, a_tAsg, a_tNil, a_tCons, a_tTup, a_tLst, a_tCB, a_tCU, a_tMU, a_tFld, a_sFld, a_tSl, a_tNoPart, a_tPart, a_rSlL, a_rSlT, a_rIxL, a_rIxT, a_rCat, a_rRep, a_rCatT, a_tDGet, a_tDIn, a_tDNotIn, a_sDPut, a_tDPop1, a_tDNewK, a_tBM, a_rAppend, a_rExtend, a_iList, a_iEnum, a_iRng1, a_iRng2, a_iVals, a_iItems, a_iRng3, a_iStr, a_tMX, a_tXf, a_wAs, a_tRaise, a_tVeI, a_tOst, a_tMkO, a_tMake, a_rSum, a_rIsi, a_tChain3, a_tAugS, a_rGetL, a_rPutL, a_ipI, a_rSet, a_tCKw, a_rMinD, a_rMin, a_rIxS, a_rSlS, a_iTup, a_rIn, a_rEqD, a_rNeD, upd_same, HO.lst.injEq, HO.tup.injEq, HO.dK.injEq, HO.frz.injEq, a_s0, a_s1, a_s2, a_s3, a_s4, a_s5, a_s6, a_s8, a_scal, a_scals, a_tFor, a_tLc, a_tWhile, a_wipe0, a_wipe1, k_cxU, w_cxU, k_blk, w_blk, and_assoc, exists_and_left, exists_eq_left, exists_eq_left', exists_eq_right, exists_eq, exists_const, List.getElem?_cons_zero, List.getElem?_cons_succ, List.set_cons_zero, List.set_cons_succ, Option.some.injEq, V.int.injEq, V.bl.injEq, V.ref.injEq, V.str.injEq, List.cons.injEq, and_true, true_and, List.cons_append, List.nil_append, List.append_nil, L2.start, List.map_cons, List.map_nil, List.length_cons, List.length_nil, List.replicate, Nat.sub_self, Nat.reduceSub, Nat.reduceAdd, Nat.zero_add, if_true, if_false, Bool.false_eq_true, Bool.true_eq_false, reduceIte, decide_eq_true_eq, Bool.not_eq_true', decide_eq_false_iff_not]
          refine ⟨_, _, hiA, rfl, A, _, b, rfl, L.tw.one, fun p9 n9 => ?_⟩
          have s9 := (Same.rfl' (H := H8)).new n9 (o := .lst ((keysE b.es).map V.str))
          refine ⟨p9, rfl, _, .inl (SqL.of upd_same), rfl, flat_strs _, ?_⟩
          rw [inV_strs]
          generalize upd H8 p9 (.lst ((keysE b.es).map V.str)) = H9 at *
          have L9 := L.same s9
          by_cases hin : ZZ ∈ keysE b.es
          · rw [if_pos (decide_eq_true hin)]
            obtain ⟨e, ge⟩ := getE_some_iff.mp hin
            have he := getE_mem ge
            have hw : e.word = .waits := L.rel.zw _ he rfl
            obtain ⟨dxA9, hiA9⟩ := L9.tw.one.ins
            refine ⟨_, _, hiA9, rfl, A, _, b, ZZ, rfl, ⟨⟨_, al, L9.ob, ⟨e, he, by rw [hw]; decide⟩⟩, L9.tw.one, by omega, fun H10 v f10 b10 tl => ?_⟩⟩
            intro p11 n11
            obtain ⟨p, rfl, gp, np⟩ := (show NewAt H9 H10 v (fillN (dropB b ZZ)) from tl)
            obtain ⟨w1, w2⟩ := withdraw_z L9.rel L9.oo
            rw [w2] at gp
            have b10 : BookAt K H10 A _ (fillB (dropB b ZZ)) := b10
            rw [w1] at b10
            have s11 := (Same.rfl' (H := H10)).new n11 (o := .lst [])
            refine ⟨_, .lst (SqL.of (s11 _ _ gp)) .nil, _, .lst (SqL.of upd_same) .nil, shaped_nil, shaped_nil, ?_⟩
            rw [PySem.SeqAt.eqv_refl _ (SeqAt.canLay_of_shaped shaped_nil), if_neg (fun z => Bool.noConfusion z)]
            have two10 := L9.tw.two.keep f10 fun x hx z => L9.tw.ne x (BA.fp_all z) hx
            exact hN _ _ ⟨_, _, _, _, rfl, ⟨b10.same s11, (two10.same s11).up (by omega), L9.tw.ne⟩⟩
          · rw [if_neg (fun z => hin (of_decide_eq_true z))]
            have e := rel_eq L.rel hin
            subst e
            exact hN _ _ ⟨_, _, _, _, rfl, L9.tw⟩
end
end Nb
end
section
set_option Elab.async false
set_option linter.all false
set_option maxRecDepth 100000
set_option maxHeartbeats 0
open PySem PySem.W PySem.Calls PyProof.Rows
theorem PySem.Challenge.cw_nightbook_k87_whole_line_stable_holds : PySem.Challenge.rw_nightbook_k87_whole_line_stable.Holds := by
  w_on; o_law
  refine HandSHeadRun.head_any (r := OpenLaw.row PySem.Challenge.rw_nightbook_k87_whole_line_stable) (q := view (OpenLaw.row PySem.Challenge.rw_nightbook_k87_whole_line_stable).prog [78]) (H := Nb.hk) (ob := Nb.ob) (M := 20000) (loose := Nb.loose) (d := HandSHeadRun.topDef (OpenLaw.row PySem.Challenge.rw_nightbook_k87_whole_line_stable).prog 78) (kwd := []) Nb.ob_eq
    (by kernel_rfl) (fun s => by kernel_rfl) Nb.run (by kernel_rfl) (by kernel_rfl) (by kernel_rfl) (by rfl) (by first | assumption | decide +kernel) (by decide +kernel) ⟨rfl, rfl, rfl, rfl, rfl, by decide +kernel⟩ ?hw ?hc
  case hw => w_witness2
  case hc =>
    refine L2.walk_ofE (l := PySem.Challenge.rw_nightbook_k87_whole_line_stable) (n := 63) (k := 10) (x := "_law_script") (CX := L2.CX0) rfl (by decide) (by kernel_rfl) ⟨rfl, by decide, by decide⟩ ?F (fun _ _ _ _ z => z)
    intro w mg fa h Y G hmg0
    obtain ⟨K, KX, c, e⟩ := Y
    have hmg : mg ("law" : PySem.Str) = some (.ref fa) := by
      have e : (HandSHeadRun.topDef (OpenLaw.row PySem.Challenge.rw_nightbook_k87_whole_line_stable).prog 78).name = ("law" : PySem.Str) := by kernel_rfl
      rw [← e]
      exact hmg0
    have T := Nb.txt KX G c e
    have e2 := hmg.symm.trans T.g_law
    cases e2
    obtain ⟨fd, hb, hF⟩ := Nb.g_law T
    exact ⟨K, fd, Nb.sp_law K, KX, hb, fun H a ns hl hO hS => ⟨a, ns, rfl, hS, hl, fun _ => rfl⟩, fun base _ _ => hF _ w base⟩
end
