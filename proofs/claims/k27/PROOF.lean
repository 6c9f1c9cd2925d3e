import PyProof.Rows.All
import Wide.All
import OpenK.AllK
import Wide.FinOn
import HandS.ForMost
import HandS.ForExc
import PySem.Challenge.RW_onceroad_k27_whole_pairs_and_covers
import HandS.Defaults
import HandS.HeadHook4
import HandS.ExcInit
import KE.KStateDown
import HandS.Head0
import HandS.Head1
import HandS.Head2
import HandS.HeadEnd
import HandS.ExcCtx
import HandS.Style
import HandS.RaiseFrom
import PyProof.ReprRoads
import PyProof.ReprBulk
import HandS.HotCalls
import HandS.IsInst
import HandS.WideBits
import HandS.Walk
import HandS.Deep
import HandS.Codes
import PyProof.StrLawsRepr
set_option Elab.async false
set_option linter.all false
set_option maxRecDepth 100000
set_option maxHeartbeats 4000000
namespace K27
open PySem PySem.Spec PyProof.Rows L2
/-- a row of the program's top -/
def top (i : Nat) : Stmt := PySem.Challenge.pw_onceroad_k27_whole_pairs_and_covers.main.body.getD i (.Pass ⟨0, 0, 0, 0⟩)
abbrev sOdd_init : Stmt := inClass (top 8) 0
abbrev sis_place : Stmt := top 10
abbrev sis_tie : Stmt := top 11
abbrev sare_pairs : Stmt := top 12
abbrev srising : Stmt := top 13
abbrev sroad_up : Stmt := top 15
abbrev sring_of : Stmt := top 16
abbrev ssided : Stmt := top 17
abbrev ssides_of : Stmt := top 18
abbrev sreached_from : Stmt := top 19
abbrev sgrown : Stmt := top 20
abbrev sgreatest_by_sides : Stmt := top 21
abbrev sis_cover : Stmt := top 22
abbrev sshows_cover : Stmt := top 23
abbrev sis_name : Stmt := top 27
abbrev snumbers_of : Stmt := top 31
abbrev sis_two : Stmt := top 32
abbrev sbits_of : Stmt := top 33
abbrev sWeb_init : Stmt := inClass (top 34) 0
abbrev sWeb_places : Stmt := inClass (top 34) 1
abbrev sWeb_number_of : Stmt := inClass (top 34) 3
abbrev sWeb_named : Stmt := inClass (top 34) 4
abbrev sWeb_bits_beside : Stmt := inClass (top 34) 5
abbrev sWeb_beside : Stmt := inClass (top 34) 6
abbrev sWeb_tied : Stmt := inClass (top 34) 7
abbrev sWeb_ties : Stmt := inClass (top 34) 8
abbrev sL_at : Stmt := top 36
abbrev sL_box : Stmt := top 37
abbrev sL_take : Stmt := top 38
abbrev sL_names : Stmt := top 39
abbrev sL_sided : Stmt := top 40
abbrev sL_more_ties : Stmt := top 41
abbrev sL_colours : Stmt := top 42
abbrev sL_tied : Stmt := top 43
abbrev sL_pairs : Stmt := top 44
abbrev sL_partners : Stmt := top 45
abbrev sL_rising : Stmt := top 46
abbrev sL_are_pairs : Stmt := top 47
abbrev sL_is_cover : Stmt := top 48
abbrev sL_shows : Stmt := top 49
abbrev sL_cover : Stmt := top 50
abbrev sL_otherwise : Stmt := top 51
abbrev sL_asked : Stmt := top 52
abbrev sL_told : Stmt := top 53
abbrev slaw : Stmt := top 54

abbrev NOdd_init : List Str := ["self", "ring"]
theorem scOdd_init : FnScope NOdd_init ["self", "ring"] (defScope sOdd_init) := ⟨rfl, rfl, rfl, by decide +kernel, rfl, by decide +kernel, by decide +kernel⟩
abbrev Nis_place : List Str := ["web", "thing"]
theorem scis_place : FnScope Nis_place ["web", "thing"] (defScope sis_place) := ⟨rfl, rfl, rfl, by decide +kernel, rfl, by decide +kernel, by decide +kernel⟩
abbrev Nis_tie : List Str := ["web", "thing"]
theorem scis_tie : FnScope Nis_tie ["web", "thing"] (defScope sis_tie) := ⟨rfl, rfl, rfl, by decide +kernel, rfl, by decide +kernel, by decide +kernel⟩
abbrev Nare_pairs : List Str := ["web", "thing", "seen", "tie"]
theorem scare_pairs : FnScope Nare_pairs ["web", "thing"] (defScope sare_pairs) := ⟨rfl, rfl, rfl, by decide +kernel, rfl, by decide +kernel, by decide +kernel⟩
abbrev Nrising : List Str := ["web", "partners", "found", "one", "other"]
theorem scrising : FnScope Nrising ["web", "partners"] (defScope srising) := ⟨rfl, rfl, rfl, by decide +kernel, rfl, by decide +kernel, by decide +kernel⟩
abbrev Nroad_up : List Str := ["above", "name", "found"]
theorem scroad_up : FnScope Nroad_up ["above", "name"] (defScope sroad_up) := ⟨rfl, rfl, rfl, by decide +kernel, rfl, by decide +kernel, by decide +kernel⟩
abbrev Nring_of : List Str := ["above", "one", "other", "left", "right", "meet", "name"]
theorem scring_of : FnScope Nring_of ["above", "one", "other"] (defScope sring_of) := ⟨rfl, rfl, rfl, by decide +kernel, rfl, by decide +kernel, by decide +kernel⟩
abbrev Nsided : List Str := ["web", "first", "above", "start", "line", "name", "other"]
theorem scsided : FnScope Nsided ["web"] (defScope ssided) := ⟨rfl, rfl, rfl, by decide +kernel, rfl, by decide +kernel, by decide +kernel⟩
abbrev Nsides_of : List Str := ["web", "first", "places", "name"]
theorem scsides_of : FnScope Nsides_of ["web"] (defScope ssides_of) := ⟨rfl, rfl, rfl, by decide +kernel, rfl, by decide +kernel, by decide +kernel⟩
abbrev Nreached_from : List Str := ["web", "partners", "left", "came", "line", "name", "at", "other"]
theorem screached_from : FnScope Nreached_from ["web", "partners", "left"] (defScope sreached_from) := ⟨rfl, rfl, rfl, by decide +kernel, rfl, by decide +kernel, by decide +kernel⟩
abbrev Ngrown : List Str := ["web", "partners", "left", "right", "came", "goals", "name", "one", "before"]
theorem scgrown : FnScope Ngrown ["web", "partners", "left", "right"] (defScope sgrown) := ⟨rfl, rfl, rfl, by decide +kernel, rfl, by decide +kernel, by decide +kernel⟩
abbrev Ngreatest_by_sides : List Str := ["web", "left", "right", "partners", "more", "came", "cover", "name"]
theorem scgreatest_by_sides : FnScope Ngreatest_by_sides ["web"] (defScope sgreatest_by_sides) := ⟨rfl, rfl, rfl, by decide +kernel, rfl, by decide +kernel, by decide +kernel⟩
abbrev Nis_cover : List Str := ["web", "thing", "k", "name", "one", "other"]
theorem scis_cover : FnScope Nis_cover ["web", "thing"] (defScope sis_cover) := ⟨rfl, rfl, rfl, by decide +kernel, rfl, by decide +kernel, by decide +kernel⟩
abbrev Nshows_cover : List Str := ["web", "thing"]
theorem scshows_cover : FnScope Nshows_cover ["web", "thing"] (defScope sshows_cover) := ⟨rfl, rfl, rfl, by decide +kernel, rfl, by decide +kernel, by decide +kernel⟩
abbrev Nis_name : List Str := ["thing", "sign"]
theorem scis_name : FnScope Nis_name ["thing"] (defScope sis_name) := ⟨rfl, rfl, rfl, by decide +kernel, rfl, by decide +kernel, by decide +kernel⟩
abbrev Nnumbers_of : List Str := ["names", "found", "name"]
theorem scnumbers_of : FnScope Nnumbers_of ["names"] (defScope snumbers_of) := ⟨rfl, rfl, rfl, by decide +kernel, rfl, by decide +kernel, by decide +kernel⟩
abbrev Nis_two : List Str := ["numbers", "thing"]
theorem scis_two : FnScope Nis_two ["numbers", "thing"] (defScope sis_two) := ⟨rfl, rfl, rfl, by decide +kernel, rfl, by decide +kernel, by decide +kernel⟩
abbrev Nbits_of : List Str := ["numbers", "ties", "found", "tie", "one", "other"]
theorem scbits_of : FnScope Nbits_of ["numbers", "ties"] (defScope sbits_of) := ⟨rfl, rfl, rfl, by decide +kernel, rfl, by decide +kernel, by decide +kernel⟩
abbrev NWeb_init : List Str := ["self", "names", "ties"]
theorem scWeb_init : FnScope NWeb_init ["self", "names", "ties"] (defScope sWeb_init) := ⟨rfl, rfl, rfl, by decide +kernel, rfl, by decide +kernel, by decide +kernel⟩
abbrev NWeb_places : List Str := ["self"]
theorem scWeb_places : FnScope NWeb_places ["self"] (defScope sWeb_places) := ⟨rfl, rfl, rfl, by decide +kernel, rfl, by decide +kernel, by decide +kernel⟩
abbrev NWeb_number_of : List Str := ["self", "place"]
theorem scWeb_number_of : FnScope NWeb_number_of ["self", "place"] (defScope sWeb_number_of) := ⟨rfl, rfl, rfl, by decide +kernel, rfl, by decide +kernel, by decide +kernel⟩
abbrev NWeb_named : List Str := ["self", "bits", "k", "name"]
theorem scWeb_named : FnScope NWeb_named ["self", "bits"] (defScope sWeb_named) := ⟨rfl, rfl, rfl, by decide +kernel, rfl, by decide +kernel, by decide +kernel⟩
abbrev NWeb_bits_beside : List Str := ["self", "place"]
theorem scWeb_bits_beside : FnScope NWeb_bits_beside ["self", "place"] (defScope sWeb_bits_beside) := ⟨rfl, rfl, rfl, by decide +kernel, rfl, by decide +kernel, by decide +kernel⟩
abbrev NWeb_beside : List Str := ["self", "place"]
theorem scWeb_beside : FnScope NWeb_beside ["self", "place"] (defScope sWeb_beside) := ⟨rfl, rfl, rfl, by decide +kernel, rfl, by decide +kernel, by decide +kernel⟩
abbrev NWeb_tied : List Str := ["self", "one", "other", "first", "second"]
theorem scWeb_tied : FnScope NWeb_tied ["self", "one", "other"] (defScope sWeb_tied) := ⟨rfl, rfl, rfl, by decide +kernel, rfl, by decide +kernel, by decide +kernel⟩
abbrev NWeb_ties : List Str := ["self", "found", "k", "name", "later", "other"]
theorem scWeb_ties : FnScope NWeb_ties ["self"] (defScope sWeb_ties) := ⟨rfl, rfl, rfl, by decide +kernel, rfl, by decide +kernel, by decide +kernel⟩
abbrev NL_at : List Str := ["_law_script", "_law_k"]
theorem scL_at : FnScope NL_at ["_law_script", "_law_k"] (defScope sL_at) := ⟨rfl, rfl, rfl, by decide +kernel, rfl, by decide +kernel, by decide +kernel⟩
abbrev NL_box : List Str := ["_law_cell"]
theorem scL_box : FnScope NL_box ["_law_cell"] (defScope sL_box) := ⟨rfl, rfl, rfl, by decide +kernel, rfl, by decide +kernel, by decide +kernel⟩
abbrev NL_take : List Str := ["_law_box_here", "_law_many", "_law_digit", "_law_number", "_law_rest"]
theorem scL_take : FnScope NL_take ["_law_box_here", "_law_many"] (defScope sL_take) := ⟨rfl, rfl, rfl, by decide +kernel, rfl, by decide +kernel, by decide +kernel⟩
abbrev NL_names : List Str := ["_law_box_here", "_law_many", "_law_letters", "_law_base", "_law_k", "_law_first", "_law_long", "_law_at_here", "_law_step", "_law_end", "_law_names_here", "_law_sign"]
theorem scL_names : FnScope NL_names ["_law_box_here", "_law_many"] (defScope sL_names) := ⟨rfl, rfl, rfl, by decide +kernel, rfl, by decide +kernel, by decide +kernel⟩
abbrev NL_sided : List Str := ["_law_script", "_law_most", "_law_box_here", "_law_names_here", "_law_mixed", "_law_first", "_law_name", "_law_ties", "_law_cell"]
theorem scL_sided : FnScope NL_sided ["_law_script", "_law_most"] (defScope sL_sided) := ⟨rfl, rfl, rfl, by decide +kernel, rfl, by decide +kernel, by decide +kernel⟩
abbrev NL_more_ties : List Str := ["_law_box_here", "_law_names_here", "_law_first", "_law_mixed", "_law_ties", "_law_k", "_law_one", "_law_others", "_law_name", "_law_other"]
theorem scL_more_ties : FnScope NL_more_ties ["_law_box_here", "_law_names_here", "_law_first", "_law_mixed", "_law_ties"] (defScope sL_more_ties) := ⟨rfl, rfl, rfl, by decide +kernel, rfl, by decide +kernel, by decide +kernel⟩
abbrev NL_colours : List Str := ["_law_names_here", "_law_ties", "_law_colours_here", "_law_start", "_law_lap", "_law_one", "_law_other"]
theorem scL_colours : FnScope NL_colours ["_law_names_here", "_law_ties"] (defScope sL_colours) := ⟨rfl, rfl, rfl, by decide +kernel, rfl, by decide +kernel, by decide +kernel⟩
abbrev NL_tied : List Str := ["_law_ties", "_law_one", "_law_other"]
theorem scL_tied : FnScope NL_tied ["_law_ties", "_law_one", "_law_other"] (defScope sL_tied) := ⟨rfl, rfl, rfl, by decide +kernel, rfl, by decide +kernel, by decide +kernel⟩
abbrev NL_pairs : List Str := ["_law_box_here", "_law_ties", "_law_left", "_law_free", "_law_pairs_here", "_law_one", "_law_other"]
theorem scL_pairs : FnScope NL_pairs ["_law_box_here", "_law_ties"] (defScope sL_pairs) := ⟨rfl, rfl, rfl, by decide +kernel, rfl, by decide +kernel, by decide +kernel⟩
abbrev NL_partners : List Str := ["_law_pairs_here", "_law_found", "_law_one", "_law_other"]
theorem scL_partners : FnScope NL_partners ["_law_pairs_here"] (defScope sL_partners) := ⟨rfl, rfl, rfl, by decide +kernel, rfl, by decide +kernel, by decide +kernel⟩
abbrev NL_rising : List Str := ["_law_names_here", "_law_partners_here", "_law_found", "_law_k", "_law_later"]
theorem scL_rising : FnScope NL_rising ["_law_names_here", "_law_partners_here"] (defScope sL_rising) := ⟨rfl, rfl, rfl, by decide +kernel, rfl, by decide +kernel, by decide +kernel⟩
abbrev NL_are_pairs : List Str := ["_law_names_here", "_law_ties", "_law_thing", "_law_seen", "_law_tie", "_law_name"]
theorem scL_are_pairs : FnScope NL_are_pairs ["_law_names_here", "_law_ties", "_law_thing"] (defScope sL_are_pairs) := ⟨rfl, rfl, rfl, by decide +kernel, rfl, by decide +kernel, by decide +kernel⟩
abbrev NL_is_cover : List Str := ["_law_names_here", "_law_ties", "_law_thing", "_law_seen", "_law_name", "_law_tie"]
theorem scL_is_cover : FnScope NL_is_cover ["_law_names_here", "_law_ties", "_law_thing"] (defScope sL_is_cover) := ⟨rfl, rfl, rfl, by decide +kernel, rfl, by decide +kernel, by decide +kernel⟩
abbrev NL_shows : List Str := ["_law_names_here", "_law_ties", "_law_thing"]
theorem scL_shows : FnScope NL_shows ["_law_names_here", "_law_ties", "_law_thing"] (defScope sL_shows) := ⟨rfl, rfl, rfl, by decide +kernel, rfl, by decide +kernel, by decide +kernel⟩
abbrev NL_cover : List Str := ["_law_box_here", "_law_names_here", "_law_ties", "_law_cover_here", "_law_left", "_law_name", "_law_less", "_law_other"]
theorem scL_cover : FnScope NL_cover ["_law_box_here", "_law_names_here", "_law_ties"] (defScope sL_cover) := ⟨rfl, rfl, rfl, by decide +kernel, rfl, by decide +kernel, by decide +kernel⟩
abbrev NL_otherwise : List Str := ["_law_box_here", "_law_names_here", "_law_pairs_here", "_law_cover_here", "_law_some", "_law_name", "_law_tie", "_law_at_here", "_law_odd"]
theorem scL_otherwise : FnScope NL_otherwise ["_law_box_here", "_law_names_here", "_law_pairs_here", "_law_cover_here"] (defScope sL_otherwise) := ⟨rfl, rfl, rfl, by decide +kernel, rfl, by decide +kernel, by decide +kernel⟩
abbrev NL_asked : List Str := ["_law_web", "_law_names_here", "_law_ties", "_law_thing", "_law_kept", "_law_told_here"]
theorem scL_asked : FnScope NL_asked ["_law_web", "_law_names_here", "_law_ties", "_law_thing"] (defScope sL_asked) := ⟨rfl, rfl, rfl, by decide +kernel, rfl, by decide +kernel, by decide +kernel⟩
abbrev NL_told : List Str := ["_law_web", "_law_names_here", "_law_ties", "_law_found", "_law_name", "_law_kept"]
theorem scL_told : FnScope NL_told ["_law_web", "_law_names_here", "_law_ties"] (defScope sL_told) := ⟨rfl, rfl, rfl, by decide +kernel, rfl, by decide +kernel, by decide +kernel⟩
abbrev Nlaw : List Str := ["_law_script", "_law_names_here", "_law_ties", "_law_web", "_law_best", "_law_box_here", "_law_turn", "_law_pairs_here", "_law_cover_here", "_law_thing"]
theorem sclaw : FnScope Nlaw ["_law_script"] (defScope slaw) := ⟨rfl, rfl, rfl, by decide +kernel, rfl, by decide +kernel, by decide +kernel⟩

end K27

namespace K27
open PySem PySem.Spec PyProof.Rows L2
def dOdd_init : He.DefD := ⟨("Odd", some "__init__"), "__init__", "Odd.__init__", defArgs sOdd_init, defBody sOdd_init, defScope sOdd_init, [], []⟩
def dis_place : He.DefD := ⟨("is_place", none), "is_place", "is_place", defArgs sis_place, defBody sis_place, defScope sis_place, [], []⟩
def dis_tie : He.DefD := ⟨("is_tie", none), "is_tie", "is_tie", defArgs sis_tie, defBody sis_tie, defScope sis_tie, [], []⟩
def dare_pairs : He.DefD := ⟨("are_pairs", none), "are_pairs", "are_pairs", defArgs sare_pairs, defBody sare_pairs, defScope sare_pairs, [], []⟩
def drising : He.DefD := ⟨("rising", none), "rising", "rising", defArgs srising, defBody srising, defScope srising, [], []⟩
def droad_up : He.DefD := ⟨("road_up", none), "road_up", "road_up", defArgs sroad_up, defBody sroad_up, defScope sroad_up, [], []⟩
def dring_of : He.DefD := ⟨("ring_of", none), "ring_of", "ring_of", defArgs sring_of, defBody sring_of, defScope sring_of, [], []⟩
def dsided : He.DefD := ⟨("sided", none), "sided", "sided", defArgs ssided, defBody ssided, defScope ssided, [], []⟩
def dsides_of : He.DefD := ⟨("sides_of", none), "sides_of", "sides_of", defArgs ssides_of, defBody ssides_of, defScope ssides_of, [], []⟩
def dreached_from : He.DefD := ⟨("reached_from", none), "reached_from", "reached_from", defArgs sreached_from, defBody sreached_from, defScope sreached_from, [], []⟩
def dgrown : He.DefD := ⟨("grown", none), "grown", "grown", defArgs sgrown, defBody sgrown, defScope sgrown, [], []⟩
def dgreatest_by_sides : He.DefD := ⟨("greatest_by_sides", none), "greatest_by_sides", "greatest_by_sides", defArgs sgreatest_by_sides, defBody sgreatest_by_sides, defScope sgreatest_by_sides, [], []⟩
def dis_cover : He.DefD := ⟨("is_cover", none), "is_cover", "is_cover", defArgs sis_cover, defBody sis_cover, defScope sis_cover, [], []⟩
def dshows_cover : He.DefD := ⟨("shows_cover", none), "shows_cover", "shows_cover", defArgs sshows_cover, defBody sshows_cover, defScope sshows_cover, [], []⟩
def dis_name : He.DefD := ⟨("is_name", none), "is_name", "is_name", defArgs sis_name, defBody sis_name, defScope sis_name, [], []⟩
def dnumbers_of : He.DefD := ⟨("numbers_of", none), "numbers_of", "numbers_of", defArgs snumbers_of, defBody snumbers_of, defScope snumbers_of, [], []⟩
def dis_two : He.DefD := ⟨("is_two", none), "is_two", "is_two", defArgs sis_two, defBody sis_two, defScope sis_two, [], []⟩
def dbits_of : He.DefD := ⟨("bits_of", none), "bits_of", "bits_of", defArgs sbits_of, defBody sbits_of, defScope sbits_of, [], []⟩
def dWeb_init : He.DefD := ⟨("Web", some "__init__"), "__init__", "Web.__init__", defArgs sWeb_init, defBody sWeb_init, defScope sWeb_init, [], []⟩
def dWeb_places : He.DefD := ⟨("Web", some "places"), "places", "Web.places", defArgs sWeb_places, defBody sWeb_places, defScope sWeb_places, [], []⟩
def dWeb_number_of : He.DefD := ⟨("Web", some "number_of"), "number_of", "Web.number_of", defArgs sWeb_number_of, defBody sWeb_number_of, defScope sWeb_number_of, [], []⟩
def dWeb_named : He.DefD := ⟨("Web", some "named"), "named", "Web.named", defArgs sWeb_named, defBody sWeb_named, defScope sWeb_named, [], []⟩
def dWeb_bits_beside : He.DefD := ⟨("Web", some "bits_beside"), "bits_beside", "Web.bits_beside", defArgs sWeb_bits_beside, defBody sWeb_bits_beside, defScope sWeb_bits_beside, [], []⟩
def dWeb_beside : He.DefD := ⟨("Web", some "beside"), "beside", "Web.beside", defArgs sWeb_beside, defBody sWeb_beside, defScope sWeb_beside, [], []⟩
def dWeb_tied : He.DefD := ⟨("Web", some "tied"), "tied", "Web.tied", defArgs sWeb_tied, defBody sWeb_tied, defScope sWeb_tied, [], []⟩
def dWeb_ties : He.DefD := ⟨("Web", some "ties"), "ties", "Web.ties", defArgs sWeb_ties, defBody sWeb_ties, defScope sWeb_ties, [], []⟩
def dL_at : He.DefD := ⟨("_law_at", none), "_law_at", "_law_at", defArgs sL_at, defBody sL_at, defScope sL_at, [], []⟩
def dL_box : He.DefD := ⟨("_law_box", none), "_law_box", "_law_box", defArgs sL_box, defBody sL_box, defScope sL_box, [], []⟩
def dL_take : He.DefD := ⟨("_law_take", none), "_law_take", "_law_take", defArgs sL_take, defBody sL_take, defScope sL_take, [], []⟩
def dL_names : He.DefD := ⟨("_law_names", none), "_law_names", "_law_names", defArgs sL_names, defBody sL_names, defScope sL_names, [], []⟩
def dL_sided : He.DefD := ⟨("_law_sided", none), "_law_sided", "_law_sided", defArgs sL_sided, defBody sL_sided, defScope sL_sided, [], []⟩
def dL_more_ties : He.DefD := ⟨("_law_more_ties", none), "_law_more_ties", "_law_more_ties", defArgs sL_more_ties, defBody sL_more_ties, defScope sL_more_ties, [], []⟩
def dL_colours : He.DefD := ⟨("_law_colours", none), "_law_colours", "_law_colours", defArgs sL_colours, defBody sL_colours, defScope sL_colours, [], []⟩
def dL_tied : He.DefD := ⟨("_law_tied", none), "_law_tied", "_law_tied", defArgs sL_tied, defBody sL_tied, defScope sL_tied, [], []⟩
def dL_pairs : He.DefD := ⟨("_law_pairs", none), "_law_pairs", "_law_pairs", defArgs sL_pairs, defBody sL_pairs, defScope sL_pairs, [], []⟩
def dL_partners : He.DefD := ⟨("_law_partners", none), "_law_partners", "_law_partners", defArgs sL_partners, defBody sL_partners, defScope sL_partners, [], []⟩
def dL_rising : He.DefD := ⟨("_law_rising", none), "_law_rising", "_law_rising", defArgs sL_rising, defBody sL_rising, defScope sL_rising, [], []⟩
def dL_are_pairs : He.DefD := ⟨("_law_are_pairs", none), "_law_are_pairs", "_law_are_pairs", defArgs sL_are_pairs, defBody sL_are_pairs, defScope sL_are_pairs, [], []⟩
def dL_is_cover : He.DefD := ⟨("_law_is_cover", none), "_law_is_cover", "_law_is_cover", defArgs sL_is_cover, defBody sL_is_cover, defScope sL_is_cover, [], []⟩
def dL_shows : He.DefD := ⟨("_law_shows", none), "_law_shows", "_law_shows", defArgs sL_shows, defBody sL_shows, defScope sL_shows, [], []⟩
def dL_cover : He.DefD := ⟨("_law_cover", none), "_law_cover", "_law_cover", defArgs sL_cover, defBody sL_cover, defScope sL_cover, [], []⟩
def dL_otherwise : He.DefD := ⟨("_law_otherwise", none), "_law_otherwise", "_law_otherwise", defArgs sL_otherwise, defBody sL_otherwise, defScope sL_otherwise, [], []⟩
def dL_asked : He.DefD := ⟨("_law_asked", none), "_law_asked", "_law_asked", defArgs sL_asked, defBody sL_asked, defScope sL_asked, [], []⟩
def dL_told : He.DefD := ⟨("_law_told", none), "_law_told", "_law_told", defArgs sL_told, defBody sL_told, defScope sL_told, [], []⟩
def dlaw : He.DefD := ⟨("law", none), "law", "law", defArgs slaw, defBody slaw, defScope slaw, [], []⟩
def fn27 : List He.DefD := [dOdd_init, dis_place, dis_tie, dare_pairs, drising, droad_up, dring_of, dsided, dsides_of, dreached_from, dgrown, dgreatest_by_sides, dis_cover, dshows_cover, dis_name, dnumbers_of, dis_two, dbits_of, dWeb_init, dWeb_places, dWeb_number_of, dWeb_named, dWeb_bits_beside, dWeb_beside, dWeb_tied, dWeb_ties, dL_at, dL_box, dL_take, dL_names, dL_sided, dL_more_ties, dL_colours, dL_tied, dL_pairs, dL_partners, dL_rising, dL_are_pairs, dL_is_cover, dL_shows, dL_cover, dL_otherwise, dL_asked, dL_told, dlaw]
def fa27 : List He.Fa := [
  .glo "is_place", .glo "is_tie", .glo "are_pairs", .glo "rising", .glo "road_up",
  .glo "ring_of", .glo "sided", .glo "sides_of", .glo "reached_from", .glo "grown",
  .glo "greatest_by_sides", .glo "is_cover", .glo "shows_cover", .glo "is_name", .glo "numbers_of",
  .glo "is_two", .glo "bits_of", .glo "_law_at", .glo "_law_box", .glo "_law_take",
  .glo "_law_names", .glo "_law_sided", .glo "_law_more_ties", .glo "_law_colours", .glo "_law_tied",
  .glo "_law_pairs", .glo "_law_partners", .glo "_law_rising", .glo "_law_are_pairs", .glo "_law_is_cover",
  .glo "_law_shows", .glo "_law_cover", .glo "_law_otherwise", .glo "_law_asked", .glo "_law_told",
  .glo "law", .glo "OnceError", .glo "Odd", .glo "Web", .free "len",
  .free "isinstance", .free "range", .free "enumerate", .free "max", .free "repr",
  .free "tuple", .free "list", .free "dict", .free "all", .free "str",
  .free "bool", .str "LETTERS" "abcdefghijklmnopqrstuvwxyz", .int "LONGEST" 6, .int "MOST_PLACES" 14, .int "MOST_TIES" 30,
  .cls "Web", .mkr "Web", .noat "Web" "numbers", .noat "Web" "order", .noat "Web" "bits",
  .meth "Web" "places", .meth "Web" "number_of", .meth "Web" "named", .meth "Web" "bits_beside", .meth "Web" "beside",
  .meth "Web" "tied", .meth "Web" "ties", .exm "Odd" "Odd" true]
/-- the names that the top binds, but law -/
def loose27 : List Str := (["_wall", "__name__", "OnceError", "NoName", "Twice", "NoPlace", "NoTie", "TooMany", "Odd", "is_place", "is_tie", "are_pairs", "rising", "road_up", "ring_of", "sided", "sides_of", "reached_from", "grown", "greatest_by_sides"] : List Str) ++ (["is_cover", "shows_cover", "LETTERS", "LONGEST", "is_name", "MOST_PLACES", "MOST_TIES", "numbers_of", "is_two", "bits_of", "Web", "_law_at", "_law_box", "_law_take", "_law_names", "_law_sided", "_law_more_ties", "_law_colours", "_law_tied", "_law_pairs"] : List Str) ++ (["_law_partners", "_law_rising", "_law_are_pairs", "_law_is_cover", "_law_shows", "_law_cover", "_law_otherwise", "_law_asked", "_law_told"] : List Str)
/-- the error class as the rules want it: made by ValueError's maker, its chain own classes and then ValueError's -/
def oexB (K : PySem.W.Frag) (C : Addr) : Bool := match K.lookup C with
  | some ⟨.type t, _, .cls cd, sl⟩ => (match cd.mro, sl.toList with
    | .ref D :: bm, [_, _, _, _, some (.builtin n), _] => decide (t = "type") && (decide (D = C) && (decide (n = "ValueError.__new__") && (!cd.hasDel && (cd.hasDict && PySem.HandSPX.refsVE bm))))
    | _, _ => false)
  | _ => false
/-- C.__init__, read off the class, is ValueError's own -/
def viB (K : PySem.W.Frag) (C : Addr) : Bool := match PySem.W.findCls K (.ref C) (.type "type") "__init__" with
  | some (.val (.builtin n)) => decide (n = "ValueError.__init__")
  | _ => false
abbrev aOdd (K : PySem.W.Frag) : Addr := He.ga K "Odd"
abbrev aOnce (K : PySem.W.Frag) : Addr := He.ga K "OnceError"
abbrev aOddI (K : PySem.W.Frag) : Addr := He.ma K (aOdd K) "__init__"
/-- what else is looked at -/
def exB (K : PySem.W.Frag) : Bool := oexB K (aOdd K) && (viB K (aOnce K) && (He.eqO (PySem.W.findIn K (.ref (aOdd K)) "__setattr__") (some (some (.builtin "object.__setattr__"))) &&
  (decide (PySem.W.subIn K (.ref (aOdd K)) (.type "BaseException") = some true) && (decide (PySem.W.typeIn K (.ref (aOdd K)) = some (.type "type")) && (PySem.W.keepIn K (.ref (aOdd K)) &&
  (He.eqO (PySem.W.findIn K (.ref (aOdd K)) "__init__") (some (some (.ref (aOddI K)))) && (decide (PySem.W.typeIn K (.ref (aOddI K)) = some (.type "function")) && (He.eqO (PySem.W.findIn K (.ref (aOdd K)) "ring") (some none) &&
  (PySem.W.readsIn K (aOnce K) (.type "type") && He.eqO (PySem.W.specialIn K (.ref (aOnce K)) "__getattribute__") (some (some (.builtin "type.__getattribute__"))))))))))))
/-- what the top has left -/
structure Tx (K : PySem.W.Frag) (mg : Str → Option Value) : Prop where
  says : He.SaysD fa27 fn27 K
  ex : exB K = true
  top : ∃ h : Heap, K.In h ∧ h.Ns mainGlobals mg
section
variable {K : PySem.W.Frag} {mg : Str → Option Value}
theorem Tx.glo (T : Tx K mg) (i : Nat) {x : Str} (h : fa27[i]? = some (.glo x)) : mg x = some (.ref (He.ga K x)) := by
  obtain ⟨_, X, G⟩ := T.top
  exact He.glo_ok X G (T.says.fact i h)
theorem Tx.fre (T : Tx K mg) (i : Nat) {x : Str} (h : fa27[i]? = some (.free x)) : mg x = none := by
  obtain ⟨_, X, G⟩ := T.top
  exact He.free_ok X G (T.says.fact i h)
theorem oexB_ok {C : Addr} (h : oexB K C = true) : ∃ nm q N bs bm sn sub ab col dd k0 k1 k2 k3 k5, K.lookup C = some (excClassObj nm q C N bs bm true sn sub ab col dd k0 k1 k2 k3 k5 "ValueError.__new__") ∧ PySem.HandSPX.refsVE bm = true := by
  unfold oexB at h
  split at h
  · rename_i t dd cd sl lk
    split at h
    · rename_i D bm k0 k1 k2 k3 n k5 hm hs
      obtain ⟨h1, h⟩ := He.ba h
      obtain ⟨h2, h⟩ := He.ba h
      obtain ⟨h3, h⟩ := He.ba h
      obtain ⟨h4, h⟩ := He.ba h
      obtain ⟨h5, h6⟩ := He.ba h
      have e1 := of_decide_eq_true h1
      have e2 := of_decide_eq_true h2
      have e3 := of_decide_eq_true h3
      obtain ⟨nm, bs, mro, ns, qn, hd, sn, sub, ab, col, del⟩ := cd
      obtain ⟨l⟩ := sl
      simp only at hm hs h4 h5
      subst hm hs e1 e2 e3 h5
      have e4 : del = false := by
        cases del with
        | false => rfl
        | true => cases h4
      subst e4
      exact ⟨_, _, _, _, _, _, _, _, _, _, _, _, _, _, _, lk, h6⟩
    · cases h
  · cases h
theorem Tx.oex (T : Tx K mg) : OexC K (aOdd K) := by
  obtain ⟨h1, h⟩ := He.ba T.ex
  obtain ⟨h2, h⟩ := He.ba h
  obtain ⟨h3, h⟩ := He.ba h
  obtain ⟨h4, h⟩ := He.ba h
  obtain ⟨h5, h⟩ := He.ba h
  obtain ⟨h6, h⟩ := He.ba h
  exact ⟨oexB_ok h1, He.eqO_ok h3, of_decide_eq_true h4, of_decide_eq_true h5, h6⟩
theorem Tx.oddI (T : Tx K mg) : PySem.W.findIn K (.ref (aOdd K)) "__init__" = some (some (.ref (aOddI K))) ∧ PySem.W.typeIn K (.ref (aOddI K)) = some (.type "function") ∧ PySem.W.findIn K (.ref (aOdd K)) "ring" = some none := by
  obtain ⟨_, h⟩ := He.ba T.ex
  obtain ⟨_, h⟩ := He.ba h
  obtain ⟨_, h⟩ := He.ba h
  obtain ⟨_, h⟩ := He.ba h
  obtain ⟨_, h⟩ := He.ba h
  obtain ⟨_, h⟩ := He.ba h
  obtain ⟨h7, h⟩ := He.ba h
  obtain ⟨h8, h⟩ := He.ba h
  obtain ⟨h9, _⟩ := He.ba h
  exact ⟨He.eqO_ok h7, of_decide_eq_true h8, He.eqO_ok h9⟩
theorem Tx.once (T : Tx K mg) : PySem.W.findCls K (.ref (aOnce K)) (.type "type") "__init__" = some (.val (.builtin "ValueError.__init__")) ∧ PySem.W.readsIn K (aOnce K) (.type "type") = true ∧
    PySem.W.specialIn K (.ref (aOnce K)) "__getattribute__" = some (some (.builtin "type.__getattribute__")) := by
  obtain ⟨_, h⟩ := He.ba T.ex
  obtain ⟨h2, h⟩ := He.ba h
  obtain ⟨_, h⟩ := He.ba h
  obtain ⟨_, h⟩ := He.ba h
  obtain ⟨_, h⟩ := He.ba h
  obtain ⟨_, h⟩ := He.ba h
  obtain ⟨_, h⟩ := He.ba h
  obtain ⟨_, h⟩ := He.ba h
  obtain ⟨_, h⟩ := He.ba h
  obtain ⟨h10, h11⟩ := He.ba h
  refine ⟨?_, h10, He.eqO_ok h11⟩
  unfold viB at h2
  split at h2
  · rename_i n e
    rw [e, of_decide_eq_true h2]
  · cases h2

theorem Tx.g_is_place (T : Tx K mg) : mg "is_place" = some (.ref (He.ga K "is_place")) := T.glo 0 rfl
theorem Tx.g_is_tie (T : Tx K mg) : mg "is_tie" = some (.ref (He.ga K "is_tie")) := T.glo 1 rfl
theorem Tx.g_are_pairs (T : Tx K mg) : mg "are_pairs" = some (.ref (He.ga K "are_pairs")) := T.glo 2 rfl
theorem Tx.g_rising (T : Tx K mg) : mg "rising" = some (.ref (He.ga K "rising")) := T.glo 3 rfl
theorem Tx.g_road_up (T : Tx K mg) : mg "road_up" = some (.ref (He.ga K "road_up")) := T.glo 4 rfl
theorem Tx.g_ring_of (T : Tx K mg) : mg "ring_of" = some (.ref (He.ga K "ring_of")) := T.glo 5 rfl
theorem Tx.g_sided (T : Tx K mg) : mg "sided" = some (.ref (He.ga K "sided")) := T.glo 6 rfl
theorem Tx.g_sides_of (T : Tx K mg) : mg "sides_of" = some (.ref (He.ga K "sides_of")) := T.glo 7 rfl
theorem Tx.g_reached_from (T : Tx K mg) : mg "reached_from" = some (.ref (He.ga K "reached_from")) := T.glo 8 rfl
theorem Tx.g_grown (T : Tx K mg) : mg "grown" = some (.ref (He.ga K "grown")) := T.glo 9 rfl
theorem Tx.g_greatest_by_sides (T : Tx K mg) : mg "greatest_by_sides" = some (.ref (He.ga K "greatest_by_sides")) := T.glo 10 rfl
theorem Tx.g_is_cover (T : Tx K mg) : mg "is_cover" = some (.ref (He.ga K "is_cover")) := T.glo 11 rfl
theorem Tx.g_shows_cover (T : Tx K mg) : mg "shows_cover" = some (.ref (He.ga K "shows_cover")) := T.glo 12 rfl
theorem Tx.g_is_name (T : Tx K mg) : mg "is_name" = some (.ref (He.ga K "is_name")) := T.glo 13 rfl
theorem Tx.g_numbers_of (T : Tx K mg) : mg "numbers_of" = some (.ref (He.ga K "numbers_of")) := T.glo 14 rfl
theorem Tx.g_is_two (T : Tx K mg) : mg "is_two" = some (.ref (He.ga K "is_two")) := T.glo 15 rfl
theorem Tx.g_bits_of (T : Tx K mg) : mg "bits_of" = some (.ref (He.ga K "bits_of")) := T.glo 16 rfl
theorem Tx.g_L_at (T : Tx K mg) : mg "_law_at" = some (.ref (He.ga K "_law_at")) := T.glo 17 rfl
theorem Tx.g_L_box (T : Tx K mg) : mg "_law_box" = some (.ref (He.ga K "_law_box")) := T.glo 18 rfl
theorem Tx.g_L_take (T : Tx K mg) : mg "_law_take" = some (.ref (He.ga K "_law_take")) := T.glo 19 rfl
theorem Tx.g_L_names (T : Tx K mg) : mg "_law_names" = some (.ref (He.ga K "_law_names")) := T.glo 20 rfl
theorem Tx.g_L_sided (T : Tx K mg) : mg "_law_sided" = some (.ref (He.ga K "_law_sided")) := T.glo 21 rfl
theorem Tx.g_L_more_ties (T : Tx K mg) : mg "_law_more_ties" = some (.ref (He.ga K "_law_more_ties")) := T.glo 22 rfl
theorem Tx.g_L_colours (T : Tx K mg) : mg "_law_colours" = some (.ref (He.ga K "_law_colours")) := T.glo 23 rfl
theorem Tx.g_L_tied (T : Tx K mg) : mg "_law_tied" = some (.ref (He.ga K "_law_tied")) := T.glo 24 rfl
theorem Tx.g_L_pairs (T : Tx K mg) : mg "_law_pairs" = some (.ref (He.ga K "_law_pairs")) := T.glo 25 rfl
theorem Tx.g_L_partners (T : Tx K mg) : mg "_law_partners" = some (.ref (He.ga K "_law_partners")) := T.glo 26 rfl
theorem Tx.g_L_rising (T : Tx K mg) : mg "_law_rising" = some (.ref (He.ga K "_law_rising")) := T.glo 27 rfl
theorem Tx.g_L_are_pairs (T : Tx K mg) : mg "_law_are_pairs" = some (.ref (He.ga K "_law_are_pairs")) := T.glo 28 rfl
theorem Tx.g_L_is_cover (T : Tx K mg) : mg "_law_is_cover" = some (.ref (He.ga K "_law_is_cover")) := T.glo 29 rfl
theorem Tx.g_L_shows (T : Tx K mg) : mg "_law_shows" = some (.ref (He.ga K "_law_shows")) := T.glo 30 rfl
theorem Tx.g_L_cover (T : Tx K mg) : mg "_law_cover" = some (.ref (He.ga K "_law_cover")) := T.glo 31 rfl
theorem Tx.g_L_otherwise (T : Tx K mg) : mg "_law_otherwise" = some (.ref (He.ga K "_law_otherwise")) := T.glo 32 rfl
theorem Tx.g_L_asked (T : Tx K mg) : mg "_law_asked" = some (.ref (He.ga K "_law_asked")) := T.glo 33 rfl
theorem Tx.g_L_told (T : Tx K mg) : mg "_law_told" = some (.ref (He.ga K "_law_told")) := T.glo 34 rfl
theorem Tx.g_law (T : Tx K mg) : mg "law" = some (.ref (He.ga K "law")) := T.glo 35 rfl
theorem Tx.g_OnceError (T : Tx K mg) : mg "OnceError" = some (.ref (He.ga K "OnceError")) := T.glo 36 rfl
theorem Tx.g_Odd (T : Tx K mg) : mg "Odd" = some (.ref (He.ga K "Odd")) := T.glo 37 rfl
theorem Tx.g_Web (T : Tx K mg) : mg "Web" = some (.ref (He.ga K "Web")) := T.glo 38 rfl
theorem Tx.z_len (T : Tx K mg) : mg "len" = none := T.fre 39 rfl
theorem Tx.z_isinstance (T : Tx K mg) : mg "isinstance" = none := T.fre 40 rfl
theorem Tx.z_range (T : Tx K mg) : mg "range" = none := T.fre 41 rfl
theorem Tx.z_enumerate (T : Tx K mg) : mg "enumerate" = none := T.fre 42 rfl
theorem Tx.z_max (T : Tx K mg) : mg "max" = none := T.fre 43 rfl
theorem Tx.z_repr (T : Tx K mg) : mg "repr" = none := T.fre 44 rfl
theorem Tx.z_tuple (T : Tx K mg) : mg "tuple" = none := T.fre 45 rfl
theorem Tx.z_list (T : Tx K mg) : mg "list" = none := T.fre 46 rfl
theorem Tx.z_dict (T : Tx K mg) : mg "dict" = none := T.fre 47 rfl
theorem Tx.z_all (T : Tx K mg) : mg "all" = none := T.fre 48 rfl
theorem Tx.z_str (T : Tx K mg) : mg "str" = none := T.fre 49 rfl
theorem Tx.z_bool (T : Tx K mg) : mg "bool" = none := T.fre 50 rfl
theorem Tx.c_LETTERS (T : Tx K mg) : ∃ t, mg "LETTERS" = some (.str "abcdefghijklmnopqrstuvwxyz" t) := let ⟨_, X, G⟩ := T.top; He.str_ok X G (T.says.fact 51 (f := .str "LETTERS" "abcdefghijklmnopqrstuvwxyz") rfl)
theorem Tx.c_LONGEST (T : Tx K mg) : ∃ t, mg "LONGEST" = some (.int 6 t) := let ⟨_, X, G⟩ := T.top; He.int_ok X G (T.says.fact 52 (f := .int "LONGEST" 6) rfl)
theorem Tx.c_MOST_PLACES (T : Tx K mg) : ∃ t, mg "MOST_PLACES" = some (.int 14 t) := let ⟨_, X, G⟩ := T.top; He.int_ok X G (T.says.fact 53 (f := .int "MOST_PLACES" 14) rfl)
theorem Tx.c_MOST_TIES (T : Tx K mg) : ∃ t, mg "MOST_TIES" = some (.int 30 t) := let ⟨_, X, G⟩ := T.top; He.int_ok X G (T.says.fact 54 (f := .int "MOST_TIES" 30) rfl)
theorem Tx.cl (T : Tx K mg) : Cls K (He.ga K "Web") := He.cls_ok (T.says.fact 55 (f := .cls "Web") rfl)
theorem Tx.mkw (T : Tx K mg) : Mk K (He.ga K "Web") (He.ma K (He.ga K "Web") "__init__") := He.mkr_ok (T.says.fact 56 (f := .mkr "Web") rfl)
theorem Tx.no_numbers (T : Tx K mg) : NoAttr K (He.ga K "Web") "numbers" := He.noat_ok (T.says.fact 57 (f := .noat "Web" "numbers") rfl)
theorem Tx.no_order (T : Tx K mg) : NoAttr K (He.ga K "Web") "order" := He.noat_ok (T.says.fact 58 (f := .noat "Web" "order") rfl)
theorem Tx.no_bits (T : Tx K mg) : NoAttr K (He.ga K "Web") "bits" := He.noat_ok (T.says.fact 59 (f := .noat "Web" "bits") rfl)
theorem Tx.m_places (T : Tx K mg) : Meth K (He.ga K "Web") "places" (He.ma K (He.ga K "Web") "places") := He.meth_ok (T.says.fact 60 (f := .meth "Web" "places") rfl)
theorem Tx.m_number_of (T : Tx K mg) : Meth K (He.ga K "Web") "number_of" (He.ma K (He.ga K "Web") "number_of") := He.meth_ok (T.says.fact 61 (f := .meth "Web" "number_of") rfl)
theorem Tx.m_named (T : Tx K mg) : Meth K (He.ga K "Web") "named" (He.ma K (He.ga K "Web") "named") := He.meth_ok (T.says.fact 62 (f := .meth "Web" "named") rfl)
theorem Tx.m_bits_beside (T : Tx K mg) : Meth K (He.ga K "Web") "bits_beside" (He.ma K (He.ga K "Web") "bits_beside") := He.meth_ok (T.says.fact 63 (f := .meth "Web" "bits_beside") rfl)
theorem Tx.m_beside (T : Tx K mg) : Meth K (He.ga K "Web") "beside" (He.ma K (He.ga K "Web") "beside") := He.meth_ok (T.says.fact 64 (f := .meth "Web" "beside") rfl)
theorem Tx.m_tied (T : Tx K mg) : Meth K (He.ga K "Web") "tied" (He.ma K (He.ga K "Web") "tied") := He.meth_ok (T.says.fact 65 (f := .meth "Web" "tied") rfl)
theorem Tx.m_ties (T : Tx K mg) : Meth K (He.ga K "Web") "ties" (He.ma K (He.ga K "Web") "ties") := He.meth_ok (T.says.fact 66 (f := .meth "Web" "ties") rfl)
theorem Tx.exm (T : Tx K mg) : PySem.W.exmOne K (.ref (He.ga K "Odd")) (.ref (He.ga K "Odd")) = some true := He.exm_ok (T.says.fact 67 (f := .exm "Odd" "Odd" true) rfl)
theorem Tx.f_Odd_init (T : Tx K mg) : ∃ fd, FunD K "__init__" "Odd.__init__" (defArgs sOdd_init) (defBody sOdd_init) (defScope sOdd_init) [] [] (He.ma K (He.ga K "Odd") "__init__") fd := T.says.def_ 0 (d := dOdd_init) rfl
theorem b_Odd_init {f : Addr} {fd : FuncData} (F : FunD K "__init__" "Odd.__init__" (defArgs sOdd_init) (defBody sOdd_init) (defScope sOdd_init) [] [] f fd) : Binds K fd ["self", "ring"] [] := F.bindsN fun _ _ _ _ _ _ us hl => match us, hl with | [_, _], _ => rfl
theorem Tx.f_is_place (T : Tx K mg) : ∃ fd, FunD K "is_place" "is_place" (defArgs sis_place) (defBody sis_place) (defScope sis_place) [] [] (He.ga K "is_place") fd := T.says.def_ 1 (d := dis_place) rfl
theorem b_is_place {f : Addr} {fd : FuncData} (F : FunD K "is_place" "is_place" (defArgs sis_place) (defBody sis_place) (defScope sis_place) [] [] f fd) : Binds K fd ["web", "thing"] [] := F.bindsN fun _ _ _ _ _ _ us hl => match us, hl with | [_, _], _ => rfl
theorem Tx.f_is_tie (T : Tx K mg) : ∃ fd, FunD K "is_tie" "is_tie" (defArgs sis_tie) (defBody sis_tie) (defScope sis_tie) [] [] (He.ga K "is_tie") fd := T.says.def_ 2 (d := dis_tie) rfl
theorem b_is_tie {f : Addr} {fd : FuncData} (F : FunD K "is_tie" "is_tie" (defArgs sis_tie) (defBody sis_tie) (defScope sis_tie) [] [] f fd) : Binds K fd ["web", "thing"] [] := F.bindsN fun _ _ _ _ _ _ us hl => match us, hl with | [_, _], _ => rfl
theorem Tx.f_are_pairs (T : Tx K mg) : ∃ fd, FunD K "are_pairs" "are_pairs" (defArgs sare_pairs) (defBody sare_pairs) (defScope sare_pairs) [] [] (He.ga K "are_pairs") fd := T.says.def_ 3 (d := dare_pairs) rfl
theorem b_are_pairs {f : Addr} {fd : FuncData} (F : FunD K "are_pairs" "are_pairs" (defArgs sare_pairs) (defBody sare_pairs) (defScope sare_pairs) [] [] f fd) : Binds K fd ["web", "thing"] [] := F.bindsN fun _ _ _ _ _ _ us hl => match us, hl with | [_, _], _ => rfl
theorem Tx.f_rising (T : Tx K mg) : ∃ fd, FunD K "rising" "rising" (defArgs srising) (defBody srising) (defScope srising) [] [] (He.ga K "rising") fd := T.says.def_ 4 (d := drising) rfl
theorem b_rising {f : Addr} {fd : FuncData} (F : FunD K "rising" "rising" (defArgs srising) (defBody srising) (defScope srising) [] [] f fd) : Binds K fd ["web", "partners"] [] := F.bindsN fun _ _ _ _ _ _ us hl => match us, hl with | [_, _], _ => rfl
theorem Tx.f_road_up (T : Tx K mg) : ∃ fd, FunD K "road_up" "road_up" (defArgs sroad_up) (defBody sroad_up) (defScope sroad_up) [] [] (He.ga K "road_up") fd := T.says.def_ 5 (d := droad_up) rfl
theorem b_road_up {f : Addr} {fd : FuncData} (F : FunD K "road_up" "road_up" (defArgs sroad_up) (defBody sroad_up) (defScope sroad_up) [] [] f fd) : Binds K fd ["above", "name"] [] := F.bindsN fun _ _ _ _ _ _ us hl => match us, hl with | [_, _], _ => rfl
theorem Tx.f_ring_of (T : Tx K mg) : ∃ fd, FunD K "ring_of" "ring_of" (defArgs sring_of) (defBody sring_of) (defScope sring_of) [] [] (He.ga K "ring_of") fd := T.says.def_ 6 (d := dring_of) rfl
theorem b_ring_of {f : Addr} {fd : FuncData} (F : FunD K "ring_of" "ring_of" (defArgs sring_of) (defBody sring_of) (defScope sring_of) [] [] f fd) : Binds K fd ["above", "one", "other"] [] := F.bindsN fun _ _ _ _ _ _ us hl => match us, hl with | [_, _, _], _ => rfl
theorem Tx.f_sided (T : Tx K mg) : ∃ fd, FunD K "sided" "sided" (defArgs ssided) (defBody ssided) (defScope ssided) [] [] (He.ga K "sided") fd := T.says.def_ 7 (d := dsided) rfl
theorem b_sided {f : Addr} {fd : FuncData} (F : FunD K "sided" "sided" (defArgs ssided) (defBody ssided) (defScope ssided) [] [] f fd) : Binds K fd ["web"] [] := F.bindsN fun _ _ _ _ _ _ us hl => match us, hl with | [_], _ => rfl
theorem Tx.f_sides_of (T : Tx K mg) : ∃ fd, FunD K "sides_of" "sides_of" (defArgs ssides_of) (defBody ssides_of) (defScope ssides_of) [] [] (He.ga K "sides_of") fd := T.says.def_ 8 (d := dsides_of) rfl
theorem b_sides_of {f : Addr} {fd : FuncData} (F : FunD K "sides_of" "sides_of" (defArgs ssides_of) (defBody ssides_of) (defScope ssides_of) [] [] f fd) : Binds K fd ["web"] [] := F.bindsN fun _ _ _ _ _ _ us hl => match us, hl with | [_], _ => rfl
theorem Tx.f_reached_from (T : Tx K mg) : ∃ fd, FunD K "reached_from" "reached_from" (defArgs sreached_from) (defBody sreached_from) (defScope sreached_from) [] [] (He.ga K "reached_from") fd := T.says.def_ 9 (d := dreached_from) rfl
theorem b_reached_from {f : Addr} {fd : FuncData} (F : FunD K "reached_from" "reached_from" (defArgs sreached_from) (defBody sreached_from) (defScope sreached_from) [] [] f fd) : Binds K fd ["web", "partners", "left"] [] := F.bindsN fun _ _ _ _ _ _ us hl => match us, hl with | [_, _, _], _ => rfl
theorem Tx.f_grown (T : Tx K mg) : ∃ fd, FunD K "grown" "grown" (defArgs sgrown) (defBody sgrown) (defScope sgrown) [] [] (He.ga K "grown") fd := T.says.def_ 10 (d := dgrown) rfl
theorem b_grown {f : Addr} {fd : FuncData} (F : FunD K "grown" "grown" (defArgs sgrown) (defBody sgrown) (defScope sgrown) [] [] f fd) : Binds K fd ["web", "partners", "left", "right"] [] := F.bindsN fun _ _ _ _ _ _ us hl => match us, hl with | [_, _, _, _], _ => rfl
theorem Tx.f_greatest_by_sides (T : Tx K mg) : ∃ fd, FunD K "greatest_by_sides" "greatest_by_sides" (defArgs sgreatest_by_sides) (defBody sgreatest_by_sides) (defScope sgreatest_by_sides) [] [] (He.ga K "greatest_by_sides") fd := T.says.def_ 11 (d := dgreatest_by_sides) rfl
theorem b_greatest_by_sides {f : Addr} {fd : FuncData} (F : FunD K "greatest_by_sides" "greatest_by_sides" (defArgs sgreatest_by_sides) (defBody sgreatest_by_sides) (defScope sgreatest_by_sides) [] [] f fd) : Binds K fd ["web"] [] := F.bindsN fun _ _ _ _ _ _ us hl => match us, hl with | [_], _ => rfl
theorem Tx.f_is_cover (T : Tx K mg) : ∃ fd, FunD K "is_cover" "is_cover" (defArgs sis_cover) (defBody sis_cover) (defScope sis_cover) [] [] (He.ga K "is_cover") fd := T.says.def_ 12 (d := dis_cover) rfl
theorem b_is_cover {f : Addr} {fd : FuncData} (F : FunD K "is_cover" "is_cover" (defArgs sis_cover) (defBody sis_cover) (defScope sis_cover) [] [] f fd) : Binds K fd ["web", "thing"] [] := F.bindsN fun _ _ _ _ _ _ us hl => match us, hl with | [_, _], _ => rfl
theorem Tx.f_shows_cover (T : Tx K mg) : ∃ fd, FunD K "shows_cover" "shows_cover" (defArgs sshows_cover) (defBody sshows_cover) (defScope sshows_cover) [] [] (He.ga K "shows_cover") fd := T.says.def_ 13 (d := dshows_cover) rfl
theorem b_shows_cover {f : Addr} {fd : FuncData} (F : FunD K "shows_cover" "shows_cover" (defArgs sshows_cover) (defBody sshows_cover) (defScope sshows_cover) [] [] f fd) : Binds K fd ["web", "thing"] [] := F.bindsN fun _ _ _ _ _ _ us hl => match us, hl with | [_, _], _ => rfl
theorem Tx.f_is_name (T : Tx K mg) : ∃ fd, FunD K "is_name" "is_name" (defArgs sis_name) (defBody sis_name) (defScope sis_name) [] [] (He.ga K "is_name") fd := T.says.def_ 14 (d := dis_name) rfl
theorem b_is_name {f : Addr} {fd : FuncData} (F : FunD K "is_name" "is_name" (defArgs sis_name) (defBody sis_name) (defScope sis_name) [] [] f fd) : Binds K fd ["thing"] [] := F.bindsN fun _ _ _ _ _ _ us hl => match us, hl with | [_], _ => rfl
theorem Tx.f_numbers_of (T : Tx K mg) : ∃ fd, FunD K "numbers_of" "numbers_of" (defArgs snumbers_of) (defBody snumbers_of) (defScope snumbers_of) [] [] (He.ga K "numbers_of") fd := T.says.def_ 15 (d := dnumbers_of) rfl
theorem b_numbers_of {f : Addr} {fd : FuncData} (F : FunD K "numbers_of" "numbers_of" (defArgs snumbers_of) (defBody snumbers_of) (defScope snumbers_of) [] [] f fd) : Binds K fd ["names"] [] := F.bindsN fun _ _ _ _ _ _ us hl => match us, hl with | [_], _ => rfl
theorem Tx.f_is_two (T : Tx K mg) : ∃ fd, FunD K "is_two" "is_two" (defArgs sis_two) (defBody sis_two) (defScope sis_two) [] [] (He.ga K "is_two") fd := T.says.def_ 16 (d := dis_two) rfl
theorem b_is_two {f : Addr} {fd : FuncData} (F : FunD K "is_two" "is_two" (defArgs sis_two) (defBody sis_two) (defScope sis_two) [] [] f fd) : Binds K fd ["numbers", "thing"] [] := F.bindsN fun _ _ _ _ _ _ us hl => match us, hl with | [_, _], _ => rfl
theorem Tx.f_bits_of (T : Tx K mg) : ∃ fd, FunD K "bits_of" "bits_of" (defArgs sbits_of) (defBody sbits_of) (defScope sbits_of) [] [] (He.ga K "bits_of") fd := T.says.def_ 17 (d := dbits_of) rfl
theorem b_bits_of {f : Addr} {fd : FuncData} (F : FunD K "bits_of" "bits_of" (defArgs sbits_of) (defBody sbits_of) (defScope sbits_of) [] [] f fd) : Binds K fd ["numbers", "ties"] [] := F.bindsN fun _ _ _ _ _ _ us hl => match us, hl with | [_, _], _ => rfl
theorem Tx.f_Web_init (T : Tx K mg) : ∃ fd, FunD K "__init__" "Web.__init__" (defArgs sWeb_init) (defBody sWeb_init) (defScope sWeb_init) [] [] (He.ma K (He.ga K "Web") "__init__") fd := T.says.def_ 18 (d := dWeb_init) rfl
theorem b_Web_init {f : Addr} {fd : FuncData} (F : FunD K "__init__" "Web.__init__" (defArgs sWeb_init) (defBody sWeb_init) (defScope sWeb_init) [] [] f fd) : Binds K fd ["self", "names", "ties"] [] := F.bindsN fun _ _ _ _ _ _ us hl => match us, hl with | [_, _, _], _ => rfl
theorem Tx.f_Web_places (T : Tx K mg) : ∃ fd, FunD K "places" "Web.places" (defArgs sWeb_places) (defBody sWeb_places) (defScope sWeb_places) [] [] (He.ma K (He.ga K "Web") "places") fd := T.says.def_ 19 (d := dWeb_places) rfl
theorem b_Web_places {f : Addr} {fd : FuncData} (F : FunD K "places" "Web.places" (defArgs sWeb_places) (defBody sWeb_places) (defScope sWeb_places) [] [] f fd) : Binds K fd ["self"] [] := F.bindsN fun _ _ _ _ _ _ us hl => match us, hl with | [_], _ => rfl
theorem Tx.f_Web_number_of (T : Tx K mg) : ∃ fd, FunD K "number_of" "Web.number_of" (defArgs sWeb_number_of) (defBody sWeb_number_of) (defScope sWeb_number_of) [] [] (He.ma K (He.ga K "Web") "number_of") fd := T.says.def_ 20 (d := dWeb_number_of) rfl
theorem b_Web_number_of {f : Addr} {fd : FuncData} (F : FunD K "number_of" "Web.number_of" (defArgs sWeb_number_of) (defBody sWeb_number_of) (defScope sWeb_number_of) [] [] f fd) : Binds K fd ["self", "place"] [] := F.bindsN fun _ _ _ _ _ _ us hl => match us, hl with | [_, _], _ => rfl
theorem Tx.f_Web_named (T : Tx K mg) : ∃ fd, FunD K "named" "Web.named" (defArgs sWeb_named) (defBody sWeb_named) (defScope sWeb_named) [] [] (He.ma K (He.ga K "Web") "named") fd := T.says.def_ 21 (d := dWeb_named) rfl
theorem b_Web_named {f : Addr} {fd : FuncData} (F : FunD K "named" "Web.named" (defArgs sWeb_named) (defBody sWeb_named) (defScope sWeb_named) [] [] f fd) : Binds K fd ["self", "bits"] [] := F.bindsN fun _ _ _ _ _ _ us hl => match us, hl with | [_, _], _ => rfl
theorem Tx.f_Web_bits_beside (T : Tx K mg) : ∃ fd, FunD K "bits_beside" "Web.bits_beside" (defArgs sWeb_bits_beside) (defBody sWeb_bits_beside) (defScope sWeb_bits_beside) [] [] (He.ma K (He.ga K "Web") "bits_beside") fd := T.says.def_ 22 (d := dWeb_bits_beside) rfl
theorem b_Web_bits_beside {f : Addr} {fd : FuncData} (F : FunD K "bits_beside" "Web.bits_beside" (defArgs sWeb_bits_beside) (defBody sWeb_bits_beside) (defScope sWeb_bits_beside) [] [] f fd) : Binds K fd ["self", "place"] [] := F.bindsN fun _ _ _ _ _ _ us hl => match us, hl with | [_, _], _ => rfl
theorem Tx.f_Web_beside (T : Tx K mg) : ∃ fd, FunD K "beside" "Web.beside" (defArgs sWeb_beside) (defBody sWeb_beside) (defScope sWeb_beside) [] [] (He.ma K (He.ga K "Web") "beside") fd := T.says.def_ 23 (d := dWeb_beside) rfl
theorem b_Web_beside {f : Addr} {fd : FuncData} (F : FunD K "beside" "Web.beside" (defArgs sWeb_beside) (defBody sWeb_beside) (defScope sWeb_beside) [] [] f fd) : Binds K fd ["self", "place"] [] := F.bindsN fun _ _ _ _ _ _ us hl => match us, hl with | [_, _], _ => rfl
theorem Tx.f_Web_tied (T : Tx K mg) : ∃ fd, FunD K "tied" "Web.tied" (defArgs sWeb_tied) (defBody sWeb_tied) (defScope sWeb_tied) [] [] (He.ma K (He.ga K "Web") "tied") fd := T.says.def_ 24 (d := dWeb_tied) rfl
theorem b_Web_tied {f : Addr} {fd : FuncData} (F : FunD K "tied" "Web.tied" (defArgs sWeb_tied) (defBody sWeb_tied) (defScope sWeb_tied) [] [] f fd) : Binds K fd ["self", "one", "other"] [] := F.bindsN fun _ _ _ _ _ _ us hl => match us, hl with | [_, _, _], _ => rfl
theorem Tx.f_Web_ties (T : Tx K mg) : ∃ fd, FunD K "ties" "Web.ties" (defArgs sWeb_ties) (defBody sWeb_ties) (defScope sWeb_ties) [] [] (He.ma K (He.ga K "Web") "ties") fd := T.says.def_ 25 (d := dWeb_ties) rfl
theorem b_Web_ties {f : Addr} {fd : FuncData} (F : FunD K "ties" "Web.ties" (defArgs sWeb_ties) (defBody sWeb_ties) (defScope sWeb_ties) [] [] f fd) : Binds K fd ["self"] [] := F.bindsN fun _ _ _ _ _ _ us hl => match us, hl with | [_], _ => rfl
theorem Tx.f_L_at (T : Tx K mg) : ∃ fd, FunD K "_law_at" "_law_at" (defArgs sL_at) (defBody sL_at) (defScope sL_at) [] [] (He.ga K "_law_at") fd := T.says.def_ 26 (d := dL_at) rfl
theorem b_L_at {f : Addr} {fd : FuncData} (F : FunD K "_law_at" "_law_at" (defArgs sL_at) (defBody sL_at) (defScope sL_at) [] [] f fd) : Binds K fd ["_law_script", "_law_k"] [] := F.bindsN fun _ _ _ _ _ _ us hl => match us, hl with | [_, _], _ => rfl
theorem Tx.f_L_box (T : Tx K mg) : ∃ fd, FunD K "_law_box" "_law_box" (defArgs sL_box) (defBody sL_box) (defScope sL_box) [] [] (He.ga K "_law_box") fd := T.says.def_ 27 (d := dL_box) rfl
theorem b_L_box {f : Addr} {fd : FuncData} (F : FunD K "_law_box" "_law_box" (defArgs sL_box) (defBody sL_box) (defScope sL_box) [] [] f fd) : Binds K fd ["_law_cell"] [] := F.bindsN fun _ _ _ _ _ _ us hl => match us, hl with | [_], _ => rfl
theorem Tx.f_L_take (T : Tx K mg) : ∃ fd, FunD K "_law_take" "_law_take" (defArgs sL_take) (defBody sL_take) (defScope sL_take) [] [] (He.ga K "_law_take") fd := T.says.def_ 28 (d := dL_take) rfl
theorem b_L_take {f : Addr} {fd : FuncData} (F : FunD K "_law_take" "_law_take" (defArgs sL_take) (defBody sL_take) (defScope sL_take) [] [] f fd) : Binds K fd ["_law_box_here", "_law_many"] [] := F.bindsN fun _ _ _ _ _ _ us hl => match us, hl with | [_, _], _ => rfl
theorem Tx.f_L_names (T : Tx K mg) : ∃ fd, FunD K "_law_names" "_law_names" (defArgs sL_names) (defBody sL_names) (defScope sL_names) [] [] (He.ga K "_law_names") fd := T.says.def_ 29 (d := dL_names) rfl
theorem b_L_names {f : Addr} {fd : FuncData} (F : FunD K "_law_names" "_law_names" (defArgs sL_names) (defBody sL_names) (defScope sL_names) [] [] f fd) : Binds K fd ["_law_box_here", "_law_many"] [] := F.bindsN fun _ _ _ _ _ _ us hl => match us, hl with | [_, _], _ => rfl
theorem Tx.f_L_sided (T : Tx K mg) : ∃ fd, FunD K "_law_sided" "_law_sided" (defArgs sL_sided) (defBody sL_sided) (defScope sL_sided) [] [] (He.ga K "_law_sided") fd := T.says.def_ 30 (d := dL_sided) rfl
theorem b_L_sided {f : Addr} {fd : FuncData} (F : FunD K "_law_sided" "_law_sided" (defArgs sL_sided) (defBody sL_sided) (defScope sL_sided) [] [] f fd) : Binds K fd ["_law_script", "_law_most"] [] := F.bindsN fun _ _ _ _ _ _ us hl => match us, hl with | [_, _], _ => rfl
theorem Tx.f_L_more_ties (T : Tx K mg) : ∃ fd, FunD K "_law_more_ties" "_law_more_ties" (defArgs sL_more_ties) (defBody sL_more_ties) (defScope sL_more_ties) [] [] (He.ga K "_law_more_ties") fd := T.says.def_ 31 (d := dL_more_ties) rfl
theorem b_L_more_ties {f : Addr} {fd : FuncData} (F : FunD K "_law_more_ties" "_law_more_ties" (defArgs sL_more_ties) (defBody sL_more_ties) (defScope sL_more_ties) [] [] f fd) : Binds K fd ["_law_box_here", "_law_names_here", "_law_first", "_law_mixed", "_law_ties"] [] := F.bindsN fun _ _ _ _ _ _ us hl => match us, hl with | [_, _, _, _, _], _ => rfl
theorem Tx.f_L_colours (T : Tx K mg) : ∃ fd, FunD K "_law_colours" "_law_colours" (defArgs sL_colours) (defBody sL_colours) (defScope sL_colours) [] [] (He.ga K "_law_colours") fd := T.says.def_ 32 (d := dL_colours) rfl
theorem b_L_colours {f : Addr} {fd : FuncData} (F : FunD K "_law_colours" "_law_colours" (defArgs sL_colours) (defBody sL_colours) (defScope sL_colours) [] [] f fd) : Binds K fd ["_law_names_here", "_law_ties"] [] := F.bindsN fun _ _ _ _ _ _ us hl => match us, hl with | [_, _], _ => rfl
theorem Tx.f_L_tied (T : Tx K mg) : ∃ fd, FunD K "_law_tied" "_law_tied" (defArgs sL_tied) (defBody sL_tied) (defScope sL_tied) [] [] (He.ga K "_law_tied") fd := T.says.def_ 33 (d := dL_tied) rfl
theorem b_L_tied {f : Addr} {fd : FuncData} (F : FunD K "_law_tied" "_law_tied" (defArgs sL_tied) (defBody sL_tied) (defScope sL_tied) [] [] f fd) : Binds K fd ["_law_ties", "_law_one", "_law_other"] [] := F.bindsN fun _ _ _ _ _ _ us hl => match us, hl with | [_, _, _], _ => rfl
theorem Tx.f_L_pairs (T : Tx K mg) : ∃ fd, FunD K "_law_pairs" "_law_pairs" (defArgs sL_pairs) (defBody sL_pairs) (defScope sL_pairs) [] [] (He.ga K "_law_pairs") fd := T.says.def_ 34 (d := dL_pairs) rfl
theorem b_L_pairs {f : Addr} {fd : FuncData} (F : FunD K "_law_pairs" "_law_pairs" (defArgs sL_pairs) (defBody sL_pairs) (defScope sL_pairs) [] [] f fd) : Binds K fd ["_law_box_here", "_law_ties"] [] := F.bindsN fun _ _ _ _ _ _ us hl => match us, hl with | [_, _], _ => rfl
theorem Tx.f_L_partners (T : Tx K mg) : ∃ fd, FunD K "_law_partners" "_law_partners" (defArgs sL_partners) (defBody sL_partners) (defScope sL_partners) [] [] (He.ga K "_law_partners") fd := T.says.def_ 35 (d := dL_partners) rfl
theorem b_L_partners {f : Addr} {fd : FuncData} (F : FunD K "_law_partners" "_law_partners" (defArgs sL_partners) (defBody sL_partners) (defScope sL_partners) [] [] f fd) : Binds K fd ["_law_pairs_here"] [] := F.bindsN fun _ _ _ _ _ _ us hl => match us, hl with | [_], _ => rfl
theorem Tx.f_L_rising (T : Tx K mg) : ∃ fd, FunD K "_law_rising" "_law_rising" (defArgs sL_rising) (defBody sL_rising) (defScope sL_rising) [] [] (He.ga K "_law_rising") fd := T.says.def_ 36 (d := dL_rising) rfl
theorem b_L_rising {f : Addr} {fd : FuncData} (F : FunD K "_law_rising" "_law_rising" (defArgs sL_rising) (defBody sL_rising) (defScope sL_rising) [] [] f fd) : Binds K fd ["_law_names_here", "_law_partners_here"] [] := F.bindsN fun _ _ _ _ _ _ us hl => match us, hl with | [_, _], _ => rfl
theorem Tx.f_L_are_pairs (T : Tx K mg) : ∃ fd, FunD K "_law_are_pairs" "_law_are_pairs" (defArgs sL_are_pairs) (defBody sL_are_pairs) (defScope sL_are_pairs) [] [] (He.ga K "_law_are_pairs") fd := T.says.def_ 37 (d := dL_are_pairs) rfl
theorem b_L_are_pairs {f : Addr} {fd : FuncData} (F : FunD K "_law_are_pairs" "_law_are_pairs" (defArgs sL_are_pairs) (defBody sL_are_pairs) (defScope sL_are_pairs) [] [] f fd) : Binds K fd ["_law_names_here", "_law_ties", "_law_thing"] [] := F.bindsN fun _ _ _ _ _ _ us hl => match us, hl with | [_, _, _], _ => rfl
theorem Tx.f_L_is_cover (T : Tx K mg) : ∃ fd, FunD K "_law_is_cover" "_law_is_cover" (defArgs sL_is_cover) (defBody sL_is_cover) (defScope sL_is_cover) [] [] (He.ga K "_law_is_cover") fd := T.says.def_ 38 (d := dL_is_cover) rfl
theorem b_L_is_cover {f : Addr} {fd : FuncData} (F : FunD K "_law_is_cover" "_law_is_cover" (defArgs sL_is_cover) (defBody sL_is_cover) (defScope sL_is_cover) [] [] f fd) : Binds K fd ["_law_names_here", "_law_ties", "_law_thing"] [] := F.bindsN fun _ _ _ _ _ _ us hl => match us, hl with | [_, _, _], _ => rfl
theorem Tx.f_L_shows (T : Tx K mg) : ∃ fd, FunD K "_law_shows" "_law_shows" (defArgs sL_shows) (defBody sL_shows) (defScope sL_shows) [] [] (He.ga K "_law_shows") fd := T.says.def_ 39 (d := dL_shows) rfl
theorem b_L_shows {f : Addr} {fd : FuncData} (F : FunD K "_law_shows" "_law_shows" (defArgs sL_shows) (defBody sL_shows) (defScope sL_shows) [] [] f fd) : Binds K fd ["_law_names_here", "_law_ties", "_law_thing"] [] := F.bindsN fun _ _ _ _ _ _ us hl => match us, hl with | [_, _, _], _ => rfl
theorem Tx.f_L_cover (T : Tx K mg) : ∃ fd, FunD K "_law_cover" "_law_cover" (defArgs sL_cover) (defBody sL_cover) (defScope sL_cover) [] [] (He.ga K "_law_cover") fd := T.says.def_ 40 (d := dL_cover) rfl
theorem b_L_cover {f : Addr} {fd : FuncData} (F : FunD K "_law_cover" "_law_cover" (defArgs sL_cover) (defBody sL_cover) (defScope sL_cover) [] [] f fd) : Binds K fd ["_law_box_here", "_law_names_here", "_law_ties"] [] := F.bindsN fun _ _ _ _ _ _ us hl => match us, hl with | [_, _, _], _ => rfl
theorem Tx.f_L_otherwise (T : Tx K mg) : ∃ fd, FunD K "_law_otherwise" "_law_otherwise" (defArgs sL_otherwise) (defBody sL_otherwise) (defScope sL_otherwise) [] [] (He.ga K "_law_otherwise") fd := T.says.def_ 41 (d := dL_otherwise) rfl
theorem b_L_otherwise {f : Addr} {fd : FuncData} (F : FunD K "_law_otherwise" "_law_otherwise" (defArgs sL_otherwise) (defBody sL_otherwise) (defScope sL_otherwise) [] [] f fd) : Binds K fd ["_law_box_here", "_law_names_here", "_law_pairs_here", "_law_cover_here"] [] := F.bindsN fun _ _ _ _ _ _ us hl => match us, hl with | [_, _, _, _], _ => rfl
theorem Tx.f_L_asked (T : Tx K mg) : ∃ fd, FunD K "_law_asked" "_law_asked" (defArgs sL_asked) (defBody sL_asked) (defScope sL_asked) [] [] (He.ga K "_law_asked") fd := T.says.def_ 42 (d := dL_asked) rfl
theorem b_L_asked {f : Addr} {fd : FuncData} (F : FunD K "_law_asked" "_law_asked" (defArgs sL_asked) (defBody sL_asked) (defScope sL_asked) [] [] f fd) : Binds K fd ["_law_web", "_law_names_here", "_law_ties", "_law_thing"] [] := F.bindsN fun _ _ _ _ _ _ us hl => match us, hl with | [_, _, _, _], _ => rfl
theorem Tx.f_L_told (T : Tx K mg) : ∃ fd, FunD K "_law_told" "_law_told" (defArgs sL_told) (defBody sL_told) (defScope sL_told) [] [] (He.ga K "_law_told") fd := T.says.def_ 43 (d := dL_told) rfl
theorem b_L_told {f : Addr} {fd : FuncData} (F : FunD K "_law_told" "_law_told" (defArgs sL_told) (defBody sL_told) (defScope sL_told) [] [] f fd) : Binds K fd ["_law_web", "_law_names_here", "_law_ties"] [] := F.bindsN fun _ _ _ _ _ _ us hl => match us, hl with | [_, _, _], _ => rfl
theorem Tx.f_law (T : Tx K mg) : ∃ fd, FunD K "law" "law" (defArgs slaw) (defBody slaw) (defScope slaw) [] [] (He.ga K "law") fd := T.says.def_ 44 (d := dlaw) rfl
theorem b_law {f : Addr} {fd : FuncData} (F : FunD K "law" "law" (defArgs slaw) (defBody slaw) (defScope slaw) [] [] f fd) : Binds K fd ["_law_script"] [] := F.bindsN fun _ _ _ _ _ _ us hl => match us, hl with | [_], _ => rfl

end
end K27

namespace K27
open PySem PySem.Spec PyProof.Rows L2

/-! ### the head: the top by one kernel run, the facts read behind it -/
/-- the part of the heap that the facts are read in: what the module's names reach, and the statics -/
def fr27 (g : Addr → Option Obj) : PySem.W.Frag := He.frT g (sysModules :: cStatics :: He.asD g 5)
/-- what is looked at besides the facts by names -/
def ex27 (K : PySem.W.Frag) : Bool := exB K && (K.lookup sysModules).isSome
abbrev Al27 : Type := He.AlD × Bool
def obs27 (g : Addr → Option Obj) : Al27 := (He.obsD fa27 fn27 (fr27 g), ex27 (fr27 g))
def hk27 : PySem.W.Hook where
  α := Al27
  obs := fun s => obs27 s.heap.get?
  val := fun _ => (He.valD fn27, true)
  says := fun _ h => ∃ K : PySem.W.Frag, K.In h ∧ He.SaysD fa27 fn27 K ∧ ex27 K = true
  of := fun _ _ e => ⟨_, He.frT_in, congrArg (fun z : Al27 => z.1) e, congrArg (fun z : Al27 => z.2) e⟩
  keeps := fun _ _ _ ⟨K, hK, c⟩ k => ⟨K, PySem.W.Frag.In.keeps hK k, c⟩
abbrev R27 : PySem.W.OpenRow := PySem.W.OpenLaw.row PySem.Challenge.rw_onceroad_k27_whole_pairs_and_covers
def ob27 (s : PySem.W.SharedT) : Al27 := obs27 (HandSHeadRun.getT s)
theorem ob27_eq (s : PySem.W.SharedT) : ob27 s = hk27.obs s.abs := by
  have e : HandSHeadRun.getT s = s.abs.heap.get? := funext fun a => HandSHeadRun.getT_eq s a
  show obs27 (HandSHeadRun.getT s) = obs27 s.abs.heap.get?
  rw [e]
theorem run27 (w : World) : HandSHeadRun.RunEq R27 (PySem.W.view R27.prog [54]) hk27 ob27 6000 loose27 w := by
  intro os
  kernel_rfl
end K27

namespace K27
open PySem PySem.Spec PyProof.Rows L2
section
variable {X : Cx}
/-! ### xs[i] |= n -/
/-- an item by its place -/
def rGetL (K : PySem.W.Frag) : V → V → Hp → VK → Prop := fun o i H Q => ∃ (p : Addr) (xs : List V) (k : Nat) (z : V), o = .ref p ∧ i = .int (k : Int) ∧ SqL K H p xs ∧ xs[k]? = some z ∧ Q z H
theorem get_list : PGet X (rGetL X.K) := by
  intro pins s σ H o i ov iv Q I ro ri h
  obtain ⟨p, xs, k, z, eo, ei, hq, he, q⟩ := h
  subst eo ei
  obtain rfl : ov = Value.ref p := ro
  obtain ⟨t, rfl⟩ := ri
  obtain ⟨its, r, pl, hz⟩ := I.list hq
  obtain ⟨w, ew, rw'⟩ := r.get he
  have hk : k < its.length := (List.getElem?_eq_some_iff.mp ew).1
  have hl := r.length
  have hn := sizeLine_eq
  exact wpAny_getItem_list pl.isList (by omega) (by omega) (by simpa using ew) ⟨z, H, I, rw', q⟩
theorem ip_bor : PIp X .BitOr (fun x y H Q => ∃ i j, x = .int i ∧ y = .int j ∧ Q (.int (Builtin.bitOr i j)) H) := fun pins s σ H x y v u Q I rx ry h => iop_or pins s σ H x y v u Q I rx ry h

/-! ### d.update(e) -/
def rUpd : V → List V → Hp → VK → Prop := fun x vs H Q => ∃ (a b : Addr) (kvs more : List (Key × V)), x = .ref a ∧ vs = [.ref b] ∧ a ≠ b ∧ H a = some (.dK kvs) ∧ H b = some (.dK more) ∧ kvs.length + more.length ≤ sizeLine ∧
  Q .non (upd H a (.dK (mergeK kvs more)))
theorem mt_upd : MtR X "dict.update" rUpd := by
  intro pins s σ H x vs v us Q I rx rv h
  obtain ⟨a, b, kvs, more, ex, ev, hab, ea, eb, hz, q⟩ := h
  subst ex ev
  obtain rfl : v = Value.ref a := rx
  obtain ⟨u, rfl, ru⟩ := rv.one
  obtain rfl : u = Value.ref b := ru
  obtain ⟨z1, hd1, vs1, rel1, dd1⟩ := dk_of I.hok ea
  obtain ⟨z2, hd2, vs2, rel2, dd2⟩ := dk_of I.hok eb
  refine call_meetsIn PySem.F.slot_dict_update dd1.typeIs PySem.F.entry_dict_update (PySem.F.args_dict_update_2 _ _) (meets_dict_update (mixKind X.prog X.w) a b hab hd2)
    ⟨vs1, vs2, dd1, dd2, by rw [← rel1.length, ← rel2.length]; exact hz, fun h' dd' _ hs => ?_⟩
  have he : ∃ q, h'.get? a = some q := let ⟨q, _, _, hq, _⟩ := dd'; ⟨q, hq⟩
  have hl : (mergeK kvs more).length ≤ sizeLine := Nat.le_trans (length_mergeK more kvs) hz
  exact ⟨.non, _, d_write (t' := s.toks) I (by rw [ea]; exact True.intro) hs he (dk_new hl hd1 (rel2.merge rel1) dd'), rfl, q⟩

/-! ### t[::-1], t of two items -/
def tRev2 (K : PySem.W.Frag) (te : TE) : TE := fun σ H Q => te σ H fun x H1 => ∃ (a : Addr) (y z : V), x = .ref a ∧ SqT K H1 a [y, z] ∧ ∀ p, H1 p = none → Q (.ref p) (upd H1 p (.tup [z, y]))
theorem rev2_applied {prog : Program} {w : World} {A : Around} {E : Value → Shared → Prop} {s : Shared} {sl : Addr} {t : Tok} {Q : Int × Int × Nat → Shared → Prop} (hs : s.heap.IsSliceOf sl .none .none (.int (-1) t)) (h : Q (1, -1, 2) s) :
    wpAny (model prog w) A (Builtin.Slice.sliceApplied (.ref sl) (pure (2 : Int))) Q E s := by
  obtain ⟨os, hos, hcs, hds⟩ := id hs
  unfold Builtin.Slice.sliceApplied Builtin.Slice.sliceFields
  refine wpAny_bind (wpAny_bind (wpAny_field hos hds (x := .none) rfl (wpAny_bind (wpAny_field hos hds (x := .none) rfl (wpAny_bind (wpAny_field hos hds (x := .int (-1) t) rfl (wpAny_pure ?_)))))))
  refine wpAny_bind (slicePart_int ?_)
  show wpAny _ _ (if ((-1 : Int) == 0) = true then _ else _) _ _ s
  rw [if_neg (by decide)]
  refine wpAny_bind (slicePart_none (wpAny_bind (slicePart_none (wpAny_bind (wpAny_pure ?_)))))
  exact wpAny_pure h
theorem rev2_item {prog : Program} {w : World} {A : Around} {E : Value → Shared → Prop} {s : Shared} {a sl : Addr} {y z : Value} {t : Tok} {Q : Value → Shared → Prop} (ht : IsTup s.heap a #[y, z]) (hs : s.heap.IsSliceOf sl .none .none (.int (-1) t))
    (h : Q (.ref s.heap.objs.size) { s with heap := s.heap.push { cls := .type "tuple", data := .seq #[z, y] } }) : wpAny (model prog w) A (getItem (.ref a) (.ref sl)) Q E s := by
  obtain ⟨os, hos, hcs, hds⟩ := id hs
  have hTs : s.TypeIs (.ref sl) "slice" := ⟨os, hos, hcs⟩
  unfold getItem
  try with_reducible refine wpAny_holding ?_
  first | refine wpAny_bind (wpAny_pure ?_) | skip
  refine wpAny_bind (wpAny_sequenceKey ht.typeIs (by decide) ?_)
  refine wpAny_bind (wpAny_callSpecial?_slot (name := Str.ofString "__getitem__") ht.typeIs PyProof.Rows.slot_tuple_getitem
    (wpAny_call_entry PyProof.Rows.slot_tuple_getitem ht.typeIs entry_tuple_getitem ?_ (args_tuple_getitem _ _)))
  show wpAny _ _ (Builtin.Tuple.tupleItemsOf (.ref a) >>= _) _ _ s
  refine wpAny_bind (tupleItemsOf_ ht ?_)
  refine wpAny_bind (wpAny_typeOf hTs ?_)
  rw [if_pos (by decide)]
  refine wpAny_bind (rev2_applied hs ?_)
  show wpAny _ _ (if ((1 : Int) == 0 && (-1 : Int) == 1 && (2 : Nat) == 2) = true then _ else _) _ _ s
  rw [if_neg (by decide)]
  have e : ((List.range 2).filterMap fun (k : Nat) => (#[y, z] : Array Value)[((1 : Int) + (k : Int) * (-1)).toNat]?).toArray = #[z, y] := rfl
  first
    | (refine wpAny_bind (m := Builtin.Tuple.tupleExact _) (wpAny_newObj_type (wpAny_pure ⟨_, rfl, wpAny_pure h⟩) (by show 2 ≤ sizeLine; decide)))
    | (refine wpAny_bind (m := Builtin.Tuple.tupleExact _) (wpAny_newObj_type (wpAny_bind (wpAny_pure (wpAny_pure ⟨_, rfl, wpAny_pure h⟩))) (by show 2 ≤ sizeLine; decide)))
    | (refine wpAny_bind (wpAny_bind (m := Builtin.Tuple.tupleExact _) (wpAny_newObj_type (wpAny_pure (wpAny_pure ⟨_, rfl, wpAny_pure h⟩)) (by show 2 ≤ sizeLine; decide))))
    | (refine wpAny_bind (wpAny_bind (m := Builtin.Tuple.tupleExact _) (wpAny_newObj_type (wpAny_pure ⟨_, rfl, wpAny_pure h⟩) (by show 2 ≤ sizeLine; decide))))
theorem pe_rev2 {e : Expr} {te : TE} {k : Nat} {p1 p2 p3 pos : Pos} (he : PE X e te) : PE X (.Subscript e (.Slice none none (some (.UnaryOp .USub (.Constant (.int 1) k p1) p2)) p3) pos) (tRev2 X.K te) := by
  refine ⟨fun pins s σ H Q I h => ?_⟩
  refine Subscript_ (thn (he.run pins s σ H _ I h) fun v s1 ⟨x, H1, I1, r1, a, y, z, ex, hx, q⟩ => ?_)
  subst ex
  obtain rfl : v = Value.ref a := r1
  have hst : PO X (some (.UnaryOp .USub (.Constant (.int 1) k p1) p2)) (tPart (tUn (rU fun i => .int (-i)) (tC (.int 1)))) := po_some (pe_un un_neg pe_int)
  refine wpAny_Slice (thn (po_none.run pins s1 σ H1 (fun o H2 => o = none ∧ H2 = H1) I1 ⟨rfl, rfl⟩) fun vl s2 ⟨l, H2, I2, pl, el, e2⟩ => ?_)
  subst el e2
  refine thn (po_none.run pins s2 σ H2 (fun o H3 => o = none ∧ H3 = H2) I2 ⟨rfl, rfl⟩) fun vu s3 ⟨u, H3, I3, pu, eu, e3⟩ => ?_
  subst eu e3
  refine thn (hst.run pins s3 σ H3 (fun o H4 => o = some (-1) ∧ H4 = H3) I3 ⟨1, rfl, -1, rfl, rfl, rfl⟩) fun vs s4 ⟨o, H4, I4, ps, eo, e4⟩ => ?_
  subst eo e4
  have I5 : Inv X pins σ H4 { s4 with heap := s4.heap.push { cls := .type "slice", data := .fields #[vl, vu, vs] } } := I4.kept (t' := s4.toks) fun b ob q => Heap.get?_push_of_some _ q
  obtain ⟨its, r, ht, hz⟩ := I5.tuple hx
  cases pl
  cases pu
  cases ps
  cases r with
  | cons ry r =>
    cases r with
    | cons rz r =>
      cases r
      refine tail_any (ops := [.ref a, .ref s4.heap.objs.size]) ht.typeIs (PyProof.Rows.slot_tuple_getitem.lookup) ?_ (by with_unfolding_all rfl)
      refine rev2_item ht (Heap.IsSliceOf.new _ _ _ _) ?_
      exact ⟨.ref _, _, I5.laid (t' := s4.toks) (o := .tup [z, y]) (fun b ob q => Heap.get?_push_of_some _ q) (Nat.le_refl _) ⟨by show 2 ≤ sizeLine; decide, _, .cons rz (.cons ry .nil), IsTup.new _ _⟩, rfl, q _ (I5.hok.fresh (Nat.le_refl _))⟩
end
end K27

namespace K27
open PySem PySem.Spec PyProof.Rows L2
section
variable {X : Cx} {e : Expr} {es : List Expr} {ta : TA} {p1 p2 p pos : Pos}
/-- D.__init__(self, ..), D an own class that has ValueError's -/
theorem pe_dinit {pl : Sem Bool} {x : Str} {D : Addr} (hg : Gl X x) (hm : X.mg x = some (.ref D)) (hr : PySem.W.readsIn X.K D (.type "type") = true) (hs : PySem.W.specialIn X.K (.ref D) "__getattribute__" = some (some (.builtin "type.__getattribute__")))
    (hf : PySem.W.findCls X.K (.ref D) (.type "type") "__init__" = some (.val (.builtin "ValueError.__init__"))) (ha : PA X (e :: es) ta)
    (hc : eval (.Call (.Attribute (.Name x p1) "__init__" p2) (e :: es) [] pos) X.env = (do
      let ov ← eval (.Name x p1) X.env
      standAt p2.atName
      let (f, first) ← holding [ov] (getMethod ov "__init__" pl)
      callWith pos f first (backTo pos (starEach (e :: es) X.env)) (backToKw pos (keywordEach [] X.env))) := by rfl)
    (hdb : (x == ("__debug__" : Str)) = false := by decide)
    (he : starEach (e :: es) X.env = (false, eval e X.env) :: starEach es X.env := by rfl) (hpl : (backTo pos (starEach es X.env)).any (·.1) = false := by rfl) :
    PE X (.Call (.Attribute (.Name x p1) "__init__" p2) (e :: es) [] pos) (tVeI X.K ta) := by
  refine ⟨fun pins s σ H Q I h => ?_⟩
  refine PySem.W.methodCall_KW (ld_glob I hg hm ?_ hdb) hc
  refine PySem.W.method_cls I.kIn hs (PySem.W.cls_value I.kIn hr hf rfl ?_)
  show wpAny _ _ (callWith pos (Value.builtin "ValueError.__init__") [] (backTo pos (starEach (e :: es) X.env)) []) _ _ _
  refine PyProof.Rows.callWith_method1 (thn (ha.run pos pins _ σ H _ (I.tok _) h) fun us s1 ⟨vs, H1, I1, r1, a, C, ws, ev, hl, T, ea, q⟩ => ?_) he hpl
  subst ev
  cases r1 with
  | @cons _ u0 _ ur ra rw' =>
    obtain rfl : u0 = Value.ref a := ra
    have hlen : ur.length ≤ sizeLine := by
      rw [← Paired.length rw', sizeLine_eq]
      omega
    exact oinit_ok T I1 ea hlen fun s' J => ⟨.non, H1, J, rfl, q⟩

/-- C(e, ..), C's own __init__ keeping sp; its context is told: none -/
theorem pmk_own27 {CX : CXT} {x : Str} {C fI : Addr} {k : Nat} {fd : FuncData} {ps : List Str} {sp : Sp} (T : OexC X.K C) (iC : PySem.W.findIn X.K (.ref C) "__init__" = some (some (.ref fI))) (tI : PySem.W.typeIn X.K (.ref fI) = some (.type "function"))
    (F1 : FnOk X.prog X.w X.K X.mg X.base CX k fI fd ps sp) (hr : Room (k + 1) X.A) (hb : Binds X.K fd ps []) (hx : Passes CX X (fun _ _ _ => False)) (hg : Gl X x) (hm : X.mg x = some (.ref C)) (ha : PA X (e :: es) ta)
    (hdb : (x == ("__debug__" : Str)) = false := by decide) (he : starEach (e :: es) X.env = (false, eval e X.env) :: starEach es X.env := by rfl) (hpl : (backTo pos (starEach es X.env)).any (·.1) = false := by rfl) :
    L2N.PMk X (.Call (.Name x p) (e :: es) [] pos) (tMkO C sp [] ta) := by
  intro pins s σ H Q I h
  obtain ⟨nm, q, N, bs, bm, sn, sub, ab, col, dd, k0, k1, k2, k3, k5, hC, hbm⟩ := T.cls
  refine wpAny_Call_Name_kw (ld_glob I hg hm ?_ hdb)
  refine PySem.W.callWith_K (h₀ := X.base) I.ok.mod.kin T.kC (thn (ha.run pos pins s σ H _ I h) fun us st ⟨vs, G, J1, r1, hz, q1⟩ => ⟨J1.kIn, ?_⟩) he hpl
  show wpAny _ _ (call (.ref C) us) _ _ _
  obtain ⟨hp, g, dr, tk, os⟩ := st
  let z := hp.objs.size + 1
  let hp2 := (hp.push (PySem.W.kdv_tup us)).push (PySem.HandSPX.excO C hp.objs.size)
  have hsz : hp.objs.size ≤ z := Nat.le_succ _
  have hq := q1 z (J1.hok.fresh hsz)
  rw [List.append_nil] at hq
  have kk : ∀ b o, hp.get? b = some o → hp2.get? b = some o := fun b o w => Heap.get?_push_of_some _ (Heap.get?_push_of_some _ w)
  have hget : hp2.get? z = some (PySem.HandSPX.excO C hp.objs.size) := by
    show ((hp.push (PySem.W.kdv_tup us)).push (PySem.HandSPX.excO C hp.objs.size)).get? (hp.objs.size + 1) = _
    heap_get
  have J2 : Inv X pins σ (upd G z (exo z C none)) ⟨hp2, g, dr, tk, os⟩ := J1.laid (t' := tk) (a := z) (o := exo z C none) (h' := hp2) kk hsz (exo_ok hget)
  have r2 : Vals (V.ref z :: vs) (Value.ref z :: us) := .cons rfl r1
  have hl : (Value.ref z :: us ++ []).length = ps.length := by
    rw [List.append_nil, ← r2.length]
    exact F1.len _ _ _ _ hq
  have b2 := hb _ (Value.ref z :: us) J2.kIn hl
  rw [List.append_nil] at b2
  have hus : us.length ≤ sizeLine := by
    rw [← Paired.length r1, sizeLine_eq]
    omega
  have run := F1.run _ X.stack _ _ ⟨Value.ref z :: us, []⟩ (Value.ref z :: us) _ _ (fun _ _ _ => False) (hr.make C us []) (J2.env0.make C us []) b2 r2 hq
  refine wpAny_call (PySem.HandSPX.call_own F.excBase_ValueError (fun Y => PySem.HandSPX.refsVE_contains Y bm hbm) (J1.kIn _ _ hC) (PySem.W.looks_findIn J1.kIn iC) (fun self => PySem.W.bind_fn J1.kIn self tI) hus (codeAny_mono run fun r s' hq' => ?_))
  cases r with
  | error er => exact hx pins σ _ _ er s' J2 hq'
  | ok fl =>
    cases fl with
    | ret u =>
      obtain ⟨v, H2, os2, bare2, un2, hok2, rv, ev, d, fs, ea, ed, hd1, q2⟩ := hq'
      subst ev
      obtain ⟨h2, g2, d2, t2, os'⟩ := s'
      obtain ⟨t0, B, J, kG, ge, hoe, na⟩ := mk_end0 (d2 := d2) (t2 := t2) J1 hsz kk un2 hok2 os2 bare2 ea ed hd1
      refine ⟨rv, z, _, _, ⟨B, g2, d2, t2, os'⟩, _, .ref C, some d, rfl, J, kG, ge, hoe, ⟨rfl, rfl, fun vs hv => ?_⟩, rfl, rfl, na, rfl, bare2, raises_own T.exC T.tyC, q2⟩
      cases hv
      rfl
    | next => exact False.elim hq'
    | brk => exact False.elim hq'
    | cont => exact False.elim hq'
end
end K27

namespace K27
open PySem PySem.Spec PyProof.Rows L2
/-! ### what a value says, all of it tracked -/
mutual
inductive Dq (H : Hp) : V → PyData → Prop
  | non : Dq H .non .none
  | bl (b : Bool) : Dq H (.bl b) (.bool b)
  | int (i : Int) : Dq H (.int i) (.int i)
  | str (x : Str) : Dq H (.str x) (.str x)
  | lst {a : Addr} {xs : List V} {ds : List PyData} : H a = some (.lst xs) → Dqs H xs ds → Dq H (.ref a) (.list ds)
  | tup {a : Addr} {xs : List V} {ds : List PyData} : H a = some (.tup xs) → Dqs H xs ds → Dq H (.ref a) (.tuple ds)
  | dct {a : Addr} {zs : List Str} : H a = some (.dK (zs.map fun z => (Sum.inr z, V.bl true))) → Dq H (.ref a) (.dict (zs.map fun z => (PyData.str z, PyData.bool true)))
inductive Dqs (H : Hp) : List V → List PyData → Prop
  | nil : Dqs H [] []
  | cons {v : V} {vs : List V} {d : PyData} {ds : List PyData} : Dq H v d → Dqs H vs ds → Dqs H (v :: vs) (d :: ds)
end
mutual
theorem Dq.mono {G H : Hp} (k : ∀ b o, G b = some o → H b = some o) : ∀ {v : V} {d : PyData}, Dq G v d → Dq H v d
  | _, _, .non => .non
  | _, _, .bl b => .bl b
  | _, _, .int i => .int i
  | _, _, .str x => .str x
  | _, _, .lst e h => .lst (k _ _ e) (Dqs.mono k h)
  | _, _, .tup e h => .tup (k _ _ e) (Dqs.mono k h)
  | _, _, .dct e => .dct (k _ _ e)
theorem Dqs.mono {G H : Hp} (k : ∀ b o, G b = some o → H b = some o) : ∀ {vs : List V} {ds : List PyData}, Dqs G vs ds → Dqs H vs ds
  | _, _, .nil => .nil
  | _, _, .cons h t => .cons (Dq.mono k h) (Dqs.mono k t)
end
theorem Dqs.length {H : Hp} : ∀ {vs : List V} {ds : List PyData}, Dqs H vs ds → vs.length = ds.length
  | _, _, .nil => rfl
  | _, _, .cons _ t => congrArg (· + 1) t.length
theorem pairs_reads {P : Program} {w : World} {h : Heap} : ∀ {zs : List Str} {es : List DictEntry} {vs : List (Key × Value)}, Pairs (mixKind P w) es vs → KV (zs.map fun z => (Sum.inr z, V.bl true)) vs →
    ReadsAll h (es.map (·.key)) (zs.map PyData.str) ((zs.map fun _ => ([] : List Addr)).flatten) ∧ ReadsAll h (es.map (·.val)) (zs.map fun _ => PyData.bool true) ((zs.map fun _ => ([] : List Addr)).flatten)
  | [], _, _, p, q => by
    cases q
    cases p
    exact ⟨.nil, .nil⟩
  | z :: zs, _, _, p, q => by
    cases q with
    | cons q t =>
      cases p with
      | cons k v p =>
        obtain ⟨r1, r2⟩ := pairs_reads (h := h) p t
        obtain ⟨q1, q2⟩ := q
        rename_i b bs e es'
        obtain ⟨bk, bv⟩ := b
        have q1' : (Sum.inr z : Key) = bk := q1
        have q2' : bv = Value.bool true := q2
        subst q1' q2'
        rcases keyIs_shape (show keyIs (Sum.inr z) e.key = true from k) with ⟨_, _, z1, _⟩ | ⟨x, t', z1, z2⟩
        · cases z1
        · cases z1
          have v' : e.val = Value.bool true := v
          refine ⟨?_, ?_⟩
          · show ReadsAll h (e.key :: es'.map (·.key)) (PyData.str z :: zs.map PyData.str) ([] ++ _)
            rw [z2]
            exact .cons (.str z t') r1
          · show ReadsAll h (e.val :: es'.map (·.val)) (PyData.bool true :: zs.map fun _ => PyData.bool true) ([] ++ _)
            rw [v']
            exact .cons (.bool true) r2
theorem no_addrs : ∀ zs : List Str, (zs.map fun _ => ([] : List Addr)).flatten = []
  | [] => rfl
  | _ :: zs => no_addrs zs
section
variable {X : Cx} {pins : List (Addr × Obj)} {σ : L2.St} {H : Hp} {s : Shared}
mutual
theorem Dq.reads (I : Inv X pins σ H s) : ∀ (d : PyData) (v : V) (u : Value), Dq H v d → RelV v u → ∃ as, Reads s.heap u d as ∧ ∀ b ∈ as, ∃ o, H b = some o
  | .none, _, _, h, r => by
    cases h
    cases r
    exact ⟨_, Reads.none, fun b hb => nomatch hb⟩
  | .bool b, _, _, h, r => by
    cases h
    cases r
    exact ⟨_, Reads.bool b, fun b hb => nomatch hb⟩
  | .int i, _, _, h, r => by
    cases h
    obtain ⟨t, rfl⟩ := r
    exact ⟨_, Reads.int i t, fun b hb => nomatch hb⟩
  | .str x, _, _, h, r => by
    cases h
    obtain ⟨t, rfl⟩ := r
    exact ⟨_, Reads.str x t, fun b hb => nomatch hb⟩
  | .list ds, _, _, h, r => by
    cases h with
    | lst e ha =>
      cases r
      obtain ⟨its, rv, ⟨o, n, ho, hc, _, hd⟩, _⟩ := I.list (.inl (.inl e))
      obtain ⟨as, hr, hb⟩ := Dqs.reads I ds _ its ha rv
      refine ⟨_, Reads.list ho hc hd hr, fun b hm => ?_⟩
      rcases List.mem_cons.mp hm with z | hm
      · rw [z]
        exact ⟨_, e⟩
      · exact hb b hm
  | .tuple ds, _, _, h, r => by
    cases h with
    | tup e ha =>
      cases r
      obtain ⟨its, rv, ⟨o, ho, hc, n, hd⟩, _⟩ := I.tuple (.inl (.inl e))
      obtain ⟨as, hr, hb⟩ := Dqs.reads I ds _ its ha rv
      exact ⟨_, Reads.tuple ho hc hd hr, hb⟩
  | .dict kvs, _, _, h, r => by
    generalize hd : PyData.dict kvs = d at h
    cases h with
    | @dct a zs e =>
      cases r
      obtain ⟨_, _, vs, rel, o, es, ep, ho, hx, hdt, _, hp, _⟩ := dk_of I.hok e
      obtain ⟨r1, r2⟩ := pairs_reads (h := s.heap) hp rel
      rw [no_addrs] at r1 r2
      cases hd
      refine ⟨_, Reads.dict (as := []) (bs := []) ho hx.1 hdt ?_ ?_, fun b hm => ?_⟩
      · rw [List.map_map]
        exact r1
      · rw [List.map_map]
        exact r2
      · rcases List.mem_cons.mp hm with z | hm
        · rw [z]
          exact ⟨_, e⟩
        · cases hm
    | _ => cases hd
theorem Dqs.reads (I : Inv X pins σ H s) : ∀ (ds : List PyData) (vs : List V) (us : List Value), Dqs H vs ds → Vals vs us → ∃ as, ReadsAll s.heap us ds as ∧ ∀ b ∈ as, ∃ o, H b = some o
  | [], _, _, h, r => by
    cases h
    cases r
    exact ⟨_, ReadsAll.nil, fun b hb => nomatch hb⟩
  | d :: ds, _, _, h, r => by
    cases h with
    | cons h1 h2 =>
      cases r with
      | cons r1 r2 =>
        obtain ⟨as, q1, b1⟩ := Dq.reads I d _ _ h1 r1
        obtain ⟨bs, q2, b2⟩ := Dqs.reads I ds _ _ h2 r2
        exact ⟨_, ReadsAll.cons q1 q2, fun b hm => (List.mem_append.mp hm).elim (b1 b) (b2 b)⟩
end
end
/-! ### repr(x) -/
def rRepr : List V → Hp → VK → Prop := fun xs H Q => ∃ (v : V) (d : PyData), xs = [v] ∧ Dq H v d ∧ d.showable = true ∧ d.depth ≤ 30 ∧ d.shown.length ≤ sizeLine ∧ Q (.str d.shown) H
theorem call_repr {X : Cx} (hg : X.A.guards = some []) (hu : X.A.units + 64 < cLine) (hm : (X.K.lookup sysModules).isSome = true) : CallR X (.builtin "repr") rRepr := by
  intro pins s σ H xs us Q I r h
  obtain ⟨v, d, ev, hd, sh, hz, hl, q⟩ := h
  subst ev
  obtain ⟨u, rfl, ru⟩ := r.one
  obtain ⟨as, hr, hb⟩ := Dq.reads I d v u hd ru
  have hns : sysModules ∉ as := fun z => by
    obtain ⟨o, ho⟩ := Option.isSome_iff_exists.mp hm
    obtain ⟨o', e'⟩ := hb _ z
    have e2 := (I.bs _ _ (I.ok.mod.kin _ _ ho)).2
    rw [e'] at e2
    cases e2
  have leaf : ∀ {Q' : Value → Shared → Prop}, (∀ h' t tk, (∀ b o, s.heap.get? b = some o → h'.get? b = some o) → Q' (.str d.shown t) { s with heap := h', toks := tk }) → wpAny (model X.prog X.w) X.A (call (.builtin "repr") [u]) Q' X.xe s := fun {Q'} k => by
    cases hr with
    | none => exact PySem.P.repr_of_none (k s.heap _ _ fun _ _ z => z)
    | bool b => exact PySem.P.repr_of_bool (k s.heap _ _ fun _ _ z => z)
    | int i t => exact PySem.P.repr_of_int (by simpa only [PyData.showable, decide_eq_true_eq] using sh) (k s.heap _ _ fun _ _ z => z)
    | str x t => exact PySem.P.repr_of_str (k s.heap _ _ fun _ _ z => z) hl
    | list h1 h2 h3 h4 => exact repr_of_reads' (.list h1 h2 h3 h4) sh (fun _ => hns) hg (by omega) (fun _ _ z => z) (fun h' t tk kk => k h' t tk kk) hl
    | tuple h1 h2 h3 h4 => exact repr_of_reads' (.tuple h1 h2 h3 h4) sh (fun _ => hns) hg (by omega) (fun _ _ z => z) (fun h' t tk kk => k h' t tk kk) hl
    | dict h1 h2 h3 h4 h5 => exact repr_of_reads' (.dict h1 h2 h3 h4 h5) sh (fun _ => hns) hg (by omega) (fun _ _ z => z) (fun h' t tk kk => k h' t tk kk) hl
  exact leaf fun h' t tk kk => ⟨.str d.shown, H, I.kept (t' := tk) kk, ⟨t, rfl⟩, q⟩
end K27

namespace K27
open PySem PySem.Spec PyProof.Rows L2
/-! ### defs that may ask whether a repr is under way: promises where none is -/
structure FnG (P : Program) (w : World) (K : PySem.W.Frag) (mg : Str → Option Value) (base : Heap) (CX : CXT) (k : Nat) (f : Addr) (fd : FuncData) (ps : List Str) (sp : Sp) : Prop where
  len : ∀ vs H Q E, sp vs H Q E → vs.length = ps.length
  run : ∀ (A : Around) (outer : List Env) (s : Shared) (H : Hp) (args : Args) (us : List Value) (vs : List V) (Q : VK) (E : XK), A.guards = some [] → Room k A → Env0 P w K mg base A outer s H → BindsTo s fd args (ps.zip us) → Vals vs us → sp vs H Q E →
    codeAny (model P w) A (.call (.ref f) args) (CR CX outer P w H s Q E) s
section
variable {P : Program} {w : World} {K : PySem.W.Frag} {mg : Str → Option Value} {base : Heap} {x qual : Str} {params : Arguments} {body : List Stmt} {scope : Scope} {f : Addr} {fd : FuncData}
theorem okG {CX : CXT} {N ps : List Str} {k : Nat} {sp : Sp} (F : FunD K x qual params body scope [] [] f fd) (S : FnScope N ps scope) (len : ∀ vs H Q E, sp vs H Q E → vs.length = ps.length)
    (hbody : ∀ (cdv : Value) (A : Around) (outer : List Env) (s : Shared) (H : Hp) (vs : List V) (Q : VK) (E : XK), A.guards = some [] → Room k (A.deeper (envOfC qual scope s.heap.objs.size f cdv)) → sp vs H Q E →
      ∃ t, PSs (cxOf CX P w K mg base N qual scope f cdv A outer s H E) body t ∧ t { nx := fun _ H' => Q .non H', rt := Q } (start N vs) H) : FnG P w K mg base CX (k + 1) f fd ps sp := by
  obtain ⟨oc, od, dV, kV, doc, pm, an, cdv, ct, osl, rfl, lk, hcd, _, _⟩ := F.ex
  refine ⟨len, fun A outer s H args us vs Q E hg hr e0 hb r hsp => ?_⟩
  have keep : ∀ b o, base.get? b = some o → s.heap.get? b = some o := fun b o z => (e0.bs b o z).1
  have hall : ((ps.zip us).all fun y => scope.names.lookup y.1 == some .local || scope.names.lookup y.1 == some .cell) = true := List.all_eq_true.mpr fun y hy => by
    rcases S.par y.1 (List.of_mem_zip hy).1 with z | z
    · rw [z]
      rfl
    · rw [z]
      rfl
  refine Att.call_fn (e0.mod.kin.keeps keep) (e0.mod.nolimit.keeps keep) lk hcd hr.depth hb hall (fun s1 ic => ?_) S.co S.gen S.kind
  obtain ⟨t, ht, hq⟩ := hbody cdv A outer s H vs Q E hg (hr.deeper _) hsp
  have I := inv_start (CX := CX) (P := P) (w := w) (E := E) (cd := cdv) S hr.hd e0 (len _ _ _ _ hsp) r ic
  refine wpAny_mono (ht.run [] s1 (start N vs) H _ I hq) (fun fl s' hs => ?_) fun e s' hs => hs
  cases fl with
  | ret u =>
    obtain ⟨v, σ', H', J, rv, q⟩ := hs
    exact ⟨v, H', J.os, J.bare, J.base, J.hok, rv, q⟩
  | next =>
    obtain ⟨σ', H', J, q⟩ := hs
    exact ⟨V.non, H', J.os, J.bare, J.base, J.hok, rfl, q⟩
  | brk =>
    obtain ⟨_, _, _, q⟩ := hs
    exact False.elim q
  | cont =>
    obtain ⟨_, _, _, q⟩ := hs
    exact False.elim q
end
section
variable {X : Cx} {CX : CXT} {k : Nat} {f : Addr} {fd : FuncData} {ps : List Str} {sp : Sp} {E : XK} {x : Str} {p pos : Pos} {e : Expr} {es : List Expr} {t : TA}
theorem pe_callG (F : FnG X.prog X.w X.K X.mg X.base CX k f fd ps sp) (hgu : X.A.guards = some []) (hr : Room k X.A) (hg : Gl X x) (hm : X.mg x = some (.ref f)) (hk : PySem.W.keepIn X.K (.ref f) = true) (hb : Binds X.K fd ps []) (hx : Passes CX X E)
    (ha : PA X (e :: es) t) (hdb : (x == ("__debug__" : Str)) = false := by decide) (he : starEach (e :: es) X.env = (false, eval e X.env) :: starEach es X.env := by rfl) (hpl : (backTo pos (starEach es X.env)).any (·.1) = false := by rfl) :
    PE X (.Call (.Name x p) (e :: es) [] pos) (tCall sp [] E t) := by
  refine ⟨fun pins s σ H Q I h => wpAny_Call_Name_kw (ld_glob I hg hm ?_ hdb)⟩
  refine PySem.W.callWith_K (h₀ := X.base) I.ok.mod.kin hk (thn (ha.run pos pins s σ H _ I h) fun us s1 ⟨vs, H1, I1, r, q⟩ => ⟨I1.kIn, ?_⟩) he hpl
  have q' : sp vs H1 Q E := by
    have z : sp (vs ++ []) H1 Q E := q
    rw [List.append_nil] at z
    exact z
  have b := hb s1 us I1.kIn (by rw [List.append_nil, ← r.length]; exact F.len _ _ _ _ q')
  rw [List.append_nil] at b
  refine wpAny_call (codeAny_mono (F.run X.A X.stack s1 H1 ⟨us, []⟩ us vs Q E hgu hr I1.env0 b r q') fun g s' hq => ?_)
  match g, hq with
  | .error er, hq => exact hx pins σ H1 s1 er s' I1 hq
  | .ok (.ret u), hq => exact I1.after hq
end
/-! ### the law's call -/
section
variable {P : Program} {w : World} {K : PySem.W.Frag} {mg mb : Str → Option Value} {CX : CXT} {k : Nat} {fa a : Addr} {fd : FuncData} {x : Str} {sp : Sp} {s₁ : Shared} {vs : List Value} {ns : List Int}
/-- from an abstract heap in which at most the script is tracked -/
theorem law_from (KX : K.In s₁.heap) (hns : s₁.heap.Ns mainGlobals mg) (hb : s₁.heap.Ns builtinsNs mb) (hbb : ∀ x : Str, x ≠ "__name__" → mb x = bootBuiltins x) (hlim : s₁.heap.NoLimit) (hg : s₁.gens = #[])
    (ha : s₁.heap.get? a = some { cls := .type "list", data := .seq vs.toArray }) (hr : Room k callerA)
    (F : ∀ base : Heap, K.In base → base.Ns mainGlobals mg → FnG P w K mg base CX k fa fd [x] sp) (hbind : ∀ (s : Shared) (u : Value), BindsTo s fd ⟨[u], []⟩ [(x, u)])
    {H : Hp} (hO : Only H) (hsp : sp [.ref a] H (fun v _ => v = .bl true) fun _ _ _ => False) (hCX : ∀ e s', CX [] H s₁ (fun _ _ _ => False) e s' → False)
    (ok : HOk P w H s₁.heap) (hA : ∀ b u, H b = some u → b = a) (hK : ∀ u, H a = some u → K.lookup a = none) :
    codeAny (model P w) callerA (.call (.ref fa) ⟨[.ref a], []⟩) (fun r s' => r = .ok (.ret (.bool true)) ∧ OldK s₁.heap s'.heap ∧ s'.os = s₁.os ∧ AllBare s'.gens) s₁ := by
  have dictFree : ∀ {b : Addr} {o : Obj} {es : Array DictEntry} {ep : Nat}, s₁.heap.get? b = some o → o.data = .dict es ep → H b = none := by
    intro b o es ep e d
    cases q : H b with
    | none => rfl
    | some u =>
      rw [hA b u q, ha] at e
      have e2 := Option.some.inj e
      subst e2
      cases d
  have nsB : ∀ {b : Addr} {m : Str → Option Value}, s₁.heap.Ns b m → (hidT s₁.heap H).Ns b m := by
    rintro b m ⟨o, es, ep, e, d, r⟩
    exact ⟨o, es, ep, hidT_get e (dictFree e d), d, r⟩
  have KB : K.In (hidT s₁.heap H) := fun b o e => hidT_get (KX b o e) (by
    cases q : H b with
    | none => rfl
    | some u =>
      have z := hA b u q
      rw [z] at e q
      rw [hK u q] at e
      cases e)
  have M : Mod K mg (hidT s₁.heap H) := by
    refine ⟨KB, nsB hns, ⟨mb, nsB hb, hbb⟩, ?_⟩
    obtain ⟨mc, h1, h2⟩ := hlim
    exact ⟨mc, nsB h1, h2⟩
  have e0 : Env0 P w K mg (hidT s₁.heap H) callerA [] s₁ H := by
    refine ⟨rfl, M, fun b o e => of_hidT e, Nat.le_of_eq (hidT_size _ _), trivial, fun b hb => ?_, ok, .of_eq hg⟩
    cases hb
  have run := (F _ KB (nsB hns)).run callerA [] s₁ H ⟨[.ref a], []⟩ [.ref a] [.ref a] _ _ rfl hr e0 (hbind s₁ (.ref a)) (.cons rfl .nil) hsp
  refine codeAny_mono run fun r s' h => ?_
  match r, h with
  | .error e, h => exact (hCX e s' h).elim
  | .ok (.ret u), h =>
    obtain ⟨v, H', os, bare, un, ok', rv, q⟩ := h
    have q' : v = .bl true := q
    subst q'
    obtain rfl : u = Value.bool true := rv
    refine ⟨rfl, OldK.of_keep fun b o e => ?_, os, bare⟩
    cases q : H b with
    | none => exact un.keep b o e q (fun z => nomatch z) (fun z => nomatch z)
    | some u =>
      rcases hO b with z | ⟨ob, xs, z⟩
      · rw [q] at z
        cases z
      · obtain ⟨e1, _⟩ := ok b _ z
        obtain ⟨e2, _⟩ := ok' b _ (un.frzs b ob _ z)
        rw [e] at e1
        cases e1
        exact e2
theorem law_callG (KX : K.In s₁.heap) (hns : s₁.heap.Ns mainGlobals mg) (hb : s₁.heap.Ns builtinsNs mb) (hbb : ∀ x : Str, x ≠ "__name__" → mb x = bootBuiltins x) (hlim : s₁.heap.NoLimit) (hg : s₁.gens = #[])
    (ha : s₁.heap.get? a = some { cls := .type "list", data := .seq vs.toArray }) (hi : IntsAre vs ns) (hl : ns.length ≤ sizeLine) (hr : Room k callerA)
    (F : ∀ base : Heap, K.In base → base.Ns mainGlobals mg → FnG P w K mg base CX k fa fd [x] sp) (hbind : ∀ (s : Shared) (u : Value), BindsTo s fd ⟨[u], []⟩ [(x, u)])
    (hsp : ∀ H : Hp, Only H → SqL K H a (ns.map V.int) → sp [.ref a] H (fun v _ => v = .bl true) fun _ _ _ => False)
    (hCX : ∀ H e s', CX [] H s₁ (fun _ _ _ => False) e s' → False) :
    codeAny (model P w) callerA (.call (.ref fa) ⟨[.ref a], []⟩) (fun r s' => r = .ok (.ret (.bool true)) ∧ OldK s₁.heap s'.heap ∧ s'.os = s₁.os ∧ AllBare s'.gens) s₁ := by
  have rv : Vals (ns.map V.int) vs := vals_ints hi
  have hlv := hi.length
  cases hk : K.lookup a with
  | some o =>
    have e := KX a o hk
    rw [ha] at e
    have e2 := Option.some.inj e
    subst e2
    have hO : Only (fun _ => none) := fun _ => .inl rfl
    refine law_from KX hns hb hbb hlim hg ha hr F hbind hO (hsp _ hO (.inr ⟨_, vs.toArray, _, hk, rfl, rfl, rfl, ?_, ?_⟩)) (hCX _) (fun b u z => nomatch z) (fun b u z => nomatch z) fun u z => nomatch z
    · rw [List.size_toArray, hlv]
      exact hl
    · simpa using rv
  | none =>
    let ob : Obj := { cls := .type "list", data := .seq vs.toArray }
    have at_ : ∀ b u, (if b = a then some (HO.frz ob (.lst (ns.map V.int))) else none) = some u → b = a ∧ u = .frz ob (.lst (ns.map V.int)) := fun b u z => by
      by_cases q : b = a
      · rw [if_pos q] at z
        exact ⟨q, (Option.some.inj z).symm⟩
      · rw [if_neg q] at z
        cases z
    have hO : Only (fun b => if b = a then some (HO.frz ob (.lst (ns.map V.int))) else none) := fun b => by
      by_cases q : b = a
      · exact .inr ⟨_, _, if_pos q⟩
      · exact .inl (if_neg q)
    refine law_from KX hns hb hbb hlim hg ha hr F hbind hO (hsp _ hO (.inl (.inr ⟨ob, if_pos rfl⟩))) (hCX _) (fun b u z => ?_) (fun b u z => (at_ b u z).1) fun _ _ => hk
    obtain ⟨z1, z2⟩ := at_ b u z
    subst z1 z2
    exact ⟨ha, by rw [List.length_map]; exact hl, vs, _, rv, ha⟩
end
theorem walk_G {l : PySem.W.OpenLaw} {n k : Nat} {q : Program} {loose : List Str} {XP : (Str → Option Value) → Heap → Prop} {YP : World → Heap → Prop} {d : DefRec} {CX : World → CXT} {x : Str}
    (hn : l.most = some n) (hn2 : n ≤ sizeLine) (hdf : d.params.defaults = []) (hr : Room k callerA)
    (F : ∀ (w : World) (mg : Str → Option Value) (fa : Addr) (h : Heap), YP w h → h.Ns mainGlobals mg → mg d.name = some (.ref fa) →
      ∃ (K : PySem.W.Frag) (fd : FuncData) (sp : Sp), K.In h ∧ (∀ (s : Shared) (u : Value), BindsTo s fd ⟨[u], []⟩ [(x, u)]) ∧
        (∀ (H : Hp) (a : Addr) (ns : List Int), ns.length ≤ n → Only H → SqL K H a (ns.map V.int) → sp [.ref a] H (fun v _ => v = .bl true) fun _ _ _ => False) ∧
        ∀ base : Heap, K.In base → base.Ns mainGlobals mg → FnG l.prog w K mg base (CX w) k fa fd [x] sp)
    (hCX : ∀ (w : World) (H : Hp) (s : Shared) (e : Value) (s' : Shared), CX w [] H s (fun _ _ _ => False) e s' → False) :
    PySem.W.WalkO q loose XP YP l.row.toRowW d [] (fun f vs => PySem.call f vs) := by
  refine Att.attach_call hn hdf fun w s₀ s₁ mg mb fa o pm cd doc a vs ns G Y ho hd hcd hmg hobj hints hlen hg => ?_
  obtain ⟨K, fd, sp, KX, hb, hsp, hF⟩ := F w mg fa _ Y G.T.g hmg
  exact law_callG KX G.T.g G.T.b G.T.builtins G.T.nolimit hg hobj hints (Nat.le_trans hlen hn2) hr hF hb (fun H hO hS => hsp H a ns hlen hO hS) fun H e s' z => hCX w H s₁ e s' z
end K27

namespace K27
open PySem PySem.Spec PyProof.Rows L2 HotX
/-! ### where an exception is handled: a list's end, a tuple's end -/
section
variable {prog : Program} {w : World} {A : Around} {E : Value → Shared → Prop} {s : Shared}
theorem hot_apart {h : Heap} {x1 it : Addr} {o1 o : Obj} {vs : Array Value} {y z : Value} (h1 : h.get? x1 = some o1) (d1 : o1.data = .fields vs) (c1 : vs[2]? = some .none) (ho : h.get? it = some o) (hd : o.data = .fields #[y, z]) : x1 ≠ it := by
  intro q
  subst q
  rw [h1] at ho
  have e := Option.some.inj ho
  subst e
  rw [d1] at hd
  have e2 : vs = #[y, z] := Data.fields.inj hd
  subst e2
  cases c1
theorem list_end_hot {it l x1 : Addr} {i : Nat} {items : Array Value} {Q : Option Value → Shared → Prop} (hot : HotAt A x1 s.heap) (hit : s.heap.IsListIter it l i) (hl : s.heap.IsList l items) (hx : items[i]? = none)
    (hQ : ∀ h', (∀ b u, b ≠ it → s.heap.get? b = some u → h'.get? b = some u) → Q none { s with heap := h' }) : wpAny (model prog w) A (pyNext (.ref it)) Q E s := by
  obtain ⟨o, ho, hc, hd⟩ := id hit
  obtain ⟨ol, hol, _, nl, hdl⟩ := hl
  obtain ⟨hh, o1, vs, h1, d1, c1⟩ := hot
  have ne := hot_apart h1 d1 c1 ho hd
  have k1 : ∀ b u, b ≠ it → s.heap.get? b = some u → (s.heap.update it (Obj.mapFields (·.setIfInBounds 0 Value.none))).get? b = some u := fun b u hb e => by
    rw [Heap.get?_update_other _ _ (Ne.symm hb)]
    exact e
  have g1 := k1 x1 o1 ne h1
  unfold pyNext
  refine wpAny_bind (wpAny_attempt (wpAny_callSpecial?_slot (name := Str.ofString "__next__") hit.typeIs slot_listiter_next
    (wpAny_call_entry slot_listiter_next hit.typeIs entry_listiter_next ?_ (args_listiter_next _))))
  show wpAny _ _ (field (.ref it) 0 >>= _) _ _ s
  refine wpAny_bind (wpAny_field ho hd (x := .ref l) rfl ?_)
  show wpAny _ _ (if (Value.ref l == Value.none) = true then _ else _) _ _ s
  rw [if_neg (show ¬ ((Value.ref l == Value.none) = true) from Bool.false_ne_true)]
  show wpAny _ _ (field (.ref it) 1 >>= _) _ _ s
  refine wpAny_bind (wpAny_field ho hd (x := .int i 0) rfl ?_)
  show wpAny _ _ (seqItems? (.ref l) >>= _) _ _ s
  refine wpAny_bind (wpAny_seqItems hol hdl ?_)
  simp only [Int.toNat_natCast, hx]
  refine wpAny_bind (wpAny_rule (wpAny_bind (wpAny_setField ho hd (by simp) ?_)))
  show wpAny _ _ (newExc (.type "StopIteration") [] >>= _) _ _ _
  refine wpAny_bind ?_
  simp only [newExc, newTuple]
  refine wpAny_bind (wpAny_newObj_type ?_ (by size_fits))
  refine wpAny_bind (m := firstArgMember _ _) (wpAny_of_eq (a := Value.none) (by first | rfl | (simp only [firstArgMember]; rfl)) ?_)
  refine wpAny_newObj_type ?_ (by size_fits)
  refine raiseNew_hot ⟨hh, o1, vs, Heap.get?_push_of_some _ (Heap.get?_push_of_some _ g1), d1, c1⟩ (Nat.ne_of_lt (Heap.lt_size (Heap.get?_push_of_some _ g1))) (Heap.get?_push_size _ rfl) rfl (by first | (simp; done) | (simp; omega) | (simp only [Array.size_append]; simp; omega)) ?_
  refine wpAny_bind (wpAny_isInstance (T := "StopIteration") (b := true) ⟨_, Heap.get?_update_self _ (Heap.get?_push_size _ rfl) rfl, rfl⟩ isSubtype_stop ?_)
  refine wpAny_pure (hQ _ fun b u hb e => ?_)
  have e2 := k1 b u hb e
  rw [Heap.get?_update_other _ _ (Nat.ne_of_gt (Heap.lt_size (Heap.get?_push_of_some _ e2)))]
  exact Heap.get?_push_of_some _ (Heap.get?_push_of_some _ e2)
theorem tup_end_hot {it t x1 : Addr} {i : Nat} {items : Array Value} {Q : Option Value → Shared → Prop} (hot : HotAt A x1 s.heap) (hit : IsTupIter s.heap it t i) (hl : IsTup s.heap t items) (hx : items[i]? = none)
    (hQ : ∀ h', (∀ b u, b ≠ it → s.heap.get? b = some u → h'.get? b = some u) → Q none { s with heap := h' }) : wpAny (model prog w) A (pyNext (.ref it)) Q E s := by
  obtain ⟨o, ho, hc, hd⟩ := id hit
  obtain ⟨ol, hol, _, nl, hdl⟩ := hl
  obtain ⟨hh, o1, vs, h1, d1, c1⟩ := hot
  have ne := hot_apart h1 d1 c1 ho hd
  have k1 : ∀ b u, b ≠ it → s.heap.get? b = some u → (s.heap.update it (Obj.mapFields (·.setIfInBounds 0 Value.none))).get? b = some u := fun b u hb e => by
    rw [Heap.get?_update_other _ _ (Ne.symm hb)]
    exact e
  have g1 := k1 x1 o1 ne h1
  unfold pyNext
  refine wpAny_bind (wpAny_attempt (wpAny_callSpecial?_slot (name := Str.ofString "__next__") hit.typeIs slot_tupleiter_next
    (wpAny_call_entry slot_tupleiter_next hit.typeIs entry_tupleiter_next ?_ (args_tupleiter_next _))))
  show wpAny _ _ (field (.ref it) 0 >>= _) _ _ s
  refine wpAny_bind (wpAny_field ho hd (x := .ref t) rfl ?_)
  show wpAny _ _ (if (Value.ref t == Value.none) = true then _ else _) _ _ s
  rw [if_neg (show ¬ ((Value.ref t == Value.none) = true) from Bool.false_ne_true)]
  show wpAny _ _ (field (.ref it) 1 >>= _) _ _ s
  refine wpAny_bind (wpAny_field ho hd (x := .int i 0) rfl ?_)
  show wpAny _ _ (seqItems? (.ref t) >>= _) _ _ s
  refine wpAny_bind (wpAny_seqItems hol hdl ?_)
  simp only [Int.toNat_natCast, hx]
  refine wpAny_bind (wpAny_rule (wpAny_bind (wpAny_setField ho hd (by simp) ?_)))
  show wpAny _ _ (newExc (.type "StopIteration") [] >>= _) _ _ _
  refine wpAny_bind ?_
  simp only [newExc, newTuple]
  refine wpAny_bind (wpAny_newObj_type ?_ (by size_fits))
  refine wpAny_bind (m := firstArgMember _ _) (wpAny_of_eq (a := Value.none) (by first | rfl | (simp only [firstArgMember]; rfl)) ?_)
  refine wpAny_newObj_type ?_ (by size_fits)
  refine raiseNew_hot ⟨hh, o1, vs, Heap.get?_push_of_some _ (Heap.get?_push_of_some _ g1), d1, c1⟩ (Nat.ne_of_lt (Heap.lt_size (Heap.get?_push_of_some _ g1))) (Heap.get?_push_size _ rfl) rfl (by first | (simp; done) | (simp; omega) | (simp only [Array.size_append]; simp; omega)) ?_
  refine wpAny_bind (wpAny_isInstance (T := "StopIteration") (b := true) ⟨_, Heap.get?_update_self _ (Heap.get?_push_size _ rfl) rfl, rfl⟩ isSubtype_stop ?_)
  refine wpAny_pure (hQ _ fun b u hb e => ?_)
  have e2 := k1 b u hb e
  rw [Heap.get?_update_other _ _ (Nat.ne_of_gt (Heap.lt_size (Heap.get?_push_of_some _ e2)))]
  exact Heap.get?_push_of_some _ (Heap.get?_push_of_some _ e2)

theorem unpack_hot {t x1 : Addr} {items : Array Value} {Q : List Value → Shared → Prop} (hot : HotAt A x1 s.heap) (ht : IsTup s.heap t items)
    (hQ : ∀ h', (∀ b u, s.heap.get? b = some u → h'.get? b = some u) → Q items.toList { s with heap := h' }) : wpAny (model prog w) A (unpackItems (.ref t) items.size none) Q E s := by
  have hlt : t ≠ s.heap.objs.size := by
    obtain ⟨o, ho, _⟩ := ht
    exact Nat.ne_of_lt (Heap.lt_size ho)
  obtain ⟨hh, o1, vs, h1, d1, c1⟩ := hot
  have hx1 : x1 ≠ s.heap.objs.size := Nat.ne_of_lt (Heap.lt_size h1)
  unfold unpackItems
  refine wpAny_bind ?_
  unfold notIterableAtAll
  refine wpAny_bind (wpAny_specialOf ht.typeIs slot_tuple_iter.lookup (wpAny_pure ?_))
  simp only [Bool.false_eq_true, if_false]
  refine wpAny_bind (wpAny_holding (iter_tuple ht ?_))
  refine wpAny_bind (wpAny_holding (draw_tuple hlt items.size 0 _ _ ⟨_, Heap.get?_push_size _ rfl, rfl, rfl⟩ (ht.push _) (by omega) fun h2 it2 sb => ?_))
  have hall : List.take items.size (List.drop 0 items.toList) = items.toList := by rw [List.drop_zero]; exact List.take_of_length_le (by simp)
  rw [hall, if_neg (by simp)]
  refine wpAny_bind (wpAny_holding (tup_end_hot ⟨hh, o1, vs, (sb.2 x1 hx1).trans (Heap.get?_push_of_some _ h1), d1, c1⟩ it2 ((ht.push _).extBut sb.extBut hlt) (by simp) fun h3 k3 => ?_))
  simp only [Option.isSome_none, Bool.false_eq_true, if_false]
  refine wpAny_pure (hQ h3 fun b u e => ?_)
  have nb : b ≠ s.heap.objs.size := Nat.ne_of_lt (Heap.lt_size e)
  exact k3 b u nb ((sb.2 b nb).trans (Heap.get?_push_of_some _ e))
end
section
open L2H
theorem turn_listH {P : Program} {w : World} {K : PySem.W.Frag} {tg : Expr} (a it : Addr) : TurnH P w K tg (Itl K a) [it] it (fun i h => h.IsListIter it a i) where
  mem := (turn_list (P := P) (w := w) (K := K) (tg := tg) a it).mem
  obj := (turn_list (P := P) (w := w) (K := K) (tg := tg) a it).obj
  keep := (turn_list (P := P) (w := w) (K := K) (tg := tg) a it).keep
  self := (turn_list (P := P) (w := w) (K := K) (tg := tg) a it).self
  item := by
    intro X hP hw hK _ i pins s σ H E I hf st hg
    subst hP hw hK
    obtain ⟨xs, x, hq, hx⟩ := hg
    obtain ⟨its, rv, p, hz⟩ := I.list hq
    obtain ⟨u, hu, ru⟩ := rv.get hx
    obtain ⟨f0, f1, f2, f3, f4, f5⟩ := hf it (by simp)
    refine wpAny_pyNext_list_item st p.isList (x := u) (by simpa using hu) fun h' st' sb => ?_
    have J : Inv X pins σ H { s with heap := h' } := I.turned (t' := s.toks) (fun b o hb e => (sb.2 b hb).trans e) f0 f1 f3 f4 f5
    obtain ⟨o, e, c, d⟩ := id st'
    exact ⟨u, rfl, go_of (s := { s with heap := h' }) e c d (by decide) ⟨x, H, J, ru, ⟨rfl, fun ys hy => by rw [I.list_inj hy hq]; exact hx⟩, st', fun b hb => (hf b hb).1⟩⟩
  done := by
    intro X hP hw hK hc i pins s σ H E I hf st hg
    subst hP hw hK
    obtain ⟨xs, hq, hx⟩ := hg
    obtain ⟨its, rv, p, hz⟩ := I.list hq
    obtain ⟨f0, f1, f2, f3, f4, f5⟩ := hf it (by simp)
    have hl := rv.length
    obtain ⟨x1, hot⟩ := hc.at I
    exact list_end_hot hot st p.isList (by simp; omega) fun h' eb => ⟨rfl, I.turned (t' := s.toks) (fun b o hb e => eb b o hb e) f0 f1 f3 f4 f5⟩
variable {X : Cx} {tg : Expr}
theorem pi_listH {l : Expr} {tl : TE} (hl : PE X l tl) : PIH X tg l (iList X.K tl) := by
  refine ⟨fun pins s σ H R I h => thn (hl.run pins s σ H _ I h) fun v s1 ⟨x, G, J, r1, a, e, ⟨xs, hq⟩, q⟩ => ?_⟩
  subst e
  obtain rfl : v = Value.ref a := r1
  obtain ⟨its, rv, p, hz⟩ := J.list hq
  refine wpAny_pyIter_list p.isList ⟨s1.heap.objs.size, [s1.heap.objs.size], _, _, G, rfl, J.kept (t' := s1.toks) fun b o e => Heap.get?_push_of_some _ e, turn_listH a _, ⟨_, Heap.get?_push_size _ rfl, rfl, rfl⟩, fun b hb => ?_, q⟩
  obtain rfl : b = s1.heap.objs.size := by simpa using hb
  exact J.fpOk (Nat.le_refl _) (J.hok.fresh (Nat.le_refl _))
theorem pg_tupH {es : List Expr} {k : Nat} {t : TGs} {n : Nat} {pos : Pos} (hc : HotC X) (h : PGs X es t)
    (hn : (assignEach es X.env).length = n := by rfl) (hst : (assignEach es X.env).findIdx? (·.1) = none := by rfl) : PG X (.Tuple es k pos) (gTup X.K n t) := by
  refine ⟨fun pins s σ H v u Q I r hw => ?_⟩
  obtain ⟨a, xs, e1, hq, hl, hw⟩ := hw
  subst e1
  obtain rfl : u = Value.ref a := r
  obtain ⟨its, rv, ht, hz⟩ := I.tuple hq
  obtain ⟨x1, hot⟩ := hc.at I
  have hsz : (assignEach es X.env).length = its.toArray.size := by simp [hn, ← hl, rv.length]
  rw [PyProof.Rows.assign_Tuple]
  refine wpAny_bind (wpAny_standAt ?_)
  unfold unpack
  rw [hsz, hst]
  refine wpAny_bind (wpAny_holding (unpack_hot hot ht fun h' k' => ?_))
  exact h.run pins _ σ H xs _ Q (I.kept (t' := s.toks) k') (by simpa using rv) hw
end
end K27

set_option autoImplicit false
/-! plain Lean: lists without doubles, webs, colours -/
namespace KM
section
variable {α : Type} [DecidableEq α]
theorem nodup_sub_len : ∀ {l m : List α}, l.Nodup → (∀ x ∈ l, x ∈ m) → l.length ≤ m.length
  | [], _, _, _ => Nat.zero_le _
  | x :: r, m, h, s => by
    have hx : x ∈ m := s x List.mem_cons_self
    have hn := List.nodup_cons.mp h
    have ih := nodup_sub_len (m := m.erase x) hn.2 fun y hy => (List.mem_erase_of_ne (fun e => hn.1 (by rw [← e]; exact hy))).mpr (s y (List.mem_cons_of_mem _ hy))
    have e := List.length_erase_of_mem hx
    have p : 0 < m.length := List.length_pos_of_mem hx
    show r.length + 1 ≤ m.length
    omega
theorem map_nodup {β : Type} {f : α → β} : ∀ {l : List α}, l.Nodup → (∀ x ∈ l, ∀ y ∈ l, f x = f y → x = y) → (l.map f).Nodup
  | [], _, _ => List.nodup_nil
  | x :: r, h, inj => by
    have hn := List.nodup_cons.mp h
    refine List.nodup_cons.mpr ⟨fun hm => ?_, map_nodup hn.2 fun a ha b hb => inj a (List.mem_cons_of_mem _ ha) b (List.mem_cons_of_mem _ hb)⟩
    obtain ⟨y, hy, e⟩ := List.mem_map.mp hm
    have q := inj y (List.mem_cons_of_mem _ hy) x List.mem_cons_self e
    exact hn.1 (q ▸ hy)
theorem inj_len {β : Type} [DecidableEq β] {f : α → β} {l : List α} {m : List β} (h : l.Nodup) (inj : ∀ x ∈ l, ∀ y ∈ l, f x = f y → x = y) (s : ∀ x ∈ l, f x ∈ m) : l.length ≤ m.length := by
  have q := nodup_sub_len (map_nodup h inj) (m := m) fun y hy => by
    obtain ⟨x, hx, e⟩ := List.mem_map.mp hy
    exact e ▸ s x hx
  rw [List.length_map] at q
  exact q
/-- a store -/
def put {β : Type} (f : α → Option β) (k : α) (v : β) : α → Option β := fun z => if z = k then some v else f z
theorem put_same {β : Type} (f : α → Option β) (k : α) (v : β) : put f k v k = some v := if_pos rfl
theorem put_ne {β : Type} (f : α → Option β) {k z : α} (v : β) (h : z ≠ k) : put f k v z = f z := if_neg h
theorem put_some {β : Type} {f : α → Option β} {k z : α} {v : β} (h : (f z).isSome = true) : (put f k v z).isSome = true := by
  unfold put
  split
  · rfl
  · exact h
/-- tied -/
def adj (es : List (α × α)) (a b : α) : Bool := decide ((a, b) ∈ es) || decide ((b, a) ∈ es)
theorem adj_iff {es : List (α × α)} {a b : α} : adj es a b = true ↔ (a, b) ∈ es ∨ (b, a) ∈ es := by
  unfold adj
  rw [Bool.or_eq_true, decide_eq_true_eq, decide_eq_true_eq]
theorem adj_comm (es : List (α × α)) (a b : α) : adj es a b = adj es b a := Bool.or_comm _ _
structure Wg (ns : List α) (es : List (α × α)) : Prop where
  nd : ns.Nodup
  mem : ∀ e ∈ es, e.1 ∈ ns ∧ e.2 ∈ ns ∧ e.1 ≠ e.2
theorem Wg.adj {ns : List α} {es : List (α × α)} (w : Wg ns es) {a b : α} (h : adj es a b = true) : a ∈ ns ∧ b ∈ ns ∧ a ≠ b := by
  rcases adj_iff.mp h with h | h
  · exact w.mem _ h
  · obtain ⟨h1, h2, h3⟩ := w.mem _ h
    exact ⟨h2, h1, Ne.symm h3⟩
/-- two sides can be told -/
def Bip (es : List (α × α)) : Prop := ∃ c : α → Bool, ∀ a b, adj es a b = true → c a ≠ c b

/-! ### colours, as the law tells them -/
def cHalf (a b : α) (col : α → Option Int) : α → Option Int := match col a, col b with
  | some x, none => put col b (1 - x)
  | _, _ => col
def cStep (col : α → Option Int) (e : α × α) : α → Option Int := cHalf e.2 e.1 (cHalf e.1 e.2 col)
def cLap (es : List (α × α)) (col : α → Option Int) : α → Option Int := es.foldl cStep col
def cLaps (es : List (α × α)) (ls : List α) (col : α → Option Int) : α → Option Int := ls.foldl (fun c _ => cLap es c) col
def cStart (ns : List α) (es : List (α × α)) (col : α → Option Int) (s : α) : α → Option Int := if (col s).isSome = true then col else cLaps es ns (put col s 0)
def cAll (ns : List α) (es : List (α × α)) : α → Option Int := ns.foldl (cStart ns es) fun _ => none

theorem side_flip {x y s : Bool} (h : x ≠ y) : 1 - (if x = s then (0 : Int) else 1) = if y = s then 0 else 1 := by
  revert h
  cases x <;> cases y <;> cases s <;> decide
theorem side_ne {x y s : Bool} (h : x ≠ y) : (if x = s then (0 : Int) else 1) ≠ if y = s then 0 else 1 := by
  revert h
  cases x <;> cases y <;> cases s <;> decide
/-- closed: no tie leads out -/
def Closed (es : List (α × α)) (col : α → Option Int) : Prop := ∀ a b, adj es a b = true → (col a).isSome = true → (col b).isSome = true
/-- more is told, nothing otherwise -/
def More (c d : α → Option Int) : Prop := ∀ z x, c z = some x → d z = some x
theorem More.refl (c : α → Option Int) : More c c := fun _ _ h => h
theorem More.trans {c d e : α → Option Int} (h : More c d) (k : More d e) : More c e := fun z x q => k z x (h z x q)
theorem More.isSome {c d : α → Option Int} (h : More c d) {z : α} (k : (c z).isSome = true) : (d z).isSome = true := by
  obtain ⟨x, e⟩ := Option.isSome_iff_exists.mp k
  rw [h z x e]
  rfl
theorem more_put {c : α → Option Int} {k : α} {x : Int} (h : c k = none) : More c (put c k x) := fun z y q => by
  rw [put_ne _ _ (fun e => by rw [e, h] at q; cases q)]
  exact q
theorem cHalf_at (a b : α) (c : α → Option Int) : (∃ x, c a = some x ∧ c b = none ∧ cHalf a b c = put c b (1 - x)) ∨ (cHalf a b c = c ∧ (c a = none ∨ (c b).isSome = true)) := by
  unfold cHalf
  cases h1 : c a with
  | none => exact .inr ⟨rfl, .inl rfl⟩
  | some x =>
    cases h2 : c b with
    | none => exact .inl ⟨x, rfl, rfl, rfl⟩
    | some y => exact .inr ⟨rfl, .inr rfl⟩
theorem cHalf_more (a b : α) (c : α → Option Int) : More c (cHalf a b c) := by
  rcases cHalf_at a b c with ⟨x, h1, h2, e⟩ | ⟨e, _⟩
  · rw [e]
    exact more_put h2
  · rw [e]
    exact More.refl c
theorem cHalf_told {a b : α} {c : α → Option Int} (h : (c a).isSome = true ∨ (c b).isSome = true) : (cHalf a b c b).isSome = true := by
  rcases cHalf_at a b c with ⟨x, h1, h2, e⟩ | ⟨e, q⟩
  · rw [e, put_same]
    rfl
  · rw [e]
    rcases h with h | h
    · rcases q with q | q
      · rw [q] at h
        cases h
      · exact q
    · exact h
theorem cStep_more (c : α → Option Int) (e : α × α) : More c (cStep c e) := (cHalf_more _ _ c).trans (cHalf_more _ _ _)
theorem fold_more {β : Type} {f : (α → Option Int) → β → α → Option Int} (h : ∀ c e, More c (f c e)) : ∀ (l : List β) (c : α → Option Int), More c (l.foldl f c)
  | [], c => More.refl c
  | e :: r, c => (h c e).trans (fold_more h r (f c e))
theorem cLap_more (es : List (α × α)) (c : α → Option Int) : More c (cLap es c) := fold_more cStep_more es c
theorem cLaps_more (es : List (α × α)) (ls : List α) (c : α → Option Int) : More c (cLaps es ls c) := fold_more (fun c _ => cLap_more es c) ls c
/-- behind a step both ends of the tie are told, if one was -/
theorem cStep_both {c : α → Option Int} {e : α × α} (h : (c e.1).isSome = true ∨ (c e.2).isSome = true) : (cStep c e e.1).isSome = true ∧ (cStep c e e.2).isSome = true := by
  have h1 := cHalf_told h
  exact ⟨cHalf_told (.inl h1), (cHalf_more _ _ _).isSome h1⟩
/-- behind a lap every tie with a told end has two -/
theorem cLap_both {es : List (α × α)} {c : α → Option Int} {e : α × α} (he : e ∈ es) (h : (c e.1).isSome = true ∨ (c e.2).isSome = true) : (cLap es c e.1).isSome = true ∧ (cLap es c e.2).isSome = true := by
  obtain ⟨l, r, rfl⟩ := List.append_of_mem he
  unfold cLap
  rw [List.foldl_append, List.foldl_cons]
  have m1 : More c (l.foldl cStep c) := fold_more cStep_more l c
  have b := cStep_both (c := l.foldl cStep c) (e := e) (h.imp m1.isSome m1.isSome)
  have m2 := fold_more cStep_more r (cStep (l.foldl cStep c) e)
  exact ⟨m2.isSome b.1, m2.isSome b.2⟩
/-- what was told before the start and what the ties reach from it -/
structure CI (es : List (α × α)) (old : α → Option Int) (s : α) (c : α → Option Int) : Prop where
  more : More old c
  bip : ∀ k : α → Bool, (∀ a b, adj es a b = true → k a ≠ k b) → ∀ z x, c z = some x → old z = none → x = (if k z = k s then 0 else 1)
theorem CI.half {es : List (α × α)} {old c : α → Option Int} {s a b : α} (cl : Closed es old) (ad : adj es a b = true) (i : CI es old s c) : CI es old s (cHalf a b c) := by
  refine ⟨i.more.trans (cHalf_more a b c), fun k hk z x hx ho => ?_⟩
  rcases cHalf_at a b c with ⟨y, q1, q2, e⟩ | ⟨e, _⟩
  · rw [e] at hx
    by_cases hz : z = b
    · rw [hz] at ho ⊢
      rw [hz, put_same] at hx
      cases hx
      have o1 : old a = none := by
        cases q : old a with
        | none => rfl
        | some w =>
          have z := cl _ _ ad (by rw [q]; rfl)
          rw [ho] at z
          cases z
      rw [i.bip k hk a y q1 o1]
      exact side_flip (hk _ _ ad)
    · rw [put_ne _ _ hz] at hx
      exact i.bip k hk z x hx ho
  · rw [e] at hx
    exact i.bip k hk z x hx ho
theorem CI.step {es : List (α × α)} {old c : α → Option Int} {s : α} (cl : Closed es old) {e : α × α} (he : e ∈ es) (i : CI es old s c) : CI es old s (cStep c e) :=
  (i.half cl (adj_iff.mpr (.inl he))).half cl (adj_iff.mpr (.inr he))
theorem CI.fold {es : List (α × α)} {old : α → Option Int} {s : α} (cl : Closed es old) : ∀ (l : List (α × α)) (c : α → Option Int), (∀ e ∈ l, e ∈ es) → CI es old s c → CI es old s (l.foldl cStep c)
  | [], _, _, i => i
  | e :: r, c, h, i => CI.fold cl r _ (fun x hx => h x (List.mem_cons_of_mem _ hx)) (i.step cl (h e List.mem_cons_self))
theorem CI.laps {es : List (α × α)} {old : α → Option Int} {s : α} (cl : Closed es old) : ∀ (l : List α) (c : α → Option Int), CI es old s c → CI es old s (cLaps es l c)
  | [], _, i => i
  | _ :: r, c, i => CI.laps cl r _ (i.fold cl es c fun _ h => h)
/-- how many are not told -/
def gap (ns : List α) (c : α → Option Int) : Nat := (ns.filter fun z => !(c z).isSome).length
theorem gap_le {ns : List α} {c d : α → Option Int} (h : More c d) : gap ns d ≤ gap ns c := by
  unfold gap
  induction ns with
  | nil => exact Nat.le_refl _
  | cons z r ih =>
    rw [List.filter_cons, List.filter_cons]
    cases q : (c z).isSome with
    | true =>
      rw [h.isSome q]
      exact ih
    | false =>
      cases (d z).isSome with
      | true => exact Nat.le_succ_of_le ih
      | false => exact Nat.succ_le_succ ih
theorem gap_lt {ns : List α} {c d : α → Option Int} (h : More c d) {z : α} (hz : z ∈ ns) (n : c z = none) (s : (d z).isSome = true) : gap ns d < gap ns c := by
  induction ns with
  | nil => cases hz
  | cons y r ih =>
    have le : gap r d ≤ gap r c := gap_le h
    unfold gap at ih le ⊢
    rw [List.filter_cons, List.filter_cons]
    by_cases e : z = y
    · subst e
      rw [n, s]
      exact Nat.lt_succ_of_le le
    · have hr : z ∈ r := (List.mem_cons.mp hz).resolve_left e
      have ih := ih hr
      cases q : (c y).isSome with
      | true =>
        rw [h.isSome q]
        exact ih
      | false =>
        cases (d y).isSome with
        | true => exact Nat.lt_succ_of_lt ih
        | false => exact Nat.succ_lt_succ ih
theorem lap_closed_or {ns : List α} {es : List (α × α)} (w : Wg ns es) (c : α → Option Int) : Closed es c ∨ gap ns (cLap es c) < gap ns c := by
  by_cases h : Closed es c
  · exact .inl h
  · right
    have : ∃ a b, adj es a b = true ∧ (c a).isSome = true ∧ ¬ (c b).isSome = true := by
      refine Classical.byContradiction fun no => h fun a b ad ha => ?_
      cases q : (c b).isSome with
      | true => rfl
      | false => exact absurd ⟨a, b, ad, ha, by rw [q]; exact Bool.false_ne_true⟩ no
    obtain ⟨a, b, ad, ha, hb⟩ := this
    have nb : c b = none := by
      cases q : c b with
      | none => rfl
      | some x =>
        rw [q] at hb
        exact absurd rfl hb
    refine gap_lt (cLap_more es c) (w.adj ad).2.1 nb ?_
    rcases adj_iff.mp ad with m | m
    · exact (cLap_both m (.inl ha)).2
    · exact (cLap_both m (.inr ha)).1
theorem closed_lap {es : List (α × α)} {c : α → Option Int} (h : Closed es c) : cLap es c = c := by
  have step : ∀ e ∈ es, cStep c e = c := fun e he => by
    have a1 : adj es e.1 e.2 = true := adj_iff.mpr (.inl he)
    have a2 : adj es e.2 e.1 = true := adj_iff.mpr (.inr he)
    have half : ∀ {a b : α}, adj es a b = true → cHalf a b c = c := fun {a b} ad => by
      rcases cHalf_at a b c with ⟨y, q1, q2, e⟩ | ⟨e, _⟩
      · have z := h _ _ ad (by rw [q1]; rfl)
        rw [q2] at z
        cases z
      · exact e
    unfold cStep
    rw [half a1, half a2]
  have all : ∀ l : List (α × α), (∀ e ∈ l, e ∈ es) → l.foldl cStep c = c := by
    intro l
    induction l with
    | nil => intro _; rfl
    | cons e r ih =>
      intro hl
      rw [List.foldl_cons, step e (hl e List.mem_cons_self)]
      exact ih fun x hx => hl x (List.mem_cons_of_mem _ hx)
  exact all es fun _ h => h
theorem laps_closed {ns : List α} {es : List (α × α)} (w : Wg ns es) : ∀ (l : List α) (c : α → Option Int), gap ns c ≤ l.length → Closed es (cLaps es l c)
  | [], c, h => by
    rcases lap_closed_or w c with q | q
    · exact q
    · have : gap ns c = 0 := Nat.le_zero.mp h
      omega
  | x :: r, c, h => by
    show Closed es (cLaps es r (cLap es c))
    rcases lap_closed_or w c with q | q
    · rw [closed_lap q]
      have stay : ∀ l : List α, cLaps es l c = c := by
        intro l
        induction l with
        | nil => rfl
        | cons y l ih =>
          show cLaps es l (cLap es c) = c
          rw [closed_lap q]
          exact ih
      rw [stay r]
      exact q
    · refine laps_closed w r _ ?_
      have : (x :: r).length = r.length + 1 := rfl
      omega
/-- what stands between two starts -/
structure CO (es : List (α × α)) (c : α → Option Int) : Prop where
  closed : Closed es c
  good : ∀ k : α → Bool, (∀ a b, adj es a b = true → k a ≠ k b) → ∀ a b, adj es a b = true → ∀ x, c a = some x → c b ≠ some x
theorem gap_le_len (ns : List α) (c : α → Option Int) : gap ns c ≤ ns.length := List.length_filter_le _ _
theorem CO.start {ns : List α} {es : List (α × α)} (w : Wg ns es) {c : α → Option Int} (o : CO es c) (s : α) : CO es (cStart ns es c s) ∧ (cStart ns es c s s).isSome = true ∧ More c (cStart ns es c s) := by
  unfold cStart
  by_cases h : (c s).isSome = true
  · rw [if_pos h]
    exact ⟨o, h, More.refl c⟩
  · rw [if_neg h]
    have n : c s = none := by
      cases q : c s with
      | none => rfl
      | some x =>
        rw [q] at h
        exact absurd rfl h
    have i0 : CI es c s (put c s 0) := ⟨more_put n, fun k hk z x hx ho => by
      by_cases e : z = s
      · subst e
        rw [put_same] at hx
        cases hx
        rw [if_pos rfl]
      · rw [put_ne _ _ e, ho] at hx
        cases hx⟩
    have i := i0.laps o.closed ns
    have cl := laps_closed w ns (put c s 0) (gap_le_len ns _)
    have m := cLaps_more es ns (put c s 0)
    refine ⟨⟨cl, fun k hk a b ad x ha hb => ?_⟩, m.isSome (by rw [put_same]; rfl), i.more⟩
    cases qa : c a with
    | some y =>
      have e1 := i.more a y qa
      rw [ha] at e1
      obtain ⟨z, qb⟩ := Option.isSome_iff_exists.mp (o.closed _ _ ad (by rw [qa]; rfl))
      have e2 := i.more b z qb
      rw [hb] at e2
      cases e1
      cases e2
      exact o.good k hk a b ad _ qa qb
    | none =>
      have qb : c b = none := by
        cases qb : c b with
        | none => rfl
        | some z =>
          have y := o.closed _ _ (by rw [adj_comm]; exact ad) (show (c b).isSome = true by rw [qb]; rfl)
          rw [qa] at y
          cases y
      have e1 := i.bip k hk a x ha qa
      have e2 := i.bip k hk b x hb qb
      have ne := hk a b ad
      rw [e1] at e2
      exact side_ne ne e2
theorem CO.fold {ns : List α} {es : List (α × α)} (w : Wg ns es) : ∀ (l : List α) (c : α → Option Int), CO es c → CO es (l.foldl (cStart ns es) c) ∧ More c (l.foldl (cStart ns es) c) ∧ ∀ z ∈ l, (l.foldl (cStart ns es) c z).isSome = true
  | [], c, o => ⟨o, More.refl c, fun _ h => nomatch h⟩
  | s :: r, c, o => by
    obtain ⟨o1, s1, m1⟩ := o.start w s
    obtain ⟨o2, m2, s2⟩ := CO.fold w r _ o1
    refine ⟨o2, m1.trans m2, fun z hz => ?_⟩
    rcases List.mem_cons.mp hz with e | hz
    · rw [e]
      exact m2.isSome s1
    · exact s2 z hz
theorem cAll_some {ns : List α} {es : List (α × α)} (w : Wg ns es) {z : α} (h : z ∈ ns) : (cAll ns es z).isSome = true :=
  (CO.fold w ns (fun _ => none) ⟨fun _ _ _ h => (by cases h), fun _ _ _ _ _ _ h => (by cases h)⟩).2.2 z h
/-- the law's colours tell whether there are two sides -/
theorem cAll_bip {ns : List α} {es : List (α × α)} (w : Wg ns es) : (∀ e ∈ es, cAll ns es e.1 ≠ cAll ns es e.2) ↔ Bip es := by
  have o := (CO.fold w ns (fun _ => none) ⟨fun _ _ _ h => (by cases h), fun _ _ _ _ _ _ h => (by cases h)⟩).1
  constructor
  · intro h
    refine ⟨fun z => decide (cAll ns es z = some 0), ?_⟩
    have val : ∀ (l : List α) (c : α → Option Int), (∀ z x, c z = some x → x = 0 ∨ x = 1) → ∀ z x, l.foldl (cStart ns es) c z = some x → x = 0 ∨ x = 1 := by
      have s1 : ∀ (c : α → Option Int) (e : α × α), (∀ z x, c z = some x → x = 0 ∨ x = 1) → ∀ z x, cStep c e z = some x → x = 0 ∨ x = 1 := by
        intro c e hc
        have p1 : ∀ (a b : α) (c : α → Option Int), (∀ z x, c z = some x → x = 0 ∨ x = 1) → ∀ z x, cHalf a b c z = some x → x = 0 ∨ x = 1 := by
          intro a b c hc z x hx
          rcases cHalf_at a b c with ⟨y, q1, q2, e⟩ | ⟨e, _⟩
          · rw [e] at hx
            by_cases ez : z = b
            · rw [ez, put_same] at hx
              cases hx
              rcases hc _ _ q1 with q | q <;> omega
            · rw [put_ne _ _ ez] at hx
              exact hc z x hx
          · rw [e] at hx
            exact hc z x hx
        exact p1 _ _ _ (p1 _ _ _ hc)
      have s2 : ∀ (l : List (α × α)) (c : α → Option Int), (∀ z x, c z = some x → x = 0 ∨ x = 1) → ∀ z x, l.foldl cStep c z = some x → x = 0 ∨ x = 1 := by
        intro l
        induction l with
        | nil => intro c hc; exact hc
        | cons e r ih => intro c hc; exact ih _ (s1 c e hc)
      have s3 : ∀ (l : List α) (c : α → Option Int), (∀ z x, c z = some x → x = 0 ∨ x = 1) → ∀ z x, cLaps es l c z = some x → x = 0 ∨ x = 1 := by
        intro l
        induction l with
        | nil => intro c hc; exact hc
        | cons e r ih => intro c hc; exact ih _ (s2 es c hc)
      intro l
      induction l with
      | nil => intro c hc; exact hc
      | cons s r ih =>
        intro c hc
        refine ih _ ?_
        unfold cStart
        split
        · exact hc
        · refine s3 ns _ fun z x hx => ?_
          by_cases ez : z = s
          · rw [ez, put_same] at hx
            cases hx
            exact .inl rfl
          · rw [put_ne _ _ ez] at hx
            exact hc z x hx
    have v : ∀ z x, cAll ns es z = some x → x = 0 ∨ x = 1 := val ns _ fun _ _ h => by cases h
    have key : ∀ a b, a ∈ ns → b ∈ ns → cAll ns es a ≠ cAll ns es b → decide (cAll ns es a = some 0) ≠ decide (cAll ns es b = some 0) := by
      intro a b ha hb ne
      obtain ⟨x, ex⟩ := Option.isSome_iff_exists.mp (cAll_some w ha)
      obtain ⟨y, ey⟩ := Option.isSome_iff_exists.mp (cAll_some w hb)
      rw [ex, ey] at ne ⊢
      rcases v _ _ ex with e1 | e1 <;> rcases v _ _ ey with e2 | e2 <;> subst e1 <;> subst e2 <;> first | exact absurd rfl ne | decide
    intro a b ad
    obtain ⟨ma, mb, _⟩ := w.adj ad
    rcases adj_iff.mp ad with m | m
    · exact key a b ma mb (h _ m)
    · exact key a b ma mb (Ne.symm (h _ m))
  · rintro ⟨k, hk⟩ e he q
    have ad : adj es e.1 e.2 = true := adj_iff.mpr (.inl he)
    obtain ⟨x, ex⟩ := Option.isSome_iff_exists.mp (cAll_some w (w.adj ad).1)
    exact o.good k hk _ _ ad x ex (q.symm.trans ex)
end
end KM

set_option autoImplicit false
/-! plain Lean: the sides, as the program finds them -/
namespace KM
section
variable {α : Type} [DecidableEq α]
structure SS (α : Type) where
  first : α → Option Bool
  above : α → Option (Option α)
  line : List α
def nb (ns : List α) (es : List (α × α)) (name : α) : List α := ns.filter fun z => adj es name z
theorem mem_nb {ns : List α} {es : List (α × α)} {a b : α} : b ∈ nb ns es a ↔ b ∈ ns ∧ adj es a b = true := List.mem_filter
def sVisit (name : α) (st : SS α) (other : α) : Option (SS α) := match st.first other with
  | none => some ⟨put st.first other (!(st.first name).getD false), put st.above other (some name), st.line ++ [other]⟩
  | some b => if st.first name = some b then none else some st
def sVisits (name : α) : List α → SS α → Option (SS α)
  | [], st => some st
  | o :: r, st => match sVisit name st o with
    | none => none
    | some st' => sVisits name r st'
def sLoop (ns : List α) (es : List (α × α)) : Nat → SS α → Option (Option (SS α))
  | 0, _ => none
  | n + 1, st => match st.line with
    | [] => some (some st)
    | name :: rest => match sVisits name (nb ns es name) { st with line := rest } with
      | none => some none
      | some st' => sLoop ns es n st'
def sBegin (st : SS α) (s : α) : SS α := if (st.first s).isSome = true then { st with line := [] } else ⟨put st.first s true, put st.above s none, [s]⟩
def sFold (ns : List α) (es : List (α × α)) : List α → SS α → Option (Option (SS α))
  | [], st => some (some st)
  | s :: r, st => match sLoop ns es (ns.length + 1) (sBegin st s) with
    | none => none
    | some none => some none
    | some (some st') => sFold ns es r st'
theorem sVisits_some {name o : α} {r : List α} {st st' : SS α} (e : sVisit name st o = some st') : sVisits name (o :: r) st = sVisits name r st' := by
  show (match sVisit name st o with | none => none | some st' => sVisits name r st') = _
  rw [e]
theorem sLoop_nil {ns : List α} {es : List (α × α)} {n : Nat} {st : SS α} (e : st.line = []) : sLoop ns es (n + 1) st = some (some st) := by
  unfold sLoop
  rw [e]
theorem sLoop_some {ns : List α} {es : List (α × α)} {n : Nat} {st st' : SS α} {name : α} {rest : List α} (e : st.line = name :: rest) (v : sVisits name (nb ns es name) { st with line := rest } = some st') : sLoop ns es (n + 1) st = sLoop ns es n st' := by
  show (match st.line with | [] => some (some st) | name :: rest => _) = _
  rw [e]
  dsimp only
  rw [v]
def kF (ns : List α) (es : List (α × α)) (r : List α) : Option (Option (SS α)) → Option (Option (SS α))
  | none => none
  | some none => some none
  | some (some st') => sFold ns es r st'
theorem sFold_cons {ns : List α} {es : List (α × α)} {s : α} {r : List α} {st : SS α} : sFold ns es (s :: r) st = kF ns es r (sLoop ns es (ns.length + 1) (sBegin st s)) := by
  show (match sLoop ns es (ns.length + 1) (sBegin st s) with | none => none | some none => some none | some (some st') => sFold ns es r st') = _
  unfold kF
  split <;> rfl
def sNil : SS α := ⟨fun _ => none, fun _ => none, []⟩
def sAll (ns : List α) (es : List (α × α)) : Option (Option (SS α)) := sFold ns es ns sNil

/-- up to the start in n steps -/
inductive Chain (above : α → Option (Option α)) (s : α) : α → Nat → Prop
  | root : above s = some none → Chain above s s 1
  | step {v u : α} {n : Nat} : above v = some (some u) → Chain above s u n → Chain above s v (n + 1)
theorem Chain.put {above : α → Option (Option α)} {s k : α} {x : Option α} (h : above k = none) {v : α} {n : Nat} (c : Chain above s v n) : Chain (KM.put above k x) s v n := by
  induction c with
  | root e => exact .root (by rw [put_ne _ _ (fun q => by rw [q, h] at e; cases e)]; exact e)
  | step e _ ih => exact .step (by rw [put_ne _ _ (fun q => by rw [q, h] at e; cases e)]; exact e) ih
def cnt {β : Type} (ns : List α) (f : α → Option β) : Nat := (ns.filter fun z => (f z).isSome).length
theorem cnt_le {β : Type} (ns : List α) (f : α → Option β) : cnt ns f ≤ ns.length := List.length_filter_le _ _
theorem cnt_mono {β : Type} {ns : List α} {f g : α → Option β} (h : ∀ z, (f z).isSome = true → (g z).isSome = true) : cnt ns f ≤ cnt ns g := by
  unfold cnt
  induction ns with
  | nil => exact Nat.le_refl _
  | cons z r ih =>
    rw [List.filter_cons, List.filter_cons]
    cases q : (f z).isSome with
    | true =>
      rw [h z q]
      exact Nat.succ_le_succ ih
    | false =>
      cases (g z).isSome with
      | true => exact Nat.le_succ_of_le ih
      | false => exact ih
theorem cnt_put {β : Type} {ns : List α} {f : α → Option β} {k : α} {x : β} (hk : k ∈ ns) (n : f k = none) : cnt ns f + 1 ≤ cnt ns (put f k x) := by
  induction ns with
  | nil => cases hk
  | cons z r ih =>
    have le : cnt r f ≤ cnt r (put f k x) := cnt_mono fun z h => put_some h
    unfold cnt at ih le ⊢
    rw [List.filter_cons, List.filter_cons]
    by_cases e : k = z
    · subst e
      rw [n, put_same]
      exact Nat.succ_le_succ le
    · have ih := ih ((List.mem_cons.mp hk).resolve_left e)
      rw [put_ne f x (Ne.symm e)]
      cases (f z).isSome with
      | true => exact Nat.succ_le_succ ih
      | false => exact ih
theorem isSome_put {β : Type} {f : α → Option β} {k z : α} {x : β} (h : (put f k x z).isSome = true) : z = k ∨ (f z).isSome = true := by
  by_cases e : z = k
  · exact .inl e
  · rw [put_ne _ _ e] at h
    exact .inr h
theorem none_or {β : Type} (o : Option β) : o = none ∨ o.isSome = true := by
  cases o with
  | none => exact .inl rfl
  | some _ => exact .inr rfl

/-- within a start's while -/
structure SI (ns : List α) (es : List (α × α)) (S : α → Option Bool) (s : α) (busy : α → Prop) (st : SS α) : Prop where
  more : ∀ z b, S z = some b → st.first z = some b
  closed : ∀ a b, adj es a b = true → (S a).isSome = true → (S b).isSome = true
  good : ∀ a b, adj es a b = true → ∀ x, S a = some x → S b ≠ some x
  line : ∀ z ∈ st.line, (st.first z).isSome = true ∧ S z = none
  bip : ∀ k : α → Bool, (∀ a b, adj es a b = true → k a ≠ k b) → ∀ z b, st.first z = some b → S z = none → b = decide (k z = k s)
  chain : ∀ z, (st.first z).isSome = true → S z = none → ∃ n, n ≤ cnt ns st.first ∧ Chain st.above s z n
  proc : ∀ z b, st.first z = some b → S z = none → z ∉ st.line → ¬ busy z → ∀ w, adj es z w = true → ∃ c, st.first w = some c ∧ c ≠ b
  dom : ∀ z, (st.first z).isSome = true → z ∈ ns
  abv : ∀ z, (st.above z).isSome = (st.first z).isSome
  told : (st.first s).isSome = true
/-- between two starts -/
structure SO (ns : List α) (es : List (α × α)) (st : SS α) : Prop where
  closed : ∀ a b, adj es a b = true → (st.first a).isSome = true → (st.first b).isSome = true
  good : ∀ a b, adj es a b = true → ∀ x, st.first a = some x → st.first b ≠ some x
  dom : ∀ z, (st.first z).isSome = true → z ∈ ns
  abv : ∀ z, (st.above z).isSome = (st.first z).isSome
theorem SO.nil (ns : List α) (es : List (α × α)) : SO ns es (sNil : SS α) := ⟨fun _ _ _ h => (by cases h), fun _ _ _ _ h => (by cases h), fun _ h => (by cases h), fun _ => rfl⟩
def NoOne : α → Prop := fun _ => False
theorem SO.enter {ns : List α} {es : List (α × α)} {st : SS α} (o : SO ns es st) {s : α} (hs : s ∈ ns) (h : st.first s = none) : SI ns es st.first s NoOne ⟨put st.first s true, put st.above s none, [s]⟩ where
  more := fun z b e => by
    show put st.first s true z = some b
    rw [put_ne _ _ (fun q => by rw [q, h] at e; cases e)]
    exact e
  closed := o.closed
  good := o.good
  line := fun z hz => by
    obtain rfl : z = s := List.mem_singleton.mp hz
    exact ⟨by show (put st.first z true z).isSome = true; rw [put_same]; rfl, h⟩
  bip := fun k hk z b e n => by
    have e : put st.first s true z = some b := e
    by_cases q : z = s
    · subst q
      rw [put_same] at e
      cases e
      exact (decide_eq_true rfl).symm
    · rw [put_ne _ _ q, n] at e
      cases e
  chain := fun z e n => by
    rcases isSome_put e with q | q
    · subst q
      refine ⟨1, ?_, .root (put_same _ _ _)⟩
      have := cnt_put (f := st.first) (x := true) hs h
      show 1 ≤ cnt ns (put st.first z true)
      omega
    · rw [n] at q
      cases q
  proc := fun z b e n hz => by
    have e : put st.first s true z = some b := e
    rcases isSome_put (show (put st.first s true z).isSome = true by rw [e]; rfl) with q | q
    · exact absurd (List.mem_singleton.mpr q) hz
    · rw [n] at q
      cases q
  dom := fun z e => by
    rcases isSome_put e with q | q
    · rw [q]
      exact hs
    · exact o.dom z q
  abv := fun z => by
    show (put st.above s none z).isSome = (put st.first s true z).isSome
    by_cases q : z = s
    · subst q
      rw [put_same, put_same]
      rfl
    · rw [put_ne _ _ q, put_ne _ _ q]
      exact o.abv z
  told := by
    show (put st.first s true s).isSome = true
    rw [put_same]
    rfl
theorem SI.leave {ns : List α} {es : List (α × α)} {S : α → Option Bool} {s : α} {st : SS α} (i : SI ns es S s NoOne st) (h : st.line = []) : SO ns es st where
  closed := fun a b ad e => by
    rcases none_or (S a) with n | n
    · obtain ⟨x, ex⟩ := Option.isSome_iff_exists.mp e
      obtain ⟨c, ec, _⟩ := i.proc a x ex n (by rw [h]; exact fun z => nomatch z) (fun z => z) b ad
      rw [ec]
      rfl
    · obtain ⟨y, ey⟩ := Option.isSome_iff_exists.mp (i.closed a b ad n)
      rw [i.more b y ey]
      rfl
  good := fun a b ad x ea eb => by
    rcases none_or (S a) with n | n
    · obtain ⟨c, ec, ne⟩ := i.proc a x ea n (by rw [h]; exact fun z => nomatch z) (fun z => z) b ad
      rw [eb] at ec
      cases ec
      exact ne rfl
    · obtain ⟨y, ey⟩ := Option.isSome_iff_exists.mp n
      have e1 := i.more a y ey
      rw [ea] at e1
      cases e1
      obtain ⟨z, ez⟩ := Option.isSome_iff_exists.mp (i.closed a b ad n)
      have e2 := i.more b z ez
      rw [eb] at e2
      cases e2
      exact i.good a b ad _ ey ez
  dom := i.dom
  abv := i.abv
/-- a name is taken off the line -/
theorem SI.pop {ns : List α} {es : List (α × α)} {S : α → Option Bool} {s name : α} {rest : List α} {st : SS α} (i : SI ns es S s NoOne st) (h : st.line = name :: rest) : SI ns es S s (· = name) { st with line := rest } where
  more := i.more
  closed := i.closed
  good := i.good
  line := fun z hz => i.line z (by rw [h]; exact List.mem_cons_of_mem _ hz)
  bip := i.bip
  chain := i.chain
  proc := fun z b e n hz hb => i.proc z b e n (by rw [h]; exact fun q => (List.mem_cons.mp q).elim hb hz) (fun q => q)
  dom := i.dom
  abv := i.abv
  told := i.told
/-- a tied place is in the same part -/
theorem SI.same {ns : List α} {es : List (α × α)} {S : α → Option Bool} {s : α} {busy : α → Prop} {st : SS α} (i : SI ns es S s busy st) {a b : α} (ad : adj es a b = true) (h : S a = none) : S b = none := by
  rcases none_or (S b) with n | n
  · exact n
  · have q := i.closed b a (by rw [adj_comm]; exact ad) n
    rw [h] at q
    cases q
/-- one visit -/
theorem SI.visit {ns : List α} {es : List (α × α)} {S : α → Option Bool} {s name other : α} {st st' : SS α} (i : SI ns es S s (· = name) st) (hn : (st.first name).isSome = true) (hS : S name = none) (ho : other ∈ nb ns es name) (e : sVisit name st other = some st') :
    SI ns es S s (· = name) st' ∧ (∀ z b, st.first z = some b → st'.first z = some b) ∧ (∃ c b, st'.first other = some c ∧ st'.first name = some b ∧ c ≠ b) ∧ st'.line.length + (ns.length - cnt ns st'.first) ≤ st.line.length + (ns.length - cnt ns st.first) := by
  obtain ⟨hm, ad⟩ := mem_nb.mp ho
  obtain ⟨b, eb⟩ := Option.isSome_iff_exists.mp hn
  unfold sVisit at e
  cases q : st.first other with
  | some c =>
    rw [q] at e
    dsimp only at e
    by_cases hc : st.first name = some c
    · rw [if_pos hc] at e
      cases e
    · rw [if_neg hc] at e
      cases e
      exact ⟨i, fun _ _ h => h, ⟨c, b, q, eb, fun h => hc (by rw [eb, h])⟩, Nat.le_refl _⟩
  | none =>
    rw [q] at e
    dsimp only at e
    cases e
    have oS : S other = none := i.same ad hS
    have oa : st.above other = none := by
      have z := i.abv other
      rw [q] at z
      cases y : st.above other with
      | none => rfl
      | some _ =>
        rw [y] at z
        cases z
    have ne : name ≠ other := fun z => by
      rw [z, q] at eb
      cases eb
    have mo : ∀ z b, st.first z = some b → put st.first other (!(st.first name).getD false) z = some b := fun z b e => by
      rw [put_ne _ _ (fun y => by rw [y, q] at e; cases e)]
      exact e
    have cp := cnt_put (x := !(st.first name).getD false) hm q
    have cl := cnt_le ns (put st.first other (!(st.first name).getD false))
    refine ⟨?_, mo, ⟨!b, b, by show put st.first other (!(st.first name).getD false) other = some !b; rw [put_same, eb]; rfl, mo _ _ eb, by cases b <;> decide⟩, ?_⟩
    · refine ⟨fun z x h => mo z x (i.more z x h), i.closed, i.good, fun z hz => ?_, fun k hk z x h n => ?_, fun z h n => ?_, fun z x h n hz hb w aw => ?_, fun z h => ?_, fun z => ?_, put_some i.told⟩
      · rcases List.mem_append.mp hz with hz | hz
        · obtain ⟨h1, h2⟩ := i.line z hz
          exact ⟨put_some h1, h2⟩
        · obtain rfl : z = other := List.mem_singleton.mp hz
          exact ⟨by show (put st.first z (!(st.first name).getD false) z).isSome = true; rw [put_same]; rfl, oS⟩
      · have h : put st.first other (!(st.first name).getD false) z = some x := h
        by_cases y : z = other
        · subst y
          rw [put_same, eb] at h
          cases h
          have v := i.bip k hk name b eb hS
          have kn := hk _ _ ad
          rw [v]
          revert kn
          cases k name <;> cases k z <;> cases k s <;> decide
        · rw [put_ne _ _ y] at h
          exact i.bip k hk z x h n
      · rcases isSome_put h with y | y
        · subst y
          obtain ⟨m, hm', c⟩ := i.chain name hn hS
          exact ⟨m + 1, by show m + 1 ≤ cnt ns (put st.first z (!(st.first name).getD false)); omega, .step (put_same _ _ _) (c.put oa)⟩
        · obtain ⟨m, hm', c⟩ := i.chain z y n
          exact ⟨m, by show m ≤ cnt ns (put st.first other (!(st.first name).getD false)); omega, c.put oa⟩
      · have y : z ≠ other := fun y => hz (by rw [y]; exact List.mem_append_right _ List.mem_cons_self)
        have h : put st.first other (!(st.first name).getD false) z = some x := h
        rw [put_ne _ _ y] at h
        obtain ⟨c, ec, nc⟩ := i.proc z x h n (fun hm => hz (List.mem_append_left _ hm)) hb w aw
        exact ⟨c, mo _ _ ec, nc⟩
      · rcases isSome_put h with y | y
        · rw [y]
          exact hm
        · exact i.dom z y
      · show (put st.above other (some name) z).isSome = (put st.first other (!(st.first name).getD false) z).isSome
        by_cases y : z = other
        · subst y
          rw [put_same, put_same]
          rfl
        · rw [put_ne _ _ y, put_ne _ _ y]
          exact i.abv z
    · show (st.line ++ [other]).length + (ns.length - cnt ns (put st.first other (!(st.first name).getD false))) ≤ _
      rw [List.length_append]
      show st.line.length + 1 + (ns.length - cnt ns (put st.first other (!(st.first name).getD false))) ≤ _
      omega
/-- where the visit refuses: no two sides, and both places have their ways up -/
theorem SI.odd {ns : List α} {es : List (α × α)} {S : α → Option Bool} {s name other : α} {st : SS α} (i : SI ns es S s (· = name) st) (hn : (st.first name).isSome = true) (hS : S name = none) (ho : other ∈ nb ns es name) (e : sVisit name st other = none) :
    ¬ Bip es ∧ (st.first other).isSome = true ∧ S other = none := by
  obtain ⟨hm, ad⟩ := mem_nb.mp ho
  unfold sVisit at e
  cases q : st.first other with
  | none =>
    rw [q] at e
    cases e
  | some c =>
    rw [q] at e
    dsimp only at e
    have oS := i.same ad hS
    by_cases hc : st.first name = some c
    · refine ⟨fun ⟨k, hk⟩ => ?_, rfl, oS⟩
      have v1 := i.bip k hk name c hc hS
      have v2 := i.bip k hk other c q oS
      have kn := hk _ _ ad
      rw [v1] at v2
      revert kn v2
      cases k name <;> cases k other <;> cases k s <;> decide
    · rw [if_neg hc] at e
      cases e
/-- all visits -/
theorem SI.visits {ns : List α} {es : List (α × α)} {S : α → Option Bool} {s name : α} : ∀ (l : List α) (st : SS α), (∀ o ∈ l, o ∈ nb ns es name) → SI ns es S s (· = name) st → (st.first name).isSome = true → S name = none →
    (sVisits name l st = none ∧ ¬ Bip es) ∨ ∃ st', sVisits name l st = some st' ∧ SI ns es S s (· = name) st' ∧ (∀ z b, st.first z = some b → st'.first z = some b) ∧
      (∀ o ∈ l, ∃ c b, st'.first o = some c ∧ st'.first name = some b ∧ c ≠ b) ∧ st'.line.length + (ns.length - cnt ns st'.first) ≤ st.line.length + (ns.length - cnt ns st.first)
  | [], st, _, i, _, _ => .inr ⟨st, rfl, i, fun _ _ h => h, (fun _ h => nomatch h), Nat.le_refl _⟩
  | o :: r, st, hl, i, hn, hS => by
    have ho := hl o List.mem_cons_self
    cases q : sVisit name st o with
    | none =>
      refine .inl ⟨?_, (i.odd hn hS ho q).1⟩
      show (match sVisit name st o with | none => none | some st' => sVisits name r st') = none
      rw [q]
    | some st1 =>
      obtain ⟨i1, m1, ⟨c, b, e1, e2, ne⟩, z1⟩ := i.visit hn hS ho q
      have hn1 : (st1.first name).isSome = true := by rw [e2]; rfl
      have un : sVisits name (o :: r) st = sVisits name r st1 := by
        show (match sVisit name st o with | none => none | some st' => sVisits name r st') = _
        rw [q]
      rcases SI.visits r st1 (fun x hx => hl x (List.mem_cons_of_mem _ hx)) i1 hn1 hS with ⟨h1, h2⟩ | ⟨st', h1, i2, m2, d2, z2⟩
      · exact .inl ⟨by rw [un]; exact h1, h2⟩
      · refine .inr ⟨st', by rw [un]; exact h1, i2, fun z b h => m2 z b (m1 z b h), fun x hx => ?_, Nat.le_trans z2 z1⟩
        rcases List.mem_cons.mp hx with y | hx
        · rw [y]
          exact ⟨c, b, m2 _ _ e1, m2 _ _ e2, ne⟩
        · exact d2 x hx
theorem SI.done {ns : List α} {es : List (α × α)} {S : α → Option Bool} {s name : α} {st : SS α} (w : Wg ns es) (i : SI ns es S s (· = name) st) (d : ∀ o ∈ nb ns es name, ∃ c b, st.first o = some c ∧ st.first name = some b ∧ c ≠ b) : SI ns es S s NoOne st :=
  ⟨i.more, i.closed, i.good, i.line, i.bip, i.chain, fun z b e n hz _ v av => by
    by_cases y : z = name
    · subst y
      obtain ⟨c, b', e1, e2, ne⟩ := d v (mem_nb.mpr ⟨(w.adj av).2.1, av⟩)
      rw [e] at e2
      cases e2
      exact ⟨c, e1, ne⟩
    · exact i.proc z b e n hz y v av, i.dom, i.abv, i.told⟩
theorem SI.loop {ns : List α} {es : List (α × α)} (w : Wg ns es) {S : α → Option Bool} {s : α} : ∀ (n : Nat) (st : SS α), st.line.length + (ns.length - cnt ns st.first) < n → SI ns es S s NoOne st →
    (sLoop ns es n st = some none ∧ ¬ Bip es) ∨ ∃ st', sLoop ns es n st = some (some st') ∧ SO ns es st' ∧ (∀ z b, st.first z = some b → st'.first z = some b) ∧ st'.line = []
  | 0, _, h, _ => absurd h (Nat.not_lt_zero _)
  | n + 1, st, h, i => by
    cases q : st.line with
    | nil =>
      refine .inr ⟨st, ?_, i.leave q, fun _ _ h => h, q⟩
      unfold sLoop
      rw [q]
    | cons name rest =>
      have i1 := i.pop q
      obtain ⟨hn, hS⟩ := i.line name (by rw [q]; exact List.mem_cons_self)
      have un : sLoop ns es (n + 1) st = match sVisits name (nb ns es name) { st with line := rest } with | none => some none | some st' => sLoop ns es n st' := by
        show (match st.line with | [] => some (some st) | name :: rest => _) = _
        rw [q]
      rcases i1.visits (nb ns es name) _ (fun _ h => h) hn hS with ⟨h1, h2⟩ | ⟨st1, h1, i2, m2, d2, z2⟩
      · exact .inl ⟨by rw [un, h1], h2⟩
      · rw [h1] at un
        have hz : st1.line.length + (ns.length - cnt ns st1.first) < n := by
          have z3 : st1.line.length + (ns.length - cnt ns st1.first) ≤ rest.length + (ns.length - cnt ns st.first) := z2
          rw [q] at h
          have h : rest.length + 1 + (ns.length - cnt ns st.first) < n + 1 := h
          omega
        rcases SI.loop w n st1 hz (i2.done w d2) with ⟨h3, h4⟩ | ⟨st', h3, o, m3, l3⟩
        · exact .inl ⟨by rw [un]; exact h3, h4⟩
        · exact .inr ⟨st', by rw [un]; exact h3, o, fun z b e => m3 z b (m2 z b e), l3⟩
theorem SO.begin {ns : List α} {es : List (α × α)} (w : Wg ns es) {st : SS α} (o : SO ns es st) {s : α} (hs : s ∈ ns) :
    (sLoop ns es (ns.length + 1) (sBegin st s) = some none ∧ ¬ Bip es) ∨ ∃ st', sLoop ns es (ns.length + 1) (sBegin st s) = some (some st') ∧ SO ns es st' ∧ (∀ z b, st.first z = some b → st'.first z = some b) ∧ (st'.first s).isSome = true := by
  unfold sBegin
  rcases none_or (st.first s) with n | n
  · rw [if_neg (by rw [n]; exact Bool.false_ne_true)]
    have i := o.enter hs n
    have hz : (1 : Nat) + (ns.length - cnt ns (put st.first s true)) < ns.length + 1 := by
      have h1 := cnt_put (x := true) hs n
      have h2 := cnt_le ns (put st.first s true)
      omega
    rcases SI.loop w (ns.length + 1) ⟨put st.first s true, put st.above s none, [s]⟩ hz i with h | ⟨st', h1, h2, h3, _⟩
    · exact .inl h
    · exact .inr ⟨st', h1, h2, fun z b e => h3 z b (i.more z b e), by rw [h3 s true (put_same _ _ _)]; rfl⟩
  · rw [if_pos n]
    exact .inr ⟨_, rfl, ⟨o.closed, o.good, o.dom, o.abv⟩, fun _ _ h => h, n⟩
theorem SO.fold {ns : List α} {es : List (α × α)} (w : Wg ns es) : ∀ (l : List α) (st : SS α), (∀ x ∈ l, x ∈ ns) → SO ns es st →
    (sFold ns es l st = some none ∧ ¬ Bip es) ∨ ∃ st', sFold ns es l st = some (some st') ∧ SO ns es st' ∧ (∀ z b, st.first z = some b → st'.first z = some b) ∧ ∀ x ∈ l, (st'.first x).isSome = true
  | [], st, _, o => .inr ⟨st, rfl, o, fun _ _ h => h, fun _ h => nomatch h⟩
  | s :: r, st, hl, o => by
    rcases o.begin w (hl s List.mem_cons_self) with ⟨h1, h2⟩ | ⟨st1, h1, o1, m1, t1⟩
    · refine .inl ⟨?_, h2⟩
      unfold sFold
      rw [h1]
    · have un : sFold ns es (s :: r) st = sFold ns es r st1 := by
        show (match sLoop ns es (ns.length + 1) (sBegin st s) with | none => none | some none => some none | some (some st') => sFold ns es r st') = _
        rw [h1]
      rcases SO.fold w r st1 (fun x hx => hl x (List.mem_cons_of_mem _ hx)) o1 with ⟨h3, h4⟩ | ⟨st', h3, o2, m2, t2⟩
      · exact .inl ⟨by rw [un]; exact h3, h4⟩
      · refine .inr ⟨st', by rw [un]; exact h3, o2, fun z b e => m2 z b (m1 z b e), fun x hx => ?_⟩
        rcases List.mem_cons.mp hx with y | hx
        · obtain ⟨b, eb⟩ := Option.isSome_iff_exists.mp t1
          rw [y, m2 s b eb]
          rfl
        · exact t2 x hx
/-- the sides are found, or there are none -/
theorem sAll_spec {ns : List α} {es : List (α × α)} (w : Wg ns es) : (sAll ns es = some none ∧ ¬ Bip es) ∨ ∃ st, sAll ns es = some (some st) ∧ Bip es ∧ SO ns es st ∧ ∀ x ∈ ns, (st.first x).isSome = true := by
  rcases SO.fold w ns sNil (fun _ h => h) (SO.nil ns es) with h | ⟨st, h1, o, _, t⟩
  · exact .inl h
  · refine .inr ⟨st, h1, ⟨fun z => (st.first z).getD false, fun a b ad => ?_⟩, o, t⟩
    obtain ⟨x, ex⟩ := Option.isSome_iff_exists.mp (t a (w.adj ad).1)
    obtain ⟨y, ey⟩ := Option.isSome_iff_exists.mp (t b (w.adj ad).2.1)
    have ne := o.good a b ad x ex
    show (st.first a).getD false ≠ (st.first b).getD false
    rw [ex, ey]
    rw [ey] at ne
    exact fun q => ne (by rw [show x = y from q])
end
end KM

set_option autoImplicit false
/-! plain Lean: pairs grown along roads, and the cover -/
namespace KM
section
variable {α : Type} [DecidableEq α]
structure RS (α : Type) where
  came : α → Option (Option α)
  line : List α
def rVisit (M : α → Option α) (name : α) (st : RS α) (other : α) : RS α := match st.came other with
  | some _ => st
  | none => match M other with
    | none => ⟨put st.came other (some name), st.line⟩
    | some p => ⟨put (put st.came other (some name)) p (some other), st.line ++ [p]⟩
def rVisits (M : α → Option α) (name : α) (l : List α) (st : RS α) : RS α := l.foldl (rVisit M name) st
def rLoop (ns : List α) (es : List (α × α)) (M : α → Option α) : Nat → Nat → RS α → Option (RS α)
  | 0, _, _ => none
  | n + 1, i, st => match st.line[i]? with
    | none => some st
    | some name => rLoop ns es M n (i + 1) (rVisits M name (nb ns es name) st)
theorem rLoop_none {ns : List α} {es : List (α × α)} {M : α → Option α} {n i : Nat} {st : RS α} (e : st.line[i]? = none) : rLoop ns es M (n + 1) i st = some st := by
  unfold rLoop
  rw [e]
theorem rLoop_some {ns : List α} {es : List (α × α)} {M : α → Option α} {n i : Nat} {st : RS α} {name : α} (e : st.line[i]? = some name) : rLoop ns es M (n + 1) i st = rLoop ns es M n (i + 1) (rVisits M name (nb ns es name) st) := by
  conv => lhs; unfold rLoop
  rw [e]
theorem rVisits_cons {M : α → Option α} {name o : α} {l : List α} {st : RS α} : rVisits M name (o :: l) st = rVisits M name l (rVisit M name st o) := rfl
def rLine (M : α → Option α) (left : List α) : List α := left.filter fun z => (M z).isNone
def rStart (M : α → Option α) (left : List α) : RS α := ⟨(rLine M left).foldl (fun f z => put f z none) (fun _ => none), rLine M left⟩
def reach (ns : List α) (es : List (α × α)) (M : α → Option α) (left : List α) : Option (RS α) := rLoop ns es M (ns.length + 1) 0 (rStart M left)
def aug (came : α → Option (Option α)) : Nat → (α → Option α) → α → Option (α → Option α)
  | 0, _, _ => none
  | n + 1, M, name => match came name with
    | some (some one) => match M one with
      | none => some (put (put M name one) one name)
      | some b => aug came n (put (put M name one) one name) b
    | _ => none
def goals (M : α → Option α) (came : α → Option (Option α)) (right : List α) : List α := right.filter fun z => (came z).isSome && (M z).isNone
def grown (ns : List α) (es : List (α × α)) (left right : List α) (M : α → Option α) : Option (Option (α → Option α)) := match reach ns es M left with
  | none => none
  | some st => match goals M st.came right with
    | [] => some none
    | g :: _ => match aug st.came (ns.length + 1) M g with
      | none => none
      | some M' => some (some M')
def gLoop (ns : List α) (es : List (α × α)) (left right : List α) : Nat → (α → Option α) → Option (α → Option α)
  | 0, _ => none
  | n + 1, M => match grown ns es left right M with
    | none => none
    | some none => some M
    | some (some M') => gLoop ns es left right n M'
def coverOf (ns : List α) (left : List α) (came : α → Option (Option α)) : List α := ns.filter fun z => decide (z ∈ left) != (came z).isSome
def risOne (ns : List α) (M : α → Option α) (z : α) : Option (α × α) := match M z with
  | none => none
  | some w => if ns.idxOf z < ns.idxOf w then some (z, w) else none
def risingOf (ns : List α) (M : α → Option α) : List (α × α) := ns.filterMap (risOne ns M)
def bySides (ns : List α) (es : List (α × α)) (left right : List α) : Option (List (α × α) × List α) := match gLoop ns es left right (ns.length + 1) (fun _ => none) with
  | none => none
  | some M => match reach ns es M left with
    | none => none
    | some st => some (risingOf ns M, coverOf ns left st.came)

inductive Up (came : α → Option (Option α)) (M : α → Option α) : α → Nat → Prop
  | root {l : α} : M l = none → Up came M l 1
  | step {l q k : α} {n : Nat} : M l = some q → came q = some (some k) → Up came M k n → Up came M l (n + 1)
theorem Up.put {came : α → Option (Option α)} {M : α → Option α} {k : α} {x : Option α} (h : came k = none) {v : α} {n : Nat} (c : Up came M v n) : Up (KM.put came k x) M v n := by
  induction c with
  | root e => exact .root e
  | step e f _ ih => exact .step e (by rw [put_ne _ _ (fun q => by rw [q, h] at f; cases f)]; exact f) ih
theorem Up.pos {came : α → Option (Option α)} {M : α → Option α} {v : α} {n : Nat} (a : Up came M v n) : 0 < n := by cases a <;> exact Nat.succ_pos _
theorem Up.uniq {came : α → Option (Option α)} {M : α → Option α} {v : α} {n m : Nat} (a : Up came M v n) (b : Up came M v m) : n = m := by
  induction a generalizing m with
  | root e => cases b with
    | root _ => rfl
    | step f _ _ =>
      rw [e] at f
      cases f
  | step e f _ ih => cases b with
    | root g =>
      rw [e] at g
      cases g
    | step g h u =>
      rw [e] at g
      cases g
      rw [f] at h
      cases h
      rw [ih u]
/-- pairs, but for a hole -/
structure MI (ns : List α) (es : List (α × α)) (c : α → Bool) (M : α → Option α) (hole : Option α) : Prop where
  lft : ∀ l r, c l = true → M l = some r → c r = false ∧ adj es l r = true ∧ M r = some l ∧ hole ≠ some r
  rgt : ∀ r l, c r = false → hole ≠ some r → M r = some l → c l = true ∧ M l = some r
  dom : ∀ z, (M z).isSome = true → z ∈ ns
theorem MI.nil (ns : List α) (es : List (α × α)) (c : α → Bool) : MI ns es c (fun _ => none) none := ⟨fun _ _ _ h => (by cases h), fun _ _ _ _ h => (by cases h), fun _ h => (by cases h)⟩
theorem MI.sym {ns : List α} {es : List (α × α)} {c : α → Bool} {M : α → Option α} (m : MI ns es c M none) {a b : α} (h : M a = some b) : M b = some a ∧ adj es a b = true := by
  cases q : c a with
  | true =>
    obtain ⟨_, h2, h3, _⟩ := m.lft a b q h
    exact ⟨h3, h2⟩
  | false =>
    obtain ⟨h1, h2⟩ := m.rgt a b q (fun z => nomatch z) h
    obtain ⟨_, h4, h5, _⟩ := m.lft b a h1 h2
    exact ⟨h2, by rw [adj_comm]; exact h4⟩
/-- reached -/
structure RI (ns : List α) (es : List (α × α)) (c : α → Bool) (M : α → Option α) (st : RS α) : Prop where
  nd : st.line.Nodup
  lin : ∀ z ∈ st.line, z ∈ ns ∧ c z = true ∧ (st.came z).isSome = true ∧ ∃ n, n ≤ st.line.length ∧ Up st.came M z n
  inl : ∀ z, c z = true → (st.came z).isSome = true → z ∈ st.line
  free : ∀ z ∈ ns, c z = true → M z = none → (st.came z).isSome = true
  rig : ∀ z x, c z = false → st.came z = some x → ∃ l, x = some l ∧ l ∈ st.line ∧ adj es l z = true ∧ ∀ p, M z = some p → p ∈ st.line
  dom : ∀ z, (st.came z).isSome = true → z ∈ ns
theorem fold_none : ∀ (l : List α) (f : α → Option (Option α)) (z : α), l.foldl (fun f z => put f z none) f z = if z ∈ l then some none else f z
  | [], f, z => (if_neg (fun h => nomatch h)).symm
  | a :: r, f, z => by
    rw [List.foldl_cons, fold_none r]
    by_cases h : z ∈ r
    · rw [if_pos h, if_pos (List.mem_cons_of_mem _ h)]
    · rw [if_neg h]
      by_cases q : z = a
      · rw [q, put_same, if_pos List.mem_cons_self]
      · rw [put_ne _ _ q, if_neg (fun m => (List.mem_cons.mp m).elim q h)]
theorem RI.start {ns : List α} {es : List (α × α)} {c : α → Bool} {M : α → Option α} (nd : ns.Nodup) : RI ns es c M (rStart M (ns.filter c)) := by
  have mem : ∀ z, z ∈ rLine M (ns.filter c) ↔ z ∈ ns ∧ c z = true ∧ M z = none := fun z => by
    unfold rLine
    rw [List.mem_filter, List.mem_filter, Option.isNone_iff_eq_none, and_assoc]
  have cm : ∀ z, (rStart M (ns.filter c)).came z = if z ∈ rLine M (ns.filter c) then some none else none := fun z => fold_none _ _ z
  have cs : ∀ z, ((rStart M (ns.filter c)).came z).isSome = true → z ∈ rLine M (ns.filter c) := fun z h => by
    rw [cm] at h
    by_cases q : z ∈ rLine M (ns.filter c)
    · exact q
    · rw [if_neg q] at h
      cases h
  refine ⟨(nd.filter _).filter _, fun z hz => ?_, fun z _ h => cs z h, fun z h1 h2 h3 => ?_, fun z x h1 h2 => ?_, fun z h => ((mem z).mp (cs z h)).1⟩
  · obtain ⟨h1, h2, h3⟩ := (mem z).mp hz
    exact ⟨h1, h2, by rw [cm, if_pos (show z ∈ rLine M (ns.filter c) from hz)]; rfl, 1, List.length_pos_of_mem hz, .root h3⟩
  · rw [cm, if_pos ((mem z).mpr ⟨h1, h2, h3⟩)]
    rfl
  · have q := ((mem z).mp (cs z (by rw [h2]; rfl))).2.1
    rw [h1] at q
    cases q
theorem rVisit_at (M : α → Option α) (name : α) (st : RS α) (other : α) : ((st.came other).isSome = true ∧ rVisit M name st other = st) ∨ (st.came other = none ∧ M other = none ∧ rVisit M name st other = ⟨put st.came other (some name), st.line⟩) ∨
    ∃ p, st.came other = none ∧ M other = some p ∧ rVisit M name st other = ⟨put (put st.came other (some name)) p (some other), st.line ++ [p]⟩ := by
  unfold rVisit
  cases h1 : st.came other with
  | some _ => exact .inl ⟨rfl, rfl⟩
  | none => cases h2 : M other with
    | none => exact .inr (.inl ⟨rfl, rfl, rfl⟩)
    | some p => exact .inr (.inr ⟨p, rfl, rfl, rfl⟩)
theorem RI.visit {ns : List α} {es : List (α × α)} {c : α → Bool} {M : α → Option α} {st : RS α} {name other : α} (hc : ∀ a b, adj es a b = true → c a ≠ c b) (m : MI ns es c M none) (i : RI ns es c M st) (hn : name ∈ st.line) (ho : other ∈ nb ns es name) :
    RI ns es c M (rVisit M name st other) ∧ (∃ x, (rVisit M name st other).line = st.line ++ x) ∧ ((rVisit M name st other).came other).isSome = true ∧ ∀ z, (st.came z).isSome = true → ((rVisit M name st other).came z).isSome = true := by
  obtain ⟨hm, ad⟩ := mem_nb.mp ho
  obtain ⟨_, n2, _, k, hk, u⟩ := i.lin name hn
  have oc : c other = false := by
    have q := hc _ _ ad
    rw [n2] at q
    cases y : c other with
    | false => rfl
    | true => exact absurd y.symm q
  rcases rVisit_at M name st other with ⟨h, e⟩ | ⟨h, h2, e⟩ | ⟨p, h, h2, e⟩
  · rw [e]
    exact ⟨i, ⟨[], (List.append_nil _).symm⟩, h, fun _ h => h⟩
  · rw [e]
    refine ⟨⟨i.nd, fun z hz => ?_, fun z z2 h3 => ?_, fun z h3 h4 h5 => put_some (i.free z h3 h4 h5), fun z x h3 h4 => ?_, fun z h3 => ?_⟩, ⟨[], (List.append_nil _).symm⟩, by show (put st.came other (some name) other).isSome = true; rw [put_same]; rfl, fun z h => put_some h⟩
    · obtain ⟨a1, a2, a3, n, a4, a5⟩ := i.lin z hz
      exact ⟨a1, a2, put_some a3, n, a4, a5.put h⟩
    · rcases isSome_put h3 with y | y
      · rw [y, oc] at z2
        cases z2
      · exact i.inl z z2 y
    · have h4 : put st.came other (some name) z = some x := h4
      by_cases y : z = other
      · subst y
        rw [put_same] at h4
        cases h4
        exact ⟨name, rfl, hn, ad, fun p q => by rw [h2] at q; cases q⟩
      · rw [put_ne _ _ y] at h4
        exact i.rig z x h3 h4
    · rcases isSome_put h3 with y | y
      · rw [y]
        exact hm
      · exact i.dom z y
  · rw [e]
    obtain ⟨pc, pm⟩ := m.rgt other p oc (fun z => nomatch z) h2
    have ne : p ≠ other := fun y => by
      rw [y, oc] at pc
      cases pc
    have pn : st.came p = none := by
      rcases none_or (st.came p) with y | y
      · exact y
      · obtain ⟨_, _, _, n, _, a5⟩ := i.lin p (i.inl p pc y)
        cases a5 with
        | root f =>
          rw [pm] at f
          cases f
        | step f g _ =>
          rw [pm] at f
          cases f
          rw [h] at g
          cases g
    have pl : p ∉ st.line := fun y => by
      have q := (i.lin p y).2.2.1
      rw [pn] at q
      cases q
    have pd : p ∈ ns := m.dom p (by rw [pm]; rfl)
    have pn1 : put st.came other (some name) p = none := by
      rw [put_ne _ _ ne]
      exact pn
    have up : ∀ z n, Up st.came M z n → Up (put (put st.came other (some name)) p (some other)) M z n := fun z n a => (a.put h).put pn1
    have c2 : put (put st.came other (some name)) p (some other) other = some (some name) := by
      rw [put_ne _ _ (Ne.symm ne), put_same]
    refine ⟨⟨?_, fun z hz => ?_, fun z z2 h3 => ?_, fun z h3 h4 h5 => put_some (put_some (i.free z h3 h4 h5)), fun z x h3 h4 => ?_, fun z h3 => ?_⟩, ⟨[p], rfl⟩, by show (put (put st.came other (some name)) p (some other) other).isSome = true; rw [c2]; rfl, fun z h => put_some (put_some h)⟩
    · show (st.line ++ [p]).Nodup
      rw [List.nodup_append]
      exact ⟨i.nd, List.nodup_cons.mpr ⟨(fun z => nomatch z), List.nodup_nil⟩, fun a ha b hb y => by rw [List.mem_singleton.mp hb] at y; exact pl (y ▸ ha)⟩
    · show z ∈ ns ∧ c z = true ∧ (put (put st.came other (some name)) p (some other) z).isSome = true ∧ ∃ n, n ≤ (st.line ++ [p]).length ∧ Up (put (put st.came other (some name)) p (some other)) M z n
      rw [List.length_append]
      rcases List.mem_append.mp hz with y | y
      · obtain ⟨a1, a2, a3, n, a4, a5⟩ := i.lin z y
        exact ⟨a1, a2, put_some (put_some a3), n, Nat.le_succ_of_le a4, up z n a5⟩
      · rw [List.mem_singleton.mp y]
        exact ⟨pd, pc, by rw [put_same]; rfl, k + 1, Nat.succ_le_succ hk, .step pm c2 (up name k u)⟩
    · show z ∈ st.line ++ [p]
      rcases isSome_put h3 with y | y
      · rw [y]
        exact List.mem_append_right _ List.mem_cons_self
      · rcases isSome_put y with y | y
        · rw [y, oc] at z2
          cases z2
        · exact List.mem_append_left _ (i.inl z z2 y)
    · have h4 : put (put st.came other (some name)) p (some other) z = some x := h4
      by_cases y : z = p
      · rw [y, pc] at h3
        cases h3
      · rw [put_ne _ _ y] at h4
        by_cases y2 : z = other
        · subst y2
          rw [put_same] at h4
          cases h4
          exact ⟨name, rfl, List.mem_append_left _ hn, ad, fun p' q => by rw [h2] at q; cases q; exact List.mem_append_right _ List.mem_cons_self⟩
        · rw [put_ne _ _ y2] at h4
          obtain ⟨l, b1, b2, b3, b4⟩ := i.rig z x h3 h4
          exact ⟨l, b1, List.mem_append_left _ b2, b3, fun p' q => List.mem_append_left _ (b4 p' q)⟩
    · rcases isSome_put h3 with y | y
      · rw [y]
        exact pd
      · rcases isSome_put y with y | y
        · rw [y]
          exact hm
        · exact i.dom z y
theorem RI.visits {ns : List α} {es : List (α × α)} {c : α → Bool} {M : α → Option α} {name : α} (hc : ∀ a b, adj es a b = true → c a ≠ c b) (m : MI ns es c M none) : ∀ (l : List α) (st : RS α), (∀ o ∈ l, o ∈ nb ns es name) → RI ns es c M st → name ∈ st.line →
    RI ns es c M (rVisits M name l st) ∧ (∃ x, (rVisits M name l st).line = st.line ++ x) ∧ (∀ o ∈ l, ((rVisits M name l st).came o).isSome = true) ∧ ∀ z, (st.came z).isSome = true → ((rVisits M name l st).came z).isSome = true
  | [], st, _, i, _ => ⟨i, ⟨[], (List.append_nil _).symm⟩, (fun _ h => nomatch h), fun _ h => h⟩
  | o :: r, st, hl, i, hn => by
    obtain ⟨i1, ⟨x, ex⟩, t1, m1⟩ := i.visit hc m hn (hl o List.mem_cons_self)
    obtain ⟨i2, ⟨y, ey⟩, t2, m2⟩ := RI.visits hc m r _ (fun z hz => hl z (List.mem_cons_of_mem _ hz)) i1 (by rw [ex]; exact List.mem_append_left _ hn)
    refine ⟨i2, ⟨x ++ y, ?_⟩, fun z hz => ?_, fun z h => m2 z (m1 z h)⟩
    · show (rVisits M name r (rVisit M name st o)).line = _
      rw [ey, ex, List.append_assoc]
    · rcases List.mem_cons.mp hz with q | q
      · rw [q]
        exact m2 o t1
      · exact t2 z q
theorem RI.loop {ns : List α} {es : List (α × α)} {c : α → Bool} {M : α → Option α} (w : Wg ns es) (hc : ∀ a b, adj es a b = true → c a ≠ c b) (m : MI ns es c M none) : ∀ (n i : Nat) (st : RS α), ns.length < n + i → i ≤ st.line.length → RI ns es c M st → (∀ j z, j < i → st.line[j]? = some z → ∀ w, adj es z w = true → (st.came w).isSome = true) →
    ∃ st', rLoop ns es M n i st = some st' ∧ RI ns es c M st' ∧ ∀ z ∈ st'.line, ∀ w, adj es z w = true → (st'.came w).isSome = true
  | 0, i, st, h, hi, ri, d => by
    have q := nodup_sub_len ri.nd fun z hz => (ri.lin z hz).1
    omega
  | n + 1, i, st, h, hi, ri, d => by
    unfold rLoop
    cases q : st.line[i]? with
    | none =>
      refine ⟨st, rfl, ri, fun z hz => ?_⟩
      obtain ⟨j, hj⟩ := List.mem_iff_getElem?.mp hz
      refine d j z ?_ hj
      have a := List.getElem?_eq_none_iff.mp q
      have b := (List.getElem?_eq_some_iff.mp hj).1
      omega
    | some name =>
      have hn : name ∈ st.line := List.mem_of_getElem? q
      obtain ⟨i1, ⟨x, ex⟩, t1, m1⟩ := ri.visits hc m (nb ns es name) st (fun _ h => h) hn
      have il := (List.getElem?_eq_some_iff.mp q).1
      refine RI.loop w hc m n (i + 1) _ (by omega) (by rw [ex, List.length_append]; omega) i1 fun j z hj e v av => ?_
      rw [ex, List.getElem?_append_left (by omega)] at e
      by_cases y : j = i
      · rw [y, q] at e
        cases e
        exact t1 v (mem_nb.mpr ⟨(w.adj av).2.1, av⟩)
      · exact m1 v (d j z (by omega) e v av)
theorem reach_ok {ns : List α} {es : List (α × α)} {c : α → Bool} {M : α → Option α} (w : Wg ns es) (hc : ∀ a b, adj es a b = true → c a ≠ c b) (m : MI ns es c M none) :
    ∃ st, reach ns es M (ns.filter c) = some st ∧ RI ns es c M st ∧ ∀ z ∈ st.line, ∀ w, adj es z w = true → (st.came w).isSome = true :=
  RI.loop w hc m (ns.length + 1) 0 _ (by omega) (Nat.zero_le _) (RI.start w.nd) fun _ _ h => absurd h (Nat.not_lt_zero _)
theorem MI.step {ns : List α} {es : List (α × α)} {c : α → Bool} {M : α → Option α} {name one : α} (m : MI ns es c M (some name)) (hc : c name = false) (oc : c one = true) (ad : adj es one name = true) (on : one ∈ ns) (nn : name ∈ ns) :
    MI ns es c (put (put M name one) one name) (M one) := by
  have ne : one ≠ name := fun y => by
    rw [y, hc] at oc
    cases oc
  have e1 : put (put M name one) one name one = some name := put_same _ _ _
  have e2 : put (put M name one) one name name = some one := by rw [put_ne _ _ (Ne.symm ne), put_same]
  have e3 : ∀ z, z ≠ one → z ≠ name → put (put M name one) one name z = M z := fun z h k => by rw [put_ne _ _ h, put_ne _ _ k]
  refine ⟨fun l r hl h => ?_, fun r l hr hh h => ?_, fun z h => ?_⟩
  · by_cases y : l = one
    · subst y
      rw [e1] at h
      cases h
      refine ⟨hc, ad, e2, fun q => ?_⟩
      exact (m.lft _ _ oc q).2.2.2 rfl
    · have yn : l ≠ name := fun q => by
        rw [q, hc] at hl
        cases hl
      rw [e3 l y yn] at h
      obtain ⟨a1, a2, a3, a4⟩ := m.lft l r hl h
      have rn : r ≠ name := fun q => a4 (by rw [q])
      have ro : r ≠ one := fun q => by
        rw [q, oc] at a1
        cases a1
      refine ⟨a1, a2, by rw [e3 r ro rn]; exact a3, fun q => ?_⟩
      have z := (m.lft _ _ oc q).2.2.1
      rw [a3] at z
      exact y (Option.some.inj z)
  · have ro : r ≠ one := fun q => by
      rw [q, oc] at hr
      cases hr
    by_cases y : r = name
    · subst y
      rw [e2] at h
      cases h
      exact ⟨oc, e1⟩
    · rw [e3 r ro y] at h
      obtain ⟨a1, a2⟩ := m.rgt r l hr (fun q => y (Option.some.inj q).symm) h
      have lo : l ≠ one := fun q => hh (by rw [← q]; exact a2)
      have ln : l ≠ name := fun q => by
        rw [q, hc] at a1
        cases a1
      exact ⟨a1, by rw [e3 l lo ln]; exact a2⟩
  · rcases isSome_put h with y | y
    · rw [y]
      exact on
    · rcases isSome_put y with y | y
      · rw [y]
        exact nn
      · exact m.dom z y
theorem aug_ok {ns : List α} {es : List (α × α)} {c : α → Bool} {M0 : α → Option α} {came : α → Option (Option α)} (hdom : ∀ z, (came z).isSome = true → z ∈ ns)
    (rig : ∀ z x, c z = false → came z = some x → ∃ l, x = some l ∧ c l = true ∧ l ∈ ns ∧ adj es l z = true) : ∀ (n : Nat) (M : α → Option α) (name one : α), came name = some (some one) → c name = false → Up came M0 one n →
    (∀ l k, c l = true → Up came M0 l k → k ≤ n → M l = M0 l) → MI ns es c M (some name) → ∀ k, n ≤ k → ∃ M', aug came k M name = some M' ∧ MI ns es c M' none ∧ (∀ z, (put M name one z).isSome = true → (M' z).isSome = true)
  | 0, _, _, _, _, _, u, _, _, _, _ => absurd u.pos (Nat.lt_irrefl 0)
  | n + 1, M, name, one, e, hc, u, ag, m, k, hk => by
    obtain ⟨l, q1, oc, on, ad⟩ := rig name _ hc e
    cases q1
    cases k with
    | zero => exact absurd hk (Nat.not_succ_le_zero _)
    | succ k =>
      have ms := m.step hc oc ad on (hdom name (by rw [e]; rfl))
      have mo := ag one (n + 1) oc u (Nat.le_refl _)
      unfold aug
      rw [e]
      dsimp only
      generalize hn : n + 1 = n1 at u
      cases u with
      | root f =>
        rw [mo.trans f] at ms ⊢
        exact ⟨_, rfl, ms, fun z h => put_some h⟩
      | @step _ q l n' f g u' =>
        cases hn
        have mb := mo.trans f
        rw [mb] at ms ⊢
        dsimp only
        obtain ⟨qc, _, _, qn⟩ := m.lft one q oc mb
        obtain ⟨l', q2, lc, ln, la⟩ := rig q _ qc g
        cases q2
        have ne : one ≠ name := fun y => by
          rw [y, hc] at oc
          cases oc
        obtain ⟨M', r1, r2, r3⟩ := aug_ok hdom rig n (put (put M name one) one name) q l g qc u' (fun z j zc zu zj => by
          rw [put_ne _ _ (fun y => ?_), put_ne _ _ (fun y => ?_)]
          · exact ag z j zc zu (Nat.le_succ_of_le zj)
          · rw [y, hc] at zc
            cases zc
          · rw [y] at zu
            have := zu.uniq (Up.step f g u')
            omega) ms k (Nat.le_of_succ_le_succ hk)
        exact ⟨M', r1, r2, fun z h => r3 z (put_some (put_some h))⟩
theorem grown_ok {ns : List α} {es : List (α × α)} {c : α → Bool} {M : α → Option α} (w : Wg ns es) (hc : ∀ a b, adj es a b = true → c a ≠ c b) (m : MI ns es c M none) :
    (grown ns es (ns.filter c) (ns.filter fun z => !c z) M = some none ∧ ∃ st, reach ns es M (ns.filter c) = some st ∧ RI ns es c M st ∧ (∀ z ∈ st.line, ∀ w, adj es z w = true → (st.came w).isSome = true) ∧ ∀ z ∈ ns, c z = false → (st.came z).isSome = true → (M z).isSome = true) ∨
    ∃ M', grown ns es (ns.filter c) (ns.filter fun z => !c z) M = some (some M') ∧ MI ns es c M' none ∧ cnt ns M + 1 ≤ cnt ns M' := by
  obtain ⟨st, h1, ri, h2⟩ := reach_ok w hc m
  have un : grown ns es (ns.filter c) (ns.filter fun z => !c z) M = match goals M st.came (ns.filter fun z => !c z) with
      | [] => some none
      | g :: _ => match aug st.came (ns.length + 1) M g with
        | none => none
        | some M' => some (some M') := by
    unfold grown
    rw [h1]
  cases q : goals M st.came (ns.filter fun z => !c z) with
  | nil =>
    refine .inl ⟨by rw [un, q], st, h1, ri, h2, fun z zn zc zs => ?_⟩
    rcases none_or (M z) with y | y
    · have : z ∈ goals M st.came (ns.filter fun z => !c z) := List.mem_filter.mpr ⟨List.mem_filter.mpr ⟨zn, by rw [zc]; rfl⟩, by rw [zs, y]; rfl⟩
      rw [q] at this
      cases this
    · exact y
  | cons g r =>
    have hg : g ∈ goals M st.came (ns.filter fun z => !c z) := by
      rw [q]
      exact List.mem_cons_self
    obtain ⟨g1, g2⟩ := List.mem_filter.mp hg
    obtain ⟨gn, gc⟩ := List.mem_filter.mp g1
    have gc : c g = false := by
      cases y : c g with
      | false => rfl
      | true =>
        rw [y] at gc
        cases gc
    obtain ⟨gs, gm⟩ := Bool.and_eq_true_iff.mp g2
    have gm := Option.isNone_iff_eq_none.mp gm
    obtain ⟨x, ex⟩ := Option.isSome_iff_exists.mp gs
    obtain ⟨l, q1, ll, _, _⟩ := ri.rig g x gc ex
    cases q1
    obtain ⟨_, _, _, n, hn, u⟩ := ri.lin l ll
    have ln := nodup_sub_len ri.nd fun z hz => (ri.lin z hz).1
    have m' : MI ns es c M (some g) := ⟨fun a b ha hb => by
      obtain ⟨b1, b2, b3, _⟩ := m.lft a b ha hb
      exact ⟨b1, b2, b3, fun y => by cases y; rw [gm] at b3; cases b3⟩, fun a b ha _ hb => m.rgt a b ha (fun z => nomatch z) hb, m.dom⟩
    obtain ⟨M', r1, r2, r3⟩ := aug_ok (M0 := M) ri.dom (fun z x zc ez => by
      obtain ⟨l, a1, a2, a3, _⟩ := ri.rig z x zc ez
      obtain ⟨b1, b2, _, _⟩ := ri.lin l a2
      exact ⟨l, a1, b2, b1, a3⟩) n M g l ex gc u (fun _ _ _ _ _ => rfl) m' (ns.length + 1) (by omega)
    refine .inr ⟨M', by rw [un, q]; dsimp only; rw [r1], r2, ?_⟩
    exact Nat.le_trans (cnt_put (x := l) gn gm) (cnt_mono r3)
theorem gLoop_ok {ns : List α} {es : List (α × α)} {c : α → Bool} (w : Wg ns es) (hc : ∀ a b, adj es a b = true → c a ≠ c b) : ∀ (n : Nat) (M : α → Option α), MI ns es c M none → ns.length < n + cnt ns M →
    ∃ M' st, gLoop ns es (ns.filter c) (ns.filter fun z => !c z) n M = some M' ∧ MI ns es c M' none ∧ reach ns es M' (ns.filter c) = some st ∧ RI ns es c M' st ∧ (∀ z ∈ st.line, ∀ w, adj es z w = true → (st.came w).isSome = true) ∧ ∀ z ∈ ns, c z = false → (st.came z).isSome = true → (M' z).isSome = true
  | 0, M, _, h => by
    have := cnt_le ns M
    omega
  | n + 1, M, m, h => by
    unfold gLoop
    rcases grown_ok w hc m with ⟨h1, st, h2, h3, h4, h5⟩ | ⟨M', h1, h2, h3⟩
    · rw [h1]
      exact ⟨M, st, rfl, m, h2, h3, h4, h5⟩
    · rw [h1]
      exact gLoop_ok w hc n M' h2 (by omega)
theorem aug_inv {came : α → Option (Option α)} {n : Nat} {M M' : α → Option α} {name : α} (h : aug came n M name = some M') : ∃ n' one, n = n' + 1 ∧ came name = some (some one) ∧
    ((M one = none ∧ M' = put (put M name one) one name) ∨ ∃ b, M one = some b ∧ aug came n' (put (put M name one) one name) b = some M') := by
  cases n with
  | zero => cases h
  | succ n =>
    unfold aug at h
    cases e : came name with
    | none =>
      rw [e] at h
      cases h
    | some o => cases o with
      | none =>
        rw [e] at h
        cases h
      | some one =>
        rw [e] at h
        dsimp only at h
        cases e2 : M one with
        | none =>
          rw [e2] at h
          cases h
          exact ⟨n, one, rfl, rfl, .inl ⟨e2, rfl⟩⟩
        | some b =>
          rw [e2] at h
          exact ⟨n, one, rfl, rfl, .inr ⟨b, e2, h⟩⟩
theorem MI.hole {ns : List α} {es : List (α × α)} {c : α → Bool} {M : α → Option α} (m : MI ns es c M none) {g : α} (gm : M g = none) : MI ns es c M (some g) := ⟨fun a b ha hb => by
  obtain ⟨b1, b2, b3, _⟩ := m.lft a b ha hb
  exact ⟨b1, b2, b3, fun y => by cases y; rw [gm] at b3; cases b3⟩, fun a b ha _ hb => m.rgt a b ha (fun z => nomatch z) hb, m.dom⟩
theorem grown_nil {ns left right : List α} {es : List (α × α)} {M : α → Option α} {st : RS α} (h : reach ns es M left = some st) (g : goals M st.came right = []) : grown ns es left right M = some none := by
  unfold grown
  rw [h]
  dsimp only
  rw [g]
theorem grown_cons {ns left right : List α} {es : List (α × α)} {M M' : α → Option α} {st : RS α} {x : α} {r : List α} (h : reach ns es M left = some st) (g : goals M st.came right = x :: r) (a : aug st.came (ns.length + 1) M x = some M') : grown ns es left right M = some (some M') := by
  unfold grown
  rw [h]
  dsimp only
  rw [g]
  dsimp only
  rw [a]
theorem aug_some {ns : List α} {es : List (α × α)} {c : α → Bool} {M : α → Option α} {st : RS α} {x : α} {r : List α} (w : Wg ns es) (hc : ∀ a b, adj es a b = true → c a ≠ c b) (m : MI ns es c M none) (h : reach ns es M (ns.filter c) = some st)
    (g : goals M st.came (ns.filter fun z => !c z) = x :: r) : ∃ M', aug st.came (ns.length + 1) M x = some M' := by
  cases e : aug st.came (ns.length + 1) M x with
  | some M' => exact ⟨M', rfl⟩
  | none =>
    exfalso
    have q : grown ns es (ns.filter c) (ns.filter fun z => !c z) M = none := by
      unfold grown
      rw [h]
      dsimp only
      rw [g]
      dsimp only
      rw [e]
    rcases grown_ok w hc m with ⟨z, _⟩ | ⟨M', z, _⟩
    · rw [q] at z
      cases z
    · rw [q] at z
      cases z
theorem grown_MI {ns : List α} {es : List (α × α)} {c : α → Bool} {M M' : α → Option α} (w : Wg ns es) (hc : ∀ a b, adj es a b = true → c a ≠ c b) (m : MI ns es c M none) (h : grown ns es (ns.filter c) (ns.filter fun z => !c z) M = some (some M')) : MI ns es c M' none := by
  rcases grown_ok w hc m with ⟨z, _⟩ | ⟨M2, z, m2, _⟩
  · rw [h] at z
    cases z
  · rw [h] at z
    cases z
    exact m2
theorem gLoop_inv {ns left right : List α} {es : List (α × α)} {n : Nat} {M F : α → Option α} (h : gLoop ns es left right n M = some F) : ∃ n', n = n' + 1 ∧ ((grown ns es left right M = some none ∧ F = M) ∨ ∃ M', grown ns es left right M = some (some M') ∧ gLoop ns es left right n' M' = some F) := by
  cases n with
  | zero => cases h
  | succ n =>
    unfold gLoop at h
    cases e : grown ns es left right M with
    | none =>
      rw [e] at h
      cases h
    | some o => cases o with
      | none =>
        rw [e] at h
        cases h
        exact ⟨n, rfl, .inl ⟨rfl, rfl⟩⟩
      | some M' =>
        rw [e] at h
        exact ⟨n, rfl, .inr ⟨M', rfl, h⟩⟩
end
end KM

set_option autoImplicit false
/-! plain Lean: pairs against covers -/
namespace KM
section
variable {α : Type} [DecidableEq α]
def ends (P : List (α × α)) : List α := P.flatMap fun p => [p.1, p.2]
theorem ends_cons (p : α × α) (P : List (α × α)) : ends (p :: P) = p.1 :: p.2 :: ends P := rfl
theorem ends_append (P Q : List (α × α)) : ends (P ++ Q) = ends P ++ ends Q := List.flatMap_append
theorem mem_ends {P : List (α × α)} {x : α} : x ∈ ends P ↔ ∃ p ∈ P, x = p.1 ∨ x = p.2 := by
  unfold ends
  rw [List.mem_flatMap]
  constructor
  · rintro ⟨p, h, q⟩
    refine ⟨p, h, ?_⟩
    rcases List.mem_cons.mp q with q | q
    · exact .inl q
    · exact .inr (List.mem_singleton.mp q)
  · rintro ⟨p, h, q | q⟩
    · exact ⟨p, h, by rw [q]; exact List.mem_cons_self⟩
    · exact ⟨p, h, by rw [q]; exact List.mem_cons_of_mem _ List.mem_cons_self⟩
structure ValidP (es : List (α × α)) (P : List (α × α)) : Prop where
  ad : ∀ p ∈ P, adj es p.1 p.2 = true
  nd : (ends P).Nodup
structure ValidC (ns : List α) (es : List (α × α)) (C : List α) : Prop where
  nd : C.Nodup
  sub : ∀ x ∈ C, x ∈ ns
  cov : ∀ e ∈ es, e.1 ∈ C ∨ e.2 ∈ C
theorem ends_uniq : ∀ {P : List (α × α)}, (ends P).Nodup → ∀ p ∈ P, ∀ q ∈ P, ∀ x, (x = p.1 ∨ x = p.2) → (x = q.1 ∨ x = q.2) → p = q
  | [], _, _, h, _, _, _, _, _ => nomatch h
  | a :: r, nd, p, hp, q, hq, x, h1, h2 => by
    rw [ends_cons] at nd
    have n1 := List.nodup_cons.mp nd
    have n2 := List.nodup_cons.mp n1.2
    have out : ∀ y, (y = a.1 ∨ y = a.2) → y ∉ ends r := fun y hy hm => by
      rcases hy with hy | hy
      · rw [hy] at hm
        exact n1.1 (List.mem_cons_of_mem _ hm)
      · rw [hy] at hm
        exact n2.1 hm
    rcases List.mem_cons.mp hp with e1 | hp
    · rcases List.mem_cons.mp hq with e2 | hq
      · rw [e1, e2]
      · rw [e1] at h1
        exact absurd (mem_ends.mpr ⟨q, hq, h2⟩) (out x h1)
    · rcases List.mem_cons.mp hq with e2 | hq
      · rw [e2] at h2
        exact absurd (mem_ends.mpr ⟨p, hp, h1⟩) (out x h2)
      · exact ends_uniq n2.2 p hp q hq x h1 h2
theorem ends_nodup : ∀ {P : List (α × α)}, (ends P).Nodup → P.Nodup
  | [], _ => List.nodup_nil
  | a :: r, nd => by
    rw [ends_cons] at nd
    have n1 := List.nodup_cons.mp nd
    have n2 := List.nodup_cons.mp n1.2
    exact List.nodup_cons.mpr ⟨fun h => n2.1 (mem_ends.mpr ⟨a, h, .inr rfl⟩), ends_nodup n2.2⟩
theorem ValidP.nil (es : List (α × α)) : ValidP es [] := ⟨fun _ h => (nomatch h), List.nodup_nil⟩
theorem ValidC.cov' {ns : List α} {es : List (α × α)} {C : List α} (hc : ValidC ns es C) {a b : α} (h : adj es a b = true) : a ∈ C ∨ b ∈ C := by
  rcases adj_iff.mp h with h | h
  · exact hc.cov _ h
  · exact (hc.cov _ h).symm
/-- no pairs outnumber a cover -/
theorem weak {ns : List α} {es P : List (α × α)} {C : List α} (hp : ValidP es P) (hc : ValidC ns es C) : P.length ≤ C.length := by
  refine inj_len (f := fun p => if p.1 ∈ C then p.1 else p.2) (ends_nodup hp.nd) (fun p h q k e => ?_) fun p h => ?_
  · refine ends_uniq hp.nd p h q k (if p.1 ∈ C then p.1 else p.2) ?_ ?_
    · by_cases y : p.1 ∈ C
      · exact .inl (if_pos y)
      · exact .inr (if_neg y)
    · have e : (if p.1 ∈ C then p.1 else p.2) = if q.1 ∈ C then q.1 else q.2 := e
      rw [e]
      by_cases y : q.1 ∈ C
      · exact .inl (if_pos y)
      · exact .inr (if_neg y)
  · show (if p.1 ∈ C then p.1 else p.2) ∈ C
    by_cases y : p.1 ∈ C
    · rw [if_pos y]
      exact y
    · rw [if_neg y]
      exact (hc.cov' (hp.ad p h)).resolve_left y
theorem validC_all {ns : List α} {es : List (α × α)} (w : Wg ns es) : ValidC ns es ns := ⟨w.nd, fun _ h => h, fun e h => .inl (w.mem e h).1⟩

theorem mem_rising {ns : List α} {M : α → Option α} {a b : α} : (a, b) ∈ risingOf ns M ↔ a ∈ ns ∧ M a = some b ∧ ns.idxOf a < ns.idxOf b := by
  unfold risingOf
  rw [List.mem_filterMap]
  constructor
  · rintro ⟨z, h, e⟩
    unfold risOne at e
    cases q : M z with
    | none =>
      rw [q] at e
      cases e
    | some w =>
      rw [q] at e
      dsimp only at e
      by_cases y : ns.idxOf z < ns.idxOf w
      · rw [if_pos y] at e
        cases e
        exact ⟨h, q, y⟩
      · rw [if_neg y] at e
        cases e
  · rintro ⟨h, e, y⟩
    refine ⟨a, h, ?_⟩
    unfold risOne
    rw [e]
    exact if_pos y
theorem risOne_some {ns : List α} {M : α → Option α} {z : α} {p : α × α} (e : risOne ns M z = some p) : p.1 = z ∧ M z = some p.2 ∧ ns.idxOf z < ns.idxOf p.2 := by
  unfold risOne at e
  cases q : M z with
  | none =>
    rw [q] at e
    cases e
  | some w =>
    rw [q] at e
    dsimp only at e
    by_cases y : ns.idxOf z < ns.idxOf w
    · rw [if_pos y] at e
      cases e
      exact ⟨rfl, rfl, y⟩
    · rw [if_neg y] at e
      cases e
theorem ris_nodup {ns : List α} {M : α → Option α} (sym : ∀ a b, M a = some b → M b = some a) : ∀ l : List α, l.Nodup → (ends (l.filterMap (risOne ns M))).Nodup
  | [], _ => List.nodup_nil
  | z :: r, nd => by
    have nd := List.nodup_cons.mp nd
    have ih := ris_nodup (ns := ns) sym r nd.2
    cases q : risOne ns M z with
    | none =>
      rw [List.filterMap_cons_none q]
      exact ih
    | some p =>
      rw [List.filterMap_cons_some q, ends_cons]
      obtain ⟨h1, h2, h3⟩ := risOne_some q
      have out : ∀ x, x ∈ ends (r.filterMap (risOne ns M)) → ∃ y ∈ r, ∃ p, M y = some p ∧ ns.idxOf y < ns.idxOf p ∧ (x = y ∨ x = p) := fun x hx => by
        obtain ⟨p', hp, hx⟩ := mem_ends.mp hx
        obtain ⟨y, hy, e⟩ := List.mem_filterMap.mp hp
        obtain ⟨k1, k2, k3⟩ := risOne_some e
        exact ⟨y, hy, p'.2, k2, k3, by rw [k1] at hx; exact hx⟩
      refine List.nodup_cons.mpr ⟨fun h => ?_, List.nodup_cons.mpr ⟨fun h => ?_, ih⟩⟩
      · rcases List.mem_cons.mp h with h | h
        · rw [← h, h1] at h3
          exact Nat.lt_irrefl _ h3
        · rw [h1] at h
          obtain ⟨y, hy, w, k2, k3, h | h⟩ := out z h
          · rw [h] at nd
            exact nd.1 hy
          · have s := sym _ _ k2
            rw [← h, h2] at s
            cases s
            rw [← h] at k3
            omega
      · obtain ⟨y, hy, w, k2, k3, h | h⟩ := out p.2 h
        · have s := sym _ _ h2
          rw [h, k2] at s
          cases s
          rw [h] at h3
          omega
        · have s1 := sym _ _ h2
          have s2 := sym _ _ k2
          rw [h, s2] at s1
          cases s1
          exact nd.1 hy
theorem rising_valid {ns : List α} {es : List (α × α)} {c : α → Bool} {M : α → Option α} (w : Wg ns es) (m : MI ns es c M none) : ValidP es (risingOf ns M) :=
  ⟨fun p h => (m.sym (mem_rising.mp h).2.1).2, ris_nodup (fun a b h => (m.sym h).1) ns w.nd⟩
/-- the cover of the end -/
theorem cover_ok {ns : List α} {es : List (α × α)} {c : α → Bool} {M : α → Option α} {st : RS α} (w : Wg ns es) (hc : ∀ a b, adj es a b = true → c a ≠ c b) (m : MI ns es c M none) (ri : RI ns es c M st)
    (done : ∀ z ∈ st.line, ∀ w, adj es z w = true → (st.came w).isSome = true) (no : ∀ z ∈ ns, c z = false → (st.came z).isSome = true → (M z).isSome = true) :
    ValidC ns es (coverOf ns (ns.filter c) st.came) ∧ (risingOf ns M).length = (coverOf ns (ns.filter c) st.came).length := by
  have mem : ∀ z, z ∈ coverOf ns (ns.filter c) st.came ↔ z ∈ ns ∧ c z ≠ (st.came z).isSome := fun z => by
    unfold coverOf
    rw [List.mem_filter]
    refine and_congr_right fun h => ?_
    have e : decide (z ∈ ns.filter c) = c z := by
      cases q : c z with
      | true => exact decide_eq_true (List.mem_filter.mpr ⟨h, q⟩)
      | false =>
        refine decide_eq_false fun y => ?_
        have y := (List.mem_filter.mp y).2
        rw [q] at y
        cases y
    rw [e, bne_iff_ne]
  have vc : ValidC ns es (coverOf ns (ns.filter c) st.came) := by
    refine ⟨w.nd.filter _, fun x h => ((mem x).mp h).1, fun e he => ?_⟩
    have key : ∀ a b, adj es a b = true → c a = true → a ∈ coverOf ns (ns.filter c) st.came ∨ b ∈ coverOf ns (ns.filter c) st.came := fun a b ad ca => by
      obtain ⟨an, bn, _⟩ := w.adj ad
      have cb : c b = false := by
        have q := hc _ _ ad
        rw [ca] at q
        cases y : c b with
        | false => rfl
        | true => exact absurd y.symm q
      rcases none_or (st.came a) with q | q
      · exact .inl ((mem a).mpr ⟨an, by rw [ca, q]; exact fun z => nomatch z⟩)
      · exact .inr ((mem b).mpr ⟨bn, by rw [cb, done a (ri.inl a ca q) b ad]; exact fun z => nomatch z⟩)
    have ad : adj es e.1 e.2 = true := adj_iff.mpr (.inl he)
    cases q : c e.1 with
    | true => exact key _ _ ad q
    | false =>
      refine (key e.2 e.1 (by rw [adj_comm]; exact ad) ?_).symm
      have y := hc _ _ ad
      rw [q] at y
      cases z : c e.2 with
      | true => rfl
      | false => exact absurd z.symm y
  refine ⟨vc, Nat.le_antisymm (weak (rising_valid w m) vc) ?_⟩
  have has : ∀ z ∈ coverOf ns (ns.filter c) st.came, ∃ y, M z = some y := fun z hz => by
    obtain ⟨zn, zc⟩ := (mem z).mp hz
    cases q : c z with
    | true =>
      rw [q] at zc
      rcases none_or (M z) with y | y
      · exact absurd (ri.free z zn q y).symm zc
      · exact Option.isSome_iff_exists.mp y
    | false =>
      rw [q] at zc
      refine Option.isSome_iff_exists.mp (no z zn q ?_)
      cases y : (st.came z).isSome with
      | true => rfl
      | false => exact absurd y.symm zc
  have not2 : ∀ z ∈ coverOf ns (ns.filter c) st.came, ∀ y ∈ coverOf ns (ns.filter c) st.came, c z = false → M z = some y → False := fun z hz y hy zc e => by
    obtain ⟨zn, zc'⟩ := (mem z).mp hz
    obtain ⟨yn, yc'⟩ := (mem y).mp hy
    have zs : (st.came z).isSome = true := by
      cases q : (st.came z).isSome with
      | true => rfl
      | false => exact absurd (by rw [zc, q]) zc'
    obtain ⟨x, ex⟩ := Option.isSome_iff_exists.mp zs
    obtain ⟨l, _, _, _, h4⟩ := ri.rig z x zc ex
    obtain ⟨_, h5, h6, _⟩ := ri.lin y (h4 y e)
    exact yc' (by rw [h5, h6])
  refine inj_len (f := fun v => match M v with
    | none => (v, v)
    | some u => if ns.idxOf v < ns.idxOf u then (v, u) else (u, v)) vc.nd (fun a ha b hb e => ?_) fun a ha => ?_
  · obtain ⟨a', ea⟩ := has a ha
    obtain ⟨b', eb⟩ := has b hb
    rw [ea, eb] at e
    dsimp only at e
    have two : a = b ∨ (a = b' ∧ a' = b) := by
      by_cases y1 : ns.idxOf a < ns.idxOf a'
      · rw [if_pos y1] at e
        by_cases y2 : ns.idxOf b < ns.idxOf b'
        · rw [if_pos y2] at e
          exact .inl (Prod.mk.inj e).1
        · rw [if_neg y2] at e
          exact .inr (Prod.mk.inj e)
      · rw [if_neg y1] at e
        by_cases y2 : ns.idxOf b < ns.idxOf b'
        · rw [if_pos y2] at e
          exact .inr ⟨(Prod.mk.inj e).2, (Prod.mk.inj e).1⟩
        · rw [if_neg y2] at e
          exact .inl (Prod.mk.inj e).2
    rcases two with y | ⟨y1, y2⟩
    · exact y
    · exfalso
      rw [y2] at ea
      have ad := (m.sym ea).2
      cases q : c a with
      | false => exact not2 a ha b hb q ea
      | true =>
        refine not2 b hb a ha ?_ (m.sym ea).1
        have z := hc _ _ ad
        rw [q] at z
        cases v : c b with
        | false => rfl
        | true => exact absurd v.symm z
  · obtain ⟨a', ea⟩ := has a ha
    rw [ea]
    dsimp only
    obtain ⟨e2, ad⟩ := m.sym ea
    obtain ⟨an, bn, ne⟩ := w.adj ad
    by_cases y1 : ns.idxOf a < ns.idxOf a'
    · rw [if_pos y1]
      exact mem_rising.mpr ⟨an, ea, y1⟩
    · rw [if_neg y1]
      refine mem_rising.mpr ⟨bn, e2, ?_⟩
      have : ns.idxOf a ≠ ns.idxOf a' := fun z => ne (by
        have q1 := List.getElem_idxOf (List.idxOf_lt_length_of_mem an)
        have q2 := List.getElem_idxOf (List.idxOf_lt_length_of_mem bn)
        rw [← q1, ← q2]
        congr 1)
      omega
/-! partners, as the law tells them -/
def lPart (P : List (α × α)) : α → Option α := P.foldl (fun f p => put (put f p.1 p.2) p.2 p.1) fun _ => none
theorem part_iff : ∀ (P : List (α × α)) (f : α → Option α), (ends P).Nodup → (∀ x ∈ ends P, f x = none) → ∀ z y, P.foldl (fun f p => put (put f p.1 p.2) p.2 p.1) f z = some y ↔ f z = some y ∨ (z, y) ∈ P ∨ (y, z) ∈ P
  | [], f, _, _, z, y => ⟨.inl, fun h => h.elim id fun h => h.elim (fun h => nomatch h) fun h => nomatch h⟩
  | p :: r, f, nd, hf, z, y => by
    rw [ends_cons] at nd hf
    have n1 := List.nodup_cons.mp nd
    have n2 := List.nodup_cons.mp n1.2
    have ne : p.1 ≠ p.2 := fun e => n1.1 (by rw [e]; exact List.mem_cons_self)
    rw [List.foldl_cons, part_iff r _ n2.2 fun x hx => by
      have x1 : x ≠ p.1 := fun e => n1.1 (List.mem_cons_of_mem _ (e ▸ hx))
      have x2 : x ≠ p.2 := fun e => n2.1 (e ▸ hx)
      rw [put_ne _ _ x2, put_ne _ _ x1]
      exact hf x (List.mem_cons_of_mem _ (List.mem_cons_of_mem _ hx))]
    have f1 : f p.1 = none := hf p.1 List.mem_cons_self
    have f2 : f p.2 = none := hf p.2 (List.mem_cons_of_mem _ List.mem_cons_self)
    have key : put (put f p.1 p.2) p.2 p.1 z = some y ↔ f z = some y ∨ (z, y) = p ∨ (y, z) = p := by
      by_cases h2 : z = p.2
      · rw [h2, put_same, f2]
        constructor
        · intro h
          exact .inr (.inr (by rw [← Option.some.inj h]))
        · rintro (h | h | h)
          · cases h
          · exact absurd (congrArg Prod.fst h).symm ne
          · rw [← congrArg Prod.fst h]
      · rw [put_ne _ _ h2]
        by_cases h1 : z = p.1
        · rw [h1, put_same, f1]
          constructor
          · intro h
            exact .inr (.inl (by rw [← Option.some.inj h]))
          · rintro (h | h | h)
            · cases h
            · rw [← congrArg Prod.snd h]
            · exact absurd (congrArg Prod.snd h) ne
        · rw [put_ne _ _ h1]
          constructor
          · exact .inl
          · rintro (h | h | h)
            · exact h
            · exact absurd (congrArg Prod.fst h) h1
            · exact absurd (congrArg Prod.snd h) h2
    rw [key, List.mem_cons, List.mem_cons]
    constructor
    · rintro ((h | h | h) | h | h)
      · exact .inl h
      · exact .inr (.inl (.inl h))
      · exact .inr (.inr (.inl h))
      · exact .inr (.inl (.inr h))
      · exact .inr (.inr (.inr h))
    · rintro (h | (h | h) | h | h)
      · exact .inl (.inl h)
      · exact .inl (.inr (.inl h))
      · exact .inr (.inl h)
      · exact .inl (.inr (.inr h))
      · exact .inr (.inr h)
theorem part_rising {ns : List α} {es : List (α × α)} {c : α → Bool} {M : α → Option α} (w : Wg ns es) (m : MI ns es c M none) : lPart (risingOf ns M) = M := by
  have key : ∀ z y, lPart (risingOf ns M) z = some y ↔ M z = some y := fun z y => by
    unfold lPart
    rw [part_iff _ _ (rising_valid w m).nd (fun _ _ => rfl)]
    constructor
    · rintro (h | h | h)
      · cases h
      · exact (mem_rising.mp h).2.1
      · exact (m.sym (mem_rising.mp h).2.1).1
    · intro h
      obtain ⟨h2, ad⟩ := m.sym h
      obtain ⟨an, bn, ne⟩ := w.adj ad
      have : ns.idxOf z ≠ ns.idxOf y := fun e => ne (by
        have q1 := List.getElem_idxOf (List.idxOf_lt_length_of_mem an)
        have q2 := List.getElem_idxOf (List.idxOf_lt_length_of_mem bn)
        rw [← q1, ← q2]
        congr 1)
      rcases Nat.lt_or_gt_of_ne this with q | q
      · exact .inr (.inl (mem_rising.mpr ⟨an, h, q⟩))
      · exact .inr (.inr (mem_rising.mpr ⟨bn, h2, q⟩))
  funext z
  cases q : M z with
  | some y => exact (key z y).mpr q
  | none =>
    cases v : lPart (risingOf ns M) z with
    | none => rfl
    | some y =>
      have := (key z y).mp v
      rw [q] at this
      cases this
/-! rising, as the law tells it -/
def lRow (ns : List α) (F : α → Option α) (k : Nat) : List (α × α) := match ns[k]? with
  | none => []
  | some a => ((ns.drop (k + 1)).filter fun z => decide (F a = some z)).map fun z => (a, z)
def lRising (ns : List α) (F : α → Option α) : List (α × α) := (List.range ns.length).flatMap (lRow ns F)
def atG {β : Type} (g : α → List β) (ns : List α) (k : Nat) : List β := match ns[k]? with
  | none => []
  | some a => g a
theorem flat_congr {β : Type} {f g : α → List β} : ∀ {l : List α}, (∀ x ∈ l, f x = g x) → l.flatMap f = l.flatMap g
  | [], _ => rfl
  | a :: r, h => by rw [List.flatMap_cons, List.flatMap_cons, h a List.mem_cons_self, flat_congr fun x hx => h x (List.mem_cons_of_mem _ hx)]
theorem flat_range {β : Type} (g : α → List β) : ∀ ns : List α, ns.flatMap g = (List.range ns.length).flatMap (atG g ns)
  | [] => rfl
  | a :: r => by
    rw [List.flatMap_cons, flat_range g r, List.length_cons, List.range_succ_eq_map, List.flatMap_cons, List.flatMap_map]
    rfl
theorem filter_eq_one {w : α} : ∀ {l : List α}, l.Nodup → l.filter (fun z => decide (some w = some z)) = if w ∈ l then [w] else []
  | [], _ => rfl
  | a :: r, nd => by
    have nd := List.nodup_cons.mp nd
    rw [List.filter_cons, filter_eq_one nd.2]
    by_cases e : w = a
    · subst e
      rw [if_pos (decide_eq_true rfl), if_neg nd.1, if_pos List.mem_cons_self]
    · rw [if_neg (by rw [decide_eq_true_eq]; exact fun q => e (Option.some.inj q))]
      by_cases h : w ∈ r
      · rw [if_pos h, if_pos (List.mem_cons_of_mem _ h)]
      · rw [if_neg h, if_neg (fun q => (List.mem_cons.mp q).elim e h)]
theorem idx_get {ns : List α} (nd : ns.Nodup) {k : Nat} {a : α} (h : ns[k]? = some a) : ns.idxOf a = k := by
  obtain ⟨h1, h2⟩ := List.getElem?_eq_some_iff.mp h
  rw [← h2]
  exact nd.idxOf_getElem k h1
theorem mem_drop_iff {ns : List α} (nd : ns.Nodup) {k : Nat} {w : α} (hw : w ∈ ns) : w ∈ ns.drop (k + 1) ↔ k < ns.idxOf w := by
  have il := List.idxOf_lt_length_of_mem hw
  have ig := List.getElem_idxOf il
  constructor
  · intro h
    obtain ⟨j, hj, e⟩ := List.mem_iff_getElem.mp h
    rw [List.getElem_drop] at e
    rw [List.length_drop] at hj
    have := idx_get nd (k := k + 1 + j) (a := w) (List.getElem?_eq_some_iff.mpr ⟨by omega, e⟩)
    omega
  · intro h
    refine List.mem_iff_getElem.mpr ⟨ns.idxOf w - (k + 1), by rw [List.length_drop]; omega, ?_⟩
    rw [List.getElem_drop]
    conv => rhs; rw [← ig]
    congr 1
    omega
theorem rising_law {ns : List α} {M : α → Option α} (nd : ns.Nodup) (dom : ∀ a b, M a = some b → b ∈ ns) : lRising ns M = risingOf ns M := by
  have e1 : ∀ (f : α → Option (α × α)) (l : List α), l.filterMap f = l.flatMap fun z => (f z).toList := fun f l => by
    induction l with
    | nil => rfl
    | cons a r ih =>
      rw [List.flatMap_cons, List.filterMap_cons, ← ih]
      cases f a <;> rfl
  have e : risingOf ns M = ns.flatMap fun z => (risOne ns M z).toList := e1 _ ns
  rw [e, flat_range]
  unfold lRising
  refine flat_congr fun k hk => ?_
  unfold lRow atG
  cases q : ns[k]? with
  | none => rfl
  | some a =>
    dsimp only
    unfold risOne
    cases ma : M a with
    | none =>
      dsimp only
      rw [List.filter_eq_nil_iff.mpr fun z _ h => nomatch of_decide_eq_true h]
      rfl
    | some w =>
      dsimp only
      rw [filter_eq_one (nd.sublist (List.drop_sublist _ _)), idx_get nd q]
      by_cases y : k < ns.idxOf w
      · rw [if_pos y, if_pos ((mem_drop_iff nd (dom a w ma)).mpr y)]
        rfl
      · rw [if_neg y, if_neg (fun z => y ((mem_drop_iff nd (dom a w ma)).mp z))]
        rfl
/-- what the search finds -/
structure Best (ns : List α) (es : List (α × α)) (P : List (α × α)) (C : List α) : Prop where
  p : ValidP es P
  c : ValidC ns es C
  len : P.length = C.length
  ris : lRising ns (lPart P) = P
  ord : ns.filter (fun z => decide (z ∈ C)) = C
theorem best {ns : List α} {es : List (α × α)} {c : α → Bool} (w : Wg ns es) (hc : ∀ a b, adj es a b = true → c a ≠ c b) : ∃ P C, bySides ns es (ns.filter c) (ns.filter fun z => !c z) = some (P, C) ∧ Best ns es P C := by
  obtain ⟨M, st, h1, m, h2, ri, h3, h4⟩ := gLoop_ok w hc (ns.length + 1) _ (MI.nil ns es c) (by omega)
  obtain ⟨vc, le⟩ := cover_ok w hc m ri h3 h4
  refine ⟨risingOf ns M, coverOf ns (ns.filter c) st.came, ?_, rising_valid w m, vc, le, ?_, ?_⟩
  · unfold bySides
    rw [h1]
    dsimp only
    rw [h2]
  · rw [part_rising w m]
    exact rising_law w.nd fun a b h => (w.adj (m.sym h).2).2.1
  · unfold coverOf
    refine List.filter_congr fun z hz => ?_
    have q : ∀ (p : α → Bool), decide (z ∈ ns.filter p) = p z := fun p => by
      cases v : p z with
      | true => exact decide_eq_true (List.mem_filter.mpr ⟨hz, v⟩)
      | false =>
        refine decide_eq_false fun y => ?_
        have y := (List.mem_filter.mp y).2
        rw [v] at y
        cases y
    exact q _
end
end KM

namespace K27
open PySem PySem.Spec PyProof.Rows L2
/-! ### rules whose reading names the written part: said of a K that stands outside a comprehension's block -/
section
variable {X : Cx} {K : PySem.W.Frag}
theorem op_in_seqK (h : X.K = K) : OpR X (compareOp .In) (rIn K false) := h ▸ op_in_seq
theorem op_notIn_seqK (h : X.K = K) : OpR X (compareOp .NotIn) (rIn K true) := h ▸ op_notIn_seq
theorem ix_tupK (h : X.K = K) : IxR X (rIxT K) := h ▸ ix_tup
theorem ix_listK (h : X.K = K) : IxR X (rIxL K) := h ▸ ix_list
theorem pg_tupK {es : List Expr} {k : Nat} {t : TGs} {n : Nat} {pos : Pos} (hK : X.K = K) (hc : X.calm = true) (h : PGs X es t)
    (hn : (assignEach es X.env).length = n := by rfl) (hst : (assignEach es X.env).findIdx? (·.1) = none := by rfl) : PG X (.Tuple es k pos) (gTup K n t) := hK ▸ pg_tup hc h hn hst
theorem pe_rev2K {e : Expr} {te : TE} {k : Nat} {p1 p2 p3 pos : Pos} (hK : X.K = K) (he : PE X e te) : PE X (.Subscript e (.Slice none none (some (.UnaryOp .USub (.Constant (.int 1) k p1) p2)) p3) pos) (tRev2 K te) := hK ▸ pe_rev2 he
theorem call_list_ofK (h : X.K = K) : CallR X (.type "list") (fun xs H Q => ∃ p ys, xs = [.ref p] ∧ (SqL K H p ys ∨ SqT K H p ys) ∧ ∀ l, H l = none → Q (.ref l) (upd H l (.lst ys))) := h ▸ call_list_of
end
end K27

namespace K27
open PySem PySem.Spec PyProof.Rows L2 KM
/-! ### the heap -/
def off (H : Hp) (a : Addr) : Hp := fun z => if z = a then none else H z
theorem off_same {H : Hp} {a : Addr} : off H a a = none := if_pos rfl
theorem off_ne {H : Hp} {a b : Addr} (h : b ≠ a) : off H a b = H b := if_neg h
theorem same_off {H : Hp} {a : Addr} : Same (off H a) H := fun b o h => by
  by_cases e : b = a
  · rw [e, off_same] at h
    cases h
  · rw [off_ne e] at h
    exact h
theorem same_new {G H : Hp} {p : Addr} {o : HO} (s : Same G H) (hp : H p = none) : Same G (upd H p o) := fun b u h => by
  rw [upd_ne (ne_of_none (s b u h) hp)]
  exact s b u h
theorem same_mut {G H : Hp} {p : Addr} {o : HO} (s : Same G H) (hp : G p = none) : Same G (upd H p o) := fun b u h => by
  rw [upd_ne (ne_of_none h hp)]
  exact s b u h
theorem same_to {G H : Hp} {p : Addr} (s : Same G H) (hp : G p = none) : Same G (off H p) := fun b u h => by
  rw [off_ne (ne_of_none h hp)]
  exact s b u h
theorem same_offU {H : Hp} {p : Addr} {o : HO} : Same (off H p) (upd H p o) := same_mut same_off off_same
theorem same_offM {H H' : Hp} {p : Addr} (s : Same H H') : Same (off H p) (off H' p) := same_to (same_off.trans s) off_same
/-! ### names -/
def nv (ns : List Str) : List V := ns.map V.str
theorem nv_len (ns : List Str) : (nv ns).length = ns.length := List.length_map _
theorem nv_at {ns : List Str} {i : Nat} {x : V} (h : (nv ns)[i]? = some x) : ∃ z, ns[i]? = some z ∧ x = .str z := by
  unfold nv at h
  rw [List.getElem?_map] at h
  cases e : ns[i]? with
  | none =>
    rw [e] at h
    cases h
  | some z =>
    rw [e] at h
    exact ⟨z, rfl, (Option.some.inj h).symm⟩
theorem nv_get {ns : List Str} {i : Nat} {z : Str} (h : ns[i]? = some z) : (nv ns)[i]? = some (.str z) := by
  unfold nv
  rw [List.getElem?_map, h]
  rfl
theorem nv_flat (ns : List Str) : (nv ns).all flatV = true := by
  unfold nv
  rw [List.all_map]
  exact List.all_eq_true.mpr fun _ _ => rfl
theorem inV_nv (z : Str) (ns : List Str) : inV (.str z) (nv ns) = decide (z ∈ ns) := by
  unfold inV nv
  rw [List.any_map]
  cases h : decide (z ∈ ns) with
  | true => exact List.any_eq_true.mpr ⟨z, of_decide_eq_true h, by show (z == z) = true; exact beq_self_eq_true z⟩
  | false =>
    refine List.any_eq_false.mpr fun y hy q => ?_
    have e : (y == z) = true := q
    exact of_decide_eq_false h (eq_of_beq e ▸ hy)
theorem take_more {α : Type} : ∀ {l : List α} {i : Nat} {x : α}, l[i]? = some x → l.take (i + 1) = l.take i ++ [x]
  | [], i, x, h => by simp at h
  | a :: l, 0, x, h => by
    have e : a = x := Option.some.inj h
    subst e
    rfl
  | a :: l, i + 1, x, h => by
    have ih := take_more (l := l) (i := i) (x := x) h
    show a :: l.take (i + 1) = a :: l.take i ++ [x]
    rw [ih]
    rfl
theorem at_lt {α : Type} {l : List α} {i : Nat} {x : α} (h : l[i]? = some x) : i < l.length := (List.getElem?_eq_some_iff.mp h).1
/-! ### a list that grows in a comprehension -/
structure SelI {α : Type} (G : Hp) (D : Addr) (xs : List α) (p : α → Bool) (f : α → V) (i : Nat) (H : Hp) : Prop where
  same : Same G H
  new : G D = none
  list : H D = some (.lst (((xs.take i).filter p).map f))
section
variable {α : Type} {G H H' : Hp} {D : Addr} {xs : List α} {p : α → Bool} {f : α → V} {i : Nat}
theorem SelI.nil (s : Same G H) (n : H D = none) : SelI G D xs p f 0 (upd H D (.lst [])) := ⟨same_new s n, s.free n, by rw [upd_same]; rfl⟩
theorem SelI.yes (I : SelI G D xs p f i H) {x : α} {y : V} (hx : xs[i]? = some x) (s : Same H H') (hp : p x = true) (hy : y = f x) (hl : xs.length ≤ 1000) :
    ∃ acc, H' D = some (.lst acc) ∧ acc.length < sizeLine ∧ SelI G D xs p f (i + 1) (upd H' D (.lst (acc ++ [y]))) := by
  refine ⟨_, s _ _ I.list, ?_, same_mut (I.same.trans s) I.new, I.new, ?_⟩
  · rw [List.length_map]
    have h1 := List.length_filter_le p (xs.take i)
    have h2 : (xs.take i).length ≤ xs.length := by rw [List.length_take]; omega
    exact Nat.lt_of_le_of_lt (Nat.le_trans h1 (Nat.le_trans h2 hl)) (by decide)
  · rw [upd_same, take_more hx, List.filter_append, List.map_append, hy]
    show some (HO.lst _) = some (HO.lst (_ ++ List.map f (List.filter p [x])))
    rw [List.filter_cons, if_pos hp]
    rfl
theorem SelI.no (I : SelI G D xs p f i H) {x : α} (hx : xs[i]? = some x) (s : Same H H') (hp : p x = false) : SelI G D xs p f (i + 1) H' := by
  refine ⟨I.same.trans s, I.new, ?_⟩
  rw [s _ _ I.list, take_more hx, List.filter_append, List.map_append]
  show _ = some (HO.lst (_ ++ List.map f (List.filter p [x])))
  rw [List.filter_cons, hp, if_neg Bool.false_ne_true]
  show _ = some (HO.lst (_ ++ []))
  rw [List.append_nil]
theorem SelI.done (I : SelI G D xs p f xs.length H) : H D = some (.lst ((xs.filter p).map f)) := by
  have q := I.list
  rw [List.take_length] at q
  exact q
end
/-! ### dicts by names -/
structure DictAt {β : Type} (ns : List Str) (H : Hp) (d : Addr) (m : Str → Option β) (e : β → V) : Prop where
  ex : ∃ kvs : List (Key × V), H d = some (.dK kvs) ∧ (∀ z, valV kvs (Sum.inr z) = (m z).map e) ∧ (kvs.map (·.1)).Nodup ∧ ∀ k ∈ kvs.map (·.1), ∃ z ∈ ns, k = Sum.inr z
theorem keys_put {kvs : List (Key × V)} {k : Key} {v : V} : (k ∈ kvs.map (·.1) ∧ (putK kvs k v).map (·.1) = kvs.map (·.1)) ∨ (k ∉ kvs.map (·.1) ∧ (putK kvs k v).map (·.1) = kvs.map (·.1) ++ [k]) := by
  unfold putK
  by_cases h : (kvs.any fun kv => decide (kv.1 = k)) = true
  · rw [if_pos h]
    obtain ⟨p, hp, e⟩ := List.any_eq_true.mp h
    refine .inl ⟨List.mem_map.mpr ⟨p, hp, of_decide_eq_true e⟩, ?_⟩
    rw [List.map_map]
    refine List.map_congr_left fun p _ => ?_
    show (if p.1 = k then (p.1, v) else p).1 = p.1
    by_cases q : p.1 = k
    · rw [if_pos q]
    · rw [if_neg q]
  · rw [if_neg h]
    refine .inr ⟨fun q => ?_, by rw [List.map_append]; rfl⟩
    obtain ⟨p, hp, e⟩ := List.mem_map.mp q
    exact h (List.any_eq_true.mpr ⟨p, hp, decide_eq_true e⟩)
section
variable {β : Type} {ns : List Str} {H H' : Hp} {d : Addr} {m : Str → Option β} {e : β → V}
theorem DictAt.mono (D : DictAt ns H d m e) (s : Same H H') : DictAt ns H' d m e := by
  obtain ⟨kvs, h, r⟩ := D.ex
  exact ⟨kvs, s _ _ h, r⟩
theorem DictAt.len (D : DictAt ns H d m e) : ∃ kvs, H d = some (.dK kvs) ∧ kvs.length ≤ ns.length := by
  obtain ⟨kvs, h, _, n, s⟩ := D.ex
  refine ⟨kvs, h, ?_⟩
  have q := nodup_sub_len (m := ns.map (fun z => (Sum.inr z : Key))) n fun k hk => by
    obtain ⟨z, hz, e⟩ := s k hk
    exact List.mem_map.mpr ⟨z, hz, e.symm⟩
  rw [List.length_map, List.length_map] at q
  exact q
theorem DictAt.nil (h : H d = some (.dK [])) : DictAt ns H d (fun _ => (none : Option β)) e := ⟨[], h, fun _ => rfl, List.nodup_nil, fun _ h => nomatch h⟩
theorem DictAt.get (D : DictAt ns H d m e) (z : Str) : DGet H d (.str z) ((m z).map e) := by
  obtain ⟨kvs, h, v, _⟩ := D.ex
  have q := DGet.k (k := (Sum.inr z : Key)) h
  rw [v] at q
  exact q
theorem DictAt.isD (D : DictAt ns H d m e) : IsD H d := by
  obtain ⟨kvs, h, _⟩ := D.ex
  exact .inl ⟨_, .inl h⟩
def KvOk (ns : List Str) (kvs : List (Key × V)) (m : Str → Option β) (e : β → V) : Prop := (∀ z, valV kvs (Sum.inr z) = (m z).map e) ∧ (kvs.map (·.1)).Nodup ∧ ∀ k ∈ kvs.map (·.1), ∃ z ∈ ns, k = Sum.inr z
theorem KvOk.len {kvs : List (Key × V)} (h : KvOk ns kvs m e) : kvs.length ≤ ns.length := by
  obtain ⟨_, n, s⟩ := h
  have q := nodup_sub_len (m := ns.map (fun z => (Sum.inr z : Key))) n fun k hk => by
    obtain ⟨z, hz, e⟩ := s k hk
    exact List.mem_map.mpr ⟨z, hz, e.symm⟩
  rw [List.length_map, List.length_map] at q
  exact q
theorem KvOk.put {kvs : List (Key × V)} (h : KvOk ns kvs m e) {z : Str} (v : β) (hz : z ∈ ns) : KvOk ns (putK kvs (Sum.inr z) (e v)) (KM.put m z v) e := by
  obtain ⟨g, n, s⟩ := h
  refine ⟨fun y => ?_, ?_, fun k hk => ?_⟩
  · rw [valV_put]
    by_cases q : y = z
    · rw [q, put_same, if_pos rfl]
      rfl
    · rw [put_ne _ _ q, if_neg (fun c => q (Sum.inr.inj c))]
      exact g y
  · rcases keys_put (kvs := kvs) (k := (Sum.inr z : Key)) (v := e v) with ⟨_, q⟩ | ⟨nq, q⟩
    · rw [q]
      exact n
    · rw [q, List.nodup_append]
      exact ⟨n, List.nodup_cons.mpr ⟨(fun z => nomatch z), List.nodup_nil⟩, fun a ha b hb c => by rw [List.mem_singleton.mp hb] at c; exact nq (c ▸ ha)⟩
  · rcases keys_put (kvs := kvs) (k := (Sum.inr z : Key)) (v := e v) with ⟨_, q⟩ | ⟨nq, q⟩
    · rw [q] at hk
      exact s k hk
    · rw [q] at hk
      rcases List.mem_append.mp hk with y | y
      · exact s k y
      · exact ⟨z, hz, List.mem_singleton.mp y⟩
theorem DictAt.put (D : DictAt ns H d m e) {z : Str} (v : β) (hz : z ∈ ns) (hl : ns.length ≤ 1000) :
    ∃ u, DPut H d (.str z) (e v) (upd H d u) ∧ DictAt ns (upd H d u) d (put m z v) e := by
  obtain ⟨kvs, h, q⟩ := D.ex
  have l := KvOk.len q
  exact ⟨.dK (putK kvs (Sum.inr z) (e v)), DPut.k (k := (Sum.inr z : Key)) h (Nat.lt_of_le_of_lt (Nat.le_trans l hl) (by decide)), putK kvs (Sum.inr z) (e v), upd_same, KvOk.put q v hz⟩
end
def oV : Option Str → V
  | none => .non
  | some z => .str z
def iV (n : Nat) : V := .int (n : Int)
/-! ### the web -/
structure Wb (ns : List Str) (es : List (Str × Str)) : Prop where
  wg : Wg ns es
  ln : ns.length ≤ 14
  le : es.length ≤ 30
  one : ∀ z ∈ ns, 1 ≤ z.length ∧ z.length ≤ 6
  let_ : ∀ z ∈ ns, ∀ c ∈ z.cps.toList, c ∈ ("abcdefghijklmnopqrstuvwxyz" : Str).cps.toList
  twice : es.Pairwise fun a b => a ≠ b ∧ a ≠ (b.2, b.1)
abbrev cWeb (K : PySem.W.Frag) : Addr := He.ga K "Web"
/-- the bits of a list of numbers are the ties -/
def BitsOk (ns : List Str) (es : List (Str × Str)) (B : List Nat) : Prop := B.length = ns.length ∧ (∀ n ∈ B, n < 2 ^ 14) ∧ ∀ (i j : Nat) (a b : Str), ns[i]? = some a → ns[j]? = some b → ∃ n : Nat, B[i]? = some n ∧ n.testBit j = adj es a b
def webF (dn od bd : Addr) : List (Str × V) := [("numbers", .ref dn), ("order", .ref od), ("bits", .ref bd)]
structure WebAt (K : PySem.W.Frag) (H : Hp) (w : Addr) (ns : List Str) (es : List (Str × Str)) : Prop where
  ex : ∃ (dx dn od bd : Addr) (B : List Nat), H w = some (.ins (cWeb K) dx (webF dn od bd)) ∧ DictAt ns H dn (fun z => if z ∈ ns then some (ns.idxOf z) else none) iV ∧ H od = some (.lst (nv ns)) ∧ H bd = some (.lst (B.map iV)) ∧ BitsOk ns es B
theorem WebAt.mono {K : PySem.W.Frag} {H H' : Hp} {w : Addr} {ns : List Str} {es : List (Str × Str)} (h : WebAt K H w ns es) (s : Same H H') : WebAt K H' w ns es := by
  obtain ⟨dx, dn, od, bd, B, h1, h2, h3, h4, h5⟩ := h.ex
  exact ⟨dx, dn, od, bd, B, s _ _ h1, h2.mono s, s _ _ h3, s _ _ h4, h5⟩
theorem WebAt.ins {K : PySem.W.Frag} {H : Hp} {w : Addr} {ns : List Str} {es : List (Str × Str)} (h : WebAt K H w ns es) : ∃ dx dn od bd, H w = some (.ins (cWeb K) dx (webF dn od bd)) := by
  obtain ⟨dx, dn, od, bd, B, h1, _⟩ := h.ex
  exact ⟨_, _, _, _, h1⟩
theorem webF_numbers (a b c : Addr) : (webF a b c).lookup ("numbers" : Str) = some (.ref a) := by
  show List.lookup _ _ = _
  have : (("numbers" : Str) == "numbers") = true := by decide +kernel
  simp only [webF, List.lookup, this]
theorem webF_order (a b c : Addr) : (webF a b c).lookup ("order" : Str) = some (.ref b) := by
  have h1 : (("order" : Str) == "numbers") = false := by decide +kernel
  have h2 : (("order" : Str) == "order") = true := by decide +kernel
  simp only [webF, List.lookup, h1, h2]
theorem webF_bits (a b c : Addr) : (webF a b c).lookup ("bits" : Str) = some (.ref c) := by
  have h1 : (("bits" : Str) == "numbers") = false := by decide +kernel
  have h2 : (("bits" : Str) == "order") = false := by decide +kernel
  have h3 : (("bits" : Str) == "bits") = true := by decide +kernel
  simp only [webF, List.lookup, h1, h2, h3]
theorem webF_no (a b c : Addr) {m : Str} (h1 : (m == ("numbers" : Str)) = false) (h2 : (m == ("order" : Str)) = false) (h3 : (m == ("bits" : Str)) = false) : (webF a b c).lookup m = none := by
  simp only [webF, List.lookup, h1, h2, h3]
/-! ### a def's promise, with what a caller wants to know -/
structure Fok (P : Program) (w : World) (K : PySem.W.Frag) (mg : Str → Option Value) (base : Heap) (CX : CXT) (k : Nat) (f : Addr) (ps : List Str) (sp : Sp) : Prop where
  ex : ∃ fd, FnOk P w K mg base CX k f fd ps sp ∧ Binds K fd ps [] ∧ PySem.W.keepIn K (.ref f) = true
end K27

namespace K27
open PySem PySem.Spec PyProof.Rows L2 KM
theorem ifT {c : Bool} {A B : Prop} (hc : c = true) (h : A) : if c = true then A else B := by
  rw [if_pos hc]
  exact h
theorem ifF {c : Bool} {A B : Prop} (hc : c = false) (h : B) : if c = true then A else B := by
  rw [hc, if_neg Bool.false_ne_true]
  exact h
/-- what follows a statement, said once -/
theorem ps_join {X : Cx} {st : Stmt} {t : TS} (h : PS X st t) : PS X st (fun D σ H => ∃ J : L2.St → Hp → Prop, t { D with nx := J } σ H ∧ ∀ σ' H', J σ' H' → D.nx σ' H') := by
  refine ⟨fun pins s σ H D I ⟨J, h1, h2⟩ => wpAny_mono (h.run pins s σ H _ I h1) (fun fl s' q => ?_) fun e s' x => x⟩
  cases fl with
  | next =>
    obtain ⟨σ', H', I', q⟩ := q
    exact ⟨σ', H', I', h2 _ _ q⟩
  | brk => exact q
  | cont => exact q
  | ret v => exact q
/-! ### data -/
def tieD (e : Str × Str) : PyData := .tuple [.str e.1, .str e.2]
def tD (es : List (Str × Str)) : List PyData := es.map tieD
def nD (ns : List Str) : List PyData := ns.map .str
theorem Dqs.append {H : Hp} : ∀ {vs us : List V} {ds es : List PyData}, Dqs H vs ds → Dqs H us es → Dqs H (vs ++ us) (ds ++ es)
  | _, _, _, _, .nil, k => k
  | _, _, _, _, .cons h t, k => .cons h (t.append k)
theorem Dqs.nv {H : Hp} : ∀ ns : List Str, Dqs H (nv ns) (nD ns)
  | [] => .nil
  | z :: r => .cons (.str z) (Dqs.nv r)
theorem Dqs.nv_eq {H : Hp} : ∀ {ns : List Str} {vs : List V}, Dqs H vs (nD ns) → vs = K27.nv ns
  | [], _, h => by
    cases h
    rfl
  | z :: r, _, h => by
    cases h with
    | cons a t =>
      cases a
      rw [t.nv_eq]
      rfl
theorem Dqs.at_ {H : Hp} : ∀ {vs : List V} {ds : List PyData} {i : Nat} {v : V}, Dqs H vs ds → vs[i]? = some v → ∃ d, ds[i]? = some d ∧ Dq H v d
  | _, _, i, _, .nil, h => by simp at h
  | _, _, 0, _, .cons a t, h => by
    cases h
    exact ⟨_, rfl, a⟩
  | _, _, i + 1, _, .cons a t, h => t.at_ h
theorem Dqs.get {H : Hp} : ∀ {vs : List V} {ds : List PyData} {i : Nat} {d : PyData}, Dqs H vs ds → ds[i]? = some d → ∃ v, vs[i]? = some v ∧ Dq H v d
  | _, _, i, _, .nil, h => by simp at h
  | _, _, 0, _, .cons a t, h => by
    cases h
    exact ⟨_, rfl, a⟩
  | _, _, i + 1, _, .cons a t, h => t.get h
theorem Dqs.drop {H : Hp} : ∀ {vs : List V} {ds : List PyData} (n : Nat), Dqs H vs ds → Dqs H (vs.drop n) (ds.drop n)
  | _, _, 0, h => h
  | _, _, n + 1, .nil => .nil
  | _, _, n + 1, .cons _ t => t.drop n
theorem Dqs.take {H : Hp} : ∀ {vs : List V} {ds : List PyData} (n : Nat), Dqs H vs ds → Dqs H (vs.take n) (ds.take n)
  | _, _, 0, h => .nil
  | _, _, n + 1, .nil => .nil
  | _, _, n + 1, .cons a t => .cons a (t.take n)
theorem Dqs.reverse {H : Hp} : ∀ {vs : List V} {ds : List PyData}, Dqs H vs ds → Dqs H vs.reverse ds.reverse
  | _, _, .nil => .nil
  | _, _, .cons a t => by
    rw [List.reverse_cons, List.reverse_cons]
    exact t.reverse.append (.cons a .nil)
theorem Dqs.eraseIdx {H : Hp} : ∀ {vs : List V} {ds : List PyData} (n : Nat), Dqs H vs ds → Dqs H (vs.eraseIdx n) (ds.eraseIdx n)
  | _, _, 0, .nil => .nil
  | _, _, 0, .cons _ t => t
  | _, _, n + 1, .nil => .nil
  | _, _, n + 1, .cons a t => .cons a (t.eraseIdx n)
theorem Dq.same {G H : Hp} (s : Same G H) {v : V} {d : PyData} (h : Dq G v d) : Dq H v d := h.mono s
theorem Dqs.same {G H : Hp} (s : Same G H) {vs : List V} {ds : List PyData} (h : Dqs G vs ds) : Dqs H vs ds := h.mono s
theorem Dq.list_inv {H : Hp} {v : V} {ds : List PyData} (h : Dq H v (.list ds)) : ∃ a xs, v = .ref a ∧ H a = some (.lst xs) ∧ Dqs H xs ds := by
  cases h with
  | lst e t => exact ⟨_, _, rfl, e, t⟩
theorem Dq.tup_inv {H : Hp} {v : V} {ds : List PyData} (h : Dq H v (.tuple ds)) : ∃ a xs, v = .ref a ∧ H a = some (.tup xs) ∧ Dqs H xs ds := by
  cases h with
  | tup e t => exact ⟨_, _, rfl, e, t⟩
theorem Dq.str_inv {H : Hp} {v : V} {z : Str} (h : Dq H v (.str z)) : v = .str z := by
  cases h
  rfl
theorem Dq.tie_inv {H : Hp} {v : V} {e : Str × Str} (h : Dq H v (tieD e)) : ∃ a, v = .ref a ∧ H a = some (.tup [.str e.1, .str e.2]) := by
  obtain ⟨a, xs, rfl, h1, t⟩ := h.tup_inv
  cases t with
  | cons x t =>
    cases t with
    | cons y t =>
      cases t
      rw [x.str_inv, y.str_inv] at h1
      exact ⟨a, rfl, h1⟩
theorem Dq.tie {H : Hp} {a : Addr} {e : Str × Str} (h : H a = some (.tup [.str e.1, .str e.2])) : Dq H (.ref a) (tieD e) := .tup h (.cons (.str _) (.cons (.str _) .nil))
theorem tD_at {es : List (Str × Str)} {i : Nat} {d : PyData} (h : (tD es)[i]? = some d) : ∃ e, es[i]? = some e ∧ d = tieD e := by
  unfold tD at h
  rw [List.getElem?_map] at h
  cases q : es[i]? with
  | none =>
    rw [q] at h
    cases h
  | some e =>
    rw [q] at h
    exact ⟨e, rfl, (Option.some.inj h).symm⟩
theorem tD_get {es : List (Str × Str)} {i : Nat} {e : Str × Str} (h : es[i]? = some e) : (tD es)[i]? = some (tieD e) := by
  unfold tD
  rw [List.getElem?_map, h]
  rfl
/-- the ties, an item -/
theorem ties_at {H : Hp} {ts : List V} {es : List (Str × Str)} {i : Nat} {v : V} (t : Dqs H ts (tD es)) (h : ts[i]? = some v) : ∃ e a, es[i]? = some e ∧ v = .ref a ∧ H a = some (.tup [.str e.1, .str e.2]) := by
  obtain ⟨d, hd, q⟩ := t.at_ h
  obtain ⟨e, he, rfl⟩ := tD_at hd
  obtain ⟨a, rfl, ha⟩ := q.tie_inv
  exact ⟨e, a, he, rfl, ha⟩
/-! ### a list under the hand -/
structure GrowI (G : Hp) (D : Addr) (ds : List PyData) (H : Hp) : Prop where
  same : Same G H
  new : G D = none
  ex : ∃ ts, H D = some (.lst ts) ∧ Dqs (off H D) ts ds
theorem off_upd {H : Hp} {D : Addr} {o : HO} : off (upd H D o) D = off H D := by
  funext z
  by_cases e : z = D
  · rw [e, off_same, off_same]
  · rw [off_ne e, off_ne e, upd_ne e]
section
variable {G H H' : Hp} {D : Addr} {ds : List PyData}
theorem GrowI.nil (s : Same G H) (n : H D = none) : GrowI G D [] (upd H D (.lst [])) := ⟨same_new s n, s.free n, [], upd_same, .nil⟩
theorem GrowI.step (I : GrowI G D ds H) (s : Same H H') : GrowI G D ds H' := by
  obtain ⟨ts, h, t⟩ := I.ex
  exact ⟨I.same.trans s, I.new, ts, s _ _ h, t.same (same_offM s)⟩
theorem GrowI.stepO (I : GrowI G D ds H) {b : Addr} (hb : H b ≠ none → D ≠ b) (hg : G b = none) (nb : ∀ ts, Dqs (off H D) ts ds → Dqs (off (off H b) D) ts ds) (s : Same (off H b) H') : GrowI G D ds H' := by
  obtain ⟨ts, h, t⟩ := I.ex
  have ne : D ≠ b := fun e => by
    subst e
    exact hb (by rw [h]; exact fun z => nomatch z) rfl
  exact ⟨(same_to I.same hg).trans s, I.new, ts, s _ _ (by rw [off_ne ne]; exact h), (nb ts t).same (same_offM s)⟩
theorem GrowI.push (I : GrowI G D ds H) (s : Same H H') {v : V} {d : PyData} (hv : Dq (off H' D) v d) (hl : ds.length ≤ 100000) :
    ∃ acc, H' D = some (.lst acc) ∧ acc.length < sizeLine ∧ GrowI G D (ds ++ [d]) (upd H' D (.lst (acc ++ [v]))) := by
  obtain ⟨ts, h, t⟩ := (I.step s).ex
  refine ⟨ts, h, ?_, same_mut (I.same.trans s) I.new, I.new, _, upd_same, ?_⟩
  · rw [t.length]
    exact Nat.lt_of_le_of_lt hl (by decide)
  · rw [off_upd]
    exact t.append (.cons hv .nil)
theorem GrowI.done (I : GrowI G D ds H) : Dq H (.ref D) (.list ds) := by
  obtain ⟨ts, h, t⟩ := I.ex
  exact .lst h (t.same same_off)
theorem GrowI.len (I : GrowI G D ds H) : ∃ ts, H D = some (.lst ts) ∧ ts.length = ds.length := by
  obtain ⟨ts, h, t⟩ := I.ex
  exact ⟨ts, h, t.length⟩
end
theorem off_new {H : Hp} {D t : Addr} {o : HO} (ht : H t = none) {u : HO} (hD : H D = some u) : off (upd H t o) D t = some o := by
  rw [off_ne (ne_of_none hD ht).symm, upd_same]
end K27

namespace K27
open PySem PySem.Spec PyProof.Rows L2 KM
section
variable {P : Program} {w : World} {K : PySem.W.Frag} {mg : Str → Option Value} {base : Heap}
abbrev mW (K : PySem.W.Frag) (m : Str) : Addr := He.ma K (cWeb K) m
/-! ### Web's methods -/
def spPlaces (K : PySem.W.Frag) : Sp := fun vs H Q _ => ∃ (a : Addr) (ns : List Str) (es : List (Str × Str)), vs = [.ref a] ∧ WebAt K H a ns es ∧ ∀ H' p, Same H H' → H p = none → H' p = some (.lst (nv ns)) → Q (.ref p) H'
theorem ok_places (T : Tx K mg) : Fok P w K mg base CX0 1 (mW K "places") ["self"] (spPlaces K) := by
  obtain ⟨fd, F⟩ := T.f_Web_places
  refine ⟨fd, F.ok scWeb_places (fun vs H Q E h => ?_) (fun cdv A outer s H vs Q E hr h => ?_), b_Web_places F, F.kp⟩
  · obtain ⟨a, ns, es, rfl, _⟩ := h
    rfl
  · obtain ⟨a, ns, es, rfl, hw, k⟩ := h
    obtain ⟨dx, dn, od, bd, B, h1, h2, h3, h4, h5⟩ := hw.ex
    refine ⟨_, PSs.nox (pss_one (ps_ret (pe_callTy call_list_of (by rfl) T.z_list (by decide +kernel) (pa_cons (pe_fld (pv 0) rfl) pa_nil)))), ?_⟩
    refine ⟨_, rfl, a, cWeb K, dx, _, _, rfl, h1, T.cl, T.no_order, webF_order _ _ _, od, _, rfl, .inl (SqL.of h3), fun p np => ?_⟩
    exact k _ p (same_new (Same.refl H) np) np upd_same
def spNumber (K : PySem.W.Frag) : Sp := fun vs H Q _ => ∃ (a : Addr) (ns : List Str) (es : List (Str × Str)) (z : Str), vs = [.ref a, .str z] ∧ WebAt K H a ns es ∧ z ∈ ns ∧ Q (.int (ns.idxOf z : Nat)) H
theorem isi_str {H : Hp} (z : Str) : TyX K H (.str z) (.type "str") := .base (.str z)
theorem ok_number_of (T : Tx K mg) : Fok P w K mg base CX0 1 (mW K "number_of") ["self", "place"] (spNumber K) := by
  obtain ⟨fd, F⟩ := T.f_Web_number_of
  refine ⟨fd, F.ok scWeb_number_of (fun vs H Q E h => ?_) (fun cdv A outer s H vs Q E hr h => ?_), b_Web_number_of F, F.kp⟩
  · obtain ⟨a, ns, es, z, rfl, _⟩ := h
    rfl
  · obtain ⟨a, ns, es, z, rfl, hw, hz, k⟩ := h
    obtain ⟨dx, dn, od, bd, B, h1, h2, h3, h4, h5⟩ := hw.ex
    have hu := hu_of hr
    have g := h2.get z
    rw [if_pos hz] at g
    refine ⟨_, PSs.nox (pss_cons (ps_if (PW.pt (pw_or (pt_not (pt_val (pe_callB call_isi (by rfl) T.z_isinstance (by decide +kernel) (pa_cons (pv 1) (pa_cons (pe_bltn (v := .ty "str") (u := .type "str") (by rfl) T.z_str (by decide +kernel) rfl) pa_nil))))) (pw_or1 (pt_cmp (pc_dnotin hu (pv 1) (pe_fld (pv 0) rfl)))))) (pss_one ps_never) pss_nil)
    (pss_one (ps_ret (pe_dget hu (pe_fld (pv 0) rfl) (pv 1) (fun _ _ => rfl))))), ?_⟩
    refine ⟨_, rfl, _, _, _, _, true, rfl, .ty _, isi_str z, kit_ty (by decide +kernel), _, rfl, ?_⟩
    refine iteF ⟨_, rfl, _, rfl, a, cWeb K, dx, _, _, rfl, h1, T.cl, T.no_numbers, webF_numbers _ _ _, dn, _, rfl, g, _, rfl, ?_⟩
    refine iteF ?_
    refine ⟨_, rfl, a, cWeb K, dx, _, _, rfl, h1, T.cl, T.no_numbers, webF_numbers _ _ _, _, rfl, dn, _, rfl, g, k⟩
/-! named -/
def pick (ns : List Str) (n : Nat) : List Str := (ns.zipIdx.filter fun q => n.testBit q.2).map (·.1)
theorem div_cast (n k : Nat) : (n : Int) / 2 ^ k = ((n / 2 ^ k : Nat) : Int) := by
  rw [Int.natCast_ediv]
  congr 1
theorem bit_q (n k : Nat) : decide (V.int (((n / 2 ^ k) % 2 : Nat) : Int) = V.int 1) = n.testBit k := by
  rw [Nat.testBit_eq_decide_div_mod_eq]
  refine decide_eq_decide.mpr ⟨fun h => ?_, fun h => by rw [h]; rfl⟩
  have q : (((n / 2 ^ k) % 2 : Nat) : Int) = 1 := V.int.inj h
  exact Int.natCast_inj.mp q
theorem zi_at {ns : List Str} {i : Nat} {z : Str} (h : ns[i]? = some z) : ns.zipIdx[i]? = some (z, i) := by
  rw [List.getElem?_zipIdx, h]
  show some (z, 0 + i) = _
  rw [Nat.zero_add]
theorem zi_len (ns : List Str) : ns.zipIdx.length = ns.length := List.length_zipIdx
def spNamed (K : PySem.W.Frag) : Sp := fun vs H Q _ => ∃ (a : Addr) (ns : List Str) (es : List (Str × Str)) (n : Nat), vs = [.ref a, .int (n : Int)] ∧ WebAt K H a ns es ∧ Wb ns es ∧ ∀ H' p, Same H H' → H p = none → H' p = some (.lst (nv (pick ns n))) → Q (.ref p) H'
theorem ok_named (T : Tx K mg) : Fok P w K mg base CX0 1 (mW K "named") ["self", "bits"] (spNamed K) := by
  obtain ⟨fd, F⟩ := T.f_Web_named
  refine ⟨fd, F.ok scWeb_named (fun vs H Q E h => ?_) (fun cdv A outer s H vs Q E hr h => ?_), b_Web_named F, F.kp⟩
  · obtain ⟨a, ns, es, z, rfl, _⟩ := h
    rfl
  · obtain ⟨a, ns, es, n, rfl, hw, wb, k⟩ := h
    obtain ⟨dx, dn, od, bd, B, h1, h2, h3, h4, h5⟩ := hw.ex
    have hl : ns.zipIdx.length ≤ 1000 := by
      rw [zi_len]
      have := wb.ln
      omega
    refine ⟨_, PSs.nox (pss_one (ps_ret (pe_lc (own := [("k", 2), ("name", 3)]) rfl scWeb_named.nd (pi_enum (by rfl) T.z_enumerate (pa_cons (pe_fld (pv 0) rfl) pa_nil)) (blkOk_by (own := [("k", 2), ("name", 3)]) (N := NWeb_named) (sc := defScope sWeb_named) (by decide +kernel)) (fun _ _ _ _ _ => (pg_tupK (K := K) (n := 2) rfl rfl (pgs_cons (pg_name (i := 2) scWeb_named.nd rfl (Or.inl rfl)) (pgs_cons (pg_name (i := 3) scWeb_named.nd rfl (Or.inl rfl)) pgs_nil)))) (fun _ _ _ _ _ => (pts_one (pt_cmpR op_eq (pe_op op_odd (pe_op op_shrN (pv 1) (pv 2)) pe_int) pe_int (nomark _)))) (fun _ _ _ _ _ => (pv 3))))), ?_⟩
    refine ⟨_, rfl, a, cWeb K, dx, _, _, rfl, h1, T.cl, T.no_order, webF_order _ _ _, od, _, rfl, SqL.of h3, fun D nD => ?_⟩
    refine lc_it walk_enum (fun i H' => SelI H D ns.zipIdx (fun q => n.testBit q.2) (fun q => .str q.1) i H') (SelI.nil (Same.refl H) nD) (fun i H' _ I => SqL.of (I.same _ _ h3)) ?_ ?_
    · rintro i x H1 H2 hi I ⟨t, x1, x2, rfl, ht, rfl, e1, e2⟩
      cases e1
      obtain ⟨z, hz, rfl⟩ := nv_at e2
      have s1 := same_new (o := .tup [.int (i : Nat), .str z]) (Same.refl H1) ht
      refine ⟨t, _, rfl, SqT.of upd_same, rfl, _, _, rfl, _, _, rfl, rfl, rfl, ?_⟩
      refine ⟨_, rfl, _, rfl, _, _, rfl, rfl, _, by rw [div_cast], rfl, rfl, _, rfl, ?_⟩
      cases hb : n.testBit i with
      | true =>
        refine ifT ((bit_q n i).trans hb) ⟨_, rfl, ?_⟩
        exact I.yes (zi_at hz) s1 hb rfl hl
      | false =>
        refine ifF ((bit_q n i).trans hb) ?_
        exact I.no (zi_at hz) s1 hb
    · intro H' I
      rw [nv_len, ← zi_len] at I
      refine k _ _ I.same nD ?_
      have q := I.done
      unfold nv pick
      rw [List.map_map]
      exact q
theorem pick_nb {ns : List Str} {es : List (Str × Str)} {z : Str} {n : Nat} (h : ∀ j b, ns[j]? = some b → n.testBit j = adj es z b) : pick ns n = nb ns es z := by
  unfold pick nb
  rw [List.filter_congr (q := fun q => adj es z q.1) fun q hq => ?_]
  · have e : (fun q : Str × Nat => adj es z q.1) = (fun y => adj es z y) ∘ (·.1) := rfl
    rw [e, ← List.filter_map, List.zipIdx_map_fst]
  · obtain ⟨y, i⟩ := q
    rw [List.mk_mem_zipIdx_iff_getElem?] at hq
    exact h i y hq
/-! bits_beside, beside, tied -/
theorem web_bit {ns : List Str} {es : List (Str × Str)} {B : List Nat} {z : Str} (b : BitsOk ns es B) (hz : z ∈ ns) : ∃ n, B[ns.idxOf z]? = some n ∧ n < 2 ^ 14 ∧ ∀ j y, ns[j]? = some y → n.testBit j = adj es z y := by
  have il := List.idxOf_lt_length_of_mem hz
  have ig : ns[ns.idxOf z]? = some z := List.getElem?_eq_some_iff.mpr ⟨il, List.getElem_idxOf il⟩
  obtain ⟨n, h1, _⟩ := b.2.2 _ _ z z ig ig
  refine ⟨n, h1, b.2.1 n (List.mem_of_getElem? h1), fun j y hy => ?_⟩
  obtain ⟨m, h3, h4⟩ := b.2.2 _ _ z y ig hy
  rw [h1] at h3
  cases h3
  exact h4
theorem iv_at {B : List Nat} {i : Nat} {n : Nat} (h : B[i]? = some n) : atI (B.map iV) (i : Int) = some (.int (n : Int)) := atI_nat (by rw [List.getElem?_map, h]; rfl)
def spBitsB (K : PySem.W.Frag) : Sp := fun vs H Q _ => ∃ (a : Addr) (ns : List Str) (es : List (Str × Str)) (z : Str), vs = [.ref a, .str z] ∧ WebAt K H a ns es ∧ z ∈ ns ∧ ∀ n : Nat, (∀ j y, ns[j]? = some y → n.testBit j = adj es z y) → Q (.int (n : Int)) H
theorem ok_bits_beside (T : Tx K mg) (F1 : Fok P w K mg base CX0 1 (mW K "number_of") ["self", "place"] (spNumber K)) : Fok P w K mg base CX0 2 (mW K "bits_beside") ["self", "place"] (spBitsB K) := by
  obtain ⟨fd, F⟩ := T.f_Web_bits_beside
  obtain ⟨_, G_Web_number_of, b_Web_number_of, _⟩ := F1
  refine ⟨fd, F.ok scWeb_bits_beside (fun vs H Q E h => ?_) (fun cdv A outer s H vs Q E hr h => ?_), b_Web_bits_beside F, F.kp⟩
  · obtain ⟨a, ns, es, z, rfl, _⟩ := h
    rfl
  · obtain ⟨a, ns, es, z, rfl, hw, hz, k⟩ := h
    obtain ⟨dx, dn, od, bd, B, h1, h2, h3, h4, h5⟩ := hw.ex
    obtain ⟨n, q1, _, q2⟩ := web_bit h5 hz
    refine ⟨_, PSs.nox (pss_one (ps_ret (pe_ix ix_list (pe_fld (pv 0) rfl) (pe_meth (pv 0) T.cl T.m_number_of G_Web_number_of (hr.mono (by decide)) b_Web_number_of .nil pass0 (pa_cons (pv 1) pa_nil)) (fun _ _ => rfl)))), ?_⟩
    refine ⟨_, rfl, a, cWeb K, dx, _, _, rfl, h1, T.cl, T.no_bits, webF_bits _ _ _, _, rfl, a, dx, _, rfl, h1, webF_no _ _ _ (by decide +kernel) (by decide +kernel) (by decide +kernel), _, rfl, a, ns, es, z, rfl, hw, hz, ?_⟩
    exact ⟨_, _, _, _, rfl, rfl, SqL.of h4, iv_at q1, k n q2⟩
def spBeside (K : PySem.W.Frag) : Sp := fun vs H Q _ => ∃ (a : Addr) (ns : List Str) (es : List (Str × Str)) (z : Str), vs = [.ref a, .str z] ∧ WebAt K H a ns es ∧ Wb ns es ∧ z ∈ ns ∧ ∀ H' p, Same H H' → H p = none → H' p = some (.lst (nv (nb ns es z))) → Q (.ref p) H'
theorem ok_beside (T : Tx K mg) (F1 : Fok P w K mg base CX0 1 (mW K "named") ["self", "bits"] (spNamed K)) (F2 : Fok P w K mg base CX0 2 (mW K "bits_beside") ["self", "place"] (spBitsB K)) : Fok P w K mg base CX0 3 (mW K "beside") ["self", "place"] (spBeside K) := by
  obtain ⟨fd, F⟩ := T.f_Web_beside
  obtain ⟨_, G_Web_named, b_Web_named, _⟩ := F1
  obtain ⟨_, G_Web_bits_beside, b_Web_bits_beside, _⟩ := F2
  refine ⟨fd, F.ok scWeb_beside (fun vs H Q E h => ?_) (fun cdv A outer s H vs Q E hr h => ?_), b_Web_beside F, F.kp⟩
  · obtain ⟨a, ns, es, z, rfl, _⟩ := h
    rfl
  · obtain ⟨a, ns, es, z, rfl, hw, wb, hz, k⟩ := h
    obtain ⟨dx, dn, od, bd, h1⟩ := hw.ins
    refine ⟨_, PSs.nox (pss_one (ps_ret (pe_meth (pv 0) T.cl T.m_named G_Web_named (hr.mono (by decide)) b_Web_named .nil pass0 (pa_cons (pe_meth (pv 0) T.cl T.m_bits_beside G_Web_bits_beside (hr.mono (by decide)) b_Web_bits_beside .nil pass0 (pa_cons (pv 1) pa_nil)) pa_nil)))), ?_⟩
    refine ⟨_, rfl, a, dx, _, rfl, h1, webF_no _ _ _ (by decide +kernel) (by decide +kernel) (by decide +kernel), _, rfl, a, dx, _, rfl, h1, webF_no _ _ _ (by decide +kernel) (by decide +kernel) (by decide +kernel), _, rfl, a, ns, es, z, rfl, hw, hz, fun n hn => ?_⟩
    refine ⟨a, ns, es, n, rfl, hw, wb, ?_⟩
    rw [pick_nb hn]
    exact k
def spTied (K : PySem.W.Frag) : Sp := fun vs H Q _ => ∃ (a : Addr) (ns : List Str) (es : List (Str × Str)) (y z : Str), vs = [.ref a, .str y, .str z] ∧ WebAt K H a ns es ∧ y ∈ ns ∧ z ∈ ns ∧ Q (.bl (adj es y z)) H
theorem idx_at {ns : List Str} {z : Str} (h : z ∈ ns) : ns[ns.idxOf z]? = some z := List.getElem?_eq_some_iff.mpr ⟨List.idxOf_lt_length_of_mem h, List.getElem_idxOf (List.idxOf_lt_length_of_mem h)⟩
theorem ok_tied (T : Tx K mg) (F1 : Fok P w K mg base CX0 1 (mW K "number_of") ["self", "place"] (spNumber K)) : Fok P w K mg base CX0 2 (mW K "tied") ["self", "one", "other"] (spTied K) := by
  obtain ⟨fd, F⟩ := T.f_Web_tied
  obtain ⟨_, G_Web_number_of, b_Web_number_of, _⟩ := F1
  refine ⟨fd, F.ok scWeb_tied (fun vs H Q E h => ?_) (fun cdv A outer s H vs Q E hr h => ?_), b_Web_tied F, F.kp⟩
  · obtain ⟨a, ns, es, y, z, rfl, _⟩ := h
    rfl
  · obtain ⟨a, ns, es, y, z, rfl, hw, hy, hz, k⟩ := h
    obtain ⟨dx, dn, od, bd, B, h1, h2, h3, h4, h5⟩ := hw.ex
    obtain ⟨n, q1, _, q2⟩ := web_bit h5 hy
    refine ⟨_, PSs.nox (pss_cons (ps_set (i := 3) scWeb_tied.nd rfl (Or.inl rfl) (pe_meth (pv 0) T.cl T.m_number_of G_Web_number_of (hr.mono (by decide)) b_Web_number_of .nil pass0 (pa_cons (pv 1) pa_nil)))
    (pss_cons (ps_set (i := 4) scWeb_tied.nd rfl (Or.inl rfl) (pe_meth (pv 0) T.cl T.m_number_of G_Web_number_of (hr.mono (by decide)) b_Web_number_of .nil pass0 (pa_cons (pv 2) pa_nil)))
    (pss_one (ps_ret (pe_cmpR op_eq (pe_op op_odd (pe_op op_shrN (pe_ix ix_list (pe_fld (pv 0) rfl) (pv 3) (fun _ _ => rfl)) (pv 4)) pe_int) pe_int (nomark _)))))), ?_⟩
    refine ⟨_, rfl, a, dx, _, rfl, h1, webF_no _ _ _ (by decide +kernel) (by decide +kernel) (by decide +kernel), _, rfl, a, ns, es, y, rfl, hw, hy, ?_⟩
    refine ⟨_, rfl, a, dx, _, rfl, h1, webF_no _ _ _ (by decide +kernel) (by decide +kernel) (by decide +kernel), _, rfl, a, ns, es, z, rfl, hw, hz, ?_⟩
    refine ⟨_, rfl, a, cWeb K, dx, _, _, rfl, h1, T.cl, T.no_bits, webF_bits _ _ _, _, rfl, _, _, _, _, rfl, rfl, SqL.of h4, iv_at q1, ?_⟩
    refine ⟨_, rfl, _, _, rfl, rfl, _, by rw [div_cast], rfl, rfl, ?_⟩
    have e := (bit_q n (ns.idxOf z)).trans (q2 _ z (idx_at hz))
    show Q (.bl (decide _)) _
    rw [e]
    exact k
end
end K27

namespace K27
open PySem PySem.Spec PyProof.Rows L2 KM
/-! ### what the programs ask of a thing -/
def tyD : PyData → String
  | .none => "NoneType"
  | .bool _ => "bool"
  | .int _ => "int"
  | .str _ => "str"
  | .list _ => "list"
  | .tuple _ => "tuple"
  | .dict _ => "dict"
def isS : PyData → Bool
  | .str _ => true
  | _ => false
def isL : PyData → Bool
  | .list _ => true
  | _ => false
def isT : PyData → Bool
  | .tuple _ => true
  | _ => false
section
variable {K : PySem.W.Frag} {H : Hp} {v : V} {d : PyData}
theorem ty_of (h : Dq H v d) : TyX K H v (.type (tyD d)) := by
  cases h with
  | non => exact .base .non
  | bl b => exact .base (.bl b)
  | int i => exact .base (.int i)
  | str x => exact .base (.str x)
  | lst e _ => exact .base (.lst e)
  | tup e _ => exact .base (.tup e)
  | dct e => exact .base (.dK e)
theorem kit_str : ∀ d : PyData, kitB (tyD d) "str" = some (isS d)
  | .none => (by decide +kernel : kitB "NoneType" "str" = some false)
  | .bool _ => (by decide +kernel : kitB "bool" "str" = some false)
  | .int _ => (by decide +kernel : kitB "int" "str" = some false)
  | .str _ => (by decide +kernel : kitB "str" "str" = some true)
  | .list _ => (by decide +kernel : kitB "list" "str" = some false)
  | .tuple _ => (by decide +kernel : kitB "tuple" "str" = some false)
  | .dict _ => (by decide +kernel : kitB "dict" "str" = some false)
theorem kit_list : ∀ d : PyData, kitB (tyD d) "list" = some (isL d)
  | .none => (by decide +kernel : kitB "NoneType" "list" = some false)
  | .bool _ => (by decide +kernel : kitB "bool" "list" = some false)
  | .int _ => (by decide +kernel : kitB "int" "list" = some false)
  | .str _ => (by decide +kernel : kitB "str" "list" = some false)
  | .list _ => (by decide +kernel : kitB "list" "list" = some true)
  | .tuple _ => (by decide +kernel : kitB "tuple" "list" = some false)
  | .dict _ => (by decide +kernel : kitB "dict" "list" = some false)
theorem kit_tup : ∀ d : PyData, kitB (tyD d) "tuple" = some (isT d)
  | .none => (by decide +kernel : kitB "NoneType" "tuple" = some false)
  | .bool _ => (by decide +kernel : kitB "bool" "tuple" = some false)
  | .int _ => (by decide +kernel : kitB "int" "tuple" = some false)
  | .str _ => (by decide +kernel : kitB "str" "tuple" = some false)
  | .list _ => (by decide +kernel : kitB "list" "tuple" = some false)
  | .tuple _ => (by decide +kernel : kitB "tuple" "tuple" = some true)
  | .dict _ => (by decide +kernel : kitB "dict" "tuple" = some false)
theorem isS_inv (h : Dq H v d) (e : isS d = true) : ∃ z, d = .str z ∧ v = .str z := by
  cases h with
  | str x => exact ⟨x, rfl, rfl⟩
  | _ => cases e
theorem isL_inv (h : Dq H v d) (e : isL d = true) : ∃ a xs ds, d = .list ds ∧ v = .ref a ∧ H a = some (.lst xs) ∧ Dqs H xs ds := by
  cases h with
  | lst q t => exact ⟨_, _, _, rfl, rfl, q, t⟩
  | _ => cases e
theorem isT_inv (h : Dq H v d) (e : isT d = true) : ∃ a xs ds, d = .tuple ds ∧ v = .ref a ∧ H a = some (.tup xs) ∧ Dqs H xs ds := by
  cases h with
  | tup q t => exact ⟨_, _, _, rfl, rfl, q, t⟩
  | _ => cases e
end
def isPl (ns : List Str) : PyData → Bool
  | .str z => decide (z ∈ ns)
  | _ => false
def pairT : PyData → Option (PyData × PyData)
  | .tuple [a, b] => some (a, b)
  | _ => none
def strD : PyData → Str
  | .str z => z
  | _ => Str.empty
def isTie (ns : List Str) (es : List (Str × Str)) (d : PyData) : Bool := match pairT d with
  | some (x, y) => isPl ns x && (isPl ns y && adj es (strD x) (strD y))
  | none => false
theorem isPl_inv {ns : List Str} {d : PyData} (h : isPl ns d = true) : ∃ z, d = .str z ∧ z ∈ ns := by
  cases d with
  | str z => exact ⟨z, rfl, of_decide_eq_true h⟩
  | _ => cases h
theorem isPl_isS {ns : List Str} {d : PyData} (h : isS d = false) : isPl ns d = false := by
  cases d with
  | str z => cases h
  | _ => rfl
theorem pairT_isT {d : PyData} (h : isT d = false) : pairT d = none := by
  cases d with
  | tuple z => cases h
  | _ => rfl
theorem pairT_len {ds : List PyData} (h : ds.length ≠ 2) : pairT (.tuple ds) = none := by
  match ds, h with
  | [], _ => rfl
  | [_], _ => rfl
  | [_, _], h => exact absurd rfl h
  | _ :: _ :: _ :: _, _ => rfl
theorem isTie_inv {ns : List Str} {es : List (Str × Str)} {d : PyData} (h : isTie ns es d = true) : ∃ a b, d = .tuple [.str a, .str b] ∧ a ∈ ns ∧ b ∈ ns ∧ adj es a b = true := by
  unfold isTie at h
  cases q : pairT d with
  | none =>
    rw [q] at h
    cases h
  | some p =>
    obtain ⟨x, y⟩ := p
    rw [q] at h
    dsimp only at h
    obtain ⟨h1, h⟩ := Bool.and_eq_true_iff.mp h
    obtain ⟨h2, h3⟩ := Bool.and_eq_true_iff.mp h
    obtain ⟨a, rfl, ha⟩ := isPl_inv h1
    obtain ⟨b, rfl, hb⟩ := isPl_inv h2
    refine ⟨a, b, ?_, ha, hb, h3⟩
    unfold pairT at q
    split at q
    · cases q
      rfl
    · cases q
section
variable {P : Program} {w : World} {K : PySem.W.Frag} {mg : Str → Option Value} {base : Heap}
/-! ### is_place -/
def spIsPlace (K : PySem.W.Frag) : Sp := fun vs H Q _ => ∃ (a : Addr) (ns : List Str) (es : List (Str × Str)) (v : V) (d : PyData), vs = [.ref a, v] ∧ WebAt K H a ns es ∧ Dq H v d ∧ ∀ H', Same H H' → Q (.bl (isPl ns d)) H'
theorem ok_is_place (T : Tx K mg) (F1 : Fok P w K mg base CX0 1 (mW K "places") ["self"] (spPlaces K)) : Fok P w K mg base CX0 2 (He.ga K "is_place") ["web", "thing"] (spIsPlace K) := by
  obtain ⟨fd, F⟩ := T.f_is_place
  obtain ⟨_, G_Web_places, b_Web_places, _⟩ := F1
  refine ⟨fd, F.ok scis_place (fun vs H Q E h => ?_) (fun cdv A outer s H vs Q E hr h => ?_), b_is_place F, F.kp⟩
  · obtain ⟨a, ns, es, v, d, rfl, _⟩ := h
    rfl
  · obtain ⟨a, ns, es, v, d, rfl, hw, hd, k⟩ := h
    obtain ⟨dx, dn, od, bd, h1⟩ := hw.ins
    refine ⟨_, PSs.nox (pss_one (ps_ret (pe_and (pe_callB call_isi (by rfl) T.z_isinstance (by decide +kernel) (pa_cons (pv 1) (pa_cons (pe_bltn (v := .ty "str") (u := .type "str") (by rfl) T.z_str (by decide +kernel) rfl) pa_nil))) (pe_one (pe_cmpR op_in_seq (pv 1) (pe_meth0 (pv 0) T.cl T.m_places G_Web_places (hr.mono (by decide)) b_Web_places .nil pass0) (by first | exact nomark _ | rfl)))))), ?_⟩
    refine ⟨_, rfl, _, _, _, _, isS d, rfl, .ty _, ty_of hd, kit_ty (kit_str d), _, rfl, ?_⟩
    cases hs : isS d with
    | false =>
      refine ifF rfl ?_
      have q := k H (Same.refl H)
      rw [isPl_isS hs] at q
      exact q
    | true =>
      obtain ⟨z, rfl, rfl⟩ := isS_inv hd hs
      refine ifT rfl ⟨_, rfl, _, rfl, a, dx, _, rfl, h1, webF_no _ _ _ (by decide +kernel) (by decide +kernel) (by decide +kernel), a, ns, es, rfl, hw, fun H1 p s1 np hp => ?_⟩
      refine ⟨p, _, rfl, .inl (SqL.of hp), rfl, nv_flat ns, ?_⟩
      show Q (.bl (inV (.str z) (nv ns))) H1
      rw [inV_nv]
      exact k H1 s1
/-! ### is_tie -/
def spIsTie (K : PySem.W.Frag) : Sp := fun vs H Q _ => ∃ (a : Addr) (ns : List Str) (es : List (Str × Str)) (v : V) (d : PyData), vs = [.ref a, v] ∧ WebAt K H a ns es ∧ Dq H v d ∧ ∀ H', Same H H' → Q (.bl (isTie ns es d)) H'
theorem two_of {H : Hp} {xs : List V} {ds : List PyData} (t : Dqs H xs ds) (h : ds.length = 2) : ∃ x y a b, xs = [x, y] ∧ ds = [a, b] ∧ Dq H x a ∧ Dq H y b := by
  cases t with
  | nil => cases h
  | cons p t => cases t with
    | nil => cases h
    | cons q t => cases t with
      | nil => exact ⟨_, _, _, _, rfl, rfl, p, q⟩
      | cons r t =>
        simp at h
theorem ok_is_tie (T : Tx K mg) (F1 : Fok P w K mg base CX0 2 (He.ga K "is_place") ["web", "thing"] (spIsPlace K)) (F2 : Fok P w K mg base CX0 2 (mW K "tied") ["self", "one", "other"] (spTied K)) :
    Fok P w K mg base CX0 3 (He.ga K "is_tie") ["web", "thing"] (spIsTie K) := by
  obtain ⟨fd, F⟩ := T.f_is_tie
  obtain ⟨_, G_is_place, b_is_place', k_is_place⟩ := F1
  obtain ⟨_, G_Web_tied, b_Web_tied, _⟩ := F2
  refine ⟨fd, F.ok scis_tie (fun vs H Q E h => ?_) (fun cdv A outer s H vs Q E hr h => ?_), b_is_tie F, F.kp⟩
  · obtain ⟨a, ns, es, v, d, rfl, _⟩ := h
    rfl
  · obtain ⟨a, ns, es, v, d, rfl, hw, hd, k⟩ := h
    obtain ⟨dx, dn, od, bd, h1⟩ := hw.ins
    have b_is_place := b_is_place'
    refine ⟨_, PSs.nox (pss_cons (ps_if (PW.pt (pw_or (pt_not (pt_val (pe_callB call_isi (by rfl) T.z_isinstance (by decide +kernel) (pa_cons (pv 1) (pa_cons (pe_bltn (v := .ty "tuple") (u := .type "tuple") (by rfl) T.z_tuple (by decide +kernel) rfl) pa_nil))))) (pw_or1 (pt_cmpR op_ne (pe_callB call_len_seq (by rfl) T.z_len (by decide +kernel) (pa_cons (pv 1) pa_nil)) pe_int (nomark _))))) (pss_one (ps_ret pe_bl)) pss_nil)
    (pss_one (ps_ret (pe_and (pe_call G_is_place (hr.mono (by decide)) rfl T.g_is_place k_is_place b_is_place .nil pass0 (pa_cons (pv 0) (pa_cons (pe_ix ix_tup (pv 1) pe_int (fun _ _ => rfl)) pa_nil))) (pe_and (pe_call G_is_place (hr.mono (by decide)) rfl T.g_is_place k_is_place b_is_place .nil pass0 (pa_cons (pv 0) (pa_cons (pe_ix ix_tup (pv 1) pe_int (fun _ _ => rfl)) pa_nil))) (pe_one (pe_meth (pv 0) T.cl T.m_tied G_Web_tied (hr.mono (by decide)) b_Web_tied .nil pass0 (pa_cons (pe_ix ix_tup (pv 1) pe_int (fun _ _ => rfl)) (pa_cons (pe_ix ix_tup (pv 1) pe_int (fun _ _ => rfl)) pa_nil))))))))), ?_⟩
    refine ⟨_, rfl, _, _, _, _, isT d, rfl, .ty _, ty_of hd, kit_ty (kit_tup d), _, rfl, ?_⟩
    cases hs : isT d with
    | false =>
      refine ifT rfl ?_
      refine ifT rfl ?_
      have q := k H (Same.refl H)
      unfold isTie at q
      rw [pairT_isT hs] at q
      exact q
    | true =>
      obtain ⟨t, xs, ds, rfl, rfl, ht, hx⟩ := isT_inv hd hs
      refine ifF rfl ?_
      by_cases hl : ds.length = 2
      · obtain ⟨x, y, dx', dy, rfl, rfl, q1, q2⟩ := two_of hx hl
        refine ⟨_, rfl, t, _, rfl, .inr (SqT.of ht), rfl, _, rfl, ?_⟩
        refine ifF rfl ?_
        refine ⟨_, rfl, _, rfl, t, _, _, x, rfl, rfl, SqT.of ht, rfl, a, ns, es, x, dx', rfl, hw, q1, fun H1 s1 => ⟨_, rfl, ?_⟩⟩
        cases e1 : isPl ns dx' with
        | false =>
          refine ifF rfl ?_
          have q := k H1 s1
          unfold isTie at q
          show Q (.bl false) H1
          rw [show isTie ns es (.tuple [dx', dy]) = false by show (isPl ns dx' && _) = false; rw [e1]; rfl] at k
          exact k H1 s1
        | true =>
          refine ifT rfl ⟨_, rfl, _, rfl, t, _, _, y, rfl, rfl, SqT.of (s1 _ _ ht), rfl, a, ns, es, y, dy, rfl, hw.mono s1, q2.same s1, fun H2 s2 => ⟨_, rfl, ?_⟩⟩
          have s3 := s1.trans s2
          cases e2 : isPl ns dy with
          | false =>
            refine ifF rfl ?_
            rw [show isTie ns es (.tuple [dx', dy]) = false by show (isPl ns dx' && (isPl ns dy && _)) = false; rw [e1, e2]; rfl] at k
            exact k H2 s3
          | true =>
            obtain ⟨z1, rfl, m1⟩ := isPl_inv e1
            obtain ⟨z2, rfl, m2⟩ := isPl_inv e2
            rw [q1.str_inv, q2.str_inv] at ht
            refine ifT rfl ⟨_, rfl, a, dx, _, rfl, s3 _ _ h1, webF_no _ _ _ (by decide +kernel) (by decide +kernel) (by decide +kernel), ?_⟩
            refine ⟨_, rfl, t, _, _, _, rfl, rfl, SqT.of (s3 _ _ ht), rfl, _, rfl, t, _, _, _, rfl, rfl, SqT.of (s3 _ _ ht), rfl, a, ns, es, z1, z2, rfl, hw.mono s3, m1, m2, ?_⟩
            rw [show isTie ns es (.tuple [.str z1, .str z2]) = adj es z1 z2 by show (isPl ns (.str z1) && (isPl ns (.str z2) && adj es z1 z2)) = _; rw [e1, e2]; rfl] at k
            exact k H2 s3
      · have e : decide (V.int (xs.length : Nat) = V.int 2) = false := decide_eq_false fun q => hl (by rw [← hx.length]; exact Int.natCast_inj.mp (V.int.inj q))
        refine ⟨_, rfl, t, _, rfl, .inr (SqT.of ht), rfl, _, rfl, ?_⟩
        have e2 : (!decide (V.int (xs.length : Nat) = V.int 2)) = true := by rw [e]; rfl
        refine ifT e2 ?_
        have q := k H (Same.refl H)
        unfold isTie at q
        rw [pairT_len hl] at q
        exact q
end
end K27

namespace K27
open PySem PySem.Spec PyProof.Rows L2 KM
theorem drop_cons {α : Type} : ∀ {l : List α} {i : Nat} {x : α}, l[i]? = some x → l.drop i = x :: l.drop (i + 1)
  | [], i, x, h => by simp at h
  | a :: l, 0, x, h => by
    cases h
    rfl
  | a :: l, i + 1, x, h => drop_cons (l := l) (i := i) h
theorem nf_places {a b c : Addr} : (webF a b c).lookup ("places" : Str) = none := webF_no _ _ _ (by decide +kernel) (by decide +kernel) (by decide +kernel)
theorem nf_number_of {a b c : Addr} : (webF a b c).lookup ("number_of" : Str) = none := webF_no _ _ _ (by decide +kernel) (by decide +kernel) (by decide +kernel)
theorem nf_beside {a b c : Addr} : (webF a b c).lookup ("beside" : Str) = none := webF_no _ _ _ (by decide +kernel) (by decide +kernel) (by decide +kernel)
theorem nf_named {a b c : Addr} : (webF a b c).lookup ("named" : Str) = none := webF_no _ _ _ (by decide +kernel) (by decide +kernel) (by decide +kernel)
theorem nf_ties {a b c : Addr} : (webF a b c).lookup ("ties" : Str) = none := webF_no _ _ _ (by decide +kernel) (by decide +kernel) (by decide +kernel)
def tieOf (d : PyData) : Str × Str := match pairT d with
  | some (x, y) => (strD x, strD y)
  | none => (Str.empty, Str.empty)
def pairsL (ns : List Str) (es : List (Str × Str)) : List PyData → List Str → Bool
  | [], _ => true
  | d :: r, seen => isTie ns es d && (!decide ((tieOf d).1 ∈ seen) && (!decide ((tieOf d).2 ∈ seen) && pairsL ns es r ((tieOf d).2 :: (tieOf d).1 :: seen)))
def pairsB (ns : List Str) (es : List (Str × Str)) : PyData → Bool
  | .list ds => pairsL ns es ds []
  | _ => false
theorem pairsB_isL {ns : List Str} {es : List (Str × Str)} {d : PyData} (h : isL d = false) : pairsB ns es d = false := by
  cases d with
  | list z => cases h
  | _ => rfl
theorem merge2 {a b : Str} (h : a ≠ b) (x y : V) : mergeK [] [((Sum.inr a : Key), x), (Sum.inr b, y)] = [((Sum.inr a : Key), x), (Sum.inr b, y)] := by
  have e : (decide ((Sum.inr a : Key) = Sum.inr b)) = false := decide_eq_false fun q => h (Sum.inr.inj q)
  show putK (putK [] (Sum.inr a) x) (Sum.inr b) y = _
  have e1 : putK ([] : List (Key × V)) (Sum.inr a) x = [(Sum.inr a, x)] := rfl
  rw [e1]
  unfold putK
  rw [if_neg]
  · rfl
  · intro q
    obtain ⟨p, hp, q⟩ := List.any_eq_true.mp q
    rw [List.mem_singleton.mp hp] at q
    rw [e] at q
    cases q
section
variable {P : Program} {w : World} {K : PySem.W.Frag} {mg : Str → Option Value} {base : Heap}
/-! ### are_pairs -/
def spArePairs (K : PySem.W.Frag) : Sp := fun vs H Q _ => ∃ (a : Addr) (ns : List Str) (es : List (Str × Str)) (v : V) (d : PyData), vs = [.ref a, v] ∧ WebAt K H a ns es ∧ Wb ns es ∧ Dq H v d ∧ ∀ H', Same H H' → Q (.bl (pairsB ns es d)) H'
theorem ok_are_pairs (T : Tx K mg) (F1 : Fok P w K mg base CX0 3 (He.ga K "is_tie") ["web", "thing"] (spIsTie K)) : Fok P w K mg base CX0 4 (He.ga K "are_pairs") ["web", "thing"] (spArePairs K) := by
  obtain ⟨fd, F⟩ := T.f_are_pairs
  obtain ⟨_, G_is_tie, b_is_tie, k_is_tie⟩ := F1
  refine ⟨fd, F.ok scare_pairs (fun vs H Q E h => ?_) (fun cdv A outer s H vs Q E hr h => ?_), b_are_pairs F, F.kp⟩
  · obtain ⟨a, ns, es, v, d, rfl, _⟩ := h
    rfl
  · obtain ⟨a, ns, es, v, d, rfl, hw, wb, hd, k⟩ := h
    have hu := hu_of hr
    have hl1 : ns.length ≤ 1000 := Nat.le_trans wb.ln (by decide)
    refine ⟨_, PSs.nox (pss_cons (ps_if (pt_not (pt_val (pe_callB call_isi (by rfl) T.z_isinstance (by decide +kernel) (pa_cons (pv 1) (pa_cons (pe_bltn (v := .ty "list") (u := .type "list") (by rfl) T.z_list (by decide +kernel) rfl) pa_nil))))) (pss_one (ps_ret pe_bl)) pss_nil)
    (pss_cons (ps_set (i := 2) scare_pairs.nd rfl (Or.inl rfl) pe_dnewK)
    (pss_cons (ps_for PassesOwn.never rfl (pi_list (pv 1)) (pg_name (i := 3) scare_pairs.nd rfl (Or.inl rfl)) (pss_cons (ps_if (PW.pt (pw_or (pt_not (pt_val (pe_call G_is_tie (hr.mono (by decide)) rfl T.g_is_tie k_is_tie b_is_tie .nil pass0 (pa_cons (pv 0) (pa_cons (pv 3) pa_nil))))) (pw_or (pt_cmp (pc_din hu (pe_ix ix_tup (pv 3) pe_int (fun _ _ => rfl)) (pv 2))) (pw_or1 (pt_cmp (pc_din hu (pe_ix ix_tup (pv 3) pe_int (fun _ _ => rfl)) (pv 2))))))) (pss_one (ps_ret pe_bl)) pss_nil)
    (pss_one (ps_expr (pe_bm PySem.F.plainAttrs_dict PySem.F.slot_dict_update PySem.F.type_dict_update mt_upd (pv 2) (pa_cons (pe_disp (pps_cons (pe_ix ix_tup (pv 3) pe_int (fun _ _ => rfl)) pe_bl (pps_cons (pe_ix ix_tup (pv 3) pe_int (fun _ _ => rfl)) pe_bl pps_nil)) (by rfl) (by rfl) (fun z => by cases z) (by decide)) pa_nil))))))
    (pss_one (ps_ret pe_bl))))), ?_⟩
    refine ⟨_, rfl, _, _, _, _, isL d, rfl, .ty _, ty_of hd, kit_ty (kit_list d), _, rfl, ?_⟩
    cases hs : isL d with
    | false =>
      refine ifT rfl ?_
      have q := k H (Same.refl H)
      rw [pairsB_isL hs] at q
      exact q
    | true =>
      obtain ⟨l, xs, ds, rfl, rfl, hl, hx⟩ := isL_inv hd hs
      refine ifF rfl ?_
      intro sd nsd
      have s0 := same_new (o := .dK []) (Same.refl H) nsd
      refine ⟨_, rfl, l, rfl, ⟨_, SqL.of (s0 _ _ hl)⟩, for_list (K := K) (a := l) (xs := xs) (fun i σ H' => ∃ v3, σ = [some (.ref a), some (.ref l), some (.ref sd), v3] ∧ Same H H' ∧
        ∃ (seen : List Str) (m : Str → Option Bool), DictAt ns H' sd m V.bl ∧ (∀ z, (m z).isSome = decide (z ∈ seen)) ∧ pairsL ns es ds [] = pairsL ns es (ds.drop i) seen)
        ⟨none, rfl, s0, [], _, DictAt.nil upd_same, fun z => (decide_eq_false (fun h => nomatch h)).symm, rfl⟩ (fun i σ H' _ ⟨_, _, s1, _⟩ => SqL.of (s1 _ _ hl)) ?_ ?_⟩
      · rintro i x σ H1 hi ⟨v3, rfl, s1, seen, m, hm, ms, hp⟩
        obtain ⟨d, hdi, hdx⟩ := hx.at_ hi
        rw [drop_cons hdi] at hp
        refine ⟨_, rfl, _, rfl, a, ns, es, x, d, rfl, hw.mono s1, hdx.same s1, fun H2 s2 => ⟨_, rfl, ?_⟩⟩
        cases e1 : isTie ns es d with
        | false =>
          refine ifT rfl (ifT rfl ?_)
          have q := k H2 (s1.trans s2)
          rw [show pairsB ns es (.list ds) = false by show pairsL ns es ds [] = false; rw [hp]; show (isTie ns es d && _) = false; rw [e1]; rfl] at q
          exact q
        | true =>
          obtain ⟨y, z, rfl, hy, hz, ad⟩ := isTie_inv e1
          have ne := (wb.wg.adj ad).2.2
          obtain ⟨t, rfl, ht⟩ := Dq.tie_inv (e := (y, z)) hdx
          have s3 := s1.trans s2
          have hm2 := hm.mono s2
          refine ifF rfl ⟨_, rfl, t, _, _, _, rfl, rfl, SqT.of (s3 _ _ ht), rfl, _, rfl, sd, _, rfl, hm2.get y, _, rfl, ?_⟩
          have gy := ms y
          rw [Option.isSome_map, gy]
          have hp' : pairsL ns es ds [] = (true && (!decide (y ∈ seen) && (!decide (z ∈ seen) && pairsL ns es (ds.drop (i + 1)) (z :: y :: seen)))) := by
            rw [hp, ← e1]
            rfl
          cases e2 : decide (y ∈ seen) with
          | true =>
            refine ifT rfl (ifT rfl ?_)
            have q := k H2 s3
            rw [show pairsB ns es (.list ds) = false by show pairsL ns es ds [] = false; rw [hp', e2]; rfl] at q
            exact q
          | false =>
            refine ifF rfl ⟨_, rfl, t, _, _, _, rfl, rfl, SqT.of (s3 _ _ ht), rfl, _, rfl, sd, _, rfl, hm2.get z, _, rfl, ?_⟩
            rw [Option.isSome_map, ms z]
            cases e3 : decide (z ∈ seen) with
            | true =>
              refine ifT rfl ?_
              have q := k H2 s3
              rw [show pairsB ns es (.list ds) = false by show pairsL ns es ds [] = false; rw [hp', e2, e3]; rfl] at q
              exact q
            | false =>
              refine ifF rfl ?_
              obtain ⟨kvs, hk, ok⟩ := hm2.ex
              refine ⟨_, rfl, .inr (.inr (.inl ⟨rfl, .inl ⟨_, hk⟩⟩)), fun p np => ?_⟩
              have hsp := ne_of_none hk np
              have htp : t ≠ p := ne_of_none (s3 _ _ ht) np
              refine ⟨_, rfl, t, _, _, _, rfl, rfl, SqT.of ((upd_ne htp).trans (s3 _ _ ht)), rfl, _, rfl, t, _, _, _, rfl, rfl, SqT.of ((upd_ne htp).trans (s3 _ _ ht)), rfl, ?_⟩
              refine ⟨upd_same, [((Sum.inr y : Key), .bl true), (Sum.inr z, .bl true)], rfl, (by show 2 ≤ 15; decide), ?_⟩
              rw [upd_upd]
              refine ⟨sd, p, kvs, _, rfl, rfl, hsp, (upd_ne hsp).trans hk, upd_same, ?_, ?_⟩
              · rw [merge2 ne]
                have := KvOk.len ok
                exact Nat.le_trans (Nat.add_le_add_right (Nat.le_trans this hl1) 2) (by decide)
              · rw [merge2 ne]
                have ok2 := KvOk.put (KvOk.put ok true hy) true hz
                refine ⟨_, rfl, same_mut (same_new s3 np) nsd, z :: y :: seen, _, ⟨_, upd_same, ok2⟩, fun u => ?_, ?_⟩
                · by_cases h1 : u = z
                  · rw [h1, put_same]
                    exact (decide_eq_true List.mem_cons_self).symm
                  · rw [put_ne _ _ h1]
                    by_cases h2 : u = y
                    · rw [h2, put_same]
                      exact (decide_eq_true (List.mem_cons_of_mem _ List.mem_cons_self)).symm
                    · rw [put_ne _ _ h2, ms u]
                      refine decide_eq_decide.mpr ⟨fun h => List.mem_cons_of_mem _ (List.mem_cons_of_mem _ h), fun h => ?_⟩
                      rcases List.mem_cons.mp h with h | h
                      · exact absurd h h1
                      · rcases List.mem_cons.mp h with h | h
                        · exact absurd h h2
                        · exact h
                · rw [hp', e2, e3]
                  rfl
      · rintro σ H1 ⟨v3, rfl, s1, seen, m, hm, ms, hp⟩
        have q := k H1 s1
        rw [show pairsB ns es (.list ds) = true by show pairsL ns es ds [] = true; rw [hp, hx.length, List.drop_length]; rfl] at q
        exact q
/-! ### ties -/
def rowT (ns : List Str) (es : List (Str × Str)) (q : Str × Nat) : List (Str × Str) := ((ns.zipIdx.filter fun y => decide (q.2 < y.2) && adj es q.1 y.1).map (·.1)).map fun y => (q.1, y)
def tiesOf (ns : List Str) (es : List (Str × Str)) : List (Str × Str) := ns.zipIdx.flatMap (rowT ns es)
theorem later_bits (n k j : Nat) : ((n / 2 ^ k) * 2 ^ k).testBit j = (decide (k ≤ j) && n.testBit j) := by
  rw [← Nat.shiftRight_eq_div_pow, ← Nat.shiftLeft_eq, Nat.testBit_shiftLeft, Nat.testBit_shiftRight]
  by_cases h : k ≤ j
  · rw [show k + (j - k) = j by omega]
  · have e1 : decide (j ≥ k) = false := decide_eq_false h
    rw [e1]
    rfl
theorem pick_len (ns : List Str) (n : Nat) : (pick ns n).length ≤ ns.length := by
  unfold pick
  rw [List.length_map, ← zi_len ns]
  exact List.length_filter_le _ _
theorem pick_later {ns : List Str} {es : List (Str × Str)} {z : Str} {n k : Nat} (h : ∀ j b, ns[j]? = some b → n.testBit j = adj es z b) :
    (pick ns ((n / 2 ^ (k + 1)) * 2 ^ (k + 1))).map (fun y => (z, y)) = rowT ns es (z, k) := by
  unfold pick rowT
  rw [List.filter_congr (q := fun y => decide (k < y.2) && adj es z y.1) fun q hq => ?_]
  obtain ⟨y, i⟩ := q
  rw [List.mk_mem_zipIdx_iff_getElem?] at hq
  rw [later_bits, h i y hq]
  rfl
theorem zi_take {ns : List Str} {i : Nat} {z : Str} (h : ns[i]? = some z) (es : List (Str × Str)) : (ns.zipIdx.take (i + 1)).flatMap (rowT ns es) = (ns.zipIdx.take i).flatMap (rowT ns es) ++ rowT ns es (z, i) := by
  rw [take_more (zi_at h), List.flatMap_append, List.flatMap_cons, List.flatMap_nil, List.append_nil]
theorem row_len (ns : List Str) (es : List (Str × Str)) (q : Str × Nat) : (rowT ns es q).length ≤ ns.length := by
  unfold rowT
  rw [List.length_map, List.length_map, ← zi_len ns]
  exact List.length_filter_le _ _
theorem rows_len (ns : List Str) (es : List (Str × Str)) : ∀ l : List (Str × Nat), (l.flatMap (rowT ns es)).length ≤ l.length * ns.length
  | [] => Nat.zero_le _
  | q :: l => by
    rw [List.flatMap_cons, List.length_append, List.length_cons, Nat.succ_mul]
    have h1 := row_len ns es q
    have h2 := rows_len ns es l
    omega
theorem ties_off {H : Hp} {p : Addr} {xs : List V} (hp : H p = some (.lst xs)) : ∀ {ts : List V} {es : List (Str × Str)}, Dqs H ts (tD es) → Dqs (off H p) ts (tD es)
  | _, [], h => by
    cases h
    exact .nil
  | _, e :: r, h => by
    cases h with
    | cons a t =>
      obtain ⟨q, rfl, hq⟩ := Dq.tie_inv a
      exact .cons (.tie (by rw [off_ne (ne_of hq hp (by intro z; cases z))]; exact hq)) (ties_off hp t)
theorem GrowI.ext {G H : Hp} {D : Addr} {ds : List PyData} (I : GrowI G D ds H) {us : List V} {es : List PyData} (h : Dqs (off H D) us es) : ∃ ts, H D = some (.lst ts) ∧ ts.length = ds.length ∧ GrowI G D (ds ++ es) (upd H D (.lst (ts ++ us))) := by
  obtain ⟨ts, e, t⟩ := I.ex
  refine ⟨ts, e, t.length, same_mut I.same I.new, I.new, _, upd_same, ?_⟩
  rw [off_upd]
  exact t.append h
def spTies (K : PySem.W.Frag) : Sp := fun vs H Q _ => ∃ (a : Addr) (ns : List Str) (es : List (Str × Str)), vs = [.ref a] ∧ WebAt K H a ns es ∧ Wb ns es ∧ ∀ H' p, Same H H' → Dq H' (.ref p) (.list (tD (tiesOf ns es))) → Q (.ref p) H'
theorem ok_ties (T : Tx K mg) (F1 : Fok P w K mg base CX0 1 (mW K "named") ["self", "bits"] (spNamed K)) : Fok P w K mg base CX0 2 (mW K "ties") ["self"] (spTies K) := by
  obtain ⟨fd, F⟩ := T.f_Web_ties
  obtain ⟨_, G_Web_named, b_Web_named, _⟩ := F1
  refine ⟨fd, F.ok scWeb_ties (fun vs H Q E h => ?_) (fun cdv A outer s H vs Q E hr h => ?_), b_Web_ties F, F.kp⟩
  · obtain ⟨a, ns, es, rfl, _⟩ := h
    rfl
  · obtain ⟨a, ns, es, rfl, hw, wb, k⟩ := h
    obtain ⟨dx, dn, od, bd, B, h1, h2, h3, h4, h5⟩ := hw.ex
    have hl1 : ns.length ≤ 14 := wb.ln
    refine ⟨_, PSs.nox (pss_cons (ps_set (i := 1) scWeb_ties.nd rfl (Or.inl rfl) (pe_lst pa_nil))
    (pss_cons (ps_for PassesOwn.never rfl (pi_enum (by rfl) T.z_enumerate (pa_cons (pe_fld (pv 0) rfl) pa_nil)) (pg_tup rfl (pgs_cons (pg_name (i := 2) scWeb_ties.nd rfl (Or.inl rfl)) (pgs_cons (pg_name (i := 3) scWeb_ties.nd rfl (Or.inr rfl)) pgs_nil))) (pss_cons (ps_set (i := 4) scWeb_ties.nd rfl (Or.inl rfl) (pe_op op_shl (pe_op op_shrN (pe_ix ix_list (pe_fld (pv 0) rfl) (pv 2) (fun _ _ => rfl)) (pe_op op_add (pv 2) pe_int)) (pe_op op_add (pv 2) pe_int)))
    (pss_one (ps_expr (pe_bm PySem.F.plainAttrs_list PySem.F.slot_list_extend PySem.F.type_list_extend mt_extend (pv 1) (pa_cons (pe_lc (own := [("other", 5)]) rfl scWeb_ties.nd (pi_list (pe_meth (pv 0) T.cl T.m_named G_Web_named (hr.mono (by decide)) b_Web_named .nil pass0 (pa_cons (pv 4) pa_nil))) (blkOk_by (own := [("other", 5)]) (N := NWeb_ties) (sc := defScope sWeb_ties) (by decide +kernel)) (fun _ _ _ _ _ => (pg_name (i := 5) scWeb_ties.nd rfl (Or.inl rfl))) (fun _ _ _ _ _ => pts_nil) (fun _ _ _ _ _ => (pe_tup (pa_cons (pv 3) (pa_cons (pv 5) pa_nil))))) pa_nil))))))
    (pss_one (ps_ret (pv 1))))), ?_⟩
    refine ⟨Nat.zero_le _, fun p np => ?_⟩
    have I0 := GrowI.nil (Same.refl H) np
    refine ⟨_, rfl, a, cWeb K, dx, _, _, rfl, I0.same _ _ h1, T.cl, T.no_order, webF_order _ _ _, od, _, rfl, SqL.of (I0.same _ _ h3), ?_⟩
    refine for_it walk_enum (fun i σ H' => ∃ v2 v3 v4 v5, σ = [some (.ref a), some (.ref p), v2, v3, v4, v5] ∧ GrowI H p (tD ((ns.zipIdx.take i).flatMap (rowT ns es))) H')
      ⟨none, none, none, none, rfl, I0⟩ (fun i σ H' _ ⟨_, _, _, _, _, I⟩ => SqL.of (I.same _ _ h3)) ?_ ?_
    · rintro i x σ H1 H2 hi ⟨v2, v3, v4, v5, rfl, I⟩ ⟨t, x1, x2, rfl, ht, rfl, e1, e2⟩
      cases e1
      obtain ⟨z, hz, rfl⟩ := nv_at e2
      have hzn : z ∈ ns := List.mem_of_getElem? hz
      have s1 := same_new (o := .tup [.int (i : Nat), .str z]) (Same.refl H1) ht
      have I1 := I.step s1
      have s2 := I1.same
      obtain ⟨n, q1, q2, q3⟩ := web_bit h5 hzn
      rw [idx_get wb.wg.nd hz] at q1
      refine ⟨t, _, rfl, SqT.of upd_same, rfl, _, _, rfl, _, _, rfl, rfl, ?_⟩
      refine ⟨_, rfl, a, cWeb K, dx, _, _, rfl, s2 _ _ h1, T.cl, T.no_bits, webF_bits _ _ _, _, rfl, _, _, _, _, rfl, rfl, SqL.of (s2 _ _ h4), iv_at q1, ?_⟩
      refine ⟨_, rfl, _, _, rfl, rfl, n, i + 1, rfl, rfl, ?_⟩
      refine ⟨_, rfl, _, _, rfl, rfl, _, _, rfl, rfl, ?_, ?_⟩
      · refine ⟨Int.natCast_nonneg (i + 1), ?_, ?_⟩
        · rw [nv_len] at hi
          show ((i + 1 : Nat) : Int) ≤ 1000000
          omega
        · rw [div_cast]
          show n / 2 ^ (i + 1) < 2 ^ 64
          exact Nat.lt_of_le_of_lt (Nat.div_le_self _ _) (Nat.lt_trans q2 (by decide))
      · have e : ((n : Int) / 2 ^ (i + 1)) * 2 ^ (((i : Int) + 1).toNat) = (((n / 2 ^ (i + 1)) * 2 ^ (i + 1) : Nat) : Int) := by
          rw [div_cast, Int.natCast_mul, Int.natCast_pow]
          rfl
        obtain ⟨ts0, ht0, hlen0⟩ := I1.len
        refine ⟨_, rfl, .inl ⟨rfl, _, SqL.of ht0⟩, ?_⟩
        refine ⟨_, rfl, a, dx, _, rfl, s2 _ _ h1, nf_named, _, rfl, a, ns, es, (n / 2 ^ (i + 1)) * 2 ^ (i + 1), congrArg (fun u => [V.ref a, V.int u]) e, hw.mono s2, wb, fun H3 q s3 nq hq => ?_⟩
        refine ⟨q, rfl, ⟨_, SqL.of hq⟩, fun D nD => ?_⟩
        refine lc_list (K := K) (a := q) (xs := nv (pick ns ((n / 2 ^ (i + 1)) * 2 ^ (i + 1)))) (fun j H4 => GrowI H3 D (tD (((pick ns ((n / 2 ^ (i + 1)) * 2 ^ (i + 1))).take j).map fun y => (z, y))) H4) (GrowI.nil (Same.refl H3) nD) (fun j H4 _ J => SqL.of (J.same _ _ hq)) ?_ ?_
        · intro j x H4 hj J
          obtain ⟨y, hy, rfl⟩ := nv_at hj
          refine ⟨rfl, _, rfl, _, rfl, (by show 2 ≤ sizeLine; decide), fun r nr => ?_⟩
          obtain ⟨acc, g1, _⟩ := J.len
          have := J.push (same_new (o := .tup [.str z, .str y]) (Same.refl H4) nr) (.tie (e := (z, y)) (off_new nr g1)) (by
            unfold tD
            rw [List.length_map, List.length_map, List.length_take]
            have := pick_len ns ((n / 2 ^ (i + 1)) * 2 ^ (i + 1))
            omega)
          rw [take_more hy, List.map_append]
          unfold tD at this ⊢
          rw [List.map_append]
          exact this
        · intro H4 J
          rw [nv_len, List.take_length, pick_later q3] at J
          obtain ⟨_, us, eD, hD, hus⟩ := J.done.list_inv
          cases eD
          have I4 := (I1.step s3).step J.same
          obtain ⟨ts4, hp4, hlen4⟩ := I4.len
          obtain ⟨ts5, hp5, hlen5, I5⟩ := I4.ext (ties_off hp4 hus)
          rw [hp4] at hp5
          cases hp5
          refine ⟨p, D, _, _, rfl, rfl, hp4, hD, ?_, ?_⟩
          · have l1 := hus.length
            unfold tD at l1 hlen4
            rw [List.length_map] at l1 hlen4
            have l2 := row_len ns es (z, i)
            have l3 := rows_len ns es (ns.zipIdx.take i)
            rw [List.length_take, zi_len] at l3
            have l4 : min i ns.length * ns.length ≤ 14 * 14 := Nat.mul_le_mul (by omega) hl1
            have : (200000 : Nat) ≤ sizeLine := by decide
            omega
          · refine ⟨_, _, _, _, rfl, ?_⟩
            rw [zi_take hz]
            unfold tD at I5 ⊢
            rw [List.map_append]
            exact I5
    · rintro σ H1 ⟨v2, v3, v4, v5, rfl, I⟩
      rw [nv_len, ← zi_len ns, List.take_length] at I
      exact ⟨_, rfl, k _ _ I.same I.done⟩
end
end K27

namespace K27
open PySem PySem.Spec PyProof.Rows L2 KM
/-! slices -/
theorem cut_to (xs : List V) (k : Nat) : cutV xs none (some (k : Int)) = xs.take k := by
  unfold cutV
  rw [HT.sIx_none, HT.sIx_nat, List.drop_zero, Nat.sub_zero]
  by_cases h : k ≤ xs.length
  · rw [Nat.min_eq_left h]
  · rw [Nat.min_eq_right (by omega), List.take_length, List.take_of_length_le (by omega)]
theorem cut_from (xs : List V) (k : Nat) : cutV xs (some (k : Int)) none = xs.drop k := by
  unfold cutV
  rw [HT.sIx_none, HT.sIx_nat]
  by_cases h : k ≤ xs.length
  · rw [Nat.min_eq_left h, List.take_of_length_le (by rw [List.length_drop]; exact Nat.le_refl _)]
  · rw [Nat.min_eq_right (by omega), List.drop_length, List.drop_of_length_le (by omega), List.take_nil]
/-! ### what is_cover asks -/
def coverN (ns : List Str) : List PyData → List Str → Option (List Str)
  | [], seen => some seen
  | d :: r, seen => if (isPl ns d && !decide (strD d ∈ seen)) = true then coverN ns r (seen ++ [strD d]) else none
def coversB (es : List (Str × Str)) (C : List Str) : Bool := es.all fun e => decide (e.1 ∈ C) || decide (e.2 ∈ C)
def coverB (ns : List Str) (es : List (Str × Str)) : PyData → Bool
  | .list ds => match coverN ns ds [] with
    | none => false
    | some C => coversB es C
  | _ => false
theorem coverB_isL {ns : List Str} {es : List (Str × Str)} {d : PyData} (h : isL d = false) : coverB ns es d = false := by
  cases d with
  | list z => cases h
  | _ => rfl
def lenD : PyData → Nat
  | .list ds => ds.length
  | _ => 0
def showsB (ns : List Str) (es : List (Str × Str)) (d : PyData) : Bool := match pairT d with
  | some (x, y) => pairsB ns es x && (coverB ns es y && decide (lenD x = lenD y))
  | none => false
theorem mem_ties {ns : List Str} {es : List (Str × Str)} (wg : Wg ns es) {a b : Str} : (a, b) ∈ tiesOf ns es ↔ adj es a b = true ∧ ns.idxOf a < ns.idxOf b := by
  unfold tiesOf
  rw [List.mem_flatMap]
  constructor
  · rintro ⟨⟨z, k⟩, hq, h⟩
    rw [List.mk_mem_zipIdx_iff_getElem?] at hq
    unfold rowT at h
    rw [List.mem_map] at h
    obtain ⟨y, hy, e⟩ := h
    rw [List.mem_map] at hy
    obtain ⟨⟨y', j⟩, hy, e2⟩ := hy
    rw [List.mem_filter] at hy
    obtain ⟨h1, h2⟩ := hy
    rw [List.mk_mem_zipIdx_iff_getElem?] at h1
    obtain ⟨h3, h4⟩ := Bool.and_eq_true_iff.mp h2
    cases e
    cases e2
    refine ⟨h4, ?_⟩
    rw [idx_get wg.nd hq, idx_get wg.nd h1]
    exact of_decide_eq_true h3
  · rintro ⟨ad, lt⟩
    obtain ⟨an, bn, _⟩ := wg.adj ad
    refine ⟨(a, ns.idxOf a), List.mk_mem_zipIdx_iff_getElem?.mpr (idx_at an), ?_⟩
    unfold rowT
    refine List.mem_map.mpr ⟨b, List.mem_map.mpr ⟨(b, ns.idxOf b), List.mem_filter.mpr ⟨List.mk_mem_zipIdx_iff_getElem?.mpr (idx_at bn), ?_⟩, rfl⟩, rfl⟩
    exact Bool.and_eq_true_iff.mpr ⟨decide_eq_true lt, ad⟩
theorem idx_ne {ns : List Str} {a b : Str} (ha : a ∈ ns) (hb : b ∈ ns) (h : a ≠ b) : ns.idxOf a ≠ ns.idxOf b := fun e => h (by
  have q1 := idx_at ha
  rw [e, idx_at hb] at q1
  exact (Option.some.inj q1).symm)
theorem ties_all {ns : List Str} {es : List (Str × Str)} (wg : Wg ns es) {f : Str × Str → Bool} (sy : ∀ a b, f (a, b) = f (b, a)) : (tiesOf ns es).all f = es.all f := by
  refine Bool.eq_iff_iff.mpr ?_
  rw [List.all_eq_true, List.all_eq_true]
  constructor
  · rintro h ⟨a, b⟩ he
    obtain ⟨an, bn, ne⟩ := wg.mem _ he
    have ad : adj es a b = true := adj_iff.mpr (.inl he)
    rcases Nat.lt_or_gt_of_ne (idx_ne an bn ne) with q | q
    · exact h _ ((mem_ties wg).mpr ⟨ad, q⟩)
    · rw [sy]
      exact h _ ((mem_ties wg).mpr ⟨by rw [adj_comm]; exact ad, q⟩)
  · rintro h ⟨a, b⟩ he
    rcases adj_iff.mp ((mem_ties wg).mp he).1 with q | q
    · exact h _ q
    · rw [sy]
      exact h _ q
theorem ties_len {ns : List Str} {es : List (Str × Str)} (h : ns.length ≤ 14) : (tiesOf ns es).length ≤ 1000 := by
  have q := rows_len ns es ns.zipIdx
  rw [zi_len] at q
  have : ns.length * ns.length ≤ 14 * 14 := Nat.mul_le_mul h h
  unfold tiesOf
  omega
section
variable {P : Program} {w : World} {K : PySem.W.Frag} {mg : Str → Option Value} {base : Heap}
def spIsCover (K : PySem.W.Frag) : Sp := fun vs H Q _ => ∃ (a : Addr) (ns : List Str) (es : List (Str × Str)) (v : V) (d : PyData), vs = [.ref a, v] ∧ WebAt K H a ns es ∧ Wb ns es ∧ Dq H v d ∧ ∀ H', Same H H' → Q (.bl (coverB ns es d)) H'
theorem ok_is_cover (T : Tx K mg) (F1 : Fok P w K mg base CX0 2 (He.ga K "is_place") ["web", "thing"] (spIsPlace K)) (F2 : Fok P w K mg base CX0 2 (mW K "ties") ["self"] (spTies K)) :
    Fok P w K mg base CX0 3 (He.ga K "is_cover") ["web", "thing"] (spIsCover K) := by
  obtain ⟨fd, F⟩ := T.f_is_cover
  obtain ⟨_, G_is_place, b_is_place, k_is_place⟩ := F1
  obtain ⟨_, G_Web_ties, b_Web_ties, _⟩ := F2
  refine ⟨fd, F.ok scis_cover (fun vs H Q E h => ?_) (fun cdv A outer s H vs Q E hr h => ?_), b_is_cover F, F.kp⟩
  · obtain ⟨a, ns, es, v, d, rfl, _⟩ := h
    rfl
  · obtain ⟨a, ns, es, v, d, rfl, hw, wb, hd, k⟩ := h
    obtain ⟨dx, dn, od, bd, h1⟩ := hw.ins
    refine ⟨_, PSs.nox (pss_cons (ps_if (pt_not (pt_val (pe_callB call_isi (by rfl) T.z_isinstance (by decide +kernel) (pa_cons (pv 1) (pa_cons (pe_bltn (v := .ty "list") (u := .type "list") (by rfl) T.z_list (by decide +kernel) rfl) pa_nil))))) (pss_one (ps_ret pe_bl)) pss_nil)
    (pss_cons (ps_for PassesOwn.never rfl (pi_enum (by rfl) T.z_enumerate (pa_cons (pv 1) pa_nil)) (pg_tup rfl (pgs_cons (pg_name (i := 2) scis_cover.nd rfl (Or.inl rfl)) (pgs_cons (pg_name (i := 3) scis_cover.nd rfl (Or.inl rfl)) pgs_nil))) (pss_one (ps_if (PW.pt (pw_or (pt_not (pt_val (pe_call G_is_place (hr.mono (by decide)) rfl T.g_is_place k_is_place b_is_place .nil pass0 (pa_cons (pv 0) (pa_cons (pv 3) pa_nil))))) (pw_or1 (pt_cmpR op_in_seq (pv 3) (pe_slice sl_list (pv 1) po_none (po_some (pv 2))) (by first | exact nomark _ | rfl))))) (pss_one (ps_ret pe_bl)) pss_nil)))
    (pss_one (ps_ret (pe_callB (cr_all rfl) (by rfl) T.z_all (by decide +kernel) (pa_cons (pe_lc (own := [("one", 4), ("other", 5)]) rfl scis_cover.nd (pi_list (pe_meth0 (pv 0) T.cl T.m_ties G_Web_ties (hr.mono (by decide)) b_Web_ties .nil pass0)) (blkOk_by (own := [("one", 4), ("other", 5)]) (N := Nis_cover) (sc := defScope sis_cover) (by decide +kernel)) (fun _ _ _ _ _ => (pg_tupK (K := K) (n := 2) rfl rfl (pgs_cons (pg_name (i := 4) scis_cover.nd rfl (Or.inl rfl)) (pgs_cons (pg_name (i := 5) scis_cover.nd rfl (Or.inl rfl)) pgs_nil)))) (fun _ _ _ _ _ => pts_nil) (fun _ _ _ _ _ => (pe_or (pe_cmpR (op_in_seqK (K := K) rfl) (pv 4) (pv 1) (by first | exact nomark _ | rfl)) (pe_one (pe_cmpR (op_in_seqK (K := K) rfl) (pv 5) (pv 1) (by first | exact nomark _ | rfl)))))) pa_nil)))))), ?_⟩
    refine ⟨_, rfl, _, _, _, _, isL d, rfl, .ty _, ty_of hd, kit_ty (kit_list d), _, rfl, ?_⟩
    cases hs : isL d with
    | false =>
      refine ifT rfl ?_
      have q := k H (Same.refl H)
      rw [coverB_isL hs] at q
      exact q
    | true =>
      obtain ⟨l, xs, ds, rfl, rfl, hl, hx⟩ := isL_inv hd hs
      refine ifF rfl ?_
      refine ⟨_, rfl, l, _, rfl, SqL.of hl, ?_⟩
      refine for_it walk_enum (fun i σ H' => ∃ v2 v3, σ = [some (.ref a), some (.ref l), v2, v3, none, none] ∧ Same H H' ∧ ∃ seen : List Str, xs.take i = nv seen ∧ coverN ns ds [] = coverN ns (ds.drop i) seen)
        ⟨none, none, rfl, Same.refl H, [], rfl, rfl⟩ (fun i σ H' _ ⟨_, _, _, s1, _⟩ => SqL.of (s1 _ _ hl)) ?_ ?_
      · rintro i x σ H1 H2 hi ⟨v2, v3, rfl, s1, seen, hseen, hc⟩ ⟨t, x1, x2, rfl, ht, rfl, e1, e2⟩
        cases e1
        obtain ⟨d, hdi, hdx⟩ := hx.at_ e2
        rw [drop_cons hdi] at hc
        have s2 := same_new (o := .tup [.int (i : Nat), x2]) s1 ht
        refine ⟨t, _, rfl, SqT.of upd_same, rfl, _, _, rfl, _, _, rfl, rfl, ?_⟩
        refine ⟨_, rfl, _, rfl, a, ns, es, x2, d, rfl, hw.mono s2, hdx.same s2, fun H2 s3 => ⟨_, rfl, ?_⟩⟩
        have s4 := s2.trans s3
        cases e1 : isPl ns d with
        | false =>
          refine ifT rfl (ifT rfl ?_)
          have q := k H2 s4
          rw [show coverB ns es (.list ds) = false by show (match coverN ns ds [] with | none => false | some C => coversB es C) = false; rw [hc]; unfold coverN; rw [e1]; rfl] at q
          exact q
        | true =>
          obtain ⟨z, rfl, hz⟩ := isPl_inv e1
          obtain rfl := hdx.str_inv
          refine ifF rfl ⟨_, rfl, _, rfl, _, rfl, _, rfl, l, _, rfl, SqL.of (s4 _ _ hl), fun q nq => ?_⟩
          rw [cut_to, hseen]
          have s5 := same_new (o := .lst (nv seen)) s4 nq
          refine ⟨q, _, rfl, .inl (SqL.of upd_same), rfl, nv_flat _, _, rfl, ?_⟩
          rw [inV_nv]
          have hc' : coverN ns ds [] = if (true && !decide (z ∈ seen)) = true then coverN ns (ds.drop (i + 1)) (seen ++ [z]) else none := by
            rw [hc]
            conv => lhs; unfold coverN
            rw [e1]
            rfl
          cases e2' : decide (z ∈ seen) with
          | true =>
            refine ifT rfl ?_
            have q := k _ s5
            rw [show coverB ns es (.list ds) = false by show (match coverN ns ds [] with | none => false | some C => coversB es C) = false; rw [hc', e2']; rfl] at q
            exact q
          | false =>
            refine ifF rfl ?_
            refine ⟨_, _, rfl, s5, seen ++ [z], ?_, ?_⟩
            · rw [take_more e2, hseen]
              unfold nv
              rw [List.map_append]
              rfl
            · rw [hc', e2']
              rfl
      · rintro σ H1 ⟨v2, v3, rfl, s1, C, hC, hc⟩
        rw [List.take_length] at hC
        rw [hx.length, List.drop_length] at hc
        have hc : coverN ns ds [] = some C := hc
        subst hC
        refine ⟨_, rfl, a, dx, _, rfl, s1 _ _ h1, nf_ties, a, ns, es, rfl, hw.mono s1, wb, fun H2 p s2 hp => ?_⟩
        obtain ⟨_, ts, ep, hpl, hts⟩ := hp.list_inv
        cases ep
        have s3 := s1.trans s2
        refine ⟨p, rfl, ⟨_, SqL.of hpl⟩, fun D nD => ?_⟩
        have hln := ties_len (es := es) wb.ln
        refine lc_list (K := K) (a := p) (xs := ts) (fun j H4 => SelI H2 D (tiesOf ns es) (fun _ => true) (fun e => .bl (decide (e.1 ∈ C) || decide (e.2 ∈ C))) j H4) (SelI.nil (Same.refl H2) nD) (fun j H4 _ J => SqL.of (J.same _ _ hpl)) ?_ ?_
        · intro j x H4 hj J
          obtain ⟨⟨y, z⟩, t, he, rfl, ht⟩ := ties_at hts hj
          have ht4 := J.same _ _ ht
          have hl4 := J.same _ _ (s3 _ _ hl)
          refine ⟨t, _, rfl, SqT.of ht4, rfl, _, _, rfl, _, _, rfl, rfl, rfl, ?_⟩
          refine ⟨_, rfl, _, rfl, l, _, rfl, .inl (SqL.of hl4), rfl, nv_flat _, _, rfl, ?_⟩
          rw [inV_nv]
          cases e3 : decide (y ∈ C) with
          | true =>
            refine ifT rfl ?_
            exact J.yes he (Same.refl H4) rfl (by rw [show decide ((y, z).1 ∈ C) = true from e3]; rfl) hln
          | false =>
            refine ifF rfl ⟨_, rfl, _, rfl, l, _, rfl, .inl (SqL.of hl4), rfl, nv_flat _, ?_⟩
            refine J.yes he (Same.refl H4) rfl ?_ hln
            rw [show decide ((y, z).1 ∈ C) = false from e3]
            show V.bl (inV (.str z) (nv C)) = _
            rw [inV_nv]
            rfl
        · intro H4 J
          have hll : ts.length = (tiesOf ns es).length := by
            have := hts.length
            unfold tD at this
            rw [List.length_map] at this
            exact this
          rw [hll] at J
          have q := J.done
          refine ⟨D, (tiesOf ns es).map (fun e => decide (e.1 ∈ C) || decide (e.2 ∈ C)), rfl, SqL.of ?_, ?_⟩
          · rw [q, List.filter_eq_self.mpr (fun _ _ => rfl), List.map_map]
            rfl
          · have r := k H4 (s3.trans J.same)
            rw [show coverB ns es (.list ds) = ((tiesOf ns es).map (fun e => decide (e.1 ∈ C) || decide (e.2 ∈ C))).all id by
              show (match coverN ns ds [] with | none => false | some C => coversB es C) = _
              rw [hc, List.all_map]
              exact (ties_all wb.wg (f := fun e => decide (e.1 ∈ C) || decide (e.2 ∈ C)) fun a b => Bool.or_comm _ _).symm] at r
            exact r
def spShows (K : PySem.W.Frag) : Sp := fun vs H Q _ => ∃ (a : Addr) (ns : List Str) (es : List (Str × Str)) (v : V) (d : PyData), vs = [.ref a, v] ∧ WebAt K H a ns es ∧ Wb ns es ∧ Dq H v d ∧ ∀ H', Same H H' → Q (.bl (showsB ns es d)) H'
theorem pairsB_inv {ns : List Str} {es : List (Str × Str)} {d : PyData} (h : pairsB ns es d = true) : isL d = true := by
  cases q : isL d with
  | true => rfl
  | false =>
    rw [pairsB_isL q] at h
    cases h
theorem coverB_inv {ns : List Str} {es : List (Str × Str)} {d : PyData} (h : coverB ns es d = true) : isL d = true := by
  cases q : isL d with
  | true => rfl
  | false =>
    rw [coverB_isL q] at h
    cases h
theorem ok_shows_cover (T : Tx K mg) (F1 : Fok P w K mg base CX0 4 (He.ga K "are_pairs") ["web", "thing"] (spArePairs K)) (F2 : Fok P w K mg base CX0 3 (He.ga K "is_cover") ["web", "thing"] (spIsCover K)) :
    Fok P w K mg base CX0 5 (He.ga K "shows_cover") ["web", "thing"] (spShows K) := by
  obtain ⟨fd, F⟩ := T.f_shows_cover
  obtain ⟨_, G_are_pairs, b_are_pairs, k_are_pairs⟩ := F1
  obtain ⟨_, G_is_cover, b_is_cover, k_is_cover⟩ := F2
  refine ⟨fd, F.ok scshows_cover (fun vs H Q E h => ?_) (fun cdv A outer s H vs Q E hr h => ?_), b_shows_cover F, F.kp⟩
  · obtain ⟨a, ns, es, v, d, rfl, _⟩ := h
    rfl
  · obtain ⟨a, ns, es, v, d, rfl, hw, wb, hd, k⟩ := h
    refine ⟨_, PSs.nox (pss_cons (ps_if (PW.pt (pw_or (pt_not (pt_val (pe_callB call_isi (by rfl) T.z_isinstance (by decide +kernel) (pa_cons (pv 1) (pa_cons (pe_bltn (v := .ty "tuple") (u := .type "tuple") (by rfl) T.z_tuple (by decide +kernel) rfl) pa_nil))))) (pw_or1 (pt_cmpR op_ne (pe_callB call_len_seq (by rfl) T.z_len (by decide +kernel) (pa_cons (pv 1) pa_nil)) pe_int (nomark _))))) (pss_one (ps_ret pe_bl)) pss_nil)
    (pss_one (ps_ret (pe_and (pe_call G_are_pairs (hr.mono (by decide)) rfl T.g_are_pairs k_are_pairs b_are_pairs .nil pass0 (pa_cons (pv 0) (pa_cons (pe_ix ix_tup (pv 1) pe_int (fun _ _ => rfl)) pa_nil))) (pe_and (pe_call G_is_cover (hr.mono (by decide)) rfl T.g_is_cover k_is_cover b_is_cover .nil pass0 (pa_cons (pv 0) (pa_cons (pe_ix ix_tup (pv 1) pe_int (fun _ _ => rfl)) pa_nil))) (pe_one (pe_cmpR op_eq (pe_callB call_len_seq (by rfl) T.z_len (by decide +kernel) (pa_cons (pe_ix ix_tup (pv 1) pe_int (fun _ _ => rfl)) pa_nil)) (pe_callB call_len_seq (by rfl) T.z_len (by decide +kernel) (pa_cons (pe_ix ix_tup (pv 1) pe_int (fun _ _ => rfl)) pa_nil)) (nomark _)))))))), ?_⟩
    refine ⟨_, rfl, _, _, _, _, isT d, rfl, .ty _, ty_of hd, kit_ty (kit_tup d), _, rfl, ?_⟩
    cases hs : isT d with
    | false =>
      refine ifT rfl ?_
      refine ifT rfl ?_
      have q := k H (Same.refl H)
      unfold showsB at q
      rw [pairT_isT hs] at q
      exact q
    | true =>
      obtain ⟨t, xs, ds, rfl, rfl, ht, hx⟩ := isT_inv hd hs
      refine ifF rfl ?_
      by_cases hl : ds.length = 2
      · obtain ⟨x, y, p, c, rfl, rfl, q1, q2⟩ := two_of hx hl
        refine ⟨_, rfl, t, _, rfl, .inr (SqT.of ht), rfl, _, rfl, ?_⟩
        refine ifF rfl ?_
        have ke : showsB ns es (.tuple [p, c]) = (pairsB ns es p && (coverB ns es c && decide (lenD p = lenD c))) := rfl
        refine ⟨_, rfl, _, rfl, t, _, _, x, rfl, rfl, SqT.of ht, rfl, a, ns, es, x, p, rfl, hw, wb, q1, fun H1 s1 => ⟨_, rfl, ?_⟩⟩
        cases e1 : pairsB ns es p with
        | false =>
          refine ifF rfl ?_
          rw [ke, e1] at k
          exact k H1 s1
        | true =>
          refine ifT rfl ⟨_, rfl, _, rfl, t, _, _, y, rfl, rfl, SqT.of (s1 _ _ ht), rfl, a, ns, es, y, c, rfl, hw.mono s1, wb, q2.same s1, fun H2 s2 => ⟨_, rfl, ?_⟩⟩
          have s3 := s1.trans s2
          cases e2 : coverB ns es c with
          | false =>
            refine ifF rfl ?_
            rw [ke, e1, e2] at k
            exact k H2 s3
          | true =>
            obtain ⟨l1, xs1, ds1, rfl, rfl, hl1, hx1⟩ := isL_inv q1 (pairsB_inv e1)
            obtain ⟨l2, xs2, ds2, rfl, rfl, hl2, hx2⟩ := isL_inv q2 (coverB_inv e2)
            refine ifT rfl ⟨_, rfl, t, _, _, _, rfl, rfl, SqT.of (s3 _ _ ht), rfl, l1, _, rfl, .inl (SqL.of (s3 _ _ hl1)), _, rfl, t, _, _, _, rfl, rfl, SqT.of (s3 _ _ ht), rfl, l2, _, rfl, .inl (SqL.of (s3 _ _ hl2)), rfl, ?_⟩
            have r := k H2 s3
            rw [ke, e1, e2] at r
            have e3 : decide (V.int (xs1.length : Nat) = V.int (xs2.length : Nat)) = (true && (true && decide (lenD (.list ds1) = lenD (.list ds2)))) := by
              rw [hx1.length, hx2.length]
              exact decide_eq_decide.mpr ⟨fun h => Int.natCast_inj.mp (V.int.inj h), fun h => congrArg (fun n : Nat => V.int (n : Int)) h⟩
            show Q (.bl (decide (V.int (xs1.length : Nat) = V.int (xs2.length : Nat)))) H2
            rw [e3]
            exact r
      · have e : decide (V.int (xs.length : Nat) = V.int 2) = false := decide_eq_false fun q => hl (by rw [← hx.length]; exact Int.natCast_inj.mp (V.int.inj q))
        refine ⟨_, rfl, t, _, rfl, .inr (SqT.of ht), rfl, _, rfl, ?_⟩
        have e2 : (!decide (V.int (xs.length : Nat) = V.int 2)) = true := by rw [e]; rfl
        refine ifT e2 ?_
        have q := k H (Same.refl H)
        unfold showsB at q
        rw [pairT_len hl] at q
        exact q
end
end K27

namespace K27
open PySem PySem.Spec PyProof.Rows L2 KM
/-! ### compared data -/
mutual
theorem Dq.dp {K : PySem.W.Frag} {H : Hp} : ∀ (d : PyData) (v : V), Dq H v d → d.canLay0 = true → Dp K H v d
  | .none, _, h, _ => by
    cases h
    exact .non
  | .bool b, _, h, _ => by
    cases h
    exact .bl b
  | .int i, _, h, _ => by
    cases h
    exact .int i
  | .str x, _, h, _ => by
    cases h
    exact .str x
  | .list ds, _, h, c => by
    cases h with
    | lst e t => exact .lst (SqL.of e) (Dqs.dp ds _ t (by simpa [PyData.canLay0] using c))
  | .tuple ds, _, h, c => by
    cases h with
    | tup e t => exact .tup (SqT.of e) (Dqs.dp ds _ t (by simpa [PyData.canLay0] using c))
  | .dict kvs, _, h, c => by simp [PyData.canLay0] at c
theorem Dqs.dp {K : PySem.W.Frag} {H : Hp} : ∀ (ds : List PyData) (vs : List V), Dqs H vs ds → PyData.canLayAll0 ds = true → DpAll K H vs ds
  | [], _, h, _ => by
    cases h
    exact .nil
  | d :: ds, _, h, c => by
    have c' : d.canLay0 = true ∧ PyData.canLayAll0 ds = true := by simpa [PyData.canLayAll0] using c
    cases h with
    | cons a t => exact .cons (Dq.dp d _ a c'.1) (Dqs.dp ds _ t c'.2)
end
def sOk (z : Str) : Prop := PyData.canLay0 (.str z) = true
theorem canN : ∀ {l : List Str}, (∀ z ∈ l, sOk z) → PyData.canLayAll0 (nD l) = true
  | [], _ => by simp [nD, PyData.canLayAll0]
  | z :: r, h => by
    show PyData.canLayAll0 (PyData.str z :: nD r) = true
    rw [PyData.canLayAll0, show PyData.canLay0 (.str z) = true from h z List.mem_cons_self, canN fun y hy => h y (List.mem_cons_of_mem _ hy)]
    rfl
theorem depN : ∀ l : List Str, PyData.depthAll (nD l) = 0
  | [] => by simp [nD, PyData.depthAll]
  | z :: r => by
    show PyData.depthAll (PyData.str z :: nD r) = 0
    rw [PyData.depthAll, depN r, PyData.depth]
    rfl
theorem shN {l : List Str} (h : ∀ z ∈ l, sOk z) : SeqAt.shaped (.list (nD l)) = true := by
  unfold SeqAt.shaped
  rw [PyData.canLay0, canN h, PyData.depth, depN]
  rfl
theorem canT : ∀ {l : List (Str × Str)}, (∀ e ∈ l, sOk e.1 ∧ sOk e.2) → PyData.canLayAll0 (tD l) = true
  | [], _ => by simp [tD, PyData.canLayAll0]
  | e :: r, h => by
    show PyData.canLayAll0 (tieD e :: tD r) = true
    have h1 := h e List.mem_cons_self
    rw [PyData.canLayAll0, canT fun y hy => h y (List.mem_cons_of_mem _ hy)]
    have h2 : PyData.canLay0 (.str e.1) = true := h1.1
    have h3 : PyData.canLay0 (.str e.2) = true := h1.2
    simp [tieD, PyData.canLay0, PyData.canLayAll0] at h2 h3 ⊢
    exact ⟨h2, h3⟩
theorem dep1 (e : Str × Str) : PyData.depth (tieD e) = 1 := by simp [tieD, PyData.depth, PyData.depthAll]
theorem depT : ∀ l : List (Str × Str), PyData.depthAll (tD l) ≤ 1
  | [] => by simp [tD, PyData.depthAll]
  | e :: r => by
    show PyData.depthAll (tieD e :: tD r) ≤ 1
    rw [PyData.depthAll, dep1]
    have := depT r
    omega
theorem shT {l : List (Str × Str)} (h : ∀ e ∈ l, sOk e.1 ∧ sOk e.2) : SeqAt.shaped (.list (tD l)) = true := by
  unfold SeqAt.shaped
  rw [PyData.canLay0, canT h, PyData.depth]
  have := depT l
  exact decide_eq_true (by omega)
theorem eqv_nil (ds : List PyData) : PyData.eqv (.list ds) (.list []) = ds.isEmpty := by
  cases ds <;> simp [PyData.eqv, PyData.eqvAll]
theorem shape_nil : SeqAt.shaped (.list []) = true := by
  unfold SeqAt.shaped
  simp [PyData.canLay0, PyData.canLayAll0, PyData.depth, PyData.depthAll]
theorem Wb.ok {ns : List Str} {es : List (Str × Str)} (wb : Wb ns es) : ∀ z ∈ ns, sOk z := fun z hz => by
  unfold sOk
  rw [PyData.canLay0]
  unfold PyData.strOk
  rw [← Array.all_toList]
  refine List.all_eq_true.mpr fun c hc => decide_eq_true ?_
  have h := wb.let_ z hz c hc
  have all : ∀ c ∈ ("abcdefghijklmnopqrstuvwxyz" : Str).cps.toList, c < 0x110000 := by decide +kernel
  exact all c h
section
variable {P : Program} {w : World} {K : PySem.W.Frag} {mg : Str → Option Value} {base : Heap}
/-! ### rising -/
def spRising (K : PySem.W.Frag) : Sp := fun vs H Q _ => ∃ (a d : Addr) (ns : List Str) (es : List (Str × Str)) (M : Str → Option Str), vs = [.ref a, .ref d] ∧ WebAt K H a ns es ∧ Wb ns es ∧ DictAt ns H d M V.str ∧ (∀ z y, M z = some y → y ∈ ns) ∧
  ∀ H' p, Same H H' → H p = none → Dq H' (.ref p) (.list (tD (risingOf ns M))) → Q (.ref p) H'
theorem ok_rising (T : Tx K mg) (F1 : Fok P w K mg base CX0 1 (mW K "places") ["self"] (spPlaces K)) (F2 : Fok P w K mg base CX0 1 (mW K "number_of") ["self", "place"] (spNumber K)) :
    Fok P w K mg base CX0 2 (He.ga K "rising") ["web", "partners"] (spRising K) := by
  obtain ⟨fd, F⟩ := T.f_rising
  obtain ⟨_, G_Web_places, b_Web_places, _⟩ := F1
  obtain ⟨_, G_Web_number_of, b_Web_number_of, _⟩ := F2
  refine ⟨fd, F.ok scrising (fun vs H Q E h => ?_) (fun cdv A outer s H vs Q E hr h => ?_), b_rising F, F.kp⟩
  · obtain ⟨a, d, ns, es, M, rfl, _⟩ := h
    rfl
  · obtain ⟨a, d, ns, es, M, rfl, hw, wb, hm, hM, k⟩ := h
    have hu := hu_of hr
    obtain ⟨dx, dn, od, bd, h1⟩ := hw.ins
    refine ⟨_, PSs.nox (pss_cons (ps_set (i := 2) scrising.nd rfl (Or.inl rfl) (pe_lst pa_nil))
    (pss_cons (ps_for PassesOwn.never rfl (pi_list (pe_meth0 (pv 0) T.cl T.m_places G_Web_places (hr.mono (by decide)) b_Web_places .nil pass0)) (pg_name (i := 3) scrising.nd rfl (Or.inl rfl)) (pss_cons (ps_set (i := 4) scrising.nd rfl (Or.inl rfl) (pe_dget1 hu (pv 1) (pv 3) ⟨rfl, rfl, rfl, rfl⟩))
    (pss_one (ps_if (PW.pt (pw_and (pt_cmpR op_notN (pv 4) pe_non (nomark _)) (pw_and1 (pt_cmpR op_lt (pe_meth (pv 0) T.cl T.m_number_of G_Web_number_of (hr.mono (by decide)) b_Web_number_of .nil pass0 (pa_cons (pv 3) pa_nil)) (pe_meth (pv 0) T.cl T.m_number_of G_Web_number_of (hr.mono (by decide)) b_Web_number_of .nil pass0 (pa_cons (pv 4) pa_nil)) (nomark _))))) (pss_one (ps_expr (pe_bm PySem.F.plainAttrs_list PySem.F.slot_list_append PySem.F.type_list_append mt_append (pv 2) (pa_cons (pe_tup (pa_cons (pv 3) (pa_cons (pv 4) pa_nil))) pa_nil)))) pss_nil))))
    (pss_one (ps_ret (pv 2))))), ?_⟩
    refine ⟨Nat.zero_le _, fun p np => ?_⟩
    have I0 := GrowI.nil (Same.refl H) np
    refine ⟨_, rfl, a, dx, _, rfl, I0.same _ _ h1, nf_places, a, ns, es, rfl, hw.mono I0.same, fun H1 q s1 nq hq => ?_⟩
    have nqp : q ≠ p := fun e => by
      rw [e, upd_same] at nq
      cases nq
    have hq' : off H1 p q = some (.lst (nv ns)) := (off_ne nqp).trans hq
    refine ⟨q, rfl, ⟨_, SqL.of hq⟩, for_list (K := K) (a := q) (xs := nv ns) (fun i σ H' => ∃ v3 v4, σ = [some (.ref a), some (.ref d), some (.ref p), v3, v4] ∧ Same (off H1 p) H' ∧ GrowI H p (tD ((ns.take i).filterMap (risOne ns M))) H')
      ⟨none, none, rfl, same_off, I0.step s1⟩ (fun i σ H' _ ⟨_, _, _, s2, _⟩ => SqL.of (s2 _ _ hq')) ?_ ?_⟩
    · rintro i x σ H2 hi ⟨v3, v4, rfl, s2, I⟩
      obtain ⟨z, hz, rfl⟩ := nv_at hi
      have hzn : z ∈ ns := List.mem_of_getElem? hz
      have sH := I.same
      refine ⟨_, rfl, d, rfl, (hm.mono sH).isD, _, rfl, _, (hm.mono sH).get z, ?_⟩
      have tk : (ns.take (i + 1)).filterMap (risOne ns M) = (ns.take i).filterMap (risOne ns M) ++ (risOne ns M z).toList := by
        rw [take_more hz, List.filterMap_append, List.filterMap_cons]
        cases risOne ns M z <;> rfl
      cases mz : M z with
      | none =>
        have e1 : risOne ns M z = none := by
          unfold risOne
          rw [mz]
        refine ⟨_, rfl, rfl, _, rfl, ?_⟩
        refine ifF rfl ?_
        refine ⟨_, _, rfl, s2, ?_⟩
        rw [tk, e1]
        show GrowI H p (tD (_ ++ [])) H2
        rw [List.append_nil]
        exact I
      | some y =>
        have hy := hM z y mz
        refine ⟨_, rfl, rfl, _, rfl, ?_⟩
        refine ifT rfl ?_
        refine ⟨_, rfl, a, dx, _, rfl, sH _ _ h1, nf_number_of, _, rfl, a, ns, es, z, rfl, hw.mono sH, hzn, ?_⟩
        refine ⟨_, rfl, a, dx, _, rfl, sH _ _ h1, nf_number_of, _, rfl, a, ns, es, y, rfl, hw.mono sH, hy, ?_⟩
        refine ⟨_, _, rfl, rfl, _, rfl, ?_⟩
        by_cases lt : ns.idxOf z < ns.idxOf y
        · have e1 : risOne ns M z = some (z, y) := by
            unfold risOne
            rw [mz]
            exact if_pos lt
          have c : decide (((ns.idxOf z : Nat) : Int) < ((ns.idxOf y : Nat) : Int)) = true := decide_eq_true (by omega)
          refine ifT c ?_
          obtain ⟨acc, g1, _⟩ := I.len
          refine ⟨_, rfl, .inl ⟨rfl, _, SqL.of g1⟩, _, rfl, _, rfl, (by show 2 ≤ sizeLine; decide), fun t nt => ?_⟩
          have hl : (tD ((ns.take i).filterMap (risOne ns M))).length ≤ 100000 := by
            unfold tD
            rw [List.length_map]
            have h3 := List.length_filterMap_le (risOne ns M) (ns.take i)
            rw [List.length_take] at h3
            have := wb.ln
            omega
          obtain ⟨acc', g2, g3, I2⟩ := I.push (same_new (o := .tup [.str z, .str y]) (Same.refl H2) nt) (.tie (e := (z, y)) (off_new nt g1)) hl
          refine ⟨p, _, _, rfl, rfl, g2, g3, _, _, rfl, ?_, ?_⟩
          · exact same_mut (same_new s2 nt) off_same
          · rw [tk, e1]
            unfold tD at I2 ⊢
            rw [List.map_append]
            exact I2
        · have e1 : risOne ns M z = none := by
            unfold risOne
            rw [mz]
            exact if_neg lt
          have c : decide (((ns.idxOf z : Nat) : Int) < ((ns.idxOf y : Nat) : Int)) = false := decide_eq_false (by omega)
          refine ifF c ?_
          refine ⟨_, _, rfl, s2, ?_⟩
          rw [tk, e1]
          show GrowI H p (tD (_ ++ [])) H2
          rw [List.append_nil]
          exact I
    · rintro σ H2 ⟨v3, v4, rfl, s2, I⟩
      rw [nv_len, List.take_length] at I
      exact ⟨_, rfl, k _ _ I.same I.new I.done⟩
end
end K27

namespace K27
open PySem PySem.Spec PyProof.Rows L2 KM
section
variable {P : Program} {w : World} {K : PySem.W.Frag} {mg : Str → Option Value} {base : Heap}
/-! ### road_up: the way up to the start -/
theorem Chain.pos {above : Str → Option (Option Str)} {s v : Str} {n : Nat} (c : Chain above s v n) : 0 < n := by cases c <;> exact Nat.succ_pos _
def spRoad (K : PySem.W.Frag) : Sp := fun vs H Q _ => ∃ (d : Addr) (ns : List Str) (above : Str → Option (Option Str)) (s z : Str) (n : Nat), vs = [.ref d, .str z] ∧ DictAt ns H d above oV ∧ Chain above s z n ∧ n ≤ 100 ∧
  ∀ H' p l, Same H H' → H p = none → H' p = some (.lst (nv l)) → s ∈ l → l.length ≤ 100 → Q (.ref p) H'
theorem ok_road_up (T : Tx K mg) : Fok P w K mg base CX0 1 (He.ga K "road_up") ["above", "name"] (spRoad K) := by
  obtain ⟨fd, F⟩ := T.f_road_up
  refine ⟨fd, F.ok scroad_up (fun vs H Q E h => ?_) (fun cdv A outer s H vs Q E hr h => ?_), b_road_up F, F.kp⟩
  · obtain ⟨d, ns, above, s, z, n, rfl, _⟩ := h
    rfl
  · obtain ⟨d, ns, above, r, z, n, rfl, hd, hc, hn, k⟩ := h
    have hu := hu_of hr
    refine ⟨_, PSs.nox (pss_cons (ps_set (i := 2) scroad_up.nd rfl (Or.inl rfl) (pe_lst pa_nil))
    (pss_cons (ps_while PassesOwn.never (pt_cmpR op_notN (pv 1) pe_non (nomark _)) (pss_cons (ps_expr (pe_bm PySem.F.plainAttrs_list PySem.F.slot_list_append PySem.F.type_list_append mt_append (pv 2) (pa_cons (pv 1) pa_nil)))
    (pss_one (ps_set (i := 1) scroad_up.nd rfl (Or.inl rfl) (pe_dget hu (pv 0) (pv 1) (fun _ _ => rfl))))))
    (pss_one (ps_ret (pv 2))))), ?_⟩
    refine ⟨Nat.zero_le _, fun p np => ?_⟩
    have s0 := same_new (o := .lst []) (Same.refl H) np
    refine ⟨fun m σ H' => ∃ l, Same H H' ∧ H' p = some (.lst (nv l)) ∧ l.length + m ≤ 100 ∧ ((∃ y, σ = [some (.ref d), some (.str y), some (.ref p)] ∧ Chain above r y m) ∨ (m = 0 ∧ σ = [some (.ref d), some .non, some (.ref p)] ∧ r ∈ l)),
      ⟨n, [], s0, upd_same, by simpa using hn, .inl ⟨z, rfl, hc⟩⟩, ?_⟩
    rintro m σ H1 ⟨l, s1, hl, hlen, ⟨y, rfl, c⟩ | ⟨rfl, rfl, hm⟩⟩
    · refine ⟨_, rfl, rfl, _, rfl, ?_⟩
      refine ifT rfl ?_
      have pn : H p = none := np
      have sz : (nv l).length < sizeLine := by
        rw [nv_len]
        exact Nat.lt_of_le_of_lt (by omega : l.length ≤ 100) (by decide)
      have app : nv l ++ [V.str y] = nv (l ++ [y]) := by
        unfold nv
        rw [List.map_append]
        rfl
      have s2 : Same H (upd H1 p (.lst (nv l ++ [V.str y]))) := same_mut s1 np
      have g := (hd.mono s2).get y
      generalize hm' : m = m' at c
      cases c with
      | root e =>
        rw [e] at g
        refine ⟨fun σ' H' => ∃ l, Same H H' ∧ H' p = some (.lst (nv l)) ∧ l.length + 0 ≤ 100 ∧ σ' = [some (.ref d), some .non, some (.ref p)] ∧ r ∈ l, fun σ' H' ⟨l', a1, a2, a3, a4, a5⟩ => ⟨0, by omega, l', a1, a2, a3, .inr ⟨rfl, a4, a5⟩⟩, ?_⟩
        refine ⟨_, rfl, .inl ⟨rfl, _, SqL.of hl⟩, _, rfl, p, _, _, rfl, rfl, hl, sz, ?_⟩
        refine ⟨_, rfl, _, rfl, d, _, rfl, g, ?_⟩
        exact ⟨l ++ [r], s2, by rw [upd_same, app], by rw [List.length_append, List.length_singleton]; omega, rfl, List.mem_append_right _ List.mem_cons_self⟩
      | @step _ u n' e c' =>
        rw [e] at g
        refine ⟨fun σ' H' => ∃ l, Same H H' ∧ H' p = some (.lst (nv l)) ∧ l.length + n' ≤ 100 ∧ σ' = [some (.ref d), some (.str u), some (.ref p)], fun σ' H' ⟨l', a1, a2, a3, a4⟩ => ⟨n', by omega, l', a1, a2, a3, .inl ⟨u, a4, c'⟩⟩, ?_⟩
        refine ⟨_, rfl, .inl ⟨rfl, _, SqL.of hl⟩, _, rfl, p, _, _, rfl, rfl, hl, sz, ?_⟩
        refine ⟨_, rfl, _, rfl, d, _, rfl, g, ?_⟩
        exact ⟨l ++ [y], s2, by rw [upd_same, app], by rw [List.length_append, List.length_singleton]; omega, rfl⟩
    · refine ⟨_, rfl, rfl, _, rfl, ?_⟩
      refine ifF rfl ?_
      exact ⟨_, rfl, k _ _ l s1 np hl hm (by omega)⟩
/-! ### ring_of -/
theorem idx_first : ∀ {l : List Str} {m : Str}, m ∈ l → (nv l)[l.idxOf m]? = some (.str m) ∧ ∀ (i : Nat) (y : V), i < l.idxOf m → (nv l)[i]? = some y → eqV y (.str m) = false := by
  intro l m h
  refine ⟨nv_get (idx_at h), fun i y hi hy => ?_⟩
  obtain ⟨z, hz, rfl⟩ := nv_at hy
  show (z == m) = false
  cases q : z == m with
  | false => rfl
  | true =>
    exfalso
    have e : z = m := eq_of_beq q
    obtain ⟨h1, h2⟩ := List.getElem?_eq_some_iff.mp hz
    have := List.not_of_lt_findIdx (p := (· == m)) (xs := l) (i := i) (by unfold List.idxOf at hi; exact hi)
    rw [h2, e] at this
    simp at this
def spRing (K : PySem.W.Frag) : Sp := fun vs H Q _ => ∃ (d : Addr) (ns : List Str) (above : Str → Option (Option Str)) (s y z : Str) (n m : Nat), vs = [.ref d, .str y, .str z] ∧ DictAt ns H d above oV ∧ Chain above s y n ∧ n ≤ 100 ∧ Chain above s z m ∧ m ≤ 100 ∧
  ∀ H' v, Same H H' → Q v H'
theorem ok_ring_of (T : Tx K mg) (F1 : Fok P w K mg base CX0 1 (He.ga K "road_up") ["above", "name"] (spRoad K)) : Fok P w K mg base CX0 2 (He.ga K "ring_of") ["above", "one", "other"] (spRing K) := by
  obtain ⟨fd, F⟩ := T.f_ring_of
  obtain ⟨_, G_road_up, b_road_up, k_road_up⟩ := F1
  refine ⟨fd, F.ok scring_of (fun vs H Q E h => ?_) (fun cdv A outer s H vs Q E hr h => ?_), b_ring_of F, F.kp⟩
  · obtain ⟨d, ns, above, s, y, z, n, m, rfl, _⟩ := h
    rfl
  · obtain ⟨d, ns, above, r, y, z, n, m, rfl, hd, c1, hn, c2, hm, k⟩ := h
    refine ⟨_, PSs.nox (pss_cons (ps_set (i := 3) scring_of.nd rfl (Or.inl rfl) (pe_call G_road_up (hr.mono (by decide)) rfl T.g_road_up k_road_up b_road_up .nil pass0 (pa_cons (pv 0) (pa_cons (pv 1) pa_nil))))
    (pss_cons (ps_set (i := 4) scring_of.nd rfl (Or.inr rfl) (pe_call G_road_up (hr.mono (by decide)) rfl T.g_road_up k_road_up b_road_up .nil pass0 (pa_cons (pv 0) (pa_cons (pv 2) pa_nil))))
    (pss_cons (ps_set (i := 5) scring_of.nd rfl (Or.inl rfl) (pe_ix ix_list (pe_lc (own := [("name", 6)]) rfl scring_of.nd (pi_list (pv 3)) (blkOk_by (own := [("name", 6)]) (N := Nring_of) (sc := defScope sring_of) (by decide +kernel)) (fun _ _ _ _ _ => (pg_name (i := 6) scring_of.nd rfl (Or.inl rfl))) (fun _ _ _ _ _ => (pts_one (pt_cmpR (op_in_seqK (K := K) rfl) (pv 6) (pv 4) (by first | exact nomark _ | rfl)))) (fun _ _ _ _ _ => (pv 6))) pe_int (fun _ _ => rfl)))
    (pss_one (ps_ret (pe_op op_cat (pe_slice sl_list (pv 3) po_none (po_some (pe_op op_add (pe_bm PySem.F.plainAttrs_list PySem.F.slot_list_index PySem.F.type_list_index mt_index (pv 3) (pa_cons (pv 5) pa_nil)) pe_int))) (pe_revL (pe_slice sl_list (pv 4) po_none (po_some (pe_bm PySem.F.plainAttrs_list PySem.F.slot_list_index PySem.F.type_list_index mt_index (pv 4) (pa_cons (pv 5) pa_nil))))))))))), ?_⟩
    refine ⟨_, rfl, _, rfl, d, ns, above, r, y, n, rfl, hd, c1, hn, fun H1 p1 l1 s1 n1 hp1 m1 ln1 => ?_⟩
    refine ⟨_, rfl, _, rfl, d, ns, above, r, z, m, rfl, hd.mono s1, c2, hm, fun H2 p2 l2 s2 n2 hp2 m2 ln2 => ?_⟩
    have hp1' := s2 _ _ hp1
    refine ⟨_, rfl, p1, rfl, ⟨_, SqL.of hp1'⟩, fun D nD => ?_⟩
    refine lc_list (K := K) (a := p1) (xs := nv l1) (fun j H4 => SelI H2 D l1 (fun x => decide (x ∈ l2)) V.str j H4) (SelI.nil (Same.refl H2) nD) (fun j H4 _ J => SqL.of (J.same _ _ hp1')) ?_ ?_
    · intro j x H4 hj J
      obtain ⟨u, hu', rfl⟩ := nv_at hj
      refine ⟨rfl, _, rfl, _, rfl, p2, _, rfl, .inl (SqL.of (J.same _ _ hp2)), rfl, nv_flat _, _, rfl, ?_⟩
      rw [inV_nv]
      cases e : decide (u ∈ l2) with
      | true => exact ifT rfl ⟨_, rfl, J.yes hu' (Same.refl H4) e rfl (by omega)⟩
      | false => exact ifF rfl (J.no hu' (Same.refl H4) e)
    · intro H4 J
      rw [nv_len] at J
      have hD := J.done
      have s3 := J.same
      have ne : r ∈ l1.filter fun x => decide (x ∈ l2) := List.mem_filter.mpr ⟨m1, decide_eq_true m2⟩
      obtain ⟨u, hu'⟩ : ∃ u, (l1.filter fun x => decide (x ∈ l2))[0]? = some u := ⟨_, List.getElem?_eq_getElem (List.length_pos_of_mem ne)⟩
      obtain ⟨u1, u2⟩ := List.mem_filter.mp (List.mem_of_getElem? hu')
      have u2 := of_decide_eq_true u2
      refine ⟨_, _, _, .str u, rfl, rfl, SqL.of hD, atI_nat (j := 0) (by rw [List.getElem?_map, hu']; rfl), ?_⟩
      have q1 := s3 _ _ hp1'
      have q2 := s3 _ _ hp2
      obtain ⟨f1, f2⟩ := idx_first u1
      refine ⟨_, rfl, _, rfl, .inl ⟨rfl, _, SqL.of q1⟩, _, rfl, p1, _, _, _, _, rfl, rfl, SqL.of q1, rfl, nv_flat _, f1, by show (u == u) = true; exact beq_self_eq_true u, f2, ?_⟩
      refine ⟨_, _, rfl, rfl, _, rfl, p1, _, rfl, SqL.of q1, fun p3 n3 => ?_⟩
      have s4 := same_new (o := .lst (cutV (nv l1) none (some ((l1.idxOf u : Nat) + 1 : Int)))) (Same.refl H4) n3
      have r2 := s4 _ _ q2
      obtain ⟨g1, g2⟩ := idx_first u2
      refine ⟨_, rfl, _, rfl, .inl ⟨rfl, _, SqL.of r2⟩, _, rfl, p2, _, _, _, _, rfl, rfl, SqL.of r2, rfl, nv_flat _, g1, by show (u == u) = true; exact beq_self_eq_true u, g2, ?_⟩
      refine ⟨_, rfl, p2, _, rfl, SqL.of r2, fun p4 n4 => ?_⟩
      refine ⟨p4, _, rfl, SqL.of upd_same, fun p5 n5 => ?_⟩
      have s5 := same_new (o := .lst (cutV (nv l2) none (some ((l2.idxOf u : Nat) : Int)))) s4 n4
      have h3 : ∀ o, upd (upd (upd H4 p3 (.lst (cutV (nv l1) none (some ((l1.idxOf u : Nat) + 1 : Int))))) p4 (.lst (cutV (nv l2) none (some ((l2.idxOf u : Nat) : Int))))) p5 o p3 = some (.lst (cutV (nv l1) none (some ((l1.idxOf u : Nat) + 1 : Int)))) := fun o => by
        have e4 : p3 ≠ p4 := ne_of_none upd_same n4
        have e5 : p3 ≠ p5 := ne_of_none (by rw [upd_ne e4]; exact upd_same) n5
        rw [upd_ne e5, upd_ne e4, upd_same]
      refine ⟨p3, p5, _, _, rfl, rfl, h3 _, upd_same, ?_, fun p6 n6 => ?_⟩
      · have a1 := cutV_length (nv l1) none (some ((l1.idxOf u : Nat) + 1 : Int))
        have a2 := cutV_length (nv l2) none (some ((l2.idxOf u : Nat) : Int))
        rw [nv_len] at a1 a2
        rw [List.length_reverse]
        have : (200 : Nat) ≤ sizeLine := by decide
        omega
      · exact k _ _ (((s1.trans s2).trans s3).trans (same_new (same_new s5 n5) n6))
/-! ### Odd.__init__ -/
def spOdd (K : PySem.W.Frag) : Sp := fun vs H Q _ => ∃ (a : Addr) (y : V), vs = [.ref a, y] ∧ H a = some (exo a (aOdd K) none) ∧ ∀ dx, H dx = none → dx ≠ a → Q .non (upd (upd H dx (exd dx [("ring", y)])) a (exo a (aOdd K) (some dx)))
theorem ok_Odd_init (T : Tx K mg) : Fok P w K mg base CX0 1 (aOddI K) ["self", "ring"] (spOdd K) := by
  obtain ⟨fd, F⟩ := T.f_Odd_init
  refine ⟨fd, F.ok scOdd_init (fun vs H Q E h => ?_) (fun cdv A outer s H vs Q E hr h => ?_), b_Odd_init F, F.kp⟩
  · obtain ⟨a, y, rfl, _⟩ := h
    rfl
  · obtain ⟨a, y, rfl, ha, k⟩ := h
    refine ⟨_, PSs.nox (pss_cons (ps_expr (pe_dinit rfl T.g_OnceError T.once.2.1 T.once.2.2 T.once.1 (pa_cons (pv 0) (pa_cons pe_str pa_nil))))
    (pss_one (ps_ost (pv 0) (pv 1)))), ?_⟩
    refine ⟨_, rfl, a, aOdd K, _, rfl, (by show 1 ≤ 1000; decide), T.oex, ha, ?_⟩
    refine ⟨_, rfl, _, rfl, a, aOdd K, rfl, T.oex, T.oddI.2.2, .inl ⟨ha, fun dx n1 n2 => k dx n1 n2⟩⟩
end
end K27

namespace K27
open PySem PySem.Spec PyProof.Rows L2 KM
theorem DictAt.other {β : Type} {ns : List Str} {H : Hp} {d f : Addr} {m : Str → Option β} {e : β → V} {u : HO} (D : DictAt ns H d m e) (h : d ≠ f) : DictAt ns (upd H f u) d m e := by
  obtain ⟨kvs, h1, r⟩ := D.ex
  exact ⟨kvs, (upd_ne h).trans h1, r⟩
theorem DictAt.neL {β : Type} {ns : List Str} {H : Hp} {d l : Addr} {m : Str → Option β} {e : β → V} {xs : List V} (D : DictAt ns H d m e) (h : H l = some (.lst xs)) : d ≠ l := by
  obtain ⟨kvs, h1, _⟩ := D.ex
  exact ne_of h1 h (by intro z; cases z)
structure SAt (G H : Hp) (ns : List Str) (f ab : Addr) (st : SS Str) : Prop where
  same : Same G H
  nf : G f = none
  na : G ab = none
  ne : f ≠ ab
  df : DictAt ns H f st.first V.bl
  da : DictAt ns H ab st.above oV
section
variable {G H H' : Hp} {ns : List Str} {f ab l : Addr} {st : SS Str}
theorem SAt.step (S : SAt G H ns f ab st) (s : Same H H') : SAt G H' ns f ab st := ⟨S.same.trans s, S.nf, S.na, S.ne, S.df.mono s, S.da.mono s⟩
theorem SAt.base {G' : Hp} (S : SAt G H ns f ab st) (s : Same G' G) : SAt G' H ns f ab st := ⟨s.trans S.same, s.free S.nf, s.free S.na, S.ne, S.df, S.da⟩
theorem SAt.re {line : List Str} (S : SAt G H ns f ab st) : SAt G H ns f ab { st with line := line } := ⟨S.same, S.nf, S.na, S.ne, S.df, S.da⟩
theorem SAt.lst (S : SAt G H ns f ab st) {xs : List V} (h : H l = some (.lst xs)) (g : G l = none) (o : HO) : SAt G (upd H l o) ns f ab st := ⟨same_mut S.same g, S.nf, S.na, S.ne, S.df.other (S.df.neL h), S.da.other (S.da.neL h)⟩
theorem SAt.setF (S : SAt G H ns f ab st) {z : Str} (hz : z ∈ ns) (hl : ns.length ≤ 1000) (b : Bool) : ∃ u, DPut H f (.str z) (.bl b) (upd H f u) ∧ SAt G (upd H f u) ns f ab { st with first := put st.first z b } := by
  obtain ⟨u, h1, h2⟩ := S.df.put b hz hl
  exact ⟨u, h1, same_mut S.same S.nf, S.nf, S.na, S.ne, h2, S.da.other S.ne.symm⟩
theorem SAt.setA (S : SAt G H ns f ab st) {z : Str} (hz : z ∈ ns) (hl : ns.length ≤ 1000) (b : Option Str) : ∃ u, DPut H ab (.str z) (oV b) (upd H ab u) ∧ SAt G (upd H ab u) ns f ab { st with above := put st.above z b } := by
  obtain ⟨u, h1, h2⟩ := S.da.put b hz hl
  exact ⟨u, h1, same_mut S.same S.na, S.nf, S.na, S.ne, S.df.other S.ne, h2⟩
end
theorem seq0 {n : Nat} (h : 0 < n) : seqIndex? 0 n = some 0 := by
  have := ixN_seq (n := n) (i := 0) (j := 0) (by unfold ixN; rw [if_pos (Int.le_refl 0), if_pos (by omega)]; rfl)
  exact this.1
def WS (G : Hp) (ns : List Str) (es : List (Str × Str)) (a f ab l : Addr) (z : Str) (R : Option (Option (SS Str))) (m : Nat) (σ : L2.St) (H3 : Hp) : Prop :=
  ∃ (st1 : SS Str) (v5 v6 : Option V), σ = [some (.ref a), some (.ref f), some (.ref ab), some (.str z), some (.ref l), v5, v6] ∧ SAt G H3 ns f ab st1 ∧ H3 l = some (.lst (nv st1.line)) ∧ 0 < m ∧ m ≤ ns.length + 1 ∧ (∀ y ∈ st1.line, y ∈ ns) ∧ sLoop ns es m st1 = R ∧
    (st1.line = [] ∨ ∃ S0, SI ns es S0 z NoOne st1 ∧ st1.line.length + (ns.length - cnt ns st1.first) < m)
def WJ (G : Hp) (ns : List Str) (a f ab l : Addr) (z : Str) (st : SS Str) (σ : L2.St) (H3 : Hp) : Prop :=
  ∃ (v5 v6 : Option V), σ = [some (.ref a), some (.ref f), some (.ref ab), some (.str z), some (.ref l), v5, v6] ∧ SAt G H3 ns f ab st ∧ H3 l = some (.lst (nv st.line))
theorem WJ.enter {G H3 : Hp} {ns : List Str} {es : List (Str × Str)} {a f ab l : Addr} {z : Str} {st : SS Str} {σ : L2.St} (so : SO ns es st) (hz : z ∈ ns) (h : WJ G ns a f ab l z (sBegin st z) σ H3) : WS G ns es a f ab l z (sLoop ns es (ns.length + 1) (sBegin st z)) (ns.length + 1) σ H3 := by
  obtain ⟨v5, v6, rfl, S3, hl3⟩ := h
  refine ⟨sBegin st z, v5, v6, rfl, S3, hl3, Nat.succ_pos _, Nat.le_refl _, ?_, rfl, ?_⟩
  · unfold sBegin
    split
    · exact fun y hy => nomatch hy
    · intro y hy
      rw [List.mem_singleton.mp hy]
      exact hz
  · unfold sBegin
    rcases none_or (st.first z) with n | n
    · rw [if_neg (by rw [n]; exact Bool.false_ne_true)]
      refine .inr ⟨st.first, so.enter hz n, ?_⟩
      have e1 := cnt_put (x := true) hz n
      have e2 := cnt_le ns (put st.first z true)
      show 1 + (ns.length - cnt ns (put st.first z true)) < ns.length + 1
      omega
    · rw [if_pos n]
      exact .inl rfl
section
variable {P : Program} {w : World} {K : PySem.W.Frag} {mg : Str → Option Value} {base : Heap}
def spSided (K : PySem.W.Frag) : Sp := fun vs H Q E => ∃ (a : Addr) (ns : List Str) (es : List (Str × Str)), vs = [.ref a] ∧ WebAt K H a ns es ∧ Wb ns es ∧
  (∀ H' f st, Same H H' → H f = none → sAll ns es = some (some st) → Bip es → SO ns es st → (∀ z ∈ ns, (st.first z).isSome = true) → DictAt ns H' f st.first V.bl → Q (.ref f) H') ∧
  (¬ Bip es → ∀ H' d, Same H H' → E (.ref (aOdd K)) (some d) H')
theorem ok_sided (T : Tx K mg) (F1 : Fok P w K mg base CX0 1 (mW K "places") ["self"] (spPlaces K)) (F2 : Fok P w K mg base CX0 3 (mW K "beside") ["self", "place"] (spBeside K))
    (F3 : Fok P w K mg base CX0 2 (He.ga K "ring_of") ["above", "one", "other"] (spRing K)) (F4 : Fok P w K mg base CX0 1 (aOddI K) ["self", "ring"] (spOdd K)) :
    Fok P w K mg base (L2N.CX P w) 4 (He.ga K "sided") ["web"] (spSided K) := by
  obtain ⟨fd, F⟩ := T.f_sided
  obtain ⟨_, G_Web_places, b_Web_places, _⟩ := F1
  obtain ⟨_, G_Web_beside, b_Web_beside, _⟩ := F2
  obtain ⟨_, G_ring_of, b_ring_of, k_ring_of⟩ := F3
  obtain ⟨_, G_Odd_init, b_Odd_init, _⟩ := F4
  refine ⟨fd, F.ok scsided (fun vs H Q E h => ?_) (fun cdv A outer s H vs Q E hr h => ?_), b_sided F, F.kp⟩
  · obtain ⟨a, ns, es, rfl, _⟩ := h
    rfl
  · obtain ⟨a, ns, es, rfl, hw, wb, k, kE⟩ := h
    have hu := hu_of hr
    have hl1 : ns.length ≤ 1000 := Nat.le_trans wb.ln (by decide)
    obtain ⟨dx, dn, od, bd, h1⟩ := hw.ins
    have tk : L2N.Takes (cxOf (L2N.CX P w) P w K mg base Nsided "sided" (defScope ssided) (He.ga K "sided") cdv A outer s H E) (fun cls d _ H => E cls d H) := L2N.takes_of rfl rfl rfl rfl
    refine ⟨_, (pss_cons (ps_set (i := 1) scsided.nd rfl (Or.inl rfl) pe_dnewK)
    (pss_cons (ps_set (i := 2) scsided.nd rfl (Or.inl rfl) pe_dnewK)
    (pss_cons (ps_for PassesOwn.leaving rfl (pi_list (pe_meth0 (pv 0) T.cl T.m_places G_Web_places (hr.mono (by decide)) b_Web_places .nil pass0)) (pg_name (i := 3) scsided.nd rfl (Or.inl rfl)) (pss_cons (ps_set (i := 4) scsided.nd rfl (Or.inl rfl) (pe_lst pa_nil))
    (pss_cons (ps_join (ps_if (pt_cmp (pc_dnotin hu (pv 3) (pv 1))) (pss_cons (ps_dput hu (pv 1) (pv 3) pe_bl rfl)
    (pss_cons (ps_dput hu (pv 2) (pv 3) pe_non rfl)
    (pss_one (ps_expr (pe_bm PySem.F.plainAttrs_list PySem.F.slot_list_append PySem.F.type_list_append mt_append (pv 4) (pa_cons (pv 3) pa_nil)))))) pss_nil))
    (pss_one (ps_while PassesOwn.leaving (pt_cmpR (op_neD hr.units) (pv 4) (pe_lst pa_nil) (nomark _)) (pss_cons (ps_set (i := 5) scsided.nd rfl (Or.inl rfl) (pe_bm PySem.F.plainAttrs_list PySem.F.slot_list_pop PySem.F.type_list_pop mt_popAt (pv 4) (pa_cons pe_int pa_nil)))
    (pss_one (ps_for PassesOwn.leaving rfl (pi_list (pe_meth (pv 0) T.cl T.m_beside G_Web_beside (hr.mono (by decide)) b_Web_beside .nil pass0 (pa_cons (pv 5) pa_nil))) (pg_name (i := 6) scsided.nd rfl (Or.inl rfl)) (pss_one (ps_if (pt_cmp (pc_dnotin hu (pv 6) (pv 1))) (pss_cons (ps_dput hu (pv 1) (pv 6) (pe_not (pe_dget hu (pv 1) (pv 5) (fun _ _ => rfl))) rfl)
    (pss_cons (ps_dput hu (pv 2) (pv 6) (pv 5) rfl)
    (pss_one (ps_expr (pe_bm PySem.F.plainAttrs_list PySem.F.slot_list_append PySem.F.type_list_append mt_append (pv 4) (pa_cons (pv 6) pa_nil)))))) (pss_one (ps_if (pt_cmpR op_eq (pe_dget hu (pv 1) (pv 6) (fun _ _ => rfl)) (pe_dget hu (pv 1) (pv 5) (fun _ _ => rfl)) (nomark _)) (pss_one (L2N.ps_raise rfl tk (pmk_own27 T.oex T.oddI.1 T.oddI.2.1 G_Odd_init (hr.mono (by decide)) b_Odd_init pass0 rfl T.g_Odd (pa_cons (pe_call G_ring_of (hr.mono (by decide)) rfl T.g_ring_of k_ring_of b_ring_of .nil pass0 (pa_cons (pv 2) (pa_cons (pv 5) (pa_cons (pv 6) pa_nil)))) pa_nil)))) pss_nil))))))))))))
    (pss_one (ps_ret (pv 1)))))), ?_⟩
    intro f nf ab nab
    have nab' : H ab = none := by
      have := (same_new (o := .dK []) (Same.refl H) nf).free nab
      exact this
    have fab : f ≠ ab := fun e => by
      rw [e, upd_same] at nab
      cases nab
    have s0 : Same H (upd (upd H f (.dK [])) ab (.dK [])) := same_new (same_new (Same.refl H) nf) nab
    refine ⟨_, rfl, a, dx, _, rfl, s0 _ _ h1, nf_places, a, ns, es, rfl, hw.mono s0, fun H1 q s1 nq hq => ?_⟩
    have qf : q ≠ f := fun e => by
      rw [e, upd_ne fab, upd_same] at nq
      cases nq
    have qa : q ≠ ab := fun e => by
      rw [e, upd_same] at nq
      cases nq
    have s01 := s0.trans s1
    obtain ⟨G, hG⟩ : ∃ G, G = off (off H1 f) ab := ⟨_, rfl⟩
    have Gf : G f = none := by rw [hG, off_ne fab, off_same]
    have Ga : G ab = none := by rw [hG, off_same]
    have sHG : Same H G := by
      rw [hG]
      exact same_to (same_to s01 nf) nab'
    have Gq : G q = some (.lst (nv ns)) := by rw [hG, off_ne qa, off_ne qf, hq]
    have S0 : SAt G H1 ns f ab sNil := by
      refine ⟨?_, Gf, Ga, fab, DictAt.nil (s1 _ _ (by rw [upd_ne fab, upd_same])), DictAt.nil (s1 _ _ upd_same)⟩
      rw [hG]
      exact (same_off).trans same_off
    refine ⟨q, rfl, ⟨_, SqL.of hq⟩, for_list (K := K) (a := q) (xs := nv ns) (fun i σ H' => ∃ st v3 v4 v5 v6, σ = [some (.ref a), some (.ref f), some (.ref ab), v3, v4, v5, v6] ∧ SAt G H' ns f ab st ∧ SO ns es st ∧ sAll ns es = sFold ns es (ns.drop i) st)
      ⟨sNil, none, none, none, none, rfl, S0, SO.nil ns es, rfl⟩ (fun i σ H' _ ⟨_, _, _, _, _, _, S, _⟩ => SqL.of (S.same _ _ Gq)) ?_ ?_⟩
    · rintro i x σ H2 hi ⟨st, v3, v4, v5, v6, rfl, S, so, hf⟩
      obtain ⟨z, hz, rfl⟩ := nv_at hi
      have hzn : z ∈ ns := List.mem_of_getElem? hz
      rw [drop_cons hz] at hf
      refine ⟨Nat.zero_le _, fun l nl => ?_⟩
      have S1 := S.step (same_new (o := .lst []) (Same.refl H2) nl)
      have Gl : G l = none := S.same.free nl
      refine ⟨WJ G ns a f ab l z (sBegin st z), ?_, ?_⟩
      · refine ⟨_, rfl, _, rfl, f, _, rfl, S1.df.get z, _, rfl, ?_⟩
        rw [Option.isSome_map]
        rcases none_or (st.first z) with n | n
        · rw [n]
          refine ifT rfl ?_
          obtain ⟨u1, p1, S2⟩ := S1.setF hzn hl1 true
          refine ⟨_, rfl, _, rfl, f, _, rfl, p1, ?_⟩
          obtain ⟨u2, p2, S3⟩ := S2.setA hzn hl1 none
          refine ⟨_, rfl, _, rfl, ab, _, rfl, p2, ?_⟩
          have fl : f ≠ l := S1.df.neL upd_same
          have al : ab ≠ l := S1.da.neL upd_same
          have hl3 : upd (upd (upd H2 l (.lst [])) f u1) ab u2 l = some (.lst []) := by rw [upd_ne al.symm, upd_ne fl.symm, upd_same]
          refine ⟨_, rfl, .inl ⟨rfl, _, SqL.of hl3⟩, _, rfl, l, _, _, rfl, rfl, hl3, (by decide), ?_⟩
          have e : sBegin st z = ⟨put st.first z true, put st.above z none, [z]⟩ := by
            unfold sBegin
            rw [if_neg (by rw [n]; exact Bool.false_ne_true)]
          rw [e]
          exact ⟨_, _, rfl, (S3.re (line := [z])).lst hl3 Gl _, upd_same⟩
        · rw [n]
          refine ifF rfl ?_
          have e : sBegin st z = { st with line := [] } := by
            unfold sBegin
            rw [if_pos n]
          rw [e]
          exact ⟨_, _, rfl, S1.re, upd_same⟩
      · intro σ3 H3 hJ
        have w0 := hJ.enter so hzn
        obtain ⟨R, hR⟩ : ∃ R, R = sLoop ns es (ns.length + 1) (sBegin st z) := ⟨_, rfl⟩
        rw [← hR] at w0
        have hf : sAll ns es = kF ns es (ns.drop (i + 1)) R := by
          rw [hR, ← sFold_cons]
          exact hf
        have hRR := so.begin wb.wg hzn
        rw [← hR] at hRR
        clear hJ
        refine ⟨WS G ns es a f ab l z R, ⟨_, w0⟩, ?_⟩
        rintro m σ4 H4 ⟨st1, v5, v6, rfl, S4, hl4, hm, hmn, hln, hloop, hsi⟩
        refine ⟨_, rfl, Nat.zero_le _, fun e0 ne0 => ?_⟩
        have s4e := same_new (o := .lst []) (Same.refl H4) ne0
        have S5 := S4.step s4e
        have hl5 := s4e _ _ hl4
        refine ⟨.list (nD st1.line), .list [], .lst (SqL.of hl5) (Dqs.dp _ _ (Dqs.nv (H := upd H4 e0 (.lst [])) _) (canN fun y hy => wb.ok y (hln y hy))), .lst (SqL.of upd_same) .nil, shN (fun y hy => wb.ok y (hln y hy)), shape_nil, _, rfl, ?_⟩
        rw [eqv_nil]
        obtain ⟨m', rfl⟩ : ∃ m', m = m' + 1 := ⟨m - 1, by omega⟩
        cases hline : st1.line with
        | nil =>
          refine ifF rfl ?_
          have eR : R = some (some st1) := by
            rw [← hloop]
            exact sLoop_nil hline
          rcases hRR with ⟨e, _⟩ | ⟨st', e, so', _⟩
          · rw [eR] at e
            cases e
          · rw [eR] at e
            cases e
            rw [eR] at hf
            exact ⟨st1, _, _, _, _, rfl, S5, so', hf⟩
        | cons name rest =>
          refine ifT rfl ?_
          obtain ⟨S0', si, hmeas⟩ := hsi.resolve_left (by rw [hline]; exact fun z => nomatch z)
          have i1 := si.pop hline
          obtain ⟨hn, hS⟩ := si.line name (by rw [hline]; exact List.mem_cons_self)
          have hname : name ∈ ns := hln name (by rw [hline]; exact List.mem_cons_self)
          refine ⟨WS G ns es a f ab l z R m', fun σ' H' h => ⟨m', Nat.lt_succ_self _, h⟩, ?_⟩
          rw [hline] at hl5
          refine ⟨_, rfl, .inl ⟨rfl, _, SqL.of hl5⟩, l, _, 0, 0, _, rfl, rfl, hl5, (by decide), (by decide), seq0 (Nat.succ_pos _), rfl, ?_⟩
          have S6 := (S5.re (line := rest)).lst hl5 Gl (.lst (nv rest))
          have hl6 : upd (upd H4 e0 (.lst [])) l (.lst (nv rest)) l = some (.lst (nv rest)) := upd_same
          have hw6 := hw.mono (sHG.trans S6.same)
          have h16 := S6.same _ _ (sHG _ _ h1)
          obtain ⟨H6, e6⟩ : ∃ H6, H6 = upd (upd H4 e0 (.lst [])) l (.lst (nv rest)) := ⟨_, rfl⟩
          rw [← e6] at S6 hl6 hw6 h16
          have ee : upd (upd H4 e0 (.lst [])) l (.lst ((nv (name :: rest)).eraseIdx 0)) = H6 := e6.symm
          rw [ee]
          refine ⟨_, rfl, a, dx, _, rfl, h16, nf_beside, _, rfl, a, ns, es, name, rfl, hw6, wb, hname, fun H7 b s7 nb7 hb => ?_⟩
          have bf : b ≠ f := fun e => by
            obtain ⟨kvs, q1, _⟩ := S6.df.ex
            rw [e, q1] at nb7
            cases nb7
          have ba : b ≠ ab := fun e => by
            obtain ⟨kvs, q1, _⟩ := S6.da.ex
            rw [e, q1] at nb7
            cases nb7
          have bl : b ≠ l := fun e => by
            rw [e, hl6] at nb7
            cases nb7
          obtain ⟨G2, hG2⟩ : ∃ G2, G2 = off (off (off H7 f) ab) l := ⟨_, rfl⟩
          have g2b : G2 b = some (.lst (nv (nb ns es name))) := by rw [hG2, off_ne bl, off_ne ba, off_ne bf, hb]
          have S7 := S6.step s7
          have sG2 : Same G G2 := by
            rw [hG2]
            exact same_to (same_to (same_to S7.same Gf) Ga) Gl
          have fl : f ≠ l := S7.df.neL (s7 _ _ hl6)
          have al : ab ≠ l := S7.da.neL (s7 _ _ hl6)
          have G2l : G2 l = none := by rw [hG2, off_same]
          have S7' : SAt G2 H7 ns f ab { st1 with line := rest } := by
            refine ⟨?_, ?_, ?_, fab, S7.df, S7.da⟩
            · rw [hG2]
              exact same_off.trans (same_off.trans same_off)
            · rw [hG2, off_ne fl, off_ne fab, off_same]
            · rw [hG2, off_ne al, off_same]
          refine ⟨b, rfl, ⟨_, SqL.of hb⟩, for_list (K := K) (a := b) (xs := nv (nb ns es name)) (fun j σ H' => ∃ (st : SS Str) (v6 : Option V), σ = [some (.ref a), some (.ref f), some (.ref ab), some (.str z), some (.ref l), some (.str name), v6] ∧ SAt G2 H' ns f ab st ∧ H' l = some (.lst (nv st.line)) ∧
            SI ns es S0' z (· = name) st ∧ (st.first name).isSome = true ∧ st.line.length + (ns.length - cnt ns st.first) ≤ rest.length + (ns.length - cnt ns st1.first) ∧ sVisits name (nb ns es name) { st1 with line := rest } = sVisits name ((nb ns es name).drop j) st)
            ⟨{ st1 with line := rest }, _, rfl, S7', s7 _ _ hl6, i1, hn, Nat.le_refl _, rfl⟩ (fun j σ H' _ ⟨_, _, _, S, _⟩ => SqL.of (S.same _ _ g2b)) ?_ ?_⟩
          · rintro j x σ H8 hj ⟨st2, v7, rfl, S8, hl8, i8, hn8, hz8, hv8⟩
            obtain ⟨o, ho, rfl⟩ := nv_at hj
            have hob : o ∈ nb ns es name := List.mem_of_getElem? ho
            obtain ⟨hon, ad⟩ := mem_nb.mp hob
            obtain ⟨b1, eb⟩ := Option.isSome_iff_exists.mp hn8
            have g1 := S8.df.get name
            rw [eb] at g1
            rw [drop_cons ho] at hv8
            refine ⟨_, rfl, _, rfl, f, _, rfl, S8.df.get o, _, rfl, ?_⟩
            cases eo : st2.first o with
            | none =>
              refine ifT rfl ?_
              have ev : sVisit name st2 o = some ⟨put st2.first o (!b1), put st2.above o (some name), st2.line ++ [o]⟩ := by
                unfold sVisit
                rw [eo, eb]
                rfl
              obtain ⟨i9, m9, _, z9⟩ := i8.visit hn8 hS hob ev
              obtain ⟨u1, p1, S9⟩ := S8.setF hon hl1 (!b1)
              refine ⟨_, rfl, _, rfl, f, _, rfl, g1, _, rfl, _, rfl, _, rfl, f, _, rfl, p1, ?_⟩
              obtain ⟨u2, p2, S10⟩ := S9.setA hon hl1 (some name)
              refine ⟨_, rfl, _, rfl, _, rfl, ab, _, rfl, p2, ?_⟩
              have hl10 : upd (upd H8 f u1) ab u2 l = some (.lst (nv st2.line)) := by rw [upd_ne al.symm, upd_ne fl.symm, hl8]
              have hsz : (nv st2.line).length < sizeLine := by
                rw [nv_len]
                rw [hline] at hmeas
                have hmeas : rest.length + 1 + (ns.length - cnt ns st1.first) < m' + 1 := hmeas
                have := wb.ln
                exact Nat.lt_of_le_of_lt (by omega : st2.line.length ≤ 100) (by decide)
              refine ⟨_, rfl, .inl ⟨rfl, _, SqL.of hl10⟩, _, rfl, l, _, _, rfl, rfl, hl10, hsz, ?_⟩
              have app : nv st2.line ++ [V.str o] = nv (st2.line ++ [o]) := by
                unfold nv
                rw [List.map_append]
                rfl
              refine ⟨_, _, rfl, (S10.re (line := st2.line ++ [o])).lst hl10 G2l _, by rw [upd_same, app], i9, ?_, Nat.le_trans z9 hz8, ?_⟩
              · rw [m9 _ _ eb]
                rfl
              · rw [hv8, sVisits_some ev]
            | some c =>
              refine ifF rfl ?_
              have g2 := S8.df.get o
              rw [eo] at g2
              refine ⟨_, rfl, _, rfl, f, _, rfl, g2, _, rfl, _, rfl, f, _, rfl, g1, rfl, _, rfl, ?_⟩
              by_cases hc : c = b1
              · refine ifT (decide_eq_true (by rw [hc])) ?_
                have ev : sVisit name st2 o = none := by
                  unfold sVisit
                  rw [eo, eb, hc]
                  exact if_pos rfl
                obtain ⟨nbip, to, oS⟩ := i8.odd hn8 hS hob ev
                obtain ⟨n1, ln1, c1⟩ := i8.chain name hn8 hS
                obtain ⟨n2, ln2, c2⟩ := i8.chain o to oS
                have hc0 := cnt_le ns st2.first
                have hln14 := wb.ln
                refine ⟨_, rfl, _, rfl, _, rfl, ab, ns, st2.above, z, name, o, n1, n2, rfl, S8.da, c1, by omega, c2, by omega, fun H9 v s9 => ?_⟩
                refine ⟨(by show 1 ≤ 1000; decide), fun x nx => ⟨x, v, rfl, upd_same, fun d nd nd' => ⟨rfl, d, _, upd_same, by rw [upd_ne nd', upd_same], ?_, ?_⟩⟩⟩
                · rw [upd_ne nd'] at nd
                  exact nd
                · refine kE nbip _ d ?_
                  have sH9 : Same H H9 := sHG.trans (sG2.trans (S8.same.trans s9))
                  rw [upd_ne nd'] at nd
                  intro b' o' hb'
                  have hb9 := sH9 _ _ hb'
                  have nx' := ne_of_none hb9 nx
                  have nd9 := ne_of_none hb9 nd
                  rw [upd_ne nd9, del_ne nx', upd_ne nx', upd_ne nd9, upd_ne nx']
                  exact hb9
              · refine ifF (decide_eq_false (fun q => hc (V.bl.inj q))) ?_
                have ev : sVisit name st2 o = some st2 := by
                  unfold sVisit
                  rw [eo, eb]
                  exact if_neg (fun q => hc (Option.some.inj q).symm)
                refine ⟨st2, _, rfl, S8, hl8, i8, hn8, hz8, ?_⟩
                rw [hv8, sVisits_some ev]
          · rintro σ H8 ⟨st2, v7, rfl, S8, hl8, i8, hn8, hz8, hv8⟩
            rw [nv_len, List.drop_length] at hv8
            have hv8 : sVisits name (nb ns es name) { st1 with line := rest } = some st2 := hv8
            rcases i1.visits (nb ns es name) _ (fun _ h => h) hn hS with ⟨e, _⟩ | ⟨st', e, i9, _, d9, z9⟩
            · rw [hv8] at e
              cases e
            · rw [hv8] at e
              cases e
              have hloop' : R = sLoop ns es m' st2 := by rw [← hloop, sLoop_some hline hv8]
              rw [hline] at hmeas
              have hmeas : rest.length + 1 + (ns.length - cnt ns st1.first) < m' + 1 := hmeas
              exact ⟨st2, _, _, rfl, S8.base sG2, hl8, by omega, by omega, fun y hy => i8.dom y (i8.line y hy).1, hloop'.symm, .inr ⟨S0', i9.done wb.wg d9, by omega⟩⟩
    · rintro σ H2 ⟨st, v3, v4, v5, v6, rfl, S, so, hf⟩
      rw [nv_len, List.drop_length] at hf
      have hf : sAll ns es = some (some st) := hf
      refine ⟨_, rfl, ?_⟩
      rcases sAll_spec wb.wg with ⟨e, _⟩ | ⟨st', e, bip, so', told⟩
      · rw [hf] at e
        cases e
      · rw [hf] at e
        cases e
        exact k H2 f st (sHG.trans S.same) nf hf bip so told S.df
end
end K27

namespace K27
open PySem PySem.Spec PyProof.Rows L2 KM
/-- the side that the search gives a place -/
def sideOf (ns : List Str) (es : List (Str × Str)) : Str → Bool := match sAll ns es with
  | some (some st) => fun z => (st.first z).getD false
  | _ => fun _ => false
theorem side_is {ns : List Str} {es : List (Str × Str)} {st : SS Str} (h : sAll ns es = some (some st)) : sideOf ns es = fun z => (st.first z).getD false := by
  unfold sideOf
  rw [h]
theorem side_ok {ns : List Str} {es : List (Str × Str)} {st : SS Str} (wg : Wg ns es) (h : sAll ns es = some (some st)) (so : SO ns es st) (told : ∀ z ∈ ns, (st.first z).isSome = true) : ∀ a b, adj es a b = true → sideOf ns es a ≠ sideOf ns es b := fun a b ad => by
  rw [side_is h]
  obtain ⟨x, ex⟩ := Option.isSome_iff_exists.mp (told a (wg.adj ad).1)
  obtain ⟨y, ey⟩ := Option.isSome_iff_exists.mp (told b (wg.adj ad).2.1)
  have ne := so.good a b ad x ex
  show (st.first a).getD false ≠ (st.first b).getD false
  rw [ex, ey]
  rw [ey] at ne
  exact fun q => ne (by rw [show x = y from q])
section
variable {P : Program} {w : World} {K : PySem.W.Frag} {mg : Str → Option Value} {base : Heap}
def spSidesOf (K : PySem.W.Frag) : Sp := fun vs H Q E => ∃ (a : Addr) (ns : List Str) (es : List (Str × Str)), vs = [.ref a] ∧ WebAt K H a ns es ∧ Wb ns es ∧
  (∀ H' t l r, Same H H' → Bip es → (∀ a b, adj es a b = true → sideOf ns es a ≠ sideOf ns es b) → H' t = some (.tup [.ref l, .ref r]) → H' l = some (.lst (nv (ns.filter (sideOf ns es)))) → H' r = some (.lst (nv (ns.filter fun z => !sideOf ns es z))) → Q (.ref t) H') ∧
  (¬ Bip es → ∀ H' d, Same H H' → E (.ref (aOdd K)) (some d) H')
theorem ok_sides_of (T : Tx K mg) (F1 : Fok P w K mg base CX0 1 (mW K "places") ["self"] (spPlaces K)) (F2 : Fok P w K mg base (L2N.CX P w) 4 (He.ga K "sided") ["web"] (spSided K)) :
    Fok P w K mg base (L2N.CX P w) 5 (He.ga K "sides_of") ["web"] (spSidesOf K) := by
  obtain ⟨fd, F⟩ := T.f_sides_of
  obtain ⟨_, G_Web_places, b_Web_places, _⟩ := F1
  obtain ⟨_, G_sided, b_sided, k_sided⟩ := F2
  refine ⟨fd, F.ok scsides_of (fun vs H Q E h => ?_) (fun cdv A outer s H vs Q E hr h => ?_), b_sides_of F, F.kp⟩
  · obtain ⟨a, ns, es, rfl, _⟩ := h
    rfl
  · obtain ⟨a, ns, es, rfl, hw, wb, k, kE⟩ := h
    have hu := hu_of hr
    obtain ⟨dx, dn, od, bd, h1⟩ := hw.ins
    have tk : L2N.Takes (cxOf (L2N.CX P w) P w K mg base Nsides_of "sides_of" (defScope ssides_of) (He.ga K "sides_of") cdv A outer s H E) (fun cls d _ H => E cls d H) := L2N.takes_of rfl rfl rfl rfl
    refine ⟨_, (pss_cons (ps_set (i := 1) scsides_of.nd rfl (Or.inr rfl) (pe_call G_sided (hr.mono (by decide)) rfl T.g_sided k_sided b_sided .nil (L2N.passes_call tk (fun _ _ _ _ h => h)) (pa_cons (pv 0) pa_nil)))
    (pss_cons (ps_set (i := 2) scsides_of.nd rfl (Or.inl rfl) (pe_meth0 (pv 0) T.cl T.m_places G_Web_places (hr.mono (by decide)) b_Web_places .nil pass0))
    (pss_one (ps_ret (pe_tup (pa_cons (pe_lc (own := [("name", 3)]) rfl scsides_of.nd (pi_list (pv 2)) (blkOk_by (own := [("name", 3)]) (N := Nsides_of) (sc := defScope ssides_of) (by decide +kernel)) (fun _ _ _ _ _ => (pg_name (i := 3) scsides_of.nd rfl (Or.inl rfl))) (fun _ _ _ _ _ => (pts_one (pt_val (pe_dget hu (pv 1) (pv 3) (fun _ _ => rfl))))) (fun _ _ _ _ _ => (pv 3))) (pa_cons (pe_lc (own := [("name", 3)]) rfl scsides_of.nd (pi_list (pv 2)) (blkOk_by (own := [("name", 3)]) (N := Nsides_of) (sc := defScope ssides_of) (by decide +kernel)) (fun _ _ _ _ _ => (pg_name (i := 3) scsides_of.nd rfl (Or.inl rfl))) (fun _ _ _ _ _ => (pts_one (pt_not (pt_val (pe_dget hu (pv 1) (pv 3) (fun _ _ => rfl)))))) (fun _ _ _ _ _ => (pv 3))) pa_nil))))))), ?_⟩
    refine ⟨_, rfl, a, ns, es, rfl, hw, wb, fun H1 f st s1 nf ha bip so told hf => ?_, fun nb H' d s1 => kE nb H' d s1⟩
    refine ⟨_, rfl, a, dx, _, rfl, s1 _ _ h1, nf_places, a, ns, es, rfl, hw.mono s1, fun H2 q s2 nq hq => ?_⟩
    have hln : ns.length ≤ 1000 := Nat.le_trans wb.ln (by decide)
    have hside := side_is ha
    have hs := side_ok wb.wg ha so told
    have hf2 := hf.mono s2
    -- the two lists
    refine ⟨_, rfl, q, rfl, ⟨_, SqL.of hq⟩, fun l nl => ?_⟩
    refine lc_list (K := K) (a := q) (xs := nv ns) (fun j H4 => SelI H2 l ns (sideOf ns es) V.str j H4) (SelI.nil (Same.refl H2) nl) (fun j H4 _ J => SqL.of (J.same _ _ hq)) ?_ ?_
    · intro j x H4 hj J
      obtain ⟨z, hz, rfl⟩ := nv_at hj
      obtain ⟨b, eb⟩ := Option.isSome_iff_exists.mp (told z (List.mem_of_getElem? hz))
      have g := (hf2.mono J.same).get z
      rw [eb] at g
      have e : sideOf ns es z = b := by rw [hside]; show (st.first z).getD false = b; rw [eb]; rfl
      refine ⟨rfl, _, rfl, _, rfl, f, _, rfl, g, _, rfl, ?_⟩
      cases hb : b with
      | true => exact ifT rfl ⟨_, rfl, J.yes hz (Same.refl H4) (e.trans hb) rfl hln⟩
      | false => exact ifF rfl (J.no hz (Same.refl H4) (e.trans hb))
    · intro H4 J
      rw [nv_len] at J
      have hl := J.done
      have s4 := J.same
      have hq4 := s4 _ _ hq
      refine ⟨_, rfl, q, rfl, ⟨_, SqL.of hq4⟩, fun r nr => ?_⟩
      refine lc_list (K := K) (a := q) (xs := nv ns) (fun j H5 => SelI H4 r ns (fun z => !sideOf ns es z) V.str j H5) (SelI.nil (Same.refl H4) nr) (fun j H5 _ J => SqL.of (J.same _ _ hq4)) ?_ ?_
      · intro j x H5 hj J
        obtain ⟨z, hz, rfl⟩ := nv_at hj
        obtain ⟨b, eb⟩ := Option.isSome_iff_exists.mp (told z (List.mem_of_getElem? hz))
        have g := ((hf2.mono s4).mono J.same).get z
        rw [eb] at g
        have e : sideOf ns es z = b := by rw [hside]; show (st.first z).getD false = b; rw [eb]; rfl
        refine ⟨rfl, _, rfl, _, rfl, f, _, rfl, g, _, rfl, ?_⟩
        cases hb : b with
        | true => exact ifF rfl (J.no hz (Same.refl H5) (by rw [e, hb]; rfl))
        | false => exact ifT rfl ⟨_, rfl, J.yes hz (Same.refl H5) (by rw [e, hb]; rfl) rfl hln⟩
      · intro H5 J2
        rw [nv_len] at J2
        refine ⟨(by show 2 ≤ sizeLine; decide), fun t nt => ?_⟩
        have s6 := same_new (o := .tup [.ref l, .ref r]) (Same.refl H5) nt
        exact k _ t l r (s1.trans (s2.trans (s4.trans (J2.same.trans s6)))) bip hs upd_same (s6 _ _ (J2.same _ _ hl)) (s6 _ _ J2.done)
/-! ### reached_from -/
structure RAt (G H : Hp) (ns : List Str) (c l : Addr) (st : RS Str) : Prop where
  same : Same G H
  nc : G c = none
  nl : G l = none
  dc : DictAt ns H c st.came oV
  ln : H l = some (.lst (nv st.line))
def spReached (K : PySem.W.Frag) : Sp := fun vs H Q _ => ∃ (a d l : Addr) (ns : List Str) (es : List (Str × Str)) (c : Str → Bool) (M : Str → Option Str), vs = [.ref a, .ref d, .ref l] ∧ WebAt K H a ns es ∧ Wb ns es ∧ (∀ a b, adj es a b = true → c a ≠ c b) ∧
  DictAt ns H d M V.str ∧ MI ns es c M none ∧ H l = some (.lst (nv (ns.filter c))) ∧
  ∀ H' p st, Same H H' → H p = none → reach ns es M (ns.filter c) = some st → DictAt ns H' p st.came oV → Q (.ref p) H'
theorem fold_take {β : Type} {l : List Str} {i : Nat} {z : Str} (f : β → Str → β) (b : β) (h : l[i]? = some z) : (l.take (i + 1)).foldl f b = f ((l.take i).foldl f b) z := by
  rw [take_more h, List.foldl_append]
  rfl
theorem ok_reached_from (T : Tx K mg) (F1 : Fok P w K mg base CX0 3 (mW K "beside") ["self", "place"] (spBeside K)) : Fok P w K mg base CX0 4 (He.ga K "reached_from") ["web", "partners", "left"] (spReached K) := by
  obtain ⟨fd, F⟩ := T.f_reached_from
  obtain ⟨_, G_Web_beside, b_Web_beside, _⟩ := F1
  refine ⟨fd, F.ok screached_from (fun vs H Q E h => ?_) (fun cdv A outer s H vs Q E hr h => ?_), b_reached_from F, F.kp⟩
  · obtain ⟨a, d, l, ns, es, c, M, rfl, _⟩ := h
    rfl
  · obtain ⟨a, d, lf, ns, es, c, M, rfl, hw, wb, hc, hd, hM, hlf, k⟩ := h
    have hu := hu_of hr
    have hl1 : ns.length ≤ 1000 := Nat.le_trans wb.ln (by decide)
    obtain ⟨dx, dn, od, bd, h1⟩ := hw.ins
    refine ⟨_, PSs.nox (pss_cons (ps_set (i := 3) screached_from.nd rfl (Or.inl rfl) pe_dnewK)
    (pss_cons (ps_setLc (i := 4) (own := [("name", 5)]) rfl screached_from.nd rfl rfl (sw_true rfl rfl rfl (by decide +kernel)) (pi_list (pv 2)) (blkOk_by (own := [("name", 5)]) (N := Nreached_from) (sc := defScope sreached_from) (by decide +kernel)) (fun _ _ _ _ _ => (pg_name (i := 5) screached_from.nd rfl (Or.inl rfl))) (fun _ _ _ _ _ => (pts_one (pt_cmp (pc_dnotin hu (pv 5) (pv 1))))) (fun _ _ _ _ _ => (pv 5)))
    (pss_cons (ps_for PassesOwn.never rfl (pi_list (pv 4)) (pg_name (i := 5) screached_from.nd rfl (Or.inl rfl)) (pss_one (ps_dput hu (pv 3) (pv 5) pe_non rfl)))
    (pss_cons (ps_set (i := 6) screached_from.nd rfl (Or.inl rfl) pe_int)
    (pss_cons (ps_while PassesOwn.never (pt_cmpR op_lt (pv 6) (pe_callB call_len_seq (by rfl) T.z_len (by decide +kernel) (pa_cons (pv 4) pa_nil)) (nomark _)) (pss_cons (ps_for PassesOwn.never rfl (pi_list (pe_meth (pv 0) T.cl T.m_beside G_Web_beside (hr.mono (by decide)) b_Web_beside .nil pass0 (pa_cons (pe_ix ix_list (pv 4) (pv 6) (fun _ _ => rfl)) pa_nil))) (pg_name (i := 7) screached_from.nd rfl (Or.inl rfl)) (pss_one (ps_if (pt_cmp (pc_dnotin hu (pv 7) (pv 3))) (pss_cons (ps_dput hu (pv 3) (pv 7) (pe_ix ix_list (pv 4) (pv 6) (fun _ _ => rfl)) rfl)
    (pss_one (ps_if (pt_cmp (pc_din hu (pv 7) (pv 1))) (pss_cons (ps_dput hu (pv 3) (pe_dget hu (pv 1) (pv 7) (fun _ _ => rfl)) (pv 7) rfl)
    (pss_one (ps_expr (pe_bm PySem.F.plainAttrs_list PySem.F.slot_list_append PySem.F.type_list_append mt_append (pv 4) (pa_cons (pe_dget hu (pv 1) (pv 7) (fun _ _ => rfl)) pa_nil))))) pss_nil))) pss_nil)))
    (pss_one (ps_aug (i := 6) screached_from.nd rfl (.inl rfl) pe_int ip_add))))
    (pss_one (ps_ret (pv 3)))))))), ?_⟩
    intro p np
    have s0 := same_new (o := .dK []) (Same.refl H) np
    refine ⟨_, rfl, lf, rfl, ⟨_, SqL.of (s0 _ _ hlf)⟩, fun l nl => ?_⟩
    have hfl : (ns.filter c).length ≤ ns.length := List.length_filter_le _ _
    refine lc_list (K := K) (a := lf) (xs := nv (ns.filter c)) (fun j H4 => SelI (upd H p (.dK [])) l (ns.filter c) (fun z => (M z).isNone) V.str j H4) (SelI.nil (Same.refl _) nl) (fun j H4 _ J => SqL.of (J.same _ _ (s0 _ _ hlf))) ?_ ?_
    · intro j x H4 hj J
      obtain ⟨z, hz, rfl⟩ := nv_at hj
      refine ⟨rfl, _, rfl, _, rfl, d, _, rfl, (hd.mono (s0.trans J.same)).get z, _, rfl, ?_⟩
      cases mz : M z with
      | none => exact ifT rfl ⟨_, rfl, J.yes hz (Same.refl H4) (by rw [mz]; rfl) rfl (by omega)⟩
      | some y => exact ifF rfl (J.no hz (Same.refl H4) (by rw [mz]; rfl))
    · intro H4 J
      rw [nv_len] at J
      have hl4 : H4 l = some (.lst (nv (rLine M (ns.filter c)))) := J.done
      have s4 := J.same
      have hp4 := s4 _ _ (upd_same : upd H p (.dK []) p = some (.dK []))
      have pl : p ≠ l := ne_of hp4 hl4 (by intro z; cases z)
      have sH4 := s0.trans s4
      obtain ⟨G1, hG1⟩ : ∃ G1, G1 = off H4 p := ⟨_, rfl⟩
      have G1l : G1 l = some (.lst (nv (rLine M (ns.filter c)))) := by rw [hG1, off_ne pl.symm, hl4]
      have G1p : G1 p = none := by rw [hG1, off_same]
      have memL : ∀ z ∈ rLine M (ns.filter c), z ∈ ns := fun z hz => (List.mem_filter.mp (List.mem_filter.mp hz).1).1
      have lnL : (rLine M (ns.filter c)).length ≤ ns.length := Nat.le_trans (List.length_filter_le _ _) hfl
      refine ⟨_, rfl, l, rfl, ⟨_, SqL.of hl4⟩, for_list (K := K) (a := l) (xs := nv (rLine M (ns.filter c))) (fun i σ H' => ∃ v5, σ = [some (.ref a), some (.ref d), some (.ref lf), some (.ref p), some (.ref l), v5, none, none] ∧ Same G1 H' ∧
        DictAt ns H' p (((rLine M (ns.filter c)).take i).foldl (fun f z => put f z none) (fun _ => none)) oV) ⟨none, rfl, by rw [hG1]; exact same_off, DictAt.nil hp4⟩ (fun i σ H' _ ⟨_, _, s, _⟩ => SqL.of (s _ _ G1l)) ?_ ?_⟩
      · rintro i x σ H5 hi ⟨v5, rfl, s5, D5⟩
        obtain ⟨z, hz, rfl⟩ := nv_at hi
        obtain ⟨u, p1, D6⟩ := D5.put none (memL z (List.mem_of_getElem? hz)) hl1
        refine ⟨_, rfl, _, rfl, p, _, rfl, p1, _, rfl, same_mut s5 G1p, ?_⟩
        rw [fold_take _ _ hz]
        exact D6
      · rintro σ H5 ⟨v5, rfl, s5, D5⟩
        rw [nv_len, List.take_length] at D5
        obtain ⟨fin, hfin, _⟩ := reach_ok wb.wg hc hM
        have hl5 := s5 _ _ G1l
        obtain ⟨G, hG⟩ : ∃ G, G = off (off H5 p) l := ⟨_, rfl⟩
        have sHG : Same H G := by
          rw [hG]
          exact same_to (same_to ((by rw [hG1]; exact same_to sH4 np : Same H G1).trans s5) np) (s0.free nl)
        have R0 : RAt G H5 ns p l (rStart M (ns.filter c)) := by
          refine ⟨by rw [hG]; exact same_off.trans same_off, by rw [hG, off_ne pl, off_same], by rw [hG, off_same], D5, hl5⟩
        refine ⟨fun m σ H' => ∃ (i : Nat) (st : RS Str) (v5 v7 : Option V), σ = [some (.ref a), some (.ref d), some (.ref lf), some (.ref p), some (.ref l), v5, some (.int (i : Int)), v7] ∧ RAt G H' ns p l st ∧ RI ns es c M st ∧ i ≤ st.line.length ∧ m + i = ns.length + 1 ∧ rLoop ns es M m i st = some fin,
          ⟨ns.length + 1, 0, _, _, _, rfl, R0, RI.start wb.wg.nd, Nat.zero_le _, rfl, hfin⟩, ?_⟩
        rintro m σ6 H6 ⟨i, st, w5, w7, rfl, R6, ri, hil, hmi, hloop⟩
        have lnn := nodup_sub_len ri.nd fun z hz => (ri.lin z hz).1
        obtain ⟨m', rfl⟩ : ∃ m', m = m' + 1 := ⟨m - 1, by omega⟩
        refine ⟨_, rfl, _, rfl, l, _, rfl, .inl (SqL.of R6.ln), _, _, rfl, rfl, _, rfl, ?_⟩
        rw [nv_len]
        cases hget : st.line[i]? with
        | none =>
          have ge := List.getElem?_eq_none_iff.mp hget
          refine ifF (decide_eq_false (by omega)) ?_
          rw [rLoop_none hget] at hloop
          cases hloop
          exact ⟨_, rfl, k _ _ _ (sHG.trans R6.same) np hfin R6.dc⟩
        | some name =>
          have lt := at_lt hget
          have hn : name ∈ st.line := List.mem_of_getElem? hget
          have hname := (ri.lin name hn).1
          refine ifT (decide_eq_true (by omega)) ?_
          refine ⟨fun σ' H' => ∃ (st : RS Str) (v5 v7 : Option V), σ' = [some (.ref a), some (.ref d), some (.ref lf), some (.ref p), some (.ref l), v5, some (.int ((i + 1 : Nat) : Int)), v7] ∧ RAt G H' ns p l st ∧ RI ns es c M st ∧ i + 1 ≤ st.line.length ∧ rLoop ns es M m' (i + 1) st = some fin,
            fun σ' H' ⟨st, v5, v7, a1, a2, a3, a4, a5⟩ => ⟨m', Nat.lt_succ_self _, i + 1, st, v5, v7, a1, a2, a3, a4, by omega, a5⟩, ?_⟩
          have hw6 := hw.mono (sHG.trans R6.same)
          refine ⟨_, rfl, a, dx, _, rfl, R6.same _ _ (sHG _ _ h1), nf_beside, _, rfl, _, rfl, _, _, _, _, rfl, rfl, SqL.of R6.ln, atI_nat (nv_get hget), a, ns, es, name, rfl, hw6, wb, hname, fun H7 b s7 nb7 hb => ?_⟩
          have bp : b ≠ p := fun e => by
            obtain ⟨kvs, q1, _⟩ := R6.dc.ex
            rw [e, q1] at nb7
            cases nb7
          have bl : b ≠ l := fun e => by
            rw [e, R6.ln] at nb7
            cases nb7
          obtain ⟨G2, hG2⟩ : ∃ G2, G2 = off (off H7 p) l := ⟨_, rfl⟩
          have g2b : G2 b = some (.lst (nv (nb ns es name))) := by rw [hG2, off_ne bl, off_ne bp, hb]
          have sG2 : Same G G2 := by
            rw [hG2]
            exact same_to (same_to (R6.same.trans s7) R6.nc) R6.nl
          have R7 : RAt G2 H7 ns p l st := by
            refine ⟨by rw [hG2]; exact same_off.trans same_off, by rw [hG2, off_ne pl, off_same], by rw [hG2, off_same], R6.dc.mono s7, s7 _ _ R6.ln⟩
          refine ⟨b, rfl, ⟨_, SqL.of hb⟩, for_list (K := K) (a := b) (xs := nv (nb ns es name)) (fun j σ H' => ∃ (st2 : RS Str) (v7 : Option V), σ = [some (.ref a), some (.ref d), some (.ref lf), some (.ref p), some (.ref l), w5, some (.int (i : Int)), v7] ∧ RAt G2 H' ns p l st2 ∧ RI ns es c M st2 ∧
            (∃ x, st2.line = st.line ++ x) ∧ rVisits M name (nb ns es name) st = rVisits M name ((nb ns es name).drop j) st2) ⟨st, _, rfl, R7, ri, ⟨[], (List.append_nil _).symm⟩, rfl⟩ (fun j σ H' _ ⟨_, _, _, S, _⟩ => SqL.of (S.same _ _ g2b)) ?_ ?_⟩
          · rintro j x σ H8 hj ⟨st2, v7, rfl, R8, r8, ⟨x8, hx8⟩, hv8⟩
            obtain ⟨o, ho, rfl⟩ := nv_at hj
            have hob : o ∈ nb ns es name := List.mem_of_getElem? ho
            obtain ⟨hon, ad⟩ := mem_nb.mp hob
            rw [drop_cons ho, rVisits_cons] at hv8
            have hn8 : name ∈ st2.line := by rw [hx8]; exact List.mem_append_left _ hn
            have hg8 : st2.line[i]? = some name := by rw [hx8, List.getElem?_append_left lt, hget]
            obtain ⟨r9, ⟨x9, hx9⟩, _, _⟩ := r8.visit hc hM hn8 hob
            have sd : ∀ {H' : Hp}, Same G2 H' → DictAt ns H' d M V.str := fun s => hd.mono (sHG.trans (sG2.trans s))
            refine ⟨_, rfl, _, rfl, p, _, rfl, R8.dc.get o, _, rfl, ?_⟩
            rw [Option.isSome_map]
            rcases rVisit_at M name st2 o with ⟨h, e⟩ | ⟨h, h2, e⟩ | ⟨y, h, h2, e⟩
            · rw [h]
              rw [e] at hv8
              exact ifF rfl ⟨st2, _, rfl, R8, r8, ⟨x8, hx8⟩, hv8⟩
            · rw [h]
              refine ifT rfl ?_
              obtain ⟨u1, p1, D9⟩ := R8.dc.put (some name) hon hl1
              refine ⟨_, rfl, _, rfl, _, _, _, _, rfl, rfl, SqL.of R8.ln, atI_nat (nv_get hg8), _, rfl, _, rfl, p, _, rfl, p1, ?_⟩
              have s9 : Same G2 (upd H8 p u1) := same_mut R8.same R8.nc
              refine ⟨_, rfl, _, rfl, d, _, rfl, (sd s9).get o, _, rfl, ?_⟩
              rw [h2]
              refine ifF rfl ?_
              rw [e] at hv8 r9 hx9
              exact ⟨_, _, rfl, ⟨s9, R8.nc, R8.nl, D9, by rw [upd_ne pl.symm]; exact R8.ln⟩, r9, ⟨x8, hx8⟩, hv8⟩
            · rw [h]
              refine ifT rfl ?_
              obtain ⟨u1, p1, D9⟩ := R8.dc.put (some name) hon hl1
              refine ⟨_, rfl, _, rfl, _, _, _, _, rfl, rfl, SqL.of R8.ln, atI_nat (nv_get hg8), _, rfl, _, rfl, p, _, rfl, p1, ?_⟩
              have s9 : Same G2 (upd H8 p u1) := same_mut R8.same R8.nc
              have g9 := (sd s9).get o
              refine ⟨_, rfl, _, rfl, d, _, rfl, g9, _, rfl, ?_⟩
              rw [h2] at g9 ⊢
              refine ifT rfl ?_
              have hy : y ∈ ns := hM.dom y (by rw [(hM.sym h2).1]; rfl)
              obtain ⟨u2, p2, D10⟩ := D9.put (some o) hy hl1
              refine ⟨_, rfl, _, rfl, _, rfl, _, rfl, d, _, rfl, g9, p, _, rfl, p2, ?_⟩
              have s10 : Same G2 (upd (upd H8 p u1) p u2) := same_mut s9 R8.nc
              have g10 := (sd s10).get o
              rw [h2] at g10
              have hl10 : upd (upd H8 p u1) p u2 l = some (.lst (nv st2.line)) := by rw [upd_ne pl.symm, upd_ne pl.symm]; exact R8.ln
              have hsz : (nv st2.line).length < sizeLine := by
                rw [nv_len]
                have := nodup_sub_len r8.nd fun z hz => (r8.lin z hz).1
                exact Nat.lt_of_le_of_lt (Nat.le_trans this hl1) (by decide)
              refine ⟨_, rfl, .inl ⟨rfl, _, SqL.of hl10⟩, _, rfl, _, rfl, d, _, rfl, g10, l, _, _, rfl, rfl, hl10, hsz, ?_⟩
              have app : nv st2.line ++ [V.str y] = nv (st2.line ++ [y]) := by
                unfold nv
                rw [List.map_append]
                rfl
              rw [e] at hv8 r9 hx9
              exact ⟨_, _, rfl, ⟨same_mut s10 R8.nl, R8.nc, R8.nl, D10.other pl, by rw [upd_same, app]⟩, r9, ⟨x8 ++ [y], by show st2.line ++ [y] = _; rw [hx8, List.append_assoc]⟩, hv8⟩
          · rintro σ H8 ⟨st2, v7, rfl, R8, r8, ⟨x8, hx8⟩, hv8⟩
            rw [nv_len, List.drop_length] at hv8
            have hv8 : rVisits M name (nb ns es name) st = st2 := hv8
            refine ⟨_, rfl, _, _, rfl, rfl, ?_⟩
            refine ⟨st2, _, _, rfl, ⟨sG2.trans R8.same, R6.nc, R6.nl, R8.dc, R8.ln⟩, r8, by rw [hx8, List.length_append]; omega, ?_⟩
            rw [← hloop, rLoop_some hget, hv8]
end
end K27

namespace K27
open PySem PySem.Spec PyProof.Rows L2 KM
section
variable {P : Program} {w : World} {K : PySem.W.Frag} {mg : Str → Option Value} {base : Heap}
/-! ### grown -/
def spGrown (K : PySem.W.Frag) : Sp := fun vs H Q _ => ∃ (G : Hp) (a d l r : Addr) (ns : List Str) (es : List (Str × Str)) (c : Str → Bool) (M : Str → Option Str), vs = [.ref a, .ref d, .ref l, .ref r] ∧ Same G H ∧ G d = none ∧ WebAt K G a ns es ∧ Wb ns es ∧ (∀ a b, adj es a b = true → c a ≠ c b) ∧
  DictAt ns H d M V.str ∧ MI ns es c M none ∧ G l = some (.lst (nv (ns.filter c))) ∧ G r = some (.lst (nv (ns.filter fun z => !c z))) ∧
  ∀ H' b M', Same G H' → ((b = false ∧ M' = M ∧ grown ns es (ns.filter c) (ns.filter fun z => !c z) M = some none) ∨ (b = true ∧ grown ns es (ns.filter c) (ns.filter fun z => !c z) M = some (some M'))) → DictAt ns H' d M' V.str → Q (.bl b) H'
theorem ok_grown (T : Tx K mg) (F1 : Fok P w K mg base CX0 4 (He.ga K "reached_from") ["web", "partners", "left"] (spReached K)) : Fok P w K mg base CX0 5 (He.ga K "grown") ["web", "partners", "left", "right"] (spGrown K) := by
  obtain ⟨fd, F⟩ := T.f_grown
  obtain ⟨_, G_reached_from, b_reached_from, k_reached_from⟩ := F1
  refine ⟨fd, F.ok scgrown (fun vs H Q E h => ?_) (fun cdv A outer s H vs Q E hr h => ?_), b_grown F, F.kp⟩
  · obtain ⟨G, a, d, l, r, ns, es, c, M, rfl, _⟩ := h
    rfl
  · obtain ⟨G, a, d, lf, rf, ns, es, c, M, rfl, sG, Gd, hw, wb, hc, hd, hM, hlf, hrf, k⟩ := h
    have hu := hu_of hr
    have hl1 : ns.length ≤ 1000 := Nat.le_trans wb.ln (by decide)
    refine ⟨_, PSs.nox (pss_cons (ps_set (i := 4) scgrown.nd rfl (Or.inr rfl) (pe_call G_reached_from (hr.mono (by decide)) rfl T.g_reached_from k_reached_from b_reached_from .nil pass0 (pa_cons (pv 0) (pa_cons (pv 1) (pa_cons (pv 2) pa_nil)))))
    (pss_cons (ps_setLc (i := 5) (own := [("name", 6)]) rfl scgrown.nd rfl rfl (sw_true rfl rfl rfl (by decide +kernel)) (pi_list (pv 3)) (blkOk_by (own := [("name", 6)]) (N := Ngrown) (sc := defScope sgrown) (by decide +kernel)) (fun _ _ _ _ _ => (pg_name (i := 6) scgrown.nd rfl (Or.inl rfl))) (fun _ _ _ _ _ => (pts_one (PW.pt (pw_and (pt_cmp (pc_din hu (pv 6) (pv 4))) (pw_and1 (pt_cmp (pc_dnotin hu (pv 6) (pv 1)))))))) (fun _ _ _ _ _ => (pv 6)))
    (pss_cons (ps_if (pt_cmpR (op_eqD hr.units) (pv 5) (pe_lst pa_nil) (nomark _)) (pss_one (ps_ret pe_bl)) pss_nil)
    (pss_cons (ps_set (i := 6) scgrown.nd rfl (Or.inl rfl) (pe_ix ix_list (pv 5) pe_int (fun _ _ => rfl)))
    (pss_cons (ps_while PassesOwn.never (pt_cmpR op_notN (pv 6) pe_non (nomark _)) (pss_cons (ps_set (i := 7) scgrown.nd rfl (Or.inl rfl) (pe_dget hu (pv 4) (pv 6) (fun _ _ => rfl)))
    (pss_cons (ps_set (i := 8) scgrown.nd rfl (Or.inl rfl) (pe_dget1 hu (pv 1) (pv 7) ⟨rfl, rfl, rfl, rfl⟩))
    (pss_cons (ps_dput hu (pv 1) (pv 6) (pv 7) rfl)
    (pss_cons (ps_dput hu (pv 1) (pv 7) (pv 6) rfl)
    (pss_one (ps_set (i := 6) scgrown.nd rfl (Or.inl rfl) (pv 8))))))))
    (pss_one (ps_ret pe_bl))))))), ?_⟩
    refine ⟨_, rfl, _, rfl, _, rfl, a, d, lf, ns, es, c, M, rfl, hw.mono sG, wb, hc, hd, hM, sG _ _ hlf, fun H1 p st s1 np hst hp => ?_⟩
    obtain ⟨fin, hfin, ri, _⟩ := reach_ok wb.wg hc hM
    rw [hst] at hfin
    cases hfin
    have sG1 := sG.trans s1
    have hd1 := hd.mono s1
    refine ⟨_, rfl, rf, rfl, ⟨_, SqL.of (sG1 _ _ hrf)⟩, fun g ng => ?_⟩
    have hfl : (ns.filter fun z => !c z).length ≤ ns.length := List.length_filter_le _ _
    refine lc_list (K := K) (a := rf) (xs := nv (ns.filter fun z => !c z)) (fun j H4 => SelI H1 g (ns.filter fun z => !c z) (fun z => (st.came z).isSome && (M z).isNone) V.str j H4) (SelI.nil (Same.refl _) ng) (fun j H4 _ J => SqL.of (J.same _ _ (sG1 _ _ hrf))) ?_ ?_
    · intro j x H4 hj J
      obtain ⟨z, hz, rfl⟩ := nv_at hj
      refine ⟨rfl, _, rfl, _, rfl, p, _, rfl, (hp.mono J.same).get z, _, rfl, ?_⟩
      rw [Option.isSome_map]
      cases cz : (st.came z).isSome with
      | false => exact ifF rfl (ifF rfl (J.no hz (Same.refl H4) (by rw [cz]; rfl)))
      | true =>
        refine ifT rfl ⟨_, rfl, _, rfl, d, _, rfl, (hd1.mono J.same).get z, _, rfl, ?_⟩
        rw [Option.isSome_map]
        cases mz : M z with
        | none => exact ifT rfl ⟨_, rfl, J.yes hz (Same.refl H4) (by rw [cz, mz]; rfl) rfl (by omega)⟩
        | some y => exact ifF rfl (J.no hz (Same.refl H4) (by rw [cz, mz]; rfl))
    · intro H4 J
      rw [nv_len] at J
      have hg4 : H4 g = some (.lst (nv (goals M st.came (ns.filter fun z => !c z)))) := J.done
      have s4 := J.same
      have mem : ∀ z ∈ goals M st.came (ns.filter fun z => !c z), z ∈ ns ∧ c z = false ∧ M z = none := fun z hz => by
        obtain ⟨h1, h2⟩ := List.mem_filter.mp hz
        obtain ⟨h3, h4⟩ := List.mem_filter.mp h1
        refine ⟨h3, ?_, Option.isNone_iff_eq_none.mp (Bool.and_eq_true_iff.mp h2).2⟩
        cases q : c z with
        | false => rfl
        | true =>
          rw [q] at h4
          cases h4
      refine ⟨_, rfl, Nat.zero_le _, fun e0 ne0 => ?_⟩
      have s5 := same_new (o := .lst []) (Same.refl H4) ne0
      have hg5 := s5 _ _ hg4
      refine ⟨.list (nD (goals M st.came (ns.filter fun z => !c z))), .list [], .lst (SqL.of hg5) (Dqs.dp _ _ (Dqs.nv (H := upd H4 e0 (.lst [])) _) (canN fun y hy => wb.ok y (mem y hy).1)), .lst (SqL.of upd_same) .nil, shN (fun y hy => wb.ok y (mem y hy).1), shape_nil, _, rfl, ?_⟩
      rw [eqv_nil]
      have sG5 : Same G (upd H4 e0 (.lst [])) := sG1.trans (s4.trans s5)
      have hd5 := (hd1.mono s4).mono s5
      have hp5 := (hp.mono s4).mono s5
      cases hgo : goals M st.came (ns.filter fun z => !c z) with
      | nil =>
        refine ifT rfl ?_
        exact k _ false M sG5 (.inl ⟨rfl, rfl, grown_nil hst hgo⟩) hd5
      | cons x r =>
        refine ifF rfl ?_
        rw [hgo] at hg5
        obtain ⟨M', hM'⟩ := aug_some wb.wg hc hM hst hgo
        obtain ⟨xn, xc, xm⟩ := mem x (by rw [hgo]; exact List.mem_cons_self)
        refine ⟨_, rfl, _, _, _, _, rfl, rfl, SqL.of hg5, atI_nat (j := 0) rfl, ?_⟩
        obtain ⟨H5, e5⟩ : ∃ H5, H5 = upd H4 e0 (.lst []) := ⟨_, rfl⟩
        rw [← e5] at sG5 hd5 hp5
        have pd : p ≠ d := fun e => by
          obtain ⟨kvs, q, _⟩ := hd.ex
          rw [e, q] at np
          cases np
        have rest : ∃ G5, Same G G5 ∧ G5 d = none ∧ Same G5 H5 ∧ DictAt ns G5 p st.came oV := by
          refine ⟨off H5 d, same_to sG5 Gd, off_same, same_off, ?_⟩
          obtain ⟨kvs, q1, q2⟩ := hp5.ex
          exact ⟨kvs, (off_ne pd).trans q1, q2⟩
        obtain ⟨G5, sGG5, G5d, sG5H, hpG⟩ := rest
        rw [← e5]
        refine ⟨fun m σ H' => ∃ (v7 v8 : Option V), Same G5 H' ∧ ((∃ name M1, σ = [some (.ref a), some (.ref d), some (.ref lf), some (.ref rf), some (.ref p), some (.ref g), some (.str name), v7, v8] ∧ DictAt ns H' d M1 V.str ∧ MI ns es c M1 (some name) ∧ c name = false ∧ aug st.came m M1 name = some M') ∨
          (σ = [some (.ref a), some (.ref d), some (.ref lf), some (.ref rf), some (.ref p), some (.ref g), some .non, v7, v8] ∧ DictAt ns H' d M' V.str)), ⟨ns.length + 1, none, none, sG5H, .inl ⟨x, M, rfl, hd5, hM.hole xm, xc, hM'⟩⟩, ?_⟩
        rintro m σ H6 ⟨v7, v8, s6, ⟨name, M1, rfl, hd6, mi, nc, ha⟩ | ⟨rfl, hd6⟩⟩
        · refine ⟨_, rfl, rfl, _, rfl, ?_⟩
          refine ifT rfl ?_
          obtain ⟨m', one, rfl, hcame, hcase⟩ := aug_inv ha
          obtain ⟨_, e1, ol, ad, _⟩ := ri.rig name _ nc hcame
          cases e1
          obtain ⟨on, oc, _⟩ := ri.lin one ol
          have nn := ri.dom name (by rw [hcame]; rfl)
          have ms := mi.step nc oc ad on nn
          have gc := (hpG.mono s6).get name
          rw [hcame] at gc
          have gm := hd6.get one
          obtain ⟨u1, p1, D1⟩ := hd6.put one nn hl1
          obtain ⟨u2, p2, D2⟩ := D1.put name on hl1
          have s8 : Same G5 (upd (upd H6 d u1) d u2) := same_mut (same_mut s6 G5d) G5d
          rcases hcase with ⟨hone, rfl⟩ | ⟨b, hone, ha'⟩
          · rw [hone] at gm
            refine ⟨fun σ' H' => ∃ (v7 v8 : Option V), Same G5 H' ∧ σ' = [some (.ref a), some (.ref d), some (.ref lf), some (.ref rf), some (.ref p), some (.ref g), some .non, v7, v8] ∧ DictAt ns H' d (put (put M1 name one) one name) V.str, fun σ' H' ⟨v7, v8, a1, a2, a3⟩ => ⟨m', Nat.lt_succ_self _, v7, v8, a1, .inr ⟨a2, a3⟩⟩, ?_⟩
            refine ⟨_, rfl, _, rfl, p, _, rfl, gc, ?_⟩
            refine ⟨_, rfl, d, rfl, hd6.isD, _, rfl, _, gm, ?_⟩
            refine ⟨_, rfl, _, rfl, _, rfl, d, _, rfl, p1, ?_⟩
            refine ⟨_, rfl, _, rfl, _, rfl, d, _, rfl, p2, ?_⟩
            exact ⟨_, rfl, _, _, s8, rfl, D2⟩
          · rw [hone] at gm ms
            obtain ⟨bc, _⟩ := mi.lft one b oc hone
            refine ⟨fun σ' H' => ∃ (v7 v8 : Option V), Same G5 H' ∧ σ' = [some (.ref a), some (.ref d), some (.ref lf), some (.ref rf), some (.ref p), some (.ref g), some (.str b), v7, v8] ∧ DictAt ns H' d (put (put M1 name one) one name) V.str, fun σ' H' ⟨v7, v8, a1, a2, a3⟩ => ⟨m', Nat.lt_succ_self _, v7, v8, a1, .inl ⟨b, _, a2, a3, ms, bc, ha'⟩⟩, ?_⟩
            refine ⟨_, rfl, _, rfl, p, _, rfl, gc, ?_⟩
            refine ⟨_, rfl, d, rfl, hd6.isD, _, rfl, _, gm, ?_⟩
            refine ⟨_, rfl, _, rfl, _, rfl, d, _, rfl, p1, ?_⟩
            refine ⟨_, rfl, _, rfl, _, rfl, d, _, rfl, p2, ?_⟩
            exact ⟨_, rfl, _, _, s8, rfl, D2⟩
        · refine ⟨_, rfl, rfl, _, rfl, ?_⟩
          refine ifF rfl ?_
          exact k _ true M' (sGG5.trans s6) (.inr ⟨rfl, grown_cons hst hgo hM'⟩) hd6
end
end K27

namespace K27
open PySem PySem.Spec PyProof.Rows L2 KM
theorem bySides_eq {ns left right : List Str} {es : List (Str × Str)} {M : Str → Option Str} {st : RS Str} (h1 : gLoop ns es left right (ns.length + 1) (fun _ => none) = some M) (h2 : reach ns es M left = some st) : bySides ns es left right = some (risingOf ns M, coverOf ns left st.came) := by
  unfold bySides
  rw [h1]
  dsimp only
  rw [h2]
theorem ne_bl (a b : Bool) : (!decide (V.bl a = V.bl b)) = (a != b) := by cases a <;> cases b <;> decide
section
variable {P : Program} {w : World} {K : PySem.W.Frag} {mg : Str → Option Value} {base : Heap}
/-! ### greatest_by_sides -/
def greatest (ns : List Str) (es : List (Str × Str)) : Option (List (Str × Str) × List Str) := bySides ns es (ns.filter (sideOf ns es)) (ns.filter fun z => !sideOf ns es z)
def spGreatest (K : PySem.W.Frag) : Sp := fun vs H Q E => ∃ (a : Addr) (ns : List Str) (es : List (Str × Str)), vs = [.ref a] ∧ WebAt K H a ns es ∧ Wb ns es ∧
  (∀ H' t p c P C, Same H H' → H t = none → H p = none → H c = none → p ≠ c → Bip es → greatest ns es = some (P, C) → Best ns es P C → H' t = some (.tup [.ref p, .ref c]) → Dq H' (.ref p) (.list (tD P)) → H' c = some (.lst (nv C)) → Q (.ref t) H') ∧
  (¬ Bip es → ∀ H' d, Same H H' → E (.ref (aOdd K)) (some d) H')
theorem ok_greatest (T : Tx K mg) (F1 : Fok P w K mg base (L2N.CX P w) 5 (He.ga K "sides_of") ["web"] (spSidesOf K)) (F2 : Fok P w K mg base CX0 5 (He.ga K "grown") ["web", "partners", "left", "right"] (spGrown K))
    (F3 : Fok P w K mg base CX0 4 (He.ga K "reached_from") ["web", "partners", "left"] (spReached K)) (F4 : Fok P w K mg base CX0 1 (mW K "places") ["self"] (spPlaces K)) (F5 : Fok P w K mg base CX0 2 (He.ga K "rising") ["web", "partners"] (spRising K)) :
    Fok P w K mg base (L2N.CX P w) 6 (He.ga K "greatest_by_sides") ["web"] (spGreatest K) := by
  obtain ⟨fd, F⟩ := T.f_greatest_by_sides
  obtain ⟨_, G_sides_of, b_sides_of, k_sides_of⟩ := F1
  obtain ⟨_, G_grown, b_grown, k_grown⟩ := F2
  obtain ⟨_, G_reached_from, b_reached_from, k_reached_from⟩ := F3
  obtain ⟨_, G_Web_places, b_Web_places, _⟩ := F4
  obtain ⟨_, G_rising, b_rising, k_rising⟩ := F5
  refine ⟨fd, F.ok scgreatest_by_sides (fun vs H Q E h => ?_) (fun cdv A outer s H vs Q E hr h => ?_), b_greatest_by_sides F, F.kp⟩
  · obtain ⟨a, ns, es, rfl, _⟩ := h
    rfl
  · obtain ⟨a, ns, es, rfl, hw, wb, k, kE⟩ := h
    have hu := hu_of hr
    have hl1 : ns.length ≤ 1000 := Nat.le_trans wb.ln (by decide)
    obtain ⟨dx, dn, od, bd, h1⟩ := hw.ins
    have tk : L2N.Takes (cxOf (L2N.CX P w) P w K mg base Ngreatest_by_sides "greatest_by_sides" (defScope sgreatest_by_sides) (He.ga K "greatest_by_sides") cdv A outer s H E) (fun cls d _ H => E cls d H) := L2N.takes_of rfl rfl rfl rfl
    refine ⟨_, (pss_cons (ps_asg (pe_call G_sides_of (hr.mono (by decide)) rfl T.g_sides_of k_sides_of b_sides_of .nil (L2N.passes_call tk (fun _ _ _ _ h => h)) (pa_cons (pv 0) pa_nil)) (pg_tup rfl (pgs_cons (pg_name (i := 1) scgreatest_by_sides.nd rfl (Or.inr rfl)) (pgs_cons (pg_name (i := 2) scgreatest_by_sides.nd rfl (Or.inl rfl)) pgs_nil))))
    (pss_cons (ps_set (i := 3) scgreatest_by_sides.nd rfl (Or.inl rfl) pe_dnewK)
    (pss_cons (ps_set (i := 4) scgreatest_by_sides.nd rfl (Or.inl rfl) pe_bl)
    (pss_cons (ps_while PassesOwn.leaving (pt_val (pv 4)) (pss_one (ps_set (i := 4) scgreatest_by_sides.nd rfl (Or.inl rfl) (pe_call G_grown (hr.mono (by decide)) rfl T.g_grown k_grown b_grown .nil pass0 (pa_cons (pv 0) (pa_cons (pv 3) (pa_cons (pv 1) (pa_cons (pv 2) pa_nil))))))))
    (pss_cons (ps_set (i := 5) scgreatest_by_sides.nd rfl (Or.inr rfl) (pe_call G_reached_from (hr.mono (by decide)) rfl T.g_reached_from k_reached_from b_reached_from .nil pass0 (pa_cons (pv 0) (pa_cons (pv 3) (pa_cons (pv 1) pa_nil)))))
    (pss_cons (ps_setLc (i := 6) (own := [("name", 7)]) rfl scgreatest_by_sides.nd rfl rfl (sw_true rfl rfl rfl (by decide +kernel)) (pi_list (pe_meth0 (pv 0) T.cl T.m_places G_Web_places (hr.mono (by decide)) b_Web_places .nil pass0)) (blkOk_by (own := [("name", 7)]) (N := Ngreatest_by_sides) (sc := defScope sgreatest_by_sides) (by decide +kernel)) (fun _ _ _ _ _ => (pg_name (i := 7) scgreatest_by_sides.nd rfl (Or.inl rfl))) (fun _ _ _ _ _ => (pts_one (pt_cmpR op_ne (pe_cmpR (op_in_seqK (K := K) rfl) (pv 7) (pv 1) (by first | exact nomark _ | rfl)) (pe_cmp (pc_din hu (pv 7) (pv 5))) (nomark _)))) (fun _ _ _ _ _ => (pv 7)))
    (pss_one (ps_ret (pe_tup (pa_cons (pe_call G_rising (hr.mono (by decide)) rfl T.g_rising k_rising b_rising .nil pass0 (pa_cons (pv 0) (pa_cons (pv 3) pa_nil))) (pa_cons (pv 6) pa_nil))))))))))), ?_⟩
    refine ⟨_, rfl, a, ns, es, rfl, hw, wb, fun H1 t l r s1 bip hs ht hl hr' => ?_, fun nb H' d s1 => kE nb H' d s1⟩
    refine ⟨t, _, rfl, SqT.of ht, rfl, _, _, rfl, _, _, rfl, rfl, ?_⟩
    intro d nd
    have s2 := same_new (o := .dK []) (Same.refl H1) nd
    have D0 : DictAt ns (upd H1 d (.dK [])) d (fun _ => (none : Option Str)) V.str := DictAt.nil upd_same
    have H1d : H1 d = none := nd
    obtain ⟨F, stF, hF, mF, hreach, ri, hdone, hno⟩ := gLoop_ok wb.wg hs (ns.length + 1) _ (MI.nil ns es (sideOf ns es)) (by omega)
    -- while more
    refine ⟨fun m σ H' => ∃ (M : Str → Option Str) (b : Bool), σ = [some (.ref a), some (.ref l), some (.ref r), some (.ref d), some (.bl b), none, none, none] ∧ Same H1 H' ∧ DictAt ns H' d M V.str ∧ MI ns es (sideOf ns es) M none ∧
      ((b = true ∧ gLoop ns es (ns.filter (sideOf ns es)) (ns.filter fun z => !sideOf ns es z) m M = some F) ∨ (b = false ∧ M = F)), ⟨ns.length + 1, _, true, rfl, s2, D0, MI.nil ns es _, .inl ⟨rfl, hF⟩⟩, ?_⟩
    rintro m σ H2 ⟨M, b, rfl, s3, D3, mi, ⟨rfl, hloop⟩ | ⟨rfl, rfl⟩⟩
    · refine ⟨_, rfl, _, rfl, ?_⟩
      refine ifT rfl ?_
      obtain ⟨m', rfl, hcase⟩ := gLoop_inv hloop
      refine ⟨fun σ' H' => ∃ (M : Str → Option Str) (b : Bool), σ' = [some (.ref a), some (.ref l), some (.ref r), some (.ref d), some (.bl b), none, none, none] ∧ Same H1 H' ∧ DictAt ns H' d M V.str ∧ MI ns es (sideOf ns es) M none ∧
        ((b = true ∧ gLoop ns es (ns.filter (sideOf ns es)) (ns.filter fun z => !sideOf ns es z) m' M = some F) ∨ (b = false ∧ M = F)), fun σ' H' h => ⟨m', Nat.lt_succ_self _, h⟩, ?_⟩
      refine ⟨_, rfl, _, rfl, _, rfl, _, rfl, H1, a, d, l, r, ns, es, sideOf ns es, M, rfl, s3, H1d, hw.mono s1, wb, hs, D3, mi, hl, hr', fun H3 b M' s4 hb D4 => ?_⟩
      rcases hb with ⟨rfl, rfl, hg⟩ | ⟨rfl, hg⟩
      · rcases hcase with ⟨_, rfl⟩ | ⟨M2, hg2, _⟩
        · exact ⟨_, false, rfl, s4, D4, mi, .inr ⟨rfl, rfl⟩⟩
        · rw [hg] at hg2
          cases hg2
      · rcases hcase with ⟨hg2, _⟩ | ⟨M2, hg2, hl2⟩
        · rw [hg] at hg2
          cases hg2
        · rw [hg] at hg2
          cases hg2
          exact ⟨_, true, rfl, s4, D4, grown_MI wb.wg hs mi hg, .inl ⟨rfl, hl2⟩⟩
    · refine ⟨_, rfl, _, rfl, ?_⟩
      refine ifF rfl ?_
      have sH2 := s1.trans s3
      refine ⟨_, rfl, _, rfl, _, rfl, a, d, l, ns, es, sideOf ns es, M, rfl, hw.mono sH2, wb, hs, D3, mi, s3 _ _ hl, fun H3 came st s4 nc hst hc => ?_⟩
      rw [hreach] at hst
      cases hst
      have sH3 := sH2.trans s4
      -- cover
      refine ⟨_, rfl, a, dx, _, rfl, sH3 _ _ h1, nf_places, a, ns, es, rfl, hw.mono sH3, fun H4 q s5 nq hq => ?_⟩
      have hl4 := s5 _ _ (s4 _ _ (s3 _ _ hl))
      have hc4 := hc.mono s5
      have D4 := (D3.mono s4).mono s5
      refine ⟨q, rfl, ⟨_, SqL.of hq⟩, fun c nc' => ?_⟩
      refine lc_list (K := K) (a := q) (xs := nv ns) (fun j H5 => SelI H4 c ns (fun z => decide (z ∈ ns.filter (sideOf ns es)) != (stF.came z).isSome) V.str j H5) (SelI.nil (Same.refl _) nc') (fun j H5 _ J => SqL.of (J.same _ _ hq)) ?_ ?_
      · intro j x H5 hj J
        obtain ⟨z, hz, rfl⟩ := nv_at hj
        refine ⟨rfl, _, rfl, _, rfl, l, _, rfl, .inl (SqL.of (J.same _ _ hl4)), rfl, nv_flat _, _, rfl, _, rfl, came, _, rfl, (hc4.mono J.same).get z, rfl, _, rfl, ?_⟩
        have e : (!decide (V.bl (inV (V.str z) (nv (ns.filter (sideOf ns es)))) = V.bl ((stF.came z).map oV).isSome)) = (decide (z ∈ ns.filter (sideOf ns es)) != (stF.came z).isSome) := by
          rw [ne_bl, inV_nv, Option.isSome_map]
        cases e2 : decide (z ∈ ns.filter (sideOf ns es)) != (stF.came z).isSome with
        | true => exact ifT (e.trans e2) ⟨_, rfl, J.yes hz (Same.refl H5) e2 rfl hl1⟩
        | false => exact ifF (e.trans e2) (J.no hz (Same.refl H5) e2)
      · intro H5 J
        rw [nv_len] at J
        have hcov : H5 c = some (.lst (nv (coverOf ns (ns.filter (sideOf ns es)) stF.came))) := J.done
        have s6 := J.same
        have sH5 := sH3.trans (s5.trans s6)
        have D5 := D4.mono s6
        refine ⟨_, rfl, _, rfl, a, d, ns, es, M, rfl, hw.mono sH5, wb, D5, fun z y hz => (wb.wg.adj (mi.sym hz).2).2.1, fun H6 p s7 np hp => ?_⟩
        refine ⟨_, rfl, (by show 2 ≤ sizeLine; decide), fun t2 nt2 => ?_⟩
        have s8 := same_new (o := .tup [.ref p, .ref c]) (Same.refl H6) nt2
        have hcov6 := s7 _ _ hcov
        have pc : p ≠ c := fun e => by
          rw [e, hcov] at np
          cases np
        obtain ⟨vc, le⟩ := cover_ok wb.wg hs mi ri hdone hno
        have hbs : greatest ns es = some (risingOf ns M, coverOf ns (ns.filter (sideOf ns es)) stF.came) := bySides_eq hF hreach
        have hbest : Best ns es (risingOf ns M) (coverOf ns (ns.filter (sideOf ns es)) stF.came) := by
          obtain ⟨P', C', e, hb⟩ := best wb.wg hs
          have e' : greatest ns es = some (P', C') := e
          rw [hbs] at e'
          cases e'
          exact hb
        exact k _ t2 p c _ _ (sH5.trans (s7.trans s8)) ((sH5.trans s7).free nt2) (sH5.free np) ((sH3.trans s5).free nc') pc bip hbs hbest upd_same (hp.same s8) (s8 _ _ hcov6)
end
end K27

namespace K27
open PySem PySem.Spec PyProof.Rows L2 KM
def numsOf (ns : List Str) : Str → Option Nat := fun z => if z ∈ ns then some (ns.idxOf z) else none
section
variable {P : Program} {w : World} {K : PySem.W.Frag} {mg : Str → Option Value} {base : Heap}
/-! ### is_name -/
def NameOk (z : Str) : Prop := (1 ≤ z.length ∧ z.length ≤ 6) ∧ ∀ c ∈ z.cps.toList, c ∈ ("abcdefghijklmnopqrstuvwxyz" : Str).cps.toList
theorem Wb.nm {ns : List Str} {es : List (Str × Str)} (wb : Wb ns es) {z : Str} (h : z ∈ ns) : NameOk z := ⟨wb.one z h, wb.let_ z h⟩
def spIsName : Sp := fun vs H Q _ => ∃ z : Str, vs = [.str z] ∧ NameOk z ∧ ∀ H', Same H H' → Q (.bl true) H'
theorem ok_is_name (T : Tx K mg) : Fok P w K mg base CX0 1 (He.ga K "is_name") ["thing"] spIsName := by
  obtain ⟨fd, F⟩ := T.f_is_name
  obtain ⟨_, c_LETTERS⟩ := T.c_LETTERS
  obtain ⟨_, c_LONGEST⟩ := T.c_LONGEST
  refine ⟨fd, F.ok scis_name (fun vs H Q E h => ?_) (fun cdv A outer s H vs Q E hr h => ?_), b_is_name F, F.kp⟩
  · obtain ⟨z, rfl, _⟩ := h
    rfl
  · obtain ⟨z, rfl, ⟨⟨l1, l6⟩, hz⟩, k⟩ := h
    refine ⟨_, PSs.nox (pss_cons (ps_if (PW.pt (pw_or (pt_not (pt_val (pe_callB call_isi (by rfl) T.z_isinstance (by decide +kernel) (pa_cons (pv 0) (pa_cons (pe_bltn (v := .ty "str") (u := .type "str") (by rfl) T.z_str (by decide +kernel) rfl) pa_nil))))) (pw_or1 (pt_not (pt_chain op_le op_le pe_int (pe_callB call_len_str (by rfl) T.z_len (by decide +kernel) (pa_cons (pv 0) pa_nil)) (pe_glob (v := .int 6) rfl c_LONGEST ⟨_, rfl⟩)))))) (pss_one (ps_ret pe_bl)) pss_nil)
    (pss_one (ps_ret (pe_callB (cr_all rfl) (by rfl) T.z_all (by decide +kernel) (pa_cons (pe_lc (own := [("sign", 1)]) rfl scis_name.nd (pi_str (pv 0)) (blkOk_by (own := [("sign", 1)]) (N := Nis_name) (sc := defScope sis_name) (by decide +kernel)) (fun _ _ _ _ _ => (pg_name (i := 1) scis_name.nd rfl (Or.inl rfl))) (fun _ _ _ _ _ => pts_nil) (fun _ _ _ _ _ => (pe_cmpR op_in_sign (pv 1) (pe_glob (v := .str "abcdefghijklmnopqrstuvwxyz") rfl c_LETTERS ⟨_, rfl⟩) (by first | exact nomark _ | rfl)))) pa_nil))))), ?_⟩
    refine ⟨_, rfl, _, _, _, _, true, rfl, .ty _, isi_str z, kit_ty (by decide +kernel), _, rfl, ?_⟩
    refine ifF rfl ?_
    have hs : z.length ≤ sizeLine := Nat.le_trans l6 (by decide)
    refine ⟨_, rfl, z, rfl, hs, _, _, rfl, rfl, _, rfl, ?_⟩
    refine ifT (decide_eq_true (by omega)) ⟨_, _, rfl, rfl, _, rfl, ?_⟩
    rw [decide_eq_true (show (z.length : Int) ≤ 6 by omega)]
    refine ifF rfl ?_
    refine ⟨_, rfl, z, rfl, fun D nD => ?_⟩
    have hl : z.cps.toList.length ≤ 1000 := by
      have : z.cps.toList.length = z.length := rfl
      omega
    refine lc_it walk_str (fun i H' => SelI H D z.cps.toList (fun _ => true) (fun _ => .bl true) i H') (SelI.nil (Same.refl H) nD) (fun _ _ _ _ => trivial) ?_ ?_
    · rintro i x H1 H2 hi J ⟨rfl, c, hc, rfl⟩
      have hc' : z.cps.toList[i]? = some c := by rw [Array.getElem?_toList]; exact hc
      refine ⟨rfl, _, rfl, _, _, rfl, rfl, ?_⟩
      exact J.yes hc' (Same.refl _) rfl (congrArg V.bl (decide_eq_true (hz c (List.mem_of_getElem? hc')))) hl
    · intro H1 J
      have q := J.done
      refine ⟨D, z.cps.toList.map (fun _ => true), rfl, SqL.of ?_, ?_⟩
      · rw [q, List.filter_eq_self.mpr (fun _ _ => rfl), List.map_map]
        rfl
      · have e : (z.cps.toList.map (fun _ => true)).all id = true := by
          rw [List.all_map]
          exact List.all_eq_true.mpr fun _ _ => rfl
        rw [e]
        exact k H1 J.same
/-! ### numbers_of -/
theorem put_new {kvs : List (Key × V)} {k : Key} {v : V} (h : valV kvs k = none) : putK kvs k v = kvs ++ [(k, v)] := by
  unfold putK
  rw [if_neg]
  rw [valV_any, h]
  exact Bool.false_ne_true
theorem nums_put {ns : List Str} {i : Nat} {z : Str} (nd : ns.Nodup) (h : ns[i]? = some z) : (put (fun y => if y ∈ ns.take i then some (ns.idxOf y) else none) z i : Str → Option Nat) = fun y => if y ∈ ns.take (i + 1) then some (ns.idxOf y) else none := by
  funext y
  rw [take_more h]
  by_cases e : y = z
  · rw [e, put_same, if_pos (List.mem_append_right _ List.mem_cons_self), idx_get nd h]
  · rw [put_ne _ _ e]
    by_cases q : y ∈ ns.take i
    · rw [if_pos q, if_pos (List.mem_append_left _ q)]
    · rw [if_neg q, if_neg (fun m => (List.mem_append.mp m).elim q fun m => e (List.mem_singleton.mp m))]
theorem not_take {ns : List Str} {i : Nat} {z : Str} (nd : ns.Nodup) (h : ns[i]? = some z) : z ∉ ns.take i := fun m => by
  obtain ⟨j, hj, e⟩ := List.mem_iff_getElem.mp m
  rw [List.length_take] at hj
  rw [List.getElem_take] at e
  have := idx_get nd (k := j) (a := z) (List.getElem?_eq_some_iff.mpr ⟨by omega, e⟩)
  rw [idx_get nd h] at this
  omega
def NumsAt (H : Hp) (d : Addr) (ns : List Str) : Prop := DictAt ns H d (numsOf ns) iV ∧ ∃ kvs, H d = some (.dK kvs) ∧ kvs.length = ns.length
def spNumbers (K : PySem.W.Frag) : Sp := fun vs H Q _ => ∃ (a : Addr) (ns : List Str) (es : List (Str × Str)), vs = [.ref a] ∧ H a = some (.lst (nv ns)) ∧ Wb ns es ∧ ∀ H' p, Same H H' → H p = none → NumsAt H' p ns → Q (.ref p) H'
theorem ok_numbers_of (T : Tx K mg) (F1 : Fok P w K mg base CX0 1 (He.ga K "is_name") ["thing"] spIsName) : Fok P w K mg base CX0 2 (He.ga K "numbers_of") ["names"] (spNumbers K) := by
  obtain ⟨fd, F⟩ := T.f_numbers_of
  obtain ⟨_, c_MOST_PLACES⟩ := T.c_MOST_PLACES
  obtain ⟨_, G_is_name, b_is_name, k_is_name⟩ := F1
  refine ⟨fd, F.ok scnumbers_of (fun vs H Q E h => ?_) (fun cdv A outer s H vs Q E hr h => ?_), b_numbers_of F, F.kp⟩
  · obtain ⟨a, ns, es, rfl, _⟩ := h
    rfl
  · obtain ⟨a, ns, es, rfl, ha, wb, k⟩ := h
    have hu := hu_of hr
    have hl1 : ns.length ≤ 1000 := Nat.le_trans wb.ln (by decide)
    refine ⟨_, PSs.nox (pss_cons (ps_if (pt_not (pt_val (pe_callB call_isiT (by rfl) T.z_isinstance (by decide +kernel) (pa_cons (pv 0) (pa_cons (pe_tup (pa_cons (pe_bltn (v := .ty "list") (u := .type "list") (by rfl) T.z_list (by decide +kernel) rfl) (pa_cons (pe_bltn (v := .ty "tuple") (u := .type "tuple") (by rfl) T.z_tuple (by decide +kernel) rfl) pa_nil))) pa_nil))))) (pss_one ps_never) pss_nil)
    (pss_cons (ps_if (pt_cmpR op_gt (pe_callB call_len_seq (by rfl) T.z_len (by decide +kernel) (pa_cons (pv 0) pa_nil)) (pe_glob (v := .int 14) rfl c_MOST_PLACES ⟨_, rfl⟩) (nomark _)) (pss_one ps_never) pss_nil)
    (pss_cons (ps_set (i := 1) scnumbers_of.nd rfl (Or.inl rfl) pe_dnewK)
    (pss_cons (ps_for PassesOwn.never rfl (pi_list (pv 0)) (pg_name (i := 2) scnumbers_of.nd rfl (Or.inl rfl)) (pss_cons (ps_if (pt_not (pt_val (pe_call G_is_name (hr.mono (by decide)) rfl T.g_is_name k_is_name b_is_name .nil pass0 (pa_cons (pv 2) pa_nil)))) (pss_one ps_never) pss_nil)
    (pss_cons (ps_if (pt_cmp (pc_din hu (pv 2) (pv 1))) (pss_one ps_never) pss_nil)
    (pss_one (ps_dput hu (pv 1) (pv 2) (pe_callB call_lenD (by rfl) T.z_len (by decide +kernel) (pa_cons (pv 1) pa_nil)) rfl)))))
    (pss_one (ps_ret (pv 1))))))), ?_⟩
    refine ⟨_, rfl, (by show 2 ≤ sizeLine; decide), fun t nt => ?_⟩
    have s0 := same_new (o := .tup [.ty "list", .ty "tuple"]) (Same.refl H) nt
    have ha0 := s0 _ _ ha
    refine ⟨_, t, _, .type "list", [.type "list", .type "tuple"], true, rfl, upd_same, .cons (.ty _) (.cons (.ty _) .nil), .base (.lst ha0), kitAny_cons (b := true) (kit_ty (by decide +kernel)) (fun h => nomatch h) (fun _ => rfl), _, rfl, ?_⟩
    refine ifF rfl ?_
    refine ⟨_, rfl, a, _, rfl, .inl (SqL.of ha0), _, _, rfl, rfl, _, rfl, ?_⟩
    refine ifF (decide_eq_false (by rw [nv_len]; have := wb.ln; omega)) ?_
    intro p np
    have s1 := same_new (o := .dK []) s0 np
    have np0 : H p = none := s0.free np
    obtain ⟨G, hG⟩ : ∃ G, G = off (upd (upd H t (.tup [.ty "list", .ty "tuple"])) p (.dK [])) p := ⟨_, rfl⟩
    have sHG : Same H G := by
      rw [hG]
      exact same_to s1 np0
    have Gp : G p = none := by rw [hG, off_same]
    refine ⟨_, rfl, a, rfl, ⟨_, SqL.of (s1 _ _ ha)⟩, for_list (K := K) (a := a) (xs := nv ns) (fun i σ H' => ∃ v2, σ = [some (.ref a), some (.ref p), v2] ∧ Same G H' ∧ ∃ kvs, H' p = some (.dK kvs) ∧ kvs.length = i ∧ KvOk ns kvs (fun y => if y ∈ ns.take i then some (ns.idxOf y) else none) iV)
      ⟨none, rfl, by rw [hG]; exact same_off, [], upd_same, rfl, fun z => rfl, List.nodup_nil, fun _ h => nomatch h⟩ (fun i σ H' _ ⟨_, _, s, _⟩ => SqL.of (s _ _ (sHG _ _ ha))) ?_ ?_⟩
    · rintro i x σ H1 hi ⟨v2, rfl, s2, kvs, hk, hlen, ok⟩
      obtain ⟨z, hz, rfl⟩ := nv_at hi
      have hzn : z ∈ ns := List.mem_of_getElem? hz
      refine ⟨_, rfl, z, rfl, wb.nm hzn, fun H2 s3 => ⟨_, rfl, ?_⟩⟩
      refine ifF rfl ?_
      have hk2 := s3 _ _ hk
      have vn : valV kvs (Sum.inr z) = none := by
        rw [ok.1 z]
        show Option.map iV (if z ∈ ns.take i then some (ns.idxOf z) else none) = none
        rw [if_neg (not_take wb.wg.nd hz)]
        rfl
      refine ⟨_, rfl, _, rfl, p, _, rfl, DGet.k (k := (Sum.inr z : Key)) hk2, _, rfl, ?_⟩
      rw [vn]
      refine ifF rfl ?_
      have ok2 := KvOk.put ok i hzn
      rw [nums_put wb.wg.nd hz] at ok2
      refine ⟨_, rfl, p, _, rfl, hk2, _, rfl, _, rfl, p, _, rfl, DPut.k (k := (Sum.inr z : Key)) hk2 (Nat.lt_of_le_of_lt (Nat.le_trans (KvOk.len ok) hl1) (by decide)), ?_⟩
      rw [hlen]
      refine ⟨_, rfl, same_mut (s2.trans s3) Gp, _, upd_same, ?_, ok2⟩
      rw [put_new vn, List.length_append, hlen]
      rfl
    · rintro σ H1 ⟨v2, rfl, s2, kvs, hk, hlen, ok⟩
      rw [nv_len] at hlen ok
      rw [List.take_length] at ok
      exact ⟨_, rfl, k _ _ (sHG.trans s2) np0 ⟨⟨kvs, hk, ok⟩, kvs, hk, hlen⟩⟩
/-! ### is_two -/
def spIsTwo (K : PySem.W.Frag) : Sp := fun vs H Q _ => ∃ (d t : Addr) (ns : List Str) (es : List (Str × Str)) (y z : Str), vs = [.ref d, .ref t] ∧ NumsAt H d ns ∧ Wb ns es ∧ H t = some (.tup [.str y, .str z]) ∧ y ∈ ns ∧ z ∈ ns ∧ y ≠ z ∧ ∀ H', Same H H' → Q (.bl true) H'
theorem ok_is_two (T : Tx K mg) (F1 : Fok P w K mg base CX0 1 (He.ga K "is_name") ["thing"] spIsName) : Fok P w K mg base CX0 2 (He.ga K "is_two") ["numbers", "thing"] (spIsTwo K) := by
  obtain ⟨fd, F⟩ := T.f_is_two
  obtain ⟨_, G_is_name, b_is_name, k_is_name⟩ := F1
  refine ⟨fd, F.ok scis_two (fun vs H Q E h => ?_) (fun cdv A outer s H vs Q E hr h => ?_), b_is_two F, F.kp⟩
  · obtain ⟨d, t, ns, es, y, z, rfl, _⟩ := h
    rfl
  · obtain ⟨d, t, ns, es, y, z, rfl, ⟨hd, _⟩, wb, ht, hy, hz, ne, k⟩ := h
    have hu := hu_of hr
    refine ⟨_, PSs.nox (pss_cons (ps_if (PW.pt (pw_or (pt_not (pt_val (pe_callB call_isi (by rfl) T.z_isinstance (by decide +kernel) (pa_cons (pv 1) (pa_cons (pe_bltn (v := .ty "tuple") (u := .type "tuple") (by rfl) T.z_tuple (by decide +kernel) rfl) pa_nil))))) (pw_or1 (pt_cmpR op_ne (pe_callB call_len_seq (by rfl) T.z_len (by decide +kernel) (pa_cons (pv 1) pa_nil)) pe_int (nomark _))))) (pss_one (ps_ret pe_bl)) pss_nil)
    (pss_cons (ps_if (PW.pt (pw_or (pt_not (pt_val (pe_call G_is_name (hr.mono (by decide)) rfl T.g_is_name k_is_name b_is_name .nil pass0 (pa_cons (pe_ix ix_tup (pv 1) pe_int (fun _ _ => rfl)) pa_nil)))) (pw_or1 (pt_not (pt_val (pe_call G_is_name (hr.mono (by decide)) rfl T.g_is_name k_is_name b_is_name .nil pass0 (pa_cons (pe_ix ix_tup (pv 1) pe_int (fun _ _ => rfl)) pa_nil))))))) (pss_one (ps_ret pe_bl)) pss_nil)
    (pss_one (ps_ret (pe_and (pe_cmp (pc_din hu (pe_ix ix_tup (pv 1) pe_int (fun _ _ => rfl)) (pv 0))) (pe_and (pe_cmp (pc_din hu (pe_ix ix_tup (pv 1) pe_int (fun _ _ => rfl)) (pv 0))) (pe_one (pe_cmpR op_ne (pe_ix ix_tup (pv 1) pe_int (fun _ _ => rfl)) (pe_ix ix_tup (pv 1) pe_int (fun _ _ => rfl)) (nomark _))))))))), ?_⟩
    refine ⟨_, rfl, _, _, _, _, true, rfl, .ty _, .base (.tup ht), kit_ty (by decide +kernel), _, rfl, ?_⟩
    refine ifF rfl ?_
    refine ⟨_, rfl, t, _, rfl, .inr (SqT.of ht), rfl, _, rfl, ?_⟩
    refine ifF rfl ?_
    refine ⟨_, rfl, t, _, _, _, rfl, rfl, SqT.of ht, rfl, y, rfl, wb.nm hy, fun H1 s1 => ⟨_, rfl, ?_⟩⟩
    refine ifF rfl ?_
    refine ⟨_, rfl, t, _, _, _, rfl, rfl, SqT.of (s1 _ _ ht), rfl, z, rfl, wb.nm hz, fun H2 s2 => ⟨_, rfl, ?_⟩⟩
    refine ifF rfl ?_
    have s3 := s1.trans s2
    have ht3 := s3 _ _ ht
    have gy := (hd.mono s3).get y
    have gz := (hd.mono s3).get z
    unfold numsOf at gy gz
    rw [if_pos hy] at gy
    rw [if_pos hz] at gz
    refine ⟨_, rfl, t, _, _, _, rfl, rfl, SqT.of ht3, rfl, _, rfl, d, _, rfl, gy, _, rfl, ?_⟩
    refine ifT rfl ⟨_, rfl, t, _, _, _, rfl, rfl, SqT.of ht3, rfl, _, rfl, d, _, rfl, gz, _, rfl, ?_⟩
    refine ifT rfl ⟨_, rfl, t, _, _, _, rfl, rfl, SqT.of ht3, rfl, _, rfl, t, _, _, _, rfl, rfl, SqT.of ht3, rfl, rfl, ?_⟩
    have e : (!decide (V.str y = V.str z)) = true := by
      rw [decide_eq_false (fun q => ne (V.str.inj q))]
      rfl
    show Q (.bl (!decide (V.str y = V.str z))) H2
    rw [e]
    exact k H2 s3
end
end K27

namespace K27
open PySem PySem.Spec PyProof.Rows L2 KM
theorem bor_nat (n k : Nat) : Builtin.bitOr (n : Int) ((1 : Int) * 2 ^ ((k : Int).toNat)) = ((n ||| 2 ^ k : Nat) : Int) := by
  rw [Int.one_mul, Int.toNat_natCast]
  have e : ((2 : Int) ^ k) = ((2 ^ k : Nat) : Int) := by
    rw [Int.natCast_pow]
    rfl
  rw [e, bitOr_nn (Int.natCast_nonneg _) (Int.natCast_nonneg _), Int.toNat_natCast, Int.toNat_natCast]
theorem bit_set (n k j : Nat) : (n ||| 2 ^ k).testBit j = (n.testBit j || decide (k = j)) := by
  rw [Nat.testBit_or, Nat.testBit_two_pow]
theorem adj_more {es : List (Str × Str)} {i : Nat} {a b u v : Str} (h : es[i]? = some (a, b)) : adj (es.take (i + 1)) u v = (adj (es.take i) u v || (decide (u = a ∧ v = b) || decide (u = b ∧ v = a))) := by
  refine Bool.eq_iff_iff.mpr ?_
  rw [adj_iff, take_more h, List.mem_append, List.mem_append, List.mem_singleton, List.mem_singleton, Bool.or_eq_true, Bool.or_eq_true, adj_iff, decide_eq_true_eq, decide_eq_true_eq, Prod.mk.injEq, Prod.mk.injEq]
  constructor
  · rintro ((h | h) | (h | ⟨h1, h2⟩))
    · exact .inl (.inl h)
    · exact .inr (.inl h)
    · exact .inl (.inr h)
    · exact .inr (.inr ⟨h2, h1⟩)
  · rintro ((h | h) | (h | ⟨h1, h2⟩))
    · exact .inl (.inl h)
    · exact .inr (.inl h)
    · exact .inl (.inr h)
    · exact .inr (.inr ⟨h2, h1⟩)
theorem twice_not {es : List (Str × Str)} (tw : es.Pairwise fun a b => a ≠ b ∧ a ≠ (b.2, b.1)) {i : Nat} {a b : Str} (h : es[i]? = some (a, b)) : adj (es.take i) a b = false := by
  cases q : adj (es.take i) a b with
  | false => rfl
  | true =>
    exfalso
    have key : ∀ e ∈ es.take i, e ≠ (a, b) ∧ e ≠ (b, a) := fun e he => by
      obtain ⟨j, hj, ej⟩ := List.mem_iff_getElem.mp he
      rw [List.length_take] at hj
      rw [List.getElem_take] at ej
      obtain ⟨h1, h2⟩ := List.getElem?_eq_some_iff.mp h
      have := List.pairwise_iff_getElem.mp tw j i (by omega) h1 (by omega)
      rw [ej, h2] at this
      exact this
    rcases adj_iff.mp q with q | q
    · exact (key _ q).1 rfl
    · exact (key _ q).2 rfl
/-- one more tie in the bits -/
theorem bits_step {ns : List Str} {es : List (Str × Str)} {B : List Nat} {i : Nat} {a b : Str} {na nb : Nat} (nd : ns.Nodup) (hl : ns.length ≤ 14) (h : es[i]? = some (a, b)) (ha : a ∈ ns) (hb : b ∈ ns) (ne : a ≠ b) (ok : BitsOk ns (es.take i) B)
    (h1 : B[ns.idxOf a]? = some na) (h2 : B[ns.idxOf b]? = some nb) : BitsOk ns (es.take (i + 1)) ((B.set (ns.idxOf a) (na ||| 2 ^ ns.idxOf b)).set (ns.idxOf b) (nb ||| 2 ^ ns.idxOf a)) := by
  obtain ⟨o1, o2, o3⟩ := ok
  have il := List.idxOf_lt_length_of_mem ha
  have jl := List.idxOf_lt_length_of_mem hb
  have ij := idx_ne ha hb ne
  have low : ∀ k, k < ns.length → 2 ^ k < 2 ^ 14 := fun k hk => Nat.pow_lt_pow_of_lt (by decide) (by omega)
  refine ⟨by rw [List.length_set, List.length_set]; exact o1, fun n hn => ?_, fun x y u v hx hy => ?_⟩
  · rcases List.mem_or_eq_of_mem_set hn with hn | rfl
    · rcases List.mem_or_eq_of_mem_set hn with hn | rfl
      · exact o2 n hn
      · exact Nat.or_lt_two_pow (o2 _ (List.mem_of_getElem? h1)) (low _ jl)
    · exact Nat.or_lt_two_pow (o2 _ (List.mem_of_getElem? h2)) (low _ il)
  · obtain ⟨n, hn, hbit⟩ := o3 x y u v hx hy
    have xl := at_lt hx
    have eu : ∀ {z : Str}, z ∈ ns → (u = z ↔ ns.idxOf z = x) := fun {z} hz => ⟨fun e => by rw [← e]; exact idx_get nd hx, fun e => by
      have q := idx_at hz
      rw [e, hx] at q
      exact Option.some.inj q⟩
    have ev : ∀ {z : Str}, z ∈ ns → (v = z ↔ ns.idxOf z = y) := fun {z} hz => ⟨fun e => by rw [← e]; exact idx_get nd hy, fun e => by
      have q := idx_at hz
      rw [e, hy] at q
      exact Option.some.inj q⟩
    rw [adj_more h, ← hbit]
    by_cases c2 : ns.idxOf b = x
    · have nn : n = nb := by
        rw [← c2, h2] at hn
        exact (Option.some.inj hn).symm
      refine ⟨nb ||| 2 ^ ns.idxOf a, ?_, ?_⟩
      · rw [← c2, List.getElem?_set_self (by rw [List.length_set, o1]; exact jl)]
      · rw [bit_set, nn]
        congr 1
        have e1 : decide (u = a ∧ v = b) = false := decide_eq_false fun q => ij (by rw [(eu ha).mp q.1, c2])
        rw [e1, Bool.false_or]
        exact decide_eq_decide.mpr ⟨fun q => ⟨(eu hb).mpr c2, (ev ha).mpr q⟩, fun q => (ev ha).mp q.2⟩
    · rw [List.getElem?_set_ne c2]
      have e2 : decide (u = b ∧ v = a) = false := decide_eq_false fun q => c2 ((eu hb).mp q.1)
      rw [e2, Bool.or_false]
      by_cases c1 : ns.idxOf a = x
      · have nn : n = na := by
          rw [← c1, h1] at hn
          exact (Option.some.inj hn).symm
        refine ⟨na ||| 2 ^ ns.idxOf b, ?_, ?_⟩
        · rw [← c1, List.getElem?_set_self (by rw [o1]; exact il)]
        · rw [bit_set, nn]
          congr 1
          exact decide_eq_decide.mpr ⟨fun q => ⟨(eu ha).mpr c1, (ev hb).mpr q⟩, fun q => (ev hb).mp q.2⟩
      · rw [List.getElem?_set_ne c1]
        refine ⟨n, hn, ?_⟩
        have e1 : decide (u = a ∧ v = b) = false := decide_eq_false fun q => c1 ((eu ha).mp q.1)
        rw [e1, Bool.or_false]
theorem ixN_nat {n j : Nat} (h : j < n) : ixN n (j : Int) = some j := by
  unfold ixN
  rw [if_pos (Int.natCast_nonneg j), if_pos (by omega), Int.toNat_natCast]
theorem iV_set (B : List Nat) (j n : Nat) : (B.map iV).set j (.int (n : Int)) = (B.set j n).map iV := by
  rw [List.map_set]
  rfl
section
variable {P : Program} {w : World} {K : PySem.W.Frag} {mg : Str → Option Value} {base : Heap}
/-! ### bits_of -/
def spBits (K : PySem.W.Frag) : Sp := fun vs H Q _ => ∃ (d l : Addr) (ns : List Str) (es : List (Str × Str)), vs = [.ref d, .ref l] ∧ NumsAt H d ns ∧ Wb ns es ∧ Dq H (.ref l) (.list (tD es)) ∧ ∀ H' p B, Same H H' → H p = none → H' p = some (.lst (B.map iV)) → BitsOk ns es B → Q (.ref p) H'
theorem bits_nil (ns : List Str) : BitsOk ns [] (List.replicate ns.length 0) := by
  refine ⟨List.length_replicate, fun n hn => by rw [(List.mem_replicate.mp hn).2]; decide, fun i j a b hi hj => ⟨0, ?_, ?_⟩⟩
  · rw [List.getElem?_replicate, if_pos (at_lt hi)]
  · rw [Nat.zero_testBit]
    rfl
theorem ok_bits_of (T : Tx K mg) (F1 : Fok P w K mg base CX0 2 (He.ga K "is_two") ["numbers", "thing"] (spIsTwo K)) : Fok P w K mg base CX0 3 (He.ga K "bits_of") ["numbers", "ties"] (spBits K) := by
  obtain ⟨fd, F⟩ := T.f_bits_of
  obtain ⟨_, c_MOST_TIES⟩ := T.c_MOST_TIES
  obtain ⟨_, G_is_two, b_is_two, k_is_two⟩ := F1
  refine ⟨fd, F.ok scbits_of (fun vs H Q E h => ?_) (fun cdv A outer s H vs Q E hr h => ?_), b_bits_of F, F.kp⟩
  · obtain ⟨d, l, ns, es, rfl, _⟩ := h
    rfl
  · obtain ⟨d, l, ns, es, rfl, hd, wb, hl, k⟩ := h
    have hu := hu_of hr
    obtain ⟨_, ts, el, hl, hts⟩ := hl.list_inv
    cases el
    have tl := hts.length
    unfold tD at tl
    rw [List.length_map] at tl
    refine ⟨_, PSs.nox (pss_cons (ps_if (pt_not (pt_val (pe_callB call_isiT (by rfl) T.z_isinstance (by decide +kernel) (pa_cons (pv 1) (pa_cons (pe_tup (pa_cons (pe_bltn (v := .ty "list") (u := .type "list") (by rfl) T.z_list (by decide +kernel) rfl) (pa_cons (pe_bltn (v := .ty "tuple") (u := .type "tuple") (by rfl) T.z_tuple (by decide +kernel) rfl) pa_nil))) pa_nil))))) (pss_one ps_never) pss_nil)
    (pss_cons (ps_if (pt_cmpR op_gt (pe_callB call_len_seq (by rfl) T.z_len (by decide +kernel) (pa_cons (pv 1) pa_nil)) (pe_glob (v := .int 30) rfl c_MOST_TIES ⟨_, rfl⟩) (nomark _)) (pss_one ps_never) pss_nil)
    (pss_cons (ps_set (i := 2) scbits_of.nd rfl (Or.inl rfl) (pe_op op_rep (pe_lst (pa_cons pe_int pa_nil)) (pe_callB call_lenD (by rfl) T.z_len (by decide +kernel) (pa_cons (pv 0) pa_nil))))
    (pss_cons (ps_for PassesOwn.never rfl (pi_list (pv 1)) (pg_name (i := 3) scbits_of.nd rfl (Or.inl rfl)) (pss_cons (ps_if (pt_not (pt_val (pe_call G_is_two (hr.mono (by decide)) rfl T.g_is_two k_is_two b_is_two .nil pass0 (pa_cons (pv 0) (pa_cons (pv 3) pa_nil))))) (pss_one ps_never) pss_nil)
    (pss_cons (ps_set (i := 4) scbits_of.nd rfl (Or.inl rfl) (pe_dget hu (pv 0) (pe_ix ix_tup (pv 3) pe_int (fun _ _ => rfl)) (fun _ _ => rfl)))
    (pss_cons (ps_set (i := 5) scbits_of.nd rfl (Or.inl rfl) (pe_dget hu (pv 0) (pe_ix ix_tup (pv 3) pe_int (fun _ _ => rfl)) (fun _ _ => rfl)))
    (pss_cons (ps_if (pt_cmpR op_eq (pe_op op_odd (pe_op op_shrN (pe_ix ix_list (pv 2) (pv 4) (fun _ _ => rfl)) (pv 5)) pe_int) pe_int (nomark _)) (pss_one ps_never) pss_nil)
    (pss_cons (ps_augS (pv 2) (pv 4) get_list (pe_op op_shl pe_int (pv 5)) ip_bor set_list)
    (pss_one (ps_augS (pv 2) (pv 5) get_list (pe_op op_shl pe_int (pv 4)) ip_bor set_list))))))))
    (pss_one (ps_ret (pv 2))))))), ?_⟩
    refine ⟨_, rfl, (by show 2 ≤ sizeLine; decide), fun t nt => ?_⟩
    have s0 := same_new (o := .tup [.ty "list", .ty "tuple"]) (Same.refl H) nt
    have hl0 := s0 _ _ hl
    refine ⟨_, t, _, .type "list", [.type "list", .type "tuple"], true, rfl, upd_same, .cons (.ty _) (.cons (.ty _) .nil), .base (.lst hl0), kitAny_cons (b := true) (kit_ty (by decide +kernel)) (fun h => nomatch h) (fun _ => rfl), _, rfl, ?_⟩
    refine ifF rfl ?_
    refine ⟨_, rfl, l, _, rfl, .inl (SqL.of hl0), _, _, rfl, rfl, _, rfl, ?_⟩
    refine ifF (decide_eq_false (by rw [tl]; have := wb.le; omega)) ?_
    refine ⟨(by decide), fun q nq => ?_⟩
    have s1 := same_new (o := .lst [.int 0]) s0 nq
    obtain ⟨kvs, hk, hkl⟩ := hd.2
    have hk1 := s1 _ _ hk
    refine ⟨_, rfl, d, _, rfl, hk1, q, _, _, rfl, rfl, upd_same, ?_, ?_, ?_, fun p np => ?_⟩
    · have := wb.ln
      omega
    · have := wb.ln
      omega
    · rw [hkl, Int.toNat_natCast]
      have h14 := wb.ln
      have : (14 : Nat) ≤ sizeLine := by decide
      show 1 * ns.length ≤ sizeLine
      omega
    · have e : (List.replicate ((kvs.length : Nat) : Int).toNat [V.int 0]).flatten = (List.replicate ns.length 0).map iV := by
        rw [hkl, Int.toNat_natCast]
        generalize ns.length = n
        induction n with
        | zero => rfl
        | succ n ih =>
          rw [List.replicate_succ, List.replicate_succ, List.flatten_cons, ih]
          rfl
      rw [e]
      have np1 := s1.free np
      have s2 := same_new (o := .lst ((List.replicate ns.length 0).map iV)) s1 np
      obtain ⟨G, hG⟩ : ∃ G, G = off (upd (upd (upd H t (.tup [.ty "list", .ty "tuple"])) q (.lst [.int 0])) p (.lst ((List.replicate ns.length 0).map iV))) p := ⟨_, rfl⟩
      have sHG : Same H G := by
        rw [hG]
        exact same_to s2 np1
      have Gp : G p = none := by rw [hG, off_same]
      refine ⟨_, rfl, l, rfl, ⟨_, SqL.of (s2 _ _ hl)⟩, for_list (K := K) (a := l) (xs := ts) (fun i σ H' => ∃ v3 v4 v5, σ = [some (.ref d), some (.ref l), some (.ref p), v3, v4, v5] ∧ Same G H' ∧ ∃ B, H' p = some (.lst (B.map iV)) ∧ BitsOk ns (es.take i) B)
        ⟨none, none, none, rfl, by rw [hG]; exact same_off, _, upd_same, bits_nil ns⟩ (fun i σ H' _ ⟨_, _, _, _, s, _⟩ => SqL.of (s _ _ (sHG _ _ hl))) ?_ ?_⟩
      · rintro i x σ H1 hi ⟨v3, v4, v5, rfl, s3, B, hB, ok⟩
        obtain ⟨⟨y, z⟩, t, he, rfl, ht⟩ := ties_at hts hi
        obtain ⟨hy, hz, ne⟩ := wb.wg.mem _ (List.mem_of_getElem? he)
        have sH1 := sHG.trans s3
        have hd1 : NumsAt H1 d ns := ⟨hd.1.mono sH1, kvs, sH1 _ _ hk, hkl⟩
        refine ⟨_, rfl, _, rfl, d, t, ns, es, y, z, rfl, hd1, wb, sH1 _ _ ht, hy, hz, ne, fun H2 s4 => ⟨_, rfl, ?_⟩⟩
        refine ifF rfl ?_
        have sH2 := sH1.trans s4
        have ht2 := sH2 _ _ ht
        have gy := (hd.1.mono sH2).get y
        have gz := (hd.1.mono sH2).get z
        unfold numsOf at gy gz
        rw [if_pos hy] at gy
        rw [if_pos hz] at gz
        have hB2 := s4 _ _ hB
        obtain ⟨n1, q1, b1⟩ := ok.2.2 _ _ y z (idx_at hy) (idx_at hz)
        obtain ⟨n2, q2, _⟩ := ok.2.2 _ _ z y (idx_at hz) (idx_at hy)
        have il := List.idxOf_lt_length_of_mem hy
        have jl := List.idxOf_lt_length_of_mem hz
        have nij := idx_ne hy hz ne
        refine ⟨_, rfl, _, rfl, t, _, _, _, rfl, rfl, SqT.of ht2, rfl, d, _, rfl, gy, ?_⟩
        refine ⟨_, rfl, _, rfl, t, _, _, _, rfl, rfl, SqT.of ht2, rfl, d, _, rfl, gz, ?_⟩
        refine ⟨_, rfl, _, rfl, _, _, _, _, rfl, rfl, SqL.of hB2, iv_at q1, _, rfl, _, _, rfl, rfl, _, by rw [div_cast], rfl, rfl, _, rfl, ?_⟩
        refine ifF ((bit_q n1 (ns.idxOf z)).trans (b1.trans (twice_not wb.twice he))) ?_
        have cp : ∀ k : Nat, k < ns.length → (0 : Int) ≤ (k : Int) ∧ (k : Int) ≤ 1000000 ∧ (1 : Int).natAbs < 2 ^ 64 := fun k hk => by
          have := wb.ln
          exact ⟨Int.natCast_nonneg k, by omega, by decide⟩
        refine ⟨_, rfl, _, rfl, p, _, _, _, rfl, rfl, SqL.of hB2, (by rw [List.getElem?_map, q1]; rfl), _, rfl, _, _, rfl, rfl, cp _ jl, _, _, rfl, rfl, p, _, _, ns.idxOf y, rfl, rfl, hB2, ixN_nat (by rw [List.length_map, ok.1]; exact il), ?_⟩
        have e1 : Builtin.bitOr (n1 : Int) (1 * 2 ^ ((ns.idxOf z : Nat) : Int).toNat) = ((n1 ||| 2 ^ ns.idxOf z : Nat) : Int) := bor_nat n1 _
        rw [e1, iV_set]
        have q2' : (B.set (ns.idxOf y) (n1 ||| 2 ^ ns.idxOf z))[ns.idxOf z]? = some n2 := by rw [List.getElem?_set_ne nij]; exact q2
        refine ⟨_, rfl, _, rfl, p, _, _, _, rfl, rfl, SqL.of upd_same, (by rw [List.getElem?_map, q2']; rfl), _, rfl, _, _, rfl, rfl, cp _ il, _, _, rfl, rfl, p, _, _, ns.idxOf z, rfl, rfl, upd_same, ixN_nat (by rw [List.length_map, List.length_set, ok.1]; exact jl), ?_⟩
        have e2 : Builtin.bitOr (n2 : Int) (1 * 2 ^ ((ns.idxOf y : Nat) : Int).toNat) = ((n2 ||| 2 ^ ns.idxOf y : Nat) : Int) := bor_nat n2 _
        rw [e2, iV_set]
        refine ⟨_, _, _, rfl, same_mut (same_mut (s3.trans s4) Gp) Gp, _, upd_same, bits_step wb.wg.nd wb.ln he hy hz ne ok q1 q2⟩
      · rintro σ H1 ⟨v3, v4, v5, rfl, s3, B, hB, ok⟩
        rw [tl, List.take_length] at ok
        exact ⟨_, rfl, k _ _ B (sHG.trans s3) np1 hB ok⟩
/-! ### Web.__init__ -/
theorem webF_eq (a b c : Addr) : putF "bits" (.ref c) (putF "order" (.ref b) (putF "numbers" (.ref a) [])) = webF a b c := by
  have h1 : ¬ (("numbers" : Str) = "order") := by decide +kernel
  have h2 : ¬ (("numbers" : Str) = "bits") := by decide +kernel
  have h3 : ¬ (("order" : Str) = "bits") := by decide +kernel
  simp only [putF, if_neg h1, if_neg h2, if_neg h3, webF]
def spInit (K : PySem.W.Frag) : Sp := fun vs H Q _ => ∃ (G : Hp) (x dx n t : Addr) (ns : List Str) (es : List (Str × Str)), vs = [.ref x, .ref n, .ref t] ∧ Same G H ∧ G x = none ∧ H x = some (.ins (cWeb K) dx []) ∧ G n = some (.lst (nv ns)) ∧ Dq G (.ref t) (.list (tD es)) ∧ Wb ns es ∧
  ∀ H', Same G H' → WebAt K H' x ns es → Q .non H'
theorem ok_init (T : Tx K mg) (F1 : Fok P w K mg base CX0 2 (He.ga K "numbers_of") ["names"] (spNumbers K)) (F2 : Fok P w K mg base CX0 3 (He.ga K "bits_of") ["numbers", "ties"] (spBits K)) :
    Fok P w K mg base CX0 4 (mW K "__init__") ["self", "names", "ties"] (spInit K) := by
  obtain ⟨fd, F⟩ := T.f_Web_init
  obtain ⟨_, G_numbers_of, b_numbers_of, k_numbers_of⟩ := F1
  obtain ⟨_, G_bits_of, b_bits_of, k_bits_of⟩ := F2
  refine ⟨fd, F.ok scWeb_init (fun vs H Q E h => ?_) (fun cdv A outer s H vs Q E hr h => ?_), b_Web_init F, F.kp⟩
  · obtain ⟨G, x, dx, n, t, ns, es, rfl, _⟩ := h
    rfl
  · obtain ⟨G, x, dx, n, t, ns, es, rfl, sG, Gx, hx, hn, ht, wb, k⟩ := h
    refine ⟨_, PSs.nox (pss_cons (ps_fld (pv 0) (pe_call G_numbers_of (hr.mono (by decide)) rfl T.g_numbers_of k_numbers_of b_numbers_of .nil pass0 (pa_cons (pv 1) pa_nil)) rfl)
    (pss_cons (ps_fld (pv 0) (pe_callTy call_list_of (by rfl) T.z_list (by decide +kernel) (pa_cons (pv 1) pa_nil)) rfl)
    (pss_one (ps_fld (pv 0) (pe_call G_bits_of (hr.mono (by decide)) rfl T.g_bits_of k_bits_of b_bits_of .nil pass0 (pa_cons (pe_fld (pv 0) rfl) (pa_cons (pv 2) pa_nil))) rfl)))), ?_⟩
    refine ⟨_, rfl, n, ns, es, rfl, sG _ _ hn, wb, fun H1 d s1 nd hd => ?_⟩
    have hx1 := s1 _ _ hx
    have dnx : d ≠ x := fun e => by
      rw [e, hx] at nd
      cases nd
    refine ⟨_, rfl, x, cWeb K, dx, _, rfl, hx1, T.cl, T.no_numbers, (by decide), ?_⟩
    have s2 : Same G (upd H1 x (.ins (cWeb K) dx (putF "numbers" (.ref d) []))) := same_mut (sG.trans s1) Gx
    refine ⟨_, rfl, n, _, rfl, .inl (SqL.of (s2 _ _ hn)), fun o no => ?_⟩
    have nox : o ≠ x := fun e => by
      rw [e, upd_same] at no
      cases no
    refine ⟨_, rfl, x, cWeb K, dx, _, rfl, (by rw [upd_ne nox.symm, upd_same]), T.cl, T.no_order, (by show 1 < 1000; decide), ?_⟩
    have s3 := same_mut (o := .ins (cWeb K) dx (putF "order" (.ref o) (putF "numbers" (.ref d) []))) (same_new (o := .lst (nv ns)) s2 no) Gx
    obtain ⟨H3, e3⟩ : ∃ H3, H3 = upd (upd (upd H1 x (.ins (cWeb K) dx (putF "numbers" (.ref d) []))) o (.lst (nv ns))) x (.ins (cWeb K) dx (putF "order" (.ref o) (putF "numbers" (.ref d) []))) := ⟨_, rfl⟩
    have don : d ≠ o := fun e => by
      obtain ⟨kvs, q, _⟩ := hd.2
      rw [← e, upd_ne dnx, q] at no
      cases no
    have hd3 : NumsAt H3 d ns := by
      rw [e3]
      obtain ⟨kvs, q1, q2⟩ := hd.2
      exact ⟨((hd.1.other dnx).other don).other dnx, kvs, by rw [upd_ne dnx, upd_ne don, upd_ne dnx, q1], q2⟩
    have ho3 : H3 o = some (.lst (nv ns)) := by rw [e3, upd_ne nox, upd_same]
    have hx3 : H3 x = some (.ins (cWeb K) dx (putF "order" (.ref o) (putF "numbers" (.ref d) []))) := by rw [e3, upd_same]
    rw [← e3] at s3 ⊢
    have lk : (putF "order" (V.ref o) (putF "numbers" (V.ref d) [])).lookup ("numbers" : Str) = some (.ref d) := by
      rw [lookup_putF, if_neg (by decide +kernel), lookup_putF, if_pos rfl]
    refine ⟨_, rfl, x, cWeb K, dx, _, _, rfl, hx3, T.cl, T.no_numbers, lk, ?_⟩
    have len2 : (putF "order" (V.ref o) (putF "numbers" (V.ref d) [])).length = 2 := by
      have h1 : ¬ (("numbers" : Str) = "order") := by decide +kernel
      simp only [putF, if_neg h1]
      rfl
    refine ⟨_, rfl, d, t, ns, es, rfl, hd3, wb, ht.same s3, fun H4 b B s4 nb hb ok => ?_⟩
    have bnx : b ≠ x := fun e => by
      rw [e, hx3] at nb
      cases nb
    refine ⟨_, rfl, x, cWeb K, dx, _, rfl, s4 _ _ hx3, T.cl, T.no_bits, (by rw [len2]; decide), ?_⟩
    refine k _ (same_mut (s3.trans s4) Gx) ⟨dx, d, o, b, B, ?_, (hd3.1.mono s4).other dnx, (by rw [upd_ne nox]; exact s4 _ _ ho3), (by rw [upd_ne bnx]; exact hb), ok⟩
    rw [upd_same, webF_eq]
end
end K27

namespace K27
open PySem PySem.Spec PyProof.Rows L2 KM
theorem eqv_tie (e f : Str × Str) : PyData.eqv (tieD e) (tieD f) = decide (e = f) := by
  obtain ⟨a, b⟩ := e
  obtain ⟨c, d⟩ := f
  have h : PyData.eqv (tieD (a, b)) (tieD (c, d)) = (a == c && (b == d && true)) := by simp [tieD, PyData.eqv, PyData.eqvAll]
  rw [h, Bool.and_true]
  refine Bool.eq_iff_iff.mpr ?_
  rw [Bool.and_eq_true, beq_iff_eq, beq_iff_eq, decide_eq_true_eq, Prod.mk.injEq]
theorem any_tie (es : List (Str × Str)) (f : Str × Str) : ((tD es).any fun z => PyData.eqv z (tieD f)) = decide (f ∈ es) := by
  unfold tD
  rw [List.any_map]
  refine Bool.eq_iff_iff.mpr ?_
  rw [List.any_eq_true, decide_eq_true_eq]
  constructor
  · rintro ⟨e, he, q⟩
    have q : PyData.eqv (tieD e) (tieD f) = true := q
    rw [eqv_tie] at q
    exact of_decide_eq_true q ▸ he
  · intro h
    exact ⟨f, h, by show PyData.eqv (tieD f) (tieD f) = true; rw [eqv_tie]; exact decide_eq_true rfl⟩
theorem sh1 {e : Str × Str} (h : sOk e.1 ∧ sOk e.2) : SeqAt.shaped (tieD e) = true := by
  unfold SeqAt.shaped
  rw [dep1]
  have h2 : PyData.canLay0 (.str e.1) = true := h.1
  have h3 : PyData.canLay0 (.str e.2) = true := h.2
  simp [tieD, PyData.canLay0, PyData.canLayAll0] at h2 h3 ⊢
  exact ⟨h2, h3⟩
theorem can1 {e : Str × Str} (h : sOk e.1 ∧ sOk e.2) : (tieD e).canLay0 = true := by
  have := sh1 h
  unfold SeqAt.shaped at this
  exact (Bool.and_eq_true_iff.mp this).1
def EOk (es : List (Str × Str)) : Prop := ∀ e ∈ es, sOk e.1 ∧ sOk e.2
theorem Wb.eok {ns : List Str} {es : List (Str × Str)} (wb : Wb ns es) : EOk es := fun e he => ⟨wb.ok _ (wb.wg.mem e he).1, wb.ok _ (wb.wg.mem e he).2.1⟩
section
variable {P : Program} {w : World} {K : PySem.W.Frag} {mg : Str → Option Value} {base : Heap}
/-! ### _law_tied -/
def spLTied (K : PySem.W.Frag) : Sp := fun vs H Q _ => ∃ (l : Addr) (es : List (Str × Str)) (y z : Str), vs = [.ref l, .str y, .str z] ∧ Dq H (.ref l) (.list (tD es)) ∧ EOk es ∧ sOk y ∧ sOk z ∧ ∀ H', Same H H' → Q (.bl (adj es y z)) H'
theorem ok_L_tied (T : Tx K mg) : Fok P w K mg base CX0 1 (He.ga K "_law_tied") ["_law_ties", "_law_one", "_law_other"] (spLTied K) := by
  obtain ⟨fd, F⟩ := T.f_L_tied
  refine ⟨fd, F.ok scL_tied (fun vs H Q E h => ?_) (fun cdv A outer s H vs Q E hr h => ?_), b_L_tied F, F.kp⟩
  · obtain ⟨l, es, y, z, rfl, _⟩ := h
    rfl
  · obtain ⟨l, es, y, z, rfl, hl, eo, oy, oz, k⟩ := h
    have hu65 : (cxOf CX0 P w K mg base NL_tied "_law_tied" (defScope sL_tied) (He.ga K "_law_tied") cdv A outer s H E).nox.A.units + 65 < cLine := by
      have := hr.un
      show (A.deeper _).units + 65 < cLine
      omega
    obtain ⟨_, ts, el, hl, hts⟩ := hl.list_inv
    cases el
    refine ⟨_, PSs.nox (pss_one (ps_ret (pe_or (pe_cmpR (op_inD hu65) (pe_tup (pa_cons (pv 1) (pa_cons (pv 2) pa_nil))) (pv 0) (by first | exact nomark _ | rfl)) (pe_one (pe_cmpR (op_inD hu65) (pe_tup (pa_cons (pv 2) (pa_cons (pv 1) pa_nil))) (pv 0) (by first | exact nomark _ | rfl)))))), ?_⟩
    refine ⟨_, rfl, _, rfl, (by show 2 ≤ sizeLine; decide), fun t nt => ?_⟩
    have s1 := same_new (o := .tup [.str y, .str z]) (Same.refl H) nt
    have hts1 := hts.same s1
    refine ⟨_, rfl, tieD (y, z), tD es, Dq.dp _ _ (.tie (e := (y, z)) upd_same) (can1 ⟨oy, oz⟩), .lst (SqL.of (s1 _ _ hl)) (Dqs.dp _ _ hts1 (canT eo)), sh1 ⟨oy, oz⟩, shT eo, _, rfl, ?_⟩
    rw [any_tie]
    cases e1 : decide ((y, z) ∈ es) with
    | true =>
      refine ifT rfl ?_
      have q := k _ s1
      rw [show adj es y z = true by unfold adj; rw [e1]; rfl] at q
      exact q
    | false =>
      refine ifF rfl ?_
      refine ⟨_, rfl, _, rfl, (by show 2 ≤ sizeLine; decide), fun t2 nt2 => ?_⟩
      have s2 := same_new (o := .tup [.str z, .str y]) s1 nt2
      have hts2 := hts.same s2
      refine ⟨_, rfl, tieD (z, y), tD es, Dq.dp _ _ (.tie (e := (z, y)) upd_same) (can1 ⟨oz, oy⟩), .lst (SqL.of (s2 _ _ hl)) (Dqs.dp _ _ hts2 (canT eo)), sh1 ⟨oz, oy⟩, shT eo, ?_⟩
      have q := k _ s2
      rw [show adj es y z = decide ((z, y) ∈ es) by unfold adj; rw [e1]; rfl] at q
      show Q (.bl ((tD es).any fun u => PyData.eqv u (tieD (z, y)))) _
      rw [any_tie]
      exact q
/-! ### _law_partners -/
def spLPart (K : PySem.W.Frag) : Sp := fun vs H Q _ => ∃ (l : Addr) (ns : List Str) (X : List (Str × Str)), vs = [.ref l] ∧ Dq H (.ref l) (.list (tD X)) ∧ (∀ e ∈ X, e.1 ∈ ns ∧ e.2 ∈ ns) ∧ ns.length ≤ 1000 ∧ ∀ H' d, Same H H' → H d = none → DictAt ns H' d (lPart X) V.str → Q (.ref d) H'
theorem fold_more2 {α β : Type} {l : List α} {i : Nat} {z : α} (f : β → α → β) (b : β) (h : l[i]? = some z) : (l.take (i + 1)).foldl f b = f ((l.take i).foldl f b) z := by
  rw [take_more h, List.foldl_append]
  rfl
theorem ok_L_partners (T : Tx K mg) : Fok P w K mg base CX0 1 (He.ga K "_law_partners") ["_law_pairs_here"] (spLPart K) := by
  obtain ⟨fd, F⟩ := T.f_L_partners
  refine ⟨fd, F.ok scL_partners (fun vs H Q E h => ?_) (fun cdv A outer s H vs Q E hr h => ?_), b_L_partners F, F.kp⟩
  · obtain ⟨l, ns, X, rfl, _⟩ := h
    rfl
  · obtain ⟨l, ns, X, rfl, hl, hX, hn, k⟩ := h
    have hu := hu_of hr
    obtain ⟨_, ts, el, hl, hts⟩ := hl.list_inv
    cases el
    have tl := hts.length
    unfold tD at tl
    rw [List.length_map] at tl
    refine ⟨_, PSs.nox (pss_cons (ps_set (i := 1) scL_partners.nd rfl (Or.inl rfl) pe_dnewK)
    (pss_cons (ps_for PassesOwn.never rfl (pi_list (pv 0)) (pg_tup rfl (pgs_cons (pg_name (i := 2) scL_partners.nd rfl (Or.inl rfl)) (pgs_cons (pg_name (i := 3) scL_partners.nd rfl (Or.inl rfl)) pgs_nil))) (pss_cons (ps_dput hu (pv 1) (pv 2) (pv 3) rfl)
    (pss_one (ps_dput hu (pv 1) (pv 3) (pv 2) rfl))))
    (pss_one (ps_ret (pv 1))))), ?_⟩
    intro d nd
    have s0 := same_new (o := .dK []) (Same.refl H) nd
    refine ⟨_, rfl, l, rfl, ⟨_, SqL.of (s0 _ _ hl)⟩, for_list (K := K) (a := l) (xs := ts) (fun i σ H' => ∃ v2 v3, σ = [some (.ref l), some (.ref d), v2, v3] ∧ Same H H' ∧ DictAt ns H' d ((X.take i).foldl (fun f p => put (put f p.1 p.2) p.2 p.1) fun _ => none) V.str)
      ⟨none, none, rfl, s0, DictAt.nil upd_same⟩ (fun i σ H' _ ⟨_, _, _, s, _⟩ => SqL.of (s _ _ hl)) ?_ ?_⟩
    · rintro i x σ H1 hi ⟨v2, v3, rfl, s1, D1⟩
      obtain ⟨⟨y, z⟩, t, he, rfl, ht⟩ := ties_at hts hi
      obtain ⟨hy, hz⟩ := hX _ (List.mem_of_getElem? he)
      refine ⟨t, _, rfl, SqT.of (s1 _ _ ht), rfl, _, _, rfl, _, _, rfl, rfl, ?_⟩
      obtain ⟨u1, p1, D2⟩ := D1.put z hy hn
      obtain ⟨u2, p2, D3⟩ := D2.put y hz hn
      refine ⟨_, rfl, _, rfl, _, rfl, d, _, rfl, p1, ?_⟩
      refine ⟨_, rfl, _, rfl, _, rfl, d, _, rfl, p2, ?_⟩
      refine ⟨_, _, rfl, same_mut (same_mut s1 nd) nd, ?_⟩
      rw [fold_more2 _ _ he]
      exact D3
    · rintro σ H1 ⟨v2, v3, rfl, s1, D1⟩
      rw [tl, List.take_length] at D1
      exact ⟨_, rfl, k _ _ s1 nd D1⟩
/-! ### _law_rising -/
def spLRising (K : PySem.W.Frag) : Sp := fun vs H Q _ => ∃ (a d : Addr) (ns : List Str) (M : Str → Option Str), vs = [.ref a, .ref d] ∧ H a = some (.lst (nv ns)) ∧ ns.length ≤ 14 ∧ DictAt ns H d M V.str ∧ ∀ H' p, Same H H' → H p = none → Dq H' (.ref p) (.list (tD (lRising ns M))) → Q (.ref p) H'
theorem row_less (ns : List Str) (M : Str → Option Str) (k : Nat) : (lRow ns M k).length ≤ ns.length := by
  unfold lRow
  split
  · exact Nat.zero_le _
  · rw [List.length_map]
    exact Nat.le_trans (List.length_filter_le _ _) (by rw [List.length_drop]; omega)
theorem rows_less (ns : List Str) (M : Str → Option Str) : ∀ l : List Nat, (l.flatMap (lRow ns M)).length ≤ l.length * ns.length
  | [] => Nat.zero_le _
  | q :: l => by
    rw [List.flatMap_cons, List.length_append, List.length_cons, Nat.succ_mul]
    have h1 := row_less ns M q
    have h2 := rows_less ns M l
    omega
theorem ok_L_rising (T : Tx K mg) : Fok P w K mg base CX0 1 (He.ga K "_law_rising") ["_law_names_here", "_law_partners_here"] (spLRising K) := by
  obtain ⟨fd, F⟩ := T.f_L_rising
  refine ⟨fd, F.ok scL_rising (fun vs H Q E h => ?_) (fun cdv A outer s H vs Q E hr h => ?_), b_L_rising F, F.kp⟩
  · obtain ⟨a, d, ns, M, rfl, _⟩ := h
    rfl
  · obtain ⟨a, d, ns, M, rfl, ha, hn, hd, k⟩ := h
    have hu := hu_of hr
    refine ⟨_, PSs.nox (pss_cons (ps_set (i := 2) scL_rising.nd rfl (Or.inl rfl) (pe_lst pa_nil))
    (pss_cons (ps_for PassesOwn.never rfl (pi_range1 rfl T.z_range (pa_cons (pe_callB call_len_seq (by rfl) T.z_len (by decide +kernel) (pa_cons (pv 0) pa_nil)) pa_nil)) (pg_name (i := 3) scL_rising.nd rfl (Or.inl rfl)) (pss_one (ps_for PassesOwn.never rfl (pi_list (pe_slice sl_list (pv 0) (po_some (pe_op op_add (pv 3) pe_int)) po_none)) (pg_name (i := 4) scL_rising.nd rfl (Or.inl rfl)) (pss_one (ps_if (pt_cmpR op_eq (pe_dget1 hu (pv 1) (pe_ix ix_list (pv 0) (pv 3) (fun _ _ => rfl)) ⟨rfl, rfl, rfl, rfl⟩) (pv 4) (nomark _)) (pss_one (ps_expr (pe_bm PySem.F.plainAttrs_list PySem.F.slot_list_append PySem.F.type_list_append mt_append (pv 2) (pa_cons (pe_tup (pa_cons (pe_ix ix_list (pv 0) (pv 3) (fun _ _ => rfl)) (pa_cons (pv 4) pa_nil))) pa_nil)))) pss_nil)))))
    (pss_one (ps_ret (pv 2))))), ?_⟩
    refine ⟨Nat.zero_le _, fun p np => ?_⟩
    have I0 := GrowI.nil (Same.refl H) np
    refine ⟨_, rfl, a, _, rfl, .inl (SqL.of (I0.same _ _ ha)), _, rfl, by omega, by rw [nv_len]; omega, ?_⟩
    rw [nv_len, Int.toNat_natCast]
    have lenb : ∀ (i j : Nat), i ≤ ns.length → (tD (((List.range i).flatMap (lRow ns M)) ++ (((ns.drop (i + 1)).take j).filter fun z => decide ((ns[i]?).bind M = some z)).map fun z => ((ns[i]?).getD Str.empty, z))).length ≤ 100000 := fun i j hi => by
      unfold tD
      rw [List.length_map, List.length_append, List.length_map]
      have q1 := rows_less ns M (List.range i)
      rw [List.length_range] at q1
      have q2 := List.length_filter_le (fun z => decide ((ns[i]?).bind M = some z)) ((ns.drop (i + 1)).take j)
      rw [List.length_take, List.length_drop] at q2
      have q3 : i * ns.length ≤ 14 * 14 := Nat.mul_le_mul (by omega) hn
      omega
    refine for_range (lo := 0) (n := ns.length) (fun i σ H' => ∃ v3 v4, σ = [some (.ref a), some (.ref d), some (.ref p), v3, v4] ∧ GrowI H p (tD ((List.range i).flatMap (lRow ns M))) H') ⟨none, none, rfl, I0⟩ ?_ ?_
    · rintro i σ H1 hi ⟨v3, v4, rfl, I⟩
      rw [Int.zero_add]
      obtain ⟨z, hz⟩ : ∃ z, ns[i]? = some z := ⟨_, List.getElem?_eq_getElem hi⟩
      have ha1 := I.same _ _ ha
      refine ⟨_, rfl, _, rfl, _, _, rfl, rfl, _, rfl, a, _, rfl, SqL.of ha1, fun q nq => ?_⟩
      have ec : cutV (nv ns) (some ((i : Int) + 1)) none = nv (ns.drop (i + 1)) := by
        have := cut_from (nv ns) (i + 1)
        unfold nv at this ⊢
        rw [← List.map_drop] at this
        exact this
      rw [ec]
      have I1 := I.step (same_new (o := .lst (nv (ns.drop (i + 1)))) (Same.refl H1) nq)
      obtain ⟨_, g0, _⟩ := I.len
      have qp : q ≠ p := (ne_of_none g0 nq).symm
      obtain ⟨G, hG⟩ : ∃ G, G = off (upd H1 q (.lst (nv (ns.drop (i + 1))))) p := ⟨_, rfl⟩
      have Gq : G q = some (.lst (nv (ns.drop (i + 1)))) := by rw [hG, off_ne qp, upd_same]
      have Gp : G p = none := by rw [hG, off_same]
      refine ⟨q, rfl, ⟨_, SqL.of upd_same⟩, for_list (K := K) (a := q) (xs := nv (ns.drop (i + 1))) (fun j σ H' => ∃ v4, σ = [some (.ref a), some (.ref d), some (.ref p), some (.int (i : Int)), v4] ∧ Same G H' ∧
        GrowI H p (tD (((List.range i).flatMap (lRow ns M)) ++ (((ns.drop (i + 1)).take j).filter fun u => decide ((ns[i]?).bind M = some u)).map fun u => ((ns[i]?).getD Str.empty, u))) H')
        ⟨_, rfl, by rw [hG]; exact same_off, by rw [List.take_zero]; show GrowI H p (tD (_ ++ [])) _; rw [List.append_nil]; exact I1⟩ (fun j σ H' _ ⟨_, _, s, _⟩ => SqL.of (s _ _ Gq)) ?_ ?_⟩
      · rintro j x σ H2 hj ⟨v4, rfl, s2, I2⟩
        obtain ⟨u, hu', rfl⟩ := nv_at hj
        have ha2 := I2.same _ _ ha
        have hd2 := hd.mono I2.same
        have lb := lenb i j (by omega)
        refine ⟨_, rfl, d, rfl, hd2.isD, _, rfl, _, rfl, _, _, _, _, rfl, rfl, SqL.of ha2, atI_nat (nv_get hz), _, hd2.get z, _, rfl, (by cases M z <;> rfl), _, rfl, ?_⟩
        rw [hz] at I2 lb ⊢
        have I2 : GrowI H p (tD (((List.range i).flatMap (lRow ns M)) ++ (((ns.drop (i + 1)).take j).filter fun u => decide (M z = some u)).map fun u => (z, u))) H2 := I2
        have eq1 : decide (((M z).map V.str).getD .non = V.str u) = decide (M z = some u) := by
          cases M z with
          | none => rfl
          | some y =>
            refine decide_eq_decide.mpr ⟨fun h => by rw [V.str.inj h], fun h => by rw [Option.some.inj h]; rfl⟩
        cases c : decide (M z = some u) with
        | true =>
          refine ifT (eq1.trans c) ?_
          obtain ⟨acc, g1, _⟩ := I2.len
          refine ⟨_, rfl, .inl ⟨rfl, _, SqL.of g1⟩, _, rfl, _, rfl, _, _, _, _, rfl, rfl, SqL.of ha2, atI_nat (nv_get hz), _, rfl, (by show 2 ≤ sizeLine; decide), fun t nt => ?_⟩
          obtain ⟨acc', g2, g3, I3⟩ := I2.push (same_new (o := .tup [.str z, .str u]) (Same.refl H2) nt) (.tie (e := (z, u)) (off_new nt g1)) lb
          refine ⟨p, _, _, rfl, rfl, g2, g3, _, rfl, same_mut (same_new s2 nt) Gp, ?_⟩
          rw [take_more hu', List.filter_append, List.map_append, ← List.append_assoc]
          have e : ([u].filter fun y => decide ((some z).bind M = some y)).map (fun y => ((some z).getD Str.empty, y)) = [(z, u)] := by
            rw [List.filter_cons, if_pos (show decide ((some z).bind M = some u) = true from c)]
            rfl
          rw [e]
          unfold tD at I3 ⊢
          rw [List.map_append]
          exact I3
        | false =>
          refine ifF (eq1.trans c) ?_
          refine ⟨_, rfl, s2, ?_⟩
          rw [take_more hu', List.filter_append, List.map_append]
          have e : ([u].filter fun y => decide ((some z).bind M = some y)).map (fun y => ((some z).getD Str.empty, y)) = [] := by
            rw [List.filter_cons, if_neg (by rw [show decide ((some z).bind M = some u) = false from c]; exact Bool.false_ne_true)]
            rfl
          rw [e, List.append_nil]
          exact I2
      · rintro σ H2 ⟨v4, rfl, s2, I2⟩
        rw [nv_len, List.take_length, hz] at I2
        have I2 : GrowI H p (tD (((List.range i).flatMap (lRow ns M)) ++ ((ns.drop (i + 1)).filter fun u => decide (M z = some u)).map fun u => (z, u))) H2 := I2
        refine ⟨_, _, rfl, ?_⟩
        rw [List.range_succ, List.flatMap_append, List.flatMap_cons, List.flatMap_nil, List.append_nil]
        have e : lRow ns M i = ((ns.drop (i + 1)).filter fun u => decide (M z = some u)).map fun u => (z, u) := by
          unfold lRow
          rw [hz]
        rw [e]
        exact I2
    · rintro σ H1 ⟨v3, v4, rfl, I⟩
      exact ⟨_, rfl, k _ _ I.same I.new I.done⟩
end
end K27

namespace K27
open PySem PySem.Spec PyProof.Rows L2 KM
theorem pairsL_congr {ns : List Str} {es : List (Str × Str)} : ∀ (r : List PyData) {s s' : List Str}, (∀ z, z ∈ s ↔ z ∈ s') → pairsL ns es r s = pairsL ns es r s'
  | [], _, _, _ => rfl
  | d :: r, s, s', h => by
    have e1 : decide ((tieOf d).1 ∈ s) = decide ((tieOf d).1 ∈ s') := decide_eq_decide.mpr (h _)
    have e2 : decide ((tieOf d).2 ∈ s) = decide ((tieOf d).2 ∈ s') := decide_eq_decide.mpr (h _)
    show (isTie ns es d && (!decide ((tieOf d).1 ∈ s) && (!decide ((tieOf d).2 ∈ s) && pairsL ns es r _))) = (isTie ns es d && (!decide ((tieOf d).1 ∈ s') && (!decide ((tieOf d).2 ∈ s') && pairsL ns es r _)))
    rw [e1, e2, pairsL_congr r (s := (tieOf d).2 :: (tieOf d).1 :: s) (s' := (tieOf d).2 :: (tieOf d).1 :: s') fun z => by
      rw [List.mem_cons, List.mem_cons, List.mem_cons, List.mem_cons, h z]]
theorem coverN_cons {ns : List Str} {d : PyData} {r : List PyData} {s : List Str} : coverN ns (d :: r) s = if (isPl ns d && !decide (strD d ∈ s)) = true then coverN ns r (s ++ [strD d]) else none := rfl
theorem coverN_yes {ns : List Str} {d : PyData} {r : List PyData} {s : List Str} (h1 : isPl ns d = true) (h2 : decide (strD d ∈ s) = false) : coverN ns (d :: r) s = coverN ns r (s ++ [strD d]) := by
  rw [coverN_cons, h1, h2]
  rfl
theorem coverN_no1 {ns : List Str} {d : PyData} {r : List PyData} {s : List Str} (h1 : isPl ns d = false) : coverN ns (d :: r) s = none := by
  rw [coverN_cons, h1]
  rfl
theorem coverN_no2 {ns : List Str} {d : PyData} {r : List PyData} {s : List Str} (h2 : decide (strD d ∈ s) = true) : coverN ns (d :: r) s = none := by
  rw [coverN_cons, h2, Bool.not_true, Bool.and_false]
  rfl
/-- the law's turn -/
theorem pairs_turn {ns : List Str} {es : List (Str × Str)} (wg : Wg ns es) {x y : PyData} {r : List PyData} {s : List Str} :
    pairsL ns es (.tuple [x, y] :: r) s = match coverN ns [x, y] s with
      | none => false
      | some s' => adj es (strD x) (strD y) && pairsL ns es r s' := by
  show ((isPl ns x && (isPl ns y && adj es (strD x) (strD y))) && (!decide (strD x ∈ s) && (!decide (strD y ∈ s) && pairsL ns es r (strD y :: strD x :: s)))) = _
  cases h1 : isPl ns x with
  | false =>
    rw [coverN_no1 h1]
    rfl
  | true =>
    cases h2 : decide (strD x ∈ s) with
    | true =>
      rw [coverN_no2 h2]
      show ((true && (isPl ns y && adj es (strD x) (strD y))) && (false && _)) = false
      rw [Bool.false_and, Bool.and_false]
    | false =>
      rw [coverN_yes h1 h2]
      cases h3 : isPl ns y with
      | false =>
        rw [coverN_no1 h3]
        rfl
      | true =>
        have e : decide (strD y ∈ s ++ [strD x]) = (decide (strD y ∈ s) || decide (strD y = strD x)) := by
          refine Bool.eq_iff_iff.mpr ?_
          rw [Bool.or_eq_true, decide_eq_true_eq, decide_eq_true_eq, decide_eq_true_eq, List.mem_append, List.mem_singleton]
        cases h4 : decide (strD y ∈ s) with
        | true =>
          rw [coverN_no2 (by rw [e, h4]; rfl)]
          show (_ && (true && (false && _))) = false
          rw [Bool.false_and, Bool.and_false, Bool.and_false]
        | false =>
          cases h5 : decide (strD y = strD x) with
          | true =>
            rw [coverN_no2 (by rw [e, h4, h5]; rfl)]
            have : adj es (strD x) (strD y) = false := by
              cases q : adj es (strD x) (strD y) with
              | false => rfl
              | true => exact absurd (of_decide_eq_true h5).symm (wg.adj q).2.2
            rw [this]
            rfl
          | false =>
            rw [coverN_yes h3 (by rw [e, h4, h5]; rfl)]
            show ((true && (true && adj es (strD x) (strD y))) && (true && (true && pairsL ns es r _))) = (adj es (strD x) (strD y) && pairsL ns es r (s ++ [strD x] ++ [strD y]))
            rw [Bool.true_and, Bool.true_and, Bool.true_and, Bool.true_and]
            congr 1
            refine pairsL_congr r fun z => ?_
            rw [List.mem_cons, List.mem_cons, List.mem_append, List.mem_append, List.mem_singleton, List.mem_singleton]
            constructor
            · rintro (h | h | h)
              · exact .inr h
              · exact .inl (.inr h)
              · exact .inl (.inl h)
            · rintro ((h | h) | h)
              · exact .inr (.inr h)
              · exact .inr (.inl h)
              · exact .inl h
theorem pairs_no {ns : List Str} {es : List (Str × Str)} {d : PyData} {r : List PyData} {s : List Str} (h : pairT d = none) : pairsL ns es (d :: r) s = false := by
  show (isTie ns es d && _) = false
  have : isTie ns es d = false := by
    unfold isTie
    rw [h]
  rw [this]
  rfl
structure SeenOk (ns s : List Str) : Prop where
  nd : s.Nodup
  sub : ∀ z ∈ s, z ∈ ns
theorem SeenOk.more {ns s : List Str} {z : Str} (h : SeenOk ns s) (hz : z ∈ ns) (n : z ∉ s) : SeenOk ns (s ++ [z]) := by
  refine ⟨?_, fun y hy => ?_⟩
  · rw [List.nodup_append]
    exact ⟨h.nd, List.nodup_cons.mpr ⟨(fun z => nomatch z), List.nodup_nil⟩, fun a ha b hb e => by rw [List.mem_singleton.mp hb] at e; exact n (e ▸ ha)⟩
  · rcases List.mem_append.mp hy with q | q
    · exact h.sub y q
    · rw [List.mem_singleton.mp q]
      exact hz
theorem SeenOk.len {ns s : List Str} (h : SeenOk ns s) : s.length ≤ ns.length := nodup_sub_len h.nd h.sub
theorem nv_snoc (s : List Str) (z : Str) : nv s ++ [V.str z] = nv (s ++ [z]) := by
  unfold nv
  rw [List.map_append]
  rfl
section
variable {P : Program} {w : World} {K : PySem.W.Frag} {mg : Str → Option Value} {base : Heap}
def spLArePairs (K : PySem.W.Frag) : Sp := fun vs H Q _ => ∃ (n l : Addr) (ns : List Str) (es : List (Str × Str)) (v : V) (d : PyData), vs = [.ref n, .ref l, v] ∧ H n = some (.lst (nv ns)) ∧ Dq H (.ref l) (.list (tD es)) ∧ Wb ns es ∧ Dq H v d ∧ ∀ H', Same H H' → Q (.bl (pairsB ns es d)) H'
theorem ok_L_are_pairs (T : Tx K mg) (F1 : Fok P w K mg base CX0 1 (He.ga K "_law_tied") ["_law_ties", "_law_one", "_law_other"] (spLTied K)) : Fok P w K mg base CX0 2 (He.ga K "_law_are_pairs") ["_law_names_here", "_law_ties", "_law_thing"] (spLArePairs K) := by
  obtain ⟨fd, F⟩ := T.f_L_are_pairs
  obtain ⟨_, G_L_tied, b_L_tied, k_L_tied⟩ := F1
  refine ⟨fd, F.ok scL_are_pairs (fun vs H Q E h => ?_) (fun cdv A outer s H vs Q E hr h => ?_), b_L_are_pairs F, F.kp⟩
  · obtain ⟨n, l, ns, es, v, d, rfl, _⟩ := h
    rfl
  · obtain ⟨n, l, ns, es, v, d, rfl, hn, hl, wb, hd, k⟩ := h
    refine ⟨_, PSs.nox (pss_cons (ps_if (pt_not (pt_val (pe_callB call_isi (by rfl) T.z_isinstance (by decide +kernel) (pa_cons (pv 2) (pa_cons (pe_bltn (v := .ty "list") (u := .type "list") (by rfl) T.z_list (by decide +kernel) rfl) pa_nil))))) (pss_one (ps_ret pe_bl)) pss_nil)
    (pss_cons (ps_set (i := 3) scL_are_pairs.nd rfl (Or.inl rfl) (pe_lst pa_nil))
    (pss_cons (ps_for PassesOwn.never rfl (pi_list (pv 2)) (pg_name (i := 4) scL_are_pairs.nd rfl (Or.inl rfl)) (pss_cons (ps_if (PW.pt (pw_or (pt_not (pt_val (pe_callB call_isi (by rfl) T.z_isinstance (by decide +kernel) (pa_cons (pv 4) (pa_cons (pe_bltn (v := .ty "tuple") (u := .type "tuple") (by rfl) T.z_tuple (by decide +kernel) rfl) pa_nil))))) (pw_or1 (pt_cmpR op_ne (pe_callB call_len_seq (by rfl) T.z_len (by decide +kernel) (pa_cons (pv 4) pa_nil)) pe_int (nomark _))))) (pss_one (ps_ret pe_bl)) pss_nil)
    (pss_cons (ps_for PassesOwn.never rfl (pi_tup (pv 4)) (pg_name (i := 5) scL_are_pairs.nd rfl (Or.inl rfl)) (pss_cons (ps_if (PW.pt (pw_or (pt_not (pt_val (pe_callB call_isi (by rfl) T.z_isinstance (by decide +kernel) (pa_cons (pv 5) (pa_cons (pe_bltn (v := .ty "str") (u := .type "str") (by rfl) T.z_str (by decide +kernel) rfl) pa_nil))))) (pw_or (pt_cmpR op_notIn_seq (pv 5) (pv 0) (by first | exact nomark _ | rfl)) (pw_or1 (pt_cmpR op_in_seq (pv 5) (pv 3) (by first | exact nomark _ | rfl)))))) (pss_one (ps_ret pe_bl)) pss_nil)
    (pss_one (ps_expr (pe_bm PySem.F.plainAttrs_list PySem.F.slot_list_append PySem.F.type_list_append mt_append (pv 3) (pa_cons (pv 5) pa_nil))))))
    (pss_one (ps_if (pt_not (pt_val (pe_call G_L_tied (hr.mono (by decide)) rfl T.g_L_tied k_L_tied b_L_tied .nil pass0 (pa_cons (pv 1) (pa_cons (pe_ix ix_tup (pv 4) pe_int (fun _ _ => rfl)) (pa_cons (pe_ix ix_tup (pv 4) pe_int (fun _ _ => rfl)) pa_nil)))))) (pss_one (ps_ret pe_bl)) pss_nil)))))
    (pss_one (ps_ret pe_bl))))), ?_⟩
    refine ⟨_, rfl, _, _, _, _, isL d, rfl, .ty _, ty_of hd, kit_ty (kit_list d), _, rfl, ?_⟩
    cases hs : isL d with
    | false =>
      refine ifT rfl ?_
      have q := k H (Same.refl H)
      rw [pairsB_isL hs] at q
      exact q
    | true =>
      obtain ⟨lt, xs, ds, rfl, rfl, hlt, hx⟩ := isL_inv hd hs
      refine ifF rfl ?_
      refine ⟨Nat.zero_le _, fun p np => ?_⟩
      have s0 := same_new (o := .lst []) (Same.refl H) np
      refine ⟨_, rfl, lt, rfl, ⟨_, SqL.of (s0 _ _ hlt)⟩, for_list (K := K) (a := lt) (xs := xs) (fun i σ H' => ∃ v4 v5, σ = [some (.ref n), some (.ref l), some (.ref lt), some (.ref p), v4, v5] ∧ Same H H' ∧
        ∃ seen : List Str, H' p = some (.lst (nv seen)) ∧ SeenOk ns seen ∧ pairsL ns es ds [] = pairsL ns es (ds.drop i) seen)
        ⟨none, none, rfl, s0, [], upd_same, ⟨List.nodup_nil, fun _ h => nomatch h⟩, rfl⟩ (fun i σ H' _ ⟨_, _, _, s1, _⟩ => SqL.of (s1 _ _ hlt)) ?_ ?_⟩
      · rintro i x σ H1 hi ⟨v4, v5, rfl, s1, seen, hseen, so, hp⟩
        obtain ⟨d, hdi, hdx⟩ := hx.at_ hi
        rw [drop_cons hdi] at hp
        have hdx1 := hdx.same s1
        have no : pairT d = none → Q (.bl false) H1 := fun e => by
          have q := k H1 s1
          rw [show pairsB ns es (.list ds) = false by show pairsL ns es ds [] = false; rw [hp, pairs_no e]] at q
          exact q
        refine ⟨_, rfl, _, _, _, _, isT d, rfl, .ty _, ty_of hdx1, kit_ty (kit_tup d), _, rfl, ?_⟩
        cases ht : isT d with
        | false => exact ifT rfl (ifT rfl (no (pairT_isT ht)))
        | true =>
          obtain ⟨t, ys, es', rfl, rfl, hty, hys⟩ := isT_inv hdx ht
          refine ifF rfl ?_
          by_cases hl2 : es'.length = 2
          · obtain ⟨x, y, dx, dy, rfl, rfl, q1, q2⟩ := two_of hys hl2
            refine ⟨_, rfl, t, _, rfl, .inr (SqT.of (s1 _ _ hty)), rfl, _, rfl, ?_⟩
            refine ifF rfl ?_
            rw [pairs_turn wb.wg] at hp
            have no2 : ∀ H2, Same H H2 → coverN ns [dx, dy] seen = none → Q (.bl false) H2 := fun H2 s2 e => by
              have q := k H2 s2
              rw [show pairsB ns es (.list ds) = false by show pairsL ns es ds [] = false; rw [hp, e]] at q
              exact q
            refine ⟨_, rfl, t, rfl, ⟨_, SqT.of (s1 _ _ hty)⟩, for_tup (K := K) (a := t) (xs := [x, y]) (fun j σ H' => ∃ v5, σ = [some (.ref n), some (.ref l), some (.ref lt), some (.ref p), some (.ref t), v5] ∧ Same H H' ∧
              ∃ s : List Str, H' p = some (.lst (nv s)) ∧ SeenOk ns s ∧ coverN ns [dx, dy] seen = coverN ns ([dx, dy].drop j) s) ⟨_, rfl, s1, seen, hseen, so, rfl⟩ (fun j σ H' _ ⟨_, _, s2, _⟩ => SqT.of (s2 _ _ hty)) ?_ ?_⟩
            · rintro j z σ H2 hj ⟨v5, rfl, s2, sn, hsn, sno, hcn⟩
              obtain ⟨dz, hdz, hz⟩ := (Dqs.cons q1 (Dqs.cons q2 .nil)).at_ hj
              rw [drop_cons hdz] at hcn
              have hz2 := hz.same s2
              refine ⟨_, rfl, _, _, _, _, isS dz, rfl, .ty _, ty_of hz2, kit_ty (kit_str dz), _, rfl, ?_⟩
              cases hsz : isS dz with
              | false =>
                exact ifT rfl (ifT rfl (no2 H2 s2 (hcn.trans (coverN_no1 (isPl_isS hsz)))))
              | true =>
                obtain ⟨u, rfl, rfl⟩ := isS_inv hz hsz
                refine ifF rfl ⟨_, rfl, _, rfl, n, _, rfl, .inl (SqL.of (s2 _ _ hn)), rfl, nv_flat ns, _, rfl, ?_⟩
                rw [inV_nv]
                cases e1 : decide (u ∈ ns) with
                | false => exact ifT rfl (ifT rfl (no2 H2 s2 (hcn.trans (coverN_no1 e1))))
                | true =>
                  refine ifF rfl ⟨_, rfl, _, rfl, p, _, rfl, .inl (SqL.of hsn), rfl, nv_flat sn, _, rfl, ?_⟩
                  rw [inV_nv]
                  cases e2 : decide (u ∈ sn) with
                  | true => exact ifT rfl (no2 H2 s2 (hcn.trans (coverN_no2 e2)))
                  | false =>
                    have hcn := hcn.trans (coverN_yes e1 e2)
                    refine ifF rfl ?_
                    have sz : (nv sn).length < sizeLine := by
                      rw [nv_len]
                      exact Nat.lt_of_le_of_lt (Nat.le_trans sno.len wb.ln) (by decide)
                    refine ⟨_, rfl, .inl ⟨rfl, _, SqL.of hsn⟩, _, rfl, p, _, _, rfl, rfl, hsn, sz, _, rfl, same_mut s2 np, sn ++ [u], by rw [upd_same, nv_snoc], sno.more (of_decide_eq_true e1) (of_decide_eq_false e2), hcn⟩
            · rintro σ H2 ⟨v5, rfl, s2, sn, hsn, sno, hcn⟩
              have hcn : coverN ns [dx, dy] seen = some sn := hcn
              rw [hcn] at hp
              have hp : pairsL ns es ds [] = (adj es (strD dx) (strD dy) && pairsL ns es (ds.drop (i + 1)) sn) := hp
              -- both are places
              have both : isPl ns dx = true ∧ isPl ns dy = true := by
                cases e1 : isPl ns dx with
                | false =>
                  rw [coverN_no1 e1] at hcn
                  cases hcn
                | true =>
                  refine ⟨rfl, ?_⟩
                  cases e2 : decide (strD dx ∈ seen) with
                  | true =>
                    rw [coverN_no2 e2] at hcn
                    cases hcn
                  | false =>
                    rw [coverN_yes e1 e2] at hcn
                    cases e3 : isPl ns dy with
                    | true => rfl
                    | false =>
                      rw [coverN_no1 e3] at hcn
                      cases hcn
              obtain ⟨u1, rfl, m1⟩ := isPl_inv both.1
              obtain ⟨u2, rfl, m2⟩ := isPl_inv both.2
              obtain rfl := q1.str_inv
              obtain rfl := q2.str_inv
              have hty2 := s2 _ _ hty
              refine ⟨_, rfl, _, rfl, t, _, _, _, rfl, rfl, SqT.of hty2, rfl, _, rfl, t, _, _, _, rfl, rfl, SqT.of hty2, rfl, l, es, u1, u2, rfl, hl.same s2, wb.eok, wb.ok _ m1, wb.ok _ m2, fun H3 s3 => ⟨_, rfl, ?_⟩⟩
              have s4 := s2.trans s3
              cases ea : adj es u1 u2 with
              | false =>
                refine ifT rfl ?_
                have q := k H3 s4
                rw [show pairsB ns es (.list ds) = false by show pairsL ns es ds [] = false; rw [hp, show adj es (strD (.str u1)) (strD (.str u2)) = false from ea]; rfl] at q
                exact q
              | true =>
                refine ifF rfl ⟨_, _, rfl, s4, sn, s3 _ _ hsn, sno, ?_⟩
                rw [hp, show adj es (strD (.str u1)) (strD (.str u2)) = true from ea]
                rfl
          · have e : decide (V.int (ys.length : Nat) = V.int 2) = false := decide_eq_false fun q => hl2 (by rw [← hys.length]; exact Int.natCast_inj.mp (V.int.inj q))
            refine ⟨_, rfl, t, _, rfl, .inr (SqT.of (s1 _ _ hty)), rfl, _, rfl, ?_⟩
            have e2 : (!decide (V.int (ys.length : Nat) = V.int 2)) = true := by rw [e]; rfl
            exact ifT e2 (no (pairT_len hl2))
      · rintro σ H1 ⟨v4, v5, rfl, s1, seen, hseen, so, hp⟩
        have q := k H1 s1
        rw [show pairsB ns es (.list ds) = true by show pairsL ns es ds [] = true; rw [hp, hx.length, List.drop_length]; rfl] at q
        exact q
end
end K27

namespace K27
open PySem PySem.Spec PyProof.Rows L2 KM
def miss (C : List Str) (e : Str × Str) : Bool := !decide (e.1 ∈ C) && !decide (e.2 ∈ C)
theorem covers_miss (es : List (Str × Str)) (C : List Str) : (nD ([] : List Str)).isEmpty = true ∧ coversB es C = (tD (es.filter (miss C))).isEmpty := by
  refine ⟨rfl, ?_⟩
  unfold coversB
  induction es with
  | nil => rfl
  | cons e r ih =>
    rw [List.all_cons, List.filter_cons, ih]
    unfold miss
    cases decide (e.1 ∈ C) <;> cases decide (e.2 ∈ C) <;> rfl
section
variable {P : Program} {w : World} {K : PySem.W.Frag} {mg : Str → Option Value} {base : Heap}
theorem ok_L_is_cover (T : Tx K mg) : Fok P w K mg base CX0 1 (He.ga K "_law_is_cover") ["_law_names_here", "_law_ties", "_law_thing"] (fun vs H Q _ => ∃ (n l : Addr) (ns : List Str) (es : List (Str × Str)) (v : V) (d : PyData), vs = [.ref n, .ref l, v] ∧ H n = some (.lst (nv ns)) ∧ Dq H (.ref l) (.list (tD es)) ∧ Wb ns es ∧ Dq H v d ∧ ∀ H', Same H H' → Q (.bl (coverB ns es d)) H') := by
  obtain ⟨fd, F⟩ := T.f_L_is_cover
  refine ⟨fd, F.ok scL_is_cover (fun vs H Q E h => ?_) (fun cdv A outer s H vs Q E hr h => ?_), b_L_is_cover F, F.kp⟩
  · obtain ⟨n, l, ns, es, v, d, rfl, _⟩ := h
    rfl
  · obtain ⟨n, l, ns, es, v, d, rfl, hn, hl, wb, hd, k⟩ := h
    obtain ⟨_, ts, el, hl, hts⟩ := hl.list_inv
    cases el
    have tl := hts.length
    unfold tD at tl
    rw [List.length_map] at tl
    refine ⟨_, PSs.nox (pss_cons (ps_if (pt_not (pt_val (pe_callB call_isi (by rfl) T.z_isinstance (by decide +kernel) (pa_cons (pv 2) (pa_cons (pe_bltn (v := .ty "list") (u := .type "list") (by rfl) T.z_list (by decide +kernel) rfl) pa_nil))))) (pss_one (ps_ret pe_bl)) pss_nil)
    (pss_cons (ps_set (i := 3) scL_is_cover.nd rfl (Or.inr rfl) (pe_lst pa_nil))
    (pss_cons (ps_for PassesOwn.never rfl (pi_list (pv 2)) (pg_name (i := 4) scL_is_cover.nd rfl (Or.inl rfl)) (pss_cons (ps_if (PW.pt (pw_or (pt_not (pt_val (pe_callB call_isi (by rfl) T.z_isinstance (by decide +kernel) (pa_cons (pv 4) (pa_cons (pe_bltn (v := .ty "str") (u := .type "str") (by rfl) T.z_str (by decide +kernel) rfl) pa_nil))))) (pw_or (pt_cmpR op_notIn_seq (pv 4) (pv 0) (by first | exact nomark _ | rfl)) (pw_or1 (pt_cmpR op_in_seq (pv 4) (pv 3) (by first | exact nomark _ | rfl)))))) (pss_one (ps_ret pe_bl)) pss_nil)
    (pss_one (ps_expr (pe_bm PySem.F.plainAttrs_list PySem.F.slot_list_append PySem.F.type_list_append mt_append (pv 3) (pa_cons (pv 4) pa_nil))))))
    (pss_one (ps_ret (pe_cmpR (op_eqD hr.units) (pe_lc (own := [("_law_tie", 5)]) rfl scL_is_cover.nd (pi_list (pv 1)) (blkOk_by (own := [("_law_tie", 5)]) (N := NL_is_cover) (sc := defScope sL_is_cover) (by decide +kernel)) (fun _ _ _ _ _ => (pg_name (i := 5) scL_is_cover.nd rfl (Or.inl rfl))) (fun _ _ _ _ _ => (pts_one (PW.pt (pw_and (pt_cmpR (op_notIn_seqK (K := K) rfl) (pe_ix (ix_tupK (K := K) rfl) (pv 5) pe_int (fun _ _ => rfl)) (pv 3) (by first | exact nomark _ | rfl)) (pw_and1 (pt_cmpR (op_notIn_seqK (K := K) rfl) (pe_ix (ix_tupK (K := K) rfl) (pv 5) pe_int (fun _ _ => rfl)) (pv 3) (by first | exact nomark _ | rfl))))))) (fun _ _ _ _ _ => (pv 5))) (pe_lst pa_nil) (nomark _))))))), ?_⟩
    refine ⟨_, rfl, _, _, _, _, isL d, rfl, .ty _, ty_of hd, kit_ty (kit_list d), _, rfl, ?_⟩
    cases hs : isL d with
    | false =>
      refine ifT rfl ?_
      have q := k H (Same.refl H)
      rw [coverB_isL hs] at q
      exact q
    | true =>
      obtain ⟨lt, xs, ds, rfl, rfl, hlt, hx⟩ := isL_inv hd hs
      refine ifF rfl ?_
      refine ⟨Nat.zero_le _, fun p np => ?_⟩
      have s0 := same_new (o := .lst []) (Same.refl H) np
      have no : ∀ H2, Same H H2 → coverN ns ds [] = none → Q (.bl false) H2 := fun H2 s2 e => by
        have q := k H2 s2
        rw [show coverB ns es (.list ds) = false by show (match coverN ns ds [] with | none => false | some C => coversB es C) = false; rw [e]] at q
        exact q
      refine ⟨_, rfl, lt, rfl, ⟨_, SqL.of (s0 _ _ hlt)⟩, for_list (K := K) (a := lt) (xs := xs) (fun j σ H' => ∃ v4, σ = [some (.ref n), some (.ref l), some (.ref lt), some (.ref p), v4, none] ∧ Same H H' ∧
        ∃ s : List Str, H' p = some (.lst (nv s)) ∧ SeenOk ns s ∧ coverN ns ds [] = coverN ns (ds.drop j) s) ⟨_, rfl, s0, [], upd_same, ⟨List.nodup_nil, fun _ h => nomatch h⟩, rfl⟩ (fun j σ H' _ ⟨_, _, s2, _⟩ => SqL.of (s2 _ _ hlt)) ?_ ?_⟩
      · rintro j z σ H2 hj ⟨v5, rfl, s2, sn, hsn, sno, hcn⟩
        obtain ⟨dz, hdz, hz⟩ := hx.at_ hj
        rw [drop_cons hdz] at hcn
        have hz2 := hz.same s2
        refine ⟨_, rfl, _, _, _, _, isS dz, rfl, .ty _, ty_of hz2, kit_ty (kit_str dz), _, rfl, ?_⟩
        cases hsz : isS dz with
        | false => exact ifT rfl (ifT rfl (no H2 s2 (hcn.trans (coverN_no1 (isPl_isS hsz)))))
        | true =>
          obtain ⟨u, rfl, rfl⟩ := isS_inv hz hsz
          refine ifF rfl ⟨_, rfl, _, rfl, n, _, rfl, .inl (SqL.of (s2 _ _ hn)), rfl, nv_flat ns, _, rfl, ?_⟩
          rw [inV_nv]
          cases e1 : decide (u ∈ ns) with
          | false => exact ifT rfl (ifT rfl (no H2 s2 (hcn.trans (coverN_no1 e1))))
          | true =>
            refine ifF rfl ⟨_, rfl, _, rfl, p, _, rfl, .inl (SqL.of hsn), rfl, nv_flat sn, _, rfl, ?_⟩
            rw [inV_nv]
            cases e2 : decide (u ∈ sn) with
            | true => exact ifT rfl (no H2 s2 (hcn.trans (coverN_no2 e2)))
            | false =>
              have hcn := hcn.trans (coverN_yes e1 e2)
              refine ifF rfl ?_
              have sz : (nv sn).length < sizeLine := by
                rw [nv_len]
                exact Nat.lt_of_le_of_lt (Nat.le_trans sno.len wb.ln) (by decide)
              refine ⟨_, rfl, .inl ⟨rfl, _, SqL.of hsn⟩, _, rfl, p, _, _, rfl, rfl, hsn, sz, _, rfl, same_mut s2 np, sn ++ [u], by rw [upd_same, nv_snoc], sno.more (of_decide_eq_true e1) (of_decide_eq_false e2), hcn⟩
      · rintro σ H2 ⟨v5, rfl, s2, C, hC, sno, hcn⟩
        rw [hx.length, List.drop_length] at hcn
        have hcn : coverN ns ds [] = some C := hcn
        have hl2 := s2 _ _ hl
        refine ⟨_, rfl, l, rfl, ⟨_, SqL.of hl2⟩, fun D nD => ?_⟩
        refine lc_list (K := K) (a := l) (xs := ts) (fun j H4 => GrowI H2 D (tD ((es.take j).filter (miss C))) H4) (GrowI.nil (Same.refl H2) nD) (fun j H4 _ J => SqL.of (J.same _ _ hl2)) ?_ ?_
        · intro j x H4 hj J
          obtain ⟨⟨y, z⟩, t, he, rfl, ht⟩ := ties_at hts hj
          have ht4 := J.same _ _ (s2 _ _ ht)
          have hC4 := J.same _ _ hC
          have tk : (es.take (j + 1)).filter (miss C) = (es.take j).filter (miss C) ++ (if miss C (y, z) = true then [(y, z)] else []) := by
            rw [take_more he, List.filter_append, List.filter_cons]
            rfl
          have lenb : (tD ((es.take j).filter (miss C))).length ≤ 100000 := by
            unfold tD
            rw [List.length_map]
            have q1 := List.length_filter_le (miss C) (es.take j)
            rw [List.length_take] at q1
            have := wb.le
            omega
          refine ⟨rfl, _, rfl, t, _, _, _, rfl, rfl, SqT.of ht4, rfl, _, rfl, p, _, rfl, .inl (SqL.of hC4), rfl, nv_flat C, _, rfl, ?_⟩
          rw [inV_nv]
          cases e1 : decide (y ∈ C) with
          | true =>
            refine ifF rfl (ifF rfl ?_)
            have em : miss C (y, z) = false := by unfold miss; rw [show decide ((y, z).1 ∈ C) = true from e1]; rfl
            rw [tk, em, if_neg Bool.false_ne_true, List.append_nil]
            exact J
          | false =>
            refine ifT rfl ⟨_, rfl, t, _, _, _, rfl, rfl, SqT.of ht4, rfl, _, rfl, p, _, rfl, .inl (SqL.of hC4), rfl, nv_flat C, _, rfl, ?_⟩
            rw [inV_nv]
            cases e2 : decide (z ∈ C) with
            | true =>
              refine ifF rfl ?_
              have em : miss C (y, z) = false := by unfold miss; rw [show decide ((y, z).1 ∈ C) = false from e1, show decide ((y, z).2 ∈ C) = true from e2]; rfl
              rw [tk, em, if_neg Bool.false_ne_true, List.append_nil]
              exact J
            | false =>
              refine ifT rfl ⟨_, rfl, ?_⟩
              have em : miss C (y, z) = true := by unfold miss; rw [show decide ((y, z).1 ∈ C) = false from e1, show decide ((y, z).2 ∈ C) = false from e2]; rfl
              obtain ⟨acc, g1, _⟩ := J.len
              have tD' : t ≠ D := ne_of ht4 g1 (by intro z; cases z)
              have := J.push (Same.refl H4) (.tie (e := (y, z)) ((off_ne tD').trans ht4)) lenb
              rw [tk, em, if_pos rfl]
              unfold tD at this ⊢
              rw [List.map_append]
              exact this
        · intro H4 J
          rw [tl, List.take_length] at J
          have hD := J.done
          refine ⟨Nat.zero_le _, fun e0 ne0 => ?_⟩
          have s5 := same_new (o := .lst []) (Same.refl H4) ne0
          have fe : ∀ e ∈ es.filter (miss C), sOk e.1 ∧ sOk e.2 := fun e he => wb.eok e (List.mem_filter.mp he).1
          refine ⟨.list (tD (es.filter (miss C))), .list [], Dq.dp _ _ (hD.same s5) (by rw [PyData.canLay0]; exact canT fe), .lst (SqL.of upd_same) .nil, shT fe, shape_nil, ?_⟩
          have q := k _ (s2.trans (J.same.trans s5))
          rw [show coverB ns es (.list ds) = (tD (es.filter (miss C))).isEmpty by show (match coverN ns ds [] with | none => false | some C => coversB es C) = _; rw [hcn]; exact (covers_miss es C).2] at q
          show Q (.bl (PyData.eqv (.list (tD (es.filter (miss C)))) (.list []))) _
          rw [eqv_nil]
          exact q
def spLIsCover (K : PySem.W.Frag) : Sp := fun vs H Q _ => ∃ (n l : Addr) (ns : List Str) (es : List (Str × Str)) (v : V) (d : PyData), vs = [.ref n, .ref l, v] ∧ H n = some (.lst (nv ns)) ∧ Dq H (.ref l) (.list (tD es)) ∧ Wb ns es ∧ Dq H v d ∧ ∀ H', Same H H' → Q (.bl (coverB ns es d)) H'
def spLShows (K : PySem.W.Frag) : Sp := fun vs H Q _ => ∃ (n l : Addr) (ns : List Str) (es : List (Str × Str)) (v : V) (d : PyData), vs = [.ref n, .ref l, v] ∧ H n = some (.lst (nv ns)) ∧ Dq H (.ref l) (.list (tD es)) ∧ Wb ns es ∧ Dq H v d ∧ ∀ H', Same H H' → Q (.bl (showsB ns es d)) H'
theorem ok_L_shows (T : Tx K mg) (F1 : Fok P w K mg base CX0 2 (He.ga K "_law_are_pairs") ["_law_names_here", "_law_ties", "_law_thing"] (spLArePairs K)) (F2 : Fok P w K mg base CX0 1 (He.ga K "_law_is_cover") ["_law_names_here", "_law_ties", "_law_thing"] (spLIsCover K)) :
    Fok P w K mg base CX0 3 (He.ga K "_law_shows") ["_law_names_here", "_law_ties", "_law_thing"] (spLShows K) := by
  obtain ⟨fd, F⟩ := T.f_L_shows
  obtain ⟨_, G_L_are_pairs, b_L_are_pairs, k_L_are_pairs⟩ := F1
  obtain ⟨_, G_L_is_cover, b_L_is_cover, k_L_is_cover⟩ := F2
  refine ⟨fd, F.ok scL_shows (fun vs H Q E h => ?_) (fun cdv A outer s H vs Q E hr h => ?_), b_L_shows F, F.kp⟩
  · obtain ⟨n, l, ns, es, v, d, rfl, _⟩ := h
    rfl
  · obtain ⟨n, l, ns, es, v, d, rfl, hn, hl, wb, hd, k⟩ := h
    refine ⟨_, PSs.nox (pss_cons (ps_if (PW.pt (pw_or (pt_not (pt_val (pe_callB call_isi (by rfl) T.z_isinstance (by decide +kernel) (pa_cons (pv 2) (pa_cons (pe_bltn (v := .ty "tuple") (u := .type "tuple") (by rfl) T.z_tuple (by decide +kernel) rfl) pa_nil))))) (pw_or (pt_cmpR op_ne (pe_callB call_len_seq (by rfl) T.z_len (by decide +kernel) (pa_cons (pv 2) pa_nil)) pe_int (nomark _)) (pw_or1 (pt_not (pt_val (pe_call G_L_are_pairs (hr.mono (by decide)) rfl T.g_L_are_pairs k_L_are_pairs b_L_are_pairs .nil pass0 (pa_cons (pv 0) (pa_cons (pv 1) (pa_cons (pe_ix ix_tup (pv 2) pe_int (fun _ _ => rfl)) pa_nil)))))))))) (pss_one (ps_ret pe_bl)) pss_nil)
    (pss_one (ps_ret (pe_and (pe_call G_L_is_cover (hr.mono (by decide)) rfl T.g_L_is_cover k_L_is_cover b_L_is_cover .nil pass0 (pa_cons (pv 0) (pa_cons (pv 1) (pa_cons (pe_ix ix_tup (pv 2) pe_int (fun _ _ => rfl)) pa_nil)))) (pe_one (pe_cmpR op_eq (pe_callB call_len_seq (by rfl) T.z_len (by decide +kernel) (pa_cons (pe_ix ix_tup (pv 2) pe_int (fun _ _ => rfl)) pa_nil)) (pe_callB call_len_seq (by rfl) T.z_len (by decide +kernel) (pa_cons (pe_ix ix_tup (pv 2) pe_int (fun _ _ => rfl)) pa_nil)) (nomark _))))))), ?_⟩
    refine ⟨_, rfl, _, _, _, _, isT d, rfl, .ty _, ty_of hd, kit_ty (kit_tup d), _, rfl, ?_⟩
    cases hs : isT d with
    | false =>
      refine ifT rfl (ifT rfl ?_)
      have q := k H (Same.refl H)
      unfold showsB at q
      rw [pairT_isT hs] at q
      exact q
    | true =>
      obtain ⟨t, xs, ds, rfl, rfl, ht, hx⟩ := isT_inv hd hs
      refine ifF rfl ?_
      by_cases hl2 : ds.length = 2
      · obtain ⟨x, y, p, c, rfl, rfl, q1, q2⟩ := two_of hx hl2
        refine ⟨_, rfl, t, _, rfl, .inr (SqT.of ht), rfl, _, rfl, ?_⟩
        refine ifF rfl ?_
        have ke : showsB ns es (.tuple [p, c]) = (pairsB ns es p && (coverB ns es c && decide (lenD p = lenD c))) := rfl
        refine ⟨_, rfl, _, rfl, _, rfl, t, _, _, x, rfl, rfl, SqT.of ht, rfl, n, l, ns, es, x, p, rfl, hn, hl, wb, q1, fun H1 s1 => ⟨_, rfl, ?_⟩⟩
        cases e1 : pairsB ns es p with
        | false =>
          refine ifT rfl ?_
          rw [ke, e1] at k
          exact k H1 s1
        | true =>
          refine ifF rfl ⟨_, rfl, _, rfl, _, rfl, t, _, _, y, rfl, rfl, SqT.of (s1 _ _ ht), rfl, n, l, ns, es, y, c, rfl, s1 _ _ hn, hl.same s1, wb, q2.same s1, fun H2 s2 => ⟨_, rfl, ?_⟩⟩
          have s3 := s1.trans s2
          cases e2 : coverB ns es c with
          | false =>
            refine ifF rfl ?_
            rw [ke, e1, e2] at k
            exact k H2 s3
          | true =>
            obtain ⟨l1, xs1, ds1, rfl, rfl, hl1, hx1⟩ := isL_inv q1 (pairsB_inv e1)
            obtain ⟨l2, xs2, ds2, rfl, rfl, hl2, hx2⟩ := isL_inv q2 (coverB_inv e2)
            refine ifT rfl ⟨_, rfl, t, _, _, _, rfl, rfl, SqT.of (s3 _ _ ht), rfl, l1, _, rfl, .inl (SqL.of (s3 _ _ hl1)), _, rfl, t, _, _, _, rfl, rfl, SqT.of (s3 _ _ ht), rfl, l2, _, rfl, .inl (SqL.of (s3 _ _ hl2)), rfl, ?_⟩
            have r := k H2 s3
            rw [ke, e1, e2] at r
            have e3 : decide (V.int (xs1.length : Nat) = V.int (xs2.length : Nat)) = (true && (true && decide (lenD (.list ds1) = lenD (.list ds2)))) := by
              rw [hx1.length, hx2.length]
              exact decide_eq_decide.mpr ⟨fun h => Int.natCast_inj.mp (V.int.inj h), fun h => congrArg (fun n : Nat => V.int (n : Int)) h⟩
            show Q (.bl (decide (V.int (xs1.length : Nat) = V.int (xs2.length : Nat)))) H2
            rw [e3]
            exact r
      · have e : decide (V.int (xs.length : Nat) = V.int 2) = false := decide_eq_false fun q => hl2 (by rw [← hx.length]; exact Int.natCast_inj.mp (V.int.inj q))
        refine ⟨_, rfl, t, _, rfl, .inr (SqT.of ht), rfl, _, rfl, ?_⟩
        have e2 : (!decide (V.int (xs.length : Nat) = V.int 2)) = true := by rw [e]; rfl
        refine ifT e2 (ifT rfl ?_)
        have q := k H (Same.refl H)
        unfold showsB at q
        rw [pairT_len hl2] at q
        exact q
end
end K27

namespace K27
open PySem PySem.Spec PyProof.Rows L2 KM
def BoxAt (H : Hp) (b : Addr) (c : Nat) : Prop := ∃ x y n : Int, H b = some (.lst [.int x, .int y, .int n]) ∧ 0 ≤ y ∧ y < 2147483648 ∧ 0 ≤ n ∧ n ≤ (c : Int)
theorem BoxAt.mono {H : Hp} {b : Addr} {c d : Nat} (h : BoxAt H b c) (l : c ≤ d) : BoxAt H b d := by
  obtain ⟨x, y, n, h1, h2, h3, h4, h5⟩ := h
  exact ⟨x, y, n, h1, h2, h3, h4, by omega⟩
theorem BoxAt.same {H H' : Hp} {b : Addr} {c : Nat} (h : BoxAt H b c) (s : Same H H') : BoxAt H' b c := by
  obtain ⟨x, y, n, h1, r⟩ := h
  exact ⟨x, y, n, s _ _ h1, r⟩
section
variable {P : Program} {w : World} {K : PySem.W.Frag} {mg : Str → Option Value} {base : Heap}
def spLAt (K : PySem.W.Frag) : Sp := fun vs H Q _ => ∃ (a : Addr) (cells : List Int) (k : Nat), vs = [.ref a, .int (k : Int)] ∧ SqL K H a (cells.map V.int) ∧ ∀ i : Int, Q (.int i) H
theorem ok_L_at (T : Tx K mg) : Fok P w K mg base CX0 1 (He.ga K "_law_at") ["_law_script", "_law_k"] (spLAt K) := by
  obtain ⟨fd, F⟩ := T.f_L_at
  refine ⟨fd, F.ok scL_at (fun vs H Q E h => ?_) (fun cdv A outer s H vs Q E hr h => ?_), b_L_at F, F.kp⟩
  · obtain ⟨a, cells, k, rfl, _⟩ := h
    rfl
  · obtain ⟨a, cells, k, rfl, ha, q⟩ := h
    refine ⟨_, PSs.nox (pss_cons (ps_if (pt_cmpR op_lt (pv 1) (pe_callB call_len_seq (by rfl) T.z_len (by decide +kernel) (pa_cons (pv 0) pa_nil)) (nomark _)) (pss_one (ps_ret (pe_ix ix_list (pv 0) (pv 1) (fun _ _ => rfl)))) pss_nil)
    (pss_one (ps_ret (pe_op op_add (pe_op op_mul pe_int (pv 1)) pe_int)))), ?_⟩
    refine ⟨_, rfl, _, rfl, a, _, rfl, .inl ha, _, _, rfl, rfl, _, rfl, ?_⟩
    by_cases hk : k < cells.length
    · refine ifT (decide_eq_true (by rw [List.length_map]; omega)) ?_
      refine ⟨_, rfl, _, rfl, _, _, _, .int cells[k], rfl, rfl, ha, atI_nat (by rw [List.getElem?_map, List.getElem?_eq_getElem hk]; rfl), q _⟩
    · refine ifF (decide_eq_false (by rw [List.length_map]; omega)) ?_
      exact ⟨_, rfl, _, _, rfl, rfl, .inl ⟨by decide, by decide⟩, _, _, rfl, rfl, q _⟩
def spLBox : Sp := fun vs H Q _ => ∃ (c : Int), vs = [.int c] ∧ ∀ H' b, Same H H' → H b = none → BoxAt H' b 0 → Q (.ref b) H'
theorem ok_L_box (T : Tx K mg) : Fok P w K mg base CX0 1 (He.ga K "_law_box") ["_law_cell"] spLBox := by
  obtain ⟨fd, F⟩ := T.f_L_box
  refine ⟨fd, F.ok scL_box (fun vs H Q E h => ?_) (fun cdv A outer s H vs Q E hr h => ?_), b_L_box F, F.kp⟩
  · obtain ⟨c, rfl, _⟩ := h
    rfl
  · obtain ⟨c, rfl, k⟩ := h
    refine ⟨_, PSs.nox (pss_one (ps_ret (pe_lst (pa_cons (pe_callB (call_max2 rfl) (by rfl) T.z_max (by decide +kernel) (pa_cons pe_int (pa_cons (pe_op op_sub (pv 0) (pe_op op_pow pe_int pe_int)) pa_nil))) (pa_cons (pe_op op_mod (pv 0) pe_int) (pa_cons pe_int pa_nil)))))), ?_⟩
    refine ⟨_, rfl, _, _, rfl, rfl, ⟨by decide, by decide, by decide⟩, _, _, rfl, rfl, _, _, rfl, _, rfl, _, _, rfl, rfl, (by show (0 : Int) < 2147483629; decide), (by show 3 ≤ sizeLine; decide), fun b nb => ?_⟩
    refine k _ b (same_new (Same.refl H) nb) nb ⟨_, _, _, upd_same, Int.emod_nonneg _ (by decide), ?_, Int.le_refl _, Int.le_refl _⟩
    have := Int.emod_lt_of_pos c (show (0 : Int) < 2147483629 by decide)
    omega
def spLTake : Sp := fun vs H Q _ => ∃ (b : Addr) (m : Int) (c : Nat), vs = [.ref b, .int m] ∧ 0 < m ∧ m < 1000000 ∧ BoxAt H b c ∧ c < 1000000000 ∧ ∀ H' (r : Nat), (r : Int) < m → Same (off H b) H' → BoxAt H' b (c + 1) → Q (.int (r : Int)) H'
theorem ok_L_take (T : Tx K mg) : Fok P w K mg base CX0 1 (He.ga K "_law_take") ["_law_box_here", "_law_many"] spLTake := by
  obtain ⟨fd, F⟩ := T.f_L_take
  refine ⟨fd, F.ok scL_take (fun vs H Q E h => ?_) (fun cdv A outer s H vs Q E hr h => ?_), b_L_take F, F.kp⟩
  · obtain ⟨b, m, c, rfl, _⟩ := h
    rfl
  · obtain ⟨b, m, c, rfl, m0, m1, ⟨x, y, n, hb, y0, y1, n0, n1⟩, hc, k⟩ := h
    have ret : ∀ (i : Int) (H' : Hp), Same (off H b) H' → BoxAt H' b (c + 1) → Q (.int (i % m)) H' := fun i H' s hB => by
      have e1 := Int.emod_nonneg i (show m ≠ 0 by omega)
      have e2 := Int.emod_lt_of_pos i m0
      obtain ⟨r, hr'⟩ := Int.eq_ofNat_of_zero_le e1
      rw [hr'] at e2 ⊢
      exact k H' r e2 s hB
    refine ⟨_, PSs.nox (pss_cons (ps_asg (pe_op op_add (pe_ix ix_list (pv 0) pe_int (fun _ _ => rfl)) pe_int) (pg_sub (pv 0) pe_int set_list))
    (pss_cons (ps_if (pt_cmpR op_gt (pe_ix ix_list (pv 0) pe_int (fun _ _ => rfl)) pe_int (nomark _)) (pss_cons (ps_set (i := 2) scL_take.nd rfl (Or.inl rfl) (pe_op op_mod (pe_ix ix_list (pv 0) pe_int (fun _ _ => rfl)) (pv 1)))
    (pss_cons (ps_asg (pe_op op_fdiv (pe_ix ix_list (pv 0) pe_int (fun _ _ => rfl)) (pv 1)) (pg_sub (pv 0) pe_int set_list))
    (pss_one (ps_ret (pv 2))))) pss_nil)
    (pss_cons (ps_set (i := 3) scL_take.nd rfl (Or.inl rfl) (pe_op op_mod (pe_op op_add (pe_op op_add (pe_op op_mul (pe_ix ix_list (pv 0) pe_int (fun _ _ => rfl)) pe_int) (pe_op op_mul pe_int (pe_ix ix_list (pv 0) pe_int (fun _ _ => rfl)))) pe_int) pe_int))
    (pss_cons (ps_set (i := 4) scL_take.nd rfl (Or.inl rfl) (pe_op op_add (pe_op op_add (pe_op op_fdiv (pv 3) pe_int) (pe_op op_mul (pe_ix ix_list (pv 0) pe_int (fun _ _ => rfl)) (pe_ix ix_list (pv 0) pe_int (fun _ _ => rfl)))) pe_int))
    (pss_cons (ps_set (i := 3) scL_take.nd rfl (Or.inl rfl) (pe_op op_mod (pe_op op_mul (pe_op op_add (pe_op op_mod (pv 3) pe_int) pe_int) (pv 4)) pe_int))
    (pss_one (ps_ret (pe_op op_mod (pe_op op_fdiv (pe_op op_mod (pe_op op_mul (pv 3) (pe_op op_add (pe_op op_fdiv (pv 3) pe_int) pe_int)) pe_int) pe_int) (pv 1))))))))), ?_⟩
    refine ⟨_, rfl, _, _, _, _, rfl, rfl, SqL.of hb, atI_nat (j := 2) rfl, _, _, rfl, rfl, _, rfl, b, _, _, 2, rfl, rfl, hb, rfl, ?_⟩
    have hb1 : upd H b (.lst ([V.int x, V.int y, V.int n].set 2 (.int (n + 1)))) b = some (.lst [.int x, .int y, .int (n + 1)]) := upd_same
    refine ⟨_, rfl, _, _, _, _, rfl, rfl, SqL.of hb1, atI_nat (j := 0) rfl, _, _, rfl, rfl, _, rfl, ?_⟩
    by_cases hx : 0 < x
    · refine ifT (decide_eq_true hx) ?_
      refine ⟨_, rfl, _, _, _, _, rfl, rfl, SqL.of hb1, atI_nat (j := 0) rfl, _, rfl, _, _, rfl, rfl, m0, ?_⟩
      refine ⟨_, rfl, _, _, _, _, rfl, rfl, SqL.of hb1, atI_nat (j := 0) rfl, _, rfl, _, _, rfl, rfl, ⟨m0, by omega⟩, _, rfl, b, _, _, 0, rfl, rfl, hb1, rfl, ?_⟩
      refine ⟨_, rfl, ret _ _ ?_ ?_⟩
      · rw [upd_upd]
        exact same_offU
      · exact ⟨_, _, _, upd_same, y0, y1, by omega, by omega⟩
    · refine ifF (decide_eq_false hx) ?_
      have b1 : ∀ u : Int, CMul y u := fun u => .inl ⟨by omega, by omega⟩
      have b2 : ∀ u : Int, CMul 6007 u := fun u => .inl ⟨by omega, by omega⟩
      have b3 : CMul (n + 1) (n + 1) := .inl ⟨by omega, by omega⟩
      have b4 : ∀ u v : Int, CMul (u % 65537 + 11) v := fun u v => .inl ⟨by omega, by omega⟩
      have b5 : ∀ u v : Int, CMul (u % 2147483587) v := fun u v => .inl ⟨by omega, by omega⟩
      have p1 : (0 : Int) < 2147483647 := by decide
      have p2 : (0 : Int) < 2147483587 := by decide
      have p3 : (0 : Int) < 65537 := by decide
      have p4 : (0 : Int) < 1000000007 := by decide
      have d1 : ∀ u : Int, CDiv u 65537 := fun u => ⟨by decide, by decide⟩
      have d2 : ∀ u : Int, CDiv u 1009 := fun u => ⟨by decide, by decide⟩
      have d3 : ∀ u : Int, CDiv u 13 := fun u => ⟨by decide, by decide⟩
      refine ⟨_, rfl, _, _, _, _, rfl, rfl, SqL.of hb1, atI_nat (j := 1) rfl, _, _, rfl, rfl, b1 _, _, rfl, _, _, _, _, rfl, rfl, SqL.of hb1, atI_nat (j := 2) rfl, _, _, rfl, rfl, b2 _, _, _, rfl, rfl, _, _, rfl, rfl, _, _, rfl, rfl, p1, ?_⟩
      refine ⟨_, rfl, _, _, rfl, rfl, d1 _, _, rfl, _, _, _, _, rfl, rfl, SqL.of hb1, atI_nat (j := 2) rfl, _, rfl, _, _, _, _, rfl, rfl, SqL.of hb1, atI_nat (j := 2) rfl, _, _, rfl, rfl, b3, _, _, rfl, rfl, _, _, rfl, rfl, ?_⟩
      refine ⟨_, rfl, _, _, rfl, rfl, p3, _, _, rfl, rfl, _, rfl, _, _, rfl, rfl, b4 _ _, _, _, rfl, rfl, p2, ?_⟩
      refine ⟨_, rfl, _, rfl, _, _, rfl, rfl, d2 _, _, _, rfl, rfl, _, _, rfl, rfl, b5 _ _, _, _, rfl, rfl, p4, _, _, rfl, rfl, d3 _, _, rfl, _, _, rfl, rfl, m0, ?_⟩
      exact ret _ _ same_offU ⟨_, _, _, upd_same, y0, y1, by omega, by omega⟩
end
end K27

namespace K27
open PySem PySem.Spec PyProof.Rows L2 KM
def LET : List Nat := ("abcdefghijklmnopqrstuvwxyz" : Str).cps.toList
theorem LET_len : LET.length = 26 := by decide +kernel
theorem LET_nd : LET.Nodup := by decide +kernel
theorem LET_at {r : Nat} (h : r < 26) : ∃ c, LET[r]? = some c ∧ c ∈ LET := by
  have q : LET[r]? = some (LET[r]'(by rw [LET_len]; exact h)) := List.getElem?_eq_getElem _
  exact ⟨_, q, List.mem_of_getElem? q⟩
theorem LET_inj {i j c : Nat} (h1 : LET[i]? = some c) (h2 : LET[j]? = some c) : i = j := by
  rw [← idx_getN LET_nd h1, ← idx_getN LET_nd h2]
where
  idx_getN {ns : List Nat} (nd : ns.Nodup) {k : Nat} {a : Nat} (h : ns[k]? = some a) : ns.idxOf a = k := idx_get nd h
/-- signs gathered one by one -/
structure CI (G : Hp) (D b : Addr) (c i : Nat) (H : Hp) : Prop where
  same : Same G H
  gD : G D = none
  gb : G b = none
  ne : D ≠ b
  box : BoxAt H b (c + i)
  ex : ∃ ys : List (List Nat), H D = some (.lst ((ys.map SX.S).map V.str)) ∧ ys.length = i ∧ ∀ l ∈ ys, ∃ x ∈ LET, l = [x]
theorem CI.nil {H : Hp} {D b : Addr} {c : Nat} (h : BoxAt H b c) (n : H D = none) : CI (off H b) D b c 0 (upd H D (.lst [])) := by
  obtain ⟨x, y, z, e, r⟩ := id h
  have ne : D ≠ b := (ne_of_none e n).symm
  refine ⟨?_, (off_ne ne).trans n, off_same, ne, h.same (same_new (Same.refl H) n), [], upd_same, rfl, fun _ h => nomatch h⟩
  exact same_off.trans (same_new (Same.refl H) n)
theorem CI.step {G H H' : Hp} {D b : Addr} {c i x : Nat} (I : CI G D b c i H) (s : Same (off H b) H') (hB : BoxAt H' b (c + i + 1)) (hx : x ∈ LET) (hi : i ≤ 1000) :
    ∃ acc, H' D = some (.lst acc) ∧ acc.length < sizeLine ∧ CI G D b c (i + 1) (upd H' D (.lst (acc ++ [.str ⟨#[x]⟩]))) := by
  obtain ⟨ys, h, l, a⟩ := I.ex
  have h' := s _ _ ((off_ne I.ne).trans h)
  obtain ⟨u, v, w, e, r⟩ := id hB
  refine ⟨_, h', ?_, same_mut ((same_to I.same I.gb).trans s) I.gD, I.gD, I.gb, I.ne, ⟨u, v, w, by rw [upd_ne I.ne.symm]; exact e, r⟩, ys ++ [[x]], ?_, by rw [List.length_append, l]; rfl, fun l hl => ?_⟩
  · rw [List.length_map, List.length_map, l]
    exact Nat.lt_of_le_of_lt hi (by decide)
  · rw [upd_same, List.map_append, List.map_append]
    rfl
  · rcases List.mem_append.mp hl with q | q
    · exact a l q
    · exact ⟨x, hx, List.mem_singleton.mp q⟩
theorem joinL_nil : ∀ ys : List (List Nat), TL.joinL [] ys = ys.flatten
  | [] => rfl
  | [p] => by rw [List.flatten_cons, List.flatten_nil, List.append_nil]; rfl
  | p :: q :: r => by
    show p ++ ([] ++ TL.joinL [] (q :: r)) = _
    rw [joinL_nil (q :: r)]
    rfl
theorem flat_one : ∀ {ys : List (List Nat)}, (∀ l ∈ ys, ∃ x ∈ LET, l = [x]) → ys.flatten.length = ys.length ∧ ∀ x ∈ ys.flatten, x ∈ LET
  | [], _ => ⟨rfl, fun _ h => nomatch h⟩
  | l :: r, h => by
    obtain ⟨x, hx, rfl⟩ := h l List.mem_cons_self
    obtain ⟨h1, h2⟩ := flat_one fun y hy => h y (List.mem_cons_of_mem _ hy)
    refine ⟨by rw [List.flatten_cons, List.length_append, h1]; exact Nat.add_comm _ _, fun y hy => ?_⟩
    rw [List.flatten_cons] at hy
    rcases List.mem_append.mp hy with q | q
    · rw [List.mem_singleton.mp q]
      exact hx
    · exact h2 y q
theorem cutS_to (bs : List Nat) (k : Nat) : cutS (SX.S bs) none (some (k : Int)) = SX.S (bs.take k) := by
  unfold cutS
  have e : (SX.S bs).length = bs.length := SX.S_len bs
  rw [e, HT.sIx_none, HT.sIx_nat, List.drop_zero, Nat.sub_zero]
  show (⟨(bs.take (min k bs.length)).toArray⟩ : Str) = _
  by_cases h : k ≤ bs.length
  · rw [Nat.min_eq_left h]
  · rw [Nat.min_eq_right (by omega), List.take_length, List.take_of_length_le (by omega)]
theorem cutS_from (bs : List Nat) (k : Nat) : cutS (SX.S bs) (some (k : Int)) none = SX.S (bs.drop k) := by
  unfold cutS
  have e : (SX.S bs).length = bs.length := SX.S_len bs
  rw [e, HT.sIx_none, HT.sIx_nat]
  show (⟨((bs.drop (min k bs.length)).take (bs.length - min k bs.length)).toArray⟩ : Str) = _
  by_cases h : k ≤ bs.length
  · rw [Nat.min_eq_left h, List.take_of_length_le (by rw [List.length_drop]; exact Nat.le_refl _)]
  · rw [Nat.min_eq_right (by omega), List.drop_length, List.drop_of_length_le (by omega), List.take_nil]
/-- what the law's names are -/
structure NamesOk (ns : List Str) (n : Nat) : Prop where
  len : ns.length = n
  nd : ns.Nodup
  ok : ∀ z ∈ ns, NameOk z
theorem nameOk_S {l : List Nat} (h1 : 1 ≤ l.length) (h2 : l.length ≤ 6) (h : ∀ x ∈ l, x ∈ LET) : NameOk (SX.S l) := by
  refine ⟨?_, h⟩
  rw [SX.S_len]
  exact ⟨h1, h2⟩
theorem namesA {bs : List Nat} (hb : bs.length = 6) (hl : ∀ x ∈ bs, x ∈ LET) (first : Nat) {n : Nat} (hn : n ≤ 6) : NamesOk ((List.range n).map fun k => SX.S (bs.take (1 + (first + k) % 6))) n := by
  refine ⟨by rw [List.length_map, List.length_range], map_nodup List.nodup_range fun i hi j hj e => ?_, fun z hz => ?_⟩
  · have q := congrArg List.length (SX.S_inj e)
    rw [List.length_take, List.length_take, hb] at q
    have := List.mem_range.mp hi
    have := List.mem_range.mp hj
    omega
  · obtain ⟨k, hk, rfl⟩ := List.mem_map.mp hz
    refine nameOk_S ?_ ?_ fun x hx => hl x (List.mem_of_mem_take hx)
    · rw [List.length_take, hb]
      omega
    · rw [List.length_take, hb]
      omega
def nmB (bs : List Nat) (at_ first st e : Nat) (k : Nat) : Str := SX.S (bs.take at_ ++ [LET.getD ((first + st * k) % 26) 0] ++ bs.drop at_ ++ (if k % 2 = 0 then [] else [e]))
theorem namesB {bs : List Nat} {at_ first st e : Nat} (hb : bs.length ≤ 4) (hl : ∀ x ∈ bs, x ∈ LET) (he : e ∈ LET) (hs : st = 3 ∨ st = 7 ∨ st = 25) {n : Nat} (hn : n ≤ 14) : NamesOk ((List.range n).map (nmB bs at_ first st e)) n := by
  refine ⟨by rw [List.length_map, List.length_range], map_nodup List.nodup_range fun i hi j hj q => ?_, fun z hz => ?_⟩
  · have hi := List.mem_range.mp hi
    have hj := List.mem_range.mp hj
    have q := SX.S_inj q
    have q2 := congrArg (fun l : List Nat => l[(bs.take at_).length]?) q
    simp only [List.append_assoc, List.getElem?_append_right (Nat.le_refl _), Nat.sub_self] at q2
    have q3 : LET.getD ((first + st * i) % 26) 0 = LET.getD ((first + st * j) % 26) 0 := by simpa using q2
    obtain ⟨c1, h1, _⟩ := LET_at (r := (first + st * i) % 26) (by omega)
    obtain ⟨c2, h2, _⟩ := LET_at (r := (first + st * j) % 26) (by omega)
    rw [List.getD_eq_getElem?_getD, List.getD_eq_getElem?_getD, h1, h2] at q3
    have q3 : c1 = c2 := q3
    rw [q3] at h1
    have q4 := LET_inj h1 h2
    rcases hs with rfl | rfl | rfl <;> omega
  · obtain ⟨k, hk, rfl⟩ := List.mem_map.mp hz
    have ht : (bs.take at_ ++ bs.drop at_).length = bs.length := by rw [List.take_append_drop]
    rw [List.length_append] at ht
    obtain ⟨c1, h1, h2⟩ := LET_at (r := (first + st * k) % 26) (by omega)
    have g : LET.getD ((first + st * k) % 26) 0 = c1 := by rw [List.getD_eq_getElem?_getD, h1]; rfl
    unfold nmB
    rw [g]
    have le : (if k % 2 = 0 then ([] : List Nat) else [e]).length ≤ 1 := by
      split
      · exact Nat.zero_le _
      · exact Nat.le_refl _
    refine nameOk_S ?_ ?_ fun x hx => ?_
    · rw [List.length_append, List.length_append, List.length_append, List.length_singleton]
      omega
    · rw [List.length_append, List.length_append, List.length_append, List.length_singleton]
      omega
    · rcases List.mem_append.mp hx with hx | hx
      · rcases List.mem_append.mp hx with hx | hx
        · rcases List.mem_append.mp hx with hx | hx
          · exact hl x (List.mem_of_mem_take hx)
          · rw [List.mem_singleton.mp hx]
            exact h2
        · exact hl x (List.mem_of_mem_drop hx)
      · split at hx
        · cases hx
        · rw [List.mem_singleton.mp hx]
          exact he
end K27

namespace K27
open PySem PySem.Spec PyProof.Rows L2 KM
section
variable {P : Program} {w : World} {K : PySem.W.Frag} {mg : Str → Option Value} {base : Heap}
theorem SelI.done' {α : Type} {G H : Hp} {D : Addr} {xs : List α} {p : α → Bool} {f : α → V} {n : Nat} (h : n = xs.length) (I : SelI G D xs p f n H) : H D = some (.lst ((xs.filter p).map f)) := by
  subst h
  exact I.done
def spLNames : Sp := fun vs H Q _ => ∃ (b : Addr) (n c : Nat), vs = [.ref b, .int (n : Int)] ∧ n ≤ 14 ∧ BoxAt H b c ∧ c ≤ 100000 ∧ ∀ H' p ns, Same (off H b) H' → H p = none → BoxAt H' b (c + 30) → H' p = some (.lst (nv ns)) → NamesOk ns n → Q (.ref p) H'
theorem ok_L_names (T : Tx K mg) (F1 : Fok P w K mg base CX0 1 (He.ga K "_law_take") ["_law_box_here", "_law_many"] spLTake) : Fok P w K mg base CX0 2 (He.ga K "_law_names") ["_law_box_here", "_law_many"] spLNames := by
  obtain ⟨fd, F⟩ := T.f_L_names
  obtain ⟨_, G_L_take, b_L_take, k_L_take⟩ := F1
  refine ⟨fd, F.ok scL_names (fun vs H Q E h => ?_) (fun cdv A outer s H vs Q E hr h => ?_), b_L_names F, F.kp⟩
  · obtain ⟨b, n, c, rfl, _⟩ := h
    rfl
  · obtain ⟨b, n, c, rfl, hn, hB, hc, k⟩ := h
    have l26 : ("abcdefghijklmnopqrstuvwxyz" : Str).length ≤ sizeLine := by decide +kernel
    refine ⟨_, PSs.nox (pss_cons (ps_set (i := 2) scL_names.nd rfl (Or.inr rfl) pe_str)
    (pss_cons (ps_join (ps_if (PW.pt (pw_and (pt_cmpR op_lt (pv 1) pe_int (nomark _)) (pw_and1 (pt_cmpR op_eq (pe_call G_L_take (hr.mono (by decide)) rfl T.g_L_take k_L_take b_L_take .nil pass0 (pa_cons (pv 0) (pa_cons pe_int pa_nil))) pe_int (nomark _))))) (pss_cons (ps_set (i := 3) scL_names.nd rfl (Or.inr rfl) (pe_join pe_str (pe_lc (own := [("_law_k", 4)]) rfl scL_names.nd (pi_range1 rfl T.z_range (pa_cons pe_int pa_nil)) (blkOk_by (own := [("_law_k", 4)]) (N := NL_names) (sc := defScope sL_names) (by decide +kernel)) (fun _ _ _ _ _ => (pg_name (i := 4) scL_names.nd rfl (Or.inl rfl))) (fun _ _ _ _ _ => pts_nil) (fun _ _ _ _ _ => (pe_ix ix_str (pv 2) (pe_call G_L_take (hr.mono (by decide)) rfl T.g_L_take k_L_take b_L_take .nil pass0 (pa_cons (pv 0) (pa_cons pe_int pa_nil))) (fun _ _ => rfl))))))
    (pss_cons (ps_set (i := 5) scL_names.nd rfl (Or.inr rfl) (pe_call G_L_take (hr.mono (by decide)) rfl T.g_L_take k_L_take b_L_take .nil pass0 (pa_cons (pv 0) (pa_cons pe_int pa_nil))))
    (pss_one (ps_ret (pe_lc (own := [("_law_k", 4)]) rfl scL_names.nd (pi_range1 rfl T.z_range (pa_cons (pv 1) pa_nil)) (blkOk_by (own := [("_law_k", 4)]) (N := NL_names) (sc := defScope sL_names) (by decide +kernel)) (fun _ _ _ _ _ => (pg_name (i := 4) scL_names.nd rfl (Or.inl rfl))) (fun _ _ _ _ _ => pts_nil) (fun _ _ _ _ _ => (pe_slice sl_str (pv 3) po_none (po_some (pe_op op_add pe_int (pe_op op_mod (pe_op op_add (pv 5) (pv 4)) pe_int)))))))))) pss_nil))
    (pss_cons (ps_set (i := 6) scL_names.nd rfl (Or.inl rfl) (pe_call G_L_take (hr.mono (by decide)) rfl T.g_L_take k_L_take b_L_take .nil pass0 (pa_cons (pv 0) (pa_cons pe_int pa_nil))))
    (pss_cons (ps_set (i := 3) scL_names.nd rfl (Or.inr rfl) (pe_join pe_str (pe_lc (own := [("_law_k", 4)]) rfl scL_names.nd (pi_range1 rfl T.z_range (pa_cons (pv 6) pa_nil)) (blkOk_by (own := [("_law_k", 4)]) (N := NL_names) (sc := defScope sL_names) (by decide +kernel)) (fun _ _ _ _ _ => (pg_name (i := 4) scL_names.nd rfl (Or.inl rfl))) (fun _ _ _ _ _ => pts_nil) (fun _ _ _ _ _ => (pe_ix ix_str (pv 2) (pe_call G_L_take (hr.mono (by decide)) rfl T.g_L_take k_L_take b_L_take .nil pass0 (pa_cons (pv 0) (pa_cons pe_int pa_nil))) (fun _ _ => rfl))))))
    (pss_cons (ps_set (i := 7) scL_names.nd rfl (Or.inl rfl) (pe_call G_L_take (hr.mono (by decide)) rfl T.g_L_take k_L_take b_L_take .nil pass0 (pa_cons (pv 0) (pa_cons (pe_op op_add (pe_callB call_len_str (by rfl) T.z_len (by decide +kernel) (pa_cons (pv 3) pa_nil)) pe_int) pa_nil))))
    (pss_cons (ps_set (i := 5) scL_names.nd rfl (Or.inr rfl) (pe_call G_L_take (hr.mono (by decide)) rfl T.g_L_take k_L_take b_L_take .nil pass0 (pa_cons (pv 0) (pa_cons pe_int pa_nil))))
    (pss_cons (ps_set (i := 8) scL_names.nd rfl (Or.inl rfl) (pe_ix ix_list (pe_lst (pa_cons pe_int (pa_cons pe_int (pa_cons pe_int pa_nil)))) (pe_call G_L_take (hr.mono (by decide)) rfl T.g_L_take k_L_take b_L_take .nil pass0 (pa_cons (pv 0) (pa_cons pe_int pa_nil))) (fun _ _ => rfl)))
    (pss_cons (ps_set (i := 9) scL_names.nd rfl (Or.inl rfl) (pe_ix ix_str (pv 2) (pe_call G_L_take (hr.mono (by decide)) rfl T.g_L_take k_L_take b_L_take .nil pass0 (pa_cons (pv 0) (pa_cons pe_int pa_nil))) (fun _ _ => rfl)))
    (pss_cons (ps_set (i := 10) scL_names.nd rfl (Or.inl rfl) (pe_lst pa_nil))
    (pss_cons (ps_for PassesOwn.never rfl (pi_range1 rfl T.z_range (pa_cons (pv 1) pa_nil)) (pg_name (i := 4) scL_names.nd rfl (Or.inl rfl)) (pss_cons (ps_set (i := 11) scL_names.nd rfl (Or.inl rfl) (pe_ix ix_str (pv 2) (pe_op op_mod (pe_op op_add (pv 5) (pe_op op_mul (pv 8) (pv 4))) pe_int) (fun _ _ => rfl)))
    (pss_one (ps_expr (pe_bm PySem.F.plainAttrs_list PySem.F.slot_list_append PySem.F.type_list_append mt_append (pv 10) (pa_cons (pe_op op_add_str (pe_op op_add_str (pe_op op_add_str (pe_slice sl_str (pv 3) po_none (po_some (pv 7))) (pv 11)) (pe_slice sl_str (pv 3) (po_some (pv 7)) po_none)) (pe_ix ix_list (pe_lst (pa_cons pe_str (pa_cons (pv 9) pa_nil))) (pe_op op_mod (pv 4) pe_int) (fun _ _ => rfl))) pa_nil))))))
    (pss_one (ps_ret (pv 10))))))))))))), ?_⟩
    refine ⟨fun σ H' => σ = [some (.ref b), some (.int (n : Int)), some (.str "abcdefghijklmnopqrstuvwxyz"), none, none, none, none, none, none, none, none, none] ∧ Same (off H b) H' ∧ BoxAt H' b (c + 1), ?_, ?_⟩
    · refine ⟨_, rfl, _, _, rfl, rfl, _, rfl, ?_⟩
      by_cases h7 : (n : Int) < 7
      · refine ifT (decide_eq_true h7) ⟨_, rfl, b, 4, c, rfl, by decide, by decide, hB, by omega, fun H1 r hr4 s1 hB1 => ⟨rfl, _, rfl, ?_⟩⟩
        by_cases h0 : r = 0
        · refine ifT (decide_eq_true (by rw [h0]; rfl)) ?_
          -- the six letters
          refine ⟨⟨_, rfl⟩, 6, rfl, by decide, by decide, fun D nD => ?_⟩
          refine lc_range (lo := 0) (n := 6) (fun i H' => CI (off H1 b) D b (c + 1) i H') (CI.nil hB1 nD) ?_ ?_
          · intro i H2 hi I
            refine ⟨rfl, _, rfl, _, rfl, b, 26, c + 1 + i, rfl, by decide, by decide, I.box, by omega, fun H3 r hr26 s3 hB3 => ?_⟩
            obtain ⟨x, hx, hxm⟩ := LET_at (r := r) (by omega)
            exact ⟨_, _, x, rfl, rfl, l26, atI_nat hx, I.step s3 hB3 hxm (by omega)⟩
          · intro H2 I
            obtain ⟨ys, hD, hlen, hys⟩ := I.ex
            obtain ⟨f1, f2⟩ := flat_one hys
            refine ⟨_, D, ys.map SX.S, rfl, rfl, .inl (SqL.of hD), ?_, ?_⟩
            · have q : ((ys.map SX.S).map (·.length)).sum ≤ 6 := by
                have : ∀ zs : List (List Nat), (∀ l ∈ zs, ∃ x ∈ LET, l = [x]) → ((zs.map SX.S).map (·.length)).sum = zs.length := by
                  intro zs hz
                  induction zs with
                  | nil => rfl
                  | cons l r ih =>
                    obtain ⟨x, _, rfl⟩ := hz l List.mem_cons_self
                    rw [List.map_cons, List.map_cons, List.sum_cons, ih fun y hy => hz y (List.mem_cons_of_mem _ hy), List.length_cons]
                    show 1 + r.length = r.length + 1
                    omega
                rw [this ys hys, hlen]
                exact Nat.le_refl _
              show _ + _ * 0 ≤ _
              omega
            have ej : Txt.join (Str.ofString "") (ys.map SX.S) = SX.S ys.flatten := by
              have := SX.join_S [] ys
              rw [joinL_nil] at this
              exact this
            rw [ej]
            obtain ⟨bs, hbs⟩ : ∃ bs, bs = ys.flatten := ⟨_, rfl⟩
            rw [← hbs] at f1 f2 ⊢
            rw [hlen] at f1
            refine ⟨_, rfl, b, 6, c + 1 + 6, rfl, by decide, by decide, I.box, by omega, fun H3 first hf s3 hB3 => ?_⟩
            -- the names
            refine ⟨_, rfl, (n : Int), rfl, by omega, by omega, fun p np => ?_⟩
            have sH3 : Same (off H b) H3 := (same_to s1 off_same).trans (same_to I.same off_same |>.trans s3)
            rw [Int.toNat_natCast]
            refine lc_range (lo := 0) (n := n) (fun i H' => SelI H3 p (List.range n) (fun _ => true) (fun k => .str (SX.S (bs.take (1 + (first + k) % 6)))) i H') (SelI.nil (Same.refl _) np) ?_ ?_
            · intro i H4 hi J
              have er : (List.range n)[i]? = some i := by rw [List.getElem?_range hi]
              have ee : (1 : Int) + ((first : Int) + (0 + (i : Int))) % 6 = ((1 + (first + i) % 6 : Nat) : Int) := by omega
              refine ⟨rfl, _, rfl, _, rfl, _, rfl, _, _, rfl, rfl, _, _, rfl, rfl, (by show (0 : Int) < 6; decide), _, _, rfl, rfl, _, rfl, _, rfl, ?_, ?_⟩
              · rw [SX.S_len, f1]
                decide
              · refine J.yes er (Same.refl _) rfl ?_ (by rw [List.length_range]; omega)
                show V.str (cutS (SX.S bs) none (some ((1 : Int) + ((first : Int) + (0 + (i : Int))) % 6))) = _
                rw [ee, cutS_to]
            · intro H4 J
              have hl : (List.range n).length = n := List.length_range
              have q := SelI.done' hl.symm J
              refine k H4 p _ (sH3.trans J.same) ?_ ((hB3.mono (by omega)).same J.same) ?_ (namesA f1 f2 first (by omega))
              · have := sH3.free np
                by_cases e : p = b
                · exfalso
                  obtain ⟨x, y, z, hb3, _⟩ := hB3
                  rw [e, hb3] at np
                  cases np
                · rw [off_ne e] at this
                  exact this
              · rw [q, List.filter_eq_self.mpr (fun _ _ => rfl)]
                unfold nv
                rw [List.map_map]
                rfl
        · refine ifF (decide_eq_false (fun q => h0 (Int.natCast_inj.mp (V.int.inj q)))) ?_
          exact ⟨rfl, s1, hB1⟩
      · refine ifF (decide_eq_false h7) (ifF rfl ?_)
        exact ⟨rfl, same_off, hB.mono (by omega)⟩
    · rintro σ H1 ⟨rfl, s1, hB1⟩
      refine ⟨_, rfl, b, 5, c + 1, rfl, by decide, by decide, hB1, by omega, fun H2 long hlong s2 hB2 => ?_⟩
      have sH2 : Same (off H b) H2 := (same_to s1 off_same).trans s2
      refine ⟨⟨_, rfl⟩, _, rfl, (long : Int), rfl, by omega, by omega, fun D nD => ?_⟩
      rw [Int.toNat_natCast]
      refine lc_range (lo := 0) (n := long) (fun i H' => CI (off H2 b) D b (c + 2) i H') (CI.nil hB2 nD) ?_ ?_
      · intro i H3 hi I
        refine ⟨rfl, _, rfl, _, rfl, b, 26, c + 2 + i, rfl, by decide, by decide, I.box, by omega, fun H4 r hr26 s3 hB3 => ?_⟩
        obtain ⟨x, hx, hxm⟩ := LET_at (r := r) (by omega)
        exact ⟨_, _, x, rfl, rfl, l26, atI_nat hx, I.step s3 hB3 hxm (by omega)⟩
      · intro H3 I
        obtain ⟨ys, hD, hlen, hys⟩ := I.ex
        obtain ⟨f1, f2⟩ := flat_one hys
        refine ⟨_, D, ys.map SX.S, rfl, rfl, .inl (SqL.of hD), ?_, ?_⟩
        · have q : ((ys.map SX.S).map (·.length)).sum ≤ 6 := by
            have : ∀ zs : List (List Nat), (∀ l ∈ zs, ∃ x ∈ LET, l = [x]) → ((zs.map SX.S).map (·.length)).sum = zs.length := by
              intro zs hz
              induction zs with
              | nil => rfl
              | cons l r ih =>
                obtain ⟨x, _, rfl⟩ := hz l List.mem_cons_self
                rw [List.map_cons, List.map_cons, List.sum_cons, ih fun y hy => hz y (List.mem_cons_of_mem _ hy), List.length_cons]
                show 1 + r.length = r.length + 1
                omega
            rw [this ys hys, hlen]
            omega
          show _ + _ * 0 ≤ _
          omega
        have ej : Txt.join (Str.ofString "") (ys.map SX.S) = SX.S ys.flatten := by
          have := SX.join_S [] ys
          rw [joinL_nil] at this
          exact this
        rw [ej]
        obtain ⟨bs, hbs⟩ : ∃ bs, bs = ys.flatten := ⟨_, rfl⟩
        rw [← hbs] at f1 f2 ⊢
        have hb4 : bs.length ≤ 4 := by omega
        have sH3 : Same (off H b) H3 := (same_to sH2 off_same).trans I.same
        have lbs : (SX.S bs).length = bs.length := SX.S_len bs
        have lbz : (SX.S bs).length ≤ sizeLine := by
          rw [lbs]
          exact Nat.le_trans hb4 (by decide)
        -- at_here
        refine ⟨_, rfl, _, rfl, SX.S bs, rfl, lbz, _, _, rfl, rfl, b, _, c + 2 + long, rfl, by omega, by rw [lbs]; omega, I.box, by omega, fun H4 ath hat s4 hB4 => ?_⟩
        have sH4 : Same (off H b) H4 := (same_to sH3 off_same).trans s4
        refine ⟨_, rfl, b, 26, c + 2 + long + 1, rfl, by decide, by decide, hB4, by omega, fun H5 first hf s5 hB5 => ?_⟩
        have sH5 : Same (off H b) H5 := (same_to sH4 off_same).trans s5
        -- step
        refine ⟨(by show 3 ≤ sizeLine; decide), fun q nq => ?_⟩
        have hB5q := hB5.same (same_new (o := .lst [.int 3, .int 7, .int 25]) (Same.refl H5) nq)
        have qb : q ≠ b := fun e => by
          obtain ⟨x, y, z, hb5, _⟩ := hB5
          rw [e, hb5] at nq
          cases nq
        refine ⟨_, rfl, b, 3, c + 2 + long + 2, rfl, by decide, by decide, hB5q, by omega, fun H6 r3 hr3 s6 hB6 => ?_⟩
        have sH6 : Same (off H b) H6 := (same_to (same_new sH5 nq) off_same).trans s6
        have hq6 : H6 q = some (.lst [.int 3, .int 7, .int 25]) := s6 _ _ (by rw [off_ne qb, upd_same])
        obtain ⟨st, hst, hst3⟩ : ∃ st : Nat, [V.int 3, V.int 7, V.int 25][r3]? = some (.int (st : Int)) ∧ (st = 3 ∨ st = 7 ∨ st = 25) := by
          have : r3 = 0 ∨ r3 = 1 ∨ r3 = 2 := by omega
          rcases this with rfl | rfl | rfl
          · exact ⟨3, rfl, .inl rfl⟩
          · exact ⟨7, rfl, .inr (.inl rfl)⟩
          · exact ⟨25, rfl, .inr (.inr rfl)⟩
        refine ⟨_, _, _, _, rfl, rfl, SqL.of hq6, atI_nat hst, ?_⟩
        -- end
        refine ⟨_, rfl, _, rfl, b, 26, c + 2 + long + 3, rfl, by decide, by decide, hB6, by omega, fun H7 r26 hr26 s7 hB7 => ?_⟩
        have sH7 : Same (off H b) H7 := (same_to sH6 off_same).trans s7
        obtain ⟨en, hen, henm⟩ := LET_at (r := r26) (by omega)
        refine ⟨_, _, en, rfl, rfl, l26, atI_nat hen, ?_⟩
        refine ⟨Nat.zero_le _, fun p np => ?_⟩
        have pb : p ≠ b := fun e => by
          obtain ⟨x, y, z, hb7, _⟩ := hB7
          rw [e, hb7] at np
          cases np
        have np0 : H p = none := by
          have := sH7.free np
          rw [off_ne pb] at this
          exact this
        refine ⟨_, rfl, (n : Int), rfl, by omega, by omega, ?_⟩
        rw [Int.toNat_natCast]
        refine for_range (lo := 0) (n := n) (fun i σ H' => ∃ v4 v11, σ = [some (.ref b), some (.int (n : Int)), some (.str "abcdefghijklmnopqrstuvwxyz"), some (.str (SX.S bs)), v4, some (.int (first : Int)), some (.int (long : Int)), some (.int (ath : Int)), some (.int (st : Int)), some (.str (SX.S [en])), some (.ref p), v11] ∧
          Same H7 H' ∧ H' p = some (.lst (nv ((List.range i).map (nmB bs ath first st en))))) ⟨none, none, rfl, same_new (Same.refl H7) np, upd_same⟩ ?_ ?_
        · rintro i σ H8 hi ⟨v4, v11, rfl, s8, hp8⟩
          rw [Int.zero_add]
          have cm : CMul (st : Int) (i : Int) := .inl ⟨by omega, by omega⟩
          obtain ⟨x, hx, hxm⟩ := LET_at (r := (first + st * i) % 26) (by omega)
          have ei : ((first : Int) + (st : Int) * (i : Int)) % 26 = (((first + st * i) % 26 : Nat) : Int) := by
            rw [Int.natCast_emod, Int.natCast_add, Int.natCast_mul]
            rfl
          refine ⟨_, rfl, _, rfl, _, rfl, _, rfl, _, _, rfl, rfl, cm, _, _, rfl, rfl, _, _, rfl, rfl, (by show (0 : Int) < 26; decide), _, _, x, rfl, rfl, l26, (by rw [ei]; exact atI_nat hx), ?_⟩
          refine ⟨_, rfl, .inl ⟨rfl, _, SqL.of hp8⟩, ?_⟩
          have z1 : ∀ l : List Nat, l.length ≤ 100 → (SX.S l).length ≤ sizeLine := fun l h => by
            rw [SX.S_len]
            exact Nat.le_trans h (by decide)
          have z2 : ∀ l m : List Nat, l.length + m.length ≤ 100 → (SX.S l).length + (SX.S m).length ≤ sizeLine := fun l m h => by
            rw [SX.S_len, SX.S_len]
            exact Nat.le_trans h (by decide)
          have t1 : (bs.take ath).length ≤ 4 := by rw [List.length_take]; omega
          have t2 : (bs.drop ath).length ≤ 4 := by rw [List.length_drop]; omega
          refine ⟨_, rfl, _, rfl, _, rfl, _, rfl, lbz, ?_⟩
          rw [cutS_to]
          refine ⟨_, rfl, _, _, rfl, rfl, z2 (bs.take ath) [x] (by show _ + 1 ≤ 100; omega), _, rfl, _, rfl, _, rfl, _, rfl, lbz, ?_⟩
          rw [cutS_from]
          have c1 : SX.S (bs.take ath) ++ (⟨#[x]⟩ : Str) = SX.S (bs.take ath ++ [x]) := SX.S_cat _ [x]
          rw [c1]
          refine ⟨_, _, rfl, rfl, z2 (bs.take ath ++ [x]) (bs.drop ath) (by rw [List.length_append]; show _ + 1 + _ ≤ 100; omega), _, rfl, (by show 2 ≤ sizeLine; decide), fun e ne => ?_⟩
          rw [SX.S_cat]
          have i2 : (i : Int) % 2 = ((i % 2 : Nat) : Int) := by omega
          obtain ⟨tl, htl, htle⟩ : ∃ tl : List Nat, [V.str (Str.ofString ""), V.str (SX.S [en])][i % 2]? = some (.str (SX.S tl)) ∧ tl = (if i % 2 = 0 then [] else [en]) := by
            by_cases q : i % 2 = 0
            · exact ⟨[], by rw [q]; rfl, by rw [if_pos q]⟩
            · have q1 : i % 2 = 1 := by omega
              exact ⟨[en], by rw [q1]; rfl, by rw [if_neg q]⟩
          have tl1 : tl.length ≤ 1 := by
            rw [htle]
            split
            · exact Nat.zero_le _
            · exact Nat.le_refl _
          refine ⟨_, rfl, _, _, rfl, rfl, (by show (0 : Int) < 2; decide), _, _, _, _, rfl, rfl, SqL.of upd_same, (by rw [i2]; exact atI_nat htl), _, _, rfl, rfl, z2 (bs.take ath ++ [x] ++ bs.drop ath) tl (by rw [List.length_append, List.length_append]; show _ + 1 + _ + _ ≤ 100; omega), ?_⟩
          rw [SX.S_cat]
          have nm : SX.S (bs.take ath ++ [x] ++ bs.drop ath ++ tl) = nmB bs ath first st en i := by
            unfold nmB
            rw [List.getD_eq_getElem?_getD, hx, htle]
            rfl
          rw [nm]
          have s9 := same_new (o := .lst [V.str (Str.ofString ""), V.str (SX.S [en])]) (Same.refl H8) ne
          have hp9 := s9 _ _ hp8
          refine ⟨p, _, _, rfl, rfl, hp9, ?_, _, _, rfl, ?_, ?_⟩
          · rw [nv_len, List.length_map, List.length_range]
            exact Nat.lt_of_le_of_lt (by omega : i ≤ 14) (by decide)
          · exact same_mut (s8.trans s9) np
          · rw [upd_same, nv_snoc, List.range_succ, List.map_append]
            rfl
        · rintro σ H8 ⟨v4, v11, rfl, s8, hp8⟩
          exact ⟨_, rfl, k H8 p _ (sH7.trans s8) np0 ((hB7.mono (by omega)).same s8) hp8 (namesB hb4 f2 henm hst3 hn)⟩
end
end K27

namespace K27
open PySem PySem.Spec PyProof.Rows L2 KM
structure TiesOk (ns : List Str) (es : List (Str × Str)) : Prop where
  mem : ∀ e ∈ es, e.1 ∈ ns ∧ e.2 ∈ ns ∧ e.1 ≠ e.2
  twice : es.Pairwise fun a b => a ≠ b ∧ a ≠ (b.2, b.1)
  le : es.length ≤ 30
theorem TiesOk.nil (ns : List Str) : TiesOk ns [] := ⟨fun _ h => (nomatch h), List.Pairwise.nil, Nat.zero_le _⟩
theorem TiesOk.more {ns : List Str} {es : List (Str × Str)} (h : TiesOk ns es) {a b : Str} (ha : a ∈ ns) (hb : b ∈ ns) (ne : a ≠ b) (n1 : (a, b) ∉ es) (n2 : (b, a) ∉ es) (l : es.length < 30) : TiesOk ns (es ++ [(a, b)]) := by
  refine ⟨fun e he => ?_, ?_, by rw [List.length_append]; exact l⟩
  · rcases List.mem_append.mp he with q | q
    · exact h.mem e q
    · rw [List.mem_singleton.mp q]
      exact ⟨ha, hb, ne⟩
  · rw [List.pairwise_append]
    refine ⟨h.twice, List.pairwise_singleton _ _, fun x hx y hy => ?_⟩
    rw [List.mem_singleton.mp hy]
    exact ⟨fun q => n1 (q ▸ hx), fun q => n2 (by rw [q] at hx; exact hx)⟩
theorem wb_of {ns : List Str} {n : Nat} {es : List (Str × Str)} (h : NamesOk ns n) (hn : n ≤ 14) (t : TiesOk ns es) : Wb ns es :=
  ⟨⟨h.nd, t.mem⟩, by rw [h.len]; exact hn, t.le, fun z hz => (h.ok z hz).1, fun z hz => (h.ok z hz).2, t.twice⟩
theorem GrowI.take {G H H' : Hp} {l b : Addr} {es : List (Str × Str)} {xs : List V} (I : GrowI G l (tD es) H) (gb : G b = none) (hb : H b = some (.lst xs)) (ne : l ≠ b) (s : Same (off H b) H') : GrowI G l (tD es) H' := by
  obtain ⟨ts, h, t⟩ := I.ex
  refine ⟨(same_to I.same gb).trans s, I.new, ts, s _ _ ((off_ne ne).trans h), ?_⟩
  have t2 := ties_off (H := off H l) (p := b) ((off_ne ne.symm).trans hb) t
  refine t2.same fun z o hz => ?_
  by_cases e1 : z = b
  · rw [e1, off_same] at hz
    cases hz
  · rw [off_ne e1] at hz
    by_cases e2 : z = l
    · rw [e2, off_same] at hz
      cases hz
    · rw [off_ne e2] at hz ⊢
      exact s _ _ ((off_ne e1).trans hz)
theorem BoxAt.lst {H : Hp} {b : Addr} {c : Nat} (h : BoxAt H b c) : ∃ xs, H b = some (.lst xs) := by
  obtain ⟨_, _, _, h, _⟩ := h
  exact ⟨_, h⟩
section
variable {P : Program} {w : World} {K : PySem.W.Frag} {mg : Str → Option Value} {base : Heap}
def spMore (K : PySem.W.Frag) : Sp := fun vs H Q _ => ∃ (G : Hp) (b n f l : Addr) (mixed : Bool) (ns fs : List Str) (es : List (Str × Str)) (c : Nat), vs = [.ref b, .ref n, .ref f, .bl mixed, .ref l] ∧ G b = none ∧ l ≠ b ∧ G n = some (.lst (nv ns)) ∧ G f = some (.lst (nv fs)) ∧ 1 < ns.length ∧ ns.length ≤ 14 ∧ (∀ z ∈ ns, sOk z) ∧
  BoxAt H b c ∧ c ≤ 100000 ∧ GrowI G l (tD es) H ∧ TiesOk ns es ∧ ∀ H' es', GrowI G l (tD es') H' → TiesOk ns es' → Q .non H'
theorem ok_L_more_ties (T : Tx K mg) (F1 : Fok P w K mg base CX0 1 (He.ga K "_law_take") ["_law_box_here", "_law_many"] spLTake) : Fok P w K mg base CX0 2 (He.ga K "_law_more_ties") ["_law_box_here", "_law_names_here", "_law_first", "_law_mixed", "_law_ties"] (spMore K) := by
  obtain ⟨fd, F⟩ := T.f_L_more_ties
  obtain ⟨_, G_L_take, b_L_take, k_L_take⟩ := F1
  refine ⟨fd, F.ok scL_more_ties (fun vs H Q E h => ?_) (fun cdv A outer s H vs Q E hr h => ?_), b_L_more_ties F, F.kp⟩
  · obtain ⟨G, b, n, f, l, mixed, ns, fs, es, c, rfl, _⟩ := h
    rfl
  · obtain ⟨G, b, n, f, l, mixed, ns, fs, es, c, rfl, gb, lb, hn, hf, n1, n14, nok, hB, hc, hI, hT, k⟩ := h
    have hu65 : (cxOf CX0 P w K mg base NL_more_ties "_law_more_ties" (defScope sL_more_ties) (He.ga K "_law_more_ties") cdv A outer s H E).nox.A.units + 65 < cLine := by
      have := hr.un
      show (A.deeper _).units + 65 < cLine
      omega
    refine ⟨_, PSs.nox (pss_one (ps_for PassesOwn.never rfl (pi_range1 rfl T.z_range (pa_cons (pe_ix ix_list (pe_lst (pa_cons pe_int (pa_cons pe_int (pa_cons pe_int (pa_cons pe_int pa_nil))))) (pe_call G_L_take (hr.mono (by decide)) rfl T.g_L_take k_L_take b_L_take .nil pass0 (pa_cons (pv 0) (pa_cons pe_int pa_nil))) (fun _ _ => rfl)) pa_nil)) (pg_name (i := 5) scL_more_ties.nd rfl (Or.inl rfl)) (pss_cons (ps_set (i := 6) scL_more_ties.nd rfl (Or.inr rfl) (pe_ix ix_list (pv 1) (pe_call G_L_take (hr.mono (by decide)) rfl T.g_L_take k_L_take b_L_take .nil pass0 (pa_cons (pv 0) (pa_cons (pe_callB call_len_seq (by rfl) T.z_len (by decide +kernel) (pa_cons (pv 1) pa_nil)) pa_nil))) (fun _ _ => rfl)))
    (pss_cons (ps_setLc (i := 7) (own := [("_law_name", 8)]) rfl scL_more_ties.nd rfl rfl (sw_true rfl rfl rfl (by decide +kernel)) (pi_list (pv 1)) (blkOk_by (own := [("_law_name", 8)]) (N := NL_more_ties) (sc := defScope sL_more_ties) (by decide +kernel)) (fun _ _ _ _ _ => (pg_name (i := 8) scL_more_ties.nd rfl (Or.inl rfl))) (fun _ _ _ _ _ => (pts_one (pt_cmpR op_ne (pe_cmpR (op_in_seqK (K := K) rfl) (pv 8) (pv 2) (by first | exact nomark _ | rfl)) (pe_cmpR (op_in_seqK (K := K) rfl) (pv 6) (pv 2) (by first | exact nomark _ | rfl)) (nomark _)))) (fun _ _ _ _ _ => (pv 8)))
    (pss_cons (ps_join (ps_if (PW.pt (pw_and (pt_val (pv 3)) (pw_and1 (pt_cmpR op_eq (pe_call G_L_take (hr.mono (by decide)) rfl T.g_L_take k_L_take b_L_take .nil pass0 (pa_cons (pv 0) (pa_cons pe_int pa_nil))) pe_int (nomark _))))) (pss_one (ps_setLc (i := 7) (own := [("_law_name", 8)]) rfl scL_more_ties.nd rfl rfl (sw_true rfl rfl rfl (by decide +kernel)) (pi_list (pv 1)) (blkOk_by (own := [("_law_name", 8)]) (N := NL_more_ties) (sc := defScope sL_more_ties) (by decide +kernel)) (fun _ _ _ _ _ => (pg_name (i := 8) scL_more_ties.nd rfl (Or.inl rfl))) (fun _ _ _ _ _ => (pts_one (pt_cmpR op_ne (pv 8) (pv 6) (nomark _)))) (fun _ _ _ _ _ => (pv 8)))) pss_nil))
    (pss_one (ps_if (pt_cmpR (op_neD hr.units) (pv 7) (pe_lst pa_nil) (nomark _)) (pss_cons (ps_set (i := 9) scL_more_ties.nd rfl (Or.inl rfl) (pe_ix ix_list (pv 7) (pe_call G_L_take (hr.mono (by decide)) rfl T.g_L_take k_L_take b_L_take .nil pass0 (pa_cons (pv 0) (pa_cons (pe_callB call_len_seq (by rfl) T.z_len (by decide +kernel) (pa_cons (pv 7) pa_nil)) pa_nil))) (fun _ _ => rfl)))
    (pss_one (ps_if (PW.pt (pw_and (pt_cmpR (op_notInD hu65) (pe_tup (pa_cons (pv 6) (pa_cons (pv 9) pa_nil))) (pv 4) (by first | exact nomark _ | rfl)) (pw_and (pt_cmpR (op_notInD hu65) (pe_tup (pa_cons (pv 9) (pa_cons (pv 6) pa_nil))) (pv 4) (by first | exact nomark _ | rfl)) (pw_and1 (pt_cmpR op_lt (pe_callB call_len_seq (by rfl) T.z_len (by decide +kernel) (pa_cons (pv 4) pa_nil)) pe_int (nomark _)))))) (pss_one (ps_expr (pe_bm PySem.F.plainAttrs_list PySem.F.slot_list_append PySem.F.type_list_append mt_append (pv 4) (pa_cons (pe_tup (pa_cons (pv 6) (pa_cons (pv 9) pa_nil))) pa_nil)))) pss_nil))) pss_nil))))))), ?_⟩
    refine ⟨(by show 4 ≤ sizeLine; decide), fun q nq => ?_⟩
    have sq := same_new (o := .lst [.int 1, .int 1, .int 2, .int 5]) (Same.refl H) nq
    obtain ⟨xsb, hbl⟩ := hB.lst
    have qb : q ≠ b := (ne_of_none hbl nq).symm
    refine ⟨_, rfl, b, 4, c, rfl, by decide, by decide, hB.same sq, by omega, fun H1 r hr4 s1 hB1 => ?_⟩
    have hq1 : H1 q = some (.lst [.int 1, .int 1, .int 2, .int 5]) := s1 _ _ (by rw [off_ne qb, upd_same])
    obtain ⟨m, hm, hm5⟩ : ∃ m : Nat, [V.int 1, V.int 1, V.int 2, V.int 5][r]? = some (.int (m : Int)) ∧ m ≤ 5 := by
      have : r = 0 ∨ r = 1 ∨ r = 2 ∨ r = 3 := by omega
      rcases this with rfl | rfl | rfl | rfl
      · exact ⟨1, rfl, by decide⟩
      · exact ⟨1, rfl, by decide⟩
      · exact ⟨2, rfl, by decide⟩
      · exact ⟨5, rfl, by decide⟩
    have I1 : GrowI G l (tD es) H1 := (hI.step sq).take gb (sq _ _ hbl) lb s1
    refine ⟨_, _, _, _, rfl, rfl, SqL.of hq1, atI_nat hm, (m : Int), rfl, by omega, by omega, ?_⟩
    rw [Int.toNat_natCast]
    refine for_range (lo := 0) (n := m) (fun i σ H' => ∃ v5 v6 v7 v8 v9, σ = [some (.ref b), some (.ref n), some (.ref f), some (.bl mixed), some (.ref l), v5, v6, v7, v8, v9] ∧ BoxAt H' b (c + 1 + 3 * i) ∧ ∃ es', GrowI G l (tD es') H' ∧ TiesOk ns es')
      ⟨none, none, none, none, none, rfl, hB1, es, I1, hT⟩ ?_ ?_
    · rintro i σ H2 hi ⟨v5, v6, v7, v8, v9, rfl, hB2, es2, I2, T2⟩
      rw [Int.zero_add]
      -- one
      refine ⟨_, rfl, _, rfl, _, rfl, n, _, rfl, .inl (SqL.of (I2.same _ _ hn)), b, _, _, rfl, (by rw [nv_len]; omega), (by rw [nv_len]; omega), hB2, by omega, fun H3 r1 hr1 s3 hB3 => ?_⟩
      rw [nv_len] at hr1
      obtain ⟨one, hone⟩ : ∃ one, ns[r1]? = some one := ⟨_, List.getElem?_eq_getElem (by omega)⟩
      have hon : one ∈ ns := List.mem_of_getElem? hone
      obtain ⟨xb2, hb2⟩ := hB2.lst
      have I3 := I2.take gb hb2 lb s3
      refine ⟨_, _, _, _, rfl, rfl, SqL.of (I3.same _ _ hn), atI_nat (nv_get hone), ?_⟩
      -- others
      refine ⟨_, rfl, n, rfl, ⟨_, SqL.of (I3.same _ _ hn)⟩, fun D nD => ?_⟩
      refine lc_list (K := K) (a := n) (xs := nv ns) (fun j H4 => SelI H3 D ns (fun z => decide (z ∈ fs) != decide (one ∈ fs)) V.str j H4) (SelI.nil (Same.refl _) nD) (fun j H4 _ J => SqL.of (J.same _ _ (I3.same _ _ hn))) ?_ ?_
      · intro j x H4 hj J
        obtain ⟨z, hz, rfl⟩ := nv_at hj
        have hf4 := J.same _ _ (I3.same _ _ hf)
        refine ⟨rfl, _, rfl, _, rfl, f, _, rfl, .inl (SqL.of hf4), rfl, nv_flat _, _, rfl, _, rfl, f, _, rfl, .inl (SqL.of hf4), rfl, nv_flat _, rfl, _, rfl, ?_⟩
        have e : (!decide (V.bl (inV (V.str z) (nv fs)) = V.bl (inV (V.str one) (nv fs)))) = (decide (z ∈ fs) != decide (one ∈ fs)) := by
          rw [ne_bl, inV_nv, inV_nv]
        cases e2 : decide (z ∈ fs) != decide (one ∈ fs) with
        | true => exact ifT (e.trans e2) ⟨_, rfl, J.yes hz (Same.refl H4) e2 rfl (by omega)⟩
        | false => exact ifF (e.trans e2) (J.no hz (Same.refl H4) e2)
      · intro H4 J
        rw [nv_len] at J
        have hD := J.done
        have I4 := I3.step J.same
        have hB4 := hB3.same J.same
        -- the mixed ones
        refine ⟨fun σ' H' => ∃ (q : Addr) (os : List Str) (v8 : Option V), σ' = [some (.ref b), some (.ref n), some (.ref f), some (.bl mixed), some (.ref l), some (.int (i : Int)), some (.str one), some (.ref q), v8, v9] ∧ H' q = some (.lst (nv os)) ∧ q ≠ b ∧ (∀ z ∈ os, z ∈ ns ∧ one ≠ z) ∧ os.length ≤ 14 ∧ BoxAt H' b (c + 1 + 3 * i + 2) ∧ GrowI G l (tD es2) H', ?_, ?_⟩
        · have Db : D ≠ b := by
            obtain ⟨xb3, hb3⟩ := hB3.lst
            exact (ne_of_none hb3 nD).symm
          have fin : ∀ H', H' D = some (.lst (nv (ns.filter fun z => decide (z ∈ fs) != decide (one ∈ fs)))) → BoxAt H' b (c + 1 + 3 * i + 2) → GrowI G l (tD es2) H' → ∃ (q : Addr) (os : List Str) (v8' : Option V), [some (V.ref b), some (V.ref n), some (V.ref f), some (V.bl mixed), some (V.ref l), some (V.int (i : Int)), some (V.str one), some (V.ref D), v8, v9] = [some (.ref b), some (.ref n), some (.ref f), some (.bl mixed), some (.ref l), some (.int (i : Int)), some (.str one), some (.ref q), v8', v9] ∧ H' q = some (.lst (nv os)) ∧ q ≠ b ∧ (∀ z ∈ os, z ∈ ns ∧ one ≠ z) ∧ os.length ≤ 14 ∧ BoxAt H' b (c + 1 + 3 * i + 2) ∧ GrowI G l (tD es2) H' := fun H' h1 h2 h3 => by
            refine ⟨D, _, v8, rfl, h1, Db, fun z hz => ?_, Nat.le_trans (List.length_filter_le _ _) n14, h2, h3⟩
            obtain ⟨q1, q2⟩ := List.mem_filter.mp hz
            refine ⟨q1, fun e => ?_⟩
            rw [← e] at q2
            have : (decide (one ∈ fs) != decide (one ∈ fs)) = false := by cases decide (one ∈ fs) <;> rfl
            rw [this] at q2
            cases q2
          refine ⟨_, rfl, _, rfl, ?_⟩
          cases hmx : mixed with
          | false =>
            refine ifF rfl (ifF rfl ?_)
            rw [hmx] at fin
            exact fin H4 hD (hB4.mono (by omega)) I4
          | true =>
            refine ifT rfl ?_
            refine ⟨_, rfl, b, 9, _, rfl, by decide, by decide, hB4, by omega, fun H5 r5 hr5 s5 hB5 => ⟨rfl, _, rfl, ?_⟩⟩
            obtain ⟨xb4, hb4⟩ := hB4.lst
            have I5 := I4.take gb hb4 lb s5
            have hD5 : H5 D = some (.lst (nv (ns.filter fun z => decide (z ∈ fs) != decide (one ∈ fs)))) := s5 _ _ ((off_ne Db).trans hD)
            by_cases h0 : r5 = 0
            · refine ifT (decide_eq_true (by rw [h0]; rfl)) ?_
              refine ⟨_, rfl, n, rfl, ⟨_, SqL.of (I5.same _ _ hn)⟩, fun D2 nD2 => ?_⟩
              refine lc_list (K := K) (a := n) (xs := nv ns) (fun j H6 => SelI H5 D2 ns (fun z => !decide (z = one)) V.str j H6) (SelI.nil (Same.refl _) nD2) (fun j H6 _ J => SqL.of (J.same _ _ (I5.same _ _ hn))) ?_ ?_
              · intro j x H6 hj J2
                obtain ⟨z, hz, rfl⟩ := nv_at hj
                refine ⟨rfl, _, rfl, _, rfl, rfl, _, rfl, ?_⟩
                have e : (!decide (V.str z = V.str one)) = !decide (z = one) := by
                  congr 1
                  exact decide_eq_decide.mpr ⟨fun h => V.str.inj h, fun h => by rw [h]⟩
                cases e2 : !decide (z = one) with
                | true => exact ifT (e.trans e2) ⟨_, rfl, J2.yes hz (Same.refl H6) e2 rfl (by omega)⟩
                | false => exact ifF (e.trans e2) (J2.no hz (Same.refl H6) e2)
              · intro H6 J2
                rw [nv_len] at J2
                have hD6 := J2.done
                obtain ⟨xb5, hb5⟩ := hB5.lst
                refine ⟨D2, _, v8, rfl, hD6, (ne_of_none hb5 nD2).symm, fun z hz => ?_, Nat.le_trans (List.length_filter_le _ _) n14, hB5.same J2.same, I5.step J2.same⟩
                obtain ⟨q1, q2⟩ := List.mem_filter.mp hz
                refine ⟨q1, fun e => ?_⟩
                rw [e, decide_eq_true rfl] at q2
                cases q2
            · refine ifF (decide_eq_false (fun q => h0 (Int.natCast_inj.mp (V.int.inj q)))) ?_
              rw [hmx] at fin
              exact fin H5 hD5 hB5 I5
        · rintro σ5 H5 ⟨q, os, v8', rfl, hq, qb', hos, los, hB5, I5⟩
          refine ⟨_, rfl, Nat.zero_le _, fun e0 ne0 => ?_⟩
          have s6 := same_new (o := .lst []) (Same.refl H5) ne0
          have hq6 := s6 _ _ hq
          have I6 := I5.step s6
          have hB6 := hB5.same s6
          refine ⟨.list (K27.nD os), .list [], .lst (SqL.of hq6) (Dqs.dp _ _ (Dqs.nv (H := upd H5 e0 (.lst [])) _) (canN fun y hy => nok y (hos y hy).1)), .lst (SqL.of upd_same) .nil, shN (fun y hy => nok y (hos y hy).1), shape_nil, _, rfl, ?_⟩
          rw [eqv_nil]
          obtain ⟨H6, e6⟩ : ∃ H6, H6 = upd H5 e0 (.lst []) := ⟨_, rfl⟩
          rw [← e6] at hq6 I6 hB6 ⊢
          cases hoc : os with
          | nil =>
            refine ifF rfl ?_
            exact ⟨_, _, _, _, _, rfl, hB6.mono (by omega), es2, I6, T2⟩
          | cons o1 or =>
            refine ifT rfl ?_
            have lpos : 0 < os.length := by rw [hoc]; exact Nat.succ_pos _
            refine ⟨_, rfl, _, rfl, _, rfl, q, _, rfl, .inl (SqL.of hq6), b, _, _, rfl, (by rw [nv_len]; omega), (by rw [nv_len]; omega), hB6, by omega, fun H7 r7 hr7 s7 hB7 => ?_⟩
            rw [nv_len] at hr7
            obtain ⟨other, hoth⟩ : ∃ other, os[r7]? = some other := ⟨_, List.getElem?_eq_getElem (by omega)⟩
            obtain ⟨hotn, hne⟩ := hos other (List.mem_of_getElem? hoth)
            obtain ⟨xb6, hb6⟩ := hB6.lst
            have I7 := I6.take gb hb6 lb s7
            have hq7 := s7 _ _ ((off_ne qb').trans hq6)
            refine ⟨_, _, _, _, rfl, rfl, SqL.of hq7, atI_nat (nv_get hoth), ?_⟩
            have hB7' : BoxAt H7 b (c + 1 + 3 * (i + 1)) := hB7.mono (by omega)
            -- not there yet
            have eo : EOk es2 := fun e he => ⟨nok _ (T2.mem e he).1, nok _ (T2.mem e he).2.1⟩
            have o1' := nok one hon
            have o2' := nok other hotn
            refine ⟨_, rfl, _, rfl, (by show 2 ≤ sizeLine; decide), fun t1 nt1 => ?_⟩
            have I8 := I7.step (same_new (o := .tup [.str one, .str other]) (Same.refl H7) nt1)
            have hB8 := hB7'.same (same_new (o := .tup [.str one, .str other]) (Same.refl H7) nt1)
            refine ⟨_, rfl, tieD (one, other), tD es2, Dq.dp _ _ (.tie (e := (one, other)) upd_same) (can1 ⟨o1', o2'⟩), Dq.dp _ _ I8.done (by rw [PyData.canLay0]; exact canT eo), sh1 ⟨o1', o2'⟩, shT eo, _, rfl, ?_⟩
            rw [any_tie]
            cases d1 : decide ((one, other) ∈ es2) with
            | true =>
              refine ifF rfl (ifF rfl ?_)
              exact ⟨_, _, _, _, _, rfl, hB8, es2, I8, T2⟩
            | false =>
              refine ifT rfl ?_
              refine ⟨_, rfl, _, rfl, (by show 2 ≤ sizeLine; decide), fun t2 nt2 => ?_⟩
              have I9 := I8.step (same_new (o := .tup [.str other, .str one]) (Same.refl _) nt2)
              have hB9 := hB8.same (same_new (o := .tup [.str other, .str one]) (Same.refl _) nt2)
              refine ⟨_, rfl, tieD (other, one), tD es2, Dq.dp _ _ (.tie (e := (other, one)) upd_same) (can1 ⟨o2', o1'⟩), Dq.dp _ _ I9.done (by rw [PyData.canLay0]; exact canT eo), sh1 ⟨o2', o1'⟩, shT eo, _, rfl, ?_⟩
              rw [any_tie]
              cases d2 : decide ((other, one) ∈ es2) with
              | true =>
                refine ifF rfl (ifF rfl ?_)
                exact ⟨_, _, _, _, _, rfl, hB9, es2, I9, T2⟩
              | false =>
                refine ifT rfl ?_
                obtain ⟨ts, hts, htl⟩ := I9.len
                have htl : ts.length = es2.length := by
                  rw [htl]
                  unfold tD
                  rw [List.length_map]
                refine ⟨_, rfl, l, _, rfl, .inl (SqL.of hts), _, _, rfl, rfl, _, rfl, ?_⟩
                by_cases l30 : es2.length < 30
                · refine ifT (decide_eq_true (by rw [htl]; omega)) ?_
                  refine ⟨_, rfl, .inl ⟨rfl, _, SqL.of hts⟩, _, rfl, _, rfl, (by show 2 ≤ sizeLine; decide), fun t3 nt3 => ?_⟩
                  obtain ⟨acc, g2, g3, I10⟩ := I9.push (same_new (o := .tup [.str one, .str other]) (Same.refl _) nt3) (.tie (e := (one, other)) (off_new nt3 hts)) (by unfold tD; rw [List.length_map]; omega)
                  refine ⟨l, _, _, rfl, rfl, g2, g3, _, _, _, _, _, rfl, ?_, es2 ++ [(one, other)], ?_, T2.more hon hotn hne (of_decide_eq_false d1) (of_decide_eq_false d2) l30⟩
                  · obtain ⟨x, y, z, h, r⟩ := hB9.same (same_new (o := .tup [.str one, .str other]) (Same.refl _) nt3)
                    exact ⟨x, y, z, by rw [upd_ne lb.symm]; exact h, r⟩
                  · unfold tD at I10 ⊢
                    rw [List.map_append]
                    exact I10
                · refine ifF (decide_eq_false (by rw [htl]; omega)) ?_
                  exact ⟨_, _, _, _, _, rfl, hB9, es2, I9, T2⟩
    · rintro σ H2 ⟨v5, v6, v7, v8, v9, rfl, hB2, es2, I2, T2⟩
      exact k H2 es2 I2 T2
end
end K27

namespace K27
open PySem PySem.Spec PyProof.Rows L2 KM
theorem nameOk_sOk {z : Str} (h : NameOk z) : sOk z := by
  unfold sOk
  rw [PyData.canLay0]
  unfold PyData.strOk
  rw [← Array.all_toList]
  refine List.all_eq_true.mpr fun c hc => decide_eq_true ?_
  have all : ∀ c ∈ ("abcdefghijklmnopqrstuvwxyz" : Str).cps.toList, c < 0x110000 := by decide +kernel
  exact all c (h.2 c hc)
theorem cut_ints (cells : List Int) (lo hi : Option Int) : ∃ cs : List Int, cutV (cells.map V.int) lo hi = cs.map V.int := by
  unfold cutV
  exact ⟨_, by rw [← List.map_drop, ← List.map_take]⟩
theorem cut_few (xs : List V) : (cutV xs (some 1) (some 61)).length ≤ 61 := by
  unfold cutV
  have e1 : HT.sIx xs.length xs.length (some 61) = min 61 xs.length := HT.sIx_nat _ _ 61
  rw [List.length_take, e1]
  omega
section
variable {P : Program} {w : World} {K : PySem.W.Frag} {mg : Str → Option Value} {base : Heap}
def spLSided (K : PySem.W.Frag) : Sp := fun vs H Q _ => ∃ (a : Addr) (cells : List Int), vs = [.ref a, .int 14] ∧ SqL K H a (cells.map V.int) ∧ ∀ H' t p q ns es, Same H H' → H' t = some (.tup [.ref p, .ref q]) → H' p = some (.lst (nv ns)) → Dq H' (.ref q) (.list (tD es)) → Wb ns es → Q (.ref t) H'
theorem ok_L_sided (T : Tx K mg) (F1 : Fok P w K mg base CX0 1 (He.ga K "_law_take") ["_law_box_here", "_law_many"] spLTake) (F2 : Fok P w K mg base CX0 1 (He.ga K "_law_at") ["_law_script", "_law_k"] (spLAt K)) (F3 : Fok P w K mg base CX0 1 (He.ga K "_law_box") ["_law_cell"] spLBox)
    (F4 : Fok P w K mg base CX0 2 (He.ga K "_law_names") ["_law_box_here", "_law_many"] spLNames) (F5 : Fok P w K mg base CX0 2 (He.ga K "_law_more_ties") ["_law_box_here", "_law_names_here", "_law_first", "_law_mixed", "_law_ties"] (spMore K)) :
    Fok P w K mg base CX0 3 (He.ga K "_law_sided") ["_law_script", "_law_most"] (spLSided K) := by
  obtain ⟨fd, F⟩ := T.f_L_sided
  obtain ⟨_, G_L_take, b_L_take, k_L_take⟩ := F1
  obtain ⟨_, G_L_at, b_L_at, k_L_at⟩ := F2
  obtain ⟨_, G_L_box, b_L_box, k_L_box⟩ := F3
  obtain ⟨_, G_L_names, b_L_names, k_L_names⟩ := F4
  obtain ⟨_, G_L_more_ties, b_L_more_ties, k_L_more_ties⟩ := F5
  refine ⟨fd, F.ok scL_sided (fun vs H Q E h => ?_) (fun cdv A outer s H vs Q E hr h => ?_), b_L_sided F, F.kp⟩
  · obtain ⟨a, cells, rfl, _⟩ := h
    rfl
  · obtain ⟨a, cells, rfl, hS, k⟩ := h
    refine ⟨_, PSs.nox (pss_cons (ps_set (i := 2) scL_sided.nd rfl (Or.inr rfl) (pe_call G_L_box (hr.mono (by decide)) rfl T.g_L_box k_L_box b_L_box .nil pass0 (pa_cons (pe_call G_L_at (hr.mono (by decide)) rfl T.g_L_at k_L_at b_L_at .nil pass0 (pa_cons (pv 0) (pa_cons pe_int pa_nil))) pa_nil)))
    (pss_cons (ps_set (i := 3) scL_sided.nd rfl (Or.inl rfl) (pe_call G_L_names (hr.mono (by decide)) rfl T.g_L_names k_L_names b_L_names .nil pass0 (pa_cons (pv 2) (pa_cons (pe_call G_L_take (hr.mono (by decide)) rfl T.g_L_take k_L_take b_L_take .nil pass0 (pa_cons (pv 2) (pa_cons (pe_ix ix_list (pe_lst (pa_cons pe_int (pa_cons pe_int (pa_cons pe_int (pa_cons pe_int (pa_cons (pe_op op_add (pv 1) pe_int) pa_nil)))))) (pe_call G_L_take (hr.mono (by decide)) rfl T.g_L_take k_L_take b_L_take .nil pass0 (pa_cons (pv 2) (pa_cons pe_int pa_nil))) (fun _ _ => rfl)) pa_nil))) pa_nil))))
    (pss_cons (ps_set (i := 4) scL_sided.nd rfl (Or.inl rfl) (pe_cmpR op_eq (pe_call G_L_take (hr.mono (by decide)) rfl T.g_L_take k_L_take b_L_take .nil pass0 (pa_cons (pv 2) (pa_cons pe_int pa_nil))) pe_int (nomark _)))
    (pss_cons (ps_setLc (i := 5) (own := [("_law_name", 6)]) rfl scL_sided.nd rfl rfl (sw_true rfl rfl rfl (by decide +kernel)) (pi_list (pv 3)) (blkOk_by (own := [("_law_name", 6)]) (N := NL_sided) (sc := defScope sL_sided) (by decide +kernel)) (fun _ _ _ _ _ => (pg_name (i := 6) scL_sided.nd rfl (Or.inl rfl))) (fun _ _ _ _ _ => (pts_one (pt_cmpR op_eq (pe_call G_L_take (hr.mono (by decide)) rfl T.g_L_take k_L_take b_L_take .nil pass0 (pa_cons (pv 2) (pa_cons pe_int pa_nil))) pe_int (nomark _)))) (fun _ _ _ _ _ => (pv 6)))
    (pss_cons (ps_set (i := 7) scL_sided.nd rfl (Or.inl rfl) (pe_lst pa_nil))
    (pss_cons (ps_for PassesOwn.never rfl (pi_list (pe_op op_cat (pe_slice sl_list (pv 0) (po_some pe_int) (po_some pe_int)) (pe_lst (pa_cons (pe_call G_L_at (hr.mono (by decide)) rfl T.g_L_at k_L_at b_L_at .nil pass0 (pa_cons (pv 0) (pa_cons pe_int pa_nil))) (pa_cons (pe_call G_L_at (hr.mono (by decide)) rfl T.g_L_at k_L_at b_L_at .nil pass0 (pa_cons (pv 0) (pa_cons pe_int pa_nil))) pa_nil))))) (pg_name (i := 8) scL_sided.nd rfl (Or.inl rfl)) (pss_one (ps_if (pt_cmpR op_gt (pe_callB call_len_seq (by rfl) T.z_len (by decide +kernel) (pa_cons (pv 3) pa_nil)) pe_int (nomark _)) (pss_one (ps_expr (pe_call G_L_more_ties (hr.mono (by decide)) rfl T.g_L_more_ties k_L_more_ties b_L_more_ties .nil pass0 (pa_cons (pe_call G_L_box (hr.mono (by decide)) rfl T.g_L_box k_L_box b_L_box .nil pass0 (pa_cons (pv 8) pa_nil)) (pa_cons (pv 3) (pa_cons (pv 5) (pa_cons (pv 4) (pa_cons (pv 7) pa_nil)))))))) pss_nil)))
    (pss_one (ps_ret (pe_tup (pa_cons (pv 3) (pa_cons (pv 7) pa_nil))))))))))), ?_⟩
    refine ⟨_, rfl, a, cells, 0, rfl, hS, fun i0 => ⟨i0, rfl, fun H1 b s1 nb hB1 => ?_⟩⟩
    -- names
    refine ⟨_, rfl, _, rfl, _, rfl, _, _, rfl, rfl, (by show 5 ≤ sizeLine; decide), fun q nq => ?_⟩
    obtain ⟨xb1, hb1⟩ := hB1.lst
    have qb : q ≠ b := (ne_of_none hb1 nq).symm
    have sq := same_new (o := .lst [.int 5, .int 8, .int 8, .int 8, .int (14 + 1)]) (Same.refl H1) nq
    refine ⟨_, rfl, b, 5, 0, rfl, by decide, by decide, hB1.same sq, by decide, fun H2 r2 hr2 s2 hB2 => ?_⟩
    have hq2 : H2 q = some (.lst [.int 5, .int 8, .int 8, .int 8, .int (14 + 1)]) := s2 _ _ (by rw [off_ne qb, upd_same])
    obtain ⟨m, hm, hm0, hm15⟩ : ∃ m : Nat, [V.int 5, V.int 8, V.int 8, V.int 8, V.int (14 + 1)][r2]? = some (.int (m : Int)) ∧ 0 < m ∧ m ≤ 15 := by
      have : r2 = 0 ∨ r2 = 1 ∨ r2 = 2 ∨ r2 = 3 ∨ r2 = 4 := by omega
      rcases this with rfl | rfl | rfl | rfl | rfl
      · exact ⟨5, rfl, by decide, by decide⟩
      · exact ⟨8, rfl, by decide, by decide⟩
      · exact ⟨8, rfl, by decide, by decide⟩
      · exact ⟨8, rfl, by decide, by decide⟩
      · exact ⟨15, rfl, by decide, by decide⟩
    refine ⟨_, _, _, _, rfl, rfl, SqL.of hq2, atI_nat hm, b, m, 1, rfl, by omega, by omega, hB2, by decide, fun H3 n hn3 s3 hB3 => ?_⟩
    have sH1 : Same H (off H1 b) := same_to s1 nb
    have sH3 : Same (off H1 b) H3 := (same_to ((same_to ((same_off).trans sq) off_same).trans s2) off_same).trans s3
    refine ⟨b, n, 2, rfl, by omega, hB3, by decide, fun H4 p ns s4 np hB4 hp4 hns => ?_⟩
    have sH4 : Same (off H1 b) H4 := (same_to sH3 off_same).trans s4
    have hn14 : n ≤ 14 := by omega
    have nok : ∀ z ∈ ns, sOk z := fun z hz => nameOk_sOk (hns.ok z hz)
    obtain ⟨xb3, hb3⟩ := hB3.lst
    have pb : p ≠ b := (ne_of_none hb3 np).symm
    -- mixed
    refine ⟨_, rfl, b, 3, 2 + 30, rfl, by decide, by decide, hB4, by decide, fun H5 r5 hr5 s5 hB5 => ⟨rfl, ?_⟩⟩
    have sH5 : Same (off H1 b) H5 := (same_to sH4 off_same).trans s5
    have hp5 : H5 p = some (.lst (nv ns)) := s5 _ _ ((off_ne pb).trans hp4)
    obtain ⟨mixed, hmixed⟩ : ∃ mixed, mixed = decide (V.int (r5 : Int) = V.int 0) := ⟨_, rfl⟩
    -- first
    refine ⟨_, rfl, p, rfl, ⟨_, SqL.of hp5⟩, fun D fD => ?_⟩
    obtain ⟨xb5, hb5⟩ := hB5.lst
    have Db : D ≠ b := (ne_of_none hb5 fD).symm
    have g5p : off H5 b p = some (.lst (nv ns)) := (off_ne pb).trans hp5
    have g5D : off H5 b D = none := (off_ne Db).trans fD
    refine lc_list (K := K) (a := p) (xs := nv ns) (fun j H6 => Same (off H5 b) H6 ∧ BoxAt H6 b (33 + j) ∧ ∃ os : List Str, H6 D = some (.lst (nv os)) ∧ os.length ≤ j) ⟨same_off.trans (same_new (Same.refl H5) fD), hB5.same (same_new (Same.refl H5) fD), [], upd_same, Nat.zero_le _⟩ (fun j H6 _ J => SqL.of (J.1 _ _ g5p)) ?_ ?_
    · rintro j x H6 hj ⟨J1, J2, os, J3, J4⟩
      have hj' := at_lt hj
      rw [nv_len, hns.len] at hj'
      obtain ⟨z, hz, rfl⟩ := nv_at hj
      refine ⟨rfl, _, rfl, b, 2, 33 + j, rfl, by decide, by decide, J2, by omega, fun H7 r7 hr7 s7 hB7 => ⟨rfl, _, rfl, ?_⟩⟩
      have J1' : Same (off H5 b) H7 := (same_to J1 off_same).trans s7
      have J3' := s7 _ _ ((off_ne Db).trans J3)
      by_cases h0 : r7 = 0
      · refine ifT (decide_eq_true (by rw [h0]; rfl)) ⟨_, rfl, _, J3', ?_, same_mut J1' g5D, ?_, os ++ [z], by rw [upd_same, nv_snoc], by rw [List.length_append]; exact Nat.succ_le_succ J4⟩
        · rw [nv_len]
          exact Nat.lt_of_le_of_lt (by omega : os.length ≤ 14) (by decide)
        · obtain ⟨x, y, z, h, r⟩ := hB7
          exact ⟨x, y, z, by rw [upd_ne Db.symm]; exact h, r⟩
      · exact ifF (decide_eq_false (fun q => h0 (Int.natCast_inj.mp (V.int.inj q)))) ⟨J1', hB7, os, J3', Nat.le_succ_of_le J4⟩
    · rintro H6 ⟨J1, J2, fs, J3, J4⟩
      have hp6 := J1 _ _ g5p
      have sH6 : Same (off H1 b) H6 := (same_to sH5 off_same).trans J1
      have sHH6 : Same H H6 := sH1.trans sH6
      refine ⟨Nat.zero_le _, fun l fl => ?_⟩
      have I0 := GrowI.nil (Same.refl H6) fl
      have hS6 : ∀ {H' : Hp}, Same H6 H' → SqL K H' a (cells.map V.int) := fun s => (sHH6.trans s).seq hS
      -- the cells
      refine ⟨_, rfl, _, rfl, _, rfl, a, _, rfl, hS6 I0.same, fun p1 np1 => ?_⟩
      obtain ⟨cs, hcs⟩ := cut_ints cells (some 1) (some 61)
      have cl := cut_few (cells.map V.int)
      have I1 := I0.step (same_new (o := .lst (cutV (cells.map V.int) (some 1) (some 61))) (Same.refl _) np1)
      refine ⟨_, rfl, a, cells, 61, rfl, hS6 I1.same, fun i61 => ?_⟩
      refine ⟨_, rfl, a, cells, 62, rfl, hS6 I1.same, fun i62 => ?_⟩
      refine ⟨(by show 2 ≤ sizeLine; decide), fun p2 np2 => ?_⟩
      have I2 := I1.step (same_new (o := .lst [.int i61, .int i62]) (Same.refl _) np2)
      have hp1 := (same_new (o := .lst [V.int i61, .int i62]) (Same.refl _) np2) _ _ (upd_same : upd (upd H6 l (.lst [])) p1 (.lst (cutV (cells.map V.int) (some 1) (some 61))) p1 = _)
      refine ⟨p1, p2, _, _, rfl, rfl, hp1, upd_same, ?_, fun p3 np3 => ?_⟩
      · have : (100 : Nat) ≤ sizeLine := by decide
        show _ + 2 ≤ _
        omega
      have I3 := I2.step (same_new (o := .lst (cutV (cells.map V.int) (some 1) (some 61) ++ [.int i61, .int i62])) (Same.refl _) np3)
      have ec : cutV (cells.map V.int) (some 1) (some 61) ++ [V.int i61, V.int i62] = (cs ++ [i61, i62]).map V.int := by
        rw [hcs, List.map_append]
        rfl
      rw [ec] at I3 ⊢
      obtain ⟨H9, e9⟩ : ∃ H9, H9 = upd (upd (upd (upd H6 l (.lst [])) p1 (.lst (cutV (cells.map V.int) (some 1) (some 61)))) p2 (.lst [V.int i61, V.int i62])) p3 (.lst ((cs ++ [i61, i62]).map V.int)) := ⟨_, rfl⟩
      have h93 : H9 p3 = some (.lst ((cs ++ [i61, i62]).map V.int)) := by rw [e9, upd_same]
      rw [← e9] at I3 ⊢
      obtain ⟨ts9, hl9, _⟩ := I3.len
      have p3l : p3 ≠ l := by
        intro e
        obtain ⟨_, h, _⟩ := I2.len
        rw [e, h] at np3
        cases np3
      obtain ⟨G, hG⟩ : ∃ G, G = off H9 l := ⟨_, rfl⟩
      have Gl : G l = none := by rw [hG, off_same]
      have s6G : Same H6 G := by
        rw [hG]
        exact same_to I3.same fl
      have IG : GrowI G l (tD []) H9 := by
        obtain ⟨ts, h, t⟩ := I3.ex
        exact ⟨by rw [hG]; exact same_off, Gl, ts, h, t⟩
      have Gp3 : G p3 = some (.lst ((cs ++ [i61, i62]).map V.int)) := by rw [hG, off_ne p3l, h93]
      refine ⟨p3, rfl, ⟨_, SqL.of h93⟩, for_list (K := K) (a := p3) (xs := (cs ++ [i61, i62]).map V.int) (fun i σ H' => ∃ v6 v8, σ = [some (.ref a), some (.int 14), some (.ref b), some (.ref p), some (.bl mixed), some (.ref D), v6, some (.ref l), v8] ∧ ∃ es, GrowI G l (tD es) H' ∧ TiesOk ns es)
        ⟨none, none, by rw [hmixed]; rfl, [], IG, TiesOk.nil ns⟩ (fun i σ H' _ ⟨_, _, _, _, I, _⟩ => SqL.of (I.same _ _ Gp3)) ?_ ?_⟩
      · rintro i x σ H10 hi ⟨v6, v8, rfl, es, I10, T10⟩
        obtain ⟨u, rfl⟩ : ∃ u, x = V.int u := by
          rw [List.getElem?_map] at hi
          cases e : (cs ++ [i61, i62])[i]? with
          | none =>
            rw [e] at hi
            cases hi
          | some u =>
            rw [e] at hi
            exact ⟨u, (Option.some.inj hi).symm⟩
        have hp10 := I10.same _ _ (s6G _ _ hp6)
        refine ⟨_, rfl, p, _, rfl, .inl (SqL.of hp10), _, _, rfl, rfl, _, rfl, ?_⟩
        by_cases h1 : 1 < ns.length
        · refine ifT (decide_eq_true (by rw [nv_len]; omega)) ?_
          refine ⟨_, rfl, u, rfl, fun H11 b2 s11 nb2 hB11 => ?_⟩
          have I11 := I10.step s11
          obtain ⟨_, hl10, _⟩ := I10.len
          refine ⟨_, rfl, _, rfl, _, rfl, _, rfl, G, b2, p, D, l, mixed, ns, fs, es, 0, rfl, I10.same.free nb2, ne_of_none hl10 nb2, s6G _ _ hp6, s6G _ _ J3, h1, by rw [hns.len]; exact hn14, nok, hB11, by decide, I11, T10, fun H12 es2 I12 T12 => ?_⟩
          exact ⟨_, _, rfl, es2, I12, T12⟩
        · refine ifF (decide_eq_false (by rw [nv_len]; omega)) ?_
          exact ⟨_, _, rfl, es, I10, T10⟩
      · rintro σ H10 ⟨v6, v8, rfl, es, I10, T10⟩
        refine ⟨_, rfl, _, rfl, (by show 2 ≤ sizeLine; decide), fun t nt => ?_⟩
        have st := same_new (o := .tup [.ref p, .ref l]) (Same.refl H10) nt
        exact k _ t p l ns es (sHH6.trans (s6G.trans (I10.same.trans st))) upd_same (st _ _ (I10.same _ _ (s6G _ _ hp6))) (I10.done.same st) (wb_of hns hn14 T10)
end
end K27

namespace K27
open PySem PySem.Spec PyProof.Rows L2 KM
section
variable {X : Cx} {K : PySem.W.Frag} {tg : Expr}
theorem pi_listK (h : X.K = K) {l : Expr} {tl : TE} (hl : PE X l tl) : PI X tg l (iList K tl) := h ▸ pi_list hl
theorem pi_listHK (h : X.K = K) {l : Expr} {tl : TE} (hl : PE X l tl) : L2H.PIH X tg l (iList K tl) := h ▸ pi_listH hl
theorem pg_tupHK {es : List Expr} {k : Nat} {t : TGs} {n : Nat} {pos : Pos} (hK : X.K = K) (hc : L2H.HotC X) (h : PGs X es t)
    (hn : (assignEach es X.env).length = n := by rfl) (hst : (assignEach es X.env).findIdx? (·.1) = none := by rfl) : PG X (.Tuple es k pos) (gTup K n t) := hK ▸ pg_tupH hc h hn hst
end
section
variable {P : Program} {w : World} {K : PySem.W.Frag} {mg : Str → Option Value} {base : Heap}
def spColours (K : PySem.W.Frag) : Sp := fun vs H Q _ => ∃ (n l : Addr) (ns : List Str) (es : List (Str × Str)), vs = [.ref n, .ref l] ∧ H n = some (.lst (nv ns)) ∧ Dq H (.ref l) (.list (tD es)) ∧ Wb ns es ∧ ∀ H' v, Same H H' → (v = V.non ↔ ¬ Bip es) → Q v H'
theorem colours_t (T : Tx K mg) : ∃ t : TS, (∀ (cdv : Value) (A : Around) (outer : List Env) (s : Shared) (H : Hp) (E : XK), Room 0 (A.deeper (envOfC "_law_colours" (defScope sL_colours) s.heap.objs.size (He.ga K "_law_colours") cdv)) → PSs (cxOf CX0 P w K mg base NL_colours "_law_colours" (defScope sL_colours) (He.ga K "_law_colours") cdv A outer s H E) (defBody sL_colours) t) ∧
    (∀ (cdv : Value) (A : Around) (outer : List Env) (s : Shared) (H : Hp) (E : XK) (p : Addr × Obj), L2H.Hot1 A p → L2H.RoomH 0 (A.deeper (envOfC "_law_colours" (defScope sL_colours) s.heap.objs.size (He.ga K "_law_colours") cdv)) → PSs (L2H.cxH CX0 P w K mg base NL_colours "_law_colours" (defScope sL_colours) (He.ga K "_law_colours") cdv A outer s H E p) (defBody sL_colours) t) ∧
    ∀ (vs : List V) (H : Hp) (Q : VK) (E : XK), spColours K vs H Q E → t { nx := fun _ H' => Q .non H', rt := Q } (start NL_colours vs) H := by
  refine ⟨_, fun cdv A outer s H E hr => have hu := hu_of hr; PSs.nox (pss_cons (ps_set (i := 2) scL_colours.nd rfl (Or.inl rfl) pe_dnewK)
    (pss_cons (ps_for PassesOwn.never rfl (pi_listK (K := K) rfl (pv 0)) (pg_name (i := 3) scL_colours.nd rfl (Or.inl rfl)) (pss_one (ps_if (pt_cmp (pc_dnotin hu (pv 3) (pv 2))) (pss_cons (ps_dput hu (pv 2) (pv 3) pe_int rfl)
    (pss_one (ps_for PassesOwn.never rfl (pi_listK (K := K) rfl (pv 0)) (pg_name (i := 4) scL_colours.nd rfl (Or.inl rfl)) (pss_one (ps_for PassesOwn.never rfl (pi_listK (K := K) rfl (pv 1)) (pg_tupK (K := K) (n := 2) rfl rfl (pgs_cons (pg_name (i := 5) scL_colours.nd rfl (Or.inl rfl)) (pgs_cons (pg_name (i := 6) scL_colours.nd rfl (Or.inl rfl)) pgs_nil))) (pss_cons (ps_join (ps_if (PW.pt (pw_and (pt_cmp (pc_din hu (pv 5) (pv 2))) (pw_and1 (pt_cmp (pc_dnotin hu (pv 6) (pv 2)))))) (pss_one (ps_dput hu (pv 2) (pv 6) (pe_op op_sub pe_int (pe_dget hu (pv 2) (pv 5) (fun _ _ => rfl))) rfl)) pss_nil))
    (pss_one (ps_if (PW.pt (pw_and (pt_cmp (pc_din hu (pv 6) (pv 2))) (pw_and1 (pt_cmp (pc_dnotin hu (pv 5) (pv 2)))))) (pss_one (ps_dput hu (pv 2) (pv 5) (pe_op op_sub pe_int (pe_dget hu (pv 2) (pv 6) (fun _ _ => rfl))) rfl)) pss_nil)))))))) pss_nil)))
    (pss_cons (ps_for PassesOwn.never rfl (pi_listK (K := K) rfl (pv 1)) (pg_tupK (K := K) (n := 2) rfl rfl (pgs_cons (pg_name (i := 5) scL_colours.nd rfl (Or.inl rfl)) (pgs_cons (pg_name (i := 6) scL_colours.nd rfl (Or.inl rfl)) pgs_nil))) (pss_one (ps_if (pt_cmpR op_eq (pe_dget hu (pv 2) (pv 5) (fun _ _ => rfl)) (pe_dget hu (pv 2) (pv 6) (fun _ _ => rfl)) (nomark _)) (pss_one (ps_ret pe_non)) pss_nil)))
    (pss_one (ps_ret (pv 2)))))), fun cdv A outer s H E p hot hr => ?_, fun vs H Q E h => ?_⟩
  · have hu : (A.deeper (envOfC "_law_colours" (defScope sL_colours) s.heap.objs.size (He.ga K "_law_colours") cdv)).units + 1 < cLine := by
      have := hr.un
      omega
    have hc : L2H.HotC (L2H.cxH CX0 P w K mg base NL_colours "_law_colours" (defScope sL_colours) (He.ga K "_law_colours") cdv A outer s H E p).nox := ⟨p, hot, List.mem_cons_self⟩
    exact PSs.nox (pss_cons (ps_set (i := 2) scL_colours.nd rfl (Or.inl rfl) pe_dnewK)
    (pss_cons (L2H.ps_forH PassesOwn.never hc (pi_listHK (K := K) rfl (pv 0)) (pg_name (i := 3) scL_colours.nd rfl (Or.inl rfl)) (pss_one (ps_if (pt_cmp (pc_dnotin hu (pv 3) (pv 2))) (pss_cons (ps_dput hu (pv 2) (pv 3) pe_int rfl)
    (pss_one (L2H.ps_forH PassesOwn.never hc (pi_listHK (K := K) rfl (pv 0)) (pg_name (i := 4) scL_colours.nd rfl (Or.inl rfl)) (pss_one (L2H.ps_forH PassesOwn.never hc (pi_listHK (K := K) rfl (pv 1)) (pg_tupHK (K := K) (n := 2) rfl hc (pgs_cons (pg_name (i := 5) scL_colours.nd rfl (Or.inl rfl)) (pgs_cons (pg_name (i := 6) scL_colours.nd rfl (Or.inl rfl)) pgs_nil))) (pss_cons (ps_join (ps_if (PW.pt (pw_and (pt_cmp (pc_din hu (pv 5) (pv 2))) (pw_and1 (pt_cmp (pc_dnotin hu (pv 6) (pv 2)))))) (pss_one (ps_dput hu (pv 2) (pv 6) (pe_op op_sub pe_int (pe_dget hu (pv 2) (pv 5) (fun _ _ => rfl))) rfl)) pss_nil))
    (pss_one (ps_if (PW.pt (pw_and (pt_cmp (pc_din hu (pv 6) (pv 2))) (pw_and1 (pt_cmp (pc_dnotin hu (pv 5) (pv 2)))))) (pss_one (ps_dput hu (pv 2) (pv 5) (pe_op op_sub pe_int (pe_dget hu (pv 2) (pv 6) (fun _ _ => rfl))) rfl)) pss_nil)))))))) pss_nil)))
    (pss_cons (L2H.ps_forH PassesOwn.never hc (pi_listHK (K := K) rfl (pv 1)) (pg_tupHK (K := K) (n := 2) rfl hc (pgs_cons (pg_name (i := 5) scL_colours.nd rfl (Or.inl rfl)) (pgs_cons (pg_name (i := 6) scL_colours.nd rfl (Or.inl rfl)) pgs_nil))) (pss_one (ps_if (pt_cmpR op_eq (pe_dget hu (pv 2) (pv 5) (fun _ _ => rfl)) (pe_dget hu (pv 2) (pv 6) (fun _ _ => rfl)) (nomark _)) (pss_one (ps_ret pe_non)) pss_nil)))
    (pss_one (ps_ret (pv 2))))))
  · obtain ⟨n, l, ns, es, rfl, hn, hl, wb, k⟩ := h
    obtain ⟨_, ts, el, hl, hts⟩ := hl.list_inv
    cases el
    have tl := hts.length
    unfold tD at tl
    rw [List.length_map] at tl
    have hl1 : ns.length ≤ 1000 := Nat.le_trans wb.ln (by decide)
    intro d nd
    have s0 := same_new (o := .dK []) (Same.refl H) nd
    refine ⟨_, rfl, n, rfl, ⟨_, SqL.of (s0 _ _ hn)⟩, for_list (K := K) (a := n) (xs := nv ns) (fun i σ H' => ∃ v3 v4 v5 v6, σ = [some (.ref n), some (.ref l), some (.ref d), v3, v4, v5, v6] ∧ Same H H' ∧ DictAt ns H' d ((ns.take i).foldl (cStart ns es) fun _ => none) V.int)
      ⟨none, none, none, none, rfl, s0, DictAt.nil upd_same⟩ (fun i σ H' _ ⟨_, _, _, _, _, s1, _⟩ => SqL.of (s1 _ _ hn)) ?_ ?_⟩
    · rintro i x σ H1 hi ⟨v3, v4, v5, v6, rfl, s1, D1⟩
      obtain ⟨z, hz, rfl⟩ := nv_at hi
      have hzn : z ∈ ns := List.mem_of_getElem? hz
      obtain ⟨c0, hc0⟩ : ∃ c0, c0 = (ns.take i).foldl (cStart ns es) (fun _ => none) := ⟨_, rfl⟩
      have hnext : (ns.take (i + 1)).foldl (cStart ns es) (fun _ => none) = cStart ns es c0 z := by rw [fold_more2 _ _ hz, ← hc0]
      rw [← hc0] at D1
      refine ⟨_, rfl, _, rfl, d, _, rfl, D1.get z, _, rfl, ?_⟩
      rw [Option.isSome_map]
      cases hcz : (c0 z).isSome with
      | true =>
        refine ifF rfl ⟨_, _, _, _, rfl, s1, ?_⟩
        rw [hnext]
        unfold cStart
        rw [if_pos hcz]
        exact D1
      | false =>
        refine ifT rfl ?_
        obtain ⟨u1, p1, D2⟩ := D1.put 0 hzn hl1
        refine ⟨_, rfl, _, rfl, d, _, rfl, p1, ?_⟩
        have hfin : cStart ns es c0 z = ns.foldl (fun c _ => cLap es c) (put c0 z 0) := by
          unfold cStart
          rw [if_neg (by rw [hcz]; exact Bool.false_ne_true)]
          rfl
        have s2 : Same H (upd H1 d u1) := same_mut s1 nd
        refine ⟨_, rfl, n, rfl, ⟨_, SqL.of (s2 _ _ hn)⟩, for_list (K := K) (a := n) (xs := nv ns) (fun j σ H' => ∃ v4 v5 v6, σ = [some (.ref n), some (.ref l), some (.ref d), some (.str z), v4, v5, v6] ∧ Same H H' ∧ DictAt ns H' d ((ns.take j).foldl (fun c _ => cLap es c) (put c0 z 0)) V.int)
          ⟨_, _, _, rfl, s2, D2⟩ (fun i σ H' _ ⟨_, _, _, _, s1, _⟩ => SqL.of (s1 _ _ hn)) ?_ ?_⟩
        · rintro j x σ H2 hj ⟨v4, v5, v6, rfl, s3, D3⟩
          obtain ⟨z2, hz2, rfl⟩ := nv_at hj
          obtain ⟨c1, hc1⟩ : ∃ c1, c1 = (ns.take j).foldl (fun c _ => cLap es c) (put c0 z 0) := ⟨_, rfl⟩
          have hnext1 : (ns.take (j + 1)).foldl (fun c _ => cLap es c) (put c0 z 0) = es.foldl cStep c1 := by rw [fold_more2 _ _ hz2, ← hc1]; rfl
          rw [← hc1] at D3
          refine ⟨_, rfl, l, rfl, ⟨_, SqL.of (s3 _ _ hl)⟩, for_list (K := K) (a := l) (xs := ts) (fun m σ H' => ∃ v5 v6, σ = [some (.ref n), some (.ref l), some (.ref d), some (.str z), some (.str z2), v5, v6] ∧ Same H H' ∧ DictAt ns H' d ((es.take m).foldl cStep c1) V.int)
            ⟨_, _, rfl, s3, D3⟩ (fun i σ H' _ ⟨_, _, _, s1, _⟩ => SqL.of (s1 _ _ hl)) ?_ ?_⟩
          · rintro m x σ H3 hm ⟨v5, v6, rfl, s4, D4⟩
            obtain ⟨⟨y, u⟩, t, he, rfl, ht⟩ := ties_at hts hm
            obtain ⟨hy, hu', ne⟩ := wb.wg.mem _ (List.mem_of_getElem? he)
            obtain ⟨c2, hc2⟩ : ∃ c2, c2 = (es.take m).foldl cStep c1 := ⟨_, rfl⟩
            have hnext2 : (es.take (m + 1)).foldl cStep c1 = cHalf u y (cHalf y u c2) := by rw [fold_more2 _ _ he, ← hc2]; rfl
            rw [← hc2] at D4
            refine ⟨t, _, rfl, SqT.of (s4 _ _ ht), rfl, _, _, rfl, _, _, rfl, rfl, ?_⟩
            refine ⟨fun σ' H' => σ' = [some (.ref n), some (.ref l), some (.ref d), some (.str z), some (.str z2), some (.str y), some (.str u)] ∧ Same H H' ∧ DictAt ns H' d (cHalf y u c2) V.int, ?_, ?_⟩
            · refine ⟨_, rfl, _, rfl, d, _, rfl, D4.get y, _, rfl, ?_⟩
              rw [Option.isSome_map]
              rcases cHalf_at y u c2 with ⟨v, q1, q2, e⟩ | ⟨e, q⟩
              · rw [q1]
                refine ifT rfl ⟨_, rfl, _, rfl, d, _, rfl, D4.get u, _, rfl, ?_⟩
                rw [Option.isSome_map, q2]
                refine ifT rfl ?_
                have g := D4.get y
                rw [q1] at g
                obtain ⟨u2, p2, D5⟩ := D4.put (1 - v) hu' hl1
                refine ⟨_, rfl, _, rfl, d, _, rfl, g, _, _, rfl, rfl, _, rfl, _, rfl, d, _, rfl, p2, rfl, same_mut s4 nd, ?_⟩
                rw [e]
                exact D5
              · rw [e]
                rcases q with q | q
                · rw [q]
                  exact ifF rfl (ifF rfl ⟨rfl, s4, D4⟩)
                · cases q1 : (c2 y).isSome with
                  | false => exact ifF rfl (ifF rfl ⟨rfl, s4, D4⟩)
                  | true =>
                    refine ifT rfl ⟨_, rfl, _, rfl, d, _, rfl, D4.get u, _, rfl, ?_⟩
                    rw [Option.isSome_map, q]
                    exact ifF rfl ⟨rfl, s4, D4⟩
            · rintro σ4 H4 ⟨rfl, s5, D5⟩
              obtain ⟨c3, hc3⟩ : ∃ c3, c3 = cHalf y u c2 := ⟨_, rfl⟩
              rw [← hc3] at D5 hnext2
              refine ⟨_, rfl, _, rfl, d, _, rfl, D5.get u, _, rfl, ?_⟩
              rw [Option.isSome_map]
              rcases cHalf_at u y c3 with ⟨v, q1, q2, e⟩ | ⟨e, q⟩
              · rw [q1]
                refine ifT rfl ⟨_, rfl, _, rfl, d, _, rfl, D5.get y, _, rfl, ?_⟩
                rw [Option.isSome_map, q2]
                refine ifT rfl ?_
                have g := D5.get u
                rw [q1] at g
                obtain ⟨u2, p2, D6⟩ := D5.put (1 - v) hy hl1
                refine ⟨_, rfl, _, rfl, d, _, rfl, g, _, _, rfl, rfl, _, rfl, _, rfl, d, _, rfl, p2, _, _, rfl, same_mut s5 nd, ?_⟩
                rw [hnext2, e]
                exact D6
              · have fin : DictAt ns H4 d ((es.take (m + 1)).foldl cStep c1) V.int := by
                  rw [hnext2, e]
                  exact D5
                rcases q with q | q
                · rw [q]
                  exact ifF rfl (ifF rfl ⟨_, _, rfl, s5, fin⟩)
                · cases q1 : (c3 u).isSome with
                  | false => exact ifF rfl (ifF rfl ⟨_, _, rfl, s5, fin⟩)
                  | true =>
                    refine ifT rfl ⟨_, rfl, _, rfl, d, _, rfl, D5.get y, _, rfl, ?_⟩
                    rw [Option.isSome_map, q]
                    exact ifF rfl ⟨_, _, rfl, s5, fin⟩
          · rintro σ H3 ⟨v5, v6, rfl, s4, D4⟩
            rw [tl, List.take_length] at D4
            exact ⟨_, _, _, rfl, s4, by rw [hnext1]; exact D4⟩
        · rintro σ H2 ⟨v4, v5, v6, rfl, s3, D3⟩
          rw [nv_len, List.take_length] at D3
          exact ⟨_, _, _, _, rfl, s3, by rw [hnext, hfin]; exact D3⟩
    · rintro σ H1 ⟨v3, v4, v5, v6, rfl, s1, D1⟩
      rw [nv_len, List.take_length] at D1
      have D1 : DictAt ns H1 d (cAll ns es) V.int := D1
      refine ⟨_, rfl, l, rfl, ⟨_, SqL.of (s1 _ _ hl)⟩, for_list (K := K) (a := l) (xs := ts) (fun m σ H' => H' = H1 ∧ ∃ v5 v6, σ = [some (.ref n), some (.ref l), some (.ref d), v3, v4, v5, v6] ∧ ∀ e ∈ es.take m, cAll ns es e.1 ≠ cAll ns es e.2)
        ⟨rfl, _, _, rfl, fun _ h => nomatch h⟩ (fun i σ H' _ ⟨h, _⟩ => by rw [h]; exact SqL.of (s1 _ _ hl)) ?_ ?_⟩
      · rintro m x σ H2 hm ⟨rfl, v5', v6', rfl, hne⟩
        obtain ⟨⟨y, u⟩, t, he, rfl, ht⟩ := ties_at hts hm
        obtain ⟨hy, hu', ne⟩ := wb.wg.mem _ (List.mem_of_getElem? he)
        obtain ⟨cy, ey⟩ := Option.isSome_iff_exists.mp (cAll_some wb.wg hy)
        obtain ⟨cu, eu⟩ := Option.isSome_iff_exists.mp (cAll_some wb.wg hu')
        have gy := D1.get y
        have gu := D1.get u
        rw [ey] at gy
        rw [eu] at gu
        refine ⟨t, _, rfl, SqT.of (s1 _ _ ht), rfl, _, _, rfl, _, _, rfl, rfl, ?_⟩
        refine ⟨_, rfl, _, rfl, d, _, rfl, gy, _, rfl, _, rfl, d, _, rfl, gu, rfl, _, rfl, ?_⟩
        by_cases hcc : cy = cu
        · refine ifT (decide_eq_true (by rw [hcc])) ?_
          refine k _ _ s1 ⟨fun _ bip => ?_, fun _ => rfl⟩
          have := (cAll_bip wb.wg).mpr bip (y, u) (List.mem_of_getElem? he)
          exact this (by show cAll ns es y = cAll ns es u; rw [ey, eu, hcc])
        · refine ifF (decide_eq_false (fun q => hcc (V.int.inj q))) ⟨rfl, _, _, rfl, fun e he' => ?_⟩
          rw [take_more he] at he'
          rcases List.mem_append.mp he' with q | q
          · exact hne e q
          · rw [List.mem_singleton.mp q]
            show cAll ns es y ≠ cAll ns es u
            rw [ey, eu]
            exact fun z => hcc (Option.some.inj z)
      · rintro σ H2 ⟨rfl, v5', v6', rfl, hne⟩
        rw [tl, List.take_length] at hne
        exact ⟨_, rfl, k _ _ s1 ⟨fun z => (by cases z), fun nb => absurd ((cAll_bip wb.wg).mp hne) nb⟩⟩
theorem ok_L_colours (T : Tx K mg) : Fok P w K mg base CX0 1 (He.ga K "_law_colours") ["_law_names_here", "_law_ties"] (spColours K) := by
  obtain ⟨fd, F⟩ := T.f_L_colours
  obtain ⟨t, h1, _, h3⟩ := colours_t (P := P) (w := w) (base := base) T
  refine ⟨fd, F.ok scL_colours (fun vs H Q E h => ?_) (fun cdv A outer s H vs Q E hr h => ⟨t, h1 cdv A outer s H E hr, h3 vs H Q E h⟩), b_L_colours F, F.kp⟩
  obtain ⟨n, l, ns, es, rfl, _⟩ := h
  rfl
theorem okH_L_colours (T : Tx K mg) : ∃ fd, L2H.FnH P w K mg base CX0 1 (He.ga K "_law_colours") fd ["_law_names_here", "_law_ties"] (spColours K) ∧ Binds K fd ["_law_names_here", "_law_ties"] [] ∧ PySem.W.keepIn K (.ref (He.ga K "_law_colours")) = true := by
  obtain ⟨fd, F⟩ := T.f_L_colours
  obtain ⟨t, _, h2, h3⟩ := colours_t (P := P) (w := w) (base := base) T
  have hb := b_L_colours F
  obtain ⟨oc, od, dV, kV, doc, pm, an, cdv, ct, osl, rfl, lk, hcd, _, _⟩ := F.ex
  refine ⟨_, L2H.fn_ofH lk hcd scL_colours (fun vs H Q E h => ?_) (fun A outer s H vs Q E p hot hr h => ⟨t, h2 cdv A outer s H E p hot hr, h3 vs H Q E h⟩), hb, F.kp⟩
  obtain ⟨n, l, ns, es, rfl, _⟩ := h
  rfl
end
end K27

namespace K27
open PySem PySem.Spec PyProof.Rows L2 KM
theorem ties_offN {H : Hp} {p : Addr} (hp : ∀ xs, H p ≠ some (.tup xs)) : ∀ {ts : List V} {es : List (Str × Str)}, Dqs H ts (tD es) → Dqs (off H p) ts (tD es)
  | _, [], h => by
    cases h
    exact .nil
  | _, e :: r, h => by
    cases h with
    | cons a t =>
      obtain ⟨q, rfl, hq⟩ := Dq.tie_inv a
      exact .cons (.tie (by rw [off_ne (fun z => hp _ (by rw [← z]; exact hq))]; exact hq)) (ties_offN hp t)
theorem GrowI.mut {G H H' : Hp} {l b : Addr} {es : List (Str × Str)} (I : GrowI G l (tD es) H) (gb : G b = none) (hb : ∀ xs, H b ≠ some (.tup xs)) (ne : l ≠ b) (s : Same (off H b) H') : GrowI G l (tD es) H' := by
  obtain ⟨ts, h, t⟩ := I.ex
  refine ⟨(same_to I.same gb).trans s, I.new, ts, s _ _ ((off_ne ne).trans h), ?_⟩
  have t2 := ties_offN (H := off H l) (p := b) (fun xs q => hb xs (by rw [← q, off_ne ne.symm])) t
  refine t2.same fun z o hz => ?_
  by_cases e1 : z = b
  · rw [e1, off_same] at hz
    cases hz
  · rw [off_ne e1] at hz
    by_cases e2 : z = l
    · rw [e2, off_same] at hz
      cases hz
    · rw [off_ne e2] at hz ⊢
      exact s _ _ ((off_ne e1).trans hz)
theorem lst_not_tup {H : Hp} {b : Addr} {ys : List V} (h : H b = some (.lst ys)) : ∀ xs, H b ≠ some (.tup xs) := fun xs q => by
  rw [h] at q
  cases q
theorem dK_not_tup {H : Hp} {b : Addr} {ys : List (Key × V)} (h : H b = some (.dK ys)) : ∀ xs, H b ≠ some (.tup xs) := fun xs q => by
  rw [h] at q
  cases q
theorem DictAt.take {β : Type} {ns : List Str} {H H' : Hp} {d b : Addr} {m : Str → Option β} {e : β → V} (D : DictAt ns H d m e) (ne : d ≠ b) (s : Same (off H b) H') : DictAt ns H' d m e := by
  obtain ⟨kvs, h, r⟩ := D.ex
  exact ⟨kvs, s _ _ ((off_ne ne).trans h), r⟩
theorem BoxAt.other {H : Hp} {b f : Addr} {c : Nat} {o : HO} (h : BoxAt H b c) (ne : b ≠ f) : BoxAt (upd H f o) b c := by
  obtain ⟨x, y, n, h1, r⟩ := h
  exact ⟨x, y, n, (upd_ne ne).trans h1, r⟩
theorem seqN {n r : Nat} (h : r < n) : seqIndex? (r : Int) n = some r := (ixN_seq (ixN_nat h)).1
theorem tD_erase : ∀ (es : List (Str × Str)) (r : Nat), (tD es).eraseIdx r = tD (es.eraseIdx r)
  | [], _ => rfl
  | _ :: _, 0 => rfl
  | e :: es, r + 1 => congrArg (tieD e :: ·) (tD_erase es r)
theorem validP_more {es X : List (Str × Str)} (h : ValidP es X) {a b : Str} (ad : adj es a b = true) (ne : a ≠ b) (na : a ∉ ends X) (nb : b ∉ ends X) : ValidP es (X ++ [(a, b)]) := by
  refine ⟨fun p hp => ?_, ?_⟩
  · rcases List.mem_append.mp hp with q | q
    · exact h.ad p q
    · rw [List.mem_singleton.mp q]
      exact ad
  · rw [ends_append, List.nodup_append]
    refine ⟨h.nd, ?_, fun x hx y hy e => ?_⟩
    · show [a, b].Nodup
      exact List.nodup_cons.mpr ⟨fun q => ne (List.mem_singleton.mp q), List.nodup_cons.mpr ⟨(fun z => nomatch z), List.nodup_nil⟩⟩
    · have hy : y ∈ [a, b] := hy
      rcases List.mem_cons.mp hy with q | q
      · rw [e, q] at hx
        exact na hx
      · rw [e, List.mem_singleton.mp q] at hx
        exact nb hx
theorem valid_len {ns : List Str} {es X : List (Str × Str)} (wg : Wg ns es) (h : ValidP es X) : X.length ≤ ns.length := weak h (validC_all wg)
section
variable {P : Program} {w : World} {K : PySem.W.Frag} {mg : Str → Option Value} {base : Heap}
def spLPairs (K : PySem.W.Frag) : Sp := fun vs H Q _ => ∃ (G : Hp) (b l : Addr) (c : Nat) (ns : List Str) (es : List (Str × Str)), vs = [.ref b, .ref l] ∧ Same G H ∧ G b = none ∧ Dq G (.ref l) (.list (tD es)) ∧ Wb ns es ∧ BoxAt H b c ∧ c ≤ 100000 ∧
  ∀ H' p X, Same G H' → BoxAt H' b (c + 100) → Dq (off H' b) (.ref p) (.list (tD X)) → ValidP es X → Q (.ref p) H'
theorem ok_L_pairs (T : Tx K mg) (F1 : Fok P w K mg base CX0 1 (He.ga K "_law_take") ["_law_box_here", "_law_many"] spLTake) : Fok P w K mg base CX0 2 (He.ga K "_law_pairs") ["_law_box_here", "_law_ties"] (spLPairs K) := by
  obtain ⟨fd, F⟩ := T.f_L_pairs
  obtain ⟨_, G_L_take, b_L_take, k_L_take⟩ := F1
  refine ⟨fd, F.ok scL_pairs (fun vs H Q E h => ?_) (fun cdv A outer s H vs Q E hr h => ?_), b_L_pairs F, F.kp⟩
  · obtain ⟨G, b, l, c, ns, es, rfl, _⟩ := h
    rfl
  · obtain ⟨G, b, l, c, ns, es, rfl, sG, gb, hl, wb, hB, hc, k⟩ := h
    have hu := hu_of hr
    have hl1 : ns.length ≤ 1000 := Nat.le_trans wb.ln (by decide)
    obtain ⟨_, ts, el, hl, hts⟩ := hl.list_inv
    cases el
    have tl := hts.length
    unfold tD at tl
    rw [List.length_map] at tl
    refine ⟨_, PSs.nox (pss_cons (ps_set (i := 2) scL_pairs.nd rfl (Or.inl rfl) (pe_callTy call_list_of (by rfl) T.z_list (by decide +kernel) (pa_cons (pv 1) pa_nil)))
    (pss_cons (ps_set (i := 3) scL_pairs.nd rfl (Or.inl rfl) pe_dnewK)
    (pss_cons (ps_set (i := 4) scL_pairs.nd rfl (Or.inl rfl) (pe_lst pa_nil))
    (pss_cons (ps_while PassesOwn.never (pt_cmpR (op_neD hr.units) (pv 2) (pe_lst pa_nil) (nomark _)) (pss_cons (ps_asg (pe_bm PySem.F.plainAttrs_list PySem.F.slot_list_pop PySem.F.type_list_pop mt_popAt (pv 2) (pa_cons (pe_call G_L_take (hr.mono (by decide)) rfl T.g_L_take k_L_take b_L_take .nil pass0 (pa_cons (pv 0) (pa_cons (pe_callB call_len_seq (by rfl) T.z_len (by decide +kernel) (pa_cons (pv 2) pa_nil)) pa_nil))) pa_nil)) (pg_tup rfl (pgs_cons (pg_name (i := 5) scL_pairs.nd rfl (Or.inl rfl)) (pgs_cons (pg_name (i := 6) scL_pairs.nd rfl (Or.inl rfl)) pgs_nil))))
    (pss_one (ps_if (PW.pt (pw_and (pt_cmp (pc_dnotin hu (pv 5) (pv 3))) (pw_and (pt_cmp (pc_dnotin hu (pv 6) (pv 3))) (pw_and1 (pt_cmpR op_gt (pe_call G_L_take (hr.mono (by decide)) rfl T.g_L_take k_L_take b_L_take .nil pass0 (pa_cons (pv 0) (pa_cons pe_int pa_nil))) pe_int (nomark _)))))) (pss_cons (ps_dput hu (pv 3) (pv 5) pe_bl rfl)
    (pss_cons (ps_dput hu (pv 3) (pv 6) pe_bl rfl)
    (pss_one (ps_expr (pe_bm PySem.F.plainAttrs_list PySem.F.slot_list_append PySem.F.type_list_append mt_append (pv 4) (pa_cons (pe_ix ix_list (pe_lst (pa_cons (pe_tup (pa_cons (pv 5) (pa_cons (pv 6) pa_nil))) (pa_cons (pe_tup (pa_cons (pv 6) (pa_cons (pv 5) pa_nil))) pa_nil))) (pe_call G_L_take (hr.mono (by decide)) rfl T.g_L_take k_L_take b_L_take .nil pass0 (pa_cons (pv 0) (pa_cons pe_int pa_nil))) (fun _ _ => rfl)) pa_nil)))))) pss_nil))))
    (pss_one (ps_ret (pv 4))))))), ?_⟩
    refine ⟨_, rfl, l, _, rfl, .inl (SqL.of (sG _ _ hl)), fun L fL => ?_⟩
    have sL := same_new (o := .lst ts) sG fL
    intro d fd'
    have sd := same_new (o := .dK []) sL fd'
    refine ⟨Nat.zero_le _, fun p fp => ?_⟩
    have sp := same_new (o := .lst []) sd fp
    obtain ⟨xb, hb⟩ := hB.lst
    have Lb : L ≠ b := (ne_of_none hb fL).symm
    have hb2 : upd H L (.lst ts) b = some (.lst xb) := (upd_ne Lb.symm).trans hb
    have db : d ≠ b := (ne_of_none hb2 fd').symm
    have dL : d ≠ L := (ne_of_none upd_same fd').symm
    have hb3 : upd (upd H L (.lst ts)) d (.dK []) b = some (.lst xb) := (upd_ne db.symm).trans hb2
    have pb : p ≠ b := (ne_of_none hb3 fp).symm
    have pL : p ≠ L := (ne_of_none ((upd_ne dL.symm).trans upd_same) fp).symm
    have pd : p ≠ d := (ne_of_none upd_same fp).symm
    have GL : G L = none := sG.free fL
    have Gd : G d = none := sL.free fd'
    have Gp : G p = none := sd.free fp
    obtain ⟨H0, e0⟩ : ∃ H0, H0 = upd (upd (upd H L (.lst ts)) d (.dK [])) p (.lst []) := ⟨_, rfl⟩
    rw [← e0] at sp
    have hL0 : H0 L = some (.lst ts) := by rw [e0, upd_ne pL.symm, upd_ne dL.symm, upd_same]
    have hd0 : H0 d = some (.dK []) := by rw [e0, upd_ne pd.symm, upd_same]
    have hp0 : H0 p = some (.lst []) := by rw [e0, upd_same]
    have hB0 : BoxAt H0 b c := by
      rw [e0]
      exact ((hB.other Lb.symm).other db.symm).other pb.symm
    have IL : GrowI G L (tD es) H0 := ⟨sp, GL, ts, hL0, hts.same (same_to sp GL)⟩
    have Ip : GrowI G p (tD []) H0 := ⟨sp, Gp, [], hp0, .nil⟩
    rw [← e0]
    refine ⟨fun m σ H' => ∃ (v5 v6 : Option V) (rem X : List (Str × Str)) (f : Str → Option Bool), σ = [some (.ref b), some (.ref l), some (.ref L), some (.ref d), some (.ref p), v5, v6] ∧ m = rem.length ∧ GrowI G L (tD rem) H' ∧ GrowI G p (tD X) H' ∧ DictAt ns H' d f V.bl ∧
      BoxAt H' b (c + 3 * (es.length - rem.length)) ∧ rem.length ≤ es.length ∧ (∀ e ∈ rem, e ∈ es) ∧ ValidP es X ∧ ∀ z, (f z).isSome = decide (z ∈ ends X),
      ⟨_, none, none, es, [], _, rfl, rfl, IL, Ip, DictAt.nil hd0, by rw [Nat.sub_self]; exact hB0, Nat.le_refl _, fun _ h => h, ValidP.nil es, fun z => (decide_eq_false (fun h => nomatch h)).symm⟩, ?_⟩
    rintro m σ H1 ⟨v5, v6, rem, X, f, rfl, rfl, I1, J1, D1, hB1, lrem, hrem, hX, hf⟩
    have le30 := wb.le
    have okr : ∀ e ∈ rem, sOk e.1 ∧ sOk e.2 := fun e he => wb.eok e (hrem e he)
    refine ⟨_, rfl, Nat.zero_le _, fun e1 ne1 => ?_⟩
    have se := same_new (o := .lst []) (Same.refl H1) ne1
    have I2 := I1.step se
    have J2 := J1.step se
    have D2 := D1.mono se
    have hB2 := hB1.same se
    refine ⟨.list (tD rem), .list [], Dq.dp _ _ I2.done (by rw [PyData.canLay0]; exact canT okr), .lst (SqL.of upd_same) .nil, shT okr, shape_nil, _, rfl, ?_⟩
    rw [eqv_nil]
    obtain ⟨H2, e2⟩ : ∃ H2, H2 = upd H1 e1 (.lst []) := ⟨_, rfl⟩
    rw [← e2] at I2 J2 D2 hB2 ⊢
    cases hrc : rem with
    | nil =>
      refine ifF rfl ?_
      refine ⟨_, rfl, k H2 p X I2.same (hB2.mono (by omega)) ?_ hX⟩
      obtain ⟨tsX, h1, h2⟩ := J2.ex
      obtain ⟨xb2, hb2'⟩ := hB2.lst
      refine .lst ((off_ne pb).trans h1) ?_
      have := ties_off (H := off H2 p) (p := b) ((off_ne pb.symm).trans hb2') h2
      exact this.same fun z o hz => by
        by_cases q1 : z = b
        · rw [q1, off_same] at hz
          cases hz
        · rw [off_ne q1] at hz ⊢
          exact same_off _ _ hz
    | cons e0' r0 =>
      refine ifT rfl ?_
      have lpos : 0 < rem.length := by rw [hrc]; exact Nat.succ_pos _
      obtain ⟨tsL, hL2, hLt⟩ := I2.ex
      have lenL : tsL.length = rem.length := by
        rw [hLt.length]
        unfold tD
        rw [List.length_map]
      refine ⟨fun σ' H' => ∃ (v5 v6 : Option V) (rem' X : List (Str × Str)) (f : Str → Option Bool), σ' = [some (.ref b), some (.ref l), some (.ref L), some (.ref d), some (.ref p), v5, v6] ∧ rem'.length + 1 = rem.length ∧ GrowI G L (tD rem') H' ∧ GrowI G p (tD X) H' ∧ DictAt ns H' d f V.bl ∧
        BoxAt H' b (c + 3 * (es.length - rem'.length)) ∧ (∀ e ∈ rem', e ∈ es) ∧ ValidP es X ∧ ∀ z, (f z).isSome = decide (z ∈ ends X), fun σ' H' ⟨v5, v6, rem', X, f, a1, a2, a3, a4, a5, a6, a7, a8, a9⟩ => ⟨_, by rw [← hrc]; omega, v5, v6, rem', X, f, a1, rfl, a3, a4, a5, a6, by omega, a7, a8, a9⟩, ?_⟩
      refine ⟨_, rfl, .inl ⟨rfl, _, SqL.of hL2⟩, _, rfl, _, rfl, L, _, rfl, .inl (SqL.of hL2), b, _, _, rfl, by omega, by omega, hB2, by omega, fun H3 r hr3 s3 hB3 => ?_⟩
      have hr3 : r < rem.length := by omega
      obtain ⟨xb2, hb2'⟩ := hB2.lst
      have I3 := I2.mut gb (lst_not_tup hb2') Lb s3
      have J3 := J2.mut gb (lst_not_tup hb2') pb s3
      have D3 := D2.take db s3
      obtain ⟨tsL3, hL3, hLt3⟩ := I3.ex
      have hL3' := s3 _ _ ((off_ne Lb).trans hL2)
      rw [hL3] at hL3'
      cases hL3'
      obtain ⟨⟨y, z⟩, hyz⟩ : ∃ e, rem[r]? = some e := ⟨_, List.getElem?_eq_getElem hr3⟩
      have hin := hrem _ (List.mem_of_getElem? hyz)
      obtain ⟨hy, hz, ne⟩ := wb.wg.mem _ hin
      have ad : adj es y z = true := adj_iff.mpr (.inl hin)
      obtain ⟨v, hv, hvd⟩ := hLt3.get (tD_get hyz)
      obtain ⟨t, rfl, ht⟩ := hvd.tie_inv
      have tL : t ≠ L := fun e => by
        rw [e, off_same] at ht
        cases ht
      have ht3 : H3 t = some (.tup [.str y, .str z]) := by
        rw [off_ne tL] at ht
        exact ht
      refine ⟨L, _, _, r, _, rfl, rfl, hL3, by omega, by omega, seqN (by omega), hv, ?_⟩
      -- behind the pop
      have I4 : GrowI G L (tD (rem.eraseIdx r)) (upd H3 L (.lst (tsL.eraseIdx r))) := by
        refine ⟨same_mut I3.same GL, GL, _, upd_same, ?_⟩
        rw [off_upd, ← tD_erase]
        exact hLt3.eraseIdx r
      have J4 := J3.mut GL (lst_not_tup hL3) pL (same_offU (o := .lst (tsL.eraseIdx r)))
      have D4 : DictAt ns (upd H3 L (.lst (tsL.eraseIdx r))) d f V.bl := D3.other dL
      have hB4 := hB3.other (o := .lst (tsL.eraseIdx r)) Lb.symm
      have lrem' : (rem.eraseIdx r).length + 1 = rem.length := by
        rw [List.length_eraseIdx, if_pos hr3]
        omega
      have hrem' : ∀ e ∈ rem.eraseIdx r, e ∈ es := fun e he => hrem e (List.mem_of_mem_eraseIdx he)
      have cB : ∀ {H' : Hp} {x : Nat}, BoxAt H' b x → x ≤ c + 3 * (es.length - rem.length) + 3 → BoxAt H' b (c + 3 * (es.length - (rem.eraseIdx r).length)) := fun h hx => h.mono (by omega)
      refine ⟨t, _, rfl, SqT.of ((upd_ne tL).trans ht3), rfl, _, _, rfl, _, _, rfl, rfl, ?_⟩
      refine ⟨_, rfl, _, rfl, d, _, rfl, D4.get y, _, rfl, ?_⟩
      rw [Option.isSome_map, hf y]
      cases dy : decide (y ∈ ends X) with
      | true => exact ifF rfl (ifF rfl ⟨_, _, _, X, f, rfl, lrem', I4, J4, D4, cB hB4 (by omega), hrem', hX, hf⟩)
      | false =>
        refine ifT rfl ⟨_, rfl, _, rfl, d, _, rfl, D4.get z, _, rfl, ?_⟩
        rw [Option.isSome_map, hf z]
        cases dz : decide (z ∈ ends X) with
        | true => exact ifF rfl (ifF rfl ⟨_, _, _, X, f, rfl, lrem', I4, J4, D4, cB hB4 (by omega), hrem', hX, hf⟩)
        | false =>
          refine ifT rfl ⟨_, rfl, b, 5, _, rfl, by decide, by decide, hB4, by omega, fun H5 r5 hr5 s5 hB5 => ⟨_, _, rfl, rfl, _, rfl, ?_⟩⟩
          obtain ⟨xb4, hb4⟩ := hB4.lst
          have I5 := I4.mut gb (lst_not_tup hb4) Lb s5
          have J5 := J4.mut gb (lst_not_tup hb4) pb s5
          have D5 := D4.take db s5
          by_cases h0 : (0 : Int) < (r5 : Int)
          · refine ifT (decide_eq_true h0) ?_
            obtain ⟨u1, p1, D6⟩ := D5.put true hy hl1
            refine ⟨_, rfl, _, rfl, d, _, rfl, p1, ?_⟩
            obtain ⟨u2, p2, D7⟩ := D6.put true hz hl1
            refine ⟨_, rfl, _, rfl, d, _, rfl, p2, ?_⟩
            obtain ⟨kv5, hk5, _⟩ := D5.ex
            obtain ⟨kv6, hk6, _⟩ := D6.ex
            have I7 := (I5.mut Gd (dK_not_tup hk5) dL.symm (same_offU (o := u1))).mut Gd (dK_not_tup hk6) dL.symm (same_offU (o := u2))
            have J7 := (J5.mut Gd (dK_not_tup hk5) pd (same_offU (o := u1))).mut Gd (dK_not_tup hk6) pd (same_offU (o := u2))
            have hB7 := (hB5.other (o := u1) db.symm).other (o := u2) db.symm
            obtain ⟨H7, e7⟩ : ∃ H7, H7 = upd (upd H5 d u1) d u2 := ⟨_, rfl⟩
            rw [← e7] at I7 J7 hB7 D7 ⊢
            obtain ⟨tsX, hp7, _⟩ := J7.ex
            refine ⟨_, rfl, .inl ⟨rfl, _, SqL.of hp7⟩, ?_⟩
            refine ⟨_, rfl, _, rfl, (by show 2 ≤ sizeLine; decide), fun t1 nt1 => ?_⟩
            have sa := same_new (o := .tup [.str y, .str z]) (Same.refl H7) nt1
            refine ⟨_, rfl, _, rfl, (by show 2 ≤ sizeLine; decide), fun t2 nt2 => ?_⟩
            have sb := same_new (o := .tup [.str z, .str y]) sa nt2
            refine ⟨(by show 2 ≤ sizeLine; decide), fun q nq => ?_⟩
            have sc := same_new (o := .lst [.ref t1, .ref t2]) sb nq
            have hB8 := hB7.same sc
            obtain ⟨xb8, hb8⟩ := hB8.lst
            obtain ⟨xb7, hb7⟩ := (hB7.same sb).lst
            have qb : q ≠ b := (ne_of_none hb7 nq).symm
            have I8 := I7.step sc
            have J8 := J7.step sc
            have D8 := D7.mono sc
            obtain ⟨H8, e8⟩ : ∃ H8, H8 = upd (upd (upd H7 t1 (.tup [.str y, .str z])) t2 (.tup [.str z, .str y])) q (.lst [.ref t1, .ref t2]) := ⟨_, rfl⟩
            have ht2 : H8 t2 = some (.tup [.str z, .str y]) := by rw [e8]; exact (same_new (o := .lst [.ref t1, .ref t2]) (Same.refl _) nq) _ _ upd_same
            have ht1 : H8 t1 = some (.tup [.str y, .str z]) := by rw [e8]; exact (same_new (o := .lst [.ref t1, .ref t2]) (same_new (o := .tup [.str z, .str y]) (Same.refl _) nt2) nq) _ _ upd_same
            have hq8 : H8 q = some (.lst [.ref t1, .ref t2]) := by rw [e8, upd_same]
            rw [← e8] at hB8 hb8 I8 J8 D8 ⊢
            refine ⟨_, rfl, b, 2, _, rfl, by decide, by decide, hB8, by omega, fun H9 r9 hr9 s9 hB9 => ?_⟩
            have I9 := I8.mut gb (lst_not_tup hb8) Lb s9
            have J9 := J8.mut gb (lst_not_tup hb8) pb s9
            have D9 := D8.take db s9
            have keep : ∀ {a : Addr} {xs : List V}, H8 a = some (.tup xs) → H9 a = some (.tup xs) := fun {a xs} h => s9 _ _ ((off_ne (ne_of h hb8 (by intro z; cases z))).trans h)
            have hq9 := s9 _ _ ((off_ne qb).trans hq8)
            obtain ⟨tsX9, hp9, hpt9⟩ := J9.ex
            have tp : ∀ {a : Addr} {xs : List V}, H9 a = some (.tup xs) → off H9 p a = some (.tup xs) := fun h => (off_ne (ne_of h hp9 (by intro z; cases z))).trans h
            obtain ⟨v, e, hv, hve, hae, hen⟩ : ∃ (v : V) (e : Str × Str), [V.ref t1, V.ref t2][r9]? = some v ∧ Dq (off H9 p) v (tieD e) ∧ (e = (y, z) ∨ e = (z, y)) ∧ True := by
              have : r9 = 0 ∨ r9 = 1 := by omega
              rcases this with rfl | rfl
              · exact ⟨_, (y, z), rfl, .tie (tp (keep ht1)), .inl rfl, trivial⟩
              · exact ⟨_, (z, y), rfl, .tie (tp (keep ht2)), .inr rfl, trivial⟩
            refine ⟨_, _, _, _, rfl, rfl, SqL.of hq9, atI_nat hv, ?_⟩
            have lX := valid_len wb.wg hX
            have ln14 := wb.ln
            obtain ⟨acc, g2, g3, J10⟩ := J9.push (Same.refl H9) hve (by unfold tD; rw [List.length_map]; omega)
            have hXe : ValidP es (X ++ [e]) := by
              rcases hae with rfl | rfl
              · exact validP_more hX ad ne (of_decide_eq_false dy) (of_decide_eq_false dz)
              · exact validP_more hX (by rw [adj_comm]; exact ad) ne.symm (of_decide_eq_false dz) (of_decide_eq_false dy)
            refine ⟨p, _, _, rfl, rfl, g2, g3, _, _, _, X ++ [e], _, rfl, lrem', I9.mut Gp (lst_not_tup hp9) pL.symm same_offU, ?_, D9.other pd.symm, cB (hB9.other pb.symm) (by omega), hrem', hXe, fun u => ?_⟩
            · unfold tD at J10 ⊢
              rw [List.map_append]
              exact J10
            · have em : decide (u ∈ ends (X ++ [e])) = (decide (u ∈ ends X) || (decide (u = y) || decide (u = z))) := by
                refine Bool.eq_iff_iff.mpr ?_
                rw [ends_append, Bool.or_eq_true, Bool.or_eq_true, decide_eq_true_eq, decide_eq_true_eq, decide_eq_true_eq, decide_eq_true_eq, List.mem_append]
                refine or_congr_right ?_
                rcases hae with rfl | rfl
                · show u ∈ [y, z] ↔ _
                  rw [List.mem_cons, List.mem_singleton]
                · show u ∈ [z, y] ↔ _
                  rw [List.mem_cons, List.mem_singleton]
                  exact Or.comm
              rw [em]
              by_cases q1 : u = z
              · rw [q1, put_same, decide_eq_true (rfl : z = z), Bool.or_true, Bool.or_true]
                rfl
              · rw [put_ne _ _ q1]
                by_cases q2 : u = y
                · rw [q2, put_same, decide_eq_true (rfl : y = y), Bool.true_or, Bool.or_true]
                  rfl
                · rw [put_ne _ _ q2, hf u, decide_eq_false q1, decide_eq_false q2, Bool.or_false, Bool.or_false]
          · refine ifF (decide_eq_false h0) ?_
            exact ⟨_, _, _, X, f, rfl, lrem', I5, J5, D5, cB hB5 (by omega), hrem', hX, hf⟩
end
end K27

namespace K27
open PySem PySem.Spec PyProof.Rows L2 KM
theorem coverN_nD {ns : List Str} : ∀ (l s : List Str), (∀ z ∈ l, z ∈ ns) → (s ++ l).Nodup → coverN ns (nD l) s = some (s ++ l)
  | [], s, _, _ => by rw [List.append_nil]; rfl
  | z :: r, s, h, nd => by
    have nd2 := List.nodup_append.mp nd
    have n1 : decide (z ∈ s) = false := decide_eq_false fun q => nd2.2.2 z q z List.mem_cons_self rfl
    have e : coverN ns (PyData.str z :: nD r) s = coverN ns (nD r) (s ++ [z]) := coverN_yes (d := .str z) (decide_eq_true (h z List.mem_cons_self)) n1
    show coverN ns (PyData.str z :: nD r) s = _
    rw [e, coverN_nD r (s ++ [z]) (fun y hy => h y (List.mem_cons_of_mem _ hy)) (by rw [List.append_assoc]; exact nd), List.append_assoc]
    rfl
theorem coverB_valid {ns : List Str} {es : List (Str × Str)} {l : List Str} (h : ∀ z ∈ l, z ∈ ns) (nd : l.Nodup) : coverB ns es (.list (nD l)) = true ↔ ValidC ns es l := by
  have e : coverB ns es (.list (nD l)) = coversB es l := by
    show (match coverN ns (nD l) [] with | none => false | some C => coversB es C) = _
    rw [coverN_nD l [] h nd]
    rfl
  rw [e]
  unfold coversB
  rw [List.all_eq_true]
  constructor
  · intro q
    refine ⟨nd, h, fun e he => ?_⟩
    have := q e he
    rw [Bool.or_eq_true, decide_eq_true_eq, decide_eq_true_eq] at this
    exact this
  · intro q e he
    rw [Bool.or_eq_true, decide_eq_true_eq, decide_eq_true_eq]
    exact q.cov e he
section
variable {P : Program} {w : World} {K : PySem.W.Frag} {mg : Str → Option Value} {base : Heap}
def spLCover (K : PySem.W.Frag) : Sp := fun vs H Q _ => ∃ (G : Hp) (b n l : Addr) (c : Nat) (ns : List Str) (es : List (Str × Str)), vs = [.ref b, .ref n, .ref l] ∧ Same G H ∧ G b = none ∧ G n = some (.lst (nv ns)) ∧ Dq G (.ref l) (.list (tD es)) ∧ Wb ns es ∧ BoxAt H b c ∧ c ≤ 100000 ∧
  ∀ H' q C, Same G H' → BoxAt H' b (c + 100) → q ≠ b → H' q = some (.lst (nv C)) → ValidC ns es C → Q (.ref q) H'
theorem nv_erase : ∀ (l : List Str) (r : Nat), (nv l).eraseIdx r = nv (l.eraseIdx r)
  | [], _ => rfl
  | _ :: _, 0 => rfl
  | e :: es, r + 1 => congrArg (V.str e :: ·) (nv_erase es r)
theorem ok_L_cover (T : Tx K mg) (F1 : Fok P w K mg base CX0 1 (He.ga K "_law_take") ["_law_box_here", "_law_many"] spLTake) (F2 : Fok P w K mg base CX0 1 (He.ga K "_law_is_cover") ["_law_names_here", "_law_ties", "_law_thing"] (spLIsCover K)) :
    Fok P w K mg base CX0 2 (He.ga K "_law_cover") ["_law_box_here", "_law_names_here", "_law_ties"] (spLCover K) := by
  obtain ⟨fd, F⟩ := T.f_L_cover
  obtain ⟨_, G_L_take, b_L_take, k_L_take⟩ := F1
  obtain ⟨_, G_L_is_cover, b_L_is_cover, k_L_is_cover⟩ := F2
  refine ⟨fd, F.ok scL_cover (fun vs H Q E h => ?_) (fun cdv A outer s H vs Q E hr h => ?_), b_L_cover F, F.kp⟩
  · obtain ⟨G, b, n, l, c, ns, es, rfl, _⟩ := h
    rfl
  · obtain ⟨G, b, n, l, c, ns, es, rfl, sG, gb, hn, hl, wb, hB, hc, k⟩ := h
    have ln14 := wb.ln
    refine ⟨_, PSs.nox (pss_cons (ps_set (i := 3) scL_cover.nd rfl (Or.inl rfl) (pe_callTy call_list_of (by rfl) T.z_list (by decide +kernel) (pa_cons (pv 1) pa_nil)))
    (pss_cons (ps_set (i := 4) scL_cover.nd rfl (Or.inl rfl) (pe_callTy call_list_of (by rfl) T.z_list (by decide +kernel) (pa_cons (pv 1) pa_nil)))
    (pss_cons (ps_while PassesOwn.never (pt_cmpR (op_neD hr.units) (pv 4) (pe_lst pa_nil) (nomark _)) (pss_cons (ps_set (i := 5) scL_cover.nd rfl (Or.inr rfl) (pe_bm PySem.F.plainAttrs_list PySem.F.slot_list_pop PySem.F.type_list_pop mt_popAt (pv 4) (pa_cons (pe_call G_L_take (hr.mono (by decide)) rfl T.g_L_take k_L_take b_L_take .nil pass0 (pa_cons (pv 0) (pa_cons (pe_callB call_len_seq (by rfl) T.z_len (by decide +kernel) (pa_cons (pv 4) pa_nil)) pa_nil))) pa_nil)))
    (pss_cons (ps_setLc (i := 6) (own := [("_law_other", 7)]) rfl scL_cover.nd rfl rfl (sw_true rfl rfl rfl (by decide +kernel)) (pi_list (pv 3)) (blkOk_by (own := [("_law_other", 7)]) (N := NL_cover) (sc := defScope sL_cover) (by decide +kernel)) (fun _ _ _ _ _ => (pg_name (i := 7) scL_cover.nd rfl (Or.inl rfl))) (fun _ _ _ _ _ => (pts_one (pt_cmpR op_ne (pv 7) (pv 5) (nomark _)))) (fun _ _ _ _ _ => (pv 7)))
    (pss_one (ps_if (pt_val (pe_call G_L_is_cover (hr.mono (by decide)) rfl T.g_L_is_cover k_L_is_cover b_L_is_cover .nil pass0 (pa_cons (pv 1) (pa_cons (pv 2) (pa_cons (pv 6) pa_nil))))) (pss_one (ps_set (i := 3) scL_cover.nd rfl (Or.inl rfl) (pv 6))) pss_nil)))))
    (pss_one (ps_ret (pv 3)))))), ?_⟩
    refine ⟨_, rfl, n, _, rfl, .inl (SqL.of (sG _ _ hn)), fun q0 fq => ?_⟩
    have s1 := same_new (o := .lst (nv ns)) sG fq
    refine ⟨_, rfl, n, _, rfl, .inl (SqL.of (s1 _ _ hn)), fun L fL => ?_⟩
    have s2 := same_new (o := .lst (nv ns)) s1 fL
    obtain ⟨xb, hb⟩ := hB.lst
    have q0b : q0 ≠ b := (ne_of_none hb fq).symm
    have Lb : L ≠ b := (ne_of_none ((upd_ne q0b.symm).trans hb) fL).symm
    have q0L : q0 ≠ L := ne_of_none upd_same fL
    have GL : G L = none := s1.free fL
    refine ⟨fun m σ H' => ∃ (v5 v6 v7 : Option V) (q : Addr) (rem C : List Str), σ = [some (.ref b), some (.ref n), some (.ref l), some (.ref q), some (.ref L), v5, v6, v7] ∧ m = rem.length ∧ Same G H' ∧ H' L = some (.lst (nv rem)) ∧ H' q = some (.lst (nv C)) ∧ q ≠ b ∧ q ≠ L ∧ ValidC ns es C ∧
      BoxAt H' b (c + (ns.length - rem.length)) ∧ rem.length ≤ ns.length ∧ ∀ z ∈ rem, z ∈ ns,
      ⟨_, none, none, none, q0, ns, ns, rfl, rfl, s2, upd_same, by rw [upd_ne q0L, upd_same], q0b, q0L, validC_all wb.wg, by rw [Nat.sub_self]; exact (hB.other q0b.symm).other Lb.symm, Nat.le_refl _, fun _ h => h⟩, ?_⟩
    rintro m σ H1 ⟨v5, v6, v7, q, rem, C, rfl, rfl, sH, hL, hq, qb, qL, hC, hB1, lrem, hrem⟩
    refine ⟨_, rfl, Nat.zero_le _, fun e1 ne1 => ?_⟩
    have se := same_new (o := .lst []) (Same.refl H1) ne1
    have hL2 := se _ _ hL
    have hq2 := se _ _ hq
    have hB2 := hB1.same se
    have sH2 := sH.trans se
    refine ⟨.list (nD rem), .list [], .lst (SqL.of hL2) (Dqs.dp _ _ (Dqs.nv (H := upd H1 e1 (.lst [])) _) (canN fun y hy => wb.ok y (hrem y hy))), .lst (SqL.of upd_same) .nil, shN (fun y hy => wb.ok y (hrem y hy)), shape_nil, _, rfl, ?_⟩
    rw [eqv_nil]
    obtain ⟨H2, e2⟩ : ∃ H2, H2 = upd H1 e1 (.lst []) := ⟨_, rfl⟩
    rw [← e2] at hL2 hq2 hB2 sH2 ⊢
    cases hrc : rem with
    | nil =>
      refine ifF rfl ?_
      exact ⟨_, rfl, k H2 q C sH2 (hB2.mono (by omega)) qb hq2 hC⟩
    | cons z0 r0 =>
      refine ifT rfl ?_
      have lpos : 0 < rem.length := by rw [hrc]; exact Nat.succ_pos _
      refine ⟨fun σ' H' => ∃ (v5 v6 v7 : Option V) (q : Addr) (rem' C : List Str), σ' = [some (.ref b), some (.ref n), some (.ref l), some (.ref q), some (.ref L), v5, v6, v7] ∧ rem'.length + 1 = rem.length ∧ Same G H' ∧ H' L = some (.lst (nv rem')) ∧ H' q = some (.lst (nv C)) ∧ q ≠ b ∧ q ≠ L ∧ ValidC ns es C ∧
        BoxAt H' b (c + (ns.length - rem'.length)) ∧ ∀ z ∈ rem', z ∈ ns, fun σ' H' ⟨v5, v6, v7, q, rem', C, a1, a2, a3, a4, a5, a6, a7, a8, a9, a10⟩ => ⟨_, by rw [← hrc]; omega, v5, v6, v7, q, rem', C, a1, rfl, a3, a4, a5, a6, a7, a8, a9, by omega, a10⟩, ?_⟩
      refine ⟨_, rfl, .inl ⟨rfl, _, SqL.of hL2⟩, _, rfl, _, rfl, L, _, rfl, .inl (SqL.of hL2), b, _, _, rfl, by rw [nv_len]; omega, by rw [nv_len]; omega, hB2, by omega, fun H3 r hr3 s3 hB3 => ?_⟩
      rw [nv_len] at hr3
      have hr3 : r < rem.length := by omega
      have sH3 := (same_to sH2 gb).trans s3
      have hL3 := s3 _ _ ((off_ne Lb).trans hL2)
      have hq3 := s3 _ _ ((off_ne qb).trans hq2)
      obtain ⟨z, hz⟩ : ∃ z, rem[r]? = some z := ⟨_, List.getElem?_eq_getElem hr3⟩
      have hzn := hrem _ (List.mem_of_getElem? hz)
      refine ⟨L, _, _, r, _, rfl, rfl, hL3, by omega, by omega, seqN (by rw [nv_len]; omega), nv_get hz, ?_⟩
      rw [nv_erase]
      have sH4 : Same G (upd H3 L (.lst (nv (rem.eraseIdx r)))) := same_mut sH3 GL
      have hq4 : upd H3 L (.lst (nv (rem.eraseIdx r))) q = some (.lst (nv C)) := (upd_ne qL).trans hq3
      have hL4 : upd H3 L (.lst (nv (rem.eraseIdx r))) L = some (.lst (nv (rem.eraseIdx r))) := upd_same
      have hB4 := hB3.other (o := .lst (nv (rem.eraseIdx r))) Lb.symm
      obtain ⟨H4, e4⟩ : ∃ H4, H4 = upd H3 L (.lst (nv (rem.eraseIdx r))) := ⟨_, rfl⟩
      rw [← e4] at sH4 hq4 hL4 hB4 ⊢
      have lrem' : (rem.eraseIdx r).length + 1 = rem.length := by
        rw [List.length_eraseIdx, if_pos hr3]
        omega
      have hrem' : ∀ e ∈ rem.eraseIdx r, e ∈ ns := fun e he => hrem e (List.mem_of_mem_eraseIdx he)
      have hB4' : BoxAt H4 b (c + (ns.length - (rem.eraseIdx r).length)) := hB4.mono (by omega)
      -- less
      refine ⟨_, rfl, q, rfl, ⟨_, SqL.of hq4⟩, fun D fD => ?_⟩
      have lC : C.length ≤ 1000 := Nat.le_trans (nodup_sub_len hC.nd hC.sub) (by omega)
      refine lc_list (K := K) (a := q) (xs := nv C) (fun j H6 => SelI H4 D C (fun y => !decide (y = z)) V.str j H6) (SelI.nil (Same.refl _) fD) (fun j H6 _ J => SqL.of (J.same _ _ hq4)) ?_ ?_
      · intro j x H6 hj J2
        obtain ⟨y, hy, rfl⟩ := nv_at hj
        refine ⟨rfl, _, rfl, _, rfl, rfl, _, rfl, ?_⟩
        have e : (!decide (V.str y = V.str z)) = !decide (y = z) := by
          congr 1
          exact decide_eq_decide.mpr ⟨fun h => V.str.inj h, fun h => by rw [h]⟩
        cases e2 : !decide (y = z) with
        | true => exact ifT (e.trans e2) ⟨_, rfl, J2.yes hy (Same.refl H6) e2 rfl lC⟩
        | false => exact ifF (e.trans e2) (J2.no hy (Same.refl H6) e2)
      · intro H6 J
        rw [nv_len] at J
        have hD := J.done
        have sH6 := sH4.trans J.same
        have hB6 := hB4'.same J.same
        obtain ⟨xb4, hb4⟩ := hB4.lst
        have Db : D ≠ b := (ne_of_none hb4 fD).symm
        have DL : D ≠ L := (ne_of_none hL4 fD).symm
        have sub : ∀ y ∈ C.filter (fun y => !decide (y = z)), y ∈ ns := fun y hy => hC.sub y (List.mem_filter.mp hy).1
        have ndl : (C.filter fun y => !decide (y = z)).Nodup := hC.nd.filter _
        refine ⟨_, rfl, _, rfl, _, rfl, n, l, ns, es, .ref D, .list (nD (C.filter fun y => !decide (y = z))), rfl, sH6 _ _ hn, hl.same sH6, wb, .lst hD (Dqs.nv _), fun H7 s7 => ⟨_, rfl, ?_⟩⟩
        have sH7 := sH6.trans s7
        have hB7 := hB6.same s7
        have hL7 := s7 _ _ (J.same _ _ hL4)
        cases ec : coverB ns es (.list (nD (C.filter fun y => !decide (y = z)))) with
        | true =>
          refine ifT rfl ?_
          exact ⟨_, rfl, _, _, _, D, _, _, rfl, lrem', sH7, hL7, s7 _ _ hD, Db, DL, (coverB_valid sub ndl).mp ec, hB7, hrem'⟩
        | false =>
          refine ifF rfl ?_
          exact ⟨_, _, _, q, _, C, rfl, lrem', sH7, hL7, s7 _ _ (J.same _ _ hq4), qb, qL, hC, hB7, hrem'⟩
end
end K27

namespace K27
open PySem PySem.Spec PyProof.Rows L2 KM
/-! ### how long a thing's repr is -/
structure Sm (k m : Nat) (d : PyData) : Prop where
  sh : d.showable = true
  dp : d.depth ≤ k
  ln : d.shown.length ≤ m
theorem Sm.mono {k m k' m' : Nat} {d : PyData} (h : Sm k m d) (hk : k ≤ k') (hm : m ≤ m') : Sm k' m' d := ⟨h.sh, Nat.le_trans h.dp hk, Nat.le_trans h.ln hm⟩
theorem Sm.non : Sm 0 10 .none := ⟨by simp [PyData.showable], by simp [PyData.depth], by rw [PyData.shown]; decide +kernel⟩
theorem Sm.bl (b : Bool) : Sm 0 10 (.bool b) := ⟨by simp [PyData.showable], by simp [PyData.depth], by rw [PyData.shown]; cases b <;> decide +kernel⟩
theorem Sm.int {n : Nat} (h : n ≤ 14) : Sm 0 10 (.int (n : Int)) := by
  refine ⟨?_, by simp [PyData.depth], ?_⟩
  · rw [PyData.showable]
    refine decide_eq_true ?_
    have : ∀ i : Fin 15, ((i.val : Int)).natAbs.log2 < 1920 := by decide +kernel
    exact this ⟨n, by omega⟩
  · rw [PyData.shown]
    have : ∀ i : Fin 15, ((toString (i.val : Int) : String) : Str).length ≤ 10 := by decide +kernel
    exact this ⟨n, by omega⟩
theorem Sm.str {z : Str} {n : Nat} (h : ∀ c ∈ z.cps.toList, c < 16 ^ 8) (l : z.length ≤ n) : Sm 0 (10 * n + 2) (.str z) := by
  refine ⟨by simp [PyData.showable], by simp [PyData.depth], ?_⟩
  rw [PyData.shown]
  have := StrLaws.reprText_len z h
  omega
theorem textFrom_le : ∀ (ts : List Str) (k m : Nat) (acc : Str), (∀ t ∈ ts, t.length ≤ m) → (textFrom k acc ts).length ≤ acc.length + ts.length * (m + 2)
  | [], k, m, acc, _ => by show acc.length ≤ _; omega
  | t :: r, k, m, acc, h => by
    have e : (acc ++ (if k > 0 then ", " else "" : String) ++ t).length = acc.length + (if k > 0 then 2 else 0) + t.length := by
      rw [strLen_append, strLen_append]
      congr 2
      split <;> rfl
    have ih := textFrom_le r (k + 1) m (acc ++ (if k > 0 then ", " else "" : String) ++ t) fun y hy => h y (List.mem_cons_of_mem _ hy)
    have h1 := h t List.mem_cons_self
    rw [e] at ih
    show (textFrom (k + 1) (acc ++ (if k > 0 then ", " else "" : String) ++ t) r).length ≤ _
    rw [List.length_cons, Nat.succ_mul]
    have : (if k > 0 then 2 else 0) ≤ 2 := by split <;> omega
    omega
theorem join_le : ∀ (ts : List Str) (m : Nat), (∀ t ∈ ts, t.length ≤ m) → (Str.join ", " ts).length ≤ ts.length * (m + 2)
  | [], _, _ => Nat.zero_le _
  | [x], m, h => by
    have h1 := h x List.mem_cons_self
    show x.length ≤ 1 * (m + 2)
    omega
  | x :: y :: r, m, h => by
    have ih := join_le (y :: r) m fun z hz => h z (List.mem_cons_of_mem _ hz)
    have h1 := h x List.mem_cons_self
    have e : (Str.join ", " (x :: y :: r)).length = x.length + 2 + (Str.join ", " (y :: r)).length := by
      show (x ++ ", " ++ Str.join ", " (y :: r)).length = _
      rw [strLen_append, strLen_append]
      rfl
    rw [e, List.length_cons, Nat.succ_mul]
    omega
theorem shownAll_len : ∀ ds : List PyData, (PyData.shownAll ds).length = ds.length
  | [] => by rw [PyData.shownAll]; rfl
  | d :: r => by rw [PyData.shownAll, List.length_cons, shownAll_len r, List.length_cons]
theorem all_sm {k m : Nat} : ∀ {ds : List PyData}, (∀ d ∈ ds, Sm k m d) → PyData.showableAll ds = true ∧ PyData.depthAll ds ≤ k ∧ ∀ t ∈ PyData.shownAll ds, t.length ≤ m
  | [], _ => ⟨by rw [PyData.showableAll], by rw [PyData.depthAll]; exact Nat.zero_le _, by rw [PyData.shownAll]; exact fun _ h => nomatch h⟩
  | d :: r, h => by
    obtain ⟨h1, h2, h3⟩ := all_sm fun y hy => h y (List.mem_cons_of_mem _ hy)
    have q := h d List.mem_cons_self
    refine ⟨by rw [PyData.showableAll, q.sh, h1]; rfl, by rw [PyData.depthAll]; exact Nat.max_le.mpr ⟨q.dp, h2⟩, ?_⟩
    rw [PyData.shownAll]
    intro t ht
    rcases List.mem_cons.mp ht with e | e
    · rw [e]
      exact q.ln
    · exact h3 t e
theorem Sm.list {k m n : Nat} {ds : List PyData} (h : ∀ d ∈ ds, Sm k m d) (l : ds.length ≤ n) : Sm (k + 1) (n * (m + 2) + 4) (.list ds) := by
  obtain ⟨h1, h2, h3⟩ := all_sm h
  refine ⟨by rw [PyData.showable]; exact h1, by rw [PyData.depth]; omega, ?_⟩
  rw [PyData.shown]
  unfold listText
  rw [strLen_append]
  have q := textFrom_le (PyData.shownAll ds) 0 m "[" h3
  rw [shownAll_len] at q
  have e1 : (("[" : String) : Str).length = 1 := rfl
  have e2 : (("]" : String) : Str).length = 1 := rfl
  have : ds.length * (m + 2) ≤ n * (m + 2) := Nat.mul_le_mul_right _ l
  omega
theorem Sm.tup {k m n : Nat} {ds : List PyData} (h : ∀ d ∈ ds, Sm k m d) (l : ds.length ≤ n) : Sm (k + 1) (n * (m + 2) + 4) (.tuple ds) := by
  obtain ⟨h1, h2, h3⟩ := all_sm h
  refine ⟨by rw [PyData.showable]; exact h1, by rw [PyData.depth]; omega, ?_⟩
  rw [PyData.shown]
  unfold tupleText
  rw [strLen_append, strLen_append]
  have q := join_le (PyData.shownAll ds) m h3
  rw [shownAll_len] at q
  have e1 : (("(" : String) : Str).length = 1 := rfl
  have e2 : ((if (PyData.shownAll ds).length == 1 then ",)" else ")" : String) : Str).length ≤ 2 := by split <;> decide +kernel
  have : ds.length * (m + 2) ≤ n * (m + 2) := Nat.mul_le_mul_right _ l
  omega
theorem Sm.dict {n : Nat} {zs : List Str} (h : ∀ z ∈ zs, Sm 0 100 (.str z)) (l : zs.length ≤ n) : Sm 1 (n * 120 + 4) (.dict (zs.map fun z => (PyData.str z, PyData.bool true))) := by
  have key : PyData.showableKv (zs.map fun z => (PyData.str z, PyData.bool true)) = true ∧ PyData.depthKv (zs.map fun z => (PyData.str z, PyData.bool true)) = 0 ∧ (PyData.shownKv (zs.map fun z => (PyData.str z, PyData.bool true))).length = zs.length ∧ ∀ t ∈ PyData.shownKv (zs.map fun z => (PyData.str z, PyData.bool true)), t.length ≤ 118 := by
    clear l
    induction zs with
    | nil => exact ⟨by rw [List.map_nil, PyData.showableKv], by rw [List.map_nil, PyData.depthKv], by rw [List.map_nil, PyData.shownKv, List.length_nil], by rw [List.map_nil, PyData.shownKv]; exact fun _ h => nomatch h⟩
    | cons z r ih =>
      obtain ⟨i1, i2, i3, i4⟩ := ih fun y hy => h y (List.mem_cons_of_mem _ hy)
      have q := h z List.mem_cons_self
      refine ⟨by rw [List.map_cons, PyData.showableKv, i1]; simp [PyData.showable], by rw [List.map_cons, PyData.depthKv, i2]; simp [PyData.depth], by rw [List.map_cons, PyData.shownKv, List.length_cons, i3, List.length_cons], ?_⟩
      rw [List.map_cons, PyData.shownKv]
      intro t ht
      rcases List.mem_cons.mp ht with e | e
      · rw [e, strLen_append, strLen_append]
        have q1 := q.ln
        have q2 := (Sm.bl true).ln
        have e1 : ((": " : String) : Str).length = 2 := rfl
        omega
      · exact i4 t e
  obtain ⟨i1, i2, i3, i4⟩ := key
  refine ⟨by rw [PyData.showable]; exact i1, by rw [PyData.depth, i2]; exact Nat.le_refl _, ?_⟩
  rw [PyData.shown]
  unfold dictText
  rw [strLen_append, strLen_append]
  have q := join_le _ 118 i4
  rw [i3] at q
  have e1 : (("{" : String) : Str).length = 1 := rfl
  have e2 : (("}" : String) : Str).length = 1 := rfl
  have : zs.length * 120 ≤ n * 120 := Nat.mul_le_mul_right _ l
  omega
end K27

namespace K27
open PySem PySem.Spec PyProof.Rows L2 KM
theorem joinSp : ∀ (ts : List Str) (m : Nat), (∀ t ∈ ts, t.length ≤ m ∧ ∀ c ∈ t.cps.toList, c < 16 ^ 8) → (Str.join " " ts).length ≤ ts.length * (m + 1) ∧ ∀ c ∈ (Str.join " " ts).cps.toList, c < 16 ^ 8
  | [], _, _ => ⟨Nat.zero_le _, fun _ h => nomatch h⟩
  | [x], m, h => by
    obtain ⟨h1, h2⟩ := h x List.mem_cons_self
    refine ⟨?_, h2⟩
    show x.length ≤ 1 * (m + 1)
    omega
  | x :: y :: r, m, h => by
    have ih := joinSp (y :: r) m fun z hz => h z (List.mem_cons_of_mem _ hz)
    obtain ⟨h1, h2⟩ := h x List.mem_cons_self
    have e0 : Str.join " " (x :: y :: r) = x ++ " " ++ Str.join " " (y :: r) := rfl
    have e : (Str.join " " (x :: y :: r)).length = x.length + 1 + (Str.join " " (y :: r)).length := by
      rw [e0, strLen_append, strLen_append]
      rfl
    refine ⟨?_, fun c hc => ?_⟩
    · rw [e, List.length_cons, Nat.succ_mul]
      have := ih.1
      omega
    · rw [e0, cps_toList_append, cps_toList_append] at hc
      rcases List.mem_append.mp hc with q | q
      · rcases List.mem_append.mp q with q | q
        · exact h2 c q
        · have all : ∀ c ∈ (" " : Str).cps.toList, c < 16 ^ 8 := by decide +kernel
          exact all c q
      · exact ih.2 c q
theorem joinSz {C : List Str} (h : ∀ z ∈ C, z.length ≤ 6) (l : C.length ≤ 14) : (C.map (·.length)).sum + C.length * (" " : Str).length ≤ 16777216 := by
  have k : (C.map (·.length)).sum ≤ C.length * 6 := by
    clear l
    induction C with
    | nil => exact Nat.zero_le _
    | cons z r ih =>
      rw [List.map_cons, List.sum_cons, List.length_cons, Nat.succ_mul]
      have := ih fun y hy => h y (List.mem_cons_of_mem _ hy)
      have := h z List.mem_cons_self
      omega
  have e : (" " : Str).length = 1 := by decide +kernel
  rw [e]
  omega
theorem joinSm {C : List Str} (h : ∀ z ∈ C, z.length ≤ 6 ∧ ∀ c ∈ z.cps.toList, c < 16 ^ 8) (l : C.length ≤ 14) : Sm 5 20000 (.str (Txt.join " " C)) := by
  obtain ⟨h1, h2⟩ := joinSp C 6 h
  rw [TL.join_eq " " C]
  refine (Sm.str (n := 200) h2 ?_).mono (by decide) (by decide)
  omega
def kvC (C : List Str) : List (Key × V) := C.map fun z => ((Sum.inr z : Key), V.bl true)
theorem mergeC : ∀ (C acc : List Str), (acc ++ C).Nodup → mergeK (kvC acc) (kvC C) = kvC (acc ++ C)
  | [], acc, _ => by rw [List.append_nil]; rfl
  | z :: r, acc, h => by
    have ih := mergeC r (acc ++ [z]) (by rw [List.append_assoc]; exact h)
    have hz : z ∉ acc := fun q => by
      have := (List.nodup_append.mp h).2.2 z q z List.mem_cons_self
      exact this rfl
    have e : putK (kvC acc) (Sum.inr z) (V.bl true) = kvC (acc ++ [z]) := by
      unfold putK
      rw [if_neg]
      · unfold kvC
        rw [List.map_append]
        rfl
      · intro q
        obtain ⟨p, hp, q⟩ := List.any_eq_true.mp q
        obtain ⟨y, hy, rfl⟩ := List.mem_map.mp hp
        have := of_decide_eq_true q
        rw [Sum.inr.inj this] at hy
        exact hz hy
    show mergeK (putK (kvC acc) (Sum.inr z) (V.bl true)) (kvC r) = _
    rw [e, ih, List.append_assoc]
    rfl
theorem dict_sm {C : List Str} (h : ∀ z ∈ C, NameOk z) (l : C.length ≤ 14) (s : ∀ z ∈ C, Sm 0 62 (.str z)) : Sm 5 20000 (.dict (C.map fun z => (PyData.str z, PyData.bool true))) :=
  (Sm.dict (fun z hz => (s z hz).mono (by decide) (by decide)) l).mono (by decide) (by decide)
/-- pairs gathered by a comprehension -/
structure PrI (K : PySem.W.Frag) (G : Hp) (D : Addr) (C : List Str) (H : Hp) : Prop where
  same : Same G H
  new : G D = none
  ex : ∃ ps : List Addr, H D = some (.lst (ps.map V.ref)) ∧ Paired (fun p (kv : Key × V) => H p = some (.tup [kV kv.1, kv.2])) ps (kvC C)
theorem Paired.len {α β : Type} {F : α → β → Prop} : ∀ {l₁ : List α} {l₂ : List β}, Paired F l₁ l₂ → l₁.length = l₂.length
  | _, _, .nil => rfl
  | _, _, .cons _ t => congrArg (· + 1) (Paired.len t)
section
variable {K : PySem.W.Frag} {G H : Hp} {D : Addr} {C : List Str} {z : Str} {p : Addr}
theorem PrI.nil (s : Same G H) (n : H D = none) : PrI K G D [] (upd H D (.lst [])) := ⟨same_new s n, s.free n, [], upd_same, .nil⟩
theorem PrI.push (I : PrI K G D C H) (np : H p = none) (hl : C.length ≤ 100) :
    ∃ acc, upd H p (.tup [.str z, .bl true]) D = some (.lst acc) ∧ acc.length < sizeLine ∧ PrI K G D (C ++ [z]) (upd (upd H p (.tup [.str z, .bl true])) D (.lst (acc ++ [.ref p]))) := by
  obtain ⟨ps, h, t⟩ := I.ex
  have ne : D ≠ p := ne_of_none h np
  have s1 : Same H (upd H p (.tup [.str z, .bl true])) := same_new (Same.refl H) np
  refine ⟨_, s1 _ _ h, ?_, same_mut (I.same.trans s1) I.new, I.new, ps ++ [p], ?_, ?_⟩
  · have := Paired.len t
    have e : (kvC C).length = C.length := List.length_map ..
    rw [List.length_map]
    have : ps.length ≤ 100 := by omega
    exact Nat.lt_of_le_of_lt this (by decide)
  · rw [upd_same, List.map_append]
    rfl
  · have e : kvC (C ++ [z]) = kvC C ++ [((Sum.inr z : Key), V.bl true)] := by
      unfold kvC
      rw [List.map_append]
      rfl
    rw [e]
    refine Paired.snoc (Paired.mapP t fun q kv hq => ?_) ?_
    · have nq : q ≠ D := fun e => by
        rw [e, h] at hq
        cases hq
      rw [upd_ne nq]
      exact s1 _ _ hq
    · rw [upd_ne ne.symm, upd_same]
      rfl
theorem PrI.sq (I : PrI K G D C H) : ∃ ps : List Addr, SqL K H D (ps.map V.ref) ∧ Paired (fun p (kv : Key × V) => SqT K H p [kV kv.1, kv.2]) ps (kvC C) := by
  obtain ⟨ps, h, t⟩ := I.ex
  exact ⟨ps, SqL.of h, Paired.mapP t fun q kv hq => SqT.of hq⟩
end
end K27

namespace K27
open PySem PySem.Spec PyProof.Rows L2 KM
def rvD (e : Str × Str) : PyData := .tuple [.str e.2, .str e.1]
def lsD (e : Str × Str) : PyData := .list [.str e.1, .str e.2]
theorem eqv_nil0 (ds : List PyData) : PyData.eqv (.list ds) (.list []) = ds.isEmpty := by
  cases ds with
  | nil => simp [PyData.eqv, PyData.eqvAll]
  | cons d r => simp [PyData.eqv, PyData.eqvAll]
def cutD (ds : List PyData) (lo hi : Option Int) : List PyData := (ds.drop (HT.sIx ds.length 0 lo)).take (HT.sIx ds.length ds.length hi - HT.sIx ds.length 0 lo)
theorem cutD_dq {H : Hp} {vs : List V} {ds : List PyData} (h : Dqs H vs ds) (lo hi : Option Int) : Dqs H (cutV vs lo hi) (cutD ds lo hi) := by
  unfold cutV cutD
  rw [h.length]
  exact (h.drop _).take _
theorem mem_cutD {ds : List PyData} {lo hi : Option Int} {d : PyData} (h : d ∈ cutD ds lo hi) : d ∈ ds := List.mem_of_mem_drop (List.mem_of_mem_take h)
theorem len_cutD (ds : List PyData) (lo hi : Option Int) : (cutD ds lo hi).length ≤ ds.length := by
  unfold cutD
  rw [List.length_take, List.length_drop]
  omega
theorem mixSm {ds : List PyData} {d : PyData} (lo hi lo' hi' : Option Int) (h : ∀ x ∈ ds, Sm 1 200 x) (hd : Sm 1 200 d) (l : ds.length ≤ 14) : Sm 5 20000 (.list ((cutD ds lo hi ++ [d]) ++ cutD ds lo' hi')) := by
  refine (Sm.list (k := 1) (m := 200) (n := 29) (fun x hx => ?_) ?_).mono (by decide) (by decide)
  · rcases List.mem_append.mp hx with q | q
    · rcases List.mem_append.mp q with q | q
      · exact h x (mem_cutD q)
      · rw [List.mem_singleton.mp q]
        exact hd
    · exact h x (mem_cutD q)
  · have h1 := len_cutD ds lo hi
    have h2 := len_cutD ds lo' hi'
    rw [List.length_append, List.length_append]
    show _ + 1 + _ ≤ 29
    omega
theorem addSm {ds : List PyData} {d : PyData} (h : ∀ x ∈ ds, Sm 1 200 x) (hd : Sm 1 200 d) (l : ds.length ≤ 14) : Sm 5 20000 (.list (ds ++ [d])) := by
  refine (Sm.list (k := 1) (m := 200) (n := 15) (fun x hx => ?_) ?_).mono (by decide) (by decide)
  · rcases List.mem_append.mp hx with q | q
    · exact h x q
    · rw [List.mem_singleton.mp q]
      exact hd
  · rw [List.length_append]
    show _ + 1 ≤ 15
    omega
structure GrowB (G : Hp) (b D : Addr) (ds : List PyData) (H : Hp) : Prop where
  same : Same G H
  new : G D = none
  nb : ∃ o, G b = some o
  ex : ∃ ts, H D = some (.lst ts) ∧ Dqs (off (off H b) D) ts ds
section
variable {G H H' : Hp} {b D p : Addr} {ds : List PyData} {d : PyData} {o : HO}
theorem GrowB.ne (I : GrowB G b D ds H) : D ≠ b := fun e => by
  obtain ⟨o, h⟩ := I.nb
  rw [← e, I.new] at h
  cases h
theorem off2 {E E' : Hp} {a c : Addr} (s : Same E E') : Same (off (off E a) c) (off (off E' a) c) := same_offM (same_offM s)
theorem off2_upd {v : HO} : off (off (upd H D v) b) D = off (off H b) D := by
  funext z
  by_cases e : z = D
  · rw [e, off_same, off_same]
  · rw [off_ne e, off_ne e]
    by_cases f : z = b
    · rw [f, off_same, off_same]
    · rw [off_ne f, off_ne f, upd_ne e]
theorem GrowB.nil {u : HO} (hb : H b = some u) (n : H D = none) : GrowB H b D [] (upd H D (.lst [])) := ⟨same_new (Same.refl H) n, n, ⟨u, hb⟩, [], upd_same, .nil⟩
theorem GrowB.push (I : GrowB G b D ds H) (np : H p = none) (hv : ∀ E : Hp, E p = some o → Dq E (.ref p) d) (hl : ds.length ≤ 1000) :
    ∃ acc, upd H p o D = some (.lst acc) ∧ acc.length < sizeLine ∧ GrowB G b D (ds ++ [d]) (upd (upd H p o) D (.lst (acc ++ [.ref p]))) := by
  obtain ⟨ts, h, t⟩ := I.ex
  have s1 : Same H (upd H p o) := same_new (Same.refl H) np
  have nD : D ≠ p := ne_of_none h np
  obtain ⟨u, hu⟩ := I.nb
  have nb : b ≠ p := ne_of_none (I.same _ _ hu) np
  refine ⟨ts, s1 _ _ h, ?_, same_mut (I.same.trans s1) I.new, I.new, ⟨u, hu⟩, _, upd_same, ?_⟩
  · rw [t.length]
    exact Nat.lt_of_le_of_lt hl (by decide)
  · rw [off2_upd]
    exact (t.same (off2 s1)).append (.cons (hv _ (by rw [off_ne nD.symm, off_ne nb.symm, upd_same])) .nil)
theorem GrowB.done (I : GrowB G b D ds H) : Dq (off H b) (.ref D) (.list ds) := by
  obtain ⟨ts, h, t⟩ := I.ex
  exact .lst (by rw [off_ne I.ne]; exact h) (t.same same_off)
end
end K27

namespace K27
open PySem PySem.Spec PyProof.Rows L2 KM
theorem sOk_nm {z : Str} (h : NameOk z) : sOk z := by
  unfold sOk
  rw [PyData.canLay0]
  unfold PyData.strOk
  rw [← Array.all_toList]
  refine List.all_eq_true.mpr fun c hc => decide_eq_true ?_
  have all : ∀ c ∈ ("abcdefghijklmnopqrstuvwxyz" : Str).cps.toList, c < 0x110000 := by decide +kernel
  exact all c (h.2 c hc)
/-- the list under the hand, beside the box -/
structure LH (G : Hp) (b l : Addr) (c n : Nat) (H : Hp) : Prop where
  same : Same G H
  gb : G b = none
  box : BoxAt H b c
  gl : G l = none
  ne : l ≠ b
  ex : ∃ vs ds, H l = some (.lst vs) ∧ Dqs (off (off H b) l) vs ds ∧ (∀ d ∈ ds, Sm 10 100000 d) ∧ vs.length ≤ n
section
variable {G H H' : Hp} {b l p : Addr} {c c' n m : Nat} {o : HO} {vs : List V} {ds : List PyData} {v : V} {d : PyData}
theorem LH.mk' (s : Same G H) (gb : G b = none) (B : BoxAt H b c) (t : Dqs (off H b) vs ds) (sm : ∀ d ∈ ds, Sm 10 100000 d) (np : H p = none) (hn : vs.length ≤ n) : LH G b p c n (upd H p (.lst vs)) := by
  obtain ⟨xs, hb⟩ := B.lst
  have nb : b ≠ p := ne_of_none hb np
  refine ⟨same_new s np, gb, B.other nb, s.free np, nb.symm, vs, ds, upd_same, t.same ?_, sm, hn⟩
  exact same_to (same_offM (same_new (Same.refl H) np)) (by rw [off_ne nb.symm]; exact np)
theorem LH.len (L : LH G b l c n H) (h : n ≤ m) : LH G b l c m H := by
  obtain ⟨vs, ds, h1, h2, h3, h4⟩ := L.ex
  exact ⟨L.same, L.gb, L.box, L.gl, L.ne, vs, ds, h1, h2, h3, Nat.le_trans h4 h⟩
theorem LH.cnt (L : LH G b l c n H) (h : c ≤ c') : LH G b l c' n H := ⟨L.same, L.gb, L.box.mono h, L.gl, L.ne, L.ex⟩
theorem LH.step (L : LH G b l c n H) (s : Same H H') : LH G b l c n H' := by
  obtain ⟨vs, ds, h1, h2, h3, h4⟩ := L.ex
  exact ⟨L.same.trans s, L.gb, L.box.same s, L.gl, L.ne, vs, ds, s _ _ h1, h2.same (off2 s), h3, h4⟩
theorem LH.new (L : LH G b l c n H) (np : H p = none) : LH G b l c n (upd H p o) := L.step (same_new (Same.refl H) np)
theorem LH.bx (L : LH G b l c n H) (s : Same (off H b) H') (B : BoxAt H' b c') : LH G b l c' n H' := by
  obtain ⟨vs, ds, h1, h2, h3, h4⟩ := L.ex
  exact ⟨(same_to L.same L.gb).trans s, L.gb, B, L.gl, L.ne, vs, ds, s _ _ (by rw [off_ne L.ne]; exact h1), h2.same (same_offM (same_to s off_same)), h3, h4⟩
theorem LH.up (L : LH G b l c n H) : Same G (off (off H b) l) := same_to (same_to L.same L.gb) L.gl
theorem LH.at_ (L : LH G b l c n H) (np : H p = none) : off (off (upd H p o) b) l p = some o := by
  obtain ⟨xs, hb⟩ := L.box.lst
  obtain ⟨vs, ds, h1, _⟩ := L.ex
  rw [off_ne (ne_of_none h1 np).symm, off_ne (ne_of_none hb np).symm, upd_same]
theorem LH.s2 (np : H p = none) : Same (off (off H b) l) (off (off (upd H p o) b) l) := off2 (same_new (Same.refl H) np)
theorem LH.push (L : LH G b l c n H) (hv : Dq (off (off H b) l) v d) (sm : Sm 10 100000 d) (hn : n ≤ 1000) :
    ∃ xs, H l = some (.lst xs) ∧ xs.length < sizeLine ∧ LH G b l c (n + 1) (upd H l (.lst (xs ++ [v]))) := by
  obtain ⟨vs, ds, h1, h2, h3, h4⟩ := L.ex
  refine ⟨vs, h1, Nat.lt_of_le_of_lt (Nat.le_trans h4 hn) (by decide), same_mut L.same L.gl, L.gb, L.box.other L.ne.symm, L.gl, L.ne, _, ds ++ [d], upd_same, ?_, fun x hx => ?_, ?_⟩
  · rw [off2_upd]
    exact h2.append (.cons hv .nil)
  · rcases List.mem_append.mp hx with q | q
    · exact h3 x q
    · rw [List.mem_singleton.mp q]
      exact sm
  · rw [List.length_append]
    exact Nat.add_le_add_right h4 1
theorem LH.fin (L : LH G b l c n H) : ∃ ds, Dq (off H b) (.ref l) (.list ds) ∧ ∀ d ∈ ds, Sm 10 100000 d := by
  obtain ⟨vs, ds, h1, h2, h3, h4⟩ := L.ex
  exact ⟨ds, .lst (by rw [off_ne L.ne]; exact h1) (h2.same same_off), h3⟩
theorem LH.E {Hq : Hp} (s : Same (off Hq l) H) : Same (off (off Hq b) l) (off (off H b) l) := by
  refine same_to (same_to (fun x o h => ?_) ?_) off_same
  · refine s x o ?_
    by_cases e : x = l
    · rw [e, off_same] at h
      cases h
    · rw [off_ne e] at h ⊢
      by_cases f : x = b
      · rw [f, off_same] at h
        cases h
      · rw [off_ne f] at h
        exact h
  · by_cases e : b = l
    · rw [← e, off_same]
    · rw [off_ne e, off_same]
end
end K27
namespace K27
open PySem PySem.Spec PyProof.Rows L2 KM
theorem LHhx {H Hq : Hp} {b l : Addr} {x : V} {d : PyData} (h : Dq (off (off Hq b) l) x d) (s : Same (off Hq l) H) : Dq (off (off H b) l) x d := h.same (LH.E s)
theorem cutV_len {xs : List V} {lo hi : Option Int} {k : Nat} (h : xs.length ≤ k) : (cutV xs lo hi).length ≤ k := by
  unfold cutV
  rw [List.length_take, List.length_drop]
  omega
theorem atI_sub {xs : List V} {r : Nat} (h : r < xs.length) : ∃ (j : Nat) (v : V), atI xs ((r : Int) - 1) = some v ∧ xs[j]? = some v := by
  by_cases h0 : r = 0
  · refine ⟨xs.length - 1, xs[xs.length - 1], ?_, List.getElem?_eq_getElem _⟩
    unfold atI ixN
    rw [if_neg (by omega), if_pos (by omega)]
    have e : (((r : Int) - 1) + (xs.length : Int)).toNat = xs.length - 1 := by omega
    show xs[(((r : Int) - 1) + (xs.length : Int)).toNat]? = _
    rw [e]
    exact List.getElem?_eq_getElem _
  · refine ⟨r - 1, xs[r - 1], ?_, List.getElem?_eq_getElem _⟩
    have e : ((r : Int) - 1) = ((r - 1 : Nat) : Int) := by omega
    rw [e]
    exact atI_nat (List.getElem?_eq_getElem _)
end K27

namespace K27
open PySem PySem.Spec PyProof.Rows L2 KM
theorem nm_sm {z : Str} (h : NameOk z) : Sm 0 62 (.str z) := by
  refine Sm.str (n := 6) (fun c hc => ?_) h.1.2
  have all : ∀ c ∈ ("abcdefghijklmnopqrstuvwxyz" : Str).cps.toList, c < 16 ^ 8 := by decide +kernel
  exact all c (h.2 c hc)
theorem nD_sm {ns : List Str} (h : ∀ z ∈ ns, NameOk z) (l : ns.length ≤ 14) : Sm 1 900 (.list (nD ns)) := by
  refine (Sm.list (k := 0) (m := 62) (n := 14) (fun d hd => ?_) (by unfold nD; rw [List.length_map]; exact l)).mono (by decide) (by decide)
  obtain ⟨z, hz, rfl⟩ := List.mem_map.mp hd
  exact nm_sm (h z hz)
theorem tie_sm {e : Str × Str} (h : NameOk e.1 ∧ NameOk e.2) : Sm 1 132 (tieD e) := by
  refine (Sm.tup (k := 0) (m := 62) (n := 2) (fun d hd => ?_) (Nat.le_refl _)).mono (by decide) (by decide)
  rcases List.mem_cons.mp hd with q | q
  · rw [q]
    exact nm_sm h.1
  · rw [List.mem_singleton.mp q]
    exact nm_sm h.2
theorem tD_sm {es : List (Str × Str)} (h : ∀ e ∈ es, NameOk e.1 ∧ NameOk e.2) (l : es.length ≤ 14) : Sm 2 1900 (.list (tD es)) := by
  refine (Sm.list (k := 1) (m := 132) (n := 14) (fun d hd => ?_) (by unfold tD; rw [List.length_map]; exact l)).mono (by decide) (by decide)
  obtain ⟨e, he, rfl⟩ := List.mem_map.mp hd
  exact tie_sm (h e he)
structure OB (G H : Hp) (b : Addr) (c : Nat) : Prop where
  same : Same G H
  gb : G b = none
  box : BoxAt H b c
section
variable {G H H' : Hp} {b p : Addr} {c : Nat} {o : HO}
theorem OB.nb (O : OB G H b c) (n : H p = none) : p ≠ b := by
  obtain ⟨xs, h⟩ := O.box.lst
  exact (ne_of_none h n).symm
theorem OB.new (O : OB G H b c) (n : H p = none) : OB G (upd H p o) b c := ⟨same_new O.same n, O.gb, O.box.other (O.nb n).symm⟩
theorem OB.step (O : OB G H b c) (s : Same H H') : OB G H' b c := ⟨O.same.trans s, O.gb, O.box.same s⟩
theorem OB.at_ (O : OB G H b c) (n : H p = none) : off (upd H p o) b p = some o := by rw [off_ne (O.nb n), upd_same]
theorem OB.sm (O : OB G H b c) (n : H p = none) : Same (off H b) (off (upd H p o) b) := same_offM (same_new (Same.refl H) n)
theorem OB.up (O : OB G H b c) : Same G (off H b) := same_to O.same O.gb
end
/-- things gathered -/
structure Acc (E : Hp) (vs : List V) (ds : List PyData) : Prop where
  dq : Dqs E vs ds
  sm : ∀ d ∈ ds, Sm 10 100000 d
section
variable {E E' : Hp} {vs us : List V} {ds es : List PyData} {v : V} {d : PyData}
theorem Acc.nil : Acc E [] [] := ⟨.nil, fun _ h => nomatch h⟩
theorem Acc.mono (A : Acc E vs ds) (s : Same E E') : Acc E' vs ds := ⟨A.dq.same s, A.sm⟩
theorem Acc.add (A : Acc E vs ds) (h : Dq E v d) (s : Sm 10 100000 d) : Acc E (vs ++ [v]) (ds ++ [d]) := ⟨A.dq.append (.cons h .nil), fun x hx => by
  rcases List.mem_append.mp hx with q | q
  · exact A.sm x q
  · rw [List.mem_singleton.mp q]
    exact s⟩
theorem Acc.cat (A : Acc E vs ds) (B : Acc E us es) : Acc E (vs ++ us) (ds ++ es) := ⟨A.dq.append B.dq, fun x hx => by
  rcases List.mem_append.mp hx with q | q
  · exact A.sm x q
  · exact B.sm x q⟩
theorem sm_cons {k m : Nat} (h : Sm k m d) (t : ∀ x ∈ ds, Sm k m x) : ∀ x ∈ d :: ds, Sm k m x := fun x hx => by
  rcases List.mem_cons.mp hx with q | q
  · rw [q]
    exact h
  · exact t x q
theorem sm_tup (h : ∀ x ∈ ds, Sm 5 20000 x) (l : ds.length ≤ 3) : Sm 10 100000 (.tuple ds) := (Sm.tup h l).mono (by decide) (by decide)
theorem sm_lst (h : ∀ x ∈ ds, Sm 5 20000 x) (l : ds.length ≤ 3) : Sm 10 100000 (.list ds) := (Sm.list h l).mono (by decide) (by decide)
theorem LH.ob {G H : Hp} {b l : Addr} {c n : Nat} (L : LH G b l c n H) : OB G H b c := ⟨L.same, L.gb, L.box⟩
theorem LH.at0 {G H : Hp} {b l : Addr} {c n : Nat} (L : LH G b l c n H) : ∃ vs, H l = some (.lst vs) := by
  obtain ⟨vs, ds, h1, _⟩ := L.ex
  exact ⟨vs, h1⟩
theorem LH.acc {G H : Hp} {b l : Addr} {c n : Nat} (L : LH G b l c n H) : ∃ vs ds, Acc (off H b) vs ds ∧ off H b l = some (.lst vs) ∧ vs.length ≤ n := by
  obtain ⟨vs, ds, h1, h2, h3, h4⟩ := L.ex
  exact ⟨vs, ds, ⟨h2.same same_off, h3⟩, by rw [off_ne L.ne]; exact h1, h4⟩
end
theorem cut1 {H : Hp} {vs : List V} {ds : List PyData} (h : Dqs H vs ds) : Dqs H (cutV vs (some 1) none) (ds.drop 1) := by
  have e := cut_from vs 1
  have e2 : cutV vs (some 1) none = vs.drop 1 := e
  rw [e2]
  exact h.drop 1
def cutN (C : List Str) (lo hi : Option Int) : List Str := (C.drop (HT.sIx C.length 0 lo)).take (HT.sIx C.length C.length hi - HT.sIx C.length 0 lo)
theorem cutN_eq (C : List Str) (lo hi : Option Int) : cutV (nv C) lo hi = nv (cutN C lo hi) := by
  unfold cutV cutN
  rw [nv_len]
  unfold nv
  rw [List.map_take, List.map_drop]
theorem cutN_dq {H : Hp} (C : List Str) (lo hi : Option Int) : Dqs H (cutV (nv C) lo hi) (nD (cutN C lo hi)) := by
  rw [cutN_eq]
  exact Dqs.nv _
theorem mem_cutN {C : List Str} {lo hi : Option Int} {z : Str} (h : z ∈ cutN C lo hi) : z ∈ C := List.mem_of_mem_drop (List.mem_of_mem_take h)
theorem len_cutN (C : List Str) (lo hi : Option Int) : (cutN C lo hi).length ≤ C.length := by
  unfold cutN
  rw [List.length_take, List.length_drop]
  omega
section
variable {P : Program} {w : World} {K : PySem.W.Frag} {mg : Str → Option Value} {base : Heap}
def spLOther (K : PySem.W.Frag) : Sp := fun vs H Q _ => ∃ (G : Hp) (b n pr cv : Addr) (c : Nat) (ns : List Str) (X : List (Str × Str)) (C : List Str), vs = [.ref b, .ref n, .ref pr, .ref cv] ∧ Same G H ∧ G b = none ∧ G n = some (.lst (nv ns)) ∧ Dq G (.ref pr) (.list (tD X)) ∧ G cv = some (.lst (nv C)) ∧ BoxAt H b c ∧ c ≤ 100000 ∧
  ns.length ≤ 14 ∧ X.length ≤ 14 ∧ C.length ≤ 14 ∧ C.Nodup ∧ (∀ z ∈ ns, NameOk z) ∧ (∀ z ∈ C, z ∈ ns) ∧ (∀ e ∈ X, e.1 ∈ ns ∧ e.2 ∈ ns) ∧ (C ≠ [] → ns ≠ []) ∧
  ∀ H' s ds, Same G H' → BoxAt H' b (c + 10) → Dq (off H' b) (.ref s) (.list ds) → (∀ d ∈ ds, Sm 10 100000 d) → Q (.ref s) H'
theorem ok_L_otherwise (T : Tx K mg) (F1 : Fok P w K mg base CX0 1 (He.ga K "_law_take") ["_law_box_here", "_law_many"] spLTake) : Fok P w K mg base CX0 2 (He.ga K "_law_otherwise") ["_law_box_here", "_law_names_here", "_law_pairs_here", "_law_cover_here"] (spLOther K) := by
  obtain ⟨fd, F⟩ := T.f_L_otherwise
  obtain ⟨_, G_L_take, b_L_take, k_L_take⟩ := F1
  refine ⟨fd, F.ok scL_otherwise (fun vs H Q E h => ?_) (fun cdv A outer s H vs Q E hr h => ?_), b_L_otherwise F, F.kp⟩
  · obtain ⟨G, b, n, pr, cv, c, ns, X, C, rfl, _⟩ := h
    rfl
  · obtain ⟨G, b, n, pr, cv, c, ns, X, C, rfl, sG, gb, hn, hp, hcv, hB, hc, n14, x14, c14, cnd, nok, csub, xsub, cne, k⟩ := h
    have hP : Dq G (.ref pr) (.list (tD X)) := hp
    obtain ⟨_, tsP, ep, hpl, hpt⟩ := hp.list_inv
    cases ep
    have hC : Dq G (.ref cv) (.list (nD C)) := .lst hcv (Dqs.nv C)
    have xnm : ∀ e ∈ X, NameOk e.1 ∧ NameOk e.2 := fun e he => ⟨nok _ (xsub e he).1, nok _ (xsub e he).2⟩
    have cnm : ∀ z ∈ C, NameOk z := fun z hz => nok z (csub z hz)
    have tX : ∀ d ∈ tD X, Sm 1 132 d := fun d hd => by
      obtain ⟨e, he, rfl⟩ := List.mem_map.mp hd
      exact tie_sm (xnm e he)
    have tC : ∀ d ∈ nD C, Sm 0 62 d := fun d hd => by
      obtain ⟨z, hz, rfl⟩ := List.mem_map.mp hd
      exact nm_sm (cnm z hz)
    have lX : (tD X).length ≤ 14 := by unfold tD; rw [List.length_map]; exact x14
    have lC : (nD C).length ≤ 14 := by unfold nD; rw [List.length_map]; exact c14
    have sN : Sm 5 20000 .none := Sm.non.mono (by decide) (by decide)
    have sP : Sm 5 20000 (.list (tD X)) := (Sm.list tX lX).mono (by decide) (by decide)
    have sT : Sm 5 20000 (.tuple (tD X)) := (Sm.tup tX lX).mono (by decide) (by decide)
    have sC : Sm 5 20000 (.list (nD C)) := (Sm.list tC lC).mono (by decide) (by decide)
    have sTC : Sm 5 20000 (.tuple (nD C)) := (Sm.tup tC lC).mono (by decide) (by decide)
    have sPr : Sm 5 20000 (.list (tD X).reverse) := (Sm.list (fun d hd => tX d (List.mem_reverse.mp hd)) (by rw [List.length_reverse]; exact lX)).mono (by decide) (by decide)
    have sCr : Sm 5 20000 (.list (nD C).reverse) := (Sm.list (fun d hd => tC d (List.mem_reverse.mp hd)) (by rw [List.length_reverse]; exact lC)).mono (by decide) (by decide)
    have sP1 : Sm 5 20000 (.list ((tD X).drop 1)) := (Sm.list (fun d hd => tX d (List.mem_of_mem_drop hd)) (Nat.le_trans (by rw [List.length_drop]; omega) lX)).mono (by decide) (by decide)
    have sC1 : Sm 5 20000 (.list ((nD C).drop 1)) := (Sm.list (fun d hd => tC d (List.mem_of_mem_drop hd)) (Nat.le_trans (by rw [List.length_drop]; omega) lC)).mono (by decide) (by decide)
    have sCut : ∀ lo hi, Sm 5 20000 (.list (nD (cutN C lo hi))) := fun lo hi => (nD_sm (fun z hz => cnm z (mem_cutN hz)) (Nat.le_trans (len_cutN C lo hi) c14)).mono (by decide) (by decide)
    have sCl := sCut none (some (-1))
    have nm6 : ∀ z ∈ C, z.length ≤ 6 := fun z hz => (cnm z hz).1.2
    have nm6c : ∀ z ∈ C, z.length ≤ 6 ∧ ∀ c ∈ z.cps.toList, c < 16 ^ 8 := fun z hz => ⟨nm6 z hz, fun c hc => by
      have all : ∀ c ∈ ("abcdefghijklmnopqrstuvwxyz" : Str).cps.toList, c < 16 ^ 8 := by decide +kernel
      exact all c ((cnm z hz).2 c hc)⟩
    have sJ := joinSm nm6c c14
    have sD := dict_sm cnm c14 fun z hz => nm_sm (cnm z hz)
    have rvS : ∀ d ∈ X.map rvD, Sm 1 132 d := fun d hd => by
      obtain ⟨e, he, rfl⟩ := List.mem_map.mp hd
      exact tie_sm (e := (e.2, e.1)) ⟨(xnm e he).2, (xnm e he).1⟩
    have sRv : Sm 5 20000 (.list (X.map rvD)) := (Sm.list rvS (by rw [List.length_map]; exact x14)).mono (by decide) (by decide)
    have lsS : ∀ d ∈ X.map lsD, Sm 1 132 d := fun d hd => by
      obtain ⟨e, he, rfl⟩ := List.mem_map.mp hd
      refine (Sm.list (k := 0) (m := 62) (n := 2) (fun d hd => ?_) (Nat.le_refl _)).mono (by decide) (by decide)
      rcases List.mem_cons.mp hd with q | q
      · rw [q]
        exact nm_sm (xnm e he).1
      · rw [List.mem_singleton.mp q]
        exact nm_sm (xnm e he).2
    have sLs : Sm 5 20000 (.list (X.map lsD)) := (Sm.list lsS (by rw [List.length_map]; exact x14)).mono (by decide) (by decide)
    have sLen : Sm 5 20000 (.int (tsP.length : Int)) := (Sm.int (by rw [hpt.length]; exact lX)).mono (by decide) (by decide)
    have tD_len : (tD X).length = X.length := List.length_map ..
    obtain ⟨H0, e0⟩ : ∃ H0, H0 = H := ⟨_, rfl⟩
    have O0 : OB G H0 b c := by
      rw [e0]
      exact ⟨sG, gb, hB⟩
    rw [← e0] at *
    refine ⟨_, PSs.nox (pss_cons (ps_join (ps_set (i := 4) scL_otherwise.nd rfl (Or.inl rfl) (pe_lst (pa_cons (pe_tup (pa_cons (pv 2) (pa_cons (pv 3) pa_nil))) (pa_cons (pe_lst (pa_cons (pv 2) (pa_cons (pv 3) pa_nil))) (pa_cons (pe_tup (pa_cons (pv 2) (pa_cons (pv 3) (pa_cons (pv 3) pa_nil)))) (pa_cons (pe_tup (pa_cons (pv 2) pa_nil)) (pa_cons (pe_tup (pa_cons (pe_callTy call_tuple_of (by rfl) T.z_tuple (by decide +kernel) (pa_cons (pv 2) pa_nil)) (pa_cons (pv 3) pa_nil))) pa_nil))))))))
    (pss_cons (ps_join (ps_set (i := 4) scL_otherwise.nd rfl (Or.inl rfl) (pe_op op_cat (pv 4) (pe_lst (pa_cons (pe_tup (pa_cons (pv 2) (pa_cons (pe_callTy call_tuple_of (by rfl) T.z_tuple (by decide +kernel) (pa_cons (pv 3) pa_nil)) pa_nil))) (pa_cons (pe_tup (pa_cons (pv 3) (pa_cons (pv 2) pa_nil))) (pa_cons (pe_tup (pa_cons (pe_revL (pv 2)) (pa_cons (pe_revL (pv 3)) pa_nil))) (pa_cons (pe_tup (pa_cons (pe_slice sl_list (pv 2) (po_some pe_int) po_none) (pa_cons (pv 3) pa_nil))) pa_nil))))))))
    (pss_cons (ps_join (ps_set (i := 4) scL_otherwise.nd rfl (Or.inl rfl) (pe_op op_cat (pv 4) (pe_lst (pa_cons (pe_tup (pa_cons (pe_slice sl_list (pv 2) (po_some pe_int) po_none) (pa_cons (pe_slice sl_list (pv 3) (po_some pe_int) po_none) pa_nil))) (pa_cons pe_non (pa_cons (pe_tup (pa_cons pe_non (pa_cons pe_non pa_nil))) pa_nil)))))))
    (pss_cons (ps_join (ps_set (i := 4) scL_otherwise.nd rfl (Or.inl rfl) (pe_op op_cat (pv 4) (pe_lst (pa_cons (pe_tup (pa_cons (pv 2) (pa_cons (pe_slice sl_list (pv 3) po_none (po_some (pe_un un_neg pe_int))) pa_nil))) (pa_cons (pe_tup (pa_cons (pv 2) (pa_cons (pe_join pe_str (pv 3)) pa_nil))) (pa_cons (pe_tup (pa_cons (pv 2) (pa_cons (pe_callTy (call_dictP rfl) (by rfl) T.z_dict (by decide +kernel) (pa_cons (pe_lc (own := [("_law_name", 5)]) rfl scL_otherwise.nd (pi_list (pv 3)) (blkOk_by (own := [("_law_name", 5)]) (N := NL_otherwise) (sc := defScope sL_otherwise) (by decide +kernel)) (fun _ _ _ _ _ => (pg_name (i := 5) scL_otherwise.nd rfl (Or.inl rfl))) (fun _ _ _ _ _ => pts_nil) (fun _ _ _ _ _ => (pe_tup (pa_cons (pv 5) (pa_cons pe_bl pa_nil))))) pa_nil)) pa_nil))) (pa_cons pe_dnewK pa_nil))))))))
    (pss_cons (ps_join (ps_set (i := 4) scL_otherwise.nd rfl (Or.inl rfl) (pe_op op_cat (pv 4) (pe_lst (pa_cons (pe_tup (pa_cons (pe_lc (own := [("_law_tie", 6)]) rfl scL_otherwise.nd (pi_list (pv 2)) (blkOk_by (own := [("_law_tie", 6)]) (N := NL_otherwise) (sc := defScope sL_otherwise) (by decide +kernel)) (fun _ _ _ _ _ => (pg_name (i := 6) scL_otherwise.nd rfl (Or.inl rfl))) (fun _ _ _ _ _ => pts_nil) (fun _ _ _ _ _ => (pe_rev2K (K := K) rfl (pv 6)))) (pa_cons (pv 3) pa_nil))) (pa_cons (pe_tup (pa_cons (pe_lc (own := [("_law_tie", 6)]) rfl scL_otherwise.nd (pi_list (pv 2)) (blkOk_by (own := [("_law_tie", 6)]) (N := NL_otherwise) (sc := defScope sL_otherwise) (by decide +kernel)) (fun _ _ _ _ _ => (pg_name (i := 6) scL_otherwise.nd rfl (Or.inl rfl))) (fun _ _ _ _ _ => pts_nil) (fun _ _ _ _ _ => (pe_callTy (call_list_ofK (K := K) rfl) (by rfl) T.z_list (by decide +kernel) (pa_cons (pv 6) pa_nil)))) (pa_cons (pv 3) pa_nil))) (pa_cons (pe_tup (pa_cons (pe_callB call_len_seq (by rfl) T.z_len (by decide +kernel) (pa_cons (pv 2) pa_nil)) (pa_cons (pv 3) pa_nil))) (pa_cons pe_int pa_nil))))))))
    (pss_cons (ps_join (ps_if (pt_cmpR (op_neD hr.units) (pv 3) (pe_lst pa_nil) (nomark _)) (pss_cons (ps_set (i := 7) scL_otherwise.nd rfl (Or.inl rfl) (pe_call G_L_take (hr.mono (by decide)) rfl T.g_L_take k_L_take b_L_take .nil pass0 (pa_cons (pv 0) (pa_cons (pe_callB call_len_seq (by rfl) T.z_len (by decide +kernel) (pa_cons (pv 3) pa_nil)) pa_nil))))
    (pss_one (ps_for PassesOwn.never rfl (pi_list (pe_lst (pa_cons pe_non (pa_cons (pe_ix ix_list (pv 3) (pe_op op_sub (pv 7) pe_int) (fun _ _ => rfl)) (pa_cons (pe_ix ix_list (pv 1) (pe_call G_L_take (hr.mono (by decide)) rfl T.g_L_take k_L_take b_L_take .nil pass0 (pa_cons (pv 0) (pa_cons (pe_callB call_len_seq (by rfl) T.z_len (by decide +kernel) (pa_cons (pv 1) pa_nil)) pa_nil))) (fun _ _ => rfl)) (pa_cons pe_str (pa_cons (pe_lst (pa_cons (pe_ix ix_list (pv 3) (pv 7) (fun _ _ => rfl)) pa_nil)) (pa_cons pe_bl pa_nil)))))))) (pg_name (i := 8) scL_otherwise.nd rfl (Or.inl rfl)) (pss_cons (ps_expr (pe_bm PySem.F.plainAttrs_list PySem.F.slot_list_append PySem.F.type_list_append mt_append (pv 4) (pa_cons (pe_tup (pa_cons (pv 2) (pa_cons (pe_op op_cat (pe_op op_cat (pe_slice sl_list (pv 3) po_none (po_some (pv 7))) (pe_lst (pa_cons (pv 8) pa_nil))) (pe_slice sl_list (pv 3) (po_some (pe_op op_add (pv 7) pe_int)) po_none)) pa_nil))) pa_nil)))
    (pss_one (ps_expr (pe_bm PySem.F.plainAttrs_list PySem.F.slot_list_append PySem.F.type_list_append mt_append (pv 4) (pa_cons (pe_tup (pa_cons (pv 2) (pa_cons (pe_op op_cat (pv 3) (pe_lst (pa_cons (pv 8) pa_nil))) pa_nil))) pa_nil)))))))) pss_nil))
    (pss_cons (ps_join (ps_if (pt_cmpR (op_neD hr.units) (pv 2) (pe_lst pa_nil) (nomark _)) (pss_cons (ps_set (i := 7) scL_otherwise.nd rfl (Or.inl rfl) (pe_call G_L_take (hr.mono (by decide)) rfl T.g_L_take k_L_take b_L_take .nil pass0 (pa_cons (pv 0) (pa_cons (pe_callB call_len_seq (by rfl) T.z_len (by decide +kernel) (pa_cons (pv 2) pa_nil)) pa_nil))))
    (pss_one (ps_for PassesOwn.never rfl (pi_list (pe_lst (pa_cons pe_non (pa_cons (pe_ix ix_list (pv 2) (pe_op op_sub (pv 7) pe_int) (fun _ _ => rfl)) (pa_cons (pe_tup (pa_cons (pe_ix ix_tup (pe_ix ix_list (pv 2) (pv 7) (fun _ _ => rfl)) pe_int (fun _ _ => rfl)) (pa_cons (pe_ix ix_tup (pe_ix ix_list (pv 2) (pe_op op_sub (pv 7) pe_int) (fun _ _ => rfl)) pe_int (fun _ _ => rfl)) pa_nil))) (pa_cons (pe_tup (pa_cons (pe_ix ix_tup (pe_ix ix_list (pv 2) (pv 7) (fun _ _ => rfl)) pe_int (fun _ _ => rfl)) pa_nil)) (pa_cons (pe_ix ix_tup (pe_ix ix_list (pv 2) (pv 7) (fun _ _ => rfl)) pe_int (fun _ _ => rfl)) pa_nil))))))) (pg_name (i := 8) scL_otherwise.nd rfl (Or.inl rfl)) (pss_cons (ps_expr (pe_bm PySem.F.plainAttrs_list PySem.F.slot_list_append PySem.F.type_list_append mt_append (pv 4) (pa_cons (pe_tup (pa_cons (pe_op op_cat (pe_op op_cat (pe_slice sl_list (pv 2) po_none (po_some (pv 7))) (pe_lst (pa_cons (pv 8) pa_nil))) (pe_slice sl_list (pv 2) (po_some (pe_op op_add (pv 7) pe_int)) po_none)) (pa_cons (pv 3) pa_nil))) pa_nil)))
    (pss_one (ps_expr (pe_bm PySem.F.plainAttrs_list PySem.F.slot_list_append PySem.F.type_list_append mt_append (pv 4) (pa_cons (pe_tup (pa_cons (pe_op op_cat (pv 2) (pe_lst (pa_cons (pv 8) pa_nil))) (pa_cons (pe_ifExp (pt_cmpR (op_neD hr.units) (pv 3) (pe_lst pa_nil) (nomark _)) (pe_op op_cat (pv 3) (pe_lst (pa_cons (pe_ix ix_list (pv 3) pe_int (fun _ _ => rfl)) pa_nil))) (pv 3)) pa_nil))) pa_nil)))))))) pss_nil))
    (pss_one (ps_ret (pv 4)))))))))), ?_⟩
    have A0 : Acc (off H0 b) [] [] := Acc.nil
    refine ⟨fun σ1 J1 => ∃ l, σ1 = [some (.ref b), some (.ref n), some (.ref pr), some (.ref cv), some (.ref l), none, none, none, none] ∧ LH G b l c 5 J1, ?_, ?_⟩
    · skip
      refine ⟨_, rfl, _, rfl, (by show 2 ≤ sizeLine; decide), fun p1 n1 => ?_⟩
      have h1 := O0.at_ (o := .tup [.ref pr, .ref cv]) n1
      have m1 := O0.sm (o := .tup [.ref pr, .ref cv]) n1
      have O1 := O0.new (o := .tup [.ref pr, .ref cv]) n1
      obtain ⟨H1, e1⟩ : ∃ H1, H1 = upd H0 p1 (.tup [.ref pr, .ref cv]) := ⟨_, rfl⟩
      rw [← e1] at h1 m1 O1 ⊢
      have A1 := A0.mono m1
      have A1 := A1.add (v := .ref p1) (d := .tuple [.list (tD X), .list (nD C)]) (.tup h1 (.cons (hP.same O1.up) (.cons (hC.same O1.up) .nil))) (sm_tup (ds := [.list (tD X), .list (nD C)]) (sm_cons sP (sm_cons sC (fun _ h => nomatch h))) (by show 2 ≤ 3; decide))
      refine ⟨_, rfl, _, rfl, (by show 2 ≤ sizeLine; decide), fun p2 n2 => ?_⟩
      have h2 := O1.at_ (o := .lst [.ref pr, .ref cv]) n2
      have m2 := O1.sm (o := .lst [.ref pr, .ref cv]) n2
      have O2 := O1.new (o := .lst [.ref pr, .ref cv]) n2
      obtain ⟨H2, e2⟩ : ∃ H2, H2 = upd H1 p2 (.lst [.ref pr, .ref cv]) := ⟨_, rfl⟩
      rw [← e2] at h2 m2 O2 ⊢
      have A2 := A1.mono m2
      have A2 := A2.add (v := .ref p2) (d := .list [.list (tD X), .list (nD C)]) (.lst h2 (.cons (hP.same O2.up) (.cons (hC.same O2.up) .nil))) (sm_lst (ds := [.list (tD X), .list (nD C)]) (sm_cons sP (sm_cons sC (fun _ h => nomatch h))) (by show 2 ≤ 3; decide))
      refine ⟨_, rfl, _, rfl, _, rfl, (by show 3 ≤ sizeLine; decide), fun p3 n3 => ?_⟩
      have h3 := O2.at_ (o := .tup [.ref pr, .ref cv, .ref cv]) n3
      have m3 := O2.sm (o := .tup [.ref pr, .ref cv, .ref cv]) n3
      have O3 := O2.new (o := .tup [.ref pr, .ref cv, .ref cv]) n3
      obtain ⟨H3, e3⟩ : ∃ H3, H3 = upd H2 p3 (.tup [.ref pr, .ref cv, .ref cv]) := ⟨_, rfl⟩
      rw [← e3] at h3 m3 O3 ⊢
      have A3 := A2.mono m3
      have A3 := A3.add (v := .ref p3) (d := .tuple [.list (tD X), .list (nD C), .list (nD C)]) (.tup h3 (.cons (hP.same O3.up) (.cons (hC.same O3.up) (.cons (hC.same O3.up) .nil)))) (sm_tup (ds := [.list (tD X), .list (nD C), .list (nD C)]) (sm_cons sP (sm_cons sC (sm_cons sC (fun _ h => nomatch h)))) (by show 3 ≤ 3; decide))
      refine ⟨_, rfl, (by show 1 ≤ sizeLine; decide), fun p4 n4 => ?_⟩
      have h4 := O3.at_ (o := .tup [.ref pr]) n4
      have m4 := O3.sm (o := .tup [.ref pr]) n4
      have O4 := O3.new (o := .tup [.ref pr]) n4
      obtain ⟨H4, e4⟩ : ∃ H4, H4 = upd H3 p4 (.tup [.ref pr]) := ⟨_, rfl⟩
      rw [← e4] at h4 m4 O4 ⊢
      have A4 := A3.mono m4
      have A4 := A4.add (v := .ref p4) (d := .tuple [.list (tD X)]) (.tup h4 (.cons (hP.same O4.up) .nil)) (sm_tup (ds := [.list (tD X)]) (sm_cons sP (fun _ h => nomatch h)) (by show 1 ≤ 3; decide))
      refine ⟨_, rfl, pr, _, rfl, .inl ⟨SqL.of (O4.same _ _ hpl), fun p5 n5 => ?_⟩⟩
      have h5 := O4.at_ (o := .tup tsP) n5
      have m5 := O4.sm (o := .tup tsP) n5
      have O5 := O4.new (o := .tup tsP) n5
      obtain ⟨H5, e5⟩ : ∃ H5, H5 = upd H4 p5 (.tup tsP) := ⟨_, rfl⟩
      rw [← e5] at h5 m5 O5 ⊢
      have A5 := A4.mono m5
      refine ⟨_, rfl, (by show 2 ≤ sizeLine; decide), fun p6 n6 => ?_⟩
      have h6 := O5.at_ (o := .tup [.ref p5, .ref cv]) n6
      have m6 := O5.sm (o := .tup [.ref p5, .ref cv]) n6
      have O6 := O5.new (o := .tup [.ref p5, .ref cv]) n6
      obtain ⟨H6, e6⟩ : ∃ H6, H6 = upd H5 p6 (.tup [.ref p5, .ref cv]) := ⟨_, rfl⟩
      rw [← e6] at h6 m6 O6 ⊢
      have A6 := A5.mono m6
      have A6 := A6.add (v := .ref p6) (d := .tuple [.tuple (tD X), .list (nD C)]) (.tup h6 (.cons ((Dq.tup h5 (hpt.same O5.up)).same m6) (.cons (hC.same O6.up) .nil))) (sm_tup (ds := [.tuple (tD X), .list (nD C)]) (sm_cons sT (sm_cons sC (fun _ h => nomatch h))) (by show 2 ≤ 3; decide))
      refine ⟨(by show 5 ≤ sizeLine; decide), fun l nl => ?_⟩
      exact ⟨l, rfl, LH.mk' O6.same O6.gb O6.box (A6).dq (A6).sm nl (by show 5 ≤ 5; decide)⟩
    rintro σ1 H7 ⟨l, rfl, W⟩
    have O7 := W.ob
    obtain ⟨vsS7, dsS7, S7, L7, z7⟩ := W.acc
    clear W
    have A7 : Acc (off H7 b) [] [] := Acc.nil
    refine ⟨fun σ1 J1 => ∃ l, σ1 = [some (.ref b), some (.ref n), some (.ref pr), some (.ref cv), some (.ref l), none, none, none, none] ∧ LH G b l c 9 J1, ?_, ?_⟩
    · skip
      refine ⟨_, rfl, ?_⟩
      refine ⟨_, rfl, ?_⟩
      refine ⟨_, rfl, cv, _, rfl, .inl ⟨SqL.of (O7.same _ _ hcv), fun p8 n8 => ?_⟩⟩
      have h8 := O7.at_ (o := .tup (nv C)) n8
      have m8 := O7.sm (o := .tup (nv C)) n8
      have O8 := O7.new (o := .tup (nv C)) n8
      obtain ⟨H8, e8⟩ : ∃ H8, H8 = upd H7 p8 (.tup (nv C)) := ⟨_, rfl⟩
      rw [← e8] at h8 m8 O8 ⊢
      have A8 := A7.mono m8
      have S8 := S7.mono m8
      have L8 := m8 _ _ L7
      refine ⟨(by show 2 ≤ sizeLine; decide), fun p9 n9 => ?_⟩
      have h9 := O8.at_ (o := .tup [.ref pr, .ref p8]) n9
      have m9 := O8.sm (o := .tup [.ref pr, .ref p8]) n9
      have O9 := O8.new (o := .tup [.ref pr, .ref p8]) n9
      obtain ⟨H9, e9⟩ : ∃ H9, H9 = upd H8 p9 (.tup [.ref pr, .ref p8]) := ⟨_, rfl⟩
      rw [← e9] at h9 m9 O9 ⊢
      have A9 := A8.mono m9
      have S9 := S8.mono m9
      have L9 := m9 _ _ L8
      have A9 := A9.add (v := .ref p9) (d := .tuple [.list (tD X), .tuple (nD C)]) (.tup h9 (.cons (hP.same O9.up) (.cons ((Dq.tup h8 (Dqs.nv C)).same m9) .nil))) (sm_tup (ds := [.list (tD X), .tuple (nD C)]) (sm_cons sP (sm_cons sTC (fun _ h => nomatch h))) (by show 2 ≤ 3; decide))
      refine ⟨_, rfl, _, rfl, (by show 2 ≤ sizeLine; decide), fun p10 n10 => ?_⟩
      have h10 := O9.at_ (o := .tup [.ref cv, .ref pr]) n10
      have m10 := O9.sm (o := .tup [.ref cv, .ref pr]) n10
      have O10 := O9.new (o := .tup [.ref cv, .ref pr]) n10
      obtain ⟨H10, e10⟩ : ∃ H10, H10 = upd H9 p10 (.tup [.ref cv, .ref pr]) := ⟨_, rfl⟩
      rw [← e10] at h10 m10 O10 ⊢
      have A10 := A9.mono m10
      have S10 := S9.mono m10
      have L10 := m10 _ _ L9
      have A10 := A10.add (v := .ref p10) (d := .tuple [.list (nD C), .list (tD X)]) (.tup h10 (.cons (hC.same O10.up) (.cons (hP.same O10.up) .nil))) (sm_tup (ds := [.list (nD C), .list (tD X)]) (sm_cons sC (sm_cons sP (fun _ h => nomatch h))) (by show 2 ≤ 3; decide))
      refine ⟨_, rfl, pr, _, rfl, SqL.of (O10.same _ _ hpl), fun p11 n11 => ?_⟩
      have h11 := O10.at_ (o := .lst tsP.reverse) n11
      have m11 := O10.sm (o := .lst tsP.reverse) n11
      have O11 := O10.new (o := .lst tsP.reverse) n11
      obtain ⟨H11, e11⟩ : ∃ H11, H11 = upd H10 p11 (.lst tsP.reverse) := ⟨_, rfl⟩
      rw [← e11] at h11 m11 O11 ⊢
      have A11 := A10.mono m11
      have S11 := S10.mono m11
      have L11 := m11 _ _ L10
      refine ⟨_, rfl, cv, _, rfl, SqL.of (O11.same _ _ hcv), fun p12 n12 => ?_⟩
      have h12 := O11.at_ (o := .lst (nv C).reverse) n12
      have m12 := O11.sm (o := .lst (nv C).reverse) n12
      have O12 := O11.new (o := .lst (nv C).reverse) n12
      obtain ⟨H12, e12⟩ : ∃ H12, H12 = upd H11 p12 (.lst (nv C).reverse) := ⟨_, rfl⟩
      rw [← e12] at h12 m12 O12 ⊢
      have A12 := A11.mono m12
      have S12 := S11.mono m12
      have L12 := m12 _ _ L11
      refine ⟨(by show 2 ≤ sizeLine; decide), fun p13 n13 => ?_⟩
      have h13 := O12.at_ (o := .tup [.ref p11, .ref p12]) n13
      have m13 := O12.sm (o := .tup [.ref p11, .ref p12]) n13
      have O13 := O12.new (o := .tup [.ref p11, .ref p12]) n13
      obtain ⟨H13, e13⟩ : ∃ H13, H13 = upd H12 p13 (.tup [.ref p11, .ref p12]) := ⟨_, rfl⟩
      rw [← e13] at h13 m13 O13 ⊢
      have A13 := A12.mono m13
      have S13 := S12.mono m13
      have L13 := m13 _ _ L12
      have A13 := A13.add (v := .ref p13) (d := .tuple [.list (tD X).reverse, .list (nD C).reverse]) (.tup h13 (.cons (((Dq.lst h11 (hpt.same O11.up).reverse).same m12).same m13) (.cons ((Dq.lst h12 (Dqs.nv C).reverse).same m13) .nil))) (sm_tup (ds := [.list (tD X).reverse, .list (nD C).reverse]) (sm_cons sPr (sm_cons sCr (fun _ h => nomatch h))) (by show 2 ≤ 3; decide))
      refine ⟨_, rfl, _, rfl, pr, _, rfl, SqL.of (O13.same _ _ hpl), fun p14 n14 => ?_⟩
      have h14 := O13.at_ (o := .lst (cutV tsP (some 1) none)) n14
      have m14 := O13.sm (o := .lst (cutV tsP (some 1) none)) n14
      have O14 := O13.new (o := .lst (cutV tsP (some 1) none)) n14
      obtain ⟨H14, e14⟩ : ∃ H14, H14 = upd H13 p14 (.lst (cutV tsP (some 1) none)) := ⟨_, rfl⟩
      rw [← e14] at h14 m14 O14 ⊢
      have A14 := A13.mono m14
      have S14 := S13.mono m14
      have L14 := m14 _ _ L13
      refine ⟨_, rfl, (by show 2 ≤ sizeLine; decide), fun p15 n15 => ?_⟩
      have h15 := O14.at_ (o := .tup [.ref p14, .ref cv]) n15
      have m15 := O14.sm (o := .tup [.ref p14, .ref cv]) n15
      have O15 := O14.new (o := .tup [.ref p14, .ref cv]) n15
      obtain ⟨H15, e15⟩ : ∃ H15, H15 = upd H14 p15 (.tup [.ref p14, .ref cv]) := ⟨_, rfl⟩
      rw [← e15] at h15 m15 O15 ⊢
      have A15 := A14.mono m15
      have S15 := S14.mono m15
      have L15 := m15 _ _ L14
      have A15 := A15.add (v := .ref p15) (d := .tuple [.list ((tD X).drop 1), .list (nD C)]) (.tup h15 (.cons ((Dq.lst h14 (cut1 (hpt.same O14.up))).same m15) (.cons (hC.same O15.up) .nil))) (sm_tup (ds := [.list ((tD X).drop 1), .list (nD C)]) (sm_cons sP1 (sm_cons sC (fun _ h => nomatch h))) (by show 2 ≤ 3; decide))
      refine ⟨(by show 4 ≤ sizeLine; decide), fun p16 n16 => ?_⟩
      have h16 := O15.at_ (o := .lst [.ref p9, .ref p10, .ref p13, .ref p15]) n16
      have m16 := O15.sm (o := .lst [.ref p9, .ref p10, .ref p13, .ref p15]) n16
      have O16 := O15.new (o := .lst [.ref p9, .ref p10, .ref p13, .ref p15]) n16
      obtain ⟨H16, e16⟩ : ∃ H16, H16 = upd H15 p16 (.lst [.ref p9, .ref p10, .ref p13, .ref p15]) := ⟨_, rfl⟩
      rw [← e16] at h16 m16 O16 ⊢
      have A16 := A15.mono m16
      have S16 := S15.mono m16
      have L16 := m16 _ _ L15
      have q16 : vsS7.length + 4 ≤ sizeLine := Nat.le_trans (show vsS7.length + 4 ≤ 1000 by omega) (by decide)
      refine ⟨l, p16, _, _, rfl, rfl, same_off _ _ L16, same_off _ _ h16, q16, fun l2 nl => ?_⟩
      exact ⟨l2, rfl, LH.mk' O16.same O16.gb O16.box (S16.cat A16).dq (S16.cat A16).sm nl (by rw [List.length_append]; exact Nat.add_le_add_right z7 4)⟩
    rintro σ1 H17 ⟨l, rfl, W⟩
    have O17 := W.ob
    obtain ⟨vsS17, dsS17, S17, L17, z17⟩ := W.acc
    clear W
    have A17 : Acc (off H17 b) [] [] := Acc.nil
    refine ⟨fun σ1 J1 => ∃ l, σ1 = [some (.ref b), some (.ref n), some (.ref pr), some (.ref cv), some (.ref l), none, none, none, none] ∧ LH G b l c 12 J1, ?_, ?_⟩
    · skip
      refine ⟨_, rfl, ?_⟩
      refine ⟨_, rfl, _, rfl, pr, _, rfl, SqL.of (O17.same _ _ hpl), fun p18 n18 => ?_⟩
      have h18 := O17.at_ (o := .lst (cutV tsP (some 1) none)) n18
      have m18 := O17.sm (o := .lst (cutV tsP (some 1) none)) n18
      have O18 := O17.new (o := .lst (cutV tsP (some 1) none)) n18
      obtain ⟨H18, e18⟩ : ∃ H18, H18 = upd H17 p18 (.lst (cutV tsP (some 1) none)) := ⟨_, rfl⟩
      rw [← e18] at h18 m18 O18 ⊢
      have A18 := A17.mono m18
      have S18 := S17.mono m18
      have L18 := m18 _ _ L17
      refine ⟨_, rfl, _, rfl, cv, _, rfl, SqL.of (O18.same _ _ hcv), fun p19 n19 => ?_⟩
      have h19 := O18.at_ (o := .lst (cutV (nv C) (some 1) none)) n19
      have m19 := O18.sm (o := .lst (cutV (nv C) (some 1) none)) n19
      have O19 := O18.new (o := .lst (cutV (nv C) (some 1) none)) n19
      obtain ⟨H19, e19⟩ : ∃ H19, H19 = upd H18 p19 (.lst (cutV (nv C) (some 1) none)) := ⟨_, rfl⟩
      rw [← e19] at h19 m19 O19 ⊢
      have A19 := A18.mono m19
      have S19 := S18.mono m19
      have L19 := m19 _ _ L18
      refine ⟨(by show 2 ≤ sizeLine; decide), fun p20 n20 => ?_⟩
      have h20 := O19.at_ (o := .tup [.ref p18, .ref p19]) n20
      have m20 := O19.sm (o := .tup [.ref p18, .ref p19]) n20
      have O20 := O19.new (o := .tup [.ref p18, .ref p19]) n20
      obtain ⟨H20, e20⟩ : ∃ H20, H20 = upd H19 p20 (.tup [.ref p18, .ref p19]) := ⟨_, rfl⟩
      rw [← e20] at h20 m20 O20 ⊢
      have A20 := A19.mono m20
      have S20 := S19.mono m20
      have L20 := m20 _ _ L19
      have A20 := A20.add (v := .ref p20) (d := .tuple [.list ((tD X).drop 1), .list ((nD C).drop 1)]) (.tup h20 (.cons (((Dq.lst h18 (cut1 (hpt.same O18.up))).same m19).same m20) (.cons ((Dq.lst h19 (cut1 (Dqs.nv C))).same m20) .nil))) (sm_tup (ds := [.list ((tD X).drop 1), .list ((nD C).drop 1)]) (sm_cons sP1 (sm_cons sC1 (fun _ h => nomatch h))) (by show 2 ≤ 3; decide))
      have A20 := A20.add (v := .non) (d := .none) (.non) (sN.mono (by decide) (by decide))
      refine ⟨(by show 2 ≤ sizeLine; decide), fun p21 n21 => ?_⟩
      have h21 := O20.at_ (o := .tup [.non, .non]) n21
      have m21 := O20.sm (o := .tup [.non, .non]) n21
      have O21 := O20.new (o := .tup [.non, .non]) n21
      obtain ⟨H21, e21⟩ : ∃ H21, H21 = upd H20 p21 (.tup [.non, .non]) := ⟨_, rfl⟩
      rw [← e21] at h21 m21 O21 ⊢
      have A21 := A20.mono m21
      have S21 := S20.mono m21
      have L21 := m21 _ _ L20
      have A21 := A21.add (v := .ref p21) (d := .tuple [.none, .none]) (.tup h21 (.cons (.non) (.cons (.non) .nil))) (sm_tup (ds := [.none, .none]) (sm_cons sN (sm_cons sN (fun _ h => nomatch h))) (by show 2 ≤ 3; decide))
      refine ⟨(by show 3 ≤ sizeLine; decide), fun p22 n22 => ?_⟩
      have h22 := O21.at_ (o := .lst [.ref p20, .non, .ref p21]) n22
      have m22 := O21.sm (o := .lst [.ref p20, .non, .ref p21]) n22
      have O22 := O21.new (o := .lst [.ref p20, .non, .ref p21]) n22
      obtain ⟨H22, e22⟩ : ∃ H22, H22 = upd H21 p22 (.lst [.ref p20, .non, .ref p21]) := ⟨_, rfl⟩
      rw [← e22] at h22 m22 O22 ⊢
      have A22 := A21.mono m22
      have S22 := S21.mono m22
      have L22 := m22 _ _ L21
      have q22 : vsS17.length + 3 ≤ sizeLine := Nat.le_trans (show vsS17.length + 3 ≤ 1000 by omega) (by decide)
      refine ⟨l, p22, _, _, rfl, rfl, same_off _ _ L22, same_off _ _ h22, q22, fun l2 nl => ?_⟩
      exact ⟨l2, rfl, LH.mk' O22.same O22.gb O22.box (S22.cat A22).dq (S22.cat A22).sm nl (by rw [List.length_append]; exact Nat.add_le_add_right z17 3)⟩
    rintro σ1 H23 ⟨l, rfl, W⟩
    have O23 := W.ob
    obtain ⟨vsS23, dsS23, S23, L23, z23⟩ := W.acc
    clear W
    have A23 : Acc (off H23 b) [] [] := Acc.nil
    refine ⟨fun σ1 J1 => ∃ l, σ1 = [some (.ref b), some (.ref n), some (.ref pr), some (.ref cv), some (.ref l), none, none, none, none] ∧ LH G b l c 16 J1, ?_, ?_⟩
    · skip
      refine ⟨_, rfl, ?_⟩
      refine ⟨_, rfl, ?_⟩
      refine ⟨_, rfl, _, rfl, _, rfl, cv, _, rfl, SqL.of (O23.same _ _ hcv), fun p24 n24 => ?_⟩
      have h24 := O23.at_ (o := .lst (cutV (nv C) none (some (-1)))) n24
      have m24 := O23.sm (o := .lst (cutV (nv C) none (some (-1)))) n24
      have O24 := O23.new (o := .lst (cutV (nv C) none (some (-1)))) n24
      obtain ⟨H24, e24⟩ : ∃ H24, H24 = upd H23 p24 (.lst (cutV (nv C) none (some (-1)))) := ⟨_, rfl⟩
      rw [← e24] at h24 m24 O24 ⊢
      have A24 := A23.mono m24
      have S24 := S23.mono m24
      have L24 := m24 _ _ L23
      refine ⟨(by show 2 ≤ sizeLine; decide), fun p25 n25 => ?_⟩
      have h25 := O24.at_ (o := .tup [.ref pr, .ref p24]) n25
      have m25 := O24.sm (o := .tup [.ref pr, .ref p24]) n25
      have O25 := O24.new (o := .tup [.ref pr, .ref p24]) n25
      obtain ⟨H25, e25⟩ : ∃ H25, H25 = upd H24 p25 (.tup [.ref pr, .ref p24]) := ⟨_, rfl⟩
      rw [← e25] at h25 m25 O25 ⊢
      have A25 := A24.mono m25
      have S25 := S24.mono m25
      have L25 := m25 _ _ L24
      have A25 := A25.add (v := .ref p25) (d := .tuple [.list (tD X), .list (nD (cutN C none (some (-1))))]) (.tup h25 (.cons (hP.same O25.up) (.cons ((Dq.lst h24 (cutN_dq C _ _)).same m25) .nil))) (sm_tup (ds := [.list (tD X), .list (nD (cutN C none (some (-1))))]) (sm_cons sP (sm_cons sCl (fun _ h => nomatch h))) (by show 2 ≤ 3; decide))
      refine ⟨_, rfl, ⟨_, rfl⟩, _, rfl, _, cv, C, rfl, rfl, .inl (SqL.of (O25.same _ _ hcv)), joinSz nm6 c14, ?_⟩
      refine ⟨(by show 2 ≤ sizeLine; decide), fun p26 n26 => ?_⟩
      have h26 := O25.at_ (o := .tup [.ref pr, .str (Txt.join " " C)]) n26
      have m26 := O25.sm (o := .tup [.ref pr, .str (Txt.join " " C)]) n26
      have O26 := O25.new (o := .tup [.ref pr, .str (Txt.join " " C)]) n26
      obtain ⟨H26, e26⟩ : ∃ H26, H26 = upd H25 p26 (.tup [.ref pr, .str (Txt.join " " C)]) := ⟨_, rfl⟩
      rw [← e26] at h26 m26 O26 ⊢
      have A26 := A25.mono m26
      have S26 := S25.mono m26
      have L26 := m26 _ _ L25
      have A26 := A26.add (v := .ref p26) (d := .tuple [.list (tD X), .str (Txt.join " " C)]) (.tup h26 (.cons (hP.same O26.up) (.cons (.str _) .nil))) (sm_tup (ds := [.list (tD X), .str (Txt.join " " C)]) (sm_cons sP (sm_cons sJ (fun _ h => nomatch h))) (by show 2 ≤ 3; decide))
      refine ⟨_, rfl, ?_⟩
      refine ⟨_, rfl, cv, rfl, ⟨_, SqL.of (O26.same _ _ hcv)⟩, fun D4 fD4 => ?_⟩
      refine lc_list (K := K) (a := cv) (xs := nv C) (fun j H9 => PrI K H26 D4 (C.take j) H9) (PrI.nil (Same.refl _) fD4) (fun j H9 _ J => SqL.of ((O26.same.trans J.same) _ _ hcv)) ?_ ?_
      · intro j x H9 hj J
        obtain ⟨z, hz, rfl⟩ := nv_at hj
        refine ⟨rfl, _, rfl, (by show 2 ≤ sizeLine; decide), fun p np => ?_⟩
        rw [take_more hz]
        exact J.push np (by rw [List.length_take]; omega)
      intro H27 J4
      rw [nv_len, List.take_length] at J4
      obtain ⟨psD, hqD, hpD⟩ := J4.sq
      have m27 := same_offM (p := b) J4.same
      have O27 := O26.step J4.same
      have A27 := A26.mono m27
      have S27 := S26.mono m27
      have L27 := m27 _ _ L26
      refine ⟨D4, psD, kvC C, rfl, hqD, hpD, fun p28 n28 => ?_⟩
      rw [show mergeK [] (kvC C) = kvC C from mergeC C [] cnd]
      have h28 := O27.at_ (o := .dK (kvC C)) n28
      have m28 := O27.sm (o := .dK (kvC C)) n28
      have O28 := O27.new (o := .dK (kvC C)) n28
      obtain ⟨H28, e28⟩ : ∃ H28, H28 = upd H27 p28 (.dK (kvC C)) := ⟨_, rfl⟩
      rw [← e28] at h28 m28 O28 ⊢
      have A28 := A27.mono m28
      have S28 := S27.mono m28
      have L28 := m28 _ _ L27
      refine ⟨(by show 2 ≤ sizeLine; decide), fun p29 n29 => ?_⟩
      have h29 := O28.at_ (o := .tup [.ref pr, .ref p28]) n29
      have m29 := O28.sm (o := .tup [.ref pr, .ref p28]) n29
      have O29 := O28.new (o := .tup [.ref pr, .ref p28]) n29
      obtain ⟨H29, e29⟩ : ∃ H29, H29 = upd H28 p29 (.tup [.ref pr, .ref p28]) := ⟨_, rfl⟩
      rw [← e29] at h29 m29 O29 ⊢
      have A29 := A28.mono m29
      have S29 := S28.mono m29
      have L29 := m29 _ _ L28
      have A29 := A29.add (v := .ref p29) (d := .tuple [.list (tD X), .dict (C.map fun z => (PyData.str z, PyData.bool true))]) (.tup h29 (.cons (hP.same O29.up) (.cons ((Dq.dct h28).same m29) .nil))) (sm_tup (ds := [.list (tD X), .dict (C.map fun z => (PyData.str z, PyData.bool true))]) (sm_cons sP (sm_cons sD (fun _ h => nomatch h))) (by show 2 ≤ 3; decide))
      refine fun p30 n30 => ?_
      have h30 := O29.at_ (o := .dK []) n30
      have m30 := O29.sm (o := .dK []) n30
      have O30 := O29.new (o := .dK []) n30
      obtain ⟨H30, e30⟩ : ∃ H30, H30 = upd H29 p30 (.dK []) := ⟨_, rfl⟩
      rw [← e30] at h30 m30 O30 ⊢
      have A30 := A29.mono m30
      have S30 := S29.mono m30
      have L30 := m30 _ _ L29
      have A30 := A30.add (v := .ref p30) (d := .dict []) (Dq.dct (zs := []) h30) ((Sm.dict (n := 0) (zs := []) (fun _ h => nomatch h) (Nat.le_refl _)).mono (by decide) (by decide))
      refine ⟨(by show 4 ≤ sizeLine; decide), fun p31 n31 => ?_⟩
      have h31 := O30.at_ (o := .lst [.ref p25, .ref p26, .ref p29, .ref p30]) n31
      have m31 := O30.sm (o := .lst [.ref p25, .ref p26, .ref p29, .ref p30]) n31
      have O31 := O30.new (o := .lst [.ref p25, .ref p26, .ref p29, .ref p30]) n31
      obtain ⟨H31, e31⟩ : ∃ H31, H31 = upd H30 p31 (.lst [.ref p25, .ref p26, .ref p29, .ref p30]) := ⟨_, rfl⟩
      rw [← e31] at h31 m31 O31 ⊢
      have A31 := A30.mono m31
      have S31 := S30.mono m31
      have L31 := m31 _ _ L30
      have q31 : vsS23.length + 4 ≤ sizeLine := Nat.le_trans (show vsS23.length + 4 ≤ 1000 by omega) (by decide)
      refine ⟨l, p31, _, _, rfl, rfl, same_off _ _ L31, same_off _ _ h31, q31, fun l2 nl => ?_⟩
      exact ⟨l2, rfl, LH.mk' O31.same O31.gb O31.box (S31.cat A31).dq (S31.cat A31).sm nl (by rw [List.length_append]; exact Nat.add_le_add_right z23 4)⟩
    rintro σ1 H32 ⟨l, rfl, W⟩
    have O32 := W.ob
    obtain ⟨vsS32, dsS32, S32, L32, z32⟩ := W.acc
    clear W
    have A32 : Acc (off H32 b) [] [] := Acc.nil
    refine ⟨fun σ1 J1 => ∃ l, σ1 = [some (.ref b), some (.ref n), some (.ref pr), some (.ref cv), some (.ref l), none, none, none, none] ∧ LH G b l c 20 J1, ?_, ?_⟩
    · skip
      refine ⟨_, rfl, ?_⟩
      refine ⟨_, rfl, pr, rfl, ⟨_, SqL.of (O32.same _ _ hpl)⟩, fun E5 fE5 => ?_⟩
      obtain ⟨obE5, hbE5⟩ := O32.box.lst
      refine lc_list (K := K) (a := pr) (xs := tsP) (fun j H9 => GrowB H32 b E5 ((X.take j).map rvD) H9) (GrowB.nil hbE5 fE5) (fun j H9 _ J => SqL.of ((O32.same.trans J.same) _ _ hpl)) ?_ ?_
      · intro j x H9 hj J
        obtain ⟨e, t, he, rfl, ht⟩ := ties_at (hpt.same (O32.same.trans J.same)) hj
        refine ⟨rfl, _, rfl, t, _, _, rfl, SqT.of ht, fun p np => ?_⟩
        rw [take_more he, List.map_append]
        exact J.push np (o := .tup [.str e.2, .str e.1]) (fun E hE => .tup hE (.cons (.str _) (.cons (.str _) .nil))) (by rw [List.length_map, List.length_take]; omega)
      intro H33 JE5
      rw [hpt.length, tD_len, List.take_length] at JE5
      have m33 := same_offM (p := b) JE5.same
      have O33 := O32.step JE5.same
      have A33 := A32.mono m33
      have S33 := S32.mono m33
      have L33 := m33 _ _ L32
      refine ⟨_, rfl, (by show 2 ≤ sizeLine; decide), fun p34 n34 => ?_⟩
      have h34 := O33.at_ (o := .tup [.ref E5, .ref cv]) n34
      have m34 := O33.sm (o := .tup [.ref E5, .ref cv]) n34
      have O34 := O33.new (o := .tup [.ref E5, .ref cv]) n34
      obtain ⟨H34, e34⟩ : ∃ H34, H34 = upd H33 p34 (.tup [.ref E5, .ref cv]) := ⟨_, rfl⟩
      rw [← e34] at h34 m34 O34 ⊢
      have A34 := A33.mono m34
      have S34 := S33.mono m34
      have L34 := m34 _ _ L33
      have A34 := A34.add (v := .ref p34) (d := .tuple [.list (X.map rvD), .list (nD C)]) (.tup h34 (.cons ((JE5.done).same m34) (.cons (hC.same O34.up) .nil))) (sm_tup (ds := [.list (X.map rvD), .list (nD C)]) (sm_cons sRv (sm_cons sC (fun _ h => nomatch h))) (by show 2 ≤ 3; decide))
      refine ⟨_, rfl, pr, rfl, ⟨_, SqL.of (O34.same _ _ hpl)⟩, fun E6 fE6 => ?_⟩
      obtain ⟨obE6, hbE6⟩ := O34.box.lst
      refine lc_list (K := K) (a := pr) (xs := tsP) (fun j H9 => GrowB H34 b E6 ((X.take j).map lsD) H9) (GrowB.nil hbE6 fE6) (fun j H9 _ J => SqL.of ((O34.same.trans J.same) _ _ hpl)) ?_ ?_
      · intro j x H9 hj J
        obtain ⟨e, t, he, rfl, ht⟩ := ties_at (hpt.same (O34.same.trans J.same)) hj
        refine ⟨rfl, _, rfl, t, _, rfl, .inr (SqT.of ht), fun p np => ?_⟩
        rw [take_more he, List.map_append]
        exact J.push np (o := .lst [.str e.1, .str e.2]) (fun E hE => .lst hE (.cons (.str _) (.cons (.str _) .nil))) (by rw [List.length_map, List.length_take]; omega)
      intro H35 JE6
      rw [hpt.length, tD_len, List.take_length] at JE6
      have m35 := same_offM (p := b) JE6.same
      have O35 := O34.step JE6.same
      have A35 := A34.mono m35
      have S35 := S34.mono m35
      have L35 := m35 _ _ L34
      refine ⟨_, rfl, (by show 2 ≤ sizeLine; decide), fun p36 n36 => ?_⟩
      have h36 := O35.at_ (o := .tup [.ref E6, .ref cv]) n36
      have m36 := O35.sm (o := .tup [.ref E6, .ref cv]) n36
      have O36 := O35.new (o := .tup [.ref E6, .ref cv]) n36
      obtain ⟨H36, e36⟩ : ∃ H36, H36 = upd H35 p36 (.tup [.ref E6, .ref cv]) := ⟨_, rfl⟩
      rw [← e36] at h36 m36 O36 ⊢
      have A36 := A35.mono m36
      have S36 := S35.mono m36
      have L36 := m36 _ _ L35
      have A36 := A36.add (v := .ref p36) (d := .tuple [.list (X.map lsD), .list (nD C)]) (.tup h36 (.cons ((JE6.done).same m36) (.cons (hC.same O36.up) .nil))) (sm_tup (ds := [.list (X.map lsD), .list (nD C)]) (sm_cons sLs (sm_cons sC (fun _ h => nomatch h))) (by show 2 ≤ 3; decide))
      refine ⟨_, rfl, pr, _, rfl, .inl (SqL.of (O36.same _ _ hpl)), ?_⟩
      refine ⟨_, rfl, (by show 2 ≤ sizeLine; decide), fun p37 n37 => ?_⟩
      have h37 := O36.at_ (o := .tup [.int (tsP.length : Int), .ref cv]) n37
      have m37 := O36.sm (o := .tup [.int (tsP.length : Int), .ref cv]) n37
      have O37 := O36.new (o := .tup [.int (tsP.length : Int), .ref cv]) n37
      obtain ⟨H37, e37⟩ : ∃ H37, H37 = upd H36 p37 (.tup [.int (tsP.length : Int), .ref cv]) := ⟨_, rfl⟩
      rw [← e37] at h37 m37 O37 ⊢
      have A37 := A36.mono m37
      have S37 := S36.mono m37
      have L37 := m37 _ _ L36
      have A37 := A37.add (v := .ref p37) (d := .tuple [.int (tsP.length : Int), .list (nD C)]) (.tup h37 (.cons (.int _) (.cons (hC.same O37.up) .nil))) (sm_tup (ds := [.int (tsP.length : Int), .list (nD C)]) (sm_cons sLen (sm_cons sC (fun _ h => nomatch h))) (by show 2 ≤ 3; decide))
      have A37 := A37.add (v := .int 7) (d := .int 7) (.int _) ((Sm.int (n := 7) (by decide)).mono (by decide) (by decide))
      refine ⟨(by show 4 ≤ sizeLine; decide), fun p38 n38 => ?_⟩
      have h38 := O37.at_ (o := .lst [.ref p34, .ref p36, .ref p37, .int 7]) n38
      have m38 := O37.sm (o := .lst [.ref p34, .ref p36, .ref p37, .int 7]) n38
      have O38 := O37.new (o := .lst [.ref p34, .ref p36, .ref p37, .int 7]) n38
      obtain ⟨H38, e38⟩ : ∃ H38, H38 = upd H37 p38 (.lst [.ref p34, .ref p36, .ref p37, .int 7]) := ⟨_, rfl⟩
      rw [← e38] at h38 m38 O38 ⊢
      have A38 := A37.mono m38
      have S38 := S37.mono m38
      have L38 := m38 _ _ L37
      have q38 : vsS32.length + 4 ≤ sizeLine := Nat.le_trans (show vsS32.length + 4 ≤ 1000 by omega) (by decide)
      refine ⟨l, p38, _, _, rfl, rfl, same_off _ _ L38, same_off _ _ h38, q38, fun l2 nl => ?_⟩
      exact ⟨l2, rfl, LH.mk' O38.same O38.gb O38.box (S38.cat A38).dq (S38.cat A38).sm nl (by rw [List.length_append]; exact Nat.add_le_add_right z32 4)⟩
    rintro σ1 H39 ⟨l, rfl, W⟩
    have okC : ∀ z ∈ C, sOk z := fun z hz => sOk_nm (cnm z hz)
    have cC : PyData.canLay0 (.list (nD C)) = true := by rw [PyData.canLay0]; exact canN okC
    have okX : ∀ e ∈ X, sOk e.1 ∧ sOk e.2 := fun e he => ⟨sOk_nm (xnm e he).1, sOk_nm (xnm e he).2⟩
    have cX : PyData.canLay0 (.list (tD X)) = true := by rw [PyData.canLay0]; exact canT okX
    have tC2 : ∀ d ∈ nD C, Sm 1 200 d := fun d hd => (tC d hd).mono (by decide) (by decide)
    have tX2 : ∀ d ∈ tD X, Sm 1 200 d := fun d hd => (tX d hd).mono (by decide) (by decide)
    have hPL : Dqs G tsP (tD X) := hpt
    have hCL : Dqs G (nv C) (nD C) := Dqs.nv C
    have sAp : ∀ {d e : PyData}, Sm 5 20000 d → Sm 5 20000 e → Sm 10 100000 (.tuple [d, e]) := fun a b => sm_tup (sm_cons a (sm_cons b (fun _ h => nomatch h))) (by show 2 ≤ 3; decide)
    refine ⟨fun σ1 J1 => ∃ v7 v8, σ1 = [some (.ref b), some (.ref n), some (.ref pr), some (.ref cv), some (.ref l), none, none, v7, v8] ∧ LH G b l (c + 5) 40 J1, ?_, ?_⟩
    · skip
      refine ⟨_, rfl, ?_⟩
      refine ⟨Nat.zero_le _, fun a1 u1 => ?_⟩
      have g1 := W.at_ (o := .lst []) u1
      have t1 := LH.s2 (b := b) (l := l) (o := .lst []) u1
      have k1 := same_new (o := .lst []) (Same.refl H39) u1
      have W1 := W.new (o := .lst []) u1
      obtain ⟨Z1, y1⟩ : ∃ Z1, Z1 = upd H39 a1 (.lst []) := ⟨_, rfl⟩
      rw [← y1] at g1 t1 k1 W1 ⊢
      clear y1
      refine ⟨.list (nD C), .list [], Dq.dp _ _ (hC.same W1.same) cC, Dq.dp _ _ (.lst (same_off _ _ (same_off _ _ g1)) .nil) (by simp [PyData.canLay0, PyData.canLayAll0]), (shN okC), shape_nil, _, rfl, ?_⟩
      rw [eqv_nil]
      by_cases c0 : C = []
      · exact ifF (by rw [c0]; rfl) ⟨_, _, rfl, (W1.cnt (by omega)).len (by omega)⟩
      have cpos : 0 < C.length := List.length_pos_iff.mpr c0
      have npos : 0 < ns.length := List.length_pos_iff.mpr (cne c0)
      refine ifT (by cases C with | nil => exact absurd rfl c0 | cons _ _ => rfl) ?_
      have F1 := W1.same
      refine ⟨_, rfl, _, rfl, cv, _, rfl, .inl (SqL.of (F1 _ _ hcv)), b, _, _, rfl, by rw [nv_len]; omega, by rw [nv_len]; omega, W1.box, by omega, fun B1 r hr s1 hB1 => ?_⟩
      have X1 := W1.bx s1 hB1
      have F2 := X1.same
      rw [nv_len] at hr
      have hr1 : r < C.length := by omega
      obtain ⟨j1, x1, ha1, hj1⟩ := atI_sub (xs := nv C) (r := r) (by rw [nv_len]; exact hr1)
      obtain ⟨y1, hy1, rfl⟩ := nv_at hj1
      refine ⟨_, rfl, _, rfl, _, _, rfl, rfl, _, _, _, _, rfl, rfl, SqL.of (F2 _ _ hcv), ha1, ?_⟩
      refine ⟨_, rfl, _, rfl, _, rfl, n, _, rfl, .inl (SqL.of (F2 _ _ hn)), b, _, _, rfl, by rw [nv_len]; omega, by rw [nv_len]; omega, X1.box, by omega, fun B2 r2 hr2 s2 hB2 => ?_⟩
      have X2 := X1.bx s2 hB2
      have F3 := X2.same
      rw [nv_len] at hr2
      have hr3 : r2 < ns.length := by omega
      have hj2 : (nv ns)[r2]? = some (.str ns[r2]) := by unfold nv; rw [List.getElem?_map, List.getElem?_eq_getElem hr3]; rfl
      have hj3 : (nv C)[r]? = some (.str C[r]) := by unfold nv; rw [List.getElem?_map, List.getElem?_eq_getElem hr1]; rfl
      refine ⟨_, _, _, _, rfl, rfl, SqL.of (F3 _ _ hn), atI_nat hj2, ?_⟩
      refine ⟨_, rfl, _, rfl, _, _, _, _, rfl, rfl, SqL.of (F3 _ _ hcv), atI_nat hj3, ?_⟩
      refine ⟨(by show 1 ≤ sizeLine; decide), fun a2 u2 => ?_⟩
      have g2 := X2.at_ (o := .lst [.str C[r]]) u2
      have t2 := LH.s2 (b := b) (l := l) (o := .lst [.str C[r]]) u2
      have k2 := same_new (o := .lst [.str C[r]]) (Same.refl B2) u2
      have W2 := X2.new (o := .lst [.str C[r]]) u2
      obtain ⟨Z2, y2⟩ : ∃ Z2, Z2 = upd B2 a2 (.lst [.str C[r]]) := ⟨_, rfl⟩
      rw [← y2] at g2 t2 k2 W2 ⊢
      clear y2
      have D6 : Dqs (off (off Z2 b) l) [.non, .str y1, .str ns[r2], .str "A", .ref a2, .bl true] [.none, .str y1, .str ns[r2], .str "A", .list [.str C[r]], .bool true] := .cons .non (.cons (.str _) (.cons (.str _) (.cons (.str _) (.cons (.lst g2 (.cons (.str _) .nil)) (.cons (.bl _) .nil)))))
      have m6 : ∀ d ∈ [PyData.none, .str y1, .str ns[r2], .str "A", .list [.str C[r]], .bool true], Sm 1 200 d := by
        have e1 : Sm 0 62 (.str y1) := nm_sm (cnm _ (List.mem_of_getElem? hy1))
        have e2 : Sm 0 62 (.str ns[r2]) := nm_sm (nok _ (List.getElem_mem hr3))
        have e3 : Sm 0 62 (.str C[r]) := nm_sm (cnm _ (List.getElem_mem hr1))
        have e4 : Sm 0 62 (.str "A") := Sm.str (n := 6) (by decide +kernel) (by decide +kernel)
        have e5 : Sm 1 200 (.list [.str C[r]]) := (Sm.list (ds := [.str C[r]]) (n := 1) (fun d hd => by rw [List.mem_singleton.mp hd]; exact e3) (Nat.le_refl _)).mono (by decide) (by decide)
        have nil6 : ∀ d ∈ ([] : List PyData), Sm 1 200 d := fun _ h => nomatch h
        exact sm_cons (Sm.non.mono (by decide) (by decide)) (sm_cons (e1.mono (by decide) (by decide)) (sm_cons (e2.mono (by decide) (by decide)) (sm_cons (e4.mono (by decide) (by decide)) (sm_cons e5 (sm_cons ((Sm.bl true).mono (by decide) (by decide)) nil6)))))
      refine ⟨(by show 6 ≤ sizeLine; decide), fun a3 u3 => ?_⟩
      have g3 := W2.at_ (o := .lst [.non, .str y1, .str ns[r2], .str "A", .ref a2, .bl true]) u3
      have t3 := LH.s2 (b := b) (l := l) (o := .lst [.non, .str y1, .str ns[r2], .str "A", .ref a2, .bl true]) u3
      have k3 := same_new (o := .lst [.non, .str y1, .str ns[r2], .str "A", .ref a2, .bl true]) (Same.refl Z2) u3
      have W3 := W2.new (o := .lst [.non, .str y1, .str ns[r2], .str "A", .ref a2, .bl true]) u3
      obtain ⟨Z3, y3⟩ : ∃ Z3, Z3 = upd Z2 a3 (.lst [.non, .str y1, .str ns[r2], .str "A", .ref a2, .bl true]) := ⟨_, rfl⟩
      rw [← y3] at g3 t3 k3 W3 ⊢
      clear y3
      obtain ⟨q, eq_⟩ : ∃ q, q = a3 := ⟨_, rfl⟩
      rw [← eq_] at g3 ⊢
      have D7 := D6.same t3
      have hq1 : off Z3 l q = some (.lst [.non, .str y1, .str ns[r2], .str "A", .ref a2, .bl true]) := same_offM same_off _ _ g3
      refine ⟨q, rfl, ⟨_, SqL.of (same_off _ _ hq1)⟩, for_list (K := K) (a := q) (xs := [.non, .str y1, .str ns[r2], .str "A", .ref a2, .bl true]) (fun i σ1 J1 => ∃ v8, σ1 = [some (.ref b), some (.ref n), some (.ref pr), some (.ref cv), some (.ref l), none, none, some (.int (r : Int)), v8] ∧ LH G b l (c + 2) (20 + 2 * i) J1 ∧ Same (off Z3 l) J1) ⟨_, rfl, W3.len (by omega), same_off⟩ (fun i σ1 J1 _ ⟨_, _, _, s⟩ => SqL.of (s _ _ hq1)) ?_ ?_⟩
      · rintro i x σ1 J1 hi ⟨w8, rfl, WA, sA⟩
        have hi6 : i < 6 := (List.getElem?_eq_some_iff.mp hi).1
        obtain ⟨d, hd, hx0⟩ := D7.at_ hi
        have dS := m6 d (List.mem_of_getElem? hd)
        have hx := LHhx (b := b) (l := l) hx0 sA
        clear hx0 hi hd
        obtain ⟨vl0, hl0⟩ := WA.at0
        refine ⟨_, rfl, .inl ⟨rfl, _, SqL.of hl0⟩, ?_⟩
        refine ⟨_, rfl, ?_⟩
        have lr : (nv C).length ≤ 14 := by rw [hCL.length]; exact lC
        have lc1 : (cutV (nv C) none (some (r : Int))).length ≤ 14 := cutV_len lr
        have lc2 : (cutV (nv C) (some ((r : Int) + 1)) none).length ≤ 14 := cutV_len lr
        have z1 : (cutV (nv C) none (some (r : Int))).length + [x].length ≤ sizeLine := Nat.le_trans (show _ + 1 ≤ 15 by omega) (by decide)
        have z2 : ((cutV (nv C) none (some (r : Int))) ++ [x]).length + (cutV (nv C) (some ((r : Int) + 1)) none).length ≤ sizeLine := Nat.le_trans (show _ ≤ 29 by rw [List.length_append]; show _ + 1 + _ ≤ 29; omega) (by decide)
        have z3 : (nv C).length + [x].length ≤ sizeLine := Nat.le_trans (show _ + 1 ≤ 15 by omega) (by decide)
        refine ⟨_, rfl, _, rfl, _, rfl, cv, _, rfl, SqL.of (WA.same _ _ hcv), fun b4 u4 => ?_⟩
        have g4 := WA.at_ (o := .lst (cutV (nv C) none (some (r : Int)))) u4
        have t4 := LH.s2 (b := b) (l := l) (o := .lst (cutV (nv C) none (some (r : Int)))) u4
        have k4 := same_new (o := .lst (cutV (nv C) none (some (r : Int)))) (Same.refl J1) u4
        have W4 := WA.new (o := .lst (cutV (nv C) none (some (r : Int)))) u4
        obtain ⟨Z4, y4⟩ : ∃ Z4, Z4 = upd J1 b4 (.lst (cutV (nv C) none (some (r : Int)))) := ⟨_, rfl⟩
        rw [← y4] at g4 t4 k4 W4 ⊢
        clear y4
        refine ⟨_, rfl, (by show 1 ≤ sizeLine; decide), fun b5 u5 => ?_⟩
        have g5 := W4.at_ (o := .lst [x]) u5
        have t5 := LH.s2 (b := b) (l := l) (o := .lst [x]) u5
        have k5 := same_new (o := .lst [x]) (Same.refl Z4) u5
        have W5 := W4.new (o := .lst [x]) u5
        obtain ⟨Z5, y5⟩ : ∃ Z5, Z5 = upd Z4 b5 (.lst [x]) := ⟨_, rfl⟩
        rw [← y5] at g5 t5 k5 W5 ⊢
        clear y5
        refine ⟨b4, b5, _, _, rfl, rfl, (same_off _ _ (same_off _ _ (t5 _ _ g4))), (same_off _ _ (same_off _ _ g5)), z1, fun b6 u6 => ?_⟩
        have g6 := W5.at_ (o := .lst ((cutV (nv C) none (some (r : Int))) ++ [x])) u6
        have t6 := LH.s2 (b := b) (l := l) (o := .lst ((cutV (nv C) none (some (r : Int))) ++ [x])) u6
        have k6 := same_new (o := .lst ((cutV (nv C) none (some (r : Int))) ++ [x])) (Same.refl Z5) u6
        have W6 := W5.new (o := .lst ((cutV (nv C) none (some (r : Int))) ++ [x])) u6
        obtain ⟨Z6, y6⟩ : ∃ Z6, Z6 = upd Z5 b6 (.lst ((cutV (nv C) none (some (r : Int))) ++ [x])) := ⟨_, rfl⟩
        rw [← y6] at g6 t6 k6 W6 ⊢
        clear y6
        refine ⟨_, rfl, _, rfl, _, _, rfl, rfl, _, rfl, cv, _, rfl, SqL.of (W6.same _ _ hcv), fun b7 u7 => ?_⟩
        have g7 := W6.at_ (o := .lst (cutV (nv C) (some ((r : Int) + 1)) none)) u7
        have t7 := LH.s2 (b := b) (l := l) (o := .lst (cutV (nv C) (some ((r : Int) + 1)) none)) u7
        have k7 := same_new (o := .lst (cutV (nv C) (some ((r : Int) + 1)) none)) (Same.refl Z6) u7
        have W7 := W6.new (o := .lst (cutV (nv C) (some ((r : Int) + 1)) none)) u7
        obtain ⟨Z7, y7⟩ : ∃ Z7, Z7 = upd Z6 b7 (.lst (cutV (nv C) (some ((r : Int) + 1)) none)) := ⟨_, rfl⟩
        rw [← y7] at g7 t7 k7 W7 ⊢
        clear y7
        refine ⟨b6, b7, _, _, rfl, rfl, (same_off _ _ (same_off _ _ (t7 _ _ g6))), (same_off _ _ (same_off _ _ g7)), z2, fun b8 u8 => ?_⟩
        have g8 := W7.at_ (o := .lst (((cutV (nv C) none (some (r : Int))) ++ [x]) ++ (cutV (nv C) (some ((r : Int) + 1)) none))) u8
        have t8 := LH.s2 (b := b) (l := l) (o := .lst (((cutV (nv C) none (some (r : Int))) ++ [x]) ++ (cutV (nv C) (some ((r : Int) + 1)) none))) u8
        have k8 := same_new (o := .lst (((cutV (nv C) none (some (r : Int))) ++ [x]) ++ (cutV (nv C) (some ((r : Int) + 1)) none))) (Same.refl Z7) u8
        have W8 := W7.new (o := .lst (((cutV (nv C) none (some (r : Int))) ++ [x]) ++ (cutV (nv C) (some ((r : Int) + 1)) none))) u8
        obtain ⟨Z8, y8⟩ : ∃ Z8, Z8 = upd Z7 b8 (.lst (((cutV (nv C) none (some (r : Int))) ++ [x]) ++ (cutV (nv C) (some ((r : Int) + 1)) none))) := ⟨_, rfl⟩
        rw [← y8] at g8 t8 k8 W8 ⊢
        clear y8
        have hxa := (((((hx).same t4).same t5).same t6).same t7).same t8
        have dmix : Dq (off (off Z8 b) l) (.ref b8) (.list (((cutD (nD C) none (some (r : Int))) ++ [d]) ++ (cutD (nD C) (some ((r : Int) + 1)) none))) := .lst g8 (((cutD_dq (hCL.same W8.up) _ _).append (.cons hxa .nil)).append (cutD_dq (hCL.same W8.up) _ _))
        have smix := mixSm none (some (r : Int)) (some ((r : Int) + 1)) none tC2 dS lC
        refine ⟨(by show 2 ≤ sizeLine; decide), fun b9 u9 => ?_⟩
        have g9 := W8.at_ (o := .tup [.ref pr, .ref b8]) u9
        have t9 := LH.s2 (b := b) (l := l) (o := .tup [.ref pr, .ref b8]) u9
        have k9 := same_new (o := .tup [.ref pr, .ref b8]) (Same.refl Z8) u9
        have W9 := W8.new (o := .tup [.ref pr, .ref b8]) u9
        obtain ⟨Z9, y9⟩ : ∃ Z9, Z9 = upd Z8 b9 (.tup [.ref pr, .ref b8]) := ⟨_, rfl⟩
        rw [← y9] at g9 t9 k9 W9 ⊢
        clear y9
        obtain ⟨xs1, hl1, ln1, V1⟩ := W9.push (v := .ref b9) (d := .tuple [.list (tD X), .list (((cutD (nD C) none (some (r : Int))) ++ [d]) ++ (cutD (nD C) (some ((r : Int) + 1)) none))]) (.tup g9 (.cons (hP.same W9.up) (.cons (dmix.same t9) .nil))) (sAp sP smix) (by omega)
        refine ⟨l, _, _, rfl, rfl, hl1, ln1, ?_⟩
        obtain ⟨Y1, eY1⟩ : ∃ Y1, Y1 = upd Z9 l (.lst (xs1 ++ [.ref b9])) := ⟨_, rfl⟩
        have hxb : Dq (off (off Y1 b) l) x d := by rw [eY1, off2_upd]; exact (hxa).same t9
        have sB : Same (off Z3 l) Y1 := by rw [eY1]; exact same_mut ((((((sA.trans k4).trans k5).trans k6).trans k7).trans k8).trans k9) off_same
        rw [← eY1] at V1 ⊢
        clear eY1 hl1 ln1 dmix smix z1 z2 lc1 lc2 hxa hx hl0 vl0 sA WA b4 u4 g4 t4 k4 W4 b5 u5 g5 t5 k5 W5 b6 u6 g6 t6 k6 W6 b7 u7 g7 t7 k7 W7 b8 u8 g8 t8 k8 W8 b9 u9 g9 t9 k9 W9 Z4 Z5 Z6 Z7 Z8 Z9 xs1 J1
        obtain ⟨vl0, hl0⟩ := V1.at0
        refine ⟨_, rfl, .inl ⟨rfl, _, SqL.of hl0⟩, ?_⟩
        refine ⟨_, rfl, ?_⟩
        refine ⟨_, rfl, _, rfl, (by show 1 ≤ sizeLine; decide), fun b10 u10 => ?_⟩
        have g10 := V1.at_ (o := .lst [x]) u10
        have t10 := LH.s2 (b := b) (l := l) (o := .lst [x]) u10
        have k10 := same_new (o := .lst [x]) (Same.refl Y1) u10
        have W10 := V1.new (o := .lst [x]) u10
        obtain ⟨Z10, y10⟩ : ∃ Z10, Z10 = upd Y1 b10 (.lst [x]) := ⟨_, rfl⟩
        rw [← y10] at g10 t10 k10 W10 ⊢
        clear y10
        refine ⟨cv, b10, _, _, rfl, rfl, W10.same _ _ hcv, (same_off _ _ (same_off _ _ g10)), z3, fun b11 u11 => ?_⟩
        have g11 := W10.at_ (o := .lst ((nv C) ++ [x])) u11
        have t11 := LH.s2 (b := b) (l := l) (o := .lst ((nv C) ++ [x])) u11
        have k11 := same_new (o := .lst ((nv C) ++ [x])) (Same.refl Z10) u11
        have W11 := W10.new (o := .lst ((nv C) ++ [x])) u11
        obtain ⟨Z11, y11⟩ : ∃ Z11, Z11 = upd Z10 b11 (.lst ((nv C) ++ [x])) := ⟨_, rfl⟩
        rw [← y11] at g11 t11 k11 W11 ⊢
        clear y11
        have hxa := ((hxb).same t10).same t11
        have dadd : Dq (off (off Z11 b) l) (.ref b11) (.list ((nD C) ++ [d])) := .lst g11 ((hCL.same W11.up).append (.cons hxa .nil))
        have sadd := addSm tC2 dS lC
        refine ⟨(by show 2 ≤ sizeLine; decide), fun b12 u12 => ?_⟩
        have g12 := W11.at_ (o := .tup [.ref pr, .ref b11]) u12
        have t12 := LH.s2 (b := b) (l := l) (o := .tup [.ref pr, .ref b11]) u12
        have k12 := same_new (o := .tup [.ref pr, .ref b11]) (Same.refl Z11) u12
        have W12 := W11.new (o := .tup [.ref pr, .ref b11]) u12
        obtain ⟨Z12, y12⟩ : ∃ Z12, Z12 = upd Z11 b12 (.tup [.ref pr, .ref b11]) := ⟨_, rfl⟩
        rw [← y12] at g12 t12 k12 W12 ⊢
        clear y12
        obtain ⟨xs2, hl2, ln2, V2⟩ := W12.push (v := .ref b12) (d := .tuple [.list (tD X), .list ((nD C) ++ [d])]) (.tup g12 (.cons (hP.same W12.up) (.cons (dadd.same t12) .nil))) (sAp sP sadd) (by omega)
        refine ⟨l, _, _, rfl, rfl, hl2, ln2, ?_⟩
        obtain ⟨Y2, eY2⟩ : ∃ Y2, Y2 = upd Z12 l (.lst (xs2 ++ [.ref b12])) := ⟨_, rfl⟩
        rw [← eY2] at V2 ⊢
        exact ⟨_, rfl, (V2.len (by omega)), by rw [eY2]; exact same_mut (((sB.trans k10).trans k11).trans k12) off_same⟩
      · rintro σ1 J1 ⟨w8, rfl, WA, _⟩
        exact ⟨_, _, rfl, (WA.cnt (by omega)).len (by show 20 + 2 * 6 ≤ _; omega)⟩
    rintro σ1 HV ⟨v7, v8, rfl, WV⟩
    refine ⟨fun σ1 J1 => ∃ v7 v8, σ1 = [some (.ref b), some (.ref n), some (.ref pr), some (.ref cv), some (.ref l), none, none, v7, v8] ∧ LH G b l (c + 10) 60 J1, ?_, ?_⟩
    · skip
      refine ⟨_, rfl, ?_⟩
      refine ⟨Nat.zero_le _, fun a13 u13 => ?_⟩
      have g13 := WV.at_ (o := .lst []) u13
      have t13 := LH.s2 (b := b) (l := l) (o := .lst []) u13
      have k13 := same_new (o := .lst []) (Same.refl HV) u13
      have W13 := WV.new (o := .lst []) u13
      obtain ⟨Z13, y13⟩ : ∃ Z13, Z13 = upd HV a13 (.lst []) := ⟨_, rfl⟩
      rw [← y13] at g13 t13 k13 W13 ⊢
      clear y13
      refine ⟨.list (tD X), .list [], Dq.dp _ _ (hP.same W13.same) cX, Dq.dp _ _ (.lst (same_off _ _ (same_off _ _ g13)) .nil) (by simp [PyData.canLay0, PyData.canLayAll0]), (shT okX), shape_nil, _, rfl, ?_⟩
      rw [eqv_nil]
      have tlen : tsP.length = X.length := by rw [hPL.length]; exact tD_len
      by_cases x0 : X = []
      · exact ifF (by rw [x0]; rfl) ⟨_, _, rfl, (W13.cnt (by omega)).len (by omega)⟩
      have xpos : 0 < X.length := List.length_pos_iff.mpr x0
      refine ifT (by cases X with | nil => exact absurd rfl x0 | cons _ _ => rfl) ?_
      have F1 := W13.same
      refine ⟨_, rfl, _, rfl, pr, _, rfl, .inl (SqL.of (F1 _ _ hpl)), b, _, _, rfl, by omega, by omega, W13.box, by omega, fun B1 r hr s1 hB1 => ?_⟩
      have X1 := W13.bx s1 hB1
      have F2 := X1.same
      have hr0 : r < tsP.length := by omega
      have hr1 : r < X.length := by omega
      obtain ⟨j1, x1, ha1, hj1⟩ := atI_sub (xs := tsP) (r := r) hr0
      obtain ⟨e1, p1, he1, rfl, hp1⟩ := ties_at hPL hj1
      obtain ⟨x2, hj2⟩ : ∃ x2, tsP[r]? = some x2 := ⟨_, List.getElem?_eq_getElem hr0⟩
      obtain ⟨e2, p2, he2, rfl, hp2⟩ := ties_at hPL hj2
      refine ⟨_, rfl, _, rfl, _, _, rfl, rfl, _, _, _, _, rfl, rfl, SqL.of (F2 _ _ hpl), ha1, ?_⟩
      refine ⟨_, rfl, _, rfl, _, _, _, _, rfl, rfl, SqL.of (F2 _ _ hpl), atI_nat hj2, _, _, _, _, rfl, rfl, SqT.of (F2 _ _ hp2), atI_nat (j := 0) rfl, ?_⟩
      refine ⟨_, rfl, _, rfl, _, _, rfl, rfl, _, _, _, _, rfl, rfl, SqL.of (F2 _ _ hpl), ha1, _, _, _, _, rfl, rfl, SqT.of (F2 _ _ hp1), atI_nat (j := 1) rfl, ?_⟩
      refine ⟨(by show 2 ≤ sizeLine; decide), fun a14 u14 => ?_⟩
      have g14 := X1.at_ (o := .tup [.str e2.1, .str e1.2]) u14
      have t14 := LH.s2 (b := b) (l := l) (o := .tup [.str e2.1, .str e1.2]) u14
      have k14 := same_new (o := .tup [.str e2.1, .str e1.2]) (Same.refl B1) u14
      have W14 := X1.new (o := .tup [.str e2.1, .str e1.2]) u14
      obtain ⟨Z14, y14⟩ : ∃ Z14, Z14 = upd B1 a14 (.tup [.str e2.1, .str e1.2]) := ⟨_, rfl⟩
      rw [← y14] at g14 t14 k14 W14 ⊢
      clear y14
      have F3 := W14.same
      refine ⟨_, rfl, _, rfl, _, _, _, _, rfl, rfl, SqL.of (F3 _ _ hpl), atI_nat hj2, _, _, _, _, rfl, rfl, SqT.of (F3 _ _ hp2), atI_nat (j := 0) rfl, ?_⟩
      refine ⟨(by show 1 ≤ sizeLine; decide), fun a15 u15 => ?_⟩
      have g15 := W14.at_ (o := .tup [.str e2.1]) u15
      have t15 := LH.s2 (b := b) (l := l) (o := .tup [.str e2.1]) u15
      have k15 := same_new (o := .tup [.str e2.1]) (Same.refl Z14) u15
      have W15 := W14.new (o := .tup [.str e2.1]) u15
      obtain ⟨Z15, y15⟩ : ∃ Z15, Z15 = upd Z14 a15 (.tup [.str e2.1]) := ⟨_, rfl⟩
      rw [← y15] at g15 t15 k15 W15 ⊢
      clear y15
      have F4 := W15.same
      refine ⟨_, rfl, _, rfl, _, _, _, _, rfl, rfl, SqL.of (F4 _ _ hpl), atI_nat hj2, _, _, _, _, rfl, rfl, SqT.of (F4 _ _ hp2), atI_nat (j := 0) rfl, ?_⟩
      have D6 : Dqs (off (off Z15 b) l) [.non, .ref p1, .ref a14, .ref a15, .str e2.1] [.none, tieD e1, .tuple [.str e2.1, .str e1.2], .tuple [.str e2.1], .str e2.1] := .cons .non (.cons ((Dq.tie hp1).same W15.up) (.cons (.tup (t15 _ _ g14) (.cons (.str _) (.cons (.str _) .nil))) (.cons (.tup g15 (.cons (.str _) .nil)) (.cons (.str _) .nil))))
      have m6 : ∀ d ∈ [PyData.none, tieD e1, .tuple [.str e2.1, .str e1.2], .tuple [.str e2.1], .str e2.1], Sm 1 200 d := by
        have q1 := xnm e1 (List.mem_of_getElem? he1)
        have q2 := xnm e2 (List.mem_of_getElem? he2)
        have s1 : Sm 1 200 (tieD e1) := (tie_sm q1).mono (by decide) (by decide)
        have s2 : Sm 1 200 (.tuple [.str e2.1, .str e1.2]) := (tie_sm (e := (e2.1, e1.2)) ⟨q2.1, q1.2⟩).mono (by decide) (by decide)
        have s3 : Sm 1 200 (.tuple [.str e2.1]) := (Sm.tup (ds := [.str e2.1]) (k := 0) (m := 62) (n := 1) (fun d hd => by rw [List.mem_singleton.mp hd]; exact nm_sm q2.1) (Nat.le_refl _)).mono (by decide) (by decide)
        have s4 : Sm 1 200 (.str e2.1) := (nm_sm q2.1).mono (by decide) (by decide)
        have nil6 : ∀ d ∈ ([] : List PyData), Sm 1 200 d := fun _ h => nomatch h
        exact sm_cons (Sm.non.mono (by decide) (by decide)) (sm_cons s1 (sm_cons s2 (sm_cons s3 (sm_cons s4 nil6))))
      refine ⟨(by show 5 ≤ sizeLine; decide), fun a16 u16 => ?_⟩
      have g16 := W15.at_ (o := .lst [.non, .ref p1, .ref a14, .ref a15, .str e2.1]) u16
      have t16 := LH.s2 (b := b) (l := l) (o := .lst [.non, .ref p1, .ref a14, .ref a15, .str e2.1]) u16
      have k16 := same_new (o := .lst [.non, .ref p1, .ref a14, .ref a15, .str e2.1]) (Same.refl Z15) u16
      have W16 := W15.new (o := .lst [.non, .ref p1, .ref a14, .ref a15, .str e2.1]) u16
      obtain ⟨Z16, y16⟩ : ∃ Z16, Z16 = upd Z15 a16 (.lst [.non, .ref p1, .ref a14, .ref a15, .str e2.1]) := ⟨_, rfl⟩
      rw [← y16] at g16 t16 k16 W16 ⊢
      clear y16
      obtain ⟨q, eq_⟩ : ∃ q, q = a16 := ⟨_, rfl⟩
      rw [← eq_] at g16 ⊢
      have D7 := D6.same t16
      have hq1 : off Z16 l q = some (.lst [.non, .ref p1, .ref a14, .ref a15, .str e2.1]) := same_offM same_off _ _ g16
      refine ⟨q, rfl, ⟨_, SqL.of (same_off _ _ hq1)⟩, for_list (K := K) (a := q) (xs := [.non, .ref p1, .ref a14, .ref a15, .str e2.1]) (fun i σ1 J1 => ∃ v8, σ1 = [some (.ref b), some (.ref n), some (.ref pr), some (.ref cv), some (.ref l), none, none, some (.int (r : Int)), v8] ∧ LH G b l (c + 6) (40 + 2 * i) J1 ∧ Same (off Z16 l) J1) ⟨_, rfl, W16.len (by omega), same_off⟩ (fun i σ1 J1 _ ⟨_, _, _, s⟩ => SqL.of (s _ _ hq1)) ?_ ?_⟩
      · rintro i x σ1 J1 hi ⟨w8, rfl, WA, sA⟩
        have hi6 : i < 5 := (List.getElem?_eq_some_iff.mp hi).1
        obtain ⟨d, hd, hx0⟩ := D7.at_ hi
        have dS := m6 d (List.mem_of_getElem? hd)
        have hx := LHhx (b := b) (l := l) hx0 sA
        clear hx0 hi hd
        obtain ⟨vl0, hl0⟩ := WA.at0
        refine ⟨_, rfl, .inl ⟨rfl, _, SqL.of hl0⟩, ?_⟩
        have lr : tsP.length ≤ 14 := by rw [hPL.length]; exact lX
        have lc1 : (cutV tsP none (some (r : Int))).length ≤ 14 := cutV_len lr
        have lc2 : (cutV tsP (some ((r : Int) + 1)) none).length ≤ 14 := cutV_len lr
        have z1 : (cutV tsP none (some (r : Int))).length + [x].length ≤ sizeLine := Nat.le_trans (show _ + 1 ≤ 15 by omega) (by decide)
        have z2 : ((cutV tsP none (some (r : Int))) ++ [x]).length + (cutV tsP (some ((r : Int) + 1)) none).length ≤ sizeLine := Nat.le_trans (show _ ≤ 29 by rw [List.length_append]; show _ + 1 + _ ≤ 29; omega) (by decide)
        have z3 : tsP.length + [x].length ≤ sizeLine := Nat.le_trans (show _ + 1 ≤ 15 by omega) (by decide)
        refine ⟨_, rfl, _, rfl, _, rfl, pr, _, rfl, SqL.of (WA.same _ _ hpl), fun b17 u17 => ?_⟩
        have g17 := WA.at_ (o := .lst (cutV tsP none (some (r : Int)))) u17
        have t17 := LH.s2 (b := b) (l := l) (o := .lst (cutV tsP none (some (r : Int)))) u17
        have k17 := same_new (o := .lst (cutV tsP none (some (r : Int)))) (Same.refl J1) u17
        have W17 := WA.new (o := .lst (cutV tsP none (some (r : Int)))) u17
        obtain ⟨Z17, y17⟩ : ∃ Z17, Z17 = upd J1 b17 (.lst (cutV tsP none (some (r : Int)))) := ⟨_, rfl⟩
        rw [← y17] at g17 t17 k17 W17 ⊢
        clear y17
        refine ⟨_, rfl, (by show 1 ≤ sizeLine; decide), fun b18 u18 => ?_⟩
        have g18 := W17.at_ (o := .lst [x]) u18
        have t18 := LH.s2 (b := b) (l := l) (o := .lst [x]) u18
        have k18 := same_new (o := .lst [x]) (Same.refl Z17) u18
        have W18 := W17.new (o := .lst [x]) u18
        obtain ⟨Z18, y18⟩ : ∃ Z18, Z18 = upd Z17 b18 (.lst [x]) := ⟨_, rfl⟩
        rw [← y18] at g18 t18 k18 W18 ⊢
        clear y18
        refine ⟨b17, b18, _, _, rfl, rfl, (same_off _ _ (same_off _ _ (t18 _ _ g17))), (same_off _ _ (same_off _ _ g18)), z1, fun b19 u19 => ?_⟩
        have g19 := W18.at_ (o := .lst ((cutV tsP none (some (r : Int))) ++ [x])) u19
        have t19 := LH.s2 (b := b) (l := l) (o := .lst ((cutV tsP none (some (r : Int))) ++ [x])) u19
        have k19 := same_new (o := .lst ((cutV tsP none (some (r : Int))) ++ [x])) (Same.refl Z18) u19
        have W19 := W18.new (o := .lst ((cutV tsP none (some (r : Int))) ++ [x])) u19
        obtain ⟨Z19, y19⟩ : ∃ Z19, Z19 = upd Z18 b19 (.lst ((cutV tsP none (some (r : Int))) ++ [x])) := ⟨_, rfl⟩
        rw [← y19] at g19 t19 k19 W19 ⊢
        clear y19
        refine ⟨_, rfl, _, rfl, _, _, rfl, rfl, _, rfl, pr, _, rfl, SqL.of (W19.same _ _ hpl), fun b20 u20 => ?_⟩
        have g20 := W19.at_ (o := .lst (cutV tsP (some ((r : Int) + 1)) none)) u20
        have t20 := LH.s2 (b := b) (l := l) (o := .lst (cutV tsP (some ((r : Int) + 1)) none)) u20
        have k20 := same_new (o := .lst (cutV tsP (some ((r : Int) + 1)) none)) (Same.refl Z19) u20
        have W20 := W19.new (o := .lst (cutV tsP (some ((r : Int) + 1)) none)) u20
        obtain ⟨Z20, y20⟩ : ∃ Z20, Z20 = upd Z19 b20 (.lst (cutV tsP (some ((r : Int) + 1)) none)) := ⟨_, rfl⟩
        rw [← y20] at g20 t20 k20 W20 ⊢
        clear y20
        refine ⟨b19, b20, _, _, rfl, rfl, (same_off _ _ (same_off _ _ (t20 _ _ g19))), (same_off _ _ (same_off _ _ g20)), z2, fun b21 u21 => ?_⟩
        have g21 := W20.at_ (o := .lst (((cutV tsP none (some (r : Int))) ++ [x]) ++ (cutV tsP (some ((r : Int) + 1)) none))) u21
        have t21 := LH.s2 (b := b) (l := l) (o := .lst (((cutV tsP none (some (r : Int))) ++ [x]) ++ (cutV tsP (some ((r : Int) + 1)) none))) u21
        have k21 := same_new (o := .lst (((cutV tsP none (some (r : Int))) ++ [x]) ++ (cutV tsP (some ((r : Int) + 1)) none))) (Same.refl Z20) u21
        have W21 := W20.new (o := .lst (((cutV tsP none (some (r : Int))) ++ [x]) ++ (cutV tsP (some ((r : Int) + 1)) none))) u21
        obtain ⟨Z21, y21⟩ : ∃ Z21, Z21 = upd Z20 b21 (.lst (((cutV tsP none (some (r : Int))) ++ [x]) ++ (cutV tsP (some ((r : Int) + 1)) none))) := ⟨_, rfl⟩
        rw [← y21] at g21 t21 k21 W21 ⊢
        clear y21
        have hxa := (((((hx).same t17).same t18).same t19).same t20).same t21
        have dmix : Dq (off (off Z21 b) l) (.ref b21) (.list (((cutD (tD X) none (some (r : Int))) ++ [d]) ++ (cutD (tD X) (some ((r : Int) + 1)) none))) := .lst g21 (((cutD_dq (hPL.same W21.up) _ _).append (.cons hxa .nil)).append (cutD_dq (hPL.same W21.up) _ _))
        have smix := mixSm none (some (r : Int)) (some ((r : Int) + 1)) none tX2 dS lX
        refine ⟨_, rfl, (by show 2 ≤ sizeLine; decide), fun b22 u22 => ?_⟩
        have g22 := W21.at_ (o := .tup [.ref b21, .ref cv]) u22
        have t22 := LH.s2 (b := b) (l := l) (o := .tup [.ref b21, .ref cv]) u22
        have k22 := same_new (o := .tup [.ref b21, .ref cv]) (Same.refl Z21) u22
        have W22 := W21.new (o := .tup [.ref b21, .ref cv]) u22
        obtain ⟨Z22, y22⟩ : ∃ Z22, Z22 = upd Z21 b22 (.tup [.ref b21, .ref cv]) := ⟨_, rfl⟩
        rw [← y22] at g22 t22 k22 W22 ⊢
        clear y22
        obtain ⟨xs3, hl3, ln3, V3⟩ := W22.push (v := .ref b22) (d := .tuple [.list (((cutD (tD X) none (some (r : Int))) ++ [d]) ++ (cutD (tD X) (some ((r : Int) + 1)) none)), .list (nD C)]) (.tup g22 (.cons (dmix.same t22) (.cons (hC.same W22.up) .nil))) (sAp smix sC) (by omega)
        refine ⟨l, _, _, rfl, rfl, hl3, ln3, ?_⟩
        obtain ⟨Y3, eY3⟩ : ∃ Y3, Y3 = upd Z22 l (.lst (xs3 ++ [.ref b22])) := ⟨_, rfl⟩
        have hxb : Dq (off (off Y3 b) l) x d := by rw [eY3, off2_upd]; exact (hxa).same t22
        have sB : Same (off Z16 l) Y3 := by rw [eY3]; exact same_mut ((((((sA.trans k17).trans k18).trans k19).trans k20).trans k21).trans k22) off_same
        rw [← eY3] at V3 ⊢
        clear eY3 hl3 ln3 dmix smix z1 z2 lc1 lc2 hxa hx hl0 vl0 sA WA b17 u17 g17 t17 k17 W17 b18 u18 g18 t18 k18 W18 b19 u19 g19 t19 k19 W19 b20 u20 g20 t20 k20 W20 b21 u21 g21 t21 k21 W21 b22 u22 g22 t22 k22 W22 Z17 Z18 Z19 Z20 Z21 Z22 xs3 J1
        obtain ⟨vl0, hl0⟩ := V3.at0
        refine ⟨_, rfl, .inl ⟨rfl, _, SqL.of hl0⟩, ?_⟩
        refine ⟨_, rfl, _, rfl, (by show 1 ≤ sizeLine; decide), fun b23 u23 => ?_⟩
        have g23 := V3.at_ (o := .lst [x]) u23
        have t23 := LH.s2 (b := b) (l := l) (o := .lst [x]) u23
        have k23 := same_new (o := .lst [x]) (Same.refl Y3) u23
        have W23 := V3.new (o := .lst [x]) u23
        obtain ⟨Z23, y23⟩ : ∃ Z23, Z23 = upd Y3 b23 (.lst [x]) := ⟨_, rfl⟩
        rw [← y23] at g23 t23 k23 W23 ⊢
        clear y23
        refine ⟨pr, b23, _, _, rfl, rfl, W23.same _ _ hpl, (same_off _ _ (same_off _ _ g23)), z3, fun b24 u24 => ?_⟩
        have g24 := W23.at_ (o := .lst (tsP ++ [x])) u24
        have t24 := LH.s2 (b := b) (l := l) (o := .lst (tsP ++ [x])) u24
        have k24 := same_new (o := .lst (tsP ++ [x])) (Same.refl Z23) u24
        have W24 := W23.new (o := .lst (tsP ++ [x])) u24
        obtain ⟨Z24, y24⟩ : ∃ Z24, Z24 = upd Z23 b24 (.lst (tsP ++ [x])) := ⟨_, rfl⟩
        rw [← y24] at g24 t24 k24 W24 ⊢
        clear y24
        have hxa := ((hxb).same t23).same t24
        have dadd : Dq (off (off Z24 b) l) (.ref b24) (.list ((tD X) ++ [d])) := .lst g24 ((hPL.same W24.up).append (.cons hxa .nil))
        have sadd := addSm tX2 dS lX
        refine ⟨_, rfl, Nat.zero_le _, fun b25 u25 => ?_⟩
        have g25 := W24.at_ (o := .lst []) u25
        have t25 := LH.s2 (b := b) (l := l) (o := .lst []) u25
        have k25 := same_new (o := .lst []) (Same.refl Z24) u25
        have W25 := W24.new (o := .lst []) u25
        obtain ⟨Z25, y25⟩ : ∃ Z25, Z25 = upd Z24 b25 (.lst []) := ⟨_, rfl⟩
        rw [← y25] at g25 t25 k25 W25 ⊢
        clear y25
        refine ⟨.list (nD C), .list [], Dq.dp _ _ (hC.same W25.same) cC, Dq.dp _ _ (.lst (same_off _ _ (same_off _ _ g25)) .nil) (by simp [PyData.canLay0, PyData.canLayAll0]), (shN okC), shape_nil, _, rfl, ?_⟩
        rw [eqv_nil]
        by_cases c0 : C = []
        · refine ifF (by rw [c0]; rfl) ?_
          refine ⟨_, rfl, (by show 2 ≤ sizeLine; decide), fun b26 u26 => ?_⟩
          have g26 := W25.at_ (o := .tup [.ref b24, .ref cv]) u26
          have t26 := LH.s2 (b := b) (l := l) (o := .tup [.ref b24, .ref cv]) u26
          have k26 := same_new (o := .tup [.ref b24, .ref cv]) (Same.refl Z25) u26
          have W26 := W25.new (o := .tup [.ref b24, .ref cv]) u26
          obtain ⟨Z26, y26⟩ : ∃ Z26, Z26 = upd Z25 b26 (.tup [.ref b24, .ref cv]) := ⟨_, rfl⟩
          rw [← y26] at g26 t26 k26 W26 ⊢
          clear y26
          obtain ⟨xs4, hl4, ln4, V4⟩ := W26.push (v := .ref b26) (d := .tuple [.list ((tD X) ++ [d]), .list (nD C)]) (.tup g26 (.cons (((dadd).same t25).same t26) (.cons (hC.same W26.up) .nil))) (sAp sadd sC) (by omega)
          refine ⟨l, _, _, rfl, rfl, hl4, ln4, ?_⟩
          obtain ⟨Y4, eY4⟩ : ∃ Y4, Y4 = upd Z26 l (.lst (xs4 ++ [.ref b26])) := ⟨_, rfl⟩
          rw [← eY4] at V4 ⊢
          exact ⟨_, rfl, (V4.len (by omega)), by rw [eY4]; exact same_mut ((((sB.trans k23).trans k24).trans k25).trans k26) off_same⟩
        · have cpos : 0 < C.length := List.length_pos_iff.mpr c0
          have hj0 : (nv C)[0]? = some (.str C[0]) := by unfold nv; rw [List.getElem?_map, List.getElem?_eq_getElem cpos]; rfl
          have e0s : Sm 1 200 (.str C[0]) := (nm_sm (cnm _ (List.getElem_mem cpos))).mono (by decide) (by decide)
          have z4 : (nv C).length + [V.str C[0]].length ≤ sizeLine := by rw [nv_len]; exact Nat.le_trans (show _ + 1 ≤ 15 by omega) (by decide)
          refine ifT (by cases C with | nil => exact absurd rfl c0 | cons _ _ => rfl) ?_
          refine ⟨_, rfl, _, rfl, _, _, _, _, rfl, rfl, SqL.of (W25.same _ _ hcv), atI_nat hj0, (by show 1 ≤ sizeLine; decide), fun b26 u26 => ?_⟩
          have g26 := W25.at_ (o := .lst [.str C[0]]) u26
          have t26 := LH.s2 (b := b) (l := l) (o := .lst [.str C[0]]) u26
          have k26 := same_new (o := .lst [.str C[0]]) (Same.refl Z25) u26
          have W26 := W25.new (o := .lst [.str C[0]]) u26
          obtain ⟨Z26, y26⟩ : ∃ Z26, Z26 = upd Z25 b26 (.lst [.str C[0]]) := ⟨_, rfl⟩
          rw [← y26] at g26 t26 k26 W26 ⊢
          clear y26
          refine ⟨cv, b26, _, _, rfl, rfl, W26.same _ _ hcv, (same_off _ _ (same_off _ _ g26)), z4, fun b27 u27 => ?_⟩
          have g27 := W26.at_ (o := .lst (nv C ++ [.str C[0]])) u27
          have t27 := LH.s2 (b := b) (l := l) (o := .lst (nv C ++ [.str C[0]])) u27
          have k27 := same_new (o := .lst (nv C ++ [.str C[0]])) (Same.refl Z26) u27
          have W27 := W26.new (o := .lst (nv C ++ [.str C[0]])) u27
          obtain ⟨Z27, y27⟩ : ∃ Z27, Z27 = upd Z26 b27 (.lst (nv C ++ [.str C[0]])) := ⟨_, rfl⟩
          rw [← y27] at g27 t27 k27 W27 ⊢
          clear y27
          refine ⟨(by show 2 ≤ sizeLine; decide), fun b28 u28 => ?_⟩
          have g28 := W27.at_ (o := .tup [.ref b24, .ref b27]) u28
          have t28 := LH.s2 (b := b) (l := l) (o := .tup [.ref b24, .ref b27]) u28
          have k28 := same_new (o := .tup [.ref b24, .ref b27]) (Same.refl Z27) u28
          have W28 := W27.new (o := .tup [.ref b24, .ref b27]) u28
          obtain ⟨Z28, y28⟩ : ∃ Z28, Z28 = upd Z27 b28 (.tup [.ref b24, .ref b27]) := ⟨_, rfl⟩
          rw [← y28] at g28 t28 k28 W28 ⊢
          clear y28
          obtain ⟨xs5, hl5, ln5, V5⟩ := W28.push (v := .ref b28) (d := .tuple [.list ((tD X) ++ [d]), .list (nD C ++ [.str C[0]])]) (.tup g28 (.cons (((((dadd).same t25).same t26).same t27).same t28) (.cons (.lst (t28 _ _ g27) ((Dqs.nv C).append (.cons (.str _) .nil))) .nil))) (sAp sadd (addSm tC2 e0s lC)) (by omega)
          refine ⟨l, _, _, rfl, rfl, hl5, ln5, ?_⟩
          obtain ⟨Y5, eY5⟩ : ∃ Y5, Y5 = upd Z28 l (.lst (xs5 ++ [.ref b28])) := ⟨_, rfl⟩
          rw [← eY5] at V5 ⊢
          exact ⟨_, rfl, (V5.len (by omega)), by rw [eY5]; exact same_mut ((((((sB.trans k23).trans k24).trans k25).trans k26).trans k27).trans k28) off_same⟩
      · rintro σ1 J1 ⟨w8, rfl, WA, _⟩
        exact ⟨_, _, rfl, (WA.cnt (by omega)).len (by show 40 + 2 * 5 ≤ _; omega)⟩
    rintro σ1 HZ ⟨v7, v8, rfl, WZ⟩
    obtain ⟨dsZ, dqZ, smZ⟩ := WZ.fin
    exact ⟨_, rfl, k HZ l dsZ WZ.same WZ.box dqZ smZ⟩
end
end K27

namespace K27
open PySem PySem.Spec PyProof.Rows L2 KM
section
variable {X : Cx}
theorem passF : Passes (L2N.CX X.prog X.w) X (fun _ _ _ => False) := fun _ _ _ _ _ _ _ ⟨_, _, _, _, _, _, _, _, _, _, _, _, h⟩ => h.elim
theorem passAt0 {σ : L2.St} {E : XK} : PassesAt CX0 X σ E := fun _ _ _ _ _ _ h => h.elim
theorem takesF : L2N.Takes X (fun _ _ _ _ => False) := fun _ _ ⟨_, _, _, _, _, _, _, _, _, _, _, _, _, _, _, _, w⟩ => w.elim
end
/-- as Fok, where no repr is under way -/
structure FokG (P : Program) (w : World) (K : PySem.W.Frag) (mg : Str → Option Value) (base : Heap) (CX : CXT) (k : Nat) (f : Addr) (ps : List Str) (sp : Sp) : Prop where
  ex : ∃ fd, FnG P w K mg base CX k f fd ps sp ∧ Binds K fd ps [] ∧ PySem.W.keepIn K (.ref f) = true
section
variable {P : Program} {w : World} {K : PySem.W.Frag} {mg : Str → Option Value} {base : Heap}
def spAsked (K : PySem.W.Frag) : Sp := fun vs H Q _ => ∃ (a n l : Addr) (ns : List Str) (es : List (Str × Str)) (v : V) (d : PyData), vs = [.ref a, .ref n, .ref l, v] ∧ WebAt K H a ns es ∧ H n = some (.lst (nv ns)) ∧ Dq H (.ref l) (.list (tD es)) ∧ Wb ns es ∧ Dq H v d ∧ Sm 10 100000 d ∧ ∀ H', Same H H' → Q (.bl true) H'
theorem ok_L_asked (T : Tx K mg) (hsm : (K.lookup sysModules).isSome = true) (F1 : Fok P w K mg base CX0 5 (He.ga K "shows_cover") ["web", "thing"] (spShows K)) (F2 : Fok P w K mg base CX0 3 (He.ga K "_law_shows") ["_law_names_here", "_law_ties", "_law_thing"] (spLShows K)) :
    FokG P w K mg base CX0 6 (He.ga K "_law_asked") ["_law_web", "_law_names_here", "_law_ties", "_law_thing"] (spAsked K) := by
  obtain ⟨fd, F⟩ := T.f_L_asked
  obtain ⟨_, G_shows_cover, b_shows_cover, k_shows_cover⟩ := F1
  obtain ⟨_, G_L_shows, b_L_shows, k_L_shows⟩ := F2
  refine ⟨fd, okG F scL_asked (fun vs H Q E h => ?_) (fun cdv A outer s H vs Q E hg hr h => ?_), b_L_asked F, F.kp⟩
  · obtain ⟨a, n, l, ns, es, v, d, rfl, _⟩ := h
    rfl
  · obtain ⟨a, n, l, ns, es, v, d, rfl, hw, hn, hl, wb, hd, sm, k⟩ := h
    have hgu : (A.deeper (envOfC "_law_asked" (defScope sL_asked) s.heap.objs.size (He.ga K "_law_asked") cdv)).guards = some [] := hg
    have ln : d.shown.length ≤ sizeLine := Nat.le_trans sm.ln (by decide)
    have dp : d.depth ≤ 30 := Nat.le_trans sm.dp (by decide)
    refine ⟨_, PSs.nox (pss_cons (ps_set (i := 4) scL_asked.nd rfl (Or.inl rfl) (pe_callB (call_repr hgu hr.units hsm) (by rfl) T.z_repr (by decide +kernel) (pa_cons (pv 3) pa_nil)))
    (pss_cons (ps_set (i := 5) scL_asked.nd rfl (Or.inl rfl) (pe_call G_shows_cover (hr.mono (by decide)) rfl T.g_shows_cover k_shows_cover b_shows_cover .nil pass0 (pa_cons (pv 0) (pa_cons (pv 3) pa_nil))))
    (pss_cons (ps_if (PW.pt (pw_or (pt_not (pt_val (pe_callB call_isi (by rfl) T.z_isinstance (by decide +kernel) (pa_cons (pv 5) (pa_cons (pe_bltn (v := .ty "bool") (u := .type "bool") (by rfl) T.z_bool (by decide +kernel) rfl) pa_nil))))) (pw_or1 (pt_cmpR op_ne (pv 5) (pe_call G_L_shows (hr.mono (by decide)) rfl T.g_L_shows k_L_shows b_L_shows .nil pass0 (pa_cons (pv 1) (pa_cons (pv 2) (pa_cons (pv 3) pa_nil)))) (nomark _))))) (pss_one (ps_ret pe_bl)) pss_nil)
    (pss_one (ps_ret (pe_cmpR op_eq (pe_callB (call_repr hgu hr.units hsm) (by rfl) T.z_repr (by decide +kernel) (pa_cons (pv 3) pa_nil)) (pv 4) (nomark _))))))), ?_⟩
    refine ⟨_, rfl, v, d, rfl, hd, sm.sh, dp, ln, ?_⟩
    refine ⟨_, rfl, _, rfl, a, ns, es, v, d, rfl, hw, wb, hd, fun H1 s1 => ?_⟩
    refine ⟨_, rfl, _, _, _, .type "bool", true, rfl, .ty _, .base (.bl _), kit_ty (by decide +kernel), _, rfl, ?_⟩
    refine ifF rfl ?_
    refine ⟨_, rfl, _, rfl, _, rfl, _, rfl, n, l, ns, es, v, d, rfl, s1 _ _ hn, hl.same s1, wb, hd.same s1, fun H2 s2 => ⟨rfl, _, rfl, ?_⟩⟩
    refine ifF (by rw [decide_eq_true rfl]; rfl) ?_
    have s3 := s1.trans s2
    refine ⟨_, rfl, v, d, rfl, hd.same s3, sm.sh, dp, ln, _, rfl, rfl, ?_⟩
    show Q (.bl (decide (V.str d.shown = V.str d.shown))) H2
    rw [decide_eq_true rfl]
    exact k H2 s3
end
end K27

namespace K27
open PySem PySem.Spec PyProof.Rows L2 KM
theorem isPl_of {ns : List Str} {z : Str} (h : z ∈ ns) : isPl ns (.str z) = true := decide_eq_true h
theorem pairs_valid {ns : List Str} {es : List (Str × Str)} (wg : Wg ns es) : ∀ (X : List (Str × Str)) (s : List Str), (∀ p ∈ X, adj es p.1 p.2 = true) → (ends X).Nodup → (∀ x ∈ ends X, x ∉ s) → pairsL ns es (tD X) s = true
  | [], _, _, _, _ => rfl
  | (a, b) :: r, s, had, nd, hs => by
    have ad := had (a, b) List.mem_cons_self
    obtain ⟨an, bn, ne⟩ := wg.adj ad
    rw [ends_cons] at nd hs
    have n1 := List.nodup_cons.mp nd
    have n2 := List.nodup_cons.mp n1.2
    show (isTie ns es (tieD (a, b)) && (!decide (a ∈ s) && (!decide (b ∈ s) && pairsL ns es (tD r) (b :: a :: s)))) = true
    have e1 : isTie ns es (tieD (a, b)) = true := by
      show (isPl ns (.str a) && (isPl ns (.str b) && adj es a b)) = true
      rw [isPl_of an, isPl_of bn, show adj es a b = true from ad]
      rfl
    rw [e1, decide_eq_false (hs a List.mem_cons_self), decide_eq_false (hs b (List.mem_cons_of_mem _ List.mem_cons_self)), pairs_valid wg r (b :: a :: s) (fun p hp => had p (List.mem_cons_of_mem _ hp)) n2.2 fun x hx q => ?_]
    · rfl
    · rcases List.mem_cons.mp q with q | q
      · exact n2.1 (q ▸ hx)
      · rcases List.mem_cons.mp q with q | q
        · exact n1.1 (List.mem_cons_of_mem _ (q ▸ hx))
        · exact hs x (List.mem_cons_of_mem _ (List.mem_cons_of_mem _ hx)) q
def foundD (X : List (Str × Str)) (C : List Str) : PyData := .tuple [.list (tD X), .list (nD C)]
theorem shows_best {ns : List Str} {es X : List (Str × Str)} {C : List Str} (wg : Wg ns es) (h : Best ns es X C) : showsB ns es (foundD X C) = true := by
  show (pairsL ns es (tD X) [] && (coverB ns es (.list (nD C)) && decide ((tD X).length = (nD C).length))) = true
  rw [pairs_valid wg X [] h.p.ad h.p.nd (fun _ _ q => nomatch q), (coverB_valid h.c.sub h.c.nd).mpr h.c, decide_eq_true (show (tD X).length = (nD C).length by unfold tD nD; rw [List.length_map, List.length_map]; exact h.len)]
  rfl
theorem valid_nm {ns : List Str} {es X : List (Str × Str)} (wb : Wb ns es) (h : ValidP es X) : (∀ e ∈ X, e.1 ∈ ns ∧ e.2 ∈ ns) ∧ X.length ≤ 14 :=
  ⟨fun e he => ⟨(wb.wg.adj (h.ad e he)).1, (wb.wg.adj (h.ad e he)).2.1⟩, Nat.le_trans (valid_len wb.wg h) wb.ln⟩
theorem validC_len {ns : List Str} {es : List (Str × Str)} {C : List Str} (wb : Wb ns es) (h : ValidC ns es C) : C.length ≤ 14 := Nat.le_trans (nodup_sub_len h.nd h.sub) wb.ln
theorem found_sm {ns : List Str} {es X : List (Str × Str)} {C : List Str} (wb : Wb ns es) (hX : ValidP es X) (hC : ValidC ns es C) : Sm 10 100000 (foundD X C) := by
  obtain ⟨h1, h2⟩ := valid_nm wb hX
  refine (Sm.tup (k := 2) (m := 1900) (n := 2) (fun d hd => ?_) (Nat.le_refl _)).mono (by decide) (by decide)
  rcases List.mem_cons.mp hd with q | q
  · rw [q]
    exact tD_sm (fun e he => ⟨wb.nm (h1 e he).1, wb.nm (h1 e he).2⟩) h2
  · rw [List.mem_singleton.mp q]
    exact (nD_sm (fun z hz => wb.nm (hC.sub z hz)) (validC_len wb hC)).mono (by decide) (by decide)
section
variable {P : Program} {w : World} {K : PySem.W.Frag} {mg : Str → Option Value} {base : Heap}
def spTold (K : PySem.W.Frag) : Sp := fun vs H Q _ => ∃ (a n l : Addr) (ns : List Str) (es : List (Str × Str)), vs = [.ref a, .ref n, .ref l] ∧ WebAt K H a ns es ∧ H n = some (.lst (nv ns)) ∧ Dq H (.ref l) (.list (tD es)) ∧ Wb ns es ∧ ∀ H', Same H H' → Q (.bl true) H'
theorem ok_L_told (T : Tx K mg) (hsm : (K.lookup sysModules).isSome = true) (F1 : Fok P w K mg base (L2N.CX P w) 6 (He.ga K "greatest_by_sides") ["web"] (spGreatest K)) (F2 : Fok P w K mg base CX0 1 (He.ga K "_law_colours") ["_law_names_here", "_law_ties"] (spColours K))
    (F3 : ∃ fd, L2H.FnH P w K mg base CX0 1 (He.ga K "_law_colours") fd ["_law_names_here", "_law_ties"] (spColours K) ∧ Binds K fd ["_law_names_here", "_law_ties"] [] ∧ PySem.W.keepIn K (.ref (He.ga K "_law_colours")) = true)
    (F4 : Fok P w K mg base CX0 3 (He.ga K "_law_shows") ["_law_names_here", "_law_ties", "_law_thing"] (spLShows K)) (F5 : Fok P w K mg base CX0 1 (He.ga K "_law_partners") ["_law_pairs_here"] (spLPart K)) (F6 : Fok P w K mg base CX0 1 (He.ga K "_law_rising") ["_law_names_here", "_law_partners_here"] (spLRising K)) :
    FokG P w K mg base CX0 7 (He.ga K "_law_told") ["_law_web", "_law_names_here", "_law_ties"] (spTold K) := by
  obtain ⟨fd, F⟩ := T.f_L_told
  obtain ⟨_, G_greatest_by_sides, b_greatest_by_sides, k_greatest_by_sides⟩ := F1
  obtain ⟨_, G_L_colours, b_L_colours, k_L_colours⟩ := F2
  obtain ⟨_, GH_L_colours, bH_L_colours, kH_L_colours⟩ := F3
  obtain ⟨_, G_L_shows, b_L_shows, k_L_shows⟩ := F4
  obtain ⟨_, G_L_partners, b_L_partners, k_L_partners⟩ := F5
  obtain ⟨_, G_L_rising, b_L_rising, k_L_rising⟩ := F6
  refine ⟨fd, okG F scL_told (fun vs H Q E h => ?_) (fun cdv A outer s H vs Q E hg hr h => ?_), b_L_told F, F.kp⟩
  · obtain ⟨a, n, l, ns, es, rfl, _⟩ := h
    rfl
  · obtain ⟨a, n, l, ns, es, rfl, hw, hn, hl, wb, k⟩ := h
    have hgu : (A.deeper (envOfC "_law_told" (defScope sL_told) s.heap.objs.size (He.ga K "_law_told") cdv)).guards = some [] := hg
    obtain ⟨X, hX⟩ : ∃ X, X = (cxOf CX0 P w K mg base NL_told "_law_told" (defScope sL_told) (He.ga K "_law_told") cdv A outer s H E).nox := ⟨_, rfl⟩
    have tkF : L2N.Takes (cxOf CX0 P w K mg base NL_told "_law_told" (defScope sL_told) (He.ga K "_law_told") cdv A outer s H E).nox (fun _ _ _ _ => False) := takesF
    have nmOdd : Names (cxOf CX0 P w K mg base NL_told "_law_told" (defScope sL_told) (He.ga K "_law_told") cdv A outer s H E).nox "Odd" (.ref (aOdd K)) := ⟨rfl, by decide, .inl T.g_Odd⟩
    have hot : ∀ (a : Addr) (oe : Obj) (cls : Value) (d : Option Addr) (pn : List (Addr × Obj)), L2N.Zn cls d oe → (∃ vs, oe.data = .fields vs) → L2H.HotC (Cx.suite (cxOf CX0 P w K mg base NL_told "_law_told" (defScope sL_told) (He.ga K "_law_told") cdv A outer s H E).nox a ((a, oe) :: pn)) := fun a oe cls d pn hz ⟨vs, hf⟩ => ⟨(a, oe), ⟨rfl, vs, hf, hz.2.2 vs hf⟩, List.mem_cons_self⟩
    have hrH : ∀ (a : Addr) (oe : Obj) (pn : List (Addr × Obj)), L2H.RoomH 1 (Cx.suite (cxOf CX0 P w K mg base NL_told "_law_told" (defScope sL_told) (He.ga K "_law_told") cdv A outer s H E).nox a ((a, oe) :: pn)).A := fun a oe pn => ⟨(hr.mono (by decide : 1 ≤ 6)).dp, (hr.mono (by decide : 1 ≤ 6)).un⟩
    refine ⟨_, PSs.nox (pss_cons (ps_set (i := 3) scL_told.nd rfl (Or.inr rfl) pe_non)
    (pss_cons (L2N.ps_try_many rfl rfl tkF (fun W pn xe tk po => pss_one (ps_set (i := 3) scL_told.nd rfl (Or.inr rfl) (pe_callS G_greatest_by_sides (hr.mono (by decide)) rfl T.g_greatest_by_sides k_greatest_by_sides b_greatest_by_sides (fun σ => L2N.passAt tk σ) (pa_cons (pv 0) pa_nil)))) (.cons nmOdd (fun a oe cls d pn hz hf => pss_one (ps_ret (pe_cmpR op_isN (L2H.pe_callH (E := fun _ _ _ _ => False) GH_L_colours (hrH a oe pn) (hot a oe cls d pn hz hf) rfl T.g_L_colours kH_L_colours bH_L_colours (fun σ => passAt0) (pa_cons (pv 1) (pa_cons (pv 2) pa_nil))) pe_non (nomark _)))) .nil))
    (pss_cons (ps_if (PW.pt (pw_or (pt_cmpR op_isN (pe_call G_L_colours (hr.mono (by decide)) rfl T.g_L_colours k_L_colours b_L_colours .nil pass0 (pa_cons (pv 1) (pa_cons (pv 2) pa_nil))) pe_non (nomark _)) (pw_or1 (pt_not (pt_val (pe_call G_L_shows (hr.mono (by decide)) rfl T.g_L_shows k_L_shows b_L_shows .nil pass0 (pa_cons (pv 1) (pa_cons (pv 2) (pa_cons (pv 3) pa_nil))))))))) (pss_one (ps_ret pe_bl)) pss_nil)
    (pss_cons (ps_if (pt_cmpR (op_neD hr.units) (pe_ix ix_tup (pv 3) pe_int (fun _ _ => rfl)) (pe_call G_L_rising (hr.mono (by decide)) rfl T.g_L_rising k_L_rising b_L_rising .nil pass0 (pa_cons (pv 1) (pa_cons (pe_call G_L_partners (hr.mono (by decide)) rfl T.g_L_partners k_L_partners b_L_partners .nil pass0 (pa_cons (pe_ix ix_tup (pv 3) pe_int (fun _ _ => rfl)) pa_nil)) pa_nil))) (nomark _)) (pss_one (ps_ret pe_bl)) pss_nil)
    (pss_cons (ps_if (pt_cmpR (op_neD hr.units) (pe_ix ix_tup (pv 3) pe_int (fun _ _ => rfl)) (pe_lc (own := [("_law_name", 4)]) rfl scL_told.nd (pi_list (pv 1)) (blkOk_by (own := [("_law_name", 4)]) (N := NL_told) (sc := defScope sL_told) (by decide +kernel)) (fun _ _ _ _ _ => (pg_name (i := 4) scL_told.nd rfl (Or.inl rfl))) (fun _ _ _ _ _ => (pts_one (pt_cmpR (op_in_seqK (K := K) rfl) (pv 4) (pe_ix (ix_tupK (K := K) rfl) (pv 3) pe_int (fun _ _ => rfl)) (by first | exact nomark _ | rfl)))) (fun _ _ _ _ _ => (pv 4))) (nomark _)) (pss_one (ps_ret pe_bl)) pss_nil)
    (pss_cons (ps_set (i := 5) scL_told.nd rfl (Or.inl rfl) (pe_callB (call_repr hgu hr.units hsm) (by rfl) T.z_repr (by decide +kernel) (pa_cons (pv 3) pa_nil)))
    (pss_cons (ps_expr (pe_bm PySem.F.plainAttrs_list PySem.F.slot_list_append PySem.F.type_list_append mt_append (pe_ix ix_tup (pv 3) pe_int (fun _ _ => rfl)) (pa_cons pe_int pa_nil)))
    (pss_cons (ps_expr (pe_bm PySem.F.plainAttrs_list PySem.F.slot_list_append PySem.F.type_list_append mt_append (pe_ix ix_tup (pv 3) pe_int (fun _ _ => rfl)) (pa_cons pe_int pa_nil)))
    (pss_one (ps_ret (pe_cmpR op_eq (pe_callB (call_repr hgu hr.units hsm) (by rfl) T.z_repr (by decide +kernel) (pa_cons (pe_call G_greatest_by_sides (hr.mono (by decide)) rfl T.g_greatest_by_sides k_greatest_by_sides b_greatest_by_sides .nil passF (pa_cons (pv 0) pa_nil)) pa_nil)) (pv 5) (nomark _)))))))))))), ?_⟩
    refine ⟨_, rfl, a, ns, es, rfl, hw, wb, fun H1 t p c X1 C1 s1 ft fp fc pc bip hgr hb ht hp hc => ?_, fun nb H' d s1 => ?_⟩
    · -- found
      obtain ⟨_, tsP, ep, hpl, hpt⟩ := hp.list_inv
      cases ep
      have hn1 := s1 _ _ hn
      have hl1 := hl.same s1
      refine ⟨_, rfl, _, rfl, n, l, ns, es, rfl, hn1, hl1, wb, fun H2 v s2 hv => ⟨rfl, _, rfl, ?_⟩⟩
      have vn : v ≠ V.non := fun e => (hv.mp e) bip
      refine ifF (decide_eq_false vn) ?_
      have s12 := s1.trans s2
      have dF : Dq H2 (.ref t) (foundD X1 C1) := .tup (s2 _ _ ht) (.cons (hp.same s2) (.cons (.lst (s2 _ _ hc) (Dqs.nv C1)) .nil))
      refine ⟨_, rfl, _, rfl, _, rfl, n, l, ns, es, .ref t, foundD X1 C1, rfl, s2 _ _ hn1, hl1.same s2, wb, dF, fun H3 s3 => ⟨_, rfl, ?_⟩⟩
      rw [shows_best wb.wg hb]
      refine ifF rfl ?_
      have s13 := s2.trans s3
      have ht3 := s13 _ _ ht
      have hp3 := hp.same s13
      have hc3 := s13 _ _ hc
      have hn3 := s13 _ _ hn1
      obtain ⟨nmX, lX⟩ := valid_nm wb hb.p
      have eoX : EOk X1 := fun e he => ⟨wb.ok _ (nmX e he).1, wb.ok _ (nmX e he).2⟩
      have l14 := wb.ln
      -- the pairs rise
      refine ⟨_, rfl, _, _, _, _, rfl, rfl, SqT.of ht3, rfl, _, rfl, _, rfl, _, _, _, _, rfl, rfl, SqT.of ht3, rfl, p, ns, X1, rfl, hp3, nmX, by omega, fun H4 d s4 nd hd => ?_⟩
      refine ⟨n, d, ns, lPart X1, rfl, s4 _ _ hn3, l14, hd, fun H5 p2 s5 np2 hp2 => ?_⟩
      rw [hb.ris] at hp2
      have s15 := s13.trans (s4.trans s5)
      have hp5 := hp.same s15
      have cX : PyData.canLay0 (.list (tD X1)) = true := by rw [PyData.canLay0]; exact canT eoX
      refine ⟨.list (tD X1), .list (tD X1), Dq.dp _ _ hp5 cX, Dq.dp _ _ hp2 cX, shT eoX, shT eoX, _, rfl, ?_⟩
      rw [SeqAt.eqv_refl _ cX]
      refine ifF rfl ?_
      have ht5 := s15 _ _ ht
      have hc5 := s15 _ _ hc
      have hn5 := s15 _ _ hn1
      -- the cover is in order
      refine ⟨_, rfl, _, _, _, _, rfl, rfl, SqT.of ht5, rfl, _, rfl, n, rfl, ⟨_, SqL.of hn5⟩, fun D fD => ?_⟩
      refine lc_list (K := K) (a := n) (xs := nv ns) (fun j H6 => SelI H5 D ns (fun z => decide (z ∈ C1)) V.str j H6) (SelI.nil (Same.refl _) fD) (fun j H6 _ J => SqL.of (J.same _ _ hn5)) ?_ ?_
      · intro j x H6 hj J
        obtain ⟨z, hz, rfl⟩ := nv_at hj
        refine ⟨rfl, _, rfl, _, rfl, _, _, _, _, rfl, rfl, SqT.of (J.same _ _ ht5), rfl, c, _, rfl, .inl (SqL.of (J.same _ _ hc5)), rfl, nv_flat C1, _, rfl, ?_⟩
        rw [inV_nv]
        cases e : decide (z ∈ C1) with
        | true => exact ifT rfl ⟨_, rfl, J.yes hz (Same.refl H6) e rfl (by omega)⟩
        | false => exact ifF rfl (J.no hz (Same.refl H6) e)
      · intro H6 J
        rw [nv_len] at J
        have hD := J.done
        rw [hb.ord] at hD
        have hD : H6 D = some (.lst (nv C1)) := hD
        have s16 := s15.trans J.same
        have okC : ∀ z ∈ C1, sOk z := fun z hz => wb.ok z (hb.c.sub z hz)
        have cC : PyData.canLay0 (.list (nD C1)) = true := by rw [PyData.canLay0]; exact canN okC
        refine ⟨.list (nD C1), .list (nD C1), Dq.dp _ _ (.lst (s16 _ _ hc) (Dqs.nv C1)) cC, Dq.dp _ _ (.lst hD (Dqs.nv C1)) cC, shN okC, shN okC, _, rfl, ?_⟩
        rw [SeqAt.eqv_refl _ cC]
        refine ifF rfl ?_
        have ht6 := s16 _ _ ht
        have hp6 := s16 _ _ hpl
        have hc6 := s16 _ _ hc
        have sm := found_sm wb hb.p hb.c
        have lns : (foundD X1 C1).shown.length ≤ sizeLine := Nat.le_trans sm.ln (by decide)
        have dps : (foundD X1 C1).depth ≤ 30 := Nat.le_trans sm.dp (by decide)
        have dF6 : Dq H6 (.ref t) (foundD X1 C1) := .tup ht6 (.cons (hp.same s16) (.cons (.lst hc6 (Dqs.nv C1)) .nil))
        refine ⟨_, rfl, .ref t, foundD X1 C1, rfl, dF6, sm.sh, dps, lns, ?_⟩
        -- what was found is spoilt
        have szP : tsP.length < sizeLine := by
          have q := hpt.length
          unfold tD at q
          rw [List.length_map] at q
          exact Nat.lt_of_le_of_lt (by omega : tsP.length ≤ 14) (by decide)
        have szC : (nv C1).length < sizeLine := by
          rw [nv_len]
          exact Nat.lt_of_le_of_lt (validC_len wb hb.c) (by decide)
        have s06 := s1.trans s16
        refine ⟨_, rfl, _, _, _, _, rfl, rfl, SqT.of ht6, rfl, .inl ⟨rfl, _, SqL.of hp6⟩, p, _, _, rfl, rfl, hp6, szP, ?_⟩
        have s07 : Same H (upd H6 p (.lst (tsP ++ [V.int 0]))) := same_mut s06 fp
        have tp : t ≠ p := ne_of ht6 hp6 (by intro z; cases z)
        have ht7 : upd H6 p (.lst (tsP ++ [V.int 0])) t = some (.tup [.ref p, .ref c]) := (upd_ne tp).trans ht6
        have hc7 : upd H6 p (.lst (tsP ++ [V.int 0])) c = some (.lst (nv C1)) := (upd_ne pc.symm).trans hc6
        refine ⟨_, rfl, _, _, _, _, rfl, rfl, SqT.of ht7, rfl, .inl ⟨rfl, _, SqL.of hc7⟩, c, _, _, rfl, rfl, hc7, szC, ?_⟩
        have s08 : Same H (upd (upd H6 p (.lst (tsP ++ [V.int 0]))) c (.lst (nv C1 ++ [V.int 0]))) := same_mut s07 fc
        refine ⟨_, rfl, a, ns, es, rfl, hw.mono s08, wb, fun H9 t' p' c' X2 C2 s9 ft' fp' fc' pc' bip' hgr' hb' ht' hp' hc' => ?_, fun nb => absurd bip nb⟩
        rw [hgr] at hgr'
        cases hgr'
        have dF9 : Dq H9 (.ref t') (foundD X1 C1) := .tup ht' (.cons hp' (.cons (.lst hc' (Dqs.nv C1)) .nil))
        refine ⟨.ref t', foundD X1 C1, rfl, dF9, sm.sh, dps, lns, _, rfl, rfl, ?_⟩
        show Q (.bl (decide (V.str (foundD X1 C1).shown = V.str (foundD X1 C1).shown))) H9
        rw [decide_eq_true rfl]
        exact k H9 (s08.trans s9)
    · -- no two sides
      refine ⟨true, T.exm, fun _ a0 ha0 => ?_, fun q => nomatch q⟩
      refine ⟨_, rfl, _, rfl, n, l, ns, es, rfl, s1 _ _ hn, hl.same s1, wb, fun H2 v s2 hv => ⟨rfl, ?_⟩⟩
      show Q (.bl (decide (v = V.non))) H2
      rw [decide_eq_true (hv.mpr nb)]
      exact k H2 (s1.trans s2)
end
end K27

namespace K27
open PySem PySem.Spec PyProof.Rows L2 KM
/-- the best that the law holds on to -/
def BestAt (G : Hp) (ns : List Str) (es : List (Str × Str)) (v : V) : Prop := v = V.non ∨ ∃ (t p c : Addr) (X : List (Str × Str)) (C : List Str), v = .ref t ∧ G t = some (.tup [.ref p, .ref c]) ∧ Dq G (.ref p) (.list (tD X)) ∧ G c = some (.lst (nv C)) ∧ ValidP es X ∧ ValidC ns es C
theorem BestAt.same {G H : Hp} {ns : List Str} {es : List (Str × Str)} {v : V} (h : BestAt G ns es v) (s : Same G H) : BestAt H ns es v := by
  rcases h with h | ⟨t, p, c, X, C, h1, h2, h3, h4, h5, h6⟩
  · exact .inl h
  · exact .inr ⟨t, p, c, X, C, h1, s _ _ h2, h3.same s, s _ _ h4, h5, h6⟩
section
variable {P : Program} {w : World} {K : PySem.W.Frag} {mg : Str → Option Value} {base : Heap}
def spLaw (K : PySem.W.Frag) : Sp := fun vs H Q _ => ∃ (a : Addr) (cells : List Int), vs = [.ref a] ∧ SqL K H a (cells.map V.int) ∧ ∀ H', Q (.bl true) H'
theorem ok_law {fd : FuncData} (F : FunD K "law" "law" (defArgs slaw) (defBody slaw) (defScope slaw) [] [] (He.ga K "law") fd) (T : Tx K mg) (hsm : (K.lookup sysModules).isSome = true) (F1 : Fok P w K mg base CX0 3 (He.ga K "_law_sided") ["_law_script", "_law_most"] (spLSided K)) (F2 : Fok P w K mg base CX0 4 (mW K "__init__") ["self", "names", "ties"] (spInit K))
    (F3 : FokG P w K mg base CX0 7 (He.ga K "_law_told") ["_law_web", "_law_names_here", "_law_ties"] (spTold K)) (F4 : Fok P w K mg base CX0 1 (He.ga K "_law_colours") ["_law_names_here", "_law_ties"] (spColours K)) (F5 : Fok P w K mg base (L2N.CX P w) 6 (He.ga K "greatest_by_sides") ["web"] (spGreatest K))
    (F6 : Fok P w K mg base CX0 1 (He.ga K "_law_at") ["_law_script", "_law_k"] (spLAt K)) (F7 : Fok P w K mg base CX0 1 (He.ga K "_law_box") ["_law_cell"] spLBox) (F8 : Fok P w K mg base CX0 2 (He.ga K "_law_pairs") ["_law_box_here", "_law_ties"] (spLPairs K))
    (F9 : Fok P w K mg base CX0 2 (He.ga K "_law_cover") ["_law_box_here", "_law_names_here", "_law_ties"] (spLCover K)) (F10 : Fok P w K mg base CX0 2 (He.ga K "_law_otherwise") ["_law_box_here", "_law_names_here", "_law_pairs_here", "_law_cover_here"] (spLOther K))
    (F11 : FokG P w K mg base CX0 6 (He.ga K "_law_asked") ["_law_web", "_law_names_here", "_law_ties", "_law_thing"] (spAsked K)) :
    FnG P w K mg base CX0 8 (He.ga K "law") fd ["_law_script"] (spLaw K) := by
  obtain ⟨_, G_L_sided, b_L_sided, k_L_sided⟩ := F1
  obtain ⟨_, G_Web_init, b_Web_init, _⟩ := F2
  obtain ⟨_, G_L_told, b_L_told, k_L_told⟩ := F3
  obtain ⟨_, G_L_colours, b_L_colours, k_L_colours⟩ := F4
  obtain ⟨_, G_greatest_by_sides, b_greatest_by_sides, k_greatest_by_sides⟩ := F5
  obtain ⟨_, G_L_at, b_L_at, k_L_at⟩ := F6
  obtain ⟨_, G_L_box, b_L_box, k_L_box⟩ := F7
  obtain ⟨_, G_L_pairs, b_L_pairs, k_L_pairs⟩ := F8
  obtain ⟨_, G_L_cover, b_L_cover, k_L_cover⟩ := F9
  obtain ⟨_, G_L_otherwise, b_L_otherwise, k_L_otherwise⟩ := F10
  obtain ⟨_, G_L_asked, b_L_asked, k_L_asked⟩ := F11
  refine okG F sclaw (fun vs H Q E h => ?_) (fun cdv A outer s H vs Q E hg hr h => ?_)
  · obtain ⟨a, cells, rfl, _⟩ := h
    rfl
  · obtain ⟨a, cells, rfl, hS, k⟩ := h
    have hgu : (A.deeper (envOfC "law" (defScope slaw) s.heap.objs.size (He.ga K "law") cdv)).guards = some [] := hg
    refine ⟨_, PSs.nox (pss_cons (ps_asg (pe_call G_L_sided (hr.mono (by decide)) rfl T.g_L_sided k_L_sided b_L_sided .nil pass0 (pa_cons (pv 0) (pa_cons pe_int pa_nil))) (pg_tup rfl (pgs_cons (pg_name (i := 1) sclaw.nd rfl (Or.inl rfl)) (pgs_cons (pg_name (i := 2) sclaw.nd rfl (Or.inl rfl)) pgs_nil))))
    (pss_cons (ps_set (i := 3) sclaw.nd rfl (Or.inl rfl) (pe_make T.mkw G_Web_init (hr.mono (by decide)) rfl T.g_Web b_Web_init .nil pass0 (pa_cons (pv 1) (pa_cons (pv 2) pa_nil))))
    (pss_cons (ps_if (pt_not (pt_val (pe_callG G_L_told hgu (hr.mono (by decide)) rfl T.g_L_told k_L_told b_L_told pass0 (pa_cons (pv 3) (pa_cons (pv 1) (pa_cons (pv 2) pa_nil)))))) (pss_one (ps_ret pe_bl)) pss_nil)
    (pss_cons (ps_set (i := 4) sclaw.nd rfl (Or.inl rfl) pe_non)
    (pss_cons (ps_join (ps_if (pt_cmpR op_notN (pe_call G_L_colours (hr.mono (by decide)) rfl T.g_L_colours k_L_colours b_L_colours .nil pass0 (pa_cons (pv 1) (pa_cons (pv 2) pa_nil))) pe_non (nomark _)) (pss_one (ps_set (i := 4) sclaw.nd rfl (Or.inl rfl) (pe_call G_greatest_by_sides (hr.mono (by decide)) rfl T.g_greatest_by_sides k_greatest_by_sides b_greatest_by_sides .nil passF (pa_cons (pv 3) pa_nil)))) pss_nil))
    (pss_cons (ps_set (i := 5) sclaw.nd rfl (Or.inl rfl) (pe_call G_L_box (hr.mono (by decide)) rfl T.g_L_box k_L_box b_L_box .nil pass0 (pa_cons (pe_call G_L_at (hr.mono (by decide)) rfl T.g_L_at k_L_at b_L_at .nil pass0 (pa_cons (pv 0) (pa_cons pe_int pa_nil))) pa_nil)))
    (pss_cons (ps_for PassesOwn.never rfl (pi_range1 rfl T.z_range (pa_cons pe_int pa_nil)) (pg_name (i := 6) sclaw.nd rfl (Or.inl rfl)) (pss_cons (ps_set (i := 7) sclaw.nd rfl (Or.inl rfl) (pe_call G_L_pairs (hr.mono (by decide)) rfl T.g_L_pairs k_L_pairs b_L_pairs .nil pass0 (pa_cons (pv 5) (pa_cons (pv 2) pa_nil))))
    (pss_cons (ps_set (i := 8) sclaw.nd rfl (Or.inl rfl) (pe_call G_L_cover (hr.mono (by decide)) rfl T.g_L_cover k_L_cover b_L_cover .nil pass0 (pa_cons (pv 5) (pa_cons (pv 1) (pa_cons (pv 2) pa_nil)))))
    (pss_cons (ps_join (ps_if (PW.pt (pw_or (pt_cmpR op_gt (pe_callB call_len_seq (by rfl) T.z_len (by decide +kernel) (pa_cons (pv 7) pa_nil)) (pe_callB call_len_seq (by rfl) T.z_len (by decide +kernel) (pa_cons (pv 8) pa_nil)) (nomark _)) (pw_or1 (PW.pt (pw_and (pt_cmpR op_notN (pv 4) pe_non (nomark _)) (pw_and1 (PW.pt (pw_or (pt_cmpR op_gt (pe_callB call_len_seq (by rfl) T.z_len (by decide +kernel) (pa_cons (pe_ix ix_tup (pv 4) pe_int (fun _ _ => rfl)) pa_nil)) (pe_callB call_len_seq (by rfl) T.z_len (by decide +kernel) (pa_cons (pv 8) pa_nil)) (nomark _)) (pw_or1 (pt_cmpR op_gt (pe_callB call_len_seq (by rfl) T.z_len (by decide +kernel) (pa_cons (pv 7) pa_nil)) (pe_callB call_len_seq (by rfl) T.z_len (by decide +kernel) (pa_cons (pe_ix ix_tup (pv 4) pe_int (fun _ _ => rfl)) pa_nil)) (nomark _))))))))))) (pss_one (ps_ret pe_bl)) pss_nil))
    (pss_cons (ps_for PassesOwn.never rfl (pi_list (pe_call G_L_otherwise (hr.mono (by decide)) rfl T.g_L_otherwise k_L_otherwise b_L_otherwise .nil pass0 (pa_cons (pv 5) (pa_cons (pv 1) (pa_cons (pv 7) (pa_cons (pv 8) pa_nil)))))) (pg_name (i := 9) sclaw.nd rfl (Or.inl rfl)) (pss_one (ps_if (pt_not (pt_val (pe_callG G_L_asked hgu (hr.mono (by decide)) rfl T.g_L_asked k_L_asked b_L_asked pass0 (pa_cons (pv 3) (pa_cons (pv 1) (pa_cons (pv 2) (pa_cons (pv 9) pa_nil))))))) (pss_one (ps_ret pe_bl)) pss_nil)))
    (pss_one (ps_if (pt_cmpR op_notN (pv 4) pe_non (nomark _)) (pss_one (ps_for PassesOwn.never rfl (pi_list (pe_call G_L_otherwise (hr.mono (by decide)) rfl T.g_L_otherwise k_L_otherwise b_L_otherwise .nil pass0 (pa_cons (pv 5) (pa_cons (pv 1) (pa_cons (pe_ix ix_tup (pv 4) pe_int (fun _ _ => rfl)) (pa_cons (pe_ix ix_tup (pv 4) pe_int (fun _ _ => rfl)) pa_nil)))))) (pg_name (i := 9) sclaw.nd rfl (Or.inl rfl)) (pss_one (ps_if (pt_not (pt_val (pe_callG G_L_asked hgu (hr.mono (by decide)) rfl T.g_L_asked k_L_asked b_L_asked pass0 (pa_cons (pv 3) (pa_cons (pv 1) (pa_cons (pv 2) (pa_cons (pv 9) pa_nil))))))) (pss_one (ps_ret pe_bl)) pss_nil)))) pss_nil)))))))
    (pss_one (ps_ret pe_bl))))))))), ?_⟩
    refine ⟨_, rfl, a, cells, rfl, hS, fun H1 t0 n l ns es s1 ht0 hn hl wb => ?_⟩
    refine ⟨t0, _, rfl, SqT.of ht0, rfl, _, _, rfl, _, _, rfl, rfl, ?_⟩
    -- the web
    refine ⟨_, rfl, _, rfl, fun x dx nx ndx ndxx => ?_⟩
    have sx : Same H1 (upd (upd H1 dx (.own x)) x (.ins (cWeb K) dx [])) := same_new (same_new (Same.refl H1) ndx) (by rw [upd_ne ndxx.symm]; exact nx)
    refine ⟨H1, x, dx, n, l, ns, es, rfl, sx, nx, upd_same, hn, hl, wb, fun H2 s2 hw => ⟨rfl, ?_⟩⟩
    have hn2 := s2 _ _ hn
    have hl2 := hl.same s2
    refine ⟨_, rfl, _, rfl, _, rfl, x, n, l, ns, es, rfl, hw, hn2, hl2, wb, fun H3 s3 => ⟨_, rfl, ?_⟩⟩
    refine ifF rfl ?_
    have hw3 := hw.mono s3
    have hn3 := s3 _ _ hn2
    have hl3 := hl2.same s3
    -- the best
    refine ⟨fun σ H' => ∃ v4, σ = [some (.ref a), some (.ref n), some (.ref l), some (.ref x), some v4, none, none, none, none, none] ∧ Same H3 H' ∧ BestAt H' ns es v4, ?_, ?_⟩
    · refine ⟨_, rfl, _, rfl, n, l, ns, es, rfl, hn3, hl3, wb, fun H4 v s4 hv => ⟨rfl, _, rfl, ?_⟩⟩
      by_cases bip : Bip es
      · have vn : v ≠ V.non := fun e => (hv.mp e) bip
        refine ifT (by rw [decide_eq_false vn]; rfl) ?_
        refine ⟨_, rfl, x, ns, es, rfl, hw3.mono s4, wb, fun H5 t p c X C s5 _ _ _ _ _ _ hb ht hp hc => ?_, fun nb => absurd bip nb⟩
        exact ⟨_, rfl, s4.trans s5, .inr ⟨t, p, c, X, C, rfl, ht, hp, hc, hb.p, hb.c⟩⟩
      · refine ifF (by rw [decide_eq_true (hv.mpr bip)]; rfl) ?_
        exact ⟨_, rfl, s4, .inl rfl⟩
    · rintro σ H4 ⟨v4, rfl, s4, hbest⟩
      have hw4 := hw3.mono s4
      have hn4 := s4 _ _ hn3
      have hl4 := hl3.same s4
      have hS4 : SqL K H4 a (cells.map V.int) := (s1.trans (s2.trans (s3.trans s4))).seq hS
      refine ⟨_, rfl, a, cells, 1, rfl, hS4, fun i0 => ⟨i0, rfl, fun H5 b s5 nb hB5 => ?_⟩⟩
      obtain ⟨G, hG⟩ : ∃ G, G = off H5 b := ⟨_, rfl⟩
      have gb : G b = none := by rw [hG, off_same]
      have s4G : Same H4 G := by
        rw [hG]
        exact same_to s5 nb
      have sG5 : Same G H5 := by
        rw [hG]
        exact same_off
      have hwG := hw4.mono s4G
      have hnG := s4G _ _ hn4
      have hlG := hl4.same s4G
      have hbG := hbest.same s4G
      have asked : ∀ {H' : Hp} (G2 : Hp), Same G G2 → Same G2 H' → WebAt K H' x ns es ∧ H' n = some (.lst (nv ns)) ∧ Dq H' (.ref l) (.list (tD es)) := fun G2 q1 q2 => ⟨hwG.mono (q1.trans q2), (q1.trans q2) _ _ hnG, hlG.same (q1.trans q2)⟩
      refine ⟨2, rfl, by decide, by decide, ?_⟩
      refine for_range (lo := 0) (n := 2) (fun i σ H' => ∃ v6 v7 v8 v9, σ = [some (.ref a), some (.ref n), some (.ref l), some (.ref x), some v4, some (.ref b), v6, v7, v8, v9] ∧ Same G H' ∧ BoxAt H' b (1000 * i)) ⟨none, none, none, none, rfl, sG5, hB5⟩ ?_ ?_
      · rintro i σ H6 hi ⟨v6, v7, v8, v9, rfl, s6, hB6⟩
        refine ⟨_, rfl, _, rfl, G, b, l, 1000 * i, ns, es, rfl, s6, gb, hlG, wb, hB6, by omega, fun H7 pp X s7 hB7 hX7 vX => ?_⟩
        obtain ⟨G1, hG1⟩ : ∃ G1, G1 = off H7 b := ⟨_, rfl⟩
        have g1b : G1 b = none := by rw [hG1, off_same]
        have sGG1 : Same G G1 := by
          rw [hG1]
          exact same_to s7 gb
        have sG1 : Same G1 H7 := by
          rw [hG1]
          exact same_off
        rw [← hG1] at hX7
        refine ⟨_, rfl, _, rfl, _, rfl, G1, b, n, l, _, ns, es, rfl, sG1, g1b, sGG1 _ _ hnG, hlG.same sGG1, wb, hB7, by omega, fun H8 cq C s8 hB8 cqb hC8 vC => ?_⟩
        obtain ⟨G2, hG2⟩ : ∃ G2, G2 = off H8 b := ⟨_, rfl⟩
        have g2b : G2 b = none := by rw [hG2, off_same]
        have sG12 : Same G1 G2 := by
          rw [hG2]
          exact same_to s8 g1b
        have sG2 : Same G2 H8 := by
          rw [hG2]
          exact same_off
        have sGG2 := sGG1.trans sG12
        have hX2 := hX7.same sG12
        have hC2 : G2 cq = some (.lst (nv C)) := by rw [hG2, off_ne cqb, hC8]
        obtain ⟨_, tsX, ep, hXl, hXt⟩ := hX2.list_inv
        cases ep
        have lX : tsX.length = X.length := by
          rw [hXt.length]
          unfold tD
          rw [List.length_map]
        have wk := weak vX vC
        obtain ⟨nmX, lX14⟩ := valid_nm wb vX
        have lC14 := validC_len wb vC
        -- no pairs outnumber a cover
        have first : decide (((nv C).length : Int) < (tsX.length : Int)) = false := decide_eq_false (by rw [lX, nv_len]; omega)
        refine ⟨fun σ' H' => σ' = [some (.ref a), some (.ref n), some (.ref l), some (.ref x), some v4, some (.ref b), some (.int (0 + (i : Int))), some (.ref pp), some (.ref cq), v9] ∧ H' = H8, ?_, ?_⟩
        · refine ⟨_, rfl, pp, _, rfl, .inl (SqL.of (sG2 _ _ hXl)), _, rfl, cq, _, rfl, .inl (SqL.of (sG2 _ _ hC2)), _, _, rfl, rfl, _, rfl, ?_⟩
          refine ifF first ?_
          rcases hbG with rfl | ⟨t, p, c, X', C', rfl, ht, hp, hc, vX', vC'⟩
          · exact ⟨_, rfl, rfl, _, rfl, ifF rfl (ifF rfl ⟨rfl, rfl⟩)⟩
          · refine ⟨_, rfl, rfl, _, rfl, ifT rfl ?_⟩
            have sG8 := sGG2.trans sG2
            have ht8 := sG8 _ _ ht
            obtain ⟨_, tsX', ep, hXl', hXt'⟩ := (hp.same sG8).list_inv
            cases ep
            have lX' : tsX'.length = X'.length := by
              rw [hXt'.length]
              unfold tD
              rw [List.length_map]
            have w1 := weak vX' vC
            have w2 := weak vX vC'
            refine ⟨_, rfl, _, _, _, _, rfl, rfl, SqT.of ht8, rfl, p, _, rfl, .inl (SqL.of hXl'), _, rfl, cq, _, rfl, .inl (SqL.of (sG2 _ _ hC2)), _, _, rfl, rfl, _, rfl, ?_⟩
            have second : decide (((nv C).length : Int) < (tsX'.length : Int)) = false := decide_eq_false (by rw [lX', nv_len]; omega)
            refine ifF second ?_
            refine ⟨_, rfl, pp, _, rfl, .inl (SqL.of (sG2 _ _ hXl)), _, rfl, _, _, _, _, rfl, rfl, SqT.of ht8, rfl, c, _, rfl, .inl (SqL.of (sG8 _ _ hc)), _, _, rfl, rfl, _, rfl, ?_⟩
            have third : decide (((nv C').length : Int) < (tsX.length : Int)) = false := decide_eq_false (by rw [lX, nv_len]; omega)
            exact ifF third ⟨rfl, rfl⟩
        · rintro σ' H' ⟨rfl, rfl⟩
          have nmok : ∀ z ∈ ns, NameOk z := fun z hz => wb.nm hz
          have cne : ∀ {C0 : List Str}, ValidC ns es C0 → C0 ≠ [] → ns ≠ [] := fun {C0} h0 h1 e => by
            cases hc0 : C0 with
            | nil => exact h1 hc0
            | cons z r =>
              have := h0.sub z (by rw [hc0]; exact List.mem_cons_self)
              rw [e] at this
              cases this
          refine ⟨_, rfl, _, rfl, _, rfl, _, rfl, G2, b, n, pp, cq, _, ns, X, C, rfl, sG2, g2b, sGG2 _ _ hnG, hX2, hC2, hB8, by omega, wb.ln, lX14, lC14, vC.nd, nmok, vC.sub, nmX, cne vC, fun H9 sl ds s9 hB9 hsl hsm9 => ?_⟩
          have sG9 := sGG2.trans s9
          obtain ⟨_, tss, ep, hsl1, hst⟩ := (hsl.same same_off).list_inv
          cases ep
          refine ⟨sl, rfl, ⟨_, SqL.of hsl1⟩, for_list (K := K) (a := sl) (xs := tss) (fun j σ H' => ∃ v9, σ = [some (.ref a), some (.ref n), some (.ref l), some (.ref x), some v4, some (.ref b), some (.int (0 + (i : Int))), some (.ref pp), some (.ref cq), v9] ∧ Same H9 H') ⟨_, rfl, Same.refl _⟩ (fun j σ H' _ ⟨_, _, s⟩ => SqL.of (s _ _ hsl1)) ?_ ?_⟩
          · rintro j y σ H10 hj ⟨w9, rfl, s10⟩
            obtain ⟨d, hd1, hd2⟩ := hst.at_ hj
            obtain ⟨q1, q2, q3⟩ := asked G (Same.refl G) (sG9.trans s10)
            refine ⟨_, rfl, _, rfl, _, rfl, _, rfl, x, n, l, ns, es, y, d, rfl, q1, q2, q3, wb, hd2.same s10, hsm9 d (List.mem_of_getElem? hd1), fun H11 s11 => ⟨_, rfl, ?_⟩⟩
            exact ifF rfl ⟨_, rfl, s10.trans s11⟩
          · rintro σ H10 ⟨w9, rfl, s10⟩
            have hB10 := hB9.same s10
            have sG10 := sG9.trans s10
            rcases hbG with rfl | ⟨t, p, c, X', C', rfl, ht, hp, hc, vX', vC'⟩
            · refine ⟨_, rfl, rfl, _, rfl, ifF rfl ?_⟩
              exact ⟨_, _, _, _, rfl, sG10, hB10.mono (by omega)⟩
            · refine ⟨_, rfl, rfl, _, rfl, ifT rfl ?_⟩
              obtain ⟨nmX', lX14'⟩ := valid_nm wb vX'
              obtain ⟨G3, hG3⟩ : ∃ G3, G3 = off H10 b := ⟨_, rfl⟩
              have g3b : G3 b = none := by rw [hG3, off_same]
              have sGG3 : Same G G3 := by
                rw [hG3]
                exact same_to sG10 gb
              have sG3 : Same G3 H10 := by
                rw [hG3]
                exact same_off
              have ht10 := sG10 _ _ ht
              refine ⟨_, rfl, _, rfl, _, rfl, _, _, _, _, rfl, rfl, SqT.of ht10, rfl, _, rfl, _, _, _, _, rfl, rfl, SqT.of ht10, rfl, G3, b, n, p, c, _, ns, X', C', rfl, sG3, g3b, sGG3 _ _ hnG, hp.same sGG3, sGG3 _ _ hc, hB10, by omega, wb.ln, lX14', validC_len wb vC', vC'.nd, nmok, vC'.sub, nmX', cne vC', fun H12 sl2 ds2 s12 hB12 hsl2 hsm12 => ?_⟩
              have sG12' := sGG3.trans s12
              obtain ⟨_, tss2, ep, hsl3, hst2⟩ := (hsl2.same same_off).list_inv
              cases ep
              refine ⟨sl2, rfl, ⟨_, SqL.of hsl3⟩, for_list (K := K) (a := sl2) (xs := tss2) (fun j σ H' => ∃ v9, σ = [some (.ref a), some (.ref n), some (.ref l), some (.ref x), some (.ref t), some (.ref b), some (.int (0 + (i : Int))), some (.ref pp), some (.ref cq), v9] ∧ Same H12 H') ⟨_, rfl, Same.refl _⟩ (fun j σ H' _ ⟨_, _, s⟩ => SqL.of (s _ _ hsl3)) ?_ ?_⟩
              · rintro j y σ H13 hj ⟨u9, rfl, s13⟩
                obtain ⟨d, hd1, hd2⟩ := hst2.at_ hj
                obtain ⟨q1, q2, q3⟩ := asked G (Same.refl G) (sG12'.trans s13)
                refine ⟨_, rfl, _, rfl, _, rfl, _, rfl, x, n, l, ns, es, y, d, rfl, q1, q2, q3, wb, hd2.same s13, hsm12 d (List.mem_of_getElem? hd1), fun H14 s14 => ⟨_, rfl, ?_⟩⟩
                exact ifF rfl ⟨_, rfl, s13.trans s14⟩
              · rintro σ H13 ⟨u9, rfl, s13⟩
                exact ⟨_, _, _, _, rfl, sG12'.trans s13, (hB12.same s13).mono (by omega)⟩
      · rintro σ H6 ⟨v6, v7, v8, v9, rfl, s6, hB6⟩
        exact k H6
end
end K27

namespace K27
open PySem PySem.Spec PyProof.Rows L2 KM
theorem all27 {P : Program} {w : World} {K : PySem.W.Frag} {mg : Str → Option Value} {fd : FuncData} (F : FunD K "law" "law" (defArgs slaw) (defBody slaw) (defScope slaw) [] [] (He.ga K "law") fd) (T : Tx K mg) (hsm : (K.lookup sysModules).isSome = true) (base : Heap) :
    FnG P w K mg base CX0 8 (He.ga K "law") fd ["_law_script"] (spLaw K) := by
  have w1 := ok_places (P := P) (w := w) (base := base) T
  have w2 := ok_number_of (P := P) (w := w) (base := base) T
  have w3 := ok_named (P := P) (w := w) (base := base) T
  have w4 := ok_bits_beside T w2
  have w5 := ok_beside T w3 w4
  have w6 := ok_tied T w2
  have w7 := ok_ties T w3
  have p1 := ok_is_place T w1
  have p2 := ok_is_tie T p1 w6
  have p3 := ok_are_pairs T p2
  have p4 := ok_is_cover T p1 w7
  have p5 := ok_shows_cover T p3 p4
  have p6 := ok_rising T w1 w2
  have p7 := ok_road_up (P := P) (w := w) (base := base) T
  have p8 := ok_ring_of T p7
  have p9 := ok_Odd_init (P := P) (w := w) (base := base) T
  have p10 := ok_sided T w1 w5 p8 p9
  have p11 := ok_sides_of T w1 p10
  have p12 := ok_reached_from T w5
  have p13 := ok_grown T p12
  have p14 := ok_greatest T p11 p13 p12 w1 p6
  have q1 := ok_is_name (P := P) (w := w) (base := base) T
  have q2 := ok_numbers_of T q1
  have q3 := ok_is_two T q1
  have q4 := ok_bits_of T q3
  have q5 := ok_init T q2 q4
  have l1 := ok_L_tied (P := P) (w := w) (base := base) T
  have l2 := ok_L_partners (P := P) (w := w) (base := base) T
  have l3 := ok_L_rising (P := P) (w := w) (base := base) T
  have l4 := ok_L_are_pairs T l1
  have l5 := ok_L_is_cover (P := P) (w := w) (base := base) T
  have l6 := ok_L_shows T l4 l5
  have l7 := ok_L_at (P := P) (w := w) (base := base) T
  have l8 := ok_L_box (P := P) (w := w) (base := base) T
  have l9 := ok_L_take (P := P) (w := w) (base := base) T
  have l10 := ok_L_names T l9
  have l11 := ok_L_more_ties T l9
  have l12 := ok_L_sided T l9 l7 l8 l10 l11
  have l13 := ok_L_colours (P := P) (w := w) (base := base) T
  have l14 := okH_L_colours (P := P) (w := w) (base := base) T
  have l15 := ok_L_pairs T l9
  have l16 := ok_L_cover T l9 l5
  have l17 := ok_L_otherwise T l9
  have l18 := ok_L_asked T hsm p5 l6
  have l19 := ok_L_told T hsm p14 l13 l14 l6 l2 l3
  exact ok_law F T hsm l12 q5 l19 l13 p14 l7 l8 l15 l16 l17 l18
theorem facts27 {P : Program} {w : World} {K : PySem.W.Frag} {h : Heap} {mg : Str → Option Value} {f : Addr} (X : K.In h) (G : h.Ns mainGlobals mg) (hfa : mg ("law" : Str) = some (.ref f)) (c : He.SaysD fa27 fn27 K) (hx : ex27 K = true) :
    ∃ fd : FuncData, (∀ (s : Shared) (v : Value), BindsTo s fd ⟨[v], []⟩ [("_law_script", v)]) ∧ ∀ base : Heap, K.In base → base.Ns mainGlobals mg → FnG P w K mg base CX0 8 f fd ["_law_script"] (spLaw K) := by
  obtain ⟨h1, h2⟩ := He.ba hx
  have T : Tx K mg := ⟨c, h1, h, X, G⟩
  have e := hfa.symm.trans T.g_law
  cases e
  obtain ⟨fd, F⟩ := T.f_law
  exact ⟨fd, fun s v => FunD.bindsA (ps := ["_law_script"]) F (fun _ _ _ _ _ _ us hl => match us, hl with | [_], _ => rfl) s [v] rfl, fun base _ _ => all27 F T h2 base⟩
end K27
open PySem PySem.W PySem.Calls PyProof.Rows in
set_option maxHeartbeats 0 in
theorem PySem.Challenge.cw_onceroad_k27_whole_pairs_and_covers_holds : PySem.Challenge.rw_onceroad_k27_whole_pairs_and_covers.Holds := by
  w_on; o_law
  refine HandSHeadRun.head_any (r := OpenLaw.row PySem.Challenge.rw_onceroad_k27_whole_pairs_and_covers) (q := view (OpenLaw.row PySem.Challenge.rw_onceroad_k27_whole_pairs_and_covers).prog [54]) (H := K27.hk27) (ob := K27.ob27) (M := 6000) (loose := K27.loose27) (d := HandSHeadRun.topDef (OpenLaw.row PySem.Challenge.rw_onceroad_k27_whole_pairs_and_covers).prog 54) (kwd := []) K27.ob27_eq
    (by kernel_rfl) (fun s => by kernel_rfl) K27.run27 (by kernel_rfl) (by kernel_rfl) (by kernel_rfl) (by rfl) (by first | assumption | decide +kernel) (by decide +kernel) ⟨rfl, rfl, rfl, rfl, rfl, by decide +kernel⟩ ?hw ?hc
  case hw => w_witness2
  case hc =>
    refine K27.walk_G (l := PySem.Challenge.rw_onceroad_k27_whole_pairs_and_covers) (n := 63) (k := 8) (x := "_law_script") (CX := fun _ => L2.CX0) rfl (by decide) (by kernel_rfl) ⟨rfl, by decide, by decide⟩ ?F (fun _ _ _ _ _ z => z)
    intro w mg fa h Y G hmg0
    obtain ⟨K, KX, c, hx⟩ := Y
    have hmg : mg ("law" : PySem.Str) = some (.ref fa) := by
      have e : (HandSHeadRun.topDef (OpenLaw.row PySem.Challenge.rw_onceroad_k27_whole_pairs_and_covers).prog 54).name = ("law" : PySem.Str) := by kernel_rfl
      rw [← e]
      exact hmg0
    obtain ⟨fd, hb, hF⟩ := K27.facts27 (P := (PySem.Challenge.rw_onceroad_k27_whole_pairs_and_covers).prog) (w := w) KX G hmg c hx
    exact ⟨K, fd, K27.spLaw K, KX, hb, fun H a ns hl _ hS => ⟨a, ns, rfl, hS, fun _ => rfl⟩, hF⟩
