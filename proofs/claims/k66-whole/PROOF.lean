import PyProof.Rows.All
import HandS.Comp
import HandS.Deep
import HandS.DictComp
import HandS.FStr
import HandS.Flow
import HandS.ForMost
import HandS.GenList
import HandS.Head2
import HandS.HeadEnd
import HandS.HeadHook4
import HandS.IsInst
import HandS.Iter
import HandS.List
import HandS.More
import HandS.NoneIn
import HandS.Set
import HandS.SetFor
import HandS.Star
import HandS.Strs
import HandS.Style
import HandS.Text
import HandS.TupAny
import HandS.TupLe
import HandS.TupSets
import HandS.Walk
import HandS.Wide
import HandS.WideBits
import HandS.Words
import HandS.WordsDict
import HandS.Zip
import KE.KStateDown
import KE.KxText
import OpenK.AllK
import PyProof.CollectStr
import PyProof.DictUpdate
import PyProof.NeKinds
import Wide.All
import Wide.FinOn
import PySem.Challenge.RW_allbeneath_k66_whole_derivations_put_tog
section
set_option Elab.async false
set_option linter.all false
set_option maxRecDepth 100000
set_option maxHeartbeats 0
/-! The program's defs by places; the facts of its head by names. Printed by tools/gen_tx.py. -/
namespace AT
open PySem PySem.Spec PyProof.Rows L2
def top (i : Nat) : Stmt := PySem.Challenge.pw_allbeneath_k66_whole_derivations_put_tog.main.body.getD i (.Pass ⟨0, 0, 0, 0⟩)

abbrev s_is_atom : Stmt := top 15
abbrev s_united : Stmt := top 16
abbrev s_merged : Stmt := top 17
abbrev s_as_formula : Stmt := top 19
abbrev s_operand : Stmt := top 20
abbrev s_atom : Stmt := top 23
abbrev s_no : Stmt := top 24
abbrev s_every : Stmt := top 25
abbrev s_parts_within : Stmt := top 26
abbrev s_set_of : Stmt := top 36
abbrev s_less : Stmt := top 37
abbrev s_more : Stmt := top 38
abbrev s_left_beneath : Stmt := top 39
abbrev s_is_way : Stmt := top 40
abbrev s_pairs_behind : Stmt := top 41
abbrev s_is_derivation : Stmt := top 42
abbrev s_lowest : Stmt := top 44
abbrev s_members : Stmt := top 45
abbrev s_judge : Stmt := top 71
abbrev s_derivation_holds : Stmt := top 72
abbrev s_follows : Stmt := top 73
abbrev s__law_deck : Stmt := top 75
abbrev s__law_draw : Stmt := top 76
abbrev s__law_pick : Stmt := top 77
abbrev s__law_form : Stmt := top 78
abbrev s__law_alls : Stmt := top 79
abbrev s__law_letters : Stmt := top 80
abbrev s__law_made : Stmt := top 81
abbrev s__law_tree : Stmt := top 82
abbrev s__law_is_true : Stmt := top 83
abbrev s__law_spots : Stmt := top 84
abbrev s__law_met : Stmt := top 85
abbrev s__law_least : Stmt := top 86
abbrev s__law_couple : Stmt := top 87
abbrev s__law_size : Stmt := top 88
abbrev s__law_is_derived : Stmt := top 89
abbrev s__law_not : Stmt := top 90
abbrev s__law_both : Stmt := top 91
abbrev s__law_first : Stmt := top 94
abbrev s__law_ahead : Stmt := top 95
abbrev s__law_over : Stmt := top 96
abbrev s__law_denied : Stmt := top 97
abbrev s__law_joined : Stmt := top 98
abbrev s__law_is_right : Stmt := top 99
abbrev s__law_is_other_right : Stmt := top 100
abbrev s__law_known_right : Stmt := top 101
abbrev s_law : Stmt := top 102
abbrev s_Formula__init__ : Stmt := inClass (top 18) 0
abbrev s_Formula__rshift__ : Stmt := inClass (top 18) 8
abbrev s_Table__init__ : Stmt := inClass (top 46) 0
abbrev s_Table_bit : Stmt := inClass (top 46) 1
abbrev s_Table_bodies : Stmt := inClass (top 46) 3
abbrev s_Search__init__ : Stmt := inClass (top 47) 0
abbrev s_Search_is_closed : Stmt := inClass (top 47) 1
abbrev s_Search_taken_apart : Stmt := inClass (top 47) 2
abbrev s_Search_gone_on : Stmt := inClass (top 47) 3
abbrev s_Search_pairs_behind : Stmt := inClass (top 47) 4
abbrev s_Search_leaves : Stmt := inClass (top 47) 5
abbrev s_Search_left_beneath : Stmt := inClass (top 47) 6
abbrev s_Search_pair_beneath : Stmt := inClass (top 47) 7
abbrev s_Search_least_beneath : Stmt := inClass (top 47) 8
abbrev s_Search_least_of_leaf : Stmt := inClass (top 47) 9
abbrev s_Search_least : Stmt := inClass (top 47) 10
abbrev s_Search_proved_all : Stmt := inClass (top 47) 11
abbrev s_Search_derivation : Stmt := inClass (top 47) 12
def d_is_atom : He.DefD := ⟨("is_atom", none), "is_atom", "is_atom", defArgs s_is_atom, defBody s_is_atom, defScope s_is_atom, [], []⟩
def d_united : He.DefD := ⟨("united", none), "united", "united", defArgs s_united, defBody s_united, defScope s_united, [], []⟩
def d_merged : He.DefD := ⟨("merged", none), "merged", "merged", defArgs s_merged, defBody s_merged, defScope s_merged, [], []⟩
def d_as_formula : He.DefD := ⟨("as_formula", none), "as_formula", "as_formula", defArgs s_as_formula, defBody s_as_formula, defScope s_as_formula, [], []⟩
def d_operand : He.DefD := ⟨("operand", none), "operand", "operand", defArgs s_operand, defBody s_operand, defScope s_operand, [], []⟩
def d_atom : He.DefD := ⟨("atom", none), "atom", "atom", defArgs s_atom, defBody s_atom, defScope s_atom, [], []⟩
def d_no : He.DefD := ⟨("no", none), "no", "no", defArgs s_no, defBody s_no, defScope s_no, [], []⟩
def d_every : He.DefD := ⟨("every", none), "every", "every", defArgs s_every, defBody s_every, defScope s_every, [], []⟩
def d_parts_within : He.DefD := ⟨("parts_within", none), "parts_within", "parts_within", defArgs s_parts_within, defBody s_parts_within, defScope s_parts_within, [], []⟩
def d_set_of : He.DefD := ⟨("set_of", none), "set_of", "set_of", defArgs s_set_of, defBody s_set_of, defScope s_set_of, [], []⟩
def d_less : He.DefD := ⟨("less", none), "less", "less", defArgs s_less, defBody s_less, defScope s_less, [], []⟩
def d_more : He.DefD := ⟨("more", none), "more", "more", defArgs s_more, defBody s_more, defScope s_more, [], []⟩
def d_left_beneath : He.DefD := ⟨("left_beneath", none), "left_beneath", "left_beneath", defArgs s_left_beneath, defBody s_left_beneath, defScope s_left_beneath, [], []⟩
def d_is_way : He.DefD := ⟨("is_way", none), "is_way", "is_way", defArgs s_is_way, defBody s_is_way, defScope s_is_way, [], []⟩
def d_pairs_behind : He.DefD := ⟨("pairs_behind", none), "pairs_behind", "pairs_behind", defArgs s_pairs_behind, defBody s_pairs_behind, defScope s_pairs_behind, [], []⟩
def d_is_derivation : He.DefD := ⟨("is_derivation", none), "is_derivation", "is_derivation", defArgs s_is_derivation, defBody s_is_derivation, defScope s_is_derivation, [], []⟩
def d_lowest : He.DefD := ⟨("lowest", none), "lowest", "lowest", defArgs s_lowest, defBody s_lowest, defScope s_lowest, [], []⟩
def d_members : He.DefD := ⟨("members", none), "members", "members", defArgs s_members, defBody s_members, defScope s_members, [], []⟩
def d_judge : He.DefD := ⟨("judge", none), "judge", "judge", defArgs s_judge, defBody s_judge, defScope s_judge, [], []⟩
def d_derivation_holds : He.DefD := ⟨("derivation_holds", none), "derivation_holds", "derivation_holds", defArgs s_derivation_holds, defBody s_derivation_holds, defScope s_derivation_holds, [], []⟩
def d_follows : He.DefD := ⟨("follows", none), "follows", "follows", defArgs s_follows, defBody s_follows, defScope s_follows, [], []⟩
def d__law_deck : He.DefD := ⟨("_law_deck", none), "_law_deck", "_law_deck", defArgs s__law_deck, defBody s__law_deck, defScope s__law_deck, [], []⟩
def d__law_draw : He.DefD := ⟨("_law_draw", none), "_law_draw", "_law_draw", defArgs s__law_draw, defBody s__law_draw, defScope s__law_draw, [], []⟩
def d__law_pick : He.DefD := ⟨("_law_pick", none), "_law_pick", "_law_pick", defArgs s__law_pick, defBody s__law_pick, defScope s__law_pick, [], []⟩
def d__law_form : He.DefD := ⟨("_law_form", none), "_law_form", "_law_form", defArgs s__law_form, defBody s__law_form, defScope s__law_form, [], []⟩
def d__law_alls : He.DefD := ⟨("_law_alls", none), "_law_alls", "_law_alls", defArgs s__law_alls, defBody s__law_alls, defScope s__law_alls, [], []⟩
def d__law_letters : He.DefD := ⟨("_law_letters", none), "_law_letters", "_law_letters", defArgs s__law_letters, defBody s__law_letters, defScope s__law_letters, [], []⟩
def d__law_made : He.DefD := ⟨("_law_made", none), "_law_made", "_law_made", defArgs s__law_made, defBody s__law_made, defScope s__law_made, [], []⟩
def d__law_tree : He.DefD := ⟨("_law_tree", none), "_law_tree", "_law_tree", defArgs s__law_tree, defBody s__law_tree, defScope s__law_tree, [], []⟩
def d__law_is_true : He.DefD := ⟨("_law_is_true", none), "_law_is_true", "_law_is_true", defArgs s__law_is_true, defBody s__law_is_true, defScope s__law_is_true, [], []⟩
def d__law_spots : He.DefD := ⟨("_law_spots", none), "_law_spots", "_law_spots", defArgs s__law_spots, defBody s__law_spots, defScope s__law_spots, [], []⟩
def d__law_met : He.DefD := ⟨("_law_met", none), "_law_met", "_law_met", defArgs s__law_met, defBody s__law_met, defScope s__law_met, [], []⟩
def d__law_least : He.DefD := ⟨("_law_least", none), "_law_least", "_law_least", defArgs s__law_least, defBody s__law_least, defScope s__law_least, [], []⟩
def d__law_couple : He.DefD := ⟨("_law_couple", none), "_law_couple", "_law_couple", defArgs s__law_couple, defBody s__law_couple, defScope s__law_couple, [], []⟩
def d__law_size : He.DefD := ⟨("_law_size", none), "_law_size", "_law_size", defArgs s__law_size, defBody s__law_size, defScope s__law_size, [], []⟩
def d__law_is_derived : He.DefD := ⟨("_law_is_derived", none), "_law_is_derived", "_law_is_derived", defArgs s__law_is_derived, defBody s__law_is_derived, defScope s__law_is_derived, [], []⟩
def d__law_not : He.DefD := ⟨("_law_not", none), "_law_not", "_law_not", defArgs s__law_not, defBody s__law_not, defScope s__law_not, [], []⟩
def d__law_both : He.DefD := ⟨("_law_both", none), "_law_both", "_law_both", defArgs s__law_both, defBody s__law_both, defScope s__law_both, [], []⟩
def d__law_first : He.DefD := ⟨("_law_first", none), "_law_first", "_law_first", defArgs s__law_first, defBody s__law_first, defScope s__law_first, [], []⟩
def d__law_ahead : He.DefD := ⟨("_law_ahead", none), "_law_ahead", "_law_ahead", defArgs s__law_ahead, defBody s__law_ahead, defScope s__law_ahead, [], []⟩
def d__law_over : He.DefD := ⟨("_law_over", none), "_law_over", "_law_over", defArgs s__law_over, defBody s__law_over, defScope s__law_over, [], []⟩
def d__law_denied : He.DefD := ⟨("_law_denied", none), "_law_denied", "_law_denied", defArgs s__law_denied, defBody s__law_denied, defScope s__law_denied, [], []⟩
def d__law_joined : He.DefD := ⟨("_law_joined", none), "_law_joined", "_law_joined", defArgs s__law_joined, defBody s__law_joined, defScope s__law_joined, [], []⟩
def d__law_is_right : He.DefD := ⟨("_law_is_right", none), "_law_is_right", "_law_is_right", defArgs s__law_is_right, defBody s__law_is_right, defScope s__law_is_right, [], []⟩
def d__law_is_other_right : He.DefD := ⟨("_law_is_other_right", none), "_law_is_other_right", "_law_is_other_right", defArgs s__law_is_other_right, defBody s__law_is_other_right, defScope s__law_is_other_right, [], []⟩
def d__law_known_right : He.DefD := ⟨("_law_known_right", none), "_law_known_right", "_law_known_right", defArgs s__law_known_right, defBody s__law_known_right, defScope s__law_known_right, [], []⟩
def d_law : He.DefD := ⟨("law", none), "law", "law", defArgs s_law, defBody s_law, defScope s_law, [], []⟩
def d_Formula__init__ : He.DefD := ⟨("Formula", some "__init__"), "__init__", "Formula.__init__", defArgs s_Formula__init__, defBody s_Formula__init__, defScope s_Formula__init__, [], []⟩
def d_Formula__rshift__ : He.DefD := ⟨("Formula", some "__rshift__"), "__rshift__", "Formula.__rshift__", defArgs s_Formula__rshift__, defBody s_Formula__rshift__, defScope s_Formula__rshift__, [], []⟩
def d_Table__init__ : He.DefD := ⟨("Table", some "__init__"), "__init__", "Table.__init__", defArgs s_Table__init__, defBody s_Table__init__, defScope s_Table__init__, [], []⟩
def d_Table_bit : He.DefD := ⟨("Table", some "bit"), "bit", "Table.bit", defArgs s_Table_bit, defBody s_Table_bit, defScope s_Table_bit, [], []⟩
def d_Table_bodies : He.DefD := ⟨("Table", some "bodies"), "bodies", "Table.bodies", defArgs s_Table_bodies, defBody s_Table_bodies, defScope s_Table_bodies, [], []⟩
def d_Search__init__ : He.DefD := ⟨("Search", some "__init__"), "__init__", "Search.__init__", defArgs s_Search__init__, defBody s_Search__init__, defScope s_Search__init__, [], []⟩
def d_Search_is_closed : He.DefD := ⟨("Search", some "is_closed"), "is_closed", "Search.is_closed", defArgs s_Search_is_closed, defBody s_Search_is_closed, defScope s_Search_is_closed, [], []⟩
def d_Search_taken_apart : He.DefD := ⟨("Search", some "taken_apart"), "taken_apart", "Search.taken_apart", defArgs s_Search_taken_apart, defBody s_Search_taken_apart, defScope s_Search_taken_apart, [], []⟩
def d_Search_gone_on : He.DefD := ⟨("Search", some "gone_on"), "gone_on", "Search.gone_on", defArgs s_Search_gone_on, defBody s_Search_gone_on, defScope s_Search_gone_on, [], []⟩
def d_Search_pairs_behind : He.DefD := ⟨("Search", some "pairs_behind"), "pairs_behind", "Search.pairs_behind", defArgs s_Search_pairs_behind, defBody s_Search_pairs_behind, defScope s_Search_pairs_behind, [], []⟩
def d_Search_leaves : He.DefD := ⟨("Search", some "leaves"), "leaves", "Search.leaves", defArgs s_Search_leaves, defBody s_Search_leaves, defScope s_Search_leaves, [], []⟩
def d_Search_left_beneath : He.DefD := ⟨("Search", some "left_beneath"), "left_beneath", "Search.left_beneath", defArgs s_Search_left_beneath, defBody s_Search_left_beneath, defScope s_Search_left_beneath, [], []⟩
def d_Search_pair_beneath : He.DefD := ⟨("Search", some "pair_beneath"), "pair_beneath", "Search.pair_beneath", defArgs s_Search_pair_beneath, defBody s_Search_pair_beneath, defScope s_Search_pair_beneath, [], []⟩
def d_Search_least_beneath : He.DefD := ⟨("Search", some "least_beneath"), "least_beneath", "Search.least_beneath", defArgs s_Search_least_beneath, defBody s_Search_least_beneath, defScope s_Search_least_beneath, [], []⟩
def d_Search_least_of_leaf : He.DefD := ⟨("Search", some "least_of_leaf"), "least_of_leaf", "Search.least_of_leaf", defArgs s_Search_least_of_leaf, defBody s_Search_least_of_leaf, defScope s_Search_least_of_leaf, [], []⟩
def d_Search_least : He.DefD := ⟨("Search", some "least"), "least", "Search.least", defArgs s_Search_least, defBody s_Search_least, defScope s_Search_least, [], []⟩
def d_Search_proved_all : He.DefD := ⟨("Search", some "proved_all"), "proved_all", "Search.proved_all", defArgs s_Search_proved_all, defBody s_Search_proved_all, defScope s_Search_proved_all, [], []⟩
def d_Search_derivation : He.DefD := ⟨("Search", some "derivation"), "derivation", "Search.derivation", defArgs s_Search_derivation, defBody s_Search_derivation, defScope s_Search_derivation, [], []⟩
def fn : List He.DefD := [d_is_atom, d_united, d_merged, d_as_formula, d_operand, d_atom, d_no, d_every, d_parts_within, d_set_of, d_less, d_more, d_left_beneath, d_is_way, d_pairs_behind, d_is_derivation, d_lowest, d_members, d_judge, d_derivation_holds, d_follows, d__law_deck, d__law_draw, d__law_pick, d__law_form, d__law_alls, d__law_letters, d__law_made, d__law_tree, d__law_is_true, d__law_spots, d__law_met, d__law_least, d__law_couple, d__law_size, d__law_is_derived, d__law_not, d__law_both, d__law_first, d__law_ahead, d__law_over, d__law_denied, d__law_joined, d__law_is_right, d__law_is_other_right, d__law_known_right, d_law, d_Formula__init__, d_Formula__rshift__, d_Table__init__, d_Table_bit, d_Table_bodies, d_Search__init__, d_Search_is_closed, d_Search_taken_apart, d_Search_gone_on, d_Search_pairs_behind, d_Search_leaves, d_Search_left_beneath, d_Search_pair_beneath, d_Search_least_beneath, d_Search_least_of_leaf, d_Search_least, d_Search_proved_all, d_Search_derivation]
def fa : List He.Fa := [.glo "is_atom", .glo "united", .glo "merged", .glo "as_formula", .glo "operand", .glo "atom", .glo "no", .glo "every", .glo "parts_within", .glo "set_of", .glo "less", .glo "more", .glo "left_beneath", .glo "is_way", .glo "pairs_behind", .glo "is_derivation", .glo "lowest", .glo "members", .glo "judge", .glo "derivation_holds", .glo "follows", .glo "_law_deck", .glo "_law_draw", .glo "_law_pick", .glo "_law_form", .glo "_law_alls", .glo "_law_letters", .glo "_law_made", .glo "_law_tree", .glo "_law_is_true", .glo "_law_spots", .glo "_law_met", .glo "_law_least", .glo "_law_couple", .glo "_law_size", .glo "_law_is_derived", .glo "_law_not", .glo "_law_both", .glo "_law_first", .glo "_law_ahead", .glo "_law_over", .glo "_law_denied", .glo "_law_joined", .glo "_law_is_right", .glo "_law_is_other_right", .glo "_law_known_right", .glo "law", .glo "Formula", .glo "Table", .glo "Search", .glo "PARTS_OF", .glo "LENGTHS", .str "LETTERS" "ABCDEFGHIJKLMNOPQRSTUVWXYZabcdefghijklmnopqrstuvwxyz", .str "ATOM" "atom", .str "NO" "no", .str "IF" "if", .str "ALL" "all", .str "ALL_AHEAD" "all ", .str "BETWEEN" " > ", .str "SAME" "same", .str "LEFT" "left", .str "RIGHT" "right", .str "BENEATH" "beneath", .str "DERIVATION" "derivation", .str "WEB" "web", .free "isinstance", .free "len", .free "str", .free "sorted", .free "set", .free "tuple", .free "max", .free "int", .free "list", .free "zip", .free "all", .free "sum", .free "repr", .free "range", .cls "Formula", .cls "Table", .cls "Search", .mkr "Formula", .mkr "Table", .mkr "Search", .noat "Formula" "kind", .noat "Formula" "parts", .noat "Formula" "many", .noat "Formula" "deepest", .noat "Formula" "atoms", .noat "Formula" "bare", .noat "Formula" "spelled", .noat "Formula" "alls_known", .noat "Table" "bits_by_text", .noat "Table" "formulas", .noat "Table" "inner_bits", .noat "Table" "kinds", .noat "Search" "table", .noat "Search" "heights_beneath", .meth "Formula" "__rshift__", .meth "Table" "bit", .meth "Table" "bodies", .meth "Search" "is_closed", .meth "Search" "taken_apart", .meth "Search" "gone_on", .meth "Search" "pairs_behind", .meth "Search" "leaves", .meth "Search" "left_beneath", .meth "Search" "pair_beneath", .meth "Search" "least_beneath", .meth "Search" "least_of_leaf", .meth "Search" "least", .meth "Search" "proved_all", .meth "Search" "derivation"]
def kPARTS : List Str := ["atom", "no", "if", "all"]
def kLENS : List Str := ["same", "left", "right", "beneath"]
def ts : List He.Tab := [((fun K => He.ga K "PARTS_OF"), kPARTS), ((fun K => He.ga K "LENGTHS"), kLENS)]
def exB (K : PySem.W.Frag) : Bool := He.valsB K (He.ga K "PARTS_OF") [("atom", .int 1), ("no", .int 0), ("if", .int 2), ("all", .int 1)] && He.valsB K (He.ga K "LENGTHS") [("same", .int 2), ("left", .int 4), ("right", .int 3), ("beneath", .int 3)] && (He.eqO (PySem.W.findIn K (.ref (He.ga K "Formula")) "__class__") (some (some (.builtin "object.__class__"))) && (He.eqO (PySem.W.specialIn K (.builtin "object.__class__") "__get__") (some (some (.builtin "getset_descriptor.__get__"))) && (decide (PySem.W.takesIn K (.builtin "object.__class__") = some true) && (decide (PySem.W.mroIn K (He.ga K "Formula") (.type "object") = some true) && PySem.W.selfFirst K (He.ga K "Formula")))))
/-- a function's datum -/
def fdOf (K : PySem.W.Frag) (a : Addr) : FuncData := match K.lookup a with
  | some ⟨_, _, .func fd, _⟩ => fd
  | _ => default
theorem fun_of {K : PySem.W.Frag} {d : He.DefD} {st : Stmt} {fd : FuncData} (F : FunD K d.name d.qual d.params d.body d.scope (d.dvs K) (d.kws K) (He.fAd K d.at_) fd) (h1 : d.params = defArgs st) (h2 : d.body = defBody st) (h3 : d.scope = defScope st) (h4 : d.dfl = []) : Fun K d.name d.qual st (He.fAd K d.at_) (fdOf K (He.fAd K d.at_)) := by
  obtain ⟨oc, od, dV, kV, doc, pm, an, cdv, ct, osl, rfl, lk, hcd, dv, kw⟩ := F.ex
  have e : fdOf K (He.fAd K d.at_) = PySem.W.fnOf d.name d.qual d.params d.body d.scope dV kV doc pm an cdv ct := by
    unfold fdOf; rw [lk]
  have hd : dV = .none := by
    have z : d.dvs K = [] := by unfold He.DefD.dvs; rw [h4]; rfl
    rw [z] at dv
    rcases dv with ⟨_, q⟩ | ⟨q, _⟩
    · exact q
    · exact absurd rfl q
  subst hd
  rw [e, h1, h2, h3]
  rw [h1, h2, h3] at lk
  exact ⟨⟨oc, od, kV, doc, pm, an, cdv, ct, osl, rfl, lk, hcd⟩, F.kp⟩
/-- all that the head told -/
structure Tx (w : World) (K : PySem.W.Frag) (mg : Str → Option Value) : Prop where
  says : He.SaysX fa fn ts [] exB w (⟨#[], {}⟩ : Heap) K
  inn : ∃ h : Heap, K.In h ∧ h.Ns mainGlobals mg
section
variable {w : World} {K : PySem.W.Frag} {mg : Str → Option Value}
theorem Tx.glo (T : Tx w K mg) {x : Str} (i : Nat) (h : fa[i]? = some (.glo x)) : mg x = some (.ref (He.ga K x)) := let ⟨_, X, G⟩ := T.inn; He.glo_ok X G (T.says.t.d.fact i h)
theorem Tx.fre (T : Tx w K mg) {x : Str} (i : Nat) (h : fa[i]? = some (.free x)) : mg x = none := let ⟨_, X, G⟩ := T.inn; He.free_ok X G (T.says.t.d.fact i h)
theorem Tx.str_ (T : Tx w K mg) {x z : Str} (i : Nat) (h : fa[i]? = some (.str x z)) : ∃ u, mg x = some u ∧ RelV (.str z) u := let ⟨_, X, G⟩ := T.inn; let ⟨t, e⟩ := He.str_ok X G (T.says.t.d.fact i h); ⟨_, e, t, rfl⟩
theorem Tx.def_ (T : Tx w K mg) (i : Nat) {d : He.DefD} {st : Stmt} (h : fn[i]? = some d) (h1 : d.params = defArgs st) (h2 : d.body = defBody st) (h3 : d.scope = defScope st) (h4 : d.dfl = []) : Fun K d.name d.qual st (He.fAd K d.at_) (fdOf K (He.fAd K d.at_)) :=
  let ⟨_, F⟩ := T.says.t.d.def_ i h
  fun_of F h1 h2 h3 h4
theorem Tx.vals_parts (T : Tx w K mg) {q : Str × He.Dv} (h : q ∈ ([("atom", .int 1), ("no", .int 0), ("if", .int 2), ("all", .int 1)] : List (Str × He.Dv))) : ∃ u, PySem.W.nsIn K (He.ga K "PARTS_OF") q.1 = some (some u) ∧ RelV (q.2.v K) u := He.valsB_ok (He.ba (He.ba T.says.more).1).1 h
theorem Tx.vals_lens (T : Tx w K mg) {q : Str × He.Dv} (h : q ∈ ([("same", .int 2), ("left", .int 4), ("right", .int 3), ("beneath", .int 3)] : List (Str × He.Dv))) : ∃ u, PySem.W.nsIn K (He.ga K "LENGTHS") q.1 = some (some u) ∧ RelV (q.2.v K) u := He.valsB_ok (He.ba (He.ba T.says.more).1).2 h
theorem Tx.dict_parts (T : Tx w K mg) : ∃ es n, KDict K w (He.ga K "PARTS_OF") es n := T.says.t.tab 0 rfl
theorem Tx.dict_lens (T : Tx w K mg) : ∃ es n, KDict K w (He.ga K "LENGTHS") es n := T.says.t.tab 1 rfl
theorem Tx.ty_of (T : Tx w K mg) (cl : Cls K (He.ga K "Formula")) {H : Hp} {a dx : Addr} {fs : List (Str × V)} (e : H a = some (.ins (He.ga K "Formula") dx fs)) : TyOf K H (.ref a) (.ref (He.ga K "Formula")) := by
  obtain ⟨h1, h⟩ := He.ba (He.ba T.says.more).2
  obtain ⟨h2, h⟩ := He.ba h
  obtain ⟨h3, h⟩ := He.ba h
  obtain ⟨h4, h5⟩ := He.ba h
  exact .ins e cl (He.eqO_ok h1) (He.eqO_ok h2) (of_decide_eq_true h3) (of_decide_eq_true h4)
theorem Tx.self_first (T : Tx w K mg) : PySem.W.selfFirst K (He.ga K "Formula") = true := by
  obtain ⟨h1, h⟩ := He.ba (He.ba T.says.more).2
  obtain ⟨h2, h⟩ := He.ba h
  obtain ⟨h3, h⟩ := He.ba h
  exact (He.ba h).2
theorem Tx.g_is_atom (T : Tx w K mg) : mg "is_atom" = some (.ref (He.ga K "is_atom")) := T.glo 0 rfl
theorem Tx.g_united (T : Tx w K mg) : mg "united" = some (.ref (He.ga K "united")) := T.glo 1 rfl
theorem Tx.g_merged (T : Tx w K mg) : mg "merged" = some (.ref (He.ga K "merged")) := T.glo 2 rfl
theorem Tx.g_as_formula (T : Tx w K mg) : mg "as_formula" = some (.ref (He.ga K "as_formula")) := T.glo 3 rfl
theorem Tx.g_operand (T : Tx w K mg) : mg "operand" = some (.ref (He.ga K "operand")) := T.glo 4 rfl
theorem Tx.g_atom (T : Tx w K mg) : mg "atom" = some (.ref (He.ga K "atom")) := T.glo 5 rfl
theorem Tx.g_no (T : Tx w K mg) : mg "no" = some (.ref (He.ga K "no")) := T.glo 6 rfl
theorem Tx.g_every (T : Tx w K mg) : mg "every" = some (.ref (He.ga K "every")) := T.glo 7 rfl
theorem Tx.g_parts_within (T : Tx w K mg) : mg "parts_within" = some (.ref (He.ga K "parts_within")) := T.glo 8 rfl
theorem Tx.g_set_of (T : Tx w K mg) : mg "set_of" = some (.ref (He.ga K "set_of")) := T.glo 9 rfl
theorem Tx.g_less (T : Tx w K mg) : mg "less" = some (.ref (He.ga K "less")) := T.glo 10 rfl
theorem Tx.g_more (T : Tx w K mg) : mg "more" = some (.ref (He.ga K "more")) := T.glo 11 rfl
theorem Tx.g_left_beneath (T : Tx w K mg) : mg "left_beneath" = some (.ref (He.ga K "left_beneath")) := T.glo 12 rfl
theorem Tx.g_is_way (T : Tx w K mg) : mg "is_way" = some (.ref (He.ga K "is_way")) := T.glo 13 rfl
theorem Tx.g_pairs_behind (T : Tx w K mg) : mg "pairs_behind" = some (.ref (He.ga K "pairs_behind")) := T.glo 14 rfl
theorem Tx.g_is_derivation (T : Tx w K mg) : mg "is_derivation" = some (.ref (He.ga K "is_derivation")) := T.glo 15 rfl
theorem Tx.g_lowest (T : Tx w K mg) : mg "lowest" = some (.ref (He.ga K "lowest")) := T.glo 16 rfl
theorem Tx.g_members (T : Tx w K mg) : mg "members" = some (.ref (He.ga K "members")) := T.glo 17 rfl
theorem Tx.g_judge (T : Tx w K mg) : mg "judge" = some (.ref (He.ga K "judge")) := T.glo 18 rfl
theorem Tx.g_derivation_holds (T : Tx w K mg) : mg "derivation_holds" = some (.ref (He.ga K "derivation_holds")) := T.glo 19 rfl
theorem Tx.g_follows (T : Tx w K mg) : mg "follows" = some (.ref (He.ga K "follows")) := T.glo 20 rfl
theorem Tx.g__law_deck (T : Tx w K mg) : mg "_law_deck" = some (.ref (He.ga K "_law_deck")) := T.glo 21 rfl
theorem Tx.g__law_draw (T : Tx w K mg) : mg "_law_draw" = some (.ref (He.ga K "_law_draw")) := T.glo 22 rfl
theorem Tx.g__law_pick (T : Tx w K mg) : mg "_law_pick" = some (.ref (He.ga K "_law_pick")) := T.glo 23 rfl
theorem Tx.g__law_form (T : Tx w K mg) : mg "_law_form" = some (.ref (He.ga K "_law_form")) := T.glo 24 rfl
theorem Tx.g__law_alls (T : Tx w K mg) : mg "_law_alls" = some (.ref (He.ga K "_law_alls")) := T.glo 25 rfl
theorem Tx.g__law_letters (T : Tx w K mg) : mg "_law_letters" = some (.ref (He.ga K "_law_letters")) := T.glo 26 rfl
theorem Tx.g__law_made (T : Tx w K mg) : mg "_law_made" = some (.ref (He.ga K "_law_made")) := T.glo 27 rfl
theorem Tx.g__law_tree (T : Tx w K mg) : mg "_law_tree" = some (.ref (He.ga K "_law_tree")) := T.glo 28 rfl
theorem Tx.g__law_is_true (T : Tx w K mg) : mg "_law_is_true" = some (.ref (He.ga K "_law_is_true")) := T.glo 29 rfl
theorem Tx.g__law_spots (T : Tx w K mg) : mg "_law_spots" = some (.ref (He.ga K "_law_spots")) := T.glo 30 rfl
theorem Tx.g__law_met (T : Tx w K mg) : mg "_law_met" = some (.ref (He.ga K "_law_met")) := T.glo 31 rfl
theorem Tx.g__law_least (T : Tx w K mg) : mg "_law_least" = some (.ref (He.ga K "_law_least")) := T.glo 32 rfl
theorem Tx.g__law_couple (T : Tx w K mg) : mg "_law_couple" = some (.ref (He.ga K "_law_couple")) := T.glo 33 rfl
theorem Tx.g__law_size (T : Tx w K mg) : mg "_law_size" = some (.ref (He.ga K "_law_size")) := T.glo 34 rfl
theorem Tx.g__law_is_derived (T : Tx w K mg) : mg "_law_is_derived" = some (.ref (He.ga K "_law_is_derived")) := T.glo 35 rfl
theorem Tx.g__law_not (T : Tx w K mg) : mg "_law_not" = some (.ref (He.ga K "_law_not")) := T.glo 36 rfl
theorem Tx.g__law_both (T : Tx w K mg) : mg "_law_both" = some (.ref (He.ga K "_law_both")) := T.glo 37 rfl
theorem Tx.g__law_first (T : Tx w K mg) : mg "_law_first" = some (.ref (He.ga K "_law_first")) := T.glo 38 rfl
theorem Tx.g__law_ahead (T : Tx w K mg) : mg "_law_ahead" = some (.ref (He.ga K "_law_ahead")) := T.glo 39 rfl
theorem Tx.g__law_over (T : Tx w K mg) : mg "_law_over" = some (.ref (He.ga K "_law_over")) := T.glo 40 rfl
theorem Tx.g__law_denied (T : Tx w K mg) : mg "_law_denied" = some (.ref (He.ga K "_law_denied")) := T.glo 41 rfl
theorem Tx.g__law_joined (T : Tx w K mg) : mg "_law_joined" = some (.ref (He.ga K "_law_joined")) := T.glo 42 rfl
theorem Tx.g__law_is_right (T : Tx w K mg) : mg "_law_is_right" = some (.ref (He.ga K "_law_is_right")) := T.glo 43 rfl
theorem Tx.g__law_is_other_right (T : Tx w K mg) : mg "_law_is_other_right" = some (.ref (He.ga K "_law_is_other_right")) := T.glo 44 rfl
theorem Tx.g__law_known_right (T : Tx w K mg) : mg "_law_known_right" = some (.ref (He.ga K "_law_known_right")) := T.glo 45 rfl
theorem Tx.g_law (T : Tx w K mg) : mg "law" = some (.ref (He.ga K "law")) := T.glo 46 rfl
theorem Tx.g_Formula (T : Tx w K mg) : mg "Formula" = some (.ref (He.ga K "Formula")) := T.glo 47 rfl
theorem Tx.g_Table (T : Tx w K mg) : mg "Table" = some (.ref (He.ga K "Table")) := T.glo 48 rfl
theorem Tx.g_Search (T : Tx w K mg) : mg "Search" = some (.ref (He.ga K "Search")) := T.glo 49 rfl
theorem Tx.g_PARTS_OF (T : Tx w K mg) : mg "PARTS_OF" = some (.ref (He.ga K "PARTS_OF")) := T.glo 50 rfl
theorem Tx.g_LENGTHS (T : Tx w K mg) : mg "LENGTHS" = some (.ref (He.ga K "LENGTHS")) := T.glo 51 rfl
theorem Tx.c_LETTERS (T : Tx w K mg) : ∃ u, mg "LETTERS" = some u ∧ RelV (.str "ABCDEFGHIJKLMNOPQRSTUVWXYZabcdefghijklmnopqrstuvwxyz") u := T.str_ 52 rfl
theorem Tx.c_ATOM (T : Tx w K mg) : ∃ u, mg "ATOM" = some u ∧ RelV (.str "atom") u := T.str_ 53 rfl
theorem Tx.c_NO (T : Tx w K mg) : ∃ u, mg "NO" = some u ∧ RelV (.str "no") u := T.str_ 54 rfl
theorem Tx.c_IF (T : Tx w K mg) : ∃ u, mg "IF" = some u ∧ RelV (.str "if") u := T.str_ 55 rfl
theorem Tx.c_ALL (T : Tx w K mg) : ∃ u, mg "ALL" = some u ∧ RelV (.str "all") u := T.str_ 56 rfl
theorem Tx.c_ALL_AHEAD (T : Tx w K mg) : ∃ u, mg "ALL_AHEAD" = some u ∧ RelV (.str "all ") u := T.str_ 57 rfl
theorem Tx.c_BETWEEN (T : Tx w K mg) : ∃ u, mg "BETWEEN" = some u ∧ RelV (.str " > ") u := T.str_ 58 rfl
theorem Tx.c_SAME (T : Tx w K mg) : ∃ u, mg "SAME" = some u ∧ RelV (.str "same") u := T.str_ 59 rfl
theorem Tx.c_LEFT (T : Tx w K mg) : ∃ u, mg "LEFT" = some u ∧ RelV (.str "left") u := T.str_ 60 rfl
theorem Tx.c_RIGHT (T : Tx w K mg) : ∃ u, mg "RIGHT" = some u ∧ RelV (.str "right") u := T.str_ 61 rfl
theorem Tx.c_BENEATH (T : Tx w K mg) : ∃ u, mg "BENEATH" = some u ∧ RelV (.str "beneath") u := T.str_ 62 rfl
theorem Tx.c_DERIVATION (T : Tx w K mg) : ∃ u, mg "DERIVATION" = some u ∧ RelV (.str "derivation") u := T.str_ 63 rfl
theorem Tx.c_WEB (T : Tx w K mg) : ∃ u, mg "WEB" = some u ∧ RelV (.str "web") u := T.str_ 64 rfl
theorem Tx.b_isinstance (T : Tx w K mg) : mg "isinstance" = none := T.fre 65 rfl
theorem Tx.b_len (T : Tx w K mg) : mg "len" = none := T.fre 66 rfl
theorem Tx.b_str (T : Tx w K mg) : mg "str" = none := T.fre 67 rfl
theorem Tx.b_sorted (T : Tx w K mg) : mg "sorted" = none := T.fre 68 rfl
theorem Tx.b_set (T : Tx w K mg) : mg "set" = none := T.fre 69 rfl
theorem Tx.b_tuple (T : Tx w K mg) : mg "tuple" = none := T.fre 70 rfl
theorem Tx.b_max (T : Tx w K mg) : mg "max" = none := T.fre 71 rfl
theorem Tx.b_int (T : Tx w K mg) : mg "int" = none := T.fre 72 rfl
theorem Tx.b_list (T : Tx w K mg) : mg "list" = none := T.fre 73 rfl
theorem Tx.b_zip (T : Tx w K mg) : mg "zip" = none := T.fre 74 rfl
theorem Tx.b_all (T : Tx w K mg) : mg "all" = none := T.fre 75 rfl
theorem Tx.b_sum (T : Tx w K mg) : mg "sum" = none := T.fre 76 rfl
theorem Tx.b_repr (T : Tx w K mg) : mg "repr" = none := T.fre 77 rfl
theorem Tx.b_range (T : Tx w K mg) : mg "range" = none := T.fre 78 rfl
theorem Tx.cls_Formula (T : Tx w K mg) : Cls K (He.ga K "Formula") := He.cls_ok (T.says.t.d.fact 79 (f := .cls "Formula") rfl)
theorem Tx.cls_Table (T : Tx w K mg) : Cls K (He.ga K "Table") := He.cls_ok (T.says.t.d.fact 80 (f := .cls "Table") rfl)
theorem Tx.cls_Search (T : Tx w K mg) : Cls K (He.ga K "Search") := He.cls_ok (T.says.t.d.fact 81 (f := .cls "Search") rfl)
theorem Tx.mkr_Formula (T : Tx w K mg) : (He.Fa.mkr "Formula").ok K = true := T.says.t.d.fact 82 rfl
theorem Tx.mkr_Table (T : Tx w K mg) : (He.Fa.mkr "Table").ok K = true := T.says.t.d.fact 83 rfl
theorem Tx.mkr_Search (T : Tx w K mg) : (He.Fa.mkr "Search").ok K = true := T.says.t.d.fact 84 rfl
theorem Tx.na_Formula_kind (T : Tx w K mg) : PySem.W.findIn K (.ref (He.ga K "Formula")) "kind" = some none := He.eqO_ok (T.says.t.d.fact 85 (f := .noat "Formula" "kind") rfl)
theorem Tx.na_Formula_parts (T : Tx w K mg) : PySem.W.findIn K (.ref (He.ga K "Formula")) "parts" = some none := He.eqO_ok (T.says.t.d.fact 86 (f := .noat "Formula" "parts") rfl)
theorem Tx.na_Formula_many (T : Tx w K mg) : PySem.W.findIn K (.ref (He.ga K "Formula")) "many" = some none := He.eqO_ok (T.says.t.d.fact 87 (f := .noat "Formula" "many") rfl)
theorem Tx.na_Formula_deepest (T : Tx w K mg) : PySem.W.findIn K (.ref (He.ga K "Formula")) "deepest" = some none := He.eqO_ok (T.says.t.d.fact 88 (f := .noat "Formula" "deepest") rfl)
theorem Tx.na_Formula_atoms (T : Tx w K mg) : PySem.W.findIn K (.ref (He.ga K "Formula")) "atoms" = some none := He.eqO_ok (T.says.t.d.fact 89 (f := .noat "Formula" "atoms") rfl)
theorem Tx.na_Formula_bare (T : Tx w K mg) : PySem.W.findIn K (.ref (He.ga K "Formula")) "bare" = some none := He.eqO_ok (T.says.t.d.fact 90 (f := .noat "Formula" "bare") rfl)
theorem Tx.na_Formula_spelled (T : Tx w K mg) : PySem.W.findIn K (.ref (He.ga K "Formula")) "spelled" = some none := He.eqO_ok (T.says.t.d.fact 91 (f := .noat "Formula" "spelled") rfl)
theorem Tx.na_Formula_alls_known (T : Tx w K mg) : PySem.W.findIn K (.ref (He.ga K "Formula")) "alls_known" = some none := He.eqO_ok (T.says.t.d.fact 92 (f := .noat "Formula" "alls_known") rfl)
theorem Tx.na_Table_bits_by_text (T : Tx w K mg) : PySem.W.findIn K (.ref (He.ga K "Table")) "bits_by_text" = some none := He.eqO_ok (T.says.t.d.fact 93 (f := .noat "Table" "bits_by_text") rfl)
theorem Tx.na_Table_formulas (T : Tx w K mg) : PySem.W.findIn K (.ref (He.ga K "Table")) "formulas" = some none := He.eqO_ok (T.says.t.d.fact 94 (f := .noat "Table" "formulas") rfl)
theorem Tx.na_Table_inner_bits (T : Tx w K mg) : PySem.W.findIn K (.ref (He.ga K "Table")) "inner_bits" = some none := He.eqO_ok (T.says.t.d.fact 95 (f := .noat "Table" "inner_bits") rfl)
theorem Tx.na_Table_kinds (T : Tx w K mg) : PySem.W.findIn K (.ref (He.ga K "Table")) "kinds" = some none := He.eqO_ok (T.says.t.d.fact 96 (f := .noat "Table" "kinds") rfl)
theorem Tx.na_Search_table (T : Tx w K mg) : PySem.W.findIn K (.ref (He.ga K "Search")) "table" = some none := He.eqO_ok (T.says.t.d.fact 97 (f := .noat "Search" "table") rfl)
theorem Tx.na_Search_heights_beneath (T : Tx w K mg) : PySem.W.findIn K (.ref (He.ga K "Search")) "heights_beneath" = some none := He.eqO_ok (T.says.t.d.fact 98 (f := .noat "Search" "heights_beneath") rfl)
theorem Tx.m_Formula___rshift__ (T : Tx w K mg) : (He.Fa.meth "Formula" "__rshift__").ok K = true := T.says.t.d.fact 99 rfl
theorem Tx.m_Table_bit (T : Tx w K mg) : (He.Fa.meth "Table" "bit").ok K = true := T.says.t.d.fact 100 rfl
theorem Tx.m_Table_bodies (T : Tx w K mg) : (He.Fa.meth "Table" "bodies").ok K = true := T.says.t.d.fact 101 rfl
theorem Tx.m_Search_is_closed (T : Tx w K mg) : (He.Fa.meth "Search" "is_closed").ok K = true := T.says.t.d.fact 102 rfl
theorem Tx.m_Search_taken_apart (T : Tx w K mg) : (He.Fa.meth "Search" "taken_apart").ok K = true := T.says.t.d.fact 103 rfl
theorem Tx.m_Search_gone_on (T : Tx w K mg) : (He.Fa.meth "Search" "gone_on").ok K = true := T.says.t.d.fact 104 rfl
theorem Tx.m_Search_pairs_behind (T : Tx w K mg) : (He.Fa.meth "Search" "pairs_behind").ok K = true := T.says.t.d.fact 105 rfl
theorem Tx.m_Search_leaves (T : Tx w K mg) : (He.Fa.meth "Search" "leaves").ok K = true := T.says.t.d.fact 106 rfl
theorem Tx.m_Search_left_beneath (T : Tx w K mg) : (He.Fa.meth "Search" "left_beneath").ok K = true := T.says.t.d.fact 107 rfl
theorem Tx.m_Search_pair_beneath (T : Tx w K mg) : (He.Fa.meth "Search" "pair_beneath").ok K = true := T.says.t.d.fact 108 rfl
theorem Tx.m_Search_least_beneath (T : Tx w K mg) : (He.Fa.meth "Search" "least_beneath").ok K = true := T.says.t.d.fact 109 rfl
theorem Tx.m_Search_least_of_leaf (T : Tx w K mg) : (He.Fa.meth "Search" "least_of_leaf").ok K = true := T.says.t.d.fact 110 rfl
theorem Tx.m_Search_least (T : Tx w K mg) : (He.Fa.meth "Search" "least").ok K = true := T.says.t.d.fact 111 rfl
theorem Tx.m_Search_proved_all (T : Tx w K mg) : (He.Fa.meth "Search" "proved_all").ok K = true := T.says.t.d.fact 112 rfl
theorem Tx.m_Search_derivation (T : Tx w K mg) : (He.Fa.meth "Search" "derivation").ok K = true := T.says.t.d.fact 113 rfl
abbrev f_is_atom (K : PySem.W.Frag) : Addr := He.fAd K ("is_atom", none)
theorem Tx.F_is_atom (T : Tx w K mg) : Fun K "is_atom" "is_atom" s_is_atom (f_is_atom K) (fdOf K (f_is_atom K)) := T.def_ (d := d_is_atom) 0 rfl rfl rfl rfl rfl
abbrev f_united (K : PySem.W.Frag) : Addr := He.fAd K ("united", none)
theorem Tx.F_united (T : Tx w K mg) : Fun K "united" "united" s_united (f_united K) (fdOf K (f_united K)) := T.def_ (d := d_united) 1 rfl rfl rfl rfl rfl
abbrev f_merged (K : PySem.W.Frag) : Addr := He.fAd K ("merged", none)
theorem Tx.F_merged (T : Tx w K mg) : Fun K "merged" "merged" s_merged (f_merged K) (fdOf K (f_merged K)) := T.def_ (d := d_merged) 2 rfl rfl rfl rfl rfl
abbrev f_as_formula (K : PySem.W.Frag) : Addr := He.fAd K ("as_formula", none)
theorem Tx.F_as_formula (T : Tx w K mg) : Fun K "as_formula" "as_formula" s_as_formula (f_as_formula K) (fdOf K (f_as_formula K)) := T.def_ (d := d_as_formula) 3 rfl rfl rfl rfl rfl
abbrev f_operand (K : PySem.W.Frag) : Addr := He.fAd K ("operand", none)
theorem Tx.F_operand (T : Tx w K mg) : Fun K "operand" "operand" s_operand (f_operand K) (fdOf K (f_operand K)) := T.def_ (d := d_operand) 4 rfl rfl rfl rfl rfl
abbrev f_atom (K : PySem.W.Frag) : Addr := He.fAd K ("atom", none)
theorem Tx.F_atom (T : Tx w K mg) : Fun K "atom" "atom" s_atom (f_atom K) (fdOf K (f_atom K)) := T.def_ (d := d_atom) 5 rfl rfl rfl rfl rfl
abbrev f_no (K : PySem.W.Frag) : Addr := He.fAd K ("no", none)
theorem Tx.F_no (T : Tx w K mg) : Fun K "no" "no" s_no (f_no K) (fdOf K (f_no K)) := T.def_ (d := d_no) 6 rfl rfl rfl rfl rfl
abbrev f_every (K : PySem.W.Frag) : Addr := He.fAd K ("every", none)
theorem Tx.F_every (T : Tx w K mg) : Fun K "every" "every" s_every (f_every K) (fdOf K (f_every K)) := T.def_ (d := d_every) 7 rfl rfl rfl rfl rfl
abbrev f_parts_within (K : PySem.W.Frag) : Addr := He.fAd K ("parts_within", none)
theorem Tx.F_parts_within (T : Tx w K mg) : Fun K "parts_within" "parts_within" s_parts_within (f_parts_within K) (fdOf K (f_parts_within K)) := T.def_ (d := d_parts_within) 8 rfl rfl rfl rfl rfl
abbrev f_set_of (K : PySem.W.Frag) : Addr := He.fAd K ("set_of", none)
theorem Tx.F_set_of (T : Tx w K mg) : Fun K "set_of" "set_of" s_set_of (f_set_of K) (fdOf K (f_set_of K)) := T.def_ (d := d_set_of) 9 rfl rfl rfl rfl rfl
abbrev f_less (K : PySem.W.Frag) : Addr := He.fAd K ("less", none)
theorem Tx.F_less (T : Tx w K mg) : Fun K "less" "less" s_less (f_less K) (fdOf K (f_less K)) := T.def_ (d := d_less) 10 rfl rfl rfl rfl rfl
abbrev f_more (K : PySem.W.Frag) : Addr := He.fAd K ("more", none)
theorem Tx.F_more (T : Tx w K mg) : Fun K "more" "more" s_more (f_more K) (fdOf K (f_more K)) := T.def_ (d := d_more) 11 rfl rfl rfl rfl rfl
abbrev f_left_beneath (K : PySem.W.Frag) : Addr := He.fAd K ("left_beneath", none)
theorem Tx.F_left_beneath (T : Tx w K mg) : Fun K "left_beneath" "left_beneath" s_left_beneath (f_left_beneath K) (fdOf K (f_left_beneath K)) := T.def_ (d := d_left_beneath) 12 rfl rfl rfl rfl rfl
abbrev f_is_way (K : PySem.W.Frag) : Addr := He.fAd K ("is_way", none)
theorem Tx.F_is_way (T : Tx w K mg) : Fun K "is_way" "is_way" s_is_way (f_is_way K) (fdOf K (f_is_way K)) := T.def_ (d := d_is_way) 13 rfl rfl rfl rfl rfl
abbrev f_pairs_behind (K : PySem.W.Frag) : Addr := He.fAd K ("pairs_behind", none)
theorem Tx.F_pairs_behind (T : Tx w K mg) : Fun K "pairs_behind" "pairs_behind" s_pairs_behind (f_pairs_behind K) (fdOf K (f_pairs_behind K)) := T.def_ (d := d_pairs_behind) 14 rfl rfl rfl rfl rfl
abbrev f_is_derivation (K : PySem.W.Frag) : Addr := He.fAd K ("is_derivation", none)
theorem Tx.F_is_derivation (T : Tx w K mg) : Fun K "is_derivation" "is_derivation" s_is_derivation (f_is_derivation K) (fdOf K (f_is_derivation K)) := T.def_ (d := d_is_derivation) 15 rfl rfl rfl rfl rfl
abbrev f_lowest (K : PySem.W.Frag) : Addr := He.fAd K ("lowest", none)
theorem Tx.F_lowest (T : Tx w K mg) : Fun K "lowest" "lowest" s_lowest (f_lowest K) (fdOf K (f_lowest K)) := T.def_ (d := d_lowest) 16 rfl rfl rfl rfl rfl
abbrev f_members (K : PySem.W.Frag) : Addr := He.fAd K ("members", none)
theorem Tx.F_members (T : Tx w K mg) : Fun K "members" "members" s_members (f_members K) (fdOf K (f_members K)) := T.def_ (d := d_members) 17 rfl rfl rfl rfl rfl
abbrev f_judge (K : PySem.W.Frag) : Addr := He.fAd K ("judge", none)
theorem Tx.F_judge (T : Tx w K mg) : Fun K "judge" "judge" s_judge (f_judge K) (fdOf K (f_judge K)) := T.def_ (d := d_judge) 18 rfl rfl rfl rfl rfl
abbrev f_derivation_holds (K : PySem.W.Frag) : Addr := He.fAd K ("derivation_holds", none)
theorem Tx.F_derivation_holds (T : Tx w K mg) : Fun K "derivation_holds" "derivation_holds" s_derivation_holds (f_derivation_holds K) (fdOf K (f_derivation_holds K)) := T.def_ (d := d_derivation_holds) 19 rfl rfl rfl rfl rfl
abbrev f_follows (K : PySem.W.Frag) : Addr := He.fAd K ("follows", none)
theorem Tx.F_follows (T : Tx w K mg) : Fun K "follows" "follows" s_follows (f_follows K) (fdOf K (f_follows K)) := T.def_ (d := d_follows) 20 rfl rfl rfl rfl rfl
abbrev f__law_deck (K : PySem.W.Frag) : Addr := He.fAd K ("_law_deck", none)
theorem Tx.F__law_deck (T : Tx w K mg) : Fun K "_law_deck" "_law_deck" s__law_deck (f__law_deck K) (fdOf K (f__law_deck K)) := T.def_ (d := d__law_deck) 21 rfl rfl rfl rfl rfl
abbrev f__law_draw (K : PySem.W.Frag) : Addr := He.fAd K ("_law_draw", none)
theorem Tx.F__law_draw (T : Tx w K mg) : Fun K "_law_draw" "_law_draw" s__law_draw (f__law_draw K) (fdOf K (f__law_draw K)) := T.def_ (d := d__law_draw) 22 rfl rfl rfl rfl rfl
abbrev f__law_pick (K : PySem.W.Frag) : Addr := He.fAd K ("_law_pick", none)
theorem Tx.F__law_pick (T : Tx w K mg) : Fun K "_law_pick" "_law_pick" s__law_pick (f__law_pick K) (fdOf K (f__law_pick K)) := T.def_ (d := d__law_pick) 23 rfl rfl rfl rfl rfl
abbrev f__law_form (K : PySem.W.Frag) : Addr := He.fAd K ("_law_form", none)
theorem Tx.F__law_form (T : Tx w K mg) : Fun K "_law_form" "_law_form" s__law_form (f__law_form K) (fdOf K (f__law_form K)) := T.def_ (d := d__law_form) 24 rfl rfl rfl rfl rfl
abbrev f__law_alls (K : PySem.W.Frag) : Addr := He.fAd K ("_law_alls", none)
theorem Tx.F__law_alls (T : Tx w K mg) : Fun K "_law_alls" "_law_alls" s__law_alls (f__law_alls K) (fdOf K (f__law_alls K)) := T.def_ (d := d__law_alls) 25 rfl rfl rfl rfl rfl
abbrev f__law_letters (K : PySem.W.Frag) : Addr := He.fAd K ("_law_letters", none)
theorem Tx.F__law_letters (T : Tx w K mg) : Fun K "_law_letters" "_law_letters" s__law_letters (f__law_letters K) (fdOf K (f__law_letters K)) := T.def_ (d := d__law_letters) 26 rfl rfl rfl rfl rfl
abbrev f__law_made (K : PySem.W.Frag) : Addr := He.fAd K ("_law_made", none)
theorem Tx.F__law_made (T : Tx w K mg) : Fun K "_law_made" "_law_made" s__law_made (f__law_made K) (fdOf K (f__law_made K)) := T.def_ (d := d__law_made) 27 rfl rfl rfl rfl rfl
abbrev f__law_tree (K : PySem.W.Frag) : Addr := He.fAd K ("_law_tree", none)
theorem Tx.F__law_tree (T : Tx w K mg) : Fun K "_law_tree" "_law_tree" s__law_tree (f__law_tree K) (fdOf K (f__law_tree K)) := T.def_ (d := d__law_tree) 28 rfl rfl rfl rfl rfl
abbrev f__law_is_true (K : PySem.W.Frag) : Addr := He.fAd K ("_law_is_true", none)
theorem Tx.F__law_is_true (T : Tx w K mg) : Fun K "_law_is_true" "_law_is_true" s__law_is_true (f__law_is_true K) (fdOf K (f__law_is_true K)) := T.def_ (d := d__law_is_true) 29 rfl rfl rfl rfl rfl
abbrev f__law_spots (K : PySem.W.Frag) : Addr := He.fAd K ("_law_spots", none)
theorem Tx.F__law_spots (T : Tx w K mg) : Fun K "_law_spots" "_law_spots" s__law_spots (f__law_spots K) (fdOf K (f__law_spots K)) := T.def_ (d := d__law_spots) 30 rfl rfl rfl rfl rfl
abbrev f__law_met (K : PySem.W.Frag) : Addr := He.fAd K ("_law_met", none)
theorem Tx.F__law_met (T : Tx w K mg) : Fun K "_law_met" "_law_met" s__law_met (f__law_met K) (fdOf K (f__law_met K)) := T.def_ (d := d__law_met) 31 rfl rfl rfl rfl rfl
abbrev f__law_least (K : PySem.W.Frag) : Addr := He.fAd K ("_law_least", none)
theorem Tx.F__law_least (T : Tx w K mg) : Fun K "_law_least" "_law_least" s__law_least (f__law_least K) (fdOf K (f__law_least K)) := T.def_ (d := d__law_least) 32 rfl rfl rfl rfl rfl
abbrev f__law_couple (K : PySem.W.Frag) : Addr := He.fAd K ("_law_couple", none)
theorem Tx.F__law_couple (T : Tx w K mg) : Fun K "_law_couple" "_law_couple" s__law_couple (f__law_couple K) (fdOf K (f__law_couple K)) := T.def_ (d := d__law_couple) 33 rfl rfl rfl rfl rfl
abbrev f__law_size (K : PySem.W.Frag) : Addr := He.fAd K ("_law_size", none)
theorem Tx.F__law_size (T : Tx w K mg) : Fun K "_law_size" "_law_size" s__law_size (f__law_size K) (fdOf K (f__law_size K)) := T.def_ (d := d__law_size) 34 rfl rfl rfl rfl rfl
abbrev f__law_is_derived (K : PySem.W.Frag) : Addr := He.fAd K ("_law_is_derived", none)
theorem Tx.F__law_is_derived (T : Tx w K mg) : Fun K "_law_is_derived" "_law_is_derived" s__law_is_derived (f__law_is_derived K) (fdOf K (f__law_is_derived K)) := T.def_ (d := d__law_is_derived) 35 rfl rfl rfl rfl rfl
abbrev f__law_not (K : PySem.W.Frag) : Addr := He.fAd K ("_law_not", none)
theorem Tx.F__law_not (T : Tx w K mg) : Fun K "_law_not" "_law_not" s__law_not (f__law_not K) (fdOf K (f__law_not K)) := T.def_ (d := d__law_not) 36 rfl rfl rfl rfl rfl
abbrev f__law_both (K : PySem.W.Frag) : Addr := He.fAd K ("_law_both", none)
theorem Tx.F__law_both (T : Tx w K mg) : Fun K "_law_both" "_law_both" s__law_both (f__law_both K) (fdOf K (f__law_both K)) := T.def_ (d := d__law_both) 37 rfl rfl rfl rfl rfl
abbrev f__law_first (K : PySem.W.Frag) : Addr := He.fAd K ("_law_first", none)
theorem Tx.F__law_first (T : Tx w K mg) : Fun K "_law_first" "_law_first" s__law_first (f__law_first K) (fdOf K (f__law_first K)) := T.def_ (d := d__law_first) 38 rfl rfl rfl rfl rfl
abbrev f__law_ahead (K : PySem.W.Frag) : Addr := He.fAd K ("_law_ahead", none)
theorem Tx.F__law_ahead (T : Tx w K mg) : Fun K "_law_ahead" "_law_ahead" s__law_ahead (f__law_ahead K) (fdOf K (f__law_ahead K)) := T.def_ (d := d__law_ahead) 39 rfl rfl rfl rfl rfl
abbrev f__law_over (K : PySem.W.Frag) : Addr := He.fAd K ("_law_over", none)
theorem Tx.F__law_over (T : Tx w K mg) : Fun K "_law_over" "_law_over" s__law_over (f__law_over K) (fdOf K (f__law_over K)) := T.def_ (d := d__law_over) 40 rfl rfl rfl rfl rfl
abbrev f__law_denied (K : PySem.W.Frag) : Addr := He.fAd K ("_law_denied", none)
theorem Tx.F__law_denied (T : Tx w K mg) : Fun K "_law_denied" "_law_denied" s__law_denied (f__law_denied K) (fdOf K (f__law_denied K)) := T.def_ (d := d__law_denied) 41 rfl rfl rfl rfl rfl
abbrev f__law_joined (K : PySem.W.Frag) : Addr := He.fAd K ("_law_joined", none)
theorem Tx.F__law_joined (T : Tx w K mg) : Fun K "_law_joined" "_law_joined" s__law_joined (f__law_joined K) (fdOf K (f__law_joined K)) := T.def_ (d := d__law_joined) 42 rfl rfl rfl rfl rfl
abbrev f__law_is_right (K : PySem.W.Frag) : Addr := He.fAd K ("_law_is_right", none)
theorem Tx.F__law_is_right (T : Tx w K mg) : Fun K "_law_is_right" "_law_is_right" s__law_is_right (f__law_is_right K) (fdOf K (f__law_is_right K)) := T.def_ (d := d__law_is_right) 43 rfl rfl rfl rfl rfl
abbrev f__law_is_other_right (K : PySem.W.Frag) : Addr := He.fAd K ("_law_is_other_right", none)
theorem Tx.F__law_is_other_right (T : Tx w K mg) : Fun K "_law_is_other_right" "_law_is_other_right" s__law_is_other_right (f__law_is_other_right K) (fdOf K (f__law_is_other_right K)) := T.def_ (d := d__law_is_other_right) 44 rfl rfl rfl rfl rfl
abbrev f__law_known_right (K : PySem.W.Frag) : Addr := He.fAd K ("_law_known_right", none)
theorem Tx.F__law_known_right (T : Tx w K mg) : Fun K "_law_known_right" "_law_known_right" s__law_known_right (f__law_known_right K) (fdOf K (f__law_known_right K)) := T.def_ (d := d__law_known_right) 45 rfl rfl rfl rfl rfl
abbrev f_law (K : PySem.W.Frag) : Addr := He.fAd K ("law", none)
theorem Tx.F_law (T : Tx w K mg) : Fun K "law" "law" s_law (f_law K) (fdOf K (f_law K)) := T.def_ (d := d_law) 46 rfl rfl rfl rfl rfl
abbrev f_Formula__init__ (K : PySem.W.Frag) : Addr := He.fAd K ("Formula", some "__init__")
theorem Tx.F_Formula__init__ (T : Tx w K mg) : Fun K "__init__" "Formula.__init__" s_Formula__init__ (f_Formula__init__ K) (fdOf K (f_Formula__init__ K)) := T.def_ (d := d_Formula__init__) 47 rfl rfl rfl rfl rfl
abbrev f_Formula__rshift__ (K : PySem.W.Frag) : Addr := He.fAd K ("Formula", some "__rshift__")
theorem Tx.F_Formula__rshift__ (T : Tx w K mg) : Fun K "__rshift__" "Formula.__rshift__" s_Formula__rshift__ (f_Formula__rshift__ K) (fdOf K (f_Formula__rshift__ K)) := T.def_ (d := d_Formula__rshift__) 48 rfl rfl rfl rfl rfl
abbrev f_Table__init__ (K : PySem.W.Frag) : Addr := He.fAd K ("Table", some "__init__")
theorem Tx.F_Table__init__ (T : Tx w K mg) : Fun K "__init__" "Table.__init__" s_Table__init__ (f_Table__init__ K) (fdOf K (f_Table__init__ K)) := T.def_ (d := d_Table__init__) 49 rfl rfl rfl rfl rfl
abbrev f_Table_bit (K : PySem.W.Frag) : Addr := He.fAd K ("Table", some "bit")
theorem Tx.F_Table_bit (T : Tx w K mg) : Fun K "bit" "Table.bit" s_Table_bit (f_Table_bit K) (fdOf K (f_Table_bit K)) := T.def_ (d := d_Table_bit) 50 rfl rfl rfl rfl rfl
abbrev f_Table_bodies (K : PySem.W.Frag) : Addr := He.fAd K ("Table", some "bodies")
theorem Tx.F_Table_bodies (T : Tx w K mg) : Fun K "bodies" "Table.bodies" s_Table_bodies (f_Table_bodies K) (fdOf K (f_Table_bodies K)) := T.def_ (d := d_Table_bodies) 51 rfl rfl rfl rfl rfl
abbrev f_Search__init__ (K : PySem.W.Frag) : Addr := He.fAd K ("Search", some "__init__")
theorem Tx.F_Search__init__ (T : Tx w K mg) : Fun K "__init__" "Search.__init__" s_Search__init__ (f_Search__init__ K) (fdOf K (f_Search__init__ K)) := T.def_ (d := d_Search__init__) 52 rfl rfl rfl rfl rfl
abbrev f_Search_is_closed (K : PySem.W.Frag) : Addr := He.fAd K ("Search", some "is_closed")
theorem Tx.F_Search_is_closed (T : Tx w K mg) : Fun K "is_closed" "Search.is_closed" s_Search_is_closed (f_Search_is_closed K) (fdOf K (f_Search_is_closed K)) := T.def_ (d := d_Search_is_closed) 53 rfl rfl rfl rfl rfl
abbrev f_Search_taken_apart (K : PySem.W.Frag) : Addr := He.fAd K ("Search", some "taken_apart")
theorem Tx.F_Search_taken_apart (T : Tx w K mg) : Fun K "taken_apart" "Search.taken_apart" s_Search_taken_apart (f_Search_taken_apart K) (fdOf K (f_Search_taken_apart K)) := T.def_ (d := d_Search_taken_apart) 54 rfl rfl rfl rfl rfl
abbrev f_Search_gone_on (K : PySem.W.Frag) : Addr := He.fAd K ("Search", some "gone_on")
theorem Tx.F_Search_gone_on (T : Tx w K mg) : Fun K "gone_on" "Search.gone_on" s_Search_gone_on (f_Search_gone_on K) (fdOf K (f_Search_gone_on K)) := T.def_ (d := d_Search_gone_on) 55 rfl rfl rfl rfl rfl
abbrev f_Search_pairs_behind (K : PySem.W.Frag) : Addr := He.fAd K ("Search", some "pairs_behind")
theorem Tx.F_Search_pairs_behind (T : Tx w K mg) : Fun K "pairs_behind" "Search.pairs_behind" s_Search_pairs_behind (f_Search_pairs_behind K) (fdOf K (f_Search_pairs_behind K)) := T.def_ (d := d_Search_pairs_behind) 56 rfl rfl rfl rfl rfl
abbrev f_Search_leaves (K : PySem.W.Frag) : Addr := He.fAd K ("Search", some "leaves")
theorem Tx.F_Search_leaves (T : Tx w K mg) : Fun K "leaves" "Search.leaves" s_Search_leaves (f_Search_leaves K) (fdOf K (f_Search_leaves K)) := T.def_ (d := d_Search_leaves) 57 rfl rfl rfl rfl rfl
abbrev f_Search_left_beneath (K : PySem.W.Frag) : Addr := He.fAd K ("Search", some "left_beneath")
theorem Tx.F_Search_left_beneath (T : Tx w K mg) : Fun K "left_beneath" "Search.left_beneath" s_Search_left_beneath (f_Search_left_beneath K) (fdOf K (f_Search_left_beneath K)) := T.def_ (d := d_Search_left_beneath) 58 rfl rfl rfl rfl rfl
abbrev f_Search_pair_beneath (K : PySem.W.Frag) : Addr := He.fAd K ("Search", some "pair_beneath")
theorem Tx.F_Search_pair_beneath (T : Tx w K mg) : Fun K "pair_beneath" "Search.pair_beneath" s_Search_pair_beneath (f_Search_pair_beneath K) (fdOf K (f_Search_pair_beneath K)) := T.def_ (d := d_Search_pair_beneath) 59 rfl rfl rfl rfl rfl
abbrev f_Search_least_beneath (K : PySem.W.Frag) : Addr := He.fAd K ("Search", some "least_beneath")
theorem Tx.F_Search_least_beneath (T : Tx w K mg) : Fun K "least_beneath" "Search.least_beneath" s_Search_least_beneath (f_Search_least_beneath K) (fdOf K (f_Search_least_beneath K)) := T.def_ (d := d_Search_least_beneath) 60 rfl rfl rfl rfl rfl
abbrev f_Search_least_of_leaf (K : PySem.W.Frag) : Addr := He.fAd K ("Search", some "least_of_leaf")
theorem Tx.F_Search_least_of_leaf (T : Tx w K mg) : Fun K "least_of_leaf" "Search.least_of_leaf" s_Search_least_of_leaf (f_Search_least_of_leaf K) (fdOf K (f_Search_least_of_leaf K)) := T.def_ (d := d_Search_least_of_leaf) 61 rfl rfl rfl rfl rfl
abbrev f_Search_least (K : PySem.W.Frag) : Addr := He.fAd K ("Search", some "least")
theorem Tx.F_Search_least (T : Tx w K mg) : Fun K "least" "Search.least" s_Search_least (f_Search_least K) (fdOf K (f_Search_least K)) := T.def_ (d := d_Search_least) 62 rfl rfl rfl rfl rfl
abbrev f_Search_proved_all (K : PySem.W.Frag) : Addr := He.fAd K ("Search", some "proved_all")
theorem Tx.F_Search_proved_all (T : Tx w K mg) : Fun K "proved_all" "Search.proved_all" s_Search_proved_all (f_Search_proved_all K) (fdOf K (f_Search_proved_all K)) := T.def_ (d := d_Search_proved_all) 63 rfl rfl rfl rfl rfl
abbrev f_Search_derivation (K : PySem.W.Frag) : Addr := He.fAd K ("Search", some "derivation")
theorem Tx.F_Search_derivation (T : Tx w K mg) : Fun K "derivation" "Search.derivation" s_Search_derivation (f_Search_derivation K) (fdOf K (f_Search_derivation K)) := T.def_ (d := d_Search_derivation) 64 rfl rfl rfl rfl rfl
end
end AT
end
section
set_option Elab.async false
set_option linter.all false
set_option maxRecDepth 100000
set_option maxHeartbeats 0
/-! The head: the top's run, for each answer of the world's one row that it asks; its three looks each by itself, and the facts read of the objects at given places (less memory at a time). -/
namespace AT
open PySem PySem.Spec PyProof.Rows L2
abbrev Ro : PySem.W.OpenRow := PySem.W.OpenLaw.row PySem.Challenge.rw_allbeneath_k66_whole_derivations_put_tog
def as0 : List Addr := [3, 6, 4, 21, 31, 51, 70, 89, 92, 99, 106, 111, 231, 242, 249, 256, 263, 270, 277, 284, 289, 296, 303, 310, 311, 316, 321, 328, 335, 342]
def as1 : List Addr := [349, 354, 361, 368, 409, 512, 521, 528, 533, 538, 543, 548, 553, 675, 684, 691, 696, 701, 730, 741, 748, 755, 762, 769, 776, 783, 790, 795, 800, 807]
def as2 : List Addr := [812, 819, 824, 829, 834, 841, 846, 851, 858, 865, 872, 879, 886, 893, 900, 907, 914, 921, 928, 935, 942, 0, 20, 30, 50, 69, 88, 98, 105, 110]
def as3 : List Addr := [230, 241, 248, 255, 262, 269, 276, 283, 288, 295, 302, 309, 315, 320, 327, 334, 341, 348, 353, 360, 367, 408, 511, 520, 527, 532, 537, 542, 547, 552]
def as4 : List Addr := [674, 683, 690, 695, 700, 729, 740, 747, 754, 761, 768, 775, 782, 789, 794, 799, 806, 811, 818, 823, 828, 833, 840, 845, 850, 857, 864, 871, 878, 885]
def as5 : List Addr := [892, 899, 906, 913, 920, 927, 934, 941, 15, 16, 17, 18, 19, 29, 32, 48, 49, 67, 68, 86, 87, 93, 94, 95, 96, 97, 100, 101, 102, 103]
def as6 : List Addr := [104, 107, 108, 109, 125, 134, 143, 151, 158, 165, 172, 179, 186, 193, 200, 207, 214, 221, 228, 229, 232, 233, 236, 237, 238, 239, 240, 243, 244, 245]
def as7 : List Addr := [246, 247, 250, 251, 252, 253, 254, 257, 258, 259, 260, 261, 264, 265, 266, 267, 268, 271, 272, 273, 274, 275, 278, 279, 280, 281, 282, 285, 286, 287]
def as8 : List Addr := [290, 291, 292, 293, 294, 297, 298, 299, 300, 301, 304, 305, 306, 307, 308, 312, 313, 314, 317, 318, 319, 322, 323, 324, 325, 326, 329, 330, 331, 332]
def as9 : List Addr := [333, 336, 337, 338, 339, 340, 343, 344, 345, 346, 347, 350, 351, 352, 355, 356, 357, 358, 359, 362, 363, 364, 365, 366, 382, 387, 394, 401, 406, 407]
def as10 : List Addr := [410, 411, 427, 434, 441, 448, 455, 462, 469, 476, 483, 490, 497, 504, 509, 510, 513, 514, 517, 518, 519, 522, 523, 524, 525, 526, 529, 530, 531, 534]
def as11 : List Addr := [535, 536, 539, 540, 541, 544, 545, 546, 549, 550, 551, 567, 576, 584, 592, 599, 607, 612, 617, 622, 629, 634, 641, 648, 653, 660, 667, 672, 673, 676]
def as12 : List Addr := [677, 680, 681, 682, 685, 686, 687, 688, 689, 692, 693, 694, 697, 698, 699, 715, 720, 727, 728, 731, 732, 735, 736, 737, 738, 739, 742, 743, 744, 745]
def as13 : List Addr := [746, 749, 750, 751, 752, 753, 756, 757, 758, 759, 760, 763, 764, 765, 766, 767, 770, 771, 772, 773, 774, 777, 778, 779, 780, 781, 784, 785, 786, 787]
def as14 : List Addr := [788, 791, 792, 793, 796, 797, 798, 801, 802, 803, 804, 805, 808, 809, 810, 813, 814, 815, 816, 817, 820, 821, 822, 825, 826, 827, 830, 831, 832, 835]
def as15 : List Addr := [836, 837, 838, 839, 842, 843, 844, 847, 848, 849, 852, 853, 854, 855, 856, 859, 860, 861, 862, 863, 866, 867, 868, 869, 870, 873, 874, 875, 876, 877]
def as16 : List Addr := [880, 881, 882, 883, 884, 887, 888, 889, 890, 891, 894, 895, 896, 897, 898, 901, 902, 903, 904, 905, 908, 909, 910, 911, 912, 915, 916, 917, 918, 919]
def as17 : List Addr := [922, 923, 924, 925, 926, 929, 930, 931, 932, 933, 936, 937, 938, 939, 940, 47, 66, 85, 124, 132, 133, 142, 150, 157, 164, 171, 178, 185, 192, 199]
def as18 : List Addr := [206, 213, 220, 227, 381, 386, 393, 400, 405, 426, 433, 440, 447, 454, 461, 468, 475, 482, 489, 496, 503, 508, 566, 574, 575, 583, 591, 585, 598, 606]
def as19 : List Addr := [600, 611, 616, 621, 628, 633, 640, 647, 652, 659, 666, 671, 714, 719, 726]
def asL : List Addr := as0 ++ as1 ++ as2 ++ as3 ++ as4 ++ as5 ++ as6 ++ as7 ++ as8 ++ as9 ++ as10 ++ as11 ++ as12 ++ as13 ++ as14 ++ as15 ++ as16 ++ as17 ++ as18 ++ as19
/-- the head's facts, read of the objects at asL -/
def hk : PySem.W.Hook where
  α := He.AlX
  obs := fun s => (He.obsT fa fn ts (He.frT s.heap.get? asL), exB (He.frT s.heap.get? asL))
  val := fun w => He.valX fn ts w
  says := fun w h => ∃ K : PySem.W.Frag, K.In h ∧ He.SaysX fa fn ts [] exB w h K
  of := fun _ _ e => ⟨_, He.frT_in, ⟨congrArg (fun z : He.AlX => z.1) e, congrArg (fun z : He.AlX => z.2) e, (fun _ h => nomatch h), (fun _ h => nomatch h), (fun _ h => nomatch h)⟩⟩
  keeps := fun _ _ _ ⟨K, hK, c⟩ k => ⟨K, PySem.W.Frag.In.keeps hK k, ⟨c.t, c.more, c.hd, c.out, (fun _ h => nomatch h)⟩⟩
noncomputable def ob (s : PySem.W.SharedT) : He.AlX := (He.obsT fa fn ts (He.frT (HandSHeadRun.getT s) asL), exB (He.frT (HandSHeadRun.getT s) asL))
theorem ob_eq (s : PySem.W.SharedT) : ob s = hk.obs s.abs := by
  have e : HandSHeadRun.getT s = s.abs.heap.get? := funext (HandSHeadRun.getT_eq s)
  show (He.obsT fa fn ts (He.frT (HandSHeadRun.getT s) asL), exB (He.frT (HandSHeadRun.getT s) asL)) = _
  rw [e] <;> rfl
def loose : List PySem.Str := (PySem.Challenge.pw_allbeneath_k66_whole_derivations_put_tog.main.scope.names.map (·.1)).filter fun n => n != ("law" : PySem.Str) && n != ("__name__" : PySem.Str)
abbrev RunAt (w : World) : Prop := HandSHeadRun.RunEq Ro (PySem.W.view Ro.prog [102]) hk ob 12000 loose w
theorem three {α β γ δ : Type} {o : Option α} {a : α → β} {b : α → γ} {c : α → δ} {x : β} {y : γ} {z : δ} (h1 : o.map a = some x) (h2 : o.map b = some y) (h3 : o.map c = some z) : o.map (fun s => (a s, b s, c s)) = some (x, y, z) := by
  cases o with
  | none => cases h1
  | some s =>
    cases h1
    cases h2
    cases h3
    rfl
section
open HandSHeadRun PySem.W PySem.Calls
noncomputable abbrev fin (w : World) (os : OsState) : Option SharedT := endF (stepQ (denQ tabQ) Ro.prog w) 12000 Ro.prog w os
noncomputable abbrev see (s : Shared) := seenQ (view Ro.prog [102]) loose (importedModules Ro.prog.main.body) (fun s => xlAt (view Ro.prog [102]) [] s && recOk Ro.toRowW.records s) s
theorem f1 (w : World) (os : OsState) : (fin (w.withFollow "special-get-raises" false) os).map (fun s => looksF Ro.prog (boot_heap (w.withFollow "special-get-raises" false).params) s.abs) = some true := by kernel_rfl
theorem f2 (w : World) (os : OsState) : (fin (w.withFollow "special-get-raises" false) os).map (fun s => see s.abs) = some (openGood (view Ro.prog [102]) loose) := by kernel_rfl
theorem f3 (w : World) (os : OsState) : (fin (w.withFollow "special-get-raises" false) os).map ob = some (hk.val (w.withFollow "special-get-raises" false)) := by kernel_rfl
theorem t1 (w : World) (os : OsState) : (fin (w.withFollow "special-get-raises" true) os).map (fun s => looksF Ro.prog (boot_heap (w.withFollow "special-get-raises" true).params) s.abs) = some true := by kernel_rfl
theorem t2 (w : World) (os : OsState) : (fin (w.withFollow "special-get-raises" true) os).map (fun s => see s.abs) = some (openGood (view Ro.prog [102]) loose) := by kernel_rfl
theorem t3 (w : World) (os : OsState) : (fin (w.withFollow "special-get-raises" true) os).map ob = some (hk.val (w.withFollow "special-get-raises" true)) := by kernel_rfl
theorem run_f (w : World) : RunAt (w.withFollow "special-get-raises" false) := fun os => three (f1 w os) (f2 w os) (f3 w os)
theorem run_t (w : World) : RunAt (w.withFollow "special-get-raises" true) := fun os => three (t1 w os) (t2 w os) (t3 w os)
end
theorem run (w : World) : RunAt w := PySem.W.byRow2 "special-get-raises" (P := RunAt) run_f run_t w
end AT
end
section
set_option Elab.async false
set_option linter.all false
set_option maxRecDepth 100000
/-! The layer with the table of generators: what a generator's state is stays while others run. -/
namespace GL
open PySem PySem.Spec PyProof.Rows L2
/-- the old generators are as they were -/
def Pre (G g : Array GenState) : Prop := ∀ i : Nat, i < G.size → g[i]? = G[i]?
theorem Pre.refl (G : Array GenState) : Pre G G := fun _ _ => rfl
theorem Pre.size {G g : Array GenState} (h : Pre G g) : G.size ≤ g.size := by
  refine Nat.le_of_not_lt fun c => ?_
  have q := h g.size c
  rw [Array.getElem?_eq_none (Nat.le_refl _)] at q
  rw [Array.getElem?_eq_getElem c] at q
  cases q
theorem Pre.trans {G g k : Array GenState} (a : Pre G g) (b : Pre g k) : Pre G k := fun i hi => (b i (Nat.lt_of_lt_of_le hi a.size)).trans (a i hi)
/-- the invariant, and the old generators -/
structure IG (X : Cx) (G : Array GenState) (pins : List (Addr × Obj)) (σ : L2.St) (H : Hp) (s : Shared) : Prop where
  i : Inv X pins σ H s
  g : Pre G s.gens
def EQ (X : Cx) (G : Array GenState) (pins : List (Addr × Obj)) (σ : L2.St) (Q : VK) (u : Value) (s' : Shared) : Prop := ∃ v H', IG X G pins σ H' s' ∧ RelV v u ∧ Q v H'
def TQ (X : Cx) (G : Array GenState) (pins : List (Addr × Obj)) (σ : L2.St) (Q : Bool → Hp → Prop) (b : Bool) (s' : Shared) : Prop := ∃ H', IG X G pins σ H' s' ∧ Q b H'
def AQ (X : Cx) (G : Array GenState) (pins : List (Addr × Obj)) (σ : L2.St) (Q : List V → Hp → Prop) (us : List Value) (s' : Shared) : Prop := ∃ vs H', IG X G pins σ H' s' ∧ Vals vs us ∧ Q vs H'
def SQ (X : Cx) (G : Array GenState) (pins : List (Addr × Obj)) (D : Ends) (f : Flow) (s' : Shared) : Prop :=
  match f with
  | .next => ∃ σ' H', IG X G pins σ' H' s' ∧ D.nx σ' H'
  | .brk => ∃ σ' H', IG X G pins σ' H' s' ∧ D.bk σ' H'
  | .cont => ∃ σ' H', IG X G pins σ' H' s' ∧ D.ct σ' H'
  | .ret u => ∃ v σ' H', IG X G pins σ' H' s' ∧ RelV v u ∧ D.rt v H'
structure EG (X : Cx) (e : Expr) (t : TE) : Prop where
  run : ∀ (G : Array GenState) (pins : List (Addr × Obj)) (s : Shared) (σ : L2.St) (H : Hp) (Q : VK), IG X G pins σ H s → t σ H Q → wpAny (model X.prog X.w) X.A (eval e X.env) (EQ X G pins σ Q) X.xe s
structure TGt (X : Cx) (e : Expr) (t : TT) : Prop where
  run : ∀ (G : Array GenState) (pins : List (Addr × Obj)) (s : Shared) (σ : L2.St) (H : Hp) (Q : Bool → Hp → Prop), IG X G pins σ H s → t σ H Q → wpAny (model X.prog X.w) X.A (isTrue e X.env (eval e X.env)) (TQ X G pins σ Q) X.xe s
structure WG (X : Cx) (e : Expr) (t : TT) : Prop where
  run : ∀ (whole : Sem Value) (G : Array GenState) (pins : List (Addr × Obj)) (s : Shared) (σ : L2.St) (H : Hp) (Q : Bool → Hp → Prop), IG X G pins σ H s → t σ H Q → wpAny (model X.prog X.w) X.A (isTrue e X.env whole) (TQ X G pins σ Q) X.xe s
theorem WG.t {X : Cx} {e : Expr} {t : TT} (h : WG X e t) : TGt X e t := ⟨h.run _⟩
structure AG (X : Cx) (es : List Expr) (t : TA) : Prop where
  run : ∀ (pos : Pos) (G : Array GenState) (pins : List (Addr × Obj)) (s : Shared) (σ : L2.St) (H : Hp) (Q : List V → Hp → Prop), IG X G pins σ H s → t σ H Q → wpAny (model X.prog X.w) X.A (spliced (backTo pos (starEach es X.env))) (AQ X G pins σ Q) X.xe s
structure SG (X : Cx) (st : Stmt) (t : TS) : Prop where
  run : ∀ (G : Array GenState) (pins : List (Addr × Obj)) (s : Shared) (σ : L2.St) (H : Hp) (D : Ends), IG X G pins σ H s → t D σ H → wpAny (model X.prog X.w) X.A (exec st X.env) (SQ X G pins D) X.xe s
structure SGs (X : Cx) (st : List Stmt) (t : TS) : Prop where
  run : ∀ (G : Array GenState) (pins : List (Addr × Obj)) (s : Shared) (σ : L2.St) (H : Hp) (D : Ends), IG X G pins σ H s → t D σ H → wpAny (model X.prog X.w) X.A (execs st X.env) (SQ X G pins D) X.xe s
section
variable {X : Cx} {G : Array GenState} {pins : List (Addr × Obj)} {σ : L2.St} {H H' : Hp} {s : Shared} {h' : Heap}
theorem IG.tok (I : IG X G pins σ H s) (t : Nat) : IG X G pins σ H { s with toks := t } := ⟨I.i.tok t, I.g⟩
theorem IG.kept {t' : Nat} (I : IG X G pins σ H s) (k : ∀ b u, s.heap.get? b = some u → h'.get? b = some u) : IG X G pins σ H { s with heap := h', toks := t' } := ⟨I.i.kept k, I.g⟩
theorem IG.laid {a : Addr} {o : HO} {t' : Nat} (I : IG X G pins σ H s) (k : ∀ b u, s.heap.get? b = some u → h'.get? b = some u) (hp : s.heap.objs.size ≤ a) (new : ObjOk X.prog X.w (upd H a o) h' a o) :
    IG X G pins σ (upd H a o) { s with heap := h', toks := t' } := ⟨I.i.laid k hp new, I.g⟩
theorem IG.fresh (I : IG X G pins σ H s) : H s.heap.objs.size = none := I.i.hok.fresh (Nat.le_refl _)
/-- a local name is stored -/
theorem IG.store {A : Around} {M : Model} {E : Value → Shared → Prop} {i : Nat} {x : Str} {v : V} {u : Value} {Q : Unit → Shared → Prop} (I : IG X G pins σ H s) (hN : X.N.Nodup) (hi : X.N[i]? = some x) (hx : X.env.scope.names.lookup x = some .local) (r : RelV v u)
    (h : ∀ s', IG X G pins (σ.set i (some v)) H s' → Q () s') : wpAny M A (storeName X.env x u) Q E s := by
  have J := I.i
  obtain ⟨m, hn, hl⟩ := id J.loc
  have hiσ : i < σ.length := by rw [J.len]; exact (List.getElem?_eq_some_iff.mp hi).1
  have hc : (X.env.scope.kind == .class || (X.env.scope.kind == .module && X.env.locals != X.env.globals)) = false := by rw [J.ok.kind] <;> rfl
  refine wpAny_storeName_local hx hn (fun h' hn' sb => h _ ⟨?_, I.g⟩) hc
  have old : ∀ b o, X.s_0.heap.get? b = some o → b ≠ X.env.locals := fun b o e z => by
    have l1 := Heap.lt_size e
    have l2 := J.ok.above
    rw [z] at l1
    exact absurd (Nat.lt_of_lt_of_le l1 l2) (Nat.lt_irrefl _)
  have same : ∀ b, b ≠ X.env.locals → h'.get? b = s.heap.get? b := fun b hb => sb.2 b hb
  have hfree := J.free
  refine ⟨J.ok, J.os, J.bare, ⟨fun b o e n hb hx => ?_, fun b o e n hb hx => ?_, J.base.free, fun b o e hx => ?_, J.base.tups, J.base.frzs, J.base.tbls⟩, ⟨_, hn', fun j y v' e1 e2 e3 => ?_⟩, fun y c e => ?_, J.free, J.freeC, fun p hp => ?_, fun b o e => ?_, ?_⟩
  · exact (same b (old b o e)).trans (J.base.keep b o e n hb hx)
  · obtain ⟨sl, q⟩ := J.base.slot b o e n hb hx
    exact ⟨sl, (same b (old b o e)).trans q⟩
  · obtain ⟨o', q⟩ := J.base.there b o e hx
    exact ⟨o', (same b (old b o e)).trans q⟩
  · by_cases hj : j = i
    · subst hj
      rw [hi] at e1
      cases e1
      rw [List.getElem?_set_self hiσ] at e2
      cases e2
      exact ⟨u, r, .inl ⟨hx, by simp⟩⟩
    · rw [List.getElem?_set_ne (Ne.symm hj)] at e2
      obtain ⟨w, rw', q⟩ := hl j y v' e1 e2 e3
      refine ⟨w, rw', ?_⟩
      rcases q with ⟨k, e⟩ | ⟨k, c, e, z⟩
      · have ne : y ≠ x := fun z => hj (nodup_ix hN e1 (z ▸ hi))
        exact .inl ⟨k, by simp [ne, e]⟩
      · exact .inr ⟨k, c, e, z.sameBut sb (J.cne y c e)⟩
  · obtain ⟨w, z⟩ := J.cell y c e
    exact ⟨w, z.sameBut sb (J.cne y c e)⟩
  · obtain ⟨e, n, ne, nf, d⟩ := J.pin p hp
    exact ⟨(same p.1 ne).trans e, n, ne, nf, d⟩
  · refine (J.hok b o e).stay (fun c w hc q => (same c ?_).trans q) (fun _ q => q) fun _ _ q => q
    rintro rfl
    rcases hc with rfl | hc
    · rw [hfree] at e; cases e
    · rw [hfree] at hc; cases hc
  · rw [List.length_set]; exact J.len
end
/-! ### names, constants -/
section
variable {X : Cx} {pos : Pos} {a b : Expr} {ta tb : TE}
theorem eg_var (i : Nat) {x : Str} (hN : X.N[i]? = some x := by rfl) (hv : X.env.scope.names.lookup x = some .local := by rfl) (hd : (x == ("__debug__" : Str)) = false := by decide) : EG X (.Name x pos) (tVar i) := by
  refine ⟨fun G pins s σ H Q I ⟨v, e, h⟩ => ?_⟩
  obtain ⟨m, hn, hl⟩ := I.i.loc
  obtain ⟨u, r, l⟩ := hl i x v hN e (.inl hv)
  rcases l with ⟨hk, hm⟩ | ⟨hk, _⟩
  · exact wpAny_Name (wpAny_loadName_local I.i.ok.kind hk hn hm ⟨v, H, I, r, h⟩) hd
  · have hv' : X.env.kindOf x = some .local := hv
    rw [hv'] at hk
    rcases hk with z | z <;> cases z
theorem eg_int {i : Int} {j : Nat} : EG X (.Constant (.int i) j pos) (tC (.int i)) := ⟨fun _ _ _ _ H _ I h => wpAny_Constant_int ⟨.int i, H, I.tok _, ⟨_, rfl⟩, h⟩⟩
theorem eg_bl {k : Bool} {j : Nat} : EG X (.Constant (.bool k) j pos) (tC (.bl k)) := ⟨fun _ _ _ _ H _ I h => Constant_bool ⟨.bl k, H, I, rfl, h⟩⟩
theorem eg_non {j : Nat} : EG X (.Constant .none j pos) (tC .non) := ⟨fun _ _ _ _ H _ I h => Constant_none ⟨.non, H, I, rfl, h⟩⟩
theorem eg_glob {x : Str} {v : V} (hg : Gl X x) (hm : ∃ u, X.mg x = some u ∧ RelV v u) (hd : (x == ("__debug__" : Str)) = false := by decide) : EG X (.Name x pos) (tC v) :=
  let ⟨_, e, r⟩ := hm
  ⟨fun _ _ _ _ H _ I h => ld_glob I.i hg e ⟨v, H, I, r, h⟩ hd⟩
/-! ### operations on two values -/
def OpG (X : Cx) (f : Value → Value → Sem Value) (r : R2) : Prop :=
  ∀ (G : Array GenState) (pins : List (Addr × Obj)) (s : Shared) (σ : L2.St) (H : Hp) (x y : V) (v u : Value) (Q : VK), IG X G pins σ H s → RelV x v → RelV y u → r x y H Q → wpAny (model X.prog X.w) X.A (f v u) (EQ X G pins σ Q) X.xe s
theorem two (ha : EG X a ta) (hb : EG X b tb) {G : Array GenState} {pins : List (Addr × Obj)} {s : Shared} {σ : L2.St} {H : Hp} {R : V → V → Hp → Prop} (I : IG X G pins σ H s) (h : ta σ H fun x H1 => tb σ H1 fun y H2 => R x y H2)
    {Q : Value → Shared → Prop} {f : Value → Value → Sem Value} (hf : ∀ v u s2 x y H2, IG X G pins σ H2 s2 → RelV x v → RelV y u → R x y H2 → wpAny (model X.prog X.w) X.A (f v u) Q X.xe s2) :
    wpAny (model X.prog X.w) X.A (eval a X.env) (fun v s₁ => wpAny (model X.prog X.w) X.A (eval b X.env) (fun u s₂ => wpAny (model X.prog X.w) X.A (f v u) Q X.xe s₂) X.xe s₁) X.xe s :=
  thn (ha.run G pins s σ H _ I h) fun v s1 ⟨x, H1, I1, r1, q1⟩ => thn (hb.run G pins s1 σ H1 _ I1 q1) fun u s2 ⟨y, H2, I2, r2, q2⟩ => hf v u s2 x y H2 I2 r1 r2 q2
theorem eg_op {op : Operator} {r : R2} (ho : OpG X (binaryOp op) r) (ha : EG X a ta) (hb : EG X b tb) : EG X (.BinOp a op b pos) (tOp r ta tb) :=
  ⟨fun G pins s σ H Q I h => wpAny_BinOp (two ha hb I h fun v u s2 x y H2 I2 rx ry q => ho G pins s2 σ H2 x y v u Q I2 rx ry q)⟩
theorem gInts {f : Value → Value → Sem Value} {g : Int → Int → Int}
    (rule : ∀ (i j : Int) (t u : Tok) (s : Shared) (Q : Value → Shared → Prop) (E : Value → Shared → Prop), Q (.int (g i j) s.toks) { s with toks := s.toks + 1 } → wpAny (model X.prog X.w) X.A (f (.int i t) (.int j u)) Q E s) : OpG X f (rI0 fun i j => .int (g i j)) := by
  rintro G pins s σ H x y v u Q I rx ry ⟨i, j, rfl, rfl, q⟩
  obtain ⟨t, rfl⟩ := rx
  obtain ⟨t', rfl⟩ := ry
  exact rule i j t t' s _ _ ⟨.int (g i j), H, I.tok _, ⟨_, rfl⟩, q⟩
theorem gBools {f : Value → Value → Sem Value} {g : Int → Int → Bool}
    (rule : ∀ (i j : Int) (t u : Tok) (s : Shared) (Q : Value → Shared → Prop) (E : Value → Shared → Prop), Q (.bool (g i j)) s → wpAny (model X.prog X.w) X.A (f (.int i t) (.int j u)) Q E s) : OpG X f (rI0 fun i j => .bl (g i j)) := by
  rintro G pins s σ H x y v u Q I rx ry ⟨i, j, rfl, rfl, q⟩
  obtain ⟨t, rfl⟩ := rx
  obtain ⟨t', rfl⟩ := ry
  exact rule i j t t' s _ _ ⟨.bl (g i j), H, I, rfl, q⟩
theorem og_and : OpG X (binaryOp .BitAnd) (rI0 fun i j => .int (Builtin.bitAnd i j)) := gInts fun _ _ _ _ _ _ _ q => and_int q
theorem og_or : OpG X (binaryOp .BitOr) (rI0 fun i j => .int (Builtin.bitOr i j)) := gInts fun _ _ _ _ _ _ _ q => or_int q
theorem og_xor : OpG X (binaryOp .BitXor) (rI0 fun i j => .int (Builtin.bitXor i j)) := gInts fun _ _ _ _ _ _ _ q => xor_int q
theorem og_add : OpG X (binaryOp .Add) (rI0 fun i j => .int (i + j)) := gInts fun _ _ _ _ _ _ _ q => add_int q
theorem og_gt : OpG X (compareOp .Gt) (rI0 fun i j => .bl (decide (j < i))) := gBools fun _ _ _ _ _ _ _ q => gt_int q
theorem og_lt : OpG X (compareOp .Lt) (rI0 fun i j => .bl (decide (i < j))) := gBools fun _ _ _ _ _ _ _ q => lt_int q
/-- gInts, or None and an int -/
theorem og_eq : OpG X (compareOp .Eq) (fun x y H Q => (∃ i j, x = .int i ∧ y = .int j ∧ Q (.bl (decide (i = j))) H) ∨ ∃ j, x = .non ∧ y = .int j ∧ Q (.bl false) H) := by
  rintro G pins s σ H x y v u Q I rx ry (⟨i, j, rfl, rfl, q⟩ | ⟨j, rfl, rfl, q⟩)
  · obtain ⟨t, rfl⟩ := rx
    obtain ⟨t', rfl⟩ := ry
    refine eq_int ⟨.bl (decide (i = j)), H, I, ?_, q⟩
    show Value.bool (i == j) = _
    rw [Bool.beq_eq_decide_eq]
  · cases rx
    obtain ⟨t', rfl⟩ := ry
    exact PySem.EqNone.eq_none_int ⟨.bl false, H, I, rfl, q⟩
theorem og_isN : OpG X (compareOp .Is) (fun x y H Q => y = .non ∧ Q (.bl (decide (x = .non))) H) := by
  rintro G pins s σ H x y v u Q I rx ry ⟨rfl, q⟩
  cases ry
  exact is_none_gen ⟨.bl _, H, I, by rw [rx.none_iff]; rfl, q⟩
theorem og_notN : OpG X (compareOp .IsNot) (fun x y H Q => y = .non ∧ Q (.bl (!decide (x = .non))) H) := by
  rintro G pins s σ H x y v u Q I rx ry ⟨rfl, q⟩
  cases ry
  exact isnot_none_gen ⟨.bl _, H, I, by rw [rx.none_iff]; rfl, q⟩
theorem eg_neg (ha : EG X a ta) : EG X (.UnaryOp .USub a pos) (tUn (rU fun i => .int (-i)) ta) := by
  refine ⟨fun G pins s σ H Q I h => UnaryOp_ (thn (ha.run G pins s σ H _ I h) fun v s1 ⟨x, H1, I1, r1, i, e, q1⟩ => ?_)⟩
  subst e
  obtain ⟨t, rfl⟩ := r1
  exact neg_int ⟨.int (-i), H1, I1.tok _, ⟨_, rfl⟩, q1⟩
theorem eg_cmp {op : CmpOp} {r : R2} (ho : OpG X (compareOp op) r) (ha : EG X a ta) (hb : EG X b tb) (hm : behindInMarks op b = false) : EG X (.Compare a [op] [b] pos) (tOp r ta tb) :=
  ⟨fun G pins s σ H Q I h => wpAny_Compare1 (two ha hb I h fun v u s2 x y H2 I2 rx ry q => ho G pins s2 σ H2 x y v u Q I2 rx ry q) hm⟩
theorem tg_cmp {op : CmpOp} {r : R2} (ho : OpG X (compareOp op) r) (ha : EG X a ta) (hb : EG X b tb) (hm : behindInMarks op b = false) : TGt X (.Compare a [op] [b] pos) (tTest (tOp r ta tb)) := by
  refine ⟨fun G pins s σ H Q I h => wpAny_isTrue_Compare1 (thn (ha.run G pins s σ H _ I h) fun v s1 ⟨x, H1, I1, r1, q1⟩ => thn (hb.run G pins s1 σ H1 _ I1 q1) fun u s2 ⟨y, H2, I2, r2, q2⟩ =>
    thn (ho G pins s2 σ H2 x y v u _ I2 r1 r2 q2) fun c s3 ⟨z, H3, I3, r3, k, e, q3⟩ => ?_) hm⟩
  subst e
  cases r3
  exact wpAny_truthy_bool ⟨H3, I3, q3⟩
/-- a value that is a bool, as a test -/
theorem tg_val (h : EG X a ta) (he : ∀ whole, isTrue a X.env whole = (do let v ← whole; standAt a.pos; holding [v] (truthy v)) := by intro _; rfl) : TGt X a (tTest ta) := by
  refine ⟨fun G pins s σ H Q I hw => isTrue_plain (thn (h.run G pins s σ H _ I hw) fun v s1 ⟨x, H1, I1, r1, k, e, q⟩ => ?_) (he _)⟩
  subst e
  cases r1
  exact wpAny_truthy_bool ⟨H1, I1, q⟩
variable {tA tB' : TT} {rest : List Expr}
theorem wg_and1 (ha : TGt X a tA) : WG X (.BoolOp .And [a] pos) tA := by
  refine ⟨fun wh G pins s σ H Q I h => isTrue_and (thn (ha.run G pins s σ H Q I h) fun c s1 e => ?_)⟩
  cases c
  · exact e
  · exact isTrue_and_nil e
theorem wg_or1 (ha : TGt X a tA) : WG X (.BoolOp .Or [a] pos) tA := by
  refine ⟨fun wh G pins s σ H Q I h => isTrue_or (thn (ha.run G pins s σ H Q I h) fun c s1 e => ?_)⟩
  cases c
  · exact isTrue_or_nil e
  · exact e
theorem wg_and (ha : TGt X a tA) (hb : WG X (.BoolOp .And (b :: rest) pos) tB') : WG X (.BoolOp .And (a :: b :: rest) pos) (tAnd tA tB') := by
  refine ⟨fun wh G pins s σ H Q I h => isTrue_and (thn (ha.run G pins s σ H _ I h) fun c s1 ⟨H1, I1, q1⟩ => ?_)⟩
  cases c
  · exact ⟨H1, I1, q1⟩
  · exact hb.run wh G pins s1 σ H1 Q I1 q1
theorem wg_or (ha : TGt X a tA) (hb : WG X (.BoolOp .Or (b :: rest) pos) tB') : WG X (.BoolOp .Or (a :: b :: rest) pos) (tOr tA tB') := by
  refine ⟨fun wh G pins s σ H Q I h => isTrue_or (thn (ha.run G pins s σ H _ I h) fun c s1 ⟨H1, I1, q1⟩ => ?_)⟩
  cases c
  · exact hb.run wh G pins s1 σ H1 Q I1 q1
  · exact ⟨H1, I1, q1⟩
theorem tg_not (ha : TGt X a tA) : TGt X (.UnaryOp .Not a pos) (tNot tA) :=
  ⟨fun G pins s σ H Q I h => isTrue_not (ha.run G pins s σ H (fun c H1 => Q (!c) H1) I h)⟩
theorem eg_one {op : BoolOp} (h : EG X a ta) : EG X (.BoolOp op [a] pos) ta := ⟨fun G pins s σ H Q I hw => BoolOp_one (h.run G pins s σ H Q I hw)⟩
theorem eg_or (ha : EG X a ta) (hb : EG X (.BoolOp .Or (b :: rest) pos) tb) : EG X (.BoolOp .Or (a :: b :: rest) pos) (tOrV ta tb) := by
  refine ⟨fun G pins s σ H Q I h => BoolOp_or (thn (ha.run G pins s σ H _ I h) fun v s1 ⟨x, H1, I1, r1, c, e, q1⟩ => ?_)⟩
  subst e
  cases r1
  refine wpAny_truthy_bool ?_
  cases c
  · exact hb.run G pins s1 σ H1 Q I1 q1
  · exact ⟨.bl true, H1, I1, rfl, q1⟩
/-! ### attributes -/
theorem eg_fld {f : Str} (he : EG X a ta) (hb : attributeBase a f X.env (eval a X.env) = eval a X.env := by rfl) : EG X (.Attribute a f pos) (tFld X.K ta f) := by
  refine ⟨fun G pins s σ H Q I h => attr_of hb (thn (he.run G pins s σ H _ I h) fun u s1 ⟨x, H1, I1, rx, p, C, dx, fs, v, ex, ea, c, n, l, q⟩ => ?_)⟩
  subst ex
  obtain rfl : u = Value.ref p := rx
  obtain ⟨mA, O, r, _⟩ := ins_get I1.i.hok ea
  obtain ⟨w, hw, rw'⟩ := RelO.some_of (v := v) (o := mA f) (by rw [← l]; exact r f)
  exact get_map I1.i.kIn O (c.get f) c.hd n hw (handed_of rw') ⟨v, H1, I1.tok _, rw', q⟩
end
/-! ### argument lists, displays -/
section
variable {X : Cx} {e : Expr} {es : List Expr} {te : TE} {t : TA} {pos : Pos}
theorem ag_nil : AG X [] tNil := ⟨fun _ _ _ _ _ H Q I h => Calls.spliced_nil ⟨[], H, I, .nil, h⟩⟩
theorem ag_cons (ha : EG X e te) (hr : AG X es t) (hs : starEach (e :: es) X.env = (false, eval e X.env) :: starEach es X.env := by rfl) : AG X (e :: es) (tCons te t) := by
  refine ⟨fun pos G pins s σ H Q I h => ?_⟩
  rw [hs]
  show wpAny _ _ (spliced ((false, eval e X.env) :: backTo pos (starEach es X.env))) _ _ s
  exact Calls.spliced_cons (thn (ha.run G pins s σ H _ I h) fun u s1 ⟨x, H1, I1, r1, q1⟩ => thn (hr.run pos G pins s1 σ H1 _ I1 q1) fun us s2 ⟨xs, H2, I2, r2, q2⟩ => ⟨x :: xs, H2, I2, .cons r1 r2, q2⟩)
theorem eg_tup {k : Nat} (h : AG X es t) : EG X (.Tuple es k pos) (tTup t) := by
  refine ⟨fun G pins s σ H Q I hq => wpAny_Tuple_spliced (thn (h.run pos G pins s σ H _ I hq) fun us s1 ⟨xs, H1, I1, r, z, q⟩ => ⟨by rw [← r.length]; exact z, ?_⟩)⟩
  refine ⟨.ref s1.heap.objs.size, upd H1 s1.heap.objs.size (.tup xs), I1.laid (t' := s1.toks) (fun b u e => Heap.get?_push_of_some _ e) (Nat.le_refl _) ?_, rfl, q _ I1.fresh⟩
  exact ⟨z, us, r, _, Heap.get?_push_size _ rfl, rfl, _, rfl⟩
theorem eg_lst (h : AG X es t) : EG X (.List es pos) (tLst t) := by
  refine ⟨fun G pins s σ H Q I hq => wpAny_List_spliced (thn (h.run pos G pins s σ H _ I hq) fun us s1 ⟨xs, H1, I1, r, z, q⟩ => ⟨by rw [← r.length]; exact z, ?_⟩)⟩
  exact ⟨.ref s1.heap.objs.size, upd H1 s1.heap.objs.size (.lst xs), I1.laid (t' := s1.toks) (fun b u e => Heap.get?_push_of_some _ e) (Nat.le_refl _) ⟨z, us, 0, r, Heap.get?_push_size _ rfl⟩, rfl, q _ I1.fresh⟩
theorem eg_dnewT : EG X (.Dict [] [] pos) tDNewT := ⟨fun G pins s σ H Q I h =>
  wpAny_Dict_empty ⟨.ref s.heap.objs.size, _, I.laid (o := .dT []) (t' := s.toks) (fun _ _ q => Heap.get?_push_of_some _ q) (Nat.le_refl _) (dt_empty s.heap I.i.big), rfl, h _ I.fresh⟩⟩
end
/-! ### calls -/
/-- what a def promises, the old generators kept -/
structure FnG (P : Program) (w : World) (K : PySem.W.Frag) (mg : Str → Option Value) (base : Heap) (k : Nat) (f : Addr) (fd : FuncData) (ps : List Str) (sp : Sp) : Prop where
  len : ∀ vs H Q E, sp vs H Q E → vs.length = ps.length
  run : ∀ (A : Around) (outer : List Env) (s : Shared) (H : Hp) (args : Args) (us : List Value) (vs : List V) (Q : VK), Room k A → Env0 P w K mg base A outer s H → BindsTo s fd args (ps.zip us) → Vals vs us → sp vs H Q E0 →
    codeAny (model P w) A (.call (.ref f) args) (fun r s' => ∃ u, r = .ok (.ret u) ∧ CE outer P w H s Q u s' ∧ Pre s.gens s'.gens) s
theorem FnG.mono {P : Program} {w : World} {K : PySem.W.Frag} {mg : Str → Option Value} {base : Heap} {j k : Nat} {f : Addr} {fd : FuncData} {ps : List Str} {sp : Sp} (F : FnG P w K mg base j f fd ps sp) (h : j ≤ k) : FnG P w K mg base k f fd ps sp :=
  ⟨F.len, fun A outer s H args us vs Q hr => F.run A outer s H args us vs Q (hr.mono h)⟩
/-- .. for the layer that does not look at the generators -/
theorem FnG.ok {P : Program} {w : World} {K : PySem.W.Frag} {mg : Str → Option Value} {base : Heap} {k : Nat} {f : Addr} {fd : FuncData} {ps : List Str} {sp : Sp} (F : FnG P w K mg base k f fd ps sp) (hE : ∀ vs H Q E, sp vs H Q E → sp vs H Q E0) : FnOk P w K mg base CX0 k f fd ps sp :=
  ⟨F.len, fun A outer s H args us vs Q E hr e0 hb r h => codeAny_mono (F.run A outer s H args us vs Q hr e0 hb r (hE _ _ _ _ h)) fun r s' ⟨u, e, c, _⟩ => by subst e; exact c⟩
section
variable {X : Cx} {k : Nat} {f C : Addr} {fd : FuncData} {ps : List Str} {sp : Sp} {x m : Str} {p pos apos : Pos} {e o : Expr} {es : List Expr} {ta : TE} {t : TA}
theorem IG.after {G : Array GenState} {pins : List (Addr × Obj)} {σ : L2.St} {H : Hp} {s s' : Shared} {Q : VK} {u : Value} (I : IG X G pins σ H s) (h : CE X.stack X.prog X.w H s Q u s') (g : Pre s.gens s'.gens) : EQ X G pins σ Q u s' := by
  obtain ⟨v, H', J, r, q⟩ := I.i.after h
  exact ⟨v, H', ⟨J, I.g.trans g⟩, r, q⟩
theorem run_g {G : Array GenState} {pins : List (Addr × Obj)} {σ : L2.St} {H : Hp} {s : Shared} {Q : VK} {us : List Value} {vs : List V} (F : FnG X.prog X.w X.K X.mg X.base k f fd ps sp) (hr : Room k X.A) (hb : Binds X.K fd ps []) (I : IG X G pins σ H s) (r : Vals vs us) (h : sp vs H Q E0) :
    wpAny (model X.prog X.w) X.A (call (.ref f) us) (EQ X G pins σ Q) X.xe s := by
  have hl : (us ++ []).length = ps.length := by rw [List.append_nil, ← r.length]; exact F.len _ _ _ _ h
  have hb' := hb s us I.i.kIn hl
  rw [List.append_nil] at hb'
  refine wpAny_call (codeAny_mono (F.run X.A X.stack s H ⟨us, []⟩ us vs Q hr I.i.env0 hb' r h) fun r s' ⟨u, e, c, g⟩ => ?_)
  subst e
  exact I.after c g
theorem eg_call (F : FnG X.prog X.w X.K X.mg X.base k f fd ps sp) (hr : Room k X.A) (hg : Gl X x) (hm : X.mg x = some (.ref f)) (hk : PySem.W.keepIn X.K (.ref f) = true) (hb : Binds X.K fd ps []) (ha : AG X (e :: es) t)
    (hdb : (x == ("__debug__" : Str)) = false := by decide) (he : starEach (e :: es) X.env = (false, eval e X.env) :: starEach es X.env := by rfl) (hpl : (backTo pos (starEach es X.env)).any (·.1) = false := by rfl) :
    EG X (.Call (.Name x p) (e :: es) [] pos) (fun σ H Q => t σ H fun vs H1 => sp vs H1 Q E0) :=
  ⟨fun G pins s σ H Q I h => wpAny_Call_Name_kw (ld_glob I.i hg hm (PySem.W.callWith_K (h₀ := X.base) I.i.ok.mod.kin hk (thn (ha.run pos G pins s σ H _ I h) fun us s1 ⟨vs, H1, I1, r, q⟩ => ⟨I1.i.kIn, run_g F hr hb I1 r q⟩) he hpl) hdb)⟩
theorem eg_meth {pl : Sem Bool} (he : EG X o ta) (c : Cls X.K C) (hm : Meth X.K C m f) (F : FnG X.prog X.w X.K X.mg X.base k f fd ps sp) (hr : Room k X.A) (hb : Binds X.K fd ps []) (ha : AG X (e :: es) t)
    (hst : starEach (e :: es) X.env = (false, eval e X.env) :: starEach es X.env := by rfl) (hpl : (backTo pos (starEach es X.env)).any (·.1) = false := by rfl)
    (ht : eval (.Call (.Attribute o m apos) (e :: es) [] pos) X.env = (do
      let ov ← eval o X.env
      standAt apos.atName
      let (f, first) ← holding [ov] (getMethod ov m pl)
      callWith pos f first (backTo pos (starEach (e :: es) X.env)) (backToKw pos (keywordEach [] X.env))) := by rfl) :
    EG X (.Call (.Attribute o m apos) (e :: es) [] pos) (fun σ H Q => ta σ H fun x H1 => ∃ a dx fs, x = .ref a ∧ H1 a = some (.ins C dx fs) ∧ fs.lookup m = none ∧ t σ H1 fun vs H2 => sp (x :: vs) H2 Q E0) := by
  refine ⟨fun G pins s σ H Q I h => PySem.W.methodCall_KW (pl := pl) (thn (he.run G pins s σ H _ I h) fun u s1 ⟨x, H1, I1, rx, a, dx, fs, ex, ea, l, q⟩ => ?_) ht⟩
  subst ex
  obtain rfl : u = Value.ref a := rx
  exact getmeth_ok I1.i ea c hm l (PySem.W.callWith_K (first := [.ref a]) (h₀ := X.base) I.i.ok.mod.kin hm.kp (thn (ha.run pos G pins s1 σ H1 _ I1 q) fun us s2 ⟨vs, H2, I2, r, q2⟩ => ⟨I2.i.kIn, run_g (us := .ref a :: us) (vs := .ref a :: vs) F hr hb I2 (.cons rfl r) q2⟩) hst hpl)
/-- max(a, b) of two gInts -/
theorem eg_max (hc : X.calm = true) (hg : Gl X "max") (hm : X.mg "max" = none) (ha : AG X (e :: es) t) (he : starEach (e :: es) X.env = (false, eval e X.env) :: starEach es X.env := by rfl) (hpl : (backTo pos (starEach es X.env)).any (·.1) = false := by rfl) :
    EG X (.Call (.Name "max" p) (e :: es) [] pos) (fun σ H Q => t σ H fun vs H1 => ∃ i j, vs = [.int i, .int j] ∧ Q (.int (if j > i then j else i)) H1) := by
  refine ⟨fun G pins s σ H Q I h => wpAny_Call_Name_kw (ld_blt I.i hg hm boot_max (PyProof.Rows.callWith_builtin1 (thn (ha.run pos G pins s σ H _ I h) fun us s1 ⟨vs, H1, I1, r1, i, j, ev, q1⟩ => ?_) he hpl))⟩
  subst ev
  obtain ⟨u, w, rfl, ⟨t, rfl⟩, t', rfl⟩ := vals2 r1
  refine max_two_ints (I1.i.ok.hd hc) fun h' tk kk => ⟨_, H1, I1.kept kk, ?_, q1⟩
  by_cases hj : j > i
  · rw [if_pos hj, if_pos hj]; exact ⟨_, rfl⟩
  · rw [if_neg hj, if_neg hj]; exact ⟨_, rfl⟩
end
end GL
end
section
set_option Elab.async false
set_option linter.all false
set_option maxRecDepth 100000
/-! The layer with generators: dicts, items, methods of lists, statements, loops, a def by its body. -/
namespace GL
open PySem PySem.Spec PyProof.Rows L2
section
variable {X : Cx} {G : Array GenState} {pins : List (Addr × Obj)} {σ : L2.St} {H : Hp} {s : Shared} {a : Addr} {y v : V} {u r : Value} {o : Option V} {A : Around} {E : Value → Shared → Prop}
/-! ### dicts -/
theorem IG.getD {Q : Value → Shared → Prop} (hu : A.units + 1 < cLine) (I : IG X G pins σ H s) (g : DGet H a y (some v)) (ry : RelV y u) (h : ∀ w' s', IG X G pins σ H s' → RelV v w' → Q w' s') :
    wpAny (model X.prog X.w) A (getItem (.ref a) u) Q E s := by
  rcases g with ⟨kvs, k, e, rfl, l⟩ | ⟨kvs, k, b, e, rfl, eb, l⟩
  · obtain ⟨z, hd, vs, rel, dd⟩ := dk_rd I.i.hok e
    obtain ⟨w', hw, rw'⟩ := RelO.some_of (v := v) (o := valueAt vs k) (l ▸ rel.val k)
    exact wpAny_getItem_of (kV_is ry) dd.mapOf hw (h w' _ (I.tok _) rw')
  · cases (show u = Value.ref b from ry)
    obtain ⟨z, hd, xs, rel, dd⟩ := dt_rd I.i.hok e
    obtain ⟨w', hw, rw'⟩ := RelO.some_of (v := v) (o := (atKey xs k).map (·.2)) (l ▸ rel.val k)
    obtain ⟨p, hp, rfl⟩ := Option.map_eq_some_iff.mp hw
    exact wpAny_getItem_heap (tupleKind_room_in1 hu) (key_of I.i.hok eb) dd hp (h p.2 _ (I.tok _) rw')
theorem IG.notInD {Q : Value → Shared → Prop} (hu : A.units + 1 < cLine) (I : IG X G pins σ H s) (g : DGet H a y o) (ry : RelV y u) (h : ∀ s', IG X G pins σ H s' → Q (.bool (!o.isSome)) s') :
    wpAny (model X.prog X.w) A (compareOp .NotIn u (.ref a)) Q E s := by
  rcases g with ⟨kvs, k, e, rfl, rfl⟩ | ⟨kvs, k, b, e, rfl, eb, rfl⟩
  · obtain ⟨z, hd, vs, rel, dd⟩ := dk_rd I.i.hok e
    have q := h _ (I.tok (s.toks + 1))
    rw [(rel.val k).isSome_eq] at q
    exact wpAny_notIn_of (kV_is ry) hd dd.mapOf q
  · cases (show u = Value.ref b from ry)
    obtain ⟨z, hd, xs, rel, dd⟩ := dt_rd I.i.hok e
    have q := h _ (I.tok (s.toks + (tupleKind (mixKind X.prog X.w)).draws k))
    rw [(rel.val k).isSome_eq, Option.isSome_map] at q
    exact wpAny_notIn_heap (tupleKind_room_in1 hu) (key_of I.i.hok eb) hd dd q
theorem IG.setD {H' : Hp} {Q : Unit → Shared → Prop} (hu : A.units + 1 < cLine) (I : IG X G pins σ H s) (g : DPut H a y v H') (ry : RelV y u) (rv : RelV v r) (h : ∀ s', IG X G pins σ H' s' → Q () s') :
    wpAny (model X.prog X.w) A (setItem (.ref a) u r) Q E s := by
  rcases g with ⟨kvs, k, e, rfl, l, rfl⟩ | ⟨kvs, k, b, e, rfl, eb, l, rfl⟩
  · obtain ⟨z, hd, vs, rel, dd⟩ := dk_of I.i.hok e
    have hl : (putK kvs k v).length ≤ sizeLine := Nat.le_trans (length_putK kvs k v) l
    refine wpAny_setItem_pairs (hsz := by rw [← rel.length]; exact z) (kV_is ry) dd fun h' dd' hs => h _ ⟨?_, I.g⟩
    exact d_write I.i (by rw [e]; exact True.intro) hs (let ⟨q, _, _, hq, _⟩ := dd'; ⟨q, hq⟩) (dk_new hl hd (rel.put k rv) dd')
  · cases (show u = Value.ref b from ry)
    obtain ⟨z, hd, xs, rel, dd⟩ := dt_of I.i.hok e
    have hl : (putK kvs k v).length ≤ sizeLine := Nat.le_trans (length_putK kvs k v) l
    refine wpAny_setItem_heap (hsz := by rw [← Paired.length rel]; exact z) (tupleKind_room_in1 hu) (key_of I.i.hok eb) dd fun h' dd' hs => h _ ⟨?_, I.g⟩
    obtain ⟨q, es, ep, hq, h2, h3, h4, _, h5⟩ := dd'
    refine d_write I.i (by rw [e]; exact True.intro) hs ⟨q, hq⟩ ⟨hl, hd, _, (rel.put k eb rv).keeps fun c ys ec => ?_, q, es, ep, hq, h2, h3, h4, h5⟩
    have ne : c ≠ a := ne_of ec e fun z => nomatch z
    exact (upd_ne ne).trans ec
end
section
variable {X : Cx} {a b : Expr} {ta tb : TE} {pos : Pos} {i : Expr} {td ty : TE}
/-- d[k] -/
theorem eg_dget (hu : X.A.units + 1 < cLine) (ho : EG X a td) (hi : EG X i ty) (hs : NoSl i) : EG X (.Subscript a i pos) (tDGet td ty) := by
  refine ⟨fun G pins s σ H Q I h => subD_of PySem.F.slot_dict_getitem.lookup hs (thn (ho.run G pins s σ H _ I h) fun u s1 ⟨x, H1, I1, rx, q1⟩ => thn (hi.run G pins s1 σ H1 _ I1 q1) fun iv s2 ⟨y, H2, I2, ry, p, v, ex, g, q2⟩ => ?_)⟩
  subst ex
  obtain rfl : u = Value.ref p := rx
  exact ⟨dict_typeIs I2.i g, I2.getD hu g ry fun w' s3 I3 rw' => ⟨v, H2, I3, rw', q2⟩⟩
theorem og_notInD (hu : X.A.units + 1 < cLine) : OpG X (compareOp .NotIn) (fun y x H Q => ∃ p o, x = .ref p ∧ DGet H p y o ∧ Q (.bl (!o.isSome)) H) := by
  rintro G pins s σ H x y v u Q I rx ry ⟨p, o, rfl, g, q⟩
  cases ry
  exact I.notInD hu g rx fun s' I' => ⟨.bl _, H, I', rfl, q⟩
/-- a list against an empty list -/
theorem og_neNil (hu : X.A.units < cLine) : OpG X (compareOp .NotEq) (fun x y H Q => ∃ p q xs, x = .ref p ∧ y = .ref q ∧ SqL X.K H p xs ∧ SqL X.K H q [] ∧ Q (.bl (!xs.isEmpty)) H) := by
  rintro G pins s σ H x y v u Q I rx ry ⟨p, q, xs, rfl, rfl, hp, hq, k⟩
  cases rx
  cases ry
  obtain ⟨its, r, pl, hz⟩ := I.i.list hp
  obtain ⟨its2, r2, pl2, hz2⟩ := I.i.list hq
  cases r2
  cases r with
  | nil =>
    have z := SeqAt.RcNeAt.lists (A := X.A) (e := fun _ => true) pl.isList pl2.isList rfl hu fun j h1 h2 => absurd h1 (Nat.not_lt_zero j)
    exact z _ _ _ _ ⟨.bl false, H, I, rfl, k⟩
  | cons c t =>
    have z := SeqAt.RcNeAt.lists_lengths (A := X.A) pl.isList pl2.isList (by simp) hu
    exact z _ _ _ _ ⟨.bl true, H, I, rfl, k⟩
/-! ### items -/
def IxG (X : Cx) (r : R2) : Prop :=
  ∀ (value slice : Expr) (G : Array GenState) (pins : List (Addr × Obj)) (s : Shared) (σ : L2.St) (H : Hp) (x y : V) (v u : Value) (Q : VK), IG X G pins σ H s → RelV x v → RelV y u → r x y H Q →
    subscripted slice false v u = operate [v, u] (getItem v u) → wpAny (model X.prog X.w) X.A (subscriptTail value slice v u) (EQ X G pins σ Q) X.xe s
theorem eg_ix {r : R2} (hr : IxG X r) (ha : EG X a ta) (hb : EG X b tb) (hs : PlainIx b) : EG X (.Subscript a b pos) (tOp r ta tb) :=
  ⟨fun G pins s σ H Q I h => Subscript_ (two ha hb I h fun v u s2 x y H2 I2 rx ry q => hr a b G pins s2 σ H2 x y v u Q I2 rx ry q (hs _ _))⟩
/-- xs[0] of a list, of a tuple; xs[-1] -/
theorem xg_list : IxG X (rIxL X.K) := by
  rintro value slice G pins s σ H x y v u Q I rx ry ⟨p, xs, i, z, rfl, rfl, hq, he, q⟩ hs
  cases rx
  obtain ⟨t, rfl⟩ := ry
  obtain ⟨its, r, pl, hz⟩ := I.i.list hq
  obtain ⟨j, h1, h2, h3, h4, h5⟩ := atI_get he
  obtain ⟨w, ew, rw'⟩ := r.get h2
  have hl := r.length
  have hn := line63
  have fin : ∀ t', EQ X G pins σ Q w { s with toks := t' } := fun t' => ⟨z, H, I.tok t', rw', q⟩
  by_cases h0 : 0 ≤ i
  · have hj : i.toNat = j := by rw [seqIndex_of h0 h5] at h1; exact Option.some.inj h1
    exact item_listR pl.isList h0 (by omega) (by rw [hj]; simpa using ew) (fin s.toks) hs
  · have hi : i < 0 := by omega
    rw [seqIndex_neg hi h4] at h1
    have hj : (i + (its.toArray.size : Int)).toNat = j := by
      rw [List.size_toArray, ← hl]; exact Option.some.inj h1
    exact subscriptTail_builtinR (x := w) pl.isList.typeIs slot_list_getitem.lookup (wpAny_getItem_list_neg (Q := fun r s' => r = w ∧ EQ X G pins σ Q r s') pl.isList hi (by rw [List.size_toArray]; omega) (by omega) (by rw [hj]; simpa using ew) ⟨rfl, fin _⟩) hs
theorem xg_tup : IxG X (rIxT X.K) := by
  rintro value slice G pins s σ H x y v u Q I rx ry ⟨p, xs, i, z, rfl, rfl, hq, he, q⟩ hs
  cases rx
  obtain ⟨t, rfl⟩ := ry
  obtain ⟨its, r, pl, hz⟩ := I.i.tuple hq
  obtain ⟨j, h1, h2, h3, h4, h5⟩ := atI_get he
  obtain ⟨w, ew, rw'⟩ := r.get h2
  have hl := r.length
  have hn := line63
  exact subscriptTail_builtinR (x := w) pl.typeIs slot_tuple_getitem.lookup
    (getItem_tuple (j := j) (Q := fun r s' => r = w ∧ EQ X G pins σ Q r s') pl (by omega) (by omega) (by rw [List.size_toArray, ← hl]; exact h1) (by simpa using ew) ⟨rfl, z, H, I, rw', q⟩) hs
/-- xs[::-1] -/
theorem eg_rev {k : Nat} {p1 p2 p3 : Pos} (he : EG X a ta) : EG X (.Subscript a (.Slice none none (some (.UnaryOp .USub (.Constant (.int 1) k p1) p2)) p3) pos) (tRevL X.K ta) := by
  refine ⟨fun G pins s σ H Q I h => Subscript_ (thn (he.run G pins s σ H _ I h) fun v s1 ⟨x, H1, I1, r1, l, xs, ex, hx, q⟩ => ?_)⟩
  subst ex
  cases r1
  have step : EG X (.UnaryOp .USub (.Constant (.int 1) k p1) p2) (tUn (rU fun i => .int (-i)) (tC (.int 1))) := eg_neg eg_int
  have no : ∀ (s : Shared) (Q : Value → Shared → Prop), Q .none s → wpAny (model X.prog X.w) X.A (evalPart none X.env) Q X.xe s := fun s Q h => by rw [evalPart_none]; exact wpAny_pure h
  refine wpAny_Slice (no _ _ (no _ _ ?_))
  rw [evalPart_some]
  refine thn (step.run G pins s1 σ H1 (fun o H4 => o = .int (-1) ∧ H4 = H1) I1 ⟨1, rfl, rfl, rfl⟩) fun vs s4 ⟨o, H4, I4, ps, eo, e4⟩ => ?_
  subst eo e4
  obtain ⟨t, rfl⟩ := ps
  have I5 : IG X G pins σ H4 { s4 with heap := s4.heap.push { cls := .type "slice", data := .fields #[.none, .none, .int (-1) t] } } := I4.kept (t' := s4.toks) fun b ob q => Heap.get?_push_of_some _ q
  obtain ⟨its, r, ht, hz⟩ := I5.i.list hx
  have hlen := r.length
  refine tail_any (ops := [.ref l, .ref s4.heap.objs.size]) ht.isList.typeIs slot_list_getitem.lookup ?_ (by with_unfolding_all rfl)
  refine wpAny_getItem_list_slice (lo := none) (hi := none) (st := some (-1)) ht.isList (Heap.IsSliceOf.new _ .none .none (.int (-1) t)) .none .none (.int _ _) (by decide) ?_ (by rw [List.size_toArray]; omega)
  rw [PySem.W.krv_pick]
  refine ⟨.ref _, _, I5.laid (t' := s4.toks) (o := .lst xs.reverse) (fun b ob q => Heap.get?_push_of_some _ q) (Nat.le_refl _) ⟨by rw [List.length_reverse]; exact hz, _, 0, r.reverse, Heap.get?_push_size _ rfl⟩, rfl, q _ I5.fresh⟩
/-! ### methods of lists -/
def MG (X : Cx) (id : String) (r : V → List V → Hp → VK → Prop) : Prop :=
  ∀ (G : Array GenState) (pins : List (Addr × Obj)) (s : Shared) (σ : L2.St) (H : Hp) (x : V) (xs : List V) (v : Value) (us : List Value) (Q : VK), IG X G pins σ H s → RelV x v → Vals xs us → r x xs H Q →
    wpAny (model X.prog X.w) X.A (call (.builtin id) (v :: us)) (EQ X G pins σ Q) X.xe s
theorem mg_append : MG X "list.append" rAppend := by
  rintro G pins s σ H x vs v us Q I rx rv ⟨l, xs, y, rfl, rfl, hH, hz, q⟩
  cases rx
  obtain ⟨u, rfl, ru⟩ := rv.one
  obtain ⟨z, its, n, r, hl, e⟩ := I.i.lstM hH
  refine call_meets F.slot_list_append ⟨_, e, rfl⟩ F.entry_list_append (F.args_list_append_2 _ _) (PySem.list_append l its.toArray n u (by rw [List.size_toArray]; omega)) ⟨e, ?_⟩
  exact ⟨.non, _, ⟨I.i.lset (its' := its ++ [u]) hH e (by simp) (r.append (.cons ru .nil)) (by rw [List.length_append]; exact hz), I.g⟩, rfl, q⟩
theorem mg_extend : MG X "list.extend" rExtend := by
  rintro G pins s σ H x vs v us Q I rx rv ⟨l, b, xs, zs, rfl, rfl, hH, hB, hz, q⟩
  cases rx
  obtain ⟨u, rfl, ru⟩ := rv.one
  cases ru
  obtain ⟨z, its, n, r, hl, e⟩ := I.i.lstM hH
  obtain ⟨z2, its2, n2, r2, hl2, e2⟩ := I.i.lstM hB
  have hsz : its.toArray.size + its2.toArray.size ≤ sizeLine := by rw [List.size_toArray, List.size_toArray]; omega
  have hlong : ¬ (!its.toArray.isEmpty && Builtin.List.listTooLong (its.toArray.size + its2.toArray.size)) = true := by rw [notLongL hsz]; simp
  refine call_meets F.slot_list_extend ⟨_, e, rfl⟩ F.entry_list_extend (F.args_list_extend_2 _ _) (AutoSeq1.list_extend_list_list_0 l its.toArray n b its2.toArray n2 hlong (by rw [List.size_toArray]; omega) (by omega)) ⟨e, e2, ?_⟩
  exact ⟨.non, _, ⟨I.i.lset (its' := its ++ its2) hH e (by simp) (r.append r2) (by rw [List.length_append]; exact hz), I.g⟩, rfl, q⟩
theorem mg_pop : MG X "list.pop" rPop := by
  rintro G pins s σ H x vs v us Q I rx rv ⟨l, xs, y, rfl, rfl, hH, hy, q⟩
  cases rx
  obtain rfl := rv.zero
  obtain ⟨z, its, n, r, hl, e⟩ := I.i.lstM hH
  obtain ⟨u, hu, ru⟩ := r.get hy
  have hy' : its.toArray[its.toArray.size - 1]? = some u := by
    rw [hl] at hu
    simpa using hu
  refine call_meets F.slot_list_pop ⟨_, e, rfl⟩ F.entry_list_pop (F.args_list_pop_1 _) (MeetsSeq.list_pop_last l its.toArray n u hy' (by rw [List.size_toArray]; omega)) ⟨e, ?_⟩
  refine ⟨y, _, ⟨I.i.lset (its' := its.dropLast) hH e ?_ r.dropLast (by rw [List.length_dropLast]; omega), I.g⟩, ru, q⟩
  show its.toArray.eraseIdxIfInBounds (its.toArray.size - 1) = its.dropLast.toArray
  apply Array.toList_inj.mp
  rw [Array.toList_eraseIdxIfInBounds, List.size_toArray, List.toList_toArray, List.toList_toArray, List.eraseIdx_length_sub_one]
/-- o.m(..), o.m() of a list -/
def tBL (K : PySem.W.Frag) (r : V → List V → Hp → VK → Prop) (to : TE) (t : TA) : TE := fun σ H Q => to σ H fun x H1 => (∃ l xs, x = .ref l ∧ SqL K H1 l xs) ∧ t σ H1 fun xs H2 => r x xs H2 Q
variable {name : Str} {id : String} {r : V → List V → Hp → VK → Prop} {e : Expr} {es : List Expr} {t : TA} {apos cpos : Pos}
theorem list_is {G : Array GenState} {pins : List (Addr × Obj)} {σ : L2.St} {H : Hp} {s : Shared} {x : V} {v : Value} (I : IG X G pins σ H s) (rx : RelV x v) (h : ∃ l xs, x = .ref l ∧ SqL X.K H l xs) : s.TypeIs v "list" ∧ ∀ p, v = .ref p → ∃ ob, s.heap.get? p = some ob ∧ ob.dict = none := by
  obtain ⟨l, xs, rfl, hl⟩ := h
  obtain ⟨its, r, pl, hz⟩ := I.i.list hl
  cases rx
  refine ⟨pl.isList.typeIs, fun p e => ?_⟩
  cases e
  obtain ⟨o, n, e1, _, e2, _⟩ := pl
  exact ⟨o, e1, e2⟩
theorem eg_bm0 (slot : Slot "list" name id) (hty : typeOf (.builtin id) = pure (.type "method_descriptor")) (hm : MG X id r) (ho : EG X a ta)
    (hbase : attributeBase a name X.env (eval a X.env) = eval a X.env := by rfl) (hline : (apos.endLine == cpos.line) = true := by rfl) : EG X (.Call (.Attribute a name apos) [] [] cpos) (tBL X.K r ta tNil) := by
  refine ⟨fun G pins s σ H Q I h => wpAny_Call_method0_late hbase hline (thn (ho.run G pins s σ H _ I h) fun v s1 ⟨x, H1, I1, r1, hl, q1⟩ => ?_)⟩
  obtain ⟨h1, h2⟩ := list_is I1 r1 hl
  exact ⟨"list", id, PySem.F.plainAttrs_list, slot, hty, h1, h2, Calls.callWith_builtin rfl (PySem.evalArgs_none (hm G pins s1 σ H1 x [] v [] Q I1 r1 .nil q1))⟩
theorem eg_bm (slot : Slot "list" name id) (hty : typeOf (.builtin id) = pure (.type "method_descriptor")) (hm : MG X id r) (ho : EG X a ta) (ha : AG X (e :: es) t)
    (hbase : attributeBase a name X.env (eval a X.env) = eval a X.env := by rfl)
    (hfew : ((backTo cpos (starEach (e :: es) X.env)).all (fun x => !x.1) && (backToKw cpos (keywordEach [] X.env)).all (fun x => x.1.isSome) && decide ((e :: es).length + ([] : List Keyword).length + (if ([] : List Keyword).isEmpty then 0 else 1) < 30)) = true := by rfl)
    (hline : (apos.endLine == cpos.line) = true := by rfl) (hs : starEach (e :: es) X.env = (false, eval e X.env) :: starEach es X.env := by rfl) (hplain : (backTo cpos (starEach es X.env)).any (·.1) = false := by rfl) :
    EG X (.Call (.Attribute a name apos) (e :: es) [] cpos) (tBL X.K r ta t) := by
  refine ⟨fun G pins s σ H Q I h => wpAny_Call_method_late hbase hfew hline rfl (thn (ho.run G pins s σ H _ I h) fun v s1 ⟨x, H1, I1, r1, hl, q1⟩ => ?_)⟩
  obtain ⟨h1, h2⟩ := list_is I1 r1 hl
  refine ⟨"list", id, PySem.F.plainAttrs_list, slot, hty, h1, h2, ?_⟩
  have hA := ha.run cpos G pins s1 σ H1 _ I1 q1
  rw [hs] at hA ⊢
  exact Calls.callWith_builtin (by show (false || (backTo cpos (starEach es X.env)).any (·.1)) = false; rw [hplain] <;> rfl) (Calls.evalArgs_plain (thn hA fun us s2 ⟨vs, H2, I2, r2, q2⟩ => hm G pins s2 σ H2 x vs v us Q I2 r1 r2 q2))
end
/-! ### statements -/
section
variable {X : Cx} {st : Stmt} {rest : List Stmt} {t u : TS} {e : Expr} {te : TE} {pos : Pos}
theorem sgs_nil : SGs X [] tNext := ⟨fun _ _ _ σ H _ I h => wpAny_execs_nil ⟨σ, H, I, h⟩⟩
theorem sgs_cons (h1 : SG X st t) (h2 : SGs X rest u) : SGs X (st :: rest) (tSeq t u) := by
  refine ⟨fun G pins s σ H D I h => wpAny_execs_cons (thn (h1.run G pins s σ H { D with nx := u D } I h) fun f s1 q => ?_)⟩
  cases f
  case next => obtain ⟨σ', H', I', q⟩ := q; exact h2.run G pins s1 σ' H' D I' q
  all_goals exact q
theorem sgs_one (h1 : SG X st t) : SGs X [st] t := by
  refine ⟨fun G pins s σ H D I h => wpAny_execs_cons (thn (h1.run G pins s σ H D I h) fun f s1 q => ?_)⟩
  cases f
  case next => exact wpAny_execs_nil q
  all_goals exact q
theorem sg_break : SG X (.Break pos) tBreak := ⟨fun _ _ _ σ H _ I h => wpAny_Break ⟨σ, H, I, h⟩⟩
theorem sg_expr (he : EG X e te) (hi : interactive X.env = false := by rfl) (hs : swapsWith e none pos.line X.env = pure false := by rfl) : SG X (.Expr e pos) (tDrop te) :=
  ⟨fun G pins s σ H D I h => wpAny_Expr_any (thn (he.run G pins s σ H _ I h) fun v s1 ⟨x, H1, I1, r1, q1⟩ => ⟨σ, H1, I1, q1⟩) hi hs⟩
theorem sg_ret (he : EG X e te) : SG X (.Return (some e) pos) (tRet te) :=
  ⟨fun G pins s σ H D I h => wpAny_Return_some (thn (he.run G pins s σ H _ I h) fun v s1 ⟨x, H1, I1, r1, q1⟩ => ⟨x, σ, H1, I1, r1, q1⟩)⟩
theorem sg_if {c : Expr} {a b : List Stmt} {tc : TT} (hc : TGt X c tc) (ha : SGs X a t) (hb : SGs X b u) : SG X (.If c a b pos) (tIfS tc t u) := by
  refine ⟨fun G pins s σ H D I h => wpAny_If (thn (hc.run G pins s σ H _ I h) fun d s1 ⟨H1, I1, q1⟩ => ?_)⟩
  cases d
  · exact hb.run G pins s1 σ H1 D I1 q1
  · exact ha.run G pins s1 σ H1 D I1 q1
theorem sg_set {i : Nat} {x : Str} {pos' : Pos} (he : EG X e te) (hN : X.N.Nodup) (hi : X.N[i]? = some x) (hx : X.env.scope.names.lookup x = some .local) (hs : swapsWith e (some (.Name x pos')) pos.line X.env = pure false := by rfl) : SG X (.Assign [.Name x pos'] e pos) (tAsg te (gName i)) :=
  ⟨fun G pins s σ H D I h => wpAny_Assign_Name (thn (he.run G pins s σ H _ I h) fun v s1 ⟨y, H1, I1, r1, q1⟩ => I1.store hN hi hx r1 fun s2 I2 => ⟨_, H1, I2, q1⟩) hs⟩
/-- a, b = e (a tuple or a list of two), both plain locals -/
def gTwo (K : PySem.W.Frag) (i j : Nat) : TG := fun v σ H Q => ∃ p x y, v = .ref p ∧ (SqT K H p [x, y] ∨ SqL K H p [x, y]) ∧ Q ((σ.set i (some x)).set j (some y)) H
theorem sg_two {i j : Nat} {x y : Str} {px py pt : Pos} {kt : Nat} (hc : X.calm = true) (he : EG X e te) (hN : X.N.Nodup) (hi : X.N[i]? = some x) (hj : X.N[j]? = some y) (hx : X.env.scope.names.lookup x = some .local) (hy : X.env.scope.names.lookup y = some .local)
    (hs : swapsWithSole [.Tuple [.Name x px, .Name y py] kt pt] e pos.line X.env = pure false := by rfl) (hw : swappedStores [.Tuple [.Name x px, .Name y py] kt pt] e X.env = pure none := by rfl)
    (h1 : (assignEach [.Tuple [.Name x px, .Name y py] kt pt] X.env).map (·.2) = [assign (.Tuple [.Name x px, .Name y py] kt pt) X.env] := by rfl)
    (hn : (assignEach [.Name x px, .Name y py] X.env).length = 2 := by rfl) (hst : (assignEach [.Name x px, .Name y py] X.env).findIdx? (·.1) = none := by rfl)
    (h2 : (assignEach [.Name x px, .Name y py] X.env).map (·.2) = [assign (.Name x px) X.env, assign (.Name y py) X.env] := by rfl) :
    SG X (.Assign [.Tuple [.Name x px, .Name y py] kt pt] e pos) (tAsg te (gTwo X.K i j)) := by
  refine ⟨fun G pins s σ H D I h => wpAny_Assign_stores (thn (he.run G pins s σ H _ I h) fun v s1 ⟨w, H1, I1, r1, p, x1, y1, ew, hq, q1⟩ => ?_) hs hw⟩
  subst ew
  cases r1
  rw [h1]
  have fin : ∀ (its : List Value) (h' : Heap), Vals [x1, y1] its → (∀ b o, s1.heap.get? b = some o → h'.get? b = some o) → wpAny (model X.prog X.w) X.A (assignInOrder ((assignEach [.Name x px, .Name y py] X.env).map (·.2)) its) (fun _ => SQ X G pins D .next) X.xe { s1 with heap := h' } := by
    intro its h' rv hk
    rw [h2]
    obtain ⟨u1, u2, rfl, ra, rb⟩ := rv.two
    have J : IG X G pins σ H1 { s1 with heap := h' } := I1.kept (t' := s1.toks) hk
    exact assignInOrder_cons (wpAny_assign_Name (J.store hN hi hx ra fun s2 J2 => assignInOrder_cons (wpAny_assign_Name (J2.store hN hj hy rb fun s3 J3 => assignInOrder_nil ⟨_, H1, J3, q1⟩))))
  show wpAny (model X.prog X.w) X.A (assign (.Tuple [.Name x px, .Name y py] kt pt) X.env (.ref p)) _ _ s1
  rcases hq with hq | hq
  · obtain ⟨its, rv, ht, hz⟩ := I1.i.tuple hq
    refine assign_Tuple_tuple (I1.i.ok.hd hc) ht (by rw [hn, List.size_toArray, ← rv.length]; rfl) hst fun h' hx => ?_
    have q := fin its h' rv fun b o e => hx b o (Nat.ne_of_lt (Heap.lt_size e)) e
    simpa using q
  · obtain ⟨its, rv, pl, hz⟩ := I1.i.list hq
    have hn' : (assignEach [.Name x px, .Name y py] X.env).length = its.toArray.size := by rw [hn, List.size_toArray, ← rv.length]; rfl
    rw [PyProof.Rows.assign_Tuple]
    refine wpAny_bind (wpAny_standAt ?_)
    unfold unpack
    rw [hn', hst]
    refine wpAny_bind (wpAny_holding (PySem.W.kun_itemsOf (I1.i.ok.hd hc) pl.isList fun h' hx => ?_))
    have q := fin its h' rv fun b o e => hx b o (Nat.ne_of_lt (Heap.lt_size e)) e
    simpa using q
/-- d[k] = v -/
theorem sg_dput {o i value : Expr} {td ty tv : TE} {pos' : Pos} (hu : X.A.units + 1 < cLine) (ho : EG X o td) (hi : EG X i ty) (hv : EG X value tv) (hs : swapsWith value (some (.Subscript o i pos')) pos.line X.env = pure false := by rfl) :
    SG X (.Assign [.Subscript o i pos'] value pos) (sDPut td ty tv) := by
  refine ⟨fun G pins s σ H D I h => wpAny_Assign_Subscript (thn (hv.run G pins s σ H _ I h) fun r s1 ⟨v, H1, I1, rv, q1⟩ => thn (ho.run G pins s1 σ H1 _ I1 q1) fun u s2 ⟨x, H2, I2, rx, q2⟩ => thn (hi.run G pins s2 σ H2 _ I2 q2) fun iv s3 ⟨y, H3, I3, ry, p, H4, ex, g, q3⟩ => ?_) hs⟩
  subst ex
  obtain rfl : u = Value.ref p := rx
  exact I3.setD hu g ry rv fun s4 I4 => ⟨σ, H4, I4, q3⟩
/-- a, b = x, y with plain local names -/
theorem sg_par {i j : Nat} {x y : Str} {a b : Expr} {ta : TA} {px py pt pt2 : Pos} {kt k2 : Nat} (hc : X.calm = true) (hN : X.N.Nodup) (hi : X.N[i]? = some x) (hj : X.N[j]? = some y) (hij : i ≠ j)
    (hx : X.env.scope.names.lookup x = some .local) (hy : X.env.scope.names.lookup y = some .local) (ha : AG X [a, b] ta)
    (hw : swappedStores [.Tuple [.Name x px, .Name y py] kt pt] (.Tuple [a, b] k2 pt2) X.env = pure (some [x, y])) (hs : swapsWithSole [.Tuple [.Name x px, .Name y py] kt pt] (.Tuple [a, b] k2 pt2) pos.line X.env = pure false := by rfl) :
    SG X (.Assign [.Tuple [.Name x px, .Name y py] kt pt] (.Tuple [a, b] k2 pt2) pos) (tPar i j ta) := by
  refine ⟨fun G pins s σ H D I h => ?_⟩
  rw [exec_Assign_arm]
  refine wpAny_bind (wpAny_standAt ?_)
  rw [hs]
  refine wpAny_bind (wpAny_pure ?_)
  rw [if_neg (by decide)]
  refine wpAny_bind (Tuple_ (thn (ha.run _ G pins s σ H _ I h) fun us s1 ⟨vs, H1, I1, r1, v, w, ev, q1⟩ => ?_))
  subst ev
  obtain ⟨u1, u2, rfl, rv, rw'⟩ := r1.two
  refine wpAny_newObj_type ?_ (by show 2 ≤ sizeLine; decide)
  have I2 : IG X G pins σ H1 { s1 with heap := s1.heap.push { cls := .type "tuple", data := .seq [u1, u2].toArray } } := I1.kept (t' := s1.toks) fun b o e => Heap.get?_push_of_some _ e
  rw [hw]
  refine wpAny_bind (wpAny_pure ?_)
  show wpAny (model X.prog X.w) X.A (do rule "assign.swapped-stores"; let items ← unpackItems (.ref s1.heap.objs.size) 2 none; assignInOrder [fun v => bindName X.env y v, fun v => bindName X.env x v] items.reverse; pure Flow.next) _ _ _
  refine wpAny_bind (wpAny_rule (wpAny_bind (unpackItems_tuple (items := #[u1, u2]) (I.i.ok.hd hc) (IsTup.new s1.heap _) fun h' hx' => ?_)))
  have I3 : IG X G pins σ H1 { s1 with heap := h' } := I2.kept (t' := s1.toks) fun b o e => hx' b o (Nat.ne_of_lt (Heap.lt_size e)) e
  show wpAny _ _ (assignInOrder [fun v => bindName X.env y v, fun v => bindName X.env x v] [u2, u1] >>= fun _ => pure Flow.next) _ _ _
  refine wpAny_bind (assignInOrder_cons (wpAny_bindName (I3.store hN hj hy rw' fun s2 I4 => ?_)))
  refine assignInOrder_cons (wpAny_bindName (I4.store hN hi hx rv fun s3 I5 => assignInOrder_nil (wpAny_pure ?_)))
  rw [List.set_comm _ _ (Ne.symm hij)] at I5
  exact ⟨_, H1, I5, q1⟩
/-! ### loops -/
theorem sg_while {c : Expr} {body : List Stmt} {tc : TT} {tb : TS} (hp : PassesOwn (model X.prog X.w) X.A X.env X.xe) (hc : TGt X c tc) (hb : SGs X body tb) : SG X (.While c body [] pos) (tWhile tc tb) := by
  refine ⟨fun G pins s σ H D I ⟨W, ⟨m0, w0⟩, turn⟩ => ?_⟩
  refine wpAny_While (codeAny_whileLoop (fun n s' => ∃ σ' H', IG X G pins σ' H' s' ∧ W n σ' H') ?_ m0 ⟨σ, H, I, w0⟩)
  rintro n s1 ⟨σ1, H1, I1, w1⟩
  refine wpAny_passesOwn hp (thn (hc.run G pins s1 σ1 H1 _ I1 (turn n σ1 H1 w1)) fun b s2 ⟨H2, I2, q2⟩ => ?_)
  cases b
  · rw [if_neg Bool.false_ne_true]
    exact wpAny_execs_nil ⟨σ1, H2, I2, q2⟩
  · obtain ⟨N, hN, q2⟩ := q2
    rw [if_pos rfl]
    refine wpAny_passesOwn hp (thn (hb.run G pins s2 σ1 H2 _ I2 q2) fun f s3 q3 => ?_)
    have again : (∃ σ3 H3, IG X G pins σ3 H3 s3 ∧ N σ3 H3) → ∃ m, m < n ∧ ∃ σ' H', IG X G pins σ' H' s3 ∧ W m σ' H' := fun ⟨σ3, H3, I3, n3⟩ =>
      let ⟨m', hm, w3⟩ := hN σ3 H3 n3
      ⟨m', hm, σ3, H3, I3, w3⟩
    cases f
    case next => exact again q3
    case cont => exact again q3
    all_goals exact q3
end
end GL
end
section
set_option Elab.async false
set_option linter.all false
set_option maxRecDepth 100000
/-! The layer with generators: a def by its body, a for over a list. -/
namespace GL
open PySem PySem.Spec PyProof.Rows L2
section
variable {P : Program} {w : World} {K : PySem.W.Frag} {mg : Str → Option Value} {base : Heap}
theorem IG.start {N ps : List Str} {qual : Str} {scope : Scope} {f : Addr} {cd : Value} {A : Around} {outer : List Env} {s s1 : Shared} {H : Hp} {us : List Value} {vs : List V} (S : FnScope N ps scope) (hd : A.handled = none) (e0 : Env0 P w K mg base A outer s H) (hl : vs.length = ps.length) (r : Vals vs us)
    (x : InCallC s s.heap.objs.size (bindL (envOfC qual scope s.heap.objs.size f cd).kindOf (ps.zip us) fun _ => none) (cellsFrom (s.heap.objs.size + 1) scope.names []) (bindC (envOfC qual scope s.heap.objs.size f cd).kindOf (ps.zip us) fun _ => none) s1) :
    IG (cxOf CX0 P w K mg base N qual scope f cd A outer s H E0).nox s.gens [] (start N vs) H s1 := by
  have I := inv_start (CX := CX0) (E := E0) (qual := qual) (cd := cd) (f := f) S hd e0 hl r x
  obtain ⟨h1, tk, rfl, hk⟩ := x.done
  exact ⟨I.wish _, Pre.refl _⟩
/-- a def, by its body -/
theorem FnG.of {x qual : Str} {st : Stmt} {f : Addr} {fd : FuncData} {N ps : List Str} {k : Nat} {sp : Sp} (F : Fun K x qual st f fd) (S : FnScope N ps (defScope st)) (len : ∀ vs H Q E, sp vs H Q E → vs.length = ps.length)
    (hbody : ∀ (cdv : Value) (A : Around) (outer : List Env) (s : Shared) (H : Hp) (vs : List V) (Q : VK), Room k (A.deeper (envOfC qual (defScope st) s.heap.objs.size f cdv)) → sp vs H Q E0 →
      ∃ t, SGs (cxOf CX0 P w K mg base N qual (defScope st) f cdv A outer s H E0).nox (defBody st) t ∧ t { nx := fun _ H' => Q .non H', rt := Q } (start N vs) H) : FnG P w K mg base (k + 1) f fd ps sp := by
  obtain ⟨oc, od, kV, doc, pm, an, cdv, ct, osl, rfl, lk, hcd⟩ := F.ex
  refine ⟨len, fun A outer s H args us vs Q hr e0 hb r hsp => ?_⟩
  have hl := len _ _ _ _ hsp
  have KX : K.In s.heap := e0.mod.kin.keeps fun b o e => (e0.bs b o e).1
  have lim : s.heap.NoLimit := e0.mod.nolimit.keeps fun b o e => (e0.bs b o e).1
  have hkind : ∀ y ∈ ps.zip us, (defScope st).names.lookup y.1 = some .local ∨ ((defScope st).names.lookup y.1 = some .cell ∧ ((cellsFrom (s.heap.objs.size + 1) (defScope st).names []).lookup y.1).isSome = true) := fun y hy => by
    rcases S.par y.1 (List.of_mem_zip hy).1 with q | q
    · exact .inl q
    · exact .inr ⟨q, PySem.W.cellsFrom_some _ _ _ (.inl q)⟩
  refine codeAny_call_function hr.depth (KX _ _ lk) rfl S.co S.gen rfl (PySem.W.codeRec_of KX hcd) (hb _ _ _ _ ?_)
  refine wpAny_newFunctionEnv_cells S.kind hkind fun env he s1 x => ?_
  subst he
  refine ⟨lim.keeps x.toInCall.keep, codeAny_func ?_⟩
  obtain ⟨t, ht, hq⟩ := hbody cdv A outer s H vs Q (hr.deeper _) hsp
  refine wpAny_mono (ht.run s.gens [] s1 (start N vs) H _ (IG.start S hr.hd e0 hl r x) hq) (fun fl s' hs => ?_) fun e s' hs => hs.elim
  have fin : ∀ {σ' : L2.St} {H' : Hp} {v : V} {u : Value}, IG (cxOf CX0 P w K mg base N qual (defScope st) f cdv A outer s H E0).nox s.gens [] σ' H' s' → RelV v u → Q v H' → CE outer P w H s Q u s' ∧ Pre s.gens s'.gens :=
    fun {σ' H' v u} J rv q => ⟨⟨v, H', J.i.os, J.i.bare, J.i.base, J.i.hok, rv, q⟩, J.g⟩
  cases fl with
  | ret u =>
    obtain ⟨v, σ', H', J, rv, q⟩ := hs
    exact ⟨u, rfl, fin J rv q⟩
  | next =>
    obtain ⟨σ', H', J, q⟩ := hs
    exact ⟨.none, rfl, fin (v := V.non) (u := Value.none) J rfl q⟩
  | brk =>
    obtain ⟨_, _, _, q⟩ := hs
    exact q.elim
  | cont =>
    obtain ⟨_, _, _, q⟩ := hs
    exact q.elim
end
/-! ### for over a list that the body leaves as it is -/
section
variable {X : Cx} {pos : Pos}
/-- W: the invariant by the turn -/
def tForL (K : PySem.W.Frag) (tl : TE) (i : Nat) (tb : TS) : TS := fun D σ H => tl σ H fun x H1 => ∃ a xs, x = .ref a ∧ SqL K H1 a xs ∧ ∃ Pv : Nat → L2.St → Hp → Prop, Pv 0 σ H1 ∧ (∀ j σ H, j ≤ xs.length → Pv j σ H → SqL K H a xs) ∧
  (∀ j x σ H, xs[j]? = some x → Pv j σ H → tb { D with nx := Pv (j + 1), ct := Pv (j + 1), bk := D.nx } (σ.set i (some x)) H) ∧ ∀ σ H, Pv xs.length σ H → D.nx σ H
theorem sg_for (hc : X.calm = true) {iter : Expr} {body : List Stmt} {tl : TE} {tb : TS} {i : Nat} {x : Str} {px : Pos} (hp : PassesOwn (model X.prog X.w) X.A X.env X.xe) (hi : EG X iter tl) (hN : X.N.Nodup) (hx : X.N[i]? = some x) (hl : X.env.scope.names.lookup x = some .local) (hb : SGs X body tb)
    (hs : ∀ x, foldedSetIterable iter X.env x = pure x := by intro _; rfl) : SG X (.For (.Name x px) iter body [] pos) (tForL X.K tl i tb) := by
  refine ⟨fun G pins s σ H D I h => ?_⟩
  refine wpAny_For (thn (hi.run G pins s σ H _ I h) fun v s1 ⟨y, H1, I1, r1, a, xs, ey, hq, Pv, p0, stay, turn, fin⟩ => ?_) hs
  subst ey
  cases r1
  obtain ⟨its, rv, pl, hz⟩ := I1.i.list hq
  refine wpAny_pyIter_list pl.isList ?_
  have it0 := I1.fresh
  have I2 : IG X G pins σ H1 { s1 with heap := s1.heap.push { cls := .type "list_iterator", data := .fields #[.ref a, rawInt 0] } } := I1.kept (t' := s1.toks) fun b o e => Heap.get?_push_of_some _ e
  have f0 : FpOk X pins H1 s1.heap.objs.size := I1.i.fpOk (Nat.le_refl _) it0
  -- what stays true of the iterator
  have key : ∀ (n : Nat) (s' : Shared), (∃ j σ' H', n = xs.length - j ∧ j ≤ xs.length ∧ IG X G pins σ' H' s' ∧ s'.heap.IsListIter s1.heap.objs.size a j ∧ H' s1.heap.objs.size = none ∧ Pv j σ' H') →
      codeAny (model X.prog X.w) X.A (.forLoop (.Name x px) (.ref s1.heap.objs.size) body [] X.env) (fun r s' => match r with | .ok f => SQ X G pins D f s' | .error e => cameBackBy (model X.prog X.w) X.A X.env X.xe e s') s' := fun n0 s0 h0 => by
    refine codeAny_forLoop_any (fun n s' => ∃ j σ' H', n = xs.length - j ∧ j ≤ xs.length ∧ IG X G pins σ' H' s' ∧ s'.heap.IsListIter s1.heap.objs.size a j ∧ H' s1.heap.objs.size = none ∧ Pv j σ' H') ?_ n0 h0
    rintro n s3 ⟨j, σ3, H3, rfl, hj, I3, st3, fr3, w3⟩
    obtain ⟨its3, rv3, pl3, _⟩ := I3.i.list (stay j σ3 H3 hj w3)
    have fp : FpOk X pins H3 s1.heap.objs.size := ⟨fr3, f0.2⟩
    obtain ⟨_, g1, g2, g3, g4, g5⟩ := fp
    by_cases lt : j < xs.length
    · obtain ⟨u, hu, ru⟩ := rv3.get (show xs[j]? = some xs[j] from List.getElem?_eq_getElem lt)
      refine wpAny_passesOwn hp (wpAny_pyNext_list_item st3 pl3.isList (x := u) (by simpa using hu) fun h' st' sb => ?_)
      have I4 : IG X G pins σ3 H3 { s3 with heap := h' } := ⟨I3.i.turned (t' := s3.toks) (fun b o hb e => (sb.2 b hb).trans e) fr3 g1 g3 g4 g5, I3.g⟩
      obtain ⟨ob, e1, c1, d1⟩ := id st'
      refine wpAny_passesOwn hp (go_of (s := { s3 with heap := h' }) e1 c1 d1 (by decide) ?_)
      have I5 : IG X G (pins ++ [(s1.heap.objs.size, ob)]) σ3 H3 { s3 with heap := h' } := ⟨I4.i.pins_of fun p hp => (List.mem_append.mp hp).elim (fun z => I4.i.pin p (List.mem_append_right _ z)) fun z => by
        rw [List.mem_singleton.mp z]
        exact ⟨e1, fr3, g1, g2, fun v z => by rw [d1] at z; cases z⟩, I4.g⟩
      refine wpAny_passesOwn hp (wpAny_assign_Name (I5.store hN hx hl ru fun s6 I6 => ?_))
      refine wpAny_passesOwn hp (thn (hb.run G _ s6 _ H3 _ I6 (turn j _ σ3 H3 (List.getElem?_eq_getElem lt) w3)) fun f s7 q7 => ?_)
      have unpin : ∀ {σ7 : L2.St} {H7 : Hp}, IG X G (pins ++ [(s1.heap.objs.size, ob)]) σ7 H7 s7 → IG X G pins σ7 H7 s7 := fun J => ⟨J.i.unpinned, J.g⟩
      have again : (∃ σ7 H7, IG X G (pins ++ [(s1.heap.objs.size, ob)]) σ7 H7 s7 ∧ Pv (j + 1) σ7 H7) → ∃ m, m < xs.length - j ∧ ∃ j σ' H', m = xs.length - j ∧ j ≤ xs.length ∧ IG X G pins σ' H' s7 ∧ s7.heap.IsListIter s1.heap.objs.size a j ∧ H' s1.heap.objs.size = none ∧ Pv j σ' H' := fun ⟨σ7, H7, J, w7⟩ => by
        obtain ⟨k1, k2, _⟩ := J.i.pin (s1.heap.objs.size, ob) (List.mem_append_right _ (List.mem_append_right _ (List.mem_singleton.mpr rfl)))
        exact ⟨xs.length - (j + 1), by omega, j + 1, σ7, H7, rfl, lt, unpin J, ⟨ob, k1, c1, d1⟩, k2, w7⟩
      cases f
      case next => exact again q7
      case cont => exact again q7
      case brk => obtain ⟨σ7, H7, J, q⟩ := q7; exact ⟨σ7, H7, unpin J, q⟩
      case ret v => obtain ⟨y7, σ7, H7, J, r7, q⟩ := q7; exact ⟨y7, σ7, H7, unpin J, r7, q⟩
    · have e : j = xs.length := by omega
      subst e
      refine wpAny_passesOwn hp (wpAny_pyNext_list_end (I3.i.ok.hd hc) st3 pl3.isList (by have := rv3.length; simp; omega) fun h' eb => ?_)
      exact wpAny_execs_nil ⟨σ3, H3, ⟨I3.i.turned (t' := s3.toks) (fun b o hb e => eb b o hb e) fr3 g1 g3 g4 g5, I3.g⟩, fin σ3 H3 w3⟩
  exact key xs.length _ ⟨0, σ, H1, by omega, Nat.zero_le _, I2, ⟨_, Heap.get?_push_size _ rfl, rfl, rfl⟩, it0, p0⟩
end
end GL
end
section
set_option Elab.async false
set_option linter.all false
set_option maxRecDepth 100000
/-! The layer with generators: statements that hand out, the context at a wake-up. -/
namespace GL
open PySem PySem.Spec PyProof.Rows L2 GenW
/-! ### the heap below an address -/
def cut (h : Heap) (n : Nat) : Heap := ⟨h.objs.extract 0 n, h.life⟩
theorem cut_size {h : Heap} {n : Nat} (hn : n ≤ h.objs.size) : (cut h n).objs.size = n := by
  show (h.objs.extract 0 n).size = n
  rw [Array.size_extract]; omega
theorem cut_at {h : Heap} {n b : Nat} (hb : b < n) : (cut h n).objs[b]? = h.objs[b]? := by
  show (h.objs.extract 0 n)[b]? = h.objs[b]?
  rw [Array.getElem?_extract]
  by_cases hs : b < h.objs.size
  · rw [if_pos (by omega)]; simp
  · rw [if_neg (by omega), Array.getElem?_eq_none (by omega)]
theorem get_cut {h : Heap} {n b : Nat} {o : Obj} (e : h.get? b = some o) (hb : b < n) : (cut h n).get? b = some o := by
  rw [← e]; unfold Heap.get?; rw [cut_at hb]
theorem cut_get {h : Heap} {n b : Nat} {o : Obj} (e : (cut h n).get? b = some o) : h.get? b = some o ∧ b < n := by
  have hb : b < n := by
    have := Heap.lt_size e
    have q : (cut h n).objs.size ≤ n := by
      show (h.objs.extract 0 n).size ≤ n
      rw [Array.size_extract]; omega
    exact Nat.lt_of_lt_of_le this q
  refine ⟨?_, hb⟩
  rw [← e]; unfold Heap.get?; rw [cut_at hb]
/-! ### statements that hand out -/
structure EndsY where
  nx : L2.St → Hp → Prop
  yl : V → L2.St → Hp → Prop
abbrev TSY := EndsY → L2.St → Hp → Prop
/-- where the generator's code stands -/
structure GCy (X : Cx) (A : Around) (c : Code) (fs : List Frame) (gd : Bool → Bool) : Prop where
  xe : ∀ e s, ¬ X.xe e s
  over : A.over c fs = X.A
  split : splitAtGen fs = none
  guard : fs.any Frame.guarded = false
  gd : gd false = false
structure SY (X : Cx) (st : Stmt) (t : TSY) : Prop where
  run : ∀ (A : Around) (R : GenEnd) (Y : Protocol) (n : Nat) (s₀ : Shared) (c : Code) (fs : List Frame) (K : Flow → Sem PySem.Fin) (J : Value → Sem PySem.Fin) (gd : Bool → Bool) (lv : List Value → List Value) (G : Array GenState) (s : Shared) (σ : L2.St) (H : Hp) (D : EndsY),
    GCy X A c fs gd → IG X G [] σ H s → t D σ H →
    (∀ s' σ' H', IG X G [] σ' H' s' → D.nx σ' H' → Seg (model X.prog X.w) A R Y n s₀ c (K .next) fs s') →
    (∀ u s' v σ' H', IG X G [] σ' H' s' → RelV v u → D.yl v σ' H' → ∃ n', n = n' + 1 ∧ ∀ kap : Resume → Shared → Prop, (∀ s'', Seg (model X.prog X.w) A R Y n' s'' c (K .next) fs s'' → kap (.send .none) s'') → Y n' s₀ u s' kap) →
    Seg (model X.prog X.w) A R Y n s₀ c ((exec st X.env).wrap K J gd lv) fs s
structure SYs (X : Cx) (st : List Stmt) (t : TSY) : Prop where
  run : ∀ (A : Around) (R : GenEnd) (Y : Protocol) (n : Nat) (s₀ : Shared) (c : Code) (fs : List Frame) (K : Flow → Sem PySem.Fin) (J : Value → Sem PySem.Fin) (gd : Bool → Bool) (lv : List Value → List Value) (G : Array GenState) (s : Shared) (σ : L2.St) (H : Hp) (D : EndsY),
    GCy X A c fs gd → IG X G [] σ H s → t D σ H →
    (∀ s' σ' H', IG X G [] σ' H' s' → D.nx σ' H' → Seg (model X.prog X.w) A R Y n s₀ c (K .next) fs s') →
    (∀ u s' v σ' H', IG X G [] σ' H' s' → RelV v u → D.yl v σ' H' → ∃ n', n = n' + 1 ∧ ∀ kap : Resume → Shared → Prop, (∀ s'', Seg (model X.prog X.w) A R Y n' s'' c (K .next) fs s'' → kap (.send .none) s'') → Y n' s₀ u s' kap) →
    Seg (model X.prog X.w) A R Y n s₀ c ((execs st X.env).wrap K J gd lv) fs s
section
variable {X : Cx} {st : Stmt} {rest : List Stmt} {t : TS} {u v : TSY} {e : Expr} {te : TE} {pos yp : Pos}
def only (p : L2.St → Hp → Prop) : Ends := { nx := p, rt := fun _ _ => False }
def tOnly (t : TS) : TSY := fun D σ H => t (only D.nx) σ H
theorem sy_plain (h : SG X st t) : SY X st (tOnly t) := by
  refine ⟨fun A R Y n s₀ c fs K J gd lv G s σ H D g I ht hn hy => seg_wrap ?_⟩
  rw [g.over]
  refine wpAny_mono (h.run G [] s σ H _ I ht) (fun f s' hs => ?_) fun x s' hx => absurd hx (g.xe x s')
  cases f with
  | next => obtain ⟨σ', H', I', q⟩ := hs; exact hn s' σ' H' I' q
  | brk => obtain ⟨_, _, _, q⟩ := hs; exact False.elim q
  | cont => obtain ⟨_, _, _, q⟩ := hs; exact False.elim q
  | ret u => obtain ⟨_, _, _, _, _, q⟩ := hs; exact False.elim q
def tNilY : TSY := fun D σ H => D.nx σ H
theorem sys_nil : SYs X [] tNilY := ⟨fun A R Y n s₀ c fs K J gd lv G s σ H D g I ht hn hy => seg_execs_nil (hn s σ H I ht)⟩
def tSeqY (t : TS) (u : TSY) : TSY := fun D σ H => t (only (u D)) σ H
theorem sys_cons (h1 : SG X st t) (h2 : SYs X rest u) : SYs X (st :: rest) (tSeqY t u) := by
  refine ⟨fun A R Y n s₀ c fs K J gd lv G s σ H D g I ht hn hy => seg_execs_cons (seg_wrap ?_)⟩
  rw [g.over]
  refine wpAny_mono (h1.run G [] s σ H _ I ht) (fun f s' hs => ?_) fun x s' hx => absurd hx (g.xe x s')
  cases f with
  | next => obtain ⟨σ', H', I', q⟩ := hs; exact h2.run A R Y n s₀ c fs K J gd lv G s' σ' H' D g I' q hn hy
  | brk => obtain ⟨_, _, _, q⟩ := hs; exact False.elim q
  | cont => obtain ⟨_, _, _, q⟩ := hs; exact False.elim q
  | ret u => obtain ⟨_, _, _, _, _, q⟩ := hs; exact False.elim q
theorem sys_one (h1 : SY X st u) : SYs X [st] u := by
  refine ⟨fun A R Y n s₀ c fs K J gd lv G s σ H D g I ht hn hy => seg_execs_cons ?_⟩
  exact h1.run A R Y n s₀ c fs _ J gd lv G s σ H D g I ht (fun s' σ' H' I' q => seg_execs_nil (hn s' σ' H' I' q)) fun w s' x σ' H' I' r q => by
    obtain ⟨n', e, k⟩ := hy w s' x σ' H' I' r q
    exact ⟨n', e, fun kap hk => k kap hk⟩
def tIfY (c : TT) (t u : TSY) : TSY := fun D σ H => c σ H fun b H1 => if b = true then t D σ H1 else u D σ H1
theorem sy_if {c : Expr} {a b : List Stmt} {tc : TT} (hc : TGt X c tc) (ha : SYs X a u) (hb : SYs X b v) : SY X (.If c a b pos) (tIfY tc u v) := by
  refine ⟨fun A R Y n s₀ c' fs K J gd lv G s σ H D g I ht hn hy => ?_⟩
  rw [exec_If]
  show Seg _ A R Y n s₀ c' (.at pos fun _ => ((isTrue c X.env (eval c X.env) >>= fun d => if d = true then execs a X.env else execs b X.env).wrap K J gd lv)) fs s
  refine seg_at ?_
  rw [Sem.bind_eq_wrap', Sem.wrap_wrap]
  refine seg_wrap ?_
  rw [g.over]
  refine wpAny_mono (hc.run G [] s σ H _ I ht) (fun d s' hs => ?_) fun x s' hx => absurd hx (g.xe x s')
  obtain ⟨H1, I1, q1⟩ := hs
  cases d with
  | true => exact ha.run A R Y n s₀ c' fs K J gd lv G s' σ H1 D g I1 q1 hn hy
  | false => exact hb.run A R Y n s₀ c' fs K J gd lv G s' σ H1 D g I1 q1 hn hy
def tYieldY (te : TE) : TSY := fun D σ H => te σ H fun x H1 => D.yl x σ H1
theorem sy_yield (he : EG X e te) (hco : X.env.scope.isCoroutine = false := by rfl) (hi : interactive X.env = false := by rfl) : SY X (.Expr (.Yield (some e) yp) pos) (tYieldY te) := by
  refine ⟨fun A R Y n s₀ c fs K J gd lv G s σ H D g I ht hn hy => ?_⟩
  -- the number: from what is handed out
  rw [exec_Expr X.env _ pos hi rfl]
  show Seg _ A R Y n s₀ c (.at pos fun _ => ((eval e X.env >>= fun v => (standAt yp >>= fun _ => yieldOut X.env v)) >>= fun x => dropValue (.Yield (some e) yp) pos x).wrap K J gd lv) fs s
  have hyo : ∀ v, yieldOut X.env v = yieldValue v := fun v => by simp only [yieldOut, hco, Bool.false_eq_true, if_false]
  simp only [hyo]
  refine seg_at ?_
  rw [Sem.bind_eq_wrap', Sem.bind_eq_wrap', Sem.wrap_wrap, Sem.wrap_wrap]
  refine seg_wrap ?_
  rw [g.over]
  refine wpAny_mono (he.run G [] s σ H _ I ht) (fun w s' hs => ?_) fun x s' hx => absurd hx (g.xe x s')
  obtain ⟨x, H1, I1, r1, q1⟩ := hs
  obtain ⟨n', rfl, k⟩ := hy w s' x σ H1 I1 r1 q1
  refine seg_at (seg_yield g.split g.gd g.guard ?_)
  refine k _ fun s'' hx => ?_
  exact hx
end
end GL
end
section
set_option Elab.async false
set_option linter.all false
set_option maxRecDepth 100000
/-! The layer with generators: the context at a wake-up; a sleeping generator beside its consumer. -/
namespace GL
open PySem PySem.Spec PyProof.Rows L2 GenW
/-- all that the consumer bears is older than the generator's frame -/
structure Low (X : Cx) (pins : List (Addr × Obj)) (L : Addr) : Prop where
  sz : X.s_0.heap.objs.size ≤ L
  env : X.env.locals < L
  cel : ∀ x c, X.env.cells.lookup x = some c → c < L
  pin : ∀ p ∈ X.pn ++ pins, p.1 < L
  stk : ∀ b ∈ frs X.stack, b < L
theorem Low.of {X : Cx} {pins : List (Addr × Obj)} {σ : L2.St} {H : Hp} {s : Shared} (I : Inv X pins σ H s) : Low X pins s.heap.objs.size where
  sz := I.sz
  env := I.lt
  cel := fun x c e => by obtain ⟨v, o, ho, _⟩ := I.cell x c e; exact Heap.lt_size ho
  pin := fun p hp => Heap.lt_size (I.pin p hp).1
  stk := fun b hb => by
    rcases List.mem_cons.mp (I.stkSub b hb) with z | z
    · rw [z]; exact I.lt
    · obtain ⟨_, o, ho, _⟩ := I.ok.funs.mem z
      exact Nat.lt_of_lt_of_le (Heap.lt_size ho) I.sz
theorem Low.mono {X : Cx} {pins : List (Addr × Obj)} {L L' : Addr} (h : Low X pins L) (hl : L ≤ L') : Low X pins L' :=
  ⟨Nat.le_trans h.sz hl, Nat.lt_of_lt_of_le h.env hl, fun x c e => Nat.lt_of_lt_of_le (h.cel x c e) hl, fun p hp => Nat.lt_of_lt_of_le (h.pin p hp) hl, fun b hb => Nat.lt_of_lt_of_le (h.stk b hb) hl⟩
/-- the context of a generator's body from a wake-up on -/
def gx (X : Cx) (genv : Env) (Ng : List Str) (pn : List (Addr × Obj)) (s : Shared) (H : Hp) : Cx :=
  { X with A := X.A.in1.deeper genv, N := Ng, s_0 := { s with heap := cut s.heap genv.locals }, H_0 := H, env := genv, outer := X.stack, stack := genv :: X.stack, ex := [], fn := fun _ => true, calm := true, pn := pn, xe := fun _ _ => False }
/-- what a generator's frame is like -/
structure GEnv (genv : Env) : Prop where
  kind : genv.scope.kind = .function
  glob : genv.globals = mainGlobals
  blt : genv.builtins = builtinsNs
  cells : genv.cells = []
  nocell : ∀ x, genv.kindOf x ≠ some .cell ∧ genv.kindOf x ≠ some .free
  fr : genv.frame = some genv.locals
/-- a sleeping generator: its frame, its object -/
structure Zz (X : Cx) (genv : Env) (Ng : List Str) (a : Addr) (go : Obj) (σ : L2.St) (H : Hp) (s : Shared) : Prop where
  loc : ∃ m, s.heap.Ns genv.locals m ∧ ∀ (i : Nat) (x : Str) (v : V), Ng[i]? = some x → σ[i]? = some (some v) → Vis genv.scope x → ∃ u, RelV v u ∧ Look genv s.heap m x u
  free : H genv.locals = none
  obj : s.heap.get? a = some go
  ofree : H a = none
  len : σ.length = Ng.length
section
variable {X : Cx} {genv : Env} {Ng : List Str} {a : Addr} {go : Obj} {G : Array GenState} {pins : List (Addr × Obj)} {σ σg σg' : L2.St} {H H' : Hp} {s s1 : Shared}
theorem gx_ok (E : GEnv genv) (I : IG X G pins σ H s) (lo : Low X pins genv.locals) (hd : X.A.handled = none) (hL : genv.locals < s.heap.objs.size) (pn : List (Addr × Obj)) : (gx X genv Ng pn s H).Ok where
  mod := I.i.mod
  kind := E.kind
  glob := E.glob
  blt := E.blt
  above := by
    show (cut s.heap genv.locals).objs.size ≤ genv.locals
    rw [cut_size (Nat.le_of_lt hL)]; exact Nat.le_refl _
  inj := fun x y c e => by
    have e' : genv.cells.lookup x = some c := e
    rw [E.cells] at e'; cases e'
  has := fun x h => by
    rcases h with h | h
    · exact absurd h (E.nocell x).1
    · exact absurd h (E.nocell x).2
  cab := fun x c _ e => by
    have e' : genv.cells.lookup x = some c := e
    rw [E.cells] at e'; cases e'
  hd := fun _ => hd
  frames := Around.frames_deeper (show X.A.in1.frames = some X.stack from I.i.ok.frames)
  stk := .inr ⟨rfl, E.fr⟩
  exf := fun b z => absurd (show b ∈ ([] : List Addr) from z) (by simp)
  bs := fun b o e => by
    have hb : b < genv.locals := Nat.lt_of_lt_of_le (Nat.lt_of_lt_of_le (Heap.lt_size e) I.i.ok.bsz) lo.sz
    exact ⟨get_cut (I.i.bs b o e).1 hb, (I.i.bs b o e).2⟩
  bsz := by
    show X.base.objs.size ≤ (cut s.heap genv.locals).objs.size
    rw [cut_size (Nat.le_of_lt hL)]
    exact Nat.le_trans I.i.ok.bsz lo.sz
  noex := fun b _ _ z => absurd (show b ∈ ([] : List Addr) from z) (by simp)
  exfs := fun b z => absurd (show b ∈ ([] : List Addr) from z) (by simp)
  funs := by
    show (cut s.heap genv.locals).FunFrames X.base X.stack
    have all : ∀ l : List Env, (∀ b ∈ frs l, b < genv.locals) → s.heap.FunFrames X.base l → (cut s.heap genv.locals).FunFrames X.base l := by
      intro l
      induction l with
      | nil => intro _ _; trivial
      | cons env r ih =>
        intro hs hl
        obtain ⟨hk, ⟨L, o, hf, hn, ho, hdt⟩, hr⟩ := hl
        refine ⟨hk, ⟨L, o, hf, hn, get_cut ho (hs L ?_), hdt⟩, ih (fun b hb => hs b ?_) hr⟩
        · unfold frs; rw [List.filterMap_cons, hf]; exact List.mem_cons_self
        · unfold frs; rw [List.filterMap_cons, hf]; exact List.mem_cons_of_mem _ hb
    exact all _ lo.stk I.i.stack
  frf := I.i.stkFree
/-- a wake-up -/
theorem gx_inv (E : GEnv genv) (I : IG X G pins σ H s) (lo : Low X pins genv.locals) (hd : X.A.handled = none) (z : Zz X genv Ng a go σg H s) (hla : genv.locals < a) (hg : ∀ v, go.data ≠ .cell v) : IG (gx X genv Ng [(a, go)] s H) s.gens [] σg H s := by
  obtain ⟨m, hn, hl⟩ := z.loc
  refine ⟨⟨gx_ok E I lo hd hn.lt _, rfl, I.i.bare, ⟨fun b o e _ _ _ => (cut_get e).1, fun b o e _ _ _ => ⟨o.slots, (cut_get e).1⟩, fun _ _ _ n _ => n, fun b o e _ => ⟨o, (cut_get e).1⟩, fun _ _ e => e, fun _ _ _ e => e, fun _ ps e => ⟨#[], by rw [show H _ = _ from e]; simp⟩⟩,
    ⟨m, hn, hl⟩, fun x c e => ?_, z.free, fun x c e => ?_, fun p hp => ?_, I.i.hok, z.len⟩, Pre.refl _⟩
  · have e' : genv.cells.lookup x = some c := e
    rw [E.cells] at e'; cases e'
  · have e' : genv.cells.lookup x = some c := e
    rw [E.cells] at e'; cases e'
  · have hp' : p = (a, go) := by
      have : p ∈ [(a, go)] ++ ([] : List (Addr × Obj)) := hp
      simpa using this
    subst hp'
    exact ⟨z.obj, z.ofree, Nat.ne_of_gt hla, fun hb => absurd (lo.stk a hb) (Nat.not_lt.mpr (Nat.le_of_lt hla)), hg⟩
/-- back at the consumer -/
theorem gx_back (I : IG X G pins σ H s) (lo : Low X pins genv.locals) (J : IG (gx X genv Ng [(a, go)] s H) s.gens [] σg' H' s1) : IG X G pins σ H' s1 ∧ Zz X genv Ng a go σg' H' s1 := by
  have hb : Un (frs X.stack) [] H H' (cut s.heap genv.locals) s1.heap := J.i.base
  have low : ∀ b o, s.heap.get? b = some o → b ∉ (List.range s.heap.objs.size).filter (fun b => decide (genv.locals ≤ b)) → (cut s.heap genv.locals).get? b = some o := fun b o e hn => by
    refine get_cut e (Nat.lt_of_not_le fun h => hn ?_)
    exact List.mem_filter.mpr ⟨List.mem_range.mpr (Heap.lt_size e), by simpa using h⟩
  have I' : Inv X pins σ H' s1 := by
    refine I.i.call' (ch := (List.range s.heap.objs.size).filter (fun b => decide (genv.locals ≤ b))) J.i.os ⟨fun b o e n hf hc => hb.keep b o (low b o e hc) n hf (by simp), fun b o e n hf hc => hb.slot b o (low b o e hc) n hf (by simp),
      fun b o e n hc => hb.free b o (low b o e hc) n (by simp), fun b o e hc => hb.there b o (low b o e hc) (by simp), hb.tups, hb.frzs, hb.tbls⟩ J.i.hok J.i.bare fun b hc => ?_
    have hge : genv.locals ≤ b := by simpa using (List.mem_filter.mp hc).2
    refine ⟨.inr (Nat.le_trans lo.sz hge), Nat.ne_of_gt (Nat.lt_of_lt_of_le lo.env hge), fun x c e => Nat.ne_of_lt (Nat.lt_of_lt_of_le (lo.cel x c e) hge), fun p hp => Nat.ne_of_lt (Nat.lt_of_lt_of_le (lo.pin p hp) hge)⟩
  obtain ⟨m, hn, hl⟩ := J.i.loc
  obtain ⟨h1, h2, _⟩ := J.i.pin (a, go) (List.mem_append_left _ (List.mem_singleton.mpr rfl))
  exact ⟨⟨I', I.g.trans J.g⟩, ⟨m, hn, hl⟩, J.i.free, h1, h2, J.i.len⟩
/-- while the consumer goes on -/
theorem Zz.aside (z : Zz X genv Ng a go σg H s) (E : GEnv genv) (I : IG X G pins σ H s) (lo : Low X pins genv.locals) (hla : genv.locals < a) (hg : ∀ v, go.data ≠ .cell v) :
    ∃ fo, IG X G (pins ++ [(a, go), (genv.locals, fo)]) σ H s ∧ ∀ {σ' : L2.St} {H' : Hp} {s' : Shared} {G' : Array GenState}, IG X G' (pins ++ [(a, go), (genv.locals, fo)]) σ' H' s' → IG X G' pins σ' H' s' ∧ Zz X genv Ng a go σg H' s' := by
  obtain ⟨m, hn, hl⟩ := z.loc
  obtain ⟨fo, es, ep, ho, hd, hk, hf⟩ := id hn
  have nf : ∀ b, genv.locals ≤ b → b ∉ X.fs := fun b hb hm => by
    obtain ⟨_, o, e, _⟩ := I.i.ok.funs.mem hm
    exact absurd (Nat.lt_of_lt_of_le (Heap.lt_size e) (Nat.le_trans lo.sz hb)) (Nat.lt_irrefl _)
  refine ⟨fo, ⟨I.i.pins_of fun p hp => ?_, I.g⟩, fun {σ' H' s' G'} J => ?_⟩
  · rcases List.mem_append.mp hp with hp | hp
    · exact I.i.pin p (List.mem_append_right _ hp)
    · rcases List.mem_cons.mp hp with rfl | hp
      · exact ⟨z.obj, z.ofree, Nat.ne_of_gt (Nat.lt_trans lo.env hla), nf a (Nat.le_of_lt hla), hg⟩
      · rw [List.mem_singleton.mp hp]
        exact ⟨ho, z.free, Nat.ne_of_gt lo.env, nf _ (Nat.le_refl _), fun v q => by rw [hd] at q; cases q⟩
  · obtain ⟨a1, a2, _⟩ := J.i.pin (a, go) (List.mem_append_right _ (List.mem_append_right _ List.mem_cons_self))
    obtain ⟨b1, b2, _⟩ := J.i.pin (genv.locals, fo) (List.mem_append_right _ (List.mem_append_right _ (List.mem_cons_of_mem _ (List.mem_singleton.mpr rfl))))
    refine ⟨⟨J.i.pins_of fun p hp => J.i.pin p (List.mem_append_right _ (List.mem_append_left _ hp)), J.g⟩, ⟨m, ⟨fo, es, ep, b1, hd, hk, hf⟩, fun i x v e1 e2 e3 => ?_⟩, b2, a1, a2, z.len⟩
    obtain ⟨u, r, q⟩ := hl i x v e1 e2 e3
    refine ⟨u, r, ?_⟩
    rcases q with q | ⟨k, c, e, _⟩
    · exact .inl q
    · rw [E.cells] at e; cases e
theorem IG.setGen {g : Nat} {x : GenState} (I : IG X G pins σ H s) (hg : G.size ≤ g) (hx : x.bare = true) : IG X G pins σ H (s.setGen g x) := by
  refine ⟨⟨I.i.ok, I.i.os, allBare_setGen I.i.bare hx, I.i.base, I.i.loc, I.i.cell, I.i.free, I.i.freeC, I.i.pin, I.i.hok, I.i.len⟩, fun i hi => ?_⟩
  show (s.gens.setIfInBounds g x)[i]? = _
  rw [Array.getElem?_setIfInBounds_ne (by omega)]
  exact I.g i hi
theorem Zz.setGen {g : Nat} {x : GenState} (z : Zz X genv Ng a go σg H s) : Zz X genv Ng a go σg H (s.setGen g x) := ⟨z.loc, z.free, z.obj, z.ofree, z.len⟩
theorem Pre.push {G g : Array GenState} (h : Pre G g) (x : GenState) : Pre G (g.push x) := fun i hi => by
  rw [Array.getElem?_push, if_neg (by have := h.size; omega)]
  exact h i hi
end
end GL
end
section
set_option Elab.async false
set_option linter.all false
set_option maxRecDepth 100000
/-! The layer with generators: a generator def (a statement, a while whose body hands out) beside its consumer. -/
namespace GL
open PySem PySem.Spec PyProof.Rows L2 GenW
/-- what stands beside the heap: the consumer's locals, the generator's, the abstract heap -/
structure Ghost where
  σ : L2.St
  g : L2.St
  H : Hp
instance : Nonempty Ghost := ⟨⟨[], [], fun _ => none⟩⟩
/-- a generator's fixed things: its frame, object, the consumer's context; what is known at its turns -/
structure GT where
  X : Cx
  genv : Env
  Ng : List Str
  a : Addr
  go : Obj
  G : Array GenState
  pins : List (Addr × Obj)
  N0 : Nat
  J0 : L2.St → L2.St → Hp → Prop
  W : Nat → L2.St → L2.St → Hp → Prop
  Yl : Nat → V → L2.St → L2.St → Hp → Prop
  Fin : L2.St → Hp → Prop
def GT.CW (T : GT) (n : Nat) (q : Ghost) (s : Shared) : Prop :=
  IG T.X T.G T.pins q.σ q.H s ∧ Zz T.X T.genv T.Ng T.a T.go q.g q.H s ∧ n ≤ T.N0 ∧ (n = T.N0 → T.J0 q.σ q.g q.H) ∧ (n ≠ T.N0 → ∃ m, m ≤ n ∧ T.W m q.σ q.g q.H)
noncomputable def GT.pk (T : GT) (n : Nat) (s : Shared) : Ghost := Classical.epsilon fun q => T.CW n q s
theorem GT.pk_spec {T : GT} {n : Nat} {s : Shared} (h : ∃ q, T.CW n q s) : T.CW n (T.pk n s) s := Classical.epsilon_spec h
noncomputable abbrev GT.cx (T : GT) (n : Nat) (s₀ : Shared) : Cx := gx T.X T.genv T.Ng [(T.a, T.go)] s₀ (T.pk n s₀).H
def GT.YG (T : GT) : Protocol := fun k s₀ u s1 kap => ∃ (n' : Nat) (x : V) (σg' : L2.St) (H' : Hp), k = n' + 1 ∧ IG (T.cx k s₀) s₀.gens [] σg' H' s1 ∧ RelV x u ∧ (∃ m', m' ≤ n' ∧ T.Yl m' x (T.pk k s₀).σ σg' H') ∧ k ≤ T.N0 ∧
  ∀ s'', (∃ q, T.CW n' q s'') → kap (.send .none) s''
def GT.FG (T : GT) : Nat → Shared → Shared → Prop := fun k s₀ s1 => ∃ (σg' : L2.St) (H' : Hp), IG (T.cx (k - 1) s₀) s₀.gens [] σg' H' s1 ∧ T.Fin (T.pk (k - 1) s₀).σ H'
def GT.RG (T : GT) : GenEnd := fun k s₀ r s1 => ((r = .ok (.ret .none) ∨ r = .ok .next) ∧ T.FG k s₀ s1) ∨ ∃ e, r = .error e ∧ False
/-- the generator's side -/
structure GSide (T : GT) (st1 : Stmt) (test : Expr) (wbody : List Stmt) (wpos : Pos) (t1 : TS) (tc : TT) (tb : TSY) : Prop where
  E : GEnv T.genv
  hd : T.X.A.handled = none
  lo : Low T.X T.pins T.genv.locals
  la : T.genv.locals < T.a
  dat : ∀ v, T.go.data ≠ .cell v
  s1 : ∀ s H, SG (gx T.X T.genv T.Ng [(T.a, T.go)] s H) st1 t1
  tst : ∀ s H, TGt (gx T.X T.genv T.Ng [(T.a, T.go)] s H) test tc
  bdy : ∀ s H, SYs (gx T.X T.genv T.Ng [(T.a, T.go)] s H) wbody tb
  begin : ∀ σ σg H, T.J0 σ σg H → t1 (only fun σg' H' => ∃ m, m ≤ T.N0 ∧ T.W m σ σg' H') σg H
  turn : ∀ m σ σg H, T.W m σ σg H → tc σg H fun b H1 => if b = true then tb { nx := fun σg' H' => ∃ m', m' < m ∧ T.W m' σ σg' H', yl := fun x σg' H' => ∃ m', m' < m ∧ T.Yl m' x σ σg' H' } σg H1 else T.Fin σ H1
section
variable {T : GT} {st1 : Stmt} {test : Expr} {wbody : List Stmt} {wpos : Pos} {t1 : TS} {tc : TT} {tb : TSY}
theorem GSide.wake (S : GSide T st1 test wbody wpos t1 tc tb) {n : Nat} {s : Shared} (h : T.CW n (T.pk n s) s) : IG (T.cx n s) s.gens [] (T.pk n s).g (T.pk n s).H s :=
  gx_inv S.E h.1 S.lo S.hd h.2.1 S.la S.dat
/-- the loop -/
theorem GSide.loop (S : GSide T st1 test wbody wpos t1 tc tb) {FS : List Frame} (gc : ∀ k s, GCy (T.cx k s) T.X.A.in1 (.whileLoop test wbody [] T.genv) FS id)
    (hend : ∀ k s₀ s, T.FG k s₀ s → Seg (model T.X.prog T.X.w) T.X.A.in1 T.RG T.YG k s₀ (.whileLoop test wbody [] T.genv) (leafOf (.ok .next)) FS s) :
    ∀ (n m : Nat) (σg : L2.St) (H : Hp) (s s₀ : Shared), T.CW n (T.pk n s₀) s₀ → IG (T.cx n s₀) s₀.gens [] σg H s → m ≤ n → T.W m (T.pk n s₀).σ σg H →
      Seg (model T.X.prog T.X.w) T.X.A.in1 T.RG T.YG (n + 1) s₀ (.whileLoop test wbody [] T.genv) ((model T.X.prog T.X.w).den (.whileLoop test wbody [] T.genv)) FS s := by
  intro n
  induction n using Nat.strongRecOn with
  | ind n ihn =>
    intro m
    induction m using Nat.strongRecOn with
    | ind m ihm =>
      intro σg H s s₀ hq I hm hw
      refine seg_whileLoop (prog := T.X.prog) (w := T.X.w) ?_
      rw [(gc n s₀).over]
      refine wpAny_mono ((S.tst s₀ _).run s₀.gens [] s σg H _ I (S.turn m _ σg H hw)) (fun b s' hb => ?_) fun x s' hx => False.elim hx
      obtain ⟨H1, I1, q1⟩ := hb
      cases b with
      | false =>
        rw [if_neg Bool.false_ne_true] at q1 ⊢
        refine seg_execs_nil ?_
        exact hend (n + 1) s₀ s' ⟨σg, H1, I1, q1⟩
      | true =>
        rw [if_pos rfl] at q1 ⊢
        refine (S.bdy s₀ _).run T.X.A.in1 T.RG T.YG (n + 1) s₀ _ FS _ _ id id s₀.gens s' σg H1 _ (gc n s₀) I1 q1 (fun s2 σ2 H2 I2 q2 => ?_) fun u s2 v σ2 H2 I2 r2 q2 => ?_
        · obtain ⟨m', hm', w'⟩ := q2
          exact seg_again rfl (ihm m' hm' σ2 H2 s2 s₀ hq I2 (by omega) w')
        · obtain ⟨m', hm', y'⟩ := q2
          refine ⟨n, rfl, fun kap hk => ?_⟩
          obtain ⟨n', rfl⟩ : ∃ n', n = n' + 1 := ⟨n - 1, by omega⟩
          refine ⟨n', v, σ2, H2, rfl, I2, r2, ⟨m', by omega, y'⟩, hq.2.2.1, fun s'' hc => hk s'' ?_⟩
          have hq' := GT.pk_spec hc
          have hne : n' ≠ T.N0 := by have := hq.2.2.1; omega
          obtain ⟨m2, hm2, w2⟩ := hq'.2.2.2.2 hne
          exact seg_again rfl (ihn n' (Nat.lt_succ_self _) m2 _ _ s'' s'' hq' (S.wake hq') hm2 w2)
/-- from the start -/
theorem GSide.fresh (S : GSide T st1 test wbody wpos t1 tc tb) {s₀ : Shared} (hq : T.CW T.N0 (T.pk T.N0 s₀) s₀) :
    Seg (model T.X.prog T.X.w) T.X.A.in1 T.RG T.YG (T.N0 + 1) s₀ (.func [st1, .While test wbody [] wpos] T.genv) ((model T.X.prog T.X.w).den (.func [st1, .While test wbody [] wpos] T.genv)) [] s₀ := by
  refine seg_func (prog := T.X.prog) (w := T.X.w) (seg_execs_cons (seg_wrap ?_))
  rw [over_func]
  refine wpAny_mono ((S.s1 s₀ (T.pk T.N0 s₀).H).run s₀.gens [] s₀ _ _ _ (S.wake hq) (S.begin _ _ _ (hq.2.2.2.1 rfl))) (fun f s' hs => ?_) fun x s' hx => False.elim hx
  cases f with
  | brk => obtain ⟨_, _, _, q⟩ := hs; exact False.elim q
  | cont => obtain ⟨_, _, _, q⟩ := hs; exact False.elim q
  | ret u => obtain ⟨_, _, _, _, _, q⟩ := hs; exact False.elim q
  | next =>
    obtain ⟨σ1, H1, I1, m, hm, w1⟩ := hs
    refine seg_execs_cons (seg_While fun p => ?_)
    refine S.loop (fun k s => ⟨fun _ _ h => h, (over_loop rfl rfl).trans over_func, rfl, rfl, rfl⟩) (fun k s₁ s hF => ?_) T.N0 m σ1 H1 s' s₀ hq I1 hm w1
    refine seg_leaf (.ok .next) ?_
    exact seg_end (.ok (.ret .none)) (.inl ⟨.inl rfl, hF⟩)
end
end GL
end
section
set_option Elab.async false
set_option linter.all false
set_option maxRecDepth 100000
/-! The layer with generators: a generator is made; a for over it. -/
namespace GL
open PySem PySem.Spec PyProof.Rows L2 GenW
/-- a generator that has not begun -/
def Made (X : Cx) (G : Array GenState) (pins : List (Addr × Obj)) (σ : L2.St) (qual : Str) (sc : Scope) (f : Addr) (cdv : Value) (Ng : List Str) (body : List Stmt) (σg : L2.St) (H : Hp) (u : Value) (s : Shared) : Prop :=
  ∃ (L a : Addr) (g : Nat) (go : Obj) (nm qn : Value), u = .ref a ∧ IG X G pins σ H s ∧ Low X pins L ∧ L < a ∧ Zz X (envOfC qual sc L f cdv) Ng a go σg H s ∧ go.cls = .type "generator" ∧ go.data = .fields #[.int g 0, nm, qn] ∧ go.slots = #[] ∧
    s.gens[g]? = some (.fresh (.func body (envOfC qual sc L f cdv))) ∧ G.size ≤ g
section
variable {X : Cx} {x qual : Str} {st : Stmt} {f : Addr} {fd : FuncData} {N ps : List Str} {k : Nat} {G : Array GenState} {pins : List (Addr × Obj)} {σ : L2.St} {H : Hp} {s : Shared} {us : List Value} {vs : List V} {E : Value → Shared → Prop}
theorem run_gen (F : Fun X.K x qual st f fd) (S : GScope N ps (defScope st)) (hr : Room (k + 1) X.A) (hb : Binds X.K fd ps []) (I : IG X G pins σ H s) (r : Vals vs us) (hl : vs.length = ps.length) :
    wpAny (model X.prog X.w) X.A (call (.ref f) us) (fun u s' => ∃ cdv, Made X G pins σ qual (defScope st) f cdv N (defBody st) (start N vs) H u s') E s := by
  obtain ⟨oc, od, kV, doc, pm, an, cdv, ct, osl, rfl, lk, hcd⟩ := F.ex
  have hl2 : (us ++ []).length = ps.length := by rw [List.append_nil, ← r.length]; exact hl
  have hb' := hb s us I.i.kIn hl2
  rw [List.append_nil] at hb'
  have e0 := I.i.env0
  have KX : X.K.In s.heap := I.i.kIn
  have lim : s.heap.NoLimit := I.i.nolimit
  have hkind : ∀ y ∈ ps.zip us, (defScope st).names.lookup y.1 = some .local ∨ ((defScope st).names.lookup y.1 = some .cell ∧ ((cellsFrom (s.heap.objs.size + 1) (defScope st).names []).lookup y.1).isSome = true) := fun ⟨n, v⟩ hy => by
    rcases S.par n (List.of_mem_zip hy).1 with q | q
    · exact .inl q
    · exact .inr ⟨q, PySem.W.cellsFrom_some _ _ _ (.inl q)⟩
  refine wpAny_call (codeAny_mono (R := fun r s' => ∃ u, r = .ok (.ret u) ∧ Made X G pins σ qual (defScope st) f cdv N (defBody st) (start N vs) H u s') ?_ fun r s' ⟨u, e, q⟩ => by subst e; exact ⟨cdv, q⟩)
  refine codeAny_call_generator hr.depth (KX _ _ lk) rfl S.co S.gen rfl (PySem.W.codeRec_of KX hcd) (hb' _ _ _ _ ?_)
  refine wpAny_newFunctionEnv_cells S.kind hkind fun env he s1 y => ?_
  subst he
  refine ⟨lim.keeps y.toInCall.keep, _, rfl, ?_⟩
  have I1 := inv_startG (E := E0) (qual := qual) (cd := cdv) (f := f) S hr.hd e0 hl r y
  obtain ⟨h1, tk, es1, hk1⟩ := y.done
  have hsz : s.heap.objs.size < s1.heap.objs.size := y.toInCall.ns.lt
  have kp1 : ∀ b o, s.heap.get? b = some o → s1.heap.get? b = some o := y.toInCall.keep
  have os1 : s1.os = s.os := by rw [es1]
  have gen1 : s1.gens = s.gens := by rw [es1]
  have kp2 : ∀ (go : Obj) b o, s.heap.get? b = some o → (s1.heap.push go).get? b = some o := fun go b o e => Heap.get?_push_of_some _ (kp1 b o e)
  have J : Inv X pins σ H { s1 with gens := s1.gens.push (.fresh (.func (defBody st) (envOfC qual (defScope st) s.heap.objs.size f cdv))), toks := s1.toks + 1 + 1, heap := s1.heap.push { cls := .type "generator", data := .fields #[.int s1.gens.size 0, .str x s1.toks, .str qual (s1.toks + 1)] } } :=
    I.i.call' (ch := []) os1 (Un.kept (kp2 _)) (I.i.hok.kept (kp2 _)) (AllBare.push (by rw [gen1]; exact I.i.bare) rfl) fun b z => by simp at z
  obtain ⟨m, hn, hloc⟩ := I1.loc
  refine ⟨s.heap.objs.size, s1.heap.objs.size, s1.gens.size, _, _, _, rfl, ⟨J, ?_⟩, Low.of I.i, hsz, ⟨⟨m, ?_, fun i z v e1 e2 e3 => ?_⟩, I1.free, Heap.get?_push_size _ rfl, I.i.hok.fresh (Nat.le_of_lt hsz), I1.len⟩, rfl, rfl, rfl, ?_, ?_⟩
  · exact Pre.push (by rw [gen1]; exact I.g) _
  · obtain ⟨o, es, ep, ho, q⟩ := hn
    exact ⟨o, es, ep, Heap.get?_push_of_some _ ho, q⟩
  · obtain ⟨u, r', q⟩ := hloc i z v e1 e2 e3
    refine ⟨u, r', ?_⟩
    rcases q with q | ⟨kk, c, e, w'⟩
    · exact .inl q
    · obtain ⟨o, ho, hd⟩ := w'
      exact .inr ⟨kk, c, e, o, Heap.get?_push_of_some _ ho, hd⟩
  · exact Array.getElem?_push_size ..
  · rw [gen1]; exact I.g.size
/-- an expression whose value is a generator that has not begun -/
structure EGen (X : Cx) (e : Expr) (qual : Str) (sc : Scope) (f : Addr) (Ng : List Str) (body : List Stmt) (tg : L2.St → Hp → (L2.St → Hp → Prop) → Prop) : Prop where
  run : ∀ (G : Array GenState) (pins : List (Addr × Obj)) (s : Shared) (σ : L2.St) (H : Hp) (Q : L2.St → Hp → Prop), IG X G pins σ H s → tg σ H Q →
    wpAny (model X.prog X.w) X.A (eval e X.env) (fun u s' => ∃ cdv σg H', Made X G pins σ qual sc f cdv Ng body σg H' u s' ∧ Q σg H') X.xe s
def tGMeth (C : Addr) (m : Str) (N ps : List Str) (ta : TE) (t : TA) : L2.St → Hp → (L2.St → Hp → Prop) → Prop := fun σ H Q => ta σ H fun x H1 => ∃ a dx fs, x = .ref a ∧ H1 a = some (.ins C dx fs) ∧ fs.lookup m = none ∧
  t σ H1 fun vs H2 => (x :: vs).length = ps.length ∧ Q (start N (x :: vs)) H2
theorem eg_gmeth {C : Addr} {m : Str} {o e : Expr} {es : List Expr} {apos pos : Pos} {ta : TE} {t : TA} {pl : Sem Bool} (F : Fun X.K x qual st f fd) (S : GScope N ps (defScope st)) (hr : Room (k + 1) X.A) (he : EG X o ta) (c : Cls X.K C) (hm : Meth X.K C m f) (hb : Binds X.K fd ps []) (ha : AG X (e :: es) t)
    (hst : starEach (e :: es) X.env = (false, eval e X.env) :: starEach es X.env := by rfl) (hpl : (backTo pos (starEach es X.env)).any (·.1) = false := by rfl)
    (ht : eval (.Call (.Attribute o m apos) (e :: es) [] pos) X.env = (do
      let ov ← eval o X.env
      standAt apos.atName
      let (f, first) ← holding [ov] (getMethod ov m pl)
      callWith pos f first (backTo pos (starEach (e :: es) X.env)) (backToKw pos (keywordEach [] X.env))) := by rfl) :
    EGen X (.Call (.Attribute o m apos) (e :: es) [] pos) qual (defScope st) f N (defBody st) (tGMeth C m N ps ta t) := by
  refine ⟨fun G pins s σ H Q I h => PySem.W.methodCall_KW (pl := pl) (thn (he.run G pins s σ H _ I h) fun u s1 ⟨x, H1, I1, rx, a, dx, fs, ex, ea, l, q⟩ => ?_) ht⟩
  subst ex
  obtain rfl : u = Value.ref a := rx
  refine getmeth_ok I1.i ea c hm l (PySem.W.callWith_K (first := [.ref a]) (h₀ := X.base) I.i.ok.mod.kin hm.kp (thn (ha.run pos G pins s1 σ H1 _ I1 q) fun us s2 ⟨vs, H2, I2, r, hl, q2⟩ => ⟨I2.i.kIn, ?_⟩) hst hpl)
  exact wpAny_mono (run_gen (k := k) (us := .ref a :: us) (vs := .ref a :: vs) F S hr hb I2 (.cons rfl r) hl) (fun u s' ⟨cdv, hM⟩ => ⟨cdv, _, _, hM, q2⟩) fun _ _ z => z
end
/-! ### for over a generator -/
section
variable {X : Cx} {pos wpos : Pos}
def tForG (tg : L2.St → Hp → (L2.St → Hp → Prop) → Prop) (i : Nat) (t1 : TS) (tc : TT) (tb : TSY) (tbody : TS) : TS := fun D σ H => tg σ H fun σg H1 =>
  ∃ (N0 : Nat) (J0 : L2.St → L2.St → Hp → Prop) (W : Nat → L2.St → L2.St → Hp → Prop) (Yl : Nat → V → L2.St → L2.St → Hp → Prop) (Fi : L2.St → Hp → Prop), J0 σ σg H1 ∧
    (∀ σ σg H, J0 σ σg H → t1 (only fun σg' H' => ∃ m, m ≤ N0 ∧ W m σ σg' H') σg H) ∧
    (∀ m σ σg H, W m σ σg H → tc σg H fun b H1 => if b = true then tb { nx := fun σg' H' => ∃ m', m' < m ∧ W m' σ σg' H', yl := fun x σg' H' => ∃ m', m' < m ∧ Yl m' x σ σg' H' } σg H1 else Fi σ H1) ∧
    (∀ m x σ σg H, Yl m x σ σg H → tbody { D with nx := fun σ' H' => W m σ' σg H', ct := fun σ' H' => W m σ' σg H', bk := D.nx } (σ.set i (some x)) H) ∧ ∀ σ H, Fi σ H → D.nx σ H
theorem sg_forG (hc : X.calm = true) {iter test : Expr} {st1 : Stmt} {wbody body : List Stmt} {qual : Str} {sc : Scope} {f : Addr} {Ng : List Str} {tg : L2.St → Hp → (L2.St → Hp → Prop) → Prop} {t1 tbody : TS} {tc : TT} {tb : TSY} {i k : Nat} {x : Str} {px : Pos}
    (hr : Room (k + 3) X.A) (hp : PassesOwn (model X.prog X.w) X.A X.env X.xe) (hi : EGen X iter qual sc f Ng [st1, .While test wbody [] wpos] tg) (hN : X.N.Nodup) (hx : X.N[i]? = some x) (hl : X.env.scope.names.lookup x = some .local) (hb : SGs X body tbody)
    (hE : ∀ L cdv, GEnv (envOfC qual sc L f cdv)) (h1 : ∀ L cdv pn s H, SG (gx X (envOfC qual sc L f cdv) Ng pn s H) st1 t1) (h2 : ∀ L cdv pn s H, TGt (gx X (envOfC qual sc L f cdv) Ng pn s H) test tc) (h3 : ∀ L cdv pn s H, SYs (gx X (envOfC qual sc L f cdv) Ng pn s H) wbody tb)
    (hs : ∀ x, foldedSetIterable iter X.env x = pure x := by intro _; rfl) : SG X (.For (.Name x px) iter body [] pos) (tForG tg i t1 tc tb tbody) := by
  refine ⟨fun G pins s σ H D I h => ?_⟩
  refine wpAny_For (thn (hi.run G pins s σ H _ I h) fun v s1 ⟨cdv, σg, H1, ⟨L, a, g, go, nm, qn, ev, I1, lo, hla, z1, gc1, gd1, gs1, hfr, hG⟩, N0, J0, W, Yl, Fi, j0, begin, turn, cons, fin⟩ => ?_) hs
  subst ev
  have hdn := X.A.handled
  have hd : X.A.handled = none := hr.hd
  have dat : ∀ v, go.data ≠ .cell v := fun v q => by rw [gd1] at q; cases q
  have isG : ∀ {h : Heap}, h.get? a = some go → h.IsGen a g := fun {h} e => ⟨go, nm, qn, e, gc1, gd1, gs1⟩
  refine wpAny_pyIter_gen (isG z1.obj) ?_
  let T : GT := { X := X, genv := envOfC qual sc L f cdv, Ng := Ng, a := a, go := go, G := G, pins := pins, N0 := N0, J0 := J0, W := W, Yl := Yl, Fin := Fi }
  have S : GSide T st1 test wbody wpos t1 tc tb := ⟨hE L cdv, hd, lo, hla, dat, fun s H => h1 L cdv _ s H, fun s H => h2 L cdv _ s H, fun s H => h3 L cdv _ s H, begin, turn⟩
  have cw_set : ∀ {n : Nat} {q : Ghost} {s : Shared} {y : GenState}, y.bare = true → T.CW n q s → T.CW n q (s.setGen g y) := fun {n q s y} hy h => ⟨h.1.setGen hG hy, h.2.1.setGen, h.2.2⟩
  refine codeAny_forLoop_any (fun n s' => (∃ q, T.CW n q s') ∧ ∃ gs : GenState, s'.gens[g]? = some gs ∧ gs.Goes (model X.prog X.w) X.A.in1 T.RG T.YG (n + 1) (.send .none) (s'.setGen g .running)) ?_ N0
    ⟨⟨⟨σ, σg, H1⟩, I1, z1, Nat.le_refl _, fun _ => j0, fun ne => absurd rfl ne⟩, _, hfr, rfl, S.fresh (GT.pk_spec ⟨⟨σ, σg, H1⟩, cw_set rfl ⟨I1, z1, Nat.le_refl _, fun _ => j0, fun ne => absurd rfl ne⟩⟩)⟩
  rintro n s3 ⟨⟨q, hq⟩, gs, hgs, hgo⟩
  have hq0 : T.CW n (T.pk n (s3.setGen g .running)) (s3.setGen g .running) := GT.pk_spec ⟨q, cw_set rfl hq⟩
  have lim : s3.heap.NoLimit := hq.1.i.nolimit
  refine wpAny_passesOwn hp (next_genG (P := X.prog) (w := X.w) (A := X.A) (F := T.FG) (Er := fun _ _ => False) (Y := T.YG) (n := n + 1) hd lim hr.depth (isG hq.2.1.obj) hgs hgo (fun v s₁ gs' hbare hY => ?_) (fun s₁ hF h' hk => ?_) fun e s₁ z => z.elim)
  · obtain ⟨n', y, σg', H', hn, J, ry, ⟨m', hm', hy⟩, hN0, wakes⟩ := hY
    have hn' : n = n' + 1 := hn
    subst hn'
    obtain ⟨K1, z2⟩ := gx_back hq0.1 lo J
    have hgsz : g < s₁.gens.size := by
      have h1 : g < s3.gens.size := (Array.getElem?_eq_some_iff.mp hgs).1
      have h2 := J.g.size
      have h3 : (s3.setGen g .running).gens.size = s3.gens.size := setGen_size ..
      rw [h3] at h2
      omega
    have K2 : IG X G pins (T.pk (n' + 1) (s3.setGen g .running)).σ H' (s₁.setGen g gs') := K1.setGen hG hbare
    have z3 : Zz X (envOfC qual sc L f cdv) Ng a go σg' H' (s₁.setGen g gs') := z2.setGen
    have hga : (s₁.setGen g gs').gens[g]? = some gs' := setGen_at hgsz
    refine wpAny_passesOwn hp (go_of z3.obj gc1 gd1 (by decide) ?_)
    obtain ⟨fo, K3, back⟩ := z3.aside (hE L cdv) K2 lo hla dat
    have K4 : IG X (s₁.setGen g gs').gens (pins ++ [(a, go), (L, fo)]) (T.pk (n' + 1) (s3.setGen g .running)).σ H' (s₁.setGen g gs') := ⟨K3.i, Pre.refl _⟩
    refine wpAny_passesOwn hp (wpAny_assign_Name (K4.store hN hx hl ry fun s6 I6 => ?_))
    refine wpAny_passesOwn hp (thn (hb.run _ _ s6 _ H' _ I6 (cons m' y _ σg' H' hy)) fun fl s7 q7 => ?_)
    have ret : ∀ {σ7 : L2.St} {H7 : Hp}, IG X (s₁.setGen g gs').gens (pins ++ [(a, go), (L, fo)]) σ7 H7 s7 → IG X G pins σ7 H7 s7 ∧ Zz X (envOfC qual sc L f cdv) Ng a go σg' H7 s7 ∧ s7.gens[g]? = some gs' := fun J7 => by
      obtain ⟨q1, q2⟩ := back J7
      refine ⟨⟨q1.i, K2.g.trans q1.g⟩, q2, ?_⟩
      rw [q1.g g (by rw [setGen_size]; exact hgsz)]
      exact hga
    have again : (∃ σ7 H7, IG X (s₁.setGen g gs').gens (pins ++ [(a, go), (L, fo)]) σ7 H7 s7 ∧ W m' σ7 σg' H7) →
        ∃ m, m < n' + 1 ∧ (∃ q, T.CW m q s7) ∧ ∃ gs : GenState, s7.gens[g]? = some gs ∧ gs.Goes (model X.prog X.w) X.A.in1 T.RG T.YG (m + 1) (.send .none) (s7.setGen g .running) := fun ⟨σ7, H7, J7, w7⟩ => by
      obtain ⟨r1, r2, r3⟩ := ret J7
      have hle : n' + 1 ≤ N0 := hN0
      have cw : T.CW n' ⟨σ7, σg', H7⟩ s7 := ⟨r1, r2, by show n' ≤ N0; omega, fun e => absurd (show n' = N0 from e) (by omega), fun _ => ⟨m', hm', w7⟩⟩
      exact ⟨n', Nat.lt_succ_self _, ⟨_, cw⟩, gs', r3, wakes _ ⟨_, cw_set rfl cw⟩⟩
    cases fl
    case next => exact again q7
    case cont => exact again q7
    case brk => obtain ⟨σ7, H7, J, q⟩ := q7; exact ⟨σ7, H7, (ret J).1, q⟩
    case ret v => obtain ⟨y7, σ7, H7, J, r7, q⟩ := q7; exact ⟨y7, σ7, H7, (ret J).1, r7, q⟩
  · obtain ⟨σg', H', J, hF⟩ := hF
    have J' : IG (gx X (envOfC qual sc L f cdv) Ng [(a, go)] (s3.setGen g .running) (T.pk n (s3.setGen g .running)).H) (s3.setGen g .running).gens [] σg' H' s₁ := J
    obtain ⟨K1, z2⟩ := gx_back hq0.1 lo J'
    have K2 : IG X G pins (T.pk n (s3.setGen g .running)).σ H' (s₁.setGen g .finished) := K1.setGen hG rfl
    have K3 : IG X G pins (T.pk n (s3.setGen g .running)).σ H' { s₁.setGen g .finished with heap := h' } := K2.kept (t' := (s₁.setGen g .finished).toks) hk
    exact wpAny_execs_nil ⟨_, H', K3, fin _ H' hF⟩
end
end GL
end
section
set_option Elab.async false
/-! Formulas, trees, pairs, derivations: the plain law. -/
namespace AB
inductive At where
  | a | b | c | P
  deriving DecidableEq
inductive Fm where
  | atm (x : At)
  | no
  | imp (f g : Fm)
  | all (f : Fm)
  deriving DecidableEq
/-- a point of a web with all that is beneath, as a tree -/
inductive Tr where
  | node (S : At → Bool) (ch : List Tr)
mutual
def Tr.desc : Tr → List Tr
  | .node _ ch => descs ch
def descs : List Tr → List Tr
  | [] => []
  | t :: r => t :: (t.desc ++ descs r)
end
mutual
def Tr.size : Tr → Nat
  | .node _ ch => sizes ch + 1
def sizes : List Tr → Nat
  | [] => 0
  | t :: r => t.size + sizes r
end
mutual
theorem Tr.desc_lt : ∀ (t u : Tr), u ∈ t.desc → u.size < t.size
  | .node S ch, u, h => by
    have h' : u ∈ descs ch := by simpa [Tr.desc] using h
    have q := descs_le ch u h'
    simp only [Tr.size]; omega
theorem descs_le : ∀ (l : List Tr) (u : Tr), u ∈ descs l → u.size ≤ sizes l
  | [], u, h => by simp [descs] at h
  | t :: r, u, h => by
    simp only [descs, List.mem_cons, List.mem_append] at h
    simp only [sizes]
    rcases h with rfl | h | h
    · omega
    · have := Tr.desc_lt t u h; omega
    · have := descs_le r u h; omega
end
mutual
theorem Tr.desc_trans : ∀ (t u v : Tr), u ∈ t.desc → v ∈ u.desc → v ∈ t.desc
  | .node S ch, u, v, h, g => by
    have h' : u ∈ descs ch := by simpa [Tr.desc] using h
    have q := descs_trans ch u v h' g
    simpa [Tr.desc] using q
theorem descs_trans : ∀ (l : List Tr) (u v : Tr), u ∈ descs l → v ∈ u.desc → v ∈ descs l
  | [], u, v, h, _ => by simp [descs] at h
  | t :: r, u, v, h, g => by
    simp only [descs, List.mem_cons, List.mem_append] at h ⊢
    rcases h with rfl | h | h
    · exact .inr (.inl g)
    · exact .inr (.inl (Tr.desc_trans t u v h g))
    · exact .inr (.inr (descs_trans r u v h g))
end
/-- the trees beneath a list of children: a child, or beneath one -/
theorem mem_descs : ∀ (l : List Tr) (u : Tr), u ∈ descs l ↔ ∃ t ∈ l, u = t ∨ u ∈ t.desc
  | [], u => by simp [descs]
  | t :: r, u => by
    simp only [descs, List.mem_cons, List.mem_append, mem_descs r u]
    constructor
    · rintro (rfl | h | ⟨t', h1, h2⟩)
      · exact ⟨u, .inl rfl, .inl rfl⟩
      · exact ⟨t, .inl rfl, .inr h⟩
      · exact ⟨t', .inr h1, h2⟩
    · rintro ⟨t', rfl | h1, h2⟩
      · rcases h2 with rfl | h2
        · exact .inl rfl
        · exact .inr (.inl h2)
      · exact .inr (.inr ⟨t', h1, h2⟩)
def Tr.at : Tr → At → Bool
  | .node S _ => S
/-- a formula holds at a point -/
def holds : Fm → Tr → Prop
  | .atm x, t => t.at x = true
  | .no, _ => False
  | .imp f g, t => holds f t → holds g t
  | .all f, t => ∀ u ∈ t.desc, holds f u
theorem holds_all_desc {f : Fm} {t u : Tr} (h : holds (.all f) t) (hu : u ∈ t.desc) : holds (.all f) u :=
  fun v hv => h v (Tr.desc_trans t u v hu hv)
abbrev FS := Fm → Prop
/-- a web that parts a pair: all of the left holds, none of the right does -/
def Fals (L R : FS) (t : Tr) : Prop := (∀ F, L F → holds F t) ∧ ∀ F, R F → ¬ holds F t
def Valid (L R : FS) : Prop := ∀ t, ¬ Fals L R t
/-- the left beneath -/
def lbS (L : FS) : FS := fun F => (L F ∧ ∃ G, F = .all G) ∨ L (.all F)
/-- the pair beneath, for all G on the right -/
def bnL (L : FS) (G : Fm) : FS := fun F => lbS L F ∨ F = .all G
def bnR (G : Fm) : FS := fun F => F = G
/-- the last way is right -/
theorem beneath_sound {L R : FS} {G : Fm} (hR : R (.all G)) (h : Valid (bnL L G) (bnR G)) : Valid L R := by
  intro t ⟨hl, hr⟩
  have key : ∀ (n : Nat) (u : Tr), u.size ≤ n → u ∈ t.desc → holds G u := by
    intro n
    induction n with
    | zero => intro u hn; cases u; simp only [Tr.size] at hn; omega
    | succ n ih =>
      intro u hn hu
      refine Classical.byContradiction fun hc => h u ⟨fun F hF => ?_, fun F hF => by rw [show F = G from hF]; exact hc⟩
      rcases hF with (⟨hF, K, rfl⟩ | hF) | rfl
      · exact holds_all_desc (hl _ hF) hu
      · exact hl _ hF u hu
      · intro v hv
        have := Tr.desc_lt u v hv
        exact ih v (by omega) (Tr.desc_trans t u v hu hv)
  exact hr _ hR fun u hu => key u.size u (Nat.le_refl _) hu
/-- no if among them -/
def NoIf (L : FS) : Prop := ∀ f g, ¬ L (.imp f g)
/-- a pair without ifs to which nothing applies has a web, if all pairs beneath have -/
theorem leaf_complete {L R : FS} (hL : NoIf L) (hR : NoIf R) (hc : ∀ F, L F → ¬ R F) (hn : ¬ L .no) (as : List Fm) (has : ∀ G, R (.all G) → G ∈ as)
    (h : ∀ G, R (.all G) → ∃ u, Fals (bnL L G) (bnR G) u) : ∃ t, Fals L R t := by
  -- one web for each all-formula of the right
  have mk : ∀ l : List Fm, ∃ ch : List Tr, (∀ G ∈ l, R (.all G) → ∃ u ∈ ch, Fals (bnL L G) (bnR G) u) ∧ ∀ u ∈ ch, ∃ G, Fals (bnL L G) (bnR G) u := by
    intro l
    induction l with
    | nil => exact ⟨[], by simp, by simp⟩
    | cons G l ih =>
      obtain ⟨ch, h1, h2⟩ := ih
      by_cases hG : R (.all G)
      · obtain ⟨u, hu⟩ := h G hG
        refine ⟨u :: ch, fun K hK hRK => ?_, fun v hv => ?_⟩
        · rcases List.mem_cons.mp hK with rfl | hK
          · exact ⟨u, List.mem_cons_self, hu⟩
          · obtain ⟨v, hv, e⟩ := h1 K hK hRK
            exact ⟨v, List.mem_cons_of_mem _ hv, e⟩
        · rcases List.mem_cons.mp hv with rfl | hv
          · exact ⟨G, hu⟩
          · exact h2 v hv
      · refine ⟨ch, fun K hK hRK => ?_, h2⟩
        rcases List.mem_cons.mp hK with rfl | hK
        · exact absurd hRK hG
        · exact h1 K hK hRK
  obtain ⟨ch, h1, h2⟩ := mk as
  refine ⟨.node (fun x => @decide (L (.atm x)) (Classical.propDecidable _)) ch, fun F hF => ?_, fun F hF hh => ?_⟩
  · cases F with
    | atm x => show @decide _ (Classical.propDecidable _) = true; exact @decide_eq_true _ (Classical.propDecidable _) hF
    | no => exact absurd hF hn
    | imp f g => exact absurd hF (hL f g)
    | all G =>
      intro u hu
      have hu' : u ∈ descs ch := by simpa [Tr.desc] using hu
      obtain ⟨v, hv, e⟩ := (mem_descs ch u).mp hu'
      obtain ⟨K, hK, _⟩ := h2 v hv
      have g1 : holds G v := hK _ (.inl (.inr hF))
      have g2 : holds (.all G) v := hK _ (.inl (.inl ⟨hF, G, rfl⟩))
      rcases e with rfl | e
      · exact g1
      · exact g2 u e
  · cases F with
    | atm x => exact hc _ (@of_decide_eq_true _ (Classical.propDecidable _) (show @decide (L (.atm x)) (Classical.propDecidable _) = true from hh)) hF
    | no => exact hh
    | imp f g => exact absurd hF (hR f g)
    | all G =>
      obtain ⟨u, hu, h3⟩ := h1 G (has G hF) hF
      exact h3.2 G rfl (hh u (by show u ∈ (Tr.node _ ch).desc; simp only [Tr.desc]; exact (mem_descs ch u).mpr ⟨u, hu, .inl rfl⟩))

/-! ### derivations -/
inductive Drv where
  | same (F : Fm)
  | no
  | left (F : Fm) (d e : Drv)
  | right (F : Fm) (d : Drv)
  | beneath (F : Fm) (d : Drv)
def nears (F : Fm) (L : List Fm) : List Fm := F :: L.flatMap fun K => match K with | .all G => [.all G, G] | _ => []
/-- whether it is a derivation of the pair, step by step -/
def isDrv : List Fm → List Fm → Drv → Bool
  | L, R, .same F => decide (F ∈ L) && decide (F ∈ R)
  | L, _, .no => decide (Fm.no ∈ L)
  | L, R, .left F d e => match F with
    | .imp G H => decide (.imp G H ∈ L) && (isDrv (L.filter (· ≠ .imp G H)) (R ++ [G]) d && isDrv (L.filter (· ≠ .imp G H) ++ [H]) R e)
    | _ => false
  | L, R, .right F d => match F with
    | .imp G H => decide (.imp G H ∈ R) && isDrv (L ++ [G]) (R.filter (· ≠ .imp G H) ++ [H]) d
    | _ => false
  | L, R, .beneath F d => match F with
    | .all G => decide (.all G ∈ R) && isDrv (nears (.all G) L) [G] d
    | _ => false
def Drv.depth : Drv → Nat
  | .same _ => 1
  | .no => 1
  | .left _ d e => max d.depth e.depth + 1
  | .right _ d => d.depth + 1
  | .beneath _ d => d.depth + 1
/-- how many last ways stand within one another -/
def Drv.bn : Drv → Nat
  | .same _ => 0
  | .no => 0
  | .left _ d e => max d.bn e.bn
  | .right _ d => d.bn
  | .beneath _ d => d.bn + 1
/-- two lists with the same members -/
def Eqv (L L' : List Fm) : Prop := ∀ F, F ∈ L ↔ F ∈ L'
theorem Eqv.filter {L L' : List Fm} (h : Eqv L L') (p : Fm → Bool) : Eqv (L.filter p) (L'.filter p) := fun F => by
  simp only [List.mem_filter, h F]
theorem Eqv.snoc {L L' : List Fm} (h : Eqv L L') (G : Fm) : Eqv (L ++ [G]) (L' ++ [G]) := fun F => by
  simp only [List.mem_append, h F]
theorem mem_nears {F K : Fm} {L : List Fm} : K ∈ nears F L ↔ K = F ∨ (K ∈ L ∧ ∃ G, K = .all G) ∨ .all K ∈ L := by
  unfold nears
  simp only [List.mem_cons, List.mem_flatMap]
  constructor
  · rintro (h | ⟨M, hM, h⟩)
    · exact .inl h
    · cases M with
      | all G =>
        simp at h
        rcases h with rfl | rfl
        · exact .inr (.inl ⟨hM, G, rfl⟩)
        · exact .inr (.inr hM)
      | _ => simp at h
  · rintro (h | ⟨hK, G, rfl⟩ | h)
    · exact .inl h
    · exact .inr ⟨.all G, hK, by simp⟩
    · exact .inr ⟨.all K, h, by simp⟩
theorem Eqv.nears {L L' : List Fm} (h : Eqv L L') (F : Fm) : Eqv (nears F L) (nears F L') := fun K => by
  rw [mem_nears, mem_nears, h K, h (.all K)]
/-- only the members count -/
theorem isDrv_eqv : ∀ (d : Drv) {L L' R R' : List Fm}, Eqv L L' → Eqv R R' → isDrv L R d = isDrv L' R' d
  | .same F, L, L', R, R', hl, hr => by simp only [isDrv, hl F, hr F]
  | .no, L, L', R, R', hl, hr => by simp only [isDrv, hl .no]
  | .left F d e, L, L', R, R', hl, hr => by
    cases F with
    | imp G H =>
      simp only [isDrv, hl (.imp G H)]
      rw [isDrv_eqv d (hl.filter _) (hr.snoc G), isDrv_eqv e ((hl.filter _).snoc H) hr]
    | _ => rfl
  | .right F d, L, L', R, R', hl, hr => by
    cases F with
    | imp G H =>
      simp only [isDrv, hr (.imp G H)]
      rw [isDrv_eqv d (hl.snoc G) ((hr.filter _).snoc H)]
    | _ => rfl
  | .beneath F d, L, L', R, R', hl, hr => by
    cases F with
    | all G =>
      simp only [isDrv, hr (.all G)]
      rw [isDrv_eqv d (hl.nears _) (fun _ => Iff.rfl)]
    | _ => rfl
end AB
end
section
set_option Elab.async false
/-! Sets of formulas as bits. -/
namespace AB
/-- the least bit -/
def low (n : Nat) : Nat := n - (n &&& (n - 1))
theorem low_zero : low 0 = 0 := rfl
theorem and_pred_odd (m : Nat) : (2 * m + 1) &&& (2 * m) = 2 * m := by
  apply Nat.eq_of_testBit_eq
  intro i
  rw [Nat.testBit_and]
  cases i with
  | zero => simp [Nat.testBit_zero]
  | succ i =>
    rw [Nat.testBit_succ, Nat.testBit_succ]
    have h1 : (2 * m + 1) / 2 = m := by omega
    have h2 : (2 * m) / 2 = m := by omega
    rw [h1, h2, Bool.and_self]
theorem and_pred_even {m : Nat} (hm : 0 < m) : (2 * m) &&& (2 * m - 1) = 2 * (m &&& (m - 1)) := by
  apply Nat.eq_of_testBit_eq
  intro i
  rw [Nat.testBit_and]
  cases i with
  | zero => simp [Nat.testBit_zero]
  | succ i =>
    rw [Nat.testBit_succ, Nat.testBit_succ, Nat.testBit_succ]
    have h1 : (2 * m - 1) / 2 = m - 1 := by omega
    have h2 : (2 * m) / 2 = m := by omega
    have h3 : (2 * (m &&& (m - 1))) / 2 = m &&& (m - 1) := by omega
    rw [h1, h2, h3, Nat.testBit_and]
theorem low_odd (m : Nat) : low (2 * m + 1) = 1 := by
  unfold low
  rw [Nat.add_sub_cancel, and_pred_odd]; omega
theorem low_even {m : Nat} (hm : 0 < m) : low (2 * m) = 2 * low m := by
  unfold low
  rw [and_pred_even hm]; omega
theorem low_spec (n : Nat) (h : 0 < n) : ∃ i, low n = 2 ^ i ∧ n.testBit i = true := by
  induction n using Nat.strongRecOn with
  | ind n ih =>
    rcases Nat.mod_two_eq_zero_or_one n with e | e
    · obtain ⟨m, rfl⟩ : ∃ m, n = 2 * m := ⟨n / 2, by omega⟩
      have hm : 0 < m := by omega
      obtain ⟨i, h1, h2⟩ := ih m (by omega) hm
      refine ⟨i + 1, by rw [low_even hm, h1, Nat.pow_succ, Nat.mul_comm], ?_⟩
      rw [Nat.testBit_succ, show (2 * m) / 2 = m by omega]; exact h2
    · obtain ⟨m, rfl⟩ : ∃ m, n = 2 * m + 1 := ⟨n / 2, by omega⟩
      refine ⟨0, by rw [low_odd] <;> rfl, ?_⟩
      simp [Nat.testBit_zero]
theorem low_pos {n : Nat} (h : 0 < n) : 0 < low n := by
  obtain ⟨i, e, _⟩ := low_spec n h
  rw [e]; exact Nat.two_pow_pos i
theorem tb_pow {i j : Nat} : (2 ^ i).testBit j = decide (i = j) := Nat.testBit_two_pow
theorem tb_or (n i j : Nat) : (n ||| 2 ^ i).testBit j = (n.testBit j || decide (i = j)) := by rw [Nat.testBit_or, tb_pow]
theorem tb_xor (n i j : Nat) : (n ^^^ 2 ^ i).testBit j = (n.testBit j ^^ decide (i = j)) := by rw [Nat.testBit_xor, tb_pow]
theorem xor_lt {n i : Nat} (h : n.testBit i = true) : n ^^^ 2 ^ i < n := by
  have hp := Nat.two_pow_pos i
  have e : (n ^^^ 2 ^ i) + 2 ^ i = n := by
    have d : (n ^^^ 2 ^ i) &&& 2 ^ i = 0 := by
      apply Nat.eq_of_testBit_eq
      intro j
      rw [Nat.testBit_and, tb_xor, tb_pow, Nat.zero_testBit]
      by_cases e : i = j
      · subst e; simp [h]
      · simp [e]
    have o : (n ^^^ 2 ^ i) ||| 2 ^ i = n := by
      apply Nat.eq_of_testBit_eq
      intro j
      rw [Nat.testBit_or, tb_xor, tb_pow]
      by_cases e : i = j
      · subst e; simp [h]
      · simp [e]
    have key : ∀ a b : Nat, (a ||| b) + (a &&& b) = a + b := by
      intro a
      induction a using Nat.strongRecOn with
      | ind a ih =>
        intro b
        by_cases h0 : a = 0
        · subst h0; simp
        · have q := ih (a / 2) (by omega) (b / 2)
          rw [← Nat.or_div_two, ← Nat.and_div_two] at q
          have m1 := @Nat.or_mod_two_eq_one a b
          have m2 := @Nat.and_mod_two_eq_one a b
          omega
    have q := key (n ^^^ 2 ^ i) (2 ^ i)
    rw [d, o] at q; omega
  omega
/-- a set of formulas of a table -/
def S (T : List Fm) (n : Nat) : FS := fun F => ∃ i : Nat, n.testBit i = true ∧ T[i]? = some F
def ix (T : List Fm) (F : Fm) : Nat := T.idxOf F
theorem ix_get {T : List Fm} {F : Fm} (h : F ∈ T) : T[ix T F]? = some F := by
  unfold ix
  have h1 : T.idxOf F < T.length := List.idxOf_lt_length_iff.mpr h
  rw [List.getElem?_eq_getElem h1, List.getElem_idxOf]
theorem ix_lt {T : List Fm} {F : Fm} (h : F ∈ T) : ix T F < T.length := List.idxOf_lt_length_iff.mpr h
theorem ix_of {T : List Fm} (nd : T.Nodup) {i : Nat} {F : Fm} (h : T[i]? = some F) : ix T F = i := by
  obtain ⟨hi, e⟩ := List.getElem?_eq_some_iff.mp h
  have hm : F ∈ T := List.mem_of_getElem? h
  have h2 := ix_get hm
  obtain ⟨hj, e2⟩ := List.getElem?_eq_some_iff.mp h2
  exact (List.getElem_inj nd).mp (e2.trans e.symm)
theorem ix_append {T U : List Fm} {F : Fm} (h : F ∈ T) : ix (T ++ U) F = ix T F := by unfold ix; rw [List.idxOf_append, if_pos h]
def ins (L : FS) (F : Fm) : FS := fun K => L K ∨ K = F
def del (L : FS) (F : Fm) : FS := fun K => L K ∧ K ≠ F
section
variable {T : List Fm} {n i : Nat} {F : Fm}
theorem S_or (h : T[i]? = some F) (K : Fm) : S T (n ||| 2 ^ i) K ↔ ins (S T n) F K := by
  constructor
  · rintro ⟨j, h1, h2⟩
    rw [tb_or, Bool.or_eq_true, decide_eq_true_eq] at h1
    rcases h1 with h1 | rfl
    · exact .inl ⟨j, h1, h2⟩
    · rw [h] at h2; exact .inr (Option.some.inj h2).symm
  · rintro (⟨j, h1, h2⟩ | rfl)
    · exact ⟨j, by rw [tb_or, h1]; rfl, h2⟩
    · exact ⟨i, by rw [tb_or]; simp, h⟩
theorem S_xor (nd : T.Nodup) (hb : n.testBit i = true) (h : T[i]? = some F) (K : Fm) : S T (n ^^^ 2 ^ i) K ↔ del (S T n) F K := by
  constructor
  · rintro ⟨j, h1, h2⟩
    rw [tb_xor] at h1
    by_cases e : i = j
    · subst e; simp [hb] at h1
    · simp [e] at h1
      refine ⟨⟨j, h1, h2⟩, fun z => e ?_⟩
      subst z
      rw [← ix_of nd h, ← ix_of nd h2]
  · rintro ⟨⟨j, h1, h2⟩, ne⟩
    refine ⟨j, ?_, h2⟩
    have e : i ≠ j := by
      rintro rfl
      rw [h] at h2; exact ne (Option.some.inj h2).symm
    rw [tb_xor]; simp [e, h1]
end
theorem Fals_congr {L L' R R' : FS} (hl : ∀ K, L K ↔ L' K) (hr : ∀ K, R K ↔ R' K) (t : Tr) : Fals L R t ↔ Fals L' R' t :=
  ⟨fun ⟨a, b⟩ => ⟨fun F h => a F ((hl F).mpr h), fun F h => b F ((hr F).mpr h)⟩, fun ⟨a, b⟩ => ⟨fun F h => a F ((hl F).mp h), fun F h => b F ((hr F).mp h)⟩⟩
theorem imp_ne_l {G H : Fm} : G ≠ .imp G H := fun e => by
  have := congrArg sizeOf e
  simp at this; omega
theorem imp_ne_r {G H : Fm} : H ≠ .imp G H := fun e => by
  have := congrArg sizeOf e
  simp at this
/-! ### the ways, by what they say -/
theorem fals_right {L R : FS} {G H : Fm} (h : R (.imp G H)) (t : Tr) : Fals L R t ↔ Fals (ins L G) (ins (del R (.imp G H)) H) t := by
  constructor
  · rintro ⟨a, b⟩
    have q := b _ h
    have g : holds G t := Classical.byContradiction fun z => q fun y => absurd y z
    have k : ¬ holds H t := fun y => q fun _ => y
    refine ⟨fun F hF => ?_, fun F hF => ?_⟩
    · rcases hF with hF | rfl
      · exact a F hF
      · exact g
    · rcases hF with hF | rfl
      · exact b F hF.1
      · exact k
  · rintro ⟨a, b⟩
    refine ⟨fun F hF => a F (.inl hF), fun F hF => ?_⟩
    by_cases e : F = .imp G H
    · subst e
      exact fun y => b H (.inr rfl) (y (a G (.inr rfl)))
    · exact b F (.inl ⟨hF, e⟩)
theorem fals_left {L R : FS} {G H : Fm} (h : L (.imp G H)) (t : Tr) : Fals L R t ↔ Fals (del L (.imp G H)) (ins R G) t ∨ Fals (ins (del L (.imp G H)) H) R t := by
  constructor
  · rintro ⟨a, b⟩
    by_cases g : holds G t
    · refine .inr ⟨fun F hF => ?_, b⟩
      rcases hF with hF | rfl
      · exact a F hF.1
      · exact a _ h g
    · refine .inl ⟨fun F hF => a F hF.1, fun F hF => ?_⟩
      rcases hF with hF | rfl
      · exact b F hF
      · exact g
  · have back : (∀ F, del L (.imp G H) F → holds F t) → holds (.imp G H) t → ∀ F, L F → holds F t := fun a q F hF => by
      by_cases e : F = .imp G H
      · rw [e]; exact q
      · exact a F ⟨hF, e⟩
    rintro (⟨a, b⟩ | ⟨a, b⟩)
    · exact ⟨back a fun y => absurd y (b G (.inr rfl)), fun F hF => b F (.inl hF)⟩
    · exact ⟨back (fun F hF => a F (.inl hF)) fun _ => a H (.inr rfl), b⟩
/-- an if of the left that leaves one way alone -/
theorem fals_drop {L R : FS} {G H : Fm} (h : L (.imp G H)) (c : G = H ∨ R G ∨ L H) (t : Tr) : Fals L R t ↔ Fals (del L (.imp G H)) R t := by
  constructor
  · rintro ⟨a, b⟩
    exact ⟨fun F hF => a F hF.1, b⟩
  · rintro ⟨a, b⟩
    have q : holds (.imp G H) t := by
      rcases c with rfl | c | c
      · exact fun y => y
      · exact fun y => absurd y (b G c)
      · exact fun _ => a H ⟨c, imp_ne_r⟩
    refine ⟨fun F hF => ?_, b⟩
    by_cases e : F = .imp G H
    · rw [e]; exact q
    · exact a F ⟨hF, e⟩
theorem fals_leftH {L R : FS} {G H : Fm} (h : L (.imp G H)) (c : L G) (t : Tr) : Fals L R t ↔ Fals (ins (del L (.imp G H)) H) R t := by
  rw [fals_left h]
  constructor
  · rintro (⟨a, b⟩ | q)
    · exact absurd (a G ⟨c, imp_ne_l⟩) (b G (.inr rfl))
    · exact q
  · exact .inr
theorem fals_leftG {L R : FS} {G H : Fm} (h : L (.imp G H)) (c : R H) (t : Tr) : Fals L R t ↔ Fals (del L (.imp G H)) (ins R G) t := by
  rw [fals_left h]
  constructor
  · rintro (q | ⟨a, b⟩)
    · exact q
    · exact absurd (a H (.inr rfl)) (b H c)
  · exact .inl
end AB
end
section
set_option Elab.async false
/-! Measures, the ways as steps, the walk over the leaves. -/
namespace AB
/-- the ifs of a formula that stand outside of all all-parts -/
def ifw : Fm → Nat
  | .imp f g => ifw f + ifw g + 1
  | _ => 0
/-- how many branches a formula makes: on the left (true), on the right (false) -/
def br : Bool → Fm → Nat
  | true, .imp f g => br false f + br true g
  | false, .imp f g => br true f * br false g
  | _, _ => 1
theorem br_pos : ∀ (F : Fm) (s : Bool), 1 ≤ br s F
  | .imp f g, true => by have := br_pos f false; simp only [br]; omega
  | .imp f g, false => by
    have a := br_pos f true
    have b := br_pos g false
    simp only [br]
    exact Nat.mul_le_mul a b
  | .atm _, true => Nat.le_refl _
  | .atm _, false => Nat.le_refl _
  | .no, true => Nat.le_refl _
  | .no, false => Nat.le_refl _
  | .all _, true => Nat.le_refl _
  | .all _, false => Nat.le_refl _
theorem cube_add {x y X Y : Nat} {p q : Nat} (hX : X = 3 ^ (p + 1)) (hY : Y = 3 ^ (q + 1)) (hx : 1 ≤ x) (hy : 1 ≤ y) (h1 : x ^ 3 ≤ X) (h2 : y ^ 3 ≤ Y) : (x + y) ^ 3 ≤ X * Y := by
  have X3 : 3 ≤ X := by rw [hX, Nat.pow_succ]; have := Nat.pow_pos (n := p) (show 0 < 3 by decide); omega
  have Y3 : 3 ≤ Y := by rw [hY, Nat.pow_succ]; have := Nat.pow_pos (n := q) (show 0 < 3 by decide); omega
  -- one of them is 1
  have one : ∀ {y Y q : Nat} {X : Nat}, 3 ≤ X → Y = 3 ^ (q + 1) → 3 ≤ Y → 1 ≤ y → y ^ 3 ≤ Y → (1 + y) ^ 3 ≤ X * Y := by
    intro y Y q X hX hY hY3 hy h
    match y, hy with
    | 1, _ =>
      calc (1 + 1) ^ 3 ≤ 3 * 3 := by decide
        _ ≤ X * Y := Nat.mul_le_mul hX hY3
    | 2, _ =>
      have hY9 : 9 ≤ Y := by
        match q with
        | 0 => rw [hY] at h; simp at h
        | q + 1 => rw [hY, Nat.pow_succ, Nat.pow_succ]; have := Nat.pow_pos (n := q) (show 0 < 3 by decide); omega
      calc (1 + 2) ^ 3 ≤ 3 * 9 := by decide
        _ ≤ X * Y := Nat.mul_le_mul hX hY9
    | y + 3, _ =>
      have e : (1 + (y + 3)) ^ 3 ≤ 3 * (y + 3) ^ 3 := by
        have e1 : (1 + (y + 3)) ^ 3 = (y + 3) ^ 3 + 3 * (y + 3) ^ 2 + 3 * (y + 3) + 1 := by
          simp only [Nat.pow_succ, Nat.pow_zero, Nat.one_mul]
          simp only [Nat.mul_add, Nat.add_mul, Nat.mul_one, Nat.one_mul]
          omega
        have e2 : 3 * (y + 3) ^ 2 ≤ (y + 3) ^ 3 := by
          rw [Nat.pow_succ (n := y + 3) (m := 2), Nat.mul_comm]
          exact Nat.mul_le_mul_left _ (by omega)
        have e3 : 3 * (y + 3) + 1 ≤ (y + 3) ^ 3 := by
          have a : (y + 3) ^ 3 = (y + 3) * (y + 3) * (y + 3) := by simp only [Nat.pow_succ, Nat.pow_zero, Nat.one_mul]
          have b : 9 * (y + 3) ≤ (y + 3) * (y + 3) * (y + 3) := Nat.mul_le_mul_right _ (Nat.mul_le_mul (show 3 ≤ y + 3 by omega) (show 3 ≤ y + 3 by omega))
          omega
        omega
      calc (1 + (y + 3)) ^ 3 ≤ 3 * (y + 3) ^ 3 := e
        _ ≤ X * Y := Nat.mul_le_mul hX h
  by_cases e1 : x = 1
  · subst e1
    exact one X3 hY Y3 hy h2
  · by_cases e2 : y = 1
    · subst e2
      rw [Nat.add_comm, Nat.mul_comm]
      exact one Y3 hX X3 hx h1
    · have a : x + y ≤ x * y := by
        obtain ⟨u, rfl⟩ : ∃ u, x = u + 2 := ⟨x - 2, by omega⟩
        obtain ⟨v, rfl⟩ : ∃ v, y = v + 2 := ⟨y - 2, by omega⟩
        simp only [Nat.mul_add, Nat.add_mul]; omega
      calc (x + y) ^ 3 ≤ (x * y) ^ 3 := Nat.pow_le_pow_left a 3
        _ = x ^ 3 * y ^ 3 := Nat.mul_pow x y 3
        _ ≤ X * Y := Nat.mul_le_mul h1 h2
theorem br_cube : ∀ (F : Fm) (s : Bool), (br s F) ^ 3 ≤ 3 ^ (ifw F + 1)
  | .imp f g, true => by
    have a := br_cube f false
    have b := br_cube g true
    have e : 3 ^ (ifw f + 1) * 3 ^ (ifw g + 1) = 3 ^ (ifw f + ifw g + 1 + 1) := by rw [← Nat.pow_add]; congr 1; omega
    simp only [br, ifw]
    rw [← e]
    exact cube_add rfl rfl (br_pos _ _) (br_pos _ _) a b
  | .imp f g, false => by
    have a := br_cube f true
    have b := br_cube g false
    have e : 3 ^ (ifw f + 1) * 3 ^ (ifw g + 1) = 3 ^ (ifw f + ifw g + 1 + 1) := by rw [← Nat.pow_add]; congr 1; omega
    simp only [br, ifw]
    rw [← e, Nat.mul_pow]
    exact Nat.mul_le_mul a b
  | .atm _, true => by simp [br, ifw]
  | .atm _, false => by simp [br, ifw]
  | .no, true => by simp [br, ifw]
  | .no, false => by simp [br, ifw]
  | .all _, true => by simp [br, ifw]
  | .all _, false => by simp [br, ifw]

/-! ### sums and products over a set of bits -/
def sumB (f : Nat → Nat) (n : Nat) : Nat → Nat
  | 0 => 0
  | k + 1 => sumB f n k + if n.testBit k = true then f k else 0
def prodB (f : Nat → Nat) (n : Nat) : Nat → Nat
  | 0 => 1
  | k + 1 => prodB f n k * if n.testBit k = true then f k else 1
theorem sumB_or (f : Nat → Nat) (n i : Nat) : ∀ k, sumB f (n ||| 2 ^ i) k ≤ sumB f n k + if i < k then f i else 0
  | 0 => by simp [sumB]
  | k + 1 => by
    have ih := sumB_or f n i k
    simp only [sumB, tb_or]
    by_cases e : i = k
    · subst e
      rw [if_neg (Nat.lt_irrefl i)] at ih
      rw [if_pos (Nat.lt_succ_self i)]
      simp only [decide_true, Bool.or_true, if_true]
      split <;> omega
    · simp only [decide_eq_false e, Bool.or_false]
      have e1 : (i < k + 1) = (i < k) := propext ⟨fun h => by omega, fun h => by omega⟩
      simp only [e1]
      omega
theorem sumB_xor (f : Nat → Nat) {n i : Nat} (h : n.testBit i = true) : ∀ k, sumB f (n ^^^ 2 ^ i) k + (if i < k then f i else 0) = sumB f n k
  | 0 => by simp [sumB]
  | k + 1 => by
    have ih := sumB_xor f h k
    simp only [sumB, tb_xor]
    by_cases e : i = k
    · subst e
      rw [if_neg (Nat.lt_irrefl i)] at ih
      rw [if_pos (Nat.lt_succ_self i)]
      simp [h]; omega
    · simp only [decide_eq_false e, Bool.xor_false]
      have e1 : (i < k + 1) = (i < k) := propext ⟨fun h => by omega, fun h => by omega⟩
      simp only [e1]
      omega
theorem prodB_pos {f : Nat → Nat} (hf : ∀ i, 1 ≤ f i) (n : Nat) : ∀ k, 1 ≤ prodB f n k
  | 0 => Nat.le_refl _
  | k + 1 => by
    have ih := prodB_pos hf n k
    simp only [prodB]
    split
    · exact Nat.mul_le_mul ih (hf k)
    · omega
theorem prodB_or {f : Nat → Nat} (hf : ∀ i, 1 ≤ f i) (n i : Nat) : ∀ k, prodB f (n ||| 2 ^ i) k ≤ prodB f n k * if i < k then f i else 1
  | 0 => by simp [prodB]
  | k + 1 => by
    have ih := prodB_or hf n i k
    simp only [prodB, tb_or]
    by_cases e : i = k
    · subst e
      rw [if_neg (Nat.lt_irrefl i)] at ih
      rw [if_pos (Nat.lt_succ_self i)]
      simp only [decide_true, Bool.or_true, if_true]
      split
      · have := hf i
        calc prodB f (n ||| 2 ^ i) i * f i ≤ prodB f n i * f i := Nat.mul_le_mul_right _ (by omega)
          _ = prodB f n i * f i * 1 := by omega
          _ ≤ prodB f n i * f i * f i := Nat.mul_le_mul_left _ this
      · have : prodB f (n ||| 2 ^ i) i ≤ prodB f n i := by omega
        calc prodB f (n ||| 2 ^ i) i * f i ≤ prodB f n i * f i := Nat.mul_le_mul_right _ this
          _ = prodB f n i * 1 * f i := by rw [Nat.mul_one]
    · simp only [decide_eq_false e, Bool.or_false]
      have e1 : (i < k + 1) = (i < k) := propext ⟨fun h => by omega, fun h => by omega⟩
      simp only [e1]
      calc prodB f (n ||| 2 ^ i) k * (if n.testBit k = true then f k else 1) ≤ (prodB f n k * if i < k then f i else 1) * (if n.testBit k = true then f k else 1) := Nat.mul_le_mul_right _ ih
        _ = _ := by rw [Nat.mul_right_comm]
theorem prodB_xor (f : Nat → Nat) {n i : Nat} (h : n.testBit i = true) : ∀ k, prodB f (n ^^^ 2 ^ i) k * (if i < k then f i else 1) = prodB f n k
  | 0 => by simp [prodB]
  | k + 1 => by
    have ih := prodB_xor f h k
    simp only [prodB, tb_xor]
    by_cases e : i = k
    · subst e
      rw [if_neg (Nat.lt_irrefl i), Nat.mul_one] at ih
      rw [if_pos (Nat.lt_succ_self i)]
      simp [h, ih]
    · simp only [decide_eq_false e, Bool.xor_false]
      have e1 : (i < k + 1) = (i < k) := propext ⟨fun h => by omega, fun h => by omega⟩
      simp only [e1]
      rw [Nat.mul_right_comm, ih]

/-! ### a table -/
structure TabC (T : List Fm) : Prop where
  nd : T.Nodup
  imp : ∀ G H, .imp G H ∈ T → G ∈ T ∧ H ∈ T
  all : ∀ G, .all G ∈ T → G ∈ T
def fI (f : Fm → Nat) (d : Nat) (T : List Fm) (i : Nat) : Nat := match T[i]? with
  | some F => f F
  | none => d
theorem fI_get {f : Fm → Nat} {d : Nat} {T : List Fm} {i : Nat} {F : Fm} (h : T[i]? = some F) : fI f d T i = f F := by unfold fI; rw [h]
def wt (T : List Fm) (l r : Nat) : Nat := sumB (fI ifw 0 T) l T.length + sumB (fI ifw 0 T) r T.length
def ph (T : List Fm) (l r : Nat) : Nat := prodB (fI (br true) 1 T) l T.length * prodB (fI (br false) 1 T) r T.length
def nb (T : List Fm) (l r : Nat) : Nat := ph T l r * (wt T l r + 1)
theorem fI_pos (s : Bool) (T : List Fm) (i : Nat) : 1 ≤ fI (br s) 1 T i := by
  unfold fI
  split
  · exact br_pos _ _
  · exact Nat.le_refl _
theorem ph_pos (T : List Fm) (l r : Nat) : 1 ≤ ph T l r := Nat.mul_le_mul (prodB_pos (fI_pos true T) l _) (prodB_pos (fI_pos false T) r _)
theorem nb_pos (T : List Fm) (l r : Nat) : 1 ≤ nb T l r := by
  have := ph_pos T l r
  unfold nb
  exact Nat.mul_le_mul this (Nat.succ_le_succ (Nat.zero_le _))
def WB (T : List Fm) (n : Nat) : Prop := n < 2 ^ T.length
theorem WB.lt {T : List Fm} {n i : Nat} (h : WB T n) (b : n.testBit i = true) : i < T.length := by
  refine Classical.byContradiction fun c => ?_
  have : n < 2 ^ i := Nat.lt_of_lt_of_le h (Nat.pow_le_pow_right (by decide) (by omega))
  rw [Nat.testBit_lt_two_pow this] at b
  cases b
theorem WB.get {T : List Fm} {n i : Nat} (h : WB T n) (b : n.testBit i = true) : ∃ F, T[i]? = some F := ⟨T[i]'(h.lt b), List.getElem?_eq_getElem (h.lt b)⟩
theorem WB.or {T : List Fm} {n i : Nat} (h : WB T n) (hi : i < T.length) : WB T (n ||| 2 ^ i) :=
  Nat.or_lt_two_pow h (Nat.pow_lt_pow_right (by decide) hi)
theorem WB.or' {T : List Fm} {n m : Nat} (h : WB T n) (hm : WB T m) : WB T (n ||| m) := Nat.or_lt_two_pow h hm
theorem WB.xor {T : List Fm} {n i : Nat} (h : WB T n) (b : n.testBit i = true) : WB T (n ^^^ 2 ^ i) := Nat.lt_trans (xor_lt b) h
theorem WB.and {T : List Fm} {n m : Nat} (h : WB T n) : WB T (n &&& m) := Nat.lt_of_le_of_lt Nat.and_le_left h
theorem WB.pow {T : List Fm} {i : Nat} (hi : i < T.length) : WB T (2 ^ i) := Nat.pow_lt_pow_right (by decide) hi

inductive Step (T : List Fm) : Nat → Nat → List (Nat × Nat) → Prop where
  | right {l r i : Nat} {G H : Fm} (b : r.testBit i = true) (h : T[i]? = some (.imp G H)) : Step T l r [(l ||| 2 ^ ix T G, (r ^^^ 2 ^ i) ||| 2 ^ ix T H)]
  | left {l r i : Nat} {G H : Fm} (b : l.testBit i = true) (h : T[i]? = some (.imp G H)) : Step T l r [(l ^^^ 2 ^ i, r ||| 2 ^ ix T G), ((l ^^^ 2 ^ i) ||| 2 ^ ix T H, r)]
  | drop {l r i : Nat} {G H : Fm} (b : l.testBit i = true) (h : T[i]? = some (.imp G H)) (c : G = H ∨ r.testBit (ix T G) = true ∨ l.testBit (ix T H) = true) : Step T l r [(l ^^^ 2 ^ i, r)]
  | leftH {l r i : Nat} {G H : Fm} (b : l.testBit i = true) (h : T[i]? = some (.imp G H)) (c : l.testBit (ix T G) = true) : Step T l r [((l ^^^ 2 ^ i) ||| 2 ^ ix T H, r)]
  | leftG {l r i : Nat} {G H : Fm} (b : l.testBit i = true) (h : T[i]? = some (.imp G H)) (c : r.testBit (ix T H) = true) : Step T l r [(l ^^^ 2 ^ i, r ||| 2 ^ ix T G)]
abbrev FalsP (T : List Fm) (p : Nat × Nat) (t : Tr) : Prop := Fals (S T p.1) (S T p.2) t
section
variable {T : List Fm}
theorem step_sem (C : TabC T) {l r : Nat} {ch : List (Nat × Nat)} (st : Step T l r ch) (t : Tr) : Fals (S T l) (S T r) t ↔ ∃ c ∈ ch, FalsP T c t := by
  have parts : ∀ {i : Nat} {G H : Fm}, T[i]? = some (.imp G H) → T[ix T G]? = some G ∧ T[ix T H]? = some H := fun h =>
    let ⟨a, b⟩ := C.imp _ _ (List.mem_of_getElem? h)
    ⟨ix_get a, ix_get b⟩
  cases st with
  | @right i G H b h =>
    obtain ⟨hG, hH⟩ := parts h
    rw [fals_right ⟨i, b, h⟩]
    simp only [List.mem_singleton, exists_eq_left, FalsP]
    refine Fals_congr (fun K => (S_or hG K).symm) (fun K => ?_) t
    rw [S_or hH]; unfold ins
    rw [S_xor C.nd b h]
  | @left i G H b h =>
    obtain ⟨hG, hH⟩ := parts h
    rw [fals_left ⟨i, b, h⟩]
    simp only [List.mem_cons, List.not_mem_nil, or_false, exists_eq_or_imp, exists_eq_left, FalsP]
    refine or_congr (Fals_congr (fun K => (S_xor C.nd b h K).symm) (fun K => (S_or hG K).symm) t) (Fals_congr (fun K => ?_) (fun _ => Iff.rfl) t)
    rw [S_or hH]; unfold ins
    rw [S_xor C.nd b h]
  | @drop i G H b h c =>
    obtain ⟨hG, hH⟩ := parts h
    rw [fals_drop ⟨i, b, h⟩ (c.imp id (Or.imp (fun z => ⟨_, z, hG⟩) fun z => ⟨_, z, hH⟩))]
    simp only [List.mem_singleton, exists_eq_left, FalsP]
    exact Fals_congr (fun K => (S_xor C.nd b h K).symm) (fun _ => Iff.rfl) t
  | @leftH i G H b h c =>
    obtain ⟨hG, hH⟩ := parts h
    rw [fals_leftH ⟨i, b, h⟩ ⟨_, c, hG⟩]
    simp only [List.mem_singleton, exists_eq_left, FalsP]
    refine Fals_congr (fun K => ?_) (fun _ => Iff.rfl) t
    rw [S_or hH]; unfold ins
    rw [S_xor C.nd b h]
  | @leftG i G H b h c =>
    obtain ⟨hG, hH⟩ := parts h
    rw [fals_leftG ⟨i, b, h⟩ ⟨_, c, hH⟩]
    simp only [List.mem_singleton, exists_eq_left, FalsP]
    exact Fals_congr (fun K => (S_xor C.nd b h K).symm) (fun K => (S_or hG K).symm) t
theorem step_wb (C : TabC T) {l r : Nat} {ch : List (Nat × Nat)} (st : Step T l r ch) (hl : WB T l) (hr : WB T r) : ∀ c ∈ ch, WB T c.1 ∧ WB T c.2 := by
  have parts : ∀ {i : Nat} {G H : Fm}, T[i]? = some (.imp G H) → ix T G < T.length ∧ ix T H < T.length := fun h =>
    let ⟨a, b⟩ := C.imp _ _ (List.mem_of_getElem? h)
    ⟨ix_lt a, ix_lt b⟩
  cases st with
  | @right i G H b h =>
    obtain ⟨hG, hH⟩ := parts h
    intro c hc
    simp only [List.mem_singleton] at hc
    subst hc
    exact ⟨hl.or hG, (hr.xor b).or hH⟩
  | @left i G H b h =>
    obtain ⟨hG, hH⟩ := parts h
    intro c hc
    simp only [List.mem_cons, List.not_mem_nil, or_false] at hc
    rcases hc with rfl | rfl
    · exact ⟨hl.xor b, hr.or hG⟩
    · exact ⟨(hl.xor b).or hH, hr⟩
  | @drop i G H b h c =>
    intro c hc
    simp only [List.mem_singleton] at hc
    subst hc
    exact ⟨hl.xor b, hr⟩
  | @leftH i G H b h c =>
    obtain ⟨hG, hH⟩ := parts h
    intro c hc
    simp only [List.mem_singleton] at hc
    subst hc
    exact ⟨(hl.xor b).or hH, hr⟩
  | @leftG i G H b h c =>
    obtain ⟨hG, hH⟩ := parts h
    intro c hc
    simp only [List.mem_singleton] at hc
    subst hc
    exact ⟨hl.xor b, hr.or hG⟩
/-- the ifs of what is put in, of what is taken out -/
theorem w_or {n : Nat} {F : Fm} (h : F ∈ T) : sumB (fI ifw 0 T) (n ||| 2 ^ ix T F) T.length ≤ sumB (fI ifw 0 T) n T.length + ifw F := by
  have q := sumB_or (fI ifw 0 T) n (ix T F) T.length
  rw [if_pos (ix_lt h), fI_get (ix_get h)] at q
  exact q
theorem w_xor {n i : Nat} {F : Fm} (b : n.testBit i = true) (h : T[i]? = some F) : sumB (fI ifw 0 T) (n ^^^ 2 ^ i) T.length + ifw F = sumB (fI ifw 0 T) n T.length := by
  have q := sumB_xor (fI ifw 0 T) b T.length
  rw [if_pos (List.getElem?_eq_some_iff.mp h).1, fI_get h] at q
  exact q
theorem p_or {n : Nat} {F : Fm} (s : Bool) (h : F ∈ T) : prodB (fI (br s) 1 T) (n ||| 2 ^ ix T F) T.length ≤ prodB (fI (br s) 1 T) n T.length * br s F := by
  have q := prodB_or (fI_pos s T) n (ix T F) T.length
  rw [if_pos (ix_lt h), fI_get (ix_get h)] at q
  exact q
theorem p_xor {n i : Nat} {F : Fm} (s : Bool) (b : n.testBit i = true) (h : T[i]? = some F) : prodB (fI (br s) 1 T) (n ^^^ 2 ^ i) T.length * br s F = prodB (fI (br s) 1 T) n T.length := by
  have q := prodB_xor (fI (br s) 1 T) b T.length
  rw [if_pos (List.getElem?_eq_some_iff.mp h).1, fI_get h] at q
  exact q
theorem step_wt (C : TabC T) {l r : Nat} {ch : List (Nat × Nat)} (st : Step T l r ch) : ∀ c ∈ ch, wt T c.1 c.2 + 1 ≤ wt T l r := by
  unfold wt
  cases st with
  | @right i G H b h =>
    obtain ⟨hG, hH⟩ := C.imp _ _ (List.mem_of_getElem? h)
    intro c hc
    simp only [List.mem_singleton] at hc
    subst hc
    have a1 := w_or (n := l) hG
    have a2 := w_or (n := r ^^^ 2 ^ i) hH
    have a3 := w_xor b h
    simp only [ifw] at a3
    dsimp only
    omega
  | @left i G H b h =>
    obtain ⟨hG, hH⟩ := C.imp _ _ (List.mem_of_getElem? h)
    have a1 := w_or (n := r) hG
    have a2 := w_or (n := l ^^^ 2 ^ i) hH
    have a3 := w_xor b h
    simp only [ifw] at a3
    intro c hc
    simp only [List.mem_cons, List.not_mem_nil, or_false] at hc
    rcases hc with rfl | rfl <;> (dsimp only; omega)
  | @drop i G H b h c =>
    intro c hc
    simp only [List.mem_singleton] at hc
    subst hc
    have a3 := w_xor b h
    simp only [ifw] at a3
    dsimp only
    omega
  | @leftH i G H b h c =>
    obtain ⟨hG, hH⟩ := C.imp _ _ (List.mem_of_getElem? h)
    intro c hc
    simp only [List.mem_singleton] at hc
    subst hc
    have a2 := w_or (n := l ^^^ 2 ^ i) hH
    have a3 := w_xor b h
    simp only [ifw] at a3
    dsimp only
    omega
  | @leftG i G H b h c =>
    obtain ⟨hG, hH⟩ := C.imp _ _ (List.mem_of_getElem? h)
    intro c hc
    simp only [List.mem_singleton] at hc
    subst hc
    have a2 := w_or (n := r) hG
    have a3 := w_xor b h
    simp only [ifw] at a3
    dsimp only
    omega
def sumP (T : List Fm) (l : List (Nat × Nat)) : Nat := (l.map fun p => nb T p.1 p.2).sum
theorem sumP_append (l r : List (Nat × Nat)) : sumP T (l ++ r) = sumP T l + sumP T r := by simp [sumP]
theorem sumP_reverse (l : List (Nat × Nat)) : sumP T l.reverse = sumP T l := by
  unfold sumP
  rw [List.map_reverse]
  exact List.sum_reverse ..
theorem step_ph (C : TabC T) {l r : Nat} {ch : List (Nat × Nat)} (st : Step T l r ch) : (ch.map fun p => ph T p.1 p.2).sum ≤ ph T l r := by
  unfold ph
  cases st with
  | @right i G H b h =>
    obtain ⟨hG, hH⟩ := C.imp _ _ (List.mem_of_getElem? h)
    have a1 := p_or (n := l) true hG
    have a2 := p_or (n := r ^^^ 2 ^ i) false hH
    have a3 := p_xor false b h
    simp only [br] at a3
    simp only [List.map_cons, List.map_nil, List.sum_cons, List.sum_nil, Nat.add_zero]
    rw [← a3]
    refine Nat.le_trans (Nat.mul_le_mul a1 a2) (Nat.le_of_eq ?_)
    simp only [Nat.mul_assoc, Nat.mul_comm, Nat.mul_left_comm]
  | @left i G H b h =>
    obtain ⟨hG, hH⟩ := C.imp _ _ (List.mem_of_getElem? h)
    have a1 := p_or (n := r) false hG
    have a2 := p_or (n := l ^^^ 2 ^ i) true hH
    have a3 := p_xor true b h
    simp only [br] at a3
    simp only [List.map_cons, List.map_nil, List.sum_cons, List.sum_nil, Nat.add_zero]
    rw [← a3, Nat.mul_add, Nat.add_mul]
    refine Nat.add_le_add ?_ ?_
    · refine Nat.le_trans (Nat.mul_le_mul_left _ a1) (Nat.le_of_eq ?_)
      simp only [Nat.mul_assoc, Nat.mul_comm, Nat.mul_left_comm]
    · exact Nat.mul_le_mul_right _ a2
  | @drop i G H b h c =>
    have a3 := p_xor true b h
    simp only [List.map_cons, List.map_nil, List.sum_cons, List.sum_nil, Nat.add_zero]
    rw [← a3]
    refine Nat.mul_le_mul_right _ ?_
    calc _ = prodB (fI (br true) 1 T) (l ^^^ 2 ^ i) T.length * 1 := (Nat.mul_one _).symm
      _ ≤ _ := Nat.mul_le_mul_left _ (br_pos _ _)
  | @leftH i G H b h c =>
    obtain ⟨hG, hH⟩ := C.imp _ _ (List.mem_of_getElem? h)
    have a2 := p_or (n := l ^^^ 2 ^ i) true hH
    have a3 := p_xor true b h
    simp only [br] at a3
    simp only [List.map_cons, List.map_nil, List.sum_cons, List.sum_nil, Nat.add_zero]
    rw [← a3]
    refine Nat.mul_le_mul_right _ (Nat.le_trans a2 (Nat.mul_le_mul_left _ (Nat.le_add_left _ _)))
  | @leftG i G H b h c =>
    obtain ⟨hG, hH⟩ := C.imp _ _ (List.mem_of_getElem? h)
    have a1 := p_or (n := r) false hG
    have a3 := p_xor true b h
    simp only [br] at a3
    simp only [List.map_cons, List.map_nil, List.sum_cons, List.sum_nil, Nat.add_zero]
    rw [← a3]
    refine Nat.le_trans (Nat.mul_le_mul_left _ a1) ?_
    refine Nat.le_trans (Nat.le_of_eq ?_) (Nat.mul_le_mul_right _ (Nat.mul_le_mul_left _ (Nat.le_add_right (br false G) (br true H))))
    simp only [Nat.mul_assoc, Nat.mul_comm, Nat.mul_left_comm]
theorem step_nb (C : TabC T) {l r : Nat} {ch : List (Nat × Nat)} (st : Step T l r ch) : sumP T ch + 1 ≤ nb T l r := by
  have h1 := step_ph C st
  have h2 := step_wt C st
  have h3 := ph_pos T l r
  have key : ∀ (ch : List (Nat × Nat)) (w : Nat), (∀ c ∈ ch, wt T c.1 c.2 + 1 ≤ w) → sumP T ch ≤ (ch.map fun p => ph T p.1 p.2).sum * w := by
    intro ch w
    induction ch with
    | nil => intro _; simp [sumP]
    | cons c ch ih =>
      intro h
      have q := ih fun d hd => h d (List.mem_cons_of_mem _ hd)
      have z : nb T c.1 c.2 ≤ ph T c.1 c.2 * w := Nat.mul_le_mul_left _ (h c List.mem_cons_self)
      simp only [sumP, List.map_cons, List.sum_cons, Nat.add_mul] at q ⊢
      omega
  have k := key ch _ h2
  have e : (ch.map fun p => ph T p.1 p.2).sum * wt T l r ≤ ph T l r * wt T l r := Nat.mul_le_mul_right _ h1
  have e2 : nb T l r = ph T l r * wt T l r + ph T l r := by unfold nb; rw [Nat.mul_add, Nat.mul_one]
  omega
end
end AB
end
section
set_option Elab.async false
/-! The walk over the leaves: what holds between two turns. -/
namespace AB
/-- neither of the first two ways applies -/
def Open (l r : Nat) (mNo : Nat) : Prop := l &&& r = 0 ∧ l &&& mNo = 0
/-- the bits of the formulas of a kind -/
def IsMask (T : List Fm) (p : Fm → Bool) (m : Nat) : Prop := ∀ i, m.testBit i = true ↔ ∃ F, T[i]? = some F ∧ p F = true
def isImp : Fm → Bool
  | .imp _ _ => true
  | _ => false
def isAll : Fm → Bool
  | .all _ => true
  | _ => false
def isNo : Fm → Bool
  | .no => true
  | _ => false
def isAtm : Fm → Bool
  | .atm _ => true
  | _ => false
theorem isImp_iff {F : Fm} : isImp F = true ↔ ∃ G H, F = .imp G H := by cases F <;> simp [isImp]
theorem isAll_iff {F : Fm} : isAll F = true ↔ ∃ G, F = .all G := by cases F <;> simp [isAll]
theorem isNo_iff {F : Fm} : isNo F = true ↔ F = .no := by cases F <;> simp [isNo]
theorem and_pos {a b : Nat} (h : 0 < a &&& b) : ∃ i, a.testBit i = true ∧ b.testBit i = true := by
  obtain ⟨i, _, q⟩ := low_spec _ h
  rw [Nat.testBit_and, Bool.and_eq_true] at q
  exact ⟨i, q⟩
theorem and_zero {a b : Nat} (h : a &&& b = 0) {i : Nat} (x : a.testBit i = true) (y : b.testBit i = true) : False := by
  have q : (a &&& b).testBit i = true := by rw [Nat.testBit_and, x, y]; rfl
  rw [h, Nat.zero_testBit] at q
  cases q
theorem low_and {a b : Nat} (h : 0 < low (a &&& b)) : ∃ i, low (a &&& b) = 2 ^ i ∧ a.testBit i = true ∧ b.testBit i = true := by
  have hp : 0 < a &&& b := by
    rcases Nat.eq_zero_or_pos (a &&& b) with e | e
    · rw [e] at h; cases h
    · exact e
  obtain ⟨i, e, q⟩ := low_spec _ hp
  rw [Nat.testBit_and, Bool.and_eq_true] at q
  exact ⟨i, e, q⟩
theorem low_eq_zero {n : Nat} (h : ¬ 0 < low n) : n = 0 := by
  rcases Nat.eq_zero_or_pos n with e | e
  · exact e
  · exact absurd (low_pos e) h
section
variable {T : List Fm}
/-- a closed pair has no web -/
theorem closed_valid {l r mNo : Nat} (hn : IsMask T isNo mNo) (hl : WB T l) (h : 0 < l &&& r ∨ 0 < l &&& mNo) : Valid (S T l) (S T r) := by
  intro t ⟨a, b⟩
  rcases h with h | h
  · obtain ⟨i, x, y⟩ := and_pos h
    obtain ⟨F, e⟩ := hl.get x
    exact b F ⟨i, y, e⟩ (a F ⟨i, x, e⟩)
  · obtain ⟨i, x, y⟩ := and_pos h
    obtain ⟨F, e, z⟩ := (hn i).mp y
    rw [isNo_iff.mp z] at e
    exact a _ ⟨i, x, e⟩
/-- a pair to which nothing but the last way applies -/
structure Leaf (T : List Fm) (l r : Nat) : Prop where
  wl : WB T l
  wr : WB T r
  nl : NoIf (S T l)
  nr : NoIf (S T r)
  op : l &&& r = 0
  no : ¬ S T l .no
theorem noIf_of {n m : Nat} (hm : IsMask T isImp m) (h : n &&& m = 0) : NoIf (S T n) := fun f g ⟨_, x, e⟩ => and_zero h x ((hm _).mpr ⟨_, e, rfl⟩)
theorem Leaf.of {l r mNo mIf : Nat} (wl : WB T l) (wr : WB T r) (hn : IsMask T isNo mNo) (hi : IsMask T isImp mIf) (c : ¬ (0 < l &&& r ∨ 0 < l &&& mNo)) (a : l &&& mIf = 0) (b : r &&& mIf = 0) : Leaf T l r :=
  ⟨wl, wr, noIf_of hi a, noIf_of hi b, by omega, fun ⟨i, x, e⟩ => and_zero (show l &&& mNo = 0 by omega) x ((hn i).mpr ⟨_, e, rfl⟩)⟩
/-- between two turns: what waits, what was met, what was handed out -/
structure Dfs (T : List Fm) (l r : Nat) (ws met ys : List (Nat × Nat)) : Prop where
  wb : ∀ p ∈ ws, WB T p.1 ∧ WB T p.2
  root : ∀ t, FalsP T (l, r) t → (∃ y ∈ ys, FalsP T y t) ∨ ∃ q ∈ ws, FalsP T q t
  mets : ∀ p ∈ met, ∀ t, FalsP T p t → (∃ y ∈ ys, FalsP T y t) ∨ ∃ q ∈ ws, wt T q.1 q.2 < wt T p.1 p.2 ∧ FalsP T q t
  sound : ∀ q ∈ ws, ∀ t, FalsP T q t → FalsP T (l, r) t
  leaf : ∀ y ∈ ys, Leaf T y.1 y.2 ∧ ∀ t, FalsP T y t → FalsP T (l, r) t
  count : met.length + sumP T ws ≤ nb T l r
  few : ys.length ≤ met.length
theorem Dfs.start {l r : Nat} (hl : WB T l) (hr : WB T r) : Dfs T l r [(l, r)] [] [] where
  wb := fun p hp => by rw [List.mem_singleton.mp hp]; exact ⟨hl, hr⟩
  root := fun t h => .inr ⟨_, List.mem_singleton.mpr rfl, h⟩
  mets := fun p hp => by cases hp
  sound := fun q hq t h => by rw [List.mem_singleton.mp hq] at h; exact h
  leaf := fun y hy => by cases hy
  count := by simp [sumP]
  few := Nat.le_refl _
variable {l r : Nat} {ws met ys ch : List (Nat × Nat)} {x : Nat × Nat}
/-- one that was met, or that is closed, is dropped -/
theorem Dfs.skip (D : Dfs T l r (ws ++ [x]) met ys) (h : x ∈ met ∨ Valid (S T x.1) (S T x.2)) : Dfs T l r ws met ys := by
  have gone : ∀ t, FalsP T x t → (∃ y ∈ ys, FalsP T y t) ∨ ∃ q ∈ ws, wt T q.1 q.2 < wt T x.1 x.2 ∧ FalsP T q t := by
    intro t ht
    rcases h with h | h
    · rcases D.mets x h t ht with z | ⟨q, hq, lt, z⟩
      · exact .inl z
      · rcases List.mem_append.mp hq with hq | hq
        · exact .inr ⟨q, hq, lt, z⟩
        · rw [List.mem_singleton.mp hq] at lt
          exact absurd lt (Nat.lt_irrefl _)
    · exact absurd ht (h t)
  refine ⟨fun p hp => D.wb p (List.mem_append_left _ hp), fun t ht => ?_, fun p hp t ht => ?_, fun q hq => D.sound q (List.mem_append_left _ hq), D.leaf, ?_, D.few⟩
  · rcases D.root t ht with z | ⟨q, hq, z⟩
    · exact .inl z
    · rcases List.mem_append.mp hq with hq | hq
      · exact .inr ⟨q, hq, z⟩
      · rw [List.mem_singleton.mp hq] at z
        rcases gone t z with z | ⟨q, hq, _, z⟩
        · exact .inl z
        · exact .inr ⟨q, hq, z⟩
  · rcases D.mets p hp t ht with z | ⟨q, hq, lt, z⟩
    · exact .inl z
    · rcases List.mem_append.mp hq with hq | hq
      · exact .inr ⟨q, hq, lt, z⟩
      · rw [List.mem_singleton.mp hq] at lt z
        rcases gone t z with z | ⟨q, hq, lt2, z⟩
        · exact .inl z
        · exact .inr ⟨q, hq, Nat.lt_trans lt2 lt, z⟩
  · have := D.count
    rw [sumP_append] at this
    omega
theorem Dfs.last_pos (D : Dfs T l r (ws ++ [x]) met ys) : sumP T ws < sumP T (ws ++ [x]) := by
  have := nb_pos T x.1 x.2
  rw [sumP_append]
  simp only [sumP, List.map_cons, List.map_nil, List.sum_cons, List.sum_nil]
  omega
/-- a leaf is handed out -/
theorem Dfs.yield (D : Dfs T l r (ws ++ [x]) met ys) (h : Leaf T x.1 x.2) : Dfs T l r ws (met ++ [x]) (ys ++ [x]) := by
  have hx : x ∈ ws ++ [x] := List.mem_append_right _ (List.mem_singleton.mpr rfl)
  refine ⟨fun p hp => D.wb p (List.mem_append_left _ hp), fun t ht => ?_, fun p hp t ht => ?_, fun q hq => D.sound q (List.mem_append_left _ hq), fun y hy => ?_, ?_, ?_⟩
  · rcases D.root t ht with ⟨y, hy, z⟩ | ⟨q, hq, z⟩
    · exact .inl ⟨y, List.mem_append_left _ hy, z⟩
    · rcases List.mem_append.mp hq with hq | hq
      · exact .inr ⟨q, hq, z⟩
      · exact .inl ⟨q, List.mem_append_right _ hq, z⟩
  · rcases List.mem_append.mp hp with hp | hp
    · rcases D.mets p hp t ht with ⟨y, hy, z⟩ | ⟨q, hq, lt, z⟩
      · exact .inl ⟨y, List.mem_append_left _ hy, z⟩
      · rcases List.mem_append.mp hq with hq | hq
        · exact .inr ⟨q, hq, lt, z⟩
        · exact .inl ⟨q, List.mem_append_right _ hq, z⟩
    · exact .inl ⟨p, List.mem_append_right _ hp, ht⟩
  · rcases List.mem_append.mp hy with hy | hy
    · exact D.leaf y hy
    · rw [List.mem_singleton.mp hy]
      exact ⟨h, D.sound x hx⟩
  · have c := D.count
    have p := nb_pos T x.1 x.2
    rw [sumP_append] at c
    simp only [sumP, List.map_cons, List.map_nil, List.sum_cons, List.sum_nil, List.length_append, List.length_cons, List.length_nil] at c ⊢
    omega
  · have := D.few
    simp only [List.length_append, List.length_cons, List.length_nil]
    omega
/-- one is taken apart -/
theorem Dfs.apart (C : TabC T) (D : Dfs T l r (ws ++ [x]) met ys) (st : Step T x.1 x.2 ch) : Dfs T l r (ws ++ ch.reverse) (met ++ [x]) ys := by
  have hx : x ∈ ws ++ [x] := List.mem_append_right _ (List.mem_singleton.mpr rfl)
  have W := D.wb x hx
  have sem := step_sem C st
  have wts := step_wt C st
  have below : ∀ t, FalsP T x t → ∃ q ∈ ws ++ ch.reverse, wt T q.1 q.2 < wt T x.1 x.2 ∧ FalsP T q t := fun t ht => by
    obtain ⟨c, hc, z⟩ := (sem t).mp ht
    exact ⟨c, List.mem_append_right _ (List.mem_reverse.mpr hc), wts c hc, z⟩
  refine ⟨fun p hp => ?_, fun t ht => ?_, fun p hp t ht => ?_, fun q hq t ht => ?_, D.leaf, ?_, ?_⟩
  · rcases List.mem_append.mp hp with hp | hp
    · exact D.wb p (List.mem_append_left _ hp)
    · exact step_wb C st W.1 W.2 p (List.mem_reverse.mp hp)
  · rcases D.root t ht with z | ⟨q, hq, z⟩
    · exact .inl z
    · rcases List.mem_append.mp hq with hq | hq
      · exact .inr ⟨q, List.mem_append_left _ hq, z⟩
      · rw [List.mem_singleton.mp hq] at z
        obtain ⟨q, hq, _, z⟩ := below t z
        exact .inr ⟨q, hq, z⟩
  · rcases List.mem_append.mp hp with hp | hp
    · rcases D.mets p hp t ht with z | ⟨q, hq, lt, z⟩
      · exact .inl z
      · rcases List.mem_append.mp hq with hq | hq
        · exact .inr ⟨q, List.mem_append_left _ hq, lt, z⟩
        · rw [List.mem_singleton.mp hq] at lt z
          obtain ⟨q, hq, lt2, z⟩ := below t z
          exact .inr ⟨q, hq, Nat.lt_trans lt2 lt, z⟩
    · rw [List.mem_singleton.mp hp] at ht ⊢
      exact .inr (below t ht)
  · rcases List.mem_append.mp hq with hq | hq
    · exact D.sound q (List.mem_append_left _ hq) t ht
    · exact D.sound x hx t ((sem t).mpr ⟨q, List.mem_reverse.mp hq, ht⟩)
  · have c := D.count
    have p := step_nb C st
    have e : sumP T [x] = nb T x.1 x.2 := by simp [sumP]
    rw [sumP_append, e] at c
    rw [sumP_append, sumP_reverse, List.length_append, List.length_singleton]
    omega
  · have := D.few
    simp only [List.length_append, List.length_cons, List.length_nil]
    omega
theorem apart_less (C : TabC T) (st : Step T x.1 x.2 ch) : sumP T (ws ++ ch.reverse) < sumP T (ws ++ [x]) := by
  have p := step_nb C st
  have e : sumP T [x] = nb T x.1 x.2 := by simp [sumP]
  rw [sumP_append, sumP_append, sumP_reverse, e]
  omega
theorem Dfs.ws_le (D : Dfs T l r ws met ys) : ws.length ≤ nb T l r := by
  have c := D.count
  have : ∀ l : List (Nat × Nat), l.length ≤ sumP T l := by
    intro l
    induction l with
    | nil => simp [sumP]
    | cons p l ih =>
      have := nb_pos T p.1 p.2
      simp only [sumP, List.map_cons, List.sum_cons, List.length_cons] at ih ⊢
      omega
  have := this ws
  omega
/-- at the end: a pair that a web parts has a leaf that it parts -/
theorem Dfs.done (D : Dfs T l r [] met ys) (t : Tr) (h : FalsP T (l, r) t) : ∃ y ∈ ys, FalsP T y t := by
  rcases D.root t h with z | ⟨q, hq, _⟩
  · exact z
  · cases hq
end
end AB
end
section
set_option Elab.async false
set_option linter.all false
/-! The pair beneath, bounds of all pairs, derivations step by step. -/
namespace AB
theorem nodup_sum_le {α : Type} [DecidableEq α] (f : α → Nat) : ∀ {xs ys : List α}, xs.Nodup → (∀ x ∈ xs, x ∈ ys) → (xs.map f).sum ≤ (ys.map f).sum
  | [], _, _, _ => Nat.zero_le _
  | x :: xs, ys, nd, h => by
    have hx : x ∈ ys := h x List.mem_cons_self
    have p : ys.Perm (x :: ys.erase x) := List.perm_cons_erase hx
    have q : (ys.map f).sum = ((x :: ys.erase x).map f).sum := (p.map f).sum_nat
    rw [q]
    obtain ⟨n1, n2⟩ := List.nodup_cons.mp nd
    have ih := nodup_sum_le f (xs := xs) (ys := ys.erase x) n2 fun y hy => by
      have ne : y ≠ x := fun e => n1 (e ▸ hy)
      exact (List.mem_erase_of_ne ne).mpr (h y (List.mem_cons_of_mem _ hy))
    simp only [List.map_cons, List.sum_cons]
    omega
theorem filter_le {α : Type} (p q : α → Bool) : ∀ l : List α, (∀ x ∈ l, p x = true → q x = true) → (l.filter p).length ≤ (l.filter q).length
  | [], _ => Nat.le_refl _
  | x :: l, h => by
    have ih := filter_le p q l fun y hy => h y (List.mem_cons_of_mem _ hy)
    have hx := h x List.mem_cons_self
    rw [List.filter_cons, List.filter_cons]
    cases e1 : p x with
    | true => simp [hx e1, ih]
    | false =>
      split
      · simp_all; 
      · split <;> simp <;> omega
theorem filter_lt {α : Type} (p q : α → Bool) : ∀ l : List α, (∀ x ∈ l, p x = true → q x = true) → (∃ x ∈ l, q x = true ∧ p x = false) → (l.filter p).length < (l.filter q).length
  | [], _, h => by obtain ⟨x, hx, _⟩ := h; cases hx
  | x :: l, h, ⟨y, hy, y1, y2⟩ => by
    have hx := h x List.mem_cons_self
    have le := filter_le p q l fun y hy => h y (List.mem_cons_of_mem _ hy)
    rw [List.filter_cons, List.filter_cons]
    rcases List.mem_cons.mp hy with rfl | hy
    · simp [y1, y2]; omega
    · have ih := filter_lt p q l (fun y hy => h y (List.mem_cons_of_mem _ hy)) ⟨y, hy, y1, y2⟩
      cases e1 : p x with
      | true => simp [hx e1]; omega
      | false =>
        split
        · simp_all
        · split <;> simp <;> omega
/-- the ors of some bits -/
def orL (js : List Nat) : Nat := js.foldl (fun a j => a ||| 2 ^ j) 0
theorem orL_snoc (js : List Nat) (j : Nat) : orL (js ++ [j]) = orL js ||| 2 ^ j := by simp [orL, List.foldl_append]
theorem orL_ind {P : List Nat → Prop} (h0 : P []) (h1 : ∀ js j, P js → P (js ++ [j])) (js : List Nat) : P js := by
  have : ∀ l : List Nat, P l.reverse := by
    intro l
    induction l with
    | nil => exact h0
    | cons x l ih => rw [List.reverse_cons]; exact h1 _ _ ih
  simpa using this js.reverse
theorem tb_orL (js : List Nat) (i : Nat) : (orL js).testBit i = true ↔ i ∈ js := by
  refine orL_ind (P := fun js => (orL js).testBit i = true ↔ i ∈ js) (by simp [orL]) (fun js j ih => ?_) js
  rw [orL_snoc, tb_or, Bool.or_eq_true, ih]
  simp [eq_comm]
def sumL (f : Nat → Nat) (js : List Nat) : Nat := (js.map f).sum
def prodL (f : Nat → Nat) : List Nat → Nat
  | [] => 1
  | j :: js => f j * prodL f js
theorem prodL_snoc (f : Nat → Nat) : ∀ (js : List Nat) (j : Nat), prodL f (js ++ [j]) = prodL f js * f j
  | [], j => by simp [prodL]
  | k :: js, j => by simp only [List.cons_append, prodL, prodL_snoc f js j, Nat.mul_assoc]
theorem sumB_zero (f : Nat → Nat) : ∀ k, sumB f 0 k = 0
  | 0 => rfl
  | k + 1 => by simp [sumB, sumB_zero f k]
theorem prodB_zero (f : Nat → Nat) : ∀ k, prodB f 0 k = 1
  | 0 => rfl
  | k + 1 => by simp [prodB, prodB_zero f k]
theorem sumB_or2 (f : Nat → Nat) (a b : Nat) : ∀ k, sumB f (a ||| b) k ≤ sumB f a k + sumB f b k
  | 0 => Nat.le_refl _
  | k + 1 => by
    have ih := sumB_or2 f a b k
    simp only [sumB, Nat.testBit_or]
    cases a.testBit k <;> cases b.testBit k <;> simp <;> omega
theorem prodB_or2 {f : Nat → Nat} (hf : ∀ i, 1 ≤ f i) (a b : Nat) : ∀ k, prodB f (a ||| b) k ≤ prodB f a k * prodB f b k
  | 0 => Nat.le_refl _
  | k + 1 => by
    have ih := prodB_or2 hf a b k
    have h1 := hf k
    simp only [prodB, Nat.testBit_or]
    cases a.testBit k <;> cases b.testBit k <;> simp
    · exact ih
    · rw [← Nat.mul_assoc]; exact Nat.mul_le_mul_right _ ih
    · rw [Nat.mul_right_comm]; exact Nat.mul_le_mul_right _ ih
    · calc prodB f (a ||| b) k * f k ≤ prodB f a k * prodB f b k * f k := Nat.mul_le_mul_right _ ih
        _ ≤ prodB f a k * prodB f b k * f k * f k := Nat.le_mul_of_pos_right _ h1
        _ = _ := by simp only [Nat.mul_assoc, Nat.mul_comm, Nat.mul_left_comm]
theorem sumB_orL (f : Nat → Nat) (k : Nat) (js : List Nat) : sumB f (orL js) k ≤ sumL f js := by
  refine orL_ind (P := fun js => sumB f (orL js) k ≤ sumL f js) (by simp [orL, sumB_zero, sumL]) (fun js j ih => ?_) js
  rw [orL_snoc]
  have q := sumB_or f (orL js) j k
  have e : sumL f (js ++ [j]) = sumL f js + f j := by simp [sumL]
  split at q <;> omega
theorem prodB_orL {f : Nat → Nat} (hf : ∀ i, 1 ≤ f i) (k : Nat) (js : List Nat) : prodB f (orL js) k ≤ prodL f js := by
  refine orL_ind (P := fun js => prodB f (orL js) k ≤ prodL f js) (by simp [orL, prodB_zero, prodL]) (fun js j ih => ?_) js
  rw [orL_snoc, prodL_snoc]
  have q := prodB_or hf (orL js) j k
  refine Nat.le_trans q (Nat.mul_le_mul ih ?_)
  split
  · exact Nat.le_refl _
  · exact hf j
theorem sumB_const {f : Nat → Nat} {n : Nat} : ∀ k, (∀ i, n.testBit i = true → f i = 0) → sumB f n k = 0
  | 0, _ => rfl
  | k + 1, h => by
    simp only [sumB, sumB_const k h]
    split
    · rename_i b; rw [h k b]
    · rfl
theorem prodB_const {f : Nat → Nat} {n : Nat} : ∀ k, (∀ i, n.testBit i = true → f i = 1) → prodB f n k = 1
  | 0, _ => rfl
  | k + 1, h => by
    simp only [prodB, prodB_const k h]
    split
    · rename_i b; rw [h k b]
    · rfl
/-! ### the table's bounds -/
def body : Fm → Fm
  | .all G => G
  | F => F
def gA : Fm → Nat
  | .all G => ifw G
  | _ => 0
def hA : Fm → Nat
  | .all G => ifw G + 1
  | _ => 0
def nA (T : List Fm) : Nat := (T.filter isAll).length
structure TabOk (T : List Fm) : Prop where
  c : TabC T
  ifs : (T.map gA).sum ≤ 29
  hs : (T.map hA).sum ≤ 35
  al : nA T ≤ 6
  len : T.length ≤ 60
/-- how many all-parts are not on the left -/
def rem (T : List Fm) (l : Nat) : Nat := (T.filter fun F => isAll F && !l.testBit (ix T F)).length
theorem rem_le (T : List Fm) (l : Nat) : rem T l ≤ nA T := filter_le _ _ _ fun x _ h => by
  rw [Bool.and_eq_true] at h; exact h.1
section
variable {T : List Fm} {l i : Nat} {G : Fm} {bs : List Nat}
/-- the indices of the bodies -/
def jsOf (T : List Fm) (bs : List Nat) : List Nat := bs.map fun i => ix T (body (T.getD i .no))
/-- the left beneath -/
def nearOf (T : List Fm) (a : Nat) (bs : List Nat) (i : Nat) : Nat := (a ||| orL (jsOf T bs)) ||| 2 ^ i
theorem getD_of (h : T[i]? = some G) : T.getD i .no = G := by simp [List.getD, h]
structure Bn (T : List Fm) (l mAll : Nat) (bs : List Nat) (i : Nat) (G : Fm) : Prop where
  mask : IsMask T isAll mAll
  bits : ∀ j, j ∈ bs ↔ (l &&& mAll).testBit j = true
  nd : bs.Nodup
  at_ : T[i]? = some (.all G)
  off : l.testBit i = false
theorem Bn.all {mAll : Nat} (B : Bn T l mAll bs i G) {j : Nat} (h : j ∈ bs) : l.testBit j = true ∧ ∃ K, T[j]? = some (.all K) := by
  have q := (B.bits j).mp h
  rw [Nat.testBit_and, Bool.and_eq_true] at q
  obtain ⟨F, e, z⟩ := (B.mask j).mp q.2
  obtain ⟨K, rfl⟩ := isAll_iff.mp z
  exact ⟨q.1, K, e⟩
theorem Bn.sem {mAll : Nat} (C : TabC T) (B : Bn T l mAll bs i G) (K : Fm) : S T (nearOf T (l &&& mAll) bs i) K ↔ bnL (S T l) G K := by
  unfold nearOf
  rw [S_or B.at_]
  unfold ins bnL lbS
  refine or_congr ⟨?_, ?_⟩ Iff.rfl
  · rintro ⟨j, h, e⟩
    rw [Nat.testBit_or, Bool.or_eq_true] at h
    rcases h with h | h
    · rw [Nat.testBit_and, Bool.and_eq_true] at h
      obtain ⟨F, e2, z⟩ := (B.mask j).mp h.2
      rw [e] at e2; cases e2
      exact .inl ⟨⟨j, h.1, e⟩, isAll_iff.mp z⟩
    · rw [tb_orL] at h
      obtain ⟨b, hb, rfl⟩ := List.mem_map.mp h
      obtain ⟨h1, M, h2⟩ := B.all hb
      rw [getD_of h2] at e
      have hM : M ∈ T := C.all M (List.mem_of_getElem? h2)
      rw [show body (.all M) = M from rfl, ix_get hM] at e
      cases e
      exact .inr ⟨b, h1, h2⟩
  · rintro (⟨⟨j, h, e⟩, M, rfl⟩ | ⟨j, h, e⟩)
    · refine ⟨j, ?_, e⟩
      rw [Nat.testBit_or, Nat.testBit_and, h, (B.mask j).mpr ⟨_, e, rfl⟩]
      rfl
    · have hK : K ∈ T := C.all K (List.mem_of_getElem? e)
      refine ⟨ix T K, ?_, ix_get hK⟩
      rw [Nat.testBit_or, Bool.or_eq_true, tb_orL]
      refine .inr (List.mem_map.mpr ⟨j, (B.bits j).mpr ?_, by rw [getD_of e]; rfl⟩)
      rw [Nat.testBit_and, h, (B.mask j).mpr ⟨_, e, rfl⟩]; rfl
theorem S_pow (h : G ∈ T) (nd : T.Nodup) (K : Fm) : S T (2 ^ ix T G) K ↔ K = G := by
  constructor
  · rintro ⟨j, b, e⟩
    rw [tb_pow, decide_eq_true_eq] at b
    rw [← b, ix_get h] at e
    exact (Option.some.inj e).symm
  · rintro rfl
    exact ⟨ix T K, by rw [tb_pow]; simp, ix_get h⟩
theorem Bn.fals {mAll : Nat} (C : TabC T) (B : Bn T l mAll bs i G) (t : Tr) : FalsP T (nearOf T (l &&& mAll) bs i, 2 ^ ix T G) t ↔ Fals (bnL (S T l) G) (bnR G) t :=
  Fals_congr (fun K => B.sem C K) (fun K => S_pow (C.all G (List.mem_of_getElem? B.at_)) C.nd K) t
theorem Bn.wb {mAll : Nat} (C : TabC T) (hl : WB T l) (B : Bn T l mAll bs i G) : WB T (nearOf T (l &&& mAll) bs i) ∧ WB T (2 ^ ix T G) := by
  have h1 : ∀ js : List Nat, (∀ j ∈ js, j < T.length) → WB T (orL js) := by
    intro js
    refine orL_ind (P := fun js => (∀ j ∈ js, j < T.length) → WB T (orL js)) (fun _ => by show 0 < 2 ^ T.length; exact Nat.two_pow_pos _) (fun js j ih h => ?_) js
    rw [orL_snoc]
    exact (ih fun k hk => h k (List.mem_append_left _ hk)).or (h j (List.mem_append_right _ (List.mem_singleton.mpr rfl)))
  refine ⟨WB.or (hl.and.or' (h1 _ fun j hj => ?_)) (List.getElem?_eq_some_iff.mp B.at_).1, WB.pow (ix_lt (C.all G (List.mem_of_getElem? B.at_)))⟩
  obtain ⟨b, hb, rfl⟩ := List.mem_map.mp hj
  obtain ⟨_, M, h2⟩ := B.all hb
  rw [getD_of h2]
  exact ix_lt (C.all M (List.mem_of_getElem? h2))
theorem Bn.rem {mAll : Nat} (C : TabC T) (B : Bn T l mAll bs i G) : rem T (nearOf T (l &&& mAll) bs i) < rem T l := by
  refine filter_lt _ _ _ (fun F hF h => ?_) ⟨.all G, List.mem_of_getElem? B.at_, ?_, ?_⟩
  · rw [Bool.and_eq_true] at h ⊢
    refine ⟨h.1, ?_⟩
    cases e : l.testBit (ix T F) with
    | false => rfl
    | true =>
      have q : (nearOf T (l &&& mAll) bs i).testBit (ix T F) = true := by
        unfold nearOf
        rw [tb_or, Nat.testBit_or, Nat.testBit_and, e, (B.mask _).mpr ⟨F, ix_get hF, h.1⟩]; rfl
      rw [q] at h
      exact absurd h.2 (by decide)
  · rw [ix_of C.nd B.at_, B.off]; rfl
  · rw [ix_of C.nd B.at_]
    unfold nearOf
    rw [tb_or]; simp
/-- the all-formulas of the left and the one of the right are unlike parts of the table -/
theorem Bn.sum_le {mAll : Nat} (C : TabC T) (B : Bn T l mAll bs i G) (f : Fm → Nat) : sumL (fun j => f (T.getD j .no)) bs + f (.all G) ≤ (T.map f).sum := by
  have nd2 : (bs.map fun j => T.getD j .no).Nodup := by
    unfold List.Nodup
    rw [List.pairwise_map]
    refine B.nd.imp_of_mem fun {a b} ha hb ne e => ?_
    obtain ⟨_, K, h1⟩ := B.all ha
    obtain ⟨_, M, h2⟩ := B.all hb
    rw [getD_of h1, getD_of h2] at e
    rw [e] at h1
    exact ne ((ix_of C.nd h1).symm.trans (ix_of C.nd h2))
  have nin : Fm.all G ∉ bs.map fun j => T.getD j .no := fun h => by
    obtain ⟨b, hb, e⟩ := List.mem_map.mp h
    obtain ⟨h1, K, h2⟩ := B.all hb
    rw [getD_of h2] at e
    rw [e] at h2
    have : b = i := (ix_of C.nd h2).symm.trans (ix_of C.nd B.at_)
    rw [this, B.off] at h1
    exact Bool.noConfusion h1
  have nd3 : (Fm.all G :: bs.map fun j => T.getD j .no).Nodup := List.nodup_cons.mpr ⟨nin, nd2⟩
  have q := nodup_sum_le f (ys := T) nd3 fun x hx => by
    rcases List.mem_cons.mp hx with rfl | hx
    · exact List.mem_of_getElem? B.at_
    · obtain ⟨b, hb, rfl⟩ := List.mem_map.mp hx
      obtain ⟨_, K, h2⟩ := B.all hb
      rw [getD_of h2]
      exact List.mem_of_getElem? h2
  simp only [List.map_cons, List.sum_cons, List.map_map] at q
  unfold sumL
  have e : (bs.map fun j => f (T.getD j .no)) = bs.map (f ∘ fun j => T.getD j .no) := rfl
  rw [e]
  omega
theorem Bn.wt {mAll : Nat} (K : TabOk T) (B : Bn T l mAll bs i G) : wt T (nearOf T (l &&& mAll) bs i) (2 ^ ix T G) ≤ 29 := by
  have C := K.c
  have hG := C.all G (List.mem_of_getElem? B.at_)
  have s := B.sum_le C gA
  have e1 : sumB (fI ifw 0 T) (l &&& mAll) T.length = 0 := sumB_const _ fun j hj => by
    rw [Nat.testBit_and, Bool.and_eq_true] at hj
    obtain ⟨F, e, z⟩ := (B.mask j).mp hj.2
    obtain ⟨M, rfl⟩ := isAll_iff.mp z
    rw [fI_get e]; rfl
  have e2 := sumB_orL (fI ifw 0 T) T.length (jsOf T bs)
  have e3 : sumL (fI ifw 0 T) (jsOf T bs) = sumL (fun j => gA (T.getD j .no)) bs := by
    unfold sumL jsOf
    rw [List.map_map]
    congr 1
    refine List.map_congr_left fun j hj => ?_
    obtain ⟨_, M, h2⟩ := B.all hj
    show fI ifw 0 T (ix T (body (T.getD j .no))) = gA (T.getD j .no)
    rw [getD_of h2, show body (.all M) = M from rfl, fI_get (ix_get (C.all M (List.mem_of_getElem? h2)))]; rfl
  have e4 := sumB_or2 (fI ifw 0 T) (l &&& mAll) (orL (jsOf T bs)) T.length
  have e5 := sumB_or (fI ifw 0 T) ((l &&& mAll) ||| orL (jsOf T bs)) i T.length
  rw [if_pos (List.getElem?_eq_some_iff.mp B.at_).1, fI_get B.at_, show ifw (.all G) = 0 from rfl] at e5
  have e6 := w_or (T := T) (n := 0) hG
  rw [Nat.zero_or, sumB_zero] at e6
  have k := K.ifs
  have g : gA (.all G) = ifw G := rfl
  unfold AB.wt nearOf
  omega
theorem prodL_cube {f g : Nat → Nat} (h : ∀ j, f j ^ 3 ≤ 3 ^ g j) : ∀ js : List Nat, prodL f js ^ 3 ≤ 3 ^ sumL g js
  | [] => by simp [prodL, sumL]
  | j :: js => by
    have ih := prodL_cube h js
    have e : sumL g (j :: js) = g j + sumL g js := by simp [sumL]
    rw [e, Nat.pow_add]
    simp only [prodL]
    rw [Nat.mul_pow]
    exact Nat.mul_le_mul (h j) ih
theorem cube_le {x : Nat} {n : Nat} (h : x ^ 3 ≤ 3 ^ n) (hn : n ≤ 35) : x ≤ 368500 := by
  refine Classical.byContradiction fun c => ?_
  have h1 : 368501 ^ 3 ≤ x ^ 3 := Nat.pow_le_pow_left (by omega) 3
  have h2 : 3 ^ n ≤ 3 ^ 35 := Nat.pow_le_pow_right (by decide) hn
  have h3 : 368501 ^ 3 ≤ 3 ^ 35 := Nat.le_trans h1 (Nat.le_trans h h2)
  exact absurd h3 (by decide)
def nbMax : Nat := 11055000
theorem Bn.nb {mAll : Nat} (K : TabOk T) (B : Bn T l mAll bs i G) : nb T (nearOf T (l &&& mAll) bs i) (2 ^ ix T G) ≤ nbMax := by
  have C := K.c
  have hG := C.all G (List.mem_of_getElem? B.at_)
  have w := B.wt K
  have s := B.sum_le C hA
  have hp := fI_pos true T
  have e1 : prodB (fI (br true) 1 T) (l &&& mAll) T.length = 1 := prodB_const _ fun j hj => by
    rw [Nat.testBit_and, Bool.and_eq_true] at hj
    obtain ⟨F, e, z⟩ := (B.mask j).mp hj.2
    obtain ⟨M, rfl⟩ := isAll_iff.mp z
    rw [fI_get e]; rfl
  have e2 := prodB_orL hp T.length (jsOf T bs)
  have e4 := prodB_or2 hp (l &&& mAll) (orL (jsOf T bs)) T.length
  have e5 := prodB_or hp ((l &&& mAll) ||| orL (jsOf T bs)) i T.length
  rw [if_pos (List.getElem?_eq_some_iff.mp B.at_).1, fI_get B.at_, show br true (.all G) = 1 from rfl] at e5
  have e6 := p_or (T := T) (n := 0) false hG
  rw [Nat.zero_or, prodB_zero] at e6
  have e7 : prodL (fI (br true) 1 T) (jsOf T bs) = prodL (fun j => br true (body (T.getD j .no))) bs := by
    have : ∀ l : List Nat, (∀ j ∈ l, j ∈ bs) → prodL (fI (br true) 1 T) (jsOf T l) = prodL (fun j => br true (body (T.getD j .no))) l := by
      intro l
      induction l with
      | nil => intro _; rfl
      | cons j l ih =>
        intro h
        obtain ⟨_, M, h2⟩ := B.all (h j List.mem_cons_self)
        show fI (br true) 1 T (ix T (body (T.getD j .no))) * prodL _ (jsOf T l) = _
        rw [ih fun k hk => h k (List.mem_cons_of_mem _ hk), getD_of h2, show body (.all M) = M from rfl, fI_get (ix_get (C.all M (List.mem_of_getElem? h2)))]
        simp only [prodL, getD_of h2]; rfl
    exact this bs fun _ h => h
  have e8 := prodL_cube (f := fun j => br true (body (T.getD j .no))) (g := fun j => ifw (body (T.getD j .no)) + 1) (fun j => br_cube _ _) bs
  have e9 : sumL (fun j => ifw (body (T.getD j .no)) + 1) bs = sumL (fun j => hA (T.getD j .no)) bs := by
    unfold sumL
    congr 1
    refine List.map_congr_left fun j hj => ?_
    obtain ⟨_, M, h2⟩ := B.all hj
    simp only [getD_of h2]; rfl
  have p1 : ph T (nearOf T (l &&& mAll) bs i) (2 ^ ix T G) ≤ prodL (fun j => br true (body (T.getD j .no))) bs * br false G := by
    unfold ph nearOf
    rw [← e7]
    refine Nat.mul_le_mul ?_ (by omega)
    rw [e1, Nat.one_mul] at e4
    omega
  have p2 : (prodL (fun j => br true (body (T.getD j .no))) bs * br false G) ^ 3 ≤ 3 ^ (sumL (fun j => hA (T.getD j .no)) bs + hA (.all G)) := by
    rw [Nat.mul_pow, Nat.pow_add, ← e9]
    exact Nat.mul_le_mul e8 (br_cube G false)
  have p3 := cube_le p2 (Nat.le_trans s K.hs)
  unfold AB.nb nbMax
  calc ph T (nearOf T (l &&& mAll) bs i) (2 ^ ix T G) * (AB.wt T (nearOf T (l &&& mAll) bs i) (2 ^ ix T G) + 1) ≤ 368500 * 30 := Nat.mul_le_mul (Nat.le_trans p1 p3) (by omega)
    _ = 11055000 := by decide
end
/-- the pair that is asked first -/
theorem nb_first {T : List Fm} (K : TabOk T) {F G : Fm} (hF : F ∈ T) (hG : G ∈ T) (h : ifw F + ifw G ≤ 29) : nb T (2 ^ ix T F) (2 ^ ix T G) ≤ nbMax ∧ wt T (2 ^ ix T F) (2 ^ ix T G) ≤ ifw F + ifw G := by
  have a1 := w_or (T := T) (n := 0) hF
  have a2 := w_or (T := T) (n := 0) hG
  have b1 := p_or (T := T) (n := 0) true hF
  have b2 := p_or (T := T) (n := 0) false hG
  rw [Nat.zero_or, sumB_zero] at a1 a2
  rw [Nat.zero_or, prodB_zero, Nat.one_mul] at b1 b2
  have w : wt T (2 ^ ix T F) (2 ^ ix T G) ≤ ifw F + ifw G := by unfold wt; omega
  refine ⟨?_, w⟩
  have p : (br true F * br false G) ^ 3 ≤ 3 ^ (ifw F + 1 + (ifw G + 1)) := by
    rw [Nat.mul_pow, Nat.pow_add]
    exact Nat.mul_le_mul (br_cube F true) (br_cube G false)
  have p3 := cube_le p (by omega)
  unfold nb nbMax ph
  calc _ ≤ 368500 * 30 := Nat.mul_le_mul (Nat.le_trans (Nat.mul_le_mul b1 b2) p3) (by omega)
    _ = 11055000 := by decide
end AB
end
section
set_option Elab.async false
set_option linter.all false
/-! What the search says, derivations step by step, the table of two formulas. -/
namespace AB
section
variable {T : List Fm} {l r i : Nat} {G H : Fm}
theorem leaf_none (hr : r.testBit i = true) (h : T[i]? = some (.all G)) (v : Valid (bnL (S T l) G) (bnR G)) : Valid (S T l) (S T r) :=
  beneath_sound ⟨i, hr, h⟩ v
theorem leaf_some (C : TabC T) (L : Leaf T l r) (h : ∀ i G, r.testBit i = true → T[i]? = some (.all G) → ∃ t, Fals (bnL (S T l) G) (bnR G) t) : ∃ t, FalsP T (l, r) t := by
  refine leaf_complete L.nl L.nr (fun F ⟨i, a, b⟩ ⟨j, c, d⟩ => ?_) L.no (T.map body) (fun G ⟨i, a, b⟩ => ?_) fun G ⟨i, a, b⟩ => h i G a b
  · have e : i = j := (ix_of C.nd b).symm.trans (ix_of C.nd d)
    subst e
    exact and_zero L.op a c
  · exact List.mem_map.mpr ⟨.all G, List.mem_of_getElem? b, rfl⟩
/-- the formulas of a set, as a list -/
def lst (T : List Fm) (n : Nat) : List Fm := T.filter fun F => n.testBit (ix T F)
theorem mem_lst (C : TabC T) {n : Nat} {F : Fm} : F ∈ lst T n ↔ S T n F := by
  unfold lst
  rw [List.mem_filter]
  constructor
  · rintro ⟨h, b⟩
    exact ⟨_, b, ix_get h⟩
  · rintro ⟨j, b, e⟩
    rw [ix_of C.nd e]
    exact ⟨List.mem_of_getElem? e, b⟩
theorem rem_or (n m : Nat) : rem T (n ||| m) ≤ rem T n := filter_le _ _ _ fun F hF h => by
  rw [Bool.and_eq_true, Nat.testBit_or] at h
  rw [Bool.and_eq_true]
  refine ⟨h.1, ?_⟩
  cases e : n.testBit (ix T F) with
  | false => rfl
  | true => rw [e] at h; exact absurd h.2 (by simp)
theorem rem_xor (C : TabC T) {n : Nat} {F : Fm} (h : T[i]? = some F) (na : isAll F = false) : rem T (n ^^^ 2 ^ i) ≤ rem T n := filter_le _ _ _ fun K hK g => by
  rw [Bool.and_eq_true] at g ⊢
  refine ⟨g.1, ?_⟩
  have ne : i ≠ ix T K := fun e => by
    rw [e, ix_get hK] at h
    rw [Option.some.inj h, na] at g
    exact absurd g.1 (by decide)
  rw [tb_xor, decide_eq_false ne, Bool.xor_false] at g
  exact g.2
/-- a derivation of the pair, not deeper than n -/
structure Der (T : List Fm) (l r n : Nat) (d : Drv) : Prop where
  ok : isDrv (lst T l) (lst T r) d = true
  dp : d.depth ≤ n
  bn : d.bn ≤ rem T l
theorem der_same (C : TabC T) {F : Fm} (a : l.testBit i = true) (b : r.testBit i = true) (h : T[i]? = some F) : Der T l r 1 (.same F) :=
  ⟨by simp only [isDrv, (mem_lst C).mpr ⟨i, a, h⟩, (mem_lst C).mpr ⟨i, b, h⟩]; rfl, Nat.le_refl _, Nat.zero_le _⟩
theorem der_no (C : TabC T) (h : S T l .no) : Der T l r 1 .no :=
  ⟨by simp only [isDrv, (mem_lst C).mpr h]; rfl, Nat.le_refl _, Nat.zero_le _⟩
theorem der_mono {n m : Nat} {d : Drv} (D : Der T l r n d) (h : n ≤ m) : Der T l r m d := ⟨D.ok, Nat.le_trans D.dp h, D.bn⟩
theorem eqv_or (C : TabC T) {n : Nat} {F : Fm} (h : F ∈ T) : Eqv (lst T n ++ [F]) (lst T (n ||| 2 ^ ix T F)) := fun K => by
  rw [mem_lst C, S_or (ix_get h), List.mem_append, mem_lst C, List.mem_singleton]; rfl
theorem eqv_xor (C : TabC T) {n : Nat} {F : Fm} (b : n.testBit i = true) (h : T[i]? = some F) : Eqv ((lst T n).filter (· ≠ F)) (lst T (n ^^^ 2 ^ i)) := fun K => by
  rw [mem_lst C, S_xor C.nd b h, List.mem_filter, mem_lst C]
  simp [del]
theorem Eqv.trans {A B D : List Fm} (x : Eqv A B) (y : Eqv B D) : Eqv A D := fun F => (x F).trans (y F)
theorem Eqv.refl (A : List Fm) : Eqv A A := fun _ => Iff.rfl
theorem der_right (C : TabC T) {n : Nat} {d : Drv} (b : r.testBit i = true) (h : T[i]? = some (.imp G H)) (D : Der T (l ||| 2 ^ ix T G) ((r ^^^ 2 ^ i) ||| 2 ^ ix T H) n d) : Der T l r (n + 1) (.right (.imp G H) d) := by
  obtain ⟨hG, hH⟩ := C.imp _ _ (List.mem_of_getElem? h)
  refine ⟨?_, by simp only [Drv.depth]; have := D.dp; omega, Nat.le_trans D.bn (rem_or _ _)⟩
  simp only [isDrv, (mem_lst C).mpr ⟨i, b, h⟩, decide_true, Bool.true_and]
  rw [isDrv_eqv d (eqv_or C hG) (((eqv_xor C b h).snoc H).trans (eqv_or C hH))]
  exact D.ok
theorem der_left (C : TabC T) {n : Nat} {d e : Drv} (b : l.testBit i = true) (h : T[i]? = some (.imp G H)) (D : Der T (l ^^^ 2 ^ i) (r ||| 2 ^ ix T G) n d) (E : Der T ((l ^^^ 2 ^ i) ||| 2 ^ ix T H) r n e) : Der T l r (n + 1) (.left (.imp G H) d e) := by
  obtain ⟨hG, hH⟩ := C.imp _ _ (List.mem_of_getElem? h)
  refine ⟨?_, by simp only [Drv.depth]; have := D.dp; have := E.dp; omega, Nat.max_le.mpr ⟨Nat.le_trans D.bn (rem_xor C h rfl), Nat.le_trans E.bn (Nat.le_trans (rem_or _ _) (rem_xor C h rfl))⟩⟩
  simp only [isDrv, (mem_lst C).mpr ⟨i, b, h⟩, decide_true, Bool.true_and]
  rw [isDrv_eqv d (eqv_xor C b h) (eqv_or C hG), isDrv_eqv e (((eqv_xor C b h).snoc H).trans (eqv_or C hH)) (Eqv.refl _), D.ok, E.ok]
  rfl
theorem der_beneath (C : TabC T) {n mAll : Nat} {bs : List Nat} {d : Drv} (b : r.testBit i = true) (B : Bn T l mAll bs i G) (D : Der T (nearOf T (l &&& mAll) bs i) (2 ^ ix T G) n d) : Der T l r (n + 1) (.beneath (.all G) d) := by
  have hG := C.all G (List.mem_of_getElem? B.at_)
  refine ⟨?_, by simp only [Drv.depth]; have := D.dp; omega, Nat.lt_of_le_of_lt D.bn (B.rem C)⟩
  simp only [isDrv, (mem_lst C).mpr ⟨i, b, B.at_⟩, decide_true, Bool.true_and]
  rw [isDrv_eqv d (L' := lst T (nearOf T (l &&& mAll) bs i)) (R' := lst T (2 ^ ix T G)) (fun K => ?_) (fun K => ?_)]
  · exact D.ok
  · rw [mem_lst C, B.sem C, mem_nears]
    simp only [bnL, lbS, mem_lst C]
    constructor
    · rintro (h | ⟨h, e⟩ | h)
      · exact .inr h
      · exact .inl (.inl ⟨h, e⟩)
      · exact .inl (.inr h)
    · rintro ((⟨h, e⟩ | h) | h)
      · exact .inr (.inl ⟨h, e⟩)
      · exact .inr (.inr h)
      · exact .inl h
  · rw [mem_lst C, S_pow hG C.nd, List.mem_singleton]
/-- how deep a derivation of a pair can be -/
def dm (T : List Fm) (l r : Nat) : Nat := wt T l r + 30 * rem T l
theorem dm_step (C : TabC T) {ch : List (Nat × Nat)} (st : Step T l r ch) (le : ∀ c ∈ ch, rem T c.1 ≤ rem T l) : ∀ c ∈ ch, dm T c.1 c.2 + 1 ≤ dm T l r := fun c hc => by
  have a := step_wt C st c hc
  have b := le c hc
  unfold dm; omega
theorem Bn.dm {mAll : Nat} {bs : List Nat} (K : TabOk T) (B : Bn T l mAll bs i G) : dm T (nearOf T (l &&& mAll) bs i) (2 ^ ix T G) + 1 ≤ dm T l r := by
  have a := B.wt K
  have b := B.rem K.c
  unfold AB.dm; omega
end
/-! ### the table of two formulas -/
def size : Fm → Nat
  | .imp f g => size f + size g + 1
  | .all f => size f + 1
  | _ => 1
/-- all formulas in one, as often as they occur -/
def subs : Fm → List Fm
  | .imp f g => .imp f g :: (subs f ++ subs g)
  | .all f => .all f :: subs f
  | F => [F]
theorem subs_self (F : Fm) : F ∈ subs F := by cases F <;> simp [subs]
theorem subs_len : ∀ F : Fm, (subs F).length = size F
  | .imp f g => by simp only [subs, size, List.length_cons, List.length_append, subs_len f, subs_len g]
  | .all f => by simp only [subs, size, List.length_cons, subs_len f]
  | .atm _ => rfl
  | .no => rfl
theorem subs_trans : ∀ (F : Fm) {G K : Fm}, G ∈ subs F → K ∈ subs G → K ∈ subs F
  | .imp f g, G, K, h, k => by
    simp only [subs, List.mem_cons, List.mem_append] at h ⊢
    rcases h with rfl | h | h
    · simpa [subs] using k
    · exact .inr (.inl (subs_trans f h k))
    · exact .inr (.inr (subs_trans g h k))
  | .all f, G, K, h, k => by
    simp only [subs, List.mem_cons] at h ⊢
    rcases h with rfl | h
    · simpa [subs] using k
    · exact .inr (subs_trans f h k)
  | .atm x, G, K, h, k => by
    simp only [subs, List.mem_singleton] at h
    rw [h] at k; exact k
  | .no, G, K, h, k => by
    simp only [subs, List.mem_singleton] at h
    rw [h] at k; exact k
def ifs : Fm → Nat
  | .imp f g => ifs f + ifs g + 1
  | .all f => ifs f
  | _ => 0
theorem ifs_size : ∀ F : Fm, 2 * ifs F + 1 ≤ size F
  | .imp f g => by have := ifs_size f; have := ifs_size g; simp only [ifs, size]; omega
  | .all f => by have := ifs_size f; simp only [ifs, size]; omega
  | .atm _ => Nat.le_refl _
  | .no => Nat.le_refl _
theorem gA_subs : ∀ F : Fm, ((subs F).map gA).sum + ifw F = ifs F
  | .imp f g => by
    have a := gA_subs f
    have b := gA_subs g
    simp only [subs, ifs, ifw, List.map_cons, List.map_append, List.sum_cons, List.sum_append, gA]
    omega
  | .all f => by
    have a := gA_subs f
    simp only [subs, ifs, ifw, List.map_cons, List.sum_cons, gA]
    omega
  | .atm _ => rfl
  | .no => rfl
theorem hA_gA (T : List Fm) : (T.map hA).sum = (T.map gA).sum + nA T := by
  induction T with
  | nil => rfl
  | cons F T ih =>
    unfold nA at ih ⊢
    simp only [List.map_cons, List.sum_cons, List.filter_cons]
    cases F <;> simp [hA, gA, isAll, ih] <;> omega
/-- the table of the formulas in two formulas -/
structure Tab2 (T : List Fm) (F G : Fm) : Prop where
  c : TabC T
  inF : F ∈ T
  inG : G ∈ T
  sub : ∀ K ∈ T, K ∈ subs F ++ subs G
theorem Tab2.ok {T : List Fm} {F G : Fm} (t : Tab2 T F G) (hs : size F + size G ≤ 60) (ha : nA T ≤ 6) : TabOk T ∧ ifw F + ifw G ≤ 29 := by
  have q := nodup_sum_le gA t.c.nd t.sub
  have a := gA_subs F
  have b := gA_subs G
  have s1 := ifs_size F
  have s2 := ifs_size G
  rw [List.map_append, List.sum_append] at q
  have h := hA_gA T
  refine ⟨⟨t.c, by omega, by omega, ha, ?_⟩, by omega⟩
  have z := nodup_sum_le (fun _ : Fm => 1) t.c.nd t.sub
  simp only [List.map_const', List.sum_replicate_nat, Nat.mul_one] at z
  rw [List.length_append, subs_len, subs_len] at z
  omega
end AB
end
section
set_option Elab.async false
set_option linter.all false
/-! The law's own functions, in plain Lean: all-parts, letters, spots, the least height; pairs put together. -/
namespace AB
/-- the unlike all-parts of a formula, inner ones first -/
def alls : Fm → List Fm
  | .imp f g => alls f ++ (alls g).filter fun K => decide (K ∉ alls f)
  | .all f => alls f ++ [.all f]
  | _ => []
theorem mem_alls : ∀ (F K : Fm), K ∈ alls F ↔ K ∈ subs F ∧ isAll K = true
  | .imp f g, K => by
    simp only [alls, subs, List.mem_append, List.mem_filter, List.mem_cons, mem_alls f K, mem_alls g K, decide_eq_true_eq]
    constructor
    · rintro (⟨a, b⟩ | ⟨⟨a, b⟩, _⟩)
      · exact ⟨.inr (.inl a), b⟩
      · exact ⟨.inr (.inr a), b⟩
    · rintro ⟨rfl | a | a, b⟩
      · cases b
      · exact .inl ⟨a, b⟩
      · by_cases c : K ∈ subs f
        · exact .inl ⟨c, b⟩
        · exact .inr ⟨⟨a, b⟩, fun z => c z.1⟩
  | .all f, K => by
    simp only [alls, subs, List.mem_append, List.mem_cons, mem_alls f K, List.not_mem_nil, or_false]
    constructor
    · rintro (⟨a, b⟩ | rfl)
      · exact ⟨.inr a, b⟩
      · exact ⟨.inl rfl, rfl⟩
    · rintro ⟨rfl | a, b⟩
      · exact .inr rfl
      · exact .inl ⟨a, b⟩
  | .atm x, K => by
    simp only [alls, subs, List.mem_singleton]
    constructor
    · intro h; cases h
    · rintro ⟨rfl, h⟩; cases h
  | .no, K => by
    simp only [alls, subs, List.mem_singleton]
    constructor
    · intro h; cases h
    · rintro ⟨rfl, h⟩; cases h
theorem subs_size : ∀ (F : Fm) {K : Fm}, K ∈ subs F → size K ≤ size F
  | .imp f g, K, h => by
    simp only [subs, List.mem_cons, List.mem_append] at h
    rcases h with rfl | h | h
    · exact Nat.le_refl _
    · have := subs_size f h; simp only [size]; omega
    · have := subs_size g h; simp only [size]; omega
  | .all f, K, h => by
    simp only [subs, List.mem_cons] at h
    rcases h with rfl | h
    · exact Nat.le_refl _
    · have := subs_size f h; simp only [size]; omega
  | .atm x, K, h => by rw [show K = .atm x by simpa [subs] using h]; exact Nat.le_refl _
  | .no, K, h => by rw [show K = .no by simpa [subs] using h]; exact Nat.le_refl _
theorem all_notin (f : Fm) : Fm.all f ∉ alls f := fun h => by
  have q := subs_size f ((mem_alls f _).mp h).1
  simp only [size] at q
  omega
theorem alls_nodup : ∀ F : Fm, (alls F).Nodup
  | .imp f g => by
    simp only [alls]
    refine List.nodup_append.mpr ⟨alls_nodup f, (alls_nodup g).filter _, fun a ha b hb e => ?_⟩
    rw [List.mem_filter, decide_eq_true_eq] at hb
    exact hb.2 (e ▸ ha)
  | .all f => by
    simp only [alls]
    refine List.nodup_append.mpr ⟨alls_nodup f, by simp, fun a ha b hb e => ?_⟩
    rw [List.mem_singleton.mp hb] at e
    exact all_notin f (e ▸ ha)
  | .atm _ => List.nodup_nil
  | .no => List.nodup_nil
/-- the all-parts of the table are among those of the pair -/
theorem Tab2.al {T : List Fm} {F G : Fm} (t : Tab2 T F G) : nA T ≤ (alls (.imp F G)).length := by
  have z := nodup_sum_le (fun _ : Fm => 1) (t.c.nd.filter isAll) (ys := alls (.imp F G)) fun K hK => by
    obtain ⟨a, b⟩ := List.mem_filter.mp hK
    refine (mem_alls _ K).mpr ⟨?_, b⟩
    simp only [subs, List.mem_cons]
    exact .inr (t.sub K a)
  unfold nA
  simpa [List.map_const'] using z
theorem alls_len : ∀ F : Fm, (alls F).length ≤ size F
  | .imp f g => by
    have a := alls_len f
    have b := alls_len g
    have c := List.length_filter_le (fun K => decide (K ∉ alls f)) (alls g)
    simp only [alls, size, List.length_append]
    omega
  | .all f => by have a := alls_len f; simp only [alls, size, List.length_append, List.length_singleton]; omega
  | .atm _ => by simp [alls]
  | .no => by simp [alls]
/-! ### letters, spots -/
def occ (x : At) : Fm → Bool
  | .atm y => decide (x = y)
  | .no => false
  | .imp f g => occ x f || occ x g
  | .all f => occ x f
def spots (ls : List At) : List (List At) := ls.foldl (fun found x => found ++ found.map fun s => s ++ [x]) [[]]
theorem spots_ok (W : At → Bool) : ∀ (ls done : List At) (found : List (List At)), (∃ s ∈ found, ∀ x, x ∈ s ↔ x ∈ done ∧ W x = true) →
    ∃ s ∈ ls.foldl (fun found x => found ++ found.map fun s => s ++ [x]) found, ∀ x, x ∈ s ↔ x ∈ done ++ ls ∧ W x = true
  | [], done, found, h => by simpa using h
  | y :: ls, done, found, ⟨s, hs, e⟩ => by
    have q := spots_ok W ls (done ++ [y]) (found ++ found.map fun s => s ++ [y]) (by
      cases hy : W y with
      | true =>
        refine ⟨s ++ [y], List.mem_append_right _ (List.mem_map.mpr ⟨s, hs, rfl⟩), fun x => ?_⟩
        simp only [List.mem_append, List.mem_singleton, e x]
        constructor
        · rintro (⟨a, b⟩ | rfl)
          · exact ⟨.inl a, b⟩
          · exact ⟨.inr rfl, hy⟩
        · rintro ⟨a | a, b⟩
          · exact .inl ⟨a, b⟩
          · exact .inr a
      | false =>
        refine ⟨s, List.mem_append_left _ hs, fun x => ?_⟩
        simp only [List.mem_append, List.mem_singleton, e x]
        constructor
        · rintro ⟨a, b⟩; exact ⟨.inl a, b⟩
        · rintro ⟨a | rfl, b⟩
          · exact ⟨a, b⟩
          · rw [hy] at b; cases b)
    rw [List.append_assoc] at q
    exact q
theorem spots_has (W : At → Bool) (ls : List At) : ∃ s ∈ spots ls, ∀ x, x ∈ s ↔ x ∈ ls ∧ W x = true := by
  have q := spots_ok W ls [] [[]] ⟨[], List.mem_singleton.mpr rfl, fun x => by simp⟩
  simpa [spots] using q
theorem spots_len (ls : List At) : (spots ls).length = 2 ^ ls.length := by
  have : ∀ (ls : List At) (found : List (List At)), (ls.foldl (fun found x => found ++ found.map fun s => s ++ [x]) found).length = found.length * 2 ^ ls.length := by
    intro ls
    induction ls with
    | nil => intro found; simp
    | cons x ls ih =>
      intro found
      rw [List.foldl_cons, ih]
      simp only [List.length_append, List.length_map, List.length_cons, Nat.pow_succ]
      rw [← Nat.mul_two, Nat.mul_assoc, Nat.mul_comm 2]
  unfold spots
  rw [this]; simp
def isTrue (hold : List Fm) (s : List At) : Fm → Bool
  | .atm x => decide (x ∈ s)
  | .no => false
  | .imp f g => !isTrue hold s f || isTrue hold s g
  | .all f => decide (.all f ∈ hold)
/-- what holds of the all-parts A at a point -/
noncomputable def heldAt (A : List Fm) (t : Tr) : List Fm := A.filter fun F => @decide (holds F t) (Classical.propDecidable _)
theorem mem_heldAt {A : List Fm} {t : Tr} {F : Fm} : F ∈ heldAt A t ↔ F ∈ A ∧ holds F t := by
  unfold heldAt
  rw [List.mem_filter]
  exact and_congr Iff.rfl ⟨fun h => @of_decide_eq_true _ (Classical.propDecidable _) h, fun h => @decide_eq_true _ (Classical.propDecidable _) h⟩
theorem isTrue_iff {A : List Fm} {ls s : List At} {t : Tr} (hs : ∀ x, x ∈ s ↔ x ∈ ls ∧ t.at x = true) : ∀ F : Fm, (∀ K ∈ alls F, K ∈ A) → (∀ x, occ x F = true → x ∈ ls) → (isTrue (heldAt A t) s F = true ↔ holds F t)
  | .atm x, _, h2 => by
    have : x ∈ ls := h2 x (by simp [occ])
    simp only [isTrue, holds, decide_eq_true_eq, hs x, this, true_and]
  | .no, _, _ => by simp [isTrue, holds]
  | .imp f g, h1, h2 => by
    have a := isTrue_iff hs f (fun K hK => h1 K (by simp only [alls, List.mem_append]; exact .inl hK)) fun x hx => h2 x (by simp [occ, hx])
    have b := isTrue_iff hs g (fun K hK => h1 K ((mem_alls _ K).mpr (by
      have q := (mem_alls g K).mp hK
      exact ⟨by simp only [subs, List.mem_cons, List.mem_append]; exact .inr (.inr q.1), q.2⟩))) fun x hx => h2 x (by simp [occ, hx])
    simp only [isTrue, holds, Bool.or_eq_true, Bool.not_eq_true']
    constructor
    · rintro (h | h) hf
      · rw [a.mpr hf] at h; cases h
      · exact b.mp h
    · intro h
      cases e : isTrue (heldAt A t) s f with
      | false => exact .inl rfl
      | true => exact .inr (b.mpr (h (a.mp e)))
  | .all f, h1, _ => by
    have : Fm.all f ∈ A := h1 _ (by simp [alls])
    simp only [isTrue, decide_eq_true_eq, mem_heldAt, this, true_and]
/-! ### the sets of all-parts that can hold -/
/-- a list of some of the all-parts, in their order -/
def Canon (A h : List Fm) : Prop := ∃ p : Fm → Bool, h = A.filter p
theorem Canon.ext {A h k : List Fm} (x : Canon A h) (y : Canon A k) (e : ∀ F, F ∈ h ↔ F ∈ k) : h = k := by
  obtain ⟨p, rfl⟩ := x
  obtain ⟨q, rfl⟩ := y
  refine List.filter_congr fun F hF => ?_
  have z := e F
  simp only [List.mem_filter, hF, true_and] at z
  exact Bool.eq_iff_iff.mpr z
theorem Canon.filter {A h : List Fm} (x : Canon A h) (q : Fm → Bool) : Canon A (h.filter q) := by
  obtain ⟨p, rfl⟩ := x
  exact ⟨fun F => q F && p F, by rw [List.filter_filter]⟩
theorem Canon.whole (A : List Fm) : Canon A A := ⟨fun _ => true, (List.filter_eq_self.mpr fun _ _ => rfl).symm⟩
theorem Canon.of (A : List Fm) (p : Fm → Bool) : Canon A (A.filter p) := ⟨p, rfl⟩
def powers : List Fm → List (List Fm)
  | [] => [[]]
  | x :: A => powers A ++ (powers A).map (x :: ·)
theorem powers_len : ∀ A : List Fm, (powers A).length = 2 ^ A.length
  | [] => rfl
  | x :: A => by simp only [powers, List.length_append, List.length_map, powers_len A, List.length_cons, Nat.pow_succ]; omega
theorem filter_powers (p : Fm → Bool) : ∀ A : List Fm, A.filter p ∈ powers A
  | [] => by simp [powers]
  | x :: A => by
    have ih := filter_powers p A
    rw [List.filter_cons]
    simp only [powers, List.mem_append, List.mem_map]
    split
    · exact .inr ⟨_, ih, rfl⟩
    · exact .inl ih
theorem canon_few {A : List Fm} {hs : List (List Fm)} (nd : hs.Nodup) (h : ∀ x ∈ hs, Canon A x) : hs.length ≤ 2 ^ A.length := by
  have z := nodup_sum_le (fun _ : List Fm => 1) nd (ys := powers A) fun x hx => by
    obtain ⟨p, rfl⟩ := h x hx
    exact filter_powers p A
  simpa [List.map_const', powers_len] using z
/-- what holds one level up, from what holds here -/
def onw (A : List Fm) (h : List Fm) (s : List At) : List Fm := A.filter fun F => decide (F ∈ h) && isTrue h s (body F)
/-- all that is in each of two -/
def inter (h k : List Fm) : List Fm := h.filter fun F => decide (F ∈ k)
theorem inter_canon {A h k : List Fm} (x : Canon A h) : Canon A (inter h k) := x.filter _
theorem inter_comm {A h k : List Fm} (x : Canon A h) (y : Canon A k) : inter h k = inter k h :=
  (inter_canon x).ext (inter_canon y) fun F => by simp only [inter, List.mem_filter, decide_eq_true_eq]; exact And.comm
/-- closed: what is one level up, and all that is in each of two, is known -/
structure Clo (A : List Fm) (sp : List (List At)) (known m : List (List Fm)) : Prop where
  can : ∀ h ∈ known, Canon A h
  whole : A ∈ known
  onw : ∀ h ∈ known, ∀ s ∈ sp, onw A h s ∈ m
  int : ∀ h ∈ m, ∀ k ∈ m, inter h k ∈ m
  sub : ∀ h ∈ m, h ∈ known
theorem Clo.held {A : List Fm} {ls : List At} {known m : List (List Fm)} (C : Clo A (spots ls) known m) (hA : ∀ K ∈ A, isAll K = true) (hb : ∀ K ∈ A, (∀ M ∈ alls (body K), M ∈ A) ∧ ∀ x, occ x (body K) = true → x ∈ ls) :
    ∀ (n : Nat) (t : Tr), t.size ≤ n → heldAt A t ∈ known := by
  intro n
  induction n with
  | zero => intro t h; cases t; simp only [Tr.size] at h; omega
  | succ n ih =>
    intro t ht
    have canH : ∀ t, Canon A (heldAt A t) := fun t => ⟨_, rfl⟩
    -- what holds at all of some points beneath
    have key : ∀ us : List Tr, us ≠ [] → (∀ u ∈ us, u ∈ t.desc) → ∃ h ∈ m, Canon A h ∧ ∀ F, F ∈ h ↔ F ∈ A ∧ ∀ u ∈ us, holds F u ∧ holds (body F) u := by
      intro us
      induction us with
      | nil => intro h; exact absurd rfl h
      | cons u us ihu =>
        intro _ hus
        have hu := hus u List.mem_cons_self
        have lt := Tr.desc_lt t u hu
        obtain ⟨s, hs, es⟩ := spots_has u.at ls
        have k1 : heldAt A u ∈ known := ih u (by omega)
        have m1 := C.onw _ k1 s hs
        have c1 : Canon A (AB.onw A (heldAt A u) s) := Canon.of A _
        have e1 : ∀ F, F ∈ AB.onw A (heldAt A u) s ↔ F ∈ A ∧ holds F u ∧ holds (body F) u := fun F => by
          unfold AB.onw
          rw [List.mem_filter, Bool.and_eq_true, decide_eq_true_eq, mem_heldAt]
          constructor
          · rintro ⟨a, ⟨_, b⟩, c⟩
            exact ⟨a, b, (isTrue_iff es (body F) (hb F a).1 (hb F a).2).mp c⟩
          · rintro ⟨a, b, c⟩
            exact ⟨a, ⟨a, b⟩, (isTrue_iff es (body F) (hb F a).1 (hb F a).2).mpr c⟩
        by_cases e : us = []
        · subst e
          exact ⟨_, m1, c1, fun F => by rw [e1]; simp⟩
        · obtain ⟨h, hm, hc, he⟩ := ihu e fun v hv => hus v (List.mem_cons_of_mem _ hv)
          refine ⟨inter h (AB.onw A (heldAt A u) s), C.int _ hm _ m1, inter_canon hc, fun F => ?_⟩
          simp only [inter, List.mem_filter, decide_eq_true_eq, he F, e1 F, List.mem_cons, forall_eq_or_imp]
          constructor
          · rintro ⟨⟨a, b⟩, _, c⟩; exact ⟨a, c, b⟩
          · rintro ⟨a, c, b⟩; exact ⟨⟨a, b⟩, a, c⟩
    by_cases e : t.desc = []
    · have : heldAt A t = A := (canH t).ext (Canon.whole A) fun F => by
        rw [mem_heldAt]
        refine ⟨fun h => h.1, fun h => ⟨h, ?_⟩⟩
        obtain ⟨G, rfl⟩ := isAll_iff.mp (hA F h)
        intro u hu
        rw [e] at hu; cases hu
      rw [this]; exact C.whole
    · obtain ⟨h, hm, hc, he⟩ := key t.desc e fun u hu => hu
      have : heldAt A t = h := (canH t).ext hc fun F => by
        rw [mem_heldAt, he F]
        refine and_congr_right fun a => ?_
        obtain ⟨G, rfl⟩ := isAll_iff.mp (hA F a)
        exact ⟨fun q u hu => ⟨holds_all_desc q hu, q u hu⟩, fun q u hu => (q u hu).2⟩
      rw [this]; exact C.sub _ hm
/-- the one follows from the other -/
def VP (F G : Fm) : Prop := ∀ t, holds F t → holds G t
/-- nothing more is new, and no known one parts them: then it follows -/
theorem vp_of_clo {F G : Fm} {ls : List At} {known m : List (List Fm)} (hl : ∀ x, occ x (.imp F G) = true → x ∈ ls) (C : Clo (alls (.imp F G)) (spots ls) known m)
    (h : ∀ k ∈ known, ∀ s ∈ spots ls, ¬ (isTrue k s F = true ∧ isTrue k s G = false)) : VP F G := by
  have sub : ∀ K ∈ alls (.imp F G), ∀ M ∈ alls (body K), M ∈ alls (.imp F G) := fun K hK M hM => by
    obtain ⟨a, b⟩ := (mem_alls _ K).mp hK
    obtain ⟨N, rfl⟩ := isAll_iff.mp b
    obtain ⟨c, d⟩ := (mem_alls _ M).mp hM
    refine (mem_alls _ M).mpr ⟨subs_trans _ a ?_, d⟩
    simp only [subs, List.mem_cons]
    exact .inr c
  have occS : ∀ (F K : Fm) (x : At), K ∈ subs F → occ x K = true → occ x F = true := by
    intro F
    induction F with
    | imp f g ihf ihg =>
      intro K x hK hx
      simp only [subs, List.mem_cons, List.mem_append] at hK
      rcases hK with rfl | hK | hK
      · exact hx
      · simp [occ, ihf K x hK hx]
      · simp [occ, ihg K x hK hx]
    | all f ih =>
      intro K x hK hx
      simp only [subs, List.mem_cons] at hK
      rcases hK with rfl | hK
      · exact hx
      · exact ih K x hK hx
    | atm y => intro K x hK hx; rw [show K = .atm y by simpa [subs] using hK] at hx; exact hx
    | no => intro K x hK hx; rw [show K = .no by simpa [subs] using hK] at hx; exact hx
  intro t ht
  have hk := C.held (fun K hK => ((mem_alls _ K).mp hK).2) (fun K hK => ⟨sub K hK, fun x hx => hl x (occS _ K x ((mem_alls _ K).mp hK).1 (by
    obtain ⟨N, rfl⟩ := isAll_iff.mp ((mem_alls _ K).mp hK).2
    exact hx))⟩) t.size t (Nat.le_refl _)
  obtain ⟨s, hs, es⟩ := spots_has t.at ls
  have q := h _ hk s hs
  have inF : ∀ K ∈ alls F, K ∈ alls (.imp F G) := fun K hK => by simp only [alls, List.mem_append]; exact .inl hK
  have inG : ∀ K ∈ alls G, K ∈ alls (.imp F G) := fun K hK => by
    obtain ⟨a, b⟩ := (mem_alls _ K).mp hK
    exact (mem_alls _ K).mpr ⟨by simp only [subs, List.mem_cons, List.mem_append]; exact .inr (.inr a), b⟩
  have a := (isTrue_iff es F inF fun x hx => hl x (by simp [occ, hx])).mpr ht
  cases e : isTrue (heldAt (alls (.imp F G)) t) s G with
  | false => exact absurd ⟨a, e⟩ q
  | true => exact (isTrue_iff es G inG fun x hx => hl x (by simp [occ, hx])).mp e
/-! ### pairs put together -/
abbrev fNot (F : Fm) : Fm := .imp F .no
abbrev fBoth (F G : Fm) : Fm := fNot (.imp F (fNot G))
theorem vp_ahead {F G : Fm} (c : Fm) (h : VP F G) : VP (.imp c F) (.imp c G) := fun t q k => h t (q k)
theorem vp_over {F G : Fm} (h : VP F G) : VP (.all F) (.all G) := fun t q u hu => h u (q u hu)
theorem vp_denied {F G : Fm} (h : VP F G) : VP (fNot G) (fNot F) := fun t q k => q (h t k)
theorem vp_joined {F G F' G' : Fm} (h : VP F G) (h' : VP F' G') : VP (fBoth F F') (fBoth G G') := fun t q k => q fun a b => k (h t a) (h' t b)
theorem vp_first : VP (.atm .a) (.imp (.atm .b) (.atm .a)) := fun t q _ => q
theorem vp_refl (F : Fm) : VP F F := fun _ q => q
theorem vp_valid {F G : Fm} (h : VP F G) : Valid (fun K => K = F) (fun K => K = G) := fun t ⟨a, b⟩ => b G rfl (h t (a F rfl))
end AB
end
section
set_option Elab.async false
set_option linter.all false
set_option maxRecDepth 100000
/-! The search's small functions: lowest, members. -/
namespace AT
open PySem PySem.Spec PyProof.Rows L2 GL
/-! ### bits -/
theorem and_nat (a b : Nat) : Builtin.bitAnd (a : Int) (b : Int) = ((a &&& b : Nat) : Int) := by
  rw [bitAnd_pp (Int.natCast_nonneg a) (Int.natCast_nonneg b), Int.toNat_natCast, Int.toNat_natCast]
theorem and_neg (n : Nat) : Builtin.bitAnd (n : Int) (-(n : Int)) = ((AB.low n : Nat) : Int) := by
  rcases Nat.eq_zero_or_pos n with e | e
  · subst e; rfl
  · unfold Builtin.bitAnd
    have h1 : decide (0 ≤ (n : Int)) = true := decide_eq_true (Int.natCast_nonneg n)
    have h2 : decide (0 ≤ -(n : Int)) = false := decide_eq_false (by omega)
    rw [h1, h2]
    show (n : Int) - (((n : Int).toNat &&& (Builtin.bitNot (-(n : Int))).toNat : Nat) : Int) = _
    have h3 : (Builtin.bitNot (-(n : Int))).toNat = n - 1 := by
      unfold Builtin.bitNot; omega
    rw [h3, Int.toNat_natCast]
    unfold AB.low
    have : n &&& (n - 1) ≤ n := Nat.and_le_left
    omega
theorem or_nat (a b : Nat) : Builtin.bitOr (a : Int) (b : Int) = ((a ||| b : Nat) : Int) := by
  rw [Bits.bitOr_pp (Int.natCast_nonneg a) (Int.natCast_nonneg b), Int.toNat_natCast, Int.toNat_natCast]
theorem xor_nat (a b : Nat) : Builtin.bitXor (a : Int) (b : Int) = ((a ^^^ b : Nat) : Int) := by
  rw [Bits.bitXor_pp (Int.natCast_nonneg a) (Int.natCast_nonneg b), Int.toNat_natCast, Int.toNat_natCast]
/-! ### on naturals -/
def rN (f : Nat → Nat → Nat) : R2 := fun x y H Q => ∃ i j : Nat, x = .int (i : Int) ∧ y = .int (j : Int) ∧ Q (.int ((f i j : Nat) : Int)) H
theorem OpG.imp {X : Cx} {f : Value → Value → Sem Value} {r r' : R2} (h : OpG X f r) (hr : ∀ x y H Q, r' x y H Q → r x y H Q) : OpG X f r' := fun G pins s σ H x y v u Q I rx ry q => h G pins s σ H x y v u Q I rx ry (hr _ _ _ _ q)
theorem on_and {X : Cx} : OpG X (binaryOp .BitAnd) (rN (· &&& ·)) := OpG.imp og_and fun x y H Q ⟨i, j, e1, e2, q⟩ => ⟨i, j, e1, e2, by show Q (.int (Builtin.bitAnd i j)) H; rw [and_nat]; exact q⟩
theorem on_or {X : Cx} : OpG X (binaryOp .BitOr) (rN (· ||| ·)) := OpG.imp og_or fun x y H Q ⟨i, j, e1, e2, q⟩ => ⟨i, j, e1, e2, by show Q (.int (Builtin.bitOr i j)) H; rw [or_nat]; exact q⟩
theorem on_xor {X : Cx} : OpG X (binaryOp .BitXor) (rN (· ^^^ ·)) := OpG.imp og_xor fun x y H Q ⟨i, j, e1, e2, q⟩ => ⟨i, j, e1, e2, by show Q (.int (Builtin.bitXor i j)) H; rw [xor_nat]; exact q⟩
/-! ### promises -/
/-- nothing that was tracked is changed -/
abbrev Kp (H H' : Hp) : Prop := Same H H'
theorem Kp.upd {H H' : Hp} {a : Addr} {o : HO} (h : Kp H H') (e : H a = none) : Kp H (upd H' a o) := fun b u q => by
  rw [upd_ne (ne_of_none q e)]; exact h b u q
def spLowest : Sp := fun vs H Q _ => ∃ n : Nat, vs = [.int n] ∧ Q (.int (AB.low n : Nat)) H
def two (j : Nat) : V := .int ((2 ^ j : Nat) : Int)
/-- the bits' numbers -/
structure BitsOf (n : Nat) (js : List Nat) : Prop where
  nd : js.Nodup
  mem : ∀ i, i ∈ js ↔ n.testBit i = true
def spMembers : Sp := fun vs H Q _ => ∃ n : Nat, vs = [.int n] ∧ n < 2 ^ 64 ∧ ∀ js a H', BitsOf n js → Kp H H' → H a = none → H' a = some (.lst (js.map two)) → Q (.ref a) H'
section
variable {P : Program} {w : World} {K : PySem.W.Frag} {mg : Str → Option Value} {base : Heap} (T : Tx w K mg)
abbrev FG (P : Program) (w : World) (K : PySem.W.Frag) (mg : Str → Option Value) (base : Heap) (k : Nat) (f : Addr) (ps : List Str) (sp : Sp) : Prop := FnG P w K mg base k f (fdOf K f) ps sp
theorem sc_lowest : FnScope ["bits"] ["bits"] (defScope s_lowest) := ⟨rfl, rfl, rfl, by decide +kernel, rfl, by decide +kernel, by decide +kernel⟩
include T
theorem ok_lowest : FG P w K mg base 1 (f_lowest K) ["bits"] spLowest := by
  refine FnG.of T.F_lowest sc_lowest (fun vs H Q E h => ?_) (fun cdv A outer s H vs Q hr h => ⟨_, sgs_one (sg_ret (eg_op og_and (eg_var 0) (eg_neg (eg_var 0)))), ?_⟩)
  · obtain ⟨n, rfl, _⟩ := h; rfl
  · obtain ⟨n, rfl, q⟩ := h
    refine ⟨_, rfl, _, rfl, n, rfl, ?_⟩
    refine ⟨n, _, rfl, rfl, ?_⟩
    show Q (.int (Builtin.bitAnd n (-n))) H
    rw [and_neg]
    exact q
theorem len_lowest (vs : List V) (H : Hp) (Q : VK) (E : XK) (h : spLowest vs H Q E) : vs.length = 1 := by obtain ⟨n, rfl, _⟩ := h; rfl
theorem bd_lowest : L2.Binds K (fdOf K (f_lowest K)) ["bits"] [] := T.F_lowest.binds fun _ _ _ _ _ _ us hl => match us, hl with | [_], _ => rfl
end
section
variable {n : Nat}
theorem sum_ones : ∀ l : List Nat, (l.map fun _ => 1).sum = l.length
  | [] => rfl
  | _ :: l => by rw [List.map_cons, List.sum_cons, sum_ones l, List.length_cons]; omega
theorem bits_le {js : List Nat} (h : js.Nodup) (hm : ∀ i ∈ js, n.testBit i = true) (hn : n < 2 ^ 64) : js.length ≤ 64 := by
  have hi : ∀ i ∈ js, i < 64 := fun i hi => by
    rcases Nat.lt_or_ge i 64 with c | c
    · exact c
    · have z := Nat.testBit_lt_two_pow (Nat.lt_of_lt_of_le hn (Nat.pow_le_pow_right (by decide) c))
      rw [hm i hi] at z; cases z
  have q := AB.nodup_sum_le (fun _ => 1) (xs := js) (ys := List.range 64) h fun x hx => List.mem_range.mpr (hi x hx)
  rw [sum_ones, sum_ones, List.length_range] at q
  exact q
end
section
variable {P : Program} {w : World} {K : PySem.W.Frag} {mg : Str → Option Value} {base : Heap} (T : Tx w K mg)
theorem sc_members : FnScope ["bits", "found", "left"] ["bits"] (defScope s_members) := ⟨rfl, rfl, rfl, by decide +kernel, rfl, by decide +kernel, by decide +kernel⟩
include T
theorem ok_members : FG P w K mg base 2 (f_members K) ["bits"] spMembers := by
  refine FnG.of T.F_members sc_members (fun vs H Q E h => ?_) (fun cdv A outer s H vs Q hr h => ⟨_, sgs_cons (sg_par (i := 1) (j := 2) rfl sc_members.nd rfl rfl (by decide) rfl rfl (ag_cons (eg_lst ag_nil) (ag_cons (eg_var 0) ag_nil)) rfl)
    (sgs_cons (sg_while PassesOwn.never (tg_cmp og_gt (eg_var 2) eg_int rfl)
      (sgs_cons (sg_expr (eg_bm PySem.F.slot_list_append PySem.F.type_list_append mg_append (eg_var 1) (ag_cons (eg_call (ok_lowest (P := P) (base := base) T) hr rfl T.g_lowest T.F_lowest.kp (bd_lowest T) (ag_cons (eg_var 2) ag_nil)) ag_nil)))
        (sgs_one (sg_set (i := 2) (eg_op on_xor (eg_var 2) (eg_ix xg_list (eg_var 1) (eg_neg eg_int) (fun _ _ => rfl))) sc_members.nd rfl rfl))))
      (sgs_one (sg_ret (eg_var 1)))), ?_⟩)
  · obtain ⟨n, rfl, _⟩ := h; rfl
  · obtain ⟨n, rfl, hn, q⟩ := h
    refine ⟨Nat.zero_le _, fun l (hl : H l = none) => ?_⟩
    refine ⟨_, rfl, .ref l, .int n, rfl, ?_⟩
    refine ⟨fun m σ H' => ∃ (js : List Nat) (left : Nat), σ = [some (.int n), some (.ref l), some (.int left)] ∧ m = left ∧ H' l = some (.lst (js.map two)) ∧ Kp H H' ∧ js.Nodup ∧ (∀ i ∈ js, n.testBit i = true) ∧ ∀ i, left.testBit i = (n.testBit i && !decide (i ∈ js)),
      ⟨n, [], n, rfl, rfl, upd_same, Kp.upd (Same.refl H) hl, List.nodup_nil, (by simp), by simp⟩, ?_⟩
    rintro left σ H' ⟨js, _, rfl, rfl, h1, h2, h3, h4, h5⟩
    refine ⟨_, rfl, left, 0, rfl, rfl, _, rfl, ite2 (fun hc => ?_) fun hc => ?_⟩
    · have hp : 0 < left := by have := of_decide_eq_true hc; omega
      obtain ⟨i, ei, bi⟩ := AB.low_spec left hp
      have hni : n.testBit i = true := by
        have q := h5 i
        rw [bi] at q
        exact (Bool.and_eq_true_iff.mp q.symm).1
      have hji : i ∉ js := fun z => by
        have q := h5 i
        rw [bi, decide_eq_true z] at q
        simp at q
      have hjn : (js ++ [i]).Nodup := List.nodup_append.mpr ⟨h3, by simp, fun a ha b hb => by
        rw [List.mem_singleton.mp hb]
        exact fun e => hji (e ▸ ha)⟩
      have hle := bits_le h3 h4 hn
      refine ⟨fun σ' H2 => ∃ m', m' < left ∧ _, fun σ' H2 z => z, ?_⟩
      refine ⟨_, rfl, ⟨l, _, rfl, SqL.of h1⟩, ?_⟩
      refine ⟨_, rfl, left, rfl, ?_⟩
      refine ⟨l, _, _, rfl, rfl, h1, by rw [List.length_map]; exact Nat.lt_of_le_of_lt hle (by decide), ?_⟩
      have e1 : js.map two ++ [V.int (AB.low left : Nat)] = (js ++ [i]).map two := by
        rw [List.map_append, ei]; rfl
      rw [e1]
      have hu : upd H' l (.lst ((js ++ [i]).map two)) l = some (.lst ((js ++ [i]).map two)) := upd_same
      refine ⟨_, rfl, _, rfl, 1, rfl, l, (js ++ [i]).map two, -1, two i, rfl, rfl, SqL.of hu, ?_, ?_⟩
      · have e2 : (js ++ [i]).map two = js.map two ++ [two i] := by rw [List.map_append]; rfl
        rw [e2]
        exact atI_last _ _
      · refine ⟨left, 2 ^ i, rfl, rfl, ?_⟩
        refine ⟨_, AB.xor_lt bi, js ++ [i], left ^^^ 2 ^ i, rfl, rfl, hu, Kp.upd h2 hl, hjn, fun k hk => ?_, fun k => ?_⟩
        · rcases List.mem_append.mp hk with hk | hk
          · exact h4 k hk
          · rw [List.mem_singleton.mp hk]; exact hni
        · rw [AB.tb_xor, h5 k]
          by_cases e : i = k
          · subst e
            simp [hni, hji]
          · have e' : ¬ k = i := fun z => e z.symm
            simp [e, e', List.mem_append]
    · have hz : left = 0 := by
        have : ¬ ((0 : Int) < left) := fun z => hc (decide_eq_true z)
        omega
      subst hz
      refine ⟨_, rfl, q js l H' ⟨h3, fun i => ⟨h4 i, fun hi => ?_⟩⟩ h2 hl h1⟩
      have z := h5 i
      rw [Nat.zero_testBit, hi] at z
      exact Classical.byContradiction fun hn => by simp [hn] at z
theorem len_members (vs : List V) (H : Hp) (Q : VK) (E : XK) (h : spMembers vs H Q E) : vs.length = 1 := by obtain ⟨n, rfl, _⟩ := h; rfl
theorem bd_members : L2.Binds K (fdOf K (f_members K)) ["bits"] [] := T.F_members.binds fun _ _ _ _ _ _ us hl => match us, hl with | [_], _ => rfl
end
end AT
end
section
set_option Elab.async false
set_option linter.all false
set_option maxRecDepth 100000
/-! The search: its state; is_closed, taken_apart, gone_on, pairs_behind, bodies, left_beneath, pair_beneath. -/
namespace AT
open PySem PySem.Spec PyProof.Rows L2 GL
/-! ### the masks of a table -/
def mask (T : List AB.Fm) (p : AB.Fm → Bool) : Nat := AB.orL ((List.range T.length).filter fun i => match T[i]? with | some F => p F | none => false)
theorem mask_is (T : List AB.Fm) (p : AB.Fm → Bool) : AB.IsMask T p (mask T p) := fun i => by
  unfold mask
  rw [AB.tb_orL, List.mem_filter, List.mem_range]
  constructor
  · rintro ⟨h, q⟩
    rw [List.getElem?_eq_getElem h] at q
    exact ⟨_, List.getElem?_eq_getElem h, q⟩
  · rintro ⟨F, e, q⟩
    exact ⟨(List.getElem?_eq_some_iff.mp e).1, by rw [e]; exact q⟩
theorem mask_wb (T : List AB.Fm) (p : AB.Fm → Bool) : AB.WB T (mask T p) := by
  refine Nat.lt_pow_two_of_testBit _ fun i hi => ?_
  cases q : (mask T p).testBit i with
  | false => rfl
  | true =>
    obtain ⟨F, e, _⟩ := (mask_is T p i).mp q
    have := (List.getElem?_eq_some_iff.mp e).1
    omega
/-! ### the search's state -/
structure Ad where
  sa : Addr
  sx : Addr
  ta : Addr
  tx : Addr
  db : Addr
  df : Addr
  di : Addr
  dk : Addr
  dh : Addr
def kindsD (T : List AB.Fm) : List (Key × V) := [(.inr "atom", .int (mask T AB.isAtm : Nat)), (.inr "no", .int (mask T AB.isNo : Nat)), (.inr "if", .int (mask T AB.isImp : Nat)), (.inr "all", .int (mask T AB.isAll : Nat))]
def innerV (T : List AB.Fm) : AB.Fm → List V
  | .imp a b => [two (AB.ix T a), two (AB.ix T b)]
  | .all a => [two (AB.ix T a)]
  | _ => []
/-- the key of a bit -/
def kB (j : Nat) : Key := .inl ((2 ^ j : Nat) : Int)
structure SAt (K : PySem.W.Frag) (T : List AB.Fm) (A : Ad) (H : Hp) : Prop where
  s : H A.sa = some (.ins (He.ga K "Search") A.sx [("table", .ref A.ta), ("heights_beneath", .ref A.dh)])
  t : H A.ta = some (.ins (He.ga K "Table") A.tx [("bits_by_text", .ref A.db), ("formulas", .ref A.df), ("inner_bits", .ref A.di), ("kinds", .ref A.dk)])
  k : H A.dk = some (.dK (kindsD T))
  i : ∃ kvs, H A.di = some (.dK kvs) ∧ ∀ j F, T[j]? = some F → ∃ l, valV kvs (kB j) = some (.ref l) ∧ H l = some (.lst (innerV T F))
  h : ∃ kvs, H A.dh = some (.dT kvs)
/-- all but the dict of heights is kept -/
structure KB (dh : Addr) (H H' : Hp) : Prop where
  k : ∀ b o, H b = some o → b ≠ dh → H' b = some o
  h : ∃ kvs, H' dh = some (.dT kvs)
theorem KB.of {dh : Addr} {H H' : Hp} (k : Kp H H') (h : ∃ kvs, H dh = some (.dT kvs)) : KB dh H H' := ⟨fun b o e _ => k b o e, let ⟨kvs, e⟩ := h; ⟨kvs, k _ _ e⟩⟩
theorem KB.refl {dh : Addr} {H : Hp} (h : ∃ kvs, H dh = some (.dT kvs)) : KB dh H H := .of (Same.refl H) h
theorem KB.trans {dh : Addr} {H H1 H2 : Hp} (a : KB dh H H1) (b : KB dh H1 H2) : KB dh H H2 := ⟨fun c o e n => b.k c o (a.k c o e n) n, b.h⟩
theorem SAt.keep {K : PySem.W.Frag} {T : List AB.Fm} {A : Ad} {H H' : Hp} (S : SAt K T A H) (k : KB A.dh H H') : SAt K T A H' := by
  obtain ⟨kvh, eh⟩ := S.h
  have ne : ∀ {b o}, H b = some o → (∀ kvs, o ≠ .dT kvs) → H' b = some o := fun e n => k.k _ _ e (ne_of e eh (n kvh))
  obtain ⟨kvs, e, f⟩ := S.i
  exact ⟨ne S.s (fun _ z => nomatch z), ne S.t (fun _ z => nomatch z), ne S.k (fun _ z => nomatch z), ⟨kvs, ne e (fun _ z => nomatch z), fun j F q => let ⟨l, a, b⟩ := f j F q; ⟨l, a, ne b (fun _ z => nomatch z)⟩⟩, k.h⟩
theorem SAt.kp {K : PySem.W.Frag} {T : List AB.Fm} {A : Ad} {H H' : Hp} (S : SAt K T A H) (k : Kp H H') : SAt K T A H' := S.keep (.of k S.h)
/-! ### reads -/
section
variable {w : World} {K : PySem.W.Frag} {mg : Str → Option Value} (T : Tx w K mg) {t : List AB.Fm} {A : Ad} {H : Hp} {σ : L2.St} {Q : VK}
include T
theorem rd_table (S : SAt K t A H) (hs : σ[0]? = some (some (.ref A.sa))) (q : Q (.ref A.ta) H) : tFld K (tVar 0) "table" σ H Q :=
  ⟨_, hs, A.sa, _, _, _, _, rfl, S.s, T.cls_Search, T.na_Search_table, rfl, q⟩
theorem rd_heights (S : SAt K t A H) (hs : σ[0]? = some (some (.ref A.sa))) (q : Q (.ref A.dh) H) : tFld K (tVar 0) "heights_beneath" σ H Q :=
  ⟨_, hs, A.sa, _, _, _, _, rfl, S.s, T.cls_Search, T.na_Search_heights_beneath, rfl, q⟩
theorem rd_kind (S : SAt K t A H) (hs : σ[0]? = some (some (.ref A.sa))) {x : Str} {v : V} (hv : valV (kindsD t) (.inr x) = some v) (q : Q v H) : tDGet (tFld K (tFld K (tVar 0) "table") "kinds") (tC (.str x)) σ H Q := by
  refine rd_table T S hs ⟨A.ta, _, _, _, _, rfl, S.t, T.cls_Table, T.na_Table_kinds, rfl, ?_⟩
  exact ⟨A.dk, v, rfl, by rw [← hv]; exact DGet.k (k := .inr x) S.k, q⟩
theorem rd_inner (S : SAt K t A H) (hs : σ[0]? = some (some (.ref A.sa))) {j i : Nat} {F : AB.Fm} (hj : t[j]? = some F) (hi : σ[i]? = some (some (two j))) (q : ∀ l, H l = some (.lst (innerV t F)) → Q (.ref l) H) : tDGet (tFld K (tFld K (tVar 0) "table") "inner_bits") (tVar i) σ H Q := by
  obtain ⟨kvs, e, f⟩ := S.i
  obtain ⟨l, a, b⟩ := f j F hj
  refine rd_table T S hs ⟨A.ta, _, _, _, _, rfl, S.t, T.cls_Table, T.na_Table_inner_bits, rfl, ?_⟩
  exact ⟨_, hi, A.di, .ref l, rfl, by rw [← a]; exact DGet.k (k := kB j) e, q l b⟩
end
theorem kind_atom {t : List AB.Fm} : valV (kindsD t) (.inr "atom") = some (.int (mask t AB.isAtm : Nat)) := rfl
theorem kind_no {t : List AB.Fm} : valV (kindsD t) (.inr "no") = some (.int (mask t AB.isNo : Nat)) := rfl
theorem kind_if {t : List AB.Fm} : valV (kindsD t) (.inr "if") = some (.int (mask t AB.isImp : Nat)) := rfl
theorem kind_all {t : List AB.Fm} : valV (kindsD t) (.inr "all") = some (.int (mask t AB.isAll : Nat)) := rfl
/-! ### a comparison of naturals -/
def rNB (f : Nat → Nat → Bool) : R2 := fun x y H Q => ∃ i j : Nat, x = .int (i : Int) ∧ y = .int (j : Int) ∧ Q (.bl (f i j)) H
theorem on_gt {X : Cx} : OpG X (compareOp .Gt) (rNB fun i j => decide (j < i)) := OpG.imp og_gt fun x y H Q ⟨i, j, e1, e2, q⟩ => ⟨i, j, e1, e2, by
  have e : decide ((j : Int) < (i : Int)) = decide (j < i) := decide_eq_decide.mpr (by omega)
  show Q (.bl (decide ((j : Int) < (i : Int)))) H
  rw [e]; exact q⟩
theorem on_lt {X : Cx} : OpG X (compareOp .Lt) (rNB fun i j => decide (i < j)) := OpG.imp og_lt fun x y H Q ⟨i, j, e1, e2, q⟩ => ⟨i, j, e1, e2, by
  have e : decide ((i : Int) < (j : Int)) = decide (i < j) := decide_eq_decide.mpr (by omega)
  show Q (.bl (decide ((i : Int) < (j : Int)))) H
  rw [e]; exact q⟩
theorem on_eq {X : Cx} : OpG X (compareOp .Eq) (rNB fun i j => decide (i = j)) := OpG.imp og_eq fun x y H Q ⟨i, j, e1, e2, q⟩ => .inl ⟨i, j, e1, e2, by
  have e : decide ((i : Int) = (j : Int)) = decide (i = j) := decide_eq_decide.mpr (by omega)
  rw [e]; exact q⟩
section
variable {P : Program} {w : World} {K : PySem.W.Frag} {mg : Str → Option Value} {base : Heap} (T : Tx w K mg)
/-! ### is_closed -/
def spClosed (K : PySem.W.Frag) : Sp := fun vs H Q _ => ∃ (A : Ad) (t : List AB.Fm) (l r : Nat), vs = [.ref A.sa, .int l, .int r] ∧ SAt K t A H ∧ Q (.bl (decide (0 < l &&& r) || decide (0 < l &&& mask t AB.isNo))) H
theorem len_closed (vs : List V) (H : Hp) (Q : VK) (E : XK) (h : spClosed K vs H Q E) : vs.length = 3 := by obtain ⟨_, _, _, _, rfl, _⟩ := h; rfl
theorem sc_closed : FnScope ["self", "left", "right"] ["self", "left", "right"] (defScope s_Search_is_closed) := ⟨rfl, rfl, rfl, by decide +kernel, rfl, by decide +kernel, by decide +kernel⟩
include T
theorem bd_closed : L2.Binds K (fdOf K (f_Search_is_closed K)) ["self", "left", "right"] [] := T.F_Search_is_closed.binds fun _ _ _ _ _ _ us hl => match us, hl with | [_, _, _], _ => rfl
theorem ok_closed : FG P w K mg base 1 (f_Search_is_closed K) ["self", "left", "right"] (spClosed K) := by
  refine FnG.of T.F_Search_is_closed sc_closed len_closed (fun cdv A outer s H vs Q hr h => ⟨_, sgs_one (sg_ret
    (eg_or (eg_cmp on_gt (eg_op on_and (eg_var 1) (eg_var 2)) eg_int rfl) (eg_one (eg_cmp on_gt (eg_op on_and (eg_var 1) (eg_dget (hu_of hr) (eg_fld (eg_fld (eg_var 0))) (eg_glob rfl T.c_NO) (fun _ _ => rfl))) eg_int rfl)))), ?_⟩)
  obtain ⟨a, t, l, r, rfl, S, q⟩ := h
  refine ⟨_, rfl, _, rfl, l, r, rfl, rfl, _, 0, rfl, rfl, _, rfl, ?_⟩
  refine ite2 (fun (hc : decide (0 < l &&& r) = true) => ?_) fun (hc : ¬ decide (0 < l &&& r) = true) => ?_
  · rw [hc, Bool.true_or] at q; exact q
  · rw [Bool.not_eq_true] at hc
    rw [hc, Bool.false_or] at q
    refine ⟨_, rfl, rd_kind T S rfl kind_no ?_⟩
    exact ⟨l, _, rfl, rfl, _, 0, rfl, rfl, q⟩
end
theorem len1 {x : V} : [x].length ≤ sizeLine := (by decide : 1 ≤ sizeLine)
theorem len2 {x y : V} : [x, y].length ≤ sizeLine := (by decide : 2 ≤ sizeLine)
theorem len3 {x y z : V} : [x, y, z].length ≤ sizeLine := (by decide : 3 ≤ sizeLine)
/-- a list of pairs of naturals -/
def PairsAt (H : Hp) (a : Addr) (ch : List (Nat × Nat)) : Prop := ∃ ts : List Addr, H a = some (.lst (ts.map V.ref)) ∧ Paired (fun (t : Addr) (p : Nat × Nat) => H t = some (.tup [.int (p.1 : Int), .int (p.2 : Int)])) ts ch
theorem PairsAt.one {H : Hp} {a b : Addr} {p : Nat × Nat} (h : H a = some (.lst [.ref b])) (hb : H b = some (.tup [.int (p.1 : Int), .int (p.2 : Int)])) : PairsAt H a [p] := ⟨[b], h, .cons hb .nil⟩
theorem PairsAt.two {H : Hp} {a b c : Addr} {p q : Nat × Nat} (h : H a = some (.lst [.ref b, .ref c])) (hb : H b = some (.tup [.int (p.1 : Int), .int (p.2 : Int)])) (hc : H c = some (.tup [.int (q.1 : Int), .int (q.2 : Int)])) : PairsAt H a [p, q] := ⟨[b, c], h, .cons hb (.cons hc .nil)⟩
theorem imp_at {t : List AB.Fm} {i : Nat} (h : (mask t AB.isImp).testBit i = true) : ∃ G F, t[i]? = some (.imp G F) := by
  obtain ⟨F, e, q⟩ := (mask_is t AB.isImp i).mp h
  obtain ⟨G, F', rfl⟩ := AB.isImp_iff.mp q
  exact ⟨G, F', e⟩
theorem all_at {t : List AB.Fm} {i : Nat} (h : (mask t AB.isAll).testBit i = true) : ∃ G, t[i]? = some (.all G) := by
  obtain ⟨F, e, q⟩ := (mask_is t AB.isAll i).mp h
  obtain ⟨G, rfl⟩ := AB.isAll_iff.mp q
  exact ⟨G, e⟩
section
variable {P : Program} {w : World} {K : PySem.W.Frag} {mg : Str → Option Value} {base : Heap} (T : Tx w K mg)
/-! ### taken_apart -/
def spTaken (K : PySem.W.Frag) : Sp := fun vs H Q _ => ∃ (A : Ad) (t : List AB.Fm) (l r : Nat), vs = [.ref A.sa, .int l, .int r] ∧ SAt K t A H ∧
  (∀ i G F a H', r.testBit i = true → t[i]? = some (.imp G F) → AB.low (r &&& mask t AB.isImp) = 2 ^ i → Kp H H' → PairsAt H' a [(l ||| 2 ^ AB.ix t G, (r ^^^ 2 ^ i) ||| 2 ^ AB.ix t F)] → Q (.ref a) H') ∧
  (∀ i G F a H', r &&& mask t AB.isImp = 0 → l.testBit i = true → t[i]? = some (.imp G F) → AB.low (l &&& mask t AB.isImp) = 2 ^ i → Kp H H' → PairsAt H' a [(l ^^^ 2 ^ i, r ||| 2 ^ AB.ix t G), ((l ^^^ 2 ^ i) ||| 2 ^ AB.ix t F, r)] → Q (.ref a) H') ∧
  (r &&& mask t AB.isImp = 0 → l &&& mask t AB.isImp = 0 → Q .non H)
theorem len_taken (vs : List V) (H : Hp) (Q : VK) (E : XK) (h : spTaken K vs H Q E) : vs.length = 3 := by obtain ⟨_, _, _, _, rfl, _⟩ := h; rfl
theorem sc_taken : FnScope ["self", "left", "right", "ifs", "bit", "one", "other"] ["self", "left", "right"] (defScope s_Search_taken_apart) := ⟨rfl, rfl, rfl, by decide +kernel, rfl, by decide +kernel, by decide +kernel⟩
include T
theorem bd_taken : L2.Binds K (fdOf K (f_Search_taken_apart K)) ["self", "left", "right"] [] := T.F_Search_taken_apart.binds fun _ _ _ _ _ _ us hl => match us, hl with | [_, _, _], _ => rfl
theorem ok_taken : FG P w K mg base 2 (f_Search_taken_apart K) ["self", "left", "right"] (spTaken K) := by
  refine FnG.of T.F_Search_taken_apart sc_taken len_taken (fun cdv A outer s H vs Q hr h => ⟨_,
    sgs_cons (sg_set (i := 3) (eg_dget (hu_of hr) (eg_fld (eg_fld (eg_var 0))) (eg_glob rfl T.c_IF) (fun _ _ => rfl)) sc_taken.nd rfl rfl)
    (sgs_cons (sg_set (i := 4) (eg_call (ok_lowest (P := P) (base := base) T) hr rfl T.g_lowest T.F_lowest.kp (bd_lowest T) (ag_cons (eg_op on_and (eg_var 2) (eg_var 3)) ag_nil)) sc_taken.nd rfl rfl)
    (sgs_cons (sg_if (tg_cmp on_gt (eg_var 4) eg_int rfl)
      (sgs_cons (sg_two (i := 5) (j := 6) rfl (eg_dget (hu_of hr) (eg_fld (eg_fld (eg_var 0))) (eg_var 4) (fun _ _ => rfl)) sc_taken.nd rfl rfl rfl rfl)
        (sgs_one (sg_ret (eg_lst (ag_cons (eg_tup (ag_cons (eg_op on_or (eg_var 1) (eg_var 5)) (ag_cons (eg_op on_or (eg_op on_xor (eg_var 2) (eg_var 4)) (eg_var 6)) ag_nil))) ag_nil)))))
      sgs_nil)
    (sgs_cons (sg_set (i := 4) (eg_call (ok_lowest (P := P) (base := base) T) hr rfl T.g_lowest T.F_lowest.kp (bd_lowest T) (ag_cons (eg_op on_and (eg_var 1) (eg_var 3)) ag_nil)) sc_taken.nd rfl rfl)
    (sgs_cons (sg_if (tg_cmp on_gt (eg_var 4) eg_int rfl)
      (sgs_cons (sg_two (i := 5) (j := 6) rfl (eg_dget (hu_of hr) (eg_fld (eg_fld (eg_var 0))) (eg_var 4) (fun _ _ => rfl)) sc_taken.nd rfl rfl rfl rfl)
        (sgs_one (sg_ret (eg_lst (ag_cons (eg_tup (ag_cons (eg_op on_xor (eg_var 1) (eg_var 4)) (ag_cons (eg_op on_or (eg_var 2) (eg_var 5)) ag_nil)))
          (ag_cons (eg_tup (ag_cons (eg_op on_or (eg_op on_xor (eg_var 1) (eg_var 4)) (eg_var 6)) (ag_cons (eg_var 2) ag_nil))) ag_nil))))))
      sgs_nil)
    (sgs_one (sg_ret eg_non)))))), ?_⟩)
  obtain ⟨a, t, l, r, rfl, S, q1, q2, q3⟩ := h
  refine rd_kind T S rfl kind_if ?_
  refine ⟨_, rfl, _, rfl, r, _, rfl, rfl, _, rfl, ?_⟩
  refine ⟨_, rfl, _, 0, rfl, rfl, _, rfl, ?_⟩
  refine ite2 (fun (hc : decide (0 < AB.low (r &&& mask t AB.isImp)) = true) => ?_) fun (hc : ¬ decide (0 < AB.low (r &&& mask t AB.isImp)) = true) => ?_
  · obtain ⟨i, ei, b1, b2⟩ := AB.low_and (of_decide_eq_true hc)
    obtain ⟨G, F, e⟩ := imp_at b2
    refine rd_inner T S rfl e (by show some (some (V.int ((AB.low (r &&& mask t AB.isImp) : Nat) : Int))) = _; rw [ei] <;> rfl) fun lx hx => ?_
    refine ⟨_, _, _, rfl, .inr (SqL.of hx), ?_⟩
    refine ⟨_, rfl, _, rfl, l, 2 ^ AB.ix t G, rfl, rfl, _, rfl, _, rfl, r, 2 ^ i, rfl, by rw [ei], _, rfl, _, 2 ^ AB.ix t F, rfl, rfl, len2, fun p hp => ⟨len1, fun a' ha' => ?_⟩⟩
    refine q1 i G F a' _ b1 e ei (Kp.upd (Kp.upd (Same.refl H) hp) ((Kp.upd (Same.refl H) hp).free ha')) (PairsAt.one (b := p) upd_same ?_)
    rw [upd_ne (ne_of_none upd_same ha')]
    exact upd_same
  · have z : r &&& mask t AB.isImp = 0 := AB.low_eq_zero fun h => hc (decide_eq_true h)
    refine ⟨_, rfl, _, rfl, l, _, rfl, rfl, _, rfl, ?_⟩
    refine ⟨_, rfl, _, 0, rfl, rfl, _, rfl, ?_⟩
    refine ite2 (fun (hd : decide (0 < AB.low (l &&& mask t AB.isImp)) = true) => ?_) fun (hd : ¬ decide (0 < AB.low (l &&& mask t AB.isImp)) = true) => ?_
    · obtain ⟨i, ei, b1, b2⟩ := AB.low_and (of_decide_eq_true hd)
      obtain ⟨G, F, e⟩ := imp_at b2
      refine rd_inner T S rfl e (by show some (some (V.int ((AB.low (l &&& mask t AB.isImp) : Nat) : Int))) = _; rw [ei] <;> rfl) fun lx hx => ?_
      refine ⟨_, _, _, rfl, .inr (SqL.of hx), ?_⟩
      refine ⟨_, rfl, _, rfl, l, 2 ^ i, rfl, by rw [ei], _, rfl, _, rfl, r, 2 ^ AB.ix t G, rfl, rfl, len2, fun p hp => ?_⟩
      refine ⟨_, rfl, _, rfl, l, 2 ^ i, rfl, by rw [ei], _, rfl, _, 2 ^ AB.ix t F, rfl, rfl, _, rfl, len2, fun p2 hp2 => ⟨len2, fun a' ha' => ?_⟩⟩
      have k1 : Kp H (upd H p (.tup [.int ((l ^^^ 2 ^ i : Nat) : Int), .int ((r ||| 2 ^ AB.ix t G : Nat) : Int)])) := Kp.upd (Same.refl H) hp
      have k2 := Kp.upd (o := .tup [.int (((l ^^^ 2 ^ i) ||| 2 ^ AB.ix t F : Nat) : Int), .int (r : Int)]) k1 (k1.free hp2)
      refine q2 i G F a' _ z b1 e ei (Kp.upd k2 (k2.free ha')) (PairsAt.two (b := p) (c := p2) upd_same ?_ ?_)
      · have e1 : upd (upd H p (.tup [.int ((l ^^^ 2 ^ i : Nat) : Int), .int ((r ||| 2 ^ AB.ix t G : Nat) : Int)])) p2 (.tup [.int (((l ^^^ 2 ^ i) ||| 2 ^ AB.ix t F : Nat) : Int), .int (r : Int)]) p = some (.tup [.int ((l ^^^ 2 ^ i : Nat) : Int), .int ((r ||| 2 ^ AB.ix t G : Nat) : Int)]) := by
          rw [upd_ne (ne_of_none upd_same hp2)]; exact upd_same
        rw [upd_ne (ne_of_none e1 ha')]; exact e1
      · rw [upd_ne (ne_of_none upd_same ha')]; exact upd_same
    · have z2 : l &&& mask t AB.isImp = 0 := AB.low_eq_zero fun h => hd (decide_eq_true h)
      exact q3 z z2
end
end AT
end
section
set_option Elab.async false
set_option linter.all false
set_option maxRecDepth 100000
/-! The search: gone_on, pairs_behind, bodies, left_beneath, pair_beneath. -/
namespace AT
open PySem PySem.Spec PyProof.Rows L2 GL
theorem pow_inj {i j : Nat} (h : 2 ^ i = 2 ^ j) : i = j := by
  have q : (2 ^ i).testBit i = (2 ^ j).testBit i := by rw [h]
  rw [AB.tb_pow, AB.tb_pow, decide_eq_true rfl] at q
  exact (of_decide_eq_true q.symm).symm
theorem pow_and {i n : Nat} (h : 0 < 2 ^ i &&& n) : n.testBit i = true := by
  obtain ⟨k, a, b⟩ := AB.and_pos h
  rw [AB.tb_pow, decide_eq_true_eq] at a
  rw [a]; exact b
theorem wb64 {t : List AB.Fm} {n : Nat} (h : AB.WB t n) (hl : t.length ≤ 60) : n < 2 ^ 64 := Nat.lt_of_lt_of_le h (Nat.pow_le_pow_right (by decide) (by omega))
section
variable {P : Program} {w : World} {K : PySem.W.Frag} {mg : Str → Option Value} {base : Heap} (T : Tx w K mg)
/-! ### gone_on -/
def spGone (K : PySem.W.Frag) : Sp := fun vs H Q _ => ∃ (A : Ad) (t : List AB.Fm) (l r : Nat), vs = [.ref A.sa, .int l, .int r] ∧ SAt K t A H ∧ AB.TabC t ∧ t.length ≤ 60 ∧ AB.WB t l ∧
  (∀ p pr H', AB.Step t l r [pr] → Kp H H' → H' p = some (.tup [.int ((pr : Nat × Nat).1 : Int), .int (pr.2 : Int)]) → Q (.ref p) H') ∧ ∀ H', Kp H H' → Q .non H'
theorem len_gone (vs : List V) (H : Hp) (Q : VK) (E : XK) (h : spGone K vs H Q E) : vs.length = 3 := by obtain ⟨_, _, _, _, rfl, _⟩ := h; rfl
theorem sc_gone : FnScope ["self", "left", "right", "bit", "one", "other"] ["self", "left", "right"] (defScope s_Search_gone_on) := ⟨rfl, rfl, rfl, by decide +kernel, rfl, by decide +kernel, by decide +kernel⟩
include T
theorem bd_gone : L2.Binds K (fdOf K (f_Search_gone_on K)) ["self", "left", "right"] [] := T.F_Search_gone_on.binds fun _ _ _ _ _ _ us hl => match us, hl with | [_, _, _], _ => rfl
theorem ok_gone : FG P w K mg base 3 (f_Search_gone_on K) ["self", "left", "right"] (spGone K) := by
  refine FnG.of T.F_Search_gone_on sc_gone len_gone (fun cdv A outer s H vs Q hr h => ⟨_,
    sgs_cons (sg_for (i := 3) rfl PassesOwn.never (eg_call (ok_members (P := P) (base := base) T) hr rfl T.g_members T.F_members.kp (bd_members T) (ag_cons (eg_op on_and (eg_var 1) (eg_dget (hu_of hr) (eg_fld (eg_fld (eg_var 0))) (eg_glob rfl T.c_IF) (fun _ _ => rfl))) ag_nil)) sc_gone.nd rfl rfl
      (sgs_cons (sg_two (i := 4) (j := 5) rfl (eg_dget (hu_of hr) (eg_fld (eg_fld (eg_var 0))) (eg_var 3) (fun _ _ => rfl)) sc_gone.nd rfl rfl rfl rfl)
      (sgs_cons (sg_if (wg_or (tg_cmp on_eq (eg_var 4) (eg_var 5) rfl) (wg_or (tg_cmp on_gt (eg_op on_and (eg_var 4) (eg_var 2)) eg_int rfl) (wg_or1 (tg_cmp on_gt (eg_op on_and (eg_var 5) (eg_var 1)) eg_int rfl)))).t
        (sgs_one (sg_ret (eg_tup (ag_cons (eg_op on_xor (eg_var 1) (eg_var 3)) (ag_cons (eg_var 2) ag_nil))))) sgs_nil)
      (sgs_cons (sg_if (tg_cmp on_gt (eg_op on_and (eg_var 4) (eg_var 1)) eg_int rfl)
        (sgs_one (sg_ret (eg_tup (ag_cons (eg_op on_or (eg_op on_xor (eg_var 1) (eg_var 3)) (eg_var 5)) (ag_cons (eg_var 2) ag_nil))))) sgs_nil)
      (sgs_one (sg_if (tg_cmp on_gt (eg_op on_and (eg_var 5) (eg_var 2)) eg_int rfl)
        (sgs_one (sg_ret (eg_tup (ag_cons (eg_op on_xor (eg_var 1) (eg_var 3)) (ag_cons (eg_op on_or (eg_var 2) (eg_var 4)) ag_nil))))) sgs_nil))))))
    (sgs_one (sg_ret eg_non)), ?_⟩)
  obtain ⟨a, t, l, r, rfl, S, C, hl60, hwl, q1, q2⟩ := h
  refine ⟨_, rfl, rd_kind T S rfl kind_if ?_⟩
  refine ⟨l, _, rfl, rfl, _, rfl, wb64 (AB.WB.and hwl) hl60, fun js la H1 hb k1 hla h1 => ?_⟩
  refine ⟨la, js.map two, rfl, SqL.of h1, fun j σ H2 => Kp H1 H2 ∧ ∃ b o1 o2, σ = [some (.ref a.sa), some (.int l), some (.int r), b, o1, o2], ⟨Same.refl _, none, none, none, rfl⟩, fun j σ H2 _ hp => SqL.of (hp.1 _ _ h1), ?_, ?_⟩
  · rintro j x σ H2 hx ⟨k2, b, o1, o2, rfl⟩
    obtain ⟨i, hi, rfl⟩ : ∃ i, js[j]? = some i ∧ two i = x := by simpa using hx
    have k : Kp H H2 := k1.trans k2
    have S2 := S.kp k
    have mi := (hb.mem i).mp (List.mem_of_getElem? hi)
    rw [Nat.testBit_and, Bool.and_eq_true] at mi
    obtain ⟨G, F, e⟩ := imp_at mi.2
    obtain ⟨hG, hF⟩ := C.imp _ _ (List.mem_of_getElem? e)
    refine rd_inner T S2 rfl e rfl fun lx hx => ?_
    refine ⟨_, _, _, rfl, .inr (SqL.of hx), ?_⟩
    have tup : ∀ (x y : Nat) (p : Addr), H2 p = none → AB.Step t l r [(x, y)] → Q (.ref p) (upd H2 p (.tup [.int (x : Int), .int (y : Int)])) := fun x y p hp st => q1 p (x, y) _ st (Kp.upd k (k.free hp)) upd_same
    have drop : ∀ p, H2 p = none → (G = F ∨ r.testBit (AB.ix t G) = true ∨ l.testBit (AB.ix t F) = true) → Q (.ref p) (upd H2 p (.tup [.int ((l ^^^ 2 ^ i : Nat) : Int), .int (r : Int)])) := fun p hp c => tup _ _ p hp (.drop mi.1 e c)
    -- one == other
    refine ⟨_, rfl, _, rfl, 2 ^ AB.ix t G, 2 ^ AB.ix t F, rfl, rfl, _, rfl, ite2 (fun (hc : decide (2 ^ AB.ix t G = 2 ^ AB.ix t F) = true) => ?_) fun (hc : ¬ decide (2 ^ AB.ix t G = 2 ^ AB.ix t F) = true) => ?_⟩
    · refine ⟨_, rfl, _, rfl, l, 2 ^ i, rfl, rfl, _, rfl, len2, fun p hp => drop p hp (.inl ?_)⟩
      have ei := pow_inj (of_decide_eq_true hc)
      have e1 := AB.ix_get hG
      rw [ei, AB.ix_get hF] at e1
      exact (Option.some.inj e1).symm
    refine ⟨_, rfl, _, rfl, 2 ^ AB.ix t G, r, rfl, rfl, _, 0, rfl, rfl, _, rfl, ite2 (fun (hc : decide (0 < 2 ^ AB.ix t G &&& r) = true) => ?_) fun (hc : ¬ decide (0 < 2 ^ AB.ix t G &&& r) = true) => ?_⟩
    · exact ⟨_, rfl, _, rfl, l, 2 ^ i, rfl, rfl, _, rfl, len2, fun p hp => drop p hp (.inr (.inl (pow_and (of_decide_eq_true hc))))⟩
    refine ⟨_, rfl, _, rfl, 2 ^ AB.ix t F, l, rfl, rfl, _, 0, rfl, rfl, _, rfl, ite2 (fun (hc : decide (0 < 2 ^ AB.ix t F &&& l) = true) => ?_) fun (hc : ¬ decide (0 < 2 ^ AB.ix t F &&& l) = true) => ?_⟩
    · exact ⟨_, rfl, _, rfl, l, 2 ^ i, rfl, rfl, _, rfl, len2, fun p hp => drop p hp (.inr (.inr (pow_and (of_decide_eq_true hc))))⟩
    refine ⟨_, rfl, _, rfl, 2 ^ AB.ix t G, l, rfl, rfl, _, 0, rfl, rfl, _, rfl, ite2 (fun (hc : decide (0 < 2 ^ AB.ix t G &&& l) = true) => ?_) fun (hc : ¬ decide (0 < 2 ^ AB.ix t G &&& l) = true) => ?_⟩
    · exact ⟨_, rfl, _, rfl, l, 2 ^ i, rfl, rfl, _, rfl, _, 2 ^ AB.ix t F, rfl, rfl, _, rfl, len2, fun p hp => tup _ _ p hp (.leftH mi.1 e (pow_and (of_decide_eq_true hc)))⟩
    refine ⟨_, rfl, _, rfl, 2 ^ AB.ix t F, r, rfl, rfl, _, 0, rfl, rfl, _, rfl, ite2 (fun (hc : decide (0 < 2 ^ AB.ix t F &&& r) = true) => ?_) fun (hc : ¬ decide (0 < 2 ^ AB.ix t F &&& r) = true) => ?_⟩
    · exact ⟨_, rfl, _, rfl, l, 2 ^ i, rfl, rfl, _, rfl, _, rfl, r, 2 ^ AB.ix t G, rfl, rfl, len2, fun p hp => tup _ _ p hp (.leftG mi.1 e (pow_and (of_decide_eq_true hc)))⟩
    exact ⟨k2, _, _, _, rfl⟩
  · rintro σ H2 ⟨k2, _⟩
    exact q2 H2 (k1.trans k2)
end
/-! ### pairs_behind -/
section
variable {P : Program} {w : World} {K : PySem.W.Frag} {mg : Str → Option Value} {base : Heap} (T : Tx w K mg)
def spBehind (K : PySem.W.Frag) : Sp := fun vs H Q _ => ∃ (A : Ad) (t : List AB.Fm) (l r : Nat), vs = [.ref A.sa, .int l, .int r] ∧ SAt K t A H ∧ AB.TabC t ∧ t.length ≤ 60 ∧ AB.WB t l ∧
  (∀ a ch H', AB.Step t l r ch → Kp H H' → PairsAt H' a ch → Q (.ref a) H') ∧ ∀ H', Kp H H' → l &&& mask t AB.isImp = 0 → r &&& mask t AB.isImp = 0 → Q .non H'
theorem len_behind (vs : List V) (H : Hp) (Q : VK) (E : XK) (h : spBehind K vs H Q E) : vs.length = 3 := by obtain ⟨_, _, _, _, rfl, _⟩ := h; rfl
theorem sc_behind : FnScope ["self", "left", "right", "pair"] ["self", "left", "right"] (defScope s_Search_pairs_behind) := ⟨rfl, rfl, rfl, by decide +kernel, rfl, by decide +kernel, by decide +kernel⟩
include T
theorem bd_behind : L2.Binds K (fdOf K (f_Search_pairs_behind K)) ["self", "left", "right"] [] := T.F_Search_pairs_behind.binds fun _ _ _ _ _ _ us hl => match us, hl with | [_, _, _], _ => rfl
theorem ok_behind : FG P w K mg base 4 (f_Search_pairs_behind K) ["self", "left", "right"] (spBehind K) := by
  refine FnG.of T.F_Search_pairs_behind sc_behind len_behind (fun cdv A outer s H vs Q hr h => ⟨_,
    sgs_cons (sg_if (tg_cmp on_eq (eg_op on_and (eg_var 2) (eg_dget (hu_of hr) (eg_fld (eg_fld (eg_var 0))) (eg_glob rfl T.c_IF) (fun _ _ => rfl))) eg_int rfl)
      (sgs_cons (sg_set (i := 3) (eg_meth (eg_var 0) T.cls_Search (He.meth_ok T.m_Search_gone_on) (ok_gone (P := P) (base := base) T) hr (bd_gone T) (ag_cons (eg_var 1) (ag_cons (eg_var 2) ag_nil))) sc_behind.nd rfl rfl)
      (sgs_one (sg_if (tg_cmp og_notN (eg_var 3) eg_non rfl) (sgs_one (sg_ret (eg_lst (ag_cons (eg_var 3) ag_nil)))) sgs_nil))) sgs_nil)
    (sgs_one (sg_ret (eg_meth (eg_var 0) T.cls_Search (He.meth_ok T.m_Search_taken_apart) ((ok_taken (P := P) (base := base) T).mono (by decide)) hr (bd_taken T) (ag_cons (eg_var 1) (ag_cons (eg_var 2) ag_nil))))), ?_⟩)
  obtain ⟨a, t, l, r, rfl, S, C, hl60, hwl, q1, q2⟩ := h
  have taken : ∀ (σ : L2.St) (H' : Hp), Kp H H' → σ[0]? = some (some (.ref a.sa)) → σ[1]? = some (some (.int l)) → σ[2]? = some (some (.int r)) →
      tVar 0 σ H' fun x H1 => ∃ b dx fs, x = .ref b ∧ H1 b = some (.ins (He.ga K "Search") dx fs) ∧ fs.lookup ("taken_apart" : Str) = none ∧ tCons (tVar 1) (tCons (tVar 2) tNil) σ H1 fun vs H2 => spTaken K (x :: vs) H2 Q E0 := fun σ H' k e0 e1 e2 => by
    have S' := S.kp k
    refine ⟨_, e0, a.sa, _, _, rfl, S'.s, rfl, _, e1, _, e2, a, t, l, r, rfl, S', fun i G F b H2 b1 e _ k2 hp => ?_, fun i G F b H2 _ b1 e _ k2 hp => ?_, fun z1 z2 => q2 H' k z2 z1⟩
    · exact q1 b _ H2 (.right b1 e) (k.trans k2) hp
    · exact q1 b _ H2 (.left b1 e) (k.trans k2) hp
  refine ⟨_, rfl, rd_kind T S rfl kind_if ?_⟩
  refine ⟨r, _, rfl, rfl, _, 0, rfl, rfl, _, rfl, ite2 (fun (hc : decide (r &&& mask t AB.isImp = 0) = true) => ?_) fun (hc : ¬ decide (r &&& mask t AB.isImp = 0) = true) => ?_⟩
  · refine ⟨_, rfl, a.sa, _, _, rfl, S.s, rfl, _, rfl, _, rfl, a, t, l, r, rfl, S, C, hl60, hwl, fun p pr H1 st k hp => ?_, fun H1 k => ?_⟩
    · refine ⟨_, rfl, rfl, _, rfl, iteT ?_⟩
      refine ⟨_, rfl, len1, fun b hb => q1 b [pr] _ st (Kp.upd k (k.free hb)) (PairsAt.one (b := p) upd_same ?_)⟩
      rw [upd_ne (ne_of_none hp hb)]; exact hp
    · refine ⟨_, rfl, rfl, _, rfl, iteF ?_⟩
      exact taken _ H1 k rfl rfl rfl
  · exact taken _ H (Same.refl H) rfl rfl rfl
end
end AT
end
section
set_option Elab.async false
set_option linter.all false
set_option maxRecDepth 100000
/-! The search: bodies, left_beneath, pair_beneath. -/
namespace AT
open PySem PySem.Spec PyProof.Rows L2 GL
theorem jsOf_take {t : List AB.Fm} {js : List Nat} {j i : Nat} (h : js[j]? = some i) : AB.jsOf t (js.take (j + 1)) = AB.jsOf t (js.take j) ++ [AB.ix t (AB.body (t.getD i .no))] := by
  rw [List.take_add_one, h]
  simp [AB.jsOf]
section
variable {P : Program} {w : World} {K : PySem.W.Frag} {mg : Str → Option Value} {base : Heap} (T : Tx w K mg)
/-! ### bodies -/
def spBodies (K : PySem.W.Frag) : Sp := fun vs H Q _ => ∃ (A : Ad) (t : List AB.Fm) (n : Nat), vs = [.ref A.ta, .int n] ∧ SAt K t A H ∧ t.length ≤ 60 ∧ AB.WB t n ∧ (∀ i, n.testBit i = true → ∃ G, t[i]? = some (.all G)) ∧
  ∀ js H', BitsOf n js → Kp H H' → Q (.int (AB.orL (AB.jsOf t js) : Nat)) H'
theorem len_bodies (vs : List V) (H : Hp) (Q : VK) (E : XK) (h : spBodies K vs H Q E) : vs.length = 2 := by obtain ⟨_, _, _, rfl, _⟩ := h; rfl
theorem sc_bodies : FnScope ["self", "alls", "found", "bit"] ["self", "alls"] (defScope s_Table_bodies) := ⟨rfl, rfl, rfl, by decide +kernel, rfl, by decide +kernel, by decide +kernel⟩
include T
theorem bd_bodies : L2.Binds K (fdOf K (f_Table_bodies K)) ["self", "alls"] [] := T.F_Table_bodies.binds fun _ _ _ _ _ _ us hl => match us, hl with | [_, _], _ => rfl
theorem ok_bodies : FG P w K mg base 3 (f_Table_bodies K) ["self", "alls"] (spBodies K) := by
  refine FnG.of T.F_Table_bodies sc_bodies len_bodies (fun cdv A outer s H vs Q hr h => ⟨_,
    sgs_cons (sg_set (i := 2) eg_int sc_bodies.nd rfl rfl)
    (sgs_cons (sg_for (i := 3) rfl PassesOwn.never (eg_call (ok_members (P := P) (base := base) T) hr rfl T.g_members T.F_members.kp (bd_members T) (ag_cons (eg_var 1) ag_nil)) sc_bodies.nd rfl rfl
      (sgs_one (sg_set (i := 2) (eg_op on_or (eg_var 2) (eg_ix xg_list (eg_dget (hu_of hr) (eg_fld (eg_var 0)) (eg_var 3) (fun _ _ => rfl)) eg_int (fun _ _ => rfl))) sc_bodies.nd rfl rfl)))
    (sgs_one (sg_ret (eg_var 2)))), ?_⟩)
  obtain ⟨a, t, n, rfl, S, hl60, hwn, hall, q⟩ := h
  refine ⟨_, rfl, n, rfl, wb64 hwn hl60, fun js la H1 hb k1 hla h1 => ?_⟩
  refine ⟨la, js.map two, rfl, SqL.of h1, fun j σ H2 => Kp H1 H2 ∧ ∃ b, σ = [some (.ref a.ta), some (.int n), some (.int (AB.orL (AB.jsOf t (js.take j)) : Nat)), b], ⟨Same.refl _, none, rfl⟩, fun j σ H2 _ hp => SqL.of (hp.1 _ _ h1), ?_, ?_⟩
  · rintro j x σ H2 hx ⟨k2, b, rfl⟩
    obtain ⟨i, hi, rfl⟩ : ∃ i, js[j]? = some i ∧ two i = x := by simpa using hx
    have S2 := S.kp (k1.trans k2)
    obtain ⟨G, e⟩ := hall i ((hb.mem i).mp (List.mem_of_getElem? hi))
    obtain ⟨kvs, ei, f⟩ := S2.i
    obtain ⟨l, a1, b1⟩ := f i _ e
    refine ⟨_, rfl, ⟨_, rfl, a.ta, _, _, _, _, rfl, S2.t, T.cls_Table, T.na_Table_inner_bits, rfl, _, rfl, a.di, .ref l, rfl, by rw [← a1]; exact DGet.k (k := kB i) ei, ?_⟩⟩
    refine ⟨l, innerV t (.all G), 0, two (AB.ix t G), rfl, rfl, SqL.of b1, rfl, AB.orL (AB.jsOf t (js.take j)), 2 ^ AB.ix t G, rfl, rfl, ?_⟩
    refine ⟨k2, some (two i), ?_⟩
    rw [jsOf_take hi, AB.orL_snoc, AB.getD_of e] <;> rfl
  · rintro σ H2 ⟨k2, b, rfl⟩
    refine ⟨_, rfl, ?_⟩
    rw [List.length_map, List.take_length]
    exact q js H2 hb (k1.trans k2)
end
/-! ### left_beneath, pair_beneath -/
theorem and_all {t : List AB.Fm} {l : Nat} : ∀ i, (l &&& mask t AB.isAll).testBit i = true → ∃ G, t[i]? = some (.all G) := fun i h => by
  rw [Nat.testBit_and, Bool.and_eq_true] at h
  exact all_at h.2
section
variable {P : Program} {w : World} {K : PySem.W.Frag} {mg : Str → Option Value} {base : Heap} (T : Tx w K mg)
def spLeftB (K : PySem.W.Frag) : Sp := fun vs H Q _ => ∃ (A : Ad) (t : List AB.Fm) (l : Nat), vs = [.ref A.sa, .int l] ∧ SAt K t A H ∧ t.length ≤ 60 ∧ AB.WB t l ∧
  ∀ js H', BitsOf (l &&& mask t AB.isAll) js → Kp H H' → Q (.int (((l &&& mask t AB.isAll) ||| AB.orL (AB.jsOf t js) : Nat) : Int)) H'
theorem len_leftB (vs : List V) (H : Hp) (Q : VK) (E : XK) (h : spLeftB K vs H Q E) : vs.length = 2 := by obtain ⟨_, _, _, rfl, _⟩ := h; rfl
theorem sc_leftB : FnScope ["self", "left", "alls"] ["self", "left"] (defScope s_Search_left_beneath) := ⟨rfl, rfl, rfl, by decide +kernel, rfl, by decide +kernel, by decide +kernel⟩
def spPairB (K : PySem.W.Frag) : Sp := fun vs H Q _ => ∃ (A : Ad) (t : List AB.Fm) (l i : Nat) (G : AB.Fm), vs = [.ref A.sa, .int l, two i] ∧ SAt K t A H ∧ t.length ≤ 60 ∧ AB.WB t l ∧ t[i]? = some (.all G) ∧
  ∀ js p H', BitsOf (l &&& mask t AB.isAll) js → Kp H H' → H' p = some (.tup [.int (AB.nearOf t (l &&& mask t AB.isAll) js i : Nat), two (AB.ix t G)]) → Q (.ref p) H'
theorem len_pairB (vs : List V) (H : Hp) (Q : VK) (E : XK) (h : spPairB K vs H Q E) : vs.length = 3 := by obtain ⟨_, _, _, _, _, rfl, _⟩ := h; rfl
theorem sc_pairB : FnScope ["self", "left", "bit"] ["self", "left", "bit"] (defScope s_Search_pair_beneath) := ⟨rfl, rfl, rfl, by decide +kernel, rfl, by decide +kernel, by decide +kernel⟩
include T
theorem bd_leftB : L2.Binds K (fdOf K (f_Search_left_beneath K)) ["self", "left"] [] := T.F_Search_left_beneath.binds fun _ _ _ _ _ _ us hl => match us, hl with | [_, _], _ => rfl
theorem ok_leftB : FG P w K mg base 4 (f_Search_left_beneath K) ["self", "left"] (spLeftB K) := by
  refine FnG.of T.F_Search_left_beneath sc_leftB len_leftB (fun cdv A outer s H vs Q hr h => ⟨_,
    sgs_cons (sg_set (i := 2) (eg_op on_and (eg_var 1) (eg_dget (hu_of hr) (eg_fld (eg_fld (eg_var 0))) (eg_glob rfl T.c_ALL) (fun _ _ => rfl))) sc_leftB.nd rfl rfl)
    (sgs_one (sg_ret (eg_op on_or (eg_var 2) (eg_meth (eg_fld (eg_var 0)) T.cls_Table (He.meth_ok T.m_Table_bodies) (ok_bodies (P := P) (base := base) T) hr (bd_bodies T) (ag_cons (eg_var 2) ag_nil))))), ?_⟩)
  obtain ⟨a, t, l, rfl, S, hl60, hwl, q⟩ := h
  refine ⟨_, rfl, rd_kind T S rfl kind_all ?_⟩
  refine ⟨l, _, rfl, rfl, ?_⟩
  refine ⟨_, rfl, rd_table T S rfl ?_⟩
  exact ⟨a.ta, _, _, rfl, S.t, rfl, _, rfl, a, t, _, rfl, S, hl60, AB.WB.and hwl, and_all, fun js H' hb k => ⟨_, _, rfl, rfl, q js H' hb k⟩⟩
theorem bd_pairB : L2.Binds K (fdOf K (f_Search_pair_beneath K)) ["self", "left", "bit"] [] := T.F_Search_pair_beneath.binds fun _ _ _ _ _ _ us hl => match us, hl with | [_, _, _], _ => rfl
theorem ok_pairB : FG P w K mg base 5 (f_Search_pair_beneath K) ["self", "left", "bit"] (spPairB K) := by
  refine FnG.of T.F_Search_pair_beneath sc_pairB len_pairB (fun cdv A outer s H vs Q hr h => ⟨_,
    sgs_one (sg_ret (eg_tup (ag_cons (eg_op on_or (eg_meth (eg_var 0) T.cls_Search (He.meth_ok T.m_Search_left_beneath) (ok_leftB (P := P) (base := base) T) hr (bd_leftB T) (ag_cons (eg_var 1) ag_nil)) (eg_var 2))
      (ag_cons (eg_ix xg_list (eg_dget (hu_of hr) (eg_fld (eg_fld (eg_var 0))) (eg_var 2) (fun _ _ => rfl)) eg_int (fun _ _ => rfl)) ag_nil)))), ?_⟩)
  obtain ⟨a, t, l, i, G, rfl, S, hl60, hwl, e, q⟩ := h
  refine ⟨_, rfl, a.sa, _, _, rfl, S.s, rfl, _, rfl, a, t, l, rfl, S, hl60, hwl, fun js H' hb k => ?_⟩
  refine ⟨_, rfl, _, 2 ^ i, rfl, rfl, ?_⟩
  refine rd_inner T (S.kp k) rfl e rfl fun lx hx => ?_
  exact ⟨lx, innerV t (.all G), 0, two (AB.ix t G), rfl, rfl, SqL.of hx, rfl, len2, fun p hp => q js p _ hb (Kp.upd k (k.free hp)) upd_same⟩
end
end AT
end
section
set_option Elab.async false
set_option linter.all false
set_option maxRecDepth 100000
/-! The search: the dict of heights; least_beneath and least_of_leaf over a least of a lower level. -/
namespace AT
open PySem PySem.Spec PyProof.Rows L2 GL
/-! ### keys -/
/-- all masks within some bits -/
def subm : List Nat → List Nat
  | [] => [0]
  | j :: js => subm js ++ (subm js).map (· ||| 2 ^ j)
theorem subm_len : ∀ js : List Nat, (subm js).length = 2 ^ js.length
  | [] => rfl
  | j :: js => by rw [subm, List.length_append, List.length_map, subm_len js, List.length_cons, Nat.pow_succ]; omega
theorem subm_mem : ∀ (js : List Nat) (a : Nat), (∀ i, a.testBit i = true → i ∈ js) → a ∈ subm js
  | [], a, h => by
    have : a = 0 := by
      apply Nat.eq_of_testBit_eq
      intro i
      rw [Nat.zero_testBit]
      cases q : a.testBit i with
      | false => rfl
      | true => have := h i q; simp at this
    rw [this]; exact List.mem_singleton.mpr rfl
  | j :: js, a, h => by
    rw [subm, List.mem_append]
    by_cases b : a.testBit j = true
    · refine .inr (List.mem_map.mpr ⟨a ^^^ 2 ^ j, subm_mem js _ fun i hi => ?_, ?_⟩)
      · rw [AB.tb_xor] at hi
        by_cases e : j = i
        · subst e; rw [b] at hi; simp at hi
        · rw [decide_eq_false e, Bool.xor_false] at hi
          rcases List.mem_cons.mp (h i hi) with z | z
          · exact absurd z.symm e
          · exact z
      · apply Nat.eq_of_testBit_eq
        intro i
        rw [AB.tb_or, AB.tb_xor]
        by_cases e : j = i
        · subst e; rw [b]; simp
        · rw [decide_eq_false e]; simp
    · refine .inl (subm_mem js a fun i hi => ?_)
      rcases List.mem_cons.mp (h i hi) with z | z
      · rw [z] at hi; exact absurd hi b
      · exact z
/-- a mask's bits as a list -/
def bitsL (n k : Nat) : List Nat := (List.range k).filter fun i => n.testBit i
theorem bitsL_of {t : List AB.Fm} {n : Nat} (h : AB.WB t n) : BitsOf n (bitsL n t.length) := ⟨List.nodup_range.filter _, fun i => by
  unfold bitsL
  rw [List.mem_filter, List.mem_range]
  exact ⟨fun q => q.2, fun q => ⟨h.lt q, q⟩⟩⟩
theorem nodup_len {α : Type} [DecidableEq α] {xs ys : List α} (nd : xs.Nodup) (h : ∀ x ∈ xs, x ∈ ys) : xs.length ≤ ys.length := by
  have q := AB.nodup_sum_le (fun _ : α => 1) nd h
  simpa [List.map_const', List.sum_replicate_nat] using q
theorem bits_all_len {t : List AB.Fm} (nd : t.Nodup) : (bitsL (mask t AB.isAll) t.length).length ≤ AB.nA t := by
  have B := bitsL_of (mask_wb t AB.isAll)
  have hm : ∀ i ∈ bitsL (mask t AB.isAll) t.length, ∃ G, t[i]? = some (.all G) := fun i hi => all_at ((B.mem i).mp hi)
  have e : (bitsL (mask t AB.isAll) t.length).length = ((bitsL (mask t AB.isAll) t.length).map fun i => t.getD i .no).length := by rw [List.length_map]
  rw [e]
  unfold AB.nA
  refine nodup_len ?_ fun F hF => ?_
  · have : ∀ l : List Nat, l.Nodup → (∀ i ∈ l, ∃ G, t[i]? = some (.all G)) → (l.map fun i => t.getD i .no).Nodup := by
      intro l
      induction l with
      | nil => intro _ _; exact List.nodup_nil
      | cons i l ih =>
        intro n m
        obtain ⟨n1, n2⟩ := List.nodup_cons.mp n
        rw [List.map_cons, List.nodup_cons]
        refine ⟨fun z => ?_, ih n2 fun k hk => m k (List.mem_cons_of_mem _ hk)⟩
        obtain ⟨k, hk, ek⟩ := List.mem_map.mp z
        obtain ⟨G, eG⟩ := m i List.mem_cons_self
        obtain ⟨G', eG'⟩ := m k (List.mem_cons_of_mem _ hk)
        have ek' : t.getD k .no = t.getD i .no := ek
        rw [AB.getD_of eG, AB.getD_of eG'] at ek'
        have h1 := AB.ix_of nd eG
        have h2 := AB.ix_of nd eG'
        rw [ek', h1] at h2
        exact n1 (h2 ▸ hk)
    exact this _ B.nd hm
  · obtain ⟨i, hi, rfl⟩ := List.mem_map.mp hF
    obtain ⟨G, e⟩ := hm i hi
    show t.getD i .no ∈ _
    rw [AB.getD_of e]
    exact List.mem_filter.mpr ⟨List.mem_of_getElem? e, rfl⟩
/-! ### the dict of heights -/
def hKey (a i : Nat) : List Key := [.inl (a : Int), kB i]
theorem hKey_inj {a b i j : Nat} (h : hKey a i = hKey b j) : a = b ∧ i = j := by
  unfold hKey kB at h
  simp only [List.cons.injEq, Sum.inl.injEq, Int.natCast_inj, and_true] at h
  exact ⟨h.1, pow_inj h.2⟩
/-- what an entry says -/
def Ent (t : List AB.Fm) (a i : Nat) (v : V) : Prop := ∃ G, t[i]? = some (.all G) ∧ (∀ j, a.testBit j = true → (mask t AB.isAll).testBit j = true) ∧
  ∀ l, l &&& mask t AB.isAll = a → l.testBit i = false → (v = .non ∧ AB.Valid (AB.bnL (AB.S t l) G) (AB.bnR G)) ∨ ∃ z : Int, v = .int z ∧ ∃ tr, AB.Fals (AB.bnL (AB.S t l) G) (AB.bnR G) tr
structure Hts (t : List AB.Fm) (A : Ad) (H : Hp) : Prop where
  ex : ∃ kvs : List (List Key × V), H A.dh = some (.dT kvs) ∧ (kvs.map (·.1)).Nodup ∧ ∀ key v, (key, v) ∈ kvs → ∃ a i, key = hKey a i ∧ Ent t a i v
theorem valV_mem {κ : Type} [DecidableEq κ] {k : κ} {v : V} : ∀ {kvs : List (κ × V)}, valV kvs k = some v → (k, v) ∈ kvs
  | [], h => by rw [valV_nil] at h; cases h
  | p :: r, h => by
    by_cases e : p.1 = k
    · rw [valV_pos e] at h
      rw [← Option.some.inj h, ← e]; exact List.mem_cons_self
    · rw [valV_neg e] at h
      exact List.mem_cons_of_mem _ (valV_mem h)
theorem mem_valV {κ : Type} [DecidableEq κ] {k : κ} : ∀ {kvs : List (κ × V)}, k ∈ kvs.map (·.1) → (valV kvs k).isSome = true
  | p :: r, h => by
    by_cases e : p.1 = k
    · rw [valV_pos e]; rfl
    · rw [valV_neg e]
      rcases List.mem_cons.mp (by rw [List.map_cons] at h; exact h) with z | z
      · exact absurd z.symm e
      · exact mem_valV z
theorem Hts.keep {t : List AB.Fm} {A : Ad} {H H' : Hp} (h : Hts t A H) (k : H' A.dh = H A.dh) : Hts t A H' := ⟨by rw [k]; exact h.ex⟩
theorem Hts.kp {t : List AB.Fm} {A : Ad} {H H' : Hp} (h : Hts t A H) (k : Kp H H') : Hts t A H' := by
  obtain ⟨kvs, e, _⟩ := h.ex
  exact h.keep (by rw [e]; exact k _ _ e)
theorem Hts.len {t : List AB.Fm} (K : AB.TabOk t) {kvs : List (List Key × V)} (nd : (kvs.map (·.1)).Nodup) (ek : ∀ key v, (key, v) ∈ kvs → ∃ a i, key = hKey a i ∧ Ent t a i v) : kvs.length < sizeLine := by
  have B := bitsL_of (mask_wb t AB.isAll)
  have q := nodup_len (ys := (subm (bitsL (mask t AB.isAll) t.length)).flatMap fun a => (List.range t.length).map fun i => hKey a i) nd fun key hk => by
    obtain ⟨⟨k, v⟩, hm, rfl⟩ := List.mem_map.mp hk
    obtain ⟨a, i, ekey, G, eG, hsub, _⟩ := ek k v hm
    show k ∈ _
    rw [ekey]
    refine List.mem_flatMap.mpr ⟨a, subm_mem _ _ fun j hj => (B.mem j).mpr (hsub j hj), List.mem_map.mpr ⟨i, List.mem_range.mpr (List.getElem?_eq_some_iff.mp eG).1, rfl⟩⟩
  have e : ((subm (bitsL (mask t AB.isAll) t.length)).flatMap fun a => (List.range t.length).map fun i => hKey a i).length = (subm (bitsL (mask t AB.isAll) t.length)).length * t.length := by
    generalize subm (bitsL (mask t AB.isAll) t.length) = l
    induction l with
    | nil => simp
    | cons x l ih => rw [List.flatMap_cons, List.length_append, ih, List.length_map, List.length_range, List.length_cons, Nat.add_mul, Nat.one_mul]; omega
  rw [e, subm_len] at q
  have h1 := bits_all_len K.c.nd
  have h2 := K.al
  have h3 : 2 ^ (bitsL (mask t AB.isAll) t.length).length ≤ 2 ^ 6 := Nat.pow_le_pow_right (by decide) (by omega)
  have h4 := Nat.mul_le_mul h3 K.len
  have h5 : kvs.length = (kvs.map (·.1)).length := by rw [List.length_map]
  rw [sizeLine_eq]
  omega
/-- one pair for another of the same alls -/
theorem ent_of {t : List AB.Fm} (C : AB.TabC t) {l i : Nat} {G : AB.Fm} (hl : AB.WB t l) (e : t[i]? = some (.all G)) (off : l.testBit i = false) {v : V}
    (h : (v = .non ∧ AB.Valid (AB.bnL (AB.S t l) G) (AB.bnR G)) ∨ ∃ z : Int, v = .int z ∧ ∃ tr, AB.Fals (AB.bnL (AB.S t l) G) (AB.bnR G) tr) : Ent t (l &&& mask t AB.isAll) i v := by
  refine ⟨G, e, fun j hj => by rw [Nat.testBit_and, Bool.and_eq_true] at hj; exact hj.2, fun l' el off' => ?_⟩
  have B := bitsL_of (AB.WB.and (m := mask t AB.isAll) hl)
  have b1 : AB.Bn t l (mask t AB.isAll) (bitsL (l &&& mask t AB.isAll) t.length) i G := ⟨mask_is t _, B.mem, B.nd, e, off⟩
  have b2 : AB.Bn t l' (mask t AB.isAll) (bitsL (l &&& mask t AB.isAll) t.length) i G := ⟨mask_is t _, by rw [el]; exact B.mem, B.nd, e, off'⟩
  have key : ∀ tr, AB.Fals (AB.bnL (AB.S t l) G) (AB.bnR G) tr ↔ AB.Fals (AB.bnL (AB.S t l') G) (AB.bnR G) tr := fun tr => by
    rw [← b1.fals C tr, ← b2.fals C tr, el]
  rcases h with ⟨rfl, hv⟩ | ⟨z, rfl, tr, hf⟩
  · exact .inl ⟨rfl, fun tr h => hv tr ((key tr).mpr h)⟩
  · exact .inr ⟨z, rfl, tr, (key tr).mp hf⟩
end AT
end
section
set_option Elab.async false
set_option linter.all false
set_option maxRecDepth 100000
/-! The search: least_beneath and least_of_leaf over a least of a lower level. -/
namespace AT
open PySem PySem.Spec PyProof.Rows L2 GL
theorem putK_mem {κ : Type} [DecidableEq κ] {kvs : List (κ × V)} {k key : κ} {v u : V} (h : (key, u) ∈ putK kvs k v) : (key = k ∧ u = v) ∨ (key, u) ∈ kvs := by
  unfold putK at h
  split at h
  · obtain ⟨⟨a, b⟩, hm, e⟩ := List.mem_map.mp h
    dsimp only at e
    split at e
    · rename_i ea
      rw [Prod.mk.injEq] at e
      exact .inl ⟨e.1.symm.trans ea, e.2.symm⟩
    · rw [← e]; exact .inr hm
  · rcases List.mem_append.mp h with z | z
    · exact .inr z
    · rw [List.mem_singleton, Prod.mk.injEq] at z
      exact .inl z
theorem putK_nodup {κ : Type} [DecidableEq κ] {kvs : List (κ × V)} {k : κ} {v : V} (h : (kvs.map (·.1)).Nodup) : ((putK kvs k v).map (·.1)).Nodup := by
  unfold putK
  split
  · have e : (kvs.map fun kv => if kv.1 = k then (kv.1, v) else kv).map (·.1) = kvs.map (·.1) := by
      rw [List.map_map]
      refine List.map_congr_left fun p _ => ?_
      show (if p.1 = k then (p.1, v) else p).1 = p.1
      split <;> rfl
    rw [e]; exact h
  · rename_i hn
    rw [List.map_append]
    refine List.nodup_append.mpr ⟨h, by simp, fun a ha b hb => ?_⟩
    rw [List.map_cons, List.map_nil, List.mem_singleton] at hb
    subst hb
    rintro rfl
    have q := mem_valV ha
    rw [← valV_any] at q
    exact hn q
/-- what comes back, by the answer -/
structure Res (t : List AB.Fm) (A : Ad) (H : Hp) (Q : VK) (yes no : Prop) : Prop where
  n : ∀ H', KB A.dh H H' → Hts t A H' → yes → Q .non H'
  i : ∀ (z : Int) H', KB A.dh H H' → Hts t A H' → no → Q (.int z) H'
abbrev BV (t : List AB.Fm) (l : Nat) (G : AB.Fm) : Prop := AB.Valid (AB.bnL (AB.S t l) G) (AB.bnR G)
abbrev BF (t : List AB.Fm) (l : Nat) (G : AB.Fm) : Prop := ∃ tr, AB.Fals (AB.bnL (AB.S t l) G) (AB.bnR G) tr
def spLeast (K : PySem.W.Frag) (n : Nat) : Sp := fun vs H Q _ => ∃ (A : Ad) (t : List AB.Fm) (l r : Nat), vs = [.ref A.sa, .int l, .int r] ∧ SAt K t A H ∧ Hts t A H ∧ AB.TabOk t ∧ AB.WB t l ∧ AB.WB t r ∧ AB.nb t l r ≤ AB.nbMax ∧ AB.rem t l < n ∧
  Res t A H Q (AB.Valid (AB.S t l) (AB.S t r)) (∃ tr, AB.FalsP t (l, r) tr)
def spLB (K : PySem.W.Frag) (n : Nat) : Sp := fun vs H Q _ => ∃ (A : Ad) (t : List AB.Fm) (l i : Nat) (G : AB.Fm), vs = [.ref A.sa, .int l, two i] ∧ SAt K t A H ∧ Hts t A H ∧ AB.TabOk t ∧ AB.WB t l ∧ t[i]? = some (.all G) ∧ l.testBit i = false ∧ AB.rem t l ≤ n ∧
  Res t A H Q (BV t l G) (BF t l G)
def spLol (K : PySem.W.Frag) (n : Nat) : Sp := fun vs H Q _ => ∃ (A : Ad) (t : List AB.Fm) (l r : Nat), vs = [.ref A.sa, .int l, .int r] ∧ SAt K t A H ∧ Hts t A H ∧ AB.TabOk t ∧ AB.Leaf t l r ∧ AB.rem t l ≤ n ∧
  Res t A H Q (AB.Valid (AB.S t l) (AB.S t r)) (∃ tr, AB.FalsP t (l, r) tr)
theorem len_least {K : PySem.W.Frag} {n : Nat} (vs : List V) (H : Hp) (Q : VK) (E : XK) (h : spLeast K n vs H Q E) : vs.length = 3 := by obtain ⟨_, _, _, _, rfl, _⟩ := h; rfl
theorem len_lb {K : PySem.W.Frag} {n : Nat} (vs : List V) (H : Hp) (Q : VK) (E : XK) (h : spLB K n vs H Q E) : vs.length = 3 := by obtain ⟨_, _, _, _, _, rfl, _⟩ := h; rfl
theorem len_lol {K : PySem.W.Frag} {n : Nat} (vs : List V) (H : Hp) (Q : VK) (E : XK) (h : spLol K n vs H Q E) : vs.length = 3 := by obtain ⟨_, _, _, _, rfl, _⟩ := h; rfl
theorem sc_lb : FnScope ["self", "left", "bit", "key", "near", "far"] ["self", "left", "bit"] (defScope s_Search_least_beneath) := ⟨rfl, rfl, rfl, by decide +kernel, rfl, by decide +kernel, by decide +kernel⟩
theorem sc_lol : FnScope ["self", "left", "right", "found", "bit", "height"] ["self", "left", "right"] (defScope s_Search_least_of_leaf) := ⟨rfl, rfl, rfl, by decide +kernel, rfl, by decide +kernel, by decide +kernel⟩
section
variable {P : Program} {w : World} {K : PySem.W.Frag} {mg : Str → Option Value} {base : Heap} (T : Tx w K mg)
include T
theorem bd_least : L2.Binds K (fdOf K (f_Search_least K)) ["self", "left", "right"] [] := T.F_Search_least.binds fun _ _ _ _ _ _ us hl => match us, hl with | [_, _, _], _ => rfl
theorem bd_lb : L2.Binds K (fdOf K (f_Search_least_beneath K)) ["self", "left", "bit"] [] := T.F_Search_least_beneath.binds fun _ _ _ _ _ _ us hl => match us, hl with | [_, _, _], _ => rfl
theorem bd_lol : L2.Binds K (fdOf K (f_Search_least_of_leaf K)) ["self", "left", "right"] [] := T.F_Search_least_of_leaf.binds fun _ _ _ _ _ _ us hl => match us, hl with | [_, _, _], _ => rfl
theorem ok_lb {n k : Nat} (hk : 5 ≤ k) (FL : FG P w K mg base k (f_Search_least K) ["self", "left", "right"] (spLeast K n)) : FG P w K mg base (k + 1) (f_Search_least_beneath K) ["self", "left", "bit"] (spLB K n) := by
  refine FnG.of T.F_Search_least_beneath sc_lb len_lb (fun cdv A outer s H vs Q hr h => ⟨_,
    sgs_cons (sg_set (i := 3) (eg_tup (ag_cons (eg_op on_and (eg_var 1) (eg_dget (hu_of hr) (eg_fld (eg_fld (eg_var 0))) (eg_glob rfl T.c_ALL) (fun _ _ => rfl))) (ag_cons (eg_var 2) ag_nil))) sc_lb.nd rfl rfl)
    (sgs_cons (sg_if (tg_cmp (og_notInD (hu_of hr)) (eg_var 3) (eg_fld (eg_var 0)) rfl)
      (sgs_cons (sg_two (i := 4) (j := 5) rfl (eg_meth (eg_var 0) T.cls_Search (He.meth_ok T.m_Search_pair_beneath) ((ok_pairB (P := P) (base := base) T).mono hk) hr (bd_pairB T) (ag_cons (eg_var 1) (ag_cons (eg_var 2) ag_nil))) sc_lb.nd rfl rfl rfl rfl)
      (sgs_one (sg_dput (hu_of hr) (eg_fld (eg_var 0)) (eg_var 3) (eg_meth (eg_var 0) T.cls_Search (He.meth_ok T.m_Search_least) FL hr (bd_least T) (ag_cons (eg_var 4) (ag_cons (eg_var 5) ag_nil))))))
      sgs_nil)
    (sgs_one (sg_ret (eg_dget (hu_of hr) (eg_fld (eg_var 0)) (eg_var 3) (fun _ _ => rfl))))), ?_⟩)
  obtain ⟨a, t, l, i, G, rfl, S, Ht, TO, hwl, e, off, hrem, R⟩ := h
  refine ⟨_, rfl, rd_kind T S rfl kind_all ?_⟩
  refine ⟨l, _, rfl, rfl, _, rfl, len2, fun kt hkt => ?_⟩
  have k1 : Kp H (upd H kt (.tup [.int ((l &&& mask t AB.isAll : Nat) : Int), two i])) := Kp.upd (Same.refl H) hkt
  have ekt : upd H kt (.tup [.int ((l &&& mask t AB.isAll : Nat) : Int), two i]) kt = some (.tup ((hKey (l &&& mask t AB.isAll) i).map kV)) := upd_same
  have S1 := S.kp k1
  have Ht1 := Ht.kp k1
  obtain ⟨kvs, ekv, nd, ent⟩ := Ht1.ex
  have kb1 := KB.of k1 S.h
  refine ⟨_, rfl, ?_⟩
  refine rd_heights T S1 (by rfl) ?_
  refine ⟨a.dh, _, rfl, DGet.t ekv ekt, _, rfl, ?_⟩
  cases hv : valV kvs (hKey (l &&& mask t AB.isAll) i) with
  | some v =>
    refine iteF ?_
    show tDGet (tFld K (tVar 0) "heights_beneath") (tVar 3) _ _ _
    refine rd_heights T S1 rfl ?_
    refine ⟨_, rfl, a.dh, v, rfl, by rw [← hv]; exact DGet.t ekv ekt, ?_⟩
    obtain ⟨b, j, ekey, G', eG, _, hE⟩ := ent _ _ (valV_mem hv)
    obtain ⟨rfl, rfl⟩ := hKey_inj ekey
    rw [e] at eG; cases eG
    rcases hE l rfl off with ⟨rfl, hV⟩ | ⟨z, rfl, hF⟩
    · exact R.n _ kb1 Ht1 hV
    · exact R.i z _ kb1 Ht1 hF
  | none =>
    refine iteT ?_
    refine ⟨_, rfl, a.sa, _, _, rfl, S1.s, rfl, _, rfl, _, rfl, a, t, l, i, G, rfl, S1, TO.len, hwl, e, fun js pt H2 hb k2 ept => ?_⟩
    refine ⟨pt, _, _, rfl, .inl (SqT.of ept), ?_⟩
    have S2 := S1.kp k2
    have Ht2 := Ht1.kp k2
    have B : AB.Bn t l (mask t AB.isAll) js i G := ⟨mask_is t _, hb.mem, hb.nd, e, off⟩
    obtain ⟨w1, w2⟩ := B.wb TO.c hwl
    have kb2 : KB a.dh H H2 := kb1.trans (.of k2 S1.h)
    have fin : ∀ (v : V) (H3 : Hp), KB a.dh H2 H3 → Hts t a H3 → ((v = .non ∧ BV t l G) ∨ ∃ z : Int, v = .int z ∧ BF t l G) →
        tFld K (tVar 0) "heights_beneath" [some (.ref a.sa), some (.int l), some (two i), some (.ref kt), some (.int (AB.nearOf t (l &&& mask t AB.isAll) js i : Nat)), some (two (AB.ix t G))] H3 fun x H4 => tVar 3 [some (.ref a.sa), some (.int l), some (two i), some (.ref kt), some (.int (AB.nearOf t (l &&& mask t AB.isAll) js i : Nat)), some (two (AB.ix t G))] H4 fun y H5 =>
          ∃ b H6, x = .ref b ∧ DPut H5 b y v H6 ∧ tRet (tDGet (tFld K (tVar 0) "heights_beneath") (tVar 3)) { nx := fun _ H' => Q .non H', rt := Q } [some (.ref a.sa), some (.int l), some (two i), some (.ref kt), some (.int (AB.nearOf t (l &&& mask t AB.isAll) js i : Nat)), some (two (AB.ix t G))] H6 := fun v H3 kb3 Ht3 hv => by
      have S3 := S2.keep kb3
      obtain ⟨kvs3, ekv3, nd3, ent3⟩ := Ht3.ex
      have nek : kt ≠ a.dh := ne_of ekt ekv (fun z => nomatch z)
      have ekt3 : H3 kt = some (.tup ((hKey (l &&& mask t AB.isAll) i).map kV)) := kb3.k _ _ (k2 _ _ ekt) nek
      refine rd_heights T S3 (by rfl) ?_
      refine ⟨_, rfl, a.dh, _, rfl, DPut.t ekv3 ekt3 (Hts.len TO nd3 ent3), ?_⟩
      have kb4 : KB a.dh H3 (upd H3 a.dh (.dT (putK kvs3 (hKey (l &&& mask t AB.isAll) i) v))) := ⟨fun b o q nb => by rw [upd_ne nb]; exact q, _, upd_same⟩
      have Ht4 : Hts t a (upd H3 a.dh (.dT (putK kvs3 (hKey (l &&& mask t AB.isAll) i) v))) := ⟨_, upd_same, putK_nodup nd3, fun key u hm => by
        rcases putK_mem hm with ⟨rfl, rfl⟩ | hm
        · exact ⟨_, _, rfl, ent_of TO.c hwl e off hv⟩
        · exact ent3 key u hm⟩
      have S4 := S3.keep kb4
      show tDGet (tFld K (tVar 0) "heights_beneath") (tVar 3) _ _ _
      refine rd_heights T S4 rfl ?_
      refine ⟨_, rfl, a.dh, v, rfl, ?_, ?_⟩
      · have hg := DGet.t (k := hKey (l &&& mask t AB.isAll) i) (b := kt) (upd_same (H := H3) (a := a.dh) (o := .dT (putK kvs3 (hKey (l &&& mask t AB.isAll) i) v))) (by rw [upd_ne nek]; exact ekt3)
        rw [valV_put, if_pos rfl] at hg
        exact hg
      · rcases hv with ⟨rfl, hV⟩ | ⟨z, rfl, hF⟩
        · exact R.n _ (kb2.trans (kb3.trans kb4)) Ht4 hV
        · exact R.i z _ (kb2.trans (kb3.trans kb4)) Ht4 hF
    refine ⟨_, rfl, a.sa, _, _, rfl, S2.s, rfl, _, rfl, _, rfl, a, t, AB.nearOf t (l &&& mask t AB.isAll) js i, 2 ^ AB.ix t G, rfl, S2, Ht2, TO, w1, w2, B.nb TO, Nat.lt_of_lt_of_le (B.rem TO.c) hrem, ⟨fun H3 kb3 Ht3 hV => ?_, fun z H3 kb3 Ht3 hF => ?_⟩⟩
    · exact fin .non H3 kb3 Ht3 (.inl ⟨rfl, fun tr h => hV tr ((B.fals TO.c tr).mpr h)⟩)
    · obtain ⟨tr, hF⟩ := hF
      exact fin (.int z) H3 kb3 Ht3 (.inr ⟨z, rfl, tr, (B.fals TO.c tr).mp hF⟩)
end
end AT
end
section
set_option Elab.async false
set_option linter.all false
set_option maxRecDepth 100000
/-! The search: least_of_leaf. -/
namespace AT
open PySem PySem.Spec PyProof.Rows L2 GL
theorem take_succ {α : Type} {js : List α} {j : Nat} {i : α} (h : js[j]? = some i) : js.take (j + 1) = js.take j ++ [i] := by rw [List.take_add_one, h]; rfl
section
variable {P : Program} {w : World} {K : PySem.W.Frag} {mg : Str → Option Value} {base : Heap} (T : Tx w K mg)
include T
theorem ok_lol {n k : Nat} (hk : 2 ≤ k) (FB : FG P w K mg base k (f_Search_least_beneath K) ["self", "left", "bit"] (spLB K n)) : FG P w K mg base (k + 1) (f_Search_least_of_leaf K) ["self", "left", "right"] (spLol K n) := by
  refine FnG.of T.F_Search_least_of_leaf sc_lol len_lol (fun cdv A outer s H vs Q hr h => ⟨_,
    sgs_cons (sg_set (i := 3) eg_int sc_lol.nd rfl rfl)
    (sgs_cons (sg_for (i := 4) rfl PassesOwn.never (eg_call ((ok_members (P := P) (base := base) T).mono hk) hr rfl T.g_members T.F_members.kp (bd_members T) (ag_cons (eg_op on_and (eg_var 2) (eg_dget (hu_of hr) (eg_fld (eg_fld (eg_var 0))) (eg_glob rfl T.c_ALL) (fun _ _ => rfl))) ag_nil)) sc_lol.nd rfl rfl
      (sgs_cons (sg_set (i := 5) (eg_meth (eg_var 0) T.cls_Search (He.meth_ok T.m_Search_least_beneath) FB hr (bd_lb T) (ag_cons (eg_var 1) (ag_cons (eg_var 4) ag_nil))) sc_lol.nd rfl rfl)
      (sgs_cons (sg_if (tg_cmp og_isN (eg_var 5) eg_non rfl) (sgs_one (sg_ret eg_non)) sgs_nil)
      (sgs_one (sg_set (i := 3) (eg_max rfl rfl T.b_max (ag_cons (eg_var 3) (ag_cons (eg_op og_add (eg_var 5) eg_int) ag_nil))) sc_lol.nd rfl rfl)))))
    (sgs_one (sg_ret (eg_var 3)))), ?_⟩)
  obtain ⟨a, t, l, r, rfl, S, Ht, TO, L, hrem, R⟩ := h
  refine ⟨_, rfl, rd_kind T S rfl kind_all ?_⟩
  refine ⟨r, _, rfl, rfl, _, rfl, wb64 (AB.WB.and L.wr) TO.len, fun js la H1 hb k1 hla h1 => ?_⟩
  have S1 := S.kp k1
  have Ht1 := Ht.kp k1
  refine ⟨la, js.map two, rfl, SqL.of h1, fun j σ H2 => KB a.dh H1 H2 ∧ Hts t a H2 ∧ (∃ (z : Int) (b h5 : Option V), σ = [some (.ref a.sa), some (.int l), some (.int r), some (.int z), b, h5]) ∧ ∀ i ∈ js.take j, ∃ G, t[i]? = some (.all G) ∧ BF t l G,
    ⟨.refl S1.h, Ht1, ⟨0, none, none, rfl⟩, by simp⟩, fun j σ H2 _ hp => SqL.of (hp.1.k _ _ h1 ?_), ?_, ?_⟩
  · obtain ⟨kvs, e⟩ := S1.h
    exact ne_of h1 e fun z => nomatch z
  · rintro j x σ H2 hx ⟨kb2, Ht2, ⟨z, b, h5, rfl⟩, done⟩
    obtain ⟨i, hi, rfl⟩ : ∃ i, js[j]? = some i ∧ two i = x := by simpa using hx
    have S2 := S1.keep kb2
    have mi := (hb.mem i).mp (List.mem_of_getElem? hi)
    rw [Nat.testBit_and, Bool.and_eq_true] at mi
    obtain ⟨G, e⟩ := all_at mi.2
    have off : l.testBit i = false := by
      cases q : l.testBit i with
      | false => rfl
      | true => exact (AB.and_zero L.op q mi.1).elim
    refine ⟨_, rfl, a.sa, _, _, rfl, S2.s, rfl, _, rfl, _, rfl, a, t, l, i, G, rfl, S2, Ht2, TO, L.wl, e, off, hrem, ⟨fun H3 kb3 Ht3 hV => ?_, fun z3 H3 kb3 Ht3 hF => ?_⟩⟩
    · refine ⟨_, rfl, rfl, _, rfl, iteT ?_⟩
      exact R.n H3 ((KB.of k1 S.h).trans (kb2.trans kb3)) Ht3 (AB.leaf_none mi.1 e hV)
    · refine ⟨_, rfl, rfl, _, rfl, iteF ?_⟩
      refine ⟨_, rfl, _, rfl, z3, 1, rfl, rfl, z, z3 + 1, rfl, ?_⟩
      refine ⟨kb2.trans kb3, Ht3, ⟨_, _, _, rfl⟩, fun i' hi' => ?_⟩
      rw [take_succ hi] at hi'
      rcases List.mem_append.mp hi' with q | q
      · exact done i' q
      · rw [List.mem_singleton.mp q]; exact ⟨G, e, hF⟩
  · rintro σ H2 ⟨kb2, Ht2, ⟨z, b, h5, rfl⟩, done⟩
    refine ⟨_, rfl, R.i z H2 ((KB.of k1 S.h).trans kb2) Ht2 (AB.leaf_some TO.c L fun i G hi e => ?_)⟩
    rw [List.length_map, List.take_length] at done
    obtain ⟨G', e', hF⟩ := done i ((hb.mem i).mpr (by rw [Nat.testBit_and, hi, (mask_is t AB.isAll i).mpr ⟨_, e, rfl⟩]; rfl))
    rw [e] at e'; cases e'
    exact hF
end
end AT
end
section
set_option Elab.async false
set_option linter.all false
set_option maxRecDepth 100000
/-! The search: least over the generator leaves. -/
namespace AT
open PySem PySem.Spec PyProof.Rows L2 GL GenW
/-! ### met -/
def mKey (p : Nat × Nat) : List Key := [.inl (p.1 : Int), .inl (p.2 : Int)]
theorem mKey_inj {p q : Nat × Nat} (h : mKey p = mKey q) : p = q := by
  unfold mKey at h
  simp only [List.cons.injEq, Sum.inl.injEq, Int.natCast_inj, and_true] at h
  exact Prod.ext h.1 h.2
def metD (met : List (Nat × Nat)) : List (List Key × V) := met.map fun p => (mKey p, .bl true)
theorem met_in {met : List (Nat × Nat)} {p : Nat × Nat} : (valV (metD met) (mKey p)).isSome = true ↔ p ∈ met := by
  rw [← valV_any]
  unfold metD
  rw [List.any_map, List.any_eq_true]
  constructor
  · rintro ⟨q, hq, e⟩
    have e' : mKey q = mKey p := of_decide_eq_true e
    rw [← mKey_inj e']; exact hq
  · intro h
    exact ⟨p, h, decide_eq_true rfl⟩
theorem met_put {met : List (Nat × Nat)} {p : Nat × Nat} (h : p ∉ met) : putK (metD met) (mKey p) (.bl true) = metD (met ++ [p]) := by
  rw [putK_new]
  · unfold metD; rw [List.map_append]; rfl
  · cases e : valV (metD met) (mKey p) with
    | none => rfl
    | some v => exact absurd (met_in.mp (by rw [e]; rfl)) h
/-! ### the generator's state -/
abbrev tupOf (p : Nat × Nat) : HO := .tup [.int (p.1 : Int), .int (p.2 : Int)]
def Pts (H : Hp) : List Addr → List (Nat × Nat) → Prop := Paired fun t p => H t = some (tupOf p)
theorem Pts.keep {H H' : Hp} (k : ∀ b xs, H b = some (.tup xs) → H' b = some (.tup xs)) : ∀ {ts : List Addr} {ps : List (Nat × Nat)}, Pts H ts ps → Pts H' ts ps
  | _, _, .nil => .nil
  | _, _, .cons h t => .cons (k _ _ h) (Pts.keep k t)
theorem Pts.length {H : Hp} {ts : List Addr} {ps : List (Nat × Nat)} (h : Pts H ts ps) : ts.length = ps.length := Paired.length h
theorem Pts.append {H : Hp} : ∀ {ts us : List Addr} {ps qs : List (Nat × Nat)}, Pts H ts ps → Pts H us qs → Pts H (ts ++ us) (ps ++ qs)
  | _, _, _, _, .nil, s => s
  | _, _, _, _, .cons h t, s => .cons h (Pts.append t s)
theorem Pts.reverse {H : Hp} : ∀ {ts : List Addr} {ps : List (Nat × Nat)}, Pts H ts ps → Pts H ts.reverse ps.reverse
  | _, _, .nil => .nil
  | _, _, .cons h t => by rw [List.reverse_cons, List.reverse_cons]; exact Pts.append (Pts.reverse t) (.cons h .nil)
theorem Pts.snoc {H : Hp} : ∀ {ts : List Addr} {ps : List (Nat × Nat)} {x : Nat × Nat}, Pts H ts (ps ++ [x]) → ∃ us tx, ts = us ++ [tx] ∧ Pts H us ps ∧ H tx = some (tupOf x)
  | _, [], _, .cons h .nil => ⟨[], _, rfl, .nil, h⟩
  | _, _ :: _, _, .cons h t => by
    obtain ⟨us, tx, rfl, a, b⟩ := Pts.snoc t
    exact ⟨_ :: us, tx, rfl, .cons h a, b⟩
/-- the generator's locals, its list and its dict, new since H0 -/
structure GenS (A : Ad) (H0 : Hp) (l r : Nat) (σg : L2.St) (ws met : List (Nat × Nat)) (H : Hp) : Prop where
  ex : ∃ (lw lm : Addr) (tws : List Addr) (h f : Option V), σg = [some (.ref A.sa), some (.int l), some (.int r), some (.ref lw), some (.ref lm), h, f] ∧ H lw = some (.lst (tws.map V.ref)) ∧ Pts H tws ws ∧ H lm = some (.dT (metD met)) ∧ H0 lw = none ∧ H0 lm = none
theorem GenS.keep {A : Ad} {H0 : Hp} {l r : Nat} {σg : L2.St} {ws met : List (Nat × Nat)} {H H' : Hp} (h : GenS A H0 l r σg ws met H) (k : KB A.dh H H') (hd : ∃ kvs, H A.dh = some (.dT kvs)) (hd0 : ∃ kvs, H0 A.dh = some (.dT kvs)) : GenS A H0 l r σg ws met H' := by
  obtain ⟨lw, lm, tws, h5, f, e, h1, h2, h3, h4, h6⟩ := h.ex
  obtain ⟨kvs, ed⟩ := hd
  obtain ⟨kvs0, ed0⟩ := hd0
  exact ⟨lw, lm, tws, h5, f, e, k.k _ _ h1 (ne_of h1 ed fun z => nomatch z), h2.keep fun b xs q => k.k _ _ q (ne_of q ed fun z => nomatch z), k.k _ _ h3 (fun z => by rw [z, ed0] at h6; cases h6), h4, h6⟩
/-- all but the list at lw and the dict at lm -/
def K3 (lw lm : Addr) (H H' : Hp) : Prop := ∀ b o, H b = some o → b ≠ lw → b ≠ lm → H' b = some o
theorem K3.trans {lw lm : Addr} {H H1 H2 : Hp} (a : K3 lw lm H H1) (b : K3 lw lm H1 H2) : K3 lw lm H H2 := fun c o e n m => b c o (a c o e n m) n m
theorem K3.kp {lw lm : Addr} {H H' : Hp} (k : Kp H H') : K3 lw lm H H' := fun b o e _ _ => k b o e
theorem K3.w {lw lm : Addr} {H : Hp} {o : HO} : K3 lw lm H (upd H lw o) := fun b u e n _ => by rw [upd_ne n]; exact e
theorem K3.m {lw lm : Addr} {H : Hp} {o : HO} : K3 lw lm H (upd H lm o) := fun b u e _ n => by rw [upd_ne n]; exact e
theorem KB.k3 {dh lw lm : Addr} {H0 H H' : Hp} (kb : KB dh H0 H) (k : K3 lw lm H H') (n1 : H0 lw = none) (n2 : H0 lm = none) (hd : ∃ kvs, H0 dh = some (.dT kvs)) : KB dh H0 H' := by
  obtain ⟨kvs, e⟩ := hd
  obtain ⟨kvs', e'⟩ := kb.h
  exact ⟨fun b o q n => k b o (kb.k b o q n) (ne_of_none q n1) (ne_of_none q n2), kvs', k _ _ e' (ne_of_none e n1) (ne_of_none e n2)⟩
theorem Hts.k3 {t : List AB.Fm} {A : Ad} {lw lm : Addr} {H0 H H' : Hp} (h : Hts t A H) (k : K3 lw lm H H') (n1 : H0 lw = none) (n2 : H0 lm = none) (hd : ∃ kvs, H0 A.dh = some (.dT kvs)) : Hts t A H' := by
  obtain ⟨kvs, e⟩ := hd
  obtain ⟨kvs', e', _⟩ := h.ex
  exact h.keep (by rw [e']; exact k _ _ e' (ne_of_none e n1) (ne_of_none e n2))
theorem Pts.k3 {lw lm : Addr} {H H' : Hp} {ts : List Addr} {ps : List (Nat × Nat)} (h : Pts H ts ps) (k : K3 lw lm H H') {xs : List V} {kvs : List (List Key × V)} (e1 : H lw = some (.lst xs)) (e2 : H lm = some (.dT kvs)) : Pts H' ts ps :=
  h.keep fun b ys q => k b _ q (ne_of q e1 fun z => nomatch z) (ne_of q e2 fun z => nomatch z)
/-- the consumer's locals -/
structure Cons (t : List AB.Fm) (A : Ad) (l r : Nat) (σ : L2.St) (ys : List (Nat × Nat)) : Prop where
  ex : ∃ (f : V) (h5 h6 : Option V), σ = [some (.ref A.sa), some (.int l), some (.int r), some f, h5, h6] ∧
    ((f = .non ∧ ∀ y ∈ ys, AB.Valid (AB.S t y.1) (AB.S t y.2)) ∨ ∃ z : Int, f = .int z ∧ ∃ y ∈ ys, ∃ tr, AB.FalsP t y tr)
theorem sc_least : FnScope ["self", "left", "right", "found", "here", "height"] ["self", "left", "right"] (defScope s_Search_least) := ⟨rfl, rfl, rfl, by decide +kernel, rfl, by decide +kernel, by decide +kernel⟩
abbrev Nlv : List Str := ["self", "left", "right", "waiting", "met", "here", "further"]
theorem sc_leaves : GScope Nlv ["self", "left", "right"] (defScope s_Search_leaves) := ⟨rfl, rfl, rfl, by decide +kernel, rfl, by decide +kernel, by decide +kernel⟩
section
variable {P : Program} {w : World} {K : PySem.W.Frag} {mg : Str → Option Value} {base : Heap} (T : Tx w K mg)
include T
theorem bd_leaves : L2.Binds K (fdOf K (f_Search_leaves K)) ["self", "left", "right"] [] := T.F_Search_leaves.binds fun _ _ _ _ _ _ us hl => match us, hl with | [_, _, _], _ => rfl
end
/-! ### the generator's parts -/
def whTest : List Stmt → Expr
  | [_, .While t _ _ _] => t
  | _ => .Constant .none 0 ⟨0, 0, 0, 0⟩
def whBody : List Stmt → List Stmt
  | [_, .While _ b _ _] => b
  | _ => []
def whHead : List Stmt → Stmt
  | a :: _ => a
  | _ => .Pass ⟨0, 0, 0, 0⟩
def tMeth (C : Addr) (m : Str) (sp : Sp) (ta : TE) (t : TA) : TE := fun σ H Q => ta σ H fun x H1 => ∃ a dx fs, x = .ref a ∧ H1 a = some (.ins C dx fs) ∧ fs.lookup m = none ∧ t σ H1 fun vs H2 => sp (x :: vs) H2 Q E0
def tLv1 : TS := tPar 3 4 (tCons (tLst (tCons (tTup (tCons (tVar 1) (tCons (tVar 2) tNil))) tNil)) (tCons tDNewT tNil))
def rNeNil (K : PySem.W.Frag) : R2 := fun x y H Q => ∃ p q xs, x = .ref p ∧ y = .ref q ∧ SqL K H p xs ∧ SqL K H q [] ∧ Q (.bl (!xs.isEmpty)) H
def rNotInD : R2 := fun y x H Q => ∃ p o, x = .ref p ∧ DGet H p y o ∧ Q (.bl (!o.isSome)) H
def rIsN : R2 := fun x y H Q => y = .non ∧ Q (.bl (decide (x = .non))) H
def tLvT (K : PySem.W.Frag) : TT := tTest (tOp (rNeNil K) (tVar 3) (tLst tNil))
def tItem (K : PySem.W.Frag) (i : Nat) (j : Int) : TE := tOp (rIxT K) (tVar i) (tC (.int j))
def tLvB (K : PySem.W.Frag) : TSY := tSeqY (tAsg (tBL K rPop (tVar 3) tNil) (gName 5))
  (tIfY (tAnd (tTest (tOp rNotInD (tVar 5) (tVar 4))) (tNot (tTest (tMeth (He.ga K "Search") "is_closed" (spClosed K) (tVar 0) (tCons (tItem K 5 0) (tCons (tItem K 5 1) tNil))))))
    (tSeqY (sDPut (tVar 4) (tVar 5) (tC (.bl true))) (tSeqY (tAsg (tMeth (He.ga K "Search") "pairs_behind" (spBehind K) (tVar 0) (tCons (tItem K 5 0) (tCons (tItem K 5 1) tNil))) (gName 6))
      (tIfY (tTest (tOp rIsN (tVar 6) (tC .non))) (tYieldY (tVar 5)) (tOnly (tDrop (tBL K rExtend (tVar 3) (tCons (tRevL K (tVar 6)) tNil)))))))
    tNilY)
section
variable {X : Cx} (T : Tx X.w X.K X.mg)
abbrev gxL (X : Cx) (L : Addr) (cdv : Value) (pn : List (Addr × Obj)) (s : Shared) (H : Hp) : Cx := gx X (envOfC "Search.leaves" (defScope s_Search_leaves) L (f_Search_leaves X.K) cdv) Nlv pn s H
theorem lv_env (L : Addr) (cdv : Value) : GEnv (envOfC "Search.leaves" (defScope s_Search_leaves) L (f_Search_leaves X.K) cdv) where
  kind := rfl
  glob := rfl
  blt := rfl
  cells := rfl
  nocell := fun x => by
    have h : ∀ y ∈ (defScope s_Search_leaves).names, y.2 ≠ .cell ∧ y.2 ≠ .free := by decide +kernel
    exact ⟨fun z => (h _ (PySem.mem_of_lookup z)).1 rfl, fun z => (h _ (PySem.mem_of_lookup z)).2 rfl⟩
  fr := rfl
theorem lv_1 (L : Addr) (cdv : Value) (pn : List (Addr × Obj)) (s : Shared) (H : Hp) : SG (gxL X L cdv pn s H) (whHead (defBody s_Search_leaves)) tLv1 :=
  sg_par (i := 3) (j := 4) rfl sc_leaves.nd rfl rfl (by decide) rfl rfl (ag_cons (eg_lst (ag_cons (eg_tup (ag_cons (eg_var 1) (ag_cons (eg_var 2) ag_nil))) ag_nil)) (ag_cons eg_dnewT ag_nil)) rfl
theorem lv_t (hr : Room 6 X.A) (L : Addr) (cdv : Value) (pn : List (Addr × Obj)) (s : Shared) (H : Hp) : TGt (gxL X L cdv pn s H) (whTest (defBody s_Search_leaves)) (tLvT X.K) :=
  tg_cmp (og_neNil ((hr.in1).deeper _).units0) (eg_var 3) (eg_lst ag_nil) rfl
include T
theorem lv_b (hr : Room 6 X.A) (L : Addr) (cdv : Value) (pn : List (Addr × Obj)) (s : Shared) (H : Hp) : SYs (gxL X L cdv pn s H) (whBody (defBody s_Search_leaves)) (tLvB X.K) := by
  have hg : Room 4 (gxL X L cdv pn s H).A := (hr.in1).deeper _
  exact sys_cons (sg_set (i := 5) (eg_bm0 PySem.F.slot_list_pop PySem.F.type_list_pop mg_pop (eg_var 3)) sc_leaves.nd rfl rfl)
    (sys_one (sy_if (wg_and (tg_cmp (og_notInD (hu_of hg)) (eg_var 5) (eg_var 4) rfl) (wg_and1 (tg_not (tg_val (eg_meth (X := gxL X L cdv pn s H) (eg_var 0) T.cls_Search (He.meth_ok T.m_Search_is_closed) ((ok_closed (P := X.prog) (base := X.base) T).mono (show 1 ≤ 4 by decide)) hg (bd_closed T) (ag_cons (eg_ix xg_tup (eg_var 5) eg_int (fun _ _ => rfl)) (ag_cons (eg_ix xg_tup (eg_var 5) eg_int (fun _ _ => rfl)) ag_nil))))))).t
      (sys_cons (sg_dput (hu_of hg) (eg_var 4) (eg_var 5) eg_bl)
      (sys_cons (sg_set (i := 6) (eg_meth (X := gxL X L cdv pn s H) (eg_var 0) T.cls_Search (He.meth_ok T.m_Search_pairs_behind) (ok_behind (P := X.prog) (base := X.base) T) hg (bd_behind T) (ag_cons (eg_ix xg_tup (eg_var 5) eg_int (fun _ _ => rfl)) (ag_cons (eg_ix xg_tup (eg_var 5) eg_int (fun _ _ => rfl)) ag_nil))) sc_leaves.nd rfl rfl)
      (sys_one (sy_if (tg_cmp og_isN (eg_var 6) eg_non rfl) (sys_one (sy_yield (eg_var 5))) (sys_one (sy_plain (sg_expr (eg_bm PySem.F.slot_list_extend PySem.F.type_list_extend mg_extend (eg_var 3) (ag_cons (eg_rev (eg_var 6)) ag_nil)))))))))
      sys_nil))
end
end AT
end
section
set_option Elab.async false
set_option linter.all false
set_option maxRecDepth 100000
/-! The search: least. -/
namespace AT
open PySem PySem.Spec PyProof.Rows L2 GL GenW
theorem rem_step {t : List AB.Fm} (C : AB.TabC t) {l r : Nat} {ch : List (Nat × Nat)} (st : AB.Step t l r ch) : ∀ c ∈ ch, AB.rem t c.1 ≤ AB.rem t l := by
  cases st with
  | right b h =>
    intro c hc
    rw [List.mem_singleton.mp hc]
    exact AB.rem_or _ _
  | left b h =>
    intro c hc
    rcases List.mem_cons.mp hc with rfl | hc
    · exact AB.rem_xor C h rfl
    · rw [List.mem_singleton.mp hc]
      exact Nat.le_trans (AB.rem_or _ _) (AB.rem_xor C h rfl)
  | drop b h c =>
    intro c hc
    rw [List.mem_singleton.mp hc]
    exact AB.rem_xor C h rfl
  | leftH b h c =>
    intro c hc
    rw [List.mem_singleton.mp hc]
    exact Nat.le_trans (AB.rem_or _ _) (AB.rem_xor C h rfl)
  | leftG b h c =>
    intro c hc
    rw [List.mem_singleton.mp hc]
    exact AB.rem_xor C h rfl
/-- what the generator does in one turn of its loop -/
theorem lv_turn {w : World} {K : PySem.W.Frag} {mg : Str → Option Value} (T : Tx w K mg) {t : List AB.Fm} {A : Ad} {l r : Nat} {ws met ys : List (Nat × Nat)} {σg : L2.St} {H0 H : Hp} (TO : AB.TabOk t) (hnb : AB.nb t l r ≤ AB.nbMax) (D : AB.Dfs t l r ws met ys) (S0 : SAt K t A H0) (kb : KB A.dh H0 H) (Ht : Hts t A H) (g : GenS A H0 l r σg ws met H) {n : Nat} (rm : ∀ p ∈ ws, AB.rem t p.1 ≤ n)
    {nx : L2.St → Hp → Prop} {yl : V → L2.St → Hp → Prop} {fi : Hp → Prop}
    (h1 : ∀ σ' H' ws' met', KB A.dh H0 H' → Hts t A H' → AB.Dfs t l r ws' met' ys → AB.sumP t ws' < AB.sumP t ws → GenS A H0 l r σ' ws' met' H' → (∀ p ∈ ws', AB.rem t p.1 ≤ n) → nx σ' H')
    (h2 : ∀ tp y σ' H' ws' met', KB A.dh H0 H' → Hts t A H' → AB.Leaf t y.1 y.2 → AB.rem t y.1 ≤ n → H' tp = some (tupOf y) → AB.Dfs t l r ws' met' (ys ++ [y]) → AB.sumP t ws' < AB.sumP t ws → GenS A H0 l r σ' ws' met' H' → (∀ p ∈ ws', AB.rem t p.1 ≤ n) → yl (.ref tp) σ' H')
    (h3 : ∀ H', KB A.dh H0 H' → Hts t A H' → ws = [] → fi H') :
    tLvT K σg H fun b H1 => if b = true then tLvB K { nx := nx, yl := yl } σg H1 else fi H1 := by
  obtain ⟨lw, lm, tws, h5, f6, rfl, e1, e2, e3, n1, n2⟩ := g.ex
  have few : ws.length ≤ AB.nbMax := Nat.le_trans D.ws_le hnb
  have few2 : met.length ≤ AB.nbMax := by have := D.count; omega
  refine ⟨_, rfl, Nat.zero_le _, fun q hq => ?_⟩
  have k0 : Kp H (upd H q (.lst [])) := Kp.upd (Same.refl H) hq
  refine ⟨lw, q, _, rfl, rfl, SqL.of (k0 _ _ e1), SqL.of upd_same, _, rfl, ?_⟩
  rcases List.eq_nil_or_concat ws with rfl | ⟨ws', x, rfl⟩
  · cases e2
    exact iteF (h3 _ (kb.k3 (K3.kp k0) n1 n2 S0.h) (Ht.kp k0) rfl)
  · rw [List.concat_eq_append] at *
    obtain ⟨us, tx, rfl, u1, u2⟩ := e2.snoc
    have hne : (!((us ++ [tx]).map V.ref).isEmpty) = true := by simp
    rw [hne]
    refine iteT ?_
    have e1' := k0 _ _ e1
    have hwx := D.wb x (List.mem_append_right _ (List.mem_singleton.mpr rfl))
    -- pop
    refine ⟨_, rfl, ⟨lw, _, rfl, SqL.of e1'⟩, lw, _, .ref tx, rfl, rfl, e1', by simp, ?_⟩
    have edl : ((us ++ [tx]).map V.ref).dropLast = us.map V.ref := by rw [List.map_append]; exact List.dropLast_concat
    rw [edl]
    have kb1 : K3 lw lm H (upd (upd H q (.lst [])) lw (.lst (us.map V.ref))) := (K3.kp k0).trans K3.w
    have nwm : lw ≠ lm := ne_of e1 e3 fun z => nomatch z
    have ew1 : upd (upd H q (.lst [])) lw (.lst (us.map V.ref)) lw = some (.lst (us.map V.ref)) := upd_same
    have em1 : upd (upd H q (.lst [])) lw (.lst (us.map V.ref)) lm = some (.dT (metD met)) := by rw [upd_ne nwm.symm]; exact k0 _ _ e3
    have eu1 : Pts (upd (upd H q (.lst [])) lw (.lst (us.map V.ref))) us ws' := u1.k3 kb1 e1 e3
    have ex1 : upd (upd H q (.lst [])) lw (.lst (us.map V.ref)) tx = some (tupOf x) := kb1 _ _ u2 (ne_of u2 e1 fun z => nomatch z) (ne_of u2 e3 fun z => nomatch z)
    have KB1 := kb.k3 kb1 n1 n2 S0.h
    have Ht1 := Ht.k3 kb1 n1 n2 S0.h
    have S1 := S0.keep KB1
    have skip : (x ∈ met ∨ AB.Valid (AB.S t x.1) (AB.S t x.2)) → nx [some (.ref A.sa), some (.int l), some (.int r), some (.ref lw), some (.ref lm), some (.ref tx), f6] (upd (upd H q (.lst [])) lw (.lst (us.map V.ref))) := fun hx =>
      h1 _ _ ws' met KB1 Ht1 (D.skip hx) D.last_pos ⟨lw, lm, us, _, _, rfl, ew1, eu1, em1, n1, n2⟩ fun p hp => rm p (List.mem_append_left _ hp)
    refine ⟨_, rfl, _, rfl, lm, _, rfl, DGet.t (k := mKey x) em1 ex1, _, rfl, ?_⟩
    by_cases hx : x ∈ met
    · rw [met_in.mpr hx]
      refine iteF (iteF ?_)
      exact skip (.inl hx)
    have hx' : (valV (metD met) (mKey x)).isSome = false := by
      cases q : (valV (metD met) (mKey x)).isSome with
      | false => rfl
      | true => exact absurd (met_in.mp q) hx
    rw [hx']
    refine iteT ?_
    -- is_closed
    refine ⟨_, rfl, A.sa, _, _, rfl, S1.s, rfl, ?_⟩
    refine ⟨_, rfl, tx, _, 0, .int x.1, rfl, rfl, SqT.of ex1, rfl, _, rfl, tx, _, 1, .int x.2, rfl, rfl, SqT.of ex1, rfl, ?_⟩
    refine ⟨A, t, x.1, x.2, rfl, S1, _, rfl, ?_⟩
    by_cases hc : 0 < x.1 &&& x.2 ∨ 0 < x.1 &&& mask t AB.isNo
    · have hb : (decide (0 < x.1 &&& x.2) || decide (0 < x.1 &&& mask t AB.isNo)) = true := by
        rcases hc with h | h
        · rw [decide_eq_true h, Bool.true_or]
        · rw [decide_eq_true h, Bool.or_true]
      rw [hb]
      refine iteF ?_
      exact skip (.inr (AB.closed_valid (mask_is t AB.isNo) hwx.1 hc))
    · have hb : (decide (0 < x.1 &&& x.2) || decide (0 < x.1 &&& mask t AB.isNo)) = false := by
        rw [decide_eq_false fun h => hc (.inl h), decide_eq_false fun h => hc (.inr h)] <;> rfl
      rw [hb]
      refine iteT ?_
      -- met[here] = True
      refine ⟨_, rfl, _, rfl, lm, _, rfl, DPut.t (k := mKey x) em1 ex1 ?_, ?_⟩
      · show (metD met).length < sizeLine
        unfold metD
        rw [List.length_map, sizeLine_eq]
        have : AB.nbMax = 11055000 := rfl
        omega
      rw [met_put hx]
      have kb2 : K3 lw lm H (upd (upd (upd H q (.lst [])) lw (.lst (us.map V.ref))) lm (.dT (metD (met ++ [x])))) := kb1.trans K3.m
      have KB2 := kb.k3 kb2 n1 n2 S0.h
      have S2 := S0.keep KB2
      have ew2 : upd (upd (upd H q (.lst [])) lw (.lst (us.map V.ref))) lm (.dT (metD (met ++ [x]))) lw = some (.lst (us.map V.ref)) := by rw [upd_ne nwm]; exact ew1
      have em2 : upd (upd (upd H q (.lst [])) lw (.lst (us.map V.ref))) lm (.dT (metD (met ++ [x]))) lm = some (.dT (metD (met ++ [x]))) := upd_same
      have ex2 : upd (upd (upd H q (.lst [])) lw (.lst (us.map V.ref))) lm (.dT (metD (met ++ [x]))) tx = some (tupOf x) := kb2 _ _ u2 (ne_of u2 e1 fun z => nomatch z) (ne_of u2 e3 fun z => nomatch z)
      have eu2 : Pts (upd (upd (upd H q (.lst [])) lw (.lst (us.map V.ref))) lm (.dT (metD (met ++ [x])))) us ws' := u1.k3 kb2 e1 e3
      have Ht2 := Ht.k3 kb2 n1 n2 S0.h
      -- pairs_behind
      refine ⟨_, rfl, A.sa, _, _, rfl, S2.s, rfl, ?_⟩
      refine ⟨_, rfl, tx, _, 0, .int x.1, rfl, rfl, SqT.of ex2, rfl, _, rfl, tx, _, 1, .int x.2, rfl, rfl, SqT.of ex2, rfl, ?_⟩
      refine ⟨A, t, x.1, x.2, rfl, S2, TO.c, TO.len, hwx.1, fun pa ch H3 st k3 hp => ?_, fun H3 k3 z1 z2 => ?_⟩
      · refine ⟨_, rfl, rfl, _, rfl, iteF ?_⟩
        obtain ⟨ts, hpa, hts⟩ := hp
        refine ⟨_, rfl, ⟨lw, _, rfl, SqL.of (k3 _ _ ew2)⟩, _, rfl, pa, _, rfl, SqL.of hpa, fun b hb => ?_⟩
        have kb3 : K3 lw lm H (upd H3 b (.lst (ts.map V.ref).reverse)) := kb2.trans (K3.kp (k3.trans (Kp.upd (Same.refl H3) hb)))
        have D' := D.apart TO.c st
        have len' : (ws' ++ ch.reverse).length ≤ AB.nbMax := Nat.le_trans D'.ws_le hnb
        have ll1 : us.length = ws'.length := u1.length
        have ll2 : ts.length = ch.length := Pts.length (H := H3) hts
        have k4 : Kp H3 (upd H3 b (.lst (ts.map V.ref).reverse)) := Kp.upd (Same.refl H3) hb
        refine ⟨lw, b, us.map V.ref, (ts.map V.ref).reverse, rfl, rfl, k4 _ _ (k3 _ _ ew2), upd_same, ?_, ?_⟩
        · rw [List.length_map, List.length_reverse, List.length_map, sizeLine_eq]
          rw [List.length_append, List.length_reverse] at len'
          have : AB.nbMax = 11055000 := rfl
          omega
        have kb5 : K3 lw lm H (upd (upd H3 b (.lst (ts.map V.ref).reverse)) lw (.lst (us.map V.ref ++ (ts.map V.ref).reverse))) := kb3.trans K3.w
        refine h1 _ _ (ws' ++ ch.reverse) (met ++ [x]) (kb.k3 kb5 n1 n2 S0.h) (Ht.k3 kb5 n1 n2 S0.h) D' (AB.apart_less TO.c st) ⟨lw, lm, us ++ ts.reverse, _, _, rfl, ?_, ?_, ?_, n1, n2⟩ fun p hp => ?_
        · rw [upd_same, List.map_append, List.map_reverse]
        · refine (u1.k3 kb5 e1 e3).append (Pts.reverse ?_)
          have z : K3 lw lm H3 (upd (upd H3 b (.lst (ts.map V.ref).reverse)) lw (.lst (us.map V.ref ++ (ts.map V.ref).reverse))) := (K3.kp k4).trans K3.w
          exact Pts.k3 (H := H3) hts z (k3 _ _ ew2) (k3 _ _ em2)
        · rw [upd_ne nwm.symm]; exact k4 _ _ (k3 _ _ em2)
        · rcases List.mem_append.mp hp with q | q
          · exact rm p (List.mem_append_left _ q)
          · exact Nat.le_trans (rem_step TO.c st p (List.mem_reverse.mp q)) (rm x (List.mem_append_right _ (List.mem_singleton.mpr rfl)))
      · refine ⟨_, rfl, rfl, _, rfl, iteT ?_⟩
        have L : AB.Leaf t x.1 x.2 := .of hwx.1 hwx.2 (mask_is t AB.isNo) (mask_is t AB.isImp) hc z1 z2
        have kb3 : K3 lw lm H H3 := kb2.trans (K3.kp k3)
        refine ⟨_, rfl, h2 tx x _ H3 ws' (met ++ [x]) (kb.k3 kb3 n1 n2 S0.h) (Ht.k3 kb3 n1 n2 S0.h) L (rm x (List.mem_append_right _ (List.mem_singleton.mpr rfl))) (k3 _ _ ex2) (D.yield L) D.last_pos ⟨lw, lm, us, _, _, rfl, k3 _ _ ew2, u1.k3 kb3 e1 e3, k3 _ _ em2, n1, n2⟩ fun p hp => rm p (List.mem_append_left _ hp)⟩
end AT
end
section
set_option Elab.async false
set_option linter.all false
set_option maxRecDepth 100000
/-! The search: least. -/
namespace AT
open PySem PySem.Spec PyProof.Rows L2 GL GenW
section
variable {P : Program} {w : World} {K : PySem.W.Frag} {mg : Str → Option Value} {base : Heap} (T : Tx w K mg)
include T
theorem ok_least {n k : Nat} (hk : 8 ≤ k) (FL : FG P w K mg base k (f_Search_least_of_leaf K) ["self", "left", "right"] (spLol K n)) : FG P w K mg base (k + 1) (f_Search_least K) ["self", "left", "right"] (spLeast K (n + 1)) := by
  refine FnG.of T.F_Search_least sc_least len_least (fun cdv A outer s H vs Q hr h => ⟨_,
    sgs_cons (sg_set (i := 3) eg_non sc_least.nd rfl rfl)
    (sgs_cons (sg_forG (i := 4) (X := (cxOf CX0 P w K mg base ["self", "left", "right", "found", "here", "height"] "Search.least" (defScope s_Search_least) (f_Search_least K) cdv A outer s H E0).nox) rfl (hr.mono (show 5 + 3 ≤ k by omega)) PassesOwn.never (eg_gmeth T.F_Search_leaves sc_leaves (hr.mono (show 4 + 1 ≤ k by omega)) (eg_var 0) T.cls_Search (He.meth_ok T.m_Search_leaves) (bd_leaves T) (ag_cons (eg_var 1) (ag_cons (eg_var 2) ag_nil))) sc_least.nd rfl rfl
      (sgs_cons (sg_set (i := 5) (eg_meth (eg_var 0) T.cls_Search (He.meth_ok T.m_Search_least_of_leaf) FL hr (bd_lol T) (ag_cons (eg_ix xg_tup (eg_var 4) eg_int (fun _ _ => rfl)) (ag_cons (eg_ix xg_tup (eg_var 4) eg_int (fun _ _ => rfl)) ag_nil))) sc_least.nd rfl rfl)
      (sgs_cons (sg_if (wg_and (tg_cmp og_notN (eg_var 5) eg_non rfl) (wg_and1 (wg_or (tg_cmp og_isN (eg_var 3) eg_non rfl) (wg_or1 (tg_cmp og_lt (eg_var 5) (eg_var 3) rfl))).t)).t (sgs_one (sg_set (i := 3) (eg_var 5) sc_least.nd rfl rfl)) sgs_nil)
      (sgs_one (sg_if (tg_cmp og_eq (eg_var 3) eg_int rfl) (sgs_one sg_break) sgs_nil))))
      (fun L cdv => lv_env (X := (cxOf CX0 P w K mg base [] "" (defScope s_Search_least) (f_Search_least K) cdv A outer s H E0).nox) L cdv)
      (fun L cdv pn s H => lv_1 L cdv pn s H) (fun L cdv pn s H => lv_t (hr.mono (show 6 ≤ k by omega)) L cdv pn s H) (fun L cdv pn s H => lv_b T (hr.mono (show 6 ≤ k by omega)) L cdv pn s H))
    (sgs_one (sg_ret (eg_var 3)))), ?_⟩)
  obtain ⟨a, t, l, r, rfl, S, Ht, TO, hwl, hwr, hnb, hrem, R⟩ := h
  have ed := S.h
  refine ⟨_, rfl, a.sa, _, _, rfl, S.s, rfl, _, rfl, _, rfl, rfl, ?_⟩
  refine ⟨AB.nb t l r, fun σ σg H' => σ = [some (.ref a.sa), some (.int l), some (.int r), some .non, none, none] ∧ σg = start Nlv [.ref a.sa, .int l, .int r] ∧ H' = H,
    fun m σ σg H' => ∃ ws met ys, AB.Dfs t l r ws met ys ∧ m = AB.sumP t ws ∧ KB a.dh H H' ∧ Hts t a H' ∧ Cons t a l r σ ys ∧ GenS a H l r σg ws met H' ∧ ∀ p ∈ ws, AB.rem t p.1 ≤ n,
    fun m x σ σg H' => ∃ ws met ys tp y, x = .ref tp ∧ H' tp = some (tupOf y) ∧ AB.Leaf t y.1 y.2 ∧ AB.rem t y.1 ≤ n ∧ AB.Dfs t l r ws met (ys ++ [y]) ∧ m = AB.sumP t ws ∧ KB a.dh H H' ∧ Hts t a H' ∧ Cons t a l r σ ys ∧ GenS a H l r σg ws met H' ∧ ∀ p ∈ ws, AB.rem t p.1 ≤ n,
    fun σ H' => ∃ ys met, AB.Dfs t l r [] met ys ∧ KB a.dh H H' ∧ Hts t a H' ∧ Cons t a l r σ ys, ⟨rfl, rfl, rfl⟩, ?_, ?_, ?_, ?_⟩
  · rintro σ σg H' ⟨rfl, rfl, rfl⟩
    refine ⟨_, rfl, _, rfl, len2, fun p hp => ⟨len1, fun lw hlw lm hlm => ⟨_, _, rfl, AB.nb t l r, Nat.le_refl _, [(l, r)], [], [], AB.Dfs.start hwl hwr, by simp [AB.sumP], ?_⟩⟩⟩
    have k1 : Kp H' (upd H' p (tupOf (l, r))) := Kp.upd (Same.refl H') hp
    have nl : H' lw = none := k1.free hlw
    have k2 : Kp H' (upd (upd H' p (tupOf (l, r))) lw (.lst [.ref p])) := Kp.upd k1 nl
    have nm : H' lm = none := k2.free hlm
    have k3 : Kp (upd (upd H' p (tupOf (l, r))) lw (.lst [.ref p])) (upd (upd (upd H' p (tupOf (l, r))) lw (.lst [.ref p])) lm (.dT [])) := Kp.upd (Same.refl _) hlm
    have ew : upd (upd H' p (tupOf (l, r))) lw (.lst [.ref p]) lw = some (.lst [.ref p]) := upd_same
    have ep : upd (upd H' p (tupOf (l, r))) lw (.lst [.ref p]) p = some (tupOf (l, r)) := by
      rw [upd_ne (ne_of_none upd_same hlw)]; exact upd_same
    exact ⟨.of (k2.trans k3) ed, Ht.kp (k2.trans k3), ⟨_, _, _, rfl, .inl ⟨rfl, fun y hy => by cases hy⟩⟩, ⟨lw, lm, [p], none, none, rfl, k3 _ _ ew, .cons (k3 _ _ ep) .nil, upd_same, nl, nm⟩,
      fun q hq => by rw [List.mem_singleton.mp hq]; exact Nat.le_of_lt_succ hrem⟩
  · rintro m σ σg H' ⟨ws, met, ys, D, rfl, kb, Ht', co, g, rm⟩
    exact lv_turn T TO hnb D S kb Ht' g rm (fun σ' H2 ws' met' kb2 Ht2 D2 lt g2 rm2 => ⟨_, lt, ws', met', ys, D2, rfl, kb2, Ht2, co, g2, rm2⟩)
      (fun tp y σ' H2 ws' met' kb2 Ht2 L ry ey D2 lt g2 rm2 => ⟨_, lt, ws', met', ys, tp, y, rfl, ey, L, ry, D2, rfl, kb2, Ht2, co, g2, rm2⟩)
      (fun H2 kb2 Ht2 e => by subst e; exact ⟨ys, met, D, kb2, Ht2, co⟩)
  · rintro m x σ σg H' ⟨ws, met, ys, tp, y, rfl, ey, L, ry, D, rfl, kb, Ht', ⟨f, h5, h6, rfl, hf⟩, g, rm⟩
    have S' := S.keep kb
    have hn : ∀ (f' : V) (H2 : Hp), KB a.dh H' H2 → Hts t a H2 → ((f' = .non ∧ ∀ y' ∈ ys ++ [y], AB.Valid (AB.S t y'.1) (AB.S t y'.2)) ∨ ∃ z : Int, f' = .int z ∧ ∃ y' ∈ ys ++ [y], ∃ tr, AB.FalsP t y' tr) → ∀ h5 h6 : Option V,
        ∃ ws' met' ys', AB.Dfs t l r ws' met' ys' ∧ AB.sumP t ws = AB.sumP t ws' ∧ KB a.dh H H2 ∧ Hts t a H2 ∧ Cons t a l r [some (.ref a.sa), some (.int l), some (.int r), some f', h5, h6] ys' ∧ GenS a H l r σg ws' met' H2 ∧ ∀ p ∈ ws', AB.rem t p.1 ≤ n := fun f' H2 k2 Ht2 hf' h5 h6 =>
      ⟨ws, met, ys ++ [y], D, rfl, kb.trans k2, Ht2, ⟨f', h5, h6, rfl, hf'⟩, g.keep k2 S'.h S.h, rm⟩
    have yin : y ∈ ys ++ [y] := List.mem_append_right _ (List.mem_singleton.mpr rfl)
    refine ⟨_, rfl, a.sa, _, _, rfl, S'.s, rfl, ?_⟩
    refine ⟨_, rfl, tp, _, 0, .int y.1, rfl, rfl, SqT.of ey, rfl, _, rfl, tp, _, 1, .int y.2, rfl, rfl, SqT.of ey, rfl, ?_⟩
    refine ⟨a, t, y.1, y.2, rfl, S', Ht', TO, L, ry, ⟨fun H2 k2 Ht2 hV => ?_, fun z H2 k2 Ht2 hF => ?_⟩⟩
    · -- None
      refine ⟨_, rfl, rfl, _, rfl, iteF (iteF ?_)⟩
      rcases hf with ⟨rfl, hv⟩ | ⟨z0, rfl, y0, hy0, hF0⟩
      · refine ⟨_, rfl, .inr ⟨0, rfl, rfl, _, rfl, iteF ?_⟩⟩
        refine hn .non H2 k2 Ht2 (.inl ⟨rfl, fun y' hy' => ?_⟩) _ _
        rcases List.mem_append.mp hy' with q | q
        · exact hv y' q
        · rw [List.mem_singleton.mp q]; exact hV
      · refine ⟨_, rfl, .inl ⟨z0, 0, rfl, rfl, _, rfl, ite2 (fun hc => ?_) fun hc => ?_⟩⟩
        · exact ⟨_, rfl, R.i z0 H2 (kb.trans k2) Ht2 (let ⟨tr, h⟩ := hF0; ⟨tr, (D.leaf y0 (List.mem_append_left _ hy0)).2 tr h⟩)⟩
        · exact hn (.int z0) H2 k2 Ht2 (.inr ⟨z0, rfl, y0, List.mem_append_left _ hy0, hF0⟩) _ _
    · -- an int
      have last : ∀ z' : Int, (z' = z ∨ f = .int z') → tIfS (tTest (tOp (fun x y H Q => (∃ i j, x = .int i ∧ y = .int j ∧ Q (.bl (decide (i = j))) H) ∨ ∃ j, x = .non ∧ y = .int j ∧ Q (.bl false) H) (tVar 3) (tC (.int 0)))) tBreak tNext
          { nx := fun σ' H' => ∃ ws' met ys, AB.Dfs t l r ws' met ys ∧ AB.sumP t ws = AB.sumP t ws' ∧ KB a.dh H H' ∧ Hts t a H' ∧ Cons t a l r σ' ys ∧ GenS a H l r σg ws' met H' ∧ ∀ p ∈ ws', AB.rem t p.1 ≤ n, rt := Q, bk := fun σ' H' => tRet (tVar 3) { nx := fun _ H' => Q .non H', rt := Q } σ' H' }
          [some (.ref a.sa), some (.int l), some (.int r), some (.int z'), some (.ref tp), some (.int z)] H2 := fun z' _ => by
        refine ⟨_, rfl, .inl ⟨z', 0, rfl, rfl, _, rfl, ite2 (fun hc => ?_) fun hc => ?_⟩⟩
        · exact ⟨_, rfl, R.i z' H2 (kb.trans k2) Ht2 (let ⟨tr, h⟩ := hF; ⟨tr, (D.leaf y yin).2 tr h⟩)⟩
        · exact hn (.int z') H2 k2 Ht2 (.inr ⟨z', rfl, y, yin, hF⟩) _ _
      refine ⟨_, rfl, rfl, _, rfl, iteT ?_⟩
      rcases hf with ⟨rfl, hv⟩ | ⟨z0, rfl, y0, hy0, hF0⟩
      · refine ⟨_, rfl, rfl, _, rfl, iteT (iteT ?_)⟩
        exact ⟨_, rfl, last z (.inl rfl)⟩
      · refine ⟨_, rfl, rfl, _, rfl, iteF ?_⟩
        refine ⟨_, rfl, _, rfl, z, z0, rfl, rfl, _, rfl, ite2 (fun hc => ?_) fun hc => ?_⟩
        · exact ⟨_, rfl, last z (.inl rfl)⟩
        · exact last z0 (.inr rfl)
  · rintro σ H' ⟨ys, met, D, kb, Ht', ⟨f, h5, h6, rfl, hf⟩⟩
    refine ⟨_, rfl, ?_⟩
    rcases hf with ⟨rfl, hv⟩ | ⟨z, rfl, y, hy, tr, hF⟩
    · refine R.n H' kb Ht' fun tr htr => ?_
      obtain ⟨y, hy, hF⟩ := D.done tr htr
      exact hv y hy tr hF
    · exact R.i z H' kb Ht' ⟨tr, (D.leaf y hy).2 tr hF⟩
end
end AT
end
section
set_option Elab.async false
set_option linter.all false
set_option maxRecDepth 100000
/-! Formulas and derivations as objects: their texts, what stands at their addresses. -/
namespace AT
open PySem PySem.Spec PyProof.Rows L2 GL
open AB (Fm At Drv)
/-! ### texts -/
def letC : At → Nat
  | .a => 97
  | .b => 98
  | .c => 99
  | .P => 80
def letS (x : At) : Str := ⟨#[letC x]⟩
theorem letC_inj {x y : At} (h : letC x = letC y) : x = y := by cases x <;> cases y <;> first | rfl | (exact absurd h (by decide))
theorem letS_inj {x y : At} (h : letS x = letS y) : x = y := by
  unfold letS at h
  simp only [Str.mk.injEq] at h
  exact letC_inj (by simpa using congrArg (fun a : Array Nat => a.toList) h)
def txt : Fm → Str
  | .atm x => letS x
  | .no => "no"
  | .imp f g => Str.empty ++ "(" ++ txt f ++ " > " ++ txt g ++ ")"
  | .all f => "all " ++ txt f
def txl : Fm → List Nat
  | .atm x => [letC x]
  | .no => [110, 111]
  | .imp f g => 40 :: (txl f ++ (32 :: 62 :: 32 :: (txl g ++ [41])))
  | .all f => 97 :: 108 :: 108 :: 32 :: txl f
theorem cps_append (a b : Str) : (a ++ b).cps = a.cps ++ b.cps := by
  show (Str.append a b).cps = _
  first
    | rfl
    | (cases a; cases b; simp [Str.append])
theorem txt_txl : ∀ F : Fm, (txt F).cps.toList = txl F
  | .atm x => rfl
  | .no => by
    show ((Str.ofString "no").cps).toList = [110, 111]
    decide +kernel
  | .imp f g => by
    simp only [txt, cps_append, Array.toList_append, txt_txl f, txt_txl g, txl]
    have e1 : (Str.ofString "(").cps.toList = [40] := by decide +kernel
    have e2 : (Str.ofString " > ").cps.toList = [32, 62, 32] := by decide +kernel
    have e3 : (Str.ofString ")").cps.toList = [41] := by decide +kernel
    have e4 : Str.empty.cps.toList = [] := by decide +kernel
    rw [e1, e2, e3, e4]
    simp
  | .all f => by
    simp only [txt, cps_append, Array.toList_append, txt_txl f, txl]
    have e1 : (Str.ofString "all ").cps.toList = [97, 108, 108, 32] := by decide +kernel
    rw [e1] <;> rfl
/-- what can stand behind a formula -/
def Tail : List Nat → Prop
  | [] => True
  | c :: _ => c = 32 ∨ c = 41
theorem tail32 {l : List Nat} : Tail (32 :: l) := Or.inl rfl
theorem tail41 {l : List Nat} : Tail (41 :: l) := Or.inr rfl
theorem txl_inj : ∀ (F G : Fm) (s s' : List Nat), Tail s → Tail s' → txl F ++ s = txl G ++ s' → F = G ∧ s = s'
  | .atm x, G, s, s', hs, hs', h => by
    cases G with
    | atm y =>
      simp only [txl, List.cons_append, List.nil_append, List.cons.injEq] at h
      exact ⟨by rw [letC_inj h.1], h.2⟩
    | no =>
      simp only [txl, List.cons_append, List.nil_append, List.cons.injEq] at h
      have := h.1
      cases x <;> simp [letC] at this
    | imp f g =>
      simp only [txl, List.cons_append, List.nil_append, List.cons.injEq] at h
      have := h.1
      cases x <;> simp [letC] at this
    | all f =>
      simp only [txl, List.cons_append, List.nil_append, List.cons.injEq] at h
      rw [h.2] at hs
      rcases hs with q | q <;> cases q
  | .no, G, s, s', hs, hs', h => by
    cases G with
    | atm y =>
      simp only [txl, List.cons_append, List.nil_append, List.cons.injEq] at h
      have := h.1
      cases y <;> simp [letC] at this
    | no => simp only [txl, List.cons_append, List.nil_append, List.cons.injEq] at h; exact ⟨rfl, h.2.2⟩
    | imp f g => simp [txl] at h
    | all f => simp [txl] at h
  | .imp f g, G, s, s', hs, hs', h => by
    cases G with
    | atm y =>
      simp only [txl, List.cons_append, List.nil_append, List.cons.injEq] at h
      have := h.1
      cases y <;> simp [letC] at this
    | no => simp [txl] at h
    | imp f' g' =>
      simp only [txl, List.cons_append, List.append_assoc, List.cons.injEq, true_and, List.nil_append] at h
      obtain ⟨rfl, h2⟩ := txl_inj f f' _ _ tail32 tail32 h
      simp only [List.cons.injEq, true_and] at h2
      obtain ⟨rfl, h3⟩ := txl_inj g g' _ _ tail41 tail41 h2
      simp only [List.cons.injEq, true_and] at h3
      exact ⟨rfl, h3⟩
    | all f => simp [txl] at h
  | .all f, G, s, s', hs, hs', h => by
    cases G with
    | atm y =>
      simp only [txl, List.cons_append, List.nil_append, List.cons.injEq] at h
      rw [← h.2] at hs'
      rcases hs' with q | q <;> cases q
    | no => simp [txl] at h
    | imp f g => simp [txl] at h
    | all f' =>
      simp only [txl, List.cons_append, List.cons.injEq, true_and] at h
      obtain ⟨rfl, h2⟩ := txl_inj f f' _ _ hs hs' h
      exact ⟨rfl, h2⟩
theorem txt_inj {F G : Fm} (h : txt F = txt G) : F = G := by
  have e : txl F = txl G := by rw [← txt_txl, ← txt_txl, h]
  exact (txl_inj F G [] [] True.intro True.intro (by rw [e])).1
theorem txl_len : ∀ F : Fm, (txl F).length + 4 ≤ 6 * AB.size F
  | .atm _ => by simp [txl, AB.size]
  | .no => by simp [txl, AB.size]
  | .imp f g => by
    have a := txl_len f
    have b := txl_len g
    simp only [txl, AB.size, List.length_cons, List.length_append, List.length_nil]; omega
  | .all f => by
    have a := txl_len f
    simp only [txl, AB.size, List.length_cons]; omega
theorem txt_len (F : Fm) : (txt F).length + 4 ≤ 6 * AB.size F := by
  have e : (txt F).length = (txl F).length := by
    rw [← txt_txl, Array.length_toList]; rfl
  rw [e]; exact txl_len F
/-! ### objects -/
def kindS : Fm → Str
  | .atm _ => "atom"
  | .no => "no"
  | .imp _ _ => "if"
  | .all _ => "all"
/-- a few letters, each once -/
structure LetOk (x : Str) : Prop where
  nd : x.cps.toList.Nodup
  mem : ∀ c ∈ x.cps.toList, c ∈ [97, 98, 99, 80]
/-- a tuple of formulas' objects, by their texts: unlike parts of F with all ahead -/
structure AlsOk (K : PySem.W.Frag) (H : Hp) (al : Addr) (F : Fm) : Prop where
  ex : ∃ (bs : List Addr) (Gs : List Fm), H al = some (.tup (bs.map V.ref)) ∧ Paired (fun b G => ∃ dx fs, H b = some (.ins (He.ga K "Formula") dx fs) ∧ fs.lookup ("spelled" : Str) = some (.str (txt G))) bs Gs ∧ Gs.Nodup ∧ ∀ G ∈ Gs, G ∈ AB.alls F
abbrev foFs (k : Str) (pt : Addr) (m d : Int) (x y s : Str) (al : Addr) : List (Str × V) := [("kind", .str k), ("parts", .ref pt), ("many", .int m), ("deepest", .int d), ("atoms", .str x), ("bare", .str y), ("spelled", .str s), ("alls_known", .ref al)]
/-- a formula's own object -/
structure Fo (K : PySem.W.Frag) (H : Hp) (a : Addr) (F : Fm) (parts : List V) : Prop where
  ex : ∃ (dx pt al : Addr) (m d : Int) (x y : Str), H a = some (.ins (He.ga K "Formula") dx (foFs (kindS F) pt m d x y (txt F) al)) ∧ H pt = some (.tup parts) ∧ LetOk x ∧ LetOk y ∧ AlsOk K H al F
/-- a formula's object, its parts' objects -/
def FoAt (K : PySem.W.Frag) (H : Hp) : Fm → Addr → Prop
  | .atm x, a => Fo K H a (.atm x) [.str (letS x)]
  | .no, a => Fo K H a .no []
  | .imp f g, a => ∃ b c, Fo K H a (.imp f g) [.ref b, .ref c] ∧ FoAt K H f b ∧ FoAt K H g c
  | .all f, a => ∃ b, Fo K H a (.all f) [.ref b] ∧ FoAt K H f b
/-- tuples and instances are kept -/
structure KF (H H' : Hp) : Prop where
  t : ∀ b xs, H b = some (.tup xs) → H' b = some (.tup xs)
  i : ∀ b C dx fs, H b = some (.ins C dx fs) → H' b = some (.ins C dx fs)
theorem KF.of {H H' : Hp} (k : Kp H H') : KF H H' := ⟨fun b xs e => k b _ e, fun b C dx fs e => k b _ e⟩
theorem KF.refl (H : Hp) : KF H H := .of (Same.refl H)
theorem KF.trans {H H1 H2 : Hp} (a : KF H H1) (b : KF H1 H2) : KF H H2 := ⟨fun c xs e => b.t c xs (a.t c xs e), fun c C dx fs e => b.i c C dx fs (a.i c C dx fs e)⟩
theorem KF.kb {dh : Addr} {H H' : Hp} (hd : ∃ kvs, H dh = some (.dT kvs)) (k : KB dh H H') : KF H H' := by
  obtain ⟨kvs, ed⟩ := hd
  exact ⟨fun b xs e => k.k b _ e (ne_of e ed fun z => nomatch z), fun b C dx fs e => k.k b _ e (ne_of e ed fun z => nomatch z)⟩
section
variable {K : PySem.W.Frag} {H H' : Hp}
theorem AlsOk.kf {al : Addr} {F : Fm} (h : AlsOk K H al F) (k : KF H H') : AlsOk K H' al F := by
  obtain ⟨bs, Gs, e, p, q⟩ := h.ex
  exact ⟨bs, Gs, k.t _ _ e, Paired.mapP p fun b G ⟨dx, fs, e1, e2⟩ => ⟨dx, fs, k.i _ _ _ _ e1, e2⟩, q⟩
theorem Fo.kf {a : Addr} {F : Fm} {ps : List V} (h : Fo K H a F ps) (k : KF H H') : Fo K H' a F ps := by
  obtain ⟨dx, pt, al, m, d, x, y, e1, e2, e3, e4, e5⟩ := h.ex
  exact ⟨dx, pt, al, m, d, x, y, k.i _ _ _ _ e1, k.t _ _ e2, e3, e4, e5.kf k⟩
theorem FoAt.kf (k : KF H H') : ∀ {F : Fm} {a : Addr}, FoAt K H F a → FoAt K H' F a
  | .atm _, _, h => Fo.kf (show Fo K H _ _ _ from h) k
  | .no, _, h => Fo.kf (show Fo K H _ _ _ from h) k
  | .imp _ _, _, ⟨b, c, h, h1, h2⟩ => ⟨b, c, h.kf k, FoAt.kf k h1, FoAt.kf k h2⟩
  | .all _, _, ⟨b, h, h1⟩ => ⟨b, h.kf k, FoAt.kf k h1⟩
theorem FoAt.fo {F : Fm} {a : Addr} (h : FoAt K H F a) : ∃ ps, Fo K H a F ps := by
  cases F with
  | atm x => exact ⟨_, h⟩
  | no => exact ⟨_, h⟩
  | imp f g => obtain ⟨b, c, h, _⟩ := h; exact ⟨_, h⟩
  | all f => obtain ⟨b, h, _⟩ := h; exact ⟨_, h⟩
end
/-- a derivation as nested tuples -/
def DvAt (K : PySem.W.Frag) (H : Hp) : Drv → Addr → Prop
  | .same F, p => ∃ a, H p = some (.tup [.str "same", .ref a]) ∧ FoAt K H F a
  | .no, p => H p = some (.tup [.str "no"])
  | .left F d e, p => ∃ a b c, H p = some (.tup [.str "left", .ref a, .ref b, .ref c]) ∧ FoAt K H F a ∧ DvAt K H d b ∧ DvAt K H e c
  | .right F d, p => ∃ a b, H p = some (.tup [.str "right", .ref a, .ref b]) ∧ FoAt K H F a ∧ DvAt K H d b
  | .beneath F d, p => ∃ a b, H p = some (.tup [.str "beneath", .ref a, .ref b]) ∧ FoAt K H F a ∧ DvAt K H d b
theorem DvAt.kf {K : PySem.W.Frag} {H H' : Hp} (k : KF H H') : ∀ {d : Drv} {p : Addr}, DvAt K H d p → DvAt K H' d p
  | .same _, _, ⟨a, e, f⟩ => ⟨a, k.t _ _ e, f.kf k⟩
  | .no, _, e => k.t _ _ (show H _ = _ from e)
  | .left _ _ _, _, ⟨a, b, c, e, f, g, h⟩ => ⟨a, b, c, k.t _ _ e, f.kf k, DvAt.kf k g, DvAt.kf k h⟩
  | .right _ _, _, ⟨a, b, e, f, g⟩ => ⟨a, b, k.t _ _ e, f.kf k, DvAt.kf k g⟩
  | .beneath _ _, _, ⟨a, b, e, f, g⟩ => ⟨a, b, k.t _ _ e, f.kf k, DvAt.kf k g⟩
end AT
end
section
set_option Elab.async false
set_option linter.all false
set_option maxRecDepth 100000
/-! Sets of texts: set(s) of a text, sorted(..) of it. -/
namespace GX
open PySem PySem.Spec PyProof.Rows L2
/-- an entry's text -/
def txOf (e : Int × Value) : Str := match e.2 with
  | .str k _ => k
  | _ => Str.empty
def TxE (w : World) (e : Int × Value) : Prop := ∃ k u, e.2 = .str k u ∧ e.1 = hashStr w k
/-- the set at a holds the texts l, each once -/
structure TxR (w : World) (h : Heap) (a : Addr) (l : List Str) : Prop where
  ex : ∃ (o : Obj) (es : Array (Int × Value)) (ep : Nat) (t : SetTable), h.get? a = some o ∧ o.ExactSet ∧ o.data = .set es ep t ∧ (∀ e ∈ es.toList, TxE w e) ∧ (es.toList.map txOf).Perm l ∧ l.Nodup ∧ es.size < scanBound ∧ t.fits es.size = true ∧
    Ris t.place.toList ∧ (w.params.followText "set-order" = true ∨ t.led = true)
section
variable {P : Program} {w : World} {A : Around} {E : Value → Shared → Prop} {s : Shared} {h h' : Heap} {a : Addr} {l : List Str}
theorem TxR.at (R : TxR w h a l) (k : ∀ o, h.get? a = some o → h'.get? a = some o) : TxR w h' a l := by
  obtain ⟨o, es, ep, t, ho, r⟩ := R.ex
  exact ⟨o, es, ep, t, k o ho, r⟩
theorem TxR.size {o : Obj} {es : Array (Int × Value)} (p : (es.toList.map txOf).Perm l) : es.size = l.length := by
  have q := p.length_eq
  rw [List.length_map, Array.length_toList] at q
  exact q
theorem tx_is {e : Int × Value} (g : TxE w e) (k : Str) : (strKind P w).is k e.2 = true ↔ txOf e = k := by
  obtain ⟨j, u, e1, _⟩ := g
  have ej : txOf e = j := by unfold txOf; rw [e1]
  have hj : (strKind P w).is j (.str j u) = true := PySem.strKind_is P w j u
  rw [ej, e1]
  constructor
  · intro z
    exact ((strKind P w).inj (.str j u) k j z hj).symm
  · rintro rfl
    exact hj
theorem tx_elems {es : List (Int × Value)} (g : ∀ e ∈ es, TxE w e) : ElemsOf (strKind P w) es := fun e he => by
  obtain ⟨j, u, e1, e2⟩ := g e he
  have hj : (strKind P w).is j (.str j u) = true := PySem.strKind_is P w j u
  exact ⟨⟨j, by rw [e1]; exact hj, e2⟩, by rw [e1] <;> rfl⟩
theorem tx_fresh {w : World} {h : Heap} (ho : h.get? a = some { cls := .type "set", dict := none, data := .set #[] 0 (.fresh 0 0 (!w.params.followText "set-order")) }) : TxR w h a [] :=
  ⟨_, #[], 0, _, ho, ⟨rfl, rfl, rfl⟩, rfl, (fun e he => by simp at he), .refl _, List.nodup_nil, (by decide), (by rfl), List.Pairwise.nil, by
    show _ ∨ (!w.params.followText "set-order") = true
    cases w.params.followText "set-order" with
    | false => exact .inr rfl
    | true => exact .inl rfl⟩
/-- the end of an add: the table is stored, laid anew where it is too full -/
theorem tx_tail {g : Bool → Sem Unit} (hg : ∀ (b : Bool) (s₁ : Shared) (Q' : Unit → Shared → Prop), Q' () s₁ → wpAny (model P w) A (g b) Q' E s₁)
    {o : Obj} {es es1 : Array (Int × Value)} {ep : Nat} {t t2 : SetTable} (ho : s.heap.get? a = some o) (hex : o.ExactSet) (hd : o.data = .set es ep t)
    (g1 : ∀ e ∈ es1.toList, TxE w e) (p1 : (es1.toList.map txOf).Perm l) (nd : l.Nodup) (hb1 : es1.size < scanBound) (hf2 : t2.fits es1.size = true) (hr : Ris t2.place.toList) (hl : w.params.followText "set-order" = true ∨ t2.led = true) {wasDummy : Bool} {R : Option Bool → Shared → Prop}
    (hR : ∀ h', Heap.SameBut a s.heap h' → TxR w h' a l → R (some true) { s with heap := h' }) :
    wpAny (model P w) A (storeSet a es1 t2 >>= fun _ => if (!wasDummy && t2.tooFull) = true then (g (relayAll t2 es1 (SetTable.grown es1.size)).2.2 >>= fun _ => storeSet a (relayAll t2 es1 (SetTable.grown es1.size)).1 (relayAll t2 es1 (SetTable.grown es1.size)).2.1 >>= fun _ => pure (some true)) else pure (some true)) R E s := by
  have st1 := store_at (es' := es1) (t' := t2) ho hd
  have sb1 := Heap.SameBut.update s.heap a (Obj.putSet es1 t2)
  refine wpAny_bind (wpAny_storeSet_of ho hd ?_ (fits_of_scanBound hb1))
  by_cases c : (!wasDummy && t2.tooFull) = true
  · rw [if_pos c]
    have pm := relayAll_perm t2 es1 (SetTable.grown es1.size)
    have f3 := relayAll_fits t2 es1 (SetTable.grown es1.size)
    have r3 := relayAll_ris t2 es1 (SetTable.grown es1.size)
    have l3 := relayAll_led t2 es1 (SetTable.grown es1.size)
    have hz : (relayAll t2 es1 (SetTable.grown es1.size)).1.size = es1.size := by rw [← Array.length_toList, pm.length_eq, Array.length_toList]
    have hb2 : (relayAll t2 es1 (SetTable.grown es1.size)).1.size < scanBound := by rw [hz]; exact hb1
    refine wpAny_bind (hg _ _ _ (wpAny_bind (wpAny_storeSet_of st1 rfl ?_ (fits_of_scanBound hb2))))
    have st2 := store_at (es' := (relayAll t2 es1 (SetTable.grown es1.size)).1) (t' := (relayAll t2 es1 (SetTable.grown es1.size)).2.1) st1 rfl
    exact wpAny_pure (hR _ (sb1.trans (Heap.SameBut.update _ a _)) ⟨_, _, _, _, st2, hex, rfl, fun e he => g1 e (pm.mem_iff.mp he), (pm.map txOf).trans p1, nd, hb2, f3, r3, hl.imp id fun z => by rw [l3]; exact z⟩)
  · rw [if_neg c]
    exact wpAny_pure (hR _ sb1 ⟨_, _, _, _, st1, hex, rfl, g1, p1, nd, hb1, hf2, hr, hl⟩)
/-- a text more, or the same -/
theorem tx_add {k : Str} {u : Tok} {Q : Bool → Shared → Prop} (R : TxR w s.heap a l) (room : l.length + 1 < scanBound)
    (hQ : ∀ b h', Heap.SameBut a s.heap h' → TxR w h' a (if k ∈ l then l else k :: l) → Q b { s with heap := h' }) :
    wpAny (model P w) A (setAddHashed a (.str k u) (hashStr w k)) Q E s := by
  obtain ⟨o, es, ep, t, ho, hex, hd, g, pl, nd, hb, hf, hr, hl⟩ := R.ex
  have hkey : (strKind P w).is k (.str k u) = true := PySem.strKind_is P w k u
  have hel : ElemsOf (strKind P w) es.toList := tx_elems g
  have hsz : es.size = l.length := TxR.size (o := o) pl
  unfold setAddHashed setAddHashedIn
  refine wpAny_holding (wpAny_bind (wpAny_setState_of ho hd hf ?_))
  dsimp only
  rw [byScan_of rfl hb hel]
  simp only [↓reduceIte]
  unfold setAddByScan
  refine wpAny_bind (wpAny_bind (wpAny_rule (wpAny_bind (wpAny_setScan_of (knd := strKind P w) (k := k) hkey ho hd hf hel ?_))))
  cases hfi : List.findIdx? (fun e => (strKind P w).is k e.2) es.toList with
  | some j =>
    dsimp only
    obtain ⟨hj, pj, _⟩ := List.findIdx?_eq_some_iff_getElem.mp hfi
    have hin : k ∈ l := pl.mem_iff.mp (List.mem_map.mpr ⟨es.toList[j], List.getElem_mem hj, (tx_is (P := P) (g _ (List.getElem_mem hj)) k).mp pj⟩)
    refine wpAny_pure (wpAny_pure (hQ _ s.heap (Heap.SameBut.refl a s.heap) ?_))
    rw [if_pos hin]; exact R
  | none =>
    dsimp only
    have hnl : k ∉ l := fun z => by
      obtain ⟨e, he, q⟩ := List.mem_map.mp (pl.mem_iff.mpr z)
      have c := List.findIdx?_eq_none_iff.mp hfi e he
      rw [(tx_is (P := P) (g e he) k).mpr q] at c
      cases c
    rw [if_neg hnl] at hQ
    have gw : ∀ (b : Bool) {s₁ : Shared} {Q' : Unit → Shared → Prop}, Q' () s₁ → wpAny (model P w) A (match b with | true => rule "set.scan.the-table-gave-way" | false => pure ()) Q' E s₁ :=
      fun b s₁ Q' q => by cases b <;> first | exact wpAny_pure q | exact wpAny_rule q
    have pm := layNew_perm t es (hashStr w k) (.str k u)
    have f1 := layNew_fits t es (hashStr w k) (.str k u)
    have r1 := layNew_ris t es (hashStr w k) (.str k u) hr
    have l1 := layNew_led t es (hashStr w k) (.str k u)
    generalize layNew t es (hashStr w k) (.str k u) = Z at pm f1 r1 l1 ⊢
    obtain ⟨es1, t1, wd, gave⟩ := Z
    dsimp only at pm f1 r1 l1 ⊢
    rw [Array.toList_push] at pm
    have pc : es1.toList.Perm ((hashStr w k, Value.str k u) :: es.toList) := pm.trans (List.perm_append_singleton _ _)
    have g1 : ∀ e ∈ es1.toList, TxE w e := fun e he => by
      rcases List.mem_cons.mp (pc.mem_iff.mp he) with z | z
      · rw [z]; exact ⟨k, u, rfl, rfl⟩
      · exact g e z
    have p1 : (es1.toList.map txOf).Perm (k :: l) := (pc.map txOf).trans (List.Perm.cons k pl)
    have nd1 : (k :: l).Nodup := List.nodup_cons.mpr ⟨hnl, nd⟩
    have z1 : es1.size = l.length + 1 := TxR.size (o := o) (l := k :: l) p1
    have hb1 : es1.size < scanBound := by rw [z1]; exact room
    have led : w.params.followText "set-order" = true ∨ t1.led = true := hl.imp id fun z => by rw [l1]; exact z
    refine wpAny_bind (gw _ ?_)
    by_cases hpl : t1.plain = true
    · rw [if_pos hpl]
      refine wpAny_bind ?_
      rw [hashByValue_scannable 8 (x := Value.str k u) rfl]
      refine wpAny_pure (tx_tail ?_ ho hex hd g1 p1 nd1 hb1 ?_ ?_ ?_ fun h' sb r => ?_)
      · intro b s₁ Q' q
        cases b <;> first | exact wpAny_pure q | exact wpAny_rule q
      · first | exact f1 | exact SetTable.fits_plain_off f1 | (split <;> first | exact f1 | exact SetTable.fits_plain_off f1)
      · first | exact r1 | (split <;> exact r1)
      · first | exact led | (split <;> exact led)
      · dsimp only
        exact wpAny_pure (hQ _ h' sb r)
    · rw [if_neg hpl]
      refine wpAny_bind (wpAny_pure ?_)
      simp only [↓reduceIte]
      refine tx_tail ?_ ho hex hd g1 p1 nd1 hb1 f1 r1 led fun h' sb r => ?_
      · intro b s₁ Q' q
        cases b <;> first | exact wpAny_pure q | exact wpAny_rule q
      · dsimp only
        exact wpAny_pure (hQ _ h' sb r)
end
end GX
end
section
set_option Elab.async false
set_option linter.all false
set_option maxRecDepth 100000
/-! Sets of texts: set(s) of a text, sorted(..) of it. -/
namespace GX
open PySem PySem.Spec PyProof.Rows L2
/-- the signs of a text, each once, as texts -/
def signs : List Nat → List Str → List Str
  | [], l => l
  | c :: r, l => signs r (if (⟨#[c]⟩ : Str) ∈ l then l else ⟨#[c]⟩ :: l)
theorem signs_len : ∀ (cs : List Nat) (l : List Str), (signs cs l).length ≤ l.length + cs.length
  | [], l => Nat.le_refl _
  | c :: r, l => by
    have q := signs_len r (if (⟨#[c]⟩ : Str) ∈ l then l else ⟨#[c]⟩ :: l)
    unfold signs
    split at q <;> simp only [List.length_cons] at q ⊢ <;> split <;> (first | (rename_i h1 h2; first | exact absurd h1 h2 | exact absurd h2 h1) | omega)
theorem signs_mem : ∀ (cs : List Nat) (l : List Str) (x : Str), x ∈ signs cs l → x ∈ l ∨ ∃ c ∈ cs, x = ⟨#[c]⟩
  | [], l, x, h => .inl h
  | c :: r, l, x, h => by
    rcases signs_mem r _ x h with q | ⟨d, hd, e⟩
    · split at q
      · exact .inl q
      · rcases List.mem_cons.mp q with q | q
        · exact .inr ⟨c, List.mem_cons_self, q⟩
        · exact .inl q
    · exact .inr ⟨d, List.mem_cons_of_mem _ hd, e⟩
section
variable {P : Program} {w : World} {A : Around} {E : Value → Shared → Prop} {s : Shared}
theorem drop_at {x : Str} {i c : Nat} (h : x.cps[i]? = some c) : x.cps.toList.drop i = c :: x.cps.toList.drop (i + 1) := by
  have hi : i < x.cps.toList.length := by
    rw [Array.length_toList]; exact (Array.getElem?_eq_some_iff.mp h).1
  rw [List.drop_eq_getElem_cons hi]
  congr 1
  have q : x.cps.toList[i]? = some c := by rw [Array.getElem?_toList]; exact h
  rw [List.getElem?_eq_getElem hi] at q
  exact Option.some.inj q
/-- the loop of set.update over a text's signs -/
theorem tx_loop {x : Str} {I S : Addr} {St : Nat → Heap → Prop} {R : Result → Shared → Prop} (W : Walks P w A.in1 I [I] [I] x.cps.size (SignAt x) St) (hSI : S ≠ I) :
    ∀ (k i : Nat) (s : Shared) (l : List Str), x.cps.size - i = k → i ≤ x.cps.size → St i s.heap → TxR w s.heap S l → l.length + k < scanBound →
      (∀ h' tk, TxR w h' S (signs (x.cps.toList.drop i) l) → (∀ b o, b ≠ S → b ≠ I → s.heap.get? b = some o → h'.get? b = some o) → R (.ok (.ret .none)) { s with heap := h', toks := tk }) →
      codeAny (model P w) A (.builtin "set.update.loop" ⟨[.ref S, .ref I], []⟩) R s := by
  intro k
  induction k with
  | zero =>
    intro i s l hk hi st r _ hR
    have e : i = x.cps.size := by omega
    subst e
    refine codeAny_builtin F.entry_set_update_loop ?_
    rw [Around.under_plainId F.plain_set_update_loop _]
    show wpAny _ A.in1 (pyNext (.ref I) >>= _) _ _ s
    refine wpAny_bind (W.done s _ _ st fun h' tk hm => ?_)
    show wpAny _ A.in1 (ret Value.none) _ _ _
    have hd : x.cps.toList.drop x.cps.size = [] := by
      rw [← Array.length_toList]; exact List.drop_length
    rw [hd] at hR
    exact wpAny_pure (hR h' tk (r.at fun o e => hm S o (fun z => hSI (List.mem_singleton.mp z)) e) fun b o _ hb e => hm b o (fun z => hb (List.mem_singleton.mp z)) e)
  | succ k ih =>
    intro i s l hk hi st r hz hR
    have hlt : i < x.cps.size := by omega
    refine codeAny_builtin F.entry_set_update_loop ?_
    rw [Around.under_plainId F.plain_set_update_loop _]
    show wpAny _ A.in1 (pyNext (.ref I) >>= _) _ _ s
    refine wpAny_bind (W.item i s _ _ hlt st fun v h1 tk hP st1 hm => ?_)
    obtain ⟨c, u, hc, rfl⟩ := hP
    have r1 : TxR w h1 S l := r.at fun o e => hm S o (fun z => hSI (List.mem_singleton.mp z)) e
    show wpAny _ A.in1 (holding [Value.str ⟨#[c]⟩ u] (setAdd S (.str ⟨#[c]⟩ u)) >>= _) _ _ _
    refine wpAny_bind (wpAny_holding ?_)
    unfold setAdd
    refine wpAny_holding (wpAny_bind ((PySem.strKind P w).pyHash (k := ⟨#[c]⟩) (PySem.strKind_is P w _ u) ?_))
    refine tx_add (P := P) (w := w) (l := l) (s := { s with heap := h1, toks := tk + 1 }) r1 (by omega) fun b h2 sb r2 => ?_
    refine wpAny_pure ⟨plainId_quiet F.plain_set_update_loop _, ih (i + 1) _ _ (by omega) hlt (W.frame _ _ _ st1 fun b hb o e => (sb.2 b (fun z => hSI (by rw [← z]; exact List.mem_singleton.mp hb))).trans e) r2 ?_ fun h3 tk3 r3 k3 => ?_⟩
    · split
      · omega
      · rw [List.length_cons]; omega
    · rw [drop_at hc] at hR
      exact hR h3 tk3 r3 fun b o hb hi e => k3 b o hb hi ((sb.2 b hb).trans (hm b o (fun z => hi (List.mem_singleton.mp z)) e))
abbrev newSet (w : World) : Obj := { cls := .type "set", dict := none, data := .set #[] 0 (.fresh 0 0 (!w.params.followText "set-order")) }
set_option maxHeartbeats 3200000 in
/-- set(s), s a text -/
theorem call_setTx {x : Str} {u : Tok} {Q : Value → Shared → Prop} (hh : A.handled = none) (hx : x.cps.size + 1 < scanBound)
    (h : ∀ (h' : Heap) (tk : Nat), TxR w h' s.heap.objs.size (signs x.cps.toList []) → (∀ b o, s.heap.get? b = some o → h'.get? b = some o) → Q (.ref s.heap.objs.size) { s with heap := h', toks := tk }) :
    wpAny (model P w) A (call (.type "set") [.str x u]) Q E s := by
  obtain ⟨c, tl, hmro⟩ := F.called_set.mro
  have hmade := F.called_set.made
  have hsub := F.called_set.sub
  refine wpAny_call (codeAny_of_tree ?_)
  show wpAny _ _ (callAny (.type "set") _) _ _ _
  refine wpAny_pure ⟨Code.quiet_builtin _ (by decide +kernel), codeAny_builtin F.entry_type_call ?_⟩
  rw [Around.under_plain (weight_type_call_type "set" [.str x u] []) rfl]
  have h1 := F.called_set.notType
  have h2 := F.called_set.canCreate
  have hct := F.typeCall_set_1 (.str x u)
  repeat (any_goals (first | assumption | wp_step))
  refine codeAny_mono (code_set_led1 (.str x u) (E := E) (Q₁ := fun obj s₁ => obj = .ref s.heap.objs.size ∧ s₁ = { s with heap := s.heap.push (newSet w) }) ⟨rfl, rfl⟩) fun r s₁ hr => ?_
  cases r with
  | error e => exact hr
  | ok fl =>
    cases fl with
    | ret obj =>
      obtain ⟨rfl, rfl⟩ := hr
      have hS : (s.heap.push (newSet w)).get? s.heap.objs.size = some (newSet w) := Heap.get?_push_size _ rfl
      have hT : Shared.TypeIs { s with heap := s.heap.push (newSet w) } (.ref s.heap.objs.size) "set" := ⟨_, hS, rfl⟩
      have hli := F.called_set.init.lookup
      have hbi := F.called_set.init.bind (.ref s.heap.objs.size)
      repeat (any_goals (first | assumption | wp_step))
      refine codeAny_mono (codeAny_call_builtin (R := wants (fun r s₂ => r = .none ∧ ∃ h' tk, s₂ = { s with heap := h', toks := tk } ∧ TxR w h' s.heap.objs.size (signs x.cps.toList []) ∧ (∀ b o, s.heap.get? b = some o → h'.get? b = some o)) E) F.called_set.init.plain F.entry_set_init (check_set_init_1 hT ?_)) fun r₂ s₂ hr₂ => ?_
      · have hs1 := F.sub_str_set
        have hs2 := F.sub_str_frozenset
        have hne : (Value.type "str" == Value.type "dict") = false := by decide
        unfold Builtin.«set.__init__» noKeywords Builtin.Frozenset.updateFrom
        generalize hPI : pyIter = PI
        wp_walk
        subst hPI
        have hz1 : (s.heap.push (newSet w)).objs.size = s.heap.objs.size + 1 := Heap.size_push ..
        refine wpAny_pyIter_str fun o St W st => ?_
        refine wpAny_bind (wpAny_runValue ?_)
        refine tx_loop (x := x) (I := (s.heap.push (newSet w)).objs.size) (S := s.heap.objs.size) (W _ (by simp [hh])) (by rw [hz1]; exact Nat.ne_of_lt (Nat.lt_succ_self _)) x.cps.size 0 _ [] (by omega) (Nat.zero_le _) st
          (tx_fresh (w := w) (Heap.get?_push_of_some _ hS)) (by rw [List.length_nil]; omega) fun h' tk r k => ?_
        show wpAny _ _ _ _ _ _
        refine wpAny_pure ?_
        show wpAny _ _ (ret Value.none) _ _ _
        rw [List.drop_zero] at r
        refine wpAny_pure ⟨rfl, h', tk, rfl, r, fun b ob e => ?_⟩
        have hb := Heap.lt_size e
        exact k b ob (Nat.ne_of_lt hb) (by rw [hz1]; exact Nat.ne_of_lt (Nat.lt_succ_of_lt hb)) (Heap.get?_push_of_some _ (Heap.get?_push_of_some _ e))
      · cases r₂ with
        | error e => exact hr₂
        | ok fl₂ =>
          cases fl₂ with
          | ret r =>
            obtain ⟨rfl, h', tk, rfl, hS', hk'⟩ := hr₂
            repeat (any_goals (first | assumption | wp_step))
            exact h _ _ hS' hk'
          | _ => exact hr₂.elim
    | _ => exact hr.elim
theorem strs_of : ∀ (vs : List Value), (∀ v ∈ vs, ∃ k u, v = Value.str k u) → StrsAre vs (vs.map fun v => txOf (0, v))
  | [], _ => .nil
  | v :: vs, h => by
    obtain ⟨k, u, rfl⟩ := h v List.mem_cons_self
    exact .cons k u (strs_of vs fun x hx => h x (List.mem_cons_of_mem _ hx))
/-- sorted(..) of a set of texts -/
theorem sorted_setTx {a : Addr} {l : List Str} {Q : Value → Shared → Prop} (R : TxR w s.heap a l) (hh : A.handled = none) (h64 : l.length < 64)
    (hQ : ∀ s' p (out : Array Value) (c : Nat) (ys : List Str), (∀ b o, s.heap.get? b = some o → s'.heap.get? b = some o) → s'.gens = s.gens → s'.os = s.os → s.heap.objs.size ≤ p → s'.heap.get? p = some (seqObj "list" out c) →
      StrsAre out.toList ys → ys.Perm l → sortedS ys = true → Q (.ref p) s') : wpAny (model P w) A (call (.builtin "sorted") [.ref a]) Q E s := by
  obtain ⟨o, es, ep, t, ho, hex, hd, g, pl, nd, hb, hf, hr, hl⟩ := R.ex
  refine Calls.call_function_entry kind_sorted plain_sorted entry_sorted (args_sorted1 _) ?_
  unfold Builtin.«sorted»
  refine wpAny_bind (m := checkCount "sorted" 1 1 _) (wpAny_pure (wpAny_bind (collect_set (A := A.in1) hh ⟨o, ho, hex.1, hd⟩ hf hb hr hl fun s1 vs k1 hz g1 o1 pm => ?_)))
  have hv : ∀ v ∈ vs, ∃ k u, v = Value.str k u := fun v hv => by
    obtain ⟨e, he, q⟩ := List.mem_map.mp (pm.mem_iff.mp hv)
    obtain ⟨k, u, e1, _⟩ := g e he
    exact ⟨k, u, by rw [← q]; exact e1⟩
  have hS := strs_of vs hv
  have pv : (vs.map fun v => txOf (0, v)).Perm l := by
    have q := pm.map fun v => txOf (0, v)
    rw [List.map_map] at q
    exact q.trans pl
  have hvl : vs.length = l.length := by
    have q := pv.length_eq
    rw [List.length_map] at q
    exact q
  refine wpAny_bind (wpAny_newList ?_ (by rw [hvl, sizeLine_eq]; omega))
  have hoL : (s1.heap.push (seqObj "list" vs.toArray 0)).get? s1.heap.objs.size = some (seqObj "list" vs.toArray 0) := Heap.get?_push_size _ rfl
  refine wpAny_bind (wpAny_holding (wpAny_call_entry slot_list_sort ⟨_, hoL, rfl⟩ entry_list_sort (list_sort_treeK strKind_oneLt hoL hS.keysOf (fun v₁ v₂ rest e => keyKind_strs (by rw [← e]; exact hS)) (by rw [hvl]; exact h64) fun st' a1 a2 => ⟨_, rfl, ?_⟩) (args_list_sort _)))
  obtain ⟨ys, y1, y2, y3⟩ := sorted_out_str hS a1 a2
  obtain ⟨c, hc⟩ := sortedHeap_at (vs := vs) (out := (arrOf st').map (·.2)) hoL
  refine wpAny_pure ⟨_, rfl, hQ _ s1.heap.objs.size _ c ys (fun b u e => ?_) g1 o1 hz hc y1 (y2.trans pv) y3⟩
  have q := k1 b u e
  have hlt := Heap.lt_size q
  show (sortedHeap (s1.heap.push (seqObj "list" vs.toArray 0)) s1.heap.objs.size vs ((arrOf st').map (·.2))).get? b = some u
  rw [sortedHeap_old (Nat.ne_of_lt hlt) (by rw [size_push']; exact Nat.lt_succ_of_lt hlt)]
  exact Heap.get?_push_of_some _ q
end
/-- the set at a, as what stands there -/
def TxO (w : World) (a : Addr) (l : List Str) : HO := .ext fun h => TxR w h a l
theorem txO_new {w : World} {P : Program} {H : Hp} {h : Heap} {a : Addr} {l : List Str} (R : TxR w h a l) : ObjOk P w H h a (TxO w a l) := by
  have ⟨o, es, ep, t, ho, _⟩ := R.ex
  exact ⟨R, ⟨o, ho⟩, fun h1 h2 p k => TxR.at p k⟩
section
variable {X : Cx}
/-- set(s), s a text -/
def rSetTx (w : World) : List V → Hp → VK → Prop := fun xs H Q => ∃ x : Str, xs = [.str x] ∧ x.cps.size ≤ 1000 ∧ ∀ a, H a = none → Q (.ref a) (upd H a (TxO w a (signs x.cps.toList [])))
theorem cr_setTx (hc : X.calm = true) : CallR X (.type "set") (rSetTx X.w) := by
  intro pins s σ H xs us Q I r h
  obtain ⟨x, rfl, hx, q⟩ := h
  obtain ⟨v, rfl, u, rfl⟩ := vals1 r
  have hn : H s.heap.objs.size = none := I.hok.fresh (Nat.le_refl _)
  refine call_setTx (P := X.prog) (w := X.w) (I.ok.hd hc) (by unfold scanBound; omega) fun h' tk R k => ?_
  exact ⟨.ref s.heap.objs.size, upd H s.heap.objs.size (TxO X.w s.heap.objs.size (signs x.cps.toList [])), I.laid (t' := tk) k (Nat.le_refl _) (txO_new R), rfl, q _ hn⟩
/-- sorted(..) of it -/
def rSortTx (w : World) : List V → Hp → VK → Prop := fun vs H Q => ∃ (a : Addr) (l : List Str), vs = [.ref a] ∧ H a = some (TxO w a l) ∧ l.length < 64 ∧ ∀ (ys : List Str) p, ys.Perm l → sortedS ys = true → H p = none → Q (.ref p) (upd H p (.lst (ys.map V.str)))
theorem cr_sortTx (hc : X.calm = true) : CallR X (.builtin "sorted") (rSortTx X.w) := by
  intro pins s σ H vs us Q I r h
  obtain ⟨a, l, rfl, ha, h64, q⟩ := h
  have R : TxR X.w s.heap a l := (I.hok a _ ha).1
  rw [Vals.ref1 r]
  refine sorted_setTx R (I.ok.hd hc) h64 fun s' p out c ys k g o hp hg hy pm hs => ?_
  have hn : H p = none := I.hok.fresh hp
  have hlen : (ys.map V.str).length ≤ sizeLine := by rw [List.length_map, pm.length_eq, sizeLine_eq]; omega
  have J : Inv X pins σ (upd H p (.lst (ys.map V.str))) s' := I.call' (ch := []) o (Un.laid k hp hn) (I.hok.laid k hp ⟨hlen, out.toList, c, vals_of_strs hy, hg⟩) (by rw [g]; exact I.bare) (fun _ z => nomatch z)
  exact ⟨.ref p, _, J, rfl, q ys p pm hs hn⟩
end
end GX
end
section
set_option Elab.async false
set_option linter.all false
set_option maxRecDepth 100000
/-! Rules that the layer lacks: an attribute as a target, a plain call of a def with a star. -/
namespace AT
open PySem PySem.Spec PyProof.Rows L2
section
variable {X : Cx} {o : Expr} {to : TE} {f : Str} {pos : Pos}
/-- o.f as a target -/
def gFld (K : PySem.W.Frag) (to : TE) (f : Str) : TG := fun v σ H Q => to σ H fun x H1 => ∃ a C dx fs, x = .ref a ∧ H1 a = some (.ins C dx fs) ∧ Cls K C ∧ NoAttr K C f ∧ fs.length < 1000 ∧ Q σ (upd H1 a (.ins C dx (putF f v fs)))
theorem pg_fld (ho : PE X o to) : PG X (.Attribute o f pos) (gFld X.K to f) := by
  refine ⟨fun pins s σ H v u Q I r h => ?_⟩
  rw [assign_Attribute]
  refine wpAny_bind (wpAny_holding (thn (ho.run pins s σ H _ I h) fun ov s1 ⟨x, H1, I1, rx, a, C, dx, fs, ex, ea, c, n, l, q⟩ => ?_))
  subst ex
  obtain rfl : ov = Value.ref a := rx
  refine wpAny_bind (wpAny_standAt (wpAny_bind (wpAny_holding (setattr_ok I1 ea c n l r fun s2 I2 => ?_))))
  exact wpAny_release ⟨σ, _, I2, q⟩
end
section
variable {X : Cx} {CX : CXT} {k : Nat} {f : Addr} {sp : Sp} {E : XK} {x : Str} {e : Expr} {es : List Expr} {t : TA} {p pos : Pos}
/-- f(e, ..), f a def that is told by positions -/
theorem pe_callR (F : FnR X.prog X.w X.K X.mg X.base CX k f sp) (hr : Room k X.A) (hk : PySem.W.keepIn X.K (.ref f) = true) (hg : Gl X x) (hm : X.mg x = some (.ref f)) (hx : Passes CX X E) (ha : PA X (e :: es) t) (hd : (x == ("__debug__" : Str)) = false := by decide)
    (he : starEach (e :: es) X.env = (false, eval e X.env) :: starEach es X.env := by rfl) (hpl : (backTo pos (starEach es X.env)).any (·.1) = false := by rfl) :
    PE X (.Call (.Name x p) (e :: es) [] pos) (fun σ H Q => t σ H fun vs H1 => sp vs H1 Q E) := by
  refine ⟨fun pins s σ H Q I h => wpAny_Call_Name_kw (ld_glob I hg hm (PySem.W.callWith_K (h₀ := X.base) I.ok.mod.kin hk (thn (ha.run pos pins s σ H _ I h) fun us s1 ⟨vs, H1, I1, r, q⟩ => ⟨I1.kIn, ?_⟩) he hpl) hd)⟩
  exact wpAny_call (run_fnR F hr hx I1 r q)
end
end AT
end
section
set_option Elab.async false
set_option linter.all false
set_option maxRecDepth 100000
/-! is_atom, united. -/
namespace AT
open PySem PySem.Spec PyProof.Rows L2
open AB (Fm At Drv)
/-! ### letters -/
theorem signs_nodup : ∀ (cs : List Nat) (l : List Str), l.Nodup → (GX.signs cs l).Nodup
  | [], l, h => h
  | c :: r, l, h => by
    unfold GX.signs
    refine signs_nodup r _ ?_
    split
    · exact h
    · rename_i hn
      exact List.nodup_cons.mpr ⟨hn, h⟩
theorem LetOk.len {x : Str} (h : LetOk x) : x.cps.size ≤ 4 := by
  have q := nodup_len h.nd h.mem
  rw [Array.length_toList] at q
  exact q
theorem LetOk.nil : LetOk ("" : Str) := by
  have e : (Str.ofString "").cps.toList = [] := by decide +kernel
  exact ⟨by rw [e]; exact List.nodup_nil, fun c hc => by rw [e] at hc; cases hc⟩
theorem LetOk.one (a : At) : LetOk (letS a) := by
  have e : (letS a).cps.toList = [letC a] := rfl
  refine ⟨by rw [e]; simp, fun c hc => ?_⟩
  rw [e, List.mem_singleton] at hc
  rw [hc]; cases a <;> decide
theorem joinL_nil : ∀ ps : List (List Nat), TL.joinL [] ps = ps.flatten
  | [] => rfl
  | [p] => by simp [TL.joinL]
  | p :: q :: r => by
    rw [TL.joinL, joinL_nil (q :: r)]
    simp
/-- single signs joined -/
theorem join_signs {ys : List Str} (h : ∀ x ∈ ys, ∃ c, x = (⟨#[c]⟩ : Str)) : (Str.join "" ys).cps.toList = ys.map fun x => x.cps.toList.headD 0 := by
  have e := TL.tl_join "" ys
  have e0 : TL.tl (Str.ofString "") = [] := by decide +kernel
  rw [e0, joinL_nil] at e
  show TL.tl (Str.join "" ys) = _
  rw [e]
  clear e e0
  induction ys with
  | nil => rfl
  | cons x ys ih =>
    obtain ⟨c, rfl⟩ := h x List.mem_cons_self
    rw [List.map_cons, List.flatten_cons, ih fun z hz => h z (List.mem_cons_of_mem _ hz), List.map_cons]
    rfl
theorem letOk_join {s : List Nat} (hs : ∀ c ∈ s, c ∈ [97, 98, 99, 80]) {ys : List Str} (p : ys.Perm (GX.signs s [])) : LetOk (Str.join "" ys) ∧ ys.length ≤ 4 ∧ (ys.map (·.length)).sum ≤ 4 := by
  have hm : ∀ x ∈ ys, ∃ c ∈ s, x = (⟨#[c]⟩ : Str) := fun x hx => by
    rcases GX.signs_mem s [] x (p.mem_iff.mp hx) with q | q
    · cases q
    · exact q
  have nd : ys.Nodup := p.nodup_iff.mpr (signs_nodup s [] List.nodup_nil)
  have e := join_signs fun x hx => let ⟨c, _, q⟩ := hm x hx; ⟨c, q⟩
  have nd2 : (ys.map fun x => x.cps.toList.headD 0).Nodup := by
    clear e p
    induction ys with
    | nil => exact List.nodup_nil
    | cons x ys ih =>
      obtain ⟨n1, n2⟩ := List.nodup_cons.mp nd
      rw [List.map_cons, List.nodup_cons]
      refine ⟨fun z => ?_, ih (fun z hz => hm z (List.mem_cons_of_mem _ hz)) n2⟩
      obtain ⟨y, hy, ey⟩ := List.mem_map.mp z
      obtain ⟨c, _, rfl⟩ := hm x List.mem_cons_self
      obtain ⟨d, _, rfl⟩ := hm y (List.mem_cons_of_mem _ hy)
      have : d = c := ey
      rw [this] at hy
      exact n1 hy
  have lk : LetOk (Str.join "" ys) := by
    refine ⟨by rw [e]; exact nd2, fun c hc => ?_⟩
    rw [e] at hc
    obtain ⟨x, hx, rfl⟩ := List.mem_map.mp hc
    obtain ⟨d, hd, rfl⟩ := hm x hx
    exact hs d hd
  have hl : ys.length ≤ 4 := by
    have q := lk.len
    rw [← Array.length_toList, e, List.length_map] at q
    exact q
  refine ⟨lk, hl, ?_⟩
  have one : ∀ zs : List Str, (∀ x ∈ zs, ∃ c, x = (⟨#[c]⟩ : Str)) → (zs.map (·.length)).sum = zs.length := by
    intro zs
    induction zs with
    | nil => intro _; rfl
    | cons x zs ih =>
      intro hz
      obtain ⟨c, rfl⟩ := hz x List.mem_cons_self
      rw [List.map_cons, List.sum_cons, ih fun z h => hz z (List.mem_cons_of_mem _ h), List.length_cons]
      show 1 + zs.length = _
      omega
  rw [one ys fun x hx => let ⟨c, _, q⟩ := hm x hx; ⟨c, q⟩]
  exact hl
section
variable {P : Program} {w : World} {K : PySem.W.Frag} {mg : Str → Option Value} {base : Heap} (T : Tx w K mg)
abbrev FH (P : Program) (w : World) (K : PySem.W.Frag) (mg : Str → Option Value) (base : Heap) (k : Nat) (f : Addr) (ps : List Str) (sp : Sp) : Prop := FnOk P w K mg base CX0 k f (fdOf K f) ps sp
/-! ### is_atom -/
def spIsAtom : Sp := fun vs H Q _ => ∃ x : At, vs = [.str (letS x)] ∧ Q (.bl true) H
theorem sc_is_atom : FnScope ["thing"] ["thing"] (defScope s_is_atom) := ⟨rfl, rfl, rfl, by decide +kernel, rfl, by decide +kernel, by decide +kernel⟩
theorem sc_united : FnScope ["one", "other"] ["one", "other"] (defScope s_united) := ⟨rfl, rfl, rfl, by decide +kernel, rfl, by decide +kernel, by decide +kernel⟩
def spUnited : Sp := fun vs H Q _ => ∃ x y : Str, vs = [.str x, .str y] ∧ LetOk x ∧ LetOk y ∧ ∀ z H', LetOk z → Kp H H' → Q (.str z) H'
include T
theorem bd_is_atom : L2.Binds K (fdOf K (f_is_atom K)) ["thing"] [] := T.F_is_atom.binds fun _ _ _ _ _ _ us hl => match us, hl with | [_], _ => rfl
theorem bd_united : L2.Binds K (fdOf K (f_united K)) ["one", "other"] [] := T.F_united.binds fun _ _ _ _ _ _ us hl => match us, hl with | [_, _], _ => rfl
theorem ok_is_atom : FH P w K mg base 1 (f_is_atom K) ["thing"] spIsAtom := by
  obtain ⟨uL, mL, rL⟩ := T.c_LETTERS
  refine T.F_is_atom.ok sc_is_atom (fun vs H Q E h => by obtain ⟨x, rfl, _⟩ := h; rfl) (fun cdv A outer s H vs Q E hr h => ⟨_, PSs.nox (pss_one (ps_ret
    (pe_and (pe_callB call_isi rfl T.b_isinstance (by decide +kernel) (pa_cons (pv 0) (pa_cons (pe_bltn rfl T.b_str (by decide +kernel) (v := .ty "str") (u := .type "str") rfl) pa_nil)))
      (pe_and (pe_cmpR op_eq (pe_callB call_len_str rfl T.b_len boot_len (pa_cons (pv 0) pa_nil)) pe_int (nomark _)) (pe_one (pe_cmpR op_in_sign (pv 0) (pe_glob rfl mL rL) rfl)))))), ?_⟩)
  obtain ⟨x, rfl, q⟩ := h
  refine ⟨_, rfl, _, _, _, _, true, rfl, .ty "str", .base (.str _), kit_ty (by decide +kernel), ?_⟩
  refine ⟨true, rfl, iteT ?_⟩
  refine ⟨_, rfl, _, rfl, (by show 1 ≤ sizeLine; decide), rfl, ?_⟩
  refine ⟨true, rfl, iteT ?_⟩
  refine ⟨_, rfl, letC x, _, rfl, rfl, ?_⟩
  have e : decide (letC x ∈ (Str.ofString "ABCDEFGHIJKLMNOPQRSTUVWXYZabcdefghijklmnopqrstuvwxyz").cps.toList) = true := by cases x <;> decide +kernel
  rw [e]
  exact q
/-! ### united -/
theorem ok_united : FH P w K mg base 1 (f_united K) ["one", "other"] spUnited := by
  refine T.F_united.ok sc_united (fun vs H Q E h => by obtain ⟨x, y, rfl, _⟩ := h; rfl) (fun cdv A outer s H vs Q E hr h => ⟨_, PSs.nox (pss_one (ps_ret (pe_ifExp (pt_cmpR op_eq (pv 0) (pv 1) (nomark _)) (pv 0)
    (pe_join pe_str (pe_callB (GX.cr_sortTx rfl) rfl T.b_sorted (by decide +kernel) (pa_cons (pe_callTy (GX.cr_setTx rfl) rfl T.b_set (by decide +kernel) (pa_cons (pe_op op_add_str (pv 0) (pv 1)) pa_nil)) pa_nil)))))), ?_⟩)
  obtain ⟨x, y, rfl, hx, hy, q⟩ := h
  have lx := hx.len
  have ly := hy.len
  refine ⟨_, rfl, _, rfl, rfl, _, rfl, ite2 (fun _ => ⟨_, rfl, q x H hx (Same.refl H)⟩) fun _ => ?_⟩
  refine ⟨⟨_, rfl⟩, _, rfl, _, rfl, x, y, rfl, rfl, ?_, x ++ y, rfl, ?_, fun a ha => ?_⟩
  · show x.cps.size + y.cps.size ≤ sizeLine
    rw [sizeLine_eq]; omega
  · rw [cps_append, Array.size_append]; omega
  · have hs : ∀ c ∈ (x ++ y).cps.toList, c ∈ [97, 98, 99, 80] := fun c hc => by
      rw [cps_append, Array.toList_append] at hc
      rcases List.mem_append.mp hc with z | z
      · exact hx.mem c z
      · exact hy.mem c z
    have few : (GX.signs (x ++ y).cps.toList []).length < 64 := by
      have z := GX.signs_len (x ++ y).cps.toList []
      have e1 : (x ++ y).cps.toList.length = x.cps.size + y.cps.size := by rw [Array.length_toList, cps_append, Array.size_append]
      have e2 : ([] : List Str).length = 0 := rfl
      omega
    refine ⟨a, _, rfl, upd_same, few, fun ys p pm _ hp => ?_⟩
    obtain ⟨h1, h2, h3⟩ := letOk_join hs pm
    refine ⟨_, p, ys, rfl, rfl, .inl (SqL.of upd_same), ?_, ?_⟩
    · have e0 : (Str.ofString "").length = 0 := by decide +kernel
      rw [e0]; omega
    · have k1 : Kp H (upd H a (GX.TxO w a (GX.signs (x ++ y).cps.toList []))) := Kp.upd (Same.refl H) ha
      have h1' : LetOk (Txt.join "" ys) := by
        show LetOk (Builtin.Str.glued "" ys)
        rw [StrLaws.glued_eq_join]; exact h1
      exact q _ _ h1' (k1.trans (Kp.upd (Same.refl _) hp))
end
end AT
end
section
set_option Elab.async false
set_option linter.all false
set_option maxRecDepth 100000
/-! merged. -/
namespace AT
open PySem PySem.Spec PyProof.Rows L2
open AB (Fm At Drv)
/-- a formula's object by its text -/
def Spl (K : PySem.W.Frag) (H : Hp) (b : Addr) (G : Fm) : Prop := ∃ dx fs, H b = some (.ins (He.ga K "Formula") dx fs) ∧ fs.lookup ("spelled" : Str) = some (.str (txt G))
theorem Spl.kf {K : PySem.W.Frag} {H H' : Hp} {b : Addr} {G : Fm} (h : Spl K H b G) (k : KF H H') : Spl K H' b G := let ⟨dx, fs, e1, e2⟩ := h; ⟨dx, fs, k.i _ _ _ _ e1, e2⟩
/-- a tuple of such -/
structure AlT (K : PySem.W.Frag) (H : Hp) (al : Addr) (Gs : List Fm) : Prop where
  ex : ∃ bs : List Addr, H al = some (.tup (bs.map V.ref)) ∧ Paired (Spl K H) bs Gs
theorem AlT.kf {K : PySem.W.Frag} {H H' : Hp} {al : Addr} {Gs : List Fm} (h : AlT K H al Gs) (k : KF H H') : AlT K H' al Gs := let ⟨bs, e, p⟩ := h.ex; ⟨bs, k.t _ _ e, Paired.mapP p fun b G q => q.kf k⟩
/-- the dict by text -/
structure DOk (K : PySem.W.Frag) (H : Hp) (kvs : List (Key × V)) (Gs : List Fm) : Prop where
  nd : (kvs.map (·.1)).Nodup
  el : ∀ kv ∈ kvs, ∃ b G, kv = (.inr (txt G), .ref b) ∧ Spl K H b G ∧ G ∈ Gs
theorem DOk.kf {K : PySem.W.Frag} {H H' : Hp} {kvs : List (Key × V)} {Gs : List Fm} (h : DOk K H kvs Gs) (k : KF H H') : DOk K H' kvs Gs := ⟨h.nd, fun kv hkv => let ⟨b, G, e, s, m⟩ := h.el kv hkv; ⟨b, G, e, s.kf k, m⟩⟩
theorem paired_append {α β : Type} {R : α → β → Prop} : ∀ {as bs : List α} {cs ds : List β}, Paired R as cs → Paired R bs ds → Paired R (as ++ bs) (cs ++ ds)
  | _, _, _, _, .nil, s => s
  | _, _, _, _, .cons h t, s => .cons h (paired_append t s)
def keyT (kv : Key × V) : Str := match kv.1 with
  | .inr x => x
  | _ => Str.empty
theorem DOk.keys {K : PySem.W.Frag} {H : Hp} {kvs : List (Key × V)} {Gs : List Fm} (h : DOk K H kvs Gs) : kvs.map (·.1) = (kvs.map keyT).map Sum.inr := by
  rw [List.map_map]
  refine List.map_congr_left fun kv hkv => ?_
  obtain ⟨b, G, rfl, _⟩ := h.el kv hkv
  rfl
section
variable {P : Program} {w : World} {K : PySem.W.Frag} {mg : Str → Option Value} {base : Heap} (T : Tx w K mg)
def spMerged (K : PySem.W.Frag) : Sp := fun vs H Q _ => ∃ (a b : Addr) (G1 G2 : List Fm), vs = [.ref a, .ref b] ∧ AlT K H a G1 ∧ AlT K H b G2 ∧ G1.Nodup ∧ G2.Nodup ∧ G1.length + G2.length < 64 ∧
  ∀ al H' Gs, AlT K H' al Gs → Gs.Nodup → (∀ G ∈ Gs, G ∈ G1 ∨ G ∈ G2) → Kp H H' → Q (.ref al) H'
abbrev Nmg : List Str := ["one", "other", "found", "formula", "text"]
theorem sc_merged : FnScope Nmg ["one", "other"] (defScope s_merged) := ⟨rfl, rfl, rfl, by decide +kernel, rfl, by decide +kernel, by decide +kernel⟩
include T
theorem bd_merged : L2.Binds K (fdOf K (f_merged K)) ["one", "other"] [] := T.F_merged.binds fun _ _ _ _ _ _ us hl => match us, hl with | [_, _], _ => rfl
theorem ok_merged : FH P w K mg base 1 (f_merged K) ["one", "other"] (spMerged K) := by
  refine T.F_merged.ok sc_merged (fun vs H Q E h => by obtain ⟨a, b, _, _, rfl, _⟩ := h; rfl) (fun cdv A outer s H vs Q E hr h => ⟨_, PSs.nox (
    pss_cons (ps_if (PW.pt (pw_or (pt_cmpR op_eq (pe_callB call_len_seq rfl T.b_len boot_len (pa_cons (pv 0) pa_nil)) pe_int (nomark _)) (pw_or1 (pt_cmpR op_eq (pe_callB call_len_seq rfl T.b_len boot_len (pa_cons (pv 1) pa_nil)) pe_int (nomark _)))))
      (pss_one (ps_ret (pe_op op_catA (pv 0) (pv 1)))) pss_nil)
    (pss_cons (ps_set (i := 2) sc_merged.nd rfl (Or.inr rfl) (pe_dc (own := [("formula", 3)]) (g := gName 3) (tt := tYes) rfl sc_merged.nd (pi_tup (pe_op op_catA (pv 0) (pv 1))) (blkOk_by (own := [("formula", 3)]) (N := Nmg) (sc := defScope s_merged) (by decide +kernel))
        (fun _ _ _ _ _ => pg_name (i := 3) sc_merged.nd rfl (Or.inl rfl)) (fun _ _ _ _ _ => pts_nil) (tk := tFld K (tVar 3) "spelled") (fun _ _ _ _ _ => pe_fld (pv 3) rfl) (fun _ _ _ _ _ => pv 3)))
    (pss_one (ps_ret (pe_callTy call_tuple_of rfl T.b_tuple (by decide +kernel) (pa_cons
      (pe_lc (own := [("text", 4)]) (g := gName 4) (tt := tYes) rfl sc_merged.nd (pi_list (pe_callB (call_sortedD rfl) rfl T.b_sorted (by decide +kernel) (pa_cons (pv 2) pa_nil))) (blkOk_by (own := [("text", 4)]) (N := Nmg) (sc := defScope s_merged) (by decide +kernel))
        (fun _ _ _ _ _ => pg_name (i := 4) sc_merged.nd rfl (Or.inl rfl)) (fun _ _ _ _ _ => pts_nil) (fun _ _ _ _ _ => pe_dget (hu_of hr) (pv 2) (pv 4) (fun _ _ => rfl))) pa_nil)))))), ?_⟩)
  obtain ⟨a, b, G1, G2, rfl, h1, h2, n1, n2, few, q⟩ := h
  obtain ⟨bs1, e1, p1⟩ := h1.ex
  obtain ⟨bs2, e2, p2⟩ := h2.ex
  have l1 : bs1.length = G1.length := Paired.length p1
  have l2 : bs2.length = G2.length := Paired.length p2
  have hlen : (bs1.map V.ref).length + (bs2.map V.ref).length ≤ sizeLine := by rw [List.length_map, List.length_map, sizeLine_eq]; omega
  refine ⟨_, rfl, a, _, rfl, .inr (SqT.of e1), rfl, _, rfl, ite2 (fun hc => ?_) fun hc => ?_⟩
  · have z : bs1.map V.ref = [] := by
      have q := V.int.inj (of_decide_eq_true hc)
      exact List.length_eq_zero_iff.mp (by omega)
    refine iteT ⟨_, rfl, _, rfl, a, b, _, _, rfl, rfl, SqT.of e1, SqT.of e2, hlen, (fun _ => q b H G2 h2 n2 (fun G h => .inr h) (Same.refl H)), (fun hn => absurd z hn), fun hn => absurd z hn⟩
  refine ⟨_, rfl, b, _, rfl, .inr (SqT.of e2), rfl, _, rfl, ite2 (fun hd => ?_) fun hd => ?_⟩
  · have z : bs2.map V.ref = [] := by
      have q := V.int.inj (of_decide_eq_true hd)
      exact List.length_eq_zero_iff.mp (by omega)
    exact ⟨_, rfl, _, rfl, a, b, _, _, rfl, rfl, SqT.of e1, SqT.of e2, hlen, (fun _ => q b H G2 h2 n2 (fun G h => .inr h) (Same.refl H)), (fun _ _ => q a H G1 h1 n1 (fun G h => .inl h) (Same.refl H)), fun _ hn => absurd z hn⟩
  have z1 : bs1.map V.ref ≠ [] := fun z => hc (decide_eq_true (by rw [z]; rfl))
  have z2 : bs2.map V.ref ≠ [] := fun z => hd (decide_eq_true (by rw [z]; rfl))
  refine ⟨_, rfl, _, rfl, a, b, _, _, rfl, rfl, SqT.of e1, SqT.of e2, hlen, (fun z => absurd z z1), (fun _ z => absurd z z2), fun _ _ pc hpc => ?_⟩
  have kc : Kp H (upd H pc (.tup (bs1.map V.ref ++ bs2.map V.ref))) := Kp.upd (Same.refl H) hpc
  refine ⟨pc, rfl, ⟨_, SqT.of upd_same⟩, fun D hD => ?_⟩
  refine dc_tup (K := K) (a := pc) (xs := bs1.map V.ref ++ bs2.map V.ref) (fun i H' => Kp (upd H pc (.tup (bs1.map V.ref ++ bs2.map V.ref))) H' ∧ ∃ kvs, H' D = some (.dK kvs) ∧ kvs.length ≤ i ∧ DOk K H' kvs (G1 ++ G2)) ?_ ?_ ?_ ?_
  · exact ⟨Kp.upd (Same.refl _) hD, [], upd_same, Nat.zero_le _, List.nodup_nil, fun kv h => by cases h⟩
  · intro i H' _ hp
    exact SqT.of (hp.1 _ _ upd_same)
  · rintro i x H' hx ⟨k, kvs, eD, hl, dok⟩
    obtain ⟨c, hc', rfl⟩ : ∃ c, (bs1 ++ bs2)[i]? = some c ∧ V.ref c = x := by
      rw [← List.map_append, List.getElem?_map] at hx
      cases hq : (bs1 ++ bs2)[i]? with
      | none => rw [hq] at hx; cases hx
      | some c => rw [hq] at hx; exact ⟨c, rfl, Option.some.inj hx⟩
    obtain ⟨G, hG, sG⟩ := paired_get (paired_append p1 p2) hc'
    have sG' := sG.kf (KF.of (kc.trans k))
    obtain ⟨dx, fs, hi, hls⟩ := id sG'
    have hi64 : i < 64 := by
      have := (List.getElem?_eq_some_iff.mp hG).1
      rw [List.length_append] at this
      omega
    refine ⟨rfl, ?_⟩
    refine ⟨_, rfl, c, _, dx, fs, _, rfl, hi, T.cls_Formula, T.na_Formula_spelled, hls, _, rfl, kvs, .inr (txt G), rfl, eD, by rw [sizeLine_eq]; omega, ?_⟩
    have kf : KF H' (upd H' D (.dK (putK kvs (.inr (txt G)) (.ref c)))) := ⟨fun b xs e => by rw [upd_ne (ne_of e eD fun z => nomatch z)]; exact e, fun b C dx fs e => by rw [upd_ne (ne_of e eD fun z => nomatch z)]; exact e⟩
    refine ⟨fun b o e => by rw [upd_ne (ne_of_none e hD)]; exact k b o e, _, upd_same, Nat.le_trans (length_putK _ _ _) (by omega), putK_nodup dok.nd, fun kv hkv => ?_⟩
    obtain ⟨key, u⟩ := kv
    rcases putK_mem hkv with ⟨rfl, rfl⟩ | hkv
    · exact ⟨c, G, rfl, sG'.kf kf, List.mem_of_getElem? hG⟩
    · obtain ⟨b', G', e', s', m'⟩ := dok.el _ hkv
      exact ⟨b', G', e', s'.kf kf, m'⟩
  · rintro H2 ⟨k2, kvs, eD, hl, dok⟩
    have hkl : (kvs.map keyT).length < 64 := by
      rw [List.length_append, List.length_map, List.length_map] at hl
      rw [List.length_map]; omega
    refine ⟨_, rfl, D, kvs, kvs.map keyT, rfl, .inl eD, dok.keys, hkl, fun ys p pm srt hp => ?_⟩
    have k3 : Kp H2 (upd H2 p (.lst (ys.map V.str))) := Kp.upd (Same.refl H2) hp
    have ndk : (kvs.map keyT).Nodup := by
      have z := dok.nd
      rw [dok.keys] at z
      exact List.Pairwise.of_map _ (fun _ _ hne e => hne (congrArg Sum.inr e)) z
    have ndy : ys.Nodup := pm.nodup_iff.mpr ndk
    refine ⟨p, rfl, ⟨_, SqL.of upd_same⟩, fun D2 hD2 => ?_⟩
    refine lc_list (K := K) (a := p) (xs := ys.map V.str) (fun j H' => Kp (upd H2 p (.lst (ys.map V.str))) H' ∧ ∃ bs Gs, H' D2 = some (.lst (bs.map V.ref)) ∧ Paired (Spl K H') bs Gs ∧ Gs.map txt = ys.take j ∧ ∀ G ∈ Gs, G ∈ G1 ++ G2) ?_ ?_ ?_ ?_
    · exact ⟨Kp.upd (Same.refl _) hD2, [], [], upd_same, .nil, rfl, fun G h => by cases h⟩
    · intro j H' _ hq
      exact SqL.of (hq.1 _ _ upd_same)
    · rintro j x H' hx ⟨k, bs, Gs, eD2, pr, hG, hm⟩
      obtain ⟨y, hy, rfl⟩ : ∃ y, ys[j]? = some y ∧ V.str y = x := by simpa using hx
      have eDk : H' D = some (.dK kvs) := k _ _ (k3 _ _ eD)
      have hin : (Sum.inr y : Key) ∈ kvs.map (·.1) := by
        rw [dok.keys]
        exact List.mem_map.mpr ⟨y, pm.mem_iff.mp (List.mem_of_getElem? hy), rfl⟩
      obtain ⟨v, hv⟩ := Option.isSome_iff_exists.mp (mem_valV hin)
      obtain ⟨c, G, ekv, sG, mG⟩ := dok.el _ (valV_mem hv)
      obtain ⟨ey, rfl⟩ := Prod.mk.inj ekv
      have ey' : y = txt G := Sum.inr.inj ey
      have sG' := sG.kf (KF.of (k3.trans k))
      have hlb : bs.length = Gs.length := Paired.length pr
      have hlg : Gs.length = (ys.take j).length := by rw [← hG, List.length_map]
      rw [List.length_take] at hlg
      have hyl := pm.length_eq
      refine ⟨rfl, ?_⟩
      refine ⟨_, rfl, _, rfl, D, .ref c, rfl, by rw [← hv]; exact DGet.k (k := .inr y) eDk, _, eD2, by rw [List.length_map, sizeLine_eq]; omega, ?_⟩
      have kf : KF H' (upd H' D2 (.lst (bs.map V.ref ++ [V.ref c]))) := ⟨fun b xs e => by rw [upd_ne (ne_of e eD2 fun z => nomatch z)]; exact e, fun b C dx fs e => by rw [upd_ne (ne_of e eD2 fun z => nomatch z)]; exact e⟩
      refine ⟨fun b o e => by rw [upd_ne (ne_of_none e hD2)]; exact k b o e, bs ++ [c], Gs ++ [G], by rw [upd_same, List.map_append]; rfl, paired_append (Paired.mapP pr fun b G q => q.kf kf) (.cons (sG'.kf kf) .nil), ?_, fun G' hG' => ?_⟩
      · rw [List.map_append, hG, take_succ hy, ey']; rfl
      · rcases List.mem_append.mp hG' with z | z
        · exact hm G' z
        · rw [List.mem_singleton.mp z]; exact mG
    · rintro H' ⟨k, bs, Gs, eD2, pr, hG, hm⟩
      refine ⟨D2, _, rfl, .inl ⟨SqL.of eD2, fun l hl' => ?_⟩⟩
      have k5 : Kp H' (upd H' l (.tup (bs.map V.ref))) := Kp.upd (Same.refl H') hl'
      rw [List.length_map, List.take_length] at hG
      refine q l _ Gs ⟨bs, upd_same, Paired.mapP pr fun b G q => q.kf (.of k5)⟩ ?_ (fun G h => List.mem_append.mp (hm G h)) (kc.trans (k2.trans (k3.trans (k.trans k5))))
      rw [← hG] at ndy
      exact List.Pairwise.of_map _ (fun _ _ hne e => hne (congrArg txt e)) ndy
end
end AT
end
section
set_option Elab.async false
set_option linter.all false
set_option maxRecDepth 100000
/-! Formula.__init__ -/
namespace AT
open PySem PySem.Spec PyProof.Rows L2
open AB (Fm At Drv)
section
variable {X : Cx} {c a b : Expr} {tc ta tb : TT} {pos : Pos}
theorem pt_ifExp (hc : PT X c tc) (ha : PT X a ta) (hb : PT X b tb) : PT X (.IfExp c a b pos) (fun σ H Q => tc σ H fun d H1 => if d = true then ta σ H1 Q else tb σ H1 Q) := by
  refine ⟨fun pins s σ H Q I h => ?_⟩
  rw [arm_isTrue_IfExp]
  refine wpAny_bind (wpAny_mono (hc.run pins s σ H _ I h) (fun d s1 ⟨H1, I1, q1⟩ => ?_) fun _ _ z => z)
  cases d with
  | true => exact ha.run pins s1 σ H1 Q I1 q1
  | false => exact hb.run pins s1 σ H1 Q I1 q1
end
theorem bd_init : ∀ (kV doc pm : Value) (an : Option Addr) (cdv ct : Value) (us rest : List Value), us.length = 2 →
   bindArgs (PySem.W.fnOf "__init__" "Formula.__init__" (defArgs s_Formula__init__) (defBody s_Formula__init__) (defScope s_Formula__init__) .none kV doc pm an cdv ct) ⟨us ++ rest, []⟩ = (newTuple rest >>= fun t => pure ((["self", "kind"] : List Str).zip us ++ [(("parts" : Str), t)])) := by
  intro kV doc pm an cdv ct us rest hl
  obtain ⟨x, y, rfl⟩ : ∃ x y, us = [x, y] := match us, hl with | [x, y], _ => ⟨x, y, rfl⟩
  cases rest with
  | nil => rfl
  | cons a r => rfl
abbrev Nin : List Str := ["self", "kind", "parts", "part", "inner", "first", "second"]
theorem sc_init : FnScope Nin ["self", "kind", "parts"] (defScope s_Formula__init__) := ⟨rfl, rfl, rfl, by decide +kernel, rfl, by decide +kernel, by decide +kernel⟩
/-- what stands in the tuple of a formula's parts -/
def PtsOk (K : PySem.W.Frag) (H : Hp) : Fm → List V → Prop
  | .atm x, vs => vs = [.str (letS x)]
  | .no, vs => vs = []
  | .imp f g, vs => ∃ b c, vs = [.ref b, .ref c] ∧ FoAt K H f b ∧ FoAt K H g c
  | .all f, vs => ∃ b, vs = [.ref b] ∧ FoAt K H f b
/-- few parts with all ahead -/
def Few : Fm → Prop
  | .imp f g => (AB.alls f).length + (AB.alls g).length < 60
  | .all f => (AB.alls f).length + 1 < 60
  | _ => True
def spInit (K : PySem.W.Frag) : Sp := fun vs H Q _ => ∃ (a dx p : Addr) (F : Fm) (ps : List V), vs = [.ref a, .str (kindS F), .ref p] ∧ H a = some (.ins (He.ga K "Formula") dx []) ∧ H p = some (.tup ps) ∧ PtsOk K H F ps ∧ Few F ∧ AB.size F ≤ 1000 ∧
  ∀ H', FoAt K H' F a → (∀ b o, H b = some o → b ≠ a → H' b = some o) → Q .non H'
/-! ### an object that is being filled -/
def off (H : Hp) (a : Addr) : Hp := fun b => if b = a then none else H b
theorem off_self {H : Hp} {a : Addr} : off H a a = none := if_pos rfl
theorem off_ne {H : Hp} {a b : Addr} (h : b ≠ a) : off H a b = H b := if_neg h
theorem kp_off (H : Hp) (a : Addr) : Kp (off H a) H := fun b o e => by
  unfold off at e
  split at e
  · cases e
  · exact e
theorem off_tup {H : Hp} {a b C dx : Addr} {xs : List V} (ea : H a = some (.ins C dx [])) (e : H b = some (.tup xs)) : off H a b = some (.tup xs) := by
  rw [off_ne]; exact e
  intro z; rw [z, ea] at e; cases e
theorem off_ins {H : Hp} {a b C dx C' dx' : Addr} {g : Str} {v : V} {fs : List (Str × V)} (ea : H a = some (.ins C dx [])) (e : H b = some (.ins C' dx' fs)) (h : fs.lookup g = some v) : off H a b = some (.ins C' dx' fs) := by
  rw [off_ne]; exact e
  intro z; rw [z, ea] at e; cases e; cases h
theorem AlsOk.off {K : PySem.W.Frag} {H : Hp} {a C dx : Addr} (ea : H a = some (.ins C dx [])) {al : Addr} {F : Fm} (h : AlsOk K H al F) : AlsOk K (off H a) al F := by
  obtain ⟨bs, Gs, e, p, q⟩ := h.ex
  exact ⟨bs, Gs, off_tup ea e, Paired.mapP p fun b G ⟨dx, fs, e1, e2⟩ => ⟨dx, fs, off_ins ea e1 e2, e2⟩, q⟩
theorem Fo.off {K : PySem.W.Frag} {H : Hp} {a C dx : Addr} (ea : H a = some (.ins C dx [])) {b : Addr} {F : Fm} {ps : List V} (h : Fo K H b F ps) : Fo K (off H a) b F ps := by
  obtain ⟨dx, pt, al, m, d, x, y, e1, e2, e3, e4, e5⟩ := h.ex
  exact ⟨dx, pt, al, m, d, x, y, off_ins (g := "kind") (v := .str (kindS F)) ea e1 rfl, off_tup ea e2, e3, e4, e5.off ea⟩
theorem FoAt.off {K : PySem.W.Frag} {H : Hp} {a C dx : Addr} (ea : H a = some (.ins C dx [])) : ∀ {F : Fm} {b : Addr}, FoAt K H F b → FoAt K (off H a) F b
  | .atm _, _, h => Fo.off ea (show Fo K H _ _ _ from h)
  | .no, _, h => Fo.off ea (show Fo K H _ _ _ from h)
  | .imp _ _, _, ⟨b, c, h, h1, h2⟩ => ⟨b, c, h.off ea, FoAt.off ea h1, FoAt.off ea h2⟩
  | .all _, _, ⟨b, h, h1⟩ => ⟨b, h.off ea, FoAt.off ea h1⟩
theorem kp_up {O H : Hp} {p : Addr} {o : HO} (k : Kp O H) (h : H p = none) : Kp O (upd H p o) := fun b o' e => by rw [upd_ne (ne_of_none (k b o' e) h)]; exact k b o' e
theorem up_keep {H : Hp} {b p : Addr} {o o' : HO} (e : H b = some o) (h : H p = none) : upd H p o' b = some o := by rw [upd_ne (ne_of_none e h)]; exact e
theorem kp_off2 {O H : Hp} {a : Addr} (k : Kp O H) (hO : O a = none) : Kp O (off H a) := fun b o e => by rw [off_ne (ne_of_none e hO)]; exact k b o e
theorem off_keep {H : Hp} {a b : Addr} {o : HO} (e : H b = some o) (h : b ≠ a) : off H a b = some o := by rw [off_ne h]; exact e
theorem st_fld {K : PySem.W.Frag} {f : Str} {v : V} {fs fs' : List (Str × V)} {Q : Hp → Prop} {O H : Hp} {a C dx : Addr} (ea : H a = some (.ins C dx fs)) (c : Cls K C) (n : NoAttr K C f) (l : fs.length < 1000) (e : putF f v fs = fs') (k : Kp O H) (hO : O a = none)
    (q : ∀ H', H' a = some (.ins C dx fs') → Kp O H' → Q H') : ∃ a' C dx fs, V.ref a = V.ref a' ∧ H a' = some (.ins C dx fs) ∧ Cls K C ∧ NoAttr K C f ∧ fs.length < 1000 ∧ Q (upd H a' (.ins C dx (putF f v fs))) :=
  ⟨a, C, dx, fs, rfl, ea, c, n, l, q _ (by rw [upd_same, e]) fun b o eb => by rw [upd_ne (ne_of_none eb hO)]; exact k b o eb⟩
theorem gf_fld {K : PySem.W.Frag} {f : Str} {v : V} {fs fs' : List (Str × V)} {σ : L2.St} {Q : L2.St → Hp → Prop} {O H : Hp} {a C dx : Addr} (s0 : σ[0]? = some (some (.ref a))) (ea : H a = some (.ins C dx fs)) (c : Cls K C) (n : NoAttr K C f) (l : fs.length < 1000) (e : putF f v fs = fs') (k : Kp O H) (hO : O a = none)
    (q : ∀ H', H' a = some (.ins C dx fs') → Kp O H' → Q σ H') : gFld K (tVar 0) f v σ H Q := ⟨_, s0, st_fld (Q := fun H' => Q σ H') ea c n l e k hO q⟩
theorem paired_mapM {α β : Type} {R S : α → β → Prop} : ∀ {as : List α} {bs : List β}, Paired R as bs → (∀ a b, b ∈ bs → R a b → S a b) → Paired S as bs
  | _, _, .nil, _ => .nil
  | _, _, .cons h t, q => .cons (q _ _ List.mem_cons_self h) (paired_mapM t fun a b m r => q a b (List.mem_cons_of_mem _ m) r)
theorem AlT.fill {K : PySem.W.Frag} {H H' : Hp} {al a dx : Addr} {Gs : List Fm} {fs fs' : List (Str × V)} (h : AlT K H al Gs) (ea : H a = some (.ins (He.ga K "Formula") dx fs)) (ea' : H' a = some (.ins (He.ga K "Formula") dx fs'))
    (es : ∀ G ∈ Gs, fs.lookup ("spelled" : Str) = some (.str (txt G)) → fs'.lookup ("spelled" : Str) = some (.str (txt G))) (k : Kp (off H a) H') : AlT K H' al Gs := by
  obtain ⟨bs, e, p⟩ := h.ex
  refine ⟨bs, k _ _ (off_keep e fun z => by rw [z, ea] at e; cases e), paired_mapM p fun b G hG ⟨dx', gs, e1, e2⟩ => ?_⟩
  by_cases hb : b = a
  · subst hb
    rw [ea] at e1
    cases e1
    exact ⟨_, _, ea', es G hG e2⟩
  · exact ⟨_, _, k _ _ (off_keep e1 hb), e2⟩
theorem AlT.als {K : PySem.W.Frag} {H : Hp} {al : Addr} {Gs : List Fm} {F : Fm} (h : AlT K H al Gs) (nd : Gs.Nodup) (sub : ∀ G ∈ Gs, G ∈ AB.alls F) : AlsOk K H al F := let ⟨bs, e, p⟩ := h.ex; ⟨bs, Gs, e, p, nd, sub⟩
section
variable {P : Program} {w : World} {K : PySem.W.Frag} {mg : Str → Option Value} {base : Heap} (T : Tx w K mg)
include T
theorem ok_init : FnR P w K mg base CX0 3 (f_Formula__init__ K) (fun vs H Q E => ∃ ws rest, vs = ws ++ rest ∧ ws.length = 2 ∧ rest.length ≤ sizeLine ∧ ∀ p, H p = none → spInit K (ws ++ [.ref p]) (upd H p (.tup rest)) Q E) := by
  obtain ⟨uAT, mAT, rAT⟩ := T.c_ATOM
  obtain ⟨uNO, mNO, rNO⟩ := T.c_NO
  obtain ⟨uIF, mIF, rIF⟩ := T.c_IF
  obtain ⟨uAL, mAL, rAL⟩ := T.c_ALL
  obtain ⟨uAH, mAH, rAH⟩ := T.c_ALL_AHEAD
  obtain ⟨uBE, mBE, rBE⟩ := T.c_BETWEEN
  obtain ⟨esP, nP, DP⟩ := T.dict_parts
  have gA := (ok_is_atom (P := P) (base := base) T).mono (show 1 ≤ 2 by decide)
  have gU := (ok_united (P := P) (base := base) T).mono (show 1 ≤ 2 by decide)
  have gM := (ok_merged (P := P) (base := base) T).mono (show 1 ≤ 2 by decide)
  obtain ⟨oc, od, kV, doc, pm, an, cdv, ct, osl, efd, lk, hcd⟩ := T.F_Formula__init__.ex
  rw [efd] at lk
  refine StX.fn_star (ps := ["self", "kind"]) (pv := "parts") lk hcd sc_init StX.cxUp_none (fun us rest hl => bd_init kV doc pm an cdv ct us rest hl) fun A outer s H vs Q E hr h => ⟨_, PSs.nox (
    pss_cons (ps_if (PW.pt (pw_or (pt_not (pt_val (pe_callB call_isi rfl T.b_isinstance (by decide +kernel) (pa_cons (pv 1) (pa_cons (pe_bltn rfl T.b_str (by decide +kernel) (v := .ty "str") (u := .type "str") rfl) pa_nil))))) (pw_or1 (pt_cmpR (op_notIn_kd DP) (pv 1) (pe_glob (v := .ref (He.ga K "PARTS_OF")) rfl T.g_PARTS_OF rfl) rfl)))) (pss_one ps_never) pss_nil)
    (pss_cons (ps_if (pt_cmpR op_ne (pe_callB call_len_seq rfl T.b_len boot_len (pa_cons (pv 2) pa_nil)) (pe_ix ix_kdict (pe_glob (v := .ref (He.ga K "PARTS_OF")) rfl T.g_PARTS_OF rfl) (pv 1) (fun _ _ => rfl)) (nomark _)) (pss_one ps_never) pss_nil)
    (pss_cons (ps_for PassesOwn.never rfl (pi_tup (pv 2)) (pg_name (i := 3) sc_init.nd rfl (Or.inl rfl)) (pss_one (ps_if (pt_not (pt_ifExp (pt_cmpR op_eq (pv 1) (pe_glob rfl mAT rAT) (nomark _)) (pt_val (pe_call gA hr rfl T.g_is_atom T.F_is_atom.kp (bd_is_atom T) .nil pass0 (pa_cons (pv 3) pa_nil))) (pt_val (pe_callB call_isi rfl T.b_isinstance (by decide +kernel) (pa_cons (pv 3) (pa_cons (pe_glob (v := .ref (He.ga K "Formula")) rfl T.g_Formula rfl) pa_nil)))))) (pss_one ps_never) pss_nil)))
    (pss_cons (ps_fld (pv 0) (pv 1) rfl)
    (pss_cons (ps_fld (pv 0) (pv 2) rfl)
    (pss_cons (ps_fld (pv 0) pe_int rfl)
    (pss_cons (ps_fld (pv 0) (pe_callTy call_int1 rfl T.b_int (by decide +kernel) (pa_cons (pe_cmpR op_eq (pv 1) (pe_glob rfl mAL rAL) (nomark _)) pa_nil)) rfl)
    (pss_cons (ps_asg2 pe_str (pg_fld (pv 0)) (pg_fld (pv 0)))
    (pss_cons (ps_asg (pe_tup (pa_cons (pe_glob rfl mNO rNO) (pa_cons (pe_tup pa_nil) pa_nil))) (pg_tup rfl (pgs_cons (pg_fld (pv 0)) (pgs_cons (pg_fld (pv 0)) pgs_nil))))
    (pss_one (ps_if (pt_cmpR op_eq (pv 1) (pe_glob rfl mAT rAT) (nomark _)) (pss_one (ps_asg3 (pe_ix ix_tup (pv 2) pe_int (fun _ _ => rfl)) (pg_fld (pv 0)) (pg_fld (pv 0)) (pg_fld (pv 0))))
      (pss_one (ps_if (pt_cmpR op_eq (pv 1) (pe_glob rfl mAL rAL) (nomark _))
        (pss_cons (ps_set (i := 4) sc_init.nd rfl (Or.inl rfl) (pe_ix ix_tup (pv 2) pe_int (fun _ _ => rfl)))
        (pss_cons (ps_asg (pe_tup (pa_cons (pe_op op_add pe_int (pe_fld (pv 4) rfl)) (pa_cons (pe_op op_add pe_int (pe_fld (pv 4) rfl)) pa_nil))) (pg_tup rfl (pgs_cons (pg_fld (pv 0)) (pgs_cons (pg_fld (pv 0)) pgs_nil))))
        (pss_cons (ps_asg (pe_tup (pa_cons (pe_fld (pv 4) rfl) (pa_cons (pe_op op_add_str (pe_glob rfl mAH rAH) (pe_fld (pv 4) rfl)) pa_nil))) (pg_tup rfl (pgs_cons (pg_fld (pv 0)) (pgs_cons (pg_fld (pv 0)) pgs_nil))))
        (pss_one (ps_fld (pv 0) (pe_call gM hr rfl T.g_merged T.F_merged.kp (bd_merged T) .nil pass0 (pa_cons (pe_fld (pv 4) rfl) (pa_cons (pe_tup (pa_cons (pv 0) pa_nil)) pa_nil))) rfl)))))
        (pss_one (ps_if (pt_cmpR op_eq (pv 1) (pe_glob rfl mIF rIF) (nomark _))
          (pss_cons (ps_asg (pv 2) (pg_tup rfl (pgs_cons (pg_name (i := 5) sc_init.nd rfl (Or.inl rfl)) (pgs_cons (pg_name (i := 6) sc_init.nd rfl (Or.inl rfl)) pgs_nil))))
          (pss_cons (ps_asg (pe_tup (pa_cons (pe_op op_add (pe_op op_add pe_int (pe_fld (pv 5) rfl)) (pe_fld (pv 6) rfl)) (pa_cons (pe_callB (call_max2 rfl) rfl T.b_max (by decide +kernel) (pa_cons (pe_fld (pv 5) rfl) (pa_cons (pe_fld (pv 6) rfl) pa_nil))) pa_nil))) (pg_tup rfl (pgs_cons (pg_fld (pv 0)) (pgs_cons (pg_fld (pv 0)) pgs_nil))))
          (pss_cons (ps_fld (pv 0) (pe_call gU hr rfl T.g_united T.F_united.kp (bd_united T) .nil pass0 (pa_cons (pe_fld (pv 5) rfl) (pa_cons (pe_fld (pv 6) rfl) pa_nil))) rfl)
          (pss_cons (ps_fld (pv 0) (pe_call gU hr rfl T.g_united T.F_united.kp (bd_united T) .nil pass0 (pa_cons (pe_fld (pv 5) rfl) (pa_cons (pe_fld (pv 6) rfl) pa_nil))) rfl)
          (pss_cons (ps_fld (pv 0) (pe_call gM hr rfl T.g_merged T.F_merged.kp (bd_merged T) .nil pass0 (pa_cons (pe_fld (pv 5) rfl) (pa_cons (pe_fld (pv 6) rfl) pa_nil))) rfl)
          (pss_one (ps_fld (pv 0) (pe_joined (.cons pe_str (.cons (pe_fmt (pe_fld (pv 5) rfl)) (.cons (pe_fmt (pe_glob rfl mBE rBE)) (.cons (pe_fmt (pe_fld (pv 6) rfl)) (.cons pe_str .nil)))))) rfl)))))))
          pss_nil))))))))))))))), ?_⟩
  obtain ⟨a, dx, p, F, ps, ev, ea, ep, hps, hal, hsz, q⟩ := h
  cases ev
  have hkin : ∃ n : Nat, ((kindS F : Str), He.Dv.int n) ∈ ([("atom", .int 1), ("no", .int 0), ("if", .int 2), ("all", .int 1)] : List (Str × He.Dv)) ∧ ps.length = n := by
    cases F with
    | atm x => exact ⟨1, by simp [kindS], by rw [show ps = _ from hps]; rfl⟩
    | no => exact ⟨0, by simp [kindS], by rw [show ps = _ from hps]; rfl⟩
    | imp f g => obtain ⟨b, c, e, _⟩ := hps; exact ⟨2, by simp [kindS], by rw [e]; rfl⟩
    | all f => obtain ⟨b, e, _⟩ := hps; exact ⟨1, by simp [kindS], by rw [e]; rfl⟩
  obtain ⟨n, hin, hn⟩ := hkin
  obtain ⟨u, nsu, ru⟩ := T.vals_parts hin
  refine ⟨_, rfl, ?_⟩
  refine ⟨_, _, _, _, true, rfl, .ty "str", .base (.str _), kit_ty (by decide +kernel), ?_⟩
  refine ⟨true, rfl, ite2 (fun z => nomatch z) fun _ => ?_⟩
  refine ⟨_, rfl, _, some u, rfl, rfl, nsu, _, rfl, ite2 (fun z => nomatch z) fun _ => ?_⟩
  refine ⟨_, rfl, p, ps, rfl, .inr (SqT.of ep), ?_⟩
  refine ⟨_, rfl, _, _, _, rfl, rfl, ⟨_, _, u, DP.at_, DP.lit, nsu, ru⟩, ?_⟩
  refine ⟨rfl, _, rfl, ite2 (fun z => ?_) fun _ => ?_⟩
  · rw [hn] at z
    have : decide (V.int (n : Int) = V.int (n : Int)) = true := decide_eq_true rfl
    exact absurd z (by rw [show (He.Dv.int (n : Int)).v K = V.int (n : Int) from rfl, this]; exact nofun)
  refine ⟨_, rfl, p, rfl, ⟨_, SqT.of ep⟩, ?_⟩
  refine for_tup (K := K) (a := p) (xs := ps) (fun _ σ H' => (∃ z, σ = [some (.ref a), some (.str (kindS F)), some (.ref p), z, none, none, none]) ∧ H' = H) ⟨⟨_, rfl⟩, rfl⟩ (fun i σ H' _ h => by rw [h.2]; exact SqT.of ep) ?_ ?_
  · rintro i x σ H' hx ⟨⟨z, rfl⟩, rfl⟩
    refine ⟨_, rfl, rfl, _, rfl, ?_⟩
    have fin : ∀ b : Addr, ∀ G : Fm, x = .ref b → FoAt K H' G b → ∃ (y c : V) (t u : Value) (bb : Bool), [x, V.ref (He.ga K "Formula")] = [y, c] ∧ ClsV c u ∧ TyX K H' y t ∧ PySem.W.kitOne K t u = some bb ∧ bb = true := fun b G ex hG => by
      obtain ⟨pp, hf⟩ := hG.fo
      obtain ⟨dxx, _, _, _, _, _, _, e1, _⟩ := hf.ex
      subst ex
      exact ⟨_, _, _, _, true, rfl, .own _, .base (T.ty_of T.cls_Formula e1), (by unfold PySem.W.kitOne; rw [if_pos (beq_self_eq_true _)]), rfl⟩
    cases F with
    | atm y =>
      obtain rfl : ps = _ := hps
      obtain rfl : x = .str (letS y) := by
        cases i with
        | zero => exact (Option.some.inj hx).symm
        | succ i => cases hx
      refine ite2 (fun _ => ?_) fun hh => absurd rfl hh
      refine ⟨_, rfl, y, rfl, _, rfl, ite2 (fun z => nomatch z) fun _ => ⟨⟨_, rfl⟩, rfl⟩⟩
    | no => obtain rfl : ps = _ := hps; cases hx
    | imp f g =>
      obtain ⟨b, c, rfl, hb, hc⟩ := hps
      have hx2 : ∃ d G, x = .ref d ∧ FoAt K H' G d := by
        match i, hx with
        | 0, hx => exact ⟨b, f, (Option.some.inj hx).symm, hb⟩
        | 1, hx => exact ⟨c, g, (Option.some.inj hx).symm, hc⟩
      obtain ⟨d, G, ex, hG⟩ := hx2
      obtain ⟨y, c', t, u', bb, e1, e2, e3, e4, rfl⟩ := fin d G ex hG
      refine ite2 (fun hh => absurd (V.str.inj (of_decide_eq_true hh)) (show ¬ ((Str.ofString "if") = Str.ofString "atom") by decide +kernel)) fun _ => ?_
      refine ⟨_, rfl, y, c', t, u', true, e1, e2, e3, e4, _, rfl, ite2 (fun z => nomatch z) fun _ => ⟨⟨_, rfl⟩, rfl⟩⟩
    | all f =>
      obtain ⟨b, rfl, hb⟩ := hps
      have hx2 : ∃ d G, x = .ref d ∧ FoAt K H' G d := by
        match i, hx with
        | 0, hx => exact ⟨b, f, (Option.some.inj hx).symm, hb⟩
      obtain ⟨d, G, ex, hG⟩ := hx2
      obtain ⟨y, c', t, u', bb, e1, e2, e3, e4, rfl⟩ := fin d G ex hG
      refine ite2 (fun hh => absurd (V.str.inj (of_decide_eq_true hh)) (show ¬ ((Str.ofString "all") = Str.ofString "atom") by decide +kernel)) fun _ => ?_
      refine ⟨_, rfl, y, c', t, u', true, e1, e2, e3, e4, _, rfl, ite2 (fun z => nomatch z) fun _ => ⟨⟨_, rfl⟩, rfl⟩⟩
  · rintro σ H' ⟨⟨z, rfl⟩, rfl⟩
    refine ⟨_, rfl, _, rfl, st_fld ea T.cls_Formula T.na_Formula_kind (by decide) rfl (kp_off _ _) off_self fun H1 e1 k1 => ?_⟩
    refine ⟨_, rfl, _, rfl, st_fld (fs' := [("kind", .str (kindS F)), ("parts", .ref p)]) e1 T.cls_Formula T.na_Formula_parts (Nat.succ_lt_succ (Nat.succ_pos _)) rfl k1 off_self fun H2 e2 k2 => ?_⟩
    refine ⟨_, rfl, st_fld (fs' := [("kind", .str (kindS F)), ("parts", .ref p), ("many", .int 1)]) e2 T.cls_Formula T.na_Formula_many (by show 2 < 1000; omega) rfl k2 off_self fun H3 e3 k3 => ?_⟩
    refine ⟨_, rfl, rfl, .inr ⟨_, rfl, _, rfl, st_fld (fs' := [("kind", .str (kindS F)), ("parts", .ref p), ("many", .int 1), ("deepest", .int (if decide (V.str (kindS F) = V.str "all") = true then 1 else 0))]) e3 T.cls_Formula T.na_Formula_deepest (by show 3 < 1000; omega) rfl k3 off_self fun H4 e4 k4 => ?_⟩⟩
    generalize hd0 : (if decide (V.str (kindS F) = V.str "all") = true then (1 : Int) else 0) = d0 at e4
    dsimp only [tSeq, tAsg2, tC]
    refine gf_fld (fs' := [("kind", .str (kindS F)), ("parts", .ref p), ("many", .int 1), ("deepest", .int d0), ("atoms", .str "")]) rfl e4 T.cls_Formula T.na_Formula_atoms (by show 4 < 1000; omega) rfl k4 off_self fun H5 e5 k5 => ?_
    refine gf_fld (fs' := [("kind", .str (kindS F)), ("parts", .ref p), ("many", .int 1), ("deepest", .int d0), ("atoms", .str ""), ("bare", .str "")]) rfl e5 T.cls_Formula T.na_Formula_bare (by show 5 < 1000; omega) rfl k5 off_self fun H6 e6 k6 => ?_
    refine ⟨Nat.zero_le _, fun p0 hp0 => ⟨by show 2 ≤ sizeLine; decide +kernel, fun p1 hp1 => ?_⟩⟩
    have k7 := kp_up (o := .tup [.str "no", .ref p0]) (kp_up (o := .tup []) k6 hp0) hp1
    have e7 := up_keep (o' := .tup [.str "no", .ref p0]) (up_keep (o' := .tup []) e6 hp0) hp1
    have q7 : upd (upd H6 p0 (.tup [])) p1 (.tup [.str "no", .ref p0]) p0 = some (.tup []) := up_keep upd_same hp1
    have q8 : upd (upd H6 p0 (.tup [])) p1 (.tup [.str "no", .ref p0]) p1 = some (.tup [.str "no", .ref p0]) := upd_same
    generalize upd (upd H6 p0 (.tup [])) p1 (.tup [.str "no", .ref p0]) = H7 at e7 q7 q8 k7 ⊢
    refine ⟨p1, _, rfl, SqT.of q8, rfl, ?_⟩
    refine ⟨_, _, rfl, ?_⟩
    refine gf_fld (fs' := [("kind", .str (kindS F)), ("parts", .ref p), ("many", .int 1), ("deepest", .int d0), ("atoms", .str ""), ("bare", .str ""), ("spelled", .str "no")]) rfl e7 T.cls_Formula T.na_Formula_spelled (by show 6 < 1000; omega) rfl (kp_off _ _) off_self fun H8 e8 k8 => ?_
    refine ⟨_, _, rfl, ?_⟩
    refine gf_fld (fs' := [("kind", .str (kindS F)), ("parts", .ref p), ("many", .int 1), ("deepest", .int d0), ("atoms", .str ""), ("bare", .str ""), ("spelled", .str "no"), ("alls_known", .ref p0)]) rfl e8 T.cls_Formula T.na_Formula_alls_known (by show 7 < 1000; omega) rfl k8 off_self fun H9 e9 k9 => ?_
    refine ⟨rfl, ?_⟩
    have kO : Kp (off H' a) (off H7 a) := kp_off2 k7 off_self
    have pO : off H7 a p = some (.tup ps) := kO _ _ (off_tup ea ep)
    have p0O : off H7 a p0 = some (.tup []) := off_keep q7 fun z => by rw [z, e7] at q7; cases q7
    have fin : ∀ H2, Kp (off H7 a) H2 → FoAt K H2 F a → Q .non H2 := fun H2 k hF => q H2 hF fun b o e hb => k _ _ (kO _ _ (off_keep e hb))
    have fO : ∀ {b : Addr} {G : Fm}, FoAt K H' G b → FoAt K (off H7 a) G b := fun h => (h.off ea).kf (KF.of kO)
    clear k7 k6 k5 k4 k3 k2 k1 e1 e2 e3 e4 e5 e6 e8 k8 hp0 hp1
    have ntest : ∀ {x y : Str}, x ≠ y → ¬ decide (V.str x = V.str y) = true := fun h z => h (V.str.inj (of_decide_eq_true z))
    have nAL : ∀ {F : Fm}, (∃ d, FoAt K H' F d) → AB.alls F = AB.alls F := fun _ => rfl
    cases F with
    | atm x =>
      obtain rfl : ps = [.str (letS x)] := hps
      subst hd0
      refine ⟨_, rfl, rfl, _, rfl, ite2 (fun _ => ?_) fun hh => absurd (decide_eq_true rfl) hh⟩
      refine ⟨_, rfl, p, _, 0, _, rfl, rfl, SqT.of (k9 _ _ pO), rfl, ?_⟩
      refine gf_fld (fs' := [("kind", .str "atom"), ("parts", .ref p), ("many", .int 1), ("deepest", .int 0), ("atoms", .str (letS x)), ("bare", .str ""), ("spelled", .str "no"), ("alls_known", .ref p0)]) rfl e9 T.cls_Formula T.na_Formula_atoms (by show 8 < 1000; omega) rfl k9 off_self fun H1 e1 k1 => ?_
      refine gf_fld (fs' := [("kind", .str "atom"), ("parts", .ref p), ("many", .int 1), ("deepest", .int 0), ("atoms", .str (letS x)), ("bare", .str (letS x)), ("spelled", .str "no"), ("alls_known", .ref p0)]) rfl e1 T.cls_Formula T.na_Formula_bare (by show 8 < 1000; omega) rfl k1 off_self fun H2 e2 k2 => ?_
      refine gf_fld (fs' := [("kind", .str "atom"), ("parts", .ref p), ("many", .int 1), ("deepest", .int 0), ("atoms", .str (letS x)), ("bare", .str (letS x)), ("spelled", .str (letS x)), ("alls_known", .ref p0)]) rfl e2 T.cls_Formula T.na_Formula_spelled (by show 8 < 1000; omega) rfl k2 off_self fun H3 e3 k3 => ?_
      exact fin H3 k3 (show Fo K H3 a (.atm x) [.str (letS x)] from ⟨dx, p, p0, 1, 0, letS x, letS x, e3, k3 _ _ pO, LetOk.one x, LetOk.one x, [], [], k3 _ _ p0O, .nil, List.nodup_nil, fun G h => by cases h⟩)
    | no =>
      obtain rfl : ps = [] := hps
      subst hd0
      refine ⟨_, rfl, rfl, _, rfl, ite2 (fun hh => absurd hh (ntest (show ¬ ((Str.ofString "no") = Str.ofString "atom") by decide +kernel))) fun _ => ?_⟩
      refine ⟨_, rfl, rfl, _, rfl, ite2 (fun hh => absurd hh (ntest (show ¬ ((Str.ofString "no") = Str.ofString "all") by decide +kernel))) fun _ => ?_⟩
      refine ⟨_, rfl, rfl, _, rfl, ite2 (fun hh => absurd hh (ntest (show ¬ ((Str.ofString "no") = Str.ofString "if") by decide +kernel))) fun _ => ?_⟩
      exact fin H9 k9 (show Fo K H9 a .no [] from ⟨dx, p, p0, 1, 0, "", "", e9, k9 _ _ pO, LetOk.nil, LetOk.nil, [], [], k9 _ _ p0O, .nil, List.nodup_nil, fun G h => by cases h⟩)
    | all f =>
      obtain ⟨b, rfl, hb⟩ := hps
      subst hd0
      have hbO := fO hb
      obtain ⟨fp, hf⟩ := hbO.fo
      obtain ⟨dxb, pt, al, m, d, ax, ay, eb, ept, lx, ly, hals⟩ := hf.ex
      have len6 := txt_len f
      have hszf : AB.size f + 1 ≤ 1000 := hsz
      refine ⟨_, rfl, rfl, _, rfl, ite2 (fun hh => absurd hh (ntest (show ¬ ((Str.ofString "all") = Str.ofString "atom") by decide +kernel))) fun _ => ?_⟩
      refine ⟨_, rfl, rfl, _, rfl, ite2 (fun _ => ?_) fun hh => absurd (decide_eq_true rfl) hh⟩
      refine ⟨_, rfl, p, _, 0, _, rfl, rfl, SqT.of (k9 _ _ pO), rfl, ?_⟩
      refine ⟨_, rfl, b, _, dxb, _, _, rfl, k9 _ _ eb, T.cls_Formula, T.na_Formula_many, rfl, ?_⟩
      refine ⟨_, _, rfl, rfl, ?_⟩
      refine ⟨_, rfl, b, _, dxb, _, _, rfl, k9 _ _ eb, T.cls_Formula, T.na_Formula_deepest, rfl, ?_⟩
      refine ⟨_, _, rfl, rfl, ?_⟩
      refine ⟨by show 2 ≤ sizeLine; decide +kernel, fun p2 hp2 => ?_⟩
      have k10 := kp_up (o := .tup [.int (1 + m), .int (1 + d)]) k9 hp2
      have e10 := up_keep (o' := .tup [.int (1 + m), .int (1 + d)]) e9 hp2
      refine ⟨p2, _, rfl, SqT.of upd_same, rfl, ?_⟩
      refine ⟨_, _, rfl, ?_⟩
      refine gf_fld (fs' := [("kind", .str "all"), ("parts", .ref p), ("many", .int (1 + m)), ("deepest", .int 1), ("atoms", .str ""), ("bare", .str ""), ("spelled", .str "no"), ("alls_known", .ref p0)]) rfl e10 T.cls_Formula T.na_Formula_many (by show 8 < 1000; omega) rfl k10 off_self fun H11 e11 k11 => ?_
      refine ⟨_, _, rfl, ?_⟩
      refine gf_fld (fs' := [("kind", .str "all"), ("parts", .ref p), ("many", .int (1 + m)), ("deepest", .int (1 + d)), ("atoms", .str ""), ("bare", .str ""), ("spelled", .str "no"), ("alls_known", .ref p0)]) rfl e11 T.cls_Formula T.na_Formula_deepest (by show 8 < 1000; omega) rfl k11 off_self fun H12 e12 k12 => ?_
      refine ⟨rfl, ?_⟩
      refine ⟨_, rfl, b, _, dxb, _, _, rfl, k12 _ _ eb, T.cls_Formula, T.na_Formula_atoms, rfl, ?_⟩
      refine ⟨_, rfl, b, _, dxb, _, _, rfl, k12 _ _ eb, T.cls_Formula, T.na_Formula_spelled, rfl, ?_⟩
      refine ⟨_, _, rfl, rfl, ?_, ?_⟩
      · have e0 : (Str.ofString "all ").length = 4 := by decide +kernel
        rw [e0, sizeLine_eq]; omega
      refine ⟨by show 2 ≤ sizeLine; decide +kernel, fun p3 hp3 => ?_⟩
      have k13 := kp_up (o := .tup [.str ax, .str ("all " ++ txt f)]) k12 hp3
      have e13 := up_keep (o' := .tup [.str ax, .str ("all " ++ txt f)]) e12 hp3
      refine ⟨p3, _, rfl, SqT.of upd_same, rfl, ?_⟩
      refine ⟨_, _, rfl, ?_⟩
      refine gf_fld (fs' := [("kind", .str "all"), ("parts", .ref p), ("many", .int (1 + m)), ("deepest", .int (1 + d)), ("atoms", .str ax), ("bare", .str ""), ("spelled", .str "no"), ("alls_known", .ref p0)]) rfl e13 T.cls_Formula T.na_Formula_atoms (by show 8 < 1000; omega) rfl k13 off_self fun H14 e14 k14 => ?_
      refine ⟨_, _, rfl, ?_⟩
      refine gf_fld (fs' := [("kind", .str "all"), ("parts", .ref p), ("many", .int (1 + m)), ("deepest", .int (1 + d)), ("atoms", .str ax), ("bare", .str ""), ("spelled", .str ("all " ++ txt f)), ("alls_known", .ref p0)]) rfl e14 T.cls_Formula T.na_Formula_spelled (by show 8 < 1000; omega) rfl k14 off_self fun H15 e15 k15 => ?_
      refine ⟨rfl, ?_⟩
      refine ⟨_, rfl, b, _, dxb, _, _, rfl, k15 _ _ eb, T.cls_Formula, T.na_Formula_alls_known, rfl, ?_⟩
      refine ⟨_, rfl, by show 1 ≤ sizeLine; decide +kernel, fun p4 hp4 => ?_⟩
      have k16 := kp_up (o := .tup [.ref a]) k15 hp4
      have e16 := up_keep (o' := .tup [.ref a]) e15 hp4
      have e17 : upd H15 p4 (.tup [.ref a]) p4 = some (.tup [.ref a]) := upd_same
      generalize upd H15 p4 (.tup [.ref a]) = H16 at k16 e16 e17 ⊢
      obtain ⟨bs, Gs, eal, pr, nd, sub⟩ := (hals.kf (KF.of k16)).ex
      have hGl : Gs.length ≤ (AB.alls f).length := List.Nodup.length_le_of_subset nd sub
      have hal' : (AB.alls f).length + 1 < 60 := hal
      refine ⟨al, p4, Gs, [.all f], rfl, ⟨bs, eal, pr⟩, ⟨[a], e17, .cons ⟨dx, _, e16, rfl⟩ .nil⟩, nd, (by simp), ?_, fun al' H17 Gs' hA' nd' sub' kk => ?_⟩
      · rw [List.length_singleton]; omega
      have e17b := kk _ _ e16
      have kB := (k16.trans kk)
      refine ⟨_, rfl, st_fld (fs' := [("kind", .str "all"), ("parts", .ref p), ("many", .int (1 + m)), ("deepest", .int (1 + d)), ("atoms", .str ax), ("bare", .str ""), ("spelled", .str ("all " ++ txt f)), ("alls_known", .ref al')]) e17b T.cls_Formula T.na_Formula_alls_known (by show 8 < 1000; omega) rfl (kp_off _ _) off_self fun H18 e18 k18 => ?_⟩
      have k19 : Kp (off H7 a) H18 := (kp_off2 kB off_self).trans k18
      refine fin H18 k19 ⟨b, ⟨dx, p, al', 1 + m, 1 + d, ax, "", e18, k19 _ _ pO, lx, LetOk.nil, (hA'.fill e17b e18 (fun _ _ e => e) k18).als nd' fun G hG => ?_⟩, hbO.kf (KF.of k19)⟩
      rcases sub' G hG with z | z
      · simp [AB.alls, sub G z]
      · rw [List.mem_singleton.mp z]; simp [AB.alls]
    | imp f g =>
      obtain ⟨b, c, rfl, hb, hc⟩ := hps
      subst hd0
      have hbO := fO hb
      have hcO := fO hc
      obtain ⟨fp, hf⟩ := hbO.fo
      obtain ⟨gp, hg⟩ := hcO.fo
      obtain ⟨dxb, pt, al, m, d, ax, ay, eb, ept, lx, ly, hals⟩ := hf.ex
      obtain ⟨dxc, pt', bl, m', d', bx, by', ec, ept', lx', ly', hals'⟩ := hg.ex
      have len6 := txt_len f
      have len7 := txt_len g
      have hszf : AB.size f + AB.size g + 1 ≤ 1000 := by simpa [AB.size, Nat.add_comm, Nat.add_left_comm, Nat.add_assoc] using hsz
      have hal' : (AB.alls f).length + (AB.alls g).length < 60 := hal
      refine ⟨_, rfl, rfl, _, rfl, ite2 (fun hh => absurd hh (ntest (show ¬ ((Str.ofString "if") = Str.ofString "atom") by decide +kernel))) fun _ => ?_⟩
      refine ⟨_, rfl, rfl, _, rfl, ite2 (fun hh => absurd hh (ntest (show ¬ ((Str.ofString "if") = Str.ofString "all") by decide +kernel))) fun _ => ?_⟩
      refine ⟨_, rfl, rfl, _, rfl, ite2 (fun _ => ?_) fun hh => absurd (decide_eq_true rfl) hh⟩
      refine ⟨_, rfl, p, _, rfl, SqT.of (k9 _ _ pO), rfl, ?_⟩
      refine ⟨_, _, rfl, _, _, rfl, rfl, ?_⟩
      refine ⟨_, rfl, b, _, dxb, _, _, rfl, k9 _ _ eb, T.cls_Formula, T.na_Formula_many, rfl, ?_⟩
      refine ⟨_, _, rfl, rfl, ?_⟩
      refine ⟨_, rfl, c, _, dxc, _, _, rfl, k9 _ _ ec, T.cls_Formula, T.na_Formula_many, rfl, ?_⟩
      refine ⟨_, _, rfl, rfl, ?_⟩
      refine ⟨_, rfl, b, _, dxb, _, _, rfl, k9 _ _ eb, T.cls_Formula, T.na_Formula_deepest, rfl, ?_⟩
      refine ⟨_, rfl, c, _, dxc, _, _, rfl, k9 _ _ ec, T.cls_Formula, T.na_Formula_deepest, rfl, ?_⟩
      refine ⟨_, _, rfl, ?_⟩
      generalize (if d' > d then d' else d) = d2
      refine ⟨by show 2 ≤ sizeLine; decide +kernel, fun p2 hp2 => ?_⟩
      have k10 := kp_up (o := .tup [.int (1 + m + m'), .int d2]) k9 hp2
      have e10 := up_keep (o' := .tup [.int (1 + m + m'), .int d2]) e9 hp2
      refine ⟨p2, _, rfl, SqT.of upd_same, rfl, ?_⟩
      refine ⟨_, _, rfl, ?_⟩
      refine gf_fld (fs' := [("kind", .str "if"), ("parts", .ref p), ("many", .int (1 + m + m')), ("deepest", .int 0), ("atoms", .str ""), ("bare", .str ""), ("spelled", .str "no"), ("alls_known", .ref p0)]) rfl e10 T.cls_Formula T.na_Formula_many (by show 8 < 1000; omega) rfl k10 off_self fun H11 e11 k11 => ?_
      refine ⟨_, _, rfl, ?_⟩
      refine gf_fld (fs' := [("kind", .str "if"), ("parts", .ref p), ("many", .int (1 + m + m')), ("deepest", .int d2), ("atoms", .str ""), ("bare", .str ""), ("spelled", .str "no"), ("alls_known", .ref p0)]) rfl e11 T.cls_Formula T.na_Formula_deepest (by show 8 < 1000; omega) rfl k11 off_self fun H12 e12 k12 => ?_
      refine ⟨rfl, ?_⟩
      refine ⟨_, rfl, b, _, dxb, _, _, rfl, k12 _ _ eb, T.cls_Formula, T.na_Formula_atoms, rfl, ?_⟩
      refine ⟨_, rfl, c, _, dxc, _, _, rfl, k12 _ _ ec, T.cls_Formula, T.na_Formula_atoms, rfl, ?_⟩
      refine ⟨_, _, rfl, lx, lx', fun z1 H13 lz1 kk13 => ?_⟩
      refine ⟨_, rfl, st_fld (fs' := [("kind", .str "if"), ("parts", .ref p), ("many", .int (1 + m + m')), ("deepest", .int d2), ("atoms", .str z1), ("bare", .str ""), ("spelled", .str "no"), ("alls_known", .ref p0)]) (kk13 _ _ e12) T.cls_Formula T.na_Formula_atoms (by show 8 < 1000; omega) rfl (k12.trans kk13) off_self fun H14 e14 k14 => ?_⟩
      refine ⟨_, rfl, b, _, dxb, _, _, rfl, k14 _ _ eb, T.cls_Formula, T.na_Formula_bare, rfl, ?_⟩
      refine ⟨_, rfl, c, _, dxc, _, _, rfl, k14 _ _ ec, T.cls_Formula, T.na_Formula_bare, rfl, ?_⟩
      refine ⟨_, _, rfl, ly, ly', fun z2 H15 lz2 kk15 => ?_⟩
      refine ⟨_, rfl, st_fld (fs' := [("kind", .str "if"), ("parts", .ref p), ("many", .int (1 + m + m')), ("deepest", .int d2), ("atoms", .str z1), ("bare", .str z2), ("spelled", .str "no"), ("alls_known", .ref p0)]) (kk15 _ _ e14) T.cls_Formula T.na_Formula_bare (by show 8 < 1000; omega) rfl (k14.trans kk15) off_self fun H16 e16 k16 => ?_⟩
      refine ⟨_, rfl, b, _, dxb, _, _, rfl, k16 _ _ eb, T.cls_Formula, T.na_Formula_alls_known, rfl, ?_⟩
      refine ⟨_, rfl, c, _, dxc, _, _, rfl, k16 _ _ ec, T.cls_Formula, T.na_Formula_alls_known, rfl, ?_⟩
      obtain ⟨bs, Gs, eal, pr, nd, sub⟩ := (hals.kf (KF.of k16)).ex
      obtain ⟨cs, Js, ebl, pr', nj, sub'⟩ := (hals'.kf (KF.of k16)).ex
      have hGl : Gs.length ≤ (AB.alls f).length := List.Nodup.length_le_of_subset nd sub
      have hJl : Js.length ≤ (AB.alls g).length := List.Nodup.length_le_of_subset nj sub'
      refine ⟨al, bl, Gs, Js, rfl, ⟨bs, eal, pr⟩, ⟨cs, ebl, pr'⟩, nd, nj, by omega, fun al' H17 Gs' hA' nd' subA kk => ?_⟩
      have e17 := kk _ _ e16
      have kO2 := kp_off2 (k16.trans kk) off_self
      refine ⟨_, rfl, st_fld (fs' := [("kind", .str "if"), ("parts", .ref p), ("many", .int (1 + m + m')), ("deepest", .int d2), ("atoms", .str z1), ("bare", .str z2), ("spelled", .str "no"), ("alls_known", .ref al')]) e17 T.cls_Formula T.na_Formula_alls_known (by show 8 < 1000; omega) rfl (kp_off _ _) off_self fun H18 e18 k18 => ?_⟩
      have hA18 := hA'.fill e17 e18 (fun _ _ e => e) k18
      have k18' := kO2.trans k18
      have hbl : (Str.empty).length = 0 := rfl
      have el1 : (Str.ofString "(").length = 1 := by decide +kernel
      have el2 : (Str.ofString " > ").length = 3 := by decide +kernel
      have el3 : (Str.ofString ")").length = 1 := by decide +kernel
      have ela : ∀ x y : Str, (x ++ y).length = x.length + y.length := fun x y => by
        show (x ++ y).cps.size = _
        rw [cps_append, Array.size_append]; rfl
      have e18b := k18' _ _ eb
      have e18c := k18' _ _ ec
      refine ⟨_, rfl, by simp only [ela, hbl, el1]; rw [sizeLine_eq]; omega, ?_⟩
      refine ⟨_, rfl, b, _, dxb, _, _, rfl, e18b, T.cls_Formula, T.na_Formula_spelled, rfl, .inl ⟨_, rfl, by rw [sizeLine_eq]; omega, ?_⟩⟩
      refine ⟨_, rfl, by simp only [ela, hbl, el1]; rw [sizeLine_eq]; omega, ?_⟩
      refine .inl ⟨_, rfl, by rw [el2, sizeLine_eq]; omega, ?_⟩
      refine ⟨_, rfl, by simp only [ela, hbl, el1, el2]; rw [sizeLine_eq]; omega, ?_⟩
      refine ⟨_, rfl, c, _, dxc, _, _, rfl, e18c, T.cls_Formula, T.na_Formula_spelled, rfl, .inl ⟨_, rfl, by rw [sizeLine_eq]; omega, ?_⟩⟩
      refine ⟨_, rfl, by simp only [ela, hbl, el1, el2]; rw [sizeLine_eq]; omega, ?_⟩
      refine ⟨_, rfl, by simp only [ela, hbl, el1, el2, el3]; rw [sizeLine_eq]; omega, ?_⟩
      refine ⟨_, rfl, st_fld (fs' := [("kind", .str "if"), ("parts", .ref p), ("many", .int (1 + m + m')), ("deepest", .int d2), ("atoms", .str z1), ("bare", .str z2), ("spelled", .str (txt (.imp f g))), ("alls_known", .ref al')]) e18 T.cls_Formula T.na_Formula_spelled (by show 8 < 1000; omega) rfl (kp_off _ _) off_self fun H19 e19 k19 => ?_⟩
      have k20 : Kp (off H7 a) H19 := (kp_off2 k18' off_self).trans k19
      have subB : ∀ G ∈ Gs', G ∈ AB.alls (.imp f g) := fun G hG => by
        have hs : G ∈ AB.alls f ∨ G ∈ AB.alls g := (subA G hG).imp (sub G) (sub' G)
        simp only [AB.alls, List.mem_append, List.mem_filter, decide_eq_true_eq]
        by_cases hf : G ∈ AB.alls f
        · exact .inl hf
        · exact .inr ⟨hs.resolve_left hf, hf⟩
      refine fin H19 k20 ⟨b, c, ⟨dx, p, al', 1 + m + m', d2, z1, z2, e19, k20 _ _ pO, lz1, lz2, (hA18.fill e18 e19 (fun G hG e => ?_) k19).als nd' subB⟩, hbO.kf (KF.of k20), hcO.kf (KF.of k20)⟩
      have e' : V.str "no" = V.str (txt G) := Option.some.inj e
      have e2 : G = .no := (txt_inj (F := .no) (G := G) (V.str.inj e')).symm
      have := (AB.mem_alls (.imp f g) G).mp (subB G hG)
      rw [e2] at this
      exact absurd this.2 (by decide)
end
end AT
end
section
set_option Elab.async false
set_option linter.all false
set_option maxRecDepth 100000
/-! atom, no, every, as_formula, operand, `Formula.__rshift__`. -/
namespace AT
open PySem PySem.Spec PyProof.Rows L2
open AB (Fm At Drv)
theorem PtsOk.kf {K : PySem.W.Frag} {H H' : Hp} (k : KF H H') : ∀ {F : Fm} {ps : List V}, PtsOk K H F ps → PtsOk K H' F ps
  | .atm _, _, h => h
  | .no, _, h => h
  | .imp _ _, _, ⟨b, c, e, h1, h2⟩ => ⟨b, c, e, h1.kf k, h2.kf k⟩
  | .all _, _, ⟨b, e, h1⟩ => ⟨b, e, h1.kf k⟩
theorem PtsOk.len {K : PySem.W.Frag} {H : Hp} : ∀ {F : Fm} {ps : List V}, PtsOk K H F ps → ps.length ≤ 2
  | .atm _, _, h => by rw [show _ = _ from h]; exact Nat.le_succ 1
  | .no, _, h => by rw [show _ = _ from h]; exact Nat.zero_le 2
  | .imp _ _, _, ⟨b, c, e, h1, h2⟩ => by rw [e]; exact Nat.le_refl 2
  | .all _, _, ⟨b, e, h1⟩ => by rw [e]; exact Nat.le_succ 1
/-! ### an operator that an own class defines, both sides of that class -/
section
open PySem.W
variable {prog : Program} {w : World} {A : Around} {E : Value → Shared → Prop} {s : Shared} {K : PySem.W.Frag} {x y C f : Addr} {ox oy : Obj} {od oe : Option Obj}
theorem bin_same {op : Operator} {Q : Value → Shared → Prop} (X : K.In s.heap) (I : InstAt s.heap x ox C od) (J : InstAt s.heap y oy C oe) (hc : selfFirst K C = true)
    (hs : findIn K (.ref C) (PySem.dunder op.info.2) = some (some (.ref f))) (hf : isFn K (.ref f) = true)
    (h : wpAny (model prog w) A (call (.ref f) [.ref x, .ref y]) (PySem.W.CmpBack Q) E s) : wpAny (model prog w) A (binaryOp op (.ref x) (.ref y)) Q E s := by
  obtain ⟨cd, rest, hcd, hm⟩ := ksp_first hc
  rcases hi : op.info with ⟨sym, nm'⟩
  rw [hi] at hs
  dsimp only at hs
  have one := ksp_try X I hs hf h
  obtain ⟨hh, g, d, tt, os⟩ := s
  have L1 : Looks (model prog w) hh (typeOf (.ref x)) (.ref C) := I.type
  have L2 : Looks (model prog w) hh (typeOf (.ref y)) (.ref C) := J.type
  have L3 : Looks (model prog w) hh (fillsNumberSlot (.ref C) nm') true := fills_K X hcd hm hs
  have hne : (Value.ref C == Value.ref C) = true := beq_self_eq_true _
  simp only [binaryOp, hi]
  refine wpAny_holding (wpAny_bind ?_)
  unfold binaryOp1
  refine wpAny_bind (L1.at (wpAny_bind (L2.at (wpAny_bind (L3.at ?_)))))
  simp only [hne, if_true]
  ksp_lk
  refine wpAny_mono one (fun r s' hr' => ?_) fun _ _ e => e
  obtain ⟨v, rfl, hq⟩ := hr'
  ksp_lk
  exact hq
end
section
variable {X : Cx} {CX : CXT} {k : Nat} {f C : Addr} {sp : Sp} {E : XK} {fd : FuncData} {ps : List Str}
theorem op_own {op : Operator} (hc : PySem.W.selfFirst X.K C = true) (M : Meth X.K C (PySem.dunder op.info.2) f) (F : FnOk X.prog X.w X.K X.mg X.base CX k f fd ps sp) (hr : Room k X.A) (hb : Binds X.K fd ps []) (hx : Passes CX X E) :
    OpR X (binaryOp op) (fun x y H Q => ∃ a b dx dy fs gs, x = .ref a ∧ y = .ref b ∧ H a = some (.ins C dx fs) ∧ H b = some (.ins C dy gs) ∧ sp [x, y] H (fun v H' => ∃ c, v = .ref c ∧ Q v H') E) := by
  intro pins s σ H x y v u Q I rx ry h
  obtain ⟨a, b, dx, dy, fs, gs, rfl, rfl, ea, eb, q⟩ := h
  cases rx
  cases ry
  obtain ⟨mA, O, _⟩ := ins_get I.hok ea
  obtain ⟨mB, O', _⟩ := ins_get I.hok eb
  obtain ⟨od, I1, _⟩ := O.look
  obtain ⟨oe, I2, _⟩ := O'.look
  refine bin_same I.kIn I1 I2 hc M.at_ M.fn (wpAny_mono (run_fn (us := [.ref a, .ref b]) (vs := [.ref a, .ref b]) F hr hb .nil hx I (.cons rfl (.cons rfl .nil)) q) (fun r s' ⟨x, H', I', rx, c, ex, hq⟩ => ?_) fun _ _ e => e)
  subst ex
  obtain rfl : r = Value.ref c := rx
  exact ⟨V.ref c, H', I', rfl, hq⟩
end
section
variable {P : Program} {w : World} {K : PySem.W.Frag} {mg : Str → Option Value} {base : Heap} (T : Tx w K mg)
def spInitR (K : PySem.W.Frag) : Sp := fun vs H Q E => ∃ ws rest, vs = ws ++ rest ∧ ws.length = 2 ∧ rest.length ≤ sizeLine ∧ ∀ p, H p = none → spInit K (ws ++ [.ref p]) (upd H p (.tup rest)) Q E
theorem mk_run {H : Hp} {F : Fm} {ps : List V} {Q : VK} {E : XK} (h : PtsOk K H F ps) (few : Few F) (hz : AB.size F ≤ 1000) (q : ∀ a H', FoAt K H' F a → Kp H H' → Q (.ref a) H') :
    ∀ x dx, H x = none → H dx = none → dx ≠ x → spInitR K (V.ref x :: (V.str (kindS F) :: ps)) (upd (upd H dx (.own x)) x (.ins (He.ga K "Formula") dx [])) (fun v H2 => v = .non ∧ Q (.ref x) H2) E := by
  intro x dx hx hdx hne
  have k1 : Kp H (upd (upd H dx (.own x)) x (.ins (He.ga K "Formula") dx [])) := fun b o e => up_keep (up_keep e hdx) (by rw [upd_ne (fun z => hne z.symm)]; exact hx)
  refine ⟨[.ref x, .str (kindS F)], ps, rfl, rfl, Nat.le_trans h.len (by rw [sizeLine_eq]; omega), fun p hp => ?_⟩
  have k2 := kp_up (o := .tup ps) k1 hp
  refine ⟨x, dx, p, F, ps, rfl, up_keep upd_same hp, upd_same, h.kf (KF.of k2), few, hz, fun H' hF hk => ⟨rfl, q x H' hF fun b o e => ?_⟩⟩
  exact hk b o (k2 b o e) (ne_of_none e hx)
theorem sc_atom : FnScope ["letter"] ["letter"] (defScope s_atom) := ⟨rfl, rfl, rfl, by decide +kernel, rfl, by decide +kernel, by decide +kernel⟩
theorem sc_no : FnScope [] [] (defScope s_no) := ⟨rfl, rfl, rfl, by decide +kernel, rfl, by decide +kernel, by decide +kernel⟩
theorem sc_every : FnScope ["formula"] ["formula"] (defScope s_every) := ⟨rfl, rfl, rfl, by decide +kernel, rfl, by decide +kernel, by decide +kernel⟩
theorem sc_as_formula : FnScope ["value"] ["value"] (defScope s_as_formula) := ⟨rfl, rfl, rfl, by decide +kernel, rfl, by decide +kernel, by decide +kernel⟩
theorem sc_operand : FnScope ["value", "found"] ["value"] (defScope s_operand) := ⟨rfl, rfl, rfl, by decide +kernel, rfl, by decide +kernel, by decide +kernel⟩
theorem sc_rsh : FnScope ["self", "other"] ["self", "other"] (defScope s_Formula__rshift__) := ⟨rfl, rfl, rfl, by decide +kernel, rfl, by decide +kernel, by decide +kernel⟩
def spNew (K : PySem.W.Frag) (H : Hp) (F : Fm) (Q : VK) : Prop := ∀ a H', FoAt K H' F a → Kp H H' → Q (.ref a) H'
def spAsF (K : PySem.W.Frag) : Sp := fun vs H Q _ => ∃ (b : Addr) (F : Fm), vs = [.ref b] ∧ FoAt K H F b ∧ Q (.ref b) H
def spRsh (K : PySem.W.Frag) : Sp := fun vs H Q _ => ∃ (a b : Addr) (F G : Fm), vs = [.ref a, .ref b] ∧ FoAt K H F a ∧ FoAt K H G b ∧ Few (.imp F G) ∧ AB.size (.imp F G) ≤ 1000 ∧ spNew K H (.imp F G) Q
include T
theorem mk_formula : Mk K (He.ga K "Formula") (f_Formula__init__ K) := He.mkr_ok T.mkr_Formula
theorem ok_initR : FnR P w K mg base CX0 3 (f_Formula__init__ K) (spInitR K) := ok_init T
/-! ### atom, no, every -/
theorem ok_atom : FH P w K mg base 5 (f_atom K) ["letter"] (fun vs H Q _ => ∃ x : At, vs = [.str (letS x)] ∧ spNew K H (.atm x) Q) := by
  obtain ⟨uAT, mAT, rAT⟩ := T.c_ATOM
  have gA := (ok_is_atom (P := P) (base := base) T).mono (show 1 ≤ 4 by decide)
  refine T.F_atom.ok sc_atom (fun vs H Q E h => by obtain ⟨x, rfl, _⟩ := h; rfl) (fun cdv A outer s H vs Q E hr h => ⟨_, PSs.nox (
    pss_cons (ps_if (pt_not (pt_val (pe_call gA hr rfl T.g_is_atom T.F_is_atom.kp (bd_is_atom T) .nil pass0 (pa_cons (pv 0) pa_nil)))) (pss_one ps_never) pss_nil)
    (pss_one (ps_ret (StX.pe_makeR (mk_formula T) (ok_initR T) hr rfl T.g_Formula pass0 (pa_cons (pe_glob rfl mAT rAT) (pa_cons (pv 0) pa_nil)))))), ?_⟩)
  obtain ⟨x, rfl, q⟩ := h
  refine ⟨_, rfl, x, rfl, _, rfl, ite2 (fun z => nomatch z) fun _ => ?_⟩
  refine ⟨_, rfl, ?_⟩
  exact mk_run (F := .atm x) (ps := [.str (letS x)]) rfl True.intro (by show 1 ≤ 1000; omega) q
theorem ok_no : FH P w K mg base 5 (f_no K) [] (fun vs H Q _ => vs = [] ∧ spNew K H .no Q) := by
  obtain ⟨uNO, mNO, rNO⟩ := T.c_NO
  refine T.F_no.ok sc_no (fun vs H Q E h => by obtain ⟨rfl, _⟩ := h; rfl) (fun cdv A outer s H vs Q E hr h => ⟨_, PSs.nox (
    pss_one (ps_ret (StX.pe_makeR (mk_formula T) (ok_initR T) hr rfl T.g_Formula pass0 (pa_cons (pe_glob rfl mNO rNO) pa_nil)))), ?_⟩)
  obtain ⟨rfl, q⟩ := h
  exact mk_run (F := .no) (ps := []) rfl True.intro (by decide) q
theorem ok_every : FH P w K mg base 5 (f_every K) ["formula"] (fun vs H Q _ => ∃ (b : Addr) (F : Fm), vs = [.ref b] ∧ FoAt K H F b ∧ Few (.all F) ∧ AB.size (.all F) ≤ 1000 ∧ spNew K H (.all F) Q) := by
  obtain ⟨uAL, mAL, rAL⟩ := T.c_ALL
  refine T.F_every.ok sc_every (fun vs H Q E h => by obtain ⟨b, F, rfl, _⟩ := h; rfl) (fun cdv A outer s H vs Q E hr h => ⟨_, PSs.nox (
    pss_one (ps_ret (StX.pe_makeR (mk_formula T) (ok_initR T) hr rfl T.g_Formula pass0 (pa_cons (pe_glob rfl mAL rAL) (pa_cons (pv 0) pa_nil))))), ?_⟩)
  obtain ⟨b, F, rfl, hF, few, hz, q⟩ := h
  refine ⟨_, rfl, ?_⟩
  exact mk_run (F := .all F) (ps := [.ref b]) ⟨b, rfl, hF⟩ few hz q
/-! ### as_formula, operand, >> -/
theorem bd_as_formula : L2.Binds K (fdOf K (f_as_formula K)) ["value"] [] := T.F_as_formula.binds fun _ _ _ _ _ _ us hl => match us, hl with | [_], _ => rfl
theorem bd_operand : L2.Binds K (fdOf K (f_operand K)) ["value"] [] := T.F_operand.binds fun _ _ _ _ _ _ us hl => match us, hl with | [_], _ => rfl
theorem bd_rsh : L2.Binds K (fdOf K (f_Formula__rshift__ K)) ["self", "other"] [] := T.F_Formula__rshift__.binds fun _ _ _ _ _ _ us hl => match us, hl with | [_, _], _ => rfl
theorem bd_atom : L2.Binds K (fdOf K (f_atom K)) ["letter"] [] := T.F_atom.binds fun _ _ _ _ _ _ us hl => match us, hl with | [_], _ => rfl
theorem bd_every : L2.Binds K (fdOf K (f_every K)) ["formula"] [] := T.F_every.binds fun _ _ _ _ _ _ us hl => match us, hl with | [_], _ => rfl
theorem bd_no : L2.Binds K (fdOf K (f_no K)) [] [] := T.F_no.binds fun _ _ _ _ _ _ us hl => match us, hl with | [], _ => rfl
theorem ok_as_formula : FH P w K mg base 1 (f_as_formula K) ["value"] (spAsF K) := by
  refine T.F_as_formula.ok sc_as_formula (fun vs H Q E h => by obtain ⟨b, F, rfl, _⟩ := h; rfl) (fun cdv A outer s H vs Q E hr h => ⟨_, PSs.nox (
    pss_cons (ps_if (pt_val (pe_callB call_isi rfl T.b_isinstance (by decide +kernel) (pa_cons (pv 0) (pa_cons (pe_glob (v := .ref (He.ga K "Formula")) rfl T.g_Formula rfl) pa_nil)))) (pss_one (ps_ret (pv 0))) pss_nil)
    (pss_one ps_never)), ?_⟩)
  obtain ⟨b, F, rfl, hF, q⟩ := h
  obtain ⟨pp, hf⟩ := hF.fo
  obtain ⟨dxx, _, _, _, _, _, _, e1, _⟩ := hf.ex
  refine ⟨_, rfl, _, _, _, _, true, rfl, .own _, .base (T.ty_of T.cls_Formula e1), (by unfold PySem.W.kitOne; rw [if_pos (beq_self_eq_true _)]), ?_⟩
  exact ⟨_, rfl, iteT ⟨_, rfl, q⟩⟩
theorem ok_operand : FH P w K mg base 2 (f_operand K) ["value"] (spAsF K) := by
  have gA := (ok_as_formula (P := P) (base := base) T)
  refine T.F_operand.ok sc_operand (fun vs H Q E h => by obtain ⟨b, F, rfl, _⟩ := h; rfl) (fun cdv A outer s H vs Q E hr h => ⟨_, PSs.nox (
    pss_cons (ps_set (i := 1) sc_operand.nd rfl (Or.inl rfl) (pe_call gA hr rfl T.g_as_formula T.F_as_formula.kp (bd_as_formula T) .nil pass0 (pa_cons (pv 0) pa_nil)))
    (pss_cons (ps_if (pt_cmpR op_isN (pv 1) pe_non (nomark _)) (pss_one ps_never) pss_nil)
    (pss_one (ps_ret (pv 1))))), ?_⟩)
  obtain ⟨b, F, rfl, hF, q⟩ := h
  refine ⟨_, rfl, b, F, rfl, hF, ?_⟩
  refine ⟨_, rfl, rfl, _, rfl, ite2 (fun z => absurd (of_decide_eq_true z) nofun) fun _ => ?_⟩
  exact ⟨_, rfl, q⟩
theorem ok_rsh : FH P w K mg base 5 (f_Formula__rshift__ K) ["self", "other"] (spRsh K) := by
  obtain ⟨uIF, mIF, rIF⟩ := T.c_IF
  have gO := (ok_operand (P := P) (base := base) T).mono (show 2 ≤ 4 by decide)
  refine T.F_Formula__rshift__.ok sc_rsh (fun vs H Q E h => by obtain ⟨a, b, F, G, rfl, _⟩ := h; rfl) (fun cdv A outer s H vs Q E hr h => ⟨_, PSs.nox (
    pss_one (ps_ret (StX.pe_makeR (mk_formula T) (ok_initR T) hr rfl T.g_Formula pass0 (pa_cons (pe_glob rfl mIF rIF) (pa_cons (pv 0) (pa_cons (pe_call gO hr rfl T.g_operand T.F_operand.kp (bd_operand T) .nil pass0 (pa_cons (pv 1) pa_nil)) pa_nil)))))), ?_⟩)
  obtain ⟨a, b, F, G, rfl, hF, hG, few, hz, q⟩ := h
  refine ⟨_, rfl, _, rfl, b, G, rfl, hG, ?_⟩
  exact mk_run (F := .imp F G) (ps := [.ref a, .ref b]) ⟨a, b, rfl, hF, hG⟩ few hz q
theorem meth_rsh : Meth K (He.ga K "Formula") "__rshift__" (f_Formula__rshift__ K) := He.meth_ok T.m_Formula___rshift__
end
end AT
end
section
set_option linter.all false
/-! parts_within: the stack. -/
namespace AB
def dir : Fm → List Fm
  | .imp f g => [f, g]
  | .all f => [f]
  | _ => []
theorem dir_size {G J : Fm} (h : J ∈ dir G) : size J < size G := by
  cases G with
  | atm x => cases h
  | no => cases h
  | imp f g =>
    simp only [dir, List.mem_cons, List.not_mem_nil, or_false] at h
    rcases h with rfl | rfl <;> simp only [size] <;> omega
  | all f =>
    simp only [dir, List.mem_cons, List.not_mem_nil, or_false] at h
    subst h; simp only [size]; omega
theorem dir_subs {G J F : Fm} (h : J ∈ dir G) (hG : G ∈ subs F) : J ∈ subs F := by
  induction F with
  | atm x =>
    simp only [subs, List.mem_cons, List.not_mem_nil, or_false] at hG
    subst hG; cases h
  | no =>
    simp only [subs, List.mem_cons, List.not_mem_nil, or_false] at hG
    subst hG; cases h
  | imp f g ih1 ih2 =>
    simp only [subs, List.mem_cons, List.mem_append] at hG ⊢
    rcases hG with rfl | hG | hG
    · simp only [dir, List.mem_cons, List.not_mem_nil, or_false] at h
      rcases h with rfl | rfl
      · exact .inr (.inl (subs_self _))
      · exact .inr (.inr (subs_self _))
    · exact .inr (.inl (ih1 hG))
    · exact .inr (.inr (ih2 hG))
  | all f ih =>
    simp only [subs, List.mem_cons] at hG ⊢
    rcases hG with rfl | hG
    · simp only [dir, List.mem_cons, List.not_mem_nil, or_false] at h
      subst h; exact .inr (subs_self _)
    · exact .inr (ih hG)
structure Pw (F : Fm) (fd kn : List Fm) (st : List (Fm × Bool)) : Prop where
  knd : kn.Nodup
  ks : ∀ K ∈ kn, K ∈ subs F
  ss : ∀ e ∈ st, e.1 ∈ subs F
  fk : ∀ K ∈ fd, K ∈ kn
  tk : ∀ K, (K, true) ∈ st → K ∈ kn ∧ K ∉ fd
  kf : ∀ K ∈ kn, K ∈ fd ∨ (K, true) ∈ st
  fnd : fd.Nodup
  ord : ∀ i G, fd[i]? = some G → ∀ J ∈ dir G, J ∈ fd.take i
  pw : st.Pairwise fun x y => y.2 = true → size x.1 < size y.1
  dep : ∀ up G r, st = up ++ (G, true) :: r → ∀ J ∈ dir G, J ∈ fd ∨ (J, true) ∈ up ∨ (J, false) ∈ up
  top : F ∈ kn ∨ (F, false) ∈ st
  few : 4 * ((subs F).length - kn.length) + st.length ≤ 4 * (subs F).length + 1
theorem Pw.init (F : Fm) : Pw F [] [] [(F, false)] where
  knd := List.nodup_nil
  ks := fun K h => by cases h
  ss := fun e h => by rw [List.mem_singleton.mp h]; exact subs_self F
  fk := fun K h => by cases h
  tk := fun K h => by cases List.mem_singleton.mp h
  kf := fun K h => by cases h
  fnd := List.nodup_nil
  ord := fun i G h => by cases h
  pw := by simp
  dep := fun up G r h => by
    cases up with
    | nil => cases h
    | cons u up => cases up <;> cases h
  top := .inr (by simp)
  few := by simp
theorem Pw.klen {F : Fm} {fd kn : List Fm} {st : List (Fm × Bool)} (h : Pw F fd kn st) : kn.length ≤ (subs F).length := List.Nodup.length_le_of_subset h.knd h.ks
theorem Pw.flen {F : Fm} {fd kn : List Fm} {st : List (Fm × Bool)} (h : Pw F fd kn st) : fd.length ≤ kn.length := List.Nodup.length_le_of_subset h.fnd h.fk
/-- a part is done -/
theorem Pw.done {F G : Fm} {fd kn : List Fm} {r : List (Fm × Bool)} (h : Pw F fd kn ((G, true) :: r)) : Pw F (fd ++ [G]) kn r where
  knd := h.knd
  ks := h.ks
  ss := fun e he => h.ss e (List.mem_cons_of_mem _ he)
  fk := fun K hK => by
    rcases List.mem_append.mp hK with z | z
    · exact h.fk K z
    · rw [List.mem_singleton.mp z]; exact (h.tk G List.mem_cons_self).1
  tk := fun K hK => by
    obtain ⟨a, b⟩ := h.tk K (List.mem_cons_of_mem _ hK)
    refine ⟨a, fun z => ?_⟩
    rcases List.mem_append.mp z with z | z
    · exact b z
    · have := (List.pairwise_cons.mp h.pw).1 (K, true) hK rfl
      rw [List.mem_singleton.mp z] at this
      exact Nat.lt_irrefl _ this
  kf := fun K hK => by
    rcases h.kf K hK with z | z
    · exact .inl (List.mem_append_left _ z)
    · rcases List.mem_cons.mp z with z | z
      · cases z; exact .inl (List.mem_append_right _ (by simp))
      · exact .inr z
  fnd := by
    refine List.nodup_append.mpr ⟨h.fnd, by simp, fun a ha b hb => ?_⟩
    rw [List.mem_singleton.mp hb]
    exact fun e => (h.tk G List.mem_cons_self).2 (e ▸ ha)
  ord := fun i K hi J hJ => by
    rcases Nat.lt_or_ge i fd.length with hl | hl
    · rw [List.getElem?_append_left hl] at hi
      rw [List.take_append_of_le_length (Nat.le_of_lt hl)]
      exact h.ord i K hi J hJ
    · rw [List.getElem?_append_right hl] at hi
      have e0 : i = fd.length := by
        rcases Nat.eq_or_lt_of_le hl with q | q
        · exact q.symm
        · rw [List.getElem?_eq_none (by simp; omega)] at hi; cases hi
      subst e0
      simp at hi
      subst hi
      rw [List.take_left' rfl]
      rcases h.dep [] G r rfl J hJ with z | z | z
      · exact z
      · cases z
      · cases z
  pw := (List.pairwise_cons.mp h.pw).2
  dep := fun up K r' e J hJ => by
    rcases h.dep ((G, true) :: up) K r' (by rw [e]; rfl) J hJ with z | z | z
    · exact .inl (List.mem_append_left _ z)
    · rcases List.mem_cons.mp z with z | z
      · cases z; exact .inl (List.mem_append_right _ (by simp))
      · exact .inr (.inl z)
    · rcases List.mem_cons.mp z with z | z
      · cases z
      · exact .inr (.inr z)
  top := by
    rcases h.top with z | z
    · exact .inl z
    · rcases List.mem_cons.mp z with z | z
      · cases z
      · exact .inr z
  few := by have := h.few; simp at this; omega
/-- a part that is known already -/
theorem Pw.skip {F G : Fm} {fd kn : List Fm} {r : List (Fm × Bool)} (h : Pw F fd kn ((G, false) :: r)) (hk : G ∈ kn) : Pw F fd kn r where
  knd := h.knd
  ks := h.ks
  ss := fun e he => h.ss e (List.mem_cons_of_mem _ he)
  fk := h.fk
  tk := fun K hK => h.tk K (List.mem_cons_of_mem _ hK)
  kf := fun K hK => by
    rcases h.kf K hK with z | z
    · exact .inl z
    · rcases List.mem_cons.mp z with z | z
      · cases z
      · exact .inr z
  fnd := h.fnd
  ord := h.ord
  pw := (List.pairwise_cons.mp h.pw).2
  dep := fun up K r' e J hJ => by
    rcases h.dep ((G, false) :: up) K r' (by rw [e]; rfl) J hJ with z | z | z
    · exact .inl z
    · rcases List.mem_cons.mp z with z | z
      · cases z
      · exact .inr (.inl z)
    · rcases List.mem_cons.mp z with z | z
      · cases z
        rcases h.kf G hk with y | y
        · exact .inl y
        · rcases List.mem_cons.mp y with y | y
          · cases y
          · rw [e] at y
            rcases List.mem_append.mp y with y | y
            · exact .inr (.inl y)
            · exfalso
              have hs := dir_size hJ
              rcases List.mem_cons.mp y with y | y
              · cases y; exact Nat.lt_irrefl _ hs
              · have q := (List.pairwise_cons.mp h.pw).2
                rw [e] at q
                have q2 := (List.pairwise_append.mp q).2.1
                have q3 := (List.pairwise_cons.mp q2).1 (G, true) y rfl
                exact Nat.lt_asymm hs q3
      · exact .inr (.inr z)
  top := by
    rcases h.top with z | z
    · exact .inl z
    · rcases List.mem_cons.mp z with z | z
      · cases z; exact .inl hk
      · exact .inr z
  few := by have := h.few; simp at this; omega
theorem dir_len (G : Fm) : (dir G).length ≤ 2 := by cases G <;> simp [dir]
/-- a part that is new -/
theorem Pw.new {F G : Fm} {fd kn : List Fm} {r : List (Fm × Bool)} (h : Pw F fd kn ((G, false) :: r)) (hk : G ∉ kn) : Pw F fd (kn ++ [G]) ((dir G).reverse.map (·, false) ++ (G, true) :: r) where
  knd := by
    refine List.nodup_append.mpr ⟨h.knd, by simp, fun a ha b hb => ?_⟩
    rw [List.mem_singleton.mp hb]
    exact fun e => hk (e ▸ ha)
  ks := fun K hK => by
    rcases List.mem_append.mp hK with z | z
    · exact h.ks K z
    · rw [List.mem_singleton.mp z]; exact h.ss (G, false) List.mem_cons_self
  ss := fun e he => by
    rcases List.mem_append.mp he with z | z
    · obtain ⟨J, hJ, rfl⟩ := List.mem_map.mp z
      exact dir_subs (List.mem_reverse.mp hJ) (h.ss (G, false) List.mem_cons_self)
    · rcases List.mem_cons.mp z with rfl | z
      · exact h.ss (G, false) List.mem_cons_self
      · exact h.ss e (List.mem_cons_of_mem _ z)
  fk := fun K hK => List.mem_append_left _ (h.fk K hK)
  tk := fun K hK => by
    rcases List.mem_append.mp hK with z | z
    · obtain ⟨J, hJ, e⟩ := List.mem_map.mp z; cases e
    · rcases List.mem_cons.mp z with z | z
      · cases z; exact ⟨List.mem_append_right _ (by simp), fun y => hk (h.fk G y)⟩
      · obtain ⟨a, b⟩ := h.tk K (List.mem_cons_of_mem _ z)
        exact ⟨List.mem_append_left _ a, b⟩
  kf := fun K hK => by
    rcases List.mem_append.mp hK with z | z
    · rcases h.kf K z with y | y
      · exact .inl y
      · rcases List.mem_cons.mp y with y | y
        · cases y
        · exact .inr (List.mem_append_right _ (List.mem_cons_of_mem _ y))
    · rw [List.mem_singleton.mp z]; exact .inr (List.mem_append_right _ List.mem_cons_self)
  fnd := h.fnd
  ord := h.ord
  pw := by
    have h1 := List.pairwise_cons.mp h.pw
    refine List.pairwise_append.mpr ⟨?_, List.pairwise_cons.mpr ⟨fun y hy ht => h1.1 y hy ht, h1.2⟩, fun x hx y hy ht => ?_⟩
    · refine List.pairwise_map.mpr (List.Pairwise.imp (R := fun _ _ => True) (fun _ z => nomatch z) ?_)
      exact List.pairwise_of_forall fun _ _ => True.intro
    · obtain ⟨J, hJ, rfl⟩ := List.mem_map.mp hx
      have hs := dir_size (List.mem_reverse.mp hJ)
      rcases List.mem_cons.mp hy with rfl | hy
      · exact hs
      · exact Nat.lt_trans hs (h1.1 y hy ht)
  dep := fun up K r' e J hJ => by
    have own : K = G → (J, false) ∈ (dir G).reverse.map (·, false) := fun eK => by
      subst eK
      exact List.mem_map.mpr ⟨J, List.mem_reverse.mpr hJ, rfl⟩
    rcases List.append_eq_append_iff.mp e with ⟨a', e1, e2⟩ | ⟨c', e1, e2⟩
    · subst e1
      cases a' with
      | nil =>
        cases e2
        exact .inr (.inr (List.mem_append_left _ (own rfl)))
      | cons u a' =>
        obtain ⟨rfl, e3⟩ := List.cons.inj e2
        rcases h.dep ((G, false) :: a') K r' (by rw [e3]; rfl) J hJ with z | z | z
        · exact .inl z
        · rcases List.mem_cons.mp z with z | z
          · cases z
          · exact .inr (.inl (List.mem_append_right _ (List.mem_cons_of_mem _ z)))
        · rcases List.mem_cons.mp z with z | z
          · cases z; exact .inr (.inl (List.mem_append_right _ List.mem_cons_self))
          · exact .inr (.inr (List.mem_append_right _ (List.mem_cons_of_mem _ z)))
    · cases c' with
      | nil =>
        cases e2
        rw [List.append_nil] at e1
        rw [← e1]
        exact .inr (.inr (own rfl))
      | cons u c' =>
        obtain ⟨e4, e3⟩ := List.cons.inj e2
        have : (K, true) ∈ (dir G).reverse.map (·, false) := by rw [e1, e4]; exact List.mem_append_right _ List.mem_cons_self
        obtain ⟨_, _, e5⟩ := List.mem_map.mp this
        cases e5
  top := by
    rcases h.top with z | z
    · exact .inl (List.mem_append_left _ z)
    · rcases List.mem_cons.mp z with z | z
      · cases z; exact .inl (List.mem_append_right _ (by simp))
      · exact .inr (List.mem_append_right _ (List.mem_cons_of_mem _ z))
  few := by
    have h1 := h.few
    have h2 := dir_len G
    have h3 : (kn ++ [G]).length ≤ (subs F).length := List.Nodup.length_le_of_subset (by
      refine List.nodup_append.mpr ⟨h.knd, by simp, fun a ha b hb => ?_⟩
      rw [List.mem_singleton.mp hb]
      exact fun e => hk (e ▸ ha)) fun K hK => by
        rcases List.mem_append.mp hK with z | z
        · exact h.ks K z
        · rw [List.mem_singleton.mp z]; exact h.ss (G, false) List.mem_cons_self
    simp at h1 h3 ⊢
    omega
/-- what comes out -/
structure PwR (F : Fm) (Gs : List Fm) : Prop where
  nd : Gs.Nodup
  ks : ∀ K ∈ Gs, K ∈ subs F
  own : F ∈ Gs
  ord : ∀ i G, Gs[i]? = some G → ∀ J ∈ dir G, J ∈ Gs.take i
theorem Pw.end {F : Fm} {fd kn : List Fm} (h : Pw F fd kn []) : PwR F fd where
  nd := h.fnd
  ks := fun K hK => h.ks K (h.fk K hK)
  own := by
    rcases h.top with z | z
    · rcases h.kf F z with y | y
      · exact y
      · cases y
    · cases z
  ord := h.ord
end AB
end
section
set_option Elab.async false
set_option linter.all false
set_option maxRecDepth 100000
/-! parts_within. -/
namespace AT
open PySem PySem.Spec PyProof.Rows L2
open AB (Fm At Drv)
section
variable {X : Cx}
/-- a list against an empty list -/
theorem op_neNil (hu : X.A.units < cLine) : OpR X (compareOp .NotEq) (fun x y H Q => ∃ p q xs, x = .ref p ∧ y = .ref q ∧ SqL X.K H p xs ∧ SqL X.K H q [] ∧ Q (.bl (!xs.isEmpty)) H) := by
  rintro pins s σ H x y v u Q I rx ry ⟨p, q, xs, rfl, rfl, hp, hq, k⟩
  cases rx
  cases ry
  obtain ⟨its, r, pl, hz⟩ := I.list hp
  obtain ⟨its2, r2, pl2, hz2⟩ := I.list hq
  cases r2
  cases r with
  | nil =>
    have z := SeqAt.RcNeAt.lists (A := X.A) (e := fun _ => true) pl.isList pl2.isList rfl hu fun j h1 h2 => absurd h1 (Nat.not_lt_zero j)
    exact z _ _ _ _ ⟨.bl false, H, I, rfl, k⟩
  | cons c t =>
    have z := SeqAt.RcNeAt.lists_lengths (A := X.A) pl.isList pl2.isList (by simp) hu
    exact z _ _ _ _ ⟨.bl true, H, I, rfl, k⟩
end
/-- the entries of the stack, from the bottom -/
def StkAt (K : PySem.W.Frag) (H : Hp) : V → Fm × Bool → Prop := fun v e => ∃ t b, v = .ref t ∧ H t = some (.tup [.ref b, .bl e.2]) ∧ FoAt K H e.1 b
theorem StkAt.kf {K : PySem.W.Frag} {H H' : Hp} {v : V} {e : Fm × Bool} (h : StkAt K H v e) (k : KF H H') : StkAt K H' v e := let ⟨t, b, e1, e2, e3⟩ := h; ⟨t, b, e1, k.t _ _ e2, e3.kf k⟩
def knD (kn : List Fm) : List (Key × V) := kn.map fun G => (.inr (txt G), .bl true)
theorem kn_in {kn : List Fm} {G : Fm} : (valV (knD kn) (.inr (txt G))).isSome = true ↔ G ∈ kn := by
  rw [← valV_any]
  unfold knD
  simp only [List.any_map, List.any_eq_true, Function.comp]
  constructor
  · rintro ⟨q, hq, e⟩
    have e' : (Sum.inr (txt q) : Key) = .inr (txt G) := of_decide_eq_true e
    rw [← txt_inj (Sum.inr.inj e')]; exact hq
  · intro h
    exact ⟨G, h, decide_eq_true rfl⟩
theorem kn_put {kn : List Fm} {G : Fm} (h : G ∉ kn) : putK (knD kn) (.inr (txt G)) (.bl true) = knD (kn ++ [G]) := by
  rw [putK_new]
  · unfold knD; rw [List.map_append]; rfl
  · cases e : valV (knD kn) (.inr (txt G)) with
    | none => rfl
    | some v => exact absurd (kn_in.mp (by rw [e]; rfl)) h
theorem kf_l {H : Hp} {b : Addr} {xs : List V} {o : HO} (e : H b = some (.lst xs)) : KF H (upd H b o) := ⟨fun c ys h => by rw [upd_ne (ne_of h e fun z => nomatch z)]; exact h, fun c C dx fs h => by rw [upd_ne (ne_of h e fun z => nomatch z)]; exact h⟩
theorem kf_d {H : Hp} {b : Addr} {kvs : List (Key × V)} {o : HO} (e : H b = some (.dK kvs)) : KF H (upd H b o) := ⟨fun c ys h => by rw [upd_ne (ne_of h e fun z => nomatch z)]; exact h, fun c C dx fs h => by rw [upd_ne (ne_of h e fun z => nomatch z)]; exact h⟩
theorem kf_n {H : Hp} {b : Addr} {o : HO} (e : H b = none) : KF H (upd H b o) := KF.of (kp_up (Same.refl H) e)
theorem kp_old {H0 H : Hp} {b : Addr} {o : HO} (k : Kp H0 H) (e : H0 b = none) : Kp H0 (upd H b o) := fun c o' h => by rw [upd_ne (ne_of_none h e)]; exact k c o' h
/-- the loop's state -/
structure PwI (K : PySem.W.Frag) (H0 : Hp) (fl kd wl : Addr) (fd kn : List Fm) (st : List (Fm × Bool)) (bs : List Addr) (ss : List V) (H : Hp) : Prop where
  nf : H0 fl = none
  nk : H0 kd = none
  nw : H0 wl = none
  fk : fl ≠ kd
  fw : fl ≠ wl
  kw : kd ≠ wl
  ef : H fl = some (.lst (bs.map V.ref))
  pf : Paired (fun b G => FoAt K H G b) bs fd
  ek : H kd = some (.dK (knD kn))
  ew : H wl = some (.lst ss.reverse)
  ps : Paired (StkAt K H) ss st
  kp : Kp H0 H
section
variable {K : PySem.W.Frag} {H0 H : Hp} {fl kd wl : Addr} {fd kn : List Fm} {st : List (Fm × Bool)} {bs : List Addr} {ss : List V}
theorem PwI.more (I : PwI K H0 fl kd wl fd kn st bs ss H) {p : Addr} {o : HO} (h : H p = none) : PwI K H0 fl kd wl fd kn st bs ss (upd H p o) :=
  { I with ef := up_keep I.ef h, pf := Paired.mapP I.pf fun b G q => q.kf (kf_n h), ek := up_keep I.ek h, ew := up_keep I.ew h, ps := Paired.mapP I.ps fun b G q => q.kf (kf_n h), kp := kp_up I.kp h }
theorem PwI.pop {e : Fm × Bool} {v : V} (I : PwI K H0 fl kd wl fd kn (e :: st) bs (v :: ss) H) : PwI K H0 fl kd wl fd kn st bs ss (upd H wl (.lst ss.reverse)) ∧ StkAt K (upd H wl (.lst ss.reverse)) v e := by
  have k := kf_l (o := .lst ss.reverse) I.ew
  have hp := I.ps
  cases hp with
  | cons hv hp' => exact ⟨{ I with ef := by rw [upd_ne I.fw]; exact I.ef, pf := Paired.mapP I.pf fun b G q => q.kf k, ek := by rw [upd_ne I.kw]; exact I.ek, ew := upd_same, ps := Paired.mapP hp' fun b G q => q.kf k, kp := kp_old I.kp I.nw }, hv.kf k⟩
theorem PwI.app {G : Fm} {b : Addr} (I : PwI K H0 fl kd wl fd kn st bs ss H) (h : FoAt K H G b) : PwI K H0 fl kd wl (fd ++ [G]) kn st (bs ++ [b]) ss (upd H fl (.lst ((bs ++ [b]).map V.ref))) := by
  have k := kf_l (o := .lst ((bs ++ [b]).map V.ref)) I.ef
  exact { I with ef := upd_same, pf := paired_append (Paired.mapP I.pf fun b G q => q.kf k) (.cons (h.kf k) .nil), ek := by rw [upd_ne (Ne.symm I.fk)]; exact I.ek, ew := by rw [upd_ne (Ne.symm I.fw)]; exact I.ew, ps := Paired.mapP I.ps fun b G q => q.kf k, kp := kp_old I.kp I.nf }
theorem PwI.kput {G : Fm} (I : PwI K H0 fl kd wl fd kn st bs ss H) : PwI K H0 fl kd wl fd (kn ++ [G]) st bs ss (upd H kd (.dK (knD (kn ++ [G])))) := by
  have k := kf_d (o := .dK (knD (kn ++ [G]))) I.ek
  exact { I with ef := by rw [upd_ne I.fk]; exact I.ef, pf := Paired.mapP I.pf fun b G q => q.kf k, ek := upd_same, ew := by rw [upd_ne (Ne.symm I.kw)]; exact I.ew, ps := Paired.mapP I.ps fun b G q => q.kf k, kp := kp_old I.kp I.nk }
theorem PwI.push {es : List (Fm × Bool)} {zs : List V} (I : PwI K H0 fl kd wl fd kn st bs ss H) (h : Paired (StkAt K H) zs es) : PwI K H0 fl kd wl fd kn (es ++ st) bs (zs ++ ss) (upd H wl (.lst (zs ++ ss).reverse)) := by
  have k := kf_l (o := .lst (zs ++ ss).reverse) I.ew
  exact { I with ef := by rw [upd_ne I.fw]; exact I.ef, pf := Paired.mapP I.pf fun b G q => q.kf k, ek := by rw [upd_ne I.kw]; exact I.ek, ew := upd_same, ps := paired_append (Paired.mapP h fun b G q => q.kf k) (Paired.mapP I.ps fun b G q => q.kf k), kp := kp_old I.kp I.nw }
theorem PwI.keep {H' : Hp} (I : PwI K H0 fl kd wl fd kn st bs ss H) (k : Kp H H') : PwI K H0 fl kd wl fd kn st bs ss H' :=
  { I with ef := k _ _ I.ef, pf := Paired.mapP I.pf fun b G q => q.kf (.of k), ek := k _ _ I.ek, ew := k _ _ I.ew, ps := Paired.mapP I.ps fun b G q => q.kf (.of k), kp := I.kp.trans k }
theorem paired_rev {α β : Type} {R : α → β → Prop} : ∀ {as : List α} {bs : List β}, Paired R as bs → Paired R as.reverse bs.reverse
  | _, _, .nil => .nil
  | _, _, .cons h t => by rw [List.reverse_cons, List.reverse_cons]; exact paired_append (paired_rev t) (.cons h .nil)
theorem FoAt.parts {G : Fm} {b : Addr} (h : FoAt K H G b) (hk : ∀ x, G ≠ .atm x) : ∃ ds : List Addr, Fo K H b G (ds.map V.ref) ∧ Paired (fun d J => FoAt K H J d) ds (AB.dir G) := by
  cases G with
  | atm x => exact absurd rfl (hk x)
  | no => exact ⟨[], h, .nil⟩
  | imp f g => obtain ⟨c, d, h1, h2, h3⟩ := h; exact ⟨[c, d], h1, .cons h2 (.cons h3 .nil)⟩
  | all f => obtain ⟨c, h1, h2⟩ := h; exact ⟨[c], h1, .cons h2 .nil⟩
theorem kind_in {G : Fm} : inV (.str (kindS G)) [.str "if", .str "all"] = !(AB.dir G).isEmpty := by
  cases G with
  | atm x => show inV (.str "atom") [.str "if", .str "all"] = false; decide +kernel
  | no => show inV (.str "no") [.str "if", .str "all"] = false; decide +kernel
  | imp f g => show inV (.str "if") [.str "if", .str "all"] = true; decide +kernel
  | all f => show inV (.str "all") [.str "if", .str "all"] = true; decide +kernel
end
section
variable {P : Program} {w : World} {K : PySem.W.Frag} {mg : Str → Option Value} {base : Heap} (T : Tx w K mg)
abbrev Npw : List Str := ["formula", "found", "known", "waiting", "part", "is_done", "inner"]
theorem sc_pw : FnScope Npw ["formula"] (defScope s_parts_within) := ⟨rfl, rfl, rfl, by decide +kernel, rfl, by decide +kernel, by decide +kernel⟩
def spPW (K : PySem.W.Frag) : Sp := fun vs H Q _ => ∃ (a : Addr) (F : Fm), vs = [.ref a] ∧ FoAt K H F a ∧ AB.size F ≤ 1000 ∧ ∀ l H' bs Gs, H' l = some (.lst (bs.map V.ref)) → Paired (fun b G => FoAt K H' G b) bs Gs → AB.PwR F Gs → Kp H H' → Q (.ref l) H'
include T
theorem bd_pw : L2.Binds K (fdOf K (f_parts_within K)) ["formula"] [] := T.F_parts_within.binds fun _ _ _ _ _ _ us hl => match us, hl with | [_], _ => rfl
theorem ok_pw : FH P w K mg base 1 (f_parts_within K) ["formula"] (spPW K) := by
  obtain ⟨uIF, mIF, rIF⟩ := T.c_IF
  obtain ⟨uAL, mAL, rAL⟩ := T.c_ALL
  refine T.F_parts_within.ok sc_pw (fun vs H Q E h => by obtain ⟨a, F, rfl, _⟩ := h; rfl) (fun cdv A outer s H vs Q E hr h => ⟨_, PSs.nox (
    pss_cons (ps_par3 (i := 1) (j := 2) (l := 3) rfl sc_pw.nd rfl rfl rfl (by decide) (by decide) (by decide) rfl rfl rfl (pa_cons (pe_lst pa_nil) (pa_cons pe_dnewK (pa_cons (pe_lst (pa_cons (pe_tup (pa_cons (pv 0) (pa_cons pe_bl pa_nil))) pa_nil)) pa_nil))) rfl)
    (pss_cons (ps_while PassesOwn.never (pt_cmpR (op_neNil hr.units0) (pv 3) (pe_lst pa_nil) (nomark _))
      (pss_cons (ps_asg (pe_bm0 PySem.F.plainAttrs_list PySem.F.slot_list_pop PySem.F.type_list_pop mt_pop (pv 3)) (pg_tup rfl (pgs_cons (pg_name (i := 4) sc_pw.nd rfl (Or.inl rfl)) (pgs_cons (pg_name (i := 5) sc_pw.nd rfl (Or.inl rfl)) pgs_nil))))
      (pss_one (ps_if (pt_val (pv 5)) (pss_one (ps_expr (pe_bm PySem.F.plainAttrs_list PySem.F.slot_list_append PySem.F.type_list_append mt_append (pv 1) (pa_cons (pv 4) pa_nil))))
        (pss_one (ps_if (pt_cmp (pc_dnotin (hu_of hr) (pe_fld (pv 4) rfl) (pv 2)))
          (pss_cons (ps_dput (hu_of hr) (pv 2) (pe_fld (pv 4) rfl) pe_bl rfl)
          (pss_cons (ps_expr (pe_bm PySem.F.plainAttrs_list PySem.F.slot_list_append PySem.F.type_list_append mt_append (pv 3) (pa_cons (pe_tup (pa_cons (pv 4) (pa_cons pe_bl pa_nil))) pa_nil)))
          (pss_one (ps_if (pt_cmpR op_in_seq (pe_fld (pv 4) rfl) (pe_tup (pa_cons (pe_glob rfl mIF rIF) (pa_cons (pe_glob rfl mAL rAL) pa_nil))) rfl)
            (pss_one (ps_expr (pe_bm PySem.F.plainAttrs_list PySem.F.slot_list_extend PySem.F.type_list_extend mt_extend (pv 3) (pa_cons
              (pe_lc (own := [("inner", 6)]) (g := gName 6) (tt := tYes) rfl sc_pw.nd (pi_tup (pe_fld (pv 4) rfl)) (blkOk_by (own := [("inner", 6)]) (N := Npw) (sc := defScope s_parts_within) (by decide +kernel))
        (fun _ _ _ _ _ => pg_name (i := 6) sc_pw.nd rfl (Or.inl rfl)) (fun _ _ _ _ _ => pts_nil) (fun _ _ _ _ _ => pe_tup (pa_cons (pv 6) (pa_cons pe_bl pa_nil)))) pa_nil)))) pss_nil))))
          pss_nil))))))
    (pss_one (ps_ret (pv 1))))), ?_⟩)
  obtain ⟨a, F, rfl, hF, hz, q⟩ := h
  have hzl : (AB.subs F).length ≤ 1000 := by rw [AB.subs_len]; exact hz
  refine ⟨Nat.zero_le _, fun fl hfl => fun kd hkd => ?_⟩
  refine ⟨_, rfl, by show 2 ≤ sizeLine; decide +kernel, fun t ht => ⟨by show 1 ≤ sizeLine; decide +kernel, fun wl hwl => ?_⟩⟩
  refine ⟨_, _, _, rfl, ?_⟩
  have I0 : PwI K H fl kd wl [] [] [(F, false)] [] [.ref t] (upd (upd (upd (upd H fl (.lst [])) kd (.dK [])) t (.tup [.ref a, .bl false])) wl (.lst [.ref t])) := by
    have e1 : upd H fl (.lst []) fl = some (.lst []) := upd_same
    have e2 := up_keep (o' := .dK []) e1 hkd
    have e3 := up_keep (o' := .tup [.ref a, .bl false]) e2 ht
    have d2 : upd (upd H fl (.lst [])) kd (.dK []) kd = some (.dK []) := upd_same
    have d3 := up_keep (o' := .tup [.ref a, .bl false]) d2 ht
    have k1 : Kp H (upd H fl (.lst [])) := kp_up (Same.refl H) hfl
    have k2 := kp_up (o := .dK []) k1 hkd
    have k3 := kp_up (o := .tup [.ref a, .bl false]) k2 ht
    have k4 := kp_up (o := .lst [.ref t]) k3 hwl
    have non : ∀ {b : Addr} {H1 : Hp}, Kp H H1 → H1 b = none → H b = none := fun {b H1} k e => by
      cases h : H b with
      | none => rfl
      | some o => rw [k _ _ h] at e; cases e
    exact ⟨hfl, non k1 hkd, non k3 hwl, ne_of_none e1 hkd, ne_of_none e3 hwl, ne_of_none d3 hwl, up_keep e3 hwl, .nil, up_keep d3 hwl, upd_same, .cons ⟨t, a, rfl, up_keep upd_same hwl, hF.kf (KF.of k4)⟩ .nil, k4⟩
  refine ⟨fun m σ H' => ∃ z4 z5 fd kn st bs ss, σ = [some (.ref a), some (.ref fl), some (.ref kd), some (.ref wl), z4, z5, none] ∧ m = 4 * ((AB.subs F).length - kn.length) + st.length ∧ AB.Pw F fd kn st ∧ PwI K H fl kd wl fd kn st bs ss H', ⟨_, none, none, [], [], _, [], _, rfl, rfl, AB.Pw.init F, I0⟩, ?_⟩
  rintro m σ H' ⟨z4, z5, fd, kn, st, bs, ss, rfl, rfl, pw, I⟩
  refine ⟨_, rfl, Nat.zero_le _, fun e0 he0 => ?_⟩
  have I1 := I.more (o := .lst []) he0
  have ee : upd H' e0 (.lst []) e0 = some (.lst []) := upd_same
  generalize upd H' e0 (.lst []) = H1 at I1 ee ⊢
  refine ⟨wl, e0, ss.reverse, rfl, rfl, SqL.of I1.ew, SqL.of ee, _, rfl, ?_⟩
  cases ss with
  | nil =>
    cases I1.ps
    refine ite2 (fun z => nomatch z) fun _ => ?_
    exact ⟨_, rfl, q fl H1 bs fd I1.ef I1.pf pw.end I1.kp⟩
  | cons v ss' =>
    obtain ⟨⟨G, d⟩, st', rfl⟩ : ∃ e st', st = e :: st' := by
      have := I1.ps
      cases this
      exact ⟨_, _, rfl⟩
    refine ite2 (fun _ => ?_) fun z => absurd (by simp) z
    have hkl := pw.klen
    have hfl' := pw.flen
    have hfew := pw.few
    have hbl := Paired.length I1.pf
    have hsl := Paired.length I1.ps
    rw [List.length_cons, List.length_cons] at hsl
    rw [List.length_cons] at hfew
    have elast : (v :: ss').reverse[(v :: ss').reverse.length - 1]? = some v := by simp
    have edrop : (v :: ss').reverse.dropLast = ss'.reverse := by simp
    obtain ⟨I2, t', b, rfl, et, hG⟩ := I1.pop
    have ew1 := I1.ew
    refine ⟨fun σ' H2 => ∃ m', m' < _ ∧ _, fun σ' H2 z => z, ?_⟩
    refine ⟨_, rfl, .inl ⟨rfl, _, SqL.of ew1⟩, wl, _, _, rfl, rfl, ew1, elast, ?_⟩
    rw [edrop]
    generalize upd H1 wl (.lst ss'.reverse) = H2 at I2 et hG ⊢
    refine ⟨t', _, rfl, SqT.of et, rfl, _, _, rfl, _, _, rfl, rfl, ?_⟩
    refine ⟨_, rfl, d, rfl, ?_⟩
    cases d with
    | true =>
      refine ite2 (fun _ => ?_) fun z => absurd rfl z
      refine ⟨_, rfl, .inl ⟨rfl, _, SqL.of I2.ef⟩, _, rfl, fl, _, _, rfl, rfl, I2.ef, by rw [List.length_map, sizeLine_eq]; omega, ?_⟩
      have I3 := I2.app hG
      rw [List.map_append] at I3
      exact ⟨_, by rw [List.length_cons]; exact Nat.lt_succ_self _, _, _, fd ++ [G], kn, st', bs ++ [b], ss', rfl, rfl, pw.done, I3⟩
    | false =>
      refine ite2 (fun z => nomatch z) fun _ => ?_
      obtain ⟨pp, hf⟩ := hG.fo
      obtain ⟨dxx, pt, al, m1, d1, x1, y1, e1, ept, _⟩ := hf.ex
      refine ⟨_, rfl, b, _, dxx, _, _, rfl, e1, T.cls_Formula, T.na_Formula_spelled, rfl, _, rfl, kd, _, rfl, DGet.k (k := .inr (txt G)) I2.ek, _, rfl, ?_⟩
      by_cases hk : G ∈ kn
      · refine ite2 (fun z => ?_) fun _ => ?_
        · rw [kn_in.mpr hk] at z; cases z
        · exact ⟨_, by rw [List.length_cons]; exact Nat.lt_succ_self _, _, _, fd, kn, st', bs, ss', rfl, rfl, pw.skip hk, I2⟩
      · refine ite2 (fun _ => ?_) fun z => ?_
        · refine ⟨_, rfl, _, rfl, b, _, dxx, _, _, rfl, e1, T.cls_Formula, T.na_Formula_spelled, rfl, kd, _, rfl, DPut.k (k := .inr (txt G)) I2.ek (by unfold knD; rw [List.length_map, sizeLine_eq]; omega), ?_⟩
          rw [kn_put hk]
          have kk3 := kf_d (o := .dK (knD (kn ++ [G]))) I2.ek
          have hG3 := hG.kf kk3
          have I3 := I2.kput (G := G)
          generalize upd H2 kd (.dK (knD (kn ++ [G]))) = H3 at I3 kk3 hG3 ⊢
          have pwn := pw.new hk
          have hkl2 := pwn.klen
          have hdl := AB.dir_len G
          rw [List.length_append, List.length_singleton] at hkl2
          refine ⟨_, rfl, .inl ⟨rfl, _, SqL.of I3.ew⟩, _, rfl, by show 2 ≤ sizeLine; decide +kernel, fun t1 ht1 => ?_⟩
          have I4 := I3.more (o := .tup [.ref b, .bl true]) ht1
          have hG4 := hG3.kf (kf_n (o := .tup [.ref b, .bl true]) ht1)
          have et1 : upd H3 t1 (.tup [.ref b, .bl true]) t1 = some (.tup [.ref b, .bl true]) := upd_same
          generalize upd H3 t1 (.tup [.ref b, .bl true]) = H4 at I4 hG4 et1 ⊢
          refine ⟨wl, _, _, rfl, rfl, I4.ew, by rw [List.length_reverse, sizeLine_eq]; omega, ?_⟩
          have I5 := I4.push (zs := [.ref t1]) (es := [(G, true)]) (.cons ⟨t1, b, rfl, et1, hG4⟩ .nil)
          have hG5 := hG4.kf (kf_l (o := .lst ([V.ref t1] ++ ss').reverse) I4.ew)
          rw [show ss'.reverse ++ [V.ref t1] = ([V.ref t1] ++ ss').reverse by simp]
          generalize upd H4 wl (.lst ([V.ref t1] ++ ss').reverse) = H5 at I5 hG5 ⊢
          obtain ⟨pp5, hf5⟩ := hG5.fo
          obtain ⟨dx5, pt5, al5, m5, d5, x5, y5, e5, ept5, _⟩ := hf5.ex
          refine ⟨_, rfl, b, _, dx5, _, _, rfl, e5, T.cls_Formula, T.na_Formula_kind, rfl, by show 2 ≤ sizeLine; decide +kernel, fun p2 hp2 => ?_⟩
          refine ⟨p2, _, rfl, .inr (SqT.of upd_same), rfl, rfl, _, rfl, ?_⟩
          have I6 := I5.more (o := .tup [.str "if", .str "all"]) hp2
          have hG6 := hG5.kf (kf_n (o := .tup [.str "if", .str "all"]) hp2)
          generalize upd H5 p2 (.tup [.str "if", .str "all"]) = H6 at I6 hG6 ⊢
          refine ite2 (fun hc => ?_) fun hc => ?_
          · have hc' : (!(AB.dir G).isEmpty) = true := by rw [← kind_in]; exact hc
            have hna : ∀ x, G ≠ .atm x := fun x e => by rw [e] at hc'; cases hc'
            obtain ⟨ds, hf6, hds⟩ := hG6.parts hna
            obtain ⟨dx6, pt6, al6, m6, d6, x6, y6, e6, ept6, _⟩ := hf6.ex
            have hdl2 := Paired.length hds
            refine ⟨_, rfl, .inl ⟨rfl, _, SqL.of I6.ew⟩, ?_⟩
            refine ⟨_, rfl, b, _, dx6, _, _, rfl, e6, T.cls_Formula, T.na_Formula_parts, rfl, pt6, rfl, ⟨_, SqT.of ept6⟩, fun D hD => ?_⟩
            refine lc_tup (K := K) (a := pt6) (xs := ds.map V.ref) (fun j H' => Kp H6 H' ∧ ∃ zs, H' D = some (.lst zs) ∧ Paired (StkAt K H') zs (((AB.dir G).take j).map fun J => (J, false))) ?_ ?_ ?_ ?_
            · exact ⟨kp_up (Same.refl H6) hD, [], upd_same, .nil⟩
            · intro j H' _ hp
              exact SqT.of (hp.1 _ _ ept6)
            · rintro j x H' hx ⟨kj, zs, eD, pz⟩
              obtain ⟨c, hcj, rfl⟩ : ∃ c, ds[j]? = some c ∧ V.ref c = x := by
                rw [List.getElem?_map] at hx
                cases hq : ds[j]? with
                | none => rw [hq] at hx; cases hx
                | some c => rw [hq] at hx; exact ⟨c, rfl, Option.some.inj hx⟩
              obtain ⟨J, hJ, hcJ⟩ := paired_get hds hcj
              have hlz := Paired.length pz
              rw [List.length_map, List.length_take] at hlz
              refine ⟨rfl, ?_⟩
              refine ⟨_, rfl, by show 2 ≤ sizeLine; decide +kernel, fun t2 ht2 => ?_⟩
              have eD2 := up_keep (o' := .tup [.ref c, .bl false]) eD ht2
              have k2 := kp_up (o := .tup [.ref c, .bl false]) kj ht2
              have et2 : upd H' t2 (.tup [.ref c, .bl false]) t2 = some (.tup [.ref c, .bl false]) := upd_same
              have pz2 := Paired.mapP pz fun b G q => q.kf (kf_n (o := .tup [.ref c, .bl false]) ht2)
              generalize upd H' t2 (.tup [.ref c, .bl false]) = H7 at eD2 k2 et2 pz2 ⊢
              have k3 := kf_l (o := .lst (zs ++ [.ref t2])) eD2
              refine ⟨zs, eD2, by rw [sizeLine_eq]; omega, kp_old k2 hD, _, upd_same, ?_⟩
              rw [take_succ hJ, List.map_append]
              exact paired_append (Paired.mapP pz2 fun b G q => q.kf k3) (.cons ⟨t2, c, rfl, k3.t _ _ et2, (hcJ.kf (.of k2)).kf k3⟩ .nil)
            · rintro H8 ⟨k8, zs, eD, pz⟩
              have I8 := I6.keep k8
              rw [List.length_map, hdl2, List.take_length] at pz
              have hlz := Paired.length pz
              rw [List.length_map] at hlz
              have hlz : zs.length = (AB.dir G).length := hlz
              have hse : (ss'.reverse ++ [V.ref t1]).length = ss'.length + 1 := by simp
              refine ⟨wl, D, _, zs, rfl, rfl, I8.ew, eD, by rw [List.length_reverse, List.length_append, List.length_singleton, sizeLine_eq]; omega, ?_⟩
              have I9 := I8.push (zs := zs.reverse) (es := ((AB.dir G).reverse.map fun J => (J, false))) (by rw [List.map_reverse]; exact paired_rev pz)
              rw [show ([V.ref t1] ++ ss').reverse ++ zs = (zs.reverse ++ ([V.ref t1] ++ ss')).reverse by simp]
              refine ⟨_, ?_, _, _, fd, kn ++ [G], _, bs, _, rfl, rfl, pwn, I9⟩
              rw [List.length_append, List.length_append, List.length_singleton, List.length_cons, List.length_map, List.length_reverse, List.length_cons]
              omega
          · have hd0 : AB.dir G = [] := by
              have : ¬ (!(AB.dir G).isEmpty) = true := fun z => hc (by rw [← kind_in] at z; exact z)
              cases h : AB.dir G with
              | nil => rfl
              | cons x l => rw [h] at this; exact absurd rfl this
            rw [hd0] at pwn
            refine ⟨_, ?_, _, _, fd, kn ++ [G], _, bs, _, rfl, rfl, pwn, I6⟩
            rw [List.length_append, List.length_singleton, List.length_cons]
            show _ + (st'.length + 1) < _
            omega
        · exfalso
          refine z ?_
          cases hh : valV (knD kn) (.inr (txt G)) with
          | none => rfl
          | some v => exact absurd (kn_in.mp (by rw [hh]; rfl)) hk
end
end AT
end
section
set_option Elab.async false
set_option linter.all false
set_option maxRecDepth 100000
/-! The search: proved_all, derivation. -/
namespace AT
open PySem PySem.Spec PyProof.Rows L2 GL
open AB (Fm At Drv)
/-- the formulas by their bits -/
structure FaAt (K : PySem.W.Frag) (t : List Fm) (A : Ad) (H : Hp) : Prop where
  ex : ∃ kvs, H A.df = some (.dK kvs) ∧ ∀ j F, t[j]? = some F → ∃ a, valV kvs (kB j) = some (.ref a) ∧ FoAt K H F a
theorem FaAt.kb {K : PySem.W.Frag} {t : List Fm} {A : Ad} {H H' : Hp} (h : FaAt K t A H) (k : KB A.dh H H') (hd : ∃ kvs, H A.dh = some (.dT kvs)) : FaAt K t A H' := by
  obtain ⟨kvs, e, f⟩ := h.ex
  obtain ⟨kvd, ed⟩ := hd
  exact ⟨kvs, k.k _ _ e (ne_of e ed fun z => nomatch z), fun j F q => let ⟨a, e1, e2⟩ := f j F q; ⟨a, e1, e2.kf (KF.kb ⟨kvd, ed⟩ k)⟩⟩
section
variable {P : Program} {w : World} {K : PySem.W.Frag} {mg : Str → Option Value} {base : Heap} (T : Tx w K mg)
/-! ### proved_all -/
def spPA (K : PySem.W.Frag) : Sp := fun vs H Q _ => ∃ (A : Ad) (t : List Fm) (l n : Nat), vs = [.ref A.sa, .int l, .int n] ∧ SAt K t A H ∧ Hts t A H ∧ AB.TabOk t ∧ AB.WB t l ∧ AB.WB t n ∧ (∀ i, n.testBit i = true → l.testBit i = false ∧ ∃ G, t[i]? = some (.all G)) ∧
  (∀ i G H', n.testBit i = true → t[i]? = some (.all G) → BV t l G → KB A.dh H H' → Hts t A H' → Q (two i) H') ∧ ∃ i G, n.testBit i = true ∧ t[i]? = some (.all G) ∧ ¬ BF t l G
theorem len_PA (vs : List V) (H : Hp) (Q : VK) (E : XK) (h : spPA K vs H Q E) : vs.length = 3 := by obtain ⟨_, _, _, _, rfl, _⟩ := h; rfl
theorem sc_PA : FnScope ["self", "left", "alls", "bit"] ["self", "left", "alls"] (defScope s_Search_proved_all) := ⟨rfl, rfl, rfl, by decide +kernel, rfl, by decide +kernel, by decide +kernel⟩
include T
theorem bd_PA : L2.Binds K (fdOf K (f_Search_proved_all K)) ["self", "left", "alls"] [] := T.F_Search_proved_all.binds fun _ _ _ _ _ _ us hl => match us, hl with | [_, _, _], _ => rfl
theorem least_all : ∀ n, FG P w K mg base (3 * n + 10) (f_Search_least K) ["self", "left", "right"] (spLeast K n)
  | 0 => ⟨len_least, fun A outer s H args us vs Q hr e0 hb r h => by obtain ⟨_, _, _, _, _, _, _, _, _, _, _, hr, _⟩ := h; exact absurd hr (Nat.not_lt_zero _)⟩
  | n + 1 => ok_least (k := 3 * n + 12) T (by omega) (ok_lol (k := 3 * n + 11) T (by omega) (ok_lb (k := 3 * n + 10) T (by omega) (least_all n)))
theorem lb_all : FG P w K mg base 29 (f_Search_least_beneath K) ["self", "left", "bit"] (spLB K 6) := ok_lb (k := 28) T (by decide) (least_all (P := P) (base := base) T 6)
theorem ok_PA : FG P w K mg base 30 (f_Search_proved_all K) ["self", "left", "alls"] (spPA K) := by
  refine FnG.of T.F_Search_proved_all sc_PA len_PA (fun cdv A outer s H vs Q hr h => ⟨_,
    sgs_cons (sg_for (i := 3) rfl PassesOwn.never (eg_call ((ok_members (P := P) (base := base) T).mono (by decide)) hr rfl T.g_members T.F_members.kp (bd_members T) (ag_cons (eg_var 2) ag_nil)) sc_PA.nd rfl rfl
      (sgs_one (sg_if (tg_cmp og_isN (eg_meth (eg_var 0) T.cls_Search (He.meth_ok T.m_Search_least_beneath) (lb_all (P := P) (base := base) T) hr (bd_lb T) (ag_cons (eg_var 1) (ag_cons (eg_var 3) ag_nil))) eg_non rfl) (sgs_one (sg_ret (eg_var 3))) sgs_nil)))
    (sgs_one (sg_ret eg_int)), ?_⟩)
  obtain ⟨a, t, l, n, rfl, S, Ht, TO, hwl, hwn, hall, q, ex⟩ := h
  refine ⟨_, rfl, n, rfl, wb64 hwn TO.len, fun js la H1 hb k1 hla h1 => ?_⟩
  have S1 := S.kp k1
  have Ht1 := Ht.kp k1
  refine ⟨la, js.map two, rfl, SqL.of h1, fun j σ H2 => KB a.dh H1 H2 ∧ Hts t a H2 ∧ (∃ b, σ = [some (.ref a.sa), some (.int l), some (.int n), b]) ∧ ∀ i ∈ js.take j, ∃ G, t[i]? = some (.all G) ∧ BF t l G,
    ⟨.refl S1.h, Ht1, ⟨none, rfl⟩, by simp⟩, fun j σ H2 _ hp => SqL.of (hp.1.k _ _ h1 ?_), ?_, ?_⟩
  · obtain ⟨kvs, e⟩ := S1.h
    exact ne_of h1 e fun z => nomatch z
  · rintro j x σ H2 hx ⟨kb2, Ht2, ⟨b, rfl⟩, done⟩
    obtain ⟨i, hi, rfl⟩ : ∃ i, js[j]? = some i ∧ two i = x := by simpa using hx
    have S2 := S1.keep kb2
    have mi := (hb.mem i).mp (List.mem_of_getElem? hi)
    obtain ⟨off, G, e⟩ := hall i mi
    refine ⟨_, rfl, a.sa, _, _, rfl, S2.s, rfl, _, rfl, _, rfl, a, t, l, i, G, rfl, S2, Ht2, TO, hwl, e, off, Nat.le_trans (AB.rem_le t l) TO.al, ⟨fun H3 kb3 Ht3 hV => ?_, fun z3 H3 kb3 Ht3 hF => ?_⟩⟩
    · refine ⟨rfl, _, rfl, iteT ?_⟩
      exact ⟨_, rfl, q i G H3 mi e hV ((KB.of k1 S.h).trans (kb2.trans kb3)) Ht3⟩
    · refine ⟨rfl, _, rfl, iteF ?_⟩
      refine ⟨kb2.trans kb3, Ht3, ⟨_, rfl⟩, fun i' hi' => ?_⟩
      rw [take_succ hi] at hi'
      rcases List.mem_append.mp hi' with q' | q'
      · exact done i' q'
      · rw [List.mem_singleton.mp q']; exact ⟨G, e, hF⟩
  · rintro σ H2 ⟨kb2, Ht2, ⟨b, rfl⟩, done⟩
    obtain ⟨i, G, mi, e, hn⟩ := ex
    rw [List.length_map, List.take_length] at done
    obtain ⟨G', e', hF⟩ := done i ((hb.mem i).mpr mi)
    rw [e] at e'; cases e'
    exact absurd hF hn
end
end AT
end
section
set_option Elab.async false
set_option linter.all false
set_option maxRecDepth 100000
/-! Promises under any condition on the room (FnP): a finer count of the depth (RoomD: a call costs one, not three), or an empty guard list. -/
namespace AQ
open PySem PySem.Spec PyProof.Rows L2
/-- a finer count: every call inwards costs one -/
structure RoomD (n : Nat) (A : Around) : Prop where
  hd : A.handled = none
  dp : A.depth + n + 8 < recursionLimit
  un : A.units + 6 * n + 216 < cLine
theorem RoomD.mono {m n : Nat} {A : Around} (r : RoomD n A) (h : m ≤ n) : RoomD m A := ⟨r.hd, by have := r.dp; omega, by have := r.un; omega⟩
theorem RoomD.room {k n : Nat} {A : Around} (r : RoomD n A) (h : 3 * k ≤ n) : Room k A := ⟨r.hd, by have := r.dp; omega, by have := r.un; omega⟩
theorem RoomD.deeper {n : Nat} {A : Around} (r : RoomD (n + 1) A) (env : Env) : RoomD n (A.deeper env) :=
  ⟨r.hd, by have := r.dp; show A.depth + 1 + n + 8 < _; omega, by have := r.un; show A.units + 3 + 6 * n + 216 < _; omega⟩
theorem RoomD.one {n : Nat} {A : Around} (r : RoomD n A) : Room 1 A := ⟨r.hd, by have := r.dp; omega, by have := r.un; omega⟩
/-- a def's promise wherever Ro holds -/
structure FnP (Ro : Around → Prop) (P : Program) (w : World) (K : PySem.W.Frag) (mg : Str → Option Value) (base : Heap) (f : Addr) (fd : FuncData) (ps : List Str) (sp : Sp) : Prop where
  len : ∀ vs H Q E, sp vs H Q E → vs.length = ps.length
  go : ∀ (A : Around), Ro A → ∀ (outer : List Env) (s : Shared) (H : Hp) (args : Args) (us : List Value) (vs : List V) (Q : VK) (E : XK), Env0 P w K mg base A outer s H → BindsTo s fd args (ps.zip us) → Vals vs us → sp vs H Q E →
    codeAny (model P w) A (.call (.ref f) args) (CR CX0 outer P w H s Q E) s
abbrev FnD (P : Program) (w : World) (K : PySem.W.Frag) (mg : Str → Option Value) (base : Heap) (n : Nat) (f : Addr) (fd : FuncData) (ps : List Str) (sp : Sp) : Prop := FnP (RoomD n) P w K mg base f fd ps sp
/-- nothing is being shown -/
def RoomG (n : Nat) (A : Around) : Prop := RoomD n A ∧ A.guards = some []
abbrev FnG (P : Program) (w : World) (K : PySem.W.Frag) (mg : Str → Option Value) (base : Heap) (n : Nat) (f : Addr) (fd : FuncData) (ps : List Str) (sp : Sp) : Prop := FnP (RoomG n) P w K mg base f fd ps sp
section
variable {P : Program} {w : World} {K : PySem.W.Frag} {mg : Str → Option Value} {base : Heap} {f : Addr} {fd : FuncData} {ps : List Str} {sp : Sp} {Ro Ro' : Around → Prop}
theorem FnP.weak (F : FnP Ro P w K mg base f fd ps sp) (h : ∀ A, Ro' A → Ro A) : FnP Ro' P w K mg base f fd ps sp := ⟨F.len, fun A hA => F.go A (h A hA)⟩
theorem FnP.mono {m n : Nat} (F : FnD P w K mg base m f fd ps sp) (h : m ≤ n) : FnD P w K mg base n f fd ps sp := F.weak fun _ r => r.mono h
theorem FnP.imp (F : FnP Ro P w K mg base f fd ps sp) {sp' : Sp} (h : ∀ vs H Q E, sp' vs H Q E → sp vs H Q E) : FnP Ro P w K mg base f fd ps sp' :=
  ⟨fun vs H Q E q => F.len vs H Q E (h _ _ _ _ q), fun A hA outer s H args us vs Q E e0 hb hv hs => F.go A hA outer s H args us vs Q E e0 hb hv (h _ _ _ _ hs)⟩
/-- a def's promise from its body -/
theorem okP {x qual : Str} {st : Stmt} {N : List Str} (F : Fun K x qual st f fd) (S : FnScope N ps (defScope st)) (h1 : ∀ A, Ro A → Room 1 A) (len : ∀ vs H Q E, sp vs H Q E → vs.length = ps.length)
    (hbody : ∀ (cdv : Value) (A : Around), Ro A → ∀ (outer : List Env) (s : Shared) (H : Hp) (vs : List V) (Q : VK) (E : XK), sp vs H Q E →
      ∃ t, PSs (cxOf CX0 P w K mg base N qual (defScope st) f cdv A outer s H E).nox (defBody st) t ∧ t { nx := fun _ H' => Q .non H', rt := Q } (start N vs) H) : FnP Ro P w K mg base f fd ps sp := by
  obtain ⟨oc, od, kV, doc, pm, an, cdv, ct, osl, rfl, lk, hcd⟩ := F.ex
  refine ⟨len, fun A hA outer s H args us vs Q E e0 hb r hsp => ?_⟩
  refine StX.run_bnd (k := 0) lk hcd S (h1 A hA) e0 (G := fun vs' H' => vs' = vs ∧ H' = H) (fun A' Ex Q' h => ?_) fun s2 H2 vs2 ⟨e1, e2⟩ hr2 => ?_
  · exact hb _ _ _ _ (h s H vs us e0 Un.refl rfl (fun _ _ z => z) r (len _ _ _ _ hsp) ⟨rfl, rfl⟩)
  · subst e1 e2
    obtain ⟨t, h, q⟩ := hbody cdv A hA outer s2 H2 vs2 Q E hsp
    exact ⟨t, h.nox, q⟩
theorem okD {x qual : Str} {st : Stmt} {N : List Str} {k n : Nat} (hk : 3 * k ≤ n) (F : Fun K x qual st f fd) (S : FnScope N ps (defScope st)) (len : ∀ vs H Q E, sp vs H Q E → vs.length = ps.length)
    (hbody : ∀ (cdv : Value) (A : Around) (outer : List Env) (s : Shared) (H : Hp) (vs : List V) (Q : VK) (E : XK), RoomD n (A.deeper (envOfC qual (defScope st) s.heap.objs.size f cdv)) → Room k (A.deeper (envOfC qual (defScope st) s.heap.objs.size f cdv)) → sp vs H Q E →
      ∃ t, PSs (cxOf CX0 P w K mg base N qual (defScope st) f cdv A outer s H E).nox (defBody st) t ∧ t { nx := fun _ H' => Q .non H', rt := Q } (start N vs) H) : FnD P w K mg base (n + 1) f fd ps sp :=
  okP F S (fun _ r => r.one) len fun cdv A hA outer s H vs Q E hs => hbody cdv A outer s H vs Q E (hA.deeper _) ((hA.deeper _).room hk) hs
theorem okG {x qual : Str} {st : Stmt} {N : List Str} {k n : Nat} (hk : 3 * k ≤ n) (F : Fun K x qual st f fd) (S : FnScope N ps (defScope st)) (len : ∀ vs H Q E, sp vs H Q E → vs.length = ps.length)
    (hbody : ∀ (cdv : Value) (A : Around) (outer : List Env) (s : Shared) (H : Hp) (vs : List V) (Q : VK) (E : XK), RoomG n (A.deeper (envOfC qual (defScope st) s.heap.objs.size f cdv)) → Room k (A.deeper (envOfC qual (defScope st) s.heap.objs.size f cdv)) → sp vs H Q E →
      ∃ t, PSs (cxOf CX0 P w K mg base N qual (defScope st) f cdv A outer s H E).nox (defBody st) t ∧ t { nx := fun _ H' => Q .non H', rt := Q } (start N vs) H) : FnG P w K mg base (n + 1) f fd ps sp :=
  okP F S (fun _ r => r.1.one) len fun cdv A hA outer s H vs Q E hs => hbody cdv A outer s H vs Q E ⟨hA.1.deeper _, hA.2⟩ ((hA.1.deeper _).room hk) hs
end
section
variable {X : Cx} {f C : Addr} {fd : FuncData} {ps ks : List Str} {sp : Sp} {dvs : List V} {ds : List Value} {E : XK} {x m : Str} {p pos apos : Pos} {e o : Expr} {es : List Expr} {kws : List Keyword} {ta : TE} {t tk : TA} {Ro : Around → Prop}
theorem run_fnp {pins : List (Addr × Obj)} {σ : L2.St} {H : Hp} {s : Shared} {Q : VK} {args : Args} {us : List Value} {vs : List V} (F : FnP Ro X.prog X.w X.K X.mg X.base f fd ps sp) (hA : Ro X.A) (hb : BindsTo s fd args (ps.zip us))
    (I : Inv X pins σ H s) (r : Vals vs us) (h : sp vs H Q E) : wpAny (model X.prog X.w) X.A (call (.ref f) args.pos args.kw) (EP X pins σ Q) X.xe s := by
  refine wpAny_call (codeAny_mono (F.go X.A hA X.stack s H args us vs Q E I.env0 hb r h) fun r s' hq => ?_)
  cases r with
  | error e => exact False.elim hq
  | ok fl =>
    cases fl with
    | ret u => exact I.after hq
    | next => exact False.elim hq
    | brk => exact False.elim hq
    | cont => exact False.elim hq
theorem binds_p {s : Shared} {us : List Value} {vs : List V} {H : Hp} {Q : VK} (F : FnP Ro X.prog X.w X.K X.mg X.base f fd ps sp) (hb : Binds X.K fd ps ds) (hd : Vals dvs ds) (k : X.K.In s.heap) (r : Vals vs us) (h : sp (vs ++ dvs) H Q E) : BindsTo s fd ⟨us, []⟩ (ps.zip (us ++ ds)) :=
  hb s us k (by rw [← (r.append hd).length]; exact F.len _ _ _ _ h)
/-- f(e, ..) of such a def -/
theorem pe_callP (F : FnP Ro X.prog X.w X.K X.mg X.base f fd ps sp) (hA : Ro X.A) (hg : Gl X x) (hm : X.mg x = some (.ref f)) (hk : PySem.W.keepIn X.K (.ref f) = true) (hb : Binds X.K fd ps ds) (hd : Vals dvs ds) (hx : Passes CX0 X E)
    (ha : PA X (e :: es) t) (hdb : (x == ("__debug__" : Str)) = false := by decide) (he : starEach (e :: es) X.env = (false, eval e X.env) :: starEach es X.env := by rfl) (hpl : (backTo pos (starEach es X.env)).any (·.1) = false := by rfl) :
    PE X (.Call (.Name x p) (e :: es) [] pos) (tCall sp dvs E t) := by
  refine ⟨fun pins s σ H Q I h => ?_⟩
  refine wpAny_Call_Name_kw (ld_glob I hg hm ?_ hdb)
  refine PySem.W.callWith_K (h₀ := X.base) I.ok.mod.kin hk (thn (ha.run pos pins s σ H _ I h) fun us s1 ⟨vs, H1, I1, r, q⟩ => ⟨I1.kIn, ?_⟩) he hpl
  exact run_fnp F hA (binds_p F hb hd I1.kIn r q) I1 (r.append hd) q
/-- o.m(e, ..) of such a def -/
theorem pe_methP {pl : Sem Bool} (he : PE X o ta) (c : Cls X.K C) (hm : Meth X.K C m f) (F : FnP Ro X.prog X.w X.K X.mg X.base f fd ps sp) (hA : Ro X.A) (hb : Binds X.K fd ps ds) (hd : Vals dvs ds) (hx : Passes CX0 X E) (ha : PA X (e :: es) t)
    (hst : starEach (e :: es) X.env = (false, eval e X.env) :: starEach es X.env := by rfl) (hpl : (backTo pos (starEach es X.env)).any (·.1) = false := by rfl)
    (ht : eval (.Call (.Attribute o m apos) (e :: es) [] pos) X.env = (do
      let ov ← eval o X.env
      standAt apos.atName
      let (f, first) ← holding [ov] (getMethod ov m pl)
      callWith pos f first (backTo pos (starEach (e :: es) X.env)) (backToKw pos (keywordEach [] X.env))) := by rfl) :
    PE X (.Call (.Attribute o m apos) (e :: es) [] pos) (tMeth C m sp dvs E ta t) := by
  refine ⟨fun pins s σ H Q I h => ?_⟩
  refine PySem.W.methodCall_KW (pl := pl) (thn (he.run pins s σ H _ I h) fun u s1 ⟨x, H1, I1, rx, a, dx, fs, ex, ea, l, q⟩ => ?_) ht
  subst ex
  obtain rfl : u = Value.ref a := rx
  refine getmeth_ok I1 ea c hm l ?_
  refine PySem.W.callWith_K (first := [.ref a]) (h₀ := X.base) I.ok.mod.kin hm.kp (thn (ha.run pos pins s1 σ H1 _ I1 q) fun us s2 ⟨vs, H2, I2, r, q2⟩ => ⟨I2.kIn, ?_⟩) hst hpl
  have r2 : Vals (V.ref a :: vs) (Value.ref a :: us) := .cons rfl r
  exact run_fnp F hA (binds_p F hb hd I2.kIn r2 q2) I2 (r2.append hd) q2
/-- f(k = v, ..) -/
theorem pe_callKP {g : List Value → List Value → List Value} {gV : List V → List V → List V} (F : FnP Ro X.prog X.w X.K X.mg X.base f fd ps sp) (hA : Ro X.A) (hg : Gl X x) (hm : X.mg x = some (.ref f)) (hk : PySem.W.keepIn X.K (.ref f) = true) (hb : KBinds X.K fd ps ks g gV)
    (hkw : PK X kws tk) (hall : (backToKw pos (keywordEach kws X.env)).all (·.1.isSome) = true := by rfl) (hks : (backToKw pos (keywordEach kws X.env)).filterMap (·.1) = ks := by rfl) (hdb : (x == ("__debug__" : Str)) = false := by decide)
    (hpl : ((backTo pos (starEach [] X.env)).any (·.1) || (backToKw pos (keywordEach kws X.env)).any (·.1.isNone)) = false := by rfl) :
    PE X (.Call (.Name x p) [] kws pos) (tCallK sp gV E0 tNil tk) := by
  refine ⟨fun pins s σ H Q I h => ?_⟩
  refine wpAny_Call_Name_kw (ld_glob I hg hm ?_ hdb)
  refine PySem.W.callWith_KW0 (h₀ := X.base) I.ok.mod.kin hk hall ?_ hpl
  refine thn (hkw.run pos pins s σ H _ I h) fun ws s2 ⟨zs, H2, I2, rz, q2⟩ => ⟨I2.kIn, ?_⟩
  rw [hks]
  have r2 := hb.rel (vs := []) (us := []) .nil rz
  have hl : (g [] ws).length = ps.length := by rw [← r2.length]; exact F.len _ _ _ _ q2
  exact run_fnp (args := ⟨[], ks.zip ws⟩) F hA (hb.to s2 [] ws I2.kIn hl) I2 r2 q2
end
end AQ
end
section
set_option Elab.async false
set_option linter.all false
set_option maxRecDepth 100000
/-! The search: derivation. -/
namespace AT
open PySem PySem.Spec PyProof.Rows L2 GL
open AB (Fm At Drv)
theorem OpR.imp {X : Cx} {f : Value → Value → Sem Value} {r r' : R2} (h : OpR X f r) (hr : ∀ x y H Q, r' x y H Q → r x y H Q) : OpR X f r' := fun pins s σ H x y v u Q I rx ry q => h pins s σ H x y v u Q I rx ry (hr _ _ _ _ q)
theorem hn_and {X : Cx} : OpR X (binaryOp .BitAnd) (rN (· &&& ·)) := OpR.imp op_and fun x y H Q ⟨i, j, e1, e2, q⟩ => ⟨i, j, e1, e2, by show Q (.int (Builtin.bitAnd i j)) H; rw [and_nat]; exact q⟩
theorem hn_or {X : Cx} : OpR X (binaryOp .BitOr) (rN (· ||| ·)) := OpR.imp op_or fun x y H Q ⟨i, j, e1, e2, q⟩ => ⟨i, j, e1, e2, by show Q (.int (Builtin.bitOr i j)) H; rw [or_nat]; exact q⟩
theorem hn_gt {X : Cx} : OpR X (compareOp .Gt) (rNB fun i j => decide (j < i)) := OpR.imp op_gt fun x y H Q ⟨i, j, e1, e2, q⟩ => ⟨i, j, e1, e2, by
  have e : decide ((j : Int) < (i : Int)) = decide (j < i) := decide_eq_decide.mpr (by omega)
  show Q (.bl (decide ((j : Int) < (i : Int)))) H
  rw [e]; exact q⟩
/-- derivations of pairs -/
def Dvs (K : PySem.W.Frag) (t : List Fm) (m : Nat) (H : Hp) : List (Nat × Nat) → List Addr → List Drv → Prop
  | [], [], [] => True
  | c :: cs, p :: ps, d :: ds => AB.Der t c.1 c.2 m d ∧ DvAt K H d p ∧ Dvs K t m H cs ps ds
  | _, _, _ => False
theorem Dvs.kf {K : PySem.W.Frag} {t : List Fm} {m : Nat} {H H' : Hp} (k : KF H H') : ∀ {cs : List (Nat × Nat)} {ps : List Addr} {ds : List Drv}, Dvs K t m H cs ps ds → Dvs K t m H' cs ps ds
  | [], [], [], h => h
  | _ :: _, _ :: _, _ :: _, h => ⟨h.1, h.2.1.kf k, Dvs.kf k h.2.2⟩
theorem Dvs.snoc {K : PySem.W.Frag} {t : List Fm} {m : Nat} {H : Hp} {c : Nat × Nat} {p : Addr} {d : Drv} (h1 : AB.Der t c.1 c.2 m d) (h2 : DvAt K H d p) : ∀ {cs : List (Nat × Nat)} {ps : List Addr} {ds : List Drv}, Dvs K t m H cs ps ds → Dvs K t m H (cs ++ [c]) (ps ++ [p]) (ds ++ [d])
  | [], [], [], _ => ⟨h1, h2, True.intro⟩
  | _ :: _, _ :: _, _ :: _, h => ⟨h.1, h.2.1, Dvs.snoc h1 h2 h.2.2⟩
theorem Dvs.len {K : PySem.W.Frag} {t : List Fm} {m : Nat} {H : Hp} : ∀ {cs : List (Nat × Nat)} {ps : List Addr} {ds : List Drv}, Dvs K t m H cs ps ds → ps.length = cs.length
  | [], [], [], _ => rfl
  | _ :: _, _ :: _, _ :: _, h => by simp only [List.length_cons, Dvs.len h.2.2]
theorem Dvs.one {K : PySem.W.Frag} {t : List Fm} {m : Nat} {H : Hp} {c : Nat × Nat} : ∀ {ps : List Addr} {ds : List Drv}, Dvs K t m H [c] ps ds → ∃ p d, ps = [p] ∧ ds = [d] ∧ AB.Der t c.1 c.2 m d ∧ DvAt K H d p
  | [p], [d], h => ⟨p, d, rfl, rfl, h.1, h.2.1⟩
  | _ :: _ :: _, _ :: _, h => (h.2.2 : False).elim
theorem Dvs.two {K : PySem.W.Frag} {t : List Fm} {m : Nat} {H : Hp} {c c' : Nat × Nat} {ps : List Addr} {ds : List Drv} (h : Dvs K t m H [c, c'] ps ds) : ∃ p d p' d', ps = [p, p'] ∧ ds = [d, d'] ∧ AB.Der t c.1 c.2 m d ∧ DvAt K H d p ∧ AB.Der t c'.1 c'.2 m d' ∧ DvAt K H d' p' := by
  cases ps with
  | nil => cases h
  | cons p ps =>
    cases ds with
    | nil => cases h
    | cons d ds =>
      obtain ⟨h1, h2, h3⟩ := h
      obtain ⟨p', d', rfl, rfl, h4, h5⟩ := Dvs.one h3
      exact ⟨p, d, p', d', rfl, rfl, h1, h2, h4, h5⟩
theorem paired_get {α β : Type} {R : α → β → Prop} : ∀ {xs : List α} {ys : List β} {i : Nat} {x : α}, Paired R xs ys → xs[i]? = some x → ∃ y, ys[i]? = some y ∧ R x y
  | _, _, _, _, .nil, e => by simp at e
  | _, _, 0, _, .cons r _, e => by simp at e; subst e; exact ⟨_, rfl, r⟩
  | _, _, i + 1, x, .cons _ t, e => by
    obtain ⟨y, h1, h2⟩ := paired_get (i := i) (x := x) t (by simpa using e)
    exact ⟨y, by simpa using h1, h2⟩
section
variable {P : Program} {w : World} {K : PySem.W.Frag} {mg : Str → Option Value} {base : Heap} (T : Tx w K mg)
def spDer (K : PySem.W.Frag) (m : Nat) : Sp := fun vs H Q _ => ∃ (A : Ad) (t : List Fm) (l r : Nat), vs = [.ref A.sa, .int l, .int r] ∧ SAt K t A H ∧ FaAt K t A H ∧ Hts t A H ∧ AB.TabOk t ∧ AB.WB t l ∧ AB.WB t r ∧ AB.Valid (AB.S t l) (AB.S t r) ∧ AB.dm t l r < m ∧
  ∀ d p H', KB A.dh H H' → Hts t A H' → AB.Der t l r m d → DvAt K H' d p → Q (.ref p) H'
theorem len_der {m : Nat} (vs : List V) (H : Hp) (Q : VK) (E : XK) (h : spDer K m vs H Q E) : vs.length = 3 := by obtain ⟨_, _, _, _, rfl, _⟩ := h; rfl
abbrev Nder : List Str := ["self", "left", "right", "further", "bit", "near", "far", "ifs", "word", "behind"]
theorem sc_der : FnScope Nder ["self", "left", "right"] (defScope s_Search_derivation) := ⟨rfl, rfl, rfl, by decide +kernel, rfl, by decide +kernel, by decide +kernel⟩
include T
/-- the formula of a bit -/
theorem rd_form {t : List Fm} {A : Ad} {H : Hp} {σ : L2.St} {Q : VK} (S : SAt K t A H) (Fa : FaAt K t A H) (hs : σ[0]? = some (some (.ref A.sa))) {j : Nat} {F : Fm} (hj : t[j]? = some F) {ty : TE} (hy : ∀ R : VK, R (two j) H → ty σ H R) (q : ∀ b, FoAt K H F b → Q (.ref b) H) :
    tDGet (tFld K (tFld K (tVar 0) "table") "formulas") ty σ H Q := by
  obtain ⟨kvs, e, f⟩ := Fa.ex
  obtain ⟨b, a1, b1⟩ := f j F hj
  refine rd_table T S hs ⟨A.ta, _, _, _, _, rfl, S.t, T.cls_Table, T.na_Table_formulas, rfl, ?_⟩
  exact hy _ ⟨A.df, .ref b, rfl, by rw [← a1]; exact DGet.k (k := kB j) e, q b b1⟩
theorem bd_der : L2.Binds K (fdOf K (f_Search_derivation K)) ["self", "left", "right"] [] := T.F_Search_derivation.binds fun _ _ _ _ _ _ us hl => match us, hl with | [_, _, _], _ => rfl
omit T in
/-- the derivations of all pairs behind -/
theorem lc_der {t : List Fm} {A : Ad} {m : Nat} {H : Hp} {Q : VK} {l r : V} {pa : Addr} {ts : List Addr} {ch : List (Nat × Nat)} {b4 b5 b6 b7 b8 b9 : Option V} (S : SAt K t A H) (Fa : FaAt K t A H) (Ht : Hts t A H) (TO : AB.TabOk t)
    (hpa : H pa = some (.lst (ts.map V.ref))) (hts : Paired (fun (t : Addr) (p : Nat × Nat) => H t = some (.tup [.int (p.1 : Int), .int (p.2 : Int)])) ts ch) (few : ch.length ≤ 2)
    (hall : ∀ c ∈ ch, AB.WB t c.1 ∧ AB.WB t c.2 ∧ AB.Valid (AB.S t c.1) (AB.S t c.2) ∧ AB.dm t c.1 c.2 < m)
    (hQ : ∀ D ps ds H2, KB A.dh H H2 → Hts t A H2 → H2 D = some (.lst (ps.map V.ref)) → Dvs K t m H2 ch ps ds → Q (.ref D) H2) :
    tLc (iList K (tVar 3)) (gTup K 2 (gCons (gName 5) (gCons (gName 6) gNil))) tYes (L2.tMeth (He.ga K "Search") "derivation" (spDer K m) [] E0 (tVar 0) (tCons (tVar 5) (tCons (tVar 6) tNil))) [5, 6]
      [some (.ref A.sa), some l, some r, some (.ref pa), b4, b5, b6, b7, b8, b9] H Q := by
  refine ⟨_, rfl, pa, rfl, ⟨_, SqL.of hpa⟩, fun D hD => ?_⟩
  obtain ⟨kvd, ed⟩ := S.h
  have hlen : ts.length = ch.length := Paired.length hts
  have nep : pa ≠ A.dh := ne_of hpa ed fun z => nomatch z
  have nDp : pa ≠ D := ne_of_none hpa hD
  refine lc_list (K := K) (a := pa) (xs := ts.map V.ref) (fun j H' => KB A.dh H H' ∧ Hts t A H' ∧ ∃ ps ds, H' D = some (.lst (ps.map V.ref)) ∧ Dvs K t m H' (ch.take j) ps ds) ?_ ?_ ?_ ?_
  · exact ⟨.of (Kp.upd (Same.refl H) hD) ⟨kvd, ed⟩, Ht.kp (Kp.upd (Same.refl H) hD), [], [], upd_same, by rw [List.take_zero]; exact True.intro⟩
  · intro j H' _ h
    exact SqL.of (h.1.k _ _ hpa nep)
  · rintro j x H' hx ⟨kb, Ht', ps, ds, eD, hd⟩
    obtain ⟨tj, hj, rfl⟩ : ∃ tj, ts[j]? = some tj ∧ V.ref tj = x := by simpa using hx
    obtain ⟨c, hc, etj⟩ := paired_get hts hj
    have S' := S.keep kb
    have etj' := kb.k _ _ etj (ne_of etj ed fun z => nomatch z)
    obtain ⟨w1, w2, v1, d1⟩ := hall c (List.mem_of_getElem? hc)
    refine ⟨tj, _, rfl, SqT.of etj', rfl, _, _, rfl, _, _, rfl, rfl, rfl, ?_⟩
    refine ⟨_, rfl, A.sa, _, _, rfl, S'.s, rfl, _, rfl, _, rfl, A, t, c.1, c.2, rfl, S', Fa.kb kb ⟨kvd, ed⟩, Ht', TO, w1, w2, v1, d1, fun d p H2 kb2 Ht2 hD2 hp2 => ?_⟩
    have nD : D ≠ A.dh := fun z => by rw [z, ed] at hD; cases hD
    have eD2 := kb2.k _ _ eD nD
    have hpl := hd.len
    rw [List.length_take] at hpl
    refine ⟨_, eD2, ?_, ?_⟩
    · rw [List.length_map, sizeLine_eq]; omega
    · have k3 : ∀ o, KF H2 (upd H2 D (.lst o)) := fun o => ⟨fun b xs e => by rw [upd_ne (ne_of e eD2 fun z => nomatch z)]; exact e, fun b C dx fs e => by rw [upd_ne (ne_of e eD2 fun z => nomatch z)]; exact e⟩
      obtain ⟨kv2, ed2⟩ := kb2.h
      refine ⟨⟨fun b o e n => ?_, kv2, ?_⟩, Ht2.keep (by rw [upd_ne nD.symm]), ps ++ [p], ds ++ [d], ?_, ?_⟩
      · rw [upd_ne (ne_of_none e hD)]
        exact kb2.k _ _ (kb.k _ _ e n) n
      · rw [upd_ne nD.symm]; exact ed2
      · rw [upd_same, List.map_append]; rfl
      · rw [take_succ hc]
        exact Dvs.snoc hD2 (hp2.kf (k3 _)) ((hd.kf (KF.kb kb.h kb2)).kf (k3 _))
  · rintro H' ⟨kb, Ht', ps, ds, eD, hd⟩
    rw [List.length_map, hlen, List.take_length] at hd
    exact hQ D ps ds H' kb Ht' eD hd
theorem ok_der {m n : Nat} (hk : 90 ≤ n) (FD : AQ.FnD P w K mg base n (f_Search_derivation K) (fdOf K (f_Search_derivation K)) ["self", "left", "right"] (spDer K m)) : AQ.FnD P w K mg base (n + 1) (f_Search_derivation K) (fdOf K (f_Search_derivation K)) ["self", "left", "right"] (spDer K (m + 1)) := by
  obtain ⟨uNO, mNO, rNO⟩ := T.c_NO
  obtain ⟨uIF, mIF, rIF⟩ := T.c_IF
  obtain ⟨uAL, mAL, rAL⟩ := T.c_ALL
  have gL := ((ok_lowest (P := P) (base := base) T).mono (show 1 ≤ 30 by decide)).ok (fun _ _ _ _ h => h)
  have gT := ((ok_taken (P := P) (base := base) T).mono (show 2 ≤ 30 by decide)).ok (fun _ _ _ _ h => h)
  have gP := ((ok_PA (P := P) (base := base) T).mono (show 30 ≤ 30 by decide)).ok (fun _ _ _ _ h => h)
  have gB := ((ok_pairB (P := P) (base := base) T).mono (show 5 ≤ 30 by decide)).ok (fun _ _ _ _ h => h)
  refine AQ.okD (k := 30) (show 3 * 30 ≤ n by omega) T.F_Search_derivation sc_der len_der (fun cdv A outer s H vs Q E hD hr h => ⟨_, PSs.nox (
    pss_cons (ps_if (pt_cmpR hn_gt (pe_op hn_and (pv 1) (pv 2)) pe_int (nomark _))
      (pss_one (ps_ret (pe_tup (pa_cons pe_str (pa_cons (pe_dget (hu_of hr) (pe_fld (pe_fld (pv 0) rfl) rfl) (pe_call gL hr rfl T.g_lowest T.F_lowest.kp (bd_lowest T) .nil pass0 (pa_cons (pe_op hn_and (pv 1) (pv 2)) pa_nil)) (fun _ _ => rfl)) pa_nil))))) pss_nil)
    (pss_cons (ps_if (pt_cmpR hn_gt (pe_op hn_and (pv 1) (pe_dget (hu_of hr) (pe_fld (pe_fld (pv 0) rfl) rfl) (pe_glob rfl mNO rNO) (fun _ _ => rfl))) pe_int (nomark _)) (pss_one (ps_ret (pe_tup (pa_cons pe_str pa_nil)))) pss_nil)
    (pss_cons (ps_set (i := 3) sc_der.nd rfl (Or.inl rfl) (pe_meth (pv 0) T.cls_Search (He.meth_ok T.m_Search_taken_apart) gT hr (bd_taken T) .nil pass0 (pa_cons (pv 1) (pa_cons (pv 2) pa_nil))))
    (pss_cons (ps_if (pt_cmpR op_isN (pv 3) pe_non (nomark _))
      (pss_cons (ps_set (i := 4) sc_der.nd rfl (Or.inl rfl) (pe_meth (pv 0) T.cls_Search (He.meth_ok T.m_Search_proved_all) gP hr (bd_PA T) .nil pass0 (pa_cons (pv 1) (pa_cons (pe_op hn_and (pv 2) (pe_dget (hu_of hr) (pe_fld (pe_fld (pv 0) rfl) rfl) (pe_glob rfl mAL rAL) (fun _ _ => rfl))) pa_nil))))
      (pss_cons (ps_asg (pe_meth (pv 0) T.cls_Search (He.meth_ok T.m_Search_pair_beneath) gB hr (bd_pairB T) .nil pass0 (pa_cons (pv 1) (pa_cons (pv 4) pa_nil))) (pg_tup rfl (pgs_cons (pg_name (i := 5) sc_der.nd rfl (Or.inl rfl)) (pgs_cons (pg_name (i := 6) sc_der.nd rfl (Or.inl rfl)) pgs_nil))))
      (pss_one (ps_ret (pe_tup (pa_cons pe_str (pa_cons (pe_dget (hu_of hr) (pe_fld (pe_fld (pv 0) rfl) rfl) (pv 4) (fun _ _ => rfl)) (pa_cons (AQ.pe_methP (pv 0) T.cls_Search (He.meth_ok T.m_Search_derivation) FD hD (bd_der T) .nil pass0 (pa_cons (pv 5) (pa_cons (pv 6) pa_nil))) pa_nil)))))))) pss_nil)
    (pss_cons (ps_set (i := 7) sc_der.nd rfl (Or.inl rfl) (pe_dget (hu_of hr) (pe_fld (pe_fld (pv 0) rfl) rfl) (pe_glob rfl mIF rIF) (fun _ _ => rfl)))
    (pss_cons (ps_asg (pe_ifExp (pt_cmpR op_eq (pe_callB call_len_seq rfl T.b_len boot_len (pa_cons (pv 3) pa_nil)) pe_int (nomark _))
        (pe_tup (pa_cons pe_str (pa_cons (pe_call gL hr rfl T.g_lowest T.F_lowest.kp (bd_lowest T) .nil pass0 (pa_cons (pe_op hn_and (pv 2) (pv 7)) pa_nil)) pa_nil)))
        (pe_tup (pa_cons pe_str (pa_cons (pe_call gL hr rfl T.g_lowest T.F_lowest.kp (bd_lowest T) .nil pass0 (pa_cons (pe_op hn_and (pv 1) (pv 7)) pa_nil)) pa_nil)))) (pg_tup rfl (pgs_cons (pg_name (i := 8) sc_der.nd rfl (Or.inl rfl)) (pgs_cons (pg_name (i := 4) sc_der.nd rfl (Or.inl rfl)) pgs_nil))))
    (pss_cons (ps_set (i := 9) sc_der.nd rfl (Or.inl rfl) (pe_callTy call_tuple_of rfl T.b_tuple (by decide +kernel) (pa_cons
        (pe_lc (own := [("near", 5), ("far", 6)]) (g := gTup K 2 (gCons (gName 5) (gCons (gName 6) gNil))) (tt := tYes) rfl sc_der.nd (pi_list (pv 3)) (blkOk_by (own := [("near", 5), ("far", 6)]) (N := Nder) (sc := defScope s_Search_derivation) (by decide +kernel))
          (fun _ _ _ _ _ => pg_tup rfl (pgs_cons (pg_name (i := 5) sc_der.nd rfl (Or.inl rfl)) (pgs_cons (pg_name (i := 6) sc_der.nd rfl (Or.inl rfl)) pgs_nil)))
          (fun _ _ _ _ _ => pts_nil)
          (fun _ _ _ _ _ => AQ.pe_methP (pv 0) T.cls_Search (He.meth_ok T.m_Search_derivation) FD hD (bd_der T) .nil pass0 (pa_cons (pv 5) (pa_cons (pv 6) pa_nil)))) pa_nil)))
    (pss_one (ps_ret (pe_op op_catA (pe_tup (pa_cons (pv 8) (pa_cons (pe_dget (hu_of hr) (pe_fld (pe_fld (pv 0) rfl) rfl) (pv 4) (fun _ _ => rfl)) pa_nil))) (pv 9))))))))))), ?_⟩)
  obtain ⟨a, t, l, r, rfl, S, Fa, Ht, TO, hwl, hwr, hV, hm, q⟩ := h
  have hle : 1 ≤ m + 1 := by omega
  -- left & right
  refine ⟨_, rfl, _, rfl, l, r, rfl, rfl, _, 0, rfl, rfl, _, rfl, ite2 (fun (hc : decide (0 < l &&& r) = true) => ?_) fun (hc : ¬ decide (0 < l &&& r) = true) => ?_⟩
  · obtain ⟨i, ei, b1, b2⟩ := AB.low_and (AB.low_pos (of_decide_eq_true hc))
    obtain ⟨F, eF⟩ := hwl.get b1
    refine rd_form T S Fa rfl eF (fun R hR => ⟨_, rfl, _, rfl, l, r, rfl, rfl, _, rfl, ?_⟩) fun b hb => ⟨len2, fun p hp => ?_⟩
    · show R (.int ((AB.low (l &&& r) : Nat) : Int)) H
      rw [ei]; exact hR
    · have k1 : Kp H (upd H p (.tup [.str "same", .ref b])) := Kp.upd (Same.refl H) hp
      exact q (.same F) p _ (.of k1 S.h) (Ht.kp k1) (AB.der_mono (AB.der_same TO.c b1 b2 eF) hle) ⟨b, upd_same, hb.kf (.of k1)⟩
  -- no
  refine ⟨_, rfl, rd_kind T S rfl kind_no ⟨l, mask t AB.isNo, rfl, rfl, _, 0, rfl, rfl, _, rfl, ite2 (fun (hd : decide (0 < l &&& mask t AB.isNo) = true) => ?_) fun (hd : ¬ decide (0 < l &&& mask t AB.isNo) = true) => ?_⟩⟩
  · obtain ⟨i, b1, b2⟩ := AB.and_pos (of_decide_eq_true hd)
    obtain ⟨F, eF, z⟩ := (mask_is t AB.isNo i).mp b2
    rw [AB.isNo_iff.mp z] at eF
    refine ⟨len1, fun p hp => ?_⟩
    have k1 : Kp H (upd H p (.tup [.str "no"])) := Kp.upd (Same.refl H) hp
    exact q .no p _ (.of k1 S.h) (Ht.kp k1) (AB.der_mono (AB.der_no TO.c ⟨i, b1, eF⟩) hle) upd_same
  have open_ : ¬ (0 < l &&& r ∨ 0 < l &&& mask t AB.isNo) := fun h => h.elim (fun h => hc (decide_eq_true h)) fun h => hd (decide_eq_true h)
  have kids : ∀ {ch}, AB.Step t l r ch → ∀ c ∈ ch, AB.WB t c.1 ∧ AB.WB t c.2 ∧ AB.Valid (AB.S t c.1) (AB.S t c.2) ∧ AB.dm t c.1 c.2 < m := fun st c hcc => by
    obtain ⟨w1, w2⟩ := AB.step_wb TO.c st hwl hwr c hcc
    refine ⟨w1, w2, fun tr htr => hV tr ((AB.step_sem TO.c st tr).mpr ⟨c, hcc, htr⟩), ?_⟩
    have := AB.dm_step TO.c st (rem_step TO.c st) c hcc
    omega
  refine ⟨_, rfl, a.sa, _, _, rfl, S.s, rfl, _, rfl, _, rfl, a, t, l, r, rfl, S, fun i G F pa H1 b1 eF elow k1 hp => ?_, fun i G F pa H1 z b1 eF elow k1 hp => ?_, fun z1 z2 => ?_⟩
  · -- right
    have S1 := S.kp k1
    have Ht1 := Ht.kp k1
    have kb1 : KB a.dh H H1 := .of k1 S.h
    have Fa1 := Fa.kb kb1 S.h
    have st : AB.Step t l r _ := .right b1 eF
    obtain ⟨ts, hpa, hts⟩ := hp
    have hone : ts.length = 1 := Paired.length hts
    refine ⟨_, rfl, rfl, _, rfl, iteF ?_⟩
    refine rd_kind T S1 rfl kind_if ?_
    refine ⟨_, rfl, pa, _, rfl, .inl (SqL.of hpa), rfl, _, rfl, ?_⟩
    rw [List.length_map, hone]
    refine iteT ?_
    refine ⟨_, rfl, _, rfl, r, mask t AB.isImp, rfl, rfl, _, rfl, len2, fun p2 hp2 => ?_⟩
    refine ⟨p2, _, rfl, SqT.of upd_same, rfl, _, _, rfl, _, _, rfl, rfl, ?_⟩
    have k2 : Kp H1 (upd H1 p2 (.tup [.str "right", .int ((AB.low (r &&& mask t AB.isImp) : Nat) : Int)])) := Kp.upd (Same.refl H1) hp2
    have S2 := S1.kp k2
    have kb2 : KB a.dh H (upd H1 p2 (.tup [.str "right", .int ((AB.low (r &&& mask t AB.isImp) : Nat) : Int)])) := kb1.trans (.of k2 S1.h)
    dsimp only [tSeq, tAsg, tCB, tCons]
    refine lc_der S2 (Fa.kb kb2 S.h) (Ht1.kp k2) TO (k2 _ _ hpa) (Paired.mapP hts fun x y e => k2 _ _ e) (show 1 ≤ 2 by decide) (kids st) fun D ps ds H3 kb3 Ht3 eD hd => ?_
    obtain ⟨pd, d, rfl, rfl, h1, h2⟩ := hd.one
    · skip
      refine ⟨D, _, rfl, .inl ⟨SqL.of eD, fun tb htb => ?_⟩⟩
      have S3 := S2.keep kb3
      have k4 : Kp H3 (upd H3 tb (.tup [.ref pd])) := Kp.upd (Same.refl H3) htb
      have S4 := S3.kp k4
      have kb4 := (kb2.trans kb3).trans (.of k4 S3.h)
      refine ⟨_, rfl, ?_⟩
      refine rd_form T S4 (Fa.kb kb4 S.h) rfl eF (fun R hR => ⟨_, rfl, ?_⟩) fun b hb => ⟨len2, fun pw hpw => ?_⟩
      · show R (.int ((AB.low (r &&& mask t AB.isImp) : Nat) : Int)) _
        rw [elow]; exact hR
      have k5 : Kp (upd H3 tb (.tup [.ref pd])) (upd (upd H3 tb (.tup [.ref pd])) pw (.tup [.str "right", .ref b])) := Kp.upd (Same.refl _) hpw
      refine ⟨_, rfl, pw, tb, [.str "right", .ref b], [.ref pd], rfl, rfl, SqT.of upd_same, SqT.of (k5 _ _ upd_same), (by decide : 3 ≤ sizeLine), (fun z => nomatch z), (fun _ z => nomatch z), fun _ _ pr hpr => ?_⟩
      have k6 : Kp (upd (upd H3 tb (.tup [.ref pd])) pw (.tup [.str "right", .ref b])) (upd (upd (upd H3 tb (.tup [.ref pd])) pw (.tup [.str "right", .ref b])) pr (.tup ([.str "right", .ref b] ++ [.ref pd]))) := Kp.upd (Same.refl _) hpr
      have k46 := k4.trans (k5.trans k6)
      exact q (.right _ d) pr _ (kb4.trans (.of (k5.trans k6) S4.h)) ((Ht3.kp k46)) (AB.der_right TO.c b1 eF h1) ⟨b, pd, upd_same, hb.kf (.of (k5.trans k6)), h2.kf (.of k46)⟩
  · -- left
    have S1 := S.kp k1
    have Ht1 := Ht.kp k1
    have kb1 : KB a.dh H H1 := .of k1 S.h
    have Fa1 := Fa.kb kb1 S.h
    have st : AB.Step t l r _ := .left b1 eF
    obtain ⟨ts, hpa, hts⟩ := hp
    have hone : ts.length = 2 := Paired.length hts
    refine ⟨_, rfl, rfl, _, rfl, iteF ?_⟩
    refine rd_kind T S1 rfl kind_if ?_
    refine ⟨_, rfl, pa, _, rfl, .inl (SqL.of hpa), rfl, _, rfl, ?_⟩
    rw [List.length_map, hone]
    refine iteF ?_
    refine ⟨_, rfl, _, rfl, l, mask t AB.isImp, rfl, rfl, _, rfl, len2, fun p2 hp2 => ?_⟩
    refine ⟨p2, _, rfl, SqT.of upd_same, rfl, _, _, rfl, _, _, rfl, rfl, ?_⟩
    have k2 : Kp H1 (upd H1 p2 (.tup [.str "left", .int ((AB.low (l &&& mask t AB.isImp) : Nat) : Int)])) := Kp.upd (Same.refl H1) hp2
    have S2 := S1.kp k2
    have kb2 : KB a.dh H (upd H1 p2 (.tup [.str "left", .int ((AB.low (l &&& mask t AB.isImp) : Nat) : Int)])) := kb1.trans (.of k2 S1.h)
    dsimp only [tSeq, tAsg, tCB, tCons]
    refine lc_der S2 (Fa.kb kb2 S.h) (Ht1.kp k2) TO (k2 _ _ hpa) (Paired.mapP hts fun x y e => k2 _ _ e) (show 2 ≤ 2 by decide) (kids st) fun D ps ds H3 kb3 Ht3 eD hd => ?_
    obtain ⟨pd, d, pe, e, rfl, rfl, h1, h2, h3, h4⟩ := hd.two
    · skip
      refine ⟨D, _, rfl, .inl ⟨SqL.of eD, fun tb htb => ?_⟩⟩
      have S3 := S2.keep kb3
      have k4 : Kp H3 (upd H3 tb (.tup [.ref pd, .ref pe])) := Kp.upd (Same.refl H3) htb
      have S4 := S3.kp k4
      have kb4 := (kb2.trans kb3).trans (.of k4 S3.h)
      refine ⟨_, rfl, ?_⟩
      refine rd_form T S4 (Fa.kb kb4 S.h) rfl eF (fun R hR => ⟨_, rfl, ?_⟩) fun b hb => ⟨len2, fun pw hpw => ?_⟩
      · show R (.int ((AB.low (l &&& mask t AB.isImp) : Nat) : Int)) _
        rw [elow]; exact hR
      have k5 : Kp (upd H3 tb (.tup [.ref pd, .ref pe])) (upd (upd H3 tb (.tup [.ref pd, .ref pe])) pw (.tup [.str "left", .ref b])) := Kp.upd (Same.refl _) hpw
      refine ⟨_, rfl, pw, tb, [.str "left", .ref b], [.ref pd, .ref pe], rfl, rfl, SqT.of upd_same, SqT.of (k5 _ _ upd_same), (by decide : 4 ≤ sizeLine), (fun z => nomatch z), (fun _ z => nomatch z), fun _ _ pr hpr => ?_⟩
      have k6 : Kp (upd (upd H3 tb (.tup [.ref pd, .ref pe])) pw (.tup [.str "left", .ref b])) (upd (upd (upd H3 tb (.tup [.ref pd, .ref pe])) pw (.tup [.str "left", .ref b])) pr (.tup ([.str "left", .ref b] ++ [.ref pd, .ref pe]))) := Kp.upd (Same.refl _) hpr
      have k46 := k4.trans (k5.trans k6)
      exact q (.left _ d e) pr _ (kb4.trans (.of (k5.trans k6) S4.h)) ((Ht3.kp k46)) (AB.der_left TO.c b1 eF h1 h3) ⟨b, pd, pe, upd_same, hb.kf (.of (k5.trans k6)), h2.kf (.of k46), h4.kf (.of k46)⟩
  · -- beneath
    have L : AB.Leaf t l r := .of hwl hwr (mask_is t AB.isNo) (mask_is t AB.isImp) open_ z2 z1
    refine ⟨_, rfl, rfl, _, rfl, iteT ?_⟩
    refine ⟨_, rfl, a.sa, _, _, rfl, S.s, rfl, _, rfl, _, rfl, rd_kind T S rfl kind_all ⟨r, mask t AB.isAll, rfl, rfl, ?_⟩⟩
    refine ⟨a, t, l, r &&& mask t AB.isAll, rfl, S, Ht, TO, hwl, AB.WB.and hwr, fun i hi => ?_, fun i G H1 hi eG hBV kb1 Ht1 => ?_, ?_⟩
    · rw [Nat.testBit_and, Bool.and_eq_true] at hi
      refine ⟨?_, all_at hi.2⟩
      cases ql : l.testBit i with
      | false => rfl
      | true => exact (AB.and_zero L.op ql hi.1).elim
    · rw [Nat.testBit_and, Bool.and_eq_true] at hi
      have off : l.testBit i = false := by
        cases ql : l.testBit i with
        | false => rfl
        | true => exact (AB.and_zero L.op ql hi.1).elim
      have S1 := S.keep kb1
      refine ⟨_, rfl, a.sa, _, _, rfl, S1.s, rfl, _, rfl, _, rfl, a, t, l, i, G, rfl, S1, TO.len, hwl, eG, fun js pt H2 hb k2 ept => ?_⟩
      refine ⟨pt, _, rfl, SqT.of ept, rfl, _, _, rfl, _, _, rfl, rfl, ?_⟩
      have S2 := S1.kp k2
      have kb2 := kb1.trans (.of k2 S1.h)
      have B : AB.Bn t l (mask t AB.isAll) js i G := ⟨mask_is t _, hb.mem, hb.nd, eG, off⟩
      obtain ⟨w1, w2⟩ := B.wb TO.c hwl
      have hdm := B.dm (r := r) TO
      refine rd_form T S2 (Fa.kb kb2 S.h) rfl eG (fun R hR => ⟨_, rfl, hR⟩) fun b hbo => ?_
      refine ⟨_, rfl, a.sa, _, _, rfl, S2.s, rfl, _, rfl, _, rfl, a, t, AB.nearOf t (l &&& mask t AB.isAll) js i, 2 ^ AB.ix t G, rfl, S2, Fa.kb kb2 S.h, Ht1.kp k2, TO, w1, w2, fun tr htr => hBV tr ((B.fals TO.c tr).mp htr), by omega, fun d p H3 kb3 Ht3 hD hp => ⟨len3, fun pr hpr => ?_⟩⟩
      have S3 := S2.keep kb3
      have k4 : Kp H3 (upd H3 pr (.tup [.str "beneath", .ref b, .ref p])) := Kp.upd (Same.refl H3) hpr
      exact q (.beneath _ d) pr _ ((kb2.trans kb3).trans (.of k4 S3.h)) (Ht3.kp k4) (AB.der_beneath TO.c hi.1 B hD) ⟨b, p, upd_same, (hbo.kf (KF.kb S2.h kb3)).kf (.of k4), hp.kf (.of k4)⟩
    · refine Classical.byContradiction fun hno => ?_
      obtain ⟨tr, htr⟩ := AB.leaf_some TO.c L fun i G hi e => Classical.byContradiction fun hBF => hno ⟨i, G, by rw [Nat.testBit_and, hi, (mask_is t AB.isAll i).mpr ⟨_, e, rfl⟩]; rfl, e, hBF⟩
      exact hV tr htr
end
end AT
end
section
set_option Elab.async false
set_option linter.all false
set_option maxRecDepth 100000
/-! Table.__init__, Search.__init__. -/
namespace AT
open PySem PySem.Spec PyProof.Rows L2
open AB (Fm At Drv)
/-- the table's object -/
structure TbAt (K : PySem.W.Frag) (t : List Fm) (A : Ad) (H : Hp) : Prop where
  o : H A.ta = some (.ins (He.ga K "Table") A.tx [("bits_by_text", .ref A.db), ("formulas", .ref A.df), ("inner_bits", .ref A.di), ("kinds", .ref A.dk)])
  b : ∃ kvs : List (Key × V), H A.db = some (.dK kvs) ∧ kvs.length ≤ t.length ∧ ∀ F, valV kvs (.inr (txt F)) = if F ∈ t then some (two (AB.ix t F)) else none
  f : ∃ kvs, H A.df = some (.dK kvs) ∧ kvs.map (·.1) = (List.range t.length).map kB ∧ ∀ j F, t[j]? = some F → ∃ a, valV kvs (kB j) = some (.ref a) ∧ FoAt K H F a
  i : ∃ kvs, H A.di = some (.dK kvs) ∧ kvs.length ≤ t.length ∧ ∀ j F, t[j]? = some F → ∃ l, valV kvs (kB j) = some (.ref l) ∧ H l = some (.lst (innerV t F))
  k : H A.dk = some (.dK (kindsD t))
  bf : A.db ≠ A.df
  bi : A.db ≠ A.di
  bk : A.db ≠ A.dk
  fi : A.df ≠ A.di
  fk : A.df ≠ A.dk
  ik : A.di ≠ A.dk
theorem TbAt.kp {K : PySem.W.Frag} {t : List Fm} {A : Ad} {H H' : Hp} (h : TbAt K t A H) (k : Kp H H') : TbAt K t A H' := by
  obtain ⟨b, b1, b2, b3⟩ := h.b
  obtain ⟨f, f1, f2, f3⟩ := h.f
  obtain ⟨i, i1, i2, i3⟩ := h.i
  exact { h with o := k _ _ h.o, b := ⟨b, k _ _ b1, b2, b3⟩, f := ⟨f, k _ _ f1, f2, fun j F q => let ⟨a, x, y⟩ := f3 j F q; ⟨a, x, y.kf (.of k)⟩⟩, i := ⟨i, k _ _ i1, i2, fun j F q => let ⟨l, x, y⟩ := i3 j F q; ⟨l, x, k _ _ y⟩⟩, k := k _ _ h.k }
/-- what the search's own object says -/
structure SrAt (K : PySem.W.Frag) (A : Ad) (H : Hp) : Prop where
  s : H A.sa = some (.ins (He.ga K "Search") A.sx [("table", .ref A.ta), ("heights_beneath", .ref A.dh)])
  h : ∃ kvs, H A.dh = some (.dT kvs)
theorem TbAt.sat {K : PySem.W.Frag} {t : List Fm} {A : Ad} {H : Hp} (h : TbAt K t A H) (s : SrAt K A H) : SAt K t A H ∧ FaAt K t A H := by
  obtain ⟨f, f1, f2, f3⟩ := h.f
  obtain ⟨i, i1, i2, i3⟩ := h.i
  exact ⟨⟨s.s, h.o, h.k, ⟨i, i1, i3⟩, s.h⟩, ⟨f, f1, f3⟩⟩
theorem st_new {K : PySem.W.Frag} {f : Str} {v : V} {fs fs' : List (Str × V)} {Q : Hp → Prop} {H : Hp} {a C dx p : Addr} {o : HO} (ea : H a = some (.ins C dx fs)) (hn : H p = none) (c : Cls K C) (n : NoAttr K C f) (l : fs.length < 1000) (e : putF f v fs = fs')
    (q : ∀ H', H' a = some (.ins C dx fs') → H' p = some o → Kp (off H a) H' → p ≠ a → Q H') : ∃ a' C dx fs, V.ref a = V.ref a' ∧ upd H p o a' = some (.ins C dx fs) ∧ Cls K C ∧ NoAttr K C f ∧ fs.length < 1000 ∧ Q (upd (upd H p o) a' (.ins C dx (putF f v fs))) := by
  have hne : p ≠ a := fun z => by rw [z, ea] at hn; cases hn
  refine st_fld (up_keep ea hn) c n l e (kp_off _ _) off_self fun H' e' k' => q H' e' (k' _ _ (off_keep upd_same hne)) (fun b o' h => ?_) hne
  have hb : b ≠ a := fun z => by rw [z, off_self] at h; cases h
  rw [off_ne hb] at h
  exact k' b o' (off_keep (up_keep h hn) hb)
theorem tbAt_off {K : PySem.W.Frag} {A : Ad} {H : Hp} {a dx : Addr} {C : Addr} {fs : List (Str × V)} (h : TbAt K [] A H) (ea : H a = some (.ins C dx fs)) (hne : A.ta ≠ a) : TbAt K [] A (off H a) := by
  have nd : ∀ {b : Addr} {kvs : List (Key × V)}, H b = some (.dK kvs) → off H a b = some (.dK kvs) := fun {b kvs} e => off_keep e fun z => by rw [z, ea] at e; cases e
  obtain ⟨b, b1, b2, b3⟩ := h.b
  obtain ⟨f, f1, f2, f3⟩ := h.f
  obtain ⟨i, i1, i2, i3⟩ := h.i
  exact { h with o := off_keep h.o hne, b := ⟨b, nd b1, b2, b3⟩, f := ⟨f, nd f1, f2, fun j F q => by cases q⟩, i := ⟨i, nd i1, i2, fun j F q => by cases q⟩, k := nd h.k }
theorem off_none {H H1 : Hp} {a b C dx : Addr} {fs : List (Str × V)} (k : Kp (off H a) H1) (ea : H1 a = some (.ins C dx fs)) (h : H1 b = none) : H b = none := by
  have hb : b ≠ a := fun z => by rw [z, ea] at h; cases h
  cases e : H b with
  | none => rfl
  | some o => rw [k _ _ (off_keep e hb)] at h; cases h
/-- the four dicts are new -/
def New4 (A : Ad) (H : Hp) : Prop := H A.db = none ∧ H A.df = none ∧ H A.di = none ∧ H A.dk = none
section
variable {P : Program} {w : World} {K : PySem.W.Frag} {mg : Str → Option Value} {base : Heap} (T : Tx w K mg)
theorem sc_tinit : FnScope ["self"] ["self"] (defScope s_Table__init__) := ⟨rfl, rfl, rfl, by decide +kernel, rfl, by decide +kernel, by decide +kernel⟩
theorem sc_sinit : FnScope ["self"] ["self"] (defScope s_Search__init__) := ⟨rfl, rfl, rfl, by decide +kernel, rfl, by decide +kernel, by decide +kernel⟩
def spTInit (K : PySem.W.Frag) : Sp := fun vs H Q _ => ∃ (a dx : Addr), vs = [.ref a] ∧ H a = some (.ins (He.ga K "Table") dx []) ∧ ∀ A H', A.ta = a → A.tx = dx → New4 A H → TbAt K [] A H' → Kp (off H a) H' → Q .non H'
include T
theorem ok_tinit : FH P w K mg base 1 (f_Table__init__ K) ["self"] (spTInit K) := by
  obtain ⟨uAT, mAT, rAT⟩ := T.c_ATOM
  obtain ⟨uNO, mNO, rNO⟩ := T.c_NO
  obtain ⟨uIF, mIF, rIF⟩ := T.c_IF
  obtain ⟨uAL, mAL, rAL⟩ := T.c_ALL
  refine T.F_Table__init__.ok sc_tinit (fun vs H Q E h => by obtain ⟨a, dx, rfl, _⟩ := h; rfl) (fun cdv A outer s H vs Q E hr h => ⟨_, PSs.nox (
    pss_cons (ps_fld (pv 0) pe_dnewK rfl) (pss_cons (ps_fld (pv 0) pe_dnewK rfl) (pss_cons (ps_fld (pv 0) pe_dnewK rfl)
    (pss_one (ps_fld (pv 0) (pe_disp (pps_cons (pe_glob rfl mAT rAT) pe_int (pps_cons (pe_glob rfl mNO rNO) pe_int (pps_cons (pe_glob rfl mIF rIF) pe_int (pps_cons (pe_glob rfl mAL rAL) pe_int pps_nil)))) rfl rfl (by simp) (by decide)) rfl))))), ?_⟩)
  obtain ⟨a, dx, rfl, ea, q⟩ := h
  refine fun db hdb => ⟨_, rfl, st_new (fs' := [("bits_by_text", .ref db)]) ea hdb T.cls_Table T.na_Table_bits_by_text (by decide) rfl fun H1 e1 db1 k1 n1 => ?_⟩
  refine fun df hdf => ⟨_, rfl, st_new (fs' := [("bits_by_text", .ref db), ("formulas", .ref df)]) e1 hdf T.cls_Table T.na_Table_formulas (by show 1 < 1000; omega) rfl fun H2 e2 df2 k2 n2 => ?_⟩
  refine fun di hdi => ⟨_, rfl, st_new (fs' := [("bits_by_text", .ref db), ("formulas", .ref df), ("inner_bits", .ref di)]) e2 hdi T.cls_Table T.na_Table_inner_bits (by show 2 < 1000; omega) rfl fun H3 e3 di3 k3 n3 => ?_⟩
  have db2 := k2 _ _ (off_keep db1 n1)
  have db3 := k3 _ _ (off_keep db2 n1)
  have df3 := k3 _ _ (off_keep df2 n2)
  have k12 : Kp (off H a) H2 := (kp_off2 k1 off_self).trans k2
  have k13 : Kp (off H a) H3 := (kp_off2 k12 off_self).trans k3
  refine fun dk hdk => ?_
  have eo : upd H3 dk (.dK []) dk = some (.dK []) := upd_same
  refine ⟨eo, [(.inr "atom", .int 0), (.inr "no", .int 0), (.inr "if", .int 0), (.inr "all", .int 0)], rfl, by decide, ?_⟩
  have em : mergeK [] [((.inr "atom" : Key), V.int 0), (.inr "no", .int 0), (.inr "if", .int 0), (.inr "all", .int 0)] = kindsD [] := by rfl
  rw [em]
  have e4 := up_keep (o' := .dK []) e3 hdk
  have dka : dk ≠ a := fun z => by rw [z, e3] at hdk; cases hdk
  have e5 : upd (upd H3 dk (.dK [])) dk (.dK (kindsD [])) a = some (.ins (He.ga K "Table") dx [("bits_by_text", .ref db), ("formulas", .ref df), ("inner_bits", .ref di)]) := by rw [upd_ne (Ne.symm dka)]; exact e4
  have k5 : Kp H3 (upd (upd H3 dk (.dK [])) dk (.dK (kindsD []))) := kp_old (kp_up (Same.refl H3) hdk) hdk
  have dk5 : upd (upd H3 dk (.dK [])) dk (.dK (kindsD [])) dk = some (.dK (kindsD [])) := upd_same
  generalize upd (upd H3 dk (.dK [])) dk (.dK (kindsD [])) = H5 at e5 k5 dk5 ⊢
  refine ⟨_, rfl, st_fld (fs' := [("bits_by_text", .ref db), ("formulas", .ref df), ("inner_bits", .ref di), ("kinds", .ref dk)]) e5 T.cls_Table T.na_Table_kinds (by show 3 < 1000; omega) rfl (kp_off _ _) off_self fun H6 e6 k6 => ?_⟩
  have k56 : Kp (off H3 a) H6 := fun b o h => by
    have hb : b ≠ a := fun z => by rw [z, off_self] at h; cases h
    rw [off_ne hb] at h
    exact k6 _ _ (off_keep (k5 _ _ h) hb)
  refine q ⟨a, a, a, dx, db, df, di, dk, a⟩ H6 rfl rfl ⟨hdb, off_none k1 e1 hdf, off_none k12 e2 hdi, off_none k13 e3 hdk⟩ ⟨e6, ⟨[], k56 _ _ (off_keep db3 n1), Nat.le_refl _, fun F => rfl⟩, ⟨[], k56 _ _ (off_keep df3 n2), rfl, fun j F h => by cases h⟩, ⟨[], k56 _ _ (off_keep di3 n3), Nat.le_refl _, fun j F h => by cases h⟩, k6 _ _ (off_keep dk5 dka), ne_of_none db1 hdf, ne_of_none db2 hdi, ne_of_none db3 hdk, ne_of_none df2 hdi, ne_of_none df3 hdk, ne_of_none di3 hdk⟩ ((kp_off2 k13 off_self).trans k56)
theorem mk_table : Mk K (He.ga K "Table") (f_Table__init__ K) := He.mkr_ok T.mkr_Table
theorem mk_search : Mk K (He.ga K "Search") (f_Search__init__ K) := He.mkr_ok T.mkr_Search
theorem bd_tinit : L2.Binds K (fdOf K (f_Table__init__ K)) ["self"] [] := T.F_Table__init__.binds fun _ _ _ _ _ _ us hl => match us, hl with | [_], _ => rfl
theorem bd_sinit : L2.Binds K (fdOf K (f_Search__init__ K)) ["self"] [] := T.F_Search__init__.binds fun _ _ _ _ _ _ us hl => match us, hl with | [_], _ => rfl
def spSInit (K : PySem.W.Frag) : Sp := fun vs H Q _ => ∃ (a dx : Addr), vs = [.ref a] ∧ H a = some (.ins (He.ga K "Search") dx []) ∧ ∀ A H', A.sa = a → A.sx = dx → New4 A H → H A.dh = none → TbAt K [] A H' → H' A.sa = some (.ins (He.ga K "Search") A.sx [("table", .ref A.ta), ("heights_beneath", .ref A.dh)]) → H' A.dh = some (.dT []) → Kp (off H a) H' → Q .non H'
theorem ok_sinit : FH P w K mg base 3 (f_Search__init__ K) ["self"] (spSInit K) := by
  refine T.F_Search__init__.ok sc_sinit (fun vs H Q E h => by obtain ⟨a, dx, rfl, _⟩ := h; rfl) (fun cdv A outer s H vs Q E hr h => ⟨_, PSs.nox (
    pss_cons (ps_fld (pv 0) (pe_make0 (mk_table T) (ok_tinit T) hr rfl T.g_Table (bd_tinit T) .nil pass0) rfl)
    (pss_one (ps_fld (pv 0) pe_dnewT rfl))), ?_⟩)
  obtain ⟨a, dx, rfl, ea, q⟩ := h
  refine fun x xd hx hxd hne => ?_
  refine ⟨x, xd, rfl, upd_same, fun A H1 eA eX n4 hT k1 => ⟨rfl, _, rfl, ?_⟩⟩
  have k01 : Kp H H1 := fun b o h => k1 _ _ (off_keep (up_keep (up_keep h hxd) (by rw [upd_ne (fun z => hne z.symm)]; exact hx)) (ne_of_none h hx))
  have ea1 := k01 _ _ ea
  have hax : A.ta ≠ a := fun z => by
    rw [← eA] at hx
    rw [z, ea] at hx; cases hx
  refine st_fld (fs' := [("table", .ref x)]) ea1 T.cls_Search T.na_Search_table (by decide) rfl (kp_off _ _) off_self fun H2 e2 k2 => ?_
  have hT2 := (tbAt_off hT ea1 hax).kp k2
  refine fun dh hdh => ⟨_, rfl, st_new (fs' := [("table", .ref x), ("heights_beneath", .ref dh)]) e2 hdh T.cls_Search T.na_Search_heights_beneath (by show 1 < 1000; omega) rfl fun H3 e3 dh3 k3 n3 => ?_⟩
  have hT3 := (tbAt_off hT2 e2 hax).kp k3
  have up3 : ∀ {b : Addr}, upd (upd H xd (.own x)) x (.ins (He.ga K "Table") xd []) b = none → H b = none := fun {b} h => by
    cases e : H b with
    | none => rfl
    | some o => rw [up_keep (up_keep e hxd) (by rw [upd_ne (fun z => hne z.symm)]; exact hx)] at h; cases h
  have hdh0 : H dh = none := by
    have hb : dh ≠ a := n3
    cases e : H dh with
    | none => rfl
    | some o => rw [k2 _ _ (off_keep (k01 _ _ e) hb)] at hdh; cases hdh
  refine q { A with sa := a, sx := dx, dh := dh } H3 rfl rfl ⟨up3 n4.1, up3 n4.2.1, up3 n4.2.2.1, up3 n4.2.2.2⟩ hdh0 ⟨hT3.o, hT3.b, hT3.f, hT3.i, hT3.k, hT3.bf, hT3.bi, hT3.bk, hT3.fi, hT3.fk, hT3.ik⟩ (by rw [← eA] at e3; exact e3) dh3 ?_
  intro b o h
  have hb : b ≠ a := fun z => by rw [z, off_self] at h; cases h
  rw [off_ne hb] at h
  exact k3 _ _ (off_keep (k2 _ _ (off_keep (k01 _ _ h) hb)) hb)
end
end AT
end
section
set_option linter.all false
/-! The table grows. -/
namespace AB
theorem TabC.dir {t : List Fm} (c : TabC t) {F J : Fm} (hF : F ∈ t) (hJ : J ∈ dir F) : J ∈ t := by
  cases F with
  | atm x => cases hJ
  | no => cases hJ
  | imp f g =>
    simp only [AB.dir, List.mem_cons, List.not_mem_nil, or_false] at hJ
    rcases hJ with rfl | rfl
    · exact (c.imp _ _ hF).1
    · exact (c.imp _ _ hF).2
  | all f =>
    simp only [AB.dir, List.mem_cons, List.not_mem_nil, or_false] at hJ
    subst hJ; exact c.all _ hF
theorem TabC.snoc {t : List Fm} {G : Fm} (c : TabC t) (hn : G ∉ t) (hd : ∀ J ∈ AB.dir G, J ∈ t) : TabC (t ++ [G]) where
  nd := by
    refine List.nodup_append.mpr ⟨c.nd, by simp, fun a ha b hb => ?_⟩
    rw [List.mem_singleton.mp hb]
    exact fun e => hn (e ▸ ha)
  imp := fun f g h => by
    rcases List.mem_append.mp h with z | z
    · exact ⟨List.mem_append_left _ (c.imp f g z).1, List.mem_append_left _ (c.imp f g z).2⟩
    · have e := List.mem_singleton.mp z
      subst e
      exact ⟨List.mem_append_left _ (hd f (by simp [AB.dir])), List.mem_append_left _ (hd g (by simp [AB.dir]))⟩
  all := fun f h => by
    rcases List.mem_append.mp h with z | z
    · exact List.mem_append_left _ (c.all f z)
    · have e := List.mem_singleton.mp z
      subst e
      exact List.mem_append_left _ (hd f (by simp [AB.dir]))
theorem TabC.nil : TabC [] := ⟨List.nodup_nil, fun _ _ h => (by cases h), fun _ h => (by cases h)⟩
theorem ix_snoc {t : List Fm} {G : Fm} (hn : G ∉ t) : ix (t ++ [G]) G = t.length := by
  unfold ix
  rw [List.idxOf_append, if_neg hn]
  simp
end AB
end
section
set_option Elab.async false
set_option linter.all false
set_option maxRecDepth 100000
/-! Table.bit. -/
namespace AT
open PySem PySem.Spec PyProof.Rows L2
open AB (Fm At Drv)
theorem mask_snoc {t : List Fm} {G : Fm} {p : Fm → Bool} : mask (t ++ [G]) p = if p G = true then mask t p ||| 2 ^ t.length else mask t p := by
  refine Nat.eq_of_testBit_eq fun i => ?_
  have h1 := mask_is (t ++ [G]) p i
  have h2 := mask_is t p i
  have key : (mask (t ++ [G]) p).testBit i = true ↔ (mask t p).testBit i = true ∨ (i = t.length ∧ p G = true) := by
    rw [h1, h2]
    constructor
    · rintro ⟨F, e, q⟩
      rcases Nat.lt_trichotomy i t.length with hl | hl | hl
      · rw [List.getElem?_append_left hl] at e; exact .inl ⟨F, e, q⟩
      · subst hl; simp at e; subst e; exact .inr ⟨rfl, q⟩
      · rw [List.getElem?_eq_none (by simp; omega)] at e; cases e
    · rintro (⟨F, e, q⟩ | ⟨rfl, q⟩)
      · exact ⟨F, by rw [List.getElem?_append_left (List.getElem?_eq_some_iff.mp e).1]; exact e, q⟩
      · exact ⟨G, by simp, q⟩
  rw [Bool.eq_iff_iff, key]
  split
  · rename_i hp
    rw [Nat.testBit_or, Nat.testBit_two_pow, Bool.or_eq_true, decide_eq_true_eq]
    constructor
    · rintro (a | ⟨a, _⟩)
      · exact .inl a
      · exact .inr a.symm
    · rintro (a | a)
      · exact .inl a
      · exact .inr ⟨a.symm, hp⟩
  · rename_i hp
    constructor
    · rintro (a | ⟨_, a⟩)
      · exact a
      · exact absurd a hp
    · exact .inl
theorem innerV_dir {t : List Fm} : ∀ F, innerV t F = (AB.dir F).map fun J => two (AB.ix t J)
  | .atm _ => rfl
  | .no => rfl
  | .imp _ _ => rfl
  | .all _ => rfl
theorem innerV_snoc {t : List Fm} {G F : Fm} (h : ∀ J ∈ AB.dir F, J ∈ t) : innerV (t ++ [G]) F = innerV t F := by
  rw [innerV_dir, innerV_dir]
  exact List.map_congr_left fun J hJ => by rw [AB.ix_append (h J hJ)]
/-- all but the table's four dicts is kept -/
def KT (A : Ad) (H H' : Hp) : Prop := ∀ b o, H b = some o → b ≠ A.db → b ≠ A.df → b ≠ A.di → b ≠ A.dk → H' b = some o
theorem tIf_by {t : TT} {ta tb : TE} {σ : L2.St} {H : Hp} {Q : VK} (R : V → Hp → Prop) (h1 : ∀ Qc : VK, (∀ v H3, R v H3 → Qc v H3) → tIf t ta tb σ H Qc) (h2 : ∀ v H3, R v H3 → Q v H3) : tIf t ta tb σ H Q := h1 Q h2
theorem kB_inj {i j : Nat} (h : kB i = kB j) : i = j := pow_inj (Int.natCast_inj.mp (Sum.inl.inj h))
theorem KT.refl (A : Ad) (H : Hp) : KT A H H := fun _ _ e _ _ _ _ => e
theorem KT.trans {A : Ad} {H H1 H2 : Hp} (a : KT A H H1) (b : KT A H1 H2) : KT A H H2 := fun c o e n1 n2 n3 n4 => b c o (a c o e n1 n2 n3 n4) n1 n2 n3 n4
theorem KT.of {A : Ad} {H H' : Hp} (k : Kp H H') : KT A H H' := fun c o e _ _ _ _ => k c o e
theorem KT.get {K : PySem.W.Frag} {t : List Fm} {A : Ad} {H H' : Hp} {b : Addr} {o : HO} (k : KT A H H') (h : TbAt K t A H) (e : H b = some o) (n : ∀ kvs, o ≠ .dK kvs) : H' b = some o := by
  obtain ⟨_, b1, _⟩ := h.b
  obtain ⟨_, f1, _⟩ := h.f
  obtain ⟨_, i1, _⟩ := h.i
  exact k b o e (ne_of e b1 (n _)) (ne_of e f1 (n _)) (ne_of e i1 (n _)) (ne_of e h.k (n _))
theorem KT.kf {K : PySem.W.Frag} {t : List Fm} {A : Ad} {H H' : Hp} (k : KT A H H') (h : TbAt K t A H) : KF H H' := ⟨fun b xs e => k.get h e (fun _ z => nomatch z), fun b C dx fs e => k.get h e (fun _ z => nomatch z)⟩
theorem kinds_put {t : List Fm} {G : Fm} : putK (kindsD t) (.inr (kindS G)) (.int (((match G with | .atm _ => mask t AB.isAtm | .no => mask t AB.isNo | .imp _ _ => mask t AB.isImp | .all _ => mask t AB.isAll) ||| 2 ^ t.length : Nat) : Int)) = kindsD (t ++ [G]) := by
  unfold kindsD
  rw [mask_snoc, mask_snoc, mask_snoc, mask_snoc]
  cases G <;> rfl
theorem kinds_get {t : List Fm} {G : Fm} : valV (kindsD t) (.inr (kindS G)) = some (.int (((match G with | .atm _ => mask t AB.isAtm | .no => mask t AB.isNo | .imp _ _ => mask t AB.isImp | .all _ => mask t AB.isAll) : Nat) : Int)) := by
  cases G <;> rfl
section
variable {P : Program} {w : World} {K : PySem.W.Frag} {mg : Str → Option Value} {base : Heap} (T : Tx w K mg)
abbrev Nbit : List Str := ["self", "formula", "part", "new", "inner", "one"]
theorem sc_bit : FnScope Nbit ["self", "formula"] (defScope s_Table_bit) := ⟨rfl, rfl, rfl, by decide +kernel, rfl, by decide +kernel, by decide +kernel⟩
def spBit (K : PySem.W.Frag) : Sp := fun vs H Q _ => ∃ (A : Ad) (t : List Fm) (a : Addr) (F : Fm), vs = [.ref A.ta, .ref a] ∧ TbAt K t A H ∧ AB.TabC t ∧ FoAt K H F a ∧ AB.size F ≤ 1000 ∧ t.length + AB.size F ≤ 1000 ∧
  ∀ t' H', TbAt K t' A H' → AB.TabC t' → (∀ J ∈ t, J ∈ t') → F ∈ t' → (∀ J ∈ t', J ∈ t ∨ J ∈ AB.subs F) → (∀ J ∈ t, AB.ix t' J = AB.ix t J) → KT A H H' → Q (two (AB.ix t' F)) H'
include T
theorem ok_bit : FH P w K mg base 2 (f_Table_bit K) ["self", "formula"] (spBit K) := by
  obtain ⟨uAT, mAT, rAT⟩ := T.c_ATOM
  refine T.F_Table_bit.ok sc_bit (fun vs H Q E h => by obtain ⟨A, t, a, F, rfl, _⟩ := h; rfl) (fun cdv A outer s H vs Q E hr h => ⟨_, PSs.nox (
    pss_cons (ps_for PassesOwn.never rfl (pi_list (pe_call (ok_pw T) hr rfl T.g_parts_within T.F_parts_within.kp (bd_pw T) .nil pass0 (pa_cons (pv 1) pa_nil))) (pg_name (i := 2) sc_bit.nd rfl (Or.inl rfl))
      (pss_one (ps_if (pt_cmp (pc_dnotin (hu_of hr) (pe_fld (pv 2) rfl) (pe_fld (pv 0) rfl)))
        (pss_cons (ps_set (i := 3) sc_bit.nd rfl (Or.inl rfl) (pe_op op_oneShl pe_int (pe_callB call_lenD rfl T.b_len boot_len (pa_cons (pe_fld (pv 0) rfl) pa_nil))))
        (pss_cons (ps_set (i := 4) sc_bit.nd rfl (Or.inl rfl) (pe_ifExp (pt_cmpR op_eq (pe_fld (pv 2) rfl) (pe_glob rfl mAT rAT) (nomark _)) (pe_tup pa_nil) (pe_fld (pv 2) rfl)))
        (pss_cons (ps_dput (hu_of hr) (pe_fld (pv 0) rfl) (pe_fld (pv 2) rfl) (pv 3) rfl)
        (pss_cons (ps_dput (hu_of hr) (pe_fld (pv 0) rfl) (pv 3) (pv 2) rfl)
        (pss_cons (ps_dput (hu_of hr) (pe_fld (pv 0) rfl) (pv 3)
          (pe_lc (own := [("one", 5)]) (g := gName 5) (tt := tYes) (te := tDGet (tFld K (tVar 0) "bits_by_text") (tFld K (tVar 5) "spelled")) rfl sc_bit.nd (pi_tup (pv 4)) (blkOk_by (own := [("one", 5)]) (N := Nbit) (sc := defScope s_Table_bit) (by decide +kernel))
            (fun _ _ _ _ _ => pg_name (i := 5) sc_bit.nd rfl (Or.inl rfl)) (fun _ _ _ _ _ => pts_nil) (fun _ _ _ _ _ => pe_dget (hu_of hr) (pe_fld (pv 0) rfl) (pe_fld (pv 5) rfl) (fun _ _ => rfl))) rfl)
        (pss_one (ps_dput (hu_of hr) (pe_fld (pv 0) rfl) (pe_fld (pv 2) rfl) (pe_op hn_or (pe_dget (hu_of hr) (pe_fld (pv 0) rfl) (pe_fld (pv 2) rfl) (fun _ _ => rfl)) (pv 3)) rfl)))))))
        pss_nil)))
    (pss_one (ps_ret (pe_dget (hu_of hr) (pe_fld (pv 0) rfl) (pe_fld (pv 1) rfl) (fun _ _ => rfl))))), ?_⟩)
  obtain ⟨A, t, a, F, rfl, hT, hc, hF, hz, hlen, q⟩ := h
  refine ⟨_, rfl, a, F, rfl, hF, hz, fun l H1 bs Gs el hbs hR k1 => ?_⟩
  have hT1 := hT.kp k1
  have hbl := Paired.length hbs
  have hGl : Gs.length ≤ AB.size F := by rw [← AB.subs_len]; exact List.Nodup.length_le_of_subset hR.nd hR.ks
  refine ⟨l, rfl, ⟨_, SqL.of el⟩, ?_⟩
  refine for_list (K := K) (a := l) (xs := bs.map V.ref) (fun i σ H' => ∃ z2 z3 z4 ti, σ = [some (.ref A.ta), some (.ref a), z2, z3, z4, none] ∧ TbAt K ti A H' ∧ AB.TabC ti ∧ (∀ J ∈ t, J ∈ ti) ∧ (∀ J ∈ Gs.take i, J ∈ ti) ∧ (∀ J ∈ ti, J ∈ t ∨ J ∈ Gs.take i) ∧ (∀ J ∈ t, AB.ix ti J = AB.ix t J) ∧ KT A H1 H') ⟨none, none, none, t, rfl, hT1, hc, fun _ h => h, fun J h => by simp at h, fun J h => .inl h, fun _ _ => rfl, KT.refl _ _⟩ ?_ ?_ ?_
  · rintro i σ H' _ ⟨_, _, _, _, _, _, _, _, _, _, _, k⟩
    exact SqL.of (k.get hT1 el fun _ z => nomatch z)
  · rintro i x σ H' hx ⟨z2, z3, z4, ti, rfl, hTi, hci, s1, s2, s3, s4, k⟩
    obtain ⟨c, hcj, rfl⟩ : ∃ c, bs[i]? = some c ∧ V.ref c = x := by
      rw [List.getElem?_map] at hx
      cases hq : bs[i]? with
      | none => rw [hq] at hx; cases hx
      | some c => rw [hq] at hx; exact ⟨c, rfl, Option.some.inj hx⟩
    obtain ⟨G, hG, hcG⟩ := paired_get hbs hcj
    have hdir : ∀ J ∈ AB.dir G, J ∈ ti := fun J hJ => s2 J (hR.ord i G hG J hJ)
    have htl : ti.length ≤ t.length + Gs.length := by
      have z := List.Nodup.length_le_of_subset hci.nd (l₂ := t ++ Gs) fun J hJ => by
        rcases s3 J hJ with y | y
        · exact List.mem_append_left _ y
        · exact List.mem_append_right _ (List.mem_of_mem_take y)
      rw [List.length_append] at z; exact z
    have hcG' := hcG.kf (k.kf hT1)
    obtain ⟨pp, hf⟩ := hcG'.fo
    obtain ⟨dxc, pt, al, m1, d1, x1, y1, e1, ept, _⟩ := hf.ex
    obtain ⟨kb, b1, b2, b3⟩ := hTi.b
    obtain ⟨kf, f1, f2, f3⟩ := hTi.f
    obtain ⟨ki, i1, i2, i3⟩ := hTi.i
    have hkfl : kf.length = ti.length := by
      have z := congrArg List.length f2
      rw [List.length_map, List.length_map, List.length_range] at z; exact z
    refine ⟨_, rfl, c, _, dxc, _, _, rfl, e1, T.cls_Formula, T.na_Formula_spelled, rfl, _, rfl, A.ta, _, A.tx, _, _, rfl, hTi.o, T.cls_Table, T.na_Table_bits_by_text, rfl, A.db, _, rfl, DGet.k (k := .inr (txt G)) b1, _, rfl, ?_⟩
    rw [b3 G]
    by_cases hin : G ∈ ti
    · rw [if_pos hin]
      refine ite2 (fun z => nomatch z) fun _ => ?_
      refine ⟨_, _, _, ti, rfl, hTi, hci, s1, fun J hJ => ?_, fun J hJ => ?_, s4, k⟩
      · rw [take_succ hG] at hJ
        rcases List.mem_append.mp hJ with z | z
        · exact s2 J z
        · rw [List.mem_singleton.mp z]; exact hin
      · rcases s3 J hJ with z | z
        · exact .inl z
        · exact .inr (by rw [take_succ hG]; exact List.mem_append_left _ z)
    · rw [if_neg hin]
      refine ite2 (fun _ => ?_) fun z => absurd rfl z
      refine ⟨_, rfl, A.ta, _, A.tx, _, _, rfl, hTi.o, T.cls_Table, T.na_Table_formulas, rfl, A.df, kf, rfl, f1, kf.length, rfl, rfl, by omega, ?_⟩
      rw [hkfl, show (2 : Int) ^ ti.length = ((2 ^ ti.length : Nat) : Int) by simp]
      dsimp only [gName, tSeq, tAsg]
      refine tIf_by (fun v H3 => ∃ p ds, v = .ref p ∧ Kp H' H3 ∧ H3 p = some (.tup (ds.map V.ref)) ∧ Paired (fun d J => FoAt K H3 J d) ds (AB.dir G)) (fun Qc hq => ?_) fun v H3 ⟨p, ds, ev, k3, ep, hds⟩ => ?_
      · refine ⟨_, rfl, c, _, dxc, _, _, rfl, e1, T.cls_Formula, T.na_Formula_kind, rfl, rfl, _, rfl, ite2 (fun hh => ?_) fun hh => ?_⟩
        · have ek := V.str.inj (of_decide_eq_true hh)
          have hd0 : AB.dir G = [] := by
            cases G with
            | atm x => rfl
            | no => rfl
            | imp f g => exact absurd ek (show ¬ ((Str.ofString "if") = Str.ofString "atom") by decide +kernel)
            | all f => exact absurd ek (show ¬ ((Str.ofString "all") = Str.ofString "atom") by decide +kernel)
          refine ⟨Nat.zero_le _, fun p hp => hq _ _ ⟨p, [], rfl, kp_up (Same.refl _) hp, upd_same, ?_⟩⟩
          rw [hd0]; exact .nil
        · have hna : ∀ x, G ≠ .atm x := fun x e => hh (by rw [e]; exact decide_eq_true rfl)
          obtain ⟨ds, hf6, hds⟩ := FoAt.parts hcG' hna
          obtain ⟨dx6, pt6, al6, m6, d6, x6, y6, e6, ept6, _⟩ := hf6.ex
          exact ⟨_, rfl, c, _, dx6, _, _, rfl, e6, T.cls_Formula, T.na_Formula_parts, rfl, hq _ _ ⟨pt6, ds, rfl, Same.refl _, ept6, hds⟩⟩
      subst ev
      have hT3 := hTi.kp k3
      have hcG3 := hcG'.kf (KF.of k3)
      have b1 := k3 _ _ b1
      have f1 := k3 _ _ f1
      have i1 := k3 _ _ i1
      have e1 := k3 _ _ e1
      have o3 := hT3.o
      refine ⟨_, rfl, _, rfl, A.ta, _, A.tx, _, _, rfl, o3, T.cls_Table, T.na_Table_bits_by_text, rfl, _, rfl, c, _, dxc, _, _, rfl, e1, T.cls_Formula, T.na_Formula_spelled, rfl, A.db, _, rfl, DPut.k (k := .inr (txt G)) b1 (by rw [sizeLine_eq]; omega), ?_⟩
      have kf4 := kf_d (o := .dK (putK kb (.inr (txt G)) (.int ((2 ^ ti.length : Nat) : Int)))) b1
      have o4 := kf4.i _ _ _ _ o3
      have e4 := kf4.i _ _ _ _ e1
      have p4 := kf4.t _ _ ep
      have b4 : upd H3 A.db (.dK (putK kb (.inr (txt G)) (.int ((2 ^ ti.length : Nat) : Int)))) A.db = _ := upd_same
      have f4 : upd H3 A.db (.dK (putK kb (.inr (txt G)) (.int ((2 ^ ti.length : Nat) : Int)))) A.df = some (.dK kf) := by rw [upd_ne (Ne.symm hTi.bf)]; exact f1
      have i4 : upd H3 A.db (.dK (putK kb (.inr (txt G)) (.int ((2 ^ ti.length : Nat) : Int)))) A.di = some (.dK ki) := by rw [upd_ne (Ne.symm hTi.bi)]; exact i1
      have q4 : upd H3 A.db (.dK (putK kb (.inr (txt G)) (.int ((2 ^ ti.length : Nat) : Int)))) A.dk = some (.dK (kindsD ti)) := by rw [upd_ne (Ne.symm hTi.bk)]; exact hT3.k
      have t4 : KT A H3 (upd H3 A.db (.dK (putK kb (.inr (txt G)) (.int ((2 ^ ti.length : Nat) : Int))))) := fun b o e n1 n2 n3 n4 => by rw [upd_ne n1]; exact e
      have l4 : ∀ b xs, H3 b = some (.lst xs) → upd H3 A.db (.dK (putK kb (.inr (txt G)) (.int ((2 ^ ti.length : Nat) : Int)))) b = some (.lst xs) := fun b xs e => by rw [upd_ne (ne_of e b1 fun z => nomatch z)]; exact e
      generalize upd H3 A.db (.dK (putK kb (.inr (txt G)) (.int ((2 ^ ti.length : Nat) : Int)))) = H4 at kf4 o4 e4 p4 b4 f4 i4 q4 t4 l4 ⊢
      refine ⟨_, rfl, _, rfl, A.ta, _, A.tx, _, _, rfl, o4, T.cls_Table, T.na_Table_formulas, rfl, _, rfl, A.df, _, rfl, DPut.k (k := kB ti.length) f4 (by rw [sizeLine_eq]; omega), ?_⟩
      have kf5 := kf_d (o := .dK (putK kf (kB ti.length) (.ref c))) f4
      have o5 := kf5.i _ _ _ _ o4
      have e5 := kf5.i _ _ _ _ e4
      have p5 := kf5.t _ _ p4
      have f5 : upd H4 A.df (.dK (putK kf (kB ti.length) (.ref c))) A.df = _ := upd_same
      have b5 : upd H4 A.df (.dK (putK kf (kB ti.length) (.ref c))) A.db = _ := (upd_ne hTi.bf).trans b4
      have i5 : upd H4 A.df (.dK (putK kf (kB ti.length) (.ref c))) A.di = _ := (upd_ne (Ne.symm hTi.fi)).trans i4
      have q5 : upd H4 A.df (.dK (putK kf (kB ti.length) (.ref c))) A.dk = _ := (upd_ne (Ne.symm hTi.fk)).trans q4
      have t5 : KT A H3 (upd H4 A.df (.dK (putK kf (kB ti.length) (.ref c)))) := t4.trans fun b o e n1 n2 n3 n4 => by rw [upd_ne n2]; exact e
      have l5 : ∀ b xs, H3 b = some (.lst xs) → upd H4 A.df (.dK (putK kf (kB ti.length) (.ref c))) b = some (.lst xs) := fun b xs e => by rw [upd_ne (ne_of (l4 b xs e) f4 fun z => nomatch z)]; exact l4 b xs e
      have kf35 := kf4.trans kf5
      generalize upd H4 A.df (.dK (putK kf (kB ti.length) (.ref c))) = H5 at o5 e5 p5 f5 b5 i5 q5 t5 l5 kf35 ⊢
      have hds5 := Paired.mapP hds fun d J q => q.kf kf35
      refine ⟨_, rfl, p, rfl, ⟨_, SqT.of p5⟩, fun D hD => ?_⟩
      have kv : ∀ J, valV (putK kb (.inr (txt G)) (.int ((2 ^ ti.length : Nat) : Int))) (.inr (txt J)) = if J ∈ ti ++ [G] then some (two (AB.ix (ti ++ [G]) J)) else none := fun J => by
        rw [valV_put]
        by_cases e : J = G
        · subst e
          rw [if_pos rfl, if_pos (by simp), AB.ix_snoc hin]; rfl
        · rw [if_neg (fun z => e (txt_inj (Sum.inr.inj z))), b3 J]
          by_cases hJ : J ∈ ti
          · rw [if_pos hJ, if_pos (List.mem_append_left _ hJ), AB.ix_append hJ]
          · rw [if_neg hJ, if_neg (fun z => (List.mem_append.mp z).elim hJ fun y => e (List.mem_singleton.mp y))]
      refine lc_tup (K := K) (a := p) (xs := ds.map V.ref) (fun j H' => Kp H5 H' ∧ H' D = some (.lst (((AB.dir G).take j).map fun J => two (AB.ix ti J)))) ?_ ?_ ?_ ?_
      · exact ⟨kp_up (Same.refl H5) hD, upd_same⟩
      · intro j H' _ hp
        exact SqT.of (hp.1 _ _ p5)
      · rintro j x H' hx ⟨kj, eD⟩
        obtain ⟨d, hdj, rfl⟩ : ∃ d, ds[j]? = some d ∧ V.ref d = x := by
          rw [List.getElem?_map] at hx
          cases hq : ds[j]? with
          | none => rw [hq] at hx; cases hx
          | some c => rw [hq] at hx; exact ⟨c, rfl, Option.some.inj hx⟩
        obtain ⟨J, hJ, hdJ⟩ := paired_get hds5 hdj
        have hJd := List.mem_of_getElem? hJ
        obtain ⟨_, hfj⟩ := (hdJ.kf (KF.of kj)).fo
        obtain ⟨dxj, _, _, _, _, _, _, ej, _⟩ := hfj.ex
        refine ⟨rfl, ?_⟩
        refine ⟨_, rfl, A.ta, _, A.tx, _, _, rfl, kj _ _ o5, T.cls_Table, T.na_Table_bits_by_text, rfl, _, rfl, d, _, dxj, _, _, rfl, ej, T.cls_Formula, T.na_Formula_spelled, rfl, A.db, two (AB.ix ti J), rfl, ?_, _, eD, ?_, kp_old kj hD, ?_⟩
        · have z := DGet.k (k := .inr (txt J)) (kj _ _ b5)
          rw [kv J, if_pos (List.mem_append_left _ (hdir J hJd)), AB.ix_append (hdir J hJd)] at z
          exact z
        · have := AB.dir_len G
          rw [List.length_map, List.length_take, sizeLine_eq]; omega
        · rw [upd_same, take_succ hJ, List.map_append]; rfl
      · rintro H6 ⟨k6, eD⟩
        rw [List.length_map, Paired.length hds5, List.take_length] at eD
        refine ⟨_, rfl, A.ta, _, A.tx, _, _, rfl, k6 _ _ o5, T.cls_Table, T.na_Table_inner_bits, rfl, _, rfl, A.di, _, rfl, DPut.k (k := kB ti.length) (k6 _ _ i5) (by rw [sizeLine_eq]; omega), ?_⟩
        have i6 := k6 _ _ i5
        have kf7 := kf_d (o := .dK (putK ki (kB ti.length) (.ref D))) i6
        have o7 := kf7.i _ _ _ _ (k6 _ _ o5)
        have e7 := kf7.i _ _ _ _ (k6 _ _ e5)
        have D7 : upd H6 A.di (.dK (putK ki (kB ti.length) (.ref D))) D = _ := (upd_ne (ne_of eD i6 fun z => nomatch z)).trans eD
        have i7 : upd H6 A.di (.dK (putK ki (kB ti.length) (.ref D))) A.di = _ := upd_same
        have b7 : upd H6 A.di (.dK (putK ki (kB ti.length) (.ref D))) A.db = _ := (upd_ne hTi.bi).trans (k6 _ _ b5)
        have f7 : upd H6 A.di (.dK (putK ki (kB ti.length) (.ref D))) A.df = _ := (upd_ne hTi.fi).trans (k6 _ _ f5)
        have q7 : upd H6 A.di (.dK (putK ki (kB ti.length) (.ref D))) A.dk = _ := (upd_ne (Ne.symm hTi.ik)).trans (k6 _ _ q5)
        have t7 : KT A H3 (upd H6 A.di (.dK (putK ki (kB ti.length) (.ref D)))) := (t5.trans (KT.of k6)).trans fun b o e n1 n2 n3 n4 => by rw [upd_ne n3]; exact e
        have l7 : ∀ b xs, H3 b = some (.lst xs) → upd H6 A.di (.dK (putK ki (kB ti.length) (.ref D))) b = some (.lst xs) := fun b xs e => by
          have z := k6 _ _ (l5 b xs e)
          rw [upd_ne (ne_of z i6 fun z => nomatch z)]; exact z
        have kf37 := (kf35.trans (KF.of k6)).trans kf7
        generalize upd H6 A.di (.dK (putK ki (kB ti.length) (.ref D))) = H7 at kf7 o7 e7 D7 i7 b7 f7 q7 t7 l7 kf37 ⊢
        have hg := DGet.k (k := .inr (kindS G)) q7
        rw [kinds_get] at hg
        refine ⟨_, rfl, A.ta, _, A.tx, _, _, rfl, o7, T.cls_Table, T.na_Table_kinds, rfl, _, rfl, c, _, dxc, _, _, rfl, e7, T.cls_Formula, T.na_Formula_kind, rfl, A.dk, _, rfl, hg, ?_⟩
        refine ⟨_, rfl, _, 2 ^ ti.length, rfl, rfl, ?_⟩
        refine ⟨_, rfl, A.ta, _, A.tx, _, _, rfl, o7, T.cls_Table, T.na_Table_kinds, rfl, _, rfl, c, _, dxc, _, _, rfl, e7, T.cls_Formula, T.na_Formula_kind, rfl, A.dk, _, rfl, DPut.k (k := .inr (kindS G)) q7 (by show 4 < sizeLine; rw [sizeLine_eq]; omega), ?_⟩
        rw [kinds_put]
        have kf8 := kf_d (o := .dK (kindsD (ti ++ [G]))) q7
        have hnk : valV kf (kB ti.length) = none := by
          cases hv : valV kf (kB ti.length) with
          | none => rfl
          | some v =>
            have z := List.mem_map_of_mem (f := (·.1)) (valV_mem hv)
            rw [f2] at z
            obtain ⟨j, hj, ej⟩ := List.mem_map.mp z
            have := kB_inj ej
            rw [List.mem_range] at hj
            omega
        refine ⟨_, _, _, ti ++ [G], rfl, ⟨kf8.i _ _ _ _ o7, ⟨_, (upd_ne hTi.bk).trans b7, ?_, kv⟩, ⟨_, (upd_ne hTi.fk).trans f7, ?_, fun j J hj => ?_⟩, ⟨_, (upd_ne hTi.ik).trans i7, ?_, fun j J hj => ?_⟩, upd_same, hTi.bf, hTi.bi, hTi.bk, hTi.fi, hTi.fk, hTi.ik⟩, hci.snoc hin hdir, fun J hJ => List.mem_append_left _ (s1 J hJ), fun J hJ => ?_, fun J hJ => ?_, fun J hJ => ?_, ?_⟩
        · rw [List.length_append, List.length_singleton]
          exact Nat.le_trans (length_putK _ _ _) (Nat.succ_le_succ b2)
        · rw [putK_new _ hnk, List.map_append, f2, List.length_append, List.length_singleton, List.range_succ, List.map_append]; rfl
        · rw [valV_put]
          by_cases ej : j = ti.length
          · subst ej
            simp at hj
            subst hj
            exact ⟨c, if_pos rfl, (hcG3.kf kf37).kf kf8⟩
          · have hj' : ti[j]? = some J := by
              have hl := (List.getElem?_eq_some_iff.mp hj).1
              rw [List.length_append, List.length_singleton] at hl
              rwa [List.getElem?_append_left (by omega)] at hj
            obtain ⟨b, z1, z2⟩ := f3 j J hj'
            exact ⟨b, by rw [if_neg fun z => ej (kB_inj z)]; exact z1, ((z2.kf (KF.of k3)).kf kf37).kf kf8⟩
        · rw [List.length_append, List.length_singleton]
          exact Nat.le_trans (length_putK _ _ _) (Nat.succ_le_succ i2)
        · rw [valV_put]
          by_cases ej : j = ti.length
          · subst ej
            simp at hj
            subst hj
            refine ⟨D, if_pos rfl, ?_⟩
            rw [upd_ne (ne_of D7 q7 fun z => nomatch z), D7, innerV_snoc hdir, innerV_dir]
          · have hj' : ti[j]? = some J := by
              have hl := (List.getElem?_eq_some_iff.mp hj).1
              rw [List.length_append, List.length_singleton] at hl
              rwa [List.getElem?_append_left (by omega)] at hj
            obtain ⟨b, z1, z2⟩ := i3 j J hj'
            refine ⟨b, by rw [if_neg fun z => ej (kB_inj z)]; exact z1, ?_⟩
            have z3 := l7 _ _ (k3 _ _ z2)
            rw [upd_ne (ne_of z3 q7 fun z => nomatch z), z3, innerV_snoc fun I hI => hci.dir (List.mem_of_getElem? hj') hI]
        · rw [take_succ hG] at hJ
          rcases List.mem_append.mp hJ with z | z
          · exact List.mem_append_left _ (s2 J z)
          · rw [List.mem_singleton.mp z]; exact List.mem_append_right _ (by simp)
        · rcases List.mem_append.mp hJ with z | z
          · exact (s3 J z).imp id fun y => by rw [take_succ hG]; exact List.mem_append_left _ y
          · rw [List.mem_singleton.mp z]; exact .inr (by rw [take_succ hG]; exact List.mem_append_right _ (by simp))
        · rw [AB.ix_append (s1 J hJ)]; exact s4 J hJ
        · exact ((k.trans (KT.of k3)).trans t7).trans fun b o e n1 n2 n3 n4 => by rw [upd_ne n4]; exact e
  · rintro σ H' ⟨z2, z3, z4, ti, rfl, hTi, hci, s1, s2, s3, s4, k⟩
    rw [List.length_map, hbl, List.take_length] at s2 s3
    obtain ⟨fp, hf⟩ := ((hF.kf (KF.of k1)).kf (k.kf hT1)).fo
    obtain ⟨dxa, pt, al, m1, d1, x1, y1, e1, ept, _⟩ := hf.ex
    obtain ⟨kb, b1, b2, b3⟩ := hTi.b
    have hin := s2 F hR.own
    refine ⟨_, rfl, A.ta, _, A.tx, _, _, rfl, hTi.o, T.cls_Table, T.na_Table_bits_by_text, rfl, _, rfl, a, _, dxa, _, _, rfl, e1, T.cls_Formula, T.na_Formula_spelled, rfl, A.db, two (AB.ix ti F), rfl, ?_, ?_⟩
    · have z := DGet.k (k := .inr (txt F)) b1
      rw [b3 F, if_pos hin] at z
      exact z
    · exact q ti H' hTi hci s1 hin (fun J hJ => (s3 J hJ).imp id (hR.ks J)) s4 ((KT.of k1).trans k)
end
end AT
end
section
set_option Elab.async false
set_option linter.all false
set_option maxRecDepth 100000
/-! judge, follows. -/
namespace AT
open PySem PySem.Spec PyProof.Rows L2
open AB (Fm At Drv)
theorem S_two {t : List Fm} (c : AB.TabC t) {F : Fm} (h : F ∈ t) : AB.S t (2 ^ AB.ix t F) = fun K => K = F := by
  funext K
  refine propext ⟨?_, ?_⟩
  · rintro ⟨i, hi, e⟩
    rw [Nat.testBit_two_pow] at hi
    rw [← of_decide_eq_true hi, AB.ix_get h] at e
    exact (Option.some.inj e).symm
  · rintro rfl
    exact ⟨AB.ix t K, by rw [Nat.testBit_two_pow]; exact decide_eq_true rfl, AB.ix_get h⟩
theorem lst_two {t : List Fm} (c : AB.TabC t) {F : Fm} (h : F ∈ t) {K : Fm} : K ∈ AB.lst t (2 ^ AB.ix t F) ↔ K ∈ [F] := by
  rw [AB.mem_lst c, S_two c h, List.mem_singleton]
theorem wb_two {t : List Fm} {F : Fm} (h : F ∈ t) : AB.WB t (2 ^ AB.ix t F) := Nat.pow_lt_pow_right (by decide) (AB.ix_lt h)
theorem na_le {t : List Fm} {F G : Fm} (c : AB.TabC t) (h : ∀ J ∈ t, J ∈ AB.subs F ++ AB.subs G) : AB.nA t ≤ (AB.alls (.imp F G)).length := by
  unfold AB.nA
  refine List.Nodup.length_le_of_subset (c.nd.filter _) fun J hJ => ?_
  obtain ⟨hm, ha⟩ := List.mem_filter.mp hJ
  exact (AB.mem_alls _ _).mpr ⟨by simp only [AB.subs]; exact List.mem_cons_of_mem _ (h J hm), ha⟩
theorem lst_eq {t : List Fm} (c : AB.TabC t) {F : Fm} (h : F ∈ t) : AB.lst t (2 ^ AB.ix t F) = [F] := by
  have nd : (AB.lst t (2 ^ AB.ix t F)).Nodup := c.nd.filter _
  have hm : ∀ K, K ∈ AB.lst t (2 ^ AB.ix t F) ↔ K = F := fun K => by rw [lst_two c h, List.mem_singleton]
  generalize AB.lst t (2 ^ AB.ix t F) = l at nd hm
  cases l with
  | nil => exact absurd ((hm F).mpr rfl) (by simp)
  | cons x l =>
    have hx := (hm x).mp List.mem_cons_self
    subst hx
    cases l with
    | nil => rfl
    | cons y l =>
      have hy := (hm y).mp (by simp)
      subst hy
      exact absurd List.mem_cons_self (List.nodup_cons.mp nd).1
section
variable {P : Program} {w : World} {K : PySem.W.Frag} {mg : Str → Option Value} {base : Heap} (T : Tx w K mg)
abbrev Njd : List Str := ["one", "other", "search", "left", "right"]
theorem sc_jd : FnScope Njd ["one", "other"] (defScope s_judge) := ⟨rfl, rfl, rfl, by decide +kernel, rfl, by decide +kernel, by decide +kernel⟩
theorem sc_fl : FnScope ["one", "other", "search"] ["one", "other"] (defScope s_follows) := ⟨rfl, rfl, rfl, by decide +kernel, rfl, by decide +kernel, by decide +kernel⟩
include T
theorem bd_bit : L2.Binds K (fdOf K (f_Table_bit K)) ["self", "formula"] [] := T.F_Table_bit.binds fun _ _ _ _ _ _ us hl => match us, hl with | [_, _], _ => rfl
theorem der_all : ∀ m, AQ.FnD P w K mg base (90 + m) (f_Search_derivation K) (fdOf K (f_Search_derivation K)) ["self", "left", "right"] (spDer K m)
  | 0 => ⟨fun vs H Q E h => len_der vs H Q E h, fun A hA outer s H args us vs Q E e0 hb r h => by obtain ⟨_, _, _, _, _, _, _, _, _, _, _, _, hr, _⟩ := h; exact absurd hr (Nat.not_lt_zero _)⟩
  | m + 1 => ok_der T (Nat.le_add_right 90 m) (der_all m)
/-- two formulas whose sequent holds -/
def spJudge (K : PySem.W.Frag) : Sp := fun vs H Q _ => ∃ (a b : Addr) (F G : Fm), vs = [.ref a, .ref b] ∧ FoAt K H F a ∧ FoAt K H G b ∧ AB.size F + AB.size G ≤ 60 ∧ (AB.alls (.imp F G)).length ≤ 6 ∧ AB.Valid (fun K => K = F) (fun K => K = G) ∧
  ∀ d p tp H', H' tp = some (.tup [.str "derivation", .ref p]) → DvAt K H' d p → AB.isDrv [F] [G] d = true → d.depth ≤ 210 → d.bn ≤ 6 → Kp H H' → Q (.ref tp) H'
theorem ok_judge : AQ.FnD P w K mg base 301 (f_judge K) (fdOf K (f_judge K)) ["one", "other"] (spJudge K) := by
  obtain ⟨uDE, mDE, rDE⟩ := T.c_DERIVATION
  have gS := (ok_sinit (P := P) (base := base) T).mono (show 3 ≤ 99 by decide)
  have gB := (ok_bit (P := P) (base := base) T).mono (show 2 ≤ 100 by decide)
  have gL := ((least_all (P := P) (base := base) T 7).mono (show 31 ≤ 100 by decide)).ok (fun _ _ _ _ h => h)
  have gD := der_all (P := P) (base := base) T 210
  refine AQ.okD (k := 100) (n := 300) (by decide) T.F_judge sc_jd (fun vs H Q E h => by obtain ⟨a, b, F, G, rfl, _⟩ := h; rfl) (fun cdv A outer s H vs Q E hD hr h => ⟨_, PSs.nox (
    pss_cons (ps_set (i := 2) sc_jd.nd rfl (Or.inl rfl) (pe_make0 (mk_search T) gS hr rfl T.g_Search (bd_sinit T) .nil pass0))
    (pss_cons (ps_par (i := 3) (j := 4) rfl sc_jd.nd rfl rfl (by decide) rfl rfl (pa_cons (pe_meth (pe_fld (pv 2) rfl) T.cls_Table (He.meth_ok T.m_Table_bit) gB hr (bd_bit T) .nil pass0 (pa_cons (pv 0) pa_nil)) (pa_cons (pe_meth (pe_fld (pv 2) rfl) T.cls_Table (He.meth_ok T.m_Table_bit) gB hr (bd_bit T) .nil pass0 (pa_cons (pv 1) pa_nil)) pa_nil)) rfl)
    (pss_cons (ps_if (pt_cmpR op_isN (pe_meth (pv 2) T.cls_Search (He.meth_ok T.m_Search_least) gL hr (bd_least T) .nil pass0 (pa_cons (pv 3) (pa_cons (pv 4) pa_nil))) pe_non (nomark _))
      (pss_one (ps_ret (pe_tup (pa_cons (pe_glob rfl mDE rDE) (pa_cons (AQ.pe_methP (pv 2) T.cls_Search (He.meth_ok T.m_Search_derivation) gD hD (bd_der T) .nil pass0 (pa_cons (pv 3) (pa_cons (pv 4) pa_nil))) pa_nil))))) pss_nil)
    (pss_one ps_never)))), ?_⟩)
  obtain ⟨a, b, F, G, rfl, hF, hG, hz, hal, hv, q⟩ := h
  refine fun x xd hx hxd hne => ⟨x, xd, rfl, upd_same, fun A H1 eA eX n4 ndh hT0 es eh k1 => ⟨rfl, ?_⟩⟩
  have un : ∀ {b : Addr}, upd (upd H xd (.own x)) x (.ins (He.ga K "Search") xd []) b = none → H b = none := fun {b} h => by
    cases e : H b with
    | none => rfl
    | some o => rw [up_keep (up_keep e hxd) (by rw [upd_ne (fun z => hne z.symm)]; exact hx)] at h; cases h
  have k01 : Kp H H1 := fun b o h => k1 _ _ (off_keep (up_keep (up_keep h hxd) (by rw [upd_ne (fun z => hne z.symm)]; exact hx)) (ne_of_none h hx))
  have es' := es
  rw [eA] at es'
  refine ⟨_, rfl, x, _, A.sx, _, _, rfl, es', T.cls_Search, T.na_Search_table, rfl, ?_⟩
  refine ⟨A.ta, _, _, rfl, hT0.o, rfl, _, rfl, A, [], a, F, rfl, hT0, AB.TabC.nil, hF.kf (KF.of k01), by omega, by rw [List.length_nil]; omega, fun t1 H2 hT1 hc1 _ hin1 sub1 _ kt1 => ?_⟩
  have es2 := kt1.get hT0 es' fun _ z => nomatch z
  have hGs : (AB.size F + AB.size G) ≤ 60 := hz
  have t1l : t1.length ≤ AB.size F := by
    rw [← AB.subs_len]
    exact List.Nodup.length_le_of_subset hc1.nd fun J hJ => (sub1 J hJ).elim (fun z => by cases z) id
  refine ⟨_, rfl, x, _, A.sx, _, _, rfl, es2, T.cls_Search, T.na_Search_table, rfl, ?_⟩
  refine ⟨A.ta, _, _, rfl, hT1.o, rfl, _, rfl, A, t1, b, G, rfl, hT1, hc1, (hG.kf (KF.of k01)).kf (kt1.kf hT0), by omega, by omega, fun t2 H3 hT2 hc2 mono2 hin2 sub2 ix2 kt2 => ?_⟩
  have kt := kt1.trans kt2
  have es3 : H3 A.sa = _ := kt.get hT0 es fun _ z => nomatch z
  have eh3 := kt.get hT0 eh fun _ z => nomatch z
  obtain ⟨hS, hFa⟩ := hT2.sat ⟨es3, _, eh3⟩
  have hH : Hts t2 A H3 := ⟨[], eh3, List.nodup_nil, fun _ _ h => by cases h⟩
  have hin1' := mono2 F hin1
  have tab : AB.Tab2 t2 F G := ⟨hc2, hin1', hin2, fun J hJ => by
    rcases sub2 J hJ with z | z
    · rcases sub1 J z with y | y
      · cases y
      · exact List.mem_append_left _ y
    · exact List.mem_append_right _ z⟩
  have hna : AB.nA t2 ≤ 6 := Nat.le_trans (na_le hc2 tab.sub) hal
  obtain ⟨tok, hifw⟩ := tab.ok hz hna
  have eix : two (AB.ix t1 F) = two (AB.ix t2 F) := by rw [ix2 F hin1]
  rw [eix]
  refine ⟨_, _, rfl, ?_⟩
  obtain ⟨hnb, hwt⟩ := AB.nb_first tok hin1' hin2 hifw
  have hval : AB.Valid (AB.S t2 (2 ^ AB.ix t2 F)) (AB.S t2 (2 ^ AB.ix t2 G)) := by rw [S_two hc2 hin1', S_two hc2 hin2]; exact hv
  have hrem := AB.rem_le t2 (2 ^ AB.ix t2 F)
  subst eA
  have un1 : ∀ {b : Addr} {o : HO}, H b = some o → b ≠ A.db ∧ b ≠ A.df ∧ b ≠ A.di ∧ b ≠ A.dk ∧ b ≠ A.dh := fun {b o} e => ⟨ne_of_none e (un n4.1), ne_of_none e (un n4.2.1), ne_of_none e (un n4.2.2.1), ne_of_none e (un n4.2.2.2), ne_of_none e (un ndh)⟩
  refine ⟨_, rfl, A.sa, _, _, rfl, es3, rfl, _, rfl, _, rfl, A, t2, _, _, rfl, hS, hH, tok, wb_two hin1', wb_two hin2, hnb, by omega, ⟨fun H4 kb4 hH4 _ => ?_, fun z H4 _ _ no => ?_⟩⟩
  · refine ⟨rfl, _, rfl, ite2 (fun _ => ?_) fun z => absurd rfl z⟩
    have hS4 := hS.keep kb4
    refine ⟨_, rfl, A.sa, _, _, rfl, hS4.s, rfl, _, rfl, _, rfl, A, t2, _, _, rfl, hS4, hFa.kb kb4 hS.h, hH4, tok, wb_two hin1', wb_two hin2, hval, ?_, fun d p H5 kb5 _ hd hp => ⟨by show 2 ≤ sizeLine; decide +kernel, fun tp htp => ?_⟩⟩
    · unfold AB.dm; omega
    · have hdk := hd.ok
      rw [lst_eq hc2 hin1', lst_eq hc2 hin2] at hdk
      refine q d p tp _ upd_same (hp.kf (kf_n htp)) hdk hd.dp (Nat.le_trans hd.bn (Nat.le_trans hrem hna)) (kp_up (fun b o e => ?_) htp)
      obtain ⟨n1, n2, n3, n4', n5⟩ := un1 e
      exact kb5.k _ _ (kb4.k _ _ (kt _ _ (k01 _ _ e) n1 n2 n3 n4') n5) n5
  · obtain ⟨tr, hf⟩ := no
    exact absurd hf (hval tr)
def spFollows (K : PySem.W.Frag) : Sp := fun vs H Q _ => ∃ (a b : Addr) (F G : Fm), vs = [.ref a, .ref b] ∧ FoAt K H F a ∧ FoAt K H G b ∧ AB.size F + AB.size G ≤ 60 ∧ (AB.alls (.imp F G)).length ≤ 6 ∧ AB.Valid (fun K => K = F) (fun K => K = G) ∧ ∀ H', Kp H H' → Q (.bl true) H'
theorem ok_follows : FH P w K mg base 34 (f_follows K) ["one", "other"] (spFollows K) := by
  have gS := (ok_sinit (P := P) (base := base) T).mono (show 3 ≤ 32 by decide)
  have gB := (ok_bit (P := P) (base := base) T).mono (show 2 ≤ 33 by decide)
  have gL := ((least_all (P := P) (base := base) T 7).mono (show 31 ≤ 33 by decide)).ok (fun _ _ _ _ h => h)
  refine T.F_follows.ok sc_fl (fun vs H Q E h => by obtain ⟨a, b, F, G, rfl, _⟩ := h; rfl) (fun cdv A outer s H vs Q E hr h => ⟨_, PSs.nox (
    pss_cons (ps_set (i := 2) sc_fl.nd rfl (Or.inl rfl) (pe_make0 (mk_search T) gS hr rfl T.g_Search (bd_sinit T) .nil pass0))
    (pss_one (ps_ret (pe_cmpR op_isN (pe_meth (pv 2) T.cls_Search (He.meth_ok T.m_Search_least) gL hr (bd_least T) .nil pass0
      (pa_cons (pe_meth (pe_fld (pv 2) rfl) T.cls_Table (He.meth_ok T.m_Table_bit) gB hr (bd_bit T) .nil pass0 (pa_cons (pv 0) pa_nil)) (pa_cons (pe_meth (pe_fld (pv 2) rfl) T.cls_Table (He.meth_ok T.m_Table_bit) gB hr (bd_bit T) .nil pass0 (pa_cons (pv 1) pa_nil)) pa_nil))) pe_non (nomark _))))), ?_⟩)
  obtain ⟨a, b, F, G, rfl, hF, hG, hz, hal, hv, q⟩ := h
  refine fun x xd hx hxd hne => ⟨x, xd, rfl, upd_same, fun A H1 eA eX n4 ndh hT0 es eh k1 => ⟨rfl, ?_⟩⟩
  have un : ∀ {b : Addr}, upd (upd H xd (.own x)) x (.ins (He.ga K "Search") xd []) b = none → H b = none := fun {b} h => by
    cases e : H b with
    | none => rfl
    | some o => rw [up_keep (up_keep e hxd) (by rw [upd_ne (fun z => hne z.symm)]; exact hx)] at h; cases h
  have k01 : Kp H H1 := fun b o h => k1 _ _ (off_keep (up_keep (up_keep h hxd) (by rw [upd_ne (fun z => hne z.symm)]; exact hx)) (ne_of_none h hx))
  have es' := es
  rw [eA] at es'
  refine ⟨_, rfl, x, _, _, rfl, es', rfl, ?_⟩
  refine ⟨_, rfl, x, _, A.sx, _, _, rfl, es', T.cls_Search, T.na_Search_table, rfl, ?_⟩
  refine ⟨A.ta, _, _, rfl, hT0.o, rfl, _, rfl, A, [], a, F, rfl, hT0, AB.TabC.nil, hF.kf (KF.of k01), by omega, by rw [List.length_nil]; omega, fun t1 H2 hT1 hc1 _ hin1 sub1 _ kt1 => ?_⟩
  have es2 := kt1.get hT0 es' fun _ z => nomatch z
  have hGs : (AB.size F + AB.size G) ≤ 60 := hz
  have t1l : t1.length ≤ AB.size F := by
    rw [← AB.subs_len]
    exact List.Nodup.length_le_of_subset hc1.nd fun J hJ => (sub1 J hJ).elim (fun z => by cases z) id
  refine ⟨_, rfl, x, _, A.sx, _, _, rfl, es2, T.cls_Search, T.na_Search_table, rfl, ?_⟩
  refine ⟨A.ta, _, _, rfl, hT1.o, rfl, _, rfl, A, t1, b, G, rfl, hT1, hc1, (hG.kf (KF.of k01)).kf (kt1.kf hT0), by omega, by omega, fun t2 H3 hT2 hc2 mono2 hin2 sub2 ix2 kt2 => ?_⟩
  have kt := kt1.trans kt2
  have es3 : H3 A.sa = _ := kt.get hT0 es fun _ z => nomatch z
  have eh3 := kt.get hT0 eh fun _ z => nomatch z
  obtain ⟨hS, hFa⟩ := hT2.sat ⟨es3, _, eh3⟩
  have hH : Hts t2 A H3 := ⟨[], eh3, List.nodup_nil, fun _ _ h => by cases h⟩
  have hin1' := mono2 F hin1
  have tab : AB.Tab2 t2 F G := ⟨hc2, hin1', hin2, fun J hJ => by
    rcases sub2 J hJ with z | z
    · rcases sub1 J z with y | y
      · cases y
      · exact List.mem_append_left _ y
    · exact List.mem_append_right _ z⟩
  have hna : AB.nA t2 ≤ 6 := Nat.le_trans (na_le hc2 tab.sub) hal
  obtain ⟨tok, hifw⟩ := tab.ok hz hna
  have eix : two (AB.ix t1 F) = two (AB.ix t2 F) := by rw [ix2 F hin1]
  obtain ⟨hnb, hwt⟩ := AB.nb_first tok hin1' hin2 hifw
  have hval : AB.Valid (AB.S t2 (2 ^ AB.ix t2 F)) (AB.S t2 (2 ^ AB.ix t2 G)) := by rw [S_two hc2 hin1', S_two hc2 hin2]; exact hv
  have hrem := AB.rem_le t2 (2 ^ AB.ix t2 F)
  subst eA
  have un1 : ∀ {b : Addr} {o : HO}, H b = some o → b ≠ A.db ∧ b ≠ A.df ∧ b ≠ A.di ∧ b ≠ A.dk ∧ b ≠ A.dh := fun {b o} e => ⟨ne_of_none e (un n4.1), ne_of_none e (un n4.2.1), ne_of_none e (un n4.2.2.1), ne_of_none e (un n4.2.2.2), ne_of_none e (un ndh)⟩
  refine ⟨A, t2, _, _, by rw [eix]; rfl, hS, hH, tok, wb_two hin1', wb_two hin2, hnb, by omega, ⟨fun H4 kb4 hH4 _ => ?_, fun z H4 _ _ no => ?_⟩⟩
  · refine ⟨rfl, q H4 fun b o e => ?_⟩
    obtain ⟨n1, n2, n3, n4', n5⟩ := un1 e
    exact kb4.k _ _ (kt _ _ (k01 _ _ e) n1 n2 n3 n4') n5
  · obtain ⟨tr, hf⟩ := no
    exact absurd hf (hval tr)
end
end AT
end
section
set_option Elab.async false
set_option linter.all false
set_option maxRecDepth 100000
/-! set_of. -/
namespace AT
open PySem PySem.Spec PyProof.Rows L2
open AB (Fm At Drv)
/-- a dict of formulas by their texts -/
structure DkOk (K : PySem.W.Frag) (H : Hp) (kvs : List (Key × V)) (Fs : List Fm) : Prop where
  nd : (kvs.map (·.1)).Nodup
  all : ∀ F ∈ Fs, (valV kvs (.inr (txt F))).isSome = true
  el : ∀ kv ∈ kvs, ∃ b F, kv = (.inr (txt F), .ref b) ∧ FoAt K H F b ∧ F ∈ Fs
theorem DkOk.kf {K : PySem.W.Frag} {H H' : Hp} {kvs : List (Key × V)} {Fs : List Fm} (h : DkOk K H kvs Fs) (k : KF H H') : DkOk K H' kvs Fs := ⟨h.nd, h.all, fun kv hkv => let ⟨b, F, e, s, m⟩ := h.el kv hkv; ⟨b, F, e, s.kf k, m⟩⟩
theorem DkOk.nil {K : PySem.W.Frag} {H : Hp} : DkOk K H [] [] := ⟨List.nodup_nil, fun _ h => (by cases h), fun _ h => (by cases h)⟩
theorem DkOk.put {K : PySem.W.Frag} {H : Hp} {kvs : List (Key × V)} {Fs : List Fm} {F : Fm} {b : Addr} (h : DkOk K H kvs Fs) (hF : FoAt K H F b) : DkOk K H (putK kvs (.inr (txt F)) (.ref b)) (Fs ++ [F]) where
  nd := putK_nodup h.nd
  all := fun G hG => by
    rw [valV_put]
    by_cases e : (Sum.inr (txt G) : Key) = .inr (txt F)
    · rw [if_pos e]; rfl
    · rw [if_neg e]
      rcases List.mem_append.mp hG with z | z
      · exact h.all G z
      · rw [List.mem_singleton.mp z] at e; exact absurd rfl e
  el := fun kv hkv => by
    obtain ⟨key, u⟩ := kv
    rcases putK_mem hkv with ⟨rfl, rfl⟩ | hkv
    · exact ⟨b, F, rfl, hF, by simp⟩
    · obtain ⟨b', G, e, s, m⟩ := h.el _ hkv
      exact ⟨b', G, e, s, List.mem_append_left _ m⟩
theorem DkOk.mem {K : PySem.W.Frag} {H : Hp} {kvs : List (Key × V)} {Fs : List Fm} (h : DkOk K H kvs Fs) {F : Fm} : (valV kvs (.inr (txt F))).isSome = true ↔ F ∈ Fs := by
  refine ⟨fun z => ?_, h.all F⟩
  obtain ⟨v, hv⟩ := Option.isSome_iff_exists.mp z
  obtain ⟨b, G, e, s, m⟩ := h.el _ (valV_mem hv)
  obtain ⟨e1, _⟩ := Prod.mk.inj e
  rw [txt_inj (Sum.inr.inj e1)]; exact m
structure DSt (K : PySem.W.Frag) (H : Hp) (d : Addr) (Fs : List Fm) : Prop where
  ex : ∃ kvs, H d = some (.dK kvs) ∧ DkOk K H kvs Fs
theorem DSt.kp {K : PySem.W.Frag} {H H' : Hp} {d : Addr} {Fs : List Fm} (h : DSt K H d Fs) (k : Kp H H') : DSt K H' d Fs := let ⟨kvs, e, o⟩ := h.ex; ⟨kvs, k _ _ e, o.kf (.of k)⟩
theorem up_none {H : Hp} {p b : Addr} {o : HO} (h : upd H p o b = none) : H b = none := by
  by_cases e : b = p
  · rw [e, upd_same] at h; cases h
  · rw [upd_ne e] at h; exact h
section
variable {P : Program} {w : World} {K : PySem.W.Frag} {mg : Str → Option Value} {base : Heap} (T : Tx w K mg)
abbrev Nso : List Str := ["formulas", "formula"]
theorem sc_so : FnScope Nso ["formulas"] (defScope s_set_of) := ⟨rfl, rfl, rfl, by decide +kernel, rfl, by decide +kernel, by decide +kernel⟩
theorem bd_so : ∀ (kV doc pm : Value) (an : Option Addr) (cdv ct : Value) (us rest : List Value), us.length = 0 →
   bindArgs (PySem.W.fnOf "set_of" "set_of" (defArgs s_set_of) (defBody s_set_of) (defScope s_set_of) .none kV doc pm an cdv ct) ⟨us ++ rest, []⟩ = (newTuple rest >>= fun t => pure (([] : List Str).zip us ++ [(("formulas" : Str), t)])) := by
  intro kV doc pm an cdv ct us rest hl
  obtain rfl : us = [] := List.length_eq_zero_iff.mp hl
  cases rest with
  | nil => rfl
  | cons a r => rfl
def spSetOf (K : PySem.W.Frag) : Sp := fun vs H Q _ => ∃ (bs : List Addr) (Fs : List Fm), vs = bs.map V.ref ∧ Paired (fun b F => FoAt K H F b) bs Fs ∧ Fs.length ≤ 1000 ∧ ∀ d H', H d = none → DSt K H' d Fs → Kp H H' → Q (.ref d) H'
include T
theorem ok_set_of : FnR P w K mg base CX0 1 (f_set_of K) (spSetOf K) := by
  obtain ⟨oc, od, kV, doc, pm, an, cdv, ct, osl, efd, lk, hcd⟩ := T.F_set_of.ex
  rw [efd] at lk
  have z := StX.fn_star (P := P) (w := w) (mg := mg) (base := base) (CX := CX0) (k := 0) (ps := []) (pv := "formulas") (sp := fun vs H Q _ => ∃ (p : Addr) (bs : List Addr) (Fs : List Fm), vs = [.ref p] ∧ H p = some (.tup (bs.map V.ref)) ∧ Paired (fun b F => FoAt K H F b) bs Fs ∧ Fs.length ≤ 1000 ∧ ∀ d H', H d = none → DSt K H' d Fs → Kp H H' → Q (.ref d) H') lk hcd sc_so StX.cxUp_none (fun us rest hl => bd_so kV doc pm an cdv ct us rest hl) fun A outer s H vs Q E hr h => ⟨_, PSs.nox (
    pss_one (ps_ret (pe_dc (own := [("formula", 1)]) (g := gName 1) (tt := tYes) (tk := tFld K (tVar 1) "spelled") rfl sc_so.nd (pi_tup (pv 0)) (blkOk_by (own := [("formula", 1)]) (N := Nso) (sc := defScope s_set_of) (by decide +kernel))
        (fun _ _ _ _ _ => pg_name (i := 1) sc_so.nd rfl (Or.inl rfl)) (fun _ _ _ _ _ => pts_nil) (fun _ _ _ _ _ => pe_fld (pv 1) rfl) (fun _ _ _ _ _ => pv 1)))), ?_⟩
  · intro A outer s H us vs Q E hr e0 r h
    obtain ⟨bs, Fs, rfl, hp, hl, q⟩ := h
    refine z A outer s H us _ Q E hr e0 r ⟨[], bs.map V.ref, rfl, rfl, ?_, fun p hpn => ⟨p, bs, Fs, rfl, upd_same, Paired.mapP hp fun b F h => h.kf (kf_n hpn), hl, fun d H' hn hd k => q d H' (up_none hn) hd ((kp_up (Same.refl H) hpn).trans k)⟩⟩
    rw [List.length_map, Paired.length hp, sizeLine_eq]; omega
  · obtain ⟨p, bs, Fs, rfl, ep, hp, hl, q⟩ := h
    refine ⟨_, rfl, p, rfl, ⟨_, SqT.of ep⟩, fun D hD => ?_⟩
    refine dc_tup (K := K) (a := p) (xs := bs.map V.ref) (fun i H' => Kp H H' ∧ ∃ kvs, H' D = some (.dK kvs) ∧ kvs.length ≤ i ∧ DkOk K H' kvs (Fs.take i)) ?_ ?_ ?_ ?_
    · exact ⟨kp_up (Same.refl _) hD, [], upd_same, Nat.zero_le _, DkOk.nil⟩
    · intro i H' _ hp
      exact SqT.of (hp.1 _ _ ep)
    · rintro i x H' hx ⟨k, kvs, eD, hkl, dok⟩
      obtain ⟨c, hcj, rfl⟩ : ∃ c, bs[i]? = some c ∧ V.ref c = x := by
        rw [List.getElem?_map] at hx
        cases hq : bs[i]? with
        | none => rw [hq] at hx; cases hx
        | some c => rw [hq] at hx; exact ⟨c, rfl, Option.some.inj hx⟩
      obtain ⟨G, hG, hcG⟩ := paired_get hp hcj
      have hil := (List.getElem?_eq_some_iff.mp hG).1
      have hcG' := hcG.kf (KF.of k)
      obtain ⟨_, hf⟩ := hcG'.fo
      obtain ⟨dxc, _, _, _, _, _, _, e1, _⟩ := hf.ex
      refine ⟨rfl, ?_⟩
      refine ⟨_, rfl, c, _, dxc, _, _, rfl, e1, T.cls_Formula, T.na_Formula_spelled, rfl, _, rfl, kvs, .inr (txt G), rfl, eD, by rw [sizeLine_eq]; omega, ?_⟩
      have kfd := kf_d (o := .dK (putK kvs (.inr (txt G)) (.ref c))) eD
      refine ⟨kp_old k hD, _, upd_same, Nat.le_trans (length_putK _ _ _) (by omega), ?_⟩
      rw [take_succ hG]
      exact (dok.put hcG').kf kfd
    · rintro H2 ⟨k2, kvs, eD, hkl, dok⟩
      rw [List.length_map, Paired.length hp, List.take_length] at dok
      exact q D H2 hD ⟨kvs, eD, dok⟩ k2
end
end AT
end
section
set_option Elab.async false
set_option linter.all false
set_option maxRecDepth 100000
/-! less. -/
namespace AT
open PySem PySem.Spec PyProof.Rows L2
open AB (Fm At Drv)
/-- a dict comprehension over a locked dict's pairs -/
theorem dc_items {d : Addr} {o : Obj} {xs : List (Key × V)} {g : TG} {tt : TT} {tk tv : TE} {vs : List Nat} {σ : L2.St} {H1 : Hp} {D : Addr} {Qd : Hp → Prop} (Pv : Nat → Hp → Prop) (h0 : Pv 0 (upd H1 D (.dK []))) (hl : ∀ i H, i ≤ xs.length → Pv i H → H d = some (.frz o (.dK xs)))
    (hs : ∀ i k v T H, xs[i]? = some (k, v) → Pv i H → H T = none → g (.ref T) (wipe σ vs) (upd H T (.tup [kV k, v])) fun σ2 H2 => wipe σ2 vs = wipe σ vs ∧ tt σ2 H2 fun b H3 =>
      if b = true then tk σ2 H3 fun y H4 => tv σ2 H4 fun z H5 => ∃ kvs k, y = kV k ∧ H5 D = some (.dK kvs) ∧ kvs.length < sizeLine ∧ Pv (i + 1) (upd H5 D (.dK (putK kvs k z))) else Pv (i + 1) H3) (hd : ∀ H, Pv xs.length H → Qd H) :
    ∃ W : Nat → Nat → Hp → Prop, (∃ m, W 0 m (upd H1 D (.dK []))) ∧ ∀ i m H, W i m H →
      ((Iti d o xs).stop i H ∧ Qd H) ∨ ((Iti d o xs).go i H ∧ ∃ Nx : Hp → Prop, (∀ H', Nx H' → ∃ m', m' < m ∧ W (i + 1) m' H') ∧ ∀ x H', (Iti d o xs).yld i H x H' → g x (wipe σ vs) H' fun σ2 H2 => wipe σ2 vs = wipe σ vs ∧ tt σ2 H2 fun b H3 =>
        if b = true then tk σ2 H3 fun y H4 => tv σ2 H4 fun z H5 => ∃ kvs k, y = kV k ∧ H5 D = some (.dK kvs) ∧ kvs.length < sizeLine ∧ Nx (upd H5 D (.dK (putK kvs k z))) else Nx H3) := by
  refine ⟨fun i m H => m = xs.length - i ∧ i ≤ xs.length ∧ Pv i H, ⟨xs.length, by simp, Nat.zero_le _, h0⟩, ?_⟩
  rintro i m H ⟨rfl, hi, p⟩
  have q := hl i H hi p
  by_cases hlt : i < xs.length
  · refine .inr ⟨⟨q, hlt⟩, Pv (i + 1), fun H' p' => ⟨xs.length - (i + 1), by omega, rfl, hlt, p'⟩, fun x H' y => ?_⟩
    obtain ⟨T, k, v, e, rfl, hT, rfl⟩ := y
    exact hs i k v T H e p hT
  · have e : i = xs.length := by omega
    subst e
    exact .inl ⟨⟨q, Nat.le_refl _⟩, hd H p⟩
theorem DkOk.congr {K : PySem.W.Frag} {H : Hp} {kvs : List (Key × V)} {Fs Gs : List Fm} (h : DkOk K H kvs Fs) (e : ∀ G, G ∈ Fs ↔ G ∈ Gs) : DkOk K H kvs Gs := ⟨h.nd, fun F hF => h.all F ((e F).mpr hF), fun kv hkv => let ⟨b, F, x, y, z⟩ := h.el kv hkv; ⟨b, F, x, y, (e F).mp z⟩⟩
/-- its entries in their order -/
theorem dk_list {K : PySem.W.Frag} {H : Hp} {Fs : List Fm} : ∀ {kvs : List (Key × V)}, (∀ kv ∈ kvs, ∃ b F, kv = (.inr (txt F), .ref b) ∧ FoAt K H F b ∧ F ∈ Fs) → ∃ Gs : List Fm, Paired (fun kv G => ∃ b, kv = ((.inr (txt G) : Key), V.ref b) ∧ FoAt K H G b ∧ G ∈ Fs) kvs Gs
  | [], _ => ⟨[], .nil⟩
  | kv :: r, h => by
    obtain ⟨b, F, e, q, m⟩ := h kv List.mem_cons_self
    obtain ⟨Gs, p⟩ := dk_list (kvs := r) fun x hx => h x (List.mem_cons_of_mem _ hx)
    exact ⟨F :: Gs, .cons ⟨b, e, q, m⟩ p⟩
theorem paired_mem {α β : Type} {R : α → β → Prop} : ∀ {as : List α} {bs : List β}, Paired R as bs → ∀ b ∈ bs, ∃ a ∈ as, R a b
  | _, _, .cons h t, b, hb => by
    rcases List.mem_cons.mp hb with rfl | hb
    · exact ⟨_, List.mem_cons_self, h⟩
    · obtain ⟨a, ha, r⟩ := paired_mem t b hb
      exact ⟨a, List.mem_cons_of_mem _ ha, r⟩
theorem paired_memL {α β : Type} {R : α → β → Prop} : ∀ {as : List α} {bs : List β}, Paired R as bs → ∀ a ∈ as, ∃ b ∈ bs, R a b
  | _, _, .cons h t, a, ha => by
    rcases List.mem_cons.mp ha with rfl | ha
    · exact ⟨_, List.mem_cons_self, h⟩
    · obtain ⟨b, hb, r⟩ := paired_memL t a ha
      exact ⟨b, List.mem_cons_of_mem _ hb, r⟩
theorem DkOk.list {K : PySem.W.Frag} {H : Hp} {kvs : List (Key × V)} {Fs : List Fm} (h : DkOk K H kvs Fs) : ∃ Gs : List Fm, Paired (fun kv G => ∃ b, kv = ((.inr (txt G) : Key), V.ref b) ∧ FoAt K H G b ∧ G ∈ Fs) kvs Gs ∧ ∀ G, G ∈ Gs ↔ G ∈ Fs := by
  obtain ⟨Gs, p⟩ := dk_list h.el
  refine ⟨Gs, p, fun G => ⟨fun hG => ?_, fun hG => ?_⟩⟩
  · obtain ⟨_, _, _, _, _, m⟩ := paired_mem p G hG; exact m
  · obtain ⟨v, hv⟩ := Option.isSome_iff_exists.mp (h.all G hG)
    obtain ⟨F, hF, b, e, _⟩ := paired_memL p _ (valV_mem hv)
    have := (Prod.mk.inj e).1
    rw [txt_inj (Sum.inr.inj this)]; exact hF
section
variable {P : Program} {w : World} {K : PySem.W.Frag} {mg : Str → Option Value} {base : Heap} (T : Tx w K mg)
abbrev Nls : List Str := ["some", "formula", "text", "other"]
theorem sc_ls : FnScope Nls ["some", "formula"] (defScope s_less) := ⟨rfl, rfl, rfl, by decide +kernel, rfl, by decide +kernel, by decide +kernel⟩
def spLess (K : PySem.W.Frag) : Sp := fun vs H Q _ => ∃ (d a : Addr) (Fs : List Fm) (F : Fm), vs = [.ref d, .ref a] ∧ DSt K H d Fs ∧ FoAt K H F a ∧ Fs.length ≤ 1000000 ∧ ∀ e H', DSt K H' e (Fs.filter fun G => !decide (G = F)) → Kp H H' → Q (.ref e) H'
include T
theorem ok_less : FH P w K mg base 1 (f_less K) ["some", "formula"] (spLess K) := by
  refine T.F_less.ok sc_ls (fun vs H Q E h => by obtain ⟨_, _, _, _, rfl, _⟩ := h; rfl) (fun cdv A outer s H vs Q E hr h => ⟨_, PSs.nox (
    pss_one (ps_ret (pe_lock (pe_dc (own := [("text", 2), ("other", 3)]) (g := gTup K 2 (gCons (gName 2) (gCons (gName 3) gNil))) (tk := tVar 2) (tv := tVar 3) rfl sc_ls.nd (pi_items (pv 0)) (blkOk_by (own := [("text", 2), ("other", 3)]) (N := Nls) (sc := defScope s_less) (by decide +kernel))
        (fun _ _ _ _ _ => pg_tup rfl (pgs_cons (pg_name (i := 2) sc_ls.nd rfl (Or.inl rfl)) (pgs_cons (pg_name (i := 3) sc_ls.nd rfl (Or.inl rfl)) pgs_nil))) (tt := tTest (tOp rNe (tVar 2) (tFld K (tVar 1) "spelled"))) (fun _ _ _ _ _ => pts_one (pt_cmpR op_ne (pv 2) (pe_fld (pv 1) rfl) (nomark _))) (fun _ _ _ _ _ => pv 2) (fun _ _ _ _ _ => pv 3))))), ?_⟩)
  obtain ⟨d, a, Fs, F, rfl, hd, hF, hl, q⟩ := h
  obtain ⟨kvs, ed, dok⟩ := hd.ex
  obtain ⟨Gs, pg, hGs⟩ := dok.list
  refine ⟨d, .dK kvs, ed, True.intro, fun od => ?_⟩
  have kL := kf_d (o := .frz od (.dK kvs)) ed
  have eL : upd H d (.frz od (.dK kvs)) d = some (.frz od (.dK kvs)) := upd_same
  have oL : ∀ b o, H b = some o → b ≠ d → upd H d (.frz od (.dK kvs)) b = some o := fun b o e n => by rw [upd_ne n]; exact e
  have hFL := hF.kf kL
  generalize upd H d (.frz od (.dK kvs)) = HL at kL eL oL hFL ⊢
  obtain ⟨_, hf⟩ := hFL.fo
  obtain ⟨dxa, _, _, _, _, _, _, ea, _⟩ := hf.ex
  refine ⟨_, rfl, d, od, kvs, rfl, eL, fun D hD => ?_⟩
  refine dc_items (fun i H' => Kp HL H' ∧ ∃ ks, H' D = some (.dK ks) ∧ ks.length ≤ i ∧ DkOk K H' ks ((Gs.take i).filter fun G => !decide (G = F))) ?_ ?_ ?_ ?_
  · exact ⟨kp_up (Same.refl _) hD, [], upd_same, Nat.zero_le _, DkOk.nil⟩
  · intro i H' _ hp
    exact hp.1 _ _ eL
  · rintro i k v t H' hx ⟨kk, ks, eD, hkl, dk⟩ ht
    obtain ⟨G, hG, b, ekv, hGb, hm⟩ := paired_get pg hx
    obtain ⟨rfl, rfl⟩ := Prod.mk.inj ekv
    have kk1 := kp_up (o := .tup [kV (.inr (txt G)), V.ref b]) kk ht
    have eD1 := up_keep (o' := .tup [kV (.inr (txt G)), V.ref b]) eD ht
    have dk1 := dk.kf (kf_n (o := .tup [kV (.inr (txt G)), V.ref b]) ht)
    have et1 : upd H' t (.tup [kV (.inr (txt G)), V.ref b]) t = some (.tup [kV (.inr (txt G)), V.ref b]) := upd_same
    have hi1 : i < 1000000 := by
      have z1 := (List.getElem?_eq_some_iff.mp hx).1
      have z2 : kvs.length ≤ Fs.length := by
        have nd := dok.nd
        have z3 : (kvs.map (·.1)).length ≤ (Fs.map fun F => (Sum.inr (txt F) : Key)).length := List.Nodup.length_le_of_subset nd fun x hx => by
          obtain ⟨kv, hkv, rfl⟩ := List.mem_map.mp hx
          obtain ⟨b', F', e, _, m⟩ := dok.el kv hkv
          rw [e]
          exact List.mem_map.mpr ⟨F', m, rfl⟩
        rw [List.length_map, List.length_map] at z3; exact z3
      omega
    generalize upd H' t (.tup [kV (.inr (txt G)), V.ref b]) = H3 at kk1 eD1 dk1 et1 ⊢
    refine ⟨t, _, rfl, SqT.of et1, rfl, _, _, rfl, _, _, rfl, rfl, rfl, ?_⟩
    refine ⟨_, rfl, _, rfl, a, _, dxa, _, _, rfl, kk1 _ _ ea, T.cls_Formula, T.na_Formula_spelled, rfl, rfl, _, rfl, ?_⟩
    by_cases hGF : G = F
    · subst hGF
      refine ite2 (fun z => ?_) fun _ => ⟨kk1, ks, eD1, Nat.le_succ_of_le hkl, ?_⟩
      · rw [show decide (kV (Sum.inr (txt G)) = V.str (txt G)) = true from decide_eq_true rfl] at z; cases z
      · rw [take_succ hG, List.filter_append]
        simpa using dk1
    · refine ite2 (fun _ => ?_) fun z => ?_
      · refine ⟨_, rfl, _, rfl, ks, .inr (txt G), rfl, eD1, by rw [sizeLine_eq]; omega, ?_⟩
        have kfd := kf_d (o := .dK (putK ks (.inr (txt G)) (.ref b))) eD1
        refine ⟨kp_old kk1 hD, _, upd_same, Nat.le_trans (length_putK _ _ _) (by omega), ?_⟩
        rw [take_succ hG, List.filter_append, show [G].filter (fun G => !decide (G = F)) = [G] by simp [hGF]]
        exact (dk1.put ((hGb.kf kL).kf (KF.of kk1))).kf kfd
      · exfalso
        refine z ?_
        rw [show decide (kV (Sum.inr (txt G)) = V.str (txt F)) = false from decide_eq_false fun e => hGF (txt_inj (V.str.inj e))]; rfl
  · rintro H2 ⟨k2, ks, eD, hkl, dk⟩
    have hlg : kvs.length = Gs.length := Paired.length pg
    rw [hlg, List.take_length] at dk
    have e2 := k2 _ _ eL
    have nDd : D ≠ d := fun z => by rw [z, e2] at eD; cases eD
    refine ⟨e2, q D _ ⟨ks, by rw [upd_ne nDd]; exact eD, (dk.congr fun G => ?_).kf ⟨fun b xs e => by rw [upd_ne (ne_of e e2 fun z => nomatch z)]; exact e, fun b C dx fs e => by rw [upd_ne (ne_of e e2 fun z => nomatch z)]; exact e⟩⟩ fun b o e => ?_⟩
    · rw [List.mem_filter, List.mem_filter, hGs]
    · by_cases hb : b = d
      · rw [hb, ed] at e
        rw [hb, upd_same, ← e]
      · rw [upd_ne hb]; exact k2 _ _ (oL b o e hb)
end
end AT
end
section
set_option Elab.async false
set_option linter.all false
set_option maxRecDepth 100000
/-! A mapping merged into a dict display: {**a, **b}. -/
namespace AT
open PySem PySem.Spec PyProof.Rows L2
theorem fi_list {α : Type} (es : Array α) (p : α → Bool) : es.toList.findIdx? p = es.findIdx? p := by
  rcases es with ⟨l⟩
  simp
section
variable {prog : Program} {w : World} {κ : Type} [DecidableEq κ] {knd : KeyKind prog w κ} {A : Around} {E : Value → Shared → Prop} {s : Shared}
theorem put_pairs {d : Addr} {kvs : List (κ × Value)} {k : κ} {key v : Value} {Q : Unit → Shared → Prop} (hkey : knd.is k key = true) (hm : s.heap.DictOf knd d kvs) (hsz : kvs.length ≤ sizeLine)
    (hQ : ∀ h', h'.DictOf knd d (stored kvs k v) → Heap.SameBut d s.heap h' → Q () { s with heap := h' }) : wpAny (model prog w) A (dictPut d (knd.hash k) key v) Q E s := by
  obtain ⟨o, es, ep, ho, hc, hd, hk, hp, hn⟩ := hm
  have lz : es.size ≤ sizeLine := by
    have := hp.length
    rw [Array.length_toList] at this
    omega
  have at_ : (es.findIdx? fun e => knd.is k e.key) = kvs.findIdx? fun kv => decide (kv.1 = k) := by
    rw [← hp.findIdx k, fi_list]
  unfold dictPut
  refine wpAny_bind (wpAny_dictFind_of hkey ho hd hk ?_)
  cases hi : es.findIdx? fun e => knd.is k e.key with
  | some i =>
    have e1 : stored kvs k v = kvs.map fun kv => if kv.1 = k then (kv.1, v) else kv := by rw [stored, if_pos (any_of_findIdx_some (at_ ▸ hi))]
    have fl : es.toList.findIdx? (fun e => knd.is k e.key) = some i := by rw [fi_list]; exact hi
    have md := hp.modify hn fl v
    refine wpAny_updateDict ho hd (hQ _ ⟨_, _, ep, Heap.get?_update_self _ ho (Obj.isFreed_of_dict (Obj.data_mapDict hd _)), hc.mapDict _, Obj.data_mapDict hd _, hk.modify _ _, ?_, ?_⟩ (Heap.SameBut.update ..))
    · rw [e1, Array.toList_modify]
      exact md
    · rw [e1, keys_map_store]; exact hn
  | none =>
    have nk : k ∉ kvs.map (·.1) := not_mem_of_findIdx_none (at_ ▸ hi)
    have na : ¬ (kvs.any fun kv => decide (kv.1 = k)) = true := fun z => by
      obtain ⟨kv, h1, h2⟩ := List.any_eq_true.mp z
      exact nk (of_decide_eq_true h2 ▸ List.mem_map_of_mem h1)
    have e1 : stored kvs k v = kvs ++ [(k, v)] := by rw [stored, if_neg na]
    refine wpAny_updateDictKeys (hz := lz) ho hd (hQ _ ⟨_, _, ep + 1, Heap.get?_update_self _ ho (Obj.isFreed_of_dict (Obj.data_mapDictKeys hd _)), hc.mapDictKeys _, Obj.data_mapDictKeys hd _, hk.push hkey _, ?_, ?_⟩ (Heap.SameBut.update ..))
    · rw [e1, Array.toList_push]
      exact hp.append hkey (knd.hash k) v
    · rw [e1, List.map_append]
      refine List.nodup_append.mpr ⟨hn, by simp, fun a ha b hb e => nk ?_⟩
      have : b = k := by simpa using hb
      rw [← this, ← e]; exact ha
end
end AT
end
section
set_option Elab.async false
set_option linter.all false
set_option maxRecDepth 100000
/-! A mapping merged into a dict display: {**a, **b}. -/
namespace AT
open PySem PySem.Spec PyProof.Rows L2
section
variable {prog : Program} {w : World} {κ : Type} [DecidableEq κ] {knd : KeyKind prog w κ} {A : Around} {E : Value → Shared → Prop} {s : Shared}
theorem sub_dict : isSubtype (.type "dict") (.type "dict") = pure true := by rfl
theorem merge_map {d o : Addr} {kvs more : List (κ × Value)} {Q : Unit → Shared → Prop} (hdo : d ≠ o) (hoS : (o == sysModules) = false) (hd : s.heap.DictOf knd d kvs) (ho : s.heap.DictOf knd o more) (hnr : ∀ k key, knd.is k key = true → ∀ a, key ≠ .ref a)
    (hsz : kvs.length + more.length ≤ sizeLine) (hQ : ∀ h', h'.DictOf knd d (merged kvs more) → h'.DictOf knd o more → Heap.SameBut d s.heap h' → Q () { s with heap := h' }) : wpAny (model prog w) A (mergeMapping d (.ref o) false) Q E s := by
  obtain ⟨oo, eso, epo, hoo, hco, hdo', hko, hpo, hno⟩ := id ho
  obtain ⟨od, esd, epd, hod, hcd, hdd, hkd, hpd, hnd⟩ := id hd
  unfold mergeMapping
  refine wpAny_bind (wpAny_isInstance (T := "dict") ho.typeIs sub_dict ?_)
  rw [if_pos rfl]
  refine wpAny_bind (wpAny_specialOf ho.typeIs F.slot_dict_iter.lookup ?_)
  have hb : (some (Value.builtin "dict.__iter__") == some (Value.builtin "dict.__iter__")) = true := beq_self_eq_true _
  rw [hb]
  refine wpAny_bind (wpAny_pure ?_)
  dsimp only
  rw [if_neg (by rw [hoS]; exact Bool.false_ne_true)]
  have hlen : more.length = eso.size := by rw [← hpo.length]; simp
  have loop : wpAny (model prog w) A (do
      let l ← dictEntries o
      let epoch ← dictEpoch o
      forIn (List.range l.size) PUnit.unit fun i (_ : PUnit) => (do
          let l' ← dictEntries o
          match l'[i]? with
            | some e => do
              holding [e.key, e.val] (dictPut d e.hash e.key e.val)
              let ep' ← dictEpoch o
              if (ep' != epoch) = true then do
                  (unsupported "dict.changed-during-merge" : Sem PUnit)
                  pure (ForInStep.yield PUnit.unit)
                else pure (ForInStep.yield PUnit.unit)
            | _ => do
              (unsupported "dict.changed-during-merge" : Sem PUnit)
              pure (ForInStep.yield PUnit.unit) : Sem (ForInStep PUnit))
      pure ()) Q E s := by
    refine wpAny_bind (wpAny_dictEntries hoo hdo' (wpAny_bind (wpAny_dictEpoch hoo hdo' (wpAny_bind ?_))))
    rw [List.range_eq_range']
    refine wpAny_forIn_list _ (fun rest _ s' => ∃ h' i, s' = { s with heap := h' } ∧ rest = List.range' i (eso.size - i) ∧ i ≤ eso.size ∧ h'.DictOf knd d (merged kvs (more.take i)) ∧ h'.get? o = some oo ∧ Heap.SameBut d s.heap h')
      _ ?_ ?_ _ _ ⟨s.heap, 0, rfl, by simp, Nat.zero_le _, by simpa [merged] using hd, hoo, Heap.SameBut.refl _ _⟩
    · rintro x rest b s' ⟨h', i, rfl, hr, hi, hd', hoo', hs'⟩
      have hlt : i < eso.size := Nat.lt_of_not_le fun z => by
        rw [Nat.sub_eq_zero_of_le z] at hr; cases hr
      have e0 : eso.size - i = (eso.size - (i + 1)) + 1 := by omega
      rw [e0, List.range'_succ] at hr
      obtain ⟨rfl, rfl⟩ := List.cons.inj hr
      refine wpAny_bind (wpAny_dictEntries hoo' hdo' ?_)
      rw [Array.getElem?_eq_getElem hlt]
      have hkv : more[x]? = some (more[x]'(by rw [hlen]; exact hlt)) := List.getElem?_eq_getElem _
      generalize more[x]'(by rw [hlen]; exact hlt) = kv at hkv
      obtain ⟨k, v⟩ := kv
      obtain ⟨hkey, hval⟩ := hpo.get? (e := eso[x]) (by simp [hlt]) hkv
      obtain ⟨k', hk1, hk2⟩ := hko eso[x] (Array.getElem_mem hlt)
      cases knd.inj _ _ _ hk1 hkey
      have sz : (merged kvs (more.take x)).length ≤ sizeLine := by
        have z1 := merged_length_le kvs (more.take x)
        rw [List.length_take] at z1
        omega
      refine wpAny_bind (wpAny_holding ?_)
      rw [hk2, hval]
      refine put_pairs hkey hd' sz fun h2 hd2 hs2 => ?_
      have hoo2 : h2.get? o = some oo := (hs2.2 o (Ne.symm hdo)).trans hoo'
      refine wpAny_bind (wpAny_dictEpoch hoo2 hdo' ?_)
      rw [if_neg (by simp)]
      exact wpAny_pure ⟨h2, x + 1, rfl, rfl, hlt, by rw [merged_take_succ kvs more x _ hkv]; exact hd2, hoo2, hs'.trans hs2⟩
    · rintro b s' ⟨h', i, rfl, hr, hi, hd', hoo', hs'⟩
      have hin : i = eso.size := Nat.le_antisymm hi (Nat.le_of_not_lt fun z => by
        rw [show eso.size - i = (eso.size - (i + 1)) + 1 by omega, List.range'_succ] at hr; cases hr)
      rw [hin, ← hlen, List.take_length] at hd'
      exact wpAny_pure (hQ h' hd' ⟨oo, eso, epo, hoo', hco, hdo', hko, hpo, hno⟩ hs')
  refine wpAny_bind (wpAny_dictEntries hod hdd ?_)
  split
  · refine wpAny_bind (wpAny_dictEntries hoo hdo' (wpAny_bind ?_))
    rw [← Array.forIn_toList]
    refine wpAny_forIn_list _ (fun rest _ s' => s' = s ∧ ∀ e ∈ rest, e ∈ eso.toList) _ ?_ ?_ _ _ ⟨rfl, fun e h => h⟩
    · rintro x rest b s' ⟨rfl, hm⟩
      obtain ⟨k', hk1, _⟩ := hko x (Array.mem_def.mpr (hm x List.mem_cons_self))
      have nr := hnr _ _ hk1
      split
      · rename_i a ea; exact absurd ea (nr a)
      · exact wpAny_pure ⟨rfl, fun e h => hm e (List.mem_cons_of_mem _ h)⟩
    · rintro b s' ⟨rfl, _⟩
      exact loop
  · exact loop
end
end AT
end
section
set_option Elab.async false
set_option linter.all false
set_option maxRecDepth 100000
/-! {**a, **b} as a rule. -/
namespace AT
open PySem PySem.Spec PyProof.Rows L2
section
variable {X : Cx} {pins : List (Addr × Obj)} {σ : L2.St} {H : Hp} {s : Shared} {A : Around} {E : Value → Shared → Prop}
theorem mix_nr (k : Key) (key : Value) (h : (mixKind X.prog X.w).is k key = true) (a : Addr) : key ≠ .ref a := by
  rintro rfl
  rw [mixKind_is] at h
  cases k <;> cases h
theorem d_merge {d o : Addr} {ks ms : List (Key × V)} {Q : Unit → Shared → Prop} (I : Inv X pins σ H s) (e1 : H d = some (.dK ks)) (e2 : H o = some (.dK ms)) (hdo : d ≠ o) (hz : ks.length + ms.length ≤ sizeLine)
    (h : ∀ s', Inv X pins σ (upd H d (.dK (mergeK ks ms))) s' → Q () s') : wpAny (model X.prog X.w) A (mergeMapping d (.ref o) false) Q E s := by
  obtain ⟨z1, hd1, vs, rel, dd⟩ := dk_of I.hok e1
  obtain ⟨z2, hd2, ws, rel2, dd2⟩ := dk_of I.hok e2
  have l1 := Paired.length rel
  have l2 := Paired.length rel2
  refine merge_map hdo hd2 dd dd2 mix_nr (by omega) fun h' m1 m2 sb => h _ ?_
  have he : ∃ q, h'.get? d = some q := let ⟨q, _, _, hq, _⟩ := m1; ⟨q, hq⟩
  have hz' : (mergeK ks ms).length ≤ sizeLine := Nat.le_trans (length_mergeK ms ks) hz
  exact d_write I (by rw [e1]; exact True.intro) sb he (dk_new hz' hd1 (rel2.merge rel) m1)
end
section
variable {X : Cx} {a b : Expr} {ta tb : TE} {pos : Pos}
def tMerge2 (ta tb : TE) : TE := fun σ H Q => ∀ d, H d = none → ta σ (upd H d (.dK [])) fun x H1 => H1 d = some (.dK []) ∧ ∃ o ms, x = .ref o ∧ d ≠ o ∧ H1 o = some (.dK ms) ∧ ms.length ≤ 8000000 ∧
  tb σ (upd H1 d (.dK (mergeK [] ms))) fun y H2 => H2 d = some (.dK (mergeK [] ms)) ∧ ∃ o2 ns, y = .ref o2 ∧ d ≠ o2 ∧ H2 o2 = some (.dK ns) ∧ ns.length ≤ 8000000 ∧ Q (.ref d) (upd H2 d (.dK (mergeK (mergeK [] ms) ns)))
theorem pe_merge2 (ha : PE X a ta) (hb : PE X b tb) : PE X (.Dict [none, none] [a, b] pos) (tMerge2 ta tb) := by
  refine ⟨fun pins s σ H Q I q => ?_⟩
  have hn := I.hok.fresh (Nat.le_refl s.heap.objs.size)
  have I1 := I.laid (a := s.heap.objs.size) (o := .dK []) (h' := s.heap.push { cls := .type "dict", data := .dict #[] }) (t' := s.toks) (fun _ _ q => Heap.get?_push_of_some _ q) (Nat.le_refl _) (dk_empty s.heap I.big)
  have q1 := q _ hn
  rw [arm_eval_Dict]
  refine wpAny_bind (wpAny_standAt ?_)
  have f1 : evalEachOpt [none, none] X.env = [none, none] := rfl
  have f2 : evalEach [a, b] X.env = [eval a X.env, eval b X.env] := rfl
  rw [f1, f2]
  unfold dictDisplay
  simp only [List.map_cons, List.map_nil, List.zip_cons_cons, List.zip_nil_right, List.forIn_cons, List.forIn_nil, List.isEmpty_nil, if_true, pure_bind, bind_assoc]
  refine wpAny_bind (wpAny_alloc ?_)
  refine wpAny_bind (wpAny_holding ?_)
  refine wpAny_bind (thn (ha.run pins _ σ _ _ I1 q1) fun v s2 ⟨x, H2, I2, rx, e, o, ms, ex, hdo, eo, hl, q2⟩ => ?_)
  subst ex
  obtain rfl : v = Value.ref o := rx
  refine wpAny_bind (wpAny_standAt (wpAny_pure ?_))
  refine wpAny_bind (wpAny_onRaise (wpAny_tryCatch (wpAny_onRaise (wpAny_holding (d_merge I2 e eo hdo (by rw [List.length_nil, sizeLine_eq]; omega) fun s3 I3 => ?_)))))
  refine wpAny_bind (wpAny_holding (wpAny_bind (thn (hb.run pins _ σ _ _ I3 q2) fun v2 s4 ⟨y, H4, I4, ry, e4, o2, ns, ey, hdo2, eo2, hl2, q4⟩ => ?_)))
  subst ey
  obtain rfl : v2 = Value.ref o2 := ry
  have hm : (mergeK [] ms).length ≤ 8000000 := by
    have z := length_mergeK ms []
    rw [List.length_nil] at z
    omega
  refine wpAny_bind (wpAny_standAt (wpAny_pure ?_))
  refine wpAny_bind (wpAny_onRaise (wpAny_tryCatch (wpAny_onRaise (wpAny_holding (d_merge I4 e4 eo2 hdo2 (by rw [sizeLine_eq]; omega) fun s5 I5 => ?_)))))
  exact wpAny_pure ⟨.ref s.heap.objs.size, _, I5, rfl, q4⟩
end
end AT
end
section
set_option Elab.async false
set_option linter.all false
set_option maxRecDepth 100000
/-! more. -/
namespace AT
open PySem PySem.Spec PyProof.Rows L2
open AB (Fm At Drv)
theorem DkOk.mergeL {K : PySem.W.Frag} {H : Hp} {Us : List Fm} : ∀ {ms : List (Key × V)} {Gl : List Fm} {ks : List (Key × V)} {Fs : List Fm}, DkOk K H ks Fs → Paired (fun kv G => ∃ b, kv = ((.inr (txt G) : Key), V.ref b) ∧ FoAt K H G b ∧ G ∈ Us) ms Gl → DkOk K H (mergeK ks ms) (Fs ++ Gl)
  | _, _, ks, Fs, h, .nil => by rw [List.append_nil]; exact h
  | _, _, ks, Fs, h, .cons (a := kv) (l₁ := r) (b := G) ⟨b, e, hG, _⟩ t => by
    subst e
    have z := DkOk.mergeL (h.put hG) t
    rw [List.append_assoc] at z
    exact z
theorem DkOk.merge {K : PySem.W.Frag} {H : Hp} {ks ms : List (Key × V)} {Fs Gs : List Fm} (h : DkOk K H ks Fs) (g : DkOk K H ms Gs) : DkOk K H (mergeK ks ms) (Fs ++ Gs) := by
  obtain ⟨Gl, p, e⟩ := g.list
  exact (h.mergeL p).congr fun G => by rw [List.mem_append, List.mem_append, e]
theorem DkOk.few {K : PySem.W.Frag} {H : Hp} {kvs : List (Key × V)} {Fs : List Fm} (h : DkOk K H kvs Fs) : kvs.length ≤ Fs.length := by
  have z3 : (kvs.map (·.1)).length ≤ (Fs.map fun F => (Sum.inr (txt F) : Key)).length := List.Nodup.length_le_of_subset h.nd fun x hx => by
    obtain ⟨kv, hkv, rfl⟩ := List.mem_map.mp hx
    obtain ⟨b', F', e, _, m⟩ := h.el kv hkv
    rw [e]
    exact List.mem_map.mpr ⟨F', m, rfl⟩
  rw [List.length_map, List.length_map] at z3; exact z3
theorem DSt.congr {K : PySem.W.Frag} {H : Hp} {d : Addr} {Fs Gs : List Fm} (h : DSt K H d Fs) (e : ∀ G, G ∈ Fs ↔ G ∈ Gs) : DSt K H d Gs := let ⟨kvs, a, b⟩ := h.ex; ⟨kvs, a, b.congr e⟩
section
variable {P : Program} {w : World} {K : PySem.W.Frag} {mg : Str → Option Value} {base : Heap} (T : Tx w K mg)
abbrev Nmo : List Str := ["some", "formulas"]
theorem sc_mo : FnScope Nmo ["some", "formulas"] (defScope s_more) := ⟨rfl, rfl, rfl, by decide +kernel, rfl, by decide +kernel, by decide +kernel⟩
theorem bd_mo : ∀ (kV doc pm : Value) (an : Option Addr) (cdv ct : Value) (us rest : List Value), us.length = 1 →
   bindArgs (PySem.W.fnOf "more" "more" (defArgs s_more) (defBody s_more) (defScope s_more) .none kV doc pm an cdv ct) ⟨us ++ rest, []⟩ = (newTuple rest >>= fun t => pure ((["some"] : List Str).zip us ++ [(("formulas" : Str), t)])) := by
  intro kV doc pm an cdv ct us rest hl
  match us, hl with
  | [u], _ => cases rest with
    | nil => rfl
    | cons a r => rfl
def spMore (K : PySem.W.Frag) : Sp := fun vs H Q _ => ∃ (d : Addr) (Fs : List Fm) (bs : List Addr) (Gs : List Fm), vs = .ref d :: bs.map V.ref ∧ DSt K H d Fs ∧ Paired (fun b F => FoAt K H F b) bs Gs ∧ Fs.length ≤ 7000000 ∧ Gs.length ≤ 1000 ∧
  ∀ e H', DSt K H' e (Fs ++ Gs) → Kp H H' → Q (.ref e) H'
include T
theorem ok_more : FnR P w K mg base CX0 2 (f_more K) (spMore K) := by
  obtain ⟨oc, od, kV, doc, pm, an, cdv, ct, osl, efd, lk, hcd⟩ := T.F_more.ex
  rw [efd] at lk
  have z := StX.fn_star (P := P) (w := w) (mg := mg) (base := base) (CX := CX0) (k := 1) (ps := ["some"]) (pv := "formulas") (sp := fun vs H Q _ => ∃ (d p : Addr) (Fs : List Fm) (bs : List Addr) (Gs : List Fm), vs = [.ref d, .ref p] ∧ H p = some (.tup (bs.map V.ref)) ∧ DSt K H d Fs ∧ Paired (fun b F => FoAt K H F b) bs Gs ∧ Fs.length ≤ 7000000 ∧ Gs.length ≤ 1000 ∧
    ∀ e H', DSt K H' e (Fs ++ Gs) → Kp H H' → Q (.ref e) H') lk hcd sc_mo StX.cxUp_none (fun us rest hl => bd_mo kV doc pm an cdv ct us rest hl) fun A outer s H vs Q E hr h => ⟨_, PSs.nox (
    pss_one (ps_ret (pe_merge2 (pv 0) (StX.pe_callS1 (ok_set_of (P := P) (base := base) T) hr T.F_set_of.kp rfl T.g_set_of pass0 (pv 1))))), ?_⟩
  · intro A outer s H us vs Q E hr e0 r h
    obtain ⟨d, Fs, bs, Gs, rfl, hd, hp, hl, hl2, q⟩ := h
    refine z A outer s H us _ Q E hr e0 r ⟨[.ref d], bs.map V.ref, rfl, rfl, ?_, fun p hpn => ⟨d, p, Fs, bs, Gs, rfl, upd_same, hd.kp (kp_up (Same.refl H) hpn), Paired.mapP hp fun b F h => h.kf (kf_n hpn), hl, hl2, fun d H' hd k => q d H' hd ((kp_up (Same.refl H) hpn).trans k)⟩⟩
    rw [List.length_map, Paired.length hp, sizeLine_eq]; omega
  · obtain ⟨d, p, Fs, bs, Gs, rfl, ep, hd, hp, hl, hl2, q⟩ := h
    obtain ⟨ks, ed, dk⟩ := hd.ex
    intro n hn
    have nd : n ≠ d := fun z => by rw [z, ed] at hn; cases hn
    have np : n ≠ p := fun z => by rw [z, ep] at hn; cases hn
    refine ⟨_, rfl, upd_same, d, ks, rfl, nd, by rw [upd_ne nd.symm]; exact ed, by have := dk.few; omega, ?_⟩
    have k1 : Kp H (upd (upd H n (.dK [])) n (.dK (mergeK [] ks))) := kp_old (kp_up (Same.refl H) hn) hn
    have e1 : upd (upd H n (.dK [])) n (.dK (mergeK [] ks)) n = some (.dK (mergeK [] ks)) := upd_same
    generalize upd (upd H n (.dK [])) n (.dK (mergeK [] ks)) = H1 at k1 e1 ⊢
    refine ⟨_, rfl, p, _, rfl, .inl (SqT.of (k1 _ _ ep)), bs, Gs, rfl, Paired.mapP hp fun b F h => h.kf (KF.of k1), hl2, fun e H2 hen he k2 => ?_⟩
    obtain ⟨ms, ee, dm⟩ := he.ex
    have en := k2 _ _ e1
    have ne : n ≠ e := fun z => by rw [z, hen] at e1; cases e1
    refine ⟨en, e, ms, rfl, ne, ee, by have := dm.few; omega, ?_⟩
    have kd := kf_d (o := .dK (mergeK (mergeK [] ks) ms)) en
    refine q n _ ⟨_, upd_same, ?_⟩ (kp_old (k1.trans k2) hn)
    have dk2 := dk.kf (.of (k1.trans k2))
    exact ((((DkOk.nil (K := K) (H := H2)).merge dk2).merge dm).congr fun G => by rw [List.nil_append]).kf kd
end
end AT
end
section
set_option Elab.async false
set_option linter.all false
set_option maxRecDepth 100000
/-! left_beneath. -/
namespace AT
open PySem PySem.Spec PyProof.Rows L2
open AB (Fm At Drv)
def nb1 : Fm → List Fm := fun K => match K with | .all G => [.all G, G] | _ => []
theorem nears_nb1 (F : Fm) (L : List Fm) : AB.nears F L = F :: L.flatMap nb1 := rfl
theorem kq_all : ∀ F : Fm, decide (V.str (kindS F) = V.str (Str.ofString "all")) = AB.isAll F
  | .atm _ => show decide (V.str (Str.ofString "atom") = V.str (Str.ofString "all")) = false from by decide +kernel
  | .no => show decide (V.str (Str.ofString "no") = V.str (Str.ofString "all")) = false from by decide +kernel
  | .imp _ _ => show decide (V.str (Str.ofString "if") = V.str (Str.ofString "all")) = false from by decide +kernel
  | .all _ => show decide (V.str (Str.ofString "all") = V.str (Str.ofString "all")) = true from by decide +kernel
theorem kq_imp : ∀ F : Fm, decide (V.str (kindS F) = V.str (Str.ofString "if")) = AB.isImp F
  | .atm _ => show decide (V.str (Str.ofString "atom") = V.str (Str.ofString "if")) = false from by decide +kernel
  | .no => show decide (V.str (Str.ofString "no") = V.str (Str.ofString "if")) = false from by decide +kernel
  | .imp _ _ => show decide (V.str (Str.ofString "if") = V.str (Str.ofString "if")) = true from by decide +kernel
  | .all _ => show decide (V.str (Str.ofString "all") = V.str (Str.ofString "if")) = false from by decide +kernel
theorem kq_atm : ∀ F : Fm, decide (V.str (kindS F) = V.str (Str.ofString "atom")) = AB.isAtm F
  | .atm _ => show decide (V.str (Str.ofString "atom") = V.str (Str.ofString "atom")) = true from by decide +kernel
  | .no => show decide (V.str (Str.ofString "no") = V.str (Str.ofString "atom")) = false from by decide +kernel
  | .imp _ _ => show decide (V.str (Str.ofString "if") = V.str (Str.ofString "atom")) = false from by decide +kernel
  | .all _ => show decide (V.str (Str.ofString "all") = V.str (Str.ofString "atom")) = false from by decide +kernel
theorem kq_no : ∀ F : Fm, decide (V.str (kindS F) = V.str (Str.ofString "no")) = AB.isNo F
  | .atm _ => show decide (V.str (Str.ofString "atom") = V.str (Str.ofString "no")) = false from by decide +kernel
  | .no => show decide (V.str (Str.ofString "no") = V.str (Str.ofString "no")) = true from by decide +kernel
  | .imp _ _ => show decide (V.str (Str.ofString "if") = V.str (Str.ofString "no")) = false from by decide +kernel
  | .all _ => show decide (V.str (Str.ofString "all") = V.str (Str.ofString "no")) = false from by decide +kernel
theorem nb1_len (K : Fm) : (nb1 K).length ≤ 2 := by cases K <;> simp [nb1]
theorem nb1s_len : ∀ L : List Fm, (L.flatMap nb1).length ≤ 2 * L.length
  | [] => Nat.le_refl _
  | K :: L => by
    have a := nb1s_len L
    have b := nb1_len K
    rw [List.flatMap_cons, List.length_append, List.length_cons]; omega
theorem DSt.unlock {K : PySem.W.Frag} {H0 H : Hp} {d e : Addr} {od : Obj} {kvs : List (Key × V)} {Fs : List Fm} (he : DSt K H e Fs) (ed : H d = some (.frz od (.dK kvs))) : DSt K (upd H d (.dK kvs)) e Fs := by
  obtain ⟨ks, ee, dk⟩ := he.ex
  have ne : e ≠ d := fun z => by rw [z, ed] at ee; cases ee
  exact ⟨ks, by rw [upd_ne ne]; exact ee, dk.kf ⟨fun b xs e => by rw [upd_ne (ne_of e ed fun z => nomatch z)]; exact e, fun b C dx fs e => by rw [upd_ne (ne_of e ed fun z => nomatch z)]; exact e⟩⟩
theorem kp_unlock {H HL H2 : Hp} {d : Addr} {u : HO} {od : Obj} (ed : H d = some u) (k : Kp (upd H d (.frz od u)) H2) : Kp H (upd H2 d u) := fun b o e => by
  by_cases hb : b = d
  · rw [hb, ed] at e
    rw [hb, upd_same, ← e]
  · rw [upd_ne hb]; exact k _ _ (by rw [upd_ne hb]; exact e)
section
variable {P : Program} {w : World} {K : PySem.W.Frag} {mg : Str → Option Value} {base : Heap} (T : Tx w K mg)
abbrev Nlb : List Str := ["left", "formula", "found", "other"]
theorem sc_lbk : FnScope Nlb ["left", "formula"] (defScope s_left_beneath) := ⟨rfl, rfl, rfl, by decide +kernel, rfl, by decide +kernel, by decide +kernel⟩
def spLbk (K : PySem.W.Frag) : Sp := fun vs H Q _ => ∃ (d a : Addr) (L : List Fm) (F : Fm), vs = [.ref d, .ref a] ∧ DSt K H d L ∧ FoAt K H F a ∧ L.length ≤ 1000000 ∧ ∀ e H', DSt K H' e (AB.nears F L) → Kp H H' → Q (.ref e) H'
include T
theorem ok_lbk : FH P w K mg base 3 (f_left_beneath K) ["left", "formula"] (spLbk K) := by
  obtain ⟨uAL, mAL, rAL⟩ := T.c_ALL
  refine T.F_left_beneath.ok sc_lbk (fun vs H Q E h => by obtain ⟨_, _, _, _, rfl, _⟩ := h; rfl) (fun cdv A outer s H vs Q E hr h => ⟨_, PSs.nox (
    pss_cons (ps_set (i := 2) sc_lbk.nd rfl (Or.inl rfl) (pe_callR (ok_set_of (P := P) (base := base) T) (hr.mono (by decide)) T.F_set_of.kp rfl T.g_set_of pass0 (pa_cons (pv 1) pa_nil)))
    (pss_cons (ps_lock (ps_for PassesOwn.never rfl (pi_values (pv 0)) (pg_name (i := 3) sc_lbk.nd rfl (Or.inl rfl))
      (pss_one (ps_if (pt_cmpR op_eq (pe_fld (pv 3) rfl) (pe_glob rfl mAL rAL) (nomark _))
        (pss_one (ps_set (i := 2) sc_lbk.nd rfl (Or.inl rfl) (pe_callR (ok_more (P := P) (base := base) T) hr T.F_more.kp rfl T.g_more pass0 (pa_cons (pv 2) (pa_cons (pv 3) (pa_cons (pe_ix ix_tup (pe_fld (pv 3) rfl) pe_int (fun _ _ => rfl)) pa_nil)))))) pss_nil))))
    (pss_one (ps_ret (pv 2))))), ?_⟩)
  obtain ⟨d, a, L, F, rfl, hd, hF, hl, q⟩ := h
  refine ⟨_, rfl, [a], [F], rfl, .cons hF .nil, by show 1 ≤ 1000; omega, fun e H1 hen he k1 => ?_⟩
  have hd1 := hd.kp k1
  obtain ⟨kvs, ed, dok⟩ := hd1.ex
  obtain ⟨Gs, pg, hGs⟩ := dok.list
  refine ⟨d, .dK kvs, ed, True.intro, fun od => ?_⟩
  have kL := kf_d (o := .frz od (.dK kvs)) ed
  have eL : upd H1 d (.frz od (.dK kvs)) d = some (.frz od (.dK kvs)) := upd_same
  have ne : e ≠ d := fun z => by
    obtain ⟨_, e0, _⟩ := hd.ex
    rw [z, e0] at hen; cases hen
  have heL : DSt K (upd H1 d (.frz od (.dK kvs))) e [F] := by
    obtain ⟨ks, ee, dk⟩ := he.ex
    exact ⟨ks, by rw [upd_ne ne]; exact ee, dk.kf kL⟩
  refine ⟨_, rfl, d, od, kvs, rfl, eL, ?_⟩
  have hlg : kvs.length = Gs.length := Paired.length pg
  have few := dok.few
  refine for_it walk_values (fun i σ H' => ∃ e b3, σ = [some (.ref d), some (.ref a), some (.ref e), b3] ∧ Kp (upd H1 d (.frz od (.dK kvs))) H' ∧ DSt K H' e (F :: (Gs.take i).flatMap nb1)) ?_ ?_ ?_ ?_
  · exact ⟨e, _, rfl, Same.refl _, heL⟩
  · rintro i σ H' _ ⟨e, b3, rfl, k, _⟩
    exact k _ _ eL
  · rintro i x σ H' H'' hi ⟨e, b3, rfl, k, he⟩ ⟨rfl, key, hx⟩
    obtain ⟨G, hG, b, ekv, hGb, hm⟩ := paired_get pg hx
    obtain ⟨rfl, rfl⟩ := Prod.mk.inj ekv
    have hGb' := (hGb.kf kL).kf (KF.of k)
    obtain ⟨pp, hf⟩ := hGb'.fo
    obtain ⟨dxx, pt, al, m, dd, x, y, e1, e2, _⟩ := hf.ex
    refine ⟨_, rfl, b, _, dxx, _, _, rfl, e1, T.cls_Formula, T.na_Formula_kind, rfl, rfl, _, rfl, ?_⟩
    have stp : (Gs.take (i + 1)).flatMap nb1 = (Gs.take i).flatMap nb1 ++ nb1 G := by rw [take_succ hG, List.flatMap_append]; simp
    cases G with
    | all g =>
      obtain ⟨c, hfo, hg⟩ := hGb'
      obtain ⟨dx2, pt2, al2, m2, d2, x2, y2, e12, e22, _⟩ := hfo.ex
      refine ite2 (fun _ => ?_) fun z => absurd ((kq_all _).trans rfl) z
      refine ⟨_, rfl, _, rfl, _, rfl, b, _, dx2, _, _, rfl, e12, T.cls_Formula, T.na_Formula_parts, rfl, pt2, _, _, _, rfl, rfl, SqT.of e22, atI_nat (j := 0) rfl, e, F :: (Gs.take i).flatMap nb1, [b, c], [.all g, g], rfl, he, .cons ⟨c, hfo, hg⟩ (.cons hg .nil), ?_, by show 2 ≤ 1000; omega, fun e3 H3 he3 k3 => ?_⟩
      · have z := nb1s_len (Gs.take i)
        rw [List.length_take] at z
        rw [List.length_cons]; omega
      · refine ⟨e3, _, rfl, k.trans k3, ?_⟩
        rw [stp]
        exact he3
    | imp f g => 
      refine ite2 (fun z => nomatch (kq_all _).symm.trans z) fun _ => ⟨e, _, rfl, k, ?_⟩
      rw [stp]; simpa [nb1] using he
    | no => 
      refine ite2 (fun z => nomatch (kq_all _).symm.trans z) fun _ => ⟨e, _, rfl, k, ?_⟩
      rw [stp]; simpa [nb1] using he
    | atm y => 
      refine ite2 (fun z => nomatch (kq_all _).symm.trans z) fun _ => ⟨e, _, rfl, k, ?_⟩
      rw [stp]; simpa [nb1] using he
  · rintro σ H2 ⟨e, b3, rfl, k, he⟩
    rw [hlg, List.take_length] at he
    have e2 := k _ _ eL
    refine ⟨e2, _, rfl, q e _ ?_ (k1.trans (kp_unlock (HL := H2) ed k))⟩
    refine (he.unlock (H0 := H2) e2).congr fun G => ?_
    rw [AB.mem_nears, List.mem_cons, List.mem_flatMap]
    constructor
    · rintro (z | ⟨x, hx, z⟩)
      · exact .inl z
      · rw [hGs] at hx
        cases x with
        | all g =>
          simp only [nb1, List.mem_cons, List.not_mem_nil, or_false] at z
          rcases z with rfl | rfl
          · exact .inr (.inl ⟨hx, _, rfl⟩)
          · exact .inr (.inr hx)
        | _ => simp [nb1] at z
    · rintro (z | ⟨z, g, rfl⟩ | z)
      · exact .inl z
      · exact .inr ⟨_, (hGs _).mpr z, by simp [nb1]⟩
      · exact .inr ⟨_, (hGs _).mpr z, by simp [nb1]⟩
end
end AT
end
section
set_option Elab.async false
set_option linter.all false
set_option maxRecDepth 100000
set_option maxHeartbeats 1000000
/-! zip(a, b, strict=True) of a list and a tuple: the object, its turns. -/
namespace AZ
open PySem
open PySem.Sem (wp)
abbrev IsZs (h : Heap) (z TI TO : Addr) (f0 : Value) : Prop :=
  h.get? z = some { cls := .type "zip", dict := none, data := .fields #[f0, .bool false, .bool true, .ref TI, .ref TO], slots := #[] }
section
variable {prog : Program} {w : World} {A : Around} {E : Value → Shared → Prop} {s : Shared}
theorem ne_list_item {it l : Addr} {i : Nat} {items : Array Value} {x : Value} {Q : Option Value → Shared → Prop} (hit : s.heap.IsListIter it l i) (hl : s.heap.IsList l items) (hx : items[i]? = some x)
    (hQ : ∀ h', h'.IsListIter it l (i + 1) → Heap.SameBut it s.heap h' → Q (some x) { s with heap := h' }) : wpAny (model prog w) A (Builtin.SmallTypes.nextOrEnd (.ref it)) Q E s := by
  unfold Builtin.SmallTypes.nextOrEnd
  exact wpAny_bind (wpAny_attempt (wpAny_nextOf_list_item hit hl hx fun h' a b => wpAny_pure (hQ h' a b)))
theorem ne_list_end {it l : Addr} {i : Nat} {items : Array Value} {Q : Option Value → Shared → Prop} (hh : A.handled = none) (hit : s.heap.IsListIter it l i) (hl : s.heap.IsList l items) (hx : items[i]? = none)
    (hQ : ∀ h', Heap.ExtBut it s.heap h' → Q none { s with heap := h' }) : wpAny (model prog w) A (Builtin.SmallTypes.nextOrEnd (.ref it)) Q E s := by
  unfold Builtin.SmallTypes.nextOrEnd
  refine wpAny_bind (wpAny_attempt (wpAny_nextOf_list_end hh hit hl hx fun h' e hk he => ?_))
  obtain ⟨o, ho, hc⟩ := he
  exact wpAny_bind (wpAny_isInstance (T := "StopIteration") (b := true) ⟨o, ho, hc⟩ isSubtype_stop (wpAny_pure (hQ h' hk)))
theorem ne_tup_item {it l : Addr} {i : Nat} {items : Array Value} {x : Value} {Q : Option Value → Shared → Prop} (hit : s.heap.IsTupleIter it l i) (hl : s.heap.IsTuple l items) (hx : items[i]? = some x)
    (hQ : ∀ h', h'.IsTupleIter it l (i + 1) → Heap.SameBut it s.heap h' → Q (some x) { s with heap := h' }) : wpAny (model prog w) A (Builtin.SmallTypes.nextOrEnd (.ref it)) Q E s := by
  unfold Builtin.SmallTypes.nextOrEnd
  exact wpAny_bind (wpAny_attempt (RZ.nextOf_tuple_item hit hl hx fun h' a b => wpAny_pure (hQ h' a b)))
theorem ne_tup_end {it l : Addr} {i : Nat} {items : Array Value} {Q : Option Value → Shared → Prop} (hh : A.handled = none) (hit : s.heap.IsTupleIter it l i) (hl : s.heap.IsTuple l items) (hx : items[i]? = none)
    (hQ : ∀ h', Heap.ExtBut it s.heap h' → Q none { s with heap := h' }) : wpAny (model prog w) A (Builtin.SmallTypes.nextOrEnd (.ref it)) Q E s := by
  unfold Builtin.SmallTypes.nextOrEnd
  refine wpAny_bind (wpAny_attempt (RZ.nextOf_tuple_end hh hit hl hx fun h' e hk he => ?_))
  obtain ⟨o, ho, hc⟩ := he
  exact wpAny_bind (wpAny_isInstance (T := "StopIteration") (b := true) ⟨o, ho, hc⟩ isSubtype_stop (wpAny_pure (hQ h' hk)))
theorem stop_it {α : Type} {Q : α → Shared → Prop} (hh : A.handled = none) (hE : ∀ h' e, (∀ c o, s.heap.get? c = some o → h'.get? c = some o) → (∃ o, h'.get? e = some o ∧ o.cls = .type "StopIteration") → E (.ref e) { s with heap := h' }) :
    wpAny (model prog w) A (Builtin.SmallTypes.stopIteration : Sem α) Q E s := by
  unfold Builtin.SmallTypes.stopIteration
  refine wpAny_bind ?_
  simp only [newExc, newTuple]
  refine wpAny_bind (wpAny_newObj_type ?_ (by size_fits))
  refine wpAny_bind (m := firstArgMember _ _) (wpAny_of_eq (a := Value.none) (by first | rfl | (simp only [firstArgMember]; rfl)) ?_)
  refine wpAny_newObj_type ?_ (by size_fits)
  simp only [raiseNew]
  refine wpAny_bind (wpAny_handled ?_)
  rw [hh]
  refine wpAny_bind (wpAny_pure (wpAny_throw ?_))
  exact hE _ _ (fun c o e => Heap.get?_push_of_some _ (Heap.get?_push_of_some _ e)) ⟨_, Heap.get?_push_size _ rfl, rfl⟩
/-- a turn -/
theorem zs_item {z TI TO i1 i2 l1 l2 : Addr} {k1 k2 : Nat} {xs ys : Array Value} {x y a b : Value} {Q : Value → Shared → Prop} (D : ZipApart z TI TO i1 i2 l1 l2) (hz : IsZs s.heap z TI TO .none) (hTI : IsPair s.heap TI (.ref i1) (.ref i2)) (hTO : IsPair s.heap TO a b)
    (h1 : s.heap.IsListIter i1 l1 k1) (h2 : s.heap.IsTupleIter i2 l2 k2) (hl1 : s.heap.IsList l1 xs) (hl2 : s.heap.IsTuple l2 ys) (hx : xs[k1]? = some x) (hy : ys[k2]? = some y)
    (hQ : ∀ h', IsZs h' z TI TO (rawInt s.heap.objs.size) → IsPair h' TO x y → h'.IsListIter i1 l1 (k1 + 1) → h'.IsTupleIter i2 l2 (k2 + 1) → IsPair h' s.heap.objs.size x y → h'.objs.size = s.heap.objs.size + 1 →
      (∀ c o, c ≠ z → c ≠ TO → c ≠ i1 → c ≠ i2 → s.heap.get? c = some o → h'.get? c = some o) → Q (.ref s.heap.objs.size) { s with heap := h' }) :
    wpAny (model prog w) A (Builtin.«zip.__next__» ⟨[.ref z], []⟩) (fun fin s' => ∃ v, fin = .done (.ret v) ∧ Q v s') E s := by
  show wpAny _ _ (field (.ref z) 2 >>= _) _ _ _
  refine wpAny_bind (wpAny_field hz rfl (x := .bool true) rfl ?_)
  show wpAny _ _ (field (.ref z) 3 >>= _) _ _ _
  refine wpAny_bind (wpAny_field hz rfl (x := .ref TI) rfl ?_)
  refine wpAny_bind (wpAny_seqItems hTI rfl ?_)
  show wpAny _ _ (Builtin.SmallTypes.ownedTupleIsFree (.ref z) >>= _) _ _ _
  refine wpAny_bind ?_
  unfold Builtin.SmallTypes.ownedTupleIsFree
  refine wpAny_bind (wpAny_field hz rfl (x := .none) rfl (wpAny_pure ?_))
  simp only [if_true]
  refine wpAny_bind (wpAny_rule ?_)
  refine wpAny_bind (wpAny_field hz rfl (x := .ref TO) rfl ?_)
  refine wpAny_bind (wpAny_setField_rec hz (by simp) fun h₁ hz₁ hs₁ => ?_)
  replace hz₁ : IsZs h₁ z TI TO .ellipsis := hz₁
  refine wpAny_bind ?_
  simp only [List.zipIdx_cons, List.zipIdx_nil, List.forIn_cons, List.forIn_nil]
  refine wpAny_bind (wpAny_bind (wpAny_onRaise ?_))
  show wpAny _ _ (Builtin.SmallTypes.nextOrEnd (.ref i1)) _ _ _
  refine ne_list_item (h1.extBut hs₁.extBut D.i1z) (hl1.extBut hs₁.extBut D.l1z) hx fun h₂ h1₂ hs₂ => ?_
  have hTO₂ : IsPair h₂ TO a b := hs₂.extBut _ _ D.TOi1 (hs₁.extBut _ _ D.TOz hTO)
  refine wpAny_bind (wpAny_seqItems hTO₂ rfl ?_)
  refine wpAny_bind (wpAny_updateSeq_pair hTO₂ fun h₃ hTO₃ hs₃ => ?_)
  replace hTO₃ : IsPair h₃ TO x b := hTO₃
  refine wpAny_bind (wpAny_letGo (wpAny_pure ?_))
  refine wpAny_bind (wpAny_bind (wpAny_onRaise ?_))
  show wpAny _ _ (Builtin.SmallTypes.nextOrEnd (.ref i2)) _ _ _
  refine ne_tup_item (((h2.extBut hs₁.extBut D.i2z).extBut hs₂.extBut D.i12.symm).extBut hs₃.extBut D.TOi2.symm) (((hl2.extBut hs₁.extBut D.l2z).extBut hs₂.extBut D.l2i1).extBut hs₃.extBut D.l2TO) hy fun h₄ h2₄ hs₄ => ?_
  have hTO₄ : IsPair h₄ TO x b := hs₄.extBut _ _ D.TOi2 hTO₃
  refine wpAny_bind (wpAny_seqItems hTO₄ rfl ?_)
  refine wpAny_bind (wpAny_updateSeq_pair hTO₄ fun h₅ hTO₅ hs₅ => ?_)
  replace hTO₅ : IsPair h₅ TO x y := hTO₅
  refine wpAny_bind (wpAny_letGo (wpAny_pure (wpAny_pure ?_)))
  refine wpAny_bind (wpAny_seqItems hTO₅ rfl ?_)
  refine wpAny_bind (wpAny_newTuple ?_)
  have hsz : h₅.objs.size = s.heap.objs.size := by rw [hs₅.1, hs₄.1, hs₃.1, hs₂.1, hs₁.1]
  have hz₅ : IsZs h₅ z TI TO .ellipsis := hs₅.extBut _ _ D.TOz.symm (hs₄.extBut _ _ D.i2z.symm (hs₃.extBut _ _ D.TOz.symm (hs₂.extBut _ _ D.i1z.symm hz₁)))
  have hk₅ : ∀ c o, c ≠ z → c ≠ TO → c ≠ i1 → c ≠ i2 → s.heap.get? c = some o → h₅.get? c = some o := fun c o c1 c2 c3 c4 e =>
    hs₅.extBut _ _ c2 (hs₄.extBut _ _ c4 (hs₃.extBut _ _ c2 (hs₂.extBut _ _ c3 (hs₁.extBut _ _ c1 e))))
  have h1₅ : h₅.IsListIter i1 l1 (k1 + 1) := ((h1₂.extBut hs₃.extBut D.TOi1.symm).extBut hs₄.extBut D.i12).extBut hs₅.extBut D.TOi1.symm
  have h2₅ : h₅.IsTupleIter i2 l2 (k2 + 1) := h2₄.extBut hs₅.extBut D.TOi2.symm
  have hzlt : z < h₅.objs.size := Heap.lt_size hz₅
  show wpAny _ _ (Builtin.SmallTypes.ownedTupleHandOut (.ref z) (.ref h₅.objs.size) >>= _) _ _ _
  refine wpAny_bind ?_
  unfold Builtin.SmallTypes.ownedTupleHandOut
  have hz₆ : IsZs (h₅.push { cls := .type "tuple", data := .seq #[x, y] }) z TI TO .ellipsis := Heap.get?_push_of_some _ hz₅
  refine wpAny_bind (wpAny_setField_rec hz₆ (by simp) fun h₇ hz₇ hs₇ => ?_)
  replace hz₇ : IsZs h₇ z TI TO (rawInt h₅.objs.size) := hz₇
  refine wpAny_setField_rec hz₇ (by simp) fun h₈ hz₈ hs₈ => ?_
  replace hz₈ : IsZs h₈ z TI TO (rawInt h₅.objs.size) := hz₈
  have up : ∀ c o, c ≠ z → h₅.get? c = some o → h₈.get? c = some o := fun c o c1 e => hs₈.extBut _ _ c1 (hs₇.extBut _ _ c1 (Heap.get?_push_of_some _ e))
  have hT₈ : IsPair h₈ h₅.objs.size x y := hs₈.extBut _ _ (Nat.ne_of_gt hzlt) (hs₇.extBut _ _ (Nat.ne_of_gt hzlt) (Heap.get?_push_size _ rfl))
  have hz8 : h₈.objs.size = h₅.objs.size + 1 := by rw [hs₈.1, hs₇.1, Heap.size_push]
  rw [hsz] at hz₈ hT₈ hz8
  refine wpAny_pure ⟨_, rfl, ?_⟩
  show Q (.ref h₅.objs.size) _
  rw [hsz]
  exact hQ h₈ hz₈ (up _ _ D.TOz hTO₅) (h1₅.at fun o e => up _ o D.i1z e) (h2₅.at fun o e => up _ o D.i2z e) hT₈ hz8 fun c o c1 c2 c3 c4 e => up c o c1 (hk₅ c o c1 c2 c3 c4 e)
/-- the end: both have come to theirs -/
theorem zs_end {z TI TO i1 i2 l1 l2 : Addr} {k1 k2 : Nat} {xs ys : Array Value} {a b : Value} {Q : Fin → Shared → Prop} (hh : A.handled = none) (D : ZipApart z TI TO i1 i2 l1 l2)
    (hz : IsZs s.heap z TI TO .none) (hTI : IsPair s.heap TI (.ref i1) (.ref i2)) (hTO : IsPair s.heap TO a b)
    (h1 : s.heap.IsListIter i1 l1 k1) (h2 : s.heap.IsTupleIter i2 l2 k2) (hl1 : s.heap.IsList l1 xs) (hl2 : s.heap.IsTuple l2 ys) (hx : xs[k1]? = none) (hy : ys[k2]? = none)
    (hE : ∀ h' e, (∀ c o, c ≠ z → c ≠ TO → c ≠ i1 → c ≠ i2 → s.heap.get? c = some o → h'.get? c = some o) → (∃ o, h'.get? e = some o ∧ o.cls = .type "StopIteration") → E (.ref e) { s with heap := h' }) :
    wpAny (model prog w) A (Builtin.«zip.__next__» ⟨[.ref z], []⟩) Q E s := by
  show wpAny _ _ (field (.ref z) 2 >>= _) _ _ _
  refine wpAny_bind (wpAny_field hz rfl (x := .bool true) rfl ?_)
  show wpAny _ _ (field (.ref z) 3 >>= _) _ _ _
  refine wpAny_bind (wpAny_field hz rfl (x := .ref TI) rfl ?_)
  refine wpAny_bind (wpAny_seqItems hTI rfl ?_)
  show wpAny _ _ (Builtin.SmallTypes.ownedTupleIsFree (.ref z) >>= _) _ _ _
  refine wpAny_bind ?_
  unfold Builtin.SmallTypes.ownedTupleIsFree
  refine wpAny_bind (wpAny_field hz rfl (x := .none) rfl (wpAny_pure ?_))
  simp only [if_true]
  refine wpAny_bind (wpAny_rule ?_)
  refine wpAny_bind (wpAny_field hz rfl (x := .ref TO) rfl ?_)
  refine wpAny_bind (wpAny_setField_rec hz (by simp) fun h₁ hz₁ hs₁ => ?_)
  replace hz₁ : IsZs h₁ z TI TO .ellipsis := hz₁
  refine wpAny_bind ?_
  simp only [List.zipIdx_cons, List.zipIdx_nil, List.forIn_cons, List.forIn_nil]
  refine wpAny_bind (wpAny_bind (wpAny_onRaise ?_))
  show wpAny _ _ (Builtin.SmallTypes.nextOrEnd (.ref i1)) _ _ _
  refine ne_list_end hh (h1.extBut hs₁.extBut D.i1z) (hl1.extBut hs₁.extBut D.l1z) hx fun h₂ hs₂ => ?_
  have hz₂ : IsZs h₂ z TI TO .ellipsis := hs₂ _ _ D.i1z.symm hz₁
  refine wpAny_bind (wpAny_setField_rec hz₂ (by simp) fun h₃ hz₃ hs₃ => ?_)
  refine wpAny_bind ?_
  show wpAny _ _ (forIn [(Value.ref i2, 1)] PUnit.unit _ >>= _) _ _ _
  simp only [List.forIn_cons, List.forIn_nil]
  refine wpAny_bind (wpAny_bind (wpAny_bind (ne_tup_end hh (((h2.extBut hs₁.extBut D.i2z).at fun o e => hs₂ _ _ D.i12.symm e).extBut hs₃.extBut D.i2z) (((hl2.extBut hs₁.extBut D.l2z).at fun o e => hs₂ _ _ D.l2i1 e).extBut hs₃.extBut D.l2z) hy fun h₄ hs₄ => ?_)))
  rw [if_neg (by simp)]
  refine wpAny_pure ?_
  refine wpAny_pure ?_
  refine wpAny_bind (wpAny_rule (stop_it hh fun h₅ e hk he => ?_))
  exact hE h₅ e (fun c o c1 c2 c3 c4 x => hk _ _ (hs₄ _ _ c4 (hs₃.extBut _ _ c1 (hs₂ _ _ c3 (hs₁.extBut _ _ c1 x))))) he
theorem pyNext_zs_item {z TI TO i1 i2 l1 l2 : Addr} {k1 k2 : Nat} {xs ys : Array Value} {x y a b : Value} {Q : Option Value → Shared → Prop} (D : ZipApart z TI TO i1 i2 l1 l2) (hz : IsZs s.heap z TI TO .none) (hTI : IsPair s.heap TI (.ref i1) (.ref i2)) (hTO : IsPair s.heap TO a b)
    (h1 : s.heap.IsListIter i1 l1 k1) (h2 : s.heap.IsTupleIter i2 l2 k2) (hl1 : s.heap.IsList l1 xs) (hl2 : s.heap.IsTuple l2 ys) (hx : xs[k1]? = some x) (hy : ys[k2]? = some y)
    (hQ : ∀ h', IsZs h' z TI TO (rawInt s.heap.objs.size) → IsPair h' TO x y → h'.IsListIter i1 l1 (k1 + 1) → h'.IsTupleIter i2 l2 (k2 + 1) → IsPair h' s.heap.objs.size x y → h'.objs.size = s.heap.objs.size + 1 →
      (∀ c o, c ≠ z → c ≠ TO → c ≠ i1 → c ≠ i2 → s.heap.get? c = some o → h'.get? c = some o) → Q (some (.ref s.heap.objs.size)) { s with heap := h' }) : wpAny (model prog w) A (pyNext (.ref z)) Q E s := by
  have hT : s.TypeIs (.ref z) "zip" := ⟨_, hz, rfl⟩
  unfold pyNext
  exact wpAny_bind (wpAny_attempt (wpAny_callSpecial?_slot (name := Str.ofString "__next__") hT F.slot_zip_next
    (wpAny_call_entry F.slot_zip_next hT F.entry_zip_next (zs_item D hz hTI hTO h1 h2 hl1 hl2 hx hy fun h' a1 a2 a3 a4 a5 a6 a7 => wpAny_pure (hQ h' a1 a2 a3 a4 a5 a6 a7)) (F.args_zip_next_1 _))))
theorem pyNext_zs_end {z TI TO i1 i2 l1 l2 : Addr} {k1 k2 : Nat} {xs ys : Array Value} {a b : Value} {Q : Option Value → Shared → Prop} (hh : A.handled = none) (D : ZipApart z TI TO i1 i2 l1 l2) (hz : IsZs s.heap z TI TO .none) (hTI : IsPair s.heap TI (.ref i1) (.ref i2)) (hTO : IsPair s.heap TO a b)
    (h1 : s.heap.IsListIter i1 l1 k1) (h2 : s.heap.IsTupleIter i2 l2 k2) (hl1 : s.heap.IsList l1 xs) (hl2 : s.heap.IsTuple l2 ys) (hx : xs[k1]? = none) (hy : ys[k2]? = none)
    (hQ : ∀ h', (∀ c o, c ≠ z → c ≠ TO → c ≠ i1 → c ≠ i2 → s.heap.get? c = some o → h'.get? c = some o) → Q none { s with heap := h' }) : wpAny (model prog w) A (pyNext (.ref z)) Q E s := by
  have hT : s.TypeIs (.ref z) "zip" := ⟨_, hz, rfl⟩
  unfold pyNext
  refine wpAny_bind (wpAny_attempt (wpAny_callSpecial?_slot (name := Str.ofString "__next__") hT F.slot_zip_next
    (wpAny_call_entry F.slot_zip_next hT F.entry_zip_next (zs_end hh D hz hTI hTO h1 h2 hl1 hl2 hx hy fun h' e hk he => ?_) (F.args_zip_next_1 _))))
  obtain ⟨o, ho, hc⟩ := he
  exact wpAny_bind (wpAny_isInstance (T := "StopIteration") (b := true) ⟨o, ho, hc⟩ isSubtype_stop (wpAny_pure (hQ _ hk)))
theorem go_zs {elts : List Expr} {x1} {pos : Pos} {z TI TO T : Addr} {Q : Unit → Shared → Prop} (hz : IsZs s.heap z TI TO (rawInt T)) (hQ : ∀ h', IsZs h' z TI TO .none → Heap.SameBut z s.heap h' → Q () { s with heap := h' }) : wpAny (model prog w) A (letOwnedTupleGo (.Tuple elts x1 pos) (.ref z) (.ref T)) Q E s := by
  unfold letOwnedTupleGo
  refine wpAny_bind (wpAny_load hz ?_)
  show wpAny _ _ (if (["enumerate", "zip", "dict_itemiterator", "dict_reverseitemiterator", "odict_iterator", "itertools.zip_longest", "itertools.pairwise"].contains "zip" &&
      (#[rawInt T, .bool false, .bool true, .ref TI, .ref TO] : Array Value)[0]? == some (rawInt T)) = true then _ else _) Q E s
  rw [if_pos (by simp)]
  refine wpAny_bind (wpAny_rule ?_)
  show wpAny _ _ (setField (.ref z) 0 .none) Q E s
  exact wpAny_setField_rec hz (by simp) fun h' hz' hs' => hQ h' hz' hs'
theorem iter_zs {z TI TO : Addr} {f0 : Value} {Q : Value → Shared → Prop} (hz : IsZs s.heap z TI TO f0) (h : Q (.ref z) s) : wpAny (model prog w) A (pyIter (.ref z)) Q E s := by
  have hT : s.TypeIs (.ref z) "zip" := ⟨_, hz, rfl⟩
  refine wpAny_pyIter_slot hT F.slot_zip_iter (wpAny_call_entry F.slot_zip_iter hT F.entry_zip_iter ?_ (F.args_zip_iter_1 _))
  show wpAny _ _ (ret (.ref z)) _ _ s
  exact wpAny_pure ⟨_, rfl, "zip", _, hT, F.slot_zip_next.lookup, h⟩
end
/-! ### making it -/
abbrev zs1 (h : Heap) (l1 : Addr) : Heap := h.push { cls := .type "list_iterator", data := .fields #[.ref l1, .int 0 0] }
abbrev zs2 (h : Heap) (l1 l2 : Addr) : Heap := (zs1 h l1).push { cls := .type "tuple_iterator", data := .fields #[.ref l2, .int 0 0] }
abbrev zs3 (h : Heap) (l1 l2 : Addr) : Heap := (zs2 h l1 l2).push { cls := .type "tuple", data := .seq #[.ref h.objs.size, .ref (zs1 h l1).objs.size] }
abbrev zs4 (h : Heap) (l1 l2 : Addr) : Heap := (zs3 h l1 l2).push { cls := .type "tuple", data := .seq #[.none, .none] }
abbrev zs5 (h : Heap) (l1 l2 : Addr) : Heap := (zs4 h l1 l2).push { cls := .type "zip", data := .fields #[.none, .bool false, .bool true, .ref (zs2 h l1 l2).objs.size, .ref (zs3 h l1 l2).objs.size] }
theorem meets_zs (l1 l2 : Addr) (xs ys : Array Value) :
    Meets (Builtin.«zip.__new__» ⟨[.type "zip", .ref l1, .ref l2], [("strict", .bool true)]⟩) (fun _ R s => s.heap.IsList l1 xs ∧ s.heap.IsTuple l2 ys ∧
      R (.ok (.ret (.ref (zs4 s.heap l1 l2).objs.size))) { s with heap := zs5 s.heap l1 l2 }) :=
  .of_wp fun prog w A R s h => by
    obtain ⟨hp, g, d, tk, os⟩ := s; obtain ⟨hl1, hl2, h⟩ := h
    have hsub := sub_zip
    have hL1 : Heap.IsList (Shared.heap ⟨hp, g, d, tk, os⟩) l1 xs := hl1
    have hL2 : Heap.IsTuple (Shared.heap ⟨hp.push { cls := .type "list_iterator", data := .fields #[.ref l1, .int 0 0] }, g, d, tk, os⟩) l2 ys := Heap.IsTuple.push hl2 _
    wp_walk using wpAny_pyIter_list hL1, wpAny_pyIter_tuple hL2
    exact ⟨_, rfl, h⟩
end AZ
end
section
set_option Elab.async false
set_option linter.all false
set_option maxRecDepth 100000
set_option maxHeartbeats 1000000
/-! zip(a, b, strict=True): the call, the walk. -/
namespace AZ
open PySem
open PySem.Sem (wp)
theorem tyCall_zs (a b : Value) : checkTypeCall "zip" ⟨[a, b], [("strict", .bool true)]⟩ = pure () := by kernel_rfl
theorem newCall_zs (a b : Value) : checkBuiltinCall "zip.__new__" ⟨[.type "zip", a, b], [("strict", .bool true)]⟩ = pure () := by kernel_rfl
theorem initArgs_zs (a b c : Value) : argsOk "object.__init__" ⟨[a, b, c], [("strict", .bool true)]⟩ := by
  unfold argsOk; rw [signature?_of (id := "object.__init__") (n := ['_', '_', 't', 'i', 'n', 'i', '_', '_']) (o := ['t', 'c', 'e', 'j', 'b', 'o']) (by kernel_rfl) F.owner_object]; kernel_rfl
section
variable {prog : Program} {w : World} {A : Around} {E : Value → Shared → Prop} {s : Shared}
theorem init_zs {self a b : Value} : Meets (Builtin.«object.__init__» ⟨[self, a, b], [("strict", .bool true)]⟩) (fun _ R s => s.TypeIs self "zip" ∧ R (.ok (.ret .none)) s) := by
  have hl := F.called_zip.init.lookup
  have hm := F.called_zip.made
  have hne : (some "zip.__new__" != some "object.__new__") = true := by decide
  refine Meets.of_wp fun prog w A R s hs => ?_
  obtain ⟨hT, hq⟩ := hs
  repeat (any_goals (first | assumption | wp_step))
  exact ⟨_, rfl, hq⟩
theorem call_zs {l1 l2 : Addr} {xs ys : Array Value} {Q : Value → Shared → Prop} (hl1 : s.heap.IsList l1 xs) (hl2 : s.heap.IsTuple l2 ys)
    (h : ∀ h', IsZs h' (s.heap.objs.size + 4) (s.heap.objs.size + 2) (s.heap.objs.size + 3) .none → IsPair h' (s.heap.objs.size + 2) (.ref s.heap.objs.size) (.ref (s.heap.objs.size + 1)) →
      IsPair h' (s.heap.objs.size + 3) .none .none → h'.IsListIter s.heap.objs.size l1 0 → h'.IsTupleIter (s.heap.objs.size + 1) l2 0 → h'.objs.size = s.heap.objs.size + 5 →
      (∀ c o, s.heap.get? c = some o → h'.get? c = some o) → Q (.ref (s.heap.objs.size + 4)) { s with heap := h' }) :
    wpAny (model prog w) A (call (.type "zip") [.ref l1, .ref l2] [("strict", .bool true)]) Q E s := by
  have z1 : (zs1 s.heap l1).objs.size = s.heap.objs.size + 1 := Heap.size_push ..
  have z2 : (zs2 s.heap l1 l2).objs.size = s.heap.objs.size + 2 := by rw [Heap.size_push, z1]
  have z3 : (zs3 s.heap l1 l2).objs.size = s.heap.objs.size + 3 := by rw [Heap.size_push, z2]
  have z4 : (zs4 s.heap l1 l2).objs.size = s.heap.objs.size + 4 := by rw [Heap.size_push, z3]
  have z5 : (zs5 s.heap l1 l2).objs.size = s.heap.objs.size + 5 := by rw [Heap.size_push, z4]
  have g5 : (zs5 s.heap l1 l2).get? (zs4 s.heap l1 l2).objs.size = some _ := Heap.get?_push_size _ rfl
  have g4 : (zs5 s.heap l1 l2).get? (zs3 s.heap l1 l2).objs.size = some _ := Heap.get?_push_of_some _ (Heap.get?_push_size _ rfl)
  have g3 : (zs5 s.heap l1 l2).get? (zs2 s.heap l1 l2).objs.size = some _ := Heap.get?_push_of_some _ (Heap.get?_push_of_some _ (Heap.get?_push_size _ rfl))
  have g2 : (zs5 s.heap l1 l2).get? (zs1 s.heap l1).objs.size = some _ := Heap.get?_push_of_some _ (Heap.get?_push_of_some _ (Heap.get?_push_of_some _ (Heap.get?_push_size _ rfl)))
  have g1 : (zs5 s.heap l1 l2).get? s.heap.objs.size = some _ := Heap.get?_push_of_some _ (Heap.get?_push_of_some _ (Heap.get?_push_of_some _ (Heap.get?_push_of_some _ (Heap.get?_push_size _ rfl))))
  rw [z2, z3, z4] at g5
  rw [z1, z2] at g3
  rw [z3] at g4
  rw [z1] at g2
  have fin : Shared.TypeIs { s with heap := zs5 s.heap l1 l2 } (.ref (s.heap.objs.size + 4)) "zip" ∧ Q (.ref (s.heap.objs.size + 4)) { s with heap := zs5 s.heap l1 l2 } := by
    refine ⟨⟨_, g5, rfl⟩, h _ g5 g3 g4 ⟨_, g1, rfl, rfl⟩ ⟨_, g2, rfl, rfl⟩ z5 fun c o e => ?_⟩
    exact Heap.get?_push_of_some _ (Heap.get?_push_of_some _ (Heap.get?_push_of_some _ (Heap.get?_push_of_some _ (Heap.get?_push_of_some _ e))))
  have ft := F.called_zip
  obtain ⟨c, tl, hmro⟩ := ft.mro
  have hmade := ft.made
  have hsub := ft.sub
  have hct := tyCall_zs (.ref l1) (.ref l2)
  refine wpAny_call (codeAny_of_tree ?_)
  show wpAny _ _ (callAny (.type "zip") _) _ _ _
  refine wpAny_pure ⟨Code.quiet_builtin _ (by decide +kernel), codeAny_builtin F.entry_type_call ?_⟩
  rw [Around.under_plain (weight_type_call_type "zip" [.ref l1, .ref l2] [("strict", .bool true)]) (units_type_call_type "zip" [.ref l1, .ref l2] [("strict", .bool true)])]
  have h1 := ft.notType
  have h2 := ft.canCreate
  repeat (any_goals (first | assumption | wp_step))
  refine codeAny_mono (codeAny_call_builtin ft.plain F.entry_zip_new (wpAny_of_eq (newCall_zs (.ref l1) (.ref l2)) (meets_zs l1 l2 xs ys prog w A.in1 (wants (fun obj s₁ => s₁.TypeIs obj "zip" ∧ Q obj s₁) E) s ⟨hl1, hl2, ?_⟩))) fun r s₁ hr => ?_
  · show _ ∧ _
    rw [z4]
    exact fin
  cases r with
  | error e => exact hr
  | ok fl =>
    cases fl with
    | ret obj =>
      obtain ⟨hT, hq1⟩ := hr
      have hli := ft.init.lookup
      have hbi := ft.init.bind obj
      repeat (any_goals (first | assumption | wp_step))
      refine codeAny_mono (codeAny_call_builtin ft.init.plain F.entry_object_init (ft.init.check _ _ _ _ _ _ _ _ hT (initArgs_zs obj _ _) (init_zs prog w A.in1 (wants (fun r s₂ => r = .none ∧ Q obj s₂) E) s₁ ⟨hT, rfl, hq1⟩))) fun r₂ s₂ hr₂ => ?_
      cases r₂ with
      | error e => exact hr₂
      | ok fl₂ =>
        cases fl₂ with
        | ret r =>
          obtain ⟨rfl, hq⟩ := hr₂
          repeat (any_goals (first | assumption | wp_step))
        | _ => exact hr₂.elim
    | _ => exact hr.elim
end
end AZ
end
section
set_option Elab.async false
set_option linter.all false
set_option maxRecDepth 100000
/-! zip(a, b, strict=True) as what a comprehension walks. -/
namespace AZ
open PySem PySem.Spec PyProof.Rows L2
section
variable {M : Model} {A : Around} {E : Value → Shared → Prop} {s : Shared} {env : Env}
theorem callWith_tyK {pos : Pos} {T : String} {e : Expr} {rest : List Expr} {kws : List Keyword} {Q : Value → Shared → Prop}
    (h : wpAny M A (spliced (backTo pos (starEach (e :: rest) env))) (fun vs s₁ => wpAny M A (evalAll ((backToKw pos (keywordEach kws env)).map (·.2)))
      (fun kvs s₂ => wpAny M A (call (.type T) vs (((backToKw pos (keywordEach kws env)).filterMap (·.1)).zip kvs)) Q E s₂) E s₁) E s)
    (he : backTo pos (starEach (e :: rest) env) = (false, eval e env) :: backTo pos (starEach rest env)) (hplain : (backTo pos (starEach (e :: rest) env)).any (·.1) = false)
    (hall : (backToKw pos (keywordEach kws env)).all (·.1.isSome) = true) (hkw : (backToKw pos (keywordEach kws env)).any (·.1.isNone) = false) :
    wpAny M A (callWith pos (.type T) [] (backTo pos (starEach (e :: rest) env)) (backToKw pos (keywordEach kws env))) Q E s := by
  unfold callWith
  rw [he] at h
  have h' := evalArgs_kwB (f := .type T) (rest := backTo pos (starEach rest env)) (keywords := backToKw pos (keywordEach kws env)) (Q := fun a s₁ => wpAny M A (call (.type T) ([] ++ a.pos) a.kw) Q E s₁) hall h
  rw [← he] at h'
  refine wpAny_bind (wpAny_holding (wpAny_mono h' (fun a s₁ h₁ => wpAny_bind (wpAny_standAt ?_)) fun _ _ x => x))
  simp only [hplain, hkw, Bool.or_false]
  refine wpAny_bind (wpAny_pure ?_)
  exact wpAny_bind (wpAny_mono h₁ (fun r s₂ hr => wpAny_bind (wpAny_holding (wpAny_point (wpAny_pure hr)))) fun _ _ x => x)
end
/-- the list at a, the tuple at b, the items in new pairs -/
def Its2 (K : PySem.W.Frag) (a b : Addr) (xs ys : List V) : It :=
  ⟨fun i H => ∃ x y, SqL K H a xs ∧ SqT K H b ys ∧ xs[i]? = some x ∧ ys[i]? = some y,
    fun i H v H' => ∃ T x y, v = .ref T ∧ H T = none ∧ H' = upd H T (.tup [x, y]) ∧ xs[i]? = some x ∧ ys[i]? = some y,
    fun i H => SqL K H a xs ∧ SqT K H b ys ∧ xs.length ≤ i ∧ ys.length ≤ i⟩
theorem turn_zs {P : Program} {w : World} {K : PySem.W.Frag} {elts : List Expr} {kk : Nat} {tpos : Pos} {a b z TI TO i1 i2 : Addr} {xs ys : List V} (D : ZipApart z TI TO i1 i2 a b) :
    Turn P w K (.Tuple elts kk tpos) (Its2 K a b xs ys) [z, TI, TO, i1, i2] z (fun i h => IsZs h z TI TO .none ∧ IsPair h TI (.ref i1) (.ref i2) ∧ (∃ x y, IsPair h TO x y) ∧ h.IsListIter i1 a i ∧ h.IsTupleIter i2 b i) where
  mem := by simp
  obj := fun i h st c hc => by
    obtain ⟨hz, hTI, ⟨x, y, hTO⟩, ⟨o1, e1, _, d1⟩, ⟨o2, e2, _, d2⟩⟩ := st
    have e' : c = z ∨ c = TI ∨ c = TO ∨ c = i1 ∨ c = i2 := by simpa using hc
    rcases e' with q | q | q | q | q
    · rw [q]; exact ⟨_, hz, fun v q => nomatch q⟩
    · rw [q]; exact ⟨_, hTI, fun v q => nomatch q⟩
    · rw [q]; exact ⟨_, hTO, fun v q => nomatch q⟩
    · rw [q]; exact ⟨o1, e1, fun v q => by rw [d1] at q; cases q⟩
    · rw [q]; exact ⟨o2, e2, fun v q => by rw [d2] at q; cases q⟩
  keep := fun i h h' st k => by
    obtain ⟨hz, hTI, ⟨x, y, hTO⟩, h1, h2⟩ := st
    exact ⟨k z (by simp) _ hz, k TI (by simp) _ hTI, ⟨x, y, k TO (by simp) _ hTO⟩, h1.at fun o q => k i1 (by simp) o q, h2.at fun o q => k i2 (by simp) o q⟩
  item := by
    intro X hP hw hK hc i pins s σ H E I hf st hg
    subst hP hw hK
    obtain ⟨hz, hTI, ⟨x0, y0, hTO⟩, h1, h2⟩ := st
    obtain ⟨x, y, hqx, hqy, hx, hy⟩ := hg
    obtain ⟨its, rv, p, _⟩ := I.list hqx
    obtain ⟨its2, rv2, p2, _⟩ := I.tuple hqy
    obtain ⟨u, hu, ru⟩ := rv.get hx
    obtain ⟨u2, hu2, ru2⟩ := rv2.get hy
    have hzl : z < s.heap.objs.size := Heap.lt_size hz
    refine pyNext_zs_item D hz hTI hTO h1 h2 p.isList p2 (x := u) (y := u2) (by simpa using hu) (by simpa using hu2) fun h' z' TO' h1' h2' hT hsz hk => ?_
    refine ⟨_, rfl, go_zs (s := { s with heap := h' }) z' fun h'' z'' sb => ?_⟩
    have hT2 : h''.get? s.heap.objs.size = some { cls := .type "tuple", data := .seq #[u, u2] } := (sb.2 _ (Nat.ne_of_gt hzl)).trans hT
    have new : ObjOk X.prog X.w (upd H s.heap.objs.size (.tup [x, y])) h'' s.heap.objs.size (.tup [x, y]) :=
      ⟨by show 2 ≤ sizeLine; decide, [u, u2], .cons ru (.cons ru2 .nil), ⟨_, hT2, rfl, _, rfl⟩⟩
    have I1 : Inv X pins σ (upd H s.heap.objs.size (.tup [x, y])) { s with heap := h'' } :=
      I.turnedNew (t' := s.toks) (ch := [z, TI, TO, i1, i2]) (fun c o hb q => (sb.2 c (fun q' => hb (by simp [q']))).trans (hk c o (fun q' => hb (by simp [q'])) (fun q' => hb (by simp [q'])) (fun q' => hb (by simp [q'])) (fun q' => hb (by simp [q'])) q)) hf (Nat.le_refl _) new
    refine ⟨.ref s.heap.objs.size, _, I1, rfl, ⟨_, x, y, rfl, I.hok.fresh (Nat.le_refl _), rfl, hx, hy⟩, ⟨z'', ?_, ⟨u, u2, ?_⟩, ?_, ?_⟩, fun c hcm => ?_⟩
    · exact (sb.2 _ D.TIz).trans (hk _ _ D.TIz D.TITO D.TIi1 D.TIi2 hTI)
    · exact (sb.2 _ D.TOz).trans TO'
    · exact h1'.at fun o q => (sb.2 _ D.i1z).trans q
    · exact h2'.at fun o q => (sb.2 _ D.i2z).trans q
    · have hlt : c < s.heap.objs.size := by
        have e' : c = z ∨ c = TI ∨ c = TO ∨ c = i1 ∨ c = i2 := by simpa using hcm
        rcases e' with q | q | q | q | q
        · rw [q]; exact hzl
        · rw [q]; exact Heap.lt_size hTI
        · rw [q]; exact Heap.lt_size hTO
        · rw [q]; obtain ⟨_, e1, _⟩ := h1; exact Heap.lt_size e1
        · rw [q]; obtain ⟨_, e2, _⟩ := h2; exact Heap.lt_size e2
      rw [upd_ne (Nat.ne_of_lt hlt)]
      exact (hf c hcm).1
  done := by
    intro X hP hw hK hc i pins s σ H E I hf st hg
    subst hP hw hK
    obtain ⟨hz, hTI, ⟨x0, y0, hTO⟩, h1, h2⟩ := st
    obtain ⟨hqx, hqy, hex, hey⟩ := hg
    obtain ⟨its, rv, p, _⟩ := I.list hqx
    obtain ⟨its2, rv2, p2, _⟩ := I.tuple hqy
    have l1 := rv.length
    have l2 := rv2.length
    exact pyNext_zs_end (I.ok.hd hc) D hz hTI hTO h1 h2 p.isList p2 (by simp; omega) (by simp; omega) fun h' hk => ⟨rfl, I.turnedL (t' := s.toks) (ch := [z, TI, TO, i1, i2]) (fun c o hb q =>
      hk c o (fun q' => hb (by simp [q'])) (fun q' => hb (by simp [q'])) (fun q' => hb (by simp [q'])) (fun q' => hb (by simp [q'])) q) hf⟩
  self := fun A i s Q E st h => iter_zs st.1 h
def iZs (K : PySem.W.Frag) (ta : TA) : TI := fun σ H R => ta σ H fun vs H1 => ∃ a b xs ys, vs = [.ref a, .ref b] ∧ SqL K H1 a xs ∧ SqT K H1 b ys ∧ R (Its2 K a b xs ys) H1
theorem walk_zs {K : PySem.W.Frag} {a b : Addr} {xs ys : List V} (hl : xs.length = ys.length) : Walk (Its2 K a b xs ys) xs.length (fun H => SqL K H a xs ∧ SqT K H b ys) (YPair (fun i => xs[i]?) (fun i => ys[i]?)) where
  goes := fun i H hi h => ⟨xs[i], ys[i]'(hl ▸ hi), h.1, h.2, List.getElem?_eq_getElem hi, List.getElem?_eq_getElem (hl ▸ hi)⟩
  stops := fun H h => ⟨h.1, h.2, Nat.le_refl _, Nat.le_of_eq hl.symm⟩
  yields := fun i H x H' _ _ y => let ⟨T, x, y, e1, e2, e3, e4, e5⟩ := y; ⟨T, x, y, e1, e2, e3, e4, e5⟩
theorem pi_zs {X : Cx} {e e2 : Expr} {ta : TA} {p pos tpos cp kp : Pos} {elts : List Expr} {kk n : Nat} (hg : Gl X "zip") (hm : X.mg "zip" = none) (ha : PA X [e, e2] ta)
    (he : backTo pos (starEach [e, e2] X.env) = (false, eval e X.env) :: backTo pos (starEach [e2] X.env) := by rfl) (hpl : (backTo pos (starEach [e, e2] X.env)).any (·.1) = false := by rfl) :
    PI X (.Tuple elts kk tpos) (.Call (.Name "zip" p) [e, e2] [⟨some "strict", .Constant (.bool true) n cp, kp⟩] pos) (iZs X.K ta) := by
  refine ⟨fun pins s σ H R I h => ?_⟩
  refine wpAny_Call_Name_kw (ld_blt I hg hm PyProof.Rows.boot_zip (callWith_tyK (thn (ha.run pos pins s σ H _ I h) fun us s1 ⟨vs, H1, I1, r1, q1⟩ => ?_) he hpl rfl rfl))
  have hk : PK X [⟨some "strict", .Constant (.bool true) n cp, kp⟩] (tCons (tC (.bl true)) tNil) := pk_cons pe_bl pk_nil
  refine thn (hk.run pos pins s1 σ H1 (fun zs H2 => zs = [.bl true] ∧ H2 = H1) I1 ⟨rfl, rfl⟩) fun ws s2 ⟨zs, H2, I2, r2, ez, eH⟩ => ?_
  subst ez eH
  obtain ⟨a, b, xs, ys, ex, hqx, hqy, q⟩ := q1
  subst ex
  obtain rfl : ws = [.bool true] := by
    cases r2 with
    | cons x y => cases y; cases x; rfl
  cases r1 with
  | cons r rr =>
    cases rr with
    | cons r' rr =>
      cases rr
      cases r
      cases r'
      have fresh5 : ∀ c, c ∈ [s2.heap.objs.size + 4, s2.heap.objs.size + 2, s2.heap.objs.size + 3, s2.heap.objs.size, s2.heap.objs.size + 1] → FpOk X pins H2 c := fun c hcm => by
        have e' : c = s2.heap.objs.size + 4 ∨ c = s2.heap.objs.size + 2 ∨ c = s2.heap.objs.size + 3 ∨ c = s2.heap.objs.size ∨ c = s2.heap.objs.size + 1 := by simpa using hcm
        have hle : s2.heap.objs.size ≤ c := by
          rcases e' with z | z | z | z | z
          · rw [z]; exact Nat.le_add_right _ _
          · rw [z]; exact Nat.le_add_right _ _
          · rw [z]; exact Nat.le_add_right _ _
          · rw [z]; exact Nat.le_refl _
          · rw [z]; exact Nat.le_add_right _ _
        exact I2.fpOk hle (I2.hok.fresh hle)
      obtain ⟨its, rv, p1, _⟩ := I2.list hqx
      obtain ⟨its2, rv2, p2, _⟩ := I2.tuple hqy
      obtain ⟨o2, ho2, _⟩ := id p2
      refine call_zs p1.isList (show s2.heap.IsTuple b its2.toArray from p2) fun h' hz hTI hTO h1 h2 hsz hk => iter_zs hz ?_
      have I3 : Inv X pins σ H2 { s2 with heap := h' } := I2.kept (t' := s2.toks) hk
      exact ⟨s2.heap.objs.size + 4, [s2.heap.objs.size + 4, s2.heap.objs.size + 2, s2.heap.objs.size + 3, s2.heap.objs.size, s2.heap.objs.size + 1], _, _, H2, rfl, I3, turn_zs (PySem.W.ktu_apart s2.heap.objs.size a b p1.lt (Heap.lt_size ho2)), ⟨hz, hTI, ⟨_, _, hTO⟩, h1, h2⟩, fresh5, q⟩
end AZ
end
section
set_option Elab.async false
set_option linter.all false
set_option maxRecDepth 100000
/-! t == (); d.get(x) of a written dict; is_way. -/
namespace AT
open PySem PySem.Spec PyProof.Rows L2
open AB (Fm At Drv)
section
variable {X : Cx}
/-- a tuple against an empty tuple -/
theorem op_eqNilT (hu : X.A.units < cLine) : OpR X (compareOp .Eq) (fun x y H Q => ∃ p q xs, x = .ref p ∧ y = .ref q ∧ SqT X.K H p xs ∧ SqT X.K H q [] ∧ Q (.bl xs.isEmpty) H) := by
  rintro pins s σ H x y v u Q I rx ry ⟨p, q, xs, rfl, rfl, hp, hq, k⟩
  cases rx
  cases ry
  obtain ⟨its, r, pl, hz⟩ := I.tuple hp
  obtain ⟨its2, r2, pl2, hz2⟩ := I.tuple hq
  cases r2
  have z := SeqAt.RcAt.tuples (A := X.A) (e := fun _ => true) (show s.heap.IsTuple p its.toArray from pl) (show s.heap.IsTuple q #[] from pl2) hu fun j h1 h2 => absurd h2 (Nat.not_lt_zero j)
  have e : ((List.range (min its.toArray.size (#[] : Array Value).size)).all (fun _ => true) && its.toArray.size == (#[] : Array Value).size) = xs.isEmpty := by
    cases r <;> simp
  rw [e] at z
  exact z _ _ _ _ ⟨.bl xs.isEmpty, H, I, rfl, k⟩
/-- d.get(x), d a dict that the head has written, x in it -/
def tKGet (K : PySem.W.Frag) (d : Addr) (td ty : TE) : TE := fun σ H Q => td σ H fun x H1 => x = .ref d ∧ ty σ H1 fun y H2 => ∃ (z : Str) (u0 : Value) (v0 : V), y = .str z ∧ PySem.W.nsIn K d z = some (some u0) ∧ RelV v0 u0 ∧ Q v0 H2
theorem pe_kget {o e : Expr} {apos cpos : Pos} {td ty : TE} {d : Addr} {es : Array DictEntry} {n : Nat} (D : KDict X.K X.w d es n) (ho : PE X o td) (he : PE X e ty) (m : M1 X o "get" apos e cpos) : PE X (.Call (.Attribute o "get" apos) [e] [] cpos) (tKGet X.K d td ty) := by
  refine ⟨fun pins s σ H Q I h => ?_⟩
  refine wpAny_Call_method m.base m.few m.line PySem.F.plainAttrs_dict PySem.F.slot_dict_get PySem.F.type_dict_get (thn (ho.run pins s σ H _ I h) fun u s1 ⟨x, H1, I1, rx, ex, q1⟩ => ?_)
  subst ex
  obtain rfl : u = Value.ref d := rx
  have mo := PySem.W.mapOf_K (prog := X.prog) (w := X.w) I1.kIn D.at_ D.lit
  refine ⟨mo.typeIs, mo.noDict, ?_⟩
  rw [m.trees]
  refine Calls.callWith_builtin rfl (Calls.evalArgs_plain (Calls.spliced_cons (thn (he.run pins s1 σ H1 _ I1 q1) fun iv s2 ⟨y, H2, I2, ry, z, u0, v0, ey, en, rv, q2⟩ => Calls.spliced_nil ?_)))
  subst ey
  obtain ⟨t, rfl⟩ := ry
  have mo2 := PySem.W.mapOf_K (prog := X.prog) (w := X.w) I2.kIn D.at_ D.lit
  refine call_meetsIn PySem.F.slot_dict_get mo2.typeIs PySem.F.entry_dict_get (PySem.F.args_dict_get_2 _ _) (meets_dict_get (strKind X.prog X.w) d (PySem.strKind_is X.prog X.w z t) D.low) ⟨_, mo2, ?_⟩
  rw [PySem.W.find_K D.at_ en]
  exact ⟨v0, H2, I2.tok _, rv, q2⟩
end
def wordS : Drv → Str
  | .same _ => "same"
  | .no => "no"
  | .left _ _ _ => "left"
  | .right _ _ => "right"
  | .beneath _ _ => "beneath"
def wayB (L R : List Fm) : Drv → Bool
  | .same F => decide (F ∈ L) && decide (F ∈ R)
  | .no => false
  | .left F _ _ => AB.isImp F && decide (F ∈ L)
  | .right F _ => AB.isImp F && decide (F ∈ R)
  | .beneath F _ => AB.isAll F && decide (F ∈ R)
theorem DkOk.memB {K : PySem.W.Frag} {H : Hp} {kvs : List (Key × V)} {Fs : List Fm} (h : DkOk K H kvs Fs) (F : Fm) : (valV kvs (.inr (txt F))).isSome = decide (F ∈ Fs) := by
  by_cases e : F ∈ Fs
  · rw [decide_eq_true e]; exact h.all F e
  · rw [decide_eq_false e]
    cases z : (valV kvs (.inr (txt F))).isSome with
    | false => rfl
    | true => exact absurd (h.mem.mp z) e
section
variable {P : Program} {w : World} {K : PySem.W.Frag} {mg : Str → Option Value} {base : Heap} (T : Tx w K mg)
abbrev Nwy : List Str := ["word", "left", "right", "thing", "formula", "text"]
theorem sc_wy : FnScope Nwy ["word", "left", "right", "thing"] (defScope s_is_way) := ⟨rfl, rfl, rfl, by decide +kernel, rfl, by decide +kernel, by decide +kernel⟩
def spWay (K : PySem.W.Frag) : Sp := fun vs H Q _ => ∃ (dl dr p : Addr) (L R : List Fm) (d : Drv), vs = [.str (wordS d), .ref dl, .ref dr, .ref p] ∧ DSt K H dl L ∧ DSt K H dr R ∧ DvAt K H d p ∧ d ≠ .no ∧ Q (.bl (wayB L R d)) H
include T
theorem bd_wy : L2.Binds K (fdOf K (f_is_way K)) ["word", "left", "right", "thing"] [] := T.F_is_way.binds fun _ _ _ _ _ _ us hl => match us, hl with | [_, _, _, _], _ => rfl
theorem ok_way : FH P w K mg base 1 (f_is_way K) ["word", "left", "right", "thing"] (spWay K) := by
  obtain ⟨uAL, mAL, rAL⟩ := T.c_ALL
  obtain ⟨uIF, mIF, rIF⟩ := T.c_IF
  obtain ⟨uSA, mSA, rSA⟩ := T.c_SAME
  obtain ⟨uBE, mBE, rBE⟩ := T.c_BENEATH
  obtain ⟨uLE, mLE, rLE⟩ := T.c_LEFT
  refine T.F_is_way.ok sc_wy (fun vs H Q E h => by obtain ⟨_, _, _, _, _, _, rfl, _⟩ := h; rfl) (fun cdv A outer s H vs Q E hr h => ⟨_, PSs.nox (
    pss_cons (ps_set (i := 4) sc_wy.nd rfl (Or.inl rfl) (pe_ix ix_tup (pv 3) pe_int (fun _ _ => rfl)))
    (pss_cons (ps_if (pt_not (pt_val (pe_callB call_isi rfl T.b_isinstance (by decide +kernel) (pa_cons (pv 4) (pa_cons (pe_glob (v := .ref (He.ga K "Formula")) rfl T.g_Formula rfl) pa_nil))))) (pss_one ps_never) pss_nil)
    (pss_cons (ps_set (i := 5) sc_wy.nd rfl (Or.inl rfl) (pe_fld (pv 4) rfl))
    (pss_cons (ps_if (pt_cmpR op_eq (pv 0) (pe_glob rfl mSA rSA) (nomark _)) (pss_one (ps_ret (pe_and (pe_cmp (pc_din (hu_of hr) (pv 5) (pv 1)) rfl) (pe_one (pe_cmp (pc_din (hu_of hr) (pv 5) (pv 2)) rfl))))) pss_nil)
    (pss_cons (ps_if (pt_cmpR op_eq (pv 0) (pe_glob rfl mBE rBE) (nomark _)) (pss_one (ps_ret (pe_and (pe_cmpR op_eq (pe_fld (pv 4) rfl) (pe_glob rfl mAL rAL) (nomark _)) (pe_one (pe_cmp (pc_din (hu_of hr) (pv 5) (pv 2)) rfl))))) pss_nil)
    (pss_one (ps_ret (pe_and (pe_cmpR op_eq (pe_fld (pv 4) rfl) (pe_glob rfl mIF rIF) (nomark _)) (pe_one (pe_cmp (pc_din (hu_of hr) (pv 5) (pe_ifExp (pt_cmpR op_eq (pv 0) (pe_glob rfl mLE rLE) (nomark _)) (pv 1) (pv 2))) rfl)))))))))), ?_⟩)
  obtain ⟨dl, dr, p, L, R, d, rfl, hL, hR, hd, hn, q⟩ := h
  obtain ⟨ksl, el, okl⟩ := hL.ex
  obtain ⟨ksr, er, okr⟩ := hR.ex
  have fin : ∀ (F : Fm) (a : Addr) (rest : List V), FoAt K H F a → H p = some (.tup (.str (wordS d) :: .ref a :: rest)) → ∃ dx pt m dd x y al, H a = some (.ins (He.ga K "Formula") dx (foFs (kindS F) pt m dd x y (txt F) al)) := fun F a rest hF _ => by
    obtain ⟨pp, hf⟩ := hF.fo
    obtain ⟨dxx, pt, al, m, dd, x, y, e1, _⟩ := hf.ex
    exact ⟨_, _, _, _, _, _, _, e1⟩
  have inL : ∀ F : Fm, DGet H dl (.str (txt F)) (valV ksl (.inr (txt F))) := fun F => DGet.k (k := .inr (txt F)) el
  have inR : ∀ F : Fm, DGet H dr (.str (txt F)) (valV ksr (.inr (txt F))) := fun F => DGet.k (k := .inr (txt F)) er
  cases d with
  | no => exact absurd rfl hn
  | same F =>
    obtain ⟨a, ep, hF⟩ := hd
    obtain ⟨dx, pt, m, dd, x, y, al, e1⟩ := fin F a _ hF ep
    refine ⟨_, rfl, p, _, _, _, rfl, rfl, SqT.of ep, atI_nat (j := 1) rfl, ?_⟩
    refine ⟨_, rfl, _, _, _, _, true, rfl, .own _, .base (T.ty_of T.cls_Formula e1), (by unfold PySem.W.kitOne; rw [if_pos (beq_self_eq_true _)]), ?_⟩
    refine ⟨true, rfl, ite2 (fun z => nomatch z) fun _ => ?_⟩
    refine ⟨_, rfl, a, _, dx, _, _, rfl, e1, T.cls_Formula, T.na_Formula_spelled, rfl, ?_⟩
    refine ⟨_, rfl, rfl, _, rfl, ite2 (fun _ => ?_) fun z => absurd (show decide (V.str (Str.ofString "same") = V.str (Str.ofString "same")) = true from decide_eq_true rfl) z⟩
    refine ⟨_, rfl, _, rfl, dl, _, rfl, inL F, _, rfl, ?_⟩
    rw [okl.memB F]
    by_cases hm : F ∈ L
    · rw [decide_eq_true hm]
      refine iteT ⟨_, rfl, _, rfl, dr, _, rfl, inR F, ?_⟩
      rw [okr.memB F]
      simpa [wayB, hm] using q
    · rw [decide_eq_false hm]
      refine iteF ?_
      simpa [wayB, hm] using q
  | left F d1 d2 =>
    obtain ⟨a, b, c, ep, hF, _, _⟩ := hd
    obtain ⟨dx, pt, m, dd, x, y, al, e1⟩ := fin F a _ hF ep
    refine ⟨_, rfl, p, _, _, _, rfl, rfl, SqT.of ep, atI_nat (j := 1) rfl, ?_⟩
    refine ⟨_, rfl, _, _, _, _, true, rfl, .own _, .base (T.ty_of T.cls_Formula e1), (by unfold PySem.W.kitOne; rw [if_pos (beq_self_eq_true _)]), ?_⟩
    refine ⟨true, rfl, ite2 (fun z => nomatch z) fun _ => ?_⟩
    refine ⟨_, rfl, a, _, dx, _, _, rfl, e1, T.cls_Formula, T.na_Formula_spelled, rfl, ?_⟩
    refine ⟨_, rfl, rfl, _, rfl, ite2 (fun z => absurd z (show ¬ decide (V.str (Str.ofString "left") = V.str (Str.ofString "same")) = true from by decide +kernel)) fun _ => ?_⟩
    refine ⟨_, rfl, rfl, _, rfl, ite2 (fun z => absurd z (show ¬ decide (V.str (Str.ofString "left") = V.str (Str.ofString "beneath")) = true from by decide +kernel)) fun _ => ?_⟩
    refine ⟨_, rfl, a, _, dx, _, _, rfl, e1, T.cls_Formula, T.na_Formula_kind, rfl, rfl, _, rfl, ?_⟩
    rw [kq_imp F]
    cases hi : AB.isImp F with
    | false =>
      refine iteF ?_
      simpa [wayB, hi] using q
    | true =>
      refine iteT ⟨_, rfl, _, rfl, rfl, _, rfl, ?_⟩
      refine ite2 (fun _ => ⟨_, rfl, dl, _, rfl, inL F, ?_⟩) fun z => absurd (show decide (V.str (Str.ofString "left") = V.str (Str.ofString "left")) = true from decide_eq_true rfl) z
      rw [okl.memB F]
      simpa [wayB, hi] using q
  | right F d1 =>
    obtain ⟨a, b, ep, hF, _⟩ := hd
    obtain ⟨dx, pt, m, dd, x, y, al, e1⟩ := fin F a _ hF ep
    refine ⟨_, rfl, p, _, _, _, rfl, rfl, SqT.of ep, atI_nat (j := 1) rfl, ?_⟩
    refine ⟨_, rfl, _, _, _, _, true, rfl, .own _, .base (T.ty_of T.cls_Formula e1), (by unfold PySem.W.kitOne; rw [if_pos (beq_self_eq_true _)]), ?_⟩
    refine ⟨true, rfl, ite2 (fun z => nomatch z) fun _ => ?_⟩
    refine ⟨_, rfl, a, _, dx, _, _, rfl, e1, T.cls_Formula, T.na_Formula_spelled, rfl, ?_⟩
    refine ⟨_, rfl, rfl, _, rfl, ite2 (fun z => absurd z (show ¬ decide (V.str (Str.ofString "right") = V.str (Str.ofString "same")) = true from by decide +kernel)) fun _ => ?_⟩
    refine ⟨_, rfl, rfl, _, rfl, ite2 (fun z => absurd z (show ¬ decide (V.str (Str.ofString "right") = V.str (Str.ofString "beneath")) = true from by decide +kernel)) fun _ => ?_⟩
    refine ⟨_, rfl, a, _, dx, _, _, rfl, e1, T.cls_Formula, T.na_Formula_kind, rfl, rfl, _, rfl, ?_⟩
    rw [kq_imp F]
    cases hi : AB.isImp F with
    | false =>
      refine iteF ?_
      simpa [wayB, hi] using q
    | true =>
      refine iteT ⟨_, rfl, _, rfl, rfl, _, rfl, ?_⟩
      refine ite2 (fun z => absurd z (show ¬ decide (V.str (Str.ofString "right") = V.str (Str.ofString "left")) = true from by decide +kernel)) fun _ => ⟨_, rfl, dr, _, rfl, inR F, ?_⟩
      rw [okr.memB F]
      simpa [wayB, hi] using q
  | beneath F d1 =>
    obtain ⟨a, b, ep, hF, _⟩ := hd
    obtain ⟨dx, pt, m, dd, x, y, al, e1⟩ := fin F a _ hF ep
    refine ⟨_, rfl, p, _, _, _, rfl, rfl, SqT.of ep, atI_nat (j := 1) rfl, ?_⟩
    refine ⟨_, rfl, _, _, _, _, true, rfl, .own _, .base (T.ty_of T.cls_Formula e1), (by unfold PySem.W.kitOne; rw [if_pos (beq_self_eq_true _)]), ?_⟩
    refine ⟨true, rfl, ite2 (fun z => nomatch z) fun _ => ?_⟩
    refine ⟨_, rfl, a, _, dx, _, _, rfl, e1, T.cls_Formula, T.na_Formula_spelled, rfl, ?_⟩
    refine ⟨_, rfl, rfl, _, rfl, ite2 (fun z => absurd z (show ¬ decide (V.str (Str.ofString "beneath") = V.str (Str.ofString "same")) = true from by decide +kernel)) fun _ => ?_⟩
    refine ⟨_, rfl, rfl, _, rfl, ite2 (fun _ => ?_) fun z => absurd (show decide (V.str (Str.ofString "beneath") = V.str (Str.ofString "beneath")) = true from decide_eq_true rfl) z⟩
    refine ⟨_, rfl, a, _, dx, _, _, rfl, e1, T.cls_Formula, T.na_Formula_kind, rfl, rfl, _, rfl, ?_⟩
    rw [kq_all F]
    cases hi : AB.isAll F with
    | false =>
      refine iteF ?_
      simpa [wayB, hi] using q
    | true =>
      refine iteT ⟨_, rfl, _, rfl, dr, _, rfl, inR F, ?_⟩
      rw [okr.memB F]
      simpa [wayB, hi] using q
end
end AT
end
section
set_option Elab.async false
set_option linter.all false
set_option maxRecDepth 100000
/-! pairs_behind of derivations. -/
namespace AT
open PySem PySem.Spec PyProof.Rows L2
open AB (Fm At Drv)
/-- the pairs that the derivations behind a step are of -/
def bhd (L R : List Fm) : Drv → List (List Fm × List Fm)
  | .same _ => []
  | .no => []
  | .left F _ _ => match F with
    | .imp G H => [(L.filter (· ≠ .imp G H), R ++ [G]), (L.filter (· ≠ .imp G H) ++ [H], R)]
    | _ => []
  | .right F _ => match F with
    | .imp G H => [(L ++ [G], R.filter (· ≠ .imp G H) ++ [H])]
    | _ => []
  | .beneath F _ => match F with
    | .all G => [(AB.nears (.all G) L, [G])]
    | _ => []
/-- a pair of dicts -/
def PrAt (K : PySem.W.Frag) (H : Hp) : Addr → List Fm × List Fm → Prop := fun t pr => ∃ e1 e2, H t = some (.tup [.ref e1, .ref e2]) ∧ DSt K H e1 pr.1 ∧ DSt K H e2 pr.2
theorem PrAt.kp {K : PySem.W.Frag} {H H' : Hp} (k : Kp H H') {t : Addr} {pr : List Fm × List Fm} (h : PrAt K H t pr) : PrAt K H' t pr := let ⟨a, b, e, x, y⟩ := h; ⟨a, b, k _ _ e, x.kp k, y.kp k⟩
theorem fil_eq (L : List Fm) (F : Fm) : (L.filter fun G => !decide (G = F)) = L.filter (· ≠ F) := by
  refine List.filter_congr fun x _ => ?_
  by_cases h : x = F <;> simp [h]
section
variable {P : Program} {w : World} {K : PySem.W.Frag} {mg : Str → Option Value} {base : Heap} (T : Tx w K mg)
abbrev Npb : List Str := ["word", "left", "right", "formula", "one", "other", "rest"]
theorem sc_pb : FnScope Npb ["word", "left", "right", "formula"] (defScope s_pairs_behind) := ⟨rfl, rfl, rfl, by decide +kernel, rfl, by decide +kernel, by decide +kernel⟩
/-- the formula of a step -/
def topF : Drv → Fm
  | .same F => F
  | .no => .no
  | .left F _ _ => F
  | .right F _ => F
  | .beneath F _ => F
def spPbk (K : PySem.W.Frag) : Sp := fun vs H Q _ => ∃ (dl dr a : Addr) (L R : List Fm) (d : Drv), vs = [.str (wordS d), .ref dl, .ref dr, .ref a] ∧ DSt K H dl L ∧ DSt K H dr R ∧ FoAt K H (topF d) a ∧ wayB L R d = true ∧ L.length ≤ 1000000 ∧ R.length ≤ 1000000 ∧
  ∀ l ts H', H' l = some (.lst (ts.map V.ref)) → Paired (PrAt K H') ts (bhd L R d) → Kp H H' → Q (.ref l) H'
include T
theorem bd_pb : L2.Binds K (fdOf K (f_pairs_behind K)) ["word", "left", "right", "formula"] [] := T.F_pairs_behind.binds fun _ _ _ _ _ _ us hl => match us, hl with | [_, _, _, _], _ => rfl
theorem bd_lbk : L2.Binds K (fdOf K (f_left_beneath K)) ["left", "formula"] [] := T.F_left_beneath.binds fun _ _ _ _ _ _ us hl => match us, hl with | [_, _], _ => rfl
theorem bd_ls : L2.Binds K (fdOf K (f_less K)) ["some", "formula"] [] := T.F_less.binds fun _ _ _ _ _ _ us hl => match us, hl with | [_, _], _ => rfl
theorem ok_pb : FH P w K mg base 4 (f_pairs_behind K) ["word", "left", "right", "formula"] (spPbk K) := by
  obtain ⟨uSA, mSA, rSA⟩ := T.c_SAME
  obtain ⟨uBE, mBE, rBE⟩ := T.c_BENEATH
  obtain ⟨uLE, mLE, rLE⟩ := T.c_LEFT
  have gL := (ok_lbk (P := P) (base := base) T)
  have gS := (ok_less (P := P) (base := base) T).mono (show 1 ≤ 3 by decide)
  refine T.F_pairs_behind.ok sc_pb (fun vs H Q E h => by obtain ⟨_, _, _, _, _, _, rfl, _⟩ := h; rfl) (fun cdv A outer s H vs Q E hr h => ⟨_, PSs.nox (
    pss_cons (ps_if (pt_cmpR op_eq (pv 0) (pe_glob rfl mSA rSA) (nomark _)) (pss_one (ps_ret (pe_lst pa_nil))) pss_nil)
    (pss_cons (ps_if (pt_cmpR op_eq (pv 0) (pe_glob rfl mBE rBE) (nomark _)) (pss_one (ps_ret (pe_lst (pa_cons (pe_tup (pa_cons (pe_call gL hr rfl T.g_left_beneath T.F_left_beneath.kp (bd_lbk T) .nil pass0 (pa_cons (pv 1) (pa_cons (pv 3) pa_nil)))
      (pa_cons (pe_callR (ok_set_of (P := P) (base := base) T) (hr.mono (by decide)) T.F_set_of.kp rfl T.g_set_of pass0 (pa_cons (pe_ix ix_tup (pe_fld (pv 3) rfl) pe_int (fun _ _ => rfl)) pa_nil)) pa_nil))) pa_nil)))) pss_nil)
    (pss_cons (ps_asg (pe_fld (pv 3) rfl) (pg_tup rfl (pgs_cons (pg_name (i := 4) sc_pb.nd rfl (Or.inl rfl)) (pgs_cons (pg_name (i := 5) sc_pb.nd rfl (Or.inl rfl)) pgs_nil))))
    (pss_cons (ps_if (pt_cmpR op_eq (pv 0) (pe_glob rfl mLE rLE) (nomark _))
      (pss_cons (ps_set (i := 6) sc_pb.nd rfl (Or.inl rfl) (pe_call gS hr rfl T.g_less T.F_less.kp (bd_ls T) .nil pass0 (pa_cons (pv 1) (pa_cons (pv 3) pa_nil))))
      (pss_one (ps_ret (pe_lst (pa_cons (pe_tup (pa_cons (pv 6) (pa_cons (pe_callR (ok_more (P := P) (base := base) T) (hr.mono (by decide)) T.F_more.kp rfl T.g_more pass0 (pa_cons (pv 2) (pa_cons (pv 4) pa_nil))) pa_nil)))
        (pa_cons (pe_tup (pa_cons (pe_callR (ok_more (P := P) (base := base) T) (hr.mono (by decide)) T.F_more.kp rfl T.g_more pass0 (pa_cons (pv 6) (pa_cons (pv 5) pa_nil))) (pa_cons (pv 2) pa_nil))) pa_nil)))))) pss_nil)
    (pss_one (ps_ret (pe_lst (pa_cons (pe_tup (pa_cons (pe_callR (ok_more (P := P) (base := base) T) (hr.mono (by decide)) T.F_more.kp rfl T.g_more pass0 (pa_cons (pv 1) (pa_cons (pv 4) pa_nil)))
      (pa_cons (pe_callR (ok_more (P := P) (base := base) T) (hr.mono (by decide)) T.F_more.kp rfl T.g_more pass0 (pa_cons (pe_call gS hr rfl T.g_less T.F_less.kp (bd_ls T) .nil pass0 (pa_cons (pv 2) (pa_cons (pv 3) pa_nil))) (pa_cons (pv 5) pa_nil))) pa_nil))) pa_nil)))))))), ?_⟩)
  obtain ⟨dl, dr, a, L, R, d, rfl, hL, hR, hF, hw, hl1, hl2, q⟩ := h
  have s2 : 2 ≤ sizeLine := by decide +kernel
  cases d with
  | no => simp [wayB] at hw
  | same F =>
    refine ⟨_, rfl, rfl, _, rfl, ite2 (fun _ => ?_) fun z => absurd (show decide (V.str (Str.ofString "same") = V.str (Str.ofString "same")) = true from decide_eq_true rfl) z⟩
    exact ⟨Nat.zero_le _, fun l hl => q l [] _ upd_same .nil (kp_up (Same.refl H) hl)⟩
  | beneath F d1 =>
    refine ⟨_, rfl, rfl, _, rfl, ite2 (fun z => absurd z (show ¬ decide (V.str (Str.ofString "beneath") = V.str (Str.ofString "same")) = true from by decide +kernel)) fun _ => ?_⟩
    refine ⟨_, rfl, rfl, _, rfl, ite2 (fun _ => ?_) fun z => absurd (show decide (V.str (Str.ofString "beneath") = V.str (Str.ofString "beneath")) = true from decide_eq_true rfl) z⟩
    simp only [wayB, Bool.and_eq_true] at hw
    obtain ⟨G, rfl⟩ := AB.isAll_iff.mp hw.1
    refine ⟨_, rfl, _, rfl, dl, a, L, _, rfl, hL, hF, hl1, fun e1 H1 he1 k1 => ?_⟩
    obtain ⟨c, hfo, hg⟩ := hF.kf (.of k1)
    obtain ⟨dx2, pt2, al2, m2, d2, x2, y2, e12, e22, _⟩ := hfo.ex
    refine ⟨_, rfl, a, _, dx2, _, _, rfl, e12, T.cls_Formula, T.na_Formula_parts, rfl, pt2, _, _, _, rfl, rfl, SqT.of e22, atI_nat (j := 0) rfl, [c], [G], rfl, .cons hg .nil, by show 1 ≤ 1000; omega, fun e2 H2 _ he2 k2 => ?_⟩
    refine ⟨s2, fun t ht => ⟨Nat.le_trans (Nat.le_succ 1) s2, fun l hl => ?_⟩⟩
    have k3 := kp_up (o := .tup [.ref e1, .ref e2]) (Same.refl H2) ht
    have k4 := kp_up (o := .lst [.ref t]) (Same.refl (upd H2 t (.tup [.ref e1, .ref e2]))) hl
    refine q l [t] _ upd_same (.cons ⟨e1, e2, k4 _ _ upd_same, (he1.kp k2).kp (k3.trans k4), he2.kp (k3.trans k4)⟩ .nil) (((k1.trans k2).trans k3).trans k4)
  | left F d1 d2 =>
    refine ⟨_, rfl, rfl, _, rfl, ite2 (fun z => absurd z (show ¬ decide (V.str (Str.ofString "left") = V.str (Str.ofString "same")) = true from by decide +kernel)) fun _ => ?_⟩
    refine ⟨_, rfl, rfl, _, rfl, ite2 (fun z => absurd z (show ¬ decide (V.str (Str.ofString "left") = V.str (Str.ofString "beneath")) = true from by decide +kernel)) fun _ => ?_⟩
    simp only [wayB, Bool.and_eq_true] at hw
    obtain ⟨G, I, rfl⟩ := AB.isImp_iff.mp hw.1
    obtain ⟨b, c, hfo, hb, hc⟩ := id hF
    obtain ⟨dx2, pt2, al2, m2, dd2, x2, y2, e12, e22, _⟩ := hfo.ex
    refine ⟨_, rfl, a, _, dx2, _, _, rfl, e12, T.cls_Formula, T.na_Formula_parts, rfl, pt2, _, rfl, SqT.of e22, rfl, _, _, rfl, _, _, rfl, rfl, ?_⟩
    refine ⟨_, rfl, rfl, _, rfl, ite2 (fun _ => ?_) fun z => absurd (show decide (V.str (Str.ofString "left") = V.str (Str.ofString "left")) = true from decide_eq_true rfl) z⟩
    refine ⟨_, rfl, _, rfl, dl, a, L, _, rfl, hL, hF, hl1, fun e1 H1 he1 k1 => ?_⟩
    refine ⟨_, rfl, _, rfl, _, rfl, dr, R, [b], [G], rfl, hR.kp k1, .cons (hb.kf (.of k1)) .nil, by omega, by show 1 ≤ 1000; omega, fun e2 H2 he2 k2 => ?_⟩
    refine ⟨s2, fun t1 ht1 => ?_⟩
    have k3 := kp_up (o := .tup [.ref e1, .ref e2]) (Same.refl H2) ht1
    have k03 := (k1.trans k2).trans k3
    refine ⟨_, rfl, _, rfl, e1, _, [c], [I], rfl, (he1.kp k2).kp k3, .cons (hc.kf (.of k03)) .nil, ?_, by show 1 ≤ 1000; omega, fun e3 H3 he3 k4 => ?_⟩
    · exact Nat.le_trans (List.length_filter_le _ _) (by omega)
    refine ⟨_, rfl, s2, fun t2 ht2 => ?_⟩
    have k5 := kp_up (o := .tup [.ref e3, .ref dr]) (Same.refl H3) ht2
    refine ⟨s2, fun l hl => ?_⟩
    have k6 := kp_up (o := .lst [.ref t1, .ref t2]) (Same.refl (upd H3 t2 (.tup [.ref e3, .ref dr]))) hl
    have k46 := (k4.trans k5).trans k6
    rw [fil_eq] at he1 he3
    refine q l [t1, t2] _ upd_same (.cons ⟨e1, e2, k46 _ _ upd_same, ((he1.kp k2).kp k3).kp k46, (he2.kp k3).kp k46⟩ (.cons ⟨e3, dr, k6 _ _ upd_same, he3.kp (k5.trans k6), hR.kp (k03.trans k46)⟩ .nil)) (k03.trans k46)
  | right F d1 =>
    refine ⟨_, rfl, rfl, _, rfl, ite2 (fun z => absurd z (show ¬ decide (V.str (Str.ofString "right") = V.str (Str.ofString "same")) = true from by decide +kernel)) fun _ => ?_⟩
    refine ⟨_, rfl, rfl, _, rfl, ite2 (fun z => absurd z (show ¬ decide (V.str (Str.ofString "right") = V.str (Str.ofString "beneath")) = true from by decide +kernel)) fun _ => ?_⟩
    simp only [wayB, Bool.and_eq_true] at hw
    obtain ⟨G, I, rfl⟩ := AB.isImp_iff.mp hw.1
    obtain ⟨b, c, hfo, hb, hc⟩ := id hF
    obtain ⟨dx2, pt2, al2, m2, dd2, x2, y2, e12, e22, _⟩ := hfo.ex
    refine ⟨_, rfl, a, _, dx2, _, _, rfl, e12, T.cls_Formula, T.na_Formula_parts, rfl, pt2, _, rfl, SqT.of e22, rfl, _, _, rfl, _, _, rfl, rfl, ?_⟩
    refine ⟨_, rfl, rfl, _, rfl, ite2 (fun z => absurd z (show ¬ decide (V.str (Str.ofString "right") = V.str (Str.ofString "left")) = true from by decide +kernel)) fun _ => ?_⟩
    refine ⟨_, rfl, _, rfl, dl, L, [b], [G], rfl, hL, .cons hb .nil, by omega, by show 1 ≤ 1000; omega, fun e1 H1 he1 k1 => ?_⟩
    refine ⟨_, rfl, _, rfl, dr, a, R, _, rfl, hR.kp k1, hF.kf (.of k1), hl2, fun e2 H2 he2 k2 => ?_⟩
    refine ⟨_, rfl, e2, _, [c], [I], rfl, he2, .cons (hc.kf (.of (k1.trans k2))) .nil, ?_, by show 1 ≤ 1000; omega, fun e3 H3 he3 k3 => ?_⟩
    · exact Nat.le_trans (List.length_filter_le _ _) (by omega)
    refine ⟨s2, fun t ht => ⟨Nat.le_trans (Nat.le_succ 1) s2, fun l hl => ?_⟩⟩
    have k4 := kp_up (o := .tup [.ref e1, .ref e3]) (Same.refl H3) ht
    have k5 := kp_up (o := .lst [.ref t]) (Same.refl (upd H3 t (.tup [.ref e1, .ref e3]))) hl
    rw [fil_eq] at he3
    refine q l [t] _ upd_same (.cons ⟨e1, e3, k5 _ _ upd_same, ((he1.kp k2).kp k3).kp (k4.trans k5), he3.kp (k4.trans k5)⟩ .nil) ((((k1.trans k2).trans k3).trans k4).trans k5)
end
end AT
end
section
set_option Elab.async false
set_option linter.all false
set_option maxRecDepth 100000
/-! is_derivation, derivation_holds. -/
namespace AT
open PySem PySem.Spec PyProof.Rows L2
open AB (Fm At Drv)
def kids : Drv → List Drv
  | .same _ => []
  | .no => []
  | .left _ d e => [d, e]
  | .right _ d => [d]
  | .beneath _ d => [d]
theorem way_false {L R : List Fm} {d : Drv} (hn : d ≠ .no) (h : wayB L R d = false) : AB.isDrv L R d = false := by
  cases d with
  | no => exact absurd rfl hn
  | same F => simpa [wayB, AB.isDrv] using h
  | left F d e => cases F <;> simp_all [wayB, AB.isDrv, AB.isImp]
  | right F d => cases F <;> simp_all [wayB, AB.isDrv, AB.isImp]
  | beneath F d => cases F <;> simp_all [wayB, AB.isDrv, AB.isAll]
def stepL (L R : List Fm) (d : Drv) : List Bool := ((bhd L R d).zip (kids d)).map fun q => AB.isDrv q.1.1 q.1.2 q.2
theorem way_true {L R : List Fm} {d : Drv} (h : wayB L R d = true) : AB.isDrv L R d = (stepL L R d).all id ∧ (bhd L R d).length = (kids d).length := by
  cases d with
  | no => simp [wayB] at h
  | same F =>
    simp only [wayB, Bool.and_eq_true] at h
    refine ⟨?_, rfl⟩
    simp only [AB.isDrv, h.1, h.2]; rfl
  | left F d e =>
    simp only [wayB, Bool.and_eq_true] at h
    obtain ⟨G, H, rfl⟩ := AB.isImp_iff.mp h.1
    refine ⟨?_, rfl⟩
    simp only [AB.isDrv, h.2, stepL, bhd, kids]
    simp
  | right F d =>
    simp only [wayB, Bool.and_eq_true] at h
    obtain ⟨G, H, rfl⟩ := AB.isImp_iff.mp h.1
    refine ⟨?_, rfl⟩
    simp only [AB.isDrv, h.2, stepL, bhd, kids]
    simp
  | beneath F d =>
    simp only [wayB, Bool.and_eq_true] at h
    obtain ⟨G, rfl⟩ := AB.isAll_iff.mp h.1
    refine ⟨?_, rfl⟩
    simp only [AB.isDrv, h.2, stepL, bhd, kids]
    simp
theorem dv_tup {K : PySem.W.Frag} {H : Hp} {d : Drv} {p : Addr} (h : DvAt K H d p) (hn : d ≠ .no) : ∃ (a : Addr) (ps : List Addr), H p = some (.tup (.str (wordS d) :: .ref a :: ps.map V.ref)) ∧ FoAt K H (topF d) a ∧ Paired (fun q e => DvAt K H e q) ps (kids d) := by
  cases d with
  | no => exact absurd rfl hn
  | same F => obtain ⟨a, e, f⟩ := h; exact ⟨a, [], e, f, .nil⟩
  | left F d e => obtain ⟨a, b, c, e, f, g, k⟩ := h; exact ⟨a, [b, c], e, f, .cons g (.cons k .nil)⟩
  | right F d => obtain ⟨a, b, e, f, g⟩ := h; exact ⟨a, [b], e, f, .cons g .nil⟩
  | beneath F d => obtain ⟨a, b, e, f, g⟩ := h; exact ⟨a, [b], e, f, .cons g .nil⟩
/-- the lists stay short -/
structure ShortL (L R : List Fm) (d : Drv) : Prop where
  l : (L.length + d.depth + 1) * 2 ^ d.bn ≤ 1000000
  r : R.length + d.depth ≤ 1000000
theorem ShortL.l' {L R : List Fm} {d : Drv} (h : ShortL L R d) : L.length ≤ 1000000 := by
  have a := h.l
  have b : 1 ≤ 2 ^ d.bn := Nat.one_le_two_pow
  have c : (L.length + d.depth + 1) * 1 ≤ (L.length + d.depth + 1) * 2 ^ d.bn := Nat.mul_le_mul_left _ b
  omega
theorem ShortL.of {L L' R R' : List Fm} {d e : Drv} (h : ShortL L R d) (hl : L'.length ≤ L.length + 1) (hr : R'.length ≤ R.length + 1) (hd : e.depth + 1 ≤ d.depth) (hb : e.bn ≤ d.bn) : ShortL L' R' e := by
  refine ⟨Nat.le_trans (Nat.mul_le_mul (show L'.length + e.depth + 1 ≤ L.length + d.depth + 1 by omega) (Nat.pow_le_pow_right (by decide) hb)) h.l, ?_⟩
  have := h.r; omega
theorem nears_len (F : Fm) (L : List Fm) : (AB.nears F L).length ≤ 2 * L.length + 1 := by
  rw [nears_nb1, List.length_cons]
  have := nb1s_len L; omega
theorem ShortL.ben {L R : List Fm} {G : Fm} {d e : Drv} (h : ShortL L R d) (hd : e.depth + 1 ≤ d.depth) (hb : e.bn + 1 ≤ d.bn) : ShortL (AB.nears (.all G) L) [G] e := by
  refine ⟨?_, ?_⟩
  · have a := nears_len (.all G) L
    have b := h.l
    have c : 2 ^ (e.bn + 1) ≤ 2 ^ d.bn := Nat.pow_le_pow_right (by decide) hb
    have k : ((AB.nears (.all G) L).length + e.depth + 1) * 2 ^ e.bn ≤ (2 * (L.length + d.depth + 1)) * 2 ^ e.bn := Nat.mul_le_mul_right _ (by omega)
    have k2 : (2 * (L.length + d.depth + 1)) * 2 ^ e.bn = (L.length + d.depth + 1) * 2 ^ (e.bn + 1) := by
      rw [Nat.pow_succ, Nat.mul_comm 2, Nat.mul_assoc, Nat.mul_comm 2]
    have k3 : (L.length + d.depth + 1) * 2 ^ (e.bn + 1) ≤ (L.length + d.depth + 1) * 2 ^ d.bn := Nat.mul_le_mul_left _ c
    omega
  · have r := h.r
    simp only [List.length_singleton]; omega
theorem ShortL.kid {L R : List Fm} {d e : Drv} {pr : List Fm × List Fm} {i : Nat} (h : ShortL L R d) (hp : (bhd L R d)[i]? = some pr) (he : (kids d)[i]? = some e) : ShortL pr.1 pr.2 e ∧ e.depth + 1 ≤ d.depth := by
  cases d with
  | no => simp [kids] at he
  | same F => simp [kids] at he
  | left F d1 d2 =>
    cases F with
    | imp G H =>
      have fl := List.length_filter_le (fun x => decide (x ≠ Fm.imp G H)) L
      simp only [bhd, kids] at hp he
      match i, hp, he with
      | 0, hp, he =>
        cases hp; cases he
        exact ⟨h.of (by dsimp only; omega) (by simp) (by simp only [Drv.depth]; omega) (by simp only [Drv.bn]; omega), by simp only [Drv.depth]; omega⟩
      | 1, hp, he =>
        cases hp; cases he
        exact ⟨h.of (by rw [List.length_append]; simp only [List.length_singleton]; omega) (by dsimp only; omega) (by simp only [Drv.depth]; omega) (by simp only [Drv.bn]; omega), by simp only [Drv.depth]; omega⟩
      | i + 2, hp, he => simp at he
    | _ => simp [bhd] at hp
  | right F d1 =>
    cases F with
    | imp G H =>
      have fl := List.length_filter_le (fun x => decide (x ≠ Fm.imp G H)) R
      simp only [bhd, kids] at hp he
      match i, hp, he with
      | 0, hp, he =>
        cases hp; cases he
        exact ⟨h.of (by simp) (by rw [List.length_append]; simp only [List.length_singleton]; omega) (by simp only [Drv.depth]; omega) (by simp only [Drv.bn]; omega), by simp only [Drv.depth]; omega⟩
      | i + 1, hp, he => simp at he
    | _ => simp [bhd] at hp
  | beneath F d1 =>
    cases F with
    | all G =>
      simp only [bhd, kids] at hp he
      match i, hp, he with
      | 0, hp, he =>
        cases hp; cases he
        exact ⟨h.ben (by simp only [Drv.depth]; omega) (by simp only [Drv.bn]; omega), by simp only [Drv.depth]; omega⟩
      | i + 1, hp, he => simp at he
    | _ => simp [bhd] at hp
theorem depth_pos (d : Drv) : 1 ≤ d.depth := by cases d <;> simp [Drv.depth]
end AT
end
section
set_option Elab.async false
set_option linter.all false
set_option maxRecDepth 100000
/-! is_derivation, derivation_holds. -/
namespace AT
open PySem PySem.Spec PyProof.Rows L2
open AB (Fm At Drv)
section
variable {P : Program} {w : World} {K : PySem.W.Frag} {mg : Str → Option Value} {base : Heap} (T : Tx w K mg)
abbrev Nid : List Str := ["left", "right", "thing", "word", "behind", "pair", "part"]
theorem sc_id : FnScope Nid ["left", "right", "thing"] (defScope s_is_derivation) := ⟨rfl, rfl, rfl, by decide +kernel, rfl, by decide +kernel, by decide +kernel⟩
def spIsD (K : PySem.W.Frag) (m : Nat) : Sp := fun vs H Q _ => ∃ (dl dr p : Addr) (L R : List Fm) (d : Drv), vs = [.ref dl, .ref dr, .ref p] ∧ DSt K H dl L ∧ DSt K H dr R ∧ DvAt K H d p ∧ d.depth ≤ m ∧ ShortL L R d ∧ ∀ H', Kp H H' → Q (.bl (AB.isDrv L R d)) H'
theorem lens_of (d : Drv) (h : d ≠ .no) : ∃ n : Nat, (wordS d, He.Dv.int n) ∈ ([("same", .int 2), ("left", .int 4), ("right", .int 3), ("beneath", .int 3)] : List (Str × He.Dv)) ∧ n = (kids d).length + 2 := by
  cases d with
  | no => exact absurd rfl h
  | same F => exact ⟨2, by simp [wordS], rfl⟩
  | left F d e => exact ⟨4, by simp [wordS], rfl⟩
  | right F d => exact ⟨3, by simp [wordS], rfl⟩
  | beneath F d => exact ⟨3, by simp [wordS], rfl⟩
theorem wq_no : ∀ d : Drv, d ≠ .no → decide (V.str (wordS d) = V.str (Str.ofString "no")) = false
  | .no, h => absurd rfl h
  | .same _, _ => show decide (V.str (Str.ofString "same") = V.str (Str.ofString "no")) = false from by decide +kernel
  | .left _ _ _, _ => show decide (V.str (Str.ofString "left") = V.str (Str.ofString "no")) = false from by decide +kernel
  | .right _ _, _ => show decide (V.str (Str.ofString "right") = V.str (Str.ofString "no")) = false from by decide +kernel
  | .beneath _ _, _ => show decide (V.str (Str.ofString "beneath") = V.str (Str.ofString "no")) = false from by decide +kernel
theorem cut2 (x y : V) (zs : List V) : cutV (x :: y :: zs) (some 2) none = zs := by
  unfold cutV
  have e1 : HT.sIx (x :: y :: zs).length 0 (some 2) = 2 := by
    unfold HT.sIx; simp
  have e2 : HT.sIx (x :: y :: zs).length (x :: y :: zs).length none = (x :: y :: zs).length := rfl
  rw [e1, e2]
  simp
include T
theorem bd_id : L2.Binds K (fdOf K (f_is_derivation K)) ["left", "right", "thing"] [] := T.F_is_derivation.binds fun _ _ _ _ _ _ us hl => match us, hl with | [_, _, _], _ => rfl
theorem ok_isD {m n : Nat} (hk : 12 ≤ n) (FD : AQ.FnD P w K mg base n (f_is_derivation K) (fdOf K (f_is_derivation K)) ["left", "right", "thing"] (spIsD K m)) : AQ.FnD P w K mg base (n + 1) (f_is_derivation K) (fdOf K (f_is_derivation K)) ["left", "right", "thing"] (spIsD K (m + 1)) := by
  obtain ⟨uNO, mNO, rNO⟩ := T.c_NO
  obtain ⟨es, nn, DK⟩ := T.dict_lens
  have gW := (ok_way (P := P) (base := base) T).mono (show 1 ≤ 4 by decide)
  have gP := (ok_pb (P := P) (base := base) T)
  refine AQ.okD (k := 4) (show 3 * 4 ≤ n by omega) T.F_is_derivation sc_id (fun vs H Q E h => by obtain ⟨_, _, _, _, _, _, rfl, _⟩ := h; rfl) (fun cdv A outer s H vs Q E hD hr h => ⟨_, PSs.nox (
    pss_cons (ps_if (PW.pt (pw_or (pt_not (pt_val (pe_callB call_isi rfl T.b_isinstance (by decide +kernel) (pa_cons (pv 2) (pa_cons (pe_bltn rfl T.b_tuple (by decide +kernel) (v := .ty "tuple") (u := .type "tuple") rfl) pa_nil)))))
      (pw_or (pt_cmpR (op_eqNilT hr.units0) (pv 2) (pe_tup pa_nil) rfl)
      (pw_or1 (pt_not (pt_val (pe_callB call_isi rfl T.b_isinstance (by decide +kernel) (pa_cons (pe_ix ix_tup (pv 2) pe_int (fun _ _ => rfl)) (pa_cons (pe_bltn rfl T.b_str (by decide +kernel) (v := .ty "str") (u := .type "str") rfl) pa_nil)))))))))
      (pss_one (ps_ret pe_bl)) pss_nil)
    (pss_cons (ps_set (i := 3) sc_id.nd rfl (Or.inl rfl) (pe_ix ix_tup (pv 2) pe_int (fun _ _ => rfl)))
    (pss_cons (ps_if (pt_cmpR op_eq (pv 3) (pe_glob rfl mNO rNO) (nomark _)) (pss_one (ps_ret (pe_and (pe_cmpR op_eq (pe_callB call_len_seq rfl T.b_len boot_len (pa_cons (pv 2) pa_nil)) pe_int (nomark _)) (pe_one (pe_cmp (pc_din (hu_of hr) (pe_glob rfl mNO rNO) (pv 0)) rfl))))) pss_nil)
    (pss_cons (ps_if (PW.pt (pw_or (pt_cmpR op_ne (pe_kget DK (pe_glob (v := .ref (He.ga K "LENGTHS")) rfl T.g_LENGTHS rfl) (pv 3) ⟨rfl, rfl, rfl, rfl⟩) (pe_callB call_len_seq rfl T.b_len boot_len (pa_cons (pv 2) pa_nil)) (nomark _))
      (pw_or1 (pt_not (pt_val (pe_call gW hr rfl T.g_is_way T.F_is_way.kp (bd_wy T) .nil pass0 (pa_cons (pv 3) (pa_cons (pv 0) (pa_cons (pv 1) (pa_cons (pv 2) pa_nil)))))))))) (pss_one (ps_ret pe_bl)) pss_nil)
    (pss_cons (ps_set (i := 4) sc_id.nd rfl (Or.inl rfl) (pe_call gP hr rfl T.g_pairs_behind T.F_pairs_behind.kp (bd_pb T) .nil pass0 (pa_cons (pv 3) (pa_cons (pv 0) (pa_cons (pv 1) (pa_cons (pe_ix ix_tup (pv 2) pe_int (fun _ _ => rfl)) pa_nil))))))
    (pss_one (ps_ret (pe_callB (cr_all rfl) rfl T.b_all (by decide +kernel) (pa_cons
      (pe_lc (own := [("pair", 5), ("part", 6)]) (g := gTup K 2 (gCons (gName 5) (gCons (gName 6) gNil))) (tt := tYes) rfl sc_id.nd (AZ.pi_zs rfl T.b_zip (pa_cons (pv 4) (pa_cons (pe_slice sl_tup (pv 2) (po_some pe_int) po_none) pa_nil))) (blkOk_by (own := [("pair", 5), ("part", 6)]) (N := Nid) (sc := defScope s_is_derivation) (by decide +kernel))
        (fun _ _ _ _ _ => pg_tup rfl (pgs_cons (pg_name (i := 5) sc_id.nd rfl (Or.inl rfl)) (pgs_cons (pg_name (i := 6) sc_id.nd rfl (Or.inl rfl)) pgs_nil)))
        (fun _ _ _ _ _ => pts_nil)
        (te := L2.tCall (spIsD K m) [] E0 (tCons (tOp (rIxT K) (tVar 5) (tC (.int 0))) (tCons (tOp (rIxT K) (tVar 5) (tC (.int 1))) (tCons (tVar 6) tNil))))
        (fun _ _ _ _ _ => AQ.pe_callP FD hD rfl T.g_is_derivation T.F_is_derivation.kp (bd_id T) .nil pass0 (pa_cons (pe_ix ix_tup (pv 5) pe_int (fun _ _ => rfl)) (pa_cons (pe_ix ix_tup (pv 5) pe_int (fun _ _ => rfl)) (pa_cons (pv 6) pa_nil))))) pa_nil))))))))), ?_⟩)
  obtain ⟨dl, dr, p, L, R, d, rfl, hL, hR, hd, hm, hs, q⟩ := h
  obtain ⟨ksl, el, okl⟩ := hL.ex
  have s2 : 1 ≤ sizeLine := by decide +kernel
  have tp : ∃ rest, H p = some (.tup (.str (wordS d) :: rest)) := by
    cases d with
    | no => exact ⟨_, hd⟩
    | _ => obtain ⟨a, ps, e, _⟩ := dv_tup hd nofun; exact ⟨_, e⟩
  obtain ⟨rest, ep⟩ := tp
  refine ⟨_, rfl, _, _, _, _, true, rfl, .ty "tuple", .base (.tup ep), kit_ty (by decide +kernel), ?_⟩
  refine ⟨true, rfl, iteF ?_⟩
  refine ⟨_, rfl, Nat.zero_le _, fun t0 ht0 => ?_⟩
  have k1 := kp_up (o := .tup []) (Same.refl H) ht0
  have e0 : upd H t0 (.tup []) t0 = some (.tup []) := upd_same
  generalize upd H t0 (.tup []) = H1 at k1 e0 ⊢
  have ep1 := k1 _ _ ep
  refine ⟨p, t0, _, rfl, rfl, SqT.of ep1, SqT.of e0, _, rfl, iteF ?_⟩
  refine ⟨_, rfl, p, _, _, _, rfl, rfl, SqT.of ep1, atI_nat (j := 0) rfl, _, _, _, _, true, rfl, .ty "str", .base (.str _), kit_ty (by decide +kernel), ?_⟩
  refine ⟨true, rfl, ite2 (fun z => nomatch z) fun _ => ?_⟩
  refine ⟨_, rfl, p, _, _, _, rfl, rfl, SqT.of ep1, atI_nat (j := 0) rfl, ?_⟩
  refine ⟨_, rfl, rfl, _, rfl, ?_⟩
  by_cases hn : d = .no
  · subst hn
    refine ite2 (fun _ => ?_) fun z => absurd (show decide (V.str (Str.ofString "no") = V.str (Str.ofString "no")) = true from decide_eq_true rfl) z
    have ep2 : H1 p = some (.tup [.str "no"]) := k1 _ _ hd
    refine ⟨_, rfl, p, _, rfl, .inr (SqT.of ep2), rfl, _, rfl, iteT ?_⟩
    refine ⟨_, rfl, dl, _, rfl, DGet.k (k := .inr (txt .no)) (k1 _ _ el), ?_⟩
    rw [okl.memB .no]
    exact q H1 k1
  obtain ⟨a, ps, ep3, hF, hps⟩ := dv_tup hd hn
  rw [wq_no d hn]
  refine iteF ?_
  obtain ⟨nn, hin, hnn⟩ := lens_of d hn
  obtain ⟨u, nsu, ru⟩ := T.vals_lens hin
  have ep4 := k1 _ _ ep3
  have lp := Paired.length hps
  refine ⟨rfl, _, rfl, _, u, _, rfl, nsu, ru, ?_⟩
  refine ⟨_, rfl, p, _, rfl, .inr (SqT.of ep4), rfl, _, rfl, ite2 (fun z => ?_) fun _ => ?_⟩
  · exfalso
    have e : (He.Dv.int (nn : Int)).v K = V.int ((V.str (wordS d) :: V.ref a :: ps.map V.ref).length : Nat) := by
      show V.int (nn : Int) = _
      rw [hnn, List.length_cons, List.length_cons, List.length_map, lp]
    rw [e, decide_eq_true rfl] at z
    cases z
  have hL1 := hL.kp k1
  have hR1 := hR.kp k1
  refine ⟨_, rfl, _, rfl, _, rfl, _, rfl, dl, dr, p, L, R, d, rfl, hL1, hR1, hd.kf (.of k1), hn, ?_⟩
  refine ⟨_, rfl, ite2 (fun z => ?_) fun z => ?_⟩
  · have e : wayB L R d = false := by simpa using z
    have z2 := q H1 k1
    rw [way_false hn e] at z2
    exact z2
  have hw : wayB L R d = true := by simpa using z
  obtain ⟨ew, hlen⟩ := way_true hw
  refine ⟨_, rfl, _, rfl, _, rfl, _, rfl, p, _, _, _, rfl, rfl, SqT.of ep4, atI_nat (j := 1) rfl, dl, dr, a, L, R, d, rfl, hL1, hR1, hF.kf (.of k1), hw, hs.l', ?_, fun bl ts H2 ebl hts k2 => ?_⟩
  · have := hs.r; omega
  have k02 := k1.trans k2
  have ep5 := k2 _ _ ep4
  refine ⟨_, rfl, _, rfl, _, rfl, p, _, rfl, SqT.of ep5, ?_, fun c hc => ?_⟩
  · rintro ⟨z, _⟩
    have : HT.sIx (V.str (wordS d) :: V.ref a :: ps.map V.ref).length 0 (some 2) = 2 := by unfold HT.sIx; simp
    omega
  rw [cut2]
  have k3 := kp_up (o := .tup (ps.map V.ref)) (Same.refl H2) hc
  have ec : upd H2 c (.tup (ps.map V.ref)) c = some (.tup (ps.map V.ref)) := upd_same
  generalize upd H2 c (.tup (ps.map V.ref)) = H3 at k3 ec ⊢
  have k03 := k02.trans k3
  have ebl3 := k3 _ _ ebl
  refine ⟨bl, c, _, _, rfl, SqL.of ebl3, SqT.of ec, fun D hD => ?_⟩
  have hps3 : Paired (fun q e => DvAt K H3 e q) ps (kids d) := Paired.mapP hps fun q e h => h.kf (.of k03)
  have hts3 : Paired (PrAt K H3) ts (bhd L R d) := Paired.mapP hts fun q e h => h.kp k3
  have lt := Paired.length hts3
  have stl : (stepL L R d).length = (bhd L R d).length := by simp [stepL, hlen]
  refine lc_it (AZ.walk_zs (xs := ts.map V.ref) (ys := ps.map V.ref) (by rw [List.length_map, List.length_map, lt, lp, hlen])) (fun i H' => Kp H3 H' ∧ H' D = some (.lst (((stepL L R d).take i).map V.bl))) ?_ ?_ ?_ ?_
  · exact ⟨kp_up (Same.refl _) hD, by rw [upd_same]; rfl⟩
  · intro i H' _ h
    exact ⟨SqL.of (h.1 _ _ ebl3), SqT.of (h.1 _ _ ec)⟩
  · rintro i x H' H'' hi ⟨kk, eD⟩ ⟨tt, x1, y1, rfl, htn, rfl, hx, hy⟩
    obtain ⟨ti, hti, rfl⟩ : ∃ ti, ts[i]? = some ti ∧ V.ref ti = x1 := by simpa using hx
    obtain ⟨qi, hqi, rfl⟩ : ∃ qi, ps[i]? = some qi ∧ V.ref qi = y1 := by simpa using hy
    obtain ⟨pr, hpr, hpt⟩ := paired_get hts3 hti
    obtain ⟨e, he, hpe⟩ := paired_get hps3 hqi
    have kk2 := kp_up (o := .tup [V.ref ti, V.ref qi]) kk htn
    have eD2 := up_keep (o' := .tup [V.ref ti, V.ref qi]) eD htn
    have et : upd H' tt (.tup [V.ref ti, V.ref qi]) tt = some (.tup [V.ref ti, V.ref qi]) := upd_same
    generalize upd H' tt (.tup [V.ref ti, V.ref qi]) = H4 at kk2 eD2 et ⊢
    obtain ⟨e1, e2, etp, hd1, hd2⟩ := hpt.kp kk2
    obtain ⟨sk, dk⟩ := hs.kid hpr he
    refine ⟨tt, _, rfl, SqT.of et, rfl, _, _, rfl, _, _, rfl, rfl, rfl, ?_⟩
    refine ⟨_, rfl, ti, _, _, _, rfl, rfl, SqT.of etp, atI_nat (j := 0) rfl, _, rfl, ti, _, _, _, rfl, rfl, SqT.of etp, atI_nat (j := 1) rfl, _, rfl, ?_⟩
    refine ⟨e1, e2, qi, pr.1, pr.2, e, rfl, hd1, hd2, hpe.kf (.of kk2), by omega, sk, fun H5 k5 => ?_⟩
    have hst : (stepL L R d)[i]? = some (AB.isDrv pr.1 pr.2 e) := by
      unfold stepL
      rw [List.getElem?_map, List.getElem?_zip_eq_some.mpr (show (bhd L R d)[i]? = some (pr, e).1 ∧ (kids d)[i]? = some (pr, e).2 from ⟨hpr, he⟩)]; rfl
    refine ⟨_, k5 _ _ eD2, ?_, kp_old (kk2.trans k5) hD, ?_⟩
    · rw [List.length_map, List.length_take, sizeLine_eq]
      have := (List.getElem?_eq_some_iff.mp hst).1
      have h2 : (kids d).length ≤ 2 := by cases d <;> simp [kids]
      omega
    · rw [upd_same, take_succ hst, List.map_append]; rfl
  · rintro H5 ⟨kk, eD⟩
    rw [List.length_map, lt, ← stl, List.take_length] at eD
    refine ⟨D, stepL L R d, rfl, SqL.of eD, ?_⟩
    rw [← ew]
    exact q H5 (k03.trans kk)
theorem isD_all : ∀ m, AQ.FnD P w K mg base (12 + m) (f_is_derivation K) (fdOf K (f_is_derivation K)) ["left", "right", "thing"] (spIsD K m)
  | 0 => ⟨fun vs H Q E h => by obtain ⟨_, _, _, _, _, _, rfl, _⟩ := h; rfl, fun A outer s H args us vs Q E hr e0 hb r h => by
    obtain ⟨_, _, _, _, _, d, _, _, _, _, z, _⟩ := h
    have := depth_pos d
    omega⟩
  | m + 1 => ok_isD T (Nat.le_add_right 12 m) (isD_all m)
omit T in
theorem sc_dh : FnScope ["one", "other", "thing"] ["one", "other", "thing"] (defScope s_derivation_holds) := ⟨rfl, rfl, rfl, by decide +kernel, rfl, by decide +kernel, by decide +kernel⟩
def spDH (K : PySem.W.Frag) (m : Nat) : Sp := fun vs H Q _ => ∃ (a b p : Addr) (F G : Fm) (d : Drv), vs = [.ref a, .ref b, .ref p] ∧ FoAt K H F a ∧ FoAt K H G b ∧ DvAt K H d p ∧ d.depth ≤ m ∧ ShortL [F] [G] d ∧ ∀ H', Kp H H' → Q (.bl (AB.isDrv [F] [G] d)) H'
theorem bd_dh : L2.Binds K (fdOf K (f_derivation_holds K)) ["one", "other", "thing"] [] := T.F_derivation_holds.binds fun _ _ _ _ _ _ us hl => match us, hl with | [_, _, _], _ => rfl
theorem ok_dh (m : Nat) : AQ.FnD P w K mg base (13 + m) (f_derivation_holds K) (fdOf K (f_derivation_holds K)) ["one", "other", "thing"] (spDH K m) := by
  have e5 : 13 + m = (12 + m) + 1 := by omega
  rw [e5]
  have gD := isD_all (P := P) (base := base) T m
  refine AQ.okD (k := 4) (show 3 * 4 ≤ 12 + m by omega) T.F_derivation_holds sc_dh (fun vs H Q E h => by obtain ⟨_, _, _, _, _, _, rfl, _⟩ := h; rfl) (fun cdv A outer s H vs Q E hD hr h => ⟨_, PSs.nox (
    pss_one (ps_ret (AQ.pe_callP gD hD rfl T.g_is_derivation T.F_is_derivation.kp (bd_id T) .nil pass0 (pa_cons (pe_callR (ok_set_of (P := P) (base := base) T) (hr.mono (by omega)) T.F_set_of.kp rfl T.g_set_of pass0 (pa_cons (pv 0) pa_nil))
      (pa_cons (pe_callR (ok_set_of (P := P) (base := base) T) (hr.mono (by omega)) T.F_set_of.kp rfl T.g_set_of pass0 (pa_cons (pv 1) pa_nil)) (pa_cons (pv 2) pa_nil)))))), ?_⟩)
  obtain ⟨a, b, p, F, G, d, rfl, hF, hG, hd, hm, hs, q⟩ := h
  refine ⟨_, rfl, [a], [F], rfl, .cons hF .nil, by show 1 ≤ 1000; omega, fun e1 H1 _ he1 k1 => ?_⟩
  refine ⟨_, rfl, [b], [G], rfl, .cons (hG.kf (.of k1)) .nil, by show 1 ≤ 1000; omega, fun e2 H2 _ he2 k2 => ?_⟩
  exact ⟨_, rfl, e1, e2, p, [F], [G], d, rfl, he1.kp k2, he2, hd.kf (.of (k1.trans k2)), hm, hs, fun H3 k3 => q H3 ((k1.trans k2).trans k3)⟩
end
end AT
end
section
set_option Elab.async false
set_option linter.all false
/-! Pairs put together: their derivations; depths. -/
namespace AB
/-- how deep a formula's tuples nest -/
def dep : Fm → Nat
  | .imp f g => max (dep f) (dep g) + 1
  | .all f => dep f + 1
  | _ => 1
theorem dep_pos (F : Fm) : 1 ≤ dep F := by cases F <;> simp [dep]
theorem dep_size : ∀ F : Fm, dep F ≤ size F
  | .imp f g => by
    have a := dep_size f
    have b := dep_size g
    simp only [dep, size]; omega
  | .all f => by
    have a := dep_size f
    simp only [dep, size]; omega
  | .atm _ => Nat.le_refl _
  | .no => Nat.le_refl _
theorem dep_subs : ∀ (F : Fm) {K : Fm}, K ∈ subs F → dep K ≤ dep F
  | .imp f g, K, h => by
    simp only [subs, List.mem_cons, List.mem_append] at h
    rcases h with rfl | h | h
    · exact Nat.le_refl _
    · have := dep_subs f h; simp only [dep]; omega
    · have := dep_subs g h; simp only [dep]; omega
  | .all f, K, h => by
    simp only [subs, List.mem_cons] at h
    rcases h with rfl | h
    · exact Nat.le_refl _
    · have := dep_subs f h; simp only [dep]; omega
  | .atm x, K, h => by simp only [subs, List.mem_singleton] at h; subst h; exact Nat.le_refl _
  | .no, K, h => by simp only [subs, List.mem_singleton] at h; subst h; exact Nat.le_refl _
/-- the formulas of a derivation -/
def Drv.fs : Drv → List Fm
  | .same F => [F]
  | .no => []
  | .left F d e => F :: (d.fs ++ e.fs)
  | .right F d => F :: d.fs
  | .beneath F d => F :: d.fs
/-- a right derivation has no formulas but parts of the pair's -/
theorem fs_of {P : Fm → Prop} (hi : ∀ G H, P (.imp G H) → P G ∧ P H) (ha : ∀ G, P (.all G) → P G) : ∀ (d : Drv) {L R : List Fm}, isDrv L R d = true → (∀ K ∈ L, P K) → (∀ K ∈ R, P K) → ∀ K ∈ d.fs, P K
  | .same F, L, R, h, hl, hr, K, hK => by
    simp only [Drv.fs, List.mem_singleton] at hK
    subst hK
    simp only [isDrv, Bool.and_eq_true, decide_eq_true_eq] at h
    exact hl _ h.1
  | .no, L, R, h, hl, hr, K, hK => by cases hK
  | .left F d e, L, R, h, hl, hr, K, hK => by
    cases F with
    | imp G H =>
      simp only [isDrv, Bool.and_eq_true, decide_eq_true_eq] at h
      obtain ⟨hm, h1, h2⟩ := h
      obtain ⟨pG, pH⟩ := hi _ _ (hl _ hm)
      have hl' : ∀ K ∈ L.filter (· ≠ .imp G H), P K := fun K q => hl K ((List.mem_filter.mp q).1)
      simp only [Drv.fs, List.mem_cons, List.mem_append] at hK
      rcases hK with rfl | hK | hK
      · exact hl _ hm
      · exact fs_of hi ha d h1 hl' (fun K q => by
          rcases List.mem_append.mp q with q | q
          · exact hr K q
          · rw [List.mem_singleton.mp q]; exact pG) K hK
      · exact fs_of hi ha e h2 (fun K q => by
          rcases List.mem_append.mp q with q | q
          · exact hl' K q
          · rw [List.mem_singleton.mp q]; exact pH) hr K hK
    | _ => simp [isDrv] at h
  | .right F d, L, R, h, hl, hr, K, hK => by
    cases F with
    | imp G H =>
      simp only [isDrv, Bool.and_eq_true, decide_eq_true_eq] at h
      obtain ⟨hm, h1⟩ := h
      obtain ⟨pG, pH⟩ := hi _ _ (hr _ hm)
      simp only [Drv.fs, List.mem_cons] at hK
      rcases hK with rfl | hK
      · exact hr _ hm
      · exact fs_of hi ha d h1 (fun K q => by
          rcases List.mem_append.mp q with q | q
          · exact hl K q
          · rw [List.mem_singleton.mp q]; exact pG) (fun K q => by
          rcases List.mem_append.mp q with q | q
          · exact hr K ((List.mem_filter.mp q).1)
          · rw [List.mem_singleton.mp q]; exact pH) K hK
    | _ => simp [isDrv] at h
  | .beneath F d, L, R, h, hl, hr, K, hK => by
    cases F with
    | all G =>
      simp only [isDrv, Bool.and_eq_true, decide_eq_true_eq] at h
      obtain ⟨hm, h1⟩ := h
      have pG := ha _ (hr _ hm)
      simp only [Drv.fs, List.mem_cons] at hK
      rcases hK with rfl | hK
      · exact hr _ hm
      · exact fs_of hi ha d h1 (fun K q => by
          rcases mem_nears.mp q with rfl | ⟨q, _⟩ | q
          · exact hr _ hm
          · exact hl K q
          · exact ha _ (hl _ q)) (fun K q => by rw [List.mem_singleton.mp q]; exact pG) K hK
    | _ => simp [isDrv] at h
/-- all its formulas are parts of one of two -/
def DIn (F G : Fm) (d : Drv) : Prop := ∀ K ∈ d.fs, K ∈ subs F ∨ K ∈ subs G
theorem sub_imp_l {F G H : Fm} (h : Fm.imp G H ∈ subs F) : G ∈ subs F := subs_trans F h (by simp [subs, subs_self])
theorem sub_imp_r {F G H : Fm} (h : Fm.imp G H ∈ subs F) : H ∈ subs F := subs_trans F h (by simp [subs, subs_self])
theorem sub_all {F G : Fm} (h : Fm.all G ∈ subs F) : G ∈ subs F := subs_trans F h (by simp [subs, subs_self])
theorem din_of {F G : Fm} {d : Drv} (h : isDrv [F] [G] d = true) : DIn F G d := by
  refine fs_of (P := fun K => K ∈ subs F ∨ K ∈ subs G) (fun A B q => ?_) (fun A q => ?_) d h (fun K q => ?_) (fun K q => ?_)
  · rcases q with q | q
    · exact ⟨.inl (sub_imp_l q), .inl (sub_imp_r q)⟩
    · exact ⟨.inr (sub_imp_l q), .inr (sub_imp_r q)⟩
  · rcases q with q | q
    · exact .inl (sub_all q)
    · exact .inr (sub_all q)
  · rw [List.mem_singleton.mp q]; exact .inl (subs_self F)
  · rw [List.mem_singleton.mp q]; exact .inr (subs_self G)
/-! ### put together -/
abbrev dOver (G : Fm) (d : Drv) : Drv := .beneath (.all G) d
abbrev dDenied (F G : Fm) (d : Drv) : Drv := .right (fNot F) (.left (fNot G) d .no)
abbrev dAhead (c F G : Fm) (d : Drv) : Drv := .right (.imp c G) (.left (.imp c F) (.same c) d)
abbrev dJoined (F G : Fm) (d : Drv) (F' G' : Fm) (d' : Drv) : Drv :=
  .right (fBoth G G') (.left (fBoth F F') (.right (.imp F (fNot F')) (.right (fNot F') (.left (.imp G (fNot G')) d (.left (fNot G') d' .no)))) .no)
theorem din_mono {F G F' G' : Fm} {d : Drv} (h : DIn F G d) (a : F ∈ subs F' ∨ F ∈ subs G') (b : G ∈ subs F' ∨ G ∈ subs G') : DIn F' G' d := fun K hK => by
  rcases h K hK with q | q
  · rcases a with a | a
    · exact .inl (subs_trans _ a q)
    · exact .inr (subs_trans _ a q)
  · rcases b with b | b
    · exact .inl (subs_trans _ b q)
    · exact .inr (subs_trans _ b q)
theorem din_over {F G : Fm} {d : Drv} (h : DIn F G d) : DIn (.all F) (.all G) (dOver G d) := fun K hK => by
  simp only [Drv.fs, List.mem_cons] at hK
  rcases hK with rfl | hK
  · exact .inr (subs_self _)
  · exact din_mono h (.inl (by simp [subs, subs_self])) (.inr (by simp [subs, subs_self])) K hK
theorem din_denied {F G : Fm} {d : Drv} (h : DIn F G d) : DIn (fNot G) (fNot F) (dDenied F G d) := fun K hK => by
  simp only [Drv.fs, List.mem_cons, List.mem_append, List.not_mem_nil, or_false] at hK
  rcases hK with rfl | rfl | hK
  · exact .inr (subs_self _)
  · exact .inl (subs_self _)
  · exact din_mono h (.inr (by simp [subs, subs_self])) (.inl (by simp [subs, subs_self])) K hK
theorem din_ahead {c F G : Fm} {d : Drv} (h : DIn F G d) : DIn (.imp c F) (.imp c G) (dAhead c F G d) := fun K hK => by
  simp only [Drv.fs, List.mem_cons, List.mem_append, List.not_mem_nil, or_false, false_or] at hK
  rcases hK with rfl | rfl | rfl | hK
  · exact .inr (subs_self _)
  · exact .inl (subs_self _)
  · exact .inl (by simp [subs, subs_self])
  · exact din_mono h (.inl (by simp [subs, subs_self])) (.inr (by simp [subs, subs_self])) K hK
theorem din_joined {F G F' G' : Fm} {d d' : Drv} (h : DIn F G d) (h' : DIn F' G' d') : DIn (fBoth F F') (fBoth G G') (dJoined F G d F' G' d') := fun K hK => by
  simp only [Drv.fs, List.mem_cons, List.mem_append, List.not_mem_nil, or_false, or_assoc] at hK
  rcases hK with rfl | rfl | rfl | rfl | rfl | hK | rfl | hK
  · exact .inr (subs_self _)
  · exact .inl (subs_self _)
  · exact .inl (by simp [subs])
  · exact .inl (by simp [subs])
  · exact .inr (by simp [subs])
  · exact din_mono h (.inl (by simp [subs, subs_self])) (.inr (by simp [subs, subs_self])) K hK
  · exact .inr (by simp [subs])
  · exact din_mono h' (.inl (by simp [subs, subs_self])) (.inr (by simp [subs, subs_self])) K hK
/-! ### sizes, all-parts -/
theorem alls_sub {F G : Fm} (h : ∀ K ∈ subs F, isAll K = true → K ∈ subs G) : (alls F).length ≤ (alls G).length :=
  List.Nodup.length_le_of_subset (alls_nodup F) fun K hK => by
    obtain ⟨a, b⟩ := (mem_alls F K).mp hK
    exact (mem_alls G K).mpr ⟨h K a b, b⟩
theorem alls_le {F G : Fm} (h : F ∈ subs G) : (alls F).length ≤ (alls G).length := alls_sub fun K hK _ => subs_trans G h hK
theorem alls_imp (F G : Fm) : (alls (.imp F G)).length ≤ (alls F).length + (alls G).length := by
  simp only [alls, List.length_append]
  have := List.length_filter_le (fun K => decide (K ∉ alls F)) (alls G)
  omega
theorem alls_denied (F G : Fm) : (alls (.imp (fNot G) (fNot F))).length ≤ (alls (.imp F G)).length := alls_sub fun K hK ha => by
  simp only [subs, List.mem_cons, List.mem_append, List.not_mem_nil, or_false, or_assoc] at hK ⊢
  rcases hK with rfl | rfl | hK | rfl | rfl | hK | rfl
  · cases ha
  · cases ha
  · exact .inr (.inr hK)
  · cases ha
  · cases ha
  · exact .inr (.inl hK)
  · cases ha
theorem alls_over (F G : Fm) : (alls (.imp (.all F) (.all G))).length ≤ (alls (.imp F G)).length + 2 := by
  have : (alls (.imp (.all F) (.all G))).length ≤ (Fm.all F :: .all G :: alls (.imp F G)).length := by
    refine List.Nodup.length_le_of_subset (alls_nodup _) fun K hK => ?_
    obtain ⟨a, b⟩ := (mem_alls _ K).mp hK
    simp only [subs, List.mem_cons, List.mem_append, List.cons_append] at a
    rcases a with rfl | rfl | a | rfl | a
    · cases b
    · exact List.mem_cons_self
    · exact List.mem_cons_of_mem _ (List.mem_cons_of_mem _ ((mem_alls _ K).mpr ⟨by simp [subs, a], b⟩))
    · exact List.mem_cons_of_mem _ List.mem_cons_self
    · exact List.mem_cons_of_mem _ (List.mem_cons_of_mem _ ((mem_alls _ K).mpr ⟨by simp [subs, a], b⟩))
  simpa using this
/-! ### what is known by hand -/
abbrev Itm := Fm × Fm × Drv
def kMate : Itm := (.atm .b, .imp (.atm .c) (.atm .b), .right (.imp (.atm .c) (.atm .b)) (.same (.atm .b)))
def kNext (w : Nat) (it : Itm) : Itm :=
  if w = 0 then (.all it.1, .all it.2.1, dOver it.2.1 it.2.2)
  else
    let m : Itm := (fNot it.2.1, fNot it.1, dDenied it.1 it.2.1 it.2.2)
    if 1 < w then (fBoth m.1 kMate.1, fBoth m.2.1 kMate.2.1, dJoined m.1 m.2.1 m.2.2 kMate.1 kMate.2.1 kMate.2.2) else m
def k0 : Itm := (.atm .a, .atm .a, .same (.atm .a))
def kRun : List Nat → Itm
  | [] => k0
  | w :: r => kNext w (kRun r)
def kOk (it : Itm) : Bool := isDrv [it.1] [it.2.1] it.2.2 && (decide (size it.1 + size it.2.1 ≤ 60) && (decide ((alls (.imp it.1 it.2.1)).length ≤ 6) && (decide (it.2.2.depth ≤ 60) && decide (it.2.2.bn ≤ 6))))
def kWords : Nat → List (List Nat)
  | 0 => [[]]
  | n + 1 => (kWords n).flatMap fun r => [0 :: r, 1 :: r, 2 :: r]
theorem kWords_mem : ∀ (n : Nat) (r : List Nat), r.length = n → (∀ w ∈ r, w ≤ 2) → r ∈ kWords n
  | 0, [], _, _ => by simp [kWords]
  | n + 1, w :: r, h, hw => by
    simp only [kWords, List.mem_flatMap]
    refine ⟨r, kWords_mem n r (by simpa using h) (fun x hx => hw x (List.mem_cons_of_mem _ hx)), ?_⟩
    have := hw w List.mem_cons_self
    rcases (by omega : w = 0 ∨ w = 1 ∨ w = 2) with rfl | rfl | rfl <;> simp
theorem k_all : ((kWords 0 ++ kWords 1 ++ kWords 2 ++ kWords 3).all fun r => kOk (kRun r)) = true := by decide +kernel
theorem kNext_2 {w : Nat} (h : 1 < w) (it : Itm) : kNext w it = kNext 2 it := by
  unfold kNext
  rw [if_neg (show ¬ w = 0 by omega), if_neg (show ¬ (2 : Nat) = 0 by omega), if_pos h, if_pos (show 1 < 2 by omega)]
theorem k_ok {r : List Nat} (h : r.length ≤ 3) : kOk (kRun r) = true := by
  have e : ∀ r : List Nat, kRun r = kRun (r.map fun w => min w 2) := by
    intro r
    induction r with
    | nil => rfl
    | cons w r ih =>
      show kNext w (kRun r) = kNext (min w 2) (kRun (r.map fun w => min w 2))
      rw [← ih]
      by_cases hw : 1 < w
      · rw [kNext_2 hw, show min w 2 = 2 by omega]
      · rw [show min w 2 = w by omega]
  rw [e]
  refine List.all_eq_true.mp k_all _ ?_
  have hm := kWords_mem r.length (r.map fun w => min w 2) (by simp) (fun w hw => by
    obtain ⟨x, _, rfl⟩ := List.mem_map.mp hw
    exact Nat.min_le_right _ _)
  simp only [List.mem_append]
  rcases (by omega : r.length = 0 ∨ r.length = 1 ∨ r.length = 2 ∨ r.length = 3) with q | q | q | q <;> rw [q] at hm <;> simp [hm]
theorem kNext_vp {w : Nat} {it : Itm} (h : VP it.1 it.2.1) : VP (kNext w it).1 (kNext w it).2.1 := by
  unfold kNext
  split
  · exact vp_over h
  · dsimp only
    split
    · exact vp_joined (vp_denied h) (fun t q _ => q)
    · exact vp_denied h
theorem kRun_vp : ∀ r, VP (kRun r).1 (kRun r).2.1
  | [] => vp_refl _
  | w :: r => kNext_vp (kRun_vp r)
end AB
end
section
set_option Elab.async false
set_option linter.all false
set_option maxRecDepth 100000
/-! The law's trees: formulas as nested tuples; ==, in. -/
namespace AT
open PySem PySem.Spec PyProof.Rows L2
open AB (Fm At Drv)
def TrAt (H : Hp) : Fm → Addr → Prop
  | .atm x, p => H p = some (.tup [.str "atom", .str (letS x)])
  | .no, p => H p = some (.tup [.str "no"])
  | .imp f g, p => ∃ a b, H p = some (.tup [.str "if", .ref a, .ref b]) ∧ TrAt H f a ∧ TrAt H g b
  | .all f, p => ∃ a, H p = some (.tup [.str "all", .ref a]) ∧ TrAt H f a
theorem TrAt.kf {H H' : Hp} (k : KF H H') : ∀ {F : Fm} {p : Addr}, TrAt H F p → TrAt H' F p
  | .atm _, _, h => k.t _ _ (show H _ = _ from h)
  | .no, _, h => k.t _ _ (show H _ = _ from h)
  | .imp _ _, _, ⟨a, b, e, x, y⟩ => ⟨a, b, k.t _ _ e, TrAt.kf k x, TrAt.kf k y⟩
  | .all _, _, ⟨a, e, x⟩ => ⟨a, k.t _ _ e, TrAt.kf k x⟩
theorem TrAt.kp {H H' : Hp} (k : Kp H H') {F : Fm} {p : Addr} (h : TrAt H F p) : TrAt H' F p := h.kf (.of k)
/-- what a tree's tuple holds behind the word -/
def TrPs (H : Hp) : Fm → List V → Prop
  | .atm x, vs => vs = [.str (letS x)]
  | .no, vs => vs = []
  | .imp f g, vs => ∃ a b, vs = [.ref a, .ref b] ∧ TrAt H f a ∧ TrAt H g b
  | .all f, vs => ∃ a, vs = [.ref a] ∧ TrAt H f a
theorem TrAt.tup {H : Hp} {F : Fm} {p : Addr} (h : TrAt H F p) : ∃ vs, H p = some (.tup (.str (kindS F) :: vs)) ∧ TrPs H F vs := by
  cases F with
  | atm x => exact ⟨_, h, rfl⟩
  | no => exact ⟨_, h, rfl⟩
  | imp f g => obtain ⟨a, b, e, x, y⟩ := h; exact ⟨_, e, a, b, rfl, x, y⟩
  | all f => obtain ⟨a, e, x⟩ := h; exact ⟨_, e, a, rfl, x⟩
/-! ### as data -/
def tdat : Fm → PyData
  | .atm x => .tuple [.str "atom", .str (letS x)]
  | .no => .tuple [.str "no"]
  | .imp f g => .tuple [.str "if", tdat f, tdat g]
  | .all f => .tuple [.str "all", tdat f]
theorem TrAt.dp {K : PySem.W.Frag} {H : Hp} : ∀ {F : Fm} {p : Addr}, TrAt H F p → Dp K H (.ref p) (tdat F)
  | .atm _, _, h => .tup (SqT.of h) (.cons (.str _) (.cons (.str _) .nil))
  | .no, _, h => .tup (SqT.of h) (.cons (.str _) .nil)
  | .imp _ _, _, ⟨a, b, e, x, y⟩ => .tup (SqT.of e) (.cons (.str _) (.cons (TrAt.dp x) (.cons (TrAt.dp y) .nil)))
  | .all _, _, ⟨a, e, x⟩ => .tup (SqT.of e) (.cons (.str _) (.cons (TrAt.dp x) .nil))
theorem letS_ok : ∀ x : At, PyData.strOk (letS x) = true
  | .a => by decide +kernel
  | .b => by decide +kernel
  | .c => by decide +kernel
  | .P => by decide +kernel
theorem wd_ok : PyData.strOk (Str.ofString "atom") = true ∧ PyData.strOk (Str.ofString "no") = true ∧ PyData.strOk (Str.ofString "if") = true ∧ PyData.strOk (Str.ofString "all") = true := by decide +kernel
theorem tdat_lay : ∀ F : Fm, (tdat F).canLay0 = true
  | .atm x => by simp [tdat, PyData.canLay0, PyData.canLayAll0, wd_ok, letS_ok x]
  | .no => by simp [tdat, PyData.canLay0, PyData.canLayAll0, wd_ok]
  | .imp f g => by simp [tdat, PyData.canLay0, PyData.canLayAll0, tdat_lay f, tdat_lay g, wd_ok]
  | .all f => by simp [tdat, PyData.canLay0, PyData.canLayAll0, tdat_lay f, wd_ok]
theorem tdat_depth : ∀ F : Fm, (tdat F).depth ≤ AB.dep F
  | .atm _ => by simp [tdat, PyData.depth, PyData.depthAll, AB.dep]
  | .no => by simp [tdat, PyData.depth, PyData.depthAll, AB.dep]
  | .imp f g => by
    have a := tdat_depth f
    have b := tdat_depth g
    simp only [tdat, PyData.depth, PyData.depthAll, AB.dep]; omega
  | .all f => by
    have a := tdat_depth f
    simp only [tdat, PyData.depth, PyData.depthAll, AB.dep]; omega
theorem seq_ne {a b : String} (h : (Str.ofString a == Str.ofString b) = false) (xs ys : List PyData) : PyData.eqvAll (.str (Str.ofString a) :: xs) (.str (Str.ofString b) :: ys) = false := by
  simp only [PyData.eqvAll, PyData.eqv, h, Bool.false_and]
theorem tdat_eqv : ∀ F G : Fm, PyData.eqv (tdat F) (tdat G) = decide (F = G)
  | .atm x, .atm y => by
    simp only [tdat, PyData.eqv, PyData.eqvAll, beq_self_eq_true, Bool.true_and, Bool.and_true]
    by_cases h : x = y
    · subst h; simp
    · rw [beq_eq_false_iff_ne.mpr fun e => h (letS_inj e)]; simp [h]
  | .no, .no => by simp [tdat, PyData.eqv, PyData.eqvAll]
  | .imp f g, .imp f' g' => by
    simp only [tdat, PyData.eqv, PyData.eqvAll, beq_self_eq_true, Bool.true_and, Bool.and_true, tdat_eqv f f', tdat_eqv g g']
    by_cases h : f = f' <;> by_cases h2 : g = g' <;> simp [h, h2]
  | .all f, .all f' => by
    simp only [tdat, PyData.eqv, PyData.eqvAll, beq_self_eq_true, Bool.true_and, Bool.and_true, tdat_eqv f f']
    by_cases h : f = f' <;> simp [h]
  | .atm _, .no => by rw [decide_eq_false nofun]; exact seq_ne (by decide +kernel) _ _
  | .atm _, .imp _ _ => by rw [decide_eq_false nofun]; exact seq_ne (by decide +kernel) _ _
  | .atm _, .all _ => by rw [decide_eq_false nofun]; exact seq_ne (by decide +kernel) _ _
  | .no, .atm _ => by rw [decide_eq_false nofun]; exact seq_ne (by decide +kernel) _ _
  | .no, .imp _ _ => by rw [decide_eq_false nofun]; exact seq_ne (by decide +kernel) _ _
  | .no, .all _ => by rw [decide_eq_false nofun]; exact seq_ne (by decide +kernel) _ _
  | .imp _ _, .atm _ => by rw [decide_eq_false nofun]; exact seq_ne (by decide +kernel) _ _
  | .imp _ _, .no => by rw [decide_eq_false nofun]; exact seq_ne (by decide +kernel) _ _
  | .imp _ _, .all _ => by rw [decide_eq_false nofun]; exact seq_ne (by decide +kernel) _ _
  | .all _, .atm _ => by rw [decide_eq_false nofun]; exact seq_ne (by decide +kernel) _ _
  | .all _, .no => by rw [decide_eq_false nofun]; exact seq_ne (by decide +kernel) _ _
  | .all _, .imp _ _ => by rw [decide_eq_false nofun]; exact seq_ne (by decide +kernel) _ _
/-- an encoding by data: equal data, equal things -/
structure Enc {α : Type} [DecidableEq α] (enc : α → PyData) : Prop where
  eqv : ∀ a b, PyData.eqv (enc a) (enc b) = decide (a = b)
  lay : ∀ a, (enc a).canLay0 = true
theorem encT : Enc tdat := ⟨tdat_eqv, tdat_lay⟩
theorem Enc.layAll {α : Type} [DecidableEq α] {enc : α → PyData} (E : Enc enc) : ∀ as : List α, PyData.canLayAll0 (as.map enc) = true
  | [] => by simp [PyData.canLayAll0]
  | a :: as => by simp [PyData.canLayAll0, E.lay a, E.layAll as]
theorem Enc.eqvAll {α : Type} [DecidableEq α] {enc : α → PyData} (E : Enc enc) : ∀ as bs : List α, PyData.eqvAll (as.map enc) (bs.map enc) = decide (as = bs)
  | [], [] => by simp [PyData.eqvAll]
  | [], b :: bs => by simp [PyData.eqvAll]
  | a :: as, [] => by simp [PyData.eqvAll]
  | a :: as, b :: bs => by
    simp only [List.map_cons, PyData.eqvAll, E.eqv a b, E.eqvAll as bs]
    by_cases h : a = b <;> by_cases h2 : as = bs <;> simp [h, h2]
theorem Enc.any {α : Type} [DecidableEq α] {enc : α → PyData} (E : Enc enc) (as : List α) (a : α) : ((as.map enc).any fun z => PyData.eqv z (enc a)) = decide (a ∈ as) := by
  rw [List.any_map]
  by_cases h : a ∈ as
  · rw [decide_eq_true h]
    exact List.any_eq_true.mpr ⟨a, h, by simp [E.eqv]⟩
  · rw [decide_eq_false h, List.any_eq_false]
    intro x hx
    simp only [Function.comp, E.eqv, decide_eq_true_eq]
    rintro rfl; exact h hx
/-- tuples of such -/
def encTup {α : Type} (enc : α → PyData) (as : List α) : PyData := .tuple (as.map enc)
theorem Enc.tup {α : Type} [DecidableEq α] {enc : α → PyData} (E : Enc enc) : Enc (encTup enc) := ⟨fun as bs => by
  unfold encTup; simp only [PyData.eqv, E.eqvAll], fun as => by unfold encTup; simp only [PyData.canLay0, E.layAll]⟩
theorem depthAll_le {α : Type} {enc : α → PyData} {n : Nat} : ∀ {as : List α}, (∀ a ∈ as, (enc a).depth ≤ n) → PyData.depthAll (as.map enc) ≤ n
  | [], _ => by simp [PyData.depthAll]
  | a :: as, h => by
    have x := h a List.mem_cons_self
    have y := depthAll_le (as := as) fun b hb => h b (List.mem_cons_of_mem _ hb)
    simp only [List.map_cons, PyData.depthAll]; omega
theorem shaped_of {d : PyData} (h : d.canLay0 = true) (hd : d.depth ≤ 64) : SeqAt.shaped d = true := by
  show (d.canLay0 && decide (d.depth ≤ 64)) = true
  rw [h, decide_eq_true hd]; rfl
/-! ### in, not in: a list or a tuple -/
section
variable {X : Cx}
def rInA (K : PySem.W.Frag) (f : Bool → Bool) : R2 := fun x y H Q => ∃ d ds, Dp K H x d ∧ (Dp K H y (.list ds) ∨ Dp K H y (.tuple ds)) ∧ SeqAt.shaped d = true ∧ PyData.canLayAll0 ds = true ∧ Q (.bl (f (ds.any fun z => PyData.eqv z d))) H
theorem room_in {A : Around} {d : PyData} (sd : SeqAt.shaped d = true) (hu : A.units + 65 < cLine) (n : Nat) : A.units + 1 + min n d.depth < cLine := by
  have h := SeqAt.depth_of_shaped sd
  have h2 : min n d.depth ≤ d.depth := Nat.min_le_right _ _
  omega
theorem op_inA (hu : X.A.units + 65 < cLine) : OpR X (compareOp .In) (rInA X.K fun b => b) := by
  intro pins s σ H x y v u Q I rx ry h
  obtain ⟨d, ds, hd, he, sd, se, q⟩ := h
  obtain ⟨as, r1⟩ := Dp.reads I d x v hd rx
  rcases he with he | he
  · obtain ⟨bs, r2⟩ := Dp.reads I (.list ds) y u he ry
    exact SeqAt.in_list_reads r2 r1 se (SeqAt.canLay_of_shaped sd) (room_in sd hu _) ⟨.bl _, H, I, rfl, q⟩
  · obtain ⟨bs, r2⟩ := Dp.reads I (.tuple ds) y u he ry
    exact SeqAt.in_tuple_reads r2 r1 se (SeqAt.canLay_of_shaped sd) (room_in sd hu _) ⟨.bl _, H, I, rfl, q⟩
theorem op_notInA (hu : X.A.units + 65 < cLine) : OpR X (compareOp .NotIn) (rInA X.K fun b => !b) := by
  intro pins s σ H x y v u Q I rx ry h
  obtain ⟨d, ds, hd, he, sd, se, q⟩ := h
  obtain ⟨as, r1⟩ := Dp.reads I d x v hd rx
  rcases he with he | he
  · obtain ⟨bs, r2⟩ := Dp.reads I (.list ds) y u he ry
    exact SeqAt.notIn_list_reads r2 r1 se (SeqAt.canLay_of_shaped sd) (room_in sd hu _) ⟨.bl _, H, I, rfl, q⟩
  · obtain ⟨bs, r2⟩ := Dp.reads I (.tuple ds) y u he ry
    exact SeqAt.notIn_tuple_reads r2 r1 se (SeqAt.canLay_of_shaped sd) (room_in sd hu _) ⟨.bl _, H, I, rfl, q⟩
end
/-! ### lists and tuples of trees -/
structure TLs (H : Hp) (l : Addr) (Fs : List Fm) : Prop where
  ex : ∃ ps : List Addr, H l = some (.lst (ps.map V.ref)) ∧ Paired (fun p F => TrAt H F p) ps Fs
structure TTs (H : Hp) (l : Addr) (Fs : List Fm) : Prop where
  ex : ∃ ps : List Addr, H l = some (.tup (ps.map V.ref)) ∧ Paired (fun p F => TrAt H F p) ps Fs
theorem TLs.kp {H H' : Hp} {l : Addr} {Fs : List Fm} (k : Kp H H') (h : TLs H l Fs) : TLs H' l Fs := let ⟨ps, e, p⟩ := h.ex; ⟨ps, k _ _ e, Paired.mapP p fun _ _ t => t.kp k⟩
theorem TTs.kf {H H' : Hp} {l : Addr} {Fs : List Fm} (k : KF H H') (h : TTs H l Fs) : TTs H' l Fs := let ⟨ps, e, p⟩ := h.ex; ⟨ps, k.t _ _ e, Paired.mapP p fun _ _ t => t.kf k⟩
theorem dpAll_tr {K : PySem.W.Frag} {H : Hp} : ∀ {ps : List Addr} {Fs : List Fm}, Paired (fun p F => TrAt H F p) ps Fs → DpAll K H (ps.map V.ref) (Fs.map tdat)
  | _, _, .nil => .nil
  | _, _, .cons h t => .cons h.dp (dpAll_tr t)
theorem TLs.dp {K : PySem.W.Frag} {H : Hp} {l : Addr} {Fs : List Fm} (h : TLs H l Fs) : Dp K H (.ref l) (.list (Fs.map tdat)) := let ⟨ps, e, p⟩ := h.ex; .lst (SqL.of e) (dpAll_tr p)
theorem TTs.dp {K : PySem.W.Frag} {H : Hp} {l : Addr} {Fs : List Fm} (h : TTs H l Fs) : Dp K H (.ref l) (encTup tdat Fs) := let ⟨ps, e, p⟩ := h.ex; .tup (SqT.of e) (dpAll_tr p)
theorem shaped_tr {F : Fm} (h : AB.dep F ≤ 64) : SeqAt.shaped (tdat F) = true := shaped_of (tdat_lay F) (Nat.le_trans (tdat_depth F) h)
theorem in_trL {K : PySem.W.Frag} {H : Hp} {Q : VK} {f : Bool → Bool} {F : Fm} {p l : Addr} {Fs : List Fm} (h : TrAt H F p) (g : TLs H l Fs) (hd : AB.dep F ≤ 64) (q : Q (.bl (f (decide (F ∈ Fs)))) H) : rInA K f (.ref p) (.ref l) H Q :=
  ⟨_, _, h.dp, .inl g.dp, shaped_tr hd, encT.layAll Fs, by rw [encT.any]; exact q⟩
theorem in_trT {K : PySem.W.Frag} {H : Hp} {Q : VK} {f : Bool → Bool} {F : Fm} {p l : Addr} {Fs : List Fm} (h : TrAt H F p) (g : TTs H l Fs) (hd : AB.dep F ≤ 64) (q : Q (.bl (f (decide (F ∈ Fs)))) H) : rInA K f (.ref p) (.ref l) H Q :=
  ⟨_, _, h.dp, .inr g.dp, shaped_tr hd, encT.layAll Fs, by rw [encT.any]; exact q⟩
theorem ne_tr {K : PySem.W.Frag} {H : Hp} {Q : VK} {F G : Fm} {p l : Addr} (h : TrAt H F p) (g : TrAt H G l) (hd : AB.dep F ≤ 64) (hd2 : AB.dep G ≤ 64) (q : Q (.bl (!decide (F = G))) H) : rNeD K (.ref p) (.ref l) H Q :=
  ⟨_, _, h.dp, g.dp, shaped_tr hd, shaped_tr hd2, by rw [tdat_eqv]; exact q⟩
theorem Room.u65 {k : Nat} {A : Around} (r : Room k A) : A.units + 65 < cLine := by have := r.un; omega
end AT
end
section
set_option Elab.async false
set_option linter.all false
set_option maxRecDepth 100000
/-! _law_not, _law_both, _law_made, _law_tree, _law_size. -/
namespace AT
open PySem PySem.Spec PyProof.Rows L2
open AB (Fm At Drv)
theorem two_sz : 2 ≤ sizeLine := by decide +kernel
theorem three_sz : 3 ≤ sizeLine := by decide +kernel
/-- a new tree -/
theorem tr_no {H : Hp} {t : Addr} : TrAt (upd H t (.tup [.str "no"])) .no t := upd_same
theorem tr_all {H : Hp} {t p : Addr} {F : Fm} (ht : H t = none) (h : TrAt H F p) : TrAt (upd H t (.tup [.str "all", .ref p])) (.all F) t := ⟨p, upd_same, h.kf (kf_n ht)⟩
theorem tr_imp {H : Hp} {t p q : Addr} {F G : Fm} (ht : H t = none) (h : TrAt H F p) (g : TrAt H G q) : TrAt (upd H t (.tup [.str "if", .ref p, .ref q])) (.imp F G) t := ⟨p, q, upd_same, h.kf (kf_n ht), g.kf (kf_n ht)⟩
theorem kp_new {H : Hp} {t : Addr} {o : HO} (ht : H t = none) : Kp H (upd H t o) := kp_up (Same.refl H) ht
/-- a new tree is handed on -/
def spTr (H : Hp) (F : Fm) (Q : VK) : Prop := ∀ p H', TrAt H' F p → Kp H H' → Q (.ref p) H'
theorem TrPs.dir {H : Hp} {F : Fm} {vs : List V} (h : TrPs H F vs) : (∃ x, F = .atm x ∧ vs = [.str (letS x)]) ∨ ∃ qs : List Addr, vs = qs.map V.ref ∧ Paired (fun p G => TrAt H G p) qs (AB.dir F) ∧ ∀ x, F ≠ .atm x := by
  cases F with
  | atm x => exact .inl ⟨x, rfl, h⟩
  | no => exact .inr ⟨[], h, .nil, nofun⟩
  | imp f g => obtain ⟨a, b, e, x, y⟩ := h; exact .inr ⟨[a, b], e, .cons x (.cons y .nil), nofun⟩
  | all f => obtain ⟨a, e, x⟩ := h; exact .inr ⟨[a], e, .cons x .nil, nofun⟩
theorem dir_dep {F G : Fm} (h : G ∈ AB.dir F) : AB.dep G + 1 ≤ AB.dep F := by
  cases F with
  | imp f g =>
    simp only [AB.dir, List.mem_cons, List.not_mem_nil, or_false] at h
    rcases h with rfl | rfl <;> simp only [AB.dep] <;> omega
  | all f => simp only [AB.dir, List.mem_cons, List.not_mem_nil, or_false] at h; subst h; simp [AB.dep]
  | atm x => simp [AB.dir] at h
  | no => simp [AB.dir] at h
theorem dir_len2 (F : Fm) : (AB.dir F).length ≤ 2 := by cases F <;> simp [AB.dir]
theorem cut1 (x : V) (zs : List V) : cutV (x :: zs) (some 1) none = zs := by
  unfold cutV
  have e1 : HT.sIx (x :: zs).length 0 (some 1) = 1 := by
    unfold HT.sIx; simp
  have e2 : HT.sIx (x :: zs).length (x :: zs).length none = (x :: zs).length := rfl
  rw [e1, e2]
  simp
theorem sIx1 (x : V) (zs : List V) : ¬ (HT.sIx (x :: zs).length 0 (some 1) = 0 ∧ HT.sIx (x :: zs).length (x :: zs).length none = (x :: zs).length) := by
  rintro ⟨z, _⟩
  have : HT.sIx (x :: zs).length 0 (some 1) = 1 := by unfold HT.sIx; simp
  omega
section
variable {P : Program} {w : World} {K : PySem.W.Frag} {mg : Str → Option Value} {base : Heap} (T : Tx w K mg)
/-! ### _law_not, _law_both -/
theorem sc_lnot : FnScope ["_law_tree_here"] ["_law_tree_here"] (defScope s__law_not) := ⟨rfl, rfl, rfl, by decide +kernel, rfl, by decide +kernel, by decide +kernel⟩
theorem sc_lboth : FnScope ["_law_front", "_law_back"] ["_law_front", "_law_back"] (defScope s__law_both) := ⟨rfl, rfl, rfl, by decide +kernel, rfl, by decide +kernel, by decide +kernel⟩
def spLNot : Sp := fun vs H Q _ => ∃ (p : Addr) (F : Fm), vs = [.ref p] ∧ TrAt H F p ∧ spTr H (AB.fNot F) Q
def spLBoth : Sp := fun vs H Q _ => ∃ (p q : Addr) (F G : Fm), vs = [.ref p, .ref q] ∧ TrAt H F p ∧ TrAt H G q ∧ spTr H (AB.fBoth F G) Q
include T
theorem bd_lnot : L2.Binds K (fdOf K (f__law_not K)) ["_law_tree_here"] [] := T.F__law_not.binds fun _ _ _ _ _ _ us hl => match us, hl with | [_], _ => rfl
theorem bd_lboth : L2.Binds K (fdOf K (f__law_both K)) ["_law_front", "_law_back"] [] := T.F__law_both.binds fun _ _ _ _ _ _ us hl => match us, hl with | [_, _], _ => rfl
theorem ok_lnot : FH P w K mg base 1 (f__law_not K) ["_law_tree_here"] spLNot := by
  refine T.F__law_not.ok sc_lnot (fun vs H Q E h => by obtain ⟨_, _, rfl, _⟩ := h; rfl) (fun cdv A outer s H vs Q E hr h => ⟨_, PSs.nox (
    pss_one (ps_ret (pe_tup (pa_cons pe_str (pa_cons (pv 0) (pa_cons (pe_tup (pa_cons pe_str pa_nil)) pa_nil)))))), ?_⟩)
  obtain ⟨p, F, rfl, hF, q⟩ := h
  refine ⟨_, rfl, Nat.le_trans (Nat.le_succ 1) two_sz, fun t ht => ⟨three_sz, fun u hu => ?_⟩⟩
  exact q u _ (tr_imp hu (hF.kf (kf_n ht)) tr_no) ((kp_new ht).trans (kp_new hu))
theorem ok_lboth : FH P w K mg base 2 (f__law_both K) ["_law_front", "_law_back"] spLBoth := by
  have g := ok_lnot (P := P) (base := base) T
  refine T.F__law_both.ok sc_lboth (fun vs H Q E h => by obtain ⟨_, _, _, _, rfl, _⟩ := h; rfl) (fun cdv A outer s H vs Q E hr h => ⟨_, PSs.nox (
    pss_one (ps_ret (pe_call g hr rfl T.g__law_not T.F__law_not.kp (bd_lnot T) .nil pass0 (pa_cons (pe_tup (pa_cons pe_str (pa_cons (pv 0) (pa_cons (pe_call g hr rfl T.g__law_not T.F__law_not.kp (bd_lnot T) .nil pass0 (pa_cons (pv 1) pa_nil)) pa_nil)))) pa_nil)))), ?_⟩)
  obtain ⟨p, r, F, G, rfl, hF, hG, q⟩ := h
  refine ⟨_, rfl, _, rfl, r, G, rfl, hG, fun n H1 hn k1 => ⟨three_sz, fun t ht => ?_⟩⟩
  exact ⟨t, .imp F (AB.fNot G), rfl, tr_imp ht (hF.kp k1) hn, fun u H2 hu k2 => q u H2 hu ((k1.trans (kp_new ht)).trans k2)⟩
/-! ### _law_made -/
omit T in
theorem sc_lmade : FnScope ["_law_tree_here"] ["_law_tree_here"] (defScope s__law_made) := ⟨rfl, rfl, rfl, by decide +kernel, rfl, by decide +kernel, by decide +kernel⟩
def spLMade (K : PySem.W.Frag) (m : Nat) : Sp := fun vs H Q _ => ∃ (p : Addr) (F : Fm), vs = [.ref p] ∧ TrAt H F p ∧ AB.dep F ≤ m ∧ AB.size F ≤ 1000 ∧ (AB.alls F).length ≤ 28 ∧ spNew K H F Q
theorem bd_lmade : L2.Binds K (fdOf K (f__law_made K)) ["_law_tree_here"] [] := T.F__law_made.binds fun _ _ _ _ _ _ us hl => match us, hl with | [_], _ => rfl
theorem ok_lmade {m k : Nat} (hk : 5 ≤ k) (FD : FH P w K mg base k (f__law_made K) ["_law_tree_here"] (spLMade K m)) : FH P w K mg base (k + 1) (f__law_made K) ["_law_tree_here"] (spLMade K (m + 1)) := by
  have gA := (ok_atom (P := P) (base := base) T).mono hk
  have gN := (ok_no (P := P) (base := base) T).mono hk
  have gE := (ok_every (P := P) (base := base) T).mono hk
  have gR := (ok_rsh (P := P) (base := base) T).mono hk
  refine T.F__law_made.ok sc_lmade (fun vs H Q E h => by obtain ⟨_, _, rfl, _⟩ := h; rfl) (fun cdv A outer s H vs Q E hr h => ⟨_, PSs.nox (
    pss_cons (ps_if (pt_cmpR op_eq (pe_ix ix_tup (pv 0) pe_int (fun _ _ => rfl)) pe_str (nomark _)) (pss_one (ps_ret (pe_call gA hr rfl T.g_atom T.F_atom.kp (bd_atom T) .nil pass0 (pa_cons (pe_ix ix_tup (pv 0) pe_int (fun _ _ => rfl)) pa_nil)))) pss_nil)
    (pss_cons (ps_if (pt_cmpR op_eq (pe_ix ix_tup (pv 0) pe_int (fun _ _ => rfl)) pe_str (nomark _)) (pss_one (ps_ret (pe_call0 gN hr rfl T.g_no T.F_no.kp (bd_no T) .nil pass0))) pss_nil)
    (pss_cons (ps_if (pt_cmpR op_eq (pe_ix ix_tup (pv 0) pe_int (fun _ _ => rfl)) pe_str (nomark _)) (pss_one (ps_ret (pe_call gE hr rfl T.g_every T.F_every.kp (bd_every T) .nil pass0 (pa_cons (pe_call FD hr rfl T.g__law_made T.F__law_made.kp (bd_lmade T) .nil pass0 (pa_cons (pe_ix ix_tup (pv 0) pe_int (fun _ _ => rfl)) pa_nil)) pa_nil)))) pss_nil)
    (pss_one (ps_ret (pe_op (op_own T.self_first (meth_rsh T) gR hr (bd_rsh T) pass0) (pe_call FD hr rfl T.g__law_made T.F__law_made.kp (bd_lmade T) .nil pass0 (pa_cons (pe_ix ix_tup (pv 0) pe_int (fun _ _ => rfl)) pa_nil)) (pe_call FD hr rfl T.g__law_made T.F__law_made.kp (bd_lmade T) .nil pass0 (pa_cons (pe_ix ix_tup (pv 0) pe_int (fun _ _ => rfl)) pa_nil)))))))), ?_⟩)
  obtain ⟨p, F, rfl, hF, hd, hz, ha, q⟩ := h
  obtain ⟨vs, ep, hps⟩ := hF.tup
  have al : ∀ J ∈ AB.dir F, AB.dep J ≤ m ∧ AB.size J ≤ 1000 ∧ (AB.alls J).length ≤ 28 := fun J hJ => by
    have a := dir_dep hJ
    have b := AB.dir_size hJ
    have c := AB.alls_le (AB.dir_subs hJ (AB.subs_self F))
    omega
  refine ⟨_, rfl, p, _, _, _, rfl, rfl, SqT.of ep, atI_nat (j := 0) rfl, rfl, _, rfl, ?_⟩
  rw [kq_atm F]
  cases F with
  | atm x =>
    cases hps
    exact iteT ⟨_, rfl, p, _, _, _, rfl, rfl, SqT.of ep, atI_nat (j := 1) rfl, x, rfl, q⟩
  | no =>
    refine iteF ⟨_, rfl, p, _, _, _, rfl, rfl, SqT.of ep, atI_nat (j := 0) rfl, rfl, _, rfl, ?_⟩
    rw [kq_no .no]
    exact iteT ⟨rfl, q⟩
  | all f =>
    obtain ⟨a, rfl, ta⟩ := hps
    obtain ⟨d1, z1, a1⟩ := al f (by simp [AB.dir])
    refine iteF ⟨_, rfl, p, _, _, _, rfl, rfl, SqT.of ep, atI_nat (j := 0) rfl, rfl, _, rfl, ?_⟩
    rw [kq_no (.all f)]
    refine iteF ⟨_, rfl, p, _, _, _, rfl, rfl, SqT.of ep, atI_nat (j := 0) rfl, rfl, _, rfl, ?_⟩
    rw [kq_all (.all f)]
    refine iteT ⟨_, rfl, p, _, _, _, rfl, rfl, SqT.of ep, atI_nat (j := 1) rfl, a, f, rfl, ta, d1, z1, a1, fun b H1 hb k1 => ?_⟩
    exact ⟨b, f, rfl, hb, by show (AB.alls f).length + 1 < 60; omega, hz, fun c H2 hc k2 => q c H2 hc (k1.trans k2)⟩
  | imp f g =>
    obtain ⟨a, b, rfl, ta, tb⟩ := hps
    obtain ⟨d1, z1, a1⟩ := al f (by simp [AB.dir])
    obtain ⟨d2, z2, a2⟩ := al g (by simp [AB.dir])
    refine iteF ⟨_, rfl, p, _, _, _, rfl, rfl, SqT.of ep, atI_nat (j := 0) rfl, rfl, _, rfl, ?_⟩
    rw [kq_no (.imp f g)]
    refine iteF ⟨_, rfl, p, _, _, _, rfl, rfl, SqT.of ep, atI_nat (j := 0) rfl, rfl, _, rfl, ?_⟩
    rw [kq_all (.imp f g)]
    refine iteF ⟨_, rfl, p, _, _, _, rfl, rfl, SqT.of ep, atI_nat (j := 1) rfl, a, f, rfl, ta, d1, z1, a1, fun x H1 hx k1 => ?_⟩
    refine ⟨_, rfl, p, _, _, _, rfl, rfl, SqT.of (k1 _ _ ep), atI_nat (j := 2) rfl, b, g, rfl, tb.kp k1, d2, z2, a2, fun y H2 hy k2 => ?_⟩
    have hx2 := hx.kf (.of k2)
    obtain ⟨_, f1⟩ := hx2.fo
    obtain ⟨dx1, _, _, _, _, _, _, e1, _⟩ := f1.ex
    obtain ⟨_, f2⟩ := hy.fo
    obtain ⟨dx2, _, _, _, _, _, _, e2, _⟩ := f2.ex
    refine ⟨x, y, dx1, dx2, _, _, rfl, rfl, e1, e2, x, y, f, g, rfl, hx2, hy, ?_, hz, fun c H3 hc k3 => ⟨c, rfl, q c H3 hc ((k1.trans k2).trans k3)⟩⟩
    show (AB.alls f).length + (AB.alls g).length < 60
    omega
theorem lmade_all : ∀ m, FH P w K mg base (5 + m) (f__law_made K) ["_law_tree_here"] (spLMade K m)
  | 0 => ⟨fun vs H Q E h => by obtain ⟨_, _, rfl, _⟩ := h; rfl, fun A outer s H args us vs Q E hr e0 hb r h => by
    obtain ⟨_, F, _, _, z, _⟩ := h
    have := AB.dep_pos F
    omega⟩
  | m + 1 => ok_lmade T (Nat.le_add_right 5 m) (lmade_all m)
end
end AT
end
section
set_option Elab.async false
set_option linter.all false
set_option maxRecDepth 100000
/-! _law_tree, _law_size. -/
namespace AT
open PySem PySem.Spec PyProof.Rows L2
open AB (Fm At Drv)
section
variable {P : Program} {w : World} {K : PySem.W.Frag} {mg : Str → Option Value} {base : Heap} (T : Tx w K mg)
abbrev Nlt : List Str := ["_law_code", "_law_branch"]
theorem sc_ltree : FnScope Nlt ["_law_code"] (defScope s__law_tree) := ⟨rfl, rfl, rfl, by decide +kernel, rfl, by decide +kernel, by decide +kernel⟩
def spLTree (K : PySem.W.Frag) (m : Nat) : Sp := fun vs H Q _ => ∃ (a : Addr) (F : Fm), vs = [.ref a] ∧ FoAt K H F a ∧ AB.dep F ≤ m ∧ spTr H F Q
theorem tr_of_dir {H : Hp} {F : Fm} {t : Addr} {qs : List Addr} (hn : ∀ x, F ≠ .atm x) (e : H t = some (.tup (.str (kindS F) :: qs.map V.ref))) (p : Paired (fun p G => TrAt H G p) qs (AB.dir F)) : TrAt H F t := by
  cases F with
  | atm x => exact absurd rfl (hn x)
  | no => cases p; exact e
  | imp f g => 
    cases p with
    | cons a p => cases p with
      | cons b p => cases p; exact ⟨_, _, e, a, b⟩
  | all f =>
    cases p with
    | cons a p => cases p; exact ⟨_, e, a⟩
include T
theorem bd_ltree : L2.Binds K (fdOf K (f__law_tree K)) ["_law_code"] [] := T.F__law_tree.binds fun _ _ _ _ _ _ us hl => match us, hl with | [_], _ => rfl
theorem ok_ltree {m k : Nat} (FD : FH P w K mg base k (f__law_tree K) ["_law_code"] (spLTree K m)) : FH P w K mg base (k + 1) (f__law_tree K) ["_law_code"] (spLTree K (m + 1)) := by
  refine T.F__law_tree.ok sc_ltree (fun vs H Q E h => by obtain ⟨_, _, rfl, _⟩ := h; rfl) (fun cdv A outer s H vs Q E hr h => ⟨_, PSs.nox (
    pss_cons (ps_if (pt_cmpR op_eq (pe_fld (pv 0) rfl) pe_str (nomark _)) (pss_one (ps_ret (pe_tup (pa_cons pe_str (pa_cons (pe_ix ix_tup (pe_fld (pv 0) rfl) pe_int (fun _ _ => rfl)) pa_nil))))) pss_nil)
    (pss_one (ps_ret (pe_op op_catA (pe_tup (pa_cons (pe_fld (pv 0) rfl) pa_nil)) (pe_callTy call_tuple_of rfl T.b_tuple (by decide +kernel) (pa_cons
      (pe_lc (own := [("_law_branch", 1)]) (g := gName 1) (tt := tYes) (te := tCall (spLTree K m) [] E0 (tCons (tVar 1) tNil)) rfl sc_ltree.nd (pi_tup (pe_fld (pv 0) rfl)) (blkOk_by (own := [("_law_branch", 1)]) (N := Nlt) (sc := defScope s__law_tree) (by decide +kernel))
        (fun _ _ _ _ _ => pg_name (i := 1) sc_ltree.nd rfl (Or.inl rfl)) (fun _ _ _ _ _ => pts_nil)
        (fun _ _ _ _ _ => pe_call FD hr rfl T.g__law_tree T.F__law_tree.kp (bd_ltree T) .nil pass0 (pa_cons (pv 1) pa_nil))) pa_nil)))))), ?_⟩)
  obtain ⟨a, F, rfl, hF, hd, q⟩ := h
  obtain ⟨pp, hf⟩ := hF.fo
  obtain ⟨dx, pt, al, mm, dd, x, y, e1, e2, _⟩ := hf.ex
  refine ⟨_, rfl, a, _, dx, _, _, rfl, e1, T.cls_Formula, T.na_Formula_kind, rfl, rfl, _, rfl, ?_⟩
  rw [kq_atm F]
  by_cases hat : ∃ x, F = .atm x
  · obtain ⟨x, rfl⟩ := hat
    have hq : Fo K H a (.atm x) [.str (letS x)] := hF
    obtain ⟨dx', pt', _, _, _, _, _, e1', e2', _⟩ := hq.ex
    refine iteT ⟨_, rfl, a, _, dx', _, _, rfl, e1', T.cls_Formula, T.na_Formula_parts, rfl, pt', _, _, _, rfl, rfl, SqT.of e2', atI_nat (j := 0) rfl, two_sz, fun t ht => ?_⟩
    exact q t _ (show TrAt _ (.atm x) t from upd_same) (kp_new ht)
  · have hn : ∀ x, F ≠ .atm x := fun x e => hat ⟨x, e⟩
    have hb : AB.isAtm F = false := by
      cases F with
      | atm x => exact absurd rfl (hn x)
      | _ => rfl
    rw [hb]
    refine iteF ?_
    refine ⟨_, rfl, a, _, dx, _, _, rfl, e1, T.cls_Formula, T.na_Formula_kind, rfl, Nat.le_trans (Nat.le_succ 1) two_sz, fun t0 ht0 => ?_⟩
    have k0 := kp_new (o := .tup [.str (kindS F)]) ht0
    have e0 : upd H t0 (.tup [.str (kindS F)]) t0 = some (.tup [.str (kindS F)]) := upd_same
    generalize upd H t0 (.tup [.str (kindS F)]) = H1 at k0 e0 ⊢
    obtain ⟨ds, hfo, hps⟩ := (hF.kf (.of k0)).parts hn
    obtain ⟨dx3, pt3, _, _, _, _, _, e13, e23, _⟩ := hfo.ex
    refine ⟨_, rfl, a, _, dx3, _, _, rfl, e13, T.cls_Formula, T.na_Formula_parts, rfl, pt3, rfl, ⟨_, SqT.of e23⟩, fun D hD => ?_⟩
    have ld := Paired.length hps
    have l2 := dir_len2 F
    refine lc_it (walk_tup (xs := ds.map V.ref)) (fun i H' => Kp H1 H' ∧ ∃ qs : List Addr, H' D = some (.lst (qs.map V.ref)) ∧ Paired (fun p G => TrAt H' G p) qs ((AB.dir F).take i)) ?_ ?_ ?_ ?_
    · exact ⟨kp_up (Same.refl _) hD, [], upd_same, by rw [List.take_zero]; exact .nil⟩
    · intro i H' _ h
      exact SqT.of (h.1 _ _ e23)
    · rintro i x H' H'' hi ⟨kk, qs, eD, pq⟩ ⟨rfl, hx⟩
      obtain ⟨c, hc, rfl⟩ : ∃ c, ds[i]? = some c ∧ V.ref c = x := by simpa using hx
      obtain ⟨G, hG, hcG⟩ := paired_get hps hc
      refine ⟨rfl, ?_⟩
      refine ⟨_, rfl, c, G, rfl, hcG.kf (.of kk), ?_, fun p H2 hp k2 => ?_⟩
      · have := dir_dep (List.mem_of_getElem? hG); omega
      have eD2 := k2 _ _ eD
      have lq := Paired.length pq
      refine ⟨_, eD2, ?_, kp_old (kk.trans k2) hD, qs ++ [p], ?_, ?_⟩
      · rw [List.length_map, lq, List.length_take, sizeLine_eq]; omega
      · rw [upd_same, List.map_append]; rfl
      · rw [take_succ hG]
        have kl := kf_l (o := .lst (qs.map V.ref ++ [V.ref p])) eD2
        exact paired_append (Paired.mapP pq fun p G h => (h.kp k2).kf kl) (.cons (hp.kf kl) .nil)
    · rintro H2 ⟨kk, qs, eD, pq⟩
      rw [List.length_map, ld, List.take_length] at pq
      refine ⟨D, _, rfl, .inl ⟨SqL.of eD, fun l hl => ?_⟩⟩
      have k3 := kp_new (o := .tup (qs.map V.ref)) hl
      have e3 : upd H2 l (.tup (qs.map V.ref)) l = some (.tup (qs.map V.ref)) := upd_same
      have pq3 := Paired.mapP pq fun p G h => TrAt.kp k3 h
      generalize upd H2 l (.tup (qs.map V.ref)) = H3 at k3 e3 pq3 ⊢
      have k03 := (k0.trans kk).trans k3
      have e03 := k3 _ _ (kk _ _ e0)
      have lq := Paired.length pq
      refine ⟨t0, l, _, _, rfl, rfl, SqT.of e03, SqT.of e3, ?_, (fun z => nomatch z), (fun _ z => ?_), fun _ _ u hu => ?_⟩
      · rw [List.length_map, sizeLine_eq]; simp only [List.length_singleton]; omega
      · refine q t0 H3 (tr_of_dir (qs := []) hn e03 ?_) k03
        rw [List.map_eq_nil_iff] at z
        rw [z] at pq3; exact pq3
      · have k4 := kp_new (o := .tup ([.str (kindS F)] ++ qs.map V.ref)) hu
        exact q u _ (tr_of_dir (qs := qs) hn upd_same (Paired.mapP pq3 fun p G h => TrAt.kp k4 h)) (k03.trans k4)
theorem ltree_all : ∀ m, FH P w K mg base (1 + m) (f__law_tree K) ["_law_code"] (spLTree K m)
  | 0 => ⟨fun vs H Q E h => by obtain ⟨_, _, rfl, _⟩ := h; rfl, fun A outer s H args us vs Q E hr e0 hb r h => by
    obtain ⟨_, F, _, _, z, _⟩ := h
    have := AB.dep_pos F
    omega⟩
  | m + 1 => ok_ltree T (ltree_all m)
/-! ### _law_size -/
abbrev Nlsz : List Str := ["_law_tree_here", "_law_branch"]
omit T in
theorem sc_lsize : FnScope Nlsz ["_law_tree_here"] (defScope s__law_size) := ⟨rfl, rfl, rfl, by decide +kernel, rfl, by decide +kernel, by decide +kernel⟩
def spLSize (m : Nat) : Sp := fun vs H Q _ => ∃ (p : Addr) (F : Fm), vs = [.ref p] ∧ TrAt H F p ∧ AB.dep F ≤ m ∧ ∀ H', Kp H H' → Q (.int (AB.size F)) H'
theorem bd_lsize : L2.Binds K (fdOf K (f__law_size K)) ["_law_tree_here"] [] := T.F__law_size.binds fun _ _ _ _ _ _ us hl => match us, hl with | [_], _ => rfl
omit T in
theorem size_dir (F : Fm) : AB.size F = 1 + ((AB.dir F).map AB.size).sum := by
  cases F <;> simp [AB.size, AB.dir] <;> omega
theorem ok_lsize {m k : Nat} (FD : FH P w K mg base k (f__law_size K) ["_law_tree_here"] (spLSize m)) : FH P w K mg base (k + 1) (f__law_size K) ["_law_tree_here"] (spLSize (m + 1)) := by
  refine T.F__law_size.ok sc_lsize (fun vs H Q E h => by obtain ⟨_, _, rfl, _⟩ := h; rfl) (fun cdv A outer s H vs Q E hr h => ⟨_, PSs.nox (
    pss_one (ps_ret (pe_op op_add pe_int (pe_callB (cr_sum rfl) rfl T.b_sum (by decide +kernel) (pa_cons
      (pe_lc (own := [("_law_branch", 1)]) (g := gName 1) (te := tCall (spLSize m) [] E0 (tCons (tVar 1) tNil)) rfl sc_lsize.nd (pi_tup (pe_slice sl_tup (pv 0) (po_some pe_int) po_none)) (blkOk_by (own := [("_law_branch", 1)]) (N := Nlsz) (sc := defScope s__law_size) (by decide +kernel))
        (fun _ _ _ _ _ => pg_name (i := 1) sc_lsize.nd rfl (Or.inl rfl)) (tt := tB (tCB (rIsi K) (tCons (tVar 1) (tCons (tC (.ty "tuple")) tNil)))) (fun _ _ _ _ _ => pts_one (pt_val (pe_callB call_isi rfl T.b_isinstance (by decide +kernel) (pa_cons (pv 1) (pa_cons (pe_bltn rfl T.b_tuple (by decide +kernel) (v := .ty "tuple") (u := .type "tuple") rfl) pa_nil)))))
        (fun _ _ _ _ _ => pe_call FD hr rfl T.g__law_size T.F__law_size.kp (bd_lsize T) .nil pass0 (pa_cons (pv 1) pa_nil))) pa_nil))))), ?_⟩)
  obtain ⟨p, F, rfl, hF, hd, q⟩ := h
  obtain ⟨vs, ep, hps⟩ := hF.tup
  refine ⟨_, rfl, _, rfl, p, _, rfl, SqT.of ep, sIx1 _ _, fun c hc => ?_⟩
  rw [cut1]
  have k0 := kp_new (o := .tup vs) hc
  have ec : upd H c (.tup vs) c = some (.tup vs) := upd_same
  generalize upd H c (.tup vs) = H1 at k0 ec ⊢
  refine ⟨c, rfl, ⟨_, SqT.of ec⟩, fun D hD => ?_⟩
  have l2 := dir_len2 F
  refine lc_it (walk_tup (xs := vs)) (fun i H' => Kp H1 H' ∧ H' D = some (.lst ((((AB.dir F).map AB.size).take i).map fun n : Nat => V.int n))) ?_ ?_ ?_ ?_
  · exact ⟨kp_up (Same.refl _) hD, by rw [upd_same]; rfl⟩
  · intro i H' _ h
    exact SqT.of (h.1 _ _ ec)
  · rintro i x H' H'' hi ⟨kk, eD⟩ ⟨rfl, hx⟩
    refine ⟨rfl, ?_⟩
    rcases hps.dir with ⟨y, rfl, rfl⟩ | ⟨qs, rfl, pq, hn⟩
    · obtain rfl : V.str (letS y) = x := by
        match i, hx with
        | 0, hx => simpa using hx
        | i + 1, hx => simp at hx
      refine ⟨_, rfl, _, _, _, _, false, rfl, .ty "tuple", .base (.str _), kit_ty (by decide +kernel), ?_⟩
      exact ⟨false, rfl, iteF ⟨kk, by simpa [AB.dir] using eD⟩⟩
    · obtain ⟨r, hr2, rfl⟩ : ∃ r, qs[i]? = some r ∧ V.ref r = x := by simpa using hx
      obtain ⟨G, hG, hrG⟩ := paired_get pq hr2
      have hr3 := (hrG.kp k0).kp kk
      obtain ⟨vs3, ep3, _⟩ := hr3.tup
      refine ⟨_, rfl, _, _, _, _, true, rfl, .ty "tuple", .base (.tup ep3), kit_ty (by decide +kernel), ?_⟩
      refine ⟨true, rfl, iteT ⟨_, rfl, r, G, rfl, hr3, ?_, fun H2 k2 => ?_⟩⟩
      · have := dir_dep (List.mem_of_getElem? hG); omega
      have hs : ((AB.dir F).map AB.size)[i]? = some (AB.size G) := by rw [List.getElem?_map, hG]; rfl
      refine ⟨_, k2 _ _ eD, ?_, kp_old (kk.trans k2) hD, ?_⟩
      · rw [List.length_map, List.length_take, List.length_map, sizeLine_eq]; omega
      · rw [upd_same, take_succ hs, List.map_append]; rfl
  · rintro H2 ⟨kk, eD⟩
    have lv : ((AB.dir F).map AB.size).take vs.length = (AB.dir F).map AB.size := by
      rw [List.take_of_length_le]
      rcases hps.dir with ⟨y, rfl, rfl⟩ | ⟨qs, rfl, pq, hn⟩
      · simp [AB.dir]
      · rw [List.length_map, List.length_map, Paired.length pq]; exact Nat.le_refl _
    rw [lv] at eD
    refine ⟨D, (((AB.dir F).map AB.size).map fun n : Nat => (n : Int)), rfl, SqL.of ?_, _, _, rfl, rfl, ?_⟩
    · rw [eD]; simp [List.map_map, Function.comp_def]
    · have e : (1 : Int) + (((AB.dir F).map AB.size).map fun n : Nat => (n : Int)).sum = (AB.size F : Int) := by
        rw [size_dir F]
        have : ∀ l : List Nat, (l.map fun n : Nat => (n : Int)).sum = ((l.sum : Nat) : Int) := by
          intro l
          induction l with
          | nil => rfl
          | cons a l ih => rw [List.map_cons, List.sum_cons, ih, List.sum_cons]; omega
        rw [this]; omega
      show Q (.int (1 + (((AB.dir F).map AB.size).map fun n : Nat => (n : Int)).sum)) H2
      rw [e]
      exact q H2 (k0.trans kk)
theorem lsize_all : ∀ m, FH P w K mg base (1 + m) (f__law_size K) ["_law_tree_here"] (spLSize m)
  | 0 => ⟨fun vs H Q E h => by obtain ⟨_, _, rfl, _⟩ := h; rfl, fun A outer s H args us vs Q E hr e0 hb r h => by
    obtain ⟨_, F, _, _, z, _⟩ := h
    have := AB.dep_pos F
    omega⟩
  | m + 1 => ok_lsize T (lsize_all m)
end
end AT
end
section
set_option Elab.async false
set_option linter.all false
set_option maxRecDepth 100000
/-! _law_alls. -/
namespace AT
open PySem PySem.Spec PyProof.Rows L2
open AB (Fm At Drv)
def stA (acc : List Fm) (G : Fm) : List Fm := acc ++ (AB.alls G).filter fun K => decide (K ∉ acc)
theorem filter_nil (l : List Fm) : (l.filter fun K => decide (K ∉ ([] : List Fm))) = l := by
  rw [List.filter_eq_self]; intro a _; simp
theorem alls_dir (F : Fm) : AB.alls F = (AB.dir F).foldl stA [] ++ if AB.isAll F = true ∧ F ∉ (AB.dir F).foldl stA [] then [F] else [] := by
  cases F with
  | atm x => simp [AB.alls, AB.dir, AB.isAll]
  | no => simp [AB.alls, AB.dir, AB.isAll]
  | imp f g =>
    simp only [AB.alls, AB.dir, List.foldl_cons, List.foldl_nil, stA, List.nil_append, filter_nil, AB.isAll]
    simp
  | all f =>
    simp only [AB.alls, AB.dir, List.foldl_cons, List.foldl_nil, stA, List.nil_append, filter_nil, AB.isAll]
    rw [if_pos ⟨trivial, AB.all_notin f⟩]
theorem stA_len (acc : List Fm) (G : Fm) : (stA acc G).length ≤ acc.length + AB.size G := by
  unfold stA
  rw [List.length_append]
  have a := List.length_filter_le (fun K => decide (K ∉ acc)) (AB.alls G)
  have b := AB.alls_len G
  omega
theorem stAs_len : ∀ (l acc : List Fm), (l.foldl stA acc).length ≤ acc.length + (l.map AB.size).sum
  | [], acc => by simp
  | G :: l, acc => by
    have a := stA_len acc G
    have b := stAs_len l (stA acc G)
    rw [List.foldl_cons, List.map_cons, List.sum_cons]; omega
section
variable {P : Program} {w : World} {K : PySem.W.Frag} {mg : Str → Option Value} {base : Heap} (T : Tx w K mg)
abbrev Nla : List Str := ["_law_tree_here", "_law_found", "_law_branch", "_law_front"]
theorem sc_lalls : FnScope Nla ["_law_tree_here"] (defScope s__law_alls) := ⟨rfl, rfl, rfl, by decide +kernel, rfl, by decide +kernel, by decide +kernel⟩
def spLAlls (m : Nat) : Sp := fun vs H Q _ => ∃ (p : Addr) (F : Fm), vs = [.ref p] ∧ TrAt H F p ∧ AB.dep F ≤ m ∧ AB.dep F ≤ 63 ∧ AB.size F ≤ 1000 ∧ ∀ l H', TLs H' l (AB.alls F) → Kp H H' → Q (.ref l) H'
include T
theorem bd_lalls : L2.Binds K (fdOf K (f__law_alls K)) ["_law_tree_here"] [] := T.F__law_alls.binds fun _ _ _ _ _ _ us hl => match us, hl with | [_], _ => rfl
theorem ok_lalls {m k : Nat} (FD : FH P w K mg base k (f__law_alls K) ["_law_tree_here"] (spLAlls m)) : FH P w K mg base (k + 1) (f__law_alls K) ["_law_tree_here"] (spLAlls (m + 1)) := by
  refine T.F__law_alls.ok sc_lalls (fun vs H Q E h => by obtain ⟨_, _, rfl, _⟩ := h; rfl) (fun cdv A outer s H vs Q E hr h => ⟨_, PSs.nox (
    pss_cons (ps_set (i := 1) sc_lalls.nd rfl (Or.inr rfl) (pe_lst pa_nil))
    (pss_cons (ps_for PassesOwn.never rfl (pi_tup (pe_slice sl_tup (pv 0) (po_some pe_int) po_none)) (pg_name (i := 2) sc_lalls.nd rfl (Or.inl rfl))
      (pss_one (ps_if (pt_val (pe_callB call_isi rfl T.b_isinstance (by decide +kernel) (pa_cons (pv 2) (pa_cons (pe_bltn rfl T.b_tuple (by decide +kernel) (v := .ty "tuple") (u := .type "tuple") rfl) pa_nil))))
        (pss_one (ps_expr (pe_bm PySem.F.plainAttrs_list PySem.F.slot_list_extend PySem.F.type_list_extend mt_extend (pv 1) (pa_cons
          (pe_lc (own := [("_law_front", 3)]) (g := gName 3) (te := tVar 3) rfl sc_lalls.nd (pi_list (pe_call FD hr rfl T.g__law_alls T.F__law_alls.kp (bd_lalls T) .nil pass0 (pa_cons (pv 2) pa_nil))) (blkOk_by (own := [("_law_front", 3)]) (N := Nla) (sc := defScope s__law_alls) (by decide +kernel))
            (fun _ _ _ _ _ => pg_name (i := 3) sc_lalls.nd rfl (Or.inl rfl)) (tt := tTest (tOp (rInA K fun b => !b) (tVar 3) (tVar 1))) (fun _ _ _ _ _ => pts_one (pt_cmpR (op_notInA (Room.u65 hr)) (pv 3) (pv 1) rfl)) (fun _ _ _ _ _ => pv 3)) pa_nil)))) pss_nil)))
    (pss_one (ps_ret (pe_op op_cat (pv 1) (pe_op op_rep (pe_lst (pa_cons (pv 0) pa_nil)) (pe_callTy call_int1 rfl T.b_int (by decide +kernel) (pa_cons
      (pe_and (pe_cmpR op_eq (pe_ix ix_tup (pv 0) pe_int (fun _ _ => rfl)) pe_str (nomark _)) (pe_one (pe_cmpR (op_notInA (Room.u65 hr)) (pv 0) (pv 1) rfl))) pa_nil)))))))), ?_⟩)
  obtain ⟨p, F, rfl, hF, hd, h63, hz, q⟩ := h
  obtain ⟨vs, ep, hps⟩ := hF.tup
  refine ⟨Nat.zero_le _, fun fl hfl => ?_⟩
  have k0 := kp_new (o := .lst []) hfl
  have e0 : upd H fl (.lst []) fl = some (.lst []) := upd_same
  generalize upd H fl (.lst []) = H1 at k0 e0 ⊢
  refine ⟨_, rfl, _, rfl, p, _, rfl, SqT.of (k0 _ _ ep), sIx1 _ _, fun c hc => ?_⟩
  rw [cut1]
  have k1 := kp_new (o := .tup vs) hc
  have ec : upd H1 c (.tup vs) c = some (.tup vs) := upd_same
  have efl := k1 _ _ e0
  have hcf : c ≠ fl := fun z => by rw [z, e0] at hc; cases hc
  generalize upd H1 c (.tup vs) = H2 at k1 ec efl ⊢
  refine ⟨c, rfl, ⟨_, SqT.of ec⟩, ?_⟩
  have l2 := dir_len2 F
  have k02 := k0.trans k1
  have hzs := size_dir F
  have sub : ∀ J ∈ AB.dir F, ∀ M ∈ AB.alls J, AB.dep M ≤ 63 := fun J hJ M hM => Nat.le_trans (AB.dep_subs F (AB.subs_trans F (AB.dir_subs hJ (AB.subs_self F)) ((AB.mem_alls J M).mp hM).1)) h63
  refine for_it (walk_tup (xs := vs)) (fun i σ H' => ∃ b2 b3, σ = [some (.ref p), some (.ref fl), b2, b3] ∧ Kp H H' ∧ H' c = some (.tup vs) ∧ TLs H' fl (((AB.dir F).take i).foldl stA [])) ?_ ?_ ?_ ?_
  · exact ⟨_, _, rfl, k02, ec, [], efl, .nil⟩
  · rintro i σ H' _ ⟨_, _, _, _, e, _⟩
    exact SqT.of e
  · rintro i x σ H' H'' hi ⟨b2, b3, rfl, kk, ec', hfd⟩ ⟨rfl, hx⟩
    rcases hps.dir with ⟨y, rfl, rfl⟩ | ⟨qs, rfl, pq, hn⟩
    · obtain rfl : V.str (letS y) = x := by
        match i, hx with
        | 0, hx => simpa using hx
        | i + 1, hx => simp at hx
      refine ⟨_, rfl, _, _, _, _, false, rfl, .ty "tuple", .base (.str _), kit_ty (by decide +kernel), ?_⟩
      exact ⟨false, rfl, iteF ⟨_, _, rfl, kk, ec', by simpa [AB.dir] using hfd⟩⟩
    obtain ⟨r, hr2, rfl⟩ : ∃ r, qs[i]? = some r ∧ V.ref r = x := by simpa using hx
    obtain ⟨G, hG, hrG⟩ := paired_get pq hr2
    have hGm := List.mem_of_getElem? hG
    have hr3 := hrG.kp kk
    obtain ⟨vs3, ep3, _⟩ := hr3.tup
    obtain ⟨fs, efl', pf⟩ := id hfd.ex
    have lf := Paired.length pf
    have lacc := stAs_len ((AB.dir F).take i) []
    have lsum : (((AB.dir F).take i).map AB.size).sum ≤ 1000 := by
      have : ∀ (l : List Fm) (i : Nat), ((l.take i).map AB.size).sum ≤ (l.map AB.size).sum := by
        intro l
        induction l with
        | nil => intro i; simp
        | cons a l ih =>
          intro i
          cases i with
          | zero => simp
          | succ i => rw [List.take_succ_cons, List.map_cons, List.sum_cons, List.map_cons, List.sum_cons]; have := ih i; omega
      have := this (AB.dir F) i
      omega
    refine ⟨_, rfl, _, _, _, _, true, rfl, .ty "tuple", .base (.tup ep3), kit_ty (by decide +kernel), ?_⟩
    refine ⟨true, rfl, iteT ⟨_, rfl, .inl ⟨rfl, _, SqL.of efl'⟩, _, rfl, r, G, rfl, hr3, ?_, ?_, ?_, fun l1 H3 hl1 k3 => ?_⟩⟩
    · have := dir_dep hGm; omega
    · have := dir_dep hGm; omega
    · have := AB.dir_size hGm; omega
    obtain ⟨as, el1, pa⟩ := id hl1.ex
    have la := Paired.length pa
    have lal := AB.alls_len G
    have lsz := AB.dir_size hGm
    refine ⟨l1, rfl, ⟨_, SqL.of el1⟩, fun D hD => ?_⟩
    generalize hacc : ((AB.dir F).take i).foldl stA [] = acc at hfd pf lf lacc
    refine lc_it (walk_list (xs := as.map V.ref)) (fun j H' => Kp H3 H' ∧ TLs H' D (((AB.alls G).take j).filter fun M => decide (M ∉ acc))) ?_ ?_ ?_ ?_
    · exact ⟨kp_up (Same.refl _) hD, [], upd_same, .nil⟩
    · intro j H' _ h
      exact SqL.of (h.1 _ _ el1)
    · rintro j x H' H'' hj ⟨kj, hDl⟩ ⟨rfl, hx⟩
      obtain ⟨a, haj, rfl⟩ : ∃ a, as[j]? = some a ∧ V.ref a = x := by simpa using hx
      obtain ⟨M, hM, haM⟩ := paired_get pa haj
      have dM := sub G hGm M (List.mem_of_getElem? hM)
      have haM' := haM.kp kj
      obtain ⟨ds, eD, pd⟩ := id hDl.ex
      have ld := Paired.length pd
      have lfl : (((AB.alls G).take j).filter fun M => decide (M ∉ acc)).length ≤ 1000 := Nat.le_trans (List.length_filter_le _ _) (by rw [List.length_take]; omega)
      refine ⟨rfl, _, rfl, _, rfl, in_trL haM' (hfd.kp (k3.trans kj)) (by omega) ⟨_, rfl, ite2 (fun z => ?_) fun z => ?_⟩⟩
      · have z' : M ∉ acc := by simpa using z
        refine ⟨_, rfl, _, eD, by rw [List.length_map, ld, sizeLine_eq]; omega, kp_old kj hD, ds ++ [a], by rw [upd_same, List.map_append]; rfl, ?_⟩
        have kl := kf_l (o := .lst (ds.map V.ref ++ [V.ref a])) eD
        rw [take_succ hM, List.filter_append, show [M].filter (fun M => decide (M ∉ acc)) = [M] by simp [z']]
        exact paired_append (Paired.mapP pd fun p G h => h.kf kl) (.cons (haM'.kf kl) .nil)
      · have z' : M ∈ acc := by simpa using z
        refine ⟨kj, ?_⟩
        rw [take_succ hM, List.filter_append, show [M].filter (fun M => decide (M ∉ acc)) = [] by simp [z'], List.append_nil]
        exact hDl
    · rintro H5 ⟨k5, hDl⟩
      rw [List.length_map, la, List.take_length] at hDl
      obtain ⟨ds, eD, pd⟩ := hDl.ex
      have ld := Paired.length pd
      have lfl : ((AB.alls G).filter fun M => decide (M ∉ acc)).length ≤ 1000 := Nat.le_trans (List.length_filter_le _ _) (by omega)
      have k35 := k3.trans k5
      have efl5 := k35 _ _ efl'
      refine ⟨fl, D, _, _, rfl, rfl, efl5, eD, by rw [List.length_map, List.length_map, lf, ld, sizeLine_eq, List.length_nil] at *; omega, ?_⟩
      have kl := kf_l (o := .lst (fs.map V.ref ++ ds.map V.ref)) efl5
      refine ⟨_, _, rfl, kp_old (kk.trans k35) hfl, ?_, fs ++ ds, by rw [upd_same, List.map_append], ?_⟩
      · rw [upd_ne hcf]; exact k35 _ _ ec'
      · rw [take_succ hG, List.foldl_append, hacc]
        exact paired_append (Paired.mapP pf fun p G h => (h.kp k35).kf kl) (Paired.mapP pd fun p G h => h.kf kl)
  · rintro σ H3 ⟨b2, b3, rfl, kk, ec', hfd⟩
    have lv : (AB.dir F).take vs.length = AB.dir F := by
      rw [List.take_of_length_le]
      rcases hps.dir with ⟨y, rfl, rfl⟩ | ⟨qs, rfl, pq, hn⟩
      · simp [AB.dir]
      · rw [List.length_map, Paired.length pq]; exact Nat.le_refl _
    rw [lv] at hfd
    have lacc := stAs_len (AB.dir F) []
    have eal := alls_dir F
    generalize (AB.dir F).foldl stA [] = acc at hfd lacc eal
    obtain ⟨fs, efl', pf⟩ := id hfd.ex
    have lf := Paired.length pf
    have ep3 := kk _ _ ep
    have hF3 := hF.kp kk
    rw [List.length_nil] at lacc
    refine ⟨_, rfl, _, rfl, Nat.le_trans (Nat.le_succ 1) two_sz, fun l1 hl1 => ?_⟩
    have k1' := kp_new (o := .lst [.ref p]) hl1
    have el1 : upd H3 l1 (.lst [.ref p]) l1 = some (.lst [.ref p]) := upd_same
    generalize upd H3 l1 (.lst [.ref p]) = H4 at k1' el1 ⊢
    have fin : ∀ b : Bool, (b = true ↔ AB.isAll F = true ∧ F ∉ acc) → rRep (.ref l1) (.int (if b = true then 1 else 0)) H4 fun v H5 => rCat (.ref fl) v H5 fun v H6 => Q v H6 := by
      intro b hb
      refine ⟨l1, _, _, rfl, rfl, el1, by split <;> omega, by split <;> omega, ?_, fun l2 hl2 => ?_⟩
      · cases b
        · exact Nat.zero_le _
        · show 1 * Int.toNat 1 ≤ sizeLine
          exact Nat.le_trans (Nat.le_succ 1) two_sz
      have erep : (List.replicate (if b = true then (1 : Int) else 0).toNat [V.ref p]).flatten = if b = true then [V.ref p] else [] := by cases b <;> rfl
      rw [erep]
      have k2 := kp_new (o := .lst (if b = true then [V.ref p] else [])) hl2
      have el2 : upd H4 l2 (.lst (if b = true then [V.ref p] else [])) l2 = some (.lst (if b = true then [V.ref p] else [])) := upd_same
      generalize upd H4 l2 (.lst (if b = true then [V.ref p] else [])) = H5 at k2 el2 ⊢
      have k12 := k1'.trans k2
      have lb : (if b = true then [V.ref p] else []).length ≤ 1 := by cases b <;> simp
      refine ⟨fl, l2, _, _, rfl, rfl, k12 _ _ efl', el2, by rw [List.length_map, lf, sizeLine_eq]; omega, fun l3 hl3 => ?_⟩
      have k3 := kp_new (o := .lst (fs.map V.ref ++ if b = true then [V.ref p] else [])) hl3
      refine q l3 _ ⟨fs ++ (if b = true then [p] else []), ?_, ?_⟩ ((kk.trans k12).trans k3)
      · rw [upd_same, List.map_append]
        cases b <;> rfl
      · rw [eal]
        refine paired_append (Paired.mapP pf fun p G h => (h.kp k12).kp k3) ?_
        generalize upd H5 l3 (.lst (fs.map V.ref ++ if b = true then [V.ref p] else [])) = H6 at k3 ⊢
        cases b with
        | true => rw [if_pos rfl, if_pos (hb.mp rfl)]; exact .cons ((hF3.kp k12).kp k3) .nil
        | false => rw [if_neg (by decide), if_neg fun z => by have := hb.mpr z; cases this]; exact .nil
    refine ⟨_, rfl, p, _, _, _, rfl, rfl, SqT.of (k1' _ _ ep3), atI_nat (j := 0) rfl, rfl, ?_⟩
    rw [kq_all F]
    refine ⟨AB.isAll F, rfl, ?_⟩
    cases hA : AB.isAll F with
    | false => exact iteF (.inr ⟨false, rfl, fin false (by simp [hA])⟩)
    | true =>
      refine iteT ⟨_, rfl, _, rfl, in_trL (hF3.kp k1') (hfd.kp k1') (by omega) (.inr ⟨_, rfl, fin _ ?_⟩)⟩
      simp [hA]
theorem lalls_all : ∀ m, FH P w K mg base (1 + m) (f__law_alls K) ["_law_tree_here"] (spLAlls m)
  | 0 => ⟨fun vs H Q E h => by obtain ⟨_, _, rfl, _⟩ := h; rfl, fun A outer s H args us vs Q E hr e0 hb r h => by
    obtain ⟨_, F, _, _, z, _⟩ := h
    have := AB.dep_pos F
    omega⟩
  | m + 1 => ok_lalls T (lalls_all m)
end
end AT
end
section
set_option Elab.async false
set_option linter.all false
set_option maxRecDepth 100000
/-! _law_letters. -/
namespace AT
open PySem PySem.Spec PyProof.Rows L2
open AB (Fm At Drv)
/-- the letters of a formula, each once -/
structure LtOf (F : Fm) (x : Str) : Prop where
  ok : LetOk x
  mem : ∀ y : At, letC y ∈ x.cps.toList ↔ AB.occ y F = true
theorem signs_keep : ∀ (cs : List Nat) (l : List Str) (x : Str), x ∈ l → x ∈ GX.signs cs l
  | [], l, x, h => h
  | c :: r, l, x, h => by
    unfold GX.signs
    refine signs_keep r _ x ?_
    split
    · exact h
    · exact List.mem_cons_of_mem _ h
theorem signs_has : ∀ (cs : List Nat) (l : List Str) (c : Nat), c ∈ cs → (⟨#[c]⟩ : Str) ∈ GX.signs cs l
  | d :: r, l, c, h => by
    unfold GX.signs
    rcases List.mem_cons.mp h with rfl | h
    · refine signs_keep r _ _ ?_
      split
      · assumption
      · exact List.mem_cons_self
    · exact signs_has r _ c h
theorem join_cps (ys : List Str) : (Str.join "" ys).cps.toList = (ys.map fun y => y.cps.toList).flatten := by
  have e := TL.tl_join "" ys
  have e0 : TL.tl (Str.ofString "") = [] := by decide +kernel
  rw [e0, joinL_nil] at e
  exact e
theorem join_mem {s : List Nat} {ys : List Str} (p : ys.Perm (GX.signs s [])) (c : Nat) : c ∈ (Str.join "" ys).cps.toList ↔ c ∈ s := by
  rw [join_cps, List.mem_flatten]
  constructor
  · rintro ⟨l, hl, hc⟩
    obtain ⟨x, hx, rfl⟩ := List.mem_map.mp hl
    rcases GX.signs_mem s [] x (p.mem_iff.mp hx) with q | ⟨d, hd, rfl⟩
    · cases q
    · have : c = d := by simpa using hc
      rw [this]; exact hd
  · intro h
    exact ⟨[c], List.mem_map.mpr ⟨⟨#[c]⟩, p.mem_iff.mpr (signs_has s [] c h), rfl⟩, by simp⟩
theorem occ_dir (y : At) (F : Fm) (hn : ∀ x, F ≠ .atm x) : AB.occ y F = true ↔ ∃ G ∈ AB.dir F, AB.occ y G = true := by
  cases F with
  | atm x => exact absurd rfl (hn x)
  | no => simp [AB.occ, AB.dir]
  | imp f g => simp [AB.occ, AB.dir]
  | all f => simp [AB.occ, AB.dir]
theorem lt_atm (x : At) : LtOf (.atm x) (letS x) := ⟨LetOk.one x, fun y => by
  show letC y ∈ [letC x] ↔ decide (y = x) = true
  rw [List.mem_singleton, decide_eq_true_eq]
  exact ⟨letC_inj, fun e => by rw [e]⟩⟩
section
variable {P : Program} {w : World} {K : PySem.W.Frag} {mg : Str → Option Value} {base : Heap} (T : Tx w K mg)
abbrev Nll : List Str := ["_law_tree_here", "_law_branch"]
theorem sc_llet : FnScope Nll ["_law_tree_here"] (defScope s__law_letters) := ⟨rfl, rfl, rfl, by decide +kernel, rfl, by decide +kernel, by decide +kernel⟩
def spLLet (m : Nat) : Sp := fun vs H Q _ => ∃ (p : Addr) (F : Fm), vs = [.ref p] ∧ TrAt H F p ∧ AB.dep F ≤ m ∧ ∀ x H', LtOf F x → Kp H H' → Q (.str x) H'
include T
theorem bd_llet : L2.Binds K (fdOf K (f__law_letters K)) ["_law_tree_here"] [] := T.F__law_letters.binds fun _ _ _ _ _ _ us hl => match us, hl with | [_], _ => rfl
theorem ok_llet {m k : Nat} (FD : FH P w K mg base k (f__law_letters K) ["_law_tree_here"] (spLLet m)) : FH P w K mg base (k + 1) (f__law_letters K) ["_law_tree_here"] (spLLet (m + 1)) := by
  refine T.F__law_letters.ok sc_llet (fun vs H Q E h => by obtain ⟨_, _, rfl, _⟩ := h; rfl) (fun cdv A outer s H vs Q E hr h => ⟨_, PSs.nox (
    pss_cons (ps_if (pt_cmpR op_eq (pe_ix ix_tup (pv 0) pe_int (fun _ _ => rfl)) pe_str (nomark _)) (pss_one (ps_ret (pe_ix ix_tup (pv 0) pe_int (fun _ _ => rfl)))) pss_nil)
    (pss_one (ps_ret (pe_join pe_str (pe_callB (GX.cr_sortTx rfl) rfl T.b_sorted (by decide +kernel) (pa_cons (pe_callTy (GX.cr_setTx rfl) rfl T.b_set (by decide +kernel) (pa_cons (pe_join pe_str
      (pe_lc (own := [("_law_branch", 1)]) (g := gName 1) (tt := tYes) (te := tCall (spLLet m) [] E0 (tCons (tVar 1) tNil)) rfl sc_llet.nd (pi_tup (pe_slice sl_tup (pv 0) (po_some pe_int) po_none)) (blkOk_by (own := [("_law_branch", 1)]) (N := Nll) (sc := defScope s__law_letters) (by decide +kernel))
        (fun _ _ _ _ _ => pg_name (i := 1) sc_llet.nd rfl (Or.inl rfl)) (fun _ _ _ _ _ => pts_nil)
        (fun _ _ _ _ _ => pe_call FD hr rfl T.g__law_letters T.F__law_letters.kp (bd_llet T) .nil pass0 (pa_cons (pv 1) pa_nil)))) pa_nil)) pa_nil)))))), ?_⟩)
  obtain ⟨p, F, rfl, hF, hd, q⟩ := h
  obtain ⟨vs, ep, hps⟩ := hF.tup
  refine ⟨_, rfl, p, _, _, _, rfl, rfl, SqT.of ep, atI_nat (j := 0) rfl, rfl, _, rfl, ?_⟩
  rw [kq_atm F]
  rcases hps.dir with ⟨y, rfl, rfl⟩ | ⟨qs, rfl, pq, hn⟩
  · exact iteT ⟨_, rfl, p, _, _, _, rfl, rfl, SqT.of ep, atI_nat (j := 1) rfl, q _ H (lt_atm y) (Same.refl H)⟩
  have hb : AB.isAtm F = false := by
    cases F with
    | atm x => exact absurd rfl (hn x)
    | _ => rfl
  rw [hb]
  refine iteF ?_
  refine ⟨⟨_, rfl⟩, ⟨_, rfl⟩, _, rfl, _, rfl, p, _, rfl, SqT.of ep, sIx1 _ _, fun c hc => ?_⟩
  rw [cut1]
  have k0 := kp_new (o := .tup (qs.map V.ref)) hc
  have ec : upd H c (.tup (qs.map V.ref)) c = some (.tup (qs.map V.ref)) := upd_same
  generalize upd H c (.tup (qs.map V.ref)) = H1 at k0 ec ⊢
  refine ⟨c, rfl, ⟨_, SqT.of ec⟩, fun D hD => ?_⟩
  have l2 := dir_len2 F
  have lq := Paired.length pq
  refine lc_it (walk_tup (xs := qs.map V.ref)) (fun i H' => Kp H1 H' ∧ ∃ xs : List Str, H' D = some (.lst (xs.map V.str)) ∧ Paired (fun x G => LtOf G x) xs ((AB.dir F).take i)) ?_ ?_ ?_ ?_
  · exact ⟨kp_up (Same.refl _) hD, [], upd_same, by rw [List.take_zero]; exact .nil⟩
  · intro i H' _ h
    exact SqT.of (h.1 _ _ ec)
  · rintro i x H' H'' hi ⟨kk, xs, eD, px⟩ ⟨rfl, hx⟩
    obtain ⟨r, hr2, rfl⟩ : ∃ r, qs[i]? = some r ∧ V.ref r = x := by simpa using hx
    obtain ⟨G, hG, hrG⟩ := paired_get pq hr2
    refine ⟨rfl, _, rfl, r, G, rfl, (hrG.kp k0).kp kk, ?_, fun x H2 hx k2 => ?_⟩
    · have := dir_dep (List.mem_of_getElem? hG); omega
    have lx := Paired.length px
    rw [List.length_take] at lx
    refine ⟨_, k2 _ _ eD, by rw [List.length_map, sizeLine_eq]; omega, kp_old (kk.trans k2) hD, xs ++ [x], by rw [upd_same, List.map_append]; rfl, ?_⟩
    rw [take_succ hG]
    exact paired_append px (.cons hx .nil)
  · rintro H2 ⟨kk, xs, eD, px⟩
    rw [List.length_map, lq, List.take_length] at px
    have lx := Paired.length px
    have ls : ∀ {xs : List Str} {Gs : List Fm}, Paired (fun x G => LtOf G x) xs Gs → (xs.map (·.length)).sum ≤ 4 * Gs.length := by
      intro xs Gs pp
      induction pp with
      | nil => exact Nat.zero_le _
      | cons h _ ih =>
        have := h.ok.len
        rw [List.map_cons, List.sum_cons, List.length_cons]
        show Array.size _ + _ ≤ _
        omega
    have lsx := ls px
    have e0 : (Str.ofString "").length = 0 := by decide +kernel
    refine ⟨_, D, xs, rfl, rfl, .inl (SqL.of eD), by rw [e0]; omega, ?_⟩
    have ej : Txt.join "" xs = Str.join "" xs := by
      show Builtin.Str.glued "" xs = _
      rw [StrLaws.glued_eq_join]
    rw [ej]
    have ec2 := join_cps xs
    have hs : ∀ c ∈ (Str.join "" xs).cps.toList, c ∈ [97, 98, 99, 80] := fun c hc => by
      rw [ec2, List.mem_flatten] at hc
      obtain ⟨l, hl, hc⟩ := hc
      obtain ⟨x, hx, rfl⟩ := List.mem_map.mp hl
      obtain ⟨G, _, hxG⟩ := paired_memL px x hx
      exact hxG.ok.mem c hc
    have szj : (Str.join "" xs).cps.toList.length ≤ 8 := by
      rw [ec2, List.length_flatten, List.map_map]
      have : (xs.map (List.length ∘ fun y : Str => y.cps.toList)) = xs.map (·.length) := List.map_congr_left fun y _ => Array.length_toList
      rw [this]; omega
    refine ⟨_, rfl, by rw [← Array.length_toList]; omega, fun a ha => ?_⟩
    have few : (GX.signs (Str.join "" xs).cps.toList []).length < 64 := by
      have z := GX.signs_len (Str.join "" xs).cps.toList []
      rw [List.length_nil] at z
      omega
    refine ⟨a, _, rfl, upd_same, few, fun ys l pm _ hl => ?_⟩
    obtain ⟨h1, h2, h3⟩ := letOk_join hs pm
    refine ⟨_, l, ys, rfl, rfl, .inl (SqL.of upd_same), by rw [e0]; omega, ?_⟩
    have ej2 : Txt.join "" ys = Str.join "" ys := by
      show Builtin.Str.glued "" ys = _
      rw [StrLaws.glued_eq_join]
    rw [ej2]
    refine q _ _ ⟨h1, fun y => ?_⟩ (((k0.trans kk).trans (kp_new ha)).trans (kp_new hl))
    rw [join_mem pm, ec2, occ_dir y F hn, List.mem_flatten]
    constructor
    · rintro ⟨l, hl, hc⟩
      obtain ⟨x, hx, rfl⟩ := List.mem_map.mp hl
      obtain ⟨G, hG, hxG⟩ := paired_memL px x hx
      exact ⟨G, hG, (hxG.mem y).mp hc⟩
    · rintro ⟨G, hG, ho⟩
      obtain ⟨x, hx, hxG⟩ := paired_mem px G hG
      exact ⟨_, List.mem_map.mpr ⟨x, hx, rfl⟩, (hxG.mem y).mpr ho⟩
theorem llet_all : ∀ m, FH P w K mg base (1 + m) (f__law_letters K) ["_law_tree_here"] (spLLet m)
  | 0 => ⟨fun vs H Q E h => by obtain ⟨_, _, rfl, _⟩ := h; rfl, fun A outer s H args us vs Q E hr e0 hb r h => by
    obtain ⟨_, F, _, _, z, _⟩ := h
    have := AB.dep_pos F
    omega⟩
  | m + 1 => ok_llet T (llet_all m)
end
end AT
end
section
set_option Elab.async false
set_option linter.all false
set_option maxRecDepth 100000
/-! _law_is_true. -/
namespace AT
open PySem PySem.Spec PyProof.Rows L2
open AB (Fm At Drv)
/-- a text of some letters -/
def TxS (x : Str) (s : List At) : Prop := x.cps.toList = s.map letC
theorem TxS.mem {x : Str} {s : List At} (h : TxS x s) (y : At) : letC y ∈ x.cps.toList ↔ y ∈ s := by
  rw [h, List.mem_map]
  exact ⟨fun ⟨z, hz, e⟩ => letC_inj e ▸ hz, fun h => ⟨y, h, rfl⟩⟩
section
variable {P : Program} {w : World} {K : PySem.W.Frag} {mg : Str → Option Value} {base : Heap} (T : Tx w K mg)
abbrev Nit : List Str := ["_law_tree_here", "_law_letters_here", "_law_holding"]
theorem sc_ltrue : FnScope Nit Nit (defScope s__law_is_true) := ⟨rfl, rfl, rfl, by decide +kernel, rfl, by decide +kernel, by decide +kernel⟩
def spLTrue (m : Nat) : Sp := fun vs H Q _ => ∃ (p h : Addr) (x : Str) (F : Fm) (s : List At) (hold : List Fm), vs = [.ref p, .str x, .ref h] ∧ TrAt H F p ∧ TxS x s ∧ TTs H h hold ∧ AB.dep F ≤ m ∧ AB.dep F ≤ 63 ∧ Q (.bl (AB.isTrue hold s F)) H
include T
theorem bd_ltrue : L2.Binds K (fdOf K (f__law_is_true K)) Nit [] := T.F__law_is_true.binds fun _ _ _ _ _ _ us hl => match us, hl with | [_, _, _], _ => rfl
theorem ok_ltrue {m k : Nat} (FD : FH P w K mg base k (f__law_is_true K) Nit (spLTrue m)) : FH P w K mg base (k + 1) (f__law_is_true K) Nit (spLTrue (m + 1)) := by
  refine T.F__law_is_true.ok sc_ltrue (fun vs H Q E h => by obtain ⟨_, _, _, _, _, _, rfl, _⟩ := h; rfl) (fun cdv A outer s H vs Q E hr h => ⟨_, PSs.nox (
    pss_cons (ps_if (pt_cmpR op_eq (pe_ix ix_tup (pv 0) pe_int (fun _ _ => rfl)) pe_str (nomark _)) (pss_one (ps_ret (pe_cmpR op_in_sign (pe_ix ix_tup (pv 0) pe_int (fun _ _ => rfl)) (pv 1) rfl))) pss_nil)
    (pss_cons (ps_if (pt_cmpR op_eq (pe_ix ix_tup (pv 0) pe_int (fun _ _ => rfl)) pe_str (nomark _))
      (pss_one (ps_ret (pe_or (pe_not (pe_call FD hr rfl T.g__law_is_true T.F__law_is_true.kp (bd_ltrue T) .nil pass0 (pa_cons (pe_ix ix_tup (pv 0) pe_int (fun _ _ => rfl)) (pa_cons (pv 1) (pa_cons (pv 2) pa_nil)))))
        (pe_one (pe_call FD hr rfl T.g__law_is_true T.F__law_is_true.kp (bd_ltrue T) .nil pass0 (pa_cons (pe_ix ix_tup (pv 0) pe_int (fun _ _ => rfl)) (pa_cons (pv 1) (pa_cons (pv 2) pa_nil)))))))) pss_nil)
    (pss_one (ps_ret (pe_and (pe_cmpR op_eq (pe_ix ix_tup (pv 0) pe_int (fun _ _ => rfl)) pe_str (nomark _)) (pe_one (pe_cmpR (op_inA (Room.u65 hr)) (pv 0) (pv 2) rfl))))))), ?_⟩)
  obtain ⟨p, h, x, F, s, hold, rfl, hF, hx, hh, hd, h63, q⟩ := h
  obtain ⟨vs, ep, hps⟩ := hF.tup
  refine ⟨_, rfl, p, _, _, _, rfl, rfl, SqT.of ep, atI_nat (j := 0) rfl, rfl, _, rfl, ?_⟩
  rw [kq_atm F]
  cases F with
  | atm y =>
    cases hps
    refine iteT ⟨_, rfl, p, _, _, _, rfl, rfl, SqT.of ep, atI_nat (j := 1) rfl, _, rfl, letC y, x, rfl, rfl, ?_⟩
    have e : decide (letC y ∈ x.cps.toList) = AB.isTrue hold s (.atm y) := by
      unfold AB.isTrue
      exact decide_eq_decide.mpr (hx.mem y)
    rw [e]; exact q
  | no =>
    refine iteF ⟨_, rfl, p, _, _, _, rfl, rfl, SqT.of ep, atI_nat (j := 0) rfl, rfl, _, rfl, ?_⟩
    rw [kq_imp .no]
    refine iteF ⟨_, rfl, p, _, _, _, rfl, rfl, SqT.of ep, atI_nat (j := 0) rfl, rfl, ?_⟩
    rw [kq_all .no]
    exact ⟨_, rfl, iteF q⟩
  | all f =>
    refine iteF ⟨_, rfl, p, _, _, _, rfl, rfl, SqT.of ep, atI_nat (j := 0) rfl, rfl, _, rfl, ?_⟩
    rw [kq_imp (.all f)]
    refine iteF ⟨_, rfl, p, _, _, _, rfl, rfl, SqT.of ep, atI_nat (j := 0) rfl, rfl, ?_⟩
    rw [kq_all (.all f)]
    exact ⟨_, rfl, iteT ⟨_, rfl, _, rfl, in_trT hF hh (by omega) q⟩⟩
  | imp f g =>
    obtain ⟨a, b, rfl, ta, tb⟩ := hps
    simp only [AB.dep] at hd h63
    refine iteF ⟨_, rfl, p, _, _, _, rfl, rfl, SqT.of ep, atI_nat (j := 0) rfl, rfl, _, rfl, ?_⟩
    rw [kq_imp (.imp f g)]
    refine iteT ⟨_, rfl, p, _, _, _, rfl, rfl, SqT.of ep, atI_nat (j := 1) rfl, _, rfl, _, rfl, a, h, x, f, s, hold, rfl, ta, hx, hh, by omega, by omega, _, rfl, _, rfl, ?_⟩
    have e : AB.isTrue hold s (.imp f g) = (!AB.isTrue hold s f || AB.isTrue hold s g) := rfl
    rw [e] at q
    cases hc : AB.isTrue hold s f with
    | false => rw [hc] at q; exact iteT q
    | true =>
      rw [hc] at q
      exact iteF ⟨_, rfl, p, _, _, _, rfl, rfl, SqT.of ep, atI_nat (j := 2) rfl, _, rfl, _, rfl, b, h, x, g, s, hold, rfl, tb, hx, hh, by omega, by omega, q⟩
theorem ltrue_all : ∀ m, FH P w K mg base (1 + m) (f__law_is_true K) Nit (spLTrue m)
  | 0 => ⟨fun vs H Q E h => by obtain ⟨_, _, _, _, _, _, rfl, _⟩ := h; rfl, fun A outer s H args us vs Q E hr e0 hb r h => by
    obtain ⟨_, _, _, F, _, _, _, _, _, _, z, _⟩ := h
    have := AB.dep_pos F
    omega⟩
  | m + 1 => ok_ltrue T (ltrue_all m)
end
end AT
end
section
set_option Elab.async false
set_option linter.all false
set_option maxRecDepth 100000
/-! _law_spots. -/
namespace AT
open PySem PySem.Spec PyProof.Rows L2
open AB (Fm At Drv)
def spSt (found : List (List At)) (x : At) : List (List At) := found ++ found.map fun s => s ++ [x]
theorem spots_fold (ls : List At) : AB.spots ls = ls.foldl spSt [[]] := rfl
/-- a list of texts of letters -/
structure SLs (H : Hp) (l : Addr) (ss : List (List At)) : Prop where
  ex : ∃ xs : List Str, H l = some (.lst (xs.map V.str)) ∧ Paired TxS xs ss
theorem SLs.kp {H H' : Hp} {l : Addr} {ss : List (List At)} (k : Kp H H') (h : SLs H l ss) : SLs H' l ss := let ⟨xs, e, p⟩ := h.ex; ⟨xs, k _ _ e, p⟩
theorem let_list {x : Str} (h : LetOk x) : ∃ ls : List At, TxS x ls ∧ ls.length ≤ 4 := by
  have m := h.mem
  have n := h.len
  rw [← Array.length_toList] at n
  unfold TxS
  generalize x.cps.toList = cs at m n
  have : ∃ ls : List At, cs = ls.map letC := by
    clear n
    induction cs with
    | nil => exact ⟨[], rfl⟩
    | cons c cs ih =>
      obtain ⟨ls, e⟩ := ih fun d hd => m d (List.mem_cons_of_mem _ hd)
      have hc := m c List.mem_cons_self
      simp only [List.mem_cons, List.not_mem_nil, or_false] at hc
      rcases hc with rfl | rfl | rfl | rfl
      · exact ⟨.a :: ls, by rw [e]; rfl⟩
      · exact ⟨.b :: ls, by rw [e]; rfl⟩
      · exact ⟨.c :: ls, by rw [e]; rfl⟩
      · exact ⟨.P :: ls, by rw [e]; rfl⟩
  obtain ⟨ls, e⟩ := this
  exact ⟨ls, e, by rw [e, List.length_map] at n; exact n⟩
theorem spFold_len (ls : List At) (i : Nat) : ((ls.take i).foldl spSt [[]]).length ≤ 2 ^ ls.length := by
  have : ((ls.take i).foldl spSt [[]]).length = 2 ^ (ls.take i).length := AB.spots_len (ls.take i)
  rw [this]
  exact Nat.pow_le_pow_right (by decide) (by rw [List.length_take]; omega)
theorem spFold_elt (ls : List At) (i : Nat) : ∀ s ∈ (ls.take i).foldl spSt [[]], s.length ≤ i := by
  induction i with
  | zero => simp
  | succ i ih =>
    intro s hs
    by_cases h : i < ls.length
    · rw [take_succ (List.getElem?_eq_getElem h), List.foldl_append, List.foldl_cons, List.foldl_nil] at hs
      rcases List.mem_append.mp hs with z | z
      · have := ih s z; omega
      · obtain ⟨t, ht, rfl⟩ := List.mem_map.mp z
        have := ih t ht
        rw [List.length_append, List.length_singleton]; omega
    · rw [List.take_of_length_le (by omega)] at hs
      rw [List.take_of_length_le (by omega)] at ih
      have := ih s hs; omega
section
variable {P : Program} {w : World} {K : PySem.W.Frag} {mg : Str → Option Value} {base : Heap} (T : Tx w K mg)
abbrev Nls' : List Str := ["_law_letters_here", "_law_found", "_law_letter", "_law_front"]
theorem sc_lspots : FnScope Nls' ["_law_letters_here"] (defScope s__law_spots) := ⟨rfl, rfl, rfl, by decide +kernel, rfl, by decide +kernel, by decide +kernel⟩
def spLSpots : Sp := fun vs H Q _ => ∃ (x : Str) (ls : List At), vs = [.str x] ∧ TxS x ls ∧ ls.length ≤ 4 ∧ ∀ l H', SLs H' l (AB.spots ls) → Kp H H' → Q (.ref l) H'
include T
theorem bd_lspots : L2.Binds K (fdOf K (f__law_spots K)) ["_law_letters_here"] [] := T.F__law_spots.binds fun _ _ _ _ _ _ us hl => match us, hl with | [_], _ => rfl
theorem ok_lspots : FH P w K mg base 1 (f__law_spots K) ["_law_letters_here"] spLSpots := by
  refine T.F__law_spots.ok sc_lspots (fun vs H Q E h => by obtain ⟨_, _, rfl, _⟩ := h; rfl) (fun cdv A outer s H vs Q E hr h => ⟨_, PSs.nox (
    pss_cons (ps_set (i := 1) sc_lspots.nd rfl (Or.inl rfl) (pe_lst (pa_cons pe_str pa_nil)))
    (pss_cons (ps_for PassesOwn.never rfl (pi_str (pv 0)) (pg_name (i := 2) sc_lspots.nd rfl (Or.inr rfl))
      (pss_one (ps_set (i := 1) sc_lspots.nd rfl (Or.inl rfl) (pe_op op_cat (pv 1)
        (pe_lc (own := [("_law_front", 3)]) (g := gName 3) (tt := tYes) rfl sc_lspots.nd (pi_list (pv 1)) (blkOk_by (own := [("_law_front", 3)]) (N := Nls') (sc := defScope s__law_spots) (by decide +kernel))
          (fun _ _ _ _ _ => pg_name (i := 3) sc_lspots.nd rfl (Or.inl rfl)) (fun _ _ _ _ _ => pts_nil) (fun _ _ _ _ _ => pe_op op_add_str (pv 3) (pv 2)))))))
    (pss_one (ps_ret (pv 1))))), ?_⟩)
  obtain ⟨x, ls, rfl, hx, hl4, q⟩ := h
  refine ⟨Nat.le_trans (Nat.le_succ 1) two_sz, fun l0 hl0 => ?_⟩
  have k0 := kp_new (o := .lst [.str ""]) hl0
  have e0 : upd H l0 (.lst [.str ""]) l0 = some (.lst [.str ""]) := upd_same
  generalize upd H l0 (.lst [.str ""]) = H1 at k0 e0 ⊢
  have hsz : x.cps.size = ls.length := by rw [← Array.length_toList, hx, List.length_map]
  refine ⟨_, rfl, x, rfl, ?_⟩
  refine for_it (walk_str (z := x)) (fun i σ H' => ∃ fl b2 b3, σ = [some (.str x), some (.ref fl), b2, b3] ∧ Kp H H' ∧ SLs H' fl ((ls.take i).foldl spSt [[]])) ?_ ?_ ?_ ?_
  · refine ⟨l0, _, _, rfl, k0, [""], e0, .cons ?_ .nil⟩
    show (Str.ofString "").cps.toList = _
    decide +kernel
  · intro i σ H' _ _
    exact True.intro
  · rintro i v σ H' H'' hi ⟨fl, b2, b3, rfl, kk, hfl⟩ ⟨rfl, c, hc, rfl⟩
    rw [hsz] at hi
    have hci : x.cps.toList[i]? = some c := by rw [Array.getElem?_toList]; exact hc
    rw [hx, List.getElem?_map] at hci
    obtain ⟨y, hy, rfl⟩ : ∃ y, ls[i]? = some y ∧ letC y = c := by simpa using hci
    have hlen := spFold_len ls i
    have helt := spFold_elt ls i
    have p4 : 2 ^ ls.length ≤ 16 := Nat.le_trans (Nat.pow_le_pow_right (by decide) hl4) (by decide)
    have stp : (ls.take (i + 1)).foldl spSt [[]] = (ls.take i).foldl spSt [[]] ++ ((ls.take i).foldl spSt [[]]).map fun s => s ++ [y] := by
      rw [take_succ hy, List.foldl_append]; rfl
    generalize (ls.take i).foldl spSt [[]] = acc at hfl hlen helt stp
    obtain ⟨xs, efl, px⟩ := id hfl.ex
    have lx := Paired.length px
    refine ⟨_, rfl, _, rfl, fl, rfl, ⟨_, SqL.of efl⟩, fun D hD => ?_⟩
    refine lc_it (walk_list (xs := xs.map V.str)) (fun j H3 => Kp H'' H3 ∧ SLs H3 D ((acc.take j).map fun s => s ++ [y])) ?_ ?_ ?_ ?_
    · exact ⟨kp_up (Same.refl _) hD, [], upd_same, by rw [List.take_zero]; exact .nil⟩
    · intro j H3 _ h
      exact SqL.of (h.1 _ _ efl)
    · rintro j v H3 H3' hj ⟨kj, hDl⟩ ⟨rfl, hv⟩
      obtain ⟨z, hz, rfl⟩ : ∃ z, xs[j]? = some z ∧ V.str z = v := by simpa using hv
      obtain ⟨s, hs, hzs⟩ := paired_get px hz
      have hsl := helt s (List.mem_of_getElem? hs)
      obtain ⟨ds, eD, pd⟩ := hDl.ex
      have ld := Paired.length pd
      rw [List.length_map, List.length_take] at ld
      have zl : z.length = s.length := by
        show z.cps.size = _
        rw [← Array.length_toList, hzs, List.length_map]
      have el : (⟨#[letC y]⟩ : Str).length = 1 := rfl
      refine ⟨rfl, _, rfl, _, rfl, z, ⟨#[letC y]⟩, rfl, rfl, by rw [zl, el, sizeLine_eq]; omega, ?_⟩
      refine ⟨_, eD, by rw [List.length_map, ld, sizeLine_eq]; omega, kp_old kj hD, ds ++ [z ++ ⟨#[letC y]⟩], by rw [upd_same, List.map_append]; rfl, ?_⟩
      rw [take_succ hs, List.map_append]
      refine paired_append pd (.cons ?_ .nil)
      show (z ++ (⟨#[letC y]⟩ : Str)).cps.toList = _
      rw [cps_append, Array.toList_append, hzs, List.map_append]; rfl
    · rintro H3 ⟨kj, hDl⟩
      rw [List.length_map, lx, List.take_length] at hDl
      obtain ⟨ds, eD, pd⟩ := hDl.ex
      have ld := Paired.length pd
      rw [List.length_map] at ld
      refine ⟨fl, D, _, _, rfl, rfl, kj _ _ efl, eD, by rw [List.length_map, List.length_map, lx, ld, sizeLine_eq]; omega, fun l2 hl2 => ?_⟩
      refine ⟨l2, _, _, rfl, (kk.trans kj).trans (kp_new hl2), xs ++ ds, by rw [upd_same, List.map_append], ?_⟩
      rw [stp]
      exact paired_append px pd
  · rintro σ H2 ⟨fl, b2, b3, rfl, kk, hfl⟩
    rw [hsz, List.take_length, ← spots_fold] at hfl
    exact ⟨_, rfl, q fl H2 hfl kk⟩
end
end AT
end
section
set_option Elab.async false
set_option linter.all false
/-! _law_met, _law_least: what holds between two turns. -/
namespace AB
def addU (f : List (List Fm)) (h : List Fm) : List (List Fm) := if h ∈ f then f else f ++ [h]
theorem mem_addU {f : List (List Fm)} {h k : List Fm} : k ∈ addU f h ↔ k ∈ f ∨ k = h := by
  unfold addU
  split
  · rename_i hm
    exact ⟨.inl, fun z => z.elim id fun e => e ▸ hm⟩
  · simp
theorem addU_nd {f : List (List Fm)} {h : List Fm} (n : f.Nodup) : (addU f h).Nodup := by
  unfold addU
  split
  · exact n
  · rename_i hm
    exact List.nodup_append.mpr ⟨n, by simp, fun a ha b hb e => hm (by rw [List.mem_singleton.mp hb] at e; exact e ▸ ha)⟩
theorem addU_get {f : List (List Fm)} {h k : List Fm} {i : Nat} (e : f[i]? = some k) : (addU f h)[i]? = some k := by
  unfold addU
  split
  · exact e
  · rw [List.getElem?_append_left (List.getElem?_eq_some_iff.mp e).1]; exact e
theorem addU_len (f : List (List Fm)) (h : List Fm) : f.length ≤ (addU f h).length := by
  unfold addU
  split
  · exact Nat.le_refl _
  · rw [List.length_append]; omega
/-- the sets that are known, and how far they have been met -/
structure Mt (A : List Fm) (hs fs : List (List Fm)) (spot : Nat) : Prop where
  nd : fs.Nodup
  can : ∀ h ∈ fs, Canon A h
  sup : ∀ h ∈ hs, h ∈ fs
  le : spot ≤ fs.length
  clo : ∀ i j h k, i < spot → j < i → fs[i]? = some h → fs[j]? = some k → inter h k ∈ fs
variable {A : List Fm} {hs fs : List (List Fm)} {spot : Nat}
theorem Mt.few (m : Mt A hs fs spot) : fs.length ≤ 2 ^ A.length := canon_few m.nd m.can
theorem Mt.add (m : Mt A hs fs spot) {x : List Fm} (hx : Canon A x) : Mt A hs (addU fs x) spot where
  nd := addU_nd m.nd
  can := fun h hh => (mem_addU.mp hh).elim (m.can h) fun e => e ▸ hx
  sup := fun h hh => mem_addU.mpr (.inl (m.sup h hh))
  le := Nat.le_trans m.le (addU_len _ _)
  clo := fun i j h k hi hj eh ek => by
    have li : i < fs.length := Nat.lt_of_lt_of_le hi m.le
    have lj : j < fs.length := by omega
    have e1 : (addU fs x)[i]? = some fs[i] := addU_get (List.getElem?_eq_getElem li)
    have e2 : (addU fs x)[j]? = some fs[j] := addU_get (List.getElem?_eq_getElem lj)
    rw [e1] at eh; rw [e2] at ek
    cases eh; cases ek
    exact mem_addU.mpr (.inl (m.clo i j _ _ hi hj (List.getElem?_eq_getElem li) (List.getElem?_eq_getElem lj)))
/-- within a turn of the while: all up to j have been met with the one at spot -/
structure Mi (A : List Fm) (hs f0 fs : List (List Fm)) (spot j : Nat) (x : List Fm) : Prop where
  m : Mt A hs fs spot
  pre : ∀ (i : Nat) k, f0[i]? = some k → fs[i]? = some k
  at_ : f0[spot]? = some x
  met : ∀ i k, i < j → f0[i]? = some k → inter x k ∈ fs
theorem Mi.init (m : Mt A hs fs spot) {x : List Fm} (h : fs[spot]? = some x) : Mi A hs fs fs spot 0 x := ⟨m, fun _ _ e => e, h, fun _ _ z => absurd z (Nat.not_lt_zero _)⟩
theorem Mi.step {f0 : List (List Fm)} {j : Nat} {x k : List Fm} (M : Mi A hs f0 fs spot j x) (hk : f0[j]? = some k) : Mi A hs f0 (addU fs (inter x k)) spot (j + 1) x where
  m := M.m.add (inter_canon (M.m.can x (List.mem_of_getElem? (M.pre _ _ M.at_))))
  pre := fun i k e => addU_get (M.pre i k e)
  at_ := M.at_
  met := fun i k' hi e => by
    by_cases h : i = j
    · subst h; rw [hk] at e; cases e; exact mem_addU.mpr (.inr rfl)
    · exact mem_addU.mpr (.inl (M.met i k' (by omega) e))
theorem Mi.fin {f0 : List (List Fm)} {x : List Fm} (M : Mi A hs f0 fs spot spot x) : Mt A hs fs (spot + 1) where
  nd := M.m.nd
  can := M.m.can
  sup := M.m.sup
  le := (List.getElem?_eq_some_iff.mp (M.pre _ _ M.at_)).1
  clo := fun i j h k hi hj eh ek => by
    by_cases e : i = spot
    · subst e
      have lj : j < f0.length := Nat.lt_trans hj (List.getElem?_eq_some_iff.mp M.at_).1
      rw [M.pre _ _ M.at_] at eh; cases eh
      have e2 : f0[j]? = some f0[j] := List.getElem?_eq_getElem lj
      rw [M.pre _ _ e2] at ek; cases ek
      exact M.met j _ hj e2
    · exact M.m.clo i j h k (by omega) hj eh ek
theorem inter_self (h : List Fm) : inter h h = h := by
  unfold inter
  rw [List.filter_eq_self]; intro a ha; simp [ha]
theorem Mt.done (m : Mt A hs fs fs.length) : ∀ h ∈ fs, ∀ k ∈ fs, inter h k ∈ fs := fun h hh k hk => by
  obtain ⟨i, hi⟩ := List.getElem?_of_mem hh
  obtain ⟨j, hj⟩ := List.getElem?_of_mem hk
  have li := (List.getElem?_eq_some_iff.mp hi).1
  have lj := (List.getElem?_eq_some_iff.mp hj).1
  rcases Nat.lt_trichotomy i j with q | q | q
  · rw [inter_comm (m.can h hh) (m.can k hk)]
    exact m.clo j i k h lj q hj hi
  · subst q
    rw [hi] at hj; cases hj
    rw [inter_self]; exact hh
  · exact m.clo i j h k li q hi hj
/-- one after another, each once -/
structure Md (A : List Fm) (hs fs : List (List Fm)) : Prop where
  nd : fs.Nodup
  can : ∀ h ∈ fs, Canon A h
  sup : ∀ h ∈ hs, h ∈ fs
theorem Md.nil : Md A [] [] := ⟨List.nodup_nil, fun _ h => (by cases h), fun _ h => (by cases h)⟩
theorem Md.step (m : Md A hs fs) {x : List Fm} (hx : Canon A x) : Md A (hs ++ [x]) (addU fs x) :=
  ⟨addU_nd m.nd, fun h hh => (mem_addU.mp hh).elim (m.can h) fun e => e ▸ hx, fun h hh => (List.mem_append.mp hh).elim (fun q => mem_addU.mpr (.inl (m.sup h q))) fun q => mem_addU.mpr (.inr (List.mem_singleton.mp q))⟩
theorem Md.mt (m : Md A hs fs) : Mt A hs fs 0 := ⟨m.nd, m.can, m.sup, Nat.zero_le _, fun _ _ _ _ z => absurd z (Nat.not_lt_zero _)⟩
end AB
namespace AB
/-! ### _law_least -/
/-- no spot at which the one holds and the other does not -/
def chk (sp : List (List At)) (F G : Fm) (k : List Fm) : Prop := ∀ s ∈ sp, ¬ (isTrue k s F = true ∧ isTrue k s G = false)
def cnd (F G : Fm) (k : List Fm) (s : List At) : Bool := isTrue k s F && !isTrue k s G
theorem chk_nil {sp : List (List At)} {F G : Fm} {k : List Fm} : sp.filter (cnd F G k) = [] ↔ chk sp F G k := by
  rw [List.filter_eq_nil_iff]
  unfold chk cnd
  refine forall_congr' fun s => forall_congr' fun _ => ?_
  simp
/-- all that holds one level up -/
def onL (A : List Fm) (sp : List (List At)) (ks : List (List Fm)) : List (List Fm) := ks.flatMap fun h => sp.map (onw A h)
theorem onL_len (A : List Fm) (sp : List (List At)) : ∀ ks : List (List Fm), (onL A sp ks).length = ks.length * sp.length
  | [] => by simp [onL]
  | k :: ks => by
    have := onL_len A sp ks
    unfold onL at this ⊢
    rw [List.flatMap_cons, List.length_append, this, List.length_map, List.length_cons, Nat.succ_mul, Nat.add_comm]
theorem onw_canon (A h : List Fm) (s : List At) : Canon A (onw A h s) := Canon.of A _
theorem onL_canon {A : List Fm} {sp : List (List At)} {ks : List (List Fm)} : ∀ h ∈ onL A sp ks, Canon A h := fun h hh => by
  obtain ⟨k, _, hk⟩ := List.mem_flatMap.mp hh
  obtain ⟨s, _, rfl⟩ := List.mem_map.mp hk
  exact onw_canon A k s
theorem onL_has {A : List Fm} {sp : List (List At)} {ks : List (List Fm)} {h : List Fm} {s : List At} (hh : h ∈ ks) (hs : s ∈ sp) : onw A h s ∈ onL A sp ks := List.mem_flatMap.mpr ⟨h, hh, List.mem_map.mpr ⟨s, hs, rfl⟩⟩
/-- between two turns of the while -/
structure Lv (A : List Fm) (sp : List (List At)) (F G : Fm) (ks fr : List (List Fm)) : Prop where
  nd : ks.Nodup
  can : ∀ h ∈ ks, Canon A h
  whole : A ∈ ks
  sub : ∀ h ∈ fr, h ∈ ks
  ok : ∀ k ∈ ks, k ∈ fr ∨ chk sp F G k
  fin : fr = [] → ∃ m, Clo A sp ks m
variable {A : List Fm} {sp : List (List At)} {F G : Fm} {ks fr : List (List Fm)}
theorem Lv.few (v : Lv A sp F G ks fr) : ks.length ≤ 2 ^ A.length := canon_few v.nd v.can
theorem Lv.init : Lv A sp F G [A] [A] := ⟨by simp, fun h hh => by rw [List.mem_singleton.mp hh]; exact Canon.whole A, by simp, fun _ h => h, fun _ h => .inl h, fun z => by cases z⟩
theorem Lv.step (v : Lv A sp F G ks fr) (hc : ∀ k ∈ fr, chk sp F G k) {m : List (List Fm)} (nd : m.Nodup) (can : ∀ h ∈ m, Canon A h) (sup : ∀ h ∈ onL A sp ks, h ∈ m) (clo : ∀ h ∈ m, ∀ k ∈ m, inter h k ∈ m) :
    Lv A sp F G (ks ++ m.filter fun h => decide (h ∉ ks)) (m.filter fun h => decide (h ∉ ks)) where
  nd := List.nodup_append.mpr ⟨v.nd, nd.filter _, fun a ha b hb e => by
    have := (List.mem_filter.mp hb).2
    rw [← e] at this
    exact (of_decide_eq_true this) ha⟩
  can := fun h hh => (List.mem_append.mp hh).elim (v.can h) fun z => can h (List.mem_filter.mp z).1
  whole := List.mem_append_left _ v.whole
  sub := fun h hh => List.mem_append_right _ hh
  ok := fun k hk => (List.mem_append.mp hk).elim (fun z => .inr ((v.ok k z).elim (hc k) id)) .inl
  fin := fun z => by
    rw [z, List.append_nil]
    refine ⟨m, v.can, v.whole, fun h hh s hs => sup _ (onL_has hh hs), clo, fun h hh => ?_⟩
    apply Classical.byContradiction
    intro n
    have : h ∈ m.filter fun h => decide (h ∉ ks) := List.mem_filter.mpr ⟨hh, decide_eq_true n⟩
    rw [z] at this; cases this
theorem Lv.done {ls : List At} (hl : ∀ x, occ x (.imp F G) = true → x ∈ ls) (v : Lv (alls (.imp F G)) (spots ls) F G ks []) : VP F G := by
  obtain ⟨m, c⟩ := v.fin rfl
  exact vp_of_clo hl c fun k hk s hs => (v.ok k hk).elim (fun z => by cases z) fun z => z s hs
end AB
end
section
set_option Elab.async false
set_option linter.all false
set_option maxRecDepth 100000
/-! _law_met. -/
namespace AT
open PySem PySem.Spec PyProof.Rows L2
open AB (Fm At Drv)
/-- a list of tuples of trees -/
structure HLs (H : Hp) (l : Addr) (hs : List (List Fm)) : Prop where
  ex : ∃ ps : List Addr, H l = some (.lst (ps.map V.ref)) ∧ Paired (fun p h => TTs H p h) ps hs
theorem TTs.kp {H H' : Hp} {l : Addr} {Fs : List Fm} (k : Kp H H') (h : TTs H l Fs) : TTs H' l Fs := h.kf (.of k)
theorem HLs.kp {H H' : Hp} {l : Addr} {hs : List (List Fm)} (k : Kp H H') (h : HLs H l hs) : HLs H' l hs := let ⟨ps, e, p⟩ := h.ex; ⟨ps, k _ _ e, Paired.mapP p fun _ _ t => t.kp k⟩
theorem dpAll_tt {K : PySem.W.Frag} {H : Hp} : ∀ {ps : List Addr} {hs : List (List Fm)}, Paired (fun p h => TTs H p h) ps hs → DpAll K H (ps.map V.ref) (hs.map (encTup tdat))
  | _, _, .nil => .nil
  | _, _, .cons h t => .cons h.dp (dpAll_tt t)
theorem HLs.dp {K : PySem.W.Frag} {H : Hp} {l : Addr} {hs : List (List Fm)} (h : HLs H l hs) : Dp K H (.ref l) (.list (hs.map (encTup tdat))) := let ⟨ps, e, p⟩ := h.ex; .lst (SqL.of e) (dpAll_tt p)
theorem shaped_tt {Fs : List Fm} (h : ∀ F ∈ Fs, AB.dep F ≤ 63) : SeqAt.shaped (encTup tdat Fs) = true := by
  refine shaped_of (encT.tup.lay Fs) ?_
  have z : PyData.depthAll (Fs.map tdat) ≤ 63 := depthAll_le fun F hF => Nat.le_trans (tdat_depth F) (h F hF)
  show (PyData.tuple (Fs.map tdat)).depth ≤ 64
  simp only [PyData.depth]; omega
theorem in_tt {K : PySem.W.Frag} {H : Hp} {Q : VK} {f : Bool → Bool} {Fs : List Fm} {p l : Addr} {hs : List (List Fm)} (h : TTs H p Fs) (g : HLs H l hs) (hd : ∀ F ∈ Fs, AB.dep F ≤ 63) (q : Q (.bl (f (decide (Fs ∈ hs)))) H) : rInA K f (.ref p) (.ref l) H Q :=
  ⟨_, _, h.dp, .inl g.dp, shaped_tt hd, encT.tup.layAll hs, by rw [(encT.tup.any hs Fs).trans (decide_eq_decide.mpr Iff.rfl)]; exact q⟩
/-- a set that is put to the list where it is not in it -/
theorem HLs.app {H : Hp} {l p : Addr} {hs : List (List Fm)} {h : List Fm} {ps : List Addr} (e : H l = some (.lst (ps.map V.ref))) (pp : Paired (fun p h => TTs H p h) ps hs) (hp : TTs H p h) : HLs (upd H l (.lst (ps.map V.ref ++ [V.ref p]))) l (hs ++ [h]) := by
  have kl := kf_l (o := .lst (ps.map V.ref ++ [V.ref p])) e
  exact ⟨ps ++ [p], by rw [upd_same, List.map_append]; rfl, paired_append (Paired.mapP pp fun p G h => h.kf kl) (.cons (hp.kf kl) .nil)⟩
theorem cutTo (xs : List V) {n : Nat} (h : n ≤ xs.length) : cutV xs none (some (n : Int)) = xs.take n := by
  unfold cutV
  rw [HT.sIx_nat, HT.sIx_none, Nat.min_eq_left h]; simp
section
variable {P : Program} {w : World} {K : PySem.W.Frag} {mg : Str → Option Value} {base : Heap} (T : Tx w K mg)
abbrev Nlm : List Str := ["_law_lot", "_law_found", "_law_spot", "_law_holding", "_law_back", "_law_shared", "_law_it"]
theorem sc_lmet : FnScope Nlm ["_law_lot"] (defScope s__law_met) := ⟨rfl, rfl, rfl, by decide +kernel, rfl, by decide +kernel, by decide +kernel⟩
def spLMet : Sp := fun vs H Q _ => ∃ (l : Addr) (A : List Fm) (hs : List (List Fm)), vs = [.ref l] ∧ HLs H l hs ∧ (∀ h ∈ hs, AB.Canon A h) ∧ A.length ≤ 4 ∧ (∀ F ∈ A, AB.dep F ≤ 63) ∧ hs.length ≤ 1000 ∧
  ∀ l' ms H', HLs H' l' ms → ms.Nodup → (∀ h ∈ ms, AB.Canon A h) → (∀ h ∈ hs, h ∈ ms) → (∀ h ∈ ms, ∀ k ∈ ms, AB.inter h k ∈ ms) → Kp H H' → Q (.ref l') H'
theorem canon_dep {A h : List Fm} {n : Nat} (c : AB.Canon A h) (hA : ∀ F ∈ A, AB.dep F ≤ n) : ∀ F ∈ h, AB.dep F ≤ n := by
  obtain ⟨p, rfl⟩ := c
  exact fun F hF => hA F (List.mem_filter.mp hF).1
theorem canon_len {A h : List Fm} (c : AB.Canon A h) : h.length ≤ A.length := by
  obtain ⟨p, rfl⟩ := c
  exact List.length_filter_le _ _
include T
theorem bd_lmet : L2.Binds K (fdOf K (f__law_met K)) ["_law_lot"] [] := T.F__law_met.binds fun _ _ _ _ _ _ us hl => match us, hl with | [_], _ => rfl
theorem ok_lmet : FH P w K mg base 1 (f__law_met K) ["_law_lot"] spLMet := by
  refine T.F__law_met.ok sc_lmet (fun vs H Q E h => by obtain ⟨_, _, _, rfl, _⟩ := h; rfl) (fun cdv A outer s H vs Q E hr h => ⟨_, PSs.nox (
    pss_cons (ps_par (i := 1) (j := 2) rfl sc_lmet.nd rfl rfl (by decide) rfl rfl (pa_cons (pe_lst pa_nil) (pa_cons pe_int pa_nil)) rfl)
    (pss_cons (ps_for PassesOwn.never rfl (pi_list (pv 0)) (pg_name (i := 3) sc_lmet.nd rfl (Or.inl rfl))
      (pss_one (ps_if (pt_cmpR (op_notInA (Room.u65 hr)) (pv 3) (pv 1) rfl) (pss_one (ps_expr (pe_bm PySem.F.plainAttrs_list PySem.F.slot_list_append PySem.F.type_list_append mt_append (pv 1) (pa_cons (pv 3) pa_nil)))) pss_nil)))
    (pss_cons (ps_while PassesOwn.never (pt_cmpR op_lt (pv 2) (pe_callB call_len_seq rfl T.b_len boot_len (pa_cons (pv 1) pa_nil)) (nomark _))
      (pss_cons (ps_for PassesOwn.never rfl (pi_list (pe_slice sl_list (pv 1) po_none (po_some (pv 2)))) (pg_name (i := 4) sc_lmet.nd rfl (Or.inr rfl))
        (pss_cons (ps_set (i := 5) sc_lmet.nd rfl (Or.inl rfl) (pe_callTy call_tuple_of rfl T.b_tuple (by decide +kernel) (pa_cons
          (pe_lc (own := [("_law_it", 6)]) (g := gName 6) (te := tVar 6) rfl sc_lmet.nd (pi_tup (pe_ix ix_list (pv 1) (pv 2) (fun _ _ => rfl))) (blkOk_by (own := [("_law_it", 6)]) (N := Nlm) (sc := defScope s__law_met) (by decide +kernel))
            (fun _ _ _ _ _ => pg_name (i := 6) sc_lmet.nd rfl (Or.inl rfl)) (tt := tTest (tOp (rInA K fun b => b) (tVar 6) (tVar 4))) (fun _ _ _ _ _ => pts_one (pt_cmpR (op_inA (Room.u65 hr)) (pv 6) (pv 4) rfl)) (fun _ _ _ _ _ => pv 6)) pa_nil)))
        (pss_one (ps_if (pt_cmpR (op_notInA (Room.u65 hr)) (pv 5) (pv 1) rfl) (pss_one (ps_expr (pe_bm PySem.F.plainAttrs_list PySem.F.slot_list_append PySem.F.type_list_append mt_append (pv 1) (pa_cons (pv 5) pa_nil)))) pss_nil))))
      (pss_one (ps_set (i := 2) sc_lmet.nd rfl (Or.inl rfl) (pe_op op_add (pv 2) pe_int)))))
    (pss_one (ps_ret (pv 1)))))), ?_⟩)
  obtain ⟨l, A0, hs, rfl, hl, hcan, hA4, hAd, hlen, q⟩ := h
  obtain ⟨ls, el, pl⟩ := id hl.ex
  have ll := Paired.length pl
  have p16 : 2 ^ A0.length ≤ 16 := Nat.le_trans (Nat.pow_le_pow_right (by decide) hA4) (by decide)
  refine ⟨Nat.zero_le _, fun fl hfl => ?_⟩
  have k0 := kp_new (o := .lst []) hfl
  have e0 : upd H fl (.lst []) fl = some (.lst []) := upd_same
  generalize upd H fl (.lst []) = H1 at k0 e0 ⊢
  refine ⟨_, _, rfl, ?_⟩
  refine ⟨_, rfl, l, rfl, ⟨_, SqL.of (k0 _ _ el)⟩, ?_⟩
  refine for_it (walk_list (xs := ls.map V.ref)) (fun i σ H' => ∃ fs b3 b4 b5 b6, σ = [some (.ref l), some (.ref fl), some (.int 0), b3, b4, b5, b6] ∧ Kp H H' ∧ HLs H' fl fs ∧ AB.Md A0 (hs.take i) fs) ?_ ?_ ?_ ?_
  · exact ⟨[], _, _, _, _, rfl, k0, ⟨[], e0, .nil⟩, by rw [List.take_zero]; exact AB.Md.nil⟩
  · rintro i σ H' _ ⟨_, _, _, _, _, _, kk, _⟩
    exact SqL.of (kk _ _ el)
  · rintro i x σ H' H'' hi ⟨fs, b3, b4, b5, b6, rfl, kk, hfs, md⟩ ⟨rfl, hx⟩
    obtain ⟨r, hr2, rfl⟩ : ∃ r, ls[i]? = some r ∧ V.ref r = x := by simpa using hx
    obtain ⟨h, hh, hrh⟩ := paired_get pl hr2
    have hc := hcan h (List.mem_of_getElem? hh)
    have hr3 := hrh.kp kk
    have few := AB.canon_few md.nd md.can
    obtain ⟨ps, efl, pp⟩ := id hfs.ex
    have lp := Paired.length pp
    have stp := md.step hc
    rw [← take_succ hh] at stp
    refine ⟨_, rfl, _, rfl, in_tt hr3 hfs (canon_dep hc hAd) ⟨_, rfl, ite2 (fun z => ?_) fun z => ?_⟩⟩
    · have z' : h ∉ fs := by simpa using z
      refine ⟨_, rfl, .inl ⟨rfl, _, SqL.of efl⟩, _, rfl, fl, _, _, rfl, rfl, efl, by rw [List.length_map, lp, sizeLine_eq]; omega, ?_⟩
      refine ⟨_, _, _, _, _, rfl, kp_old kk hfl, HLs.app efl pp hr3, ?_⟩
      unfold AB.addU at stp
      rwa [if_neg z'] at stp
    · have z' : h ∈ fs := by simpa using z
      refine ⟨fs, _, _, _, _, rfl, kk, hfs, ?_⟩
      unfold AB.addU at stp
      rwa [if_pos z'] at stp
  · rintro σ H2 ⟨fs, b3, b4, b5, b6, rfl, kk, hfs, md⟩
    rw [List.length_map, ll, List.take_length] at md
    refine ⟨fun m σ H' => ∃ (fs : List (List Fm)) (spot : Nat) (b3 b4 b5 b6 : Option V), σ = [some (.ref l), some (.ref fl), some (.int spot), b3, b4, b5, b6] ∧ m = 17 - spot ∧ Kp H H' ∧ HLs H' fl fs ∧ AB.Mt A0 hs fs spot, ⟨_, fs, 0, b3, b4, b5, b6, rfl, rfl, kk, hfs, md.mt⟩, ?_⟩
    clear md hfs kk H2 fs
    rintro m σ H2 ⟨fs, spot, b3, b4, b5, b6, rfl, rfl, kk, hfs, mt⟩
    obtain ⟨ps, efl, pp⟩ := id hfs.ex
    have lp := Paired.length pp
    have few := mt.few
    refine ⟨_, rfl, _, rfl, fl, _, rfl, .inl (SqL.of efl), _, _, rfl, rfl, _, rfl, ite2 (fun z => ?_) fun z => ?_⟩
    · have hlt : spot < fs.length := by
        have := of_decide_eq_true z
        rw [List.length_map, lp] at this
        omega
      have hx : fs[spot]? = some fs[spot] := List.getElem?_eq_getElem hlt
      generalize fs[spot] = x at hx
      have hxc := mt.can x (List.mem_of_getElem? hx)
      refine ⟨fun σ' H3 => ∃ m', m' < _ ∧ _, fun σ' H3 z => z, ?_⟩
      refine ⟨_, rfl, _, rfl, _, rfl, fl, _, rfl, SqL.of efl, fun c hc => ?_⟩
      rw [cutTo _ (by rw [List.length_map, lp]; exact mt.le)]
      have kc := kp_new (o := .lst ((ps.map V.ref).take spot)) hc
      have ec : upd H2 c (.lst ((ps.map V.ref).take spot)) c = some (.lst ((ps.map V.ref).take spot)) := upd_same
      have ncf : c ≠ fl := fun z => by rw [z, efl] at hc; cases hc
      generalize upd H2 c (.lst ((ps.map V.ref).take spot)) = H3 at kc ec ⊢
      have hfs3 := hfs.kp kc
      refine ⟨c, rfl, ⟨_, SqL.of ec⟩, ?_⟩
      have lsp : ((ps.map V.ref).take spot).length = spot := by rw [List.length_take, List.length_map, lp]; omega
      refine for_it (walk_list (xs := (ps.map V.ref).take spot)) (fun j σ H' => ∃ fs' b3 b4 b5 b6, σ = [some (.ref l), some (.ref fl), some (.int spot), b3, b4, b5, b6] ∧ Kp H H' ∧ KF H2 H' ∧ H' c = some (.lst ((ps.map V.ref).take spot)) ∧ HLs H' fl fs' ∧ AB.Mi A0 hs fs fs' spot j x) ?_ ?_ ?_ ?_
      · exact ⟨fs, _, _, _, _, rfl, kk.trans kc, .of kc, ec, hfs3, AB.Mi.init mt hx⟩
      · rintro j σ H' _ ⟨_, _, _, _, _, _, _, _, e, _⟩
        exact SqL.of e
      · rintro j v σ H' H'' hj ⟨fs', b3, b4, b5, b6, rfl, k1, kf1, ec', hfs', mi⟩ ⟨rfl, hv⟩
        rw [lsp] at hj
        obtain ⟨pj, hpj, rfl⟩ : ∃ pj, ps[j]? = some pj ∧ V.ref pj = v := by
          rw [List.getElem?_take_of_lt hj] at hv
          simpa using hv
        obtain ⟨k, hk, hpk⟩ := paired_get pp hpj
        have hpk' := hpk.kf kf1
        obtain ⟨ps', efl', pp'⟩ := id hfs'.ex
        have lp' := Paired.length pp'
        have few' := mi.m.few
        obtain ⟨px, hpx, hpxx⟩ : ∃ px, ps'[spot]? = some px ∧ TTs H'' px x := by
          have e := mi.pre _ _ mi.at_
          have lt := (List.getElem?_eq_some_iff.mp e).1
          have e2 : ps'[spot]? = some (ps'[spot]'(by rw [lp']; exact lt)) := List.getElem?_eq_getElem _
          obtain ⟨x', ex', hx'⟩ := paired_get pp' e2
          rw [e] at ex'; cases ex'
          exact ⟨_, e2, hx'⟩
        obtain ⟨qs, epx, pq⟩ := id hpxx.ex
        have lq := Paired.length pq
        have lx : x.length ≤ 4 := Nat.le_trans (canon_len hxc) hA4
        refine ⟨_, rfl, _, rfl, fl, _, _, _, rfl, rfl, SqL.of efl', atI_nat (j := spot) (by rw [List.getElem?_map, hpx]; rfl), px, rfl, ⟨_, SqT.of epx⟩, fun D hD => ?_⟩
        refine lc_it (walk_tup (xs := qs.map V.ref)) (fun t H5 => Kp H'' H5 ∧ TLs H5 D ((x.take t).filter fun F => decide (F ∈ k))) ?_ ?_ ?_ ?_
        · exact ⟨kp_up (Same.refl _) hD, [], upd_same, .nil⟩
        · intro t H5 _ h
          exact SqT.of (h.1 _ _ epx)
        · rintro t v H5 H5' ht ⟨kj, hDl⟩ ⟨rfl, hv⟩
          obtain ⟨a, hat, rfl⟩ : ∃ a, qs[t]? = some a ∧ V.ref a = v := by simpa using hv
          obtain ⟨F, hF, haF⟩ := paired_get pq hat
          have dF := canon_dep hxc hAd F (List.mem_of_getElem? hF)
          have haF' := haF.kp kj
          obtain ⟨ds, eD, pd⟩ := id hDl.ex
          have ld := Paired.length pd
          have lfl := List.length_filter_le (fun F => decide (F ∈ k)) (x.take t)
          rw [List.length_take] at lfl
          refine ⟨rfl, _, rfl, _, rfl, in_trT haF' (hpk'.kp kj) (by omega) ⟨_, rfl, ite2 (fun z => ?_) fun z => ?_⟩⟩
          · have z' : F ∈ k := by simpa using z
            refine ⟨_, rfl, _, eD, by rw [List.length_map, ld, sizeLine_eq]; omega, kp_old kj hD, ds ++ [a], by rw [upd_same, List.map_append]; rfl, ?_⟩
            have kl := kf_l (o := .lst (ds.map V.ref ++ [V.ref a])) eD
            rw [take_succ hF, List.filter_append, show [F].filter (fun F => decide (F ∈ k)) = [F] by simp [z']]
            exact paired_append (Paired.mapP pd fun p G h => h.kf kl) (.cons (haF'.kf kl) .nil)
          · have z' : F ∉ k := by simpa using z
            refine ⟨kj, ?_⟩
            rw [take_succ hF, List.filter_append, show [F].filter (fun F => decide (F ∈ k)) = [] by simp [z'], List.append_nil]
            exact hDl
        · rintro H5 ⟨k5, hDl⟩
          rw [List.length_map, lq, List.take_length] at hDl
          obtain ⟨ds, eD, pd⟩ := hDl.ex
          have hic := AB.inter_canon (k := k) hxc
          refine ⟨D, _, rfl, .inl ⟨SqL.of eD, fun t ht => ?_⟩⟩
          have k6 := kp_new (o := .tup (ds.map V.ref)) ht
          have ht2 : TTs (upd H5 t (.tup (ds.map V.ref))) t (AB.inter x k) := ⟨ds, upd_same, Paired.mapP pd fun p G h => TrAt.kp k6 h⟩
          generalize upd H5 t (.tup (ds.map V.ref)) = H6 at k6 ht2 ⊢
          have k56 := k5.trans k6
          have efl6 := k56 _ _ efl'
          have pp6 := Paired.mapP pp' fun p G h => TTs.kp k56 h
          have stp := mi.step hk
          refine ⟨_, rfl, _, rfl, in_tt ht2 (hfs'.kp k56) (canon_dep hic hAd) ⟨_, rfl, ite2 (fun z => ?_) fun z => ?_⟩⟩
          · have z' : AB.inter x k ∉ fs' := by simpa using z
            refine ⟨_, rfl, .inl ⟨rfl, _, SqL.of efl6⟩, _, rfl, fl, _, _, rfl, rfl, efl6, by rw [List.length_map, lp', sizeLine_eq]; omega, ?_⟩
            refine ⟨_, _, _, _, _, rfl, kp_old (k1.trans k56) hfl, (kf1.trans (.of k56)).trans (kf_l efl6), by rw [upd_ne ncf]; exact k56 _ _ ec', HLs.app efl6 pp6 ht2, ?_⟩
            unfold AB.addU at stp
            rwa [if_neg z'] at stp
          · have z' : AB.inter x k ∈ fs' := by simpa using z
            refine ⟨fs', _, _, _, _, rfl, k1.trans k56, kf1.trans (.of k56), k56 _ _ ec', hfs'.kp k56, ?_⟩
            unfold AB.addU at stp
            rwa [if_pos z'] at stp
      · rintro σ H' ⟨fs', b3, b4, b5, b6, rfl, k1, kf1, ec', hfs', mi⟩
        rw [lsp] at mi
        refine ⟨_, rfl, _, _, rfl, rfl, ?_⟩
        exact ⟨_, by omega, fs', spot + 1, _, _, _, _, rfl, rfl, k1, hfs', mi.fin⟩
    · have hge : spot = fs.length := by
        have h1 : ¬ ((spot : Int) < ((ps.map V.ref).length : Nat)) := fun h => z (decide_eq_true h)
        rw [List.length_map, lp] at h1
        have := mt.le
        omega
      subst hge
      exact ⟨_, rfl, q fl fs H2 hfs mt.nd mt.can mt.sup mt.done kk⟩
end
end AT
end
section
set_option Elab.async false
set_option linter.all false
set_option maxRecDepth 100000
/-! _law_least. -/
namespace AT
open PySem PySem.Spec PyProof.Rows L2
open AB (Fm At Drv)
section
variable {P : Program} {w : World} {K : PySem.W.Frag} {mg : Str → Option Value} {base : Heap} (T : Tx w K mg)
abbrev Nle : List Str := ["_law_front", "_law_back", "_law_alls_here", "_law_spots_here", "_law_known", "_law_height", "_law_fresh", "_law_holding", "_law_it", "_law_onward", "_law_far"]
theorem sc_lle : FnScope Nle ["_law_front", "_law_back"] (defScope s__law_least) := ⟨rfl, rfl, rfl, by decide +kernel, rfl, by decide +kernel, by decide +kernel⟩
def spLLeast : Sp := fun vs H Q _ => ∃ (p r : Addr) (F G : Fm), vs = [.ref p, .ref r] ∧ TrAt H F p ∧ TrAt H G r ∧ AB.dep (.imp F G) ≤ 60 ∧ AB.size (.imp F G) ≤ 1000 ∧ (AB.alls (.imp F G)).length ≤ 4 ∧
  ∀ v H', ((v = .non ∧ AB.VP F G) ∨ ∃ n : Int, v = .int n) → Kp H H' → Q v H'
include T
theorem bd_lle : L2.Binds K (fdOf K (f__law_least K)) ["_law_front", "_law_back"] [] := T.F__law_least.binds fun _ _ _ _ _ _ us hl => match us, hl with | [_, _], _ => rfl
theorem ok_lle : FH P w K mg base 62 (f__law_least K) ["_law_front", "_law_back"] spLLeast := by
  have gA := lalls_all (P := P) (base := base) T 60
  have gL := llet_all (P := P) (base := base) T 60
  have gT := ltrue_all (P := P) (base := base) T 60
  have gS := (ok_lspots (P := P) (base := base) T).mono (show 1 ≤ 61 by decide)
  have gM := (ok_lmet (P := P) (base := base) T).mono (show 1 ≤ 61 by decide)
  refine T.F__law_least.ok sc_lle (fun vs H Q E h => by obtain ⟨_, _, _, _, rfl, _⟩ := h; rfl) (fun cdv A outer s H vs Q E hr h => ⟨_, PSs.nox (
    pss_cons (ps_set (i := 2) sc_lle.nd rfl (Or.inl rfl) (pe_call gA hr rfl T.g__law_alls T.F__law_alls.kp (bd_lalls T) .nil pass0 (pa_cons (pe_tup (pa_cons pe_str (pa_cons (pv 0) (pa_cons (pv 1) pa_nil)))) pa_nil)))
    (pss_cons (ps_asg (pe_tup (pa_cons (pe_call gS hr rfl T.g__law_spots T.F__law_spots.kp (bd_lspots T) .nil pass0 (pa_cons (pe_call gL hr rfl T.g__law_letters T.F__law_letters.kp (bd_llet T) .nil pass0 (pa_cons (pe_tup (pa_cons pe_str (pa_cons (pv 0) (pa_cons (pv 1) pa_nil)))) pa_nil)) pa_nil))
        (pa_cons (pe_lst (pa_cons (pe_callTy call_tuple_of rfl T.b_tuple (by decide +kernel) (pa_cons (pv 2) pa_nil)) pa_nil)) (pa_cons pe_int pa_nil))))
      (pg_tup rfl (pgs_cons (pg_name (i := 3) sc_lle.nd rfl (Or.inl rfl)) (pgs_cons (pg_name (i := 4) sc_lle.nd rfl (Or.inr rfl)) (pgs_cons (pg_name (i := 5) sc_lle.nd rfl (Or.inl rfl)) pgs_nil)))))
    (pss_cons (ps_set (i := 6) sc_lle.nd rfl (Or.inl rfl) (pe_callTy call_list_of rfl T.b_list (by decide +kernel) (pa_cons (pv 4) pa_nil)))
    (pss_cons (ps_while PassesOwn.never (pt_cmpR (op_neNil hr.units0) (pv 6) (pe_lst pa_nil) (nomark _))
      (pss_cons (ps_for PassesOwn.never rfl (pi_list (pv 6)) (pg_name (i := 7) sc_lle.nd rfl (Or.inr rfl))
        (pss_one (ps_if (pt_cmpR (op_neNil hr.units0)
            (pe_lc (own := [("_law_it", 8)]) (g := gName 8) (te := tC (.int 1)) rfl sc_lle.nd (pi_list (pv 3)) (blkOk_by (own := [("_law_it", 8)]) (N := Nle) (sc := defScope s__law_least) (by decide +kernel))
              (fun _ _ _ _ _ => pg_name (i := 8) sc_lle.nd rfl (Or.inl rfl))
              (tt := tAnd (tB (tCall (spLTrue 60) [] E0 (tCons (tVar 0) (tCons (tVar 8) (tCons (tVar 7) tNil))))) (tNot (tB (tCall (spLTrue 60) [] E0 (tCons (tVar 1) (tCons (tVar 8) (tCons (tVar 7) tNil)))))))
              (fun _ _ _ _ _ => pts_one (PW.pt (pw_and (pt_val (pe_call gT hr rfl T.g__law_is_true T.F__law_is_true.kp (bd_ltrue T) .nil pass0 (pa_cons (pv 0) (pa_cons (pv 8) (pa_cons (pv 7) pa_nil)))))
                (pw_and1 (pt_not (pt_val (pe_call gT hr rfl T.g__law_is_true T.F__law_is_true.kp (bd_ltrue T) .nil pass0 (pa_cons (pv 1) (pa_cons (pv 8) (pa_cons (pv 7) pa_nil))))))))))
              (fun _ _ _ _ _ => pe_int)) (pe_lst pa_nil) (nomark _))
          (pss_one (ps_ret (pv 5))) pss_nil)))
      (pss_cons (ps_set (i := 9) sc_lle.nd rfl (Or.inl rfl) (pe_lst pa_nil))
      (pss_cons (ps_for PassesOwn.never rfl (pi_list (pv 4)) (pg_name (i := 7) sc_lle.nd rfl (Or.inr rfl))
        (pss_one (ps_for PassesOwn.never rfl (pi_list (pv 3)) (pg_name (i := 8) sc_lle.nd rfl (Or.inr rfl))
          (pss_one (ps_expr (pe_bm PySem.F.plainAttrs_list PySem.F.slot_list_append PySem.F.type_list_append mt_append (pv 9) (pa_cons (pe_callTy call_tuple_of rfl T.b_tuple (by decide +kernel) (pa_cons
            (pe_lc (own := [("_law_far", 10)]) (g := gName 10) (te := tVar 10) rfl sc_lle.nd (pi_list (pv 2)) (blkOk_by (own := [("_law_far", 10)]) (N := Nle) (sc := defScope s__law_least) (by decide +kernel))
              (fun _ _ _ _ _ => pg_name (i := 10) sc_lle.nd rfl (Or.inl rfl))
              (tt := tAnd (tTest (tOp (rInA K fun b => b) (tVar 10) (tVar 7))) (tB (tCall (spLTrue 60) [] E0 (tCons (tOp (rIxT K) (tVar 10) (tC (.int 1))) (tCons (tVar 8) (tCons (tVar 7) tNil))))))
              (fun _ _ _ _ _ => pts_one (PW.pt (pw_and (pt_cmpR (op_inA (Room.u65 hr)) (pv 10) (pv 7) rfl)
                (pw_and1 (pt_val (pe_call gT hr rfl T.g__law_is_true T.F__law_is_true.kp (bd_ltrue T) .nil pass0 (pa_cons (pe_ix ix_tup (pv 10) pe_int (fun _ _ => rfl)) (pa_cons (pv 8) (pa_cons (pv 7) pa_nil)))))))))
              (fun _ _ _ _ _ => pv 10)) pa_nil)) pa_nil)))))))
      (pss_cons (ps_par (i := 6) (j := 5) rfl sc_lle.nd rfl rfl (by decide) rfl rfl (pa_cons
          (pe_lc (own := [("_law_holding", 7)]) (g := gName 7) (te := tVar 7) rfl sc_lle.nd (pi_list (pe_call gM hr rfl T.g__law_met T.F__law_met.kp (bd_lmet T) .nil pass0 (pa_cons (pv 9) pa_nil))) (blkOk_by (own := [("_law_holding", 7)]) (N := Nle) (sc := defScope s__law_least) (by decide +kernel))
            (fun _ _ _ _ _ => pg_name (i := 7) sc_lle.nd rfl (Or.inl rfl)) (tt := tTest (tOp (rInA K fun b => !b) (tVar 7) (tVar 4))) (fun _ _ _ _ _ => pts_one (pt_cmpR (op_notInA (Room.u65 hr)) (pv 7) (pv 4) rfl)) (fun _ _ _ _ _ => pv 7))
          (pa_cons (pe_op op_add (pv 5) pe_int) pa_nil)) rfl)
      (pss_one (ps_set (i := 4) sc_lle.nd rfl (Or.inr rfl) (pe_op op_cat (pv 4) (pv 6)))))))))
    (pss_one (ps_ret pe_non)))))), ?_⟩)
  obtain ⟨p, r, F, G, rfl, hF, hG, hd, hz, hal, q⟩ := h
  have dF : AB.dep F ≤ 59 := by simp only [AB.dep] at hd; omega
  have dG : AB.dep G ≤ 59 := by simp only [AB.dep] at hd; omega
  refine ⟨_, rfl, _, rfl, three_sz, fun t ht => ⟨t, .imp F G, rfl, tr_imp ht hF hG, hd, by omega, hz, fun la H1 hla k1 => ?_⟩⟩
  have kk1 := (kp_new (o := .tup [.str "if", .ref p, .ref r]) ht).trans k1
  refine ⟨_, rfl, _, rfl, three_sz, fun t2 ht2 => ⟨t2, .imp F G, rfl, tr_imp ht2 (hF.kp kk1) (hG.kp kk1), hd, fun x H2 hx k2 => ?_⟩⟩
  have kk2 := (kp_new (o := .tup [.str "if", .ref p, .ref r]) ht2).trans k2
  obtain ⟨ls, hxs, hl4⟩ := let_list hx.ok
  have hls : ∀ y, AB.occ y (.imp F G) = true → y ∈ ls := fun y hy => (hxs.mem y).mp ((hx.mem y).mpr hy)
  refine ⟨x, ls, rfl, hxs, hl4, fun sl H3 hsl k3 => ?_⟩
  have hla3 := hla.kp (kk2.trans k3)
  obtain ⟨las, ela, pla⟩ := id hla3.ex
  refine ⟨_, rfl, la, _, rfl, .inl ⟨SqL.of ela, fun ta hta => ?_⟩⟩
  have k4 := kp_new (o := .tup (las.map V.ref)) hta
  have hta2 : TTs (upd H3 ta (.tup (las.map V.ref))) ta (AB.alls (.imp F G)) := ⟨las, upd_same, Paired.mapP pla fun p G h => TrAt.kp k4 h⟩
  generalize upd H3 ta (.tup (las.map V.ref)) = H4 at k4 hta2 ⊢
  refine ⟨Nat.le_trans (Nat.le_succ 1) two_sz, fun kl hkl => ?_⟩
  have k5 := kp_new (o := .lst [.ref ta]) hkl
  have hkl2 : HLs (upd H4 kl (.lst [.ref ta])) kl [AB.alls (.imp F G)] := ⟨[ta], upd_same, .cons (hta2.kp k5) .nil⟩
  generalize upd H4 kl (.lst [.ref ta]) = H5 at k5 hkl2 ⊢
  refine ⟨three_sz, fun tt htt => ?_⟩
  have k6 := kp_new (o := .tup [.ref sl, .ref kl, .int 0]) htt
  have ett : upd H5 tt (.tup [.ref sl, .ref kl, .int 0]) tt = some (.tup [.ref sl, .ref kl, .int 0]) := upd_same
  generalize upd H5 tt (.tup [.ref sl, .ref kl, .int 0]) = H6 at k6 ett ⊢
  refine ⟨tt, _, rfl, SqT.of ett, rfl, _, _, rfl, _, _, rfl, _, _, rfl, rfl, ?_⟩
  have hkl6 := hkl2.kp k6
  obtain ⟨kls, ekl, pkl⟩ := id hkl6.ex
  refine ⟨_, rfl, kl, _, rfl, .inl (SqL.of ekl), fun frl hfrl => ?_⟩
  have k7 := kp_new (o := .lst (kls.map V.ref)) hfrl
  have hfr7 : HLs (upd H6 frl (.lst (kls.map V.ref))) frl [AB.alls (.imp F G)] := ⟨kls, upd_same, Paired.mapP pkl fun p G h => TTs.kp k7 h⟩
  generalize upd H6 frl (.lst (kls.map V.ref)) = H7 at k7 hfr7 ⊢
  have k37 : Kp H3 H7 := (((k4.trans k5).trans k6).trans k7)
  have k07 : Kp H H7 := (kk1.trans (kk2.trans k3)).trans k37
  have hA7 := hla3.kp k37
  have hS7 := hsl.kp k37
  have hK7 := hkl6.kp k7
  have hsp : (AB.spots ls).length ≤ 16 := by
    rw [AB.spots_len]; exact Nat.le_trans (Nat.pow_le_pow_right (by decide) hl4) (by decide)
  have hAd : ∀ M ∈ AB.alls (.imp F G), AB.dep M ≤ 60 := fun M hM => Nat.le_trans (AB.dep_subs _ ((AB.mem_alls _ M).mp hM).1) hd
  have hAa : ∀ M ∈ AB.alls (.imp F G), ∃ f, M = .all f := fun M hM => AB.isAll_iff.mp ((AB.mem_alls _ M).mp hM).2
  have hdone : ∀ ks, AB.Lv (AB.alls (.imp F G)) (AB.spots ls) F G ks [] → AB.VP F G := fun ks v => v.done hls
  have hlv : AB.Lv (AB.alls (.imp F G)) (AB.spots ls) F G [AB.alls (.imp F G)] [AB.alls (.imp F G)] := AB.Lv.init
  have p16 : 2 ^ (AB.alls (.imp F G)).length ≤ 16 := Nat.le_trans (Nat.pow_le_pow_right (by decide) hal) (by decide)
  generalize AB.alls (.imp F G) = Al at hal hfr7 hA7 hK7 hAd hAa hdone hlv p16
  generalize AB.spots ls = sp at hsp hS7 hdone hlv
  refine ⟨fun m σ H' => ∃ (kl frl : Addr) (n : Int) (ks fr : List (List Fm)) (b7 b8 b9 b10 : Option V), σ = [some (.ref p), some (.ref r), some (.ref la), some (.ref sl), some (.ref kl), some (.int n), some (.ref frl), b7, b8, b9, b10] ∧ m = 2 * (17 - ks.length) + min 1 fr.length ∧
    Kp H7 H' ∧ HLs H' kl ks ∧ HLs H' frl fr ∧ AB.Lv Al sp F G ks fr, ⟨_, kl, frl, 0, [Al], [Al], _, _, _, _, rfl, rfl, Same.refl _, hK7, hfr7, hlv⟩, ?_⟩
  rintro m σ H' ⟨kl, frl, n, ks, fr, b7, b8, b9, b10, rfl, rfl, kk, hK, hfr, lv⟩
  obtain ⟨frs, efr, pfr⟩ := id hfr.ex
  have lfr := Paired.length pfr
  have fewk := lv.few
  refine ⟨_, rfl, Nat.zero_le _, fun e0 he0 => ?_⟩
  have k8 := kp_new (o := .lst []) he0
  have ee0 : upd H' e0 (.lst []) e0 = some (.lst []) := upd_same
  generalize upd H' e0 (.lst []) = H8 at k8 ee0 ⊢
  refine ⟨frl, e0, _, rfl, rfl, SqL.of (k8 _ _ efr), SqL.of ee0, _, rfl, ?_⟩
  cases fr with
  | nil =>
    cases pfr
    exact iteF (q .non H8 (.inl ⟨rfl, hdone ks lv⟩) ((k07.trans kk).trans k8))
  | cons f0 fr0 =>
    cases frs with
    | nil => cases pfr
    | cons fa frs =>
    refine iteT ?_
    have hne : 1 ≤ (f0 :: fr0).length := by simp
    generalize f0 :: fr0 = fr at hne hfr lv pfr lfr
    generalize fa :: frs = frs at efr pfr lfr
    refine ⟨fun σ' H3 => ∃ m', m' < _ ∧ _, fun σ' H3 z => z, ?_⟩
    have kk8 := kk.trans k8
    have hA8 := hA7.kp kk8
    have hS8 := hS7.kp kk8
    have hF8 := hF.kp (k07.trans kk8)
    have hG8 := hG.kp (k07.trans kk8)
    have hK8 := hK.kp k8
    have hfr8 := hfr.kp k8
    have pfr8 := Paired.mapP pfr fun p h z => TTs.kp k8 z
    have efr8 := k8 _ _ efr
    obtain ⟨sps, esl, psp⟩ := id hS8.ex
    have lsp := Paired.length psp
    refine ⟨_, rfl, frl, rfl, ⟨_, SqL.of efr8⟩, ?_⟩
    refine for_it (walk_list (xs := frs.map V.ref)) (fun i σ H' => ∃ b7 b8 b9 b10, σ = [some (.ref p), some (.ref r), some (.ref la), some (.ref sl), some (.ref kl), some (.int n), some (.ref frl), b7, b8, b9, b10] ∧ Kp H8 H' ∧ ∀ k ∈ fr.take i, AB.chk sp F G k) ?_ ?_ ?_ ?_
    · exact ⟨_, _, _, _, rfl, Same.refl _, fun k hk => by rw [List.take_zero] at hk; cases hk⟩
    · rintro i σ H' _ ⟨_, _, _, _, _, k, _⟩
      exact SqL.of (k _ _ efr8)
    · rintro i v σ H9 H9' hi ⟨b7, b8, b9, b10, rfl, k9, hck⟩ ⟨rfl, hv⟩
      obtain ⟨ph, hph, rfl⟩ : ∃ ph, frs[i]? = some ph ∧ V.ref ph = v := by simpa using hv
      obtain ⟨k, hk, hpk⟩ := paired_get pfr8 hph
      have hpk9 := hpk.kp k9
      refine ⟨_, rfl, sl, rfl, ⟨_, SqL.of (k9 _ _ esl)⟩, fun D hD => ?_⟩
      refine lc_it (walk_list (xs := sps.map V.str)) (fun j H' => Kp H9' H' ∧ H' D = some (.lst (((sp.take j).filter (AB.cnd F G k)).map fun _ => V.int 1))) ?_ ?_ ?_ ?_
      · exact ⟨kp_up (Same.refl _) hD, by rw [upd_same]; rfl⟩
      · intro j H' _ h
        exact SqL.of (h.1 _ _ (k9 _ _ esl))
      · rintro j v H10 H10' hj ⟨kj, eD⟩ ⟨rfl, hv⟩
        obtain ⟨x, hx, rfl⟩ : ∃ x, sps[j]? = some x ∧ V.str x = v := by simpa using hv
        obtain ⟨st, hst, hxst⟩ := paired_get psp hx
        have k10 := k9.trans kj
        have lfl := List.length_filter_le (AB.cnd F G k) (sp.take j)
        rw [List.length_take] at lfl
        have yes : AB.cnd F G k st = true → ∃ acc, H10' D = some (.lst acc) ∧ acc.length < sizeLine ∧ (Kp H9' (upd H10' D (.lst (acc ++ [V.int 1]))) ∧ upd H10' D (.lst (acc ++ [V.int 1])) D = some (.lst (((sp.take (j + 1)).filter (AB.cnd F G k)).map fun _ => V.int 1))) := fun z => by
          refine ⟨_, eD, by rw [List.length_map, sizeLine_eq]; omega, kp_old kj hD, ?_⟩
          rw [upd_same, take_succ hst, List.filter_append, show [st].filter (AB.cnd F G k) = [st] by simp [z], List.map_append]; rfl
        have no : AB.cnd F G k st = false → (Kp H9' H10' ∧ H10' D = some (.lst (((sp.take (j + 1)).filter (AB.cnd F G k)).map fun _ => V.int 1))) := fun z => by
          refine ⟨kj, ?_⟩
          rw [eD, take_succ hst, List.filter_append, show [st].filter (AB.cnd F G k) = [] by simp [z], List.append_nil]
        have ec : AB.cnd F G k st = (AB.isTrue k st F && !AB.isTrue k st G) := rfl
        refine ⟨rfl, _, rfl, _, rfl, _, rfl, p, ph, x, F, st, k, rfl, hF8.kp k10, hxst, hpk9.kp kj, by omega, by omega, _, rfl, ?_⟩
        cases h1 : AB.isTrue k st F with
        | false => exact iteF (iteF (no (by rw [ec, h1]; rfl)))
        | true =>
          refine iteT ⟨_, rfl, _, rfl, _, rfl, r, ph, x, G, st, k, rfl, hG8.kp k10, hxst, hpk9.kp kj, by omega, by omega, _, rfl, ?_⟩
          cases h2 : AB.isTrue k st G with
          | false => exact iteT (yes (by rw [ec, h1, h2]; rfl))
          | true => exact iteF (no (by rw [ec, h1, h2]; rfl))
      · rintro H10 ⟨kj, eD⟩
        rw [List.length_map, lsp, List.take_length] at eD
        refine ⟨Nat.zero_le _, fun e1 he1 => ?_⟩
        have k11 := kp_new (o := .lst []) he1
        have ee1 : upd H10 e1 (.lst []) e1 = some (.lst []) := upd_same
        generalize upd H10 e1 (.lst []) = H11 at k11 ee1 ⊢
        refine ⟨D, e1, _, rfl, rfl, SqL.of (k11 _ _ eD), SqL.of ee1, _, rfl, ?_⟩
        have k811 := (k9.trans kj).trans k11
        cases hfl : sp.filter (AB.cnd F G k) with
        | nil =>
          refine iteF ⟨_, _, _, _, rfl, k811, fun k' hk' => ?_⟩
          rw [take_succ hk] at hk'
          rcases List.mem_append.mp hk' with z | z
          · exact hck k' z
          · rw [List.mem_singleton.mp z]; exact AB.chk_nil.mp hfl
        | cons a b =>
          exact iteT ⟨_, rfl, q _ _ (.inr ⟨n, rfl⟩) ((k07.trans kk8).trans k811)⟩
    rintro σ H9 ⟨b7, b8, b9, b10, rfl, k9, hck⟩
    rw [List.length_map, lfr, List.take_length] at hck
    refine ⟨Nat.zero_le _, fun ol hol => ?_⟩
    have k10 := kp_new (o := .lst []) hol
    have eol : upd H9 ol (.lst []) ol = some (.lst []) := upd_same
    generalize upd H9 ol (.lst []) = H10 at k10 eol ⊢
    have k89 := k9
    have hK9 := hK8.kp k9
    have hS9 := hS8.kp k9
    have hA9 := hA8.kp k9
    obtain ⟨kps, ekl9, pkl9⟩ := id hK9.ex
    have lkp := Paired.length pkl9
    have esl9 := k9 _ _ esl
    obtain ⟨aps, ela9, pla9⟩ := id hA9.ex
    have lap := Paired.length pla9
    refine ⟨_, rfl, kl, rfl, ⟨_, SqL.of (k10 _ _ ekl9)⟩, ?_⟩
    refine for_it (walk_list (xs := kps.map V.ref)) (fun i σ H' => ∃ b7 b8 b10, σ = [some (.ref p), some (.ref r), some (.ref la), some (.ref sl), some (.ref kl), some (.int n), some (.ref frl), b7, b8, some (.ref ol), b10] ∧ Kp H9 H' ∧ HLs H' ol (AB.onL Al sp (ks.take i))) ?_ ?_ ?_ ?_
    · exact ⟨_, _, _, rfl, k10, [], eol, by rw [List.take_zero]; exact .nil⟩
    · rintro i σ H' _ ⟨_, _, _, _, k, _⟩
      exact SqL.of (k _ _ ekl9)
    · rintro i v σ H11 H11' hi ⟨b7, b8, b10, rfl, k11, hol'⟩ ⟨rfl, hv⟩
      obtain ⟨ph, hph, rfl⟩ : ∃ ph, kps[i]? = some ph ∧ V.ref ph = v := by simpa using hv
      obtain ⟨h, hh, hphh⟩ := paired_get pkl9 hph
      have hik : i < ks.length := (List.getElem?_eq_some_iff.mp hh).1
      have stp : AB.onL Al sp (ks.take (i + 1)) = AB.onL Al sp (ks.take i) ++ sp.map (AB.onw Al h) := by
        rw [take_succ hh]; unfold AB.onL; rw [List.flatMap_append]; simp
      have lon := AB.onL_len Al sp (ks.take i)
      rw [List.length_take] at lon
      have lon2 : (AB.onL Al sp (ks.take i)).length ≤ 256 := by
        rw [lon]
        exact Nat.le_trans (Nat.mul_le_mul (show min i ks.length ≤ 16 by omega) hsp) (by decide)
      refine ⟨_, rfl, sl, rfl, ⟨_, SqL.of (k11 _ _ esl9)⟩, ?_⟩
      refine for_it (walk_list (xs := sps.map V.str)) (fun j σ H' => ∃ b8 b10, σ = [some (.ref p), some (.ref r), some (.ref la), some (.ref sl), some (.ref kl), some (.int n), some (.ref frl), some (.ref ph), b8, some (.ref ol), b10] ∧ Kp H9 H' ∧ HLs H' ol (AB.onL Al sp (ks.take i) ++ (sp.take j).map (AB.onw Al h))) ?_ ?_ ?_ ?_
      · exact ⟨_, _, rfl, k11, by simpa using hol'⟩
      · rintro j σ H' _ ⟨_, _, _, k, _⟩
        exact SqL.of (k _ _ esl9)
      · rintro j v σ H12 H12' hj ⟨b8, b10, rfl, k12, hol2⟩ ⟨rfl, hv⟩
        obtain ⟨x, hx, rfl⟩ : ∃ x, sps[j]? = some x ∧ V.str x = v := by simpa using hv
        obtain ⟨st, hst, hxst⟩ := paired_get psp hx
        obtain ⟨ops, eol2, pol2⟩ := id hol2.ex
        have lop := Paired.length pol2
        rw [List.length_append, List.length_map, List.length_take] at lop
        refine ⟨_, rfl, .inl ⟨rfl, _, SqL.of eol2⟩, _, rfl, la, rfl, ⟨_, SqL.of (k12 _ _ ela9)⟩, fun D hD => ?_⟩
        refine lc_it (walk_list (xs := aps.map V.ref)) (fun t H' => Kp H12' H' ∧ TLs H' D ((Al.take t).filter fun M => decide (M ∈ h) && AB.isTrue h st (AB.body M))) ?_ ?_ ?_ ?_
        · exact ⟨kp_up (Same.refl _) hD, [], upd_same, .nil⟩
        · intro t H' _ z
          exact SqL.of (z.1 _ _ (k12 _ _ ela9))
        · rintro t v H13 H13' ht ⟨kj, hDl⟩ ⟨rfl, hv⟩
          obtain ⟨a, hat, rfl⟩ : ∃ a, aps[t]? = some a ∧ V.ref a = v := by simpa using hv
          obtain ⟨M, hM, haM⟩ := paired_get pla9 hat
          have hMm := List.mem_of_getElem? hM
          have dM := hAd M hMm
          obtain ⟨f, rfl⟩ := hAa M hMm
          have haM' := haM.kp (k12.trans kj)
          have hph' := hphh.kp (k12.trans kj)
          obtain ⟨ds, eD, pd⟩ := id hDl.ex
          have ld := Paired.length pd
          have lfl := List.length_filter_le (fun M => decide (M ∈ h) && AB.isTrue h st (AB.body M)) (Al.take t)
          rw [List.length_take] at lfl
          have no : (decide (Fm.all f ∈ h) && AB.isTrue h st (AB.body (.all f))) = false → (Kp H12' H13' ∧ TLs H13' D ((Al.take (t + 1)).filter fun M => decide (M ∈ h) && AB.isTrue h st (AB.body M))) := fun z => by
            refine ⟨kj, ?_⟩
            rw [take_succ hM, List.filter_append, show [Fm.all f].filter (fun M => decide (M ∈ h) && AB.isTrue h st (AB.body M)) = [] by simp only [List.filter_cons, z, List.filter_nil]; simp, List.append_nil]
            exact hDl
          refine ⟨rfl, _, rfl, _, rfl, in_trT haM' hph' (by omega) ⟨_, rfl, ite2 (fun z => ?_) fun z => ?_⟩⟩
          · obtain ⟨fa, efa, tfa⟩ := id haM'
            have d2 : AB.dep f ≤ 60 := by simp only [AB.dep] at dM; omega
            refine ⟨_, rfl, a, _, _, _, rfl, rfl, SqT.of efa, atI_nat (j := 1) rfl, _, rfl, _, rfl, fa, ph, x, f, st, h, rfl, tfa, hxst, hph', d2, by omega, _, rfl, ?_⟩
            have eb : AB.body (.all f) = f := rfl
            cases hb : AB.isTrue h st f with
            | false => exact iteF (no (by rw [eb, hb, Bool.and_false]))
            | true =>
              refine iteT ⟨_, rfl, _, eD, by rw [List.length_map, ld, sizeLine_eq]; omega, kp_old kj hD, ds ++ [a], by rw [upd_same, List.map_append]; rfl, ?_⟩
              have kl := kf_l (o := .lst (ds.map V.ref ++ [V.ref a])) eD
              rw [take_succ hM, List.filter_append, show [Fm.all f].filter (fun M => decide (M ∈ h) && AB.isTrue h st (AB.body M)) = [Fm.all f] by simp only [List.filter_cons, eb, hb, z, Bool.and_true, List.filter_nil]; rfl]
              exact paired_append (Paired.mapP pd fun p G h => h.kf kl) (.cons (haM'.kf kl) .nil)
          · exact iteF (no (by simp only [Bool.not_eq_true] at z; rw [z]; rfl))
        · rintro H13 ⟨kj, hDl⟩
          rw [List.length_map, lap, List.take_length] at hDl
          obtain ⟨ds, eD, pd⟩ := hDl.ex
          refine ⟨D, _, rfl, .inl ⟨SqL.of eD, fun tu htu => ?_⟩⟩
          have k14 := kp_new (o := .tup (ds.map V.ref)) htu
          have htu2 : TTs (upd H13 tu (.tup (ds.map V.ref))) tu (AB.onw Al h st) := ⟨ds, upd_same, Paired.mapP pd fun p G h => TrAt.kp k14 h⟩
          generalize upd H13 tu (.tup (ds.map V.ref)) = H14 at k14 htu2 ⊢
          have k124 := kj.trans k14
          have eol4 := k124 _ _ eol2
          refine ⟨ol, _, _, rfl, rfl, eol4, by rw [List.length_map, lop, sizeLine_eq]; omega, ?_⟩
          refine ⟨_, _, rfl, kp_old (k12.trans k124) hol, ?_⟩
          rw [take_succ hst, List.map_append, ← List.append_assoc]
          exact HLs.app eol4 (Paired.mapP pol2 fun p G h => TTs.kp k124 h) htu2
      · rintro σ H12 ⟨b8, b10, rfl, k12, hol2⟩
        rw [List.length_map, lsp, List.take_length, ← stp] at hol2
        exact ⟨_, _, _, rfl, k12, hol2⟩
    rintro σ H11 ⟨b7, b8, b10, rfl, k11, hol'⟩
    rw [List.length_map, lkp, List.take_length] at hol'
    have lon := AB.onL_len Al sp ks
    have lon2 : (AB.onL Al sp ks).length ≤ 1000 := by
      rw [lon]
      exact Nat.le_trans (Nat.mul_le_mul (show ks.length ≤ 16 by omega) hsp) (by decide)
    refine ⟨_, rfl, ol, Al, _, rfl, hol', AB.onL_canon, hal, fun M hM => Nat.le_trans (hAd M hM) (by decide), lon2, fun ml ms H12 hms nd can sup clo k12 => ?_⟩
    obtain ⟨mps, eml, pml⟩ := id hms.ex
    have lmp := Paired.length pml
    have fewm := AB.canon_few nd can
    have hK12 := hK9.kp (k11.trans k12)
    refine ⟨ml, rfl, ⟨_, SqL.of eml⟩, fun D hD => ?_⟩
    refine lc_it (walk_list (xs := mps.map V.ref)) (fun t H' => Kp H12 H' ∧ HLs H' D ((ms.take t).filter fun h => decide (h ∉ ks))) ?_ ?_ ?_ ?_
    · exact ⟨kp_up (Same.refl _) hD, [], upd_same, .nil⟩
    · intro t H' _ z
      exact SqL.of (z.1 _ _ eml)
    · rintro t v H13 H13' ht ⟨kj, hDl⟩ ⟨rfl, hv⟩
      obtain ⟨a, hat, rfl⟩ : ∃ a, mps[t]? = some a ∧ V.ref a = v := by simpa using hv
      obtain ⟨M, hM, haM⟩ := paired_get pml hat
      have haM' := haM.kp kj
      obtain ⟨ds, eD, pd⟩ := id hDl.ex
      have ld := Paired.length pd
      have lfl := List.length_filter_le (fun h => decide (h ∉ ks)) (ms.take t)
      rw [List.length_take] at lfl
      refine ⟨rfl, _, rfl, _, rfl, in_tt haM' (hK12.kp kj) (fun F hF => Nat.le_trans (canon_dep (can M (List.mem_of_getElem? hM)) hAd F hF) (by decide)) ⟨_, rfl, ite2 (fun z => ?_) fun z => ?_⟩⟩
      · have z' : M ∉ ks := by simpa using z
        refine ⟨_, rfl, _, eD, by rw [List.length_map, ld, sizeLine_eq]; omega, kp_old kj hD, ?_⟩
        rw [take_succ hM, List.filter_append, show [M].filter (fun h => decide (h ∉ ks)) = [M] by simp [z']]
        exact HLs.app eD pd haM'
      · have z' : M ∈ ks := by simpa using z
        refine ⟨kj, ?_⟩
        rw [take_succ hM, List.filter_append, show [M].filter (fun h => decide (h ∉ ks)) = [] by simp [z'], List.append_nil]
        exact hDl
    · rintro H13 ⟨kj, hDl⟩
      rw [List.length_map, lmp, List.take_length] at hDl
      have lv2 := lv.step hck nd can sup clo
      have few2 := lv2.few
      generalize (ms.filter fun h => decide (h ∉ ks)) = fr' at hDl lv2 few2
      rw [List.length_append] at few2
      obtain ⟨ds, eD, pd⟩ := id hDl.ex
      have ld := Paired.length pd
      refine ⟨_, rfl, _, _, rfl, rfl, _, _, rfl, ?_⟩
      have hK13 := hK12.kp kj
      obtain ⟨kps2, ekl13, pkl13⟩ := id hK13.ex
      have lkp2 := Paired.length pkl13
      refine ⟨_, rfl, _, rfl, kl, D, _, _, rfl, rfl, ekl13, eD, by rw [List.length_map, List.length_map, lkp2, ld, sizeLine_eq]; omega, fun nl hnl => ?_⟩
      have k14 := kp_new (o := .lst (kps2.map V.ref ++ ds.map V.ref)) hnl
      refine ⟨_, ?_, nl, D, _, ks ++ fr', fr', _, _, _, _, rfl, rfl, ((((kk.trans k8).trans k9).trans k11).trans (k12.trans kj)).trans k14, ?_, hDl.kp k14, lv2⟩
      · rw [List.length_append]; omega
      · exact ⟨kps2 ++ ds, by rw [upd_same, List.map_append], paired_append (Paired.mapP pkl13 fun p h z => TTs.kp k14 z) (Paired.mapP pd fun p h z => TTs.kp k14 z)⟩
end
end AT
end
section
set_option Elab.async false
set_option linter.all false
set_option maxRecDepth 100000
/-! _law_deck, _law_draw. -/
namespace AT
open PySem PySem.Spec PyProof.Rows L2
open AB (Fm At Drv)
abbrev dkD (c : Addr) (m n : Int) : List (Key × V) := [(.inr "cells", .ref c), (.inr "mixed", .int m), (.inr "draws", .int n)]
/-- the deck: its cells, at most N draws so far -/
structure Dk (H : Hp) (d c : Addr) (N : Nat) : Prop where
  ex : ∃ (xs : List Int) (m n : Int), H d = some (.dK (dkD c m n)) ∧ H c = some (.lst (xs.map V.int)) ∧ xs.length ≤ 63 ∧ 0 ≤ m ∧ m < 2147483587 ∧ 0 ≤ n ∧ n ≤ N
theorem Dk.kp {H H' : Hp} {d c : Addr} {N : Nat} (k : Kp H H') (h : Dk H d c N) : Dk H' d c N := let ⟨xs, m, n, a, b, r⟩ := h.ex; ⟨xs, m, n, k _ _ a, k _ _ b, r⟩
theorem Dk.mono {H : Hp} {d c : Addr} {N M : Nat} (h : Dk H d c N) (l : N ≤ M) : Dk H d c M := let ⟨xs, m, n, a, b, r1, r2, r3, r4, r5⟩ := h.ex; ⟨xs, m, n, a, b, r1, r2, r3, r4, by omega⟩
/-- all but the deck and its cells is kept -/
def KX (d c : Addr) (H H' : Hp) : Prop := ∀ b o, H b = some o → b ≠ d → b ≠ c → H' b = some o
theorem KX.of {d c : Addr} {H H' : Hp} (k : Kp H H') : KX d c H H' := fun b o e _ _ => k b o e
theorem KX.trans {d c : Addr} {H H1 H2 : Hp} (a : KX d c H H1) (b : KX d c H1 H2) : KX d c H H2 := fun x o e n1 n2 => b x o (a x o e n1 n2) n1 n2
theorem KX.refl (d c : Addr) (H : Hp) : KX d c H H := .of (Same.refl H)
theorem KX.kf {d c : Addr} {N : Nat} {H H' : Hp} (h : Dk H d c N) (k : KX d c H H') : KF H H' := by
  obtain ⟨xs, m, n, a, b, _⟩ := h.ex
  exact ⟨fun x ys e => k _ _ e (ne_of e a fun z => nomatch z) (ne_of e b fun z => nomatch z), fun x C dx fs e => k _ _ e (ne_of e a fun z => nomatch z) (ne_of e b fun z => nomatch z)⟩
theorem KX.setD {d c : Addr} {H H' : Hp} {o : HO} (k : KX d c H H') : KX d c H (upd H' d o) := fun b p e n1 n2 => by rw [upd_ne n1]; exact k b p e n1 n2
theorem KX.setC {d c : Addr} {H H' : Hp} {o : HO} (k : KX d c H H') : KX d c H (upd H' c o) := fun b p e n1 n2 => by rw [upd_ne n2]; exact k b p e n1 n2
section
variable {P : Program} {w : World} {K : PySem.W.Frag} {mg : Str → Option Value} {base : Heap} (T : Tx w K mg)
abbrev Nldk : List Str := ["_law_script", "_law_cells", "_law_mixed", "_law_cell"]
theorem sc_ldk : FnScope Nldk ["_law_script"] (defScope s__law_deck) := ⟨rfl, rfl, rfl, by decide +kernel, rfl, by decide +kernel, by decide +kernel⟩
def spLDeck (K : PySem.W.Frag) : Sp := fun vs H Q _ => ∃ (a : Addr) (ns : List Int), vs = [.ref a] ∧ SqL K H a (ns.map V.int) ∧ ns.length ≤ 63 ∧ ∀ d c H', Dk H' d c 0 → Kp H H' → Q (.ref d) H'
abbrev Nldr : List Str := ["_law_deck_here", "_law_many", "_law_turn", "_law_cell", "_law_figure"]
theorem sc_ldr : FnScope Nldr ["_law_deck_here", "_law_many"] (defScope s__law_draw) := ⟨rfl, rfl, rfl, by decide +kernel, rfl, by decide +kernel, by decide +kernel⟩
def spLDraw : Sp := fun vs H Q _ => ∃ (d c : Addr) (N many : Nat), vs = [.ref d, .int many] ∧ Dk H d c N ∧ 0 < many ∧ many ≤ 1000 ∧ N ≤ 1000000 ∧ ∀ (r : Nat) H', r < many → Dk H' d c (N + 1) → KX d c H H' → Q (.int r) H'
include T
theorem bd_ldk : L2.Binds K (fdOf K (f__law_deck K)) ["_law_script"] [] := T.F__law_deck.binds fun _ _ _ _ _ _ us hl => match us, hl with | [_], _ => rfl
theorem bd_ldr : L2.Binds K (fdOf K (f__law_draw K)) ["_law_deck_here", "_law_many"] [] := T.F__law_draw.binds fun _ _ _ _ _ _ us hl => match us, hl with | [_, _], _ => rfl
theorem ok_ldk : FH P w K mg base 1 (f__law_deck K) ["_law_script"] (spLDeck K) := by
  refine T.F__law_deck.ok sc_ldk (fun vs H Q E h => by obtain ⟨_, _, rfl, _⟩ := h; rfl) (fun cdv A outer s H vs Q E hr h => ⟨_, PSs.nox (
    pss_cons (ps_par (i := 1) (j := 2) rfl sc_ldk.nd rfl rfl (by decide) rfl rfl (pa_cons (pe_callTy call_list_of rfl T.b_list (by decide +kernel) (pa_cons (pe_slice sl_list (pv 0) po_none (po_some pe_int)) pa_nil)) (pa_cons pe_int pa_nil)) rfl)
    (pss_cons (ps_for PassesOwn.never rfl (pi_list (pv 1)) (pg_name (i := 3) sc_ldk.nd rfl (Or.inl rfl))
      (pss_one (ps_set (i := 2) sc_ldk.nd rfl (Or.inl rfl) (pe_op op_mod (pe_callTy call_int1 rfl T.b_int (by decide +kernel) (pa_cons (pe_op op_add (pe_op op_add (pe_op op_mul (pv 2) pe_int) (pe_op op_mod (pe_callTy call_int1 rfl T.b_int (by decide +kernel) (pa_cons (pv 3) pa_nil)) pe_int)) pe_int) pa_nil)) pe_int))))
    (pss_one (ps_ret (pe_disp (pps_cons pe_str (pe_revL (pv 1)) (pps_cons pe_str (pv 2) (pps_cons pe_str pe_int pps_nil))) rfl rfl (by simp) (by decide)))))), ?_⟩)
  obtain ⟨a, ns, rfl, ha, hn, q⟩ := h
  refine ⟨_, rfl, _, rfl, a, _, rfl, ha, fun l hl => ?_⟩
  have ecut : cutV (ns.map V.int) none (some 63) = ns.map V.int := by
    unfold cutV
    rw [show (63 : Int) = ((63 : Nat) : Int) from rfl, HT.sIx_nat, HT.sIx_none, List.length_map, Nat.min_eq_right hn, List.drop_zero, Nat.sub_zero, List.take_of_length_le (by simp)]
  rw [ecut]
  have k1 := kp_new (o := .lst (ns.map V.int)) hl
  have e1 : upd H l (.lst (ns.map V.int)) l = some (.lst (ns.map V.int)) := upd_same
  generalize upd H l (.lst (ns.map V.int)) = H1 at k1 e1 ⊢
  refine ⟨l, _, rfl, .inl (SqL.of e1), fun l2 hl2 => ?_⟩
  have k2 := kp_new (o := .lst (ns.map V.int)) hl2
  have e2 : upd H1 l2 (.lst (ns.map V.int)) l2 = some (.lst (ns.map V.int)) := upd_same
  generalize upd H1 l2 (.lst (ns.map V.int)) = H2 at k2 e2 ⊢
  refine ⟨_, _, rfl, ?_⟩
  refine ⟨_, rfl, l2, rfl, ⟨_, SqL.of e2⟩, ?_⟩
  refine for_it (walk_list (xs := ns.map V.int)) (fun i σ H' => ∃ (m : Int) (b3 : Option V), σ = [some (.ref a), some (.ref l2), some (.int m), b3] ∧ 0 ≤ m ∧ m < 2147483587 ∧ H' = H2) ?_ ?_ ?_ ?_
  · exact ⟨13646601, _, rfl, by decide, by decide, rfl⟩
  · rintro i σ H' _ ⟨_, _, _, _, _, rfl⟩
    exact SqL.of e2
  · rintro i v σ H' H'' hi ⟨m, b3, rfl, h1, h2, rfl⟩ ⟨rfl, hv⟩
    obtain ⟨z, hz, rfl⟩ : ∃ z, ns[i]? = some z ∧ V.int z = v := by simpa using hv
    refine ⟨_, rfl, _, _, rfl, rfl, .inl ⟨by omega, by omega⟩, _, rfl, .inl ⟨_, rfl, _, _, rfl, rfl, (by show (0 : Int) < 2147483629; decide), _, _, rfl, rfl, _, _, rfl, rfl, .inl ⟨_, rfl, _, _, rfl, rfl, (by show (0 : Int) < 2147483587; decide), ?_⟩⟩⟩
    exact ⟨_, _, rfl, Int.emod_nonneg _ (by decide), Int.emod_lt_of_pos _ (by decide), rfl⟩
  · rintro σ H' ⟨m, b3, rfl, h1, h2, rfl⟩
    refine fun d hd => ⟨_, rfl, l2, _, rfl, SqL.of (up_keep e2 hd), fun c hc => ⟨_, rfl, ?_⟩⟩
    have k3 := kp_new (o := .dK []) hd
    have e3 : upd H' d (.dK []) d = some (.dK []) := upd_same
    generalize upd H' d (.dK []) = H3 at k3 e3 hc ⊢
    have k4 := kp_new (o := .lst (ns.map V.int).reverse) hc
    have e4 : upd H3 c (.lst (ns.map V.int).reverse) c = some (.lst (ns.map V.int).reverse) := upd_same
    have e34 := k4 _ _ e3
    have ndc : d ≠ c := fun z => by rw [z] at e3; rw [e3] at hc; cases hc
    generalize upd H3 c (.lst (ns.map V.int).reverse) = H4 at k4 e4 e34 ⊢
    refine ⟨e34, dkD c m 0, rfl, (show 3 ≤ 15 by decide), ?_⟩
    have em : mergeK [] (dkD c m 0) = dkD c m 0 := by rfl
    rw [em]
    refine q d c _ ⟨ns.reverse, m, 0, upd_same, ?_, by rw [List.length_reverse]; exact hn, h1, h2, Int.le_refl _, Int.le_refl _⟩ ?_
    · rw [upd_ne (Ne.symm ndc), e4, List.map_reverse]
    · exact fun b o e => by
        have eb := k4 _ _ (k3 _ _ (k2 _ _ (k1 _ _ e)))
        rw [upd_ne]
        · exact eb
        · intro z
          have hb := k2 _ _ (k1 _ _ e)
          rw [z, hd] at hb; cases hb
omit T in
theorem dk_put_n {c : Addr} {m n n' : Int} : putK (dkD c m n) (.inr "draws") (.int n') = dkD c m n' := by rfl
omit T in
theorem dk_cells {c : Addr} {m n : Int} : valV (dkD c m n) (.inr "cells") = some (.ref c) := by rfl
omit T in
theorem dk_mixed {c : Addr} {m n : Int} : valV (dkD c m n) (.inr "mixed") = some (.int m) := by rfl
omit T in
theorem dk_draws {c : Addr} {m n : Int} : valV (dkD c m n) (.inr "draws") = some (.int n) := by rfl
omit T in
theorem emod_in {x : Int} : -(2 ^ 64) < x % 2147483647 ∧ x % 2147483647 < 2 ^ 64 := by
  have a := Int.emod_nonneg x (show (2147483647 : Int) ≠ 0 by decide)
  have b := Int.emod_lt_of_pos x (show (0 : Int) < 2147483647 by decide)
  omega
theorem ok_ldr : FH P w K mg base 1 (f__law_draw K) ["_law_deck_here", "_law_many"] spLDraw := by
  refine T.F__law_draw.ok sc_ldr (fun vs H Q E h => by obtain ⟨_, _, _, _, rfl, _⟩ := h; rfl) (fun cdv A outer s H vs Q E hr h => ⟨_, PSs.nox (
    pss_cons (ps_dput (hu_of hr) (pv 0) pe_str (pe_op op_add (pe_dget (hu_of hr) (pv 0) pe_str (fun _ _ => rfl)) pe_int) rfl)
    (pss_cons (ps_par (i := 2) (j := 3) rfl sc_ldr.nd rfl rfl (by decide) rfl rfl (pa_cons (pe_dget (hu_of hr) (pv 0) pe_str (fun _ _ => rfl)) (pa_cons (pe_dget (hu_of hr) (pv 0) pe_str (fun _ _ => rfl)) pa_nil)) rfl)
    (pss_cons (ps_if (pt_cmpR (op_neNil hr.units0) (pe_dget (hu_of hr) (pv 0) pe_str (fun _ _ => rfl)) (pe_lst pa_nil) (nomark _))
      (pss_cons (ps_set (i := 3) sc_ldr.nd rfl (Or.inl rfl) (pe_bm0 PySem.F.plainAttrs_list PySem.F.slot_list_pop PySem.F.type_list_pop mt_pop (pe_dget (hu_of hr) (pv 0) pe_str (fun _ _ => rfl))))
      (pss_cons (ps_if (pt_cmpR op_ge (pv 3) (pe_op op_pow pe_int pe_int) (nomark _))
        (pss_cons (ps_expr (pe_bm PySem.F.plainAttrs_list PySem.F.slot_list_append PySem.F.type_list_append mt_append (pe_dget (hu_of hr) (pv 0) pe_str (fun _ _ => rfl)) (pa_cons (pe_op op_fdivW (pv 3) (pv 1)) pa_nil)))
        (pss_one (ps_ret (pe_op op_mod (pe_callTy call_int1 rfl T.b_int (by decide +kernel) (pa_cons (pv 3) pa_nil)) (pv 1))))) pss_nil)
      (pss_one (ps_set (i := 3) sc_ldr.nd rfl (Or.inl rfl) (pe_op op_add (pv 3) (pe_dget (hu_of hr) (pv 0) pe_str (fun _ _ => rfl))))))) pss_nil)
    (pss_cons (ps_set (i := 4) sc_ldr.nd rfl (Or.inl rfl) (pe_op op_mod (pe_op op_mul (pe_callTy call_int1 rfl T.b_int (by decide +kernel) (pa_cons (pe_op op_add (pe_op op_add (pe_op op_mod (pe_callTy call_int1 rfl T.b_int (by decide +kernel) (pa_cons (pv 3) pa_nil)) pe_int) (pe_op op_mul (pe_op op_mul pe_int (pv 2)) (pv 2))) pe_int) pa_nil)) pe_int) pe_int))
    (pss_cons (ps_set (i := 4) sc_ldr.nd rfl (Or.inl rfl) (pe_op op_mod (pe_callTy call_int1 rfl T.b_int (by decide +kernel) (pa_cons (pe_op op_add (pe_op op_add (pe_op op_mul (pv 4) (pv 4)) (pe_op op_mul pe_int (pv 2))) pe_int) pa_nil)) pe_int))
    (pss_one (ps_ret (pe_op op_mod (pe_op op_fdiv (pe_op op_mod (pe_callTy call_int1 rfl T.b_int (by decide +kernel) (pa_cons (pe_op op_mul (pv 4) pe_int) pa_nil)) pe_int) pe_int) (pv 1))))))))), ?_⟩)
  obtain ⟨d, c, N, many, rfl, hdk, hm, hm2, hN, q⟩ := h
  obtain ⟨xs, m, n, ed, ec, hx, m0, m1, n0, nN⟩ := id hdk.ex
  have ndc : d ≠ c := fun z => by rw [z, ec] at ed; cases ed
  have g1 : ∀ {H' : Hp} {m n : Int}, H' d = some (.dK (dkD c m n)) → DGet H' d (.str "cells") (some (.ref c)) := fun e => DGet.k (k := .inr "cells") e
  have g2 : ∀ {H' : Hp} {m n : Int}, H' d = some (.dK (dkD c m n)) → DGet H' d (.str "mixed") (some (.int m)) := fun e => DGet.k (k := .inr "mixed") e
  have g3 : ∀ {H' : Hp} {m n : Int}, H' d = some (.dK (dkD c m n)) → DGet H' d (.str "draws") (some (.int n)) := fun e => DGet.k (k := .inr "draws") e
  refine ⟨_, rfl, d, _, rfl, g3 ed, _, _, rfl, rfl, _, rfl, d, _, rfl, DPut.k (k := .inr "draws") ed (show 3 < sizeLine from by rw [sizeLine_eq]; omega), ?_⟩
  rw [dk_put_n]
  have k1 : KX d c H (upd H d (.dK (dkD c m (n + 1)))) := (KX.refl d c H).setD
  have ed1 : upd H d (.dK (dkD c m (n + 1))) d = some (.dK (dkD c m (n + 1))) := upd_same
  have ec1 : upd H d (.dK (dkD c m (n + 1))) c = some (.lst (xs.map V.int)) := by rw [upd_ne (Ne.symm ndc)]; exact ec
  generalize upd H d (.dK (dkD c m (n + 1))) = H1 at k1 ed1 ec1 ⊢
  refine ⟨_, rfl, d, _, rfl, g3 ed1, _, rfl, d, _, rfl, g2 ed1, _, _, rfl, ?_⟩
  have turn_in : -(2 ^ 64) < n + 1 ∧ n + 1 < 2 ^ 64 := by omega
  have lv : ∀ {H' : Hp} {Z : Int}, Dk H' d c (N + 1) → KX d c H H' → Q (.int (Z % many)) H' := fun {H' Z} h k => by
    have h0 : 0 ≤ Z % (many : Int) := Int.emod_nonneg _ (by omega)
    have h1 : Z % (many : Int) < many := Int.emod_lt_of_pos _ (by omega)
    have e : Z % (many : Int) = ((Z % (many : Int)).toNat : Int) := (Int.toNat_of_nonneg h0).symm
    rw [e]
    exact q _ H' (by omega) h k
  refine ⟨_, rfl, d, _, rfl, g1 ed1, Nat.zero_le _, fun e0 he0 => ?_⟩
  have k2 := kp_new (o := .lst []) he0
  have ee0 : upd H1 e0 (.lst []) e0 = some (.lst []) := upd_same
  generalize upd H1 e0 (.lst []) = H2 at k2 ee0 ⊢
  have ed2 := k2 _ _ ed1
  have ec2 := k2 _ _ ec1
  have k12 := k1.trans (.of k2)
  refine ⟨c, e0, _, rfl, rfl, SqL.of ec2, SqL.of ee0, _, rfl, ?_⟩
  rcases List.eq_nil_or_concat xs with rfl | ⟨xs', z, rfl⟩
  · refine iteF ?_
    have hdk2 : Dk H2 d c (N + 1) := ⟨[], m, n + 1, ed2, ec2, Nat.zero_le _, m0, m1, by omega, by omega⟩
    refine ⟨_, rfl, .inl ⟨_, rfl, _, _, rfl, rfl, (by show (0 : Int) < 2147483629; decide), _, rfl, _, _, rfl, rfl, .inl ⟨by decide, by decide⟩, _, rfl, _, _, rfl, rfl, .inr turn_in, _, _, rfl, rfl, _, _, rfl, rfl, .inl ⟨_, rfl, _, _, rfl, rfl, .inr ⟨by decide, by decide⟩, _, _, rfl, rfl, (by show (0 : Int) < 2147483647; decide), ?_⟩⟩⟩
    refine ⟨_, rfl, _, rfl, _, _, rfl, rfl, .inl emod_in, _, rfl, _, _, rfl, rfl, .inl ⟨by decide, by decide⟩, _, _, rfl, rfl, _, _, rfl, rfl, .inl ⟨_, rfl, _, _, rfl, rfl, (by show (0 : Int) < 2147483587; decide), ?_⟩⟩
    refine ⟨_, rfl, _, _, rfl, rfl, .inr ⟨by decide, by decide⟩, .inl ⟨_, rfl, _, _, rfl, rfl, (by show (0 : Int) < 2147483563; decide), _, _, rfl, rfl, ⟨by decide, by decide⟩, _, rfl, _, _, rfl, rfl, (by show (0 : Int) < (many : Int); omega), ?_⟩⟩
    exact lv hdk2 k12
  · rw [List.concat_eq_append] at hx ec2 ⊢
    rw [List.map_append] at ec2 ⊢
    have hx' : xs'.length + 1 ≤ 63 := by simpa using hx
    refine ite2 (fun _ => ?_) fun z => absurd (by simp) z
    refine ⟨_, rfl, d, _, rfl, g1 ed2, .inl ⟨rfl, _, SqL.of ec2⟩, c, _, .int z, rfl, rfl, ec2, by simp, ?_⟩
    rw [show (xs'.map V.int ++ [z].map V.int).dropLast = xs'.map V.int by simp]
    have k3 : KX d c H (upd H2 c (.lst (xs'.map V.int))) := k12.setC
    have ed3 : upd H2 c (.lst (xs'.map V.int)) d = some (.dK (dkD c m (n + 1))) := by rw [upd_ne ndc]; exact ed2
    have ec3 : upd H2 c (.lst (xs'.map V.int)) c = some (.lst (xs'.map V.int)) := upd_same
    generalize upd H2 c (.lst (xs'.map V.int)) = H3 at k3 ed3 ec3 ⊢
    refine ⟨_, rfl, _, _, rfl, rfl, ⟨by decide, by decide, by decide⟩, _, _, rfl, rfl, _, rfl, ite2 (fun _ => ?_) fun _ => ?_⟩
    · refine ⟨_, rfl, d, _, rfl, g1 ed3, .inl ⟨rfl, _, SqL.of ec3⟩, _, rfl, _, rfl, _, _, rfl, rfl, wide_div (b := 10) (by show (0 : Int) < (many : Int); omega) (by show many < 1024; omega) (by decide) (by decide), c, _, _, rfl, rfl, ec3, by rw [List.length_map, sizeLine_eq]; omega, ?_⟩
      refine ⟨_, rfl, .inl ⟨_, rfl, _, rfl, _, _, rfl, rfl, (by show (0 : Int) < (many : Int); omega), ?_⟩⟩
      refine lv ⟨xs' ++ [z / many], m, n + 1, by rw [upd_ne ndc]; exact ed3, by rw [upd_same, List.map_append]; rfl, by simpa using hx', m0, m1, by omega, by omega⟩ k3.setC
    · have hdk3 : Dk H3 d c (N + 1) := ⟨xs', m, n + 1, ed3, ec3, by omega, m0, m1, by omega, by omega⟩
      refine ⟨_, rfl, _, rfl, d, _, rfl, g2 ed3, _, _, rfl, rfl, ?_⟩
      refine ⟨_, rfl, .inl ⟨_, rfl, _, _, rfl, rfl, (by show (0 : Int) < 2147483629; decide), _, rfl, _, _, rfl, rfl, .inl ⟨by decide, by decide⟩, _, rfl, _, _, rfl, rfl, .inr turn_in, _, _, rfl, rfl, _, _, rfl, rfl, .inl ⟨_, rfl, _, _, rfl, rfl, .inr ⟨by decide, by decide⟩, _, _, rfl, rfl, (by show (0 : Int) < 2147483647; decide), ?_⟩⟩⟩
      refine ⟨_, rfl, _, rfl, _, _, rfl, rfl, .inl emod_in, _, rfl, _, _, rfl, rfl, .inl ⟨by decide, by decide⟩, _, _, rfl, rfl, _, _, rfl, rfl, .inl ⟨_, rfl, _, _, rfl, rfl, (by show (0 : Int) < 2147483587; decide), ?_⟩⟩
      refine ⟨_, rfl, _, _, rfl, rfl, .inr ⟨by decide, by decide⟩, .inl ⟨_, rfl, _, _, rfl, rfl, (by show (0 : Int) < 2147483563; decide), _, _, rfl, rfl, ⟨by decide, by decide⟩, _, rfl, _, _, rfl, rfl, (by show (0 : Int) < (many : Int); omega), ?_⟩⟩
      exact lv hdk3 k3
end
end AT
end
section
set_option Elab.async false
set_option linter.all false
set_option maxRecDepth 100000
/-! _law_pick, _law_form. -/
namespace AT
open PySem PySem.Spec PyProof.Rows L2
open AB (Fm At Drv)
section
variable {P : Program} {w : World} {K : PySem.W.Frag} {mg : Str → Option Value} {base : Heap} (T : Tx w K mg)
theorem sc_lpk : FnScope ["_law_deck_here", "_law_lot"] ["_law_deck_here", "_law_lot"] (defScope s__law_pick) := ⟨rfl, rfl, rfl, by decide +kernel, rfl, by decide +kernel, by decide +kernel⟩
def spPickS (vs : List V) (H : Hp) (Q : VK) : Prop := ∃ (d c : Addr) (N : Nat) (x : Str) (ls : List At), vs = [.ref d, .str x] ∧ TxS x ls ∧ 0 < ls.length ∧ ls.length ≤ 100 ∧ Dk H d c N ∧ N ≤ 1000000 ∧ ∀ y ∈ ls, ∀ H', Dk H' d c (N + 1) → KX d c H H' → Q (.str (letS y)) H'
def spPickL (vs : List V) (H : Hp) (Q : VK) : Prop := ∃ (d c l : Addr) (N : Nat) (zs : List Str), vs = [.ref d, .ref l] ∧ H l = some (.lst (zs.map V.str)) ∧ l ≠ d ∧ l ≠ c ∧ 0 < zs.length ∧ zs.length ≤ 100 ∧ Dk H d c N ∧ N ≤ 1000000 ∧ ∀ z ∈ zs, ∀ H', Dk H' d c (N + 1) → KX d c H H' → Q (.str z) H'
def spLPick : Sp := fun vs H Q _ => spPickS vs H Q ∨ spPickL vs H Q
include T
theorem bd_lpk : L2.Binds K (fdOf K (f__law_pick K)) ["_law_deck_here", "_law_lot"] [] := T.F__law_pick.binds fun _ _ _ _ _ _ us hl => match us, hl with | [_, _], _ => rfl
theorem ok_lpk : FH P w K mg base 2 (f__law_pick K) ["_law_deck_here", "_law_lot"] spLPick := by
  have gD := ok_ldr (P := P) (base := base) T
  refine T.F__law_pick.ok sc_lpk (fun vs H Q E h => ?_) (fun cdv A outer s H vs Q E hr h => ?_)
  · rcases h with ⟨_, _, _, _, _, rfl, _⟩ | ⟨_, _, _, _, _, rfl, _⟩ <;> rfl
  · rcases h with ⟨d, c, N, x, ls, rfl, hx, h0, h1, hdk, hN, q⟩ | ⟨d, c, l, N, zs, rfl, el, nd, nc, h0, h1, hdk, hN, q⟩
    · refine ⟨_, PSs.nox (pss_one (ps_ret (pe_ix ix_str (pv 1) (pe_call gD hr rfl T.g__law_draw T.F__law_draw.kp (bd_ldr T) .nil pass0 (pa_cons (pv 0) (pa_cons (pe_callB call_len_str rfl T.b_len boot_len (pa_cons (pv 1) pa_nil)) pa_nil))) (fun _ _ => rfl)))), ?_⟩
      have hl : x.length = ls.length := by
        show x.cps.size = _
        rw [← Array.length_toList, hx, List.length_map]
      refine ⟨_, rfl, _, rfl, _, rfl, _, rfl, by rw [hl, sizeLine_eq]; omega, ?_⟩
      refine ⟨d, c, N, ls.length, by rw [hl]; rfl, hdk, h0, by omega, hN, fun r H' hr2 hdk' k => ?_⟩
      have hy : ls[r]? = some ls[r] := List.getElem?_eq_getElem hr2
      refine ⟨x, r, letC ls[r], rfl, rfl, by rw [hl, sizeLine_eq]; omega, atI_nat (j := r) (by rw [hx, List.getElem?_map, hy]; rfl), ?_⟩
      exact q _ (List.getElem_mem hr2) H' hdk' k
    · refine ⟨_, PSs.nox (pss_one (ps_ret (pe_ix ix_list (pv 1) (pe_call gD hr rfl T.g__law_draw T.F__law_draw.kp (bd_ldr T) .nil pass0 (pa_cons (pv 0) (pa_cons (pe_callB call_len_seq rfl T.b_len boot_len (pa_cons (pv 1) pa_nil)) pa_nil))) (fun _ _ => rfl)))), ?_⟩
      refine ⟨_, rfl, _, rfl, _, rfl, l, _, rfl, .inl (SqL.of el), ?_⟩
      refine ⟨d, c, N, zs.length, by rw [List.length_map]; rfl, hdk, h0, by omega, hN, fun r H' hr2 hdk' k => ?_⟩
      have hy : zs[r]? = some zs[r] := List.getElem?_eq_getElem hr2
      refine ⟨l, _, r, .str zs[r], rfl, rfl, SqL.of (k _ _ el nd nc), atI_nat (j := r) (by rw [List.getElem?_map, hy]; rfl), ?_⟩
      exact q _ (List.getElem_mem hr2) H' hdk' k
/-! ### _law_form -/
abbrev Nlf : List Str := ["_law_deck_here", "_law_letters_here", "_law_size_here", "_law_alls_here", "_law_way", "_law_cut"]
abbrev Plf : List Str := ["_law_deck_here", "_law_letters_here", "_law_size_here", "_law_alls_here"]
omit T in
theorem sc_lf : FnScope Nlf Plf (defScope s__law_form) := ⟨rfl, rfl, rfl, by decide +kernel, rfl, by decide +kernel, by decide +kernel⟩
def spLForm (m : Nat) : Sp := fun vs H Q _ => ∃ (d c : Addr) (N : Nat) (x : Str) (ls : List At) (sz al : Int) (size : Nat), vs = [.ref d, .str x, .int sz, .int al] ∧ sz = size ∧ TxS x ls ∧ 0 < ls.length ∧ ls.length ≤ 100 ∧ 0 < size ∧ size ≤ m ∧ size ≤ 100 ∧ Dk H d c N ∧ N + 16 * size ≤ 1000000 ∧
  ∀ p F H', TrAt H' F p → AB.size F + 1 ≤ 2 * size → (∀ y, AB.occ y F = true → y ∈ ls) → Dk H' d c (N + 16 * size - 8) → KX d c H H' → Q (.ref p) H'
theorem bd_lf : L2.Binds K (fdOf K (f__law_form K)) Plf [] := T.F__law_form.binds fun _ _ _ _ _ _ us hl => match us, hl with | [_, _, _, _], _ => rfl
theorem ok_lf {m k : Nat} (hk : 2 ≤ k) (FD : FH P w K mg base k (f__law_form K) Plf (spLForm m)) : FH P w K mg base (k + 1) (f__law_form K) Plf (spLForm (m + 1)) := by
  have gD := (ok_ldr (P := P) (base := base) T).mono (show 1 ≤ k by omega)
  have gP := (ok_lpk (P := P) (base := base) T).mono hk
  refine T.F__law_form.ok sc_lf (fun vs H Q E h => by obtain ⟨_, _, _, _, _, _, _, _, rfl, _⟩ := h; rfl) (fun cdv A outer s H vs Q E hr h => ⟨_, PSs.nox (
    pss_cons (ps_set (i := 4) sc_lf.nd rfl (Or.inl rfl) (pe_call gD hr rfl T.g__law_draw T.F__law_draw.kp (bd_ldr T) .nil pass0 (pa_cons (pv 0) (pa_cons pe_int pa_nil))))
    (pss_cons (ps_if (PW.pt (pw_or (pt_cmpR op_lt (pv 2) pe_int (nomark _)) (pw_or1 (pt_cmpR op_eq (pv 4) pe_int (nomark _)))))
      (pss_one (ps_ret (pe_ifExp (pt_cmpR op_eq (pe_call gD hr rfl T.g__law_draw T.F__law_draw.kp (bd_ldr T) .nil pass0 (pa_cons (pv 0) (pa_cons pe_int pa_nil))) pe_int (nomark _)) (pe_tup (pa_cons pe_str pa_nil))
        (pe_tup (pa_cons pe_str (pa_cons (pe_call gP hr rfl T.g__law_pick T.F__law_pick.kp (bd_lpk T) .nil pass0 (pa_cons (pv 0) (pa_cons (pv 1) pa_nil))) pa_nil)))))) pss_nil)
    (pss_cons (ps_if (PW.pt (pw_and (pt_cmpR op_lt (pv 4) pe_int (nomark _)) (pw_and1 (pt_cmpR op_gt (pv 3) pe_int (nomark _)))))
      (pss_one (ps_ret (pe_tup (pa_cons pe_str (pa_cons (pe_call FD hr rfl T.g__law_form T.F__law_form.kp (bd_lf T) .nil pass0 (pa_cons (pv 0) (pa_cons (pv 1) (pa_cons (pe_op op_sub (pv 2) pe_int) (pa_cons (pe_op op_sub (pv 3) pe_int) pa_nil))))) pa_nil))))) pss_nil)
    (pss_cons (ps_if (pt_cmpR op_eq (pv 4) pe_int (nomark _))
      (pss_one (ps_ret (pe_tup (pa_cons pe_str (pa_cons (pe_call FD hr rfl T.g__law_form T.F__law_form.kp (bd_lf T) .nil pass0 (pa_cons (pv 0) (pa_cons (pv 1) (pa_cons (pe_op op_sub (pv 2) pe_int) (pa_cons (pv 3) pa_nil))))) (pa_cons (pe_tup (pa_cons pe_str pa_nil)) pa_nil)))))) pss_nil)
    (pss_cons (ps_set (i := 5) sc_lf.nd rfl (Or.inl rfl) (pe_op op_add pe_int (pe_call gD hr rfl T.g__law_draw T.F__law_draw.kp (bd_ldr T) .nil pass0 (pa_cons (pv 0) (pa_cons (pe_op op_sub (pv 2) pe_int) pa_nil)))))
    (pss_one (ps_ret (pe_tup (pa_cons pe_str (pa_cons (pe_call FD hr rfl T.g__law_form T.F__law_form.kp (bd_lf T) .nil pass0 (pa_cons (pv 0) (pa_cons (pv 1) (pa_cons (pv 5) (pa_cons (pv 3) pa_nil)))))
      (pa_cons (pe_call FD hr rfl T.g__law_form T.F__law_form.kp (bd_lf T) .nil pass0 (pa_cons (pv 0) (pa_cons (pv 1) (pa_cons (pe_op op_sub (pv 2) (pv 5)) (pa_cons (pv 3) pa_nil))))) pa_nil))))))))))), ?_⟩)
  obtain ⟨d, c, N, x, ls, sz, al, size, rfl, rfl, hx, h0, h1, hs0, hsm, hs2, hdk, hN, q⟩ := h
  refine ⟨_, rfl, d, c, N, 8, rfl, hdk, by decide, by decide, by omega, fun way H1 hway hdk1 k1 => ?_⟩
  have s1 : 1 ≤ sizeLine := Nat.le_trans (Nat.le_succ 1) two_sz
  refine ⟨_, rfl, _, _, rfl, rfl, _, rfl, ite2 (fun z => iteT ?_) fun z => ?_⟩
  · refine ⟨_, rfl, d, c, N + 1, 7, rfl, hdk1, by decide, by decide, by omega, fun r H2 hr2 hdk2 k2 => ⟨rfl, _, rfl, ite2 (fun _ => ⟨s1, fun t ht => ?_⟩) fun _ => ⟨_, rfl, _, rfl, .inl ⟨d, c, N + 1 + 1, x, ls, rfl, hx, h0, h1, hdk2, by omega, fun y hy H3 hdk3 k3 => ⟨two_sz, fun t ht => ?_⟩⟩⟩⟩⟩
    · exact q t .no _ tr_no (by simp only [AB.size]; omega) (fun y hy => by simp [AB.occ] at hy) ((hdk2.kp (kp_new ht)).mono (by omega)) ((k1.trans k2).trans (.of (kp_new ht)))
    · exact q t (.atm y) _ (show TrAt _ (.atm y) t from upd_same) (by simp only [AB.size]; omega) (fun z hz => by simp only [AB.occ, decide_eq_true_eq] at hz; rw [hz]; exact hy) ((hdk3.kp (kp_new ht)).mono (by omega)) (((k1.trans k2).trans k3).trans (.of (kp_new ht)))
  have z2 : ¬ ((size : Int) < 2) := fun h => z (decide_eq_true h)
  refine ⟨_, rfl, rfl, _, rfl, ite2 (fun _ => ?_) fun _ => ?_⟩
  · refine ⟨_, rfl, d, c, N + 1, 7, rfl, hdk1, by decide, by decide, by omega, fun r H2 hr2 hdk2 k2 => ⟨rfl, _, rfl, ite2 (fun _ => ⟨s1, fun t ht => ?_⟩) fun _ => ⟨_, rfl, _, rfl, .inl ⟨d, c, N + 1 + 1, x, ls, rfl, hx, h0, h1, hdk2, by omega, fun y hy H3 hdk3 k3 => ⟨two_sz, fun t ht => ?_⟩⟩⟩⟩⟩
    · exact q t .no _ tr_no (by simp only [AB.size]; omega) (fun y hy => by simp [AB.occ] at hy) ((hdk2.kp (kp_new ht)).mono (by omega)) ((k1.trans k2).trans (.of (kp_new ht)))
    · exact q t (.atm y) _ (show TrAt _ (.atm y) t from upd_same) (by simp only [AB.size]; omega) (fun z hz => by simp only [AB.occ, decide_eq_true_eq] at hz; rw [hz]; exact hy) ((hdk3.kp (kp_new ht)).mono (by omega)) (((k1.trans k2).trans k3).trans (.of (kp_new ht)))
  refine ⟨_, rfl, _, _, rfl, rfl, _, rfl, ite2 (fun _ => ?_) fun _ => iteF ?_⟩
  · refine ⟨_, rfl, _, _, rfl, rfl, _, rfl, ite2 (fun _ => ?_) fun _ => ?_⟩
    · refine ⟨_, rfl, _, rfl, _, rfl, _, _, rfl, rfl, _, rfl, _, _, rfl, rfl, d, c, N + 1, x, ls, _, _, size - 1, rfl, by omega, hx, h0, h1, by omega, by omega, by omega, hdk1, by omega, fun p F H2 hF hsz ho hdk2 k2 => ⟨two_sz, fun t ht => ?_⟩⟩
      exact q t (.all F) _ (tr_all ht hF) (by simp only [AB.size]; omega) (fun y hy => ho y hy) ((hdk2.kp (kp_new ht)).mono (by omega)) ((k1.trans k2).trans (.of (kp_new ht)))
    · refine ⟨_, rfl, rfl, _, rfl, ite2 (fun _ => ?_) fun _ => ?_⟩
      · refine ⟨_, rfl, _, rfl, _, rfl, _, _, rfl, rfl, _, rfl, d, c, N + 1, x, ls, _, _, size - 1, rfl, by omega, hx, h0, h1, by omega, by omega, by omega, hdk1, by omega, fun p F H2 hF hsz ho hdk2 k2 => ⟨s1, fun t ht => ⟨three_sz, fun u hu => ?_⟩⟩⟩
        exact q u (.imp F .no) _ (tr_imp hu (hF.kf (kf_n ht)) tr_no) (by simp only [AB.size]; omega) (fun y hy => ho y (by simpa [AB.occ] using hy)) (((hdk2.kp (kp_new ht)).kp (kp_new hu)).mono (by omega)) ((k1.trans k2).trans (.of ((kp_new ht).trans (kp_new hu))))
      · refine ⟨_, rfl, _, rfl, _, _, rfl, rfl, d, c, N + 1, size - 1, by show [V.ref d, V.int ((size : Int) - 1)] = _; rw [show ((size : Int) - 1) = ((size - 1 : Nat) : Int) by omega], hdk1, by omega, by omega, by omega, fun r H2 hr2 hdk2 k2 => ⟨_, _, rfl, rfl, ?_⟩⟩
        refine ⟨_, rfl, _, rfl, _, rfl, _, rfl, d, c, N + 1 + 1, x, ls, _, _, r + 1, rfl, by omega, hx, h0, h1, by omega, by omega, by omega, hdk2, by omega, fun p F H3 hF hsz ho hdk3 k3 => ?_⟩
        refine ⟨_, rfl, _, rfl, _, rfl, _, rfl, _, _, rfl, rfl, _, rfl, d, c, N + 1 + 1 + 16 * (r + 1) - 8, x, ls, _, _, size - (r + 1), rfl, by omega, hx, h0, h1, by omega, by omega, by omega, hdk3, by omega, fun p2 G H4 hG hsz2 ho2 hdk4 k4 => ⟨three_sz, fun t ht => ?_⟩⟩
        exact q t (.imp F G) _ (tr_imp ht (hF.kf (k4.kf hdk3)) hG) (by simp only [AB.size]; omega) (fun y hy => by
          simp only [AB.occ, Bool.or_eq_true] at hy
          exact hy.elim (ho y) (ho2 y)) ((hdk4.kp (kp_new ht)).mono (by omega)) ((((k1.trans k2).trans k3).trans k4).trans (.of (kp_new ht)))
  · refine ⟨_, rfl, rfl, _, rfl, ite2 (fun _ => ?_) fun _ => ?_⟩
    · refine ⟨_, rfl, _, rfl, _, rfl, _, _, rfl, rfl, _, rfl, d, c, N + 1, x, ls, _, _, size - 1, rfl, by omega, hx, h0, h1, by omega, by omega, by omega, hdk1, by omega, fun p F H2 hF hsz ho hdk2 k2 => ⟨s1, fun t ht => ⟨three_sz, fun u hu => ?_⟩⟩⟩
      exact q u (.imp F .no) _ (tr_imp hu (hF.kf (kf_n ht)) tr_no) (by simp only [AB.size]; omega) (fun y hy => ho y (by simpa [AB.occ] using hy)) (((hdk2.kp (kp_new ht)).kp (kp_new hu)).mono (by omega)) ((k1.trans k2).trans (.of ((kp_new ht).trans (kp_new hu))))
    · refine ⟨_, rfl, _, rfl, _, _, rfl, rfl, d, c, N + 1, size - 1, by show [V.ref d, V.int ((size : Int) - 1)] = _; rw [show ((size : Int) - 1) = ((size - 1 : Nat) : Int) by omega], hdk1, by omega, by omega, by omega, fun r H2 hr2 hdk2 k2 => ⟨_, _, rfl, rfl, ?_⟩⟩
      refine ⟨_, rfl, _, rfl, _, rfl, _, rfl, d, c, N + 1 + 1, x, ls, _, _, r + 1, rfl, by omega, hx, h0, h1, by omega, by omega, by omega, hdk2, by omega, fun p F H3 hF hsz ho hdk3 k3 => ?_⟩
      refine ⟨_, rfl, _, rfl, _, rfl, _, rfl, _, _, rfl, rfl, _, rfl, d, c, N + 1 + 1 + 16 * (r + 1) - 8, x, ls, _, _, size - (r + 1), rfl, by omega, hx, h0, h1, by omega, by omega, by omega, hdk3, by omega, fun p2 G H4 hG hsz2 ho2 hdk4 k4 => ⟨three_sz, fun t ht => ?_⟩⟩
      exact q t (.imp F G) _ (tr_imp ht (hF.kf (k4.kf hdk3)) hG) (by simp only [AB.size]; omega) (fun y hy => by
        simp only [AB.occ, Bool.or_eq_true] at hy
        exact hy.elim (ho y) (ho2 y)) ((hdk4.kp (kp_new ht)).mono (by omega)) ((((k1.trans k2).trans k3).trans k4).trans (.of (kp_new ht)))
theorem lf_all : ∀ m, FH P w K mg base (2 + m) (f__law_form K) Plf (spLForm m)
  | 0 => ⟨fun vs H Q E h => by obtain ⟨_, _, _, _, _, _, _, _, rfl, _⟩ := h; rfl, fun A outer s H args us vs Q E hr e0 hb r h => by
    obtain ⟨_, _, _, _, _, _, _, _, _, _, _, _, _, z1, z2, _⟩ := h
    omega⟩
  | m + 1 => ok_lf T (Nat.le_add_right 2 m) (lf_all m)
end
end AT
end
section
set_option Elab.async false
set_option linter.all false
set_option maxRecDepth 100000
/-! _law_couple. -/
namespace AT
open PySem PySem.Spec PyProof.Rows L2
open AB (Fm At Drv)
/-- two trees in a tuple -/
def PrTr (H : Hp) (t : Addr) (F G : Fm) : Prop := ∃ p r, H t = some (.tup [.ref p, .ref r]) ∧ TrAt H F p ∧ TrAt H G r
/-- the pair that is told where the drawn one is too large -/
structure TupFb (x : Str) (y : At) (H : Hp) (Q : VK) : Prop where
  h : ∀ t1, H t1 = none → ∀ t2, upd H t1 (.tup [.str "atom", .str (letS y)]) t2 = none → ∀ t3, upd (upd H t1 (.tup [.str "atom", .str (letS y)])) t2 (.tup [.str "atom", .str (letS y)]) t3 = none →
    ∀ t4, upd (upd (upd H t1 (.tup [.str "atom", .str (letS y)])) t2 (.tup [.str "atom", .str (letS y)])) t3 (.tup [.str "all", .ref t2]) t4 = none → Q (.ref t4) (upd (upd (upd (upd H t1 (.tup [.str "atom", .str (letS y)])) t2 (.tup [.str "atom", .str (letS y)])) t3 (.tup [.str "all", .ref t2])) t4 (.tup [.ref t1, .ref t3]))
section
variable {P : Program} {w : World} {K : PySem.W.Frag} {mg : Str → Option Value} {base : Heap} (T : Tx w K mg)
abbrev Nlc : List Str := ["_law_deck_here", "_law_letters_here", "_law_size_here", "_law_alls_here", "_law_front", "_law_back", "_law_way"]
theorem sc_lc : FnScope Nlc Plf (defScope s__law_couple) := ⟨rfl, rfl, rfl, by decide +kernel, rfl, by decide +kernel, by decide +kernel⟩
def spLCouple : Sp := fun vs H Q _ => ∃ (d c : Addr) (N : Nat) (x : Str) (ls : List At) (sz al : Int) (size : Nat), vs = [.ref d, .str x, .int sz, .int al] ∧ sz = size ∧ TxS x ls ∧ 0 < ls.length ∧ ls.length ≤ 100 ∧ 0 < size ∧ size ≤ 3 ∧ Dk H d c N ∧ N ≤ 900000 ∧
  ∀ t F G H', PrTr H' t F G → AB.size F + AB.size G ≤ 44 → (AB.alls (.imp F G)).length ≤ 4 → Dk H' d c (N + 100) → KX d c H H' → Q (.ref t) H'
include T
theorem bd_lc : L2.Binds K (fdOf K (f__law_couple K)) Plf [] := T.F__law_couple.binds fun _ _ _ _ _ _ us hl => match us, hl with | [_, _, _, _], _ => rfl
theorem ok_lc : FH P w K mg base 66 (f__law_couple K) Plf spLCouple := by
  have gF := (lf_all (P := P) (base := base) T 3).mono (show 2 + 3 ≤ 65 by decide)
  have gD := (ok_ldr (P := P) (base := base) T).mono (show 1 ≤ 65 by decide)
  have gA := (lalls_all (P := P) (base := base) T 62).mono (show 1 + 62 ≤ 65 by decide)
  have gS := (lsize_all (P := P) (base := base) T 62).mono (show 1 + 62 ≤ 65 by decide)
  refine T.F__law_couple.ok sc_lc (fun vs H Q E h => by obtain ⟨_, _, _, _, _, _, _, _, rfl, _⟩ := h; rfl) (fun cdv A outer s H vs Q E hr h => ⟨_, PSs.nox (
    pss_cons (ps_set (i := 4) sc_lc.nd rfl (Or.inl rfl) (pe_call gF hr rfl T.g__law_form T.F__law_form.kp (bd_lf T) .nil pass0 (pa_cons (pv 0) (pa_cons (pv 1) (pa_cons (pv 2) (pa_cons (pv 3) pa_nil))))))
    (pss_cons (ps_par (i := 5) (j := 6) rfl sc_lc.nd rfl rfl (by decide) rfl rfl (pa_cons (pe_call gF hr rfl T.g__law_form T.F__law_form.kp (bd_lf T) .nil pass0 (pa_cons (pv 0) (pa_cons (pv 1) (pa_cons (pv 2) (pa_cons (pv 3) pa_nil))))) (pa_cons (pe_call gD hr rfl T.g__law_draw T.F__law_draw.kp (bd_ldr T) .nil pass0 (pa_cons (pv 0) (pa_cons pe_int pa_nil))) pa_nil)) rfl)
    (pss_cons (ps_if (pt_cmpR op_eq (pv 6) pe_int (nomark _)) (pss_one (ps_set (i := 5) sc_lc.nd rfl (Or.inl rfl) (pe_tup (pa_cons pe_str (pa_cons (pv 5) (pa_cons (pv 4) pa_nil)))))) pss_nil)
    (pss_cons (ps_if (pt_cmpR op_eq (pv 6) pe_int (nomark _)) (pss_one (ps_set (i := 4) sc_lc.nd rfl (Or.inl rfl) (pe_tup (pa_cons pe_str (pa_cons (pe_tup (pa_cons pe_str (pa_cons (pv 4) (pa_cons (pe_tup (pa_cons pe_str (pa_cons (pv 5) (pa_cons (pe_tup (pa_cons pe_str pa_nil)) pa_nil)))) pa_nil)))) (pa_cons (pe_tup (pa_cons pe_str pa_nil)) pa_nil)))))) pss_nil)
    (pss_cons (ps_if (pt_cmpR op_eq (pv 6) pe_int (nomark _)) (pss_one (ps_par (i := 4) (j := 5) rfl sc_lc.nd rfl rfl (by decide) rfl rfl (pa_cons (pe_tup (pa_cons pe_str (pa_cons (pv 4) pa_nil))) (pa_cons (pe_tup (pa_cons pe_str (pa_cons (pe_tup (pa_cons pe_str (pa_cons (pv 5) (pa_cons (pv 4) pa_nil)))) pa_nil))) pa_nil)) rfl)) pss_nil)
    (pss_cons (ps_if (pt_cmpR op_eq (pv 6) pe_int (nomark _)) (pss_one (ps_par (i := 4) (j := 5) rfl sc_lc.nd rfl rfl (by decide) rfl rfl (pa_cons (pe_tup (pa_cons pe_str (pa_cons (pe_tup (pa_cons pe_str (pa_cons (pe_tup (pa_cons pe_str (pa_cons (pv 4) pa_nil))) (pa_cons (pv 4) pa_nil)))) pa_nil)))
        (pa_cons (pe_tup (pa_cons pe_str (pa_cons (pe_tup (pa_cons pe_str (pa_cons (pe_tup (pa_cons pe_str (pa_cons (pv 4) (pa_cons (pe_tup (pa_cons pe_str pa_nil)) pa_nil)))) (pa_cons (pv 5) pa_nil)))) pa_nil))) pa_nil)) rfl)) pss_nil)
    (pss_cons (ps_if (PW.pt (pw_or (pt_cmpR op_gt (pe_callB call_len_seq rfl T.b_len boot_len (pa_cons (pe_call gA hr rfl T.g__law_alls T.F__law_alls.kp (bd_lalls T) .nil pass0 (pa_cons (pe_tup (pa_cons pe_str (pa_cons (pv 4) (pa_cons (pv 5) pa_nil)))) pa_nil)) pa_nil)) pe_int (nomark _))
        (pw_or1 (pt_cmpR op_gt (pe_op op_add (pe_call gS hr rfl T.g__law_size T.F__law_size.kp (bd_lsize T) .nil pass0 (pa_cons (pv 4) pa_nil)) (pe_call gS hr rfl T.g__law_size T.F__law_size.kp (bd_lsize T) .nil pass0 (pa_cons (pv 5) pa_nil))) pe_int (nomark _)))))
      (pss_one (ps_ret (pe_tup (pa_cons (pe_tup (pa_cons pe_str (pa_cons (pe_ix ix_str (pv 1) pe_int (fun _ _ => rfl)) pa_nil))) (pa_cons (pe_tup (pa_cons pe_str (pa_cons (pe_tup (pa_cons pe_str (pa_cons (pe_ix ix_str (pv 1) pe_int (fun _ _ => rfl)) pa_nil))) pa_nil))) pa_nil))))) pss_nil)
    (pss_one (ps_ret (pe_tup (pa_cons (pv 4) (pa_cons (pv 5) pa_nil)))))))))))), ?_⟩)
  obtain ⟨d, c, N, x, ls, sz, al, size, rfl, rfl, hx, h0, h1, hs0, hs3, hdk, hN, q⟩ := h
  have s1 : 1 ≤ sizeLine := Nat.le_trans (Nat.le_succ 1) two_sz
  refine ⟨_, rfl, _, rfl, _, rfl, _, rfl, d, c, N, x, ls, _, _, size, rfl, rfl, hx, h0, h1, hs0, hs3, by omega, hdk, by omega, fun p F H1 hF hF5 _ hdk1 k1 => ?_⟩
  refine ⟨_, rfl, _, rfl, _, rfl, _, rfl, d, c, _, x, ls, _, _, size, rfl, rfl, hx, h0, h1, hs0, hs3, by omega, hdk1, by omega, fun r G H2 hG hG5 _ hdk2 k2 => ?_⟩
  refine ⟨_, rfl, d, c, _, 5, rfl, hdk2, by decide, by decide, by omega, fun way H3 hway hdk3 k3 => ⟨_, _, rfl, ?_⟩⟩
  have hF3 := (hF.kf (k2.kf hdk1)).kf (k3.kf hdk2)
  have hG3 := hG.kf (k3.kf hdk2)
  have k03 := (k1.trans k2).trans k3
  have hdk3' : Dk H3 d c (N + 100) := hdk3.mono (by omega)
  clear hdk3 hdk2 hdk1 k1 k2 k3 hF hG H1 H2
  have hls : ∃ y, ls[0]? = some y := ⟨ls[0], List.getElem?_eq_getElem h0⟩
  obtain ⟨y0, hy0⟩ := hls
  have hl : x.length = ls.length := by
    show x.cps.size = _
    rw [← Array.length_toList, hx, List.length_map]
  have hat : atI x.cps.toList 0 = some (letC y0) := atI_nat (j := 0) (by rw [hx, List.getElem?_map, hy0]; rfl)
  have hxl : x.length ≤ sizeLine := by rw [hl, sizeLine_eq]; omega
  match way, hway with
  | 0, _ =>
    refine ⟨_, rfl, rfl, _, rfl, ite2 (fun _ => ?_) fun z => absurd (by decide +kernel) z⟩
    refine ⟨_, rfl, _, rfl, three_sz, fun t1 ht1 => ?_⟩
    refine ⟨_, rfl, rfl, _, rfl, ite2 (fun z => absurd z (by decide +kernel)) fun _ => ?_⟩
    refine ⟨_, rfl, rfl, _, rfl, ite2 (fun z => absurd z (by decide +kernel)) fun _ => ?_⟩
    refine ⟨_, rfl, rfl, _, rfl, ite2 (fun z => absurd z (by decide +kernel)) fun _ => ?_⟩
    have hsz : AB.size F + AB.size (Fm.imp G F) ≤ 60 := by (try simp only [AB.size]); omega
    have dF := AB.dep_size F
    have dG := AB.dep_size (Fm.imp G F)
    have pF := AB.dep_pos F
    have pG := AB.dep_pos (Fm.imp G F)
    have hdm : AB.dep (.imp F (Fm.imp G F)) ≤ 61 := by
      have e : AB.dep (.imp F (Fm.imp G F)) = max (AB.dep F) (AB.dep (Fm.imp G F)) + 1 := rfl
      omega
    have hsm : AB.size (.imp F (Fm.imp G F)) ≤ 1000 := by
      have e : AB.size (.imp F (Fm.imp G F)) = AB.size F + AB.size (Fm.imp G F) + 1 := rfl
      omega
    have hF' := hF3.kp (kp_new (o := .tup [.str "if", .ref r, .ref p]) ht1)
    have hG' := tr_imp ht1 hG3 hF3
    have kk := kp_new (o := .tup [.str "if", .ref r, .ref p]) ht1
    have hrr : ∀ t H', Kp H3 H' → PrTr H' t (.atm y0) (.all (.atm y0)) → Q (.ref t) H' := fun t H' k h => q t _ _ H' h (by simp [AB.size]) (by simp [AB.alls]) (hdk3'.kp k) (k03.trans (.of k))
    have hok : ∀ t H', Kp H3 H' → PrTr H' t F (Fm.imp G F) → AB.size F + AB.size (Fm.imp G F) ≤ 44 → (AB.alls (.imp F (Fm.imp G F))).length ≤ 4 → Q (.ref t) H' := fun t H' k h a b => q t _ _ H' h a b (hdk3'.kp k) (k03.trans (.of k))
    clear q hF3 hG3
    generalize (Fm.imp G F) = G' at *
    generalize F = F' at *
    generalize (upd H3 t1 (.tup [.str "if", .ref r, .ref p])) = H4 at *
    refine ⟨_, rfl, _, rfl, three_sz, fun t ht => ⟨t, .imp F' G', rfl, tr_imp ht hF' hG', by omega, by omega, hsm, fun l H5 hl5 k5 => ?_⟩⟩
    have k45 := (kp_new (o := .tup [.str "if", .ref p, .ref t1]) ht).trans k5
    obtain ⟨ps, el, pl⟩ := hl5.ex
    have lp := Paired.length pl
    have fb : ∀ H', Kp H3 H' → TupFb x y0 H' Q := fun H' k => ⟨fun t1 ht1 t2 ht2 t3 ht3 t4 ht4 => hrr t4 _ ((((k.trans (kp_new ht1)).trans (kp_new ht2)).trans (kp_new ht3)).trans (kp_new ht4)) ⟨t1, t3, upd_same, ((show TrAt _ (.atm y0) t1 from upd_same).kp (((kp_new ht2).trans (kp_new ht3)).trans (kp_new ht4)) : TrAt _ (.atm y0) t1), (tr_all ht3 (show TrAt _ (.atm y0) t2 from upd_same)).kp (kp_new ht4)⟩⟩
    refine ⟨l, _, rfl, .inl (SqL.of el), _, _, rfl, rfl, _, rfl, ite2 (fun _ => iteT ?_) fun z => ?_⟩
    · exact ⟨_, rfl, x, _, _, rfl, rfl, hxl, hat, two_sz, fun t1 ht1 => ⟨_, rfl, x, _, _, rfl, rfl, hxl, hat, two_sz, fun t2 ht2 => ⟨two_sz, fun t3 ht3 => ⟨two_sz, fun t4 ht4 => (fb _ (kk.trans k45)).h t1 ht1 t2 ht2 t3 ht3 t4 ht4⟩⟩⟩⟩
    have hal : (AB.alls (.imp F' G')).length ≤ 4 := by
      have h1 : ¬ ((4 : Int) < ((ps.map V.ref).length : Nat)) := fun h => z (decide_eq_true h)
      rw [List.length_map, lp] at h1
      omega
    refine ⟨_, rfl, p, F', rfl, hF'.kp k45, by omega, fun H6 k6 => ?_⟩
    refine ⟨_, rfl, t1, G', rfl, hG'.kp (k45.trans k6), by omega, fun H7 k7 => ?_⟩
    have k47 := (k45.trans k6).trans k7
    refine ⟨_, _, rfl, rfl, _, _, rfl, rfl, _, rfl, ite2 (fun _ => ?_) fun z => ?_⟩
    · exact ⟨_, rfl, x, _, _, rfl, rfl, hxl, hat, two_sz, fun t1 ht1 => ⟨_, rfl, x, _, _, rfl, rfl, hxl, hat, two_sz, fun t2 ht2 => ⟨two_sz, fun t3 ht3 => ⟨two_sz, fun t4 ht4 => (fb _ (kk.trans k47)).h t1 ht1 t2 ht2 t3 ht3 t4 ht4⟩⟩⟩⟩
    have h44 : AB.size F' + AB.size G' ≤ 44 := by
      have h1 : ¬ ((44 : Int) < (AB.size F' : Int) + (AB.size G' : Int)) := fun h => z (decide_eq_true h)
      omega
    exact ⟨_, rfl, _, rfl, two_sz, fun t ht => hok t _ ((kk.trans k47).trans (kp_new ht)) ⟨p, t1, upd_same, (hF'.kp k47).kp (kp_new ht), (hG'.kp k47).kp (kp_new ht)⟩ h44 hal⟩
  | 1, _ =>
    refine ⟨_, rfl, rfl, _, rfl, ite2 (fun z => absurd z (by decide +kernel)) fun _ => ?_⟩
    refine ⟨_, rfl, rfl, _, rfl, ite2 (fun _ => ?_) fun z => absurd (by decide +kernel) z⟩
    refine ⟨_, rfl, _, rfl, s1, fun t1 ht1 => ⟨three_sz, fun t2 ht2 => ⟨three_sz, fun t3 ht3 => ⟨s1, fun t4 ht4 => ⟨three_sz, fun t5 ht5 => ?_⟩⟩⟩⟩⟩
    refine ⟨_, rfl, rfl, _, rfl, ite2 (fun z => absurd z (by decide +kernel)) fun _ => ?_⟩
    refine ⟨_, rfl, rfl, _, rfl, ite2 (fun z => absurd z (by decide +kernel)) fun _ => ?_⟩
    have n1 := tr_no (H := H3) (t := t1)
    have j2 := tr_imp ht2 (hG3.kp (kp_new ht1)) n1
    have j3 := tr_imp ht3 ((hF3.kp (kp_new ht1)).kp (kp_new ht2)) j2
    have n4 := kp_new (o := .tup [.str "no"]) ht4
    have j5 := tr_imp ht5 (j3.kp n4) tr_no
    have k5 := ((((kp_new (o := .tup [.str "no"]) ht1).trans (kp_new (o := .tup [.str "if", .ref r, .ref t1]) ht2)).trans (kp_new (o := .tup [.str "if", .ref p, .ref t2]) ht3)).trans n4).trans (kp_new (o := .tup [.str "if", .ref t3, .ref t4]) ht5)
    have hsz : AB.size (Fm.imp (.imp F (.imp G .no)) .no) + AB.size G ≤ 60 := by (try simp only [AB.size]); omega
    have dF := AB.dep_size (Fm.imp (.imp F (.imp G .no)) .no)
    have dG := AB.dep_size G
    have pF := AB.dep_pos (Fm.imp (.imp F (.imp G .no)) .no)
    have pG := AB.dep_pos G
    have hdm : AB.dep (.imp (Fm.imp (.imp F (.imp G .no)) .no) G) ≤ 61 := by
      have e : AB.dep (.imp (Fm.imp (.imp F (.imp G .no)) .no) G) = max (AB.dep (Fm.imp (.imp F (.imp G .no)) .no)) (AB.dep G) + 1 := rfl
      omega
    have hsm : AB.size (.imp (Fm.imp (.imp F (.imp G .no)) .no) G) ≤ 1000 := by
      have e : AB.size (.imp (Fm.imp (.imp F (.imp G .no)) .no) G) = AB.size (Fm.imp (.imp F (.imp G .no)) .no) + AB.size G + 1 := rfl
      omega
    have hF' := j5
    have hG' := hG3.kp k5
    have kk := k5
    have hrr : ∀ t H', Kp H3 H' → PrTr H' t (.atm y0) (.all (.atm y0)) → Q (.ref t) H' := fun t H' k h => q t _ _ H' h (by simp [AB.size]) (by simp [AB.alls]) (hdk3'.kp k) (k03.trans (.of k))
    have hok : ∀ t H', Kp H3 H' → PrTr H' t (Fm.imp (.imp F (.imp G .no)) .no) G → AB.size (Fm.imp (.imp F (.imp G .no)) .no) + AB.size G ≤ 44 → (AB.alls (.imp (Fm.imp (.imp F (.imp G .no)) .no) G)).length ≤ 4 → Q (.ref t) H' := fun t H' k h a b => q t _ _ H' h a b (hdk3'.kp k) (k03.trans (.of k))
    clear q hF3 hG3
    generalize (Fm.imp (.imp F (.imp G .no)) .no) = F' at *
    generalize G = G' at *
    generalize (upd (upd (upd (upd (upd H3 t1 (.tup [.str "no"])) t2 (.tup [.str "if", .ref r, .ref t1])) t3 (.tup [.str "if", .ref p, .ref t2])) t4 (.tup [.str "no"])) t5 (.tup [.str "if", .ref t3, .ref t4])) = H4 at *
    refine ⟨_, rfl, _, rfl, three_sz, fun t ht => ⟨t, .imp F' G', rfl, tr_imp ht hF' hG', by omega, by omega, hsm, fun l H5 hl5 k5 => ?_⟩⟩
    have k45 := (kp_new (o := .tup [.str "if", .ref t5, .ref r]) ht).trans k5
    obtain ⟨ps, el, pl⟩ := hl5.ex
    have lp := Paired.length pl
    have fb : ∀ H', Kp H3 H' → TupFb x y0 H' Q := fun H' k => ⟨fun t1 ht1 t2 ht2 t3 ht3 t4 ht4 => hrr t4 _ ((((k.trans (kp_new ht1)).trans (kp_new ht2)).trans (kp_new ht3)).trans (kp_new ht4)) ⟨t1, t3, upd_same, ((show TrAt _ (.atm y0) t1 from upd_same).kp (((kp_new ht2).trans (kp_new ht3)).trans (kp_new ht4)) : TrAt _ (.atm y0) t1), (tr_all ht3 (show TrAt _ (.atm y0) t2 from upd_same)).kp (kp_new ht4)⟩⟩
    refine ⟨l, _, rfl, .inl (SqL.of el), _, _, rfl, rfl, _, rfl, ite2 (fun _ => iteT ?_) fun z => ?_⟩
    · exact ⟨_, rfl, x, _, _, rfl, rfl, hxl, hat, two_sz, fun t1 ht1 => ⟨_, rfl, x, _, _, rfl, rfl, hxl, hat, two_sz, fun t2 ht2 => ⟨two_sz, fun t3 ht3 => ⟨two_sz, fun t4 ht4 => (fb _ (kk.trans k45)).h t1 ht1 t2 ht2 t3 ht3 t4 ht4⟩⟩⟩⟩
    have hal : (AB.alls (.imp F' G')).length ≤ 4 := by
      have h1 : ¬ ((4 : Int) < ((ps.map V.ref).length : Nat)) := fun h => z (decide_eq_true h)
      rw [List.length_map, lp] at h1
      omega
    refine ⟨_, rfl, t5, F', rfl, hF'.kp k45, by omega, fun H6 k6 => ?_⟩
    refine ⟨_, rfl, r, G', rfl, hG'.kp (k45.trans k6), by omega, fun H7 k7 => ?_⟩
    have k47 := (k45.trans k6).trans k7
    refine ⟨_, _, rfl, rfl, _, _, rfl, rfl, _, rfl, ite2 (fun _ => ?_) fun z => ?_⟩
    · exact ⟨_, rfl, x, _, _, rfl, rfl, hxl, hat, two_sz, fun t1 ht1 => ⟨_, rfl, x, _, _, rfl, rfl, hxl, hat, two_sz, fun t2 ht2 => ⟨two_sz, fun t3 ht3 => ⟨two_sz, fun t4 ht4 => (fb _ (kk.trans k47)).h t1 ht1 t2 ht2 t3 ht3 t4 ht4⟩⟩⟩⟩
    have h44 : AB.size F' + AB.size G' ≤ 44 := by
      have h1 : ¬ ((44 : Int) < (AB.size F' : Int) + (AB.size G' : Int)) := fun h => z (decide_eq_true h)
      omega
    exact ⟨_, rfl, _, rfl, two_sz, fun t ht => hok t _ ((kk.trans k47).trans (kp_new ht)) ⟨t5, r, upd_same, (hF'.kp k47).kp (kp_new ht), (hG'.kp k47).kp (kp_new ht)⟩ h44 hal⟩
  | 2, _ =>
    refine ⟨_, rfl, rfl, _, rfl, ite2 (fun z => absurd z (by decide +kernel)) fun _ => ?_⟩
    refine ⟨_, rfl, rfl, _, rfl, ite2 (fun z => absurd z (by decide +kernel)) fun _ => ?_⟩
    refine ⟨_, rfl, rfl, _, rfl, ite2 (fun _ => ?_) fun z => absurd (by decide +kernel) z⟩
    refine ⟨_, rfl, two_sz, fun t1 ht1 => ⟨_, rfl, _, rfl, three_sz, fun t2 ht2 => ⟨two_sz, fun t3 ht3 => ⟨_, _, rfl, ?_⟩⟩⟩⟩
    refine ⟨_, rfl, rfl, _, rfl, ite2 (fun z => absurd z (by decide +kernel)) fun _ => ?_⟩
    have j1 := tr_all ht1 hF3
    have j2 := tr_imp ht2 (hG3.kp (kp_new ht1)) (hF3.kp (kp_new ht1))
    have j3 := tr_all ht3 j2
    have k23 := (kp_new (o := .tup [.str "if", .ref r, .ref p]) ht2).trans (kp_new (o := .tup [.str "all", .ref t2]) ht3)
    have hsz : AB.size (Fm.all F) + AB.size (Fm.all (.imp G F)) ≤ 60 := by (try simp only [AB.size]); omega
    have dF := AB.dep_size (Fm.all F)
    have dG := AB.dep_size (Fm.all (.imp G F))
    have pF := AB.dep_pos (Fm.all F)
    have pG := AB.dep_pos (Fm.all (.imp G F))
    have hdm : AB.dep (.imp (Fm.all F) (Fm.all (.imp G F))) ≤ 61 := by
      have e : AB.dep (.imp (Fm.all F) (Fm.all (.imp G F))) = max (AB.dep (Fm.all F)) (AB.dep (Fm.all (.imp G F))) + 1 := rfl
      omega
    have hsm : AB.size (.imp (Fm.all F) (Fm.all (.imp G F))) ≤ 1000 := by
      have e : AB.size (.imp (Fm.all F) (Fm.all (.imp G F))) = AB.size (Fm.all F) + AB.size (Fm.all (.imp G F)) + 1 := rfl
      omega
    have hF' := j1.kp k23
    have hG' := j3
    have kk := (kp_new (o := .tup [.str "all", .ref p]) ht1).trans k23
    have hrr : ∀ t H', Kp H3 H' → PrTr H' t (.atm y0) (.all (.atm y0)) → Q (.ref t) H' := fun t H' k h => q t _ _ H' h (by simp [AB.size]) (by simp [AB.alls]) (hdk3'.kp k) (k03.trans (.of k))
    have hok : ∀ t H', Kp H3 H' → PrTr H' t (Fm.all F) (Fm.all (.imp G F)) → AB.size (Fm.all F) + AB.size (Fm.all (.imp G F)) ≤ 44 → (AB.alls (.imp (Fm.all F) (Fm.all (.imp G F)))).length ≤ 4 → Q (.ref t) H' := fun t H' k h a b => q t _ _ H' h a b (hdk3'.kp k) (k03.trans (.of k))
    clear q hF3 hG3
    generalize (Fm.all F) = F' at *
    generalize (Fm.all (.imp G F)) = G' at *
    generalize (upd (upd (upd H3 t1 (.tup [.str "all", .ref p])) t2 (.tup [.str "if", .ref r, .ref p])) t3 (.tup [.str "all", .ref t2])) = H4 at *
    refine ⟨_, rfl, _, rfl, three_sz, fun t ht => ⟨t, .imp F' G', rfl, tr_imp ht hF' hG', by omega, by omega, hsm, fun l H5 hl5 k5 => ?_⟩⟩
    have k45 := (kp_new (o := .tup [.str "if", .ref t1, .ref t3]) ht).trans k5
    obtain ⟨ps, el, pl⟩ := hl5.ex
    have lp := Paired.length pl
    have fb : ∀ H', Kp H3 H' → TupFb x y0 H' Q := fun H' k => ⟨fun t1 ht1 t2 ht2 t3 ht3 t4 ht4 => hrr t4 _ ((((k.trans (kp_new ht1)).trans (kp_new ht2)).trans (kp_new ht3)).trans (kp_new ht4)) ⟨t1, t3, upd_same, ((show TrAt _ (.atm y0) t1 from upd_same).kp (((kp_new ht2).trans (kp_new ht3)).trans (kp_new ht4)) : TrAt _ (.atm y0) t1), (tr_all ht3 (show TrAt _ (.atm y0) t2 from upd_same)).kp (kp_new ht4)⟩⟩
    refine ⟨l, _, rfl, .inl (SqL.of el), _, _, rfl, rfl, _, rfl, ite2 (fun _ => iteT ?_) fun z => ?_⟩
    · exact ⟨_, rfl, x, _, _, rfl, rfl, hxl, hat, two_sz, fun t1 ht1 => ⟨_, rfl, x, _, _, rfl, rfl, hxl, hat, two_sz, fun t2 ht2 => ⟨two_sz, fun t3 ht3 => ⟨two_sz, fun t4 ht4 => (fb _ (kk.trans k45)).h t1 ht1 t2 ht2 t3 ht3 t4 ht4⟩⟩⟩⟩
    have hal : (AB.alls (.imp F' G')).length ≤ 4 := by
      have h1 : ¬ ((4 : Int) < ((ps.map V.ref).length : Nat)) := fun h => z (decide_eq_true h)
      rw [List.length_map, lp] at h1
      omega
    refine ⟨_, rfl, t1, F', rfl, hF'.kp k45, by omega, fun H6 k6 => ?_⟩
    refine ⟨_, rfl, t3, G', rfl, hG'.kp (k45.trans k6), by omega, fun H7 k7 => ?_⟩
    have k47 := (k45.trans k6).trans k7
    refine ⟨_, _, rfl, rfl, _, _, rfl, rfl, _, rfl, ite2 (fun _ => ?_) fun z => ?_⟩
    · exact ⟨_, rfl, x, _, _, rfl, rfl, hxl, hat, two_sz, fun t1 ht1 => ⟨_, rfl, x, _, _, rfl, rfl, hxl, hat, two_sz, fun t2 ht2 => ⟨two_sz, fun t3 ht3 => ⟨two_sz, fun t4 ht4 => (fb _ (kk.trans k47)).h t1 ht1 t2 ht2 t3 ht3 t4 ht4⟩⟩⟩⟩
    have h44 : AB.size F' + AB.size G' ≤ 44 := by
      have h1 : ¬ ((44 : Int) < (AB.size F' : Int) + (AB.size G' : Int)) := fun h => z (decide_eq_true h)
      omega
    exact ⟨_, rfl, _, rfl, two_sz, fun t ht => hok t _ ((kk.trans k47).trans (kp_new ht)) ⟨t1, t3, upd_same, (hF'.kp k47).kp (kp_new ht), (hG'.kp k47).kp (kp_new ht)⟩ h44 hal⟩
  | 3, _ =>
    refine ⟨_, rfl, rfl, _, rfl, ite2 (fun z => absurd z (by decide +kernel)) fun _ => ?_⟩
    refine ⟨_, rfl, rfl, _, rfl, ite2 (fun z => absurd z (by decide +kernel)) fun _ => ?_⟩
    refine ⟨_, rfl, rfl, _, rfl, ite2 (fun z => absurd z (by decide +kernel)) fun _ => ?_⟩
    refine ⟨_, rfl, rfl, _, rfl, ite2 (fun _ => ?_) fun z => absurd (by decide +kernel) z⟩
    refine ⟨_, rfl, two_sz, fun t1 ht1 => ⟨_, rfl, three_sz, fun t2 ht2 => ⟨two_sz, fun t3 ht3 => ⟨_, rfl, s1, fun t4 ht4 => ⟨three_sz, fun t5 ht5 => ⟨_, rfl, three_sz, fun t6 ht6 => ⟨two_sz, fun t7 ht7 => ⟨_, _, rfl, ?_⟩⟩⟩⟩⟩⟩⟩⟩
    have j1 := tr_all ht1 hF3
    have j2 := tr_imp ht2 j1 (hF3.kp (kp_new ht1))
    have j3 := tr_all ht3 j2
    have k13 := ((kp_new (o := .tup [.str "all", .ref p]) ht1).trans (kp_new (o := .tup [.str "if", .ref t1, .ref p]) ht2)).trans (kp_new (o := .tup [.str "all", .ref t2]) ht3)
    have n4 := tr_no (H := upd (upd (upd H3 t1 (.tup [.str "all", .ref p])) t2 (.tup [.str "if", .ref t1, .ref p])) t3 (.tup [.str "all", .ref t2])) (t := t4)
    have j5 := tr_imp ht5 ((hF3.kp k13).kp (kp_new ht4)) n4
    have k45 := (kp_new (o := .tup [.str "no"]) ht4).trans (kp_new (o := .tup [.str "if", .ref p, .ref t4]) ht5)
    have j6 := tr_imp ht6 j5 ((hG3.kp k13).kp k45)
    have j7 := tr_all ht7 j6
    have k67 := (kp_new (o := .tup [.str "if", .ref t5, .ref r]) ht6).trans (kp_new (o := .tup [.str "all", .ref t6]) ht7)
    have hsz : AB.size (Fm.all (.imp (.all F) F)) + AB.size (Fm.all (.imp (.imp F .no) G)) ≤ 60 := by (try simp only [AB.size]); omega
    have dF := AB.dep_size (Fm.all (.imp (.all F) F))
    have dG := AB.dep_size (Fm.all (.imp (.imp F .no) G))
    have pF := AB.dep_pos (Fm.all (.imp (.all F) F))
    have pG := AB.dep_pos (Fm.all (.imp (.imp F .no) G))
    have hdm : AB.dep (.imp (Fm.all (.imp (.all F) F)) (Fm.all (.imp (.imp F .no) G))) ≤ 61 := by
      have e : AB.dep (.imp (Fm.all (.imp (.all F) F)) (Fm.all (.imp (.imp F .no) G))) = max (AB.dep (Fm.all (.imp (.all F) F))) (AB.dep (Fm.all (.imp (.imp F .no) G))) + 1 := rfl
      omega
    have hsm : AB.size (.imp (Fm.all (.imp (.all F) F)) (Fm.all (.imp (.imp F .no) G))) ≤ 1000 := by
      have e : AB.size (.imp (Fm.all (.imp (.all F) F)) (Fm.all (.imp (.imp F .no) G))) = AB.size (Fm.all (.imp (.all F) F)) + AB.size (Fm.all (.imp (.imp F .no) G)) + 1 := rfl
      omega
    have hF' := j3.kp (k45.trans k67)
    have hG' := j7
    have kk := k13.trans (k45.trans k67)
    have hrr : ∀ t H', Kp H3 H' → PrTr H' t (.atm y0) (.all (.atm y0)) → Q (.ref t) H' := fun t H' k h => q t _ _ H' h (by simp [AB.size]) (by simp [AB.alls]) (hdk3'.kp k) (k03.trans (.of k))
    have hok : ∀ t H', Kp H3 H' → PrTr H' t (Fm.all (.imp (.all F) F)) (Fm.all (.imp (.imp F .no) G)) → AB.size (Fm.all (.imp (.all F) F)) + AB.size (Fm.all (.imp (.imp F .no) G)) ≤ 44 → (AB.alls (.imp (Fm.all (.imp (.all F) F)) (Fm.all (.imp (.imp F .no) G)))).length ≤ 4 → Q (.ref t) H' := fun t H' k h a b => q t _ _ H' h a b (hdk3'.kp k) (k03.trans (.of k))
    clear q hF3 hG3
    generalize (Fm.all (.imp (.all F) F)) = F' at *
    generalize (Fm.all (.imp (.imp F .no) G)) = G' at *
    generalize (upd (upd (upd (upd (upd (upd (upd H3 t1 (.tup [.str "all", .ref p])) t2 (.tup [.str "if", .ref t1, .ref p])) t3 (.tup [.str "all", .ref t2])) t4 (.tup [.str "no"])) t5 (.tup [.str "if", .ref p, .ref t4])) t6 (.tup [.str "if", .ref t5, .ref r])) t7 (.tup [.str "all", .ref t6])) = H4 at *
    refine ⟨_, rfl, _, rfl, three_sz, fun t ht => ⟨t, .imp F' G', rfl, tr_imp ht hF' hG', by omega, by omega, hsm, fun l H5 hl5 k5 => ?_⟩⟩
    have k45 := (kp_new (o := .tup [.str "if", .ref t3, .ref t7]) ht).trans k5
    obtain ⟨ps, el, pl⟩ := hl5.ex
    have lp := Paired.length pl
    have fb : ∀ H', Kp H3 H' → TupFb x y0 H' Q := fun H' k => ⟨fun t1 ht1 t2 ht2 t3 ht3 t4 ht4 => hrr t4 _ ((((k.trans (kp_new ht1)).trans (kp_new ht2)).trans (kp_new ht3)).trans (kp_new ht4)) ⟨t1, t3, upd_same, ((show TrAt _ (.atm y0) t1 from upd_same).kp (((kp_new ht2).trans (kp_new ht3)).trans (kp_new ht4)) : TrAt _ (.atm y0) t1), (tr_all ht3 (show TrAt _ (.atm y0) t2 from upd_same)).kp (kp_new ht4)⟩⟩
    refine ⟨l, _, rfl, .inl (SqL.of el), _, _, rfl, rfl, _, rfl, ite2 (fun _ => iteT ?_) fun z => ?_⟩
    · exact ⟨_, rfl, x, _, _, rfl, rfl, hxl, hat, two_sz, fun t1 ht1 => ⟨_, rfl, x, _, _, rfl, rfl, hxl, hat, two_sz, fun t2 ht2 => ⟨two_sz, fun t3 ht3 => ⟨two_sz, fun t4 ht4 => (fb _ (kk.trans k45)).h t1 ht1 t2 ht2 t3 ht3 t4 ht4⟩⟩⟩⟩
    have hal : (AB.alls (.imp F' G')).length ≤ 4 := by
      have h1 : ¬ ((4 : Int) < ((ps.map V.ref).length : Nat)) := fun h => z (decide_eq_true h)
      rw [List.length_map, lp] at h1
      omega
    refine ⟨_, rfl, t3, F', rfl, hF'.kp k45, by omega, fun H6 k6 => ?_⟩
    refine ⟨_, rfl, t7, G', rfl, hG'.kp (k45.trans k6), by omega, fun H7 k7 => ?_⟩
    have k47 := (k45.trans k6).trans k7
    refine ⟨_, _, rfl, rfl, _, _, rfl, rfl, _, rfl, ite2 (fun _ => ?_) fun z => ?_⟩
    · exact ⟨_, rfl, x, _, _, rfl, rfl, hxl, hat, two_sz, fun t1 ht1 => ⟨_, rfl, x, _, _, rfl, rfl, hxl, hat, two_sz, fun t2 ht2 => ⟨two_sz, fun t3 ht3 => ⟨two_sz, fun t4 ht4 => (fb _ (kk.trans k47)).h t1 ht1 t2 ht2 t3 ht3 t4 ht4⟩⟩⟩⟩
    have h44 : AB.size F' + AB.size G' ≤ 44 := by
      have h1 : ¬ ((44 : Int) < (AB.size F' : Int) + (AB.size G' : Int)) := fun h => z (decide_eq_true h)
      omega
    exact ⟨_, rfl, _, rfl, two_sz, fun t ht => hok t _ ((kk.trans k47).trans (kp_new ht)) ⟨t3, t7, upd_same, (hF'.kp k47).kp (kp_new ht), (hG'.kp k47).kp (kp_new ht)⟩ h44 hal⟩
  | 4, _ =>
    refine ⟨_, rfl, rfl, _, rfl, ite2 (fun z => absurd z (by decide +kernel)) fun _ => ?_⟩
    refine ⟨_, rfl, rfl, _, rfl, ite2 (fun z => absurd z (by decide +kernel)) fun _ => ?_⟩
    refine ⟨_, rfl, rfl, _, rfl, ite2 (fun z => absurd z (by decide +kernel)) fun _ => ?_⟩
    refine ⟨_, rfl, rfl, _, rfl, ite2 (fun z => absurd z (by decide +kernel)) fun _ => ?_⟩
    have hsz : AB.size F + AB.size G ≤ 60 := by (try simp only [AB.size]); omega
    have dF := AB.dep_size F
    have dG := AB.dep_size G
    have pF := AB.dep_pos F
    have pG := AB.dep_pos G
    have hdm : AB.dep (.imp F G) ≤ 61 := by
      have e : AB.dep (.imp F G) = max (AB.dep F) (AB.dep G) + 1 := rfl
      omega
    have hsm : AB.size (.imp F G) ≤ 1000 := by
      have e : AB.size (.imp F G) = AB.size F + AB.size G + 1 := rfl
      omega
    have hF' := hF3
    have hG' := hG3
    have kk := Same.refl H3
    have hrr : ∀ t H', Kp H3 H' → PrTr H' t (.atm y0) (.all (.atm y0)) → Q (.ref t) H' := fun t H' k h => q t _ _ H' h (by simp [AB.size]) (by simp [AB.alls]) (hdk3'.kp k) (k03.trans (.of k))
    have hok : ∀ t H', Kp H3 H' → PrTr H' t F G → AB.size F + AB.size G ≤ 44 → (AB.alls (.imp F G)).length ≤ 4 → Q (.ref t) H' := fun t H' k h a b => q t _ _ H' h a b (hdk3'.kp k) (k03.trans (.of k))
    clear q hF3 hG3
    generalize F = F' at *
    generalize G = G' at *
    have kk0 : Kp H3 H3 := Same.refl H3
    refine ⟨_, rfl, _, rfl, three_sz, fun t ht => ⟨t, .imp F' G', rfl, tr_imp ht hF' hG', by omega, by omega, hsm, fun l H5 hl5 k5 => ?_⟩⟩
    have k45 := (kp_new (o := .tup [.str "if", .ref p, .ref r]) ht).trans k5
    obtain ⟨ps, el, pl⟩ := hl5.ex
    have lp := Paired.length pl
    have fb : ∀ H', Kp H3 H' → TupFb x y0 H' Q := fun H' k => ⟨fun t1 ht1 t2 ht2 t3 ht3 t4 ht4 => hrr t4 _ ((((k.trans (kp_new ht1)).trans (kp_new ht2)).trans (kp_new ht3)).trans (kp_new ht4)) ⟨t1, t3, upd_same, ((show TrAt _ (.atm y0) t1 from upd_same).kp (((kp_new ht2).trans (kp_new ht3)).trans (kp_new ht4)) : TrAt _ (.atm y0) t1), (tr_all ht3 (show TrAt _ (.atm y0) t2 from upd_same)).kp (kp_new ht4)⟩⟩
    refine ⟨l, _, rfl, .inl (SqL.of el), _, _, rfl, rfl, _, rfl, ite2 (fun _ => iteT ?_) fun z => ?_⟩
    · exact ⟨_, rfl, x, _, _, rfl, rfl, hxl, hat, two_sz, fun t1 ht1 => ⟨_, rfl, x, _, _, rfl, rfl, hxl, hat, two_sz, fun t2 ht2 => ⟨two_sz, fun t3 ht3 => ⟨two_sz, fun t4 ht4 => (fb _ (kk.trans k45)).h t1 ht1 t2 ht2 t3 ht3 t4 ht4⟩⟩⟩⟩
    have hal : (AB.alls (.imp F' G')).length ≤ 4 := by
      have h1 : ¬ ((4 : Int) < ((ps.map V.ref).length : Nat)) := fun h => z (decide_eq_true h)
      rw [List.length_map, lp] at h1
      omega
    refine ⟨_, rfl, p, F', rfl, hF'.kp k45, by omega, fun H6 k6 => ?_⟩
    refine ⟨_, rfl, r, G', rfl, hG'.kp (k45.trans k6), by omega, fun H7 k7 => ?_⟩
    have k47 := (k45.trans k6).trans k7
    refine ⟨_, _, rfl, rfl, _, _, rfl, rfl, _, rfl, ite2 (fun _ => ?_) fun z => ?_⟩
    · exact ⟨_, rfl, x, _, _, rfl, rfl, hxl, hat, two_sz, fun t1 ht1 => ⟨_, rfl, x, _, _, rfl, rfl, hxl, hat, two_sz, fun t2 ht2 => ⟨two_sz, fun t3 ht3 => ⟨two_sz, fun t4 ht4 => (fb _ (kk.trans k47)).h t1 ht1 t2 ht2 t3 ht3 t4 ht4⟩⟩⟩⟩
    have h44 : AB.size F' + AB.size G' ≤ 44 := by
      have h1 : ¬ ((44 : Int) < (AB.size F' : Int) + (AB.size G' : Int)) := fun h => z (decide_eq_true h)
      omega
    exact ⟨_, rfl, _, rfl, two_sz, fun t ht => hok t _ ((kk.trans k47).trans (kp_new ht)) ⟨p, r, upd_same, (hF'.kp k47).kp (kp_new ht), (hG'.kp k47).kp (kp_new ht)⟩ h44 hal⟩
  | n + 5, h => exact absurd h (by omega)
end
end AT
end
section
set_option Elab.async false
set_option linter.all false
set_option maxRecDepth 100000
/-! _law_over, _law_denied, _law_joined, _law_ahead, _law_first. -/
namespace AT
open PySem PySem.Spec PyProof.Rows L2
open AB (Fm At Drv)
/-- a pair with its derivation -/
def ItAt (K : PySem.W.Frag) (H : Hp) (t : Addr) (F G : Fm) (d : Drv) : Prop := ∃ p r e, H t = some (.tup [.ref p, .ref r, .ref e]) ∧ TrAt H F p ∧ TrAt H G r ∧ DvAt K H d e
theorem ItAt.kf {K : PySem.W.Frag} {H H' : Hp} (k : KF H H') {t : Addr} {F G : Fm} {d : Drv} (h : ItAt K H t F G d) : ItAt K H' t F G d := let ⟨p, r, e, a, b, c, f⟩ := h; ⟨p, r, e, k.t _ _ a, b.kf k, c.kf k, f.kf k⟩
theorem ItAt.kp {K : PySem.W.Frag} {H H' : Hp} (k : Kp H H') {t : Addr} {F G : Fm} {d : Drv} (h : ItAt K H t F G d) : ItAt K H' t F G d := h.kf (.of k)
/-- small enough to be made -/
structure Mk2 (F : Fm) : Prop where
  d : AB.dep F ≤ 64
  z : AB.size F ≤ 1000
  a : (AB.alls F).length ≤ 28
theorem Mk2.of {F : Fm} (h : AB.size F ≤ 60) (a : (AB.alls F).length ≤ 12) : Mk2 F := ⟨by have := AB.dep_size F; omega, by omega, by omega⟩
section
variable {P : Program} {w : World} {K : PySem.W.Frag} {mg : Str → Option Value} {base : Heap} (T : Tx w K mg)
theorem sc_lov : FnScope ["_law_it"] ["_law_it"] (defScope s__law_over) := ⟨rfl, rfl, rfl, by decide +kernel, rfl, by decide +kernel, by decide +kernel⟩
def spIt (K : PySem.W.Frag) (H : Hp) (F G : Fm) (d : Drv) (Q : VK) : Prop := ∀ t H', ItAt K H' t F G d → Kp H H' → Q (.ref t) H'
def spLOver (K : PySem.W.Frag) : Sp := fun vs H Q _ => ∃ (t : Addr) (F G : Fm) (d : Drv), vs = [.ref t] ∧ ItAt K H t F G d ∧ Mk2 (.all G) ∧ spIt K H (.all F) (.all G) (AB.dOver G d) Q
abbrev Nden : List Str := ["_law_it", "_law_front", "_law_back", "_law_told", "_law_inner"]
theorem sc_lden : FnScope Nden ["_law_it"] (defScope s__law_denied) := ⟨rfl, rfl, rfl, by decide +kernel, rfl, by decide +kernel, by decide +kernel⟩
def spLDen (K : PySem.W.Frag) : Sp := fun vs H Q _ => ∃ (t : Addr) (F G : Fm) (d : Drv), vs = [.ref t] ∧ ItAt K H t F G d ∧ Mk2 (AB.fNot G) ∧ Mk2 (AB.fNot F) ∧ spIt K H (AB.fNot G) (AB.fNot F) (AB.dDenied F G d) Q
include T
theorem bd_lov : L2.Binds K (fdOf K (f__law_over K)) ["_law_it"] [] := T.F__law_over.binds fun _ _ _ _ _ _ us hl => match us, hl with | [_], _ => rfl
theorem bd_lden : L2.Binds K (fdOf K (f__law_denied K)) ["_law_it"] [] := T.F__law_denied.binds fun _ _ _ _ _ _ us hl => match us, hl with | [_], _ => rfl
theorem gMade : FH P w K mg base 69 (f__law_made K) ["_law_tree_here"] (spLMade K 64) := lmade_all T 64
theorem ok_lov : FH P w K mg base 70 (f__law_over K) ["_law_it"] (spLOver K) := by
  have gM := gMade (P := P) (base := base) T
  refine T.F__law_over.ok sc_lov (fun vs H Q E h => by obtain ⟨_, _, _, _, rfl, _⟩ := h; rfl) (fun cdv A outer s H vs Q E hr h => ⟨_, PSs.nox (
    pss_one (ps_ret (pe_tup (pa_cons (pe_tup (pa_cons pe_str (pa_cons (pe_ix ix_tup (pv 0) pe_int (fun _ _ => rfl)) pa_nil))) (pa_cons (pe_tup (pa_cons pe_str (pa_cons (pe_ix ix_tup (pv 0) pe_int (fun _ _ => rfl)) pa_nil)))
      (pa_cons (pe_tup (pa_cons pe_str (pa_cons (pe_call gM hr rfl T.g__law_made T.F__law_made.kp (bd_lmade T) .nil pass0 (pa_cons (pe_tup (pa_cons pe_str (pa_cons (pe_ix ix_tup (pv 0) pe_int (fun _ _ => rfl)) pa_nil))) pa_nil)) (pa_cons (pe_ix ix_tup (pv 0) pe_int (fun _ _ => rfl)) pa_nil)))) pa_nil)))))), ?_⟩)
  obtain ⟨t, F, G, d, rfl, ⟨p, r, e, et, hF, hG, hd⟩, mk, q⟩ := h
  refine ⟨_, rfl, t, _, _, _, rfl, rfl, SqT.of et, atI_nat (j := 0) rfl, two_sz, fun t1 ht1 => ?_⟩
  have k1 := kp_new (o := .tup [.str "all", .ref p]) ht1
  have j1 := tr_all ht1 hF
  generalize upd H t1 (.tup [.str "all", .ref p]) = H1 at k1 j1 ⊢
  refine ⟨_, rfl, t, _, _, _, rfl, rfl, SqT.of (k1 _ _ et), atI_nat (j := 1) rfl, two_sz, fun t2 ht2 => ?_⟩
  have k2 := kp_new (o := .tup [.str "all", .ref r]) ht2
  have j2 := tr_all ht2 (hG.kp k1)
  generalize upd H1 t2 (.tup [.str "all", .ref r]) = H2 at k2 j2 ⊢
  refine ⟨_, rfl, t, _, _, _, rfl, rfl, SqT.of (k2 _ _ (k1 _ _ et)), atI_nat (j := 1) rfl, two_sz, fun t3 ht3 => ?_⟩
  have k3 := kp_new (o := .tup [.str "all", .ref r]) ht3
  have j3 := tr_all ht3 ((hG.kp k1).kp k2)
  generalize upd H2 t3 (.tup [.str "all", .ref r]) = H3 at k3 j3 ⊢
  refine ⟨t3, .all G, rfl, j3, mk.d, mk.z, mk.a, fun a H4 ha k4 => ?_⟩
  have k14 := ((k2.trans k3).trans k4)
  refine ⟨_, rfl, t, _, _, _, rfl, rfl, SqT.of (k14 _ _ (k1 _ _ et)), atI_nat (j := 2) rfl, three_sz, fun t5 ht5 => ⟨three_sz, fun t6 ht6 => ?_⟩⟩
  have k5 := kp_new (o := .tup [.str "beneath", .ref a, .ref e]) ht5
  have k6 := kp_new (o := .tup [.ref t1, .ref t2, .ref t5]) ht6
  refine q t6 _ ⟨t1, t2, t5, upd_same, ((j1.kp k14).kp k5).kp k6, (((j2.kp (k3.trans k4)).kp k5).kp k6), a, e, k6 _ _ upd_same, (ha.kf (.of k5)).kf (.of k6), (hd.kf (.of (k1.trans (k14.trans k5)))).kf (.of k6)⟩ ((k1.trans k14).trans (k5.trans k6))
theorem ok_lden : FH P w K mg base 70 (f__law_denied K) ["_law_it"] (spLDen K) := by
  have gM := gMade (P := P) (base := base) T
  have gN := (ok_lnot (P := P) (base := base) T).mono (show 1 ≤ 69 by decide)
  refine T.F__law_denied.ok sc_lden (fun vs H Q E h => by obtain ⟨_, _, _, _, rfl, _⟩ := h; rfl) (fun cdv A outer s H vs Q E hr h => ⟨_, PSs.nox (
    pss_cons (ps_asg (pv 0) (pg_tup rfl (pgs_cons (pg_name (i := 1) sc_lden.nd rfl (Or.inl rfl)) (pgs_cons (pg_name (i := 2) sc_lden.nd rfl (Or.inl rfl)) (pgs_cons (pg_name (i := 3) sc_lden.nd rfl (Or.inl rfl)) pgs_nil)))))
    (pss_cons (ps_set (i := 4) sc_lden.nd rfl (Or.inl rfl) (pe_tup (pa_cons pe_str (pa_cons (pe_call gM hr rfl T.g__law_made T.F__law_made.kp (bd_lmade T) .nil pass0 (pa_cons (pe_call gN hr rfl T.g__law_not T.F__law_not.kp (bd_lnot T) .nil pass0 (pa_cons (pv 2) pa_nil)) pa_nil)) (pa_cons (pv 3) (pa_cons (pe_tup (pa_cons pe_str pa_nil)) pa_nil))))))
    (pss_one (ps_ret (pe_tup (pa_cons (pe_call gN hr rfl T.g__law_not T.F__law_not.kp (bd_lnot T) .nil pass0 (pa_cons (pv 2) pa_nil)) (pa_cons (pe_call gN hr rfl T.g__law_not T.F__law_not.kp (bd_lnot T) .nil pass0 (pa_cons (pv 1) pa_nil))
      (pa_cons (pe_tup (pa_cons pe_str (pa_cons (pe_call gM hr rfl T.g__law_made T.F__law_made.kp (bd_lmade T) .nil pass0 (pa_cons (pe_call gN hr rfl T.g__law_not T.F__law_not.kp (bd_lnot T) .nil pass0 (pa_cons (pv 1) pa_nil)) pa_nil)) (pa_cons (pv 4) pa_nil)))) pa_nil)))))))), ?_⟩)
  obtain ⟨t, F, G, d, rfl, ⟨p, r, e, et, hF, hG, hd⟩, mkG, mkF, q⟩ := h
  refine ⟨_, rfl, t, _, rfl, SqT.of et, rfl, _, _, rfl, _, _, rfl, _, _, rfl, rfl, ?_⟩
  refine ⟨_, rfl, r, G, rfl, hG, fun n1 H1 hn1 k1 => ⟨n1, AB.fNot G, rfl, hn1, mkG.d, mkG.z, mkG.a, fun a H2 ha k2 => ?_⟩⟩
  refine ⟨_, rfl, Nat.le_trans (Nat.le_succ 1) two_sz, fun t3 ht3 => ⟨by show 4 ≤ sizeLine; decide +kernel, fun t4 ht4 => ?_⟩⟩
  have k3 := kp_new (o := .tup [.str "no"]) ht3
  have e3 : upd H2 t3 (.tup [.str "no"]) t3 = some (.tup [.str "no"]) := upd_same
  generalize upd H2 t3 (.tup [.str "no"]) = H3 at k3 e3 ht4 ⊢
  have k4 := kp_new (o := .tup [.str "left", .ref a, .ref e, .ref t3]) ht4
  have e4 : upd H3 t4 (.tup [.str "left", .ref a, .ref e, .ref t3]) t4 = some (.tup [.str "left", .ref a, .ref e, .ref t3]) := upd_same
  generalize upd H3 t4 (.tup [.str "left", .ref a, .ref e, .ref t3]) = H4 at k4 e4 ⊢
  have k02 := k1.trans k2
  have k04 := (k02.trans k3).trans k4
  have dv4 : DvAt K H4 (.left (AB.fNot G) d .no) t4 := ⟨a, e, t3, e4, ha.kf (.of (k3.trans k4)), hd.kf (.of k04), k4 _ _ e3⟩
  refine ⟨_, rfl, r, G, rfl, hG.kp k04, fun n5 H5 hn5 k5 => ⟨_, rfl, p, F, rfl, hF.kp (k04.trans k5), fun n6 H6 hn6 k6 => ?_⟩⟩
  refine ⟨_, rfl, p, F, rfl, hF.kp ((k04.trans k5).trans k6), fun n7 H7 hn7 k7 => ⟨n7, AB.fNot F, rfl, hn7, mkF.d, mkF.z, mkF.a, fun b H8 hb k8 => ?_⟩⟩
  refine ⟨_, rfl, three_sz, fun t9 ht9 => ⟨three_sz, fun t10 ht10 => ?_⟩⟩
  have k9 := kp_new (o := .tup [.str "right", .ref b, .ref t4]) ht9
  have k10 := kp_new (o := .tup [.ref n5, .ref n6, .ref t9]) ht10
  have k910 := k9.trans k10
  have k68 := (k7.trans k8)
  have k48 := (k5.trans k6).trans k68
  refine q t10 _ ⟨n5, n6, t9, upd_same, (hn5.kp (k6.trans k68)).kp k910, (hn6.kp k68).kp k910, b, t4, k10 _ _ upd_same, hb.kf (.of k910), (dv4.kf (.of k48)).kf (.of k910)⟩ ((k04.trans k48).trans k910)
end
end AT
end
section
set_option Elab.async false
set_option linter.all false
set_option maxRecDepth 100000
/-! _law_joined, _law_ahead. -/
namespace AT
open PySem PySem.Spec PyProof.Rows L2
open AB (Fm At Drv)
theorem Mk2.sub {F G : Fm} (h : Mk2 F) (s : G ∈ AB.subs F) : Mk2 G := ⟨Nat.le_trans (AB.dep_subs F s) h.d, Nat.le_trans (AB.subs_size F s) h.z, Nat.le_trans (AB.alls_le s) h.a⟩
section
variable {P : Program} {w : World} {K : PySem.W.Frag} {mg : Str → Option Value} {base : Heap} (T : Tx w K mg)
abbrev Njo : List Str := ["_law_it", "_law_mate", "_law_front", "_law_back", "_law_told", "_law_two", "_law_far", "_law_known", "_law_last", "_law_inner"]
theorem sc_ljo : FnScope Njo ["_law_it", "_law_mate"] (defScope s__law_joined) := ⟨rfl, rfl, rfl, by decide +kernel, rfl, by decide +kernel, by decide +kernel⟩
def spLJo (K : PySem.W.Frag) : Sp := fun vs H Q _ => ∃ (t u : Addr) (F G F' G' : Fm) (d d' : Drv), vs = [.ref t, .ref u] ∧ ItAt K H t F G d ∧ ItAt K H u F' G' d' ∧ Mk2 (AB.fBoth F F') ∧ Mk2 (AB.fBoth G G') ∧ spIt K H (AB.fBoth F F') (AB.fBoth G G') (AB.dJoined F G d F' G' d') Q
abbrev Nah : List Str := ["_law_deck_here", "_law_it", "_law_front", "_law_back", "_law_told", "_law_c", "_law_near", "_law_far", "_law_inner"]
theorem sc_lah : FnScope Nah ["_law_deck_here", "_law_it"] (defScope s__law_ahead) := ⟨rfl, rfl, rfl, by decide +kernel, rfl, by decide +kernel, by decide +kernel⟩
def spLAh (K : PySem.W.Frag) : Sp := fun vs H Q _ => ∃ (D c t : Addr) (N : Nat) (F G : Fm) (d : Drv), vs = [.ref D, .ref t] ∧ Dk H D c N ∧ N ≤ 900000 ∧ ItAt K H t F G d ∧ AB.size F ≤ 60 ∧ AB.size G ≤ 60 ∧ (AB.alls F).length ≤ 12 ∧ (AB.alls G).length ≤ 12 ∧
  ∀ (C : Fm) t' H', AB.size C ≤ 3 → ItAt K H' t' (.imp C F) (.imp C G) (AB.dAhead C F G d) → Dk H' D c (N + 40) → KX D c H H' → Q (.ref t') H'
include T
theorem bd_ljo : L2.Binds K (fdOf K (f__law_joined K)) ["_law_it", "_law_mate"] [] := T.F__law_joined.binds fun _ _ _ _ _ _ us hl => match us, hl with | [_, _], _ => rfl
theorem bd_lah : L2.Binds K (fdOf K (f__law_ahead K)) ["_law_deck_here", "_law_it"] [] := T.F__law_ahead.binds fun _ _ _ _ _ _ us hl => match us, hl with | [_, _], _ => rfl
set_option maxHeartbeats 2000000 in
theorem ok_ljo : FH P w K mg base 70 (f__law_joined K) ["_law_it", "_law_mate"] (spLJo K) := by
  have gM := gMade (P := P) (base := base) T
  have gN := (ok_lnot (P := P) (base := base) T).mono (show 1 ≤ 69 by decide)
  have gB := (ok_lboth (P := P) (base := base) T).mono (show 2 ≤ 69 by decide)
  refine T.F__law_joined.ok sc_ljo (fun vs H Q E h => by obtain ⟨_, _, _, _, _, _, _, _, rfl, _⟩ := h; rfl) (fun cdv A outer s H vs Q E hr h => ⟨_, PSs.nox (
    pss_cons (ps_asg (pv 0) (pg_tup rfl (pgs_cons (pg_name (i := 2) sc_ljo.nd rfl (Or.inl rfl)) (pgs_cons (pg_name (i := 3) sc_ljo.nd rfl (Or.inl rfl)) (pgs_cons (pg_name (i := 4) sc_ljo.nd rfl (Or.inl rfl)) pgs_nil)))))
    (pss_cons (ps_asg (pv 1) (pg_tup rfl (pgs_cons (pg_name (i := 5) sc_ljo.nd rfl (Or.inl rfl)) (pgs_cons (pg_name (i := 6) sc_ljo.nd rfl (Or.inl rfl)) (pgs_cons (pg_name (i := 7) sc_ljo.nd rfl (Or.inl rfl)) pgs_nil)))))
    (pss_cons (ps_set (i := 8) sc_ljo.nd rfl (Or.inl rfl) (pe_tup (pa_cons pe_str (pa_cons (pe_call gM hr rfl T.g__law_made T.F__law_made.kp (bd_lmade T) .nil pass0 (pa_cons (pe_call gN hr rfl T.g__law_not T.F__law_not.kp (bd_lnot T) .nil pass0 (pa_cons (pv 6) pa_nil)) pa_nil)) (pa_cons (pv 7) (pa_cons (pe_tup (pa_cons pe_str pa_nil)) pa_nil))))))
    (pss_cons (ps_set (i := 9) sc_ljo.nd rfl (Or.inl rfl) (pe_tup (pa_cons pe_str (pa_cons (pe_call gM hr rfl T.g__law_made T.F__law_made.kp (bd_lmade T) .nil pass0 (pa_cons (pe_tup (pa_cons pe_str (pa_cons (pv 3) (pa_cons (pe_call gN hr rfl T.g__law_not T.F__law_not.kp (bd_lnot T) .nil pass0 (pa_cons (pv 6) pa_nil)) pa_nil)))) pa_nil)) (pa_cons (pv 4) (pa_cons (pv 8) pa_nil))))))
    (pss_cons (ps_set (i := 9) sc_ljo.nd rfl (Or.inl rfl) (pe_tup (pa_cons pe_str (pa_cons (pe_call gM hr rfl T.g__law_made T.F__law_made.kp (bd_lmade T) .nil pass0 (pa_cons (pe_tup (pa_cons pe_str (pa_cons (pv 2) (pa_cons (pe_call gN hr rfl T.g__law_not T.F__law_not.kp (bd_lnot T) .nil pass0 (pa_cons (pv 5) pa_nil)) pa_nil)))) pa_nil))
        (pa_cons (pe_tup (pa_cons pe_str (pa_cons (pe_call gM hr rfl T.g__law_made T.F__law_made.kp (bd_lmade T) .nil pass0 (pa_cons (pe_call gN hr rfl T.g__law_not T.F__law_not.kp (bd_lnot T) .nil pass0 (pa_cons (pv 5) pa_nil)) pa_nil)) (pa_cons (pv 9) pa_nil)))) pa_nil)))))
    (pss_cons (ps_set (i := 9) sc_ljo.nd rfl (Or.inl rfl) (pe_tup (pa_cons pe_str (pa_cons (pe_call gM hr rfl T.g__law_made T.F__law_made.kp (bd_lmade T) .nil pass0 (pa_cons (pe_call gB hr rfl T.g__law_both T.F__law_both.kp (bd_lboth T) .nil pass0 (pa_cons (pv 2) (pa_cons (pv 5) pa_nil))) pa_nil)) (pa_cons (pv 9) (pa_cons (pe_tup (pa_cons pe_str pa_nil)) pa_nil))))))
    (pss_one (ps_ret (pe_tup (pa_cons (pe_call gB hr rfl T.g__law_both T.F__law_both.kp (bd_lboth T) .nil pass0 (pa_cons (pv 2) (pa_cons (pv 5) pa_nil))) (pa_cons (pe_call gB hr rfl T.g__law_both T.F__law_both.kp (bd_lboth T) .nil pass0 (pa_cons (pv 3) (pa_cons (pv 6) pa_nil)))
      (pa_cons (pe_tup (pa_cons pe_str (pa_cons (pe_call gM hr rfl T.g__law_made T.F__law_made.kp (bd_lmade T) .nil pass0 (pa_cons (pe_call gB hr rfl T.g__law_both T.F__law_both.kp (bd_lboth T) .nil pass0 (pa_cons (pv 3) (pa_cons (pv 6) pa_nil))) pa_nil)) (pa_cons (pv 9) pa_nil)))) pa_nil)))))))))))), ?_⟩)
  obtain ⟨t, u, F, G, F', G', d, d', rfl, ⟨p, r, e, et, hF, hG, hd⟩, ⟨p', r', e', eu, hF', hG', hd'⟩, mF, mG, q⟩ := h
  have s1 : 1 ≤ sizeLine := Nat.le_trans (Nat.le_succ 1) two_sz
  have s4 : 4 ≤ sizeLine := by decide +kernel
  have m1 : Mk2 (AB.fNot G') := mG.sub (by simp [AB.subs])
  have m2 : Mk2 (.imp G (AB.fNot G')) := mG.sub (by simp [AB.subs])
  have m3 : Mk2 (.imp F (AB.fNot F')) := mF.sub (by simp [AB.subs])
  have m4 : Mk2 (AB.fNot F') := mF.sub (by simp [AB.subs])
  refine ⟨_, rfl, t, _, rfl, SqT.of et, rfl, _, _, rfl, _, _, rfl, _, _, rfl, rfl, ?_⟩
  refine ⟨_, rfl, u, _, rfl, SqT.of eu, rfl, _, _, rfl, _, _, rfl, _, _, rfl, rfl, ?_⟩
  -- last
  refine ⟨_, rfl, r', G', rfl, hG', fun n1 H1 hn1 k1 => ⟨n1, AB.fNot G', rfl, hn1, m1.d, m1.z, m1.a, fun a1 H2 ha1 k2 => ?_⟩⟩
  refine ⟨_, rfl, s1, fun t3 ht3 => ⟨s4, fun t4 ht4 => ?_⟩⟩
  have k3 := kp_new (o := .tup [.str "no"]) ht3
  have e3 : upd H2 t3 (.tup [.str "no"]) t3 = some (.tup [.str "no"]) := upd_same
  generalize upd H2 t3 (.tup [.str "no"]) = H3 at k3 e3 ht4 ⊢
  have k4 := kp_new (o := .tup [.str "left", .ref a1, .ref e', .ref t3]) ht4
  have e4 : upd H3 t4 (.tup [.str "left", .ref a1, .ref e', .ref t3]) t4 = some (.tup [.str "left", .ref a1, .ref e', .ref t3]) := upd_same
  generalize upd H3 t4 (.tup [.str "left", .ref a1, .ref e', .ref t3]) = H4 at k4 e4 ⊢
  have k04 := ((k1.trans k2).trans k3).trans k4
  have dv4 : DvAt K H4 (.left (AB.fNot G') d' .no) t4 := ⟨a1, e', t3, e4, ha1.kf (.of (k3.trans k4)), hd'.kf (.of k04), k4 _ _ e3⟩
  -- inner 1
  refine ⟨_, rfl, _, rfl, r', G', rfl, hG'.kp k04, fun n5 H5 hn5 k5 => ⟨three_sz, fun t6 ht6 => ?_⟩⟩
  have k05 := k04.trans k5
  refine ⟨t6, .imp G (AB.fNot G'), rfl, tr_imp ht6 (hG.kp k05) hn5, m2.d, m2.z, m2.a, fun a2 H6 ha2 k6 => ?_⟩
  have k06 := k05.trans ((kp_new ht6).trans k6)
  have k46 := k5.trans ((kp_new ht6).trans k6)
  refine ⟨_, rfl, _, rfl, s4, fun t7 ht7 => ?_⟩
  have k7 := kp_new (o := .tup [.str "left", .ref a2, .ref e, .ref t4]) ht7
  have e7 : upd H6 t7 (.tup [.str "left", .ref a2, .ref e, .ref t4]) t7 = some (.tup [.str "left", .ref a2, .ref e, .ref t4]) := upd_same
  generalize upd H6 t7 (.tup [.str "left", .ref a2, .ref e, .ref t4]) = H7 at k7 e7 ⊢
  have k07 := k06.trans k7
  have dv7 : DvAt K H7 (.left (.imp G (AB.fNot G')) d (.left (AB.fNot G') d' .no)) t7 := ⟨a2, e, t4, e7, ha2.kf (.of k7), hd.kf (.of k07), dv4.kf (.of (k46.trans k7))⟩
  clear dv4 ha2 ha1 hn1 hn5
  -- inner 2
  refine ⟨_, rfl, _, rfl, p', F', rfl, hF'.kp k07, fun n8 H8 hn8 k8 => ⟨three_sz, fun t9 ht9 => ?_⟩⟩
  have k08 := k07.trans k8
  refine ⟨t9, .imp F (AB.fNot F'), rfl, tr_imp ht9 (hF.kp k08) hn8, m3.d, m3.z, m3.a, fun a3 H9 ha3 k9 => ?_⟩
  have k79 := k8.trans ((kp_new ht9).trans k9)
  have k09 := k07.trans k79
  refine ⟨_, rfl, p', F', rfl, hF'.kp k09, fun n10 H10 hn10 k10 => ⟨n10, AB.fNot F', rfl, hn10, m4.d, m4.z, m4.a, fun a4 H11 ha4 k11 => ?_⟩⟩
  have k911 := k10.trans k11
  refine ⟨_, rfl, three_sz, fun t12 ht12 => ⟨three_sz, fun t13 ht13 => ?_⟩⟩
  have k12 := kp_new (o := .tup [.str "right", .ref a4, .ref t7]) ht12
  have e12 : upd H11 t12 (.tup [.str "right", .ref a4, .ref t7]) t12 = some (.tup [.str "right", .ref a4, .ref t7]) := upd_same
  generalize upd H11 t12 (.tup [.str "right", .ref a4, .ref t7]) = H12 at k12 e12 ht13 ⊢
  have k13 := kp_new (o := .tup [.str "right", .ref a3, .ref t12]) ht13
  have e13 : upd H12 t13 (.tup [.str "right", .ref a3, .ref t12]) t13 = some (.tup [.str "right", .ref a3, .ref t12]) := upd_same
  generalize upd H12 t13 (.tup [.str "right", .ref a3, .ref t12]) = H13 at k13 e13 ⊢
  have k1213 := k12.trans k13
  have dv13 : DvAt K H13 (.right (.imp F (AB.fNot F')) (.right (AB.fNot F') (.left (.imp G (AB.fNot G')) d (.left (AB.fNot G') d' .no)))) t13 :=
    ⟨a3, t12, e13, ha3.kf (.of (k911.trans k1213)), a4, t7, k13 _ _ e12, ha4.kf (.of k1213), dv7.kf (.of ((k79.trans k911).trans k1213))⟩
  have k013 := (k09.trans k911).trans k1213
  clear dv7 ha3 ha4 hn8 hn10
  -- inner 3
  refine ⟨_, rfl, _, rfl, p, p', F, F', rfl, hF.kp k013, hF'.kp k013, fun n14 H14 hn14 k14 => ⟨n14, AB.fBoth F F', rfl, hn14, mF.d, mF.z, mF.a, fun a5 H15 ha5 k15 => ?_⟩⟩
  refine ⟨_, rfl, s1, fun t16 ht16 => ⟨s4, fun t17 ht17 => ?_⟩⟩
  have k16 := kp_new (o := .tup [.str "no"]) ht16
  have e16 : upd H15 t16 (.tup [.str "no"]) t16 = some (.tup [.str "no"]) := upd_same
  generalize upd H15 t16 (.tup [.str "no"]) = H16 at k16 e16 ht17 ⊢
  have k17 := kp_new (o := .tup [.str "left", .ref a5, .ref t13, .ref t16]) ht17
  have e17 : upd H16 t17 (.tup [.str "left", .ref a5, .ref t13, .ref t16]) t17 = some (.tup [.str "left", .ref a5, .ref t13, .ref t16]) := upd_same
  generalize upd H16 t17 (.tup [.str "left", .ref a5, .ref t13, .ref t16]) = H17 at k17 e17 ⊢
  have k1317 := ((k14.trans k15).trans k16).trans k17
  have dv17 : DvAt K H17 (.left (AB.fBoth F F') (.right (.imp F (AB.fNot F')) (.right (AB.fNot F') (.left (.imp G (AB.fNot G')) d (.left (AB.fNot G') d' .no)))) .no) t17 :=
    ⟨a5, t13, t16, e17, ha5.kf (.of (k16.trans k17)), dv13.kf (.of k1317), k17 _ _ e16⟩
  have k017 := k013.trans k1317
  -- the end
  refine ⟨_, rfl, _, rfl, p, p', F, F', rfl, hF.kp k017, hF'.kp k017, fun n18 H18 hn18 k18 => ?_⟩
  have k018 := k017.trans k18
  refine ⟨_, rfl, _, rfl, r, r', G, G', rfl, hG.kp k018, hG'.kp k018, fun n19 H19 hn19 k19 => ?_⟩
  have k019 := k018.trans k19
  refine ⟨_, rfl, _, rfl, r, r', G, G', rfl, hG.kp k019, hG'.kp k019, fun n20 H20 hn20 k20 => ⟨n20, AB.fBoth G G', rfl, hn20, mG.d, mG.z, mG.a, fun a6 H21 ha6 k21 => ?_⟩⟩
  have k1921 := k20.trans k21
  refine ⟨_, rfl, three_sz, fun t22 ht22 => ⟨three_sz, fun t23 ht23 => ?_⟩⟩
  have k22 := kp_new (o := .tup [.str "right", .ref a6, .ref t17]) ht22
  have k23 := kp_new (o := .tup [.ref n18, .ref n19, .ref t22]) ht23
  have k223 := k22.trans k23
  refine q t23 _ ⟨n18, n19, t22, upd_same, hn18.kp ((k19.trans k1921).trans k223), hn19.kp (k1921.trans k223), a6, t17, k23 _ _ upd_same, ha6.kf (.of k223), dv17.kf (.of (((k18.trans k19).trans k1921).trans k223))⟩ ((k019.trans k1921).trans k223)
end
end AT
end
section
set_option Elab.async false
set_option linter.all false
set_option maxRecDepth 100000
/-! _law_ahead, _law_first. -/
namespace AT
open PySem PySem.Spec PyProof.Rows L2
open AB (Fm At Drv)
theorem txs_ab : TxS "ab" [.a, .b] := by show (Str.ofString "ab").cps.toList = [97, 98]; decide +kernel
theorem txs_a : TxS "a" [.a] := by show (Str.ofString "a").cps.toList = [97]; decide +kernel
theorem txs_aP : TxS "aP" [.a, .P] := by show (Str.ofString "aP").cps.toList = [97, 80]; decide +kernel
theorem letS_a : letS .a = ("a" : Str) := by decide +kernel
theorem letS_b : letS .b = ("b" : Str) := by decide +kernel
theorem letS_c : letS .c = ("c" : Str) := by decide +kernel
/-- what is known of a pair with its derivation -/
structure ItOk (D B : Nat) (F G : Fm) (d : Drv) : Prop where
  vp : AB.VP F G
  z : AB.size F + AB.size G ≤ 60
  a : (AB.alls (.imp F G)).length ≤ 6
  dp : d.depth ≤ D
  bn : d.bn ≤ B
  din : AB.DIn F G d
section
variable {P : Program} {w : World} {K : PySem.W.Frag} {mg : Str → Option Value} {base : Heap} (T : Tx w K mg)
include T
theorem ok_lah : FH P w K mg base 70 (f__law_ahead K) ["_law_deck_here", "_law_it"] (spLAh K) := by
  have gM := gMade (P := P) (base := base) T
  have gF := (lf_all (P := P) (base := base) T 2).mono (show 2 + 2 ≤ 69 by decide)
  have gD := (ok_ldr (P := P) (base := base) T).mono (show 1 ≤ 69 by decide)
  refine T.F__law_ahead.ok sc_lah (fun vs H Q E h => by obtain ⟨_, _, _, _, _, _, _, rfl, _⟩ := h; rfl) (fun cdv A outer s H vs Q E hr h => ⟨_, PSs.nox (
    pss_cons (ps_asg (pv 1) (pg_tup rfl (pgs_cons (pg_name (i := 2) sc_lah.nd rfl (Or.inl rfl)) (pgs_cons (pg_name (i := 3) sc_lah.nd rfl (Or.inl rfl)) (pgs_cons (pg_name (i := 4) sc_lah.nd rfl (Or.inl rfl)) pgs_nil)))))
    (pss_cons (ps_set (i := 5) sc_lah.nd rfl (Or.inl rfl) (pe_call gF hr rfl T.g__law_form T.F__law_form.kp (bd_lf T) .nil pass0 (pa_cons (pv 0) (pa_cons pe_str (pa_cons (pe_op op_add pe_int (pe_call gD hr rfl T.g__law_draw T.F__law_draw.kp (bd_ldr T) .nil pass0 (pa_cons (pv 0) (pa_cons pe_int pa_nil)))) (pa_cons pe_int pa_nil))))))
    (pss_cons (ps_par (i := 6) (j := 7) rfl sc_lah.nd rfl rfl (by decide) rfl rfl (pa_cons (pe_tup (pa_cons pe_str (pa_cons (pv 5) (pa_cons (pv 2) pa_nil)))) (pa_cons (pe_tup (pa_cons pe_str (pa_cons (pv 5) (pa_cons (pv 3) pa_nil)))) pa_nil)) rfl)
    (pss_cons (ps_set (i := 8) sc_lah.nd rfl (Or.inl rfl) (pe_tup (pa_cons pe_str (pa_cons (pe_call gM hr rfl T.g__law_made T.F__law_made.kp (bd_lmade T) .nil pass0 (pa_cons (pv 6) pa_nil))
      (pa_cons (pe_tup (pa_cons pe_str (pa_cons (pe_call gM hr rfl T.g__law_made T.F__law_made.kp (bd_lmade T) .nil pass0 (pa_cons (pv 5) pa_nil)) pa_nil))) (pa_cons (pv 4) pa_nil))))))
    (pss_one (ps_ret (pe_tup (pa_cons (pv 6) (pa_cons (pv 7) (pa_cons (pe_tup (pa_cons pe_str (pa_cons (pe_call gM hr rfl T.g__law_made T.F__law_made.kp (bd_lmade T) .nil pass0 (pa_cons (pv 7) pa_nil)) (pa_cons (pv 8) pa_nil)))) pa_nil)))))))))), ?_⟩)
  obtain ⟨D, c, t, N, F, G, d, rfl, hdk, hN, ⟨p, r, e, et, hF, hG, hd⟩, zF, zG, aF, aG, q⟩ := h
  refine ⟨_, rfl, t, _, rfl, SqT.of et, rfl, _, _, rfl, _, _, rfl, _, _, rfl, rfl, ?_⟩
  refine ⟨_, rfl, _, rfl, D, c, N, 2, rfl, hdk, by decide, by decide, by omega, fun n H1 hn hdk1 k1 => ⟨_, _, rfl, rfl, ?_⟩⟩
  refine ⟨D, c, N + 1, "ab", [.a, .b], _, _, n + 1, rfl, by omega, txs_ab, by decide, by decide, by omega, by omega, by omega, hdk1, by omega, fun pc C H2 hC hC2 _ hdk2 k2 => ?_⟩
  have hCs : AB.size C ≤ 3 := by omega
  have kf1 := k1.kf hdk
  have kf2 := k2.kf hdk1
  have hF2 := (hF.kf kf1).kf kf2
  have hG2 := (hG.kf kf1).kf kf2
  have hd2 := (hd.kf kf1).kf kf2
  have k02 := k1.trans k2
  have hdk2' : Dk H2 D c (N + 40) := hdk2.mono (by omega)
  have mk : ∀ F, AB.size F ≤ 60 → (AB.alls F).length ≤ 12 → Mk2 (.imp C F) := fun F zF aF => by
    have a1 := AB.dep_size C
    have a2 := AB.dep_size F
    have a3 := AB.alls_imp C F
    have a4 := AB.alls_len C
    exact ⟨by simp only [AB.dep]; omega, by simp only [AB.size]; omega, by omega⟩
  have mC : Mk2 C := (mk F zF aF).sub (by simp [AB.subs, AB.subs_self])
  refine ⟨_, rfl, _, rfl, three_sz, fun t3 ht3 => ?_⟩
  have k3 := kp_new (o := .tup [.str "if", .ref pc, .ref p]) ht3
  have j3 := tr_imp ht3 hC hF2
  generalize upd H2 t3 (.tup [.str "if", .ref pc, .ref p]) = H3 at k3 j3 ⊢
  refine ⟨_, rfl, _, rfl, three_sz, fun t4 ht4 => ⟨_, _, rfl, ?_⟩⟩
  have k4 := kp_new (o := .tup [.str "if", .ref pc, .ref r]) ht4
  have j4 := tr_imp ht4 (hC.kp k3) (hG2.kp k3)
  generalize upd H3 t4 (.tup [.str "if", .ref pc, .ref r]) = H4 at k4 j4 ⊢
  refine ⟨_, rfl, t3, .imp C F, rfl, j3.kp k4, (mk F zF aF).d, (mk F zF aF).z, (mk F zF aF).a, fun a1 H5 ha1 k5 => ?_⟩
  have k25 := (k3.trans k4).trans k5
  refine ⟨_, rfl, pc, C, rfl, hC.kp k25, mC.d, mC.z, mC.a, fun a2 H6 ha2 k6 => ?_⟩
  refine ⟨two_sz, fun t7 ht7 => ⟨_, rfl, by show 4 ≤ sizeLine; decide +kernel, fun t8 ht8 => ?_⟩⟩
  have k7 := kp_new (o := .tup [.str "same", .ref a2]) ht7
  have e7 : upd H6 t7 (.tup [.str "same", .ref a2]) t7 = some (.tup [.str "same", .ref a2]) := upd_same
  generalize upd H6 t7 (.tup [.str "same", .ref a2]) = H7 at k7 e7 ht8 ⊢
  have k8 := kp_new (o := .tup [.str "left", .ref a1, .ref t7, .ref e]) ht8
  have e8 : upd H7 t8 (.tup [.str "left", .ref a1, .ref t7, .ref e]) t8 = some (.tup [.str "left", .ref a1, .ref t7, .ref e]) := upd_same
  generalize upd H7 t8 (.tup [.str "left", .ref a1, .ref t7, .ref e]) = H8 at k8 e8 ⊢
  have k68 := k7.trans k8
  have k28 := (k25.trans k6).trans k68
  have dv8 : DvAt K H8 (.left (.imp C F) (.same C) d) t8 := ⟨a1, t7, e, e8, ha1.kf (.of (k6.trans k68)), ⟨a2, k8 _ _ e7, ha2.kf (.of k68)⟩, hd2.kf (.of k28)⟩
  refine ⟨_, rfl, _, rfl, _, rfl, t4, .imp C G, rfl, j4.kp ((k5.trans k6).trans k68), (mk G zG aG).d, (mk G zG aG).z, (mk G zG aG).a, fun a3 H9 ha3 k9 => ?_⟩
  refine ⟨_, rfl, three_sz, fun t10 ht10 => ⟨three_sz, fun t11 ht11 => ?_⟩⟩
  have k10 := kp_new (o := .tup [.str "right", .ref a3, .ref t8]) ht10
  have k11 := kp_new (o := .tup [.ref t3, .ref t4, .ref t10]) ht11
  have k1011 := k10.trans k11
  have k211 := (k28.trans k9).trans k1011
  refine q C t11 _ hCs ⟨t3, t4, t10, upd_same, j3.kp ((((k4.trans k5).trans k6).trans k68).trans (k9.trans k1011)), j4.kp (((k5.trans k6).trans k68).trans (k9.trans k1011)), a3, t8, k11 _ _ upd_same, ha3.kf (.of k1011), dv8.kf (.of (k9.trans k1011))⟩ (hdk2'.kp k211) (k02.trans (.of k211))
end
end AT
end
section
set_option Elab.async false
set_option linter.all false
set_option maxRecDepth 100000
/-! _law_first. -/
namespace AT
open PySem PySem.Spec PyProof.Rows L2
open AB (Fm At Drv)
theorem tr_at {H : Hp} {t : Addr} {x : At} {s : Str} (h : letS x = s) : TrAt (upd H t (.tup [.str "atom", .str s])) (.atm x) t := by
  subst h; exact upd_same
section
variable {P : Program} {w : World} {K : PySem.W.Frag} {mg : Str → Option Value} {base : Heap} (T : Tx w K mg)
abbrev Nfi : List Str := ["_law_deck_here", "_law_letters_here", "_law_front", "_law_back"]
theorem sc_lfi : FnScope Nfi ["_law_deck_here"] (defScope s__law_first) := ⟨rfl, rfl, rfl, by decide +kernel, rfl, by decide +kernel, by decide +kernel⟩
def spLFi (K : PySem.W.Frag) : Sp := fun vs H Q _ => ∃ (D c : Addr) (N : Nat), vs = [.ref D] ∧ Dk H D c N ∧ N ≤ 800000 ∧
  ∀ t F G d H', ItAt K H' t F G d → ItOk 210 6 F G d → AB.size F + AB.size G ≤ 44 → Dk H' D c (N + 200) → KX D c H H' → Q (.ref t) H'
include T
theorem bd_lfi : L2.Binds K (fdOf K (f__law_first K)) ["_law_deck_here"] [] := T.F__law_first.binds fun _ _ _ _ _ _ us hl => match us, hl with | [_], _ => rfl
theorem bd_judge : L2.Binds K (fdOf K (f_judge K)) ["one", "other"] [] := T.F_judge.binds fun _ _ _ _ _ _ us hl => match us, hl with | [_, _], _ => rfl
theorem bd_follows : L2.Binds K (fdOf K (f_follows K)) ["one", "other"] [] := T.F_follows.binds fun _ _ _ _ _ _ us hl => match us, hl with | [_, _], _ => rfl
theorem ok_lfi : AQ.FnD P w K mg base 302 (f__law_first K) (fdOf K (f__law_first K)) ["_law_deck_here"] (spLFi K) := by
  have gM := (gMade (P := P) (base := base) T).mono (show 69 ≤ 100 by decide)
  have gP := (ok_lpk (P := P) (base := base) T).mono (show 2 ≤ 100 by decide)
  have gD := (ok_ldr (P := P) (base := base) T).mono (show 1 ≤ 100 by decide)
  have gC := (ok_lc (P := P) (base := base) T).mono (show 66 ≤ 100 by decide)
  have gE := (ok_lle (P := P) (base := base) T).mono (show 62 ≤ 100 by decide)
  have gA := (lalls_all (P := P) (base := base) T 62).mono (show 1 + 62 ≤ 100 by decide)
  have gJ := ok_judge (P := P) (base := base) T
  refine AQ.okD (k := 100) (n := 301) (by decide) T.F__law_first sc_lfi (fun vs H Q E h => by obtain ⟨_, _, _, rfl, _⟩ := h; rfl) (fun cdv A outer s H vs Q E hD hr h => ⟨_, PSs.nox (
    pss_cons (ps_set (i := 1) sc_lfi.nd rfl (Or.inl rfl) (pe_call gP hr rfl T.g__law_pick T.F__law_pick.kp (bd_lpk T) .nil pass0 (pa_cons (pv 0) (pa_cons (pe_lst (pa_cons pe_str (pa_cons pe_str (pa_cons pe_str pa_nil)))) pa_nil))))
    (pss_cons (ps_asg (pe_call gC hr rfl T.g__law_couple T.F__law_couple.kp (bd_lc T) .nil pass0 (pa_cons (pv 0) (pa_cons (pv 1) (pa_cons (pe_op op_add pe_int (pe_call gD hr rfl T.g__law_draw T.F__law_draw.kp (bd_ldr T) .nil pass0 (pa_cons (pv 0) (pa_cons pe_int pa_nil)))) (pa_cons pe_int pa_nil)))))
        (pg_tup rfl (pgs_cons (pg_name (i := 2) sc_lfi.nd rfl (Or.inl rfl)) (pgs_cons (pg_name (i := 3) sc_lfi.nd rfl (Or.inl rfl)) pgs_nil))))
    (pss_cons (ps_if (PW.pt (pw_or (pt_cmpR op_notN (pe_call gE hr rfl T.g__law_least T.F__law_least.kp (bd_lle T) .nil pass0 (pa_cons (pv 2) (pa_cons (pv 3) pa_nil))) pe_non (nomark _))
        (pw_or1 (pt_cmpR op_gt (pe_callB call_len_seq rfl T.b_len boot_len (pa_cons (pe_call gA hr rfl T.g__law_alls T.F__law_alls.kp (bd_lalls T) .nil pass0 (pa_cons (pe_tup (pa_cons pe_str (pa_cons (pv 2) (pa_cons (pv 3) pa_nil)))) pa_nil)) pa_nil)) pe_int (nomark _)))))
      (pss_one (ps_asg (pe_tup (pa_cons (pe_tup (pa_cons pe_str (pa_cons pe_str pa_nil))) (pa_cons (pe_tup (pa_cons pe_str (pa_cons (pe_tup (pa_cons pe_str (pa_cons pe_str pa_nil))) (pa_cons (pe_tup (pa_cons pe_str (pa_cons pe_str pa_nil))) pa_nil)))) pa_nil)))
        (pg_tup rfl (pgs_cons (pg_name (i := 2) sc_lfi.nd rfl (Or.inl rfl)) (pgs_cons (pg_name (i := 3) sc_lfi.nd rfl (Or.inl rfl)) pgs_nil))))) pss_nil)
    (pss_one (ps_ret (pe_tup (pa_cons (pv 2) (pa_cons (pv 3) (pa_cons (pe_ix ix_tup (AQ.pe_callP gJ hD rfl T.g_judge T.F_judge.kp (bd_judge T) .nil pass0 (pa_cons (pe_call gM hr rfl T.g__law_made T.F__law_made.kp (bd_lmade T) .nil pass0 (pa_cons (pv 2) pa_nil)) (pa_cons (pe_call gM hr rfl T.g__law_made T.F__law_made.kp (bd_lmade T) .nil pass0 (pa_cons (pv 3) pa_nil)) pa_nil))) pe_int (fun _ _ => rfl)) pa_nil))))))))), ?_⟩)
  obtain ⟨D, c, N, rfl, hdk, hN, q⟩ := h
  have edc : (∃ o, H D = some o) ∧ ∃ o, H c = some o := by obtain ⟨_, _, _, a, b, _⟩ := hdk.ex; exact ⟨⟨_, a⟩, ⟨_, b⟩⟩
  refine ⟨_, rfl, three_sz, fun l hl => .inr ⟨D, c, l, N, ["a", "ab", "aP"], rfl, upd_same, (fun z => by obtain ⟨⟨o, e⟩, _⟩ := edc; rw [z, e] at hl; cases hl), (fun z => by obtain ⟨_, o, e⟩ := edc; rw [z, e] at hl; cases hl), by decide, by decide, hdk.kp (kp_new hl), by omega, fun z hz H1 hdk1 k1' => ?_⟩⟩
  have k1 : KX D c H H1 := (KX.of (kp_new hl)).trans k1'
  obtain ⟨ls, htx, hl0, hl1⟩ : ∃ ls : List At, TxS z ls ∧ 0 < ls.length ∧ ls.length ≤ 100 := by
    simp only [List.mem_cons, List.not_mem_nil, or_false] at hz
    rcases hz with rfl | rfl | rfl
    · exact ⟨_, txs_a, by decide, by decide⟩
    · exact ⟨_, txs_ab, by decide, by decide⟩
    · exact ⟨_, txs_aP, by decide, by decide⟩
  refine ⟨_, rfl, _, rfl, _, rfl, D, c, N + 1, 3, rfl, hdk1, by decide, by decide, by omega, fun n H2 hn hdk2 k2 => ⟨_, _, rfl, rfl, ?_⟩⟩
  refine ⟨D, c, N + 1 + 1, z, ls, _, _, n + 1, rfl, by omega, htx, hl0, hl1, by omega, by omega, hdk2, by omega, fun t F G H3 hpr hz44 hal hdk3' k3 => ?_⟩
  obtain ⟨p, r, et, hF, hG⟩ := hpr
  have hdk3 : Dk H3 D c (N + 200) := hdk3'.mono (by omega)
  have k03 := (k1.trans k2).trans k3
  refine ⟨t, _, rfl, SqT.of et, rfl, _, _, rfl, _, _, rfl, rfl, ?_⟩
  have dF := AB.dep_size F
  have dG := AB.dep_size G
  have hdm : AB.dep (.imp F G) ≤ 60 := by
    have e : AB.dep (.imp F G) = max (AB.dep F) (AB.dep G) + 1 := rfl
    have := AB.dep_pos F
    have := AB.dep_pos G
    omega
  have hsm : AB.size (.imp F G) ≤ 1000 := by
    have e : AB.size (.imp F G) = AB.size F + AB.size G + 1 := rfl
    omega
  refine ⟨_, rfl, _, rfl, p, r, F, G, rfl, hF, hG, hdm, hsm, hal, fun v H4 hv k4 => ⟨rfl, _, rfl, ?_⟩⟩
  rcases hv with ⟨rfl, hvp⟩ | ⟨nn, rfl⟩
  · refine iteF ⟨_, rfl, _, rfl, three_sz, fun t5 ht5 => ⟨t5, .imp F G, rfl, tr_imp ht5 (hF.kp k4) (hG.kp k4), by omega, by omega, hsm, fun l5 H5 hl5 k5 => ?_⟩⟩
    have k45 := (kp_new (o := .tup [.str "if", .ref p, .ref r]) ht5).trans k5
    have k35 := k4.trans k45
    obtain ⟨ps, el, pl⟩ := hl5.ex
    refine ⟨l5, _, rfl, .inl (SqL.of el), _, _, rfl, rfl, _, rfl, ite2 (fun _ => ?_) fun _ => ?_⟩
    · refine ⟨two_sz, fun t1 ht1 => ⟨two_sz, fun t2 ht2 => ⟨two_sz, fun t3 ht3 => ⟨three_sz, fun t4 ht4 => ⟨two_sz, fun t5 ht5 => ?_⟩⟩⟩⟩⟩
      have j1 := tr_at (H := H5) (t := t1) letS_a
      have kk1 := kp_new (o := .tup [.str "atom", .str "a"]) ht1
      generalize upd H5 t1 (.tup [.str "atom", .str "a"]) = I1 at j1 kk1 ht2 ht3 ht4 ht5 ⊢
      have j2 := tr_at (H := I1) (t := t2) letS_b
      have kk2 := kp_new (o := .tup [.str "atom", .str "b"]) ht2
      generalize upd I1 t2 (.tup [.str "atom", .str "b"]) = I2 at j2 kk2 ht3 ht4 ht5 ⊢
      have j3 := tr_at (H := I2) (t := t3) letS_a
      have kk3 := kp_new (o := .tup [.str "atom", .str "a"]) ht3
      generalize upd I2 t3 (.tup [.str "atom", .str "a"]) = I3 at j3 kk3 ht4 ht5 ⊢
      have j4 := tr_imp ht4 (j2.kp kk3) j3
      have kk4 := kp_new (o := .tup [.str "if", .ref t2, .ref t3]) ht4
      generalize upd I3 t4 (.tup [.str "if", .ref t2, .ref t3]) = I4 at j4 kk4 ht5 ⊢
      have kk5 := kp_new (o := .tup [.ref t1, .ref t4]) ht5
      have e5 : upd I4 t5 (.tup [.ref t1, .ref t4]) t5 = some (.tup [.ref t1, .ref t4]) := upd_same
      generalize upd I4 t5 (.tup [.ref t1, .ref t4]) = I5 at kk5 e5 ⊢
      refine ⟨t5, _, rfl, SqT.of e5, rfl, _, _, rfl, _, _, rfl, rfl, ?_⟩
      have kI := ((((kk1.trans kk2).trans kk3).trans kk4).trans kk5)
      have jA : TrAt I5 (.atm .a) t1 := j1.kp (((kk2.trans kk3).trans kk4).trans kk5)
      have jB : TrAt I5 (.imp (.atm .b) (.atm .a)) t4 := j4.kp kk5
      have z4 : AB.size (.atm .a) + AB.size (.imp (.atm .b) (.atm .a)) ≤ 44 := by decide
      have a6 : (AB.alls (.imp (.atm .a) (.imp (.atm .b) (.atm .a)))).length ≤ 6 := by decide
      have mF : Mk2 (.atm .a) := .of (by have := AB.dep_pos (.imp (.atm .b) (.atm .a)); have := AB.dep_size (.imp (.atm .b) (.atm .a)); omega) (Nat.le_trans (AB.alls_le (by simp [AB.subs, AB.subs_self])) (Nat.le_trans a6 (by decide)))
      have mG : Mk2 (.imp (.atm .b) (.atm .a)) := .of (by have := AB.dep_pos (.atm .a); have := AB.dep_size (.atm .a); omega) (Nat.le_trans (AB.alls_le (by simp [AB.subs, AB.subs_self])) (Nat.le_trans a6 (by decide)))
      refine ⟨_, rfl, _, rfl, _, rfl, t1, (.atm .a), rfl, jA, mF.d, mF.z, mF.a, fun a1 J1 ha1 kj1 => ?_⟩
      refine ⟨_, rfl, t4, (.imp (.atm .b) (.atm .a)), rfl, (jB).kp kj1, mG.d, mG.z, mG.a, fun a2 J2 ha2 kj2 => ?_⟩
      refine ⟨a1, a2, (.atm .a), (.imp (.atm .b) (.atm .a)), rfl, ha1.kf (.of kj2), ha2, by omega, a6, AB.vp_valid AB.vp_first, fun dd pd tp J3 etp hdv hisd hdp hbn kj3 => ?_⟩
      have kj := (kj1.trans kj2).trans kj3
      refine ⟨tp, _, _, _, rfl, rfl, SqT.of etp, atI_nat (j := 1) rfl, three_sz, fun tt htt => ?_⟩
      have kt := kp_new (o := .tup [.ref t1, .ref t4, .ref pd]) htt
      exact q tt (.atm .a) (.imp (.atm .b) (.atm .a)) dd _ ⟨t1, t4, pd, upd_same, ((jA).kp kj).kp kt, ((jB).kp kj).kp kt, hdv.kf (.of kt)⟩ ⟨AB.vp_first, by omega, a6, hdp, hbn, AB.din_of hisd⟩ z4 (hdk3.kp (((k35).trans kI).trans (kj.trans kt))) (k03.trans (.of (((k35).trans kI).trans (kj.trans kt))))
    · have a6 : (AB.alls (.imp F G)).length ≤ 6 := by omega
      have mF : Mk2 F := .of (by have := AB.dep_pos G; have := AB.dep_size G; omega) (Nat.le_trans (AB.alls_le (by simp [AB.subs, AB.subs_self])) (Nat.le_trans a6 (by decide)))
      have mG : Mk2 G := .of (by have := AB.dep_pos F; have := AB.dep_size F; omega) (Nat.le_trans (AB.alls_le (by simp [AB.subs, AB.subs_self])) (Nat.le_trans a6 (by decide)))
      refine ⟨_, rfl, _, rfl, _, rfl, p, F, rfl, hF.kp k35, mF.d, mF.z, mF.a, fun a1 J1 ha1 kj1 => ?_⟩
      refine ⟨_, rfl, r, G, rfl, (hG.kp k35).kp kj1, mG.d, mG.z, mG.a, fun a2 J2 ha2 kj2 => ?_⟩
      refine ⟨a1, a2, F, G, rfl, ha1.kf (.of kj2), ha2, by omega, a6, AB.vp_valid hvp, fun dd pd tp J3 etp hdv hisd hdp hbn kj3 => ?_⟩
      have kj := (kj1.trans kj2).trans kj3
      refine ⟨tp, _, _, _, rfl, rfl, SqT.of etp, atI_nat (j := 1) rfl, three_sz, fun tt htt => ?_⟩
      have kt := kp_new (o := .tup [.ref p, .ref r, .ref pd]) htt
      exact q tt F G dd _ ⟨p, r, pd, upd_same, ((hF.kp k35).kp kj).kp kt, ((hG.kp k35).kp kj).kp kt, hdv.kf (.of kt)⟩ ⟨hvp, by omega, a6, hdp, hbn, AB.din_of hisd⟩ hz44 (hdk3.kp ((k35).trans (kj.trans kt))) (k03.trans (.of ((k35).trans (kj.trans kt))))
  · refine iteT ?_
    refine ⟨two_sz, fun t1 ht1 => ⟨two_sz, fun t2 ht2 => ⟨two_sz, fun t3 ht3 => ⟨three_sz, fun t4 ht4 => ⟨two_sz, fun t5 ht5 => ?_⟩⟩⟩⟩⟩
    have j1 := tr_at (H := H4) (t := t1) letS_a
    have kk1 := kp_new (o := .tup [.str "atom", .str "a"]) ht1
    generalize upd H4 t1 (.tup [.str "atom", .str "a"]) = I1 at j1 kk1 ht2 ht3 ht4 ht5 ⊢
    have j2 := tr_at (H := I1) (t := t2) letS_b
    have kk2 := kp_new (o := .tup [.str "atom", .str "b"]) ht2
    generalize upd I1 t2 (.tup [.str "atom", .str "b"]) = I2 at j2 kk2 ht3 ht4 ht5 ⊢
    have j3 := tr_at (H := I2) (t := t3) letS_a
    have kk3 := kp_new (o := .tup [.str "atom", .str "a"]) ht3
    generalize upd I2 t3 (.tup [.str "atom", .str "a"]) = I3 at j3 kk3 ht4 ht5 ⊢
    have j4 := tr_imp ht4 (j2.kp kk3) j3
    have kk4 := kp_new (o := .tup [.str "if", .ref t2, .ref t3]) ht4
    generalize upd I3 t4 (.tup [.str "if", .ref t2, .ref t3]) = I4 at j4 kk4 ht5 ⊢
    have kk5 := kp_new (o := .tup [.ref t1, .ref t4]) ht5
    have e5 : upd I4 t5 (.tup [.ref t1, .ref t4]) t5 = some (.tup [.ref t1, .ref t4]) := upd_same
    generalize upd I4 t5 (.tup [.ref t1, .ref t4]) = I5 at kk5 e5 ⊢
    refine ⟨t5, _, rfl, SqT.of e5, rfl, _, _, rfl, _, _, rfl, rfl, ?_⟩
    have kI := ((((kk1.trans kk2).trans kk3).trans kk4).trans kk5)
    have jA : TrAt I5 (.atm .a) t1 := j1.kp (((kk2.trans kk3).trans kk4).trans kk5)
    have jB : TrAt I5 (.imp (.atm .b) (.atm .a)) t4 := j4.kp kk5
    have z4 : AB.size (.atm .a) + AB.size (.imp (.atm .b) (.atm .a)) ≤ 44 := by decide
    have a6 : (AB.alls (.imp (.atm .a) (.imp (.atm .b) (.atm .a)))).length ≤ 6 := by decide
    have mF : Mk2 (.atm .a) := .of (by have := AB.dep_pos (.imp (.atm .b) (.atm .a)); have := AB.dep_size (.imp (.atm .b) (.atm .a)); omega) (Nat.le_trans (AB.alls_le (by simp [AB.subs, AB.subs_self])) (Nat.le_trans a6 (by decide)))
    have mG : Mk2 (.imp (.atm .b) (.atm .a)) := .of (by have := AB.dep_pos (.atm .a); have := AB.dep_size (.atm .a); omega) (Nat.le_trans (AB.alls_le (by simp [AB.subs, AB.subs_self])) (Nat.le_trans a6 (by decide)))
    refine ⟨_, rfl, _, rfl, _, rfl, t1, (.atm .a), rfl, jA, mF.d, mF.z, mF.a, fun a1 J1 ha1 kj1 => ?_⟩
    refine ⟨_, rfl, t4, (.imp (.atm .b) (.atm .a)), rfl, (jB).kp kj1, mG.d, mG.z, mG.a, fun a2 J2 ha2 kj2 => ?_⟩
    refine ⟨a1, a2, (.atm .a), (.imp (.atm .b) (.atm .a)), rfl, ha1.kf (.of kj2), ha2, by omega, a6, AB.vp_valid AB.vp_first, fun dd pd tp J3 etp hdv hisd hdp hbn kj3 => ?_⟩
    have kj := (kj1.trans kj2).trans kj3
    refine ⟨tp, _, _, _, rfl, rfl, SqT.of etp, atI_nat (j := 1) rfl, three_sz, fun tt htt => ?_⟩
    have kt := kp_new (o := .tup [.ref t1, .ref t4, .ref pd]) htt
    exact q tt (.atm .a) (.imp (.atm .b) (.atm .a)) dd _ ⟨t1, t4, pd, upd_same, ((jA).kp kj).kp kt, ((jB).kp kj).kp kt, hdv.kf (.of kt)⟩ ⟨AB.vp_first, by omega, a6, hdp, hbn, AB.din_of hisd⟩ z4 (hdk3.kp (((k4).trans kI).trans (kj.trans kt))) (k03.trans (.of (((k4).trans kI).trans (kj.trans kt))))
end
end AT
end
section
set_option Elab.async false
set_option linter.all false
set_option maxRecDepth 100000
/-! _law_is_derived. -/
namespace AT
open PySem PySem.Spec PyProof.Rows L2
open AB (Fm At Drv)
section
variable {P : Program} {w : World} {K : PySem.W.Frag} {mg : Str → Option Value} {base : Heap} (T : Tx w K mg)
abbrev Ndv : List Str := ["_law_left", "_law_right", "_law_told", "_law_tree_here", "_law_near", "_law_front", "_law_rest"]
abbrev Pdv : List Str := ["_law_left", "_law_right", "_law_told"]
theorem sc_dv : FnScope Ndv Pdv (defScope s__law_is_derived) := ⟨rfl, rfl, rfl, by decide +kernel, rfl, by decide +kernel, by decide +kernel⟩
def DepL (n : Nat) (L : List Fm) : Prop := ∀ F ∈ L, AB.dep F ≤ n
def spDv (K : PySem.W.Frag) (m : Nat) : Sp := fun vs H Q _ => ∃ (l r p : Addr) (L R : List Fm) (d : Drv), vs = [.ref l, .ref r, .ref p] ∧ TLs H l L ∧ TLs H r R ∧ DvAt K H d p ∧ d.depth ≤ m ∧ ShortL L R d ∧ DepL 62 L ∧ DepL 62 R ∧ DepL 62 d.fs ∧ ∀ H', Kp H H' → Q (.bl (AB.isDrv L R d)) H'
/-- all of a list but one -/
theorem lc_fil {H : Hp} {Q : VK} {l r p t x : Addr} {b4 b5 b6 : Option V} {j : Nat} {L : List Fm} {F : Fm} (hj : ([some (.ref l), some (.ref r), some (.ref p), some (.ref t), b4, b5, b6] : List (Option V))[j]? = some (some (.ref x)))
    (hL : TLs H x L) (hF : TrAt H F t) (hl : L.length ≤ 1000000) (dL : DepL 62 L) (dF : AB.dep F ≤ 62) (q : ∀ D H', TLs H' D (L.filter (· ≠ F)) → Kp H H' → H D = none → Q (.ref D) H') :
    tLc (iList K (tVar j)) (gName 5) (tTest (tOp (rNeD K) (tVar 5) (tVar 3))) (tVar 5) [5] [some (.ref l), some (.ref r), some (.ref p), some (.ref t), b4, b5, b6] H Q := by
  obtain ⟨ps, ex, px⟩ := id hL.ex
  have lp := Paired.length px
  refine ⟨_, hj, x, rfl, ⟨_, SqL.of ex⟩, fun D hD => ?_⟩
  refine lc_it (walk_list (xs := ps.map V.ref)) (fun i H' => Kp H H' ∧ TLs H' D ((L.take i).filter (· ≠ F))) ?_ ?_ ?_ ?_
  · exact ⟨kp_up (Same.refl _) hD, [], upd_same, .nil⟩
  · intro i H' _ h
    exact SqL.of (h.1 _ _ ex)
  · rintro i v H1 H1' hi ⟨kk, hDl⟩ ⟨rfl, hv⟩
    obtain ⟨a, hat, rfl⟩ : ∃ a, ps[i]? = some a ∧ V.ref a = v := by simpa using hv
    obtain ⟨M, hM, haM⟩ := paired_get px hat
    have haM' := haM.kp kk
    have dM := dL M (List.mem_of_getElem? hM)
    obtain ⟨ds, eD, pd⟩ := id hDl.ex
    have ld := Paired.length pd
    have lfl := List.length_filter_le (fun M => decide (M ≠ F)) (L.take i)
    rw [List.length_take] at lfl
    refine ⟨rfl, _, rfl, _, rfl, ne_tr haM' (hF.kp kk) (by omega) (by omega) ⟨_, rfl, ite2 (fun z => ?_) fun z => ?_⟩⟩
    · have z' : M ≠ F := by simpa using z
      refine ⟨_, rfl, _, eD, by rw [List.length_map, ld, sizeLine_eq]; omega, kp_old kk hD, ds ++ [a], by rw [upd_same, List.map_append]; rfl, ?_⟩
      have kl := kf_l (o := .lst (ds.map V.ref ++ [V.ref a])) eD
      rw [take_succ hM, List.filter_append, show [M].filter (fun M => decide (M ≠ F)) = [M] by simp [z']]
      exact paired_append (Paired.mapP pd fun p G h => h.kf kl) (.cons (haM'.kf kl) .nil)
    · have z' : M = F := by simpa using z
      refine ⟨kk, ?_⟩
      rw [take_succ hM, List.filter_append, show [M].filter (fun M => decide (M ≠ F)) = [] by simp [z'], List.append_nil]
      exact hDl
  · rintro H1 ⟨kk, hDl⟩
    rw [List.length_map, lp, List.take_length] at hDl
    exact q D H1 hDl kk hD
/-- one more at the end -/
theorem TLs.cat {H : Hp} {a b q : Addr} {L M : List Fm} {xs ys : List V} (hq : H q = none) (ea : H a = some (.lst xs)) (eb : H b = some (.lst ys)) (ha : TLs H a L) (hb : TLs H b M) : TLs (upd H q (.lst (xs ++ ys))) q (L ++ M) := by
  obtain ⟨ps, e1, p1⟩ := ha.ex
  obtain ⟨qs, e2, p2⟩ := hb.ex
  rw [ea] at e1; cases e1
  rw [eb] at e2; cases e2
  have k := kp_new (o := .lst (ps.map V.ref ++ qs.map V.ref)) hq
  exact ⟨ps ++ qs, by rw [upd_same, List.map_append], paired_append (Paired.mapP p1 fun p G h => TrAt.kp k h) (Paired.mapP p2 fun p G h => TrAt.kp k h)⟩
theorem DepL.fil {n : Nat} {L : List Fm} {f : Fm → Bool} (h : DepL n L) : DepL n (L.filter f) := fun F hF => h F (List.mem_filter.mp hF).1
theorem DepL.app {n : Nat} {L : List Fm} {G : Fm} (h : DepL n L) (g : AB.dep G ≤ n) : DepL n (L ++ [G]) := fun F hF => (List.mem_append.mp hF).elim (h F) fun z => by rw [List.mem_singleton.mp z]; exact g
theorem DepL.one {n : Nat} {G : Fm} (g : AB.dep G ≤ n) : DepL n [G] := fun F hF => by rw [List.mem_singleton.mp hF]; exact g
theorem DepL.nears {n : Nat} {L : List Fm} {G : Fm} (h : DepL n L) (g : AB.dep G ≤ n) : DepL n (AB.nears G L) := fun F hF => by
  rcases AB.mem_nears.mp hF with rfl | ⟨z, _⟩ | z
  · exact g
  · exact h F z
  · have := h _ z; simp only [AB.dep] at this; omega
theorem TLs.one {H : Hp} {q p : Addr} {F : Fm} (hq : H q = none) (h : TrAt H F p) : TLs (upd H q (.lst [.ref p])) q [F] := ⟨[p], upd_same, .cons (h.kp (kp_new hq)) .nil⟩
include T
theorem bd_dv : L2.Binds K (fdOf K (f__law_is_derived K)) Pdv [] := T.F__law_is_derived.binds fun _ _ _ _ _ _ us hl => match us, hl with | [_, _, _], _ => rfl
set_option maxHeartbeats 1000000 in
theorem ok_dv {m n : Nat} (hk : 189 ≤ n) (FD : AQ.FnD P w K mg base n (f__law_is_derived K) (fdOf K (f__law_is_derived K)) Pdv (spDv K m)) : AQ.FnD P w K mg base (n + 1) (f__law_is_derived K) (fdOf K (f__law_is_derived K)) Pdv (spDv K (m + 1)) := by
  have gT := (ltree_all (P := P) (base := base) T 62).mono (show 1 + 62 ≤ 63 by decide)
  refine AQ.okD (k := 63) (show 3 * 63 ≤ n by omega) T.F__law_is_derived sc_dv (fun vs H Q E h => by obtain ⟨_, _, _, _, _, _, rfl, _⟩ := h; rfl) (fun cdv A outer s H vs Q E hD hr h => ⟨_, PSs.nox (
    pss_cons (ps_if (PW.pt (pw_or (pt_not (pt_val (pe_callB call_isi rfl T.b_isinstance (by decide +kernel) (pa_cons (pv 2) (pa_cons (pe_bltn rfl T.b_tuple (by decide +kernel) (v := .ty "tuple") (u := .type "tuple") rfl) pa_nil))))) (pw_or (pt_cmpR (op_eqNilT hr.units0) (pv 2) (pe_tup pa_nil) rfl) (pw_or1 (pt_not (pt_val (pe_callB call_isi rfl T.b_isinstance (by decide +kernel) (pa_cons (pe_ix ix_tup (pv 2) pe_int (fun _ _ => rfl)) (pa_cons (pe_bltn rfl T.b_str (by decide +kernel) (v := .ty "str") (u := .type "str") rfl) pa_nil)))))))))
        (pss_one (ps_ret pe_bl)) pss_nil) 
    (pss_cons (ps_if (pt_cmpR op_eq (pe_ix ix_tup (pv 2) pe_int (fun _ _ => rfl)) pe_str (nomark _))
        (pss_one (ps_ret (pe_and (pe_cmpR op_eq (pe_callB call_len_seq rfl T.b_len boot_len (pa_cons (pv 2) pa_nil)) pe_int (nomark _)) (pe_one (pe_cmpR (op_inA (Room.u65 hr)) (pe_tup (pa_cons pe_str pa_nil)) (pv 0) rfl))))) pss_nil) 
    (pss_cons (ps_if (PW.pt (pw_or (pt_cmpR op_lt (pe_callB call_len_seq rfl T.b_len boot_len (pa_cons (pv 2) pa_nil)) pe_int (nomark _)) (pw_or1 (pt_not (pt_val (pe_callB call_isi rfl T.b_isinstance (by decide +kernel) (pa_cons (pe_ix ix_tup (pv 2) pe_int (fun _ _ => rfl)) (pa_cons (pe_glob (v := .ref (He.ga K "Formula")) rfl T.g_Formula rfl) pa_nil))))))))
        (pss_one (ps_ret pe_bl)) pss_nil) 
    (pss_cons (ps_set (i := 3) sc_dv.nd rfl (Or.inr rfl) (pe_call gT hr rfl T.g__law_tree T.F__law_tree.kp (bd_ltree T) .nil pass0 (pa_cons (pe_ix ix_tup (pv 2) pe_int (fun _ _ => rfl)) pa_nil))) 
    (pss_cons (ps_if (pt_cmpR op_eq (pe_ix ix_tup (pv 2) pe_int (fun _ _ => rfl)) pe_str (nomark _))
        (pss_one (ps_ret (pe_and (pe_cmpR op_eq (pe_callB call_len_seq rfl T.b_len boot_len (pa_cons (pv 2) pa_nil)) pe_int (nomark _)) (pe_and (pe_cmpR (op_inA (Room.u65 hr)) (pv 3) (pv 0) rfl) (pe_one (pe_cmpR (op_inA (Room.u65 hr)) (pv 3) (pv 1) rfl)))))) pss_nil) 
    (pss_cons (ps_if (pt_cmpR op_eq (pe_ix ix_tup (pv 2) pe_int (fun _ _ => rfl)) pe_str (nomark _))
        
    (pss_cons (ps_set (i := 4) sc_dv.nd rfl (Or.inl rfl) (pe_lst (pa_cons (pv 3) pa_nil))) (pss_cons (ps_for PassesOwn.never rfl (pi_list (pv 0)) (pg_name (i := 5) sc_dv.nd rfl (Or.inl rfl)) (pss_one (ps_expr (pe_bm PySem.F.plainAttrs_list PySem.F.slot_list_extend PySem.F.type_list_extend mt_extend (pv 4) (pa_cons (pe_ifExp (pt_cmpR op_eq (pe_ix ix_tup (pv 5) pe_int (fun _ _ => rfl)) pe_str (nomark _)) (pe_lst (pa_cons (pv 5) (pa_cons (pe_ix ix_tup (pv 5) pe_int (fun _ _ => rfl)) pa_nil))) (pe_lst pa_nil)) pa_nil))))) (pss_one (ps_ret (pe_and (pe_cmpR op_eq (pe_callB call_len_seq rfl T.b_len boot_len (pa_cons (pv 2) pa_nil)) pe_int (nomark _)) (pe_and (pe_cmpR op_eq (pe_ix ix_tup (pv 3) pe_int (fun _ _ => rfl)) pe_str (nomark _)) (pe_and (pe_cmpR (op_inA (Room.u65 hr)) (pv 3) (pv 1) rfl) (pe_one (AQ.pe_callP FD hD rfl T.g__law_is_derived T.F__law_is_derived.kp (bd_dv T) .nil pass0 (pa_cons (pv 4) (pa_cons (pe_lst (pa_cons (pe_ix ix_tup (pv 3) pe_int (fun _ _ => rfl)) pa_nil)) (pa_cons (pe_ix ix_tup (pv 2) pe_int (fun _ _ => rfl)) pa_nil)))))))))))) pss_nil) 
    (pss_cons (ps_if (pt_cmpR op_ne (pe_ix ix_tup (pv 3) pe_int (fun _ _ => rfl)) pe_str (nomark _))
        (pss_one (ps_ret pe_bl)) pss_nil) 
    (pss_cons (ps_if (pt_cmpR op_eq (pe_ix ix_tup (pv 2) pe_int (fun _ _ => rfl)) pe_str (nomark _))
        
    (pss_cons (ps_set (i := 6) sc_dv.nd rfl (Or.inl rfl) (pe_op op_cat (pe_lc (own := [("_law_front", 5)]) (g := gName 5) (te := tVar 5) rfl sc_dv.nd (pi_list (pv 1)) (blkOk_by (own := [("_law_front", 5)]) (N := Ndv) (sc := defScope s__law_is_derived) (by decide +kernel)) (fun _ _ _ _ _ => (pg_name (i := 5) sc_dv.nd rfl (Or.inl rfl))) (tt := tTest (tOp (rNeD K) (tVar 5) (tVar 3))) (fun _ _ _ _ _ => pts_one (pt_cmpR (op_neD hr.units) (pv 5) (pv 3) (nomark _))) (fun _ _ _ _ _ => (pv 5))) (pe_lst (pa_cons (pe_ix ix_tup (pv 3) pe_int (fun _ _ => rfl)) pa_nil)))) (pss_one (ps_ret (pe_and (pe_cmpR op_eq (pe_callB call_len_seq rfl T.b_len boot_len (pa_cons (pv 2) pa_nil)) pe_int (nomark _)) (pe_and (pe_cmpR (op_inA (Room.u65 hr)) (pv 3) (pv 1) rfl) (pe_one (AQ.pe_callP FD hD rfl T.g__law_is_derived T.F__law_is_derived.kp (bd_dv T) .nil pass0 (pa_cons (pe_op op_cat (pv 0) (pe_lst (pa_cons (pe_ix ix_tup (pv 3) pe_int (fun _ _ => rfl)) pa_nil))) (pa_cons (pv 6) (pa_cons (pe_ix ix_tup (pv 2) pe_int (fun _ _ => rfl)) pa_nil)))))))))) pss_nil) 
    (pss_cons (ps_setLc (i := 6) (own := [("_law_front", 5)]) (g := gName 5) (te := tVar 5) rfl sc_dv.nd rfl rfl (sw_true rfl rfl rfl (by decide +kernel)) (pi_list (pv 0)) (blkOk_by (own := [("_law_front", 5)]) (N := Ndv) (sc := defScope s__law_is_derived) (by decide +kernel)) (fun _ _ _ _ _ => (pg_name (i := 5) sc_dv.nd rfl (Or.inl rfl))) (tt := tTest (tOp (rNeD K) (tVar 5) (tVar 3))) (fun _ _ _ _ _ => pts_one (pt_cmpR (op_neD hr.units) (pv 5) (pv 3) (nomark _))) (fun _ _ _ _ _ => (pv 5))) 
    (pss_cons (ps_if (PW.pt (pw_or (pt_cmpR op_ne (pe_ix ix_tup (pv 2) pe_int (fun _ _ => rfl)) pe_str (nomark _)) (pw_or (pt_cmpR op_ne (pe_callB call_len_seq rfl T.b_len boot_len (pa_cons (pv 2) pa_nil)) pe_int (nomark _)) (pw_or (pt_cmpR (op_notInA (Room.u65 hr)) (pv 3) (pv 0) rfl) (pw_or1 (pt_not (pt_val (AQ.pe_callP FD hD rfl T.g__law_is_derived T.F__law_is_derived.kp (bd_dv T) .nil pass0 (pa_cons (pv 6) (pa_cons (pe_op op_cat (pv 1) (pe_lst (pa_cons (pe_ix ix_tup (pv 3) pe_int (fun _ _ => rfl)) pa_nil))) (pa_cons (pe_ix ix_tup (pv 2) pe_int (fun _ _ => rfl)) pa_nil)))))))))))
        (pss_one (ps_ret pe_bl)) pss_nil) (pss_one (ps_ret (AQ.pe_callP FD hD rfl T.g__law_is_derived T.F__law_is_derived.kp (bd_dv T) .nil pass0 (pa_cons (pe_op op_cat (pv 6) (pe_lst (pa_cons (pe_ix ix_tup (pv 3) pe_int (fun _ _ => rfl)) pa_nil))) (pa_cons (pv 1) (pa_cons (pe_ix ix_tup (pv 2) pe_int (fun _ _ => rfl)) pa_nil)))))))))))))))), ?_⟩)
  obtain ⟨l, r, p, L, R, d, rfl, hL, hR, hd, hm, hs, dL, dR, dd, q⟩ := h
  have s1 : 1 ≤ sizeLine := Nat.le_trans (Nat.le_succ 1) two_sz
  have tp : ∃ rest, H p = some (.tup (.str (wordS d) :: rest)) := by
    cases d with
    | no => exact ⟨_, hd⟩
    | _ => obtain ⟨a, ps, e, _⟩ := dv_tup hd nofun; exact ⟨_, e⟩
  obtain ⟨rest, ep⟩ := tp
  refine ⟨_, rfl, _, _, _, _, true, rfl, .ty "tuple", .base (.tup ep), kit_ty (by decide +kernel), ?_⟩
  refine ⟨true, rfl, iteF ?_⟩
  refine ⟨_, rfl, Nat.zero_le _, fun t0 ht0 => ?_⟩
  have k1 := kp_up (o := .tup []) (Same.refl H) ht0
  have e0 : upd H t0 (.tup []) t0 = some (.tup []) := upd_same
  generalize upd H t0 (.tup []) = H1 at k1 e0 ⊢
  have ep1 := k1 _ _ ep
  refine ⟨p, t0, _, rfl, rfl, SqT.of ep1, SqT.of e0, _, rfl, iteF ?_⟩
  refine ⟨_, rfl, p, _, _, _, rfl, rfl, SqT.of ep1, atI_nat (j := 0) rfl, _, _, _, _, true, rfl, .ty "str", .base (.str _), kit_ty (by decide +kernel), ?_⟩
  refine ⟨true, rfl, ite2 (fun z => nomatch z) fun _ => ?_⟩
  refine ⟨_, rfl, p, _, _, _, rfl, rfl, SqT.of ep1, atI_nat (j := 0) rfl, rfl, _, rfl, ?_⟩
  by_cases hn : d = .no
  · subst hn
    refine ite2 (fun _ => ?_) fun z => absurd (show decide (V.str (Str.ofString "no") = V.str (Str.ofString "no")) = true from decide_eq_true rfl) z
    have ep2 : H1 p = some (.tup [.str "no"]) := k1 _ _ hd
    refine ⟨_, rfl, p, _, rfl, .inr (SqT.of ep2), rfl, _, rfl, iteT ⟨s1, fun t ht => ⟨_, rfl, ?_⟩⟩⟩
    exact in_trL (F := .no) tr_no ((hL.kp k1).kp (kp_new ht)) (by decide) (q _ (k1.trans (kp_new ht)))
  obtain ⟨a, ps, ep3, hF0, hps⟩ := dv_tup hd hn
  rw [wq_no d hn]
  refine iteF ?_
  have ep4 := k1 _ _ ep3
  have hF := hF0.kf (.of k1)
  obtain ⟨pp, hf⟩ := hF.fo
  obtain ⟨dx, pt, al, mm, dq, x, y, e1, _⟩ := hf.ex
  have hdt : AB.dep (topF d) ≤ 62 := dd _ (by cases d <;> first | exact absurd rfl hn | simp [topF, Drv.fs])
  refine ⟨_, rfl, p, _, rfl, .inr (SqT.of ep4), _, _, rfl, rfl, _, rfl, ite2 (fun z => ?_) fun _ => ?_⟩
  · exfalso
    have := of_decide_eq_true z
    rw [List.length_cons, List.length_cons] at this
    omega
  refine ⟨_, rfl, p, _, _, _, rfl, rfl, SqT.of ep4, atI_nat (j := 1) rfl, _, _, _, _, true, rfl, .own _, .base (T.ty_of T.cls_Formula e1), (by unfold PySem.W.kitOne; rw [if_pos (beq_self_eq_true _)]), ?_⟩
  refine ⟨true, rfl, ite2 (fun z => nomatch z) fun _ => ?_⟩
  refine ⟨_, rfl, p, _, _, _, rfl, rfl, SqT.of ep4, atI_nat (j := 1) rfl, a, topF d, rfl, hF, hdt, fun tr H2 htr k2 => ?_⟩
  have k02 := k1.trans k2
  have ep5 := k2 _ _ ep4
  have hL2 := hL.kp k02
  have hR2 := hR.kp k02
  have hps2 : Paired (fun q e => DvAt K H2 e q) ps (kids d) := Paired.mapP hps fun q e h => h.kf (.of k02)
  have hsl := hs.l'
  have hsr := hs.r
  clear hF hf e1 hd hps hF0 ep ep1 ep3 ep4
  cases d with
  | no => exact absurd rfl hn
  | same F =>
    cases hps2
    simp only [topF] at htr hdt
    refine ⟨_, rfl, p, _, _, _, rfl, rfl, SqT.of ep5, atI_nat (j := 0) rfl, rfl, _, rfl, ite2 (fun _ => ?_) fun z => absurd (show decide (V.str (Str.ofString "same") = V.str (Str.ofString "same")) = true from decide_eq_true rfl) z⟩
    refine ⟨_, rfl, p, _, rfl, .inr (SqT.of ep5), rfl, _, rfl, iteT ⟨_, rfl, _, rfl, in_trL htr hL2 (Nat.le_trans hdt (by decide)) ⟨_, rfl, ite2 (fun z => ?_) fun z => ?_⟩⟩⟩
    · refine ⟨_, rfl, _, rfl, in_trL htr hR2 (Nat.le_trans hdt (by decide)) ?_⟩
      have := q H2 k02
      simp only [AB.isDrv] at this
      rw [z, Bool.true_and] at this
      exact this
    · have := q H2 k02
      simp only [AB.isDrv] at this
      rw [Bool.not_eq_true] at z
      rw [z, Bool.false_and] at this
      exact this
  | beneath F d1 =>
    obtain ⟨b, rfl, hb⟩ : ∃ b, ps = [b] ∧ DvAt K H2 d1 b := by
      cases hps2 with
      | cons h t => cases t; exact ⟨_, rfl, h⟩
    simp only [topF] at htr hdt
    refine ⟨_, rfl, p, _, _, _, rfl, rfl, SqT.of ep5, atI_nat (j := 0) rfl, rfl, _, rfl, ite2 (fun z => absurd z (show ¬ decide (V.str (Str.ofString "beneath") = V.str (Str.ofString "same")) = true from by decide +kernel)) fun _ => ?_⟩
    refine ⟨_, rfl, p, _, _, _, rfl, rfl, SqT.of ep5, atI_nat (j := 0) rfl, rfl, _, rfl, ite2 (fun _ => ?_) fun z => absurd (show decide (V.str (Str.ofString "beneath") = V.str (Str.ofString "beneath")) = true from decide_eq_true rfl) z⟩
    refine ⟨_, rfl, s1, fun nl hnl => ?_⟩
    have k3 := kp_new (o := .lst [.ref tr]) hnl
    have hnl3 : TLs (upd H2 nl (.lst [.ref tr])) nl [F] := TLs.one hnl htr
    generalize upd H2 nl (.lst [.ref tr]) = H3 at k3 hnl3 ⊢
    obtain ⟨lps, el, pl⟩ := id hL2.ex
    have llp := Paired.length pl
    refine ⟨_, rfl, l, rfl, ⟨_, SqL.of (k3 _ _ el)⟩, ?_⟩
    refine for_it (walk_list (xs := lps.map V.ref)) (fun i σ H' => ∃ b5 b6, σ = [some (.ref l), some (.ref r), some (.ref p), some (.ref tr), some (.ref nl), b5, b6] ∧ Kp H2 H' ∧ TLs H' nl (F :: (L.take i).flatMap nb1)) ?_ ?_ ?_ ?_
    · exact ⟨_, _, rfl, k3, by rw [List.take_zero]; exact hnl3⟩
    · rintro i σ H' _ ⟨_, _, _, k, _⟩
      exact SqL.of (k _ _ el)
    · rintro i v σ H4 H4' hi ⟨b5, b6, rfl, k4, hn4⟩ ⟨rfl, hv⟩
      obtain ⟨c, hc, rfl⟩ : ∃ c, lps[i]? = some c ∧ V.ref c = v := by simpa using hv
      obtain ⟨M, hM, hcM⟩ := paired_get pl hc
      have hcM4 := hcM.kp k4
      obtain ⟨vs, ec, hvs⟩ := id hcM4.tup
      obtain ⟨nps, enl, pnl⟩ := id hn4.ex
      have lnp := Paired.length pnl
      have lfm := nb1s_len (L.take i)
      rw [List.length_take] at lfm
      rw [List.length_cons] at lnp
      have stp : (L.take (i + 1)).flatMap nb1 = (L.take i).flatMap nb1 ++ nb1 M := by rw [take_succ hM, List.flatMap_append]; simp
      have nop : nb1 M = [] → ∀ x (hx : H4' x = none), ∃ c5 c6, [some (.ref l), some (.ref r), some (.ref p), some (.ref tr), some (.ref nl), some (V.ref c), b6] = [some (.ref l), some (.ref r), some (.ref p), some (.ref tr), some (.ref nl), c5, c6] ∧ Kp H2 (upd (upd H4' x (.lst [])) nl (.lst (nps.map V.ref ++ []))) ∧ TLs (upd (upd H4' x (.lst [])) nl (.lst (nps.map V.ref ++ []))) nl (F :: (L.take (i + 1)).flatMap nb1) := fun hnb x hx => by
        have kx := kp_new (o := .lst []) hx
        have enx := kx _ _ enl
        refine ⟨_, _, rfl, kp_old (k4.trans kx) hnl, nps, by rw [upd_same, List.append_nil], ?_⟩
        rw [stp, hnb, List.append_nil, List.append_nil]
        exact Paired.mapP pnl fun p G h => (h.kp kx).kf (kf_l enx)
      refine ⟨_, rfl, .inl ⟨rfl, _, SqL.of enl⟩, _, rfl, c, _, _, _, rfl, rfl, SqT.of ec, atI_nat (j := 0) rfl, rfl, _, rfl, ?_⟩
      rw [kq_all M]
      cases M with
      | all g =>
        obtain ⟨cg, rfl, hcg⟩ := hvs
        refine iteT ⟨_, rfl, _, rfl, c, _, _, _, rfl, rfl, SqT.of ec, atI_nat (j := 1) rfl, two_sz, fun x hx => ?_⟩
        have kx := kp_new (o := .lst [.ref c, .ref cg]) hx
        have enx := kx _ _ enl
        refine ⟨nl, x, _, _, rfl, rfl, enx, upd_same, by rw [List.length_map, lnp, sizeLine_eq]; simp only [List.length_cons, List.length_nil]; omega, ?_⟩
        have kl := kf_l (o := .lst (nps.map V.ref ++ [.ref c, .ref cg])) enx
        refine ⟨_, _, rfl, kp_old (k4.trans kx) hnl, nps ++ [c, cg], by rw [upd_same, List.map_append]; rfl, ?_⟩
        rw [stp]
        exact paired_append (Paired.mapP pnl fun p G h => (h.kp kx).kf kl) (.cons ((hcM4.kp kx).kf kl) (.cons ((hcg.kp kx).kf kl) .nil))
      | atm z => exact iteF ⟨Nat.zero_le _, fun x hx => ⟨nl, x, _, _, rfl, rfl, up_keep enl hx, upd_same, by rw [List.length_map, lnp, sizeLine_eq]; simp only [List.length_nil]; omega, nop rfl x hx⟩⟩
      | no => exact iteF ⟨Nat.zero_le _, fun x hx => ⟨nl, x, _, _, rfl, rfl, up_keep enl hx, upd_same, by rw [List.length_map, lnp, sizeLine_eq]; simp only [List.length_nil]; omega, nop rfl x hx⟩⟩
      | imp f g => exact iteF ⟨Nat.zero_le _, fun x hx => ⟨nl, x, _, _, rfl, rfl, up_keep enl hx, upd_same, by rw [List.length_map, lnp, sizeLine_eq]; simp only [List.length_nil]; omega, nop rfl x hx⟩⟩
    rintro σ H4 ⟨b5, b6, rfl, k4, hn4⟩
    rw [List.length_map, llp, List.take_length, ← nears_nb1] at hn4
    have htr4 := htr.kp k4
    obtain ⟨vs, etr, hvs⟩ := id htr4.tup
    have k04 := k02.trans k4
    refine ⟨_, rfl, p, _, rfl, .inr (SqT.of (k4 _ _ ep5)), rfl, _, rfl, iteT ?_⟩
    refine ⟨_, rfl, tr, _, _, _, rfl, rfl, SqT.of etr, atI_nat (j := 0) rfl, rfl, ?_⟩
    rw [kq_all F]
    cases F with
    | all g =>
      obtain ⟨cg, rfl, hcg⟩ := hvs
      refine ⟨_, rfl, iteT ⟨_, rfl, _, rfl, in_trL htr4 (hR2.kp k4) (Nat.le_trans hdt (by decide)) ⟨_, rfl, ite2 (fun z => ?_) fun z => ?_⟩⟩⟩
      · refine ⟨_, rfl, _, rfl, tr, _, _, _, rfl, rfl, SqT.of etr, atI_nat (j := 1) rfl, s1, fun x hx => ?_⟩
        have kx := kp_new (o := .lst [.ref cg]) hx
        have hx1 : TLs (upd H4 x (.lst [.ref cg])) x [g] := TLs.one hx hcg
        have dg : AB.dep g ≤ 62 := by simp only [AB.dep] at hdt; omega
        refine ⟨_, rfl, p, _, _, _, rfl, rfl, SqT.of (kx _ _ (k4 _ _ ep5)), atI_nat (j := 2) rfl, nl, x, b, _, _, d1, rfl, hn4.kp kx, hx1, hb.kf (.of (k4.trans kx)), by simp only [Drv.depth] at hm; omega, hs.ben (by simp only [Drv.depth]; omega) (by simp only [Drv.bn]; omega), dL.nears hdt, DepL.one dg, fun F hF => dd F (by simp only [Drv.fs, List.mem_cons]; exact .inr hF), fun H5 k5 => ?_⟩
        have := q H5 ((k04.trans kx).trans k5)
        simp only [AB.isDrv] at this
        rw [z, Bool.true_and] at this
        exact this
      · have := q H4 k04
        simp only [AB.isDrv] at this
        rw [Bool.not_eq_true] at z
        rw [z, Bool.false_and] at this
        exact this
    | atm z => exact ⟨_, rfl, iteF (q H4 k04)⟩
    | no => exact ⟨_, rfl, iteF (q H4 k04)⟩
    | imp f g => exact ⟨_, rfl, iteF (q H4 k04)⟩
  | right F d1 =>
    obtain ⟨b, rfl, hb⟩ : ∃ b, ps = [b] ∧ DvAt K H2 d1 b := by
      cases hps2 with
      | cons h t => cases t; exact ⟨_, rfl, h⟩
    simp only [topF] at htr hdt
    obtain ⟨vs, etr, hvs⟩ := id htr.tup
    refine ⟨_, rfl, p, _, _, _, rfl, rfl, SqT.of ep5, atI_nat (j := 0) rfl, rfl, _, rfl, ite2 (fun z => absurd z (show ¬ decide (V.str (Str.ofString "right") = V.str (Str.ofString "same")) = true from by decide +kernel)) fun _ => ?_⟩
    refine ⟨_, rfl, p, _, _, _, rfl, rfl, SqT.of ep5, atI_nat (j := 0) rfl, rfl, _, rfl, ite2 (fun z => absurd z (show ¬ decide (V.str (Str.ofString "right") = V.str (Str.ofString "beneath")) = true from by decide +kernel)) fun _ => ?_⟩
    refine ⟨_, rfl, tr, _, _, _, rfl, rfl, SqT.of etr, atI_nat (j := 0) rfl, rfl, _, rfl, ?_⟩
    rw [kq_imp F]
    cases F with
    | atm z => exact iteT (q H2 k02)
    | no => exact iteT (q H2 k02)
    | all g => exact iteT (q H2 k02)
    | imp g h =>
      obtain ⟨pg, ph, rfl, hg, hh⟩ := hvs
      have dg : AB.dep g ≤ 62 := by simp only [AB.dep] at hdt; omega
      have dh : AB.dep h ≤ 62 := by simp only [AB.dep] at hdt; omega
      refine iteF ?_
      refine ⟨_, rfl, p, _, _, _, rfl, rfl, SqT.of ep5, atI_nat (j := 0) rfl, rfl, _, rfl, ite2 (fun _ => ?_) fun z => absurd (show decide (V.str (Str.ofString "right") = V.str (Str.ofString "right")) = true from decide_eq_true rfl) z⟩
      dsimp only [tSeq, tAsg]
      unfold tOp
      refine lc_fil (j := 1) rfl hR2 htr (by omega) dR hdt fun D H3 hD k3 hDn => ?_
      refine ⟨_, rfl, tr, _, _, _, rfl, rfl, SqT.of (k3 _ _ etr), atI_nat (j := 2) rfl, s1, fun x hx => ?_⟩
      have kx := kp_new (o := .lst [.ref ph]) hx
      have hx1 : TLs (upd H3 x (.lst [.ref ph])) x [h] := TLs.one hx (hh.kp k3)
      have ex1 : upd H3 x (.lst [.ref ph]) x = some (.lst [.ref ph]) := upd_same
      have hDx := hD.kp kx
      generalize upd H3 x (.lst [.ref ph]) = H4 at kx hx1 ex1 hDx ⊢
      obtain ⟨dps, eD, pD⟩ := id hDx.ex
      have lD := Paired.length pD
      have lfl := List.length_filter_le (fun M => decide (M ≠ Fm.imp g h)) R
      refine ⟨D, x, _, _, rfl, rfl, eD, ex1, by rw [List.length_map, lD, sizeLine_eq]; simp only [List.length_singleton]; omega, fun y hy => ?_⟩
      have ky := kp_new (o := .lst (dps.map V.ref ++ [.ref ph])) hy
      have hrest := TLs.cat hy eD ex1 hDx hx1
      generalize upd H4 y (.lst (dps.map V.ref ++ [.ref ph])) = H5 at ky hrest ⊢
      have k25 := (k3.trans kx).trans ky
      refine ⟨_, rfl, p, _, rfl, .inr (SqT.of (k25 _ _ ep5)), rfl, _, rfl, iteT ⟨_, rfl, _, rfl, in_trL (htr.kp k25) (hR2.kp k25) (Nat.le_trans hdt (by decide)) ⟨_, rfl, ite2 (fun z => ?_) fun z => ?_⟩⟩⟩
      · have hL5 := hL2.kp k25
        refine ⟨_, rfl, _, rfl, tr, _, _, _, rfl, rfl, SqT.of (k25 _ _ etr), atI_nat (j := 1) rfl, s1, fun u hu => ?_⟩
        have ku := kp_new (o := .lst [.ref pg]) hu
        have hu1 : TLs (upd H5 u (.lst [.ref pg])) u [g] := TLs.one hu (hg.kp k25)
        have eu1 : upd H5 u (.lst [.ref pg]) u = some (.lst [.ref pg]) := upd_same
        have hLu := hL5.kp ku
        generalize upd H5 u (.lst [.ref pg]) = H6 at ku hu1 eu1 hLu ⊢
        obtain ⟨lps, eL, pL⟩ := id hLu.ex
        have lL := Paired.length pL
        refine ⟨l, u, _, _, rfl, rfl, eL, eu1, by rw [List.length_map, lL, sizeLine_eq]; simp only [List.length_singleton]; omega, fun w2 hw2 => ?_⟩
        have kw := kp_new (o := .lst (lps.map V.ref ++ [.ref pg])) hw2
        have hleft := TLs.cat hw2 eL eu1 hLu hu1
        generalize upd H6 w2 (.lst (lps.map V.ref ++ [.ref pg])) = H7 at kw hleft ⊢
        have k27 := (k25.trans ku).trans kw
        refine ⟨_, rfl, _, rfl, p, _, _, _, rfl, rfl, SqT.of (k27 _ _ ep5), atI_nat (j := 2) rfl, w2, y, b, _, _, d1, rfl, hleft, hrest.kp (ku.trans kw), hb.kf (.of k27), by simp only [Drv.depth] at hm; omega, hs.of (by simp) (by rw [List.length_append]; simp only [List.length_singleton]; omega) (by simp only [Drv.depth]; omega) (by simp only [Drv.bn]; omega), dL.app dg, dR.fil.app dh, fun F hF => dd F (by simp only [Drv.fs, List.mem_cons]; exact .inr hF), fun H8 k8 => ?_⟩
        have := q H8 ((k02.trans k27).trans k8)
        simp only [AB.isDrv] at this
        rw [z, Bool.true_and] at this
        exact this
      · have := q H5 (k02.trans k25)
        simp only [AB.isDrv] at this
        rw [Bool.not_eq_true] at z
        rw [z, Bool.false_and] at this
        exact this
  | left F d1 d2 =>
    obtain ⟨b, c, rfl, hb, hc⟩ : ∃ b c, ps = [b, c] ∧ DvAt K H2 d1 b ∧ DvAt K H2 d2 c := by
      cases hps2 with
      | cons h t => cases t with
        | cons h2 t => cases t; exact ⟨_, _, rfl, h, h2⟩
    simp only [topF] at htr hdt
    obtain ⟨vs, etr, hvs⟩ := id htr.tup
    refine ⟨_, rfl, p, _, _, _, rfl, rfl, SqT.of ep5, atI_nat (j := 0) rfl, rfl, _, rfl, ite2 (fun z => absurd z (show ¬ decide (V.str (Str.ofString "left") = V.str (Str.ofString "same")) = true from by decide +kernel)) fun _ => ?_⟩
    refine ⟨_, rfl, p, _, _, _, rfl, rfl, SqT.of ep5, atI_nat (j := 0) rfl, rfl, _, rfl, ite2 (fun z => absurd z (show ¬ decide (V.str (Str.ofString "left") = V.str (Str.ofString "beneath")) = true from by decide +kernel)) fun _ => ?_⟩
    refine ⟨_, rfl, tr, _, _, _, rfl, rfl, SqT.of etr, atI_nat (j := 0) rfl, rfl, _, rfl, ?_⟩
    rw [kq_imp F]
    cases F with
    | atm z => exact iteT (q H2 k02)
    | no => exact iteT (q H2 k02)
    | all g => exact iteT (q H2 k02)
    | imp g h =>
      obtain ⟨pg, ph, rfl, hg, hh⟩ := hvs
      have dg : AB.dep g ≤ 62 := by simp only [AB.dep] at hdt; omega
      have dh : AB.dep h ≤ 62 := by simp only [AB.dep] at hdt; omega
      refine iteF ?_
      refine ⟨_, rfl, p, _, _, _, rfl, rfl, SqT.of ep5, atI_nat (j := 0) rfl, rfl, _, rfl, ite2 (fun z => absurd z (show ¬ decide (V.str (Str.ofString "left") = V.str (Str.ofString "right")) = true from by decide +kernel)) fun _ => ?_⟩
      dsimp only [tNext, tSeq, tAsg]
      refine lc_fil (j := 0) rfl hL2 htr hsl dL hdt fun D H3 hD k3 hDn => ?_
      have lfl := List.length_filter_le (fun M => decide (M ≠ Fm.imp g h)) L
      have ep53 := k3 _ _ ep5
      refine ⟨_, rfl, p, _, _, _, rfl, rfl, SqT.of ep53, atI_nat (j := 0) rfl, rfl, _, rfl, ite2 (fun z => absurd z (by simp [wordS])) fun _ => ?_⟩
      refine ⟨_, rfl, p, _, rfl, .inr (SqT.of ep53), rfl, _, rfl, ite2 (fun z => absurd z (by simp)) fun _ => ?_⟩
      refine ⟨_, rfl, _, rfl, in_trL (htr.kp k3) (hL2.kp k3) (Nat.le_trans hdt (by decide)) ⟨_, rfl, ite2 (fun z => iteT ?_) fun z => ?_⟩⟩
      · have := q H3 (k02.trans k3)
        simp only [AB.isDrv] at this
        rw [Bool.not_eq_true'] at z
        rw [z, Bool.false_and] at this
        exact this
      have z' : decide (Fm.imp g h ∈ L) = true := by
        simpa using z
      have hR3 := hR2.kp k3
      refine ⟨_, rfl, _, rfl, _, rfl, tr, _, _, _, rfl, rfl, SqT.of (k3 _ _ etr), atI_nat (j := 1) rfl, s1, fun u hu => ?_⟩
      have ku := kp_new (o := .lst [.ref pg]) hu
      have hu1 : TLs (upd H3 u (.lst [.ref pg])) u [g] := TLs.one hu (hg.kp k3)
      have eu1 : upd H3 u (.lst [.ref pg]) u = some (.lst [.ref pg]) := upd_same
      have hRu := hR3.kp ku
      generalize upd H3 u (.lst [.ref pg]) = H4 at ku hu1 eu1 hRu ⊢
      obtain ⟨rps, eR, pR⟩ := id hRu.ex
      have lR := Paired.length pR
      refine ⟨r, u, _, _, rfl, rfl, eR, eu1, by rw [List.length_map, lR, sizeLine_eq]; simp only [List.length_singleton]; omega, fun w2 hw2 => ?_⟩
      have kw := kp_new (o := .lst (rps.map V.ref ++ [.ref pg])) hw2
      have hright := TLs.cat hw2 eR eu1 hRu hu1
      generalize upd H4 w2 (.lst (rps.map V.ref ++ [.ref pg])) = H5 at kw hright ⊢
      have k25 := (k3.trans ku).trans kw
      refine ⟨_, rfl, p, _, _, _, rfl, rfl, SqT.of (k25 _ _ ep5), atI_nat (j := 2) rfl, D, w2, b, _, _, d1, rfl, hD.kp (ku.trans kw), hright, hb.kf (.of k25), by simp only [Drv.depth] at hm; omega, hs.of (by omega) (by simp) (by simp only [Drv.depth]; omega) (by simp only [Drv.bn]; omega), dL.fil, dR.app dg, fun F hF => dd F (by simp only [Drv.fs, List.mem_cons, List.mem_append]; exact .inr (.inl hF)), fun H6 k6 => ?_⟩
      have k26 := k25.trans k6
      have e26 : AB.isDrv L R (.left (.imp g h) d1 d2) = (AB.isDrv (L.filter (· ≠ .imp g h)) (R ++ [g]) d1 && AB.isDrv (L.filter (· ≠ .imp g h) ++ [h]) R d2) := by
        simp only [AB.isDrv]
        rw [z', Bool.true_and]
      refine ⟨_, rfl, ite2 (fun z2 => ?_) fun z2 => ?_⟩
      · have := q H6 (k02.trans k26)
        rw [Bool.not_eq_true'] at z2
        rw [e26, z2, Bool.false_and] at this
        exact this
      have z3 : AB.isDrv (L.filter (· ≠ .imp g h)) (R ++ [g]) d1 = true := by simpa using z2
      have hD6 := hD.kp ((ku.trans kw).trans k6)
      refine ⟨_, rfl, _, rfl, tr, _, _, _, rfl, rfl, SqT.of (k26 _ _ etr), atI_nat (j := 2) rfl, s1, fun v hv => ?_⟩
      have kv := kp_new (o := .lst [.ref ph]) hv
      have hv1 : TLs (upd H6 v (.lst [.ref ph])) v [h] := TLs.one hv (hh.kp k26)
      have ev1 : upd H6 v (.lst [.ref ph]) v = some (.lst [.ref ph]) := upd_same
      have hDv := hD6.kp kv
      generalize upd H6 v (.lst [.ref ph]) = H7 at kv hv1 ev1 hDv ⊢
      obtain ⟨dps, eD, pD⟩ := id hDv.ex
      have lD := Paired.length pD
      refine ⟨D, v, _, _, rfl, rfl, eD, ev1, by rw [List.length_map, lD, sizeLine_eq]; simp only [List.length_singleton]; omega, fun y hy => ?_⟩
      have ky := kp_new (o := .lst (dps.map V.ref ++ [.ref ph])) hy
      have hleft := TLs.cat hy eD ev1 hDv hv1
      generalize upd H7 y (.lst (dps.map V.ref ++ [.ref ph])) = H8 at ky hleft ⊢
      have k28 := (k26.trans kv).trans ky
      refine ⟨_, rfl, _, rfl, p, _, _, _, rfl, rfl, SqT.of (k28 _ _ ep5), atI_nat (j := 3) rfl, y, r, c, _, _, d2, rfl, hleft, hR2.kp k28, hc.kf (.of k28), by simp only [Drv.depth] at hm; omega, hs.of (by rw [List.length_append]; simp only [List.length_singleton]; omega) (by omega) (by simp only [Drv.depth]; omega) (by simp only [Drv.bn]; omega), dL.fil.app dh, dR, fun F hF => dd F (by simp only [Drv.fs, List.mem_cons, List.mem_append]; exact .inr (.inr hF)), fun H9 k9 => ?_⟩
      have := q H9 ((k02.trans k28).trans k9)
      rw [e26, z3, Bool.true_and] at this
      exact this
theorem dv_all : ∀ m, AQ.FnD P w K mg base (189 + m) (f__law_is_derived K) (fdOf K (f__law_is_derived K)) Pdv (spDv K m)
  | 0 => ⟨fun vs H Q E h => by obtain ⟨_, _, _, _, _, _, rfl, _⟩ := h; rfl, fun A outer s H args us vs Q E hr e0 hb r h => by
    obtain ⟨_, _, _, _, _, d, _, _, _, _, z, _⟩ := h
    have := depth_pos d
    omega⟩
  | m + 1 => ok_dv T (Nat.le_add_right 189 m) (dv_all m)
end
end AT
end
section
set_option Elab.async false
set_option linter.all false
set_option maxRecDepth 100000
/-! repr of bools, of a list of two bools (where nothing is being shown). -/
namespace AQ
open PySem PySem.Spec PyProof.Rows L2
section
variable {X : Cx} {k : Nat} {f : Addr} {fd : FuncData} {ps ks : List Str} {sp : Sp} {dvs : List V} {ds : List Value} {E : XK} {x : Str} {p pos : Pos} {e : Expr} {es : List Expr} {kws : List Keyword} {t tk : TA}
/-- repr of a bool -/
theorem call_repr_bl : CallR X (.builtin "repr") (fun xs H Q => ∃ b : Bool, xs = [.bl b] ∧ Q (.str (if b then "True" else "False")) H) := by
  intro pins s σ H xs us Q I r h
  obtain ⟨b, rfl, q⟩ := h
  obtain ⟨u, rfl, rv⟩ := vals1 r
  obtain rfl : u = Value.bool b := rv
  exact PySem.P.repr_of_bool ⟨.str _, H, I.tok _, ⟨_, rfl⟩, q⟩
/-- what a list of bools shows -/
def shB (bs : List Bool) : Str := (PyData.list (bs.map .bool)).shown
theorem readsB {h : Heap} : ∀ {bs : List Bool} {us : List Value}, Vals (bs.map V.bl) us → ReadsAll h us (bs.map .bool) []
  | [], _, .nil => .nil
  | b :: bs, _, .cons r rs => by
    cases (show _ = Value.bool b from r)
    exact .cons (as := []) (bs := []) (.bool b) (readsB rs)
theorem call_repr_bls (hg : X.A.guards = some []) (hu : X.A.units + 64 < cLine) : CallR X (.builtin "repr") (fun xs H Q => ∃ a b c, xs = [.ref a] ∧ H a = some (.lst [.bl b, .bl c]) ∧ Q (.str (shB [b, c])) H) := by
  intro pins s σ H xs us Q I r h
  obtain ⟨a, b, c, rfl, ha, q⟩ := h
  obtain ⟨u, rfl, rv⟩ := vals1 r
  obtain rfl : u = Value.ref a := rv
  obtain ⟨its, r, pl, hz⟩ := I.list (SqL.of ha)
  obtain ⟨o, ho, hc, n, hd⟩ := pl.isList
  have R : Reads s.heap (.ref a) (.list ([b, c].map .bool)) [a] := .list ho hc hd (by simpa using readsB (bs := [b, c]) r)
  refine repr_of_reads' R (by cases b <;> cases c <;> rfl) (fun z => by cases b <;> cases c <;> exact nomatch z) hg (by cases b <;> cases c <;> (show _ + _ < _; simp [PyData.depth, PyData.depthAll]; omega)) (fun _ _ e => e) (fun h' u tk hk => ⟨.str _, H, I.kept hk, ⟨_, rfl⟩, q⟩) (by rw [sizeLine_eq]; cases b <;> cases c <;> decide +kernel)
end
end AQ
end
section
set_option Elab.async false
set_option linter.all false
set_option maxRecDepth 100000
/-! _law_is_right, _law_is_other_right. -/
namespace AT
open PySem PySem.Spec PyProof.Rows L2
open AB (Fm At Drv)
theorem ItOk.mono {D D' B B' : Nat} {F G : Fm} {d : Drv} (h : ItOk D B F G d) (a : D ≤ D') (b : B ≤ B') : ItOk D' B' F G d := ⟨h.vp, h.z, h.a, Nat.le_trans h.dp a, Nat.le_trans h.bn b, h.din⟩
theorem ItOk.mF {D B : Nat} {F G : Fm} {d : Drv} (h : ItOk D B F G d) : Mk2 F := .of (by have := h.z; omega) (Nat.le_trans (AB.alls_le (G := .imp F G) (by simp [AB.subs, AB.subs_self])) (Nat.le_trans h.a (by decide)))
theorem ItOk.mG {D B : Nat} {F G : Fm} {d : Drv} (h : ItOk D B F G d) : Mk2 G := .of (by have := h.z; omega) (Nat.le_trans (AB.alls_le (G := .imp F G) (by simp [AB.subs, AB.subs_self])) (Nat.le_trans h.a (by decide)))
theorem ItOk.dF {D B : Nat} {F G : Fm} {d : Drv} (h : ItOk D B F G d) : AB.dep F ≤ 60 := by have := h.z; have := AB.dep_size F; omega
theorem ItOk.dG {D B : Nat} {F G : Fm} {d : Drv} (h : ItOk D B F G d) : AB.dep G ≤ 60 := by have := h.z; have := AB.dep_size G; omega
theorem din_dep {n : Nat} {F G : Fm} {d : Drv} (h : AB.DIn F G d) (a : AB.dep F ≤ n) (b : AB.dep G ≤ n) : DepL n d.fs := fun K hK => by
  rcases h K hK with z | z
  · exact Nat.le_trans (AB.dep_subs F z) a
  · exact Nat.le_trans (AB.dep_subs G z) b
theorem short1 {F G : Fm} {d : Drv} (a : d.depth ≤ 240) (b : d.bn ≤ 12) : ShortL [F] [G] d := by
  refine ⟨?_, by show 1 + d.depth ≤ _; omega⟩
  have h1 : 2 ^ d.bn ≤ 2 ^ 12 := Nat.pow_le_pow_right (by decide) b
  have h2 : ([F].length + d.depth + 1) ≤ 242 := by show 1 + d.depth + 1 ≤ _; omega
  exact Nat.le_trans (Nat.mul_le_mul h2 h1) (by decide)
abbrev Nri : List Str := ["_law_it", "_law_code", "_law_mate", "_law_due", "_law_heard", "_law_word", "_law_told"]
abbrev Nor : List Str := ["_law_it", "_law_mate", "_law_wrong", "_law_due"]
/-- three keywords from the last to the first -/
def gRev {α : Type} (us ws : List α) : List α := match us, ws with
  | [], [a, b, c] => [c, b, a]
  | _, _ => []
section
variable {P : Program} {w : World} {K : PySem.W.Frag} {mg : Str → Option Value} {base : Heap} (T : Tx w K mg)
theorem sc_ri : FnScope Nri ["_law_it"] (defScope s__law_is_right) := ⟨rfl, rfl, rfl, by decide +kernel, rfl, by decide +kernel, by decide +kernel⟩
theorem sc_or : FnScope Nor ["_law_it", "_law_mate"] (defScope s__law_is_other_right) := ⟨rfl, rfl, rfl, by decide +kernel, rfl, by decide +kernel, by decide +kernel⟩
def spRi (K : PySem.W.Frag) : Sp := fun vs H Q _ => ∃ (t : Addr) (F G : Fm) (d : Drv), vs = [.ref t] ∧ ItAt K H t F G d ∧ ItOk 240 12 F G d ∧ ∀ H', Kp H H' → Q (.bl true) H'
def spOr (K : PySem.W.Frag) : Sp := fun vs H Q _ => ∃ (t u : Addr) (F G F' G' : Fm) (d d' : Drv), vs = [.ref t, .ref u] ∧ ItAt K H t F G d ∧ ItAt K H u F' G' d' ∧ ItOk 210 6 F G d ∧ ItOk 210 6 F' G' d' ∧ ∀ H', Kp H H' → Q (.bl true) H'
include T
theorem bd_ri : L2.Binds K (fdOf K (f__law_is_right K)) ["_law_it"] [] := T.F__law_is_right.binds fun _ _ _ _ _ _ us hl => match us, hl with | [_], _ => rfl
theorem bd_or : L2.Binds K (fdOf K (f__law_is_other_right K)) ["_law_it", "_law_mate"] [] := T.F__law_is_other_right.binds fun _ _ _ _ _ _ us hl => match us, hl with | [_, _], _ => rfl
theorem kb_dh : KBinds K (fdOf K (f_derivation_holds K)) ["one", "other", "thing"] ["thing", "other", "one"] gRev gRev := by
  obtain ⟨oc, od, kV, doc, pm, an, cdv, ct, osl, e, lk, hcd⟩ := T.F_derivation_holds.ex
  rw [e]
  refine ⟨fun s us ws _ hl => ?_, fun {vs us zs ws} r1 r2 => ?_⟩
  · match us, ws, hl with
    | [], [a, b, c], _ => exact .of_eq rfl
  · cases r1 with
    | cons _ _ => exact .nil
    | nil =>
      match r2 with
      | .nil => exact .nil
      | .cons a .nil => exact .nil
      | .cons a (.cons b .nil) => exact .nil
      | .cons a (.cons b (.cons c .nil)) => exact .cons c (.cons b (.cons a .nil))
      | .cons a (.cons b (.cons c (.cons d r))) => exact .nil
theorem ok_ri : AQ.FnG P w K mg base 430 (f__law_is_right K) (fdOf K (f__law_is_right K)) ["_law_it"] (spRi K) := by
  have gM := (gMade (P := P) (base := base) T).mono (show 69 ≤ 100 by decide)
  have gV := dv_all (P := P) (base := base) T 240
  have gH := (ok_dh (P := P) (base := base) T 240).mono (show 13 + 240 ≤ 429 by decide)
  have gJ := (ok_judge (P := P) (base := base) T).mono (show 301 ≤ 429 by decide)
  have gF := (ok_follows (P := P) (base := base) T).mono (show 34 ≤ 100 by decide)
  refine AQ.okG (k := 100) (n := 429) (by decide) T.F__law_is_right sc_ri (fun vs H Q E h => by obtain ⟨_, _, _, _, rfl, _⟩ := h; rfl) (fun cdv A outer s H vs Q E hD hr h => ⟨_, PSs.nox (
    pss_cons (ps_par3 (i := 1) (j := 2) (l := 3) rfl sc_ri.nd rfl rfl rfl (by decide) (by decide) (by decide) rfl rfl rfl (pa_cons (pe_call gM hr rfl T.g__law_made T.F__law_made.kp (bd_lmade T) .nil pass0 (pa_cons (pe_ix ix_tup (pv 0) pe_int (fun _ _ => rfl)) pa_nil)) (pa_cons (pe_call gM hr rfl T.g__law_made T.F__law_made.kp (bd_lmade T) .nil pass0 (pa_cons (pe_ix ix_tup (pv 0) pe_int (fun _ _ => rfl)) pa_nil)) (pa_cons (AQ.pe_callP gV hD.1 rfl T.g__law_is_derived T.F__law_is_derived.kp (bd_dv T) .nil pass0 (pa_cons (pe_lst (pa_cons (pe_ix ix_tup (pv 0) pe_int (fun _ _ => rfl)) pa_nil)) (pa_cons (pe_lst (pa_cons (pe_ix ix_tup (pv 0) pe_int (fun _ _ => rfl)) pa_nil)) (pa_cons (pe_ix ix_tup (pv 0) pe_int (fun _ _ => rfl)) pa_nil)))) pa_nil))) rfl) 
    (pss_cons (ps_set (i := 4) sc_ri.nd rfl (Or.inl rfl) (pe_lst (pa_cons (AQ.pe_callP gH hD.1 rfl T.g_derivation_holds T.F_derivation_holds.kp (bd_dh T) .nil pass0 (pa_cons (pv 1) (pa_cons (pv 2) (pa_cons (pe_ix ix_tup (pv 0) pe_int (fun _ _ => rfl)) pa_nil)))) (pa_cons (AQ.pe_callKP gH hD.1 rfl T.g_derivation_holds T.F_derivation_holds.kp (kb_dh T) (pk_cons (pe_ix ix_tup (pv 0) pe_int (fun _ _ => rfl)) (pk_cons (pv 2) (pk_cons (pv 1) pk_nil)))) pa_nil)))) 
    (pss_cons (ps_if (pt_cmpR op_ne (pe_callB (AQ.call_repr_bls hD.2 hr.units) rfl T.b_repr (by decide +kernel) (pa_cons (pv 4) pa_nil)) (pe_callB (AQ.call_repr_bls hD.2 hr.units) rfl T.b_repr (by decide +kernel) (pa_cons (pe_lst (pa_cons (pv 3) (pa_cons (pv 3) pa_nil))) pa_nil)) (nomark _))
        (pss_one (ps_ret pe_bl)) pss_nil) 
    (pss_cons (ps_asg (AQ.pe_callP gJ hD.1 rfl T.g_judge T.F_judge.kp (bd_judge T) .nil pass0 (pa_cons (pv 1) (pa_cons (pv 2) pa_nil))) (pg_tup rfl (pgs_cons (pg_name (i := 5) sc_ri.nd rfl (Or.inl rfl)) (pgs_cons (pg_name (i := 6) sc_ri.nd rfl (Or.inl rfl)) pgs_nil)))) 
    (pss_one (ps_ret (pe_and (pe_cmpR op_eq (pv 5) pe_str (nomark _)) (pe_and (pe_cmpR op_is_bl (pe_call gF hr rfl T.g_follows T.F_follows.kp (bd_follows T) .nil pass0 (pa_cons (pv 1) (pa_cons (pv 2) pa_nil))) pe_bl (nomark _)) (pe_one (AQ.pe_callP gV hD.1 rfl T.g__law_is_derived T.F__law_is_derived.kp (bd_dv T) .nil pass0 (pa_cons (pe_lst (pa_cons (pe_ix ix_tup (pv 0) pe_int (fun _ _ => rfl)) pa_nil)) (pa_cons (pe_lst (pa_cons (pe_ix ix_tup (pv 0) pe_int (fun _ _ => rfl)) pa_nil)) (pa_cons (pv 6) pa_nil))))))))))))), ?_⟩)
  obtain ⟨t, F, G, d, rfl, ⟨p, r, e, et, hF, hG, hd⟩, ok, q⟩ := h
  have s1 : 1 ≤ sizeLine := Nat.le_trans (Nat.le_succ 1) two_sz
  refine ⟨_, rfl, t, _, _, _, rfl, rfl, SqT.of et, atI_nat (j := 0) rfl, p, F, rfl, hF, ok.mF.d, ok.mF.z, ok.mF.a, fun a1 H1 ha1 k1 => ?_⟩
  refine ⟨_, rfl, t, _, _, _, rfl, rfl, SqT.of (k1 _ _ et), atI_nat (j := 1) rfl, r, G, rfl, hG.kp k1, ok.mG.d, ok.mG.z, ok.mG.a, fun a2 H2 ha2 k2 => ?_⟩
  have k02 := k1.trans k2
  refine ⟨_, rfl, t, _, _, _, rfl, rfl, SqT.of (k02 _ _ et), atI_nat (j := 0) rfl, s1, fun l3 hl3 => ?_⟩
  have k3 := kp_new (o := .lst [.ref p]) hl3
  have j3 := TLs.one hl3 (hF.kp k02)
  generalize upd H2 l3 (.lst [.ref p]) = H3 at k3 j3 ⊢
  have k03 := k02.trans k3
  refine ⟨_, rfl, t, _, _, _, rfl, rfl, SqT.of (k03 _ _ et), atI_nat (j := 1) rfl, s1, fun l4 hl4 => ?_⟩
  have k4 := kp_new (o := .lst [.ref r]) hl4
  have j4 := TLs.one hl4 (hG.kp k03)
  generalize upd H3 l4 (.lst [.ref r]) = H4 at k4 j4 ⊢
  have k04 := k03.trans k4
  refine ⟨_, rfl, t, _, _, _, rfl, rfl, SqT.of (k04 _ _ et), atI_nat (j := 2) rfl, ?_⟩
  refine ⟨l3, l4, e, [F], [G], d, rfl, j3.kp k4, j4, hd.kf (.of k04), ok.dp, short1 ok.dp ok.bn, DepL.one (by have := ok.dF; omega), DepL.one (by have := ok.dG; omega), din_dep ok.din (by have := ok.dF; omega) (by have := ok.dG; omega), fun H5 k5 => ⟨_, _, _, rfl, ?_⟩⟩
  have k05 := k04.trans k5
  have k25 := (k3.trans k4).trans k5
  have hA := ha1.kf (.of (k2.trans k25))
  have hB := ha2.kf (.of k25)
  have sh := short1 (F := F) (G := G) ok.dp ok.bn
  refine ⟨_, rfl, _, rfl, _, rfl, t, _, _, _, rfl, rfl, SqT.of (k05 _ _ et), atI_nat (j := 2) rfl, a1, a2, e, F, G, d, rfl, hA, hB, hd.kf (.of k05), ok.dp, sh, fun H6 k6 => ?_⟩
  have k06 := k05.trans k6
  refine ⟨_, rfl, t, _, _, _, rfl, rfl, SqT.of (k06 _ _ et), atI_nat (j := 2) rfl, _, rfl, _, rfl, a1, a2, e, F, G, d, rfl, hA.kf (.of k6), hB.kf (.of k6), hd.kf (.of k06), ok.dp, sh, fun H7 k7 => ⟨two_sz, fun l8 hl8 => ?_⟩⟩
  have k8 := kp_new (o := .lst [.bl (AB.isDrv [F] [G] d), .bl (AB.isDrv [F] [G] d)]) hl8
  have e8 : upd H7 l8 (.lst [.bl (AB.isDrv [F] [G] d), .bl (AB.isDrv [F] [G] d)]) l8 = some (.lst [.bl (AB.isDrv [F] [G] d), .bl (AB.isDrv [F] [G] d)]) := upd_same
  generalize upd H7 l8 (.lst [.bl (AB.isDrv [F] [G] d), .bl (AB.isDrv [F] [G] d)]) = H8 at k8 e8 ⊢
  refine ⟨_, rfl, l8, _, _, rfl, e8, _, rfl, _, rfl, two_sz, fun l9 hl9 => ⟨l9, _, _, rfl, upd_same, rfl, _, rfl, ite2 (fun z => ?_) fun _ => ?_⟩⟩
  · exact absurd z (by simp)
  have k9 := kp_new (o := .lst [.bl (AB.isDrv [F] [G] d), .bl (AB.isDrv [F] [G] d)]) hl9
  generalize upd H8 l9 (.lst [.bl (AB.isDrv [F] [G] d), .bl (AB.isDrv [F] [G] d)]) = H9 at k9 ⊢
  have k59 := ((k6.trans k7).trans k8).trans k9
  refine ⟨_, rfl, _, rfl, a1, a2, F, G, rfl, hA.kf (.of k59), hB.kf (.of k59), ok.z, ok.a, AB.vp_valid ok.vp, fun dd pd tp H10 etp hdv hisd hdp hbn k10 => ?_⟩
  refine ⟨tp, _, rfl, SqT.of etp, rfl, _, _, rfl, _, _, rfl, rfl, ?_⟩
  refine ⟨_, rfl, rfl, _, rfl, ite2 (fun _ => ?_) fun z => absurd (show decide (V.str (Str.ofString "derivation") = V.str (Str.ofString "derivation")) = true from decide_eq_true rfl) z⟩
  have k5A := k59.trans k10
  refine ⟨_, rfl, _, rfl, a1, a2, F, G, rfl, hA.kf (.of k5A), hB.kf (.of k5A), ok.z, ok.a, AB.vp_valid ok.vp, fun H11 k11 => ⟨true, true, rfl, rfl, _, rfl, ite2 (fun _ => ?_) fun z => absurd (show decide (true = true) = true from rfl) z⟩⟩
  have k0B := k05.trans (k5A.trans k11)
  refine ⟨_, rfl, t, _, _, _, rfl, rfl, SqT.of (k0B _ _ et), atI_nat (j := 0) rfl, s1, fun m1 hm1 => ?_⟩
  have c1 := kp_new (o := .lst [.ref p]) hm1
  have i1 := TLs.one hm1 (hF.kp k0B)
  generalize upd H11 m1 (.lst [.ref p]) = I1 at c1 i1 ⊢
  have k0C := k0B.trans c1
  refine ⟨_, rfl, t, _, _, _, rfl, rfl, SqT.of (k0C _ _ et), atI_nat (j := 1) rfl, s1, fun m2 hm2 => ?_⟩
  have c2 := kp_new (o := .lst [.ref r]) hm2
  have i2 := TLs.one hm2 (hG.kp k0C)
  generalize upd I1 m2 (.lst [.ref r]) = I2 at c2 i2 ⊢
  refine ⟨_, rfl, m1, m2, pd, [F], [G], dd, rfl, i1.kp c2, i2, hdv.kf (.of ((k11.trans c1).trans c2)), by omega, short1 (by omega) (by omega), DepL.one (by have := ok.dF; omega), DepL.one (by have := ok.dG; omega), din_dep (AB.din_of hisd) (by have := ok.dF; omega) (by have := ok.dG; omega), fun H12 k12 => ?_⟩
  rw [hisd]
  exact q H12 ((k0C.trans c2).trans k12)
theorem ok_or : AQ.FnD P w K mg base 430 (f__law_is_other_right K) (fdOf K (f__law_is_other_right K)) ["_law_it", "_law_mate"] (spOr K) := by
  have gM := (gMade (P := P) (base := base) T).mono (show 69 ≤ 100 by decide)
  have gV := dv_all (P := P) (base := base) T 240
  have gH := (ok_dh (P := P) (base := base) T 240).mono (show 13 + 240 ≤ 429 by decide)
  have gO := (ok_lov (P := P) (base := base) T).mono (show 70 ≤ 100 by decide)
  refine AQ.okD (k := 100) (n := 429) (by decide) T.F__law_is_other_right sc_or (fun vs H Q E h => by obtain ⟨_, _, _, _, _, _, _, _, rfl, _⟩ := h; rfl) (fun cdv A outer s H vs Q E hD hr h => ⟨_, PSs.nox (
    pss_cons (ps_set (i := 2) sc_or.nd rfl (Or.inl rfl) (pe_call gO hr rfl T.g__law_over T.F__law_over.kp (bd_lov T) .nil pass0 (pa_cons (pe_tup (pa_cons (pe_ix ix_tup (pv 0) pe_int (fun _ _ => rfl)) (pa_cons (pe_ix ix_tup (pv 0) pe_int (fun _ _ => rfl)) (pa_cons (pe_ix ix_tup (pv 1) pe_int (fun _ _ => rfl)) pa_nil)))) pa_nil))) 
    (pss_cons (ps_set (i := 3) sc_or.nd rfl (Or.inl rfl) (AQ.pe_callP gV hD rfl T.g__law_is_derived T.F__law_is_derived.kp (bd_dv T) .nil pass0 (pa_cons (pe_lst (pa_cons (pe_ix ix_tup (pv 2) pe_int (fun _ _ => rfl)) pa_nil)) (pa_cons (pe_lst (pa_cons (pe_ix ix_tup (pv 2) pe_int (fun _ _ => rfl)) pa_nil)) (pa_cons (pe_ix ix_tup (pv 2) pe_int (fun _ _ => rfl)) pa_nil))))) (pss_one (ps_ret (pe_cmpR op_eq (pe_callB AQ.call_repr_bl rfl T.b_repr (by decide +kernel) (pa_cons (AQ.pe_callP gH hD rfl T.g_derivation_holds T.F_derivation_holds.kp (bd_dh T) .nil pass0 (pa_cons (pe_call gM hr rfl T.g__law_made T.F__law_made.kp (bd_lmade T) .nil pass0 (pa_cons (pe_ix ix_tup (pv 2) pe_int (fun _ _ => rfl)) pa_nil)) (pa_cons (pe_call gM hr rfl T.g__law_made T.F__law_made.kp (bd_lmade T) .nil pass0 (pa_cons (pe_ix ix_tup (pv 2) pe_int (fun _ _ => rfl)) pa_nil)) (pa_cons (pe_ix ix_tup (pv 2) pe_int (fun _ _ => rfl)) pa_nil)))) pa_nil)) (pe_callB AQ.call_repr_bl rfl T.b_repr (by decide +kernel) (pa_cons (pv 3) pa_nil)) (nomark _)))))), ?_⟩)
  obtain ⟨t, u, F, G, F', G', d, d', rfl, ⟨p, r, e, et, hF, hG, hd⟩, ⟨p', r', e', et', hF', hG', hd'⟩, ok, ok', q⟩ := h
  have s1 : 1 ≤ sizeLine := Nat.le_trans (Nat.le_succ 1) two_sz
  have aL := AB.alls_over F G
  have aF := AB.alls_le (F := .all F) (G := .imp (.all F) (.all G)) (by simp [AB.subs, AB.subs_self])
  have aG := AB.alls_le (F := .all G) (G := .imp (.all F) (.all G)) (by simp [AB.subs, AB.subs_self])
  have oa := ok.a
  have oz := ok.z
  have eF : AB.dep (.all F) ≤ 62 := by have := ok.dF; simp only [AB.dep]; omega
  have eG : AB.dep (.all G) ≤ 62 := by have := ok.dG; simp only [AB.dep]; omega
  have mF : Mk2 (.all F) := ⟨by omega, by simp only [AB.size]; omega, by omega⟩
  have mG : Mk2 (.all G) := ⟨by omega, by simp only [AB.size]; omega, by omega⟩
  have hfs : DepL 62 (AB.dOver G d').fs := fun M hM => by
    simp only [AB.dOver, AB.Drv.fs, List.mem_cons] at hM
    rcases hM with rfl | z
    · exact eG
    · exact din_dep ok'.din (by have := ok'.dF; omega) (by have := ok'.dG; omega) M z
  have o1 := ok'.dp
  have o2 := ok'.bn
  have hdp : (AB.dOver G d').depth ≤ 240 := by show d'.depth + 1 ≤ 240; omega
  have hbn : (AB.dOver G d').bn ≤ 12 := by show d'.bn + 1 ≤ 12; omega
  have sh := short1 (F := .all F) (G := .all G) hdp hbn
  refine ⟨_, rfl, t, _, _, _, rfl, rfl, SqT.of et, atI_nat (j := 0) rfl, _, rfl, t, _, _, _, rfl, rfl, SqT.of et, atI_nat (j := 1) rfl, _, rfl, u, _, _, _, rfl, rfl, SqT.of et', atI_nat (j := 2) rfl, three_sz, fun t1 ht1 => ?_⟩
  have k1 := kp_new (o := .tup [.ref p, .ref r, .ref e']) ht1
  refine ⟨t1, F, G, d', rfl, ⟨p, r, e', upd_same, hF.kp k1, hG.kp k1, hd'.kf (.of k1)⟩, mG, fun wr H2 ⟨p2, r2, e2, ew, jF, jG, jd⟩ k2 => ?_⟩
  have k02 := k1.trans k2
  refine ⟨_, rfl, wr, _, _, _, rfl, rfl, SqT.of ew, atI_nat (j := 0) rfl, s1, fun l3 hl3 => ?_⟩
  have k3 := kp_new (o := .lst [.ref p2]) hl3
  have j3 := TLs.one hl3 jF
  generalize upd H2 l3 (.lst [.ref p2]) = H3 at k3 j3 ⊢
  refine ⟨_, rfl, wr, _, _, _, rfl, rfl, SqT.of (k3 _ _ ew), atI_nat (j := 1) rfl, s1, fun l4 hl4 => ?_⟩
  have k4 := kp_new (o := .lst [.ref r2]) hl4
  have j4 := TLs.one hl4 (jG.kp k3)
  generalize upd H3 l4 (.lst [.ref r2]) = H4 at k4 j4 ⊢
  have k24 := k3.trans k4
  refine ⟨_, rfl, wr, _, _, _, rfl, rfl, SqT.of (k24 _ _ ew), atI_nat (j := 2) rfl, ?_⟩
  refine ⟨l3, l4, e2, [.all F], [.all G], AB.dOver G d', rfl, j3.kp k4, j4, jd.kf (.of k24), hdp, sh, DepL.one eF, DepL.one eG, hfs, fun H5 k5 => ?_⟩
  have k25 := k24.trans k5
  refine ⟨_, rfl, wr, _, _, _, rfl, rfl, SqT.of (k25 _ _ ew), atI_nat (j := 0) rfl, p2, .all F, rfl, jF.kp k25, mF.d, mF.z, mF.a, fun a1 H6 ha1 k6 => ?_⟩
  have k26 := k25.trans k6
  refine ⟨_, rfl, wr, _, _, _, rfl, rfl, SqT.of (k26 _ _ ew), atI_nat (j := 1) rfl, r2, .all G, rfl, jG.kp k26, mG.d, mG.z, mG.a, fun a2 H7 ha2 k7 => ?_⟩
  have k27 := k26.trans k7
  refine ⟨_, rfl, wr, _, _, _, rfl, rfl, SqT.of (k27 _ _ ew), atI_nat (j := 2) rfl, a1, a2, e2, .all F, .all G, AB.dOver G d', rfl, ha1.kf (.of k7), ha2, jd.kf (.of k27), hdp, sh, fun H8 k8 => ⟨_, rfl, ?_⟩⟩
  refine ⟨_, rfl, _, rfl, rfl, ?_⟩
  show Q (.bl (decide _)) H8
  rw [decide_eq_true rfl]
  exact q H8 ((k02.trans k27).trans k8)
end
end AT
end
section
set_option Elab.async false
set_option linter.all false
set_option maxRecDepth 100000
/-! _law_known_right. -/
namespace AT
open PySem PySem.Spec PyProof.Rows L2
open AB (Fm At Drv)
/-- what is put together of the known ones -/
theorem k_it {r : List Nat} (h : r.length ≤ 3) : ItOk 240 12 (AB.kRun r).1 (AB.kRun r).2.1 (AB.kRun r).2.2 ∧ AB.isDrv [(AB.kRun r).1] [(AB.kRun r).2.1] (AB.kRun r).2.2 = true := by
  have q := AB.k_ok h
  simp only [AB.kOk, Bool.and_eq_true, decide_eq_true_eq] at q
  obtain ⟨a, b, c, d, e⟩ := q
  exact ⟨⟨AB.kRun_vp r, b, c, by omega, by omega, AB.din_of a⟩, a⟩
abbrev Nkr : List Str := ["_law_deck_here", "_law_a", "_law_b", "_law_it", "_law_turn", "_law_way"]
section
variable {P : Program} {w : World} {K : PySem.W.Frag} {mg : Str → Option Value} {base : Heap} (T : Tx w K mg)
theorem sc_kr : FnScope Nkr ["_law_deck_here"] (defScope s__law_known_right) := ⟨rfl, rfl, rfl, by decide +kernel, rfl, by decide +kernel, by decide +kernel⟩
def spKr (K : PySem.W.Frag) : Sp := fun vs H Q _ => ∃ (D c : Addr) (N : Nat), vs = [.ref D] ∧ Dk H D c N ∧ N ≤ 900000 ∧ ∀ H', Q (.bl true) H'
abbrev KAt (K : PySem.W.Frag) (H : Hp) (t : Addr) (r : List Nat) : Prop := ItAt K H t (AB.kRun r).1 (AB.kRun r).2.1 (AB.kRun r).2.2
include T
theorem bd_kr : L2.Binds K (fdOf K (f__law_known_right K)) ["_law_deck_here"] [] := T.F__law_known_right.binds fun _ _ _ _ _ _ us hl => match us, hl with | [_], _ => rfl
set_option maxHeartbeats 2000000 in
theorem ok_kr : AQ.FnG P w K mg base 431 (f__law_known_right K) (fdOf K (f__law_known_right K)) ["_law_deck_here"] (spKr K) := by
  have gA := (ok_atom (P := P) (base := base) T).mono (show 5 ≤ 100 by decide)
  have gX := (ok_rsh (P := P) (base := base) T).mono (show 5 ≤ 100 by decide)
  have gD := (ok_ldr (P := P) (base := base) T).mono (show 1 ≤ 100 by decide)
  have gO := (ok_lov (P := P) (base := base) T).mono (show 70 ≤ 100 by decide)
  have gN := (ok_lden (P := P) (base := base) T).mono (show 70 ≤ 100 by decide)
  have gJ := (ok_ljo (P := P) (base := base) T).mono (show 70 ≤ 100 by decide)
  have gV := (dv_all (P := P) (base := base) T 240).mono (show 189 + 240 ≤ 430 by decide)
  have gR := ok_ri (P := P) (base := base) T
  refine AQ.okG (k := 100) (n := 430) (by decide) T.F__law_known_right sc_kr (fun vs H Q E h => by obtain ⟨_, _, _, rfl, _⟩ := h; rfl) (fun cdv A outer s H vs Q E hD hr h => ⟨_, PSs.nox (
    pss_cons (ps_asg (pe_tup (pa_cons (pe_tup (pa_cons pe_str (pa_cons pe_str pa_nil))) (pa_cons (pe_tup (pa_cons pe_str (pa_cons pe_str pa_nil))) pa_nil))) (pg_tup rfl (pgs_cons (pg_name (i := 1) sc_kr.nd rfl (Or.inl rfl)) (pgs_cons (pg_name (i := 2) sc_kr.nd rfl (Or.inl rfl)) pgs_nil)))) 
    (pss_cons (ps_set (i := 3) sc_kr.nd rfl (Or.inl rfl) (pe_tup (pa_cons (pv 1) (pa_cons (pv 1) (pa_cons (pe_tup (pa_cons pe_str (pa_cons (pe_call gA hr rfl T.g_atom T.F_atom.kp (bd_atom T) .nil pass0 (pa_cons pe_str pa_nil)) pa_nil))) pa_nil))))) 
    (pss_cons (ps_for PassesOwn.never rfl (pi_range1 rfl T.b_range (pa_cons pe_int pa_nil)) (pg_name (i := 4) sc_kr.nd rfl (Or.inl rfl)) 
    (pss_cons (ps_set (i := 5) sc_kr.nd rfl (Or.inl rfl) (pe_call gD hr rfl T.g__law_draw T.F__law_draw.kp (bd_ldr T) .nil pass0 (pa_cons (pv 0) (pa_cons pe_int pa_nil)))) 
    (pss_cons (ps_set (i := 3) sc_kr.nd rfl (Or.inl rfl) (pe_ifExp (pt_cmpR op_eq (pv 5) pe_int (nomark _)) (pe_call gO hr rfl T.g__law_over T.F__law_over.kp (bd_lov T) .nil pass0 (pa_cons (pv 3) pa_nil)) (pe_call gN hr rfl T.g__law_denied T.F__law_denied.kp (bd_lden T) .nil pass0 (pa_cons (pv 3) pa_nil)))) 
    (pss_cons (ps_if (pt_cmpR op_gt (pv 5) pe_int (nomark _))
        (pss_one (ps_set (i := 3) sc_kr.nd rfl (Or.inl rfl) (pe_call gJ hr rfl T.g__law_joined T.F__law_joined.kp (bd_ljo T) .nil pass0 (pa_cons (pv 3) (pa_cons (pe_tup (pa_cons (pv 2) (pa_cons (pe_tup (pa_cons pe_str (pa_cons (pe_tup (pa_cons pe_str (pa_cons pe_str pa_nil))) (pa_cons (pv 2) pa_nil)))) (pa_cons (pe_tup (pa_cons pe_str (pa_cons (pe_op (op_own T.self_first (meth_rsh T) gX hr (bd_rsh T) pass0) (pe_call gA hr rfl T.g_atom T.F_atom.kp (bd_atom T) .nil pass0 (pa_cons pe_str pa_nil)) (pe_call gA hr rfl T.g_atom T.F_atom.kp (bd_atom T) .nil pass0 (pa_cons pe_str pa_nil))) (pa_cons (pe_tup (pa_cons pe_str (pa_cons (pe_call gA hr rfl T.g_atom T.F_atom.kp (bd_atom T) .nil pass0 (pa_cons pe_str pa_nil)) pa_nil))) pa_nil)))) pa_nil)))) pa_nil))))) pss_nil) (pss_one (ps_if (PW.pt (pw_or (pt_not (pt_val (AQ.pe_callP gV hD.1 rfl T.g__law_is_derived T.F__law_is_derived.kp (bd_dv T) .nil pass0 (pa_cons (pe_lst (pa_cons (pe_ix ix_tup (pv 3) pe_int (fun _ _ => rfl)) pa_nil)) (pa_cons (pe_lst (pa_cons (pe_ix ix_tup (pv 3) pe_int (fun _ _ => rfl)) pa_nil)) (pa_cons (pe_ix ix_tup (pv 3) pe_int (fun _ _ => rfl)) pa_nil)))))) (pw_or1 (pt_not (pt_val (AQ.pe_callP gR hD rfl T.g__law_is_right T.F__law_is_right.kp (bd_ri T) .nil pass0 (pa_cons (pv 3) pa_nil)))))))
        (pss_one (ps_ret pe_bl)) pss_nil)))))) (pss_one (ps_ret pe_bl))))), ?_⟩)
  obtain ⟨D, c, N, rfl, hdk, hN, q⟩ := h
  have s1 : 1 ≤ sizeLine := Nat.le_trans (Nat.le_succ 1) two_sz
  refine ⟨two_sz, fun t1 ht1 => ⟨two_sz, fun t2 ht2 => ⟨two_sz, fun t3 ht3 => ?_⟩⟩⟩
  have j1 := tr_at (H := H) (t := t1) letS_a
  have k1 := kp_new (o := .tup [.str "atom", .str "a"]) ht1
  generalize upd H t1 (.tup [.str "atom", .str "a"]) = H1 at j1 k1 ht2 ht3 ⊢
  have j2 := tr_at (H := H1) (t := t2) letS_b
  have k2 := kp_new (o := .tup [.str "atom", .str "b"]) ht2
  generalize upd H1 t2 (.tup [.str "atom", .str "b"]) = H2 at j2 k2 ht3 ⊢
  have k3 := kp_new (o := .tup [.ref t1, .ref t2]) ht3
  have e3 : upd H2 t3 (.tup [.ref t1, .ref t2]) t3 = some (.tup [.ref t1, .ref t2]) := upd_same
  generalize upd H2 t3 (.tup [.ref t1, .ref t2]) = H3 at k3 e3 ⊢
  refine ⟨t3, _, rfl, SqT.of e3, rfl, _, _, rfl, _, _, rfl, rfl, ?_⟩
  refine ⟨_, rfl, _, rfl, .a, by rw [letS_a]; rfl, fun a4 H4 ha4 k4 => ⟨two_sz, fun t5 ht5 => ⟨three_sz, fun t6 ht6 => ?_⟩⟩⟩
  have k5 := kp_new (o := .tup [.str "same", .ref a4]) ht5
  have e5 : upd H4 t5 (.tup [.str "same", .ref a4]) t5 = some (.tup [.str "same", .ref a4]) := upd_same
  generalize upd H4 t5 (.tup [.str "same", .ref a4]) = H5 at k5 e5 ht6 ⊢
  have k6 := kp_new (o := .tup [.ref t1, .ref t1, .ref t5]) ht6
  have k36 := (k4.trans k5).trans k6
  have hI0 : KAt K (upd H5 t6 (.tup [.ref t1, .ref t1, .ref t5])) t6 [] := ⟨t1, t1, t5, upd_same, j1.kp ((k2.trans k3).trans k36), j1.kp ((k2.trans k3).trans k36), a4, k6 _ _ e5, ha4.kf (.of (k5.trans k6))⟩
  generalize upd H5 t6 (.tup [.ref t1, .ref t1, .ref t5]) = H6 at k6 k36 hI0 ⊢
  have k06 := ((k1.trans k2).trans k3).trans k36
  have jb6 := j2.kp (k3.trans k36)
  refine ⟨3, rfl, by decide, by decide, for_range (n := 3) (fun i σ' H' => ∃ (t : Addr) (r : List Nat) (x y : Option V), r.length = i ∧ σ' = [some (.ref D), some (.ref t1), some (.ref t2), some (.ref t), x, y] ∧ KAt K H' t r ∧ TrAt H' (.atm .b) t2 ∧ Dk H' D c (N + i)) ?_ ?_ ?_⟩
  · exact ⟨t6, [], none, none, rfl, rfl, hI0, jb6, hdk.kp k06⟩
  · rintro i σ' H7 hi ⟨t, r, x, y, hr3, rfl, hI, jb, dk⟩
    refine ⟨_, rfl, D, c, N + i, 4, rfl, dk, by decide, by decide, by omega, fun n H8 hn dk8 k8 => ?_⟩
    have kf8 := k8.kf dk
    have hI8 := hI.kf kf8
    have jb8 := jb.kf kf8
    have l3 : ∀ n : Nat, (n :: r).length ≤ 3 := fun n => by rw [List.length_cons]; omega
    have o1 := (k_it (l3 1)).1
    refine ⟨_, rfl, rfl, _, rfl, ite2 (fun z => ?ov) fun z => ?dn⟩
    case' ov =>
      have z0 : n = 0 := by have := V.int.inj (of_decide_eq_true z); omega
      refine ⟨_, rfl, t, _, _, _, rfl, hI8, (k_it (l3 0)).1.mG, fun t9 H9 hI9' k9 => ?_⟩
      refine ⟨_, rfl, _, _, rfl, rfl, _, rfl, ite2 (fun z2 => ?_) fun _ => ?_⟩
      · exfalso
        have := of_decide_eq_true z2
        omega
      obtain ⟨R, hR, hI9⟩ : ∃ R : List Nat, R.length = i + 1 ∧ KAt K H9 t9 R := ⟨0 :: r, by rw [List.length_cons, hr3], hI9'⟩
      have dk9 := dk8.kp k9
      have jb9 := jb8.kp k9
    case' dn =>
      refine ⟨_, rfl, t, _, _, _, rfl, hI8, o1.mF, o1.mG, fun t9 H9 hI9' k9 => ?_⟩
      refine ⟨_, rfl, _, _, rfl, rfl, _, rfl, ite2 (fun z2 => ?jo) fun z2 => ?dd⟩
    case' dd =>
      obtain ⟨R, hR, hI9⟩ : ∃ R : List Nat, R.length = i + 1 ∧ KAt K H9 t9 R := ⟨1 :: r, by rw [List.length_cons, hr3], hI9'⟩
      have dk9 := dk8.kp k9
      have jb9 := jb8.kp k9
    case' jo =>
      have hI1 : KAt K H9 t9 (1 :: r) := hI9'
      have dkA := dk8.kp k9
      have jbA := jb8.kp k9
      clear hI9' k9 hI8 dk8 jb8 k8 kf8
      have o2 := (k_it (l3 2)).1
      refine ⟨_, rfl, _, rfl, two_sz, fun u1 hu1 => ⟨_, rfl, three_sz, fun u2 hu2 => ?_⟩⟩
      have k1 := kp_new (o := .tup [.str "atom", .str "c"]) hu1
      have j1 := tr_at (H := H9) (t := u1) letS_c
      generalize upd H9 u1 (.tup [.str "atom", .str "c"]) = I1 at k1 j1 hu2 ⊢
      have k2 := kp_new (o := .tup [.str "if", .ref u1, .ref t2]) hu2
      have j2 := tr_imp hu2 j1 (jbA.kp k1)
      generalize upd I1 u2 (.tup [.str "if", .ref u1, .ref t2]) = I2 at k2 j2 ⊢
      refine ⟨.c, by rw [letS_c]; rfl, fun a3 I3 ha3 k3 => ⟨.b, by rw [letS_b]; rfl, fun a4 I4 ha4 k4 => ?_⟩⟩
      have hx2 := ha3.kf (.of k4)
      obtain ⟨_, f1⟩ := id hx2.fo
      obtain ⟨dx1, _, _, _, _, _, _, e1, _⟩ := f1.ex
      obtain ⟨_, f2⟩ := id ha4.fo
      obtain ⟨dx2, _, _, _, _, _, _, e2, _⟩ := f2.ex
      refine ⟨a3, a4, dx1, dx2, _, _, rfl, rfl, e1, e2, a3, a4, .atm .c, .atm .b, rfl, hx2, ha4, (by show (AB.alls (.atm .c)).length + (AB.alls (.atm .b)).length < 60; decide), by decide, fun a5 I5 ha5 k5 => ⟨a5, rfl, ?_⟩⟩
      refine ⟨.b, by rw [letS_b]; rfl, fun a6 I6 ha6 k6 => ⟨two_sz, fun u7 hu7 => ⟨three_sz, fun u8 hu8 => ⟨three_sz, fun u9 hu9 => ?_⟩⟩⟩⟩
      have k7 := kp_new (o := .tup [.str "same", .ref a6]) hu7
      have e7 : upd I6 u7 (.tup [.str "same", .ref a6]) u7 = some (.tup [.str "same", .ref a6]) := upd_same
      generalize upd I6 u7 (.tup [.str "same", .ref a6]) = I7 at k7 e7 hu8 hu9 ⊢
      have k8 := kp_new (o := .tup [.str "right", .ref a5, .ref u7]) hu8
      have e8 : upd I7 u8 (.tup [.str "right", .ref a5, .ref u7]) u8 = some (.tup [.str "right", .ref a5, .ref u7]) := upd_same
      generalize upd I7 u8 (.tup [.str "right", .ref a5, .ref u7]) = I8 at k8 e8 hu9 ⊢
      have k9 := kp_new (o := .tup [.ref t2, .ref u2, .ref u8]) hu9
      have e9 : upd I8 u9 (.tup [.ref t2, .ref u2, .ref u8]) u9 = some (.tup [.ref t2, .ref u2, .ref u8]) := upd_same
      generalize upd I8 u9 (.tup [.ref t2, .ref u2, .ref u8]) = I9 at k9 e9 ⊢
      have k29 := (((k3.trans k4).trans k5).trans k6).trans ((k7.trans k8).trans k9)
      have kA9 := (k1.trans k2).trans k29
      have hM : ItAt K I9 u9 AB.kMate.1 AB.kMate.2.1 AB.kMate.2.2 := ⟨t2, u2, u8, e9, jbA.kp kA9, j2.kp k29, a5, u7, k9 _ _ e8, ha5.kf (.of (k6.trans ((k7.trans k8).trans k9))), a6, k9 _ _ (k8 _ _ e7), ha6.kf (.of ((k7.trans k8).trans k9))⟩
      have dkB := dkA.kp kA9
      have jbB := jbA.kp kA9
      have hIB := hI1.kp kA9
      refine ⟨t9, u9, _, _, _, _, _, _, rfl, hIB, hM, o2.mF, o2.mG, fun t9 H9 hI9' k10 => ?_⟩
      obtain ⟨R, hR, hI9⟩ : ∃ R : List Nat, R.length = i + 1 ∧ KAt K H9 t9 R := ⟨2 :: r, by rw [List.length_cons, hr3], hI9'⟩
      have dk9 := dkB.kp k10
      have jb9 := jbB.kp k10
    all_goals
      obtain ⟨okR, isR⟩ := k_it (r := R) (by omega)
      obtain ⟨pf, pr, pd, et, hF, hG, hd⟩ := id hI9
      refine ⟨_, rfl, t9, _, _, _, rfl, rfl, SqT.of et, atI_nat (j := 0) rfl, s1, fun m1 hm1 => ?_⟩
      have c1 := kp_new (o := .lst [.ref pf]) hm1
      have i1 := TLs.one hm1 hF
      generalize upd H9 m1 (.lst [.ref pf]) = J1 at c1 i1 ⊢
      refine ⟨_, rfl, t9, _, _, _, rfl, rfl, SqT.of (c1 _ _ et), atI_nat (j := 1) rfl, s1, fun m2 hm2 => ?_⟩
      have c2 := kp_new (o := .lst [.ref pr]) hm2
      have i2 := TLs.one hm2 (hG.kp c1)
      generalize upd J1 m2 (.lst [.ref pr]) = J2 at c2 i2 ⊢
      have c02 := c1.trans c2
      refine ⟨_, rfl, t9, _, _, _, rfl, rfl, SqT.of (c02 _ _ et), atI_nat (j := 2) rfl, m1, m2, pd, [(AB.kRun R).1], [(AB.kRun R).2.1], (AB.kRun R).2.2, rfl, i1.kp c2, i2, hd.kf (.of c02), okR.dp, short1 okR.dp okR.bn, DepL.one (by have := okR.dF; omega), DepL.one (by have := okR.dG; omega), din_dep okR.din (by have := okR.dF; omega) (by have := okR.dG; omega), fun J3 c3 => ?_⟩
      rw [isR]
      have c03 := c02.trans c3
      refine ⟨true, rfl, iteF ⟨_, rfl, t9, _, _, _, rfl, hI9.kp c03, okR, fun J4 c4 => ⟨true, rfl, iteF ?_⟩⟩⟩
      have c04 := c03.trans c4
      exact ⟨t9, R, _, _, hR, rfl, hI9.kp c04, jb9.kp c04, dk9.kp c04⟩
  · rintro σ' H7 _
    exact q H7
end
end AT
end
section
set_option Elab.async false
set_option linter.all false
set_option maxRecDepth 100000
/-! law. -/
namespace AT
open PySem PySem.Spec PyProof.Rows L2
open AB (Fm At Drv)
/-- what is put together, before its size is looked at -/
structure Fr1 (D B : Nat) (F G : Fm) (d : Drv) : Prop where
  vp : AB.VP F G
  dp : d.depth ≤ D + 6
  bn : d.bn ≤ B + 1
  din : AB.DIn F G d
  dF : AB.dep F ≤ 62
  dG : AB.dep G ≤ 62
  zF : AB.size F ≤ 300
  zG : AB.size G ≤ 300
  aF : (AB.alls F).length ≤ 12
  aG : (AB.alls G).length ≤ 12
theorem Fr1.mF {D B : Nat} {F G : Fm} {d : Drv} (h : Fr1 D B F G d) : Mk2 F := ⟨by have := h.dF; omega, by have := h.zF; omega, by have := h.aF; omega⟩
theorem Fr1.mG {D B : Nat} {F G : Fm} {d : Drv} (h : Fr1 D B F G d) : Mk2 G := ⟨by have := h.dG; omega, by have := h.zG; omega, by have := h.aG; omega⟩
theorem ItOk.aF {D B : Nat} {F G : Fm} {d : Drv} (h : ItOk D B F G d) : (AB.alls F).length ≤ 6 := Nat.le_trans (AB.alls_le (G := .imp F G) (by simp [AB.subs, AB.subs_self])) h.a
theorem ItOk.aG {D B : Nat} {F G : Fm} {d : Drv} (h : ItOk D B F G d) : (AB.alls G).length ≤ 6 := Nat.le_trans (AB.alls_le (G := .imp F G) (by simp [AB.subs, AB.subs_self])) h.a
theorem alls_not (F : Fm) : (AB.alls (AB.fNot F)).length ≤ (AB.alls F).length := by
  have := AB.alls_imp F .no
  have e : (AB.alls .no).length = 0 := rfl
  show (AB.alls (.imp F .no)).length ≤ _
  omega
theorem alls_both (F G : Fm) : (AB.alls (AB.fBoth F G)).length ≤ (AB.alls F).length + (AB.alls G).length := by
  have a := alls_not (.imp F (AB.fNot G))
  have b := AB.alls_imp F (AB.fNot G)
  have c := alls_not G
  show (AB.alls (AB.fNot (.imp F (AB.fNot G)))).length ≤ _
  omega
theorem dep59 {D B : Nat} {F G : Fm} {d : Drv} (h : ItOk D B F G d) : AB.dep F ≤ 59 ∧ AB.dep G ≤ 59 ∧ AB.size F ≤ 59 ∧ AB.size G ≤ 59 := by
  have := h.z
  have := AB.dep_size F
  have := AB.dep_size G
  have := AB.dep_pos F
  have := AB.dep_pos G
  omega
theorem fr_over {D B : Nat} {F G : Fm} {d : Drv} (h : ItOk D B F G d) : Fr1 D B (.all F) (.all G) (AB.dOver G d) := by
  obtain ⟨a, b, z1, z2⟩ := dep59 h
  have := h.dp
  have := h.bn
  have := h.a
  have aL := AB.alls_over F G
  have aF := AB.alls_le (F := .all F) (G := .imp (.all F) (.all G)) (by simp [AB.subs, AB.subs_self])
  have aG := AB.alls_le (F := .all G) (G := .imp (.all F) (.all G)) (by simp [AB.subs, AB.subs_self])
  refine ⟨AB.vp_over h.vp, ?_, ?_, AB.din_over h.din, ?_, ?_, ?_, ?_, by omega, by omega⟩ <;> simp only [AB.dOver, AB.Drv.depth, AB.Drv.bn, AB.dep, AB.size] <;> omega
theorem fr_denied {D B : Nat} {F G : Fm} {d : Drv} (h : ItOk D B F G d) : Fr1 D B (AB.fNot G) (AB.fNot F) (AB.dDenied F G d) := by
  obtain ⟨a, b, z1, z2⟩ := dep59 h
  have := h.dp
  have := h.bn
  have := h.aF
  have := h.aG
  have aF := alls_not F
  have aG := alls_not G
  refine ⟨AB.vp_denied h.vp, ?_, ?_, AB.din_denied h.din, ?_, ?_, ?_, ?_, by omega, by omega⟩ <;> simp only [AB.dDenied, AB.fNot, AB.Drv.depth, AB.Drv.bn, AB.dep, AB.size] <;> omega
theorem fr_joined {D B : Nat} {F G F' G' : Fm} {d d' : Drv} (h : ItOk D B F G d) (h' : ItOk 210 6 F' G' d') (hD : 210 ≤ D) (hB : 6 ≤ B) : Fr1 D B (AB.fBoth F F') (AB.fBoth G G') (AB.dJoined F G d F' G' d') := by
  obtain ⟨a, b, z1, z2⟩ := dep59 h
  obtain ⟨a', b', z1', z2'⟩ := dep59 h'
  have := h.dp
  have := h.bn
  have := h.aF
  have := h.aG
  have := h'.dp
  have := h'.bn
  have := h'.aF
  have := h'.aG
  have aF := alls_both F F'
  have aG := alls_both G G'
  refine ⟨AB.vp_joined h.vp h'.vp, ?_, ?_, AB.din_joined h.din h'.din, ?_, ?_, ?_, ?_, by omega, by omega⟩ <;> simp only [AB.dJoined, AB.fBoth, AB.fNot, AB.Drv.depth, AB.Drv.bn, AB.dep, AB.size] <;> omega
theorem fr_ahead {D B : Nat} {F G C : Fm} {d : Drv} (h : ItOk D B F G d) (hC : AB.size C ≤ 3) : Fr1 D B (.imp C F) (.imp C G) (AB.dAhead C F G d) := by
  obtain ⟨a, b, z1, z2⟩ := dep59 h
  have := h.dp
  have := h.bn
  have := h.aF
  have := h.aG
  have aF := AB.alls_imp C F
  have aG := AB.alls_imp C G
  have aC := AB.alls_len C
  have dC := AB.dep_size C
  refine ⟨AB.vp_ahead C h.vp, ?_, ?_, AB.din_ahead h.din, ?_, ?_, ?_, ?_, by omega, by omega⟩ <;> simp only [AB.dAhead, AB.Drv.depth, AB.Drv.bn, AB.dep, AB.size] <;> omega
abbrev Nlaw : List Str := ["_law_script", "_law_deck_here", "_law_go", "_law_it", "_law_mate", "_law_turn", "_law_way", "_law_fresh"]
section
variable {P : Program} {w : World} {K : PySem.W.Frag} {mg : Str → Option Value} {base : Heap} (T : Tx w K mg)
theorem sc_law : FnScope Nlaw ["_law_script"] (defScope s_law) := ⟨rfl, rfl, rfl, by decide +kernel, rfl, by decide +kernel, by decide +kernel⟩
def spLaw (K : PySem.W.Frag) : Sp := fun vs H Q _ => ∃ (a : Addr) (ns : List Int), vs = [.ref a] ∧ SqL K H a (ns.map V.int) ∧ ns.length ≤ 63 ∧ ∀ H', Q (.bl true) H'
include T
set_option maxHeartbeats 4000000 in
theorem ok_law : AQ.FnG P w K mg base 432 (f_law K) (fdOf K (f_law K)) ["_law_script"] (spLaw K) := by
  have gK := (ok_ldk (P := P) (base := base) T).mono (show 1 ≤ 100 by decide)
  have gFi := (ok_lfi (P := P) (base := base) T).mono (show 302 ≤ 431 by decide)
  have gR : AQ.FnG P w K mg base 431 (f__law_is_right K) (fdOf K (f__law_is_right K)) ["_law_it"] (spRi K) := (ok_ri (P := P) (base := base) T).weak fun _ r => ⟨r.1.mono (by decide), r.2⟩
  have gOr := (ok_or (P := P) (base := base) T).mono (show 430 ≤ 431 by decide)
  have gKr := ok_kr (P := P) (base := base) T
  have gD := (ok_ldr (P := P) (base := base) T).mono (show 1 ≤ 100 by decide)
  have gO := (ok_lov (P := P) (base := base) T).mono (show 70 ≤ 100 by decide)
  have gN := (ok_lden (P := P) (base := base) T).mono (show 70 ≤ 100 by decide)
  have gJ := (ok_ljo (P := P) (base := base) T).mono (show 70 ≤ 100 by decide)
  have gH := (ok_lah (P := P) (base := base) T).mono (show 70 ≤ 100 by decide)
  have gS := (lsize_all (P := P) (base := base) T 63).mono (show 1 + 63 ≤ 100 by decide)
  have gA := (lalls_all (P := P) (base := base) T 63).mono (show 1 + 63 ≤ 100 by decide)
  refine AQ.okG (k := 100) (n := 431) (by decide) T.F_law sc_law (fun vs H Q E h => by obtain ⟨_, _, rfl, _⟩ := h; rfl) (fun cdv A outer s H vs Q E hD hr h => ⟨_, PSs.nox (
    pss_cons (ps_set (i := 1) sc_law.nd rfl (Or.inl rfl) (pe_call gK hr rfl T.g__law_deck T.F__law_deck.kp (bd_ldk T) .nil pass0 (pa_cons (pv 0) pa_nil))) 
    (pss_cons (ps_for PassesOwn.never rfl (pi_range1 rfl T.b_range (pa_cons pe_int pa_nil)) (pg_name (i := 2) sc_law.nd rfl (Or.inl rfl)) 
    (pss_cons (ps_par (i := 3) (j := 4) rfl sc_law.nd rfl rfl (by decide) rfl rfl (pa_cons (AQ.pe_callP gFi hD.1 rfl T.g__law_first T.F__law_first.kp (bd_lfi T) .nil pass0 (pa_cons (pv 1) pa_nil)) (pa_cons (AQ.pe_callP gFi hD.1 rfl T.g__law_first T.F__law_first.kp (bd_lfi T) .nil pass0 (pa_cons (pv 1) pa_nil)) pa_nil)) rfl) 
    (pss_cons (ps_if (PW.pt (pw_or (pt_not (pt_val (AQ.pe_callP gR hD rfl T.g__law_is_right T.F__law_is_right.kp (bd_ri T) .nil pass0 (pa_cons (pv 3) pa_nil)))) (pw_or (pt_not (pt_val (AQ.pe_callP gR hD rfl T.g__law_is_right T.F__law_is_right.kp (bd_ri T) .nil pass0 (pa_cons (pv 4) pa_nil)))) (pw_or1 (pt_not (pt_val (AQ.pe_callP gOr hD.1 rfl T.g__law_is_other_right T.F__law_is_other_right.kp (bd_or T) .nil pass0 (pa_cons (pv 3) (pa_cons (pv 4) pa_nil)))))))))
        (pss_one (ps_ret pe_bl)) pss_nil) (pss_one (ps_for PassesOwn.never rfl (pi_range1 rfl T.b_range (pa_cons pe_int pa_nil)) (pg_name (i := 5) sc_law.nd rfl (Or.inl rfl)) 
    (pss_cons (ps_set (i := 6) sc_law.nd rfl (Or.inl rfl) (pe_call gD hr rfl T.g__law_draw T.F__law_draw.kp (bd_ldr T) .nil pass0 (pa_cons (pv 1) (pa_cons pe_int pa_nil)))) 
    (pss_cons (ps_set (i := 7) sc_law.nd rfl (Or.inl rfl) (pe_ifExp (pt_cmpR op_eq (pv 6) pe_int (nomark _)) (pe_call gO hr rfl T.g__law_over T.F__law_over.kp (bd_lov T) .nil pass0 (pa_cons (pv 3) pa_nil)) (pe_call gN hr rfl T.g__law_denied T.F__law_denied.kp (bd_lden T) .nil pass0 (pa_cons (pv 3) pa_nil)))) 
    (pss_cons (ps_if (pt_cmpR op_gt (pv 6) pe_int (nomark _))
        (pss_one (ps_set (i := 7) sc_law.nd rfl (Or.inl rfl) (pe_ifExp (pt_cmpR op_eq (pv 6) pe_int (nomark _)) (pe_call gJ hr rfl T.g__law_joined T.F__law_joined.kp (bd_ljo T) .nil pass0 (pa_cons (pv 3) (pa_cons (pv 4) pa_nil))) (pe_call gH hr rfl T.g__law_ahead T.F__law_ahead.kp (bd_lah T) .nil pass0 (pa_cons (pv 1) (pa_cons (pv 3) pa_nil)))))) pss_nil) 
    (pss_cons (ps_if (PW.pt (pw_and (pt_cmpR op_lt (pe_op op_add (pe_call gS hr rfl T.g__law_size T.F__law_size.kp (bd_lsize T) .nil pass0 (pa_cons (pe_ix ix_tup (pv 7) pe_int (fun _ _ => rfl)) pa_nil)) (pe_call gS hr rfl T.g__law_size T.F__law_size.kp (bd_lsize T) .nil pass0 (pa_cons (pe_ix ix_tup (pv 7) pe_int (fun _ _ => rfl)) pa_nil))) pe_int (nomark _)) (pw_and1 (pt_cmpR op_lt (pe_callB call_len_seq rfl T.b_len boot_len (pa_cons (pe_call gA hr rfl T.g__law_alls T.F__law_alls.kp (bd_lalls T) .nil pass0 (pa_cons (pe_tup (pa_cons pe_str (pa_cons (pe_ix ix_tup (pv 7) pe_int (fun _ _ => rfl)) (pa_cons (pe_ix ix_tup (pv 7) pe_int (fun _ _ => rfl)) pa_nil)))) pa_nil)) pa_nil)) pe_int (nomark _)))))
        (pss_one (ps_set (i := 3) sc_law.nd rfl (Or.inl rfl) (pv 7))) pss_nil) (pss_one (ps_if (pt_not (pt_val (AQ.pe_callP gR hD rfl T.g__law_is_right T.F__law_is_right.kp (bd_ri T) .nil pass0 (pa_cons (pv 3) pa_nil))))
        (pss_one (ps_ret pe_bl)) pss_nil))))))))))) (pss_one (ps_ret (AQ.pe_callP gKr hD rfl T.g__law_known_right T.F__law_known_right.kp (bd_kr T) .nil pass0 (pa_cons (pv 1) pa_nil)))))), ?_⟩)
  obtain ⟨sa, ns, rfl, hsa, hns, q⟩ := h
  have s1 : 1 ≤ sizeLine := Nat.le_trans (Nat.le_succ 1) two_sz
  refine ⟨_, rfl, sa, ns, rfl, hsa, hns, fun D c H1 dk1 k1 => ?_⟩
  refine ⟨2, rfl, by decide, by decide, for_range (n := 2) (fun i σ' H' => ∃ (x2 x3 x4 x5 x6 x7 : Option V), σ' = [some (.ref sa), some (.ref D), x2, x3, x4, x5, x6, x7] ∧ Dk H' D c (1000 * i)) ?_ ?_ ?_⟩
  · exact ⟨none, none, none, none, none, none, rfl, dk1⟩
  · rintro i σ' H2 hi ⟨x2, x3, x4, x5, x6, x7, rfl, dk2⟩
    refine ⟨_, rfl, D, c, 1000 * i, rfl, dk2, by omega, fun t F G d H3 hI3 ok _ dk3 kx3 => ?_⟩
    refine ⟨_, rfl, D, c, 1000 * i + 200, rfl, dk3, by omega, fun u F' G' d' H4 hU4 ok' _ dk4 kx4 => ⟨_, _, rfl, ?_⟩⟩
    have hI4 := hI3.kf (kx4.kf dk3)
    refine ⟨_, rfl, t, F, G, d, rfl, hI4, ok.mono (by decide) (by decide), fun H5 k5 => ⟨true, rfl, iteF ?_⟩⟩
    refine ⟨_, rfl, u, F', G', d', rfl, hU4.kp k5, ok'.mono (by decide) (by decide), fun H6 k6 => ⟨true, rfl, iteF ?_⟩⟩
    have k46 := k5.trans k6
    refine ⟨_, rfl, _, rfl, t, u, F, G, F', G', d, d', rfl, hI4.kp k46, hU4.kp k46, ok, ok', fun H7 k7 => ⟨true, rfl, iteF ?_⟩⟩
    have k47 := k46.trans k7
    refine ⟨4, rfl, by decide, by decide, for_range (n := 4) (fun j σ' H' => ∃ (t : Addr) (F G : Fm) (d : Drv) (x5 x6 x7 : Option V), σ' = [some (.ref sa), some (.ref D), some (.int (0 + i)), some (.ref t), some (.ref u), x5, x6, x7] ∧ ItAt K H' t F G d ∧ ItOk (210 + 6 * j) (6 + j) F G d ∧ ItAt K H' u F' G' d' ∧ Dk H' D c (1000 * i + 400 + 50 * j)) ?_ ?_ ?_⟩
    · exact ⟨t, F, G, d, _, _, _, rfl, hI4.kp k47, ok, hU4.kp k47, dk4.kp k47⟩
    · clear hI3 hI4 hU4 ok dk1 dk2 dk3 dk4 kx3 kx4 k5 k6 k46 k7 k47
      rintro j σ' H8 hj ⟨t, F, G, d, x5, x6, x7, rfl, hI8, ok, hU8, dk8⟩
      refine ⟨_, rfl, D, c, 1000 * i + 400 + 50 * j, 4, rfl, dk8, by decide, by decide, by omega, fun n H9 hn dk9 kx9 => ?_⟩
      have kf9 := kx9.kf dk8
      have hI9 := hI8.kf kf9
      have hU9 := hU8.kf kf9
      clear hI8 hU8 dk8 kx9 kf9
      refine ⟨_, rfl, rfl, _, rfl, ite2 (fun z => ?ov) fun z => ?dn⟩
      case' ov =>
        have z0 : n = 0 := by have := V.int.inj (of_decide_eq_true z); omega
        have fr := fr_over ok
        refine ⟨_, rfl, t, _, _, _, rfl, hI9, fr.mG, fun tf HA hf kA => ?_⟩
        refine ⟨_, rfl, _, _, rfl, rfl, _, rfl, ite2 (fun z2 => ?_) fun _ => ?_⟩
        · exfalso
          have := of_decide_eq_true z2
          omega
        obtain ⟨F1, G1, d1, fr1, hf1⟩ : ∃ F1 G1 d1, Fr1 (210 + 6 * j) (6 + j) F1 G1 d1 ∧ ItAt K HA tf F1 G1 d1 := ⟨_, _, _, fr, hf⟩
        have hIA := hI9.kp kA
        have hUA := hU9.kp kA
        have dkA : Dk HA D c (1000 * i + 400 + 50 * (j + 1)) := (dk9.kp kA).mono (by omega)
      case' dn =>
        have fr := fr_denied ok
        refine ⟨_, rfl, t, _, _, _, rfl, hI9, fr.mF, fr.mG, fun tf HA hf kA => ?_⟩
        have hIA := hI9.kp kA
        have hUA := hU9.kp kA
        refine ⟨_, rfl, _, _, rfl, rfl, _, rfl, ite2 (fun z2 => ?jo) fun z2 => ?dd⟩
      case' dd =>
        obtain ⟨F1, G1, d1, fr1, hf1⟩ : ∃ F1 G1 d1, Fr1 (210 + 6 * j) (6 + j) F1 G1 d1 ∧ ItAt K HA tf F1 G1 d1 := ⟨_, _, _, fr, hf⟩
        have dkA : Dk HA D c (1000 * i + 400 + 50 * (j + 1)) := (dk9.kp kA).mono (by omega)
      case' jo =>
        have dkB := dk9.kp kA
        clear hf fr
        refine ⟨_, rfl, rfl, _, rfl, ite2 (fun z => ?j2) fun z => ?j3⟩
      case' j2 =>
        have fr := fr_joined ok ok' (by omega) (by omega)
        refine ⟨_, rfl, _, rfl, t, u, _, _, _, _, _, _, rfl, hIA, hUA, fr.mF, fr.mG, fun tf HB hf kB => ?_⟩
        obtain ⟨F1, G1, d1, fr1, hf1⟩ : ∃ F1 G1 d1, Fr1 (210 + 6 * j) (6 + j) F1 G1 d1 ∧ ItAt K HB tf F1 G1 d1 := ⟨_, _, _, fr, hf⟩
        have hIA := hIA.kp kB
        have hUA := hUA.kp kB
        have dkA : Dk HB D c (1000 * i + 400 + 50 * (j + 1)) := (dkB.kp kB).mono (by omega)
      case' j3 =>
        obtain ⟨_, _, zF, zG⟩ := dep59 ok
        refine ⟨_, rfl, _, rfl, D, c, t, _, F, G, d, rfl, dkB, by omega, hIA, by omega, by omega, Nat.le_trans ok.aF (by decide), Nat.le_trans ok.aG (by decide), fun C tf HB hC hf dkC kxB => ?_⟩
        obtain ⟨F1, G1, d1, fr1, hf1⟩ : ∃ F1 G1 d1, Fr1 (210 + 6 * j) (6 + j) F1 G1 d1 ∧ ItAt K HB tf F1 G1 d1 := ⟨_, _, _, fr_ahead ok hC, hf⟩
        have hIA := hIA.kf (kxB.kf dkB)
        have hUA := hUA.kf (kxB.kf dkB)
        have dkA : Dk HB D c (1000 * i + 400 + 50 * (j + 1)) := dkC.mono (by omega)
      all_goals
        obtain ⟨pf, pr, pd, et, hF, hG, hd⟩ := id hf1
        have e1 := fr1.dF
        have e2 := fr1.dG
        have e3 := fr1.zF
        have e4 := fr1.zG
        refine ⟨_, rfl, tf, _, _, _, rfl, rfl, SqT.of et, atI_nat (j := 0) rfl, pf, F1, rfl, hF, by omega, fun J1 c1 => ?_⟩
        refine ⟨_, rfl, tf, _, _, _, rfl, rfl, SqT.of (c1 _ _ et), atI_nat (j := 1) rfl, pr, G1, rfl, hG.kp c1, by omega, fun J2 c2 => ?_⟩
        have c02 := c1.trans c2
        refine ⟨_, _, rfl, rfl, _, _, rfl, rfl, _, rfl, ite2 (fun z5 => ?_) fun _ => ?_⟩
        · refine ⟨_, rfl, tf, _, _, _, rfl, rfl, SqT.of (c02 _ _ et), atI_nat (j := 0) rfl, _, rfl, tf, _, _, _, rfl, rfl, SqT.of (c02 _ _ et), atI_nat (j := 1) rfl, three_sz, fun t5 ht5 => ?_⟩
          have c3 := kp_new (o := .tup [.str "if", .ref pf, .ref pr]) ht5
          have j5 := tr_imp ht5 (hF.kp c02) (hG.kp c02)
          generalize upd J2 t5 (.tup [.str "if", .ref pf, .ref pr]) = J3 at c3 j5 ⊢
          have eD : AB.dep (.imp F1 G1) ≤ 63 := by simp only [AB.dep]; omega
          refine ⟨t5, .imp F1 G1, rfl, j5, eD, eD, by simp only [AB.size]; omega, fun l J4 hl c4 => ?_⟩
          obtain ⟨ps, el, pl⟩ := hl.ex
          have c04 := (c02.trans c3).trans c4
          have hIB := hIA.kp c04
          have hUB := hUA.kp c04
          have dkB := dkA.kp c04
          have hfB := hf1.kp c04
          refine ⟨l, _, rfl, .inl (SqL.of el), _, _, rfl, rfl, _, rfl, ite2 (fun z6 => ?_) fun _ => ?_⟩
          · have okf : ItOk (210 + 6 * (j + 1)) (6 + (j + 1)) F1 G1 d1 := by
              have y5 := of_decide_eq_true z5
              have y6 := of_decide_eq_true z6
              have lp := Paired.length pl
              rw [List.length_map] at y6
              have f1 := fr1.dp
              have f2 := fr1.bn
              exact ⟨fr1.vp, by omega, by omega, by omega, by omega, fr1.din⟩
            refine ⟨_, rfl, _, rfl, tf, F1, G1, d1, rfl, hfB, okf.mono (by omega) (by omega), fun J5 c5 => ⟨true, rfl, iteF ?_⟩⟩
            exact ⟨tf, F1, G1, d1, _, _, _, rfl, hfB.kp c5, okf, hUB.kp c5, dkB.kp c5⟩
          · refine ⟨_, rfl, t, F, G, d, rfl, hIB, ok.mono (by omega) (by omega), fun J5 c5 => ⟨true, rfl, iteF ?_⟩⟩
            exact ⟨t, F, G, d, _, _, _, rfl, hIB.kp c5, ok.mono (by omega) (by omega), hUB.kp c5, dkB.kp c5⟩
        · have hIB := hIA.kp c02
          have hUB := hUA.kp c02
          have dkB := dkA.kp c02
          refine ⟨_, rfl, t, F, G, d, rfl, hIB, ok.mono (by omega) (by omega), fun J5 c5 => ⟨true, rfl, iteF ?_⟩⟩
          exact ⟨t, F, G, d, _, _, _, rfl, hIB.kp c5, ok.mono (by omega) (by omega), hUB.kp c5, dkB.kp c5⟩
    · rintro σ' H8 ⟨t, F, G, d, x5, x6, x7, rfl, _, _, _, dk8⟩
      exact ⟨_, _, _, _, _, _, rfl, dk8.mono (by omega)⟩
  · rintro σ' H2 ⟨x2, x3, x4, x5, x6, x7, rfl, dk2⟩
    exact ⟨_, rfl, D, c, _, rfl, dk2, by omega, fun H' => q H'⟩
end
end AT
end
section
set_option Elab.async false
set_option linter.all false
set_option maxRecDepth 100000
set_option maxHeartbeats 2000000
/-! A law's end for a promise under a condition on the room (FnP). -/
namespace AQ
open PySem PySem.Spec PyProof.Rows L2
theorem law_endP {Ro : Around → Prop} {P : Program} {w : World} {K : PySem.W.Frag} {mg mb : Str → Option Value} {fa a : Addr} {fd : FuncData} {x : Str} {sp : Sp} {s : Shared} {vs : List Value} {ns : List Int}
    (kin : K.In s.heap) (hg : s.heap.Ns mainGlobals mg) (hb : s.heap.Ns builtinsNs mb) (hbb : ∀ y : Str, y ≠ "__name__" → mb y = bootBuiltins y) (hl : s.heap.NoLimit) (he : s.gens = #[])
    (ha : s.heap.get? a = some { cls := .type "list", data := .seq vs.toArray }) (hi : IntsAre vs ns) (hz : ns.length ≤ sizeLine) (hR : Ro callerA)
    (F : ∀ base : Heap, K.In base → base.Ns mainGlobals mg → FnP Ro P w K mg base fa fd [x] sp) (bind : ∀ (s : Shared) (u : Value), BindsTo s fd ⟨[u], []⟩ [(x, u)])
    (hsp : ∀ H : Hp, Only H → SqL K H a (ns.map V.int) → sp [.ref a] H (fun v _ => v = .bl true) E0) :
    codeAny (model P w) callerA (.call (.ref fa) ⟨[.ref a], []⟩) (fun r s' => r = .ok (.ret (.bool true)) ∧ OldK s.heap s'.heap ∧ s'.os = s.os ∧ AllBare s'.gens) s := by
  have rel := vals_ints hi
  have len := hi.length
  -- the script is tracked where the module does not hold it
  let o : Obj := { cls := .type "list", data := .seq vs.toArray }
  let H : Hp := fun b => if b = a ∧ K.lookup a = none then some (.frz o (.lst (ns.map V.int))) else none
  have yes : ∀ {b : Addr} {u : HO}, H b = some u → b = a ∧ K.lookup a = none ∧ u = .frz o (.lst (ns.map V.int)) := fun {b u} q => by
    by_cases c : b = a ∧ K.lookup a = none
    · have q' := (if_pos c).symm.trans q
      cases q'
      exact ⟨c.1, c.2, rfl⟩
    · have q' := (if_neg c).symm.trans q
      cases q'
  have only : Only H := fun b => by
    cases q : H b with
    | none => exact .inl rfl
    | some u => exact .inr ⟨o, _, congrArg some (yes q).2.2⟩
  have hok : HOk P w H s.heap := fun b u q => by
    obtain ⟨e1, _, e2⟩ := yes q
    subst e1 e2
    exact ⟨ha, by rw [List.length_map]; exact hz, vs, _, rel, ha⟩
  have sq : SqL K H a (ns.map V.int) := by
    cases c : K.lookup a with
    | none => exact .inl (.inr ⟨o, if_pos ⟨rfl, c⟩⟩)
    | some o2 =>
      have e := kin a o2 c
      rw [ha] at e
      cases e
      exact .inr ⟨_, vs.toArray, _, c, rfl, rfl, rfl, by rw [List.size_toArray, len]; exact hz, by simpa using rel⟩
  have free : ∀ {b : Addr} {p : Obj}, s.heap.get? b = some p → (∀ q : b = a, K.lookup a = none → p = o → False) → H b = none := fun {b p} e n => by
    cases q : H b with
    | none => rfl
    | some u =>
      obtain ⟨e1, e2, _⟩ := yes q
      subst e1
      rw [ha] at e
      exact (n rfl e2 (Option.some.inj e).symm).elim
  have hid : ∀ {b : Addr} {m : Str → Option Value}, s.heap.Ns b m → (hidT s.heap H).Ns b m := fun {b m} ⟨p, es, ep, e, d, r⟩ => ⟨p, es, ep, hidT_get e (free e fun _ _ z => by subst z; cases d), d, r⟩
  have kin' : K.In (hidT s.heap H) := fun b p e => hidT_get (kin b p e) (free (kin b p e) fun q n _ => by subst q; rw [n] at e; cases e)
  have env : Env0 P w K mg (hidT s.heap H) callerA [] s H :=
    ⟨rfl, ⟨kin', hid hg, ⟨mb, hid hb, hbb⟩, let ⟨mc, h1, h2⟩ := hl; ⟨mc, hid h1, h2⟩⟩, fun b p e => of_hidT e, Nat.le_of_eq (hidT_size _ _), trivial, fun b z => absurd z (by simp [frs]), hok, .of_eq he⟩
  refine codeAny_mono ((F _ kin' (hid hg)).go callerA hR [] s H ⟨[.ref a], []⟩ [.ref a] [.ref a] _ _ env (bind s (.ref a)) (.cons rfl .nil) (hsp H only sq)) fun r s' h => ?_
  match r, h with
  | .ok (.ret u), ⟨v, H', os, bare, un, hok', rv, q⟩ =>
    have q' : v = .bl true := q
    subst q'
    obtain rfl : u = Value.bool true := rv
    refine ⟨rfl, OldK.of_keep fun b p e => ?_, os, bare⟩
    cases q : H b with
    | none => exact un.keep b p e q (by simp [frs]) (by simp)
    | some u =>
      obtain ⟨e1, _, e2⟩ := yes q
      rw [e2] at q
      obtain ⟨g1, _⟩ := hok b _ q
      obtain ⟨g2, _⟩ := hok' b _ (un.frzs b o _ q)
      rw [e] at g1
      cases g1
      exact g2
  | .error e, h => exact False.elim h
  | .ok .next, h => exact False.elim h
  | .ok .brk, h => exact False.elim h
  | .ok .cont, h => exact False.elim h
/-- a law, from the promise of its def -/
theorem walk_ofP {Ro : Around → Prop} {l : PySem.W.OpenLaw} {n : Nat} {q : Program} {loose : List Str} {XP : (Str → Option Value) → Heap → Prop} {YP : World → Heap → Prop} {d : DefRec} {x : Str}
    (hn : l.most = some n) (hz : n ≤ sizeLine) (hd : d.params.defaults = []) (hR : Ro callerA)
    (F : ∀ (w : World) (mg : Str → Option Value) (fa : Addr) (h : Heap), YP w h → h.Ns mainGlobals mg → mg d.name = some (.ref fa) →
      ∃ (K : PySem.W.Frag) (fd : FuncData) (sp : Sp), K.In h ∧ (∀ (s : Shared) (u : Value), BindsTo s fd ⟨[u], []⟩ [(x, u)]) ∧
        (∀ (H : Hp) (a : Addr) (ns : List Int), ns.length ≤ n → SqL K H a (ns.map V.int) → sp [.ref a] H (fun v _ => v = .bl true) E0) ∧
        ∀ base : Heap, K.In base → base.Ns mainGlobals mg → FnP Ro l.prog w K mg base fa fd [x] sp) :
    PySem.W.WalkO q loose XP YP l.row.toRowW d [] (fun f vs => PySem.call f vs) := by
  refine Att.attach_call hn hd fun w s₀ s₁ mg mb fa o pm cd doc a vs ns G Y ho hd hcd hmg hobj hints hlen hg => ?_
  obtain ⟨K, fd, sp, kin, hb, hsp, hF⟩ := F w mg fa _ Y G.T.g hmg
  exact law_endP kin G.T.g G.T.b G.T.builtins G.T.nolimit hg hobj hints (Nat.le_trans hlen hz) hR hF hb fun H _ hS => hsp H a ns hlen hS
end AQ
end
section
set_option Elab.async false
set_option linter.all false
set_option maxRecDepth 100000
set_option maxHeartbeats 0
/-! The law holds. -/
namespace AT
open PySem PySem.Spec PyProof.Rows L2
theorem room_caller : AQ.RoomG 432 callerA := ⟨⟨rfl, by decide +kernel, by decide +kernel⟩, rfl⟩
theorem bind_law {w : World} {K : PySem.W.Frag} {mg : Str → Option Value} (T : Tx w K mg) (s : Shared) (u : Value) : BindsTo s (fdOf K (f_law K)) ⟨[u], []⟩ [("_law_script", u)] := by
  obtain ⟨oc, od, kV, doc, pm, an, cdv, ct, osl, e, lk, hcd⟩ := T.F_law.ex
  rw [e]
  exact .of_eq rfl
theorem tx_of {w : World} {K : PySem.W.Frag} {mg : Str → Option Value} {h : Heap} (kin : K.In h) (hg : h.Ns mainGlobals mg) (c : He.SaysX fa fn ts [] exB w h K) : Tx w K mg :=
  ⟨⟨c.t, c.more, c.hd, c.out, fun _ hp => nomatch hp⟩, h, kin, hg⟩
end AT
open PySem PySem.W PySem.Calls PyProof.Rows
theorem PySem.Challenge.cw_allbeneath_k66_whole_derivations_put_tog_holds : PySem.Challenge.rw_allbeneath_k66_whole_derivations_put_tog.Holds := by
  w_on; o_law
  refine HandSHeadRun.head_any (r := AT.Ro) (q := view AT.Ro.prog [102]) (H := AT.hk) (ob := AT.ob) (M := 12000) (loose := AT.loose) (d := HandSHeadRun.topDef AT.Ro.prog 102) (kwd := []) AT.ob_eq
    (by kernel_rfl) (fun s => by kernel_rfl) AT.run (by kernel_rfl) (by kernel_rfl) (by kernel_rfl) (by rfl) (by first | assumption | decide +kernel) (by decide +kernel) ⟨rfl, rfl, rfl, rfl, rfl, by decide +kernel⟩ ?hw ?hc
  case hw => w_witness2
  case hc =>
    refine AQ.walk_ofP (Ro := AQ.RoomG 432) (l := PySem.Challenge.rw_allbeneath_k66_whole_derivations_put_tog) (n := 63) (x := "_law_script") rfl (by decide) (by kernel_rfl) AT.room_caller ?F
    intro w mg fa h Y G hmg0
    obtain ⟨K, kin, c⟩ := Y
    have T := AT.tx_of kin G c
    have hmg : mg ("law" : PySem.Str) = some (.ref fa) := by
      have e : (HandSHeadRun.topDef AT.Ro.prog 102).name = ("law" : PySem.Str) := by kernel_rfl
      rw [← e]
      exact hmg0
    have ef := hmg.symm.trans T.g_law
    cases ef
    exact ⟨K, _, AT.spLaw K, kin, AT.bind_law T, fun H a ns hl hS => ⟨a, ns, rfl, hS, hl, fun _ => rfl⟩, fun base _ hgb => AT.ok_law T⟩
end
