import PyProof.Rows.All
import Wide.All
import OpenK.AllK
import Wide.FinOn
import HandS.ForMost
import HandS.Codes
import HandS.Evl
import HandS.Walk
import HandS.IsInst
import HandS.OwnEq
import HandS.Conv
import HandS.Flow
import HandS.Star
import HandS.HeadHook1
import PySem.Challenge.RW_handlerims_k97_whole_cut_banded_put_toge
import KE.KStateDown
import Lean
import HandS.Head0
import HandS.Head1
import HandS.Head2
import HandS.HeadHook2
import HandS.HeadHook3
import HandS.HeadHook4
import HandS.Head3
import HandS.Style
import HandS.TupAny
import HandS.SetBool
import HandS.Strs
import HandS.SetFor
import HandS.Zip
import HandS.Deep
import KE.GoesMore
import PyProof.CallType
import PyProof.TupleOfSeq
import KE.SortData
import KE.KMinKey
import HandS.Lambda
import HandS.TupSets
import HandS.Gcd
import KE.KSuper
import HandS.Nested
import HandS.ClsMeth
import PyProof.Rows.Range3
import HandS.HeadWalk
set_option Elab.async false
set_option linter.all false
set_option maxRecDepth 100000
set_option maxHeartbeats 0
/-! W0 -/
/-! W0: the text, what the walk leans on of the top, small words. -/
namespace Hw
open PySem PySem.Spec PyProof.Rows L2
/-! ### the text by places -/
def topS (i : Nat) : Stmt := PySem.Challenge.pw_handlerims_k97_whole_cut_banded_put_toge.main.body.getD i (.Pass ⟨0, 0, 0, 0⟩)
abbrev s_is_integer : Stmt := topS 19
abbrev s_is_within : Stmt := topS 20
abbrev s_is_letter : Stmt := topS 21
abbrev s_is_listed : Stmt := topS 22
abbrev s_are_integers : Stmt := topS 23
abbrev s_are_letters : Stmt := topS 24
abbrev s_need_number : Stmt := topS 25
abbrev s_contrary_of : Stmt := topS 33
abbrev s_shortened_of : Stmt := topS 34
abbrev s_rounded_of : Stmt := topS 35
abbrev s_are_short : Stmt := topS 36
abbrev s_need_few_words : Stmt := topS 37
abbrev s_need_word : Stmt := topS 39
abbrev s_need_rims : Stmt := topS 45
abbrev s_need_place : Stmt := topS 46
abbrev s_odd_kind : Stmt := topS 47
abbrev s_nexts_of : Stmt := topS 48
abbrev s_numbers_of : Stmt := topS 49
abbrev s_need_sewing : Stmt := topS 54
abbrev s_need_few_sewings : Stmt := topS 55
abbrev s_kinds_of : Stmt := topS 57
abbrev s_many_of : Stmt := topS 58
abbrev s_sewn : Stmt := topS 59
abbrev s_all_mates : Stmt := topS 60
abbrev s_corners_of : Stmt := topS 61
abbrev s_pieces_of : Stmt := topS 62
abbrev s_are_mates : Stmt := topS 63
abbrev s_all_sewings : Stmt := topS 65
abbrev s_fixed : Stmt := topS 67
abbrev s_need_words : Stmt := topS 73
abbrev s_turn_of : Stmt := topS 74
abbrev s_fellow_of : Stmt := topS 75
abbrev s_tube : Stmt := topS 76
abbrev s_tubes_of : Stmt := topS 77
abbrev s_need_fresh : Stmt := topS 79
abbrev s_round_from : Stmt := topS 80
abbrev s_with_rows : Stmt := topS 81
abbrev s_sewn_by : Stmt := topS 82
abbrev s_banded : Stmt := topS 83
abbrev s_banded_sewing : Stmt := topS 84
abbrev s_unbanded : Stmt := topS 85
abbrev s_cut : Stmt := topS 86
abbrev s_cheapest : Stmt := topS 90
abbrev s_in_one : Stmt := topS 91
abbrev s_law_loom : Stmt := topS 93
abbrev s_law_spin : Stmt := topS 94
abbrev s_law_pick : Stmt := topS 95
abbrev s_law_mixed : Stmt := topS 96
abbrev s_law_sewings : Stmt := topS 98
abbrev s_law_rims : Stmt := topS 99
abbrev s_law_back : Stmt := topS 100
abbrev s_law_short : Stmt := topS 101
abbrev s_law_round : Stmt := topS 102
abbrev s_law_ring : Stmt := topS 103
abbrev s_law_cuts_right : Stmt := topS 104
abbrev s_law_parts_right : Stmt := topS 105
abbrev s_law_sums_right : Stmt := topS 106
abbrev s_law : Stmt := topS 107
abbrev s_Word_init : Stmt := inClass (topS 40) 0
abbrev s_Word_contrary : Stmt := inClass (topS 40) 3
abbrev s_Word_shortened_round : Stmt := inClass (topS 40) 5
abbrev s_Word_len : Stmt := inClass (topS 40) 10
abbrev s_Word_eq : Stmt := inClass (topS 40) 11
abbrev s_Rims_init : Stmt := inClass (topS 51) 0
abbrev s_Rims_eq : Stmt := inClass (topS 51) 4
abbrev s_Sewing_init : Stmt := inClass (topS 64) 0
abbrev s_Sewing_eq : Stmt := inClass (topS 64) 1
abbrev s_Paper_init : Stmt := inClass (topS 68) 0
abbrev s_Paper_bool : Stmt := inClass (topS 68) 1
abbrev s_Tube_init : Stmt := inClass (topS 71) 0
abbrev s_Cheapest_init : Stmt := inClass (topS 88) 0
abbrev s_InOne_init : Stmt := inClass (topS 89) 0
/-- a def of the module as it stands, without defaults -/
def DefN (K : PySem.W.Frag) (mg : Str → Option Value) (x nm : Str) (st : Stmt) : Prop := ∃ f fd, C8.Fun K nm nm st f fd ∧ mg x = some (.ref f) ∧ PySem.W.keepIn K (.ref f) = true ∧ fd.defaults = .none
def MetN (K : PySem.W.Frag) (C : Addr) (m q : Str) (st : Stmt) : Prop := ∃ f fd, Meth K C m f ∧ C8.Fun K m q st f fd ∧ fd.defaults = .none
abbrev cWord (K : PySem.W.Frag) : Addr := He.ga K "Word"
abbrev cRims (K : PySem.W.Frag) : Addr := He.ga K "Rims"
abbrev cSewing (K : PySem.W.Frag) : Addr := He.ga K "Sewing"
abbrev cPaper (K : PySem.W.Frag) : Addr := He.ga K "Paper"
abbrev cTube (K : PySem.W.Frag) : Addr := He.ga K "Tube"
abbrev cCheapest (K : PySem.W.Frag) : Addr := He.ga K "Cheapest"
abbrev cInOne (K : PySem.W.Frag) : Addr := He.ga K "InOne"
/-- what the walk leans on -/
structure Txt (K : PySem.W.Frag) (mg : Str → Option Value) : Prop where
  d_is_integer : DefN K mg "is_integer" "is_integer" s_is_integer
  d_is_within : DefN K mg "is_within" "is_within" s_is_within
  d_is_letter : DefN K mg "is_letter" "is_letter" s_is_letter
  d_is_listed : DefN K mg "is_listed" "is_listed" s_is_listed
  d_are_integers : DefN K mg "are_integers" "are_integers" s_are_integers
  d_are_letters : DefN K mg "are_letters" "are_letters" s_are_letters
  d_need_number : DefN K mg "need_number" "need_number" s_need_number
  d_contrary_of : DefN K mg "contrary_of" "contrary_of" s_contrary_of
  d_shortened_of : DefN K mg "shortened_of" "shortened_of" s_shortened_of
  d_rounded_of : DefN K mg "rounded_of" "rounded_of" s_rounded_of
  d_are_short : DefN K mg "are_short" "are_short" s_are_short
  d_need_few_words : DefN K mg "need_few_words" "need_few" s_need_few_words
  d_need_word : DefN K mg "need_word" "need_word" s_need_word
  d_need_rims : DefN K mg "need_rims" "need_rims" s_need_rims
  d_need_place : DefN K mg "need_place" "need_place" s_need_place
  d_odd_kind : DefN K mg "odd_kind" "odd_kind" s_odd_kind
  d_nexts_of : DefN K mg "nexts_of" "nexts_of" s_nexts_of
  d_numbers_of : DefN K mg "numbers_of" "numbers_of" s_numbers_of
  d_need_sewing : DefN K mg "need_sewing" "need_sewing" s_need_sewing
  d_need_few_sewings : DefN K mg "need_few_sewings" "need_few" s_need_few_sewings
  d_kinds_of : DefN K mg "kinds_of" "kinds_of" s_kinds_of
  d_many_of : DefN K mg "many_of" "many_of" s_many_of
  d_sewn : DefN K mg "sewn" "sewn" s_sewn
  d_all_mates : DefN K mg "all_mates" "all_mates" s_all_mates
  d_corners_of : DefN K mg "corners_of" "corners_of" s_corners_of
  d_pieces_of : DefN K mg "pieces_of" "pieces_of" s_pieces_of
  d_are_mates : DefN K mg "are_mates" "are_mates" s_are_mates
  d_all_sewings : DefN K mg "all_sewings" "all_sewings" s_all_sewings
  d_fixed : DefN K mg "fixed" "fixed" s_fixed
  d_need_words : DefN K mg "need_words" "need_words" s_need_words
  d_turn_of : DefN K mg "turn_of" "turn_of" s_turn_of
  d_fellow_of : DefN K mg "fellow_of" "fellow_of" s_fellow_of
  d_tube : DefN K mg "tube" "tube" s_tube
  d_tubes_of : DefN K mg "tubes_of" "tubes_of" s_tubes_of
  d_need_fresh : DefN K mg "need_fresh" "need_fresh" s_need_fresh
  d_round_from : DefN K mg "round_from" "round_from" s_round_from
  d_with_rows : DefN K mg "with_rows" "with_rows" s_with_rows
  d_sewn_by : DefN K mg "sewn_by" "sewn_by" s_sewn_by
  d_banded : DefN K mg "banded" "banded" s_banded
  d_banded_sewing : DefN K mg "banded_sewing" "banded_sewing" s_banded_sewing
  d_unbanded : DefN K mg "unbanded" "unbanded" s_unbanded
  d_cut : DefN K mg "cut" "cut" s_cut
  d_cheapest : DefN K mg "cheapest" "cheapest" s_cheapest
  d_in_one : DefN K mg "in_one" "in_one" s_in_one
  d_law_loom : DefN K mg "_law_loom" "_law_loom" s_law_loom
  d_law_spin : DefN K mg "_law_spin" "_law_spin" s_law_spin
  d_law_pick : DefN K mg "_law_pick" "_law_pick" s_law_pick
  d_law_mixed : DefN K mg "_law_mixed" "_law_mixed" s_law_mixed
  d_law_sewings : DefN K mg "_law_sewings" "_law_sewings" s_law_sewings
  d_law_rims : DefN K mg "_law_rims" "_law_rims" s_law_rims
  d_law_back : DefN K mg "_law_back" "_law_back" s_law_back
  d_law_short : DefN K mg "_law_short" "_law_short" s_law_short
  d_law_round : DefN K mg "_law_round" "_law_round" s_law_round
  d_law_ring : DefN K mg "_law_ring" "_law_ring" s_law_ring
  d_law_cuts_right : DefN K mg "_law_cuts_right" "_law_cuts_right" s_law_cuts_right
  d_law_parts_right : DefN K mg "_law_parts_right" "_law_parts_right" s_law_parts_right
  d_law_sums_right : DefN K mg "_law_sums_right" "_law_sums_right" s_law_sums_right
  d_law : DefN K mg "law" "law" s_law
  m_Word_init : MetN K (cWord K) "__init__" "Word.__init__" s_Word_init
  m_Word_contrary : MetN K (cWord K) "contrary" "Word.contrary" s_Word_contrary
  m_Word_shortened_round : MetN K (cWord K) "shortened_round" "Word.shortened_round" s_Word_shortened_round
  m_Word_len : MetN K (cWord K) "__len__" "Word.__len__" s_Word_len
  m_Word_eq : MetN K (cWord K) "__eq__" "Word.__eq__" s_Word_eq
  m_Rims_init : MetN K (cRims K) "__init__" "Rims.__init__" s_Rims_init
  m_Rims_eq : MetN K (cRims K) "__eq__" "Rims.__eq__" s_Rims_eq
  m_Sewing_init : MetN K (cSewing K) "__init__" "Sewing.__init__" s_Sewing_init
  m_Sewing_eq : MetN K (cSewing K) "__eq__" "Sewing.__eq__" s_Sewing_eq
  m_Paper_init : MetN K (cPaper K) "__init__" "Paper.__init__" s_Paper_init
  m_Paper_bool : MetN K (cPaper K) "__bool__" "Paper.__bool__" s_Paper_bool
  g_Word : mg "Word" = some (.ref (cWord K))
  i_Word : C8.InsC K (cWord K)
  k_Word : Mk K (cWord K) (He.ma K (cWord K) "__init__")
  g_Rims : mg "Rims" = some (.ref (cRims K))
  i_Rims : C8.InsC K (cRims K)
  k_Rims : Mk K (cRims K) (He.ma K (cRims K) "__init__")
  g_Sewing : mg "Sewing" = some (.ref (cSewing K))
  i_Sewing : C8.InsC K (cSewing K)
  k_Sewing : Mk K (cSewing K) (He.ma K (cSewing K) "__init__")
  g_Paper : mg "Paper" = some (.ref (cPaper K))
  i_Paper : C8.InsC K (cPaper K)
  g_Tube : mg "Tube" = some (.ref (cTube K))
  i_Tube : C8.InsC K (cTube K)
  k_Tube : Mk K (cTube K) (He.ma K (cTube K) "__init__")
  g_Cheapest : mg "Cheapest" = some (.ref (cCheapest K))
  i_Cheapest : C8.InsC K (cCheapest K)
  k_Cheapest : Mk K (cCheapest K) (He.ma K (cCheapest K) "__init__")
  g_InOne : mg "InOne" = some (.ref (cInOne K))
  i_InOne : C8.InsC K (cInOne K)
  k_InOne : Mk K (cInOne K) (He.ma K (cInOne K) "__init__")
  n_Word_letters : NoAttr K (cWord K) "letters"
  n_Word_length : NoAttr K (cWord K) "length"
  n_Word_kinds : NoAttr K (cWord K) "kinds"
  n_Word_is_short : NoAttr K (cWord K) "is_short"
  n_Word_is_short_round : NoAttr K (cWord K) "is_short_round"
  n_Rims_words : NoAttr K (cRims K) "words"
  n_Rims_letters : NoAttr K (cRims K) "letters"
  n_Rims_many : NoAttr K (cRims K) "many"
  n_Rims_bands : NoAttr K (cRims K) "bands"
  n_Rims_is_short : NoAttr K (cRims K) "is_short"
  n_Rims_nexts : NoAttr K (cRims K) "nexts"
  n_Rims_numbers : NoAttr K (cRims K) "numbers"
  n_Sewing_rims : NoAttr K (cSewing K) "rims"
  n_Sewing_mates : NoAttr K (cSewing K) "mates"
  n_Sewing_corners : NoAttr K (cSewing K) "corners"
  n_Sewing_cost : NoAttr K (cSewing K) "cost"
  n_Sewing_pieces : NoAttr K (cSewing K) "pieces"
  n_Sewing_handles : NoAttr K (cSewing K) "handles"
  n_Tube_word : NoAttr K (cTube K) "word"
  n_Tube_parts : NoAttr K (cTube K) "parts"
  n_Tube_turn : NoAttr K (cTube K) "turn"
  n_Cheapest_word : NoAttr K (cCheapest K) "word"
  n_Cheapest_parts : NoAttr K (cCheapest K) "parts"
  n_Cheapest_cost : NoAttr K (cCheapest K) "cost"
  n_Cheapest_mates : NoAttr K (cCheapest K) "mates"
  n_InOne_word : NoAttr K (cInOne K) "word"
  n_InOne_parts : NoAttr K (cInOne K) "parts"
  n_InOne_handles : NoAttr K (cInOne K) "handles"
  n_InOne_mates : NoAttr K (cInOne K) "mates"
  z_isinstance : mg "isinstance" = none
  z_int : mg "int" = none
  z_bool : mg "bool" = none
  z_list : mg "list" = none
  z_tuple : mg "tuple" = none
  z_all : mg "all" = none
  z_any : mg "any" = none
  z_len : mg "len" = none
  z_range : mg "range" = none
  z_zip : mg "zip" = none
  z_enumerate : mg "enumerate" = none
  z_sorted : mg "sorted" = none
  z_abs : mg "abs" = none
  z_min : mg "min" = none
  z_max : mg "max" = none
  z_set : mg "set" = none
  v_LAST_KIND : ∃ t, mg "LAST_KIND" = some (.int 26 t)
  v_MOST_LETTERS_words : ∃ t, mg "MOST_LETTERS_words" = some (.int 500 t)
  v_MOST_WORDS : ∃ t, mg "MOST_WORDS" = some (.int 4 t)
  v_MOST_LETTERS_rims : ∃ t, mg "MOST_LETTERS_rims" = some (.int 24 t)
  v_MOST_SEWINGS : ∃ t, mg "MOST_SEWINGS" = some (.int 720 t)
  g_permutations : mg "permutations" = some (.type "itertools.permutations")
  g_factorial : mg "factorial" = some (.builtin "math.factorial")
/-! ### defs by their bodies -/
section
variable {P : Program} {w : World} {K : PySem.W.Frag} {mg : Str → Option Value} {base : Heap}
theorem defn {x nm : Str} {st : Stmt} {N ps : List Str} {k : Nat} {sp : Sp} (F : DefN K mg x nm st) (S : FnScope N ps (C8.fnScope st)) (len : ∀ vs H Q E, sp vs H Q E → vs.length = ps.length)
    (hb : ∀ (kV doc pm : Value) (an : Option Addr) (cdv ct : Value) (us : List Value), us.length = ps.length → bindArgs (PySem.W.fnOf nm nm (C8.fnArgs st) (C8.fnBody st) (C8.fnScope st) .none kV doc pm an cdv ct) ⟨us, []⟩ = pure (ps.zip us))
    (hbody : ∀ (f : Addr) (cdv : Value) (A : Around) (outer : List Env) (s : Shared) (H : Hp) (vs : List V) (Q : VK) (E : XK), Room k (A.deeper (envOfC nm (C8.fnScope st) s.heap.objs.size f cdv)) → sp vs H Q E →
      ∃ t, PSs (cxOf CX0 P w K mg base N nm (C8.fnScope st) f cdv A outer s H E).nox (C8.fnBody st) t ∧ t { nx := fun _ H' => Q .non H', rt := Q } (start N vs) H) : C8.Cal P w K mg base (k + 1) x sp [] := by
  obtain ⟨f, fd, F, hm, kp, df⟩ := F
  exact ⟨f, fd, ps, [], C8.fn0 F S len (hbody f), hm, kp, F.binds df hb, .nil⟩
theorem metn {C : Addr} {m q : Str} {st : Stmt} {N ps : List Str} {k : Nat} {sp : Sp} (F : MetN K C m q st) (c : Cls K C) (S : FnScope N ps (C8.fnScope st)) (len : ∀ vs H Q E, sp vs H Q E → vs.length = ps.length)
    (hb : ∀ (kV doc pm : Value) (an : Option Addr) (cdv ct : Value) (us : List Value), us.length = ps.length → bindArgs (PySem.W.fnOf m q (C8.fnArgs st) (C8.fnBody st) (C8.fnScope st) .none kV doc pm an cdv ct) ⟨us, []⟩ = pure (ps.zip us))
    (hbody : ∀ (f : Addr) (cdv : Value) (A : Around) (outer : List Env) (s : Shared) (H : Hp) (vs : List V) (Q : VK) (E : XK), Room k (A.deeper (envOfC q (C8.fnScope st) s.heap.objs.size f cdv)) → sp vs H Q E →
      ∃ t, PSs (cxOf CX0 P w K mg base N q (C8.fnScope st) f cdv A outer s H E).nox (C8.fnBody st) t ∧ t { nx := fun _ H' => Q .non H', rt := Q } (start N vs) H) : C8.Met P w K mg base (k + 1) C m sp [] := by
  obtain ⟨f, fd, me, F, df⟩ := F
  exact ⟨f, fd, ps, [], c, me, C8.fn0 F S len (hbody f), F.binds df hb, .nil⟩
theorem makn {C : Addr} {x q : Str} {st : Stmt} {N ps : List Str} {k : Nat} {sp : Sp} (F : MetN K C "__init__" q st) (M : Mk K C (He.ma K C "__init__")) (hm : mg x = some (.ref C)) (S : FnScope N ps (C8.fnScope st)) (len : ∀ vs H Q E, sp vs H Q E → vs.length = ps.length)
    (hb : ∀ (kV doc pm : Value) (an : Option Addr) (cdv ct : Value) (us : List Value), us.length = ps.length → bindArgs (PySem.W.fnOf "__init__" q (C8.fnArgs st) (C8.fnBody st) (C8.fnScope st) .none kV doc pm an cdv ct) ⟨us, []⟩ = pure (ps.zip us))
    (hbody : ∀ (f : Addr) (cdv : Value) (A : Around) (outer : List Env) (s : Shared) (H : Hp) (vs : List V) (Q : VK) (E : XK), Room k (A.deeper (envOfC q (C8.fnScope st) s.heap.objs.size f cdv)) → sp vs H Q E →
      ∃ t, PSs (cxOf CX0 P w K mg base N q (C8.fnScope st) f cdv A outer s H E).nox (C8.fnBody st) t ∧ t { nx := fun _ H' => Q .non H', rt := Q } (start N vs) H) : C8.Mak P w K mg base (k + 1) x C sp [] := by
  obtain ⟨f, fd, me, F, df⟩ := F
  have e : f = He.ma K C "__init__" := by
    have h1 := me.at_
    have h2 := M.init
    rw [h1] at h2
    exact Option.some.inj (Option.some.inj h2) |> fun z => by injection z
  subst e
  exact ⟨_, fd, ps, [], M, C8.fn0 F S len (hbody _), hm, F.binds df hb, .nil⟩
end
end Hw
/-! H1 -/
/-! H1: the head: what the top leaves. Printed by mkH.py. -/
namespace Hw
open PySem PySem.Spec PyProof.Rows L2
abbrev s_Tube_bool : Stmt := s_Paper_bool
def dd (x nm : Str) (st : Stmt) : He.DefD := ⟨(x, none), nm, nm, C8.fnArgs st, C8.fnBody st, C8.fnScope st, [], []⟩
def dm (C m q : Str) (st : Stmt) : He.DefD := ⟨(C, some m), m, q, C8.fnArgs st, C8.fnBody st, C8.fnScope st, [], []⟩
def names0 : List PySem.Str := [("permutations" : PySem.Str), ("factorial" : PySem.Str), ("_wall" : PySem.Str), ("HandleError" : PySem.Str), ("BadWord" : PySem.Str), ("BadRims" : PySem.Str), ("BadSewing" : PySem.Str), ("BadNumber" : PySem.Str), ("Misfit" : PySem.Str), ("Missing" : PySem.Str), ("NoPlace" : PySem.Str), ("Twice" : PySem.Str), ("Unbalanced" : PySem.Str), ("TooMany" : PySem.Str), ("BadText" : PySem.Str), ("LAST_KIND" : PySem.Str), ("SMALL" : PySem.Str), ("is_integer" : PySem.Str), ("is_within" : PySem.Str), ("is_letter" : PySem.Str)]
def names1 : List PySem.Str := [("is_listed" : PySem.Str), ("are_integers" : PySem.Str), ("are_letters" : PySem.Str), ("need_number" : PySem.Str), ("letter_in" : PySem.Str), ("text_of_letter" : PySem.Str), ("Scan" : PySem.Str), ("MOST_LETTERS_words" : PySem.Str), ("EMPTY" : PySem.Str), ("contrary_of" : PySem.Str), ("shortened_of" : PySem.Str), ("rounded_of" : PySem.Str), ("are_short" : PySem.Str), ("need_few" : PySem.Str), ("need_few_words" : PySem.Str), ("need_word" : PySem.Str), ("Word" : PySem.Str), ("MOST_WORDS" : PySem.Str), ("MOST_LETTERS_rims" : PySem.Str), ("BAR" : PySem.Str)]
def names2 : List PySem.Str := [("need_rims" : PySem.Str), ("need_place" : PySem.Str), ("odd_kind" : PySem.Str), ("nexts_of" : PySem.Str), ("numbers_of" : PySem.Str), ("take_words" : PySem.Str), ("Rims" : PySem.Str), ("MOST_SEWINGS" : PySem.Str), ("need_sewing" : PySem.Str), ("need_few_sewings" : PySem.Str), ("kinds_of" : PySem.Str), ("many_of" : PySem.Str), ("sewn" : PySem.Str), ("all_mates" : PySem.Str), ("corners_of" : PySem.Str), ("pieces_of" : PySem.Str), ("are_mates" : PySem.Str), ("Sewing" : PySem.Str), ("all_sewings" : PySem.Str), ("fixed" : PySem.Str)]
def names3 : List PySem.Str := [("Paper" : PySem.Str), ("Denial" : PySem.Str), ("Tube" : PySem.Str), ("NoTube" : PySem.Str), ("need_words" : PySem.Str), ("turn_of" : PySem.Str), ("fellow_of" : PySem.Str), ("tube" : PySem.Str), ("tubes_of" : PySem.Str), ("need_fresh" : PySem.Str), ("round_from" : PySem.Str), ("with_rows" : PySem.Str), ("sewn_by" : PySem.Str), ("banded" : PySem.Str), ("banded_sewing" : PySem.Str), ("unbanded" : PySem.Str), ("cut" : PySem.Str), ("Cheapest" : PySem.Str), ("InOne" : PySem.Str), ("cheapest" : PySem.Str)]
def names4 : List PySem.Str := [("in_one" : PySem.Str), ("_law_loom" : PySem.Str), ("_law_spin" : PySem.Str), ("_law_pick" : PySem.Str), ("_law_mixed" : PySem.Str), ("_law_flat" : PySem.Str), ("_law_sewings" : PySem.Str), ("_law_rims" : PySem.Str), ("_law_back" : PySem.Str), ("_law_short" : PySem.Str), ("_law_round" : PySem.Str), ("_law_ring" : PySem.Str), ("_law_cuts_right" : PySem.Str), ("_law_parts_right" : PySem.Str), ("_law_sums_right" : PySem.Str)]
def names : List PySem.Str := names0 ++ (names1 ++ (names2 ++ (names3 ++ (names4))))
def fnL0 : List He.DefD := [dd "is_integer" "is_integer" s_is_integer, dd "is_within" "is_within" s_is_within, dd "is_letter" "is_letter" s_is_letter, dd "is_listed" "is_listed" s_is_listed, dd "are_integers" "are_integers" s_are_integers, dd "are_letters" "are_letters" s_are_letters, dd "need_number" "need_number" s_need_number, dd "contrary_of" "contrary_of" s_contrary_of, dd "shortened_of" "shortened_of" s_shortened_of, dd "rounded_of" "rounded_of" s_rounded_of, dd "are_short" "are_short" s_are_short, dd "need_few_words" "need_few" s_need_few_words, dd "need_word" "need_word" s_need_word, dd "need_rims" "need_rims" s_need_rims, dd "need_place" "need_place" s_need_place]
def fnL1 : List He.DefD := [dd "odd_kind" "odd_kind" s_odd_kind, dd "nexts_of" "nexts_of" s_nexts_of, dd "numbers_of" "numbers_of" s_numbers_of, dd "need_sewing" "need_sewing" s_need_sewing, dd "need_few_sewings" "need_few" s_need_few_sewings, dd "kinds_of" "kinds_of" s_kinds_of, dd "many_of" "many_of" s_many_of, dd "sewn" "sewn" s_sewn, dd "all_mates" "all_mates" s_all_mates, dd "corners_of" "corners_of" s_corners_of, dd "pieces_of" "pieces_of" s_pieces_of, dd "are_mates" "are_mates" s_are_mates, dd "all_sewings" "all_sewings" s_all_sewings, dd "fixed" "fixed" s_fixed, dd "need_words" "need_words" s_need_words]
def fnL2 : List He.DefD := [dd "turn_of" "turn_of" s_turn_of, dd "fellow_of" "fellow_of" s_fellow_of, dd "tube" "tube" s_tube, dd "tubes_of" "tubes_of" s_tubes_of, dd "need_fresh" "need_fresh" s_need_fresh, dd "round_from" "round_from" s_round_from, dd "with_rows" "with_rows" s_with_rows, dd "sewn_by" "sewn_by" s_sewn_by, dd "banded" "banded" s_banded, dd "banded_sewing" "banded_sewing" s_banded_sewing, dd "unbanded" "unbanded" s_unbanded, dd "cut" "cut" s_cut, dd "cheapest" "cheapest" s_cheapest, dd "in_one" "in_one" s_in_one, dd "_law_loom" "_law_loom" s_law_loom]
def fnL3 : List He.DefD := [dd "_law_spin" "_law_spin" s_law_spin, dd "_law_pick" "_law_pick" s_law_pick, dd "_law_mixed" "_law_mixed" s_law_mixed, dd "_law_sewings" "_law_sewings" s_law_sewings, dd "_law_rims" "_law_rims" s_law_rims, dd "_law_back" "_law_back" s_law_back, dd "_law_short" "_law_short" s_law_short, dd "_law_round" "_law_round" s_law_round, dd "_law_ring" "_law_ring" s_law_ring, dd "_law_cuts_right" "_law_cuts_right" s_law_cuts_right, dd "_law_parts_right" "_law_parts_right" s_law_parts_right, dd "_law_sums_right" "_law_sums_right" s_law_sums_right, dd "law" "law" s_law, dm "Word" "__init__" "Word.__init__" s_Word_init, dm "Word" "contrary" "Word.contrary" s_Word_contrary]
def fnL4 : List He.DefD := [dm "Word" "shortened_round" "Word.shortened_round" s_Word_shortened_round, dm "Word" "__len__" "Word.__len__" s_Word_len, dm "Word" "__eq__" "Word.__eq__" s_Word_eq, dm "Rims" "__init__" "Rims.__init__" s_Rims_init, dm "Rims" "__eq__" "Rims.__eq__" s_Rims_eq, dm "Sewing" "__init__" "Sewing.__init__" s_Sewing_init, dm "Sewing" "__eq__" "Sewing.__eq__" s_Sewing_eq, dm "Paper" "__init__" "Paper.__init__" s_Paper_init, dm "Paper" "__bool__" "Paper.__bool__" s_Paper_bool, dm "Tube" "__bool__" "Paper.__bool__" s_Paper_bool]
def fnL : List He.DefD := fnL0 ++ (fnL1 ++ (fnL2 ++ (fnL3 ++ (fnL4))))
def faL0 : List He.Fa := [.glo "is_integer", .glo "is_within", .glo "is_letter", .glo "is_listed", .glo "are_integers", .glo "are_letters", .glo "need_number", .glo "contrary_of", .glo "shortened_of", .glo "rounded_of", .glo "are_short", .glo "need_few_words", .glo "need_word", .glo "need_rims", .glo "need_place", .glo "odd_kind", .glo "nexts_of", .glo "numbers_of", .glo "need_sewing", .glo "need_few_sewings", .glo "kinds_of", .glo "many_of", .glo "sewn", .glo "all_mates", .glo "corners_of", .glo "pieces_of", .glo "are_mates", .glo "all_sewings", .glo "fixed", .glo "need_words"]
def faL1 : List He.Fa := [.glo "turn_of", .glo "fellow_of", .glo "tube", .glo "tubes_of", .glo "need_fresh", .glo "round_from", .glo "with_rows", .glo "sewn_by", .glo "banded", .glo "banded_sewing", .glo "unbanded", .glo "cut", .glo "cheapest", .glo "in_one", .glo "_law_loom", .glo "_law_spin", .glo "_law_pick", .glo "_law_mixed", .glo "_law_sewings", .glo "_law_rims", .glo "_law_back", .glo "_law_short", .glo "_law_round", .glo "_law_ring", .glo "_law_cuts_right", .glo "_law_parts_right", .glo "_law_sums_right", .glo "law", .meth "Word" "__init__", .meth "Word" "contrary"]
def faL2 : List He.Fa := [.meth "Word" "shortened_round", .meth "Word" "__len__", .meth "Word" "__eq__", .meth "Rims" "__init__", .meth "Rims" "__eq__", .meth "Sewing" "__init__", .meth "Sewing" "__eq__", .meth "Paper" "__init__", .meth "Paper" "__bool__", .glo "Word", .cls "Word", .mkr "Word", .glo "Rims", .cls "Rims", .mkr "Rims", .glo "Sewing", .cls "Sewing", .mkr "Sewing", .glo "Paper", .cls "Paper", .glo "Tube", .cls "Tube", .mkr "Tube", .glo "Cheapest", .cls "Cheapest", .mkr "Cheapest", .glo "InOne", .cls "InOne", .mkr "InOne", .noat "Word" "letters"]
def faL3 : List He.Fa := [.noat "Word" "length", .noat "Word" "kinds", .noat "Word" "is_short", .noat "Word" "is_short_round", .noat "Rims" "words", .noat "Rims" "letters", .noat "Rims" "many", .noat "Rims" "bands", .noat "Rims" "is_short", .noat "Rims" "nexts", .noat "Rims" "numbers", .noat "Sewing" "rims", .noat "Sewing" "mates", .noat "Sewing" "corners", .noat "Sewing" "cost", .noat "Sewing" "pieces", .noat "Sewing" "handles", .noat "Tube" "word", .noat "Tube" "parts", .noat "Tube" "turn", .noat "Cheapest" "word", .noat "Cheapest" "parts", .noat "Cheapest" "cost", .noat "Cheapest" "mates", .noat "InOne" "word", .noat "InOne" "parts", .noat "InOne" "handles", .noat "InOne" "mates", .free "isinstance", .free "int"]
def faL4 : List He.Fa := [.free "bool", .free "list", .free "tuple", .free "all", .free "any", .free "len", .free "range", .free "zip", .free "enumerate", .free "sorted", .free "abs", .free "min", .free "max", .free "set", .int "LAST_KIND" 26, .int "MOST_LETTERS_words" 500, .int "MOST_WORDS" 4, .int "MOST_LETTERS_rims" 24, .int "MOST_SEWINGS" 720, .free "super", .meth "Tube" "__bool__"]
def faL : List He.Fa := faL0 ++ (faL1 ++ (faL2 ++ (faL3 ++ (faL4))))
/-! ### facts by a Bool -/
def insB (K : PySem.W.Frag) (x : Str) : Bool := He.eqO (PySem.W.findIn K (.ref (He.ga K x)) "__class__") (some (some (.builtin "object.__class__"))) && (He.eqO (PySem.W.specialIn K (.builtin "object.__class__") "__get__") (some (some (.builtin "getset_descriptor.__get__"))) && (decide (PySem.W.takesIn K (.builtin "object.__class__") = some true) && (decide (PySem.W.mroIn K (He.ga K x) (.type "object") = some true) && decide (PySem.W.kitOne K (.ref (He.ga K x)) (.ref (He.ga K x)) = some true))))
def clN : List Str := ["Word", "Rims", "Sewing", "Paper", "Tube", "Cheapest", "InOne"]
def cloOf (K : PySem.W.Frag) (f : Addr) : Addr := match K.lookup f with
  | some ⟨_, _, .func fd, _⟩ => (match fd.closure with
    | (_, c) :: _ => c
    | [] => 0)
  | _ => 0
def cdOf (K : PySem.W.Frag) (f : Addr) : Value := match K.lookup f with
  | some ⟨_, _, .func fd, _⟩ => fd.code
  | _ => .none
def refA : Value → Addr
  | .ref a => a
  | _ => 0
def fnm : Str := PySem.Challenge.pw_handlerims_k97_whole_cut_banded_put_toge.main.file
def supB (K : PySem.W.Frag) (x q : Str) : Bool :=
  PySem.W.codeIn K (cdOf K (He.ma K (He.ga K x) "__init__")) q && ((match K.lookup (refA (cdOf K (He.ma K (He.ga K x) "__init__"))) with
    | some ⟨_, _, .fields vs, _⟩ => (match (vs[2]? : Option Value) with
      | some (.str file _) => (fnm == file)
      | _ => false)
    | _ => false) && ((match K.lookup (cloOf K (He.ma K (He.ga K x) "__init__")) with
    | some ⟨_, _, .cell (some (.ref C)), _⟩ => decide (C = He.ga K x)
    | _ => false) && ((PySem.W.clsIn K (He.ga K x)).isSome && (decide (PySem.W.mroIn K (He.ga K x) (.ref (He.ga K x)) = some true) && (He.eqO (PySem.W.nsIn K cStatics "thirdparty.any") (some none) && (He.eqO (PySem.W.ks_superIn K (He.ga K x) (He.ga K x) "__init__") (some (some (.ref (He.ma K (He.ga K "Paper") "__init__")))) &&
    (decide (PySem.W.typeIn K (.ref (He.ma K (He.ga K "Paper") "__init__")) = some (.type "function")) && PySem.W.fnIn K (He.ma K (He.ga K "Paper") "__init__"))))))))
def supN : List (Str × Str) := [("Tube", "Tube.__init__"), ("Cheapest", "Cheapest.__init__"), ("InOne", "InOne.__init__")]
def exB (K : PySem.W.Frag) : Bool := (clN.all fun x => insB K x) && ((supN.all fun p => supB K p.1 p.2) && (He.eqO (PySem.W.nsIn K mainGlobals "permutations") (some (some (.type "itertools.permutations"))) && (He.eqO (PySem.W.nsIn K mainGlobals "factorial") (some (some (.builtin "math.factorial"))) && !decide ((He.cT K ("cheapest", none)).2 = (He.cT K ("in_one", none)).2))))
abbrev FnC : Type := Option (Str × Str × Arguments × FuncBody × Scope × Addr × List Str × Value × Addr)
def fnC (K : PySem.W.Frag) (x : Str) : FnC := match K.lookup (He.ma K (He.ga K x) "__init__") with
  | some ⟨_, _, .func fd, _⟩ => some (fd.name, fd.qualname, fd.params, fd.body, fd.scope, fd.globals, fd.closure.map (·.1), fd.defaults, fd.builtins)
  | _ => none
def supV (q : Str) (st : Stmt) : FnC := some ("__init__", q, C8.fnArgs st, .stmts (C8.fnBody st), C8.fnScope st, mainGlobals, ["__class__"], .none, builtinsNs)
/-! ### the Hook -/
def refsC (o : Obj) : List Addr := match o.data with
  | .func fd => He.refV fd.code ++ fd.closure.map (·.2)
  | .cls cd => [cd.ns]
  | _ => []
def valsD (o : Obj) : List Addr := match o.data with
  | .dict es _ => es.toList.flatMap fun e => He.refV e.val
  | _ => []
def outF (g : Addr → Option Obj) (f : Obj → List Addr) (a : Addr) : List Addr := match g a with
  | some o => f o
  | none => []
def frA : List Addr → (List Addr → List Addr) → List Addr
  | [], k => k []
  | a :: r, k => HandSHeadRun.frNat a fun a => frA r fun r => k (a :: r)
/-- the module's names, functions' code, classes' methods and their code, cells -/
def asZ (g : Addr → Option Obj) : List Addr := frA (outF g valsD mainGlobals) fun A2 => frA (A2.flatMap (outF g refsC)) fun A3 => frA (A3.flatMap (outF g valsD)) fun A4 => frA (A4.flatMap (outF g refsC)) fun A5 => mainGlobals :: cStatics :: (A2 ++ (A3 ++ (A4 ++ A5)))
def tfL : List He.Defn := [("cheapest", none), ("in_one", none)]
abbrev AlY : Type := He.AlD × (List FnC × Bool)
def fnCs (K : PySem.W.Frag) : List FnC := [fnC K "Tube", fnC K "Cheapest", fnC K "InOne"]
def obsY (g : Addr → Option Obj) : AlY := (He.obsD faL fnL (He.frT g (asZ g)), (fnCs (He.frT g (asZ g)), exB (He.frT g (asZ g)) && He.tabsB g tfL (He.frT g (asZ g))))
def valY : AlY := (He.valD fnL, ([supV "Tube.__init__" s_Tube_init, supV "Cheapest.__init__" s_Cheapest_init, supV "InOne.__init__" s_InOne_init], true))
structure SaysY (h : Heap) (K : PySem.W.Frag) : Prop where
  d : He.SaysD faL fnL K
  sup : fnCs K = valY.2.1
  more : exB K = true
  hd : ∀ p ∈ tfL, PySem.W.codeHdIn K (He.cT K p).1 (He.cT K p).2 = true
  out : ∀ p ∈ tfL, K.lookup (He.cT K p).2 = none
  empty : ∀ p ∈ tfL, h.get? (He.cT K p).2 = some { cls := .none, data := .fields #[] }
theorem saysY_of {h : Heap} (e : obsY h.get? = valY) : SaysY h (He.frT h.get? (asZ h.get?)) := by
  have e1 : He.obsD faL fnL (He.frT h.get? (asZ h.get?)) = He.valD fnL := congrArg (fun z : AlY => z.1) e
  have e2 : fnCs (He.frT h.get? (asZ h.get?)) = valY.2.1 := congrArg (fun z : AlY => z.2.1) e
  have e3 : (exB (He.frT h.get? (asZ h.get?)) && He.tabsB h.get? tfL (He.frT h.get? (asZ h.get?))) = true := congrArg (fun z : AlY => z.2.2) e
  obtain ⟨h1, h2⟩ := He.ba e3
  have key : ∀ p ∈ tfL, PySem.W.codeHdIn (He.frT h.get? (asZ h.get?)) (He.cT (He.frT h.get? (asZ h.get?)) p).1 (He.cT (He.frT h.get? (asZ h.get?)) p).2 = true ∧ ∃ o, h.get? (He.cT (He.frT h.get? (asZ h.get?)) p).2 = some o ∧ He.emptyTab o = true := fun p hp => by
    obtain ⟨h3, h4⟩ := He.ba (List.all_eq_true.mp h2 p hp)
    refine ⟨h3, ?_⟩
    cases q : h.get? (He.cT (He.frT h.get? (asZ h.get?)) p).2 with
    | none =>
      rw [q] at h4
      cases h4
    | some o =>
      rw [q] at h4
      exact ⟨o, rfl, h4⟩
  exact ⟨e1, e2, h1, fun p hp => (key p hp).1, fun p hp => by
    obtain ⟨_, o, q, z⟩ := key p hp
    exact He.frT_none q z, fun p hp => by
    obtain ⟨_, o, q, z⟩ := key p hp
    rw [q, He.emptyTab_eq z]⟩
def hookY : PySem.W.Hook where
  α := AlY
  obs := fun s => obsY s.heap.get?
  val := fun _ => valY
  says := fun _ h => ∃ K : PySem.W.Frag, K.In h ∧ SaysY h K
  of := fun _ _ e => ⟨_, He.frT_in, saysY_of e⟩
  keeps := fun _ _ _ ⟨K, hK, c⟩ k => ⟨K, PySem.W.Frag.In.keeps hK k, ⟨c.d, c.sup, c.more, c.hd, c.out, fun p hp => k _ _ (c.empty p hp)⟩⟩
def obT (s : PySem.W.SharedT) : AlY := obsY (HandSHeadRun.getT s)
theorem obT_eq (s : PySem.W.SharedT) : obT s = hookY.obs s.abs := by
  have e : HandSHeadRun.getT s = s.abs.heap.get? := funext (HandSHeadRun.getT_eq s)
  show obsY (HandSHeadRun.getT s) = obsY s.abs.heap.get?
  rw [e]
end Hw
/-! H2 -/
/-! H2: the run of the top, in parts. -/
namespace Hw
open PySem PySem.W PySem.Calls PyProof.Rows
abbrev R0 : OpenRow := OpenLaw.row PySem.Challenge.rw_handlerims_k97_whole_cut_banded_put_toge
abbrev qv : Program := view R0.prog [0, 1, 107]
def looseN : List PySem.Str := (names0.drop 2) ++ (names1 ++ (names2 ++ (names3 ++ names4)))
noncomputable abbrev wholeR (w : World) := HandSHeadRun.wholeF (fun p => HandSHeadRun.stepQ (HandSHeadRun.denQ HandSHeadRun.tabQ) p w) HandSHeadRun.fenceQ 20000 R0.prog
theorem runA (w : World) : (wholeR w).map (fun x => HandSHeadRun.looksF R0.prog x.1.heap x.2.abs) = some true := by
  kernel_rfl
theorem runB (w : World) : (wholeR w).map (fun x => HandSHeadRun.seenQ qv looseN (importedModules R0.prog.main.body) (fun s => xlAt qv [] s && recOk R0.toRowW.records s) x.2.abs) = some (openGood qv looseN) := by
  kernel_rfl
theorem runC (w : World) : (wholeR w).map (fun x => He.obsD [] fnL (He.frT (HandSHeadRun.getT x.2) (asZ (HandSHeadRun.getT x.2)))) = some (He.valD fnL) := by
  kernel_rfl
theorem runD (w : World) : (wholeR w).map (fun x => (He.obsD faL [] (He.frT (HandSHeadRun.getT x.2) (asZ (HandSHeadRun.getT x.2))), (obT x.2).2)) = some (He.valD [], valY.2) := by
  kernel_rfl
theorem obsD_both {fa : List He.Fa} {fn : List He.DefD} {K : Frag} (h1 : He.obsD [] fn K = He.valD fn) (h2 : He.obsD fa [] K = He.valD []) : He.obsD fa fn K = He.valD fn := by
  have a1 : (true && fn.all fun d => d.ok K) = true := congrArg (fun z : He.AlD => z.1) h1
  have a2 : (fn.map fun d => He.fnW K d.at_) = fn.map He.DefD.val := congrArg (fun z : He.AlD => z.2) h1
  have a3 : ((fa.all fun f => f.ok K) && true) = true := congrArg (fun z : He.AlD => z.1) h2
  rw [Bool.true_and] at a1
  rw [Bool.and_true] at a3
  unfold He.obsD He.valD
  rw [a1, a2, a3]
  rfl
theorem runE (w : World) : (wholeR w).map (fun x => obT x.2) = some valY := by
  have c := runC w
  have d := runD w
  cases e : wholeR w with
  | none =>
    rw [e] at c
    cases c
  | some x =>
    rw [e] at c d
    have c1 : He.obsD [] fnL (He.frT (HandSHeadRun.getT x.2) (asZ (HandSHeadRun.getT x.2))) = He.valD fnL := Option.some.inj c
    have d1 : (He.obsD faL [] (He.frT (HandSHeadRun.getT x.2) (asZ (HandSHeadRun.getT x.2))), (obT x.2).2) = (He.valD [], valY.2) := Option.some.inj d
    obtain ⟨d2, d3⟩ := Prod.mk.inj d1
    have d4 : (obT x.2).1 = valY.1 := obsD_both c1 d2
    show some (obT x.2) = some valY
    exact congrArg some (Prod.ext d4 d3)
theorem map_pair {α β γ : Type} {o : Option α} {f : α → β} {g : α → γ} {b : β} {c : γ} (h1 : o.map f = some b) (h2 : o.map g = some c) : o.map (fun x => (f x, g x)) = some (b, c) := by
  cases o with
  | none => cases h1
  | some x =>
    have e1 : f x = b := Option.some.inj h1
    have e2 : g x = c := Option.some.inj h2
    show some (f x, g x) = some (b, c)
    rw [e1, e2]
theorem run (w : World) : HandSHeadRun.RunEqI R0 qv hookY obT 20000 looseN w := map_pair (runA w) (map_pair (runB w) (runE w))
end Hw
/-! M1 -/
/-! M1: orbits of a bijection of [0,n), transversals, how many cycles. -/
namespace HR

/-! ### lists without repetition -/
theorem inj_len {α β : Type} [DecidableEq β] (R : α → β → Prop) : ∀ (L1 : List α) (L2 : List β), L1.Nodup → (∀ x ∈ L1, ∃ y, y ∈ L2 ∧ R x y) →
    (∀ x ∈ L1, ∀ x' ∈ L1, ∀ y ∈ L2, R x y → R x' y → x = x') → L1.length ≤ L2.length
  | [], _, _, _, _ => Nat.zero_le _
  | x :: L1, L2, nd, h, u => by
    obtain ⟨nx, nd'⟩ := List.nodup_cons.mp nd
    obtain ⟨y, hy, r⟩ := h x List.mem_cons_self
    have ih := inj_len R L1 (L2.erase y) nd' (fun x' hx' => by
      obtain ⟨y', hy', r'⟩ := h x' (List.mem_cons_of_mem _ hx')
      refine ⟨y', ?_, r'⟩
      have ne : y' ≠ y := fun e => by
        subst e
        have := u x List.mem_cons_self x' (List.mem_cons_of_mem _ hx') y' hy r r'
        exact nx (this ▸ hx')
      exact (List.mem_erase_of_ne ne).mpr hy') (fun a ha b hb c hc ra rb => u a (List.mem_cons_of_mem _ ha) b (List.mem_cons_of_mem _ hb) c (List.mem_of_mem_erase hc) ra rb)
    have e := List.length_erase_of_mem hy
    have p : 0 < L2.length := List.length_pos_of_mem hy
    rw [List.length_cons]
    omega
theorem nodup_len {n : Nat} {L : List Nat} (nd : L.Nodup) (h : ∀ x ∈ L, x < n) : L.length ≤ n := by
  have := inj_len (fun x y => x = y) L (List.range n) nd (fun x hx => ⟨x, List.mem_range.mpr (h x hx), rfl⟩) (fun a _ b _ c _ ra rb => ra.trans rb.symm)
  simpa using this

/-! ### iterating -/
def it (f : Nat → Nat) : Nat → Nat → Nat
  | 0, x => x
  | k + 1, x => f (it f k x)
theorem it_add (f : Nat → Nat) (j k x : Nat) : it f (j + k) x = it f j (it f k x) := by
  induction j with
  | zero => rw [Nat.zero_add]; rfl
  | succ j ih => rw [Nat.succ_add]; show f (it f (j + k) x) = f (it f j (it f k x)); rw [ih]
theorem it_succ' (f : Nat → Nat) (k x : Nat) : it f (k + 1) x = it f k (f x) := it_add f k 1 x
structure Bij (n : Nat) (f : Nat → Nat) : Prop where
  lt : ∀ x, x < n → f x < n
  inj : ∀ x y, x < n → y < n → f x = f y → x = y
def Orb (f : Nat → Nat) (x y : Nat) : Prop := ∃ k, it f k x = y
theorem Orb.refl (f : Nat → Nat) (x : Nat) : Orb f x x := ⟨0, rfl⟩
theorem Orb.step (f : Nat → Nat) (x : Nat) : Orb f x (f x) := ⟨1, rfl⟩
theorem Orb.trans {f : Nat → Nat} {x y z : Nat} : Orb f x y → Orb f y z → Orb f x z := by
  rintro ⟨j, rfl⟩ ⟨k, rfl⟩
  exact ⟨k + j, it_add f k j x⟩
section
variable {n : Nat} {f : Nat → Nat} (b : Bij n f)
include b
theorem Bij.it_lt {x : Nat} (hx : x < n) : ∀ k, it f k x < n
  | 0 => hx
  | k + 1 => b.lt _ (Bij.it_lt hx k)
theorem Bij.it_inj : ∀ (k : Nat) {x y : Nat}, x < n → y < n → it f k x = it f k y → x = y
  | 0, _, _, _, _, e => e
  | k + 1, _, _, hx, hy, e => Bij.it_inj k hx hy (b.inj _ _ (b.it_lt hx k) (b.it_lt hy k) e)
theorem Bij.period {x : Nat} (hx : x < n) : ∃ p, 0 < p ∧ it f p x = x := by
  by_cases h : ∃ i j, i < j ∧ it f i x = it f j x
  · obtain ⟨i, j, hij, e⟩ := h
    refine ⟨j - i, by omega, ?_⟩
    have e2 : it f i (it f (j - i) x) = it f i x := by
      rw [← it_add, show i + (j - i) = j by omega]
      exact e.symm
    exact b.it_inj i (b.it_lt hx _) hx e2
  · exfalso
    have nd : ((List.range (n + 1)).map fun i => it f i x).Nodup := by
      rw [List.nodup_iff_pairwise_ne, List.pairwise_map]
      refine List.Pairwise.imp (fun {i j} hij e => h ⟨i, j, hij, e⟩) List.pairwise_lt_range
    have := nodup_len (n := n) nd (fun y hy => by
      obtain ⟨i, _, rfl⟩ := List.mem_map.mp hy
      exact b.it_lt hx i)
    simp at this
    omega
theorem Bij.back {x : Nat} (hx : x < n) : Orb f (f x) x := by
  obtain ⟨p, hp, e⟩ := b.period hx
  obtain ⟨q, rfl⟩ : ∃ q, p = q + 1 := ⟨p - 1, by omega⟩
  exact ⟨q, by rw [← it_succ']; exact e⟩
theorem Bij.symm {x y : Nat} (hx : x < n) : Orb f x y → Orb f y x := by
  rintro ⟨k, rfl⟩
  induction k with
  | zero => exact Orb.refl f _
  | succ k ih => exact (b.back (b.it_lt hx k)).trans ih
theorem Bij.orb_lt {x y : Nat} (hx : x < n) : Orb f x y → y < n := by
  rintro ⟨k, rfl⟩
  exact b.it_lt hx k
end

/-! ### transversals -/
structure Tr (n : Nat) (f : Nat → Nat) (L : List Nat) : Prop where
  nd : L.Nodup
  lt : ∀ x ∈ L, x < n
  sep : ∀ x ∈ L, ∀ y ∈ L, Orb f x y → x = y
  cov : ∀ x, x < n → ∃ y, y ∈ L ∧ Orb f y x
theorem tr_le {n : Nat} {f : Nat → Nat} {L1 L2 : List Nat} (b : Bij n f) (t1 : Tr n f L1) (t2 : Tr n f L2) : L1.length ≤ L2.length :=
  inj_len (fun x y => Orb f y x) L1 L2 t1.nd (fun x hx => t2.cov x (t1.lt x hx)) fun x hx x' hx' y hy r r' =>
    t1.sep x hx x' hx' ((b.symm (t2.lt y hy) r).trans r')
theorem tr_eq {n : Nat} {f : Nat → Nat} {L1 L2 : List Nat} (b : Bij n f) (t1 : Tr n f L1) (t2 : Tr n f L2) : L1.length = L2.length :=
  Nat.le_antisymm (tr_le b t1 t2) (tr_le b t2 t1)
open Classical in
/-- how many cycles: the places with none of their orbit ahead -/
noncomputable def reps (n : Nat) (f : Nat → Nat) : List Nat := (List.range n).filter fun x => decide (∀ y, y < x → ¬ Orb f y x)
noncomputable def cyc (n : Nat) (f : Nat → Nat) : Nat := (reps n f).length
open Classical in
theorem tr_cyc {n : Nat} {f : Nat → Nat} (b : Bij n f) : Tr n f (reps n f) where
  nd := List.nodup_range.filter _
  lt := fun x hx => List.mem_range.mp (List.mem_filter.mp hx).1
  sep := fun x hx y hy o => by
    have h1 := of_decide_eq_true (List.mem_filter.mp hx).2
    have h2 := of_decide_eq_true (List.mem_filter.mp hy).2
    have lx := List.mem_range.mp (List.mem_filter.mp hx).1
    rcases Nat.lt_trichotomy x y with h | h | h
    · exact (h2 x h o).elim
    · exact h
    · exact (h1 y h (b.symm lx o)).elim
  cov := fun x => by
    induction x using Nat.strongRecOn with
    | ind x ih =>
      intro hx
      by_cases h : ∀ y, y < x → ¬ Orb f y x
      · exact ⟨x, List.mem_filter.mpr ⟨List.mem_range.mpr hx, decide_eq_true h⟩, Orb.refl f x⟩
      · have h : ∃ y, y < x ∧ Orb f y x := by
          apply Classical.byContradiction
          intro g
          exact h fun y hy o => g ⟨y, hy, o⟩
        obtain ⟨y, hy, o⟩ := h
        obtain ⟨z, hz, o'⟩ := ih y hy (by omega)
        exact ⟨z, hz, o'.trans o⟩
theorem cyc_of {n : Nat} {f : Nat → Nat} {L : List Nat} (b : Bij n f) (t : Tr n f L) : cyc n f = L.length := tr_eq b (tr_cyc b) t

/-! ### first return: g on [0,m) goes through [0,n), placed by s, as f does -/
theorem cyc_ret {n m : Nat} {f g s : Nat → Nat} (bf : Bij n f) (bg : Bij m g) (hs : ∀ x, x < n → s x < m) (si : ∀ x y, x < n → y < n → s x = s y → x = y)
    (ret : ∀ x, x < n → ∃ j, 0 < j ∧ it g j (s x) = s (f x) ∧ ∀ i, 0 < i → i < j → ∀ y, y < n → it g i (s x) ≠ s y)
    (cov : ∀ z, z < m → ∃ x, x < n ∧ Orb g (s x) z) : cyc m g = cyc n f := by
  have up : ∀ k x, x < n → Orb g (s x) (s (it f k x)) := fun k => by
    induction k with
    | zero => exact fun x _ => Orb.refl g _
    | succ k ih =>
      intro x hx
      obtain ⟨j, _, e, _⟩ := ret _ (bf.it_lt hx k)
      exact (ih x hx).trans ⟨j, e⟩
  have down : ∀ k x y, x < n → y < n → it g k (s x) = s y → Orb f x y := fun k => by
    induction k using Nat.strongRecOn with
    | ind k ih =>
      intro x y hx hy e
      by_cases h0 : k = 0
      · subst h0
        have : x = y := si x y hx hy e
        subst this
        exact Orb.refl f x
      · obtain ⟨j, hj, e1, nb⟩ := ret x hx
        by_cases hk : k < j
        · exact (nb k (by omega) hk y hy e).elim
        · have e2 : it g (k - j) (s (f x)) = s y := by
            rw [← e1, ← it_add, show k - j + j = k by omega]
            exact e
          exact (Orb.step f x).trans (ih (k - j) (by omega) (f x) y (bf.lt x hx) hy e2)
  have T := tr_cyc bf
  have T2 : Tr m g ((reps n f).map s) := by
    refine ⟨?_, fun z hz => ?_, fun a ha c hc o => ?_, fun z hz => ?_⟩
    · rw [List.nodup_iff_pairwise_ne, List.pairwise_map]
      exact List.Pairwise.imp_of_mem (fun {x y} hx hy ne e => ne (si x y (T.lt x hx) (T.lt y hy) e)) (List.nodup_iff_pairwise_ne.mp T.nd)
    · obtain ⟨x, hx, rfl⟩ := List.mem_map.mp hz
      exact hs x (T.lt x hx)
    · obtain ⟨x, hx, rfl⟩ := List.mem_map.mp ha
      obtain ⟨y, hy, rfl⟩ := List.mem_map.mp hc
      obtain ⟨k, e⟩ := o
      rw [T.sep x hx y hy (down k x y (T.lt x hx) (T.lt y hy) e)]
    · obtain ⟨x, hx, o⟩ := cov z hz
      obtain ⟨y, hy, k, e⟩ := T.cov x hx
      refine ⟨s y, List.mem_map.mpr ⟨y, hy, rfl⟩, ?_⟩
      have := up k y (T.lt y hy)
      rw [e] at this
      exact this.trans o
  rw [cyc_of bg T2, List.length_map]
  rfl
/-- the same, placed otherwise -/
theorem cyc_conj {n : Nat} {f g s : Nat → Nat} (bf : Bij n f) (bg : Bij n g) (bs : Bij n s) (h : ∀ x, x < n → g (s x) = s (f x)) : cyc n g = cyc n f := by
  refine cyc_ret bf bg bs.lt bs.inj (fun x hx => ⟨1, by omega, h x hx, fun i h1 h2 => by omega⟩) fun z hz => ?_
  obtain ⟨p, hp, e⟩ := bs.period hz
  obtain ⟨q, rfl⟩ : ∃ q, p = q + 1 := ⟨p - 1, by omega⟩
  exact ⟨it s q z, bs.it_lt hz q, by show Orb g (it s (q + 1) z) z; rw [e]; exact Orb.refl g z⟩
theorem cyc_congr {n : Nat} {f g : Nat → Nat} (bf : Bij n f) (h : ∀ x, x < n → g x = f x) : cyc n g = cyc n f := by
  have bg : Bij n g := ⟨fun x hx => by rw [h x hx]; exact bf.lt x hx, fun x y hx hy e => bf.inj x y hx hy (by rw [← h x hx, ← h y hy]; exact e)⟩
  exact cyc_conj (s := fun x => x) bf bg ⟨fun _ h => h, fun _ _ _ _ e => e⟩ h

/-! ### two lots -/
theorem cyc_two {n m : Nat} {f f2 : Nat → Nat} (b1 : Bij n f) (b2 : Bij m f2) (b : Bij (n + m) f) (h : ∀ x, x < m → f (n + x) = n + f2 x) : cyc (n + m) f = cyc n f + cyc m f2 := by
  have T1 := tr_cyc b1
  have T2 := tr_cyc b2
  have hi : ∀ k x, x < m → it f k (n + x) = n + it f2 k x := fun k => by
    induction k with
    | zero => intro x _; rfl
    | succ k ih => intro x hx; show f (it f k (n + x)) = _; rw [ih x hx, h _ (b2.it_lt hx k)]; rfl
  have T : Tr (n + m) f ((reps n f) ++
      (reps m f2).map fun x => n + x) := by
    refine ⟨?_, fun z hz => ?_, fun a ha c hc o => ?_, fun z hz => ?_⟩
    · refine List.nodup_append.mpr ⟨T1.nd, ?_, fun x hx y hy e => ?_⟩
      · rw [List.nodup_iff_pairwise_ne, List.pairwise_map]
        exact List.Pairwise.imp (fun {x y} ne e => ne (by omega)) (List.nodup_iff_pairwise_ne.mp T2.nd)
      · obtain ⟨z, _, rfl⟩ := List.mem_map.mp hy
        have := T1.lt x hx
        omega
    · rcases List.mem_append.mp hz with hz | hz
      · have := T1.lt z hz; omega
      · obtain ⟨x, hx, rfl⟩ := List.mem_map.mp hz
        have := T2.lt x hx; omega
    · obtain ⟨k, e⟩ := o
      rcases List.mem_append.mp ha with ha | ha
      · have l := b1.it_lt (T1.lt a ha) k
        rcases List.mem_append.mp hc with hc | hc
        · exact T1.sep a ha c hc ⟨k, e⟩
        · obtain ⟨y, hy, rfl⟩ := List.mem_map.mp hc
          omega
      · obtain ⟨x, hx, rfl⟩ := List.mem_map.mp ha
        rw [hi k x (T2.lt x hx)] at e
        rcases List.mem_append.mp hc with hc | hc
        · have := T1.lt c hc; omega
        · obtain ⟨y, hy, rfl⟩ := List.mem_map.mp hc
          rw [T2.sep x hx y hy ⟨k, by omega⟩]
    · by_cases hn : z < n
      · obtain ⟨y, hy, o⟩ := T1.cov z hn
        exact ⟨y, List.mem_append_left _ hy, o⟩
      · obtain ⟨y, hy, k, e⟩ := T2.cov (z - n) (by omega)
        exact ⟨n + y, List.mem_append_right _ (List.mem_map.mpr ⟨y, hy, rfl⟩), k, by rw [hi k y (T2.lt y hy)]; omega⟩
  rw [cyc_of b T, List.length_append, List.length_map]
  rfl

/-! ### two values exchanged -/
def sw (f : Nat → Nat) (a b x : Nat) : Nat := if x = a then f b else if x = b then f a else f x
section
variable {n : Nat} {f : Nat → Nat} {a b : Nat}
theorem sw_a : sw f a b a = f b := if_pos rfl
theorem sw_b : sw f a b b = f a := by
  unfold sw
  by_cases h : b = a
  · rw [if_pos h, h]
  · rw [if_neg h, if_pos rfl]
theorem sw_o {x : Nat} (h1 : x ≠ a) (h2 : x ≠ b) : sw f a b x = f x := by
  unfold sw
  rw [if_neg h1, if_neg h2]
theorem sw_comm (x : Nat) : sw f a b x = sw f b a x := by
  by_cases h1 : x = a
  · subst h1; rw [sw_a, sw_b]
  · by_cases h2 : x = b
    · subst h2; rw [sw_b, sw_a]
    · rw [sw_o h1 h2, sw_o h2 h1]
theorem sw_sw (x : Nat) : sw (sw f a b) a b x = f x := by
  by_cases h1 : x = a
  · subst h1; rw [sw_a, sw_b]
  · by_cases h2 : x = b
    · subst h2; rw [sw_b, sw_a]
    · rw [sw_o h1 h2, sw_o h1 h2]
theorem sw_bij (bf : Bij n f) (ha : a < n) (hb : b < n) : Bij n (sw f a b) where
  lt := fun x hx => by
    unfold sw
    split
    · exact bf.lt _ hb
    · split
      · exact bf.lt _ ha
      · exact bf.lt _ hx
  inj := fun x y hx hy e => by
    by_cases x1 : x = a <;> by_cases y1 : y = a
    · exact x1.trans y1.symm
    · subst x1
      rw [sw_a] at e
      by_cases y2 : y = b
      · subst y2; rw [sw_b] at e; exact bf.inj _ _ hx hy e.symm
      · rw [sw_o y1 y2] at e
        exact (y2 (bf.inj _ _ hb hy e).symm).elim
    · subst y1
      rw [sw_a] at e
      by_cases x2 : x = b
      · subst x2; rw [sw_b] at e; exact bf.inj _ _ hx hy e.symm
      · rw [sw_o x1 x2] at e
        exact (x2 (bf.inj _ _ hx hb e)).elim
    · by_cases x2 : x = b <;> by_cases y2 : y = b
      · exact x2.trans y2.symm
      · subst x2
        rw [sw_b, sw_o y1 y2] at e
        exact (y1 (bf.inj _ _ ha hy e).symm).elim
      · subst y2
        rw [sw_b, sw_o x1 x2] at e
        exact (x1 (bf.inj _ _ hx ha e)).elim
      · rw [sw_o x1 x2, sw_o y1 y2] at e
        exact bf.inj _ _ hx hy e
/-- apart before: one behind -/
theorem sw_join (bf : Bij n f) (ha : a < n) (hb : b < n) (h : ¬ Orb f b a) : Orb (sw f a b) a b := by
  have hp : ∃ p, 0 < p ∧ it f p b = b := bf.period hb
  -- the least period
  have least : ∀ p, 0 < p → it f p b = b → ∃ q, 0 < q ∧ it f q b = b ∧ ∀ i, 0 < i → i < q → it f i b ≠ b := fun p => by
    induction p using Nat.strongRecOn with
    | ind p ih =>
      intro h0 e
      by_cases g : ∃ i, 0 < i ∧ i < p ∧ it f i b = b
      · obtain ⟨i, i0, i1, e'⟩ := g
        exact ih i i1 i0 e'
      · exact ⟨p, h0, e, fun i i0 i1 e' => g ⟨i, i0, i1, e'⟩⟩
  obtain ⟨p, p0, pe⟩ := hp
  obtain ⟨q, q0, qe, qm⟩ := least p p0 pe
  have go : ∀ j, 0 < j → j ≤ q → it (sw f a b) j a = it f j b := fun j => by
    induction j with
    | zero => intro h0; omega
    | succ j ih =>
      intro _ hj
      by_cases j0 : j = 0
      · subst j0; exact sw_a
      · show sw f a b (it (sw f a b) j a) = f (it f j b)
        rw [ih (by omega) (by omega)]
        exact sw_o (fun e => h ⟨j, e⟩) (qm j (by omega) (by omega))
  exact ⟨q, by rw [go q q0 (Nat.le_refl q)]; exact qe⟩
/-- together before: apart behind -/
theorem sw_part (bf : Bij n f) (ha : a < n) (hb : b < n) (ne : a ≠ b) (h : Orb f a b) : ¬ Orb (sw f a b) b a := by
  obtain ⟨k, ke⟩ := h
  have least : ∀ p, it f p a = b → ∃ q, it f q a = b ∧ ∀ i, i < q → it f i a ≠ b := fun p => by
    induction p using Nat.strongRecOn with
    | ind p ih =>
      intro e
      by_cases g : ∃ i, i < p ∧ it f i a = b
      · obtain ⟨i, i1, e'⟩ := g
        exact ih i i1 e'
      · exact ⟨p, e, fun i i1 e' => g ⟨i, i1, e'⟩⟩
  obtain ⟨q, qe, qm⟩ := least k ke
  have q0 : 0 < q := by
    rcases Nat.eq_zero_or_pos q with z | z
    · subst z; exact (ne qe).elim
    · exact z
  have na : ∀ i, 0 < i → i ≤ q → it f i a ≠ a := fun i i0 i1 e => by
    by_cases hi : i = q
    · subst hi; exact ne (e.symm.trans qe)
    · have : it f (q - i) a = b := by
        rw [← qe, show it f q a = it f (q - i) (it f i a) by rw [← it_add, show q - i + i = q by omega], e]
      exact qm (q - i) (by omega) this
  rintro ⟨j, je⟩
  have inS : ∀ j, ∃ i, 0 < i ∧ i ≤ q ∧ it (sw f a b) j b = it f i a := fun j => by
    induction j with
    | zero => exact ⟨q, q0, Nat.le_refl q, qe.symm⟩
    | succ j ih =>
      obtain ⟨i, i0, i1, e⟩ := ih
      by_cases hi : i = q
      · refine ⟨1, by omega, by omega, ?_⟩
        show sw f a b (it (sw f a b) j b) = f a
        rw [e, hi, qe, sw_b]
      · refine ⟨i + 1, by omega, by omega, ?_⟩
        show sw f a b (it (sw f a b) j b) = f (it f i a)
        rw [e]
        exact sw_o (na i i0 i1) (qm i (by omega))
  obtain ⟨i, i0, i1, e⟩ := inS j
  exact na i i0 i1 (e.symm.trans je)
/-- apart: one cycle fewer -/
theorem cyc_join (bf : Bij n f) (ha : a < n) (hb : b < n) (h : ¬ Orb f a b) : cyc n (sw f a b) + 1 = cyc n f := by
  have bg := sw_bij bf ha hb
  have h' : ¬ Orb f b a := fun o => h (bf.symm hb o)
  have oab : Orb (sw f a b) a b := sw_join bf ha hb h'
  have oba : Orb (sw f a b) b a := bg.symm ha oab
  have T := tr_cyc bf
  -- what is one in g
  have M : ∀ k x, x < n → Orb f x (it (sw f a b) k x) ∨ (Orb f x a ∧ Orb f b (it (sw f a b) k x)) ∨ (Orb f x b ∧ Orb f a (it (sw f a b) k x)) := fun k => by
    induction k with
    | zero => intro x _; exact .inl (Orb.refl f x)
    | succ k ih =>
      intro x hx
      show Orb f x (sw f a b (it (sw f a b) k x)) ∨ (Orb f x a ∧ Orb f b (sw f a b (it (sw f a b) k x))) ∨ (Orb f x b ∧ Orb f a (sw f a b (it (sw f a b) k x)))
      have := ih x hx
      generalize hy : it (sw f a b) k x = y at this ⊢
      by_cases h1 : y = a
      · subst h1
        rw [sw_a]
        rcases this with o | ⟨o, _⟩ | ⟨o, _⟩
        · exact .inr (.inl ⟨o, Orb.step f b⟩)
        · exact .inr (.inl ⟨o, Orb.step f b⟩)
        · exact .inl (o.trans (Orb.step f b))
      · by_cases h2 : y = b
        · subst h2
          rw [sw_b]
          rcases this with o | ⟨o, _⟩ | ⟨o, _⟩
          · exact .inr (.inr ⟨o, Orb.step f a⟩)
          · exact .inl (o.trans (Orb.step f a))
          · exact .inr (.inr ⟨o, Orb.step f a⟩)
        · rw [sw_o h1 h2]
          rcases this with o | ⟨o, p⟩ | ⟨o, p⟩
          · exact .inl (o.trans (Orb.step f y))
          · exact .inr (.inl ⟨o, p.trans (Orb.step f y)⟩)
          · exact .inr (.inr ⟨o, p.trans (Orb.step f y)⟩)
  have st : ∀ y, Orb (sw f a b) y (f y) := fun y => by
    by_cases h1 : y = a
    · subst h1
      have := Orb.step (sw f y b) b
      rw [sw_b] at this
      exact oab.trans this
    · by_cases h2 : y = b
      · subst h2
        have := Orb.step (sw f a y) a
        rw [sw_a] at this
        exact oba.trans this
      · have := Orb.step (sw f a b) y
        rw [sw_o h1 h2] at this
        exact this
  have up : ∀ {x y}, Orb f x y → Orb (sw f a b) x y := by
    rintro x y ⟨k, rfl⟩
    induction k with
    | zero => exact Orb.refl _ _
    | succ k ih => exact ih.trans (st _)
  obtain ⟨ra, hra, oa⟩ := T.cov a ha
  obtain ⟨rb, hrb, ob⟩ := T.cov b hb
  have la := T.lt ra hra
  have lb := T.lt rb hrb
  have nr : ra ≠ rb := fun e => h ((bf.symm la oa).trans (e ▸ ob))
  have T2 : Tr n (sw f a b) ((reps n f).erase rb) := by
    refine ⟨T.nd.erase rb, fun x hx => T.lt x (List.mem_of_mem_erase hx), fun x hx y hy o => ?_, fun x hx => ?_⟩
    · have x1 := List.mem_of_mem_erase hx
      have y1 := List.mem_of_mem_erase hy
      have xb : x ≠ rb := (List.Nodup.mem_erase_iff T.nd).mp hx |>.1
      have yb : y ≠ rb := (List.Nodup.mem_erase_iff T.nd).mp hy |>.1
      obtain ⟨k, e⟩ := o
      have m := M k x (T.lt x x1)
      rw [e] at m
      rcases m with o | ⟨o, p⟩ | ⟨o, p⟩
      · exact T.sep x x1 y y1 o
      · exact (yb (T.sep rb hrb y y1 (ob.trans p)).symm).elim
      · exact (xb (T.sep x x1 rb hrb (o.trans (bf.symm lb ob)))).elim
    · obtain ⟨y, hy, o⟩ := T.cov x hx
      by_cases hyb : y = rb
      · subst hyb
        refine ⟨ra, (List.Nodup.mem_erase_iff T.nd).mpr ⟨nr, hra⟩, ?_⟩
        exact ((up oa).trans oab).trans (up ((bf.symm lb ob).trans o))
      · exact ⟨y, (List.Nodup.mem_erase_iff T.nd).mpr ⟨hyb, hy⟩, up o⟩
  have e1 := cyc_of bg T2
  have e2 := List.length_erase_of_mem hrb
  have e3 := List.length_pos_of_mem hrb
  have e4 : cyc n f = (reps n f).length := rfl
  omega
theorem cyc_part (bf : Bij n f) (ha : a < n) (hb : b < n) (ne : a ≠ b) (h : Orb f a b) : cyc n (sw f a b) = cyc n f + 1 := by
  have bg := sw_bij bf ha hb
  have h2 := sw_part bf ha hb ne h
  have h3 : ¬ Orb (sw f a b) a b := fun o => h2 (bg.symm ha o)
  have := cyc_join bg ha hb h3
  rw [cyc_congr (g := sw (sw f a b) a b) bf (fun x _ => sw_sw x)] at this
  exact this.symm
theorem cyc_sw (bf : Bij n f) (ha : a < n) (hb : b < n) (ne : a ≠ b) : cyc n (sw f a b) = cyc n f + 1 ∨ cyc n (sw f a b) + 1 = cyc n f := by
  by_cases h : Orb f a b
  · exact .inl (cyc_part bf ha hb ne h)
  · exact .inr (cyc_join bf ha hb h)
end
end HR
/-! P0 -/
/-! P0: the plain functions that the defs compute. -/
namespace HR
def absI (i : Int) : Int := if i < 0 then -i else i
/-- the contraries, the last one first -/
def contr (l : List Int) : List Int := l.reverse.map fun x => -x
/-- one letter more, shortened -/
def pushS (acc : List Int) (x : Int) : List Int := if acc ≠ [] ∧ acc.getLastD 0 = -x then acc.dropLast else acc ++ [x]
def shortF (l : List Int) : List Int := l.foldl pushS []
/-- how many letters go at each end, from at on -/
def roundA (l : List Int) : Nat → Nat → Nat
  | 0, a => a
  | f + 1, a => if a + 1 + a < l.length ∧ l.getD a 0 = -l.getD (l.length - 1 - a) 0 then roundA l f (a + 1) else a
def roundF (l : List Int) : List Int := (l.drop (roundA l l.length 0)).take (l.length - roundA l l.length 0 - roundA l l.length 0)
def areShort (l : List Int) : Bool := (List.range (l.length - 1)).all fun i => !decide (l.getD i 0 = -l.getD (i + 1) 0)
def isSR (l : List Int) : Bool := areShort l && decide (roundF l = l)
theorem roundA_le (l : List Int) : ∀ f a, a + a ≤ l.length → roundA l f a + roundA l f a ≤ l.length
  | 0, a, h => h
  | f + 1, a, h => by
    unfold roundA
    split
    · rename_i q
      exact roundA_le l f (a + 1) (by omega)
    · exact h
theorem roundA_step {l : List Int} {a : Nat} (h : a + 1 + a < l.length ∧ l.getD a 0 = -l.getD (l.length - 1 - a) 0) {f : Nat} : roundA l (f + 1) a = roundA l f (a + 1) := by
  show (if _ then _ else _) = _
  rw [if_pos h]
theorem roundA_stop {l : List Int} {a : Nat} (h : ¬ (a + 1 + a < l.length ∧ l.getD a 0 = -l.getD (l.length - 1 - a) 0)) : ∀ f, roundA l f a = a
  | 0 => rfl
  | f + 1 => by
    show (if _ then _ else _) = _
    rw [if_neg h]
theorem length_contr (l : List Int) : (contr l).length = l.length := by unfold contr; simp
theorem length_pushS (acc : List Int) (x : Int) : (pushS acc x).length ≤ acc.length + 1 := by
  unfold pushS
  split
  · rw [List.length_dropLast]; omega
  · simp
theorem length_foldS : ∀ (l acc : List Int), (l.foldl pushS acc).length ≤ acc.length + l.length
  | [], acc => by simp
  | x :: l, acc => by
    rw [List.foldl_cons, List.length_cons]
    have := length_foldS l (pushS acc x)
    have := length_pushS acc x
    omega
theorem length_shortF (l : List Int) : (shortF l).length ≤ l.length := by
  have := length_foldS l []
  simpa [shortF] using this
theorem length_roundF (l : List Int) : (roundF l).length ≤ l.length := by
  unfold roundF
  rw [List.length_take, List.length_drop]
  omega
theorem mem_foldS : ∀ (l acc : List Int) (y : Int), y ∈ l.foldl pushS acc → y ∈ acc ∨ y ∈ l
  | [], acc, y, h => .inl h
  | x :: l, acc, y, h => by
    rw [List.foldl_cons] at h
    rcases mem_foldS l _ y h with h | h
    · unfold pushS at h
      split at h
      · exact .inl (List.dropLast_subset _ h)
      · rcases List.mem_append.mp h with h | h
        · exact .inl h
        · exact .inr (List.mem_cons.mpr (.inl (List.mem_singleton.mp h)))
    · exact .inr (List.mem_cons_of_mem _ h)
theorem mem_shortF {l : List Int} {y : Int} (h : y ∈ shortF l) : y ∈ l := (mem_foldS l [] y h).resolve_left (by simp)
theorem mem_roundF {l : List Int} {y : Int} (h : y ∈ roundF l) : y ∈ l := List.mem_of_mem_drop (List.mem_of_mem_take h)
end HR
/-! P1 -/
/-! P1: plain words of rims. -/
namespace HR
/-- a list of places as ints -/
def iN (l : List Nat) : List Int := l.map fun (n : Nat) => (n : Int)
theorem length_iN (l : List Nat) : (iN l).length = l.length := List.length_map _
theorem iN_getD {l : List Nat} {i : Nat} (h : i < l.length) : (iN l).getD i 0 = ((l.getD i 0 : Nat) : Int) := by
  unfold iN
  rw [List.getD_eq_getElem?_getD, List.getD_eq_getElem?_getD, List.getElem?_map, List.getElem?_eq_getElem h]
  rfl
theorem iN_append (l m : List Nat) : iN (l ++ m) = iN l ++ iN m := List.map_append
theorem iN_inj {l m : List Nat} (h : iN l = iN m) : l = m := by
  unfold iN at h
  exact List.map_inj_right (fun a b e => Int.ofNat.inj e) |>.mp h
/-- the place behind each place, the words' lengths given -/
def nxF (b : Nat) : List Nat → List Nat
  | [] => []
  | l :: ls => ((List.range l).map fun i => b + (i + 1) % l) ++ nxF (b + l) ls
/-- the number of each place's word -/
def nuF (k : Nat) : List Nat → List Nat
  | [] => []
  | l :: ls => List.replicate l k ++ nuF (k + 1) ls
def lens (ws : List (List Int)) : List Nat := ws.map List.length
theorem length_nxF : ∀ (b : Nat) (ls : List Nat), (nxF b ls).length = ls.sum
  | _, [] => rfl
  | b, l :: ls => by
    show (_ ++ nxF (b + l) ls).length = _
    rw [List.length_append, List.length_map, List.length_range, length_nxF, List.sum_cons]
theorem length_nuF : ∀ (k : Nat) (ls : List Nat), (nuF k ls).length = ls.sum
  | _, [] => rfl
  | k, l :: ls => by
    show (_ ++ nuF (k + 1) ls).length = _
    rw [List.length_append, List.length_replicate, length_nuF, List.sum_cons]
theorem length_flat (ws : List (List Int)) : ws.flatten.length = (lens ws).sum := by rw [List.length_flatten]; rfl
theorem nxF_append : ∀ (b : Nat) (ls ms : List Nat), nxF b (ls ++ ms) = nxF b ls ++ nxF (b + ls.sum) ms
  | b, [], ms => by simp [nxF]
  | b, l :: ls, ms => by
    show _ ++ nxF (b + l) (ls ++ ms) = (_ ++ nxF (b + l) ls) ++ _
    rw [nxF_append (b + l) ls ms, List.sum_cons, List.append_assoc, Nat.add_assoc]
theorem nuF_append : ∀ (k : Nat) (ls ms : List Nat), nuF k (ls ++ ms) = nuF k ls ++ nuF (k + ls.length) ms
  | k, [], ms => by simp [nuF]
  | k, l :: ls, ms => by
    show _ ++ nuF (k + 1) (ls ++ ms) = (_ ++ nuF (k + 1) ls) ++ _
    rw [nuF_append (k + 1) ls ms, List.length_cons, List.append_assoc, Nat.add_assoc, Nat.add_comm 1]
theorem nxF_lt : ∀ (b : Nat) (ls : List Nat), ∀ x ∈ nxF b ls, b ≤ x ∧ x < b + ls.sum
  | b, [], x, h => by cases h
  | b, l :: ls, x, h => by
    rw [List.sum_cons]
    rcases List.mem_append.mp h with h | h
    · obtain ⟨i, hi, rfl⟩ := List.mem_map.mp h
      have hi := List.mem_range.mp hi
      have := Nat.mod_lt (i + 1) (show 0 < l by omega)
      omega
    · have := nxF_lt (b + l) ls x h
      omega
theorem nuF_lt : ∀ (k : Nat) (ls : List Nat), ∀ x ∈ nuF k ls, k ≤ x ∧ x < k + ls.length
  | k, [], x, h => by cases h
  | k, l :: ls, x, h => by
    rw [List.length_cons]
    rcases List.mem_append.mp h with h | h
    · have := List.eq_of_mem_replicate h
      omega
    · have := nuF_lt (k + 1) ls x h
      omega
/-- how far a kind is out of balance -/
def balF (k : Int) (ls : List Int) : Int := (ls.map fun l => if absI l = k then (if l > 0 then 1 else -1) else 0).sum
def Bal (ls : List Int) : Prop := ∀ k, balF k ls = 0
theorem balF_append (k : Int) (l m : List Int) : balF k (l ++ m) = balF k l + balF k m := by
  unfold balF
  rw [List.map_append, List.sum_append]
theorem balF_count {k : Int} (hk : 0 < k) : ∀ ls : List Int, balF k ls = (ls.count k : Int) - (ls.count (-k) : Int)
  | [] => by simp [balF]
  | l :: ls => by
    have ih := balF_count hk ls
    unfold balF at ih ⊢
    rw [List.map_cons, List.sum_cons, ih, List.count_cons, List.count_cons]
    unfold absI
    by_cases h1 : l = k
    · subst h1
      have : ¬ (l = -l) := by omega
      have h2 : (l == -l) = false := by simpa using this
      have h3 : ¬ l < 0 := by omega
      rw [if_neg h3, if_pos rfl, if_pos hk]
      simp [h2]
      omega
    · by_cases h2 : l = -k
      · subst h2
        have h3 : -k < 0 := by omega
        have h4 : (-k == k) = false := by simpa using h1
        rw [if_pos h3, if_pos (by omega), if_neg (by omega)]
        simp [h4]
        omega
      · have h3 : (l == k) = false := by simpa using h1
        have h4 : (l == -k) = false := by simpa using h2
        rw [if_neg (by split <;> omega)]
        simp [h3, h4]
theorem bal_of {ls : List Int} (h0 : ∀ l ∈ ls, l ≠ 0) (h : ∀ k, ls.count k = ls.count (-k)) : Bal ls := fun k => by
  by_cases hk : 0 < k
  · rw [balF_count hk, h k]
    omega
  · unfold balF
    have : ∀ l ∈ ls, (if absI l = k then (if l > 0 then (1 : Int) else -1) else 0) = 0 := fun l hl => by
      have := h0 l hl
      rw [if_neg]
      unfold absI
      split <;> omega
    rw [List.map_congr_left this]
    clear this h h0
    induction ls with
    | nil => rfl
    | cons l ls ih => rw [List.map_cons, List.sum_cons, ih]; rfl
end HR
/-! P2 -/
/-! P2: how many sewings; sewing by kinds. -/
namespace HR
def fac : Nat → Nat
  | 0 => 1
  | n + 1 => fac n * (n + 1)
theorem fac_pos : ∀ n, 1 ≤ fac n
  | 0 => Nat.le_refl _
  | n + 1 => Nat.mul_pos (fac_pos n) (Nat.succ_pos n)
def prodG (g : Int → Nat) (ks : List Int) : Nat := ks.foldl (fun a k => a * g k) 1
theorem foldl_mul (g : Int → Nat) : ∀ (ks : List Int) (a : Nat), ks.foldl (fun a k => a * g k) a = a * prodG g ks
  | [], a => (Nat.mul_one a).symm
  | k :: ks, a => by
    unfold prodG
    rw [List.foldl_cons, List.foldl_cons, foldl_mul g ks (a * g k), foldl_mul g ks (1 * g k), Nat.one_mul, Nat.mul_assoc]
theorem prodG_append (g : Int → Nat) (ks js : List Int) : prodG g (ks ++ js) = prodG g ks * prodG g js := by
  unfold prodG
  rw [List.foldl_append, foldl_mul g js]
  rfl
theorem prodG_one (g : Int → Nat) (k : Int) : prodG g [k] = g k := Nat.one_mul _
theorem prodG_cons (g : Int → Nat) (k : Int) (ks : List Int) : prodG g (k :: ks) = g k * prodG g ks := by
  rw [show k :: ks = [k] ++ ks from rfl, prodG_append, prodG_one]
theorem prodG_pos {g : Int → Nat} (h : ∀ k, 1 ≤ g k) : ∀ ks, 1 ≤ prodG g ks
  | [] => Nat.le_refl _
  | k :: ks => by rw [prodG_cons]; exact Nat.mul_pos (h k) (prodG_pos h ks)
theorem prodG_take {g : Int → Nat} (h : ∀ k, 1 ≤ g k) (ks : List Int) (i : Nat) : prodG g (ks.take i) ≤ prodG g ks := by
  conv => rhs; rw [← List.take_append_drop i ks, prodG_append]
  exact Nat.le_mul_of_pos_right _ (prodG_pos h _)
/-- the kinds from 1 to 26 -/
def allK : List Int := (List.range 26).map fun i => ((i + 1 : Nat) : Int)
theorem mem_allK {k : Int} : k ∈ allK ↔ 1 ≤ k ∧ k ≤ 26 := by
  unfold allK
  rw [List.mem_map]
  refine ⟨fun ⟨i, hi, e⟩ => ?_, fun h => ⟨(k - 1).toNat, List.mem_range.mpr (by omega), by omega⟩⟩
  have := List.mem_range.mp hi
  omega
theorem nodup_allK : allK.Nodup := by decide +kernel
/-- how many sewings the letters have -/
def manyF (ls : List Int) : Nat := prodG (fun k => fac (ls.count k)) allK
theorem prodG_congr {g h : Int → Nat} : ∀ {ks : List Int}, (∀ k ∈ ks, g k = h k) → prodG g ks = prodG h ks
  | [], _ => rfl
  | k :: ks, e => by rw [prodG_cons, prodG_cons, e k List.mem_cons_self, prodG_congr fun j hj => e j (List.mem_cons_of_mem _ hj)]
theorem prodG_perm {g : Int → Nat} {ks js : List Int} (p : ks.Perm js) : prodG g ks = prodG g js := by
  induction p with
  | nil => rfl
  | cons x _ ih => rw [prodG_cons, prodG_cons, ih]
  | swap x y l => rw [prodG_cons, prodG_cons, prodG_cons, prodG_cons, Nat.mul_left_comm]
  | trans _ _ ih1 ih2 => rw [ih1, ih2]
/-- a product over some kinds is that over all of them where the others give 1 -/
theorem prodG_sub {g : Int → Nat} : ∀ (js ks : List Int), js.Nodup → ks.Nodup → (∀ k ∈ ks, k ∈ js) → (∀ k ∈ js, k ∉ ks → g k = 1) → prodG g ks = prodG g js
  | [], ks, _, _, h, _ => by
    cases ks with
    | nil => rfl
    | cons k ks => exact absurd (h k List.mem_cons_self) (by simp)
  | j :: js, ks, nj, nk, h, h1 => by
    obtain ⟨hj, nj'⟩ := List.nodup_cons.mp nj
    rw [prodG_cons]
    by_cases hm : j ∈ ks
    · have p := List.perm_cons_erase hm
      rw [prodG_perm p, prodG_cons, prodG_sub js (ks.erase j) nj' (nk.erase j)]
      · intro k hk
        rcases List.mem_cons.mp (h k (List.mem_of_mem_erase hk)) with e | e
        · subst e
          exact absurd hk (fun z => (List.Nodup.mem_erase_iff nk).mp z |>.1 rfl)
        · exact e
      · intro k hk hn
        refine h1 k (List.mem_cons_of_mem _ hk) fun z => hn ?_
        exact (List.Nodup.mem_erase_iff nk).mpr ⟨fun e => hj (by rw [← e]; exact hk), z⟩
    · rw [h1 j List.mem_cons_self hm, Nat.one_mul]
      refine prodG_sub js ks nj' nk (fun k hk => ?_) fun k hk hn => h1 k (List.mem_cons_of_mem _ hk) hn
      rcases List.mem_cons.mp (h k hk) with e | e
      · subst e; exact absurd hk hm
      · exact e
theorem absI_pos {l : Int} (h : l ≠ 0) : 1 ≤ absI l := by unfold absI; split <;> omega
/-- over the kinds that occur -/
theorem many_kinds {ls ks : List Int} (hl : ∀ l ∈ ls, -26 ≤ l ∧ l ≤ 26 ∧ l ≠ 0) (hk : ks.Pairwise (· < ·)) (hm : ∀ k, k ∈ ks ↔ ∃ l, l ∈ ls ∧ k = absI l) : prodG (fun k => fac (ls.count k)) ks = manyF ls := by
  refine prodG_sub allK ks nodup_allK (List.Pairwise.imp (fun {a b} h => by omega) hk) (fun k h => ?_) fun k h hn => ?_
  · obtain ⟨l, hl', e⟩ := (hm k).mp h
    have := hl l hl'
    refine mem_allK.mpr ⟨by rw [e]; exact absI_pos this.2.2, ?_⟩
    rw [e]
    unfold absI
    split <;> omega
  · have h1 := mem_allK.mp h
    have : ls.count k = 0 := List.count_eq_zero.mpr fun z => hn ((hm k).mpr ⟨k, z, by unfold absI; rw [if_neg (by omega)]⟩)
    simp only [this]
    rfl
theorem manyF_perm {ls ms : List Int} (p : ls.Perm ms) : manyF ls = manyF ms := prodG_congr fun k _ => by rw [p.count_eq]

/-- sewn: each place of fw with its fellow in od -/
def sewF (ms : List Nat) (fw od : List Nat) : List Nat := (fw.zip od).foldl (fun m p => (m.set p.1 p.2).set p.2 p.1) ms
theorem length_foldset : ∀ (ps : List (Nat × Nat)) (ms : List Nat), (ps.foldl (fun m p => (m.set p.1 p.2).set p.2 p.1) ms).length = ms.length
  | [], _ => rfl
  | p :: ps, ms => by rw [List.foldl_cons, length_foldset ps]; simp
theorem length_sewF (ms fw od : List Nat) : (sewF ms fw od).length = ms.length := length_foldset _ _
/-- the places of a letter -/
def placesOf (ls : List Int) (k : Int) : List Nat := (List.range ls.length).filter fun i => decide (ls.getD i 0 = k)
/-- places, then how far each place has turned, by turns -/
def ptab : Nat → List (List Nat)
  | 1 => [[0, 1]]
  | 2 => [[0, 1, 2, 1], [1, 0, 1, 1]]
  | 3 => [[0, 1, 2, 3, 2, 1], [0, 2, 1, 3, 1, 1], [1, 0, 2, 2, 2, 1], [1, 2, 0, 2, 1, 1], [2, 0, 1, 1, 2, 1], [2, 1, 0, 1, 1, 1]]
  | 4 => [[0, 1, 2, 3, 4, 3, 2, 1], [0, 1, 3, 2, 4, 3, 1, 1], [0, 2, 1, 3, 4, 2, 2, 1], [0, 2, 3, 1, 4, 2, 1, 1], [0, 3, 1, 2, 4, 1, 2, 1], [0, 3, 2, 1, 4, 1, 1, 1], [1, 0, 2, 3, 3, 3, 2, 1], [1, 0, 3, 2, 3, 3, 1, 1], [1, 2, 0, 3, 3, 2, 2, 1], [1, 2, 3, 0, 3, 2, 1, 1], [1, 3, 0, 2, 3, 1, 2, 1], [1, 3, 2, 0, 3, 1, 1, 1], [2, 0, 1, 3, 2, 3, 2, 1], [2, 0, 3, 1, 2, 3, 1, 1], [2, 1, 0, 3, 2, 2, 2, 1], [2, 1, 3, 0, 2, 2, 1, 1], [2, 3, 0, 1, 2, 1, 2, 1], [2, 3, 1, 0, 2, 1, 1, 1], [3, 0, 1, 2, 1, 3, 2, 1], [3, 0, 2, 1, 1, 3, 1, 1], [3, 1, 0, 2, 1, 2, 2, 1], [3, 1, 2, 0, 1, 2, 1, 1], [3, 2, 0, 1, 1, 1, 2, 1], [3, 2, 1, 0, 1, 1, 1, 1]]
  | _ => []
/-- behind i items handed out -/
def pst (n i : Nat) : List Nat := (ptab n).getD (i - 1) []
/-- the orders of a list of one to four -/
def ordsF (bw : List Nat) : List (List Nat) := (List.range (ptab bw.length).length).map fun i => ((pst bw.length (i + 1)).take bw.length).map fun k => bw.getD k 0
/-- one kind more -/
def stepA (ls : List Int) (found : List (List Nat)) (k : Int) : List (List Nat) := (found.map fun m => (ordsF (placesOf ls (-k))).map fun od => sewF m (placesOf ls k) od).flatten
def amF (ls : List Int) (ks : List Int) : List (List Nat) := ks.foldl (stepA ls) [List.replicate ls.length 0]
theorem length_flat_const {α β : Type} (f : α → List β) (c : Nat) : ∀ l : List α, (∀ x ∈ l, (f x).length = c) → (l.map f).flatten.length = l.length * c
  | [], _ => by simp
  | x :: l, h => by
    rw [List.map_cons, List.flatten_cons, List.length_append, h x List.mem_cons_self, length_flat_const f c l fun y hy => h y (List.mem_cons_of_mem _ hy), List.length_cons, Nat.succ_mul, Nat.add_comm]
theorem length_placesOf (ls : List Int) (k : Int) : (placesOf ls k).length = ls.count k := by
  unfold placesOf
  rw [← List.countP_eq_length_filter]
  have h : ∀ n, n ≤ ls.length → (List.range n).countP (fun i => decide (ls.getD i 0 = k)) = (ls.take n).count k := fun n => by
    induction n with
    | zero => intro _; rfl
    | succ n ih =>
      intro hn
      rw [List.range_succ, List.countP_append, ih (by omega), List.take_add_one, List.count_append]
      congr 1
      rw [List.getElem?_eq_getElem (show n < ls.length by omega)]
      simp [List.getD_eq_getElem?_getD, List.getElem?_eq_getElem (show n < ls.length by omega), List.count_cons, List.countP_cons]
  rw [h _ (Nat.le_refl _), List.take_length]
theorem mem_placesOf {ls : List Int} {k : Int} {x : Nat} : x ∈ placesOf ls k ↔ x < ls.length ∧ ls.getD x 0 = k := by
  unfold placesOf
  rw [List.mem_filter, List.mem_range, decide_eq_true_iff]
theorem length_ordsF (bw : List Nat) : (ordsF bw).length = (ptab bw.length).length := by
  unfold ordsF
  rw [List.length_map, List.length_range]
theorem length_ptab : ∀ n, n < 5 → (ptab n).length = if n = 0 then 0 else fac n := by decide +kernel
theorem length_stepA (ls : List Int) (found : List (List Nat)) (k : Int) : (stepA ls found k).length = found.length * (ptab (ls.count (-k))).length := by
  unfold stepA
  rw [length_flat_const _ (ptab (ls.count (-k))).length]
  intro x _
  rw [List.length_map, length_ordsF, length_placesOf]
theorem length_amF {ls : List Int} (hc : ∀ k, ls.count k ≤ 4) (hb : ∀ k, ls.count k = ls.count (-k)) : ∀ (ks : List Int) (found : List (List Nat)), (∀ k ∈ ks, 1 ≤ ls.count k) → (ks.foldl (stepA ls) found).length = found.length * prodG (fun k => fac (ls.count k)) ks
  | [], found, _ => (Nat.mul_one _).symm
  | k :: ks, found, h => by
    have h1 := hc (-k)
    have h2 := hb k
    have h3 := h k List.mem_cons_self
    rw [List.foldl_cons, length_amF hc hb ks _ fun j hj => h j (List.mem_cons_of_mem _ hj), length_stepA, length_ptab _ (by omega), if_neg (by omega), prodG_cons, ← h2, Nat.mul_assoc]
theorem mem_ordsF_lt {bw od : List Nat} (h : od ∈ ordsF bw) : od.length ≤ bw.length := by
  unfold ordsF at h
  obtain ⟨i, _, rfl⟩ := List.mem_map.mp h
  rw [List.length_map, List.length_take]
  omega
end HR
/-! P3 -/
/-! P3: the corners: what the loop over the places finds. -/
namespace HR
/-- the next corner's place -/
def phiL (nl m : List Nat) (x : Nat) : Nat := nl.getD (m.getD x 0) 0
/-- the places of a path -/
def pathF (f : Nat → Nat) (x k : Nat) : List Nat := (List.range k).map fun j => it f j x
theorem pathF_succ (f : Nat → Nat) (x k : Nat) : pathF f x (k + 1) = pathF f x k ++ [it f k x] := by
  unfold pathF
  rw [List.range_succ, List.map_append]
  rfl
theorem mem_pathF {f : Nat → Nat} {x k y : Nat} : y ∈ pathF f x k ↔ ∃ j, j < k ∧ it f j x = y := by
  unfold pathF
  simp
/-- what the loop knows ahead of place i: one place of each cycle found, all the places known -/
structure Cor (n : Nat) (f : Nat → Nat) (i : Nat) (R ks : List Nat) : Prop where
  nd : R.Nodup
  lt : ∀ x ∈ R, x < n
  sep : ∀ x ∈ R, ∀ y ∈ R, Orb f x y → x = y
  cov : ∀ x, x < i → ∃ y, y ∈ R ∧ Orb f y x
  kn : ks.Nodup
  kk : ∀ y, y ∈ ks ↔ ∃ r, r ∈ R ∧ Orb f r y
theorem Cor.zero (n : Nat) (f : Nat → Nat) : Cor n f 0 [] [] := ⟨List.nodup_nil, by simp, by simp, by simp, List.nodup_nil, by simp⟩
theorem Cor.ltk {n : Nat} {f : Nat → Nat} {i : Nat} {R ks : List Nat} (b : Bij n f) (c : Cor n f i R ks) : ∀ y ∈ ks, y < n := fun y hy => by
  obtain ⟨r, hr, o⟩ := (c.kk y).mp hy
  exact b.orb_lt (c.lt r hr) o
theorem Cor.skip {n : Nat} {f : Nat → Nat} {i : Nat} {R ks : List Nat} (c : Cor n f i R ks) (h : i ∈ ks) : Cor n f (i + 1) R ks where
  nd := c.nd
  lt := c.lt
  sep := c.sep
  kn := c.kn
  kk := c.kk
  cov := fun x hx => by
    rcases Nat.lt_succ_iff_lt_or_eq.mp hx with h1 | h1
    · exact c.cov x h1
    · subst h1
      exact (c.kk x).mp h
theorem Cor.next {n : Nat} {f : Nat → Nat} {i k : Nat} {R ks : List Nat} (b : Bij n f) (hi : i < n) (c : Cor n f i R ks) (hk : 0 < k) (nd : (ks ++ pathF f i k).Nodup) (h : it f k i ∈ ks ++ pathF f i k) : Cor n f (i + 1) (R ++ [i]) (ks ++ pathF f i k) := by
  have hi0 : i ∈ pathF f i k := mem_pathF.mpr ⟨0, hk, rfl⟩
  have dis := (List.nodup_append.mp nd).2.2
  have nik : i ∉ ks := fun z => dis i z i hi0 rfl
  have no : ∀ r ∈ R, ¬ Orb f r i := fun r hr o => nik ((c.kk i).mpr ⟨r, hr, o⟩)
  have hp : it f k i ∈ pathF f i k := by
    rcases List.mem_append.mp h with h | h
    · obtain ⟨r, hr, o⟩ := (c.kk _).mp h
      exact absurd (o.trans (b.symm hi ⟨k, rfl⟩)) (no r hr)
    · exact h
  have all : ∀ m, it f m i ∈ pathF f i k := fun m => by
    induction m with
    | zero => exact hi0
    | succ m ih =>
      obtain ⟨j, hj, e⟩ := mem_pathF.mp ih
      by_cases h1 : j + 1 < k
      · exact mem_pathF.mpr ⟨j + 1, h1, by show f (it f j i) = f (it f m i); rw [e]⟩
      · have : it f (m + 1) i = it f k i := by
          have : k = j + 1 := by omega
          rw [this]
          show f (it f m i) = f (it f j i)
          rw [e]
        rw [this]
        exact hp
  refine ⟨?_, fun x hx => ?_, fun x hx y hy o => ?_, fun x hx => ?_, nd, fun y => ⟨fun hy => ?_, fun hy => ?_⟩⟩
  · rw [List.nodup_append]
    refine ⟨c.nd, by simp, fun x hx y hy e => ?_⟩
    rw [List.mem_singleton.mp hy] at e
    exact no x hx (e ▸ Orb.refl f x)
  · rcases List.mem_append.mp hx with hx | hx
    · exact c.lt x hx
    · rw [List.mem_singleton.mp hx]
      exact hi
  · rcases List.mem_append.mp hx with hx | hx
    · rcases List.mem_append.mp hy with hy | hy
      · exact c.sep x hx y hy o
      · rw [List.mem_singleton.mp hy] at o
        exact absurd o (no x hx)
    · rcases List.mem_append.mp hy with hy | hy
      · rw [List.mem_singleton.mp hx] at o
        exact absurd (b.symm hi o) (no y hy)
      · rw [List.mem_singleton.mp hx, List.mem_singleton.mp hy]
  · rcases Nat.lt_succ_iff_lt_or_eq.mp hx with h1 | h1
    · obtain ⟨y, hy, o⟩ := c.cov x h1
      exact ⟨y, List.mem_append_left _ hy, o⟩
    · subst h1
      exact ⟨x, List.mem_append_right _ (List.mem_singleton.mpr rfl), Orb.refl f x⟩
  · rcases List.mem_append.mp hy with hy | hy
    · obtain ⟨r, hr, o⟩ := (c.kk y).mp hy
      exact ⟨r, List.mem_append_left _ hr, o⟩
    · obtain ⟨j, _, e⟩ := mem_pathF.mp hy
      exact ⟨i, List.mem_append_right _ (List.mem_singleton.mpr rfl), ⟨j, e⟩⟩
  · obtain ⟨r, hr, o⟩ := hy
    rcases List.mem_append.mp hr with hr | hr
    · exact List.mem_append_left _ ((c.kk y).mpr ⟨r, hr, o⟩)
    · rw [List.mem_singleton.mp hr] at o
      obtain ⟨m, e⟩ := o
      exact List.mem_append_right _ (e ▸ all m)
theorem Cor.done {n : Nat} {f : Nat → Nat} {R ks : List Nat} (b : Bij n f) (c : Cor n f n R ks) : R.length = cyc n f := (cyc_of b ⟨c.nd, c.lt, c.sep, c.cov⟩).symm
end HR
/-! P4 -/
/-! P4: mates. -/
namespace HR
/-- m sews letters ls -/
structure Mt (ls : List Int) (m : List Nat) : Prop where
  len : m.length = ls.length
  lt : ∀ i, i < ls.length → m.getD i 0 < ls.length
  inv : ∀ i, i < ls.length → m.getD (m.getD i 0) 0 = i
  opp : ∀ i, i < ls.length → ls.getD (m.getD i 0) 0 = -ls.getD i 0
theorem Mt.bij {ls : List Int} {m : List Nat} (h : Mt ls m) : Bij ls.length (fun x => m.getD x 0) where
  lt := h.lt
  inj := fun x y hx hy e => by
    rw [← h.inv x hx, ← h.inv y hy]
    exact congrArg (fun z => m.getD z 0) e
theorem Bij.comp {n : Nat} {f g : Nat → Nat} (bf : Bij n f) (bg : Bij n g) : Bij n (fun x => f (g x)) where
  lt := fun x hx => bf.lt _ (bg.lt x hx)
  inj := fun x y hx hy e => bg.inj x y hx hy (bf.inj _ _ (bg.lt x hx) (bg.lt y hy) e)
theorem nxF_getD : ∀ (b : Nat) (ls : List Nat) (x : Nat), x < ls.sum → b ≤ (nxF b ls).getD x 0 ∧ (nxF b ls).getD x 0 < b + ls.sum := fun b ls x hx => by
  have hl := length_nxF b ls
  have hm : (nxF b ls).getD x 0 ∈ nxF b ls := by
    rw [List.getD_eq_getElem?_getD, List.getElem?_eq_getElem (by omega)]
    exact List.getElem_mem (by omega)
  exact nxF_lt b ls _ hm
theorem nxF_inj : ∀ (b : Nat) (ls : List Nat), ∀ x y, x < ls.sum → y < ls.sum → (nxF b ls).getD x 0 = (nxF b ls).getD y 0 → x = y
  | b, [], x, y, hx, _, _ => by simp at hx
  | b, l :: ls, x, y, hx, hy, e => by
    have ih := nxF_inj (b + l) ls
    have hb := nxF_getD (b + l) ls
    rw [List.sum_cons] at hx hy
    have hd : ∀ z, (nxF b (l :: ls)).getD z 0 = if z < l then b + (z + 1) % l else (nxF (b + l) ls).getD (z - l) 0 := fun z => by
      show (((List.range l).map fun j => b + (j + 1) % l) ++ nxF (b + l) ls).getD z 0 = _
      rw [List.getD_eq_getElem?_getD]
      by_cases h : z < l
      · rw [if_pos h, List.getElem?_append_left (by simpa using h), List.getElem?_map, List.getElem?_range h]
        rfl
      · rw [if_neg h, List.getElem?_append_right (by simp; omega), List.length_map, List.length_range, List.getD_eq_getElem?_getD]
    have hmod : ∀ z, z < l → (z + 1) % l < l := fun z hz => Nat.mod_lt _ (by omega)
    have hms : ∀ z, z < l → (z + 1) % l = if z + 1 = l then 0 else z + 1 := fun z hz => by
      by_cases h : z + 1 = l
      · rw [if_pos h, h, Nat.mod_self]
      · rw [if_neg h, Nat.mod_eq_of_lt (by omega)]
    rw [hd, hd] at e
    by_cases h1 : x < l <;> by_cases h2 : y < l
    · rw [if_pos h1, if_pos h2, hms x h1, hms y h2] at e
      split at e <;> split at e <;> omega
    · rw [if_pos h1, if_neg h2] at e
      have := hb (y - l) (by omega)
      have := hmod x h1
      omega
    · rw [if_neg h1, if_pos h2] at e
      have := hb (x - l) (by omega)
      have := hmod y h2
      omega
    · rw [if_neg h1, if_neg h2] at e
      have := ih (x - l) (y - l) (by omega) (by omega) e
      omega
theorem nx_bij (ws : List (List Int)) : Bij ws.flatten.length (fun x => (nxF 0 (lens ws)).getD x 0) where
  lt := fun x hx => by
    rw [length_flat] at hx ⊢
    have := (nxF_getD 0 (lens ws) x hx).2
    omega
  inj := fun x y hx hy e => by
    rw [length_flat] at hx hy
    exact nxF_inj 0 (lens ws) x y hx hy e
/-- the cost of mates on rims -/
noncomputable def costF (ws : List (List Int)) (m : List Nat) : Int := ((ws.flatten.length / 2 : Nat) : Int) - (cyc ws.flatten.length (phiL (nxF 0 (lens ws)) m) : Int)
theorem phi_bij {ws : List (List Int)} {m : List Nat} (h : Mt ws.flatten m) : Bij ws.flatten.length (phiL (nxF 0 (lens ws)) m) := (nx_bij ws).comp h.bij
end HR
namespace HR
theorem nuF_getD : ∀ (k : Nat) (ls : List Nat) (x : Nat), x < ls.sum → k ≤ (nuF k ls).getD x 0 ∧ (nuF k ls).getD x 0 < k + ls.length := fun k ls x hx => by
  have hl := length_nuF k ls
  have hm : (nuF k ls).getD x 0 ∈ nuF k ls := by
    rw [List.getD_eq_getElem?_getD, List.getElem?_eq_getElem (by omega)]
    exact List.getElem_mem (by omega)
  exact nuF_lt k ls _ hm
theorem nuF_cons (k l : Nat) (ls : List Nat) (z : Nat) : (nuF k (l :: ls)).getD z 0 = if z < l then k else (nuF (k + 1) ls).getD (z - l) 0 := by
  show (List.replicate l k ++ nuF (k + 1) ls).getD z 0 = _
  rw [List.getD_eq_getElem?_getD]
  by_cases h : z < l
  · rw [if_pos h, List.getElem?_append_left (by simpa using h), List.getElem?_replicate, if_pos h]
    rfl
  · rw [if_neg h, List.getElem?_append_right (by simp; omega), List.length_replicate, List.getD_eq_getElem?_getD]
theorem nuF_last : ∀ (k : Nat) (ls : List Nat), (∀ l ∈ ls, 0 < l) → ls ≠ [] → (nuF k ls).getD (ls.sum - 1) 0 + 1 = k + ls.length
  | _, [], _, h => absurd rfl h
  | k, [l], h, _ => by
    have := h l (by simp)
    rw [nuF_cons, if_pos (by simp; omega)]
    rfl
  | k, l :: l2 :: r, h, _ => by
    have h2 := h l2 (by simp)
    have ih := nuF_last (k + 1) (l2 :: r) (fun x hx => h x (List.mem_cons_of_mem _ hx)) (by simp)
    have e : (l :: l2 :: r).sum = l + (l2 :: r).sum := List.sum_cons
    have h3 : 0 < (l2 :: r).sum := by rw [List.sum_cons]; omega
    rw [nuF_cons, if_neg (by omega), e, show l + (l2 :: r).sum - 1 - l = (l2 :: r).sum - 1 by omega, ih]
    simp
    omega
end HR
/-! P5 -/
/-! P5: the sewings by kinds are all the mates. -/
namespace HR
theorem getD_set {l : List Nat} {i j v : Nat} : (l.set i v).getD j 0 = if i = j ∧ j < l.length then v else l.getD j 0 := by
  rw [List.getD_eq_getElem?_getD, List.getD_eq_getElem?_getD, List.getElem?_set]
  by_cases h : i = j
  · subst h
    by_cases h2 : i < l.length
    · rw [if_pos rfl, if_pos h2, if_pos ⟨rfl, h2⟩]
      rfl
    · rw [if_pos rfl, if_neg h2, if_neg (fun z => h2 z.2), List.getElem?_eq_none (by omega)]
  · rw [if_neg h, if_neg (fun z => h z.1)]
theorem getD_mem {l : List Nat} {i : Nat} (h : i < l.length) : l.getD i 0 ∈ l := by
  rw [List.getD_eq_getElem?_getD, List.getElem?_eq_getElem h]
  exact List.getElem_mem h
theorem mem_getI {l : List Nat} {x : Nat} (h : x ∈ l) : ∃ i, i < l.length ∧ l.getD i 0 = x := by
  obtain ⟨i, hi, e⟩ := List.getElem_of_mem h
  exact ⟨i, hi, by rw [List.getD_eq_getElem?_getD, List.getElem?_eq_getElem hi]; exact e⟩
theorem ext_getD {l m : List Nat} (h : l.length = m.length) (e : ∀ i, i < l.length → l.getD i 0 = m.getD i 0) : l = m := by
  refine List.ext_getElem h fun i h1 h2 => ?_
  have := e i h1
  rw [List.getD_eq_getElem?_getD, List.getD_eq_getElem?_getD, List.getElem?_eq_getElem h1, List.getElem?_eq_getElem h2] at this
  exact this
theorem getD_mapRange {n : Nat} {f : Nat → Nat} {i : Nat} (h : i < n) : ((List.range n).map f).getD i 0 = f i := by
  rw [List.getD_eq_getElem?_getD, List.getElem?_map, List.getElem?_range h]
  rfl
theorem nodup_getD {l : List Nat} (h : l.Nodup) {i j : Nat} (hi : i < l.length) (hj : j < l.length) (e : l.getD i 0 = l.getD j 0) : i = j := by
  rw [List.getD_eq_getElem?_getD, List.getD_eq_getElem?_getD, List.getElem?_eq_getElem hi, List.getElem?_eq_getElem hj] at e
  have hp := List.pairwise_iff_getElem.mp h
  rcases Nat.lt_trichotomy i j with h1 | h1 | h1
  · exact absurd e (hp i j hi hj h1)
  · exact h1
  · exact absurd e.symm (hp j i hj hi h1)
theorem nodup_map_of {f : Nat → Nat} : ∀ {l : List Nat}, l.Nodup → (∀ x ∈ l, ∀ y ∈ l, f x = f y → x = y) → (l.map f).Nodup
  | [], _, _ => List.nodup_nil
  | a :: l, nd, inj => by
    obtain ⟨na, nd⟩ := List.nodup_cons.mp nd
    rw [List.map_cons, List.nodup_cons]
    refine ⟨fun z => ?_, nodup_map_of nd fun x hx y hy => inj x (List.mem_cons_of_mem _ hx) y (List.mem_cons_of_mem _ hy)⟩
    obtain ⟨x, hx, e⟩ := List.mem_map.mp z
    exact na (inj x (List.mem_cons_of_mem _ hx) a List.mem_cons_self e ▸ hx)
theorem sewF_cons (ms : List Nat) (f o : Nat) (fw od : List Nat) : sewF ms (f :: fw) (o :: od) = sewF ((ms.set f o).set o f) fw od := rfl
theorem sew_other : ∀ (fw od ms : List Nat) (x : Nat), x ∉ fw → x ∉ od → (sewF ms fw od).getD x 0 = ms.getD x 0
  | [], od, ms, x, _, _ => rfl
  | f :: fw, [], ms, x, _, _ => rfl
  | f :: fw, o :: od, ms, x, h1, h2 => by
    rw [sewF_cons, sew_other fw od _ x (fun z => h1 (List.mem_cons_of_mem _ z)) (fun z => h2 (List.mem_cons_of_mem _ z)), getD_set, getD_set]
    rw [if_neg (fun (z : o = x ∧ _) => h2 (z.1 ▸ List.mem_cons_self)), if_neg (fun (z : f = x ∧ _) => h1 (z.1 ▸ List.mem_cons_self))]
theorem sew_at : ∀ (fw od ms : List Nat), fw.length = od.length → fw.Nodup → od.Nodup → (∀ x ∈ fw, x ∉ od) → (∀ x ∈ fw, x < ms.length) → (∀ x ∈ od, x < ms.length) → ∀ j, j < fw.length →
    (sewF ms fw od).getD (fw.getD j 0) 0 = od.getD j 0 ∧ (sewF ms fw od).getD (od.getD j 0) 0 = fw.getD j 0
  | [], od, ms, _, _, _, _, _, _, j, hj => absurd hj (Nat.not_lt_zero _)
  | f :: fw, [], ms, h, _, _, _, _, _, _, _ => by simp at h
  | f :: fw, o :: od, ms, hl, n1, n2, hd, l1, l2, j, hj => by
    obtain ⟨nf, n1⟩ := List.nodup_cons.mp n1
    obtain ⟨no, n2⟩ := List.nodup_cons.mp n2
    have hfo : f ≠ o := fun z => hd f List.mem_cons_self (z ▸ List.mem_cons_self)
    have hfd : f ∉ od := fun z => hd f List.mem_cons_self (List.mem_cons_of_mem _ z)
    have hof : o ∉ fw := fun z => hd o (List.mem_cons_of_mem _ z) List.mem_cons_self
    have lf := l1 f List.mem_cons_self
    have lo := l2 o List.mem_cons_self
    rw [sewF_cons]
    cases j with
    | zero =>
      show (sewF _ fw od).getD f 0 = o ∧ (sewF _ fw od).getD o 0 = f
      rw [sew_other fw od _ f nf hfd, sew_other fw od _ o hof no, getD_set, getD_set, getD_set]
      rw [if_neg (fun z => hfo z.1.symm), if_pos ⟨rfl, lf⟩, if_pos ⟨rfl, by rw [List.length_set]; exact lo⟩]
      exact ⟨rfl, rfl⟩
    | succ j =>
      have := sew_at fw od ((ms.set f o).set o f) (by simpa using hl) n1 n2 (fun x hx z => hd x (List.mem_cons_of_mem _ hx) (List.mem_cons_of_mem _ z)) (fun x hx => by simpa using l1 x (List.mem_cons_of_mem _ hx)) (fun x hx => by simpa using l2 x (List.mem_cons_of_mem _ hx)) j (by simpa using hj)
      simpa using this
/-! ### the table holds all orders -/
def rowsT (n : Nat) : List (List Nat) := (List.range (ptab n).length).map fun i => (pst n (i + 1)).take n
theorem tab_ok : ∀ n, n < 5 → ∀ r ∈ rowsT n, r.length = n ∧ r.Nodup ∧ ∀ x ∈ r, x < n := by decide +kernel
def allL (n : Nat) : Nat → List (List Nat)
  | 0 => [[]]
  | k + 1 => ((List.range n).map fun a => (allL n k).map fun r => a :: r).flatten
theorem mem_allL {n : Nat} : ∀ {r : List Nat}, (∀ x ∈ r, x < n) → r ∈ allL n r.length
  | [], _ => List.mem_singleton.mpr rfl
  | a :: r, h => by
    refine List.mem_flatten.mpr ⟨_, List.mem_map.mpr ⟨a, List.mem_range.mpr (h a List.mem_cons_self), rfl⟩, List.mem_map.mpr ⟨r, mem_allL fun x hx => h x (List.mem_cons_of_mem _ hx), rfl⟩⟩
theorem tab_chk : ∀ n, n < 5 → n = 0 ∨ (allL n n).all (fun r => !decide r.Nodup || decide (r ∈ rowsT n)) = true := by decide +kernel
theorem tab_all {r : List Nat} (h0 : 0 < r.length) (h4 : r.length < 5) (nd : r.Nodup) (lt : ∀ x ∈ r, x < r.length) : r ∈ rowsT r.length := by
  have h := (tab_chk _ h4).resolve_left (by omega)
  have := List.all_eq_true.mp h r (mem_allL lt)
  rw [decide_eq_true nd] at this
  simpa using this
theorem ordsF_rows (bw : List Nat) : ordsF bw = (rowsT bw.length).map fun r => r.map fun k => bw.getD k 0 := by
  unfold ordsF rowsT
  rw [List.map_map]
  rfl
theorem mem_ordsF {bw od : List Nat} (h0 : 0 < bw.length) (h4 : bw.length < 5) (nb : bw.Nodup) : od ∈ ordsF bw ↔ od.length = bw.length ∧ od.Nodup ∧ ∀ x ∈ od, x ∈ bw := by
  rw [ordsF_rows, List.mem_map]
  constructor
  · rintro ⟨r, hr, rfl⟩
    obtain ⟨h1, h2, h3⟩ := tab_ok _ h4 r hr
    refine ⟨by rw [List.length_map, h1], ?_, fun x hx => ?_⟩
    · refine nodup_map_of h2 fun x hx y hy e => ?_
      exact nodup_getD nb (h3 x hx) (h3 y hy) e
    · obtain ⟨k, hk, rfl⟩ := List.mem_map.mp hx
      exact getD_mem (h3 k hk)
  · rintro ⟨h1, h2, h3⟩
    have hix : ∀ x ∈ od, bw.idxOf x < bw.length := fun x hx => List.idxOf_lt_length_of_mem (h3 x hx)
    have hat : ∀ x ∈ od, bw.getD (bw.idxOf x) 0 = x := fun x hx => by
      rw [List.getD_eq_getElem?_getD, List.getElem?_eq_getElem (hix x hx), Option.getD_some]
      exact List.getElem_idxOf (hix x hx)
    refine ⟨od.map fun x => bw.idxOf x, ?_, ?_⟩
    · have hl : (od.map fun x => bw.idxOf x).length = bw.length := by rw [List.length_map, h1]
      have := tab_all (r := od.map fun x => bw.idxOf x) (by omega) (by omega) (nodup_map_of h2 fun x hx y hy e => by
        have e2 := congrArg (fun z => bw.getD z 0) e
        simp only [hat x hx, hat y hy] at e2
        exact e2) (fun z hz => by
        obtain ⟨x, hx, rfl⟩ := List.mem_map.mp hz
        rw [hl]
        exact hix x hx)
      rw [hl] at this
      exact this
    · rw [List.map_map]
      conv => rhs; rw [← List.map_id od]
      exact List.map_congr_left fun x hx => hat x hx
end HR
/-! P6 -/
/-! P6: the found are all the mates. -/
namespace HR
/-- mates so far: the kinds done -/
def PM (ls : List Int) (D : List Int) (x : List Nat) : Prop := x.length = ls.length ∧ ∀ i, i < ls.length →
  (absI (ls.getD i 0) ∈ D → x.getD i 0 < ls.length ∧ x.getD (x.getD i 0) 0 = i ∧ ls.getD (x.getD i 0) 0 = -ls.getD i 0) ∧ (absI (ls.getD i 0) ∉ D → x.getD i 0 = 0)
theorem nodup_placesOf (ls : List Int) (k : Int) : (placesOf ls k).Nodup := List.Pairwise.filter _ List.nodup_range
theorem absI_neg (z : Int) : absI (-z) = absI z := by
  unfold absI
  split <;> split <;> omega
theorem absI_k {k : Int} (h : 1 ≤ k) : absI k = k := by unfold absI; rw [if_neg (by omega)]
theorem absI_cases (z : Int) : z = absI z ∨ z = -absI z := by
  unfold absI
  split <;> omega
theorem subset_perm : ∀ {l m : List Nat}, l.Nodup → m.Nodup → l.length = m.length → (∀ x ∈ l, x ∈ m) → ∀ x ∈ m, x ∈ l := fun {l m} nl nm hlen h x hx => by
  refine Classical.byContradiction fun z => ?_
  have h1 : ∀ y ∈ l, y ∈ m.erase x := fun y hy => (List.Nodup.mem_erase_iff nm).mpr ⟨fun e => z (e ▸ hy), h y hy⟩
  have h2 := inj_len (fun a b => a = b) l (m.erase x) nl (fun y hy => ⟨y, h1 y hy, rfl⟩) (fun a _ b _ c _ e1 e2 => e1.trans e2.symm)
  rw [List.length_erase_of_mem hx] at h2
  have := List.length_pos_of_mem hx
  omega
theorem pm_step {ls : List Int} {D : List Int} {k : Int} (hk : 1 ≤ k) (hkD : k ∉ D) (h1 : 1 ≤ ls.count k) (h4 : ls.count k ≤ 4) (hb : ls.count k = ls.count (-k)) {found : List (List Nat)} (hf : ∀ x, x ∈ found ↔ PM ls D x) (y : List Nat) :
    y ∈ stepA ls found k ↔ PM ls (D ++ [k]) y := by
  have lf := length_placesOf ls k
  have lb := length_placesOf ls (-k)
  have nf := nodup_placesOf ls k
  have nb := nodup_placesOf ls (-k)
  have mo : ∀ od, od ∈ ordsF (placesOf ls (-k)) ↔ od.length = (placesOf ls (-k)).length ∧ od.Nodup ∧ ∀ x ∈ od, x ∈ placesOf ls (-k) := fun od => mem_ordsF (by omega) (by omega) nb
  have dis : ∀ x ∈ placesOf ls k, x ∉ placesOf ls (-k) := fun x hx z => by
    have e1 := (mem_placesOf.mp hx).2
    have e2 := (mem_placesOf.mp z).2
    omega
  have hkind : ∀ i, i < ls.length → absI (ls.getD i 0) = k → i ∈ placesOf ls k ∨ i ∈ placesOf ls (-k) := fun i hi e => by
    rcases absI_cases (ls.getD i 0) with h | h
    · exact .inl (mem_placesOf.mpr ⟨hi, by rw [h, e]⟩)
    · exact .inr (mem_placesOf.mpr ⟨hi, by rw [h, e]⟩)
  have hkf : ∀ i, i ∈ placesOf ls k → absI (ls.getD i 0) = k := fun i h => by rw [(mem_placesOf.mp h).2, absI_k hk]
  have hkb : ∀ i, i ∈ placesOf ls (-k) → absI (ls.getD i 0) = k := fun i h => by rw [(mem_placesOf.mp h).2, absI_neg, absI_k hk]
  have memD : ∀ z : Int, z ∈ D ++ [k] ↔ z ∈ D ∨ z = k := fun z => by simp
  unfold stepA
  rw [List.mem_flatten]
  constructor
  · rintro ⟨l, hl, hy⟩
    obtain ⟨x, hx, rfl⟩ := List.mem_map.mp hl
    obtain ⟨od, hod, rfl⟩ := List.mem_map.mp hy
    obtain ⟨o1, o2, o3⟩ := (mo od).mp hod
    obtain ⟨p1, p2⟩ := (hf x).mp hx
    have lfx : ∀ z ∈ placesOf ls k, z < x.length := fun z hz => by rw [p1]; exact (mem_placesOf.mp hz).1
    have lox : ∀ z ∈ od, z < x.length := fun z hz => by rw [p1]; exact (mem_placesOf.mp (o3 z hz)).1
    have sa := sew_at (placesOf ls k) od x (by omega) nf o2 (fun z hz w => dis z hz (o3 z w)) lfx lox
    refine ⟨by rw [length_sewF, p1], fun i hi => ?_⟩
    rw [memD]
    by_cases hik : absI (ls.getD i 0) = k
    · refine ⟨fun _ => ?_, fun z => absurd (.inr hik) z⟩
      rcases hkind i hi hik with hm | hm
      · obtain ⟨j, hj, rfl⟩ := mem_getI hm
        obtain ⟨s1, s2⟩ := sa j hj
        rw [s1, s2]
        have ho := o3 _ (getD_mem (show j < od.length by omega))
        refine ⟨(mem_placesOf.mp ho).1, rfl, ?_⟩
        rw [(mem_placesOf.mp ho).2, (mem_placesOf.mp hm).2]
      · obtain ⟨j, hj, rfl⟩ := mem_getI (subset_perm o2 nb o1 o3 i hm)
        obtain ⟨s1, s2⟩ := sa j (by omega)
        rw [s2, s1]
        have ho := getD_mem (show j < (placesOf ls k).length by omega)
        refine ⟨(mem_placesOf.mp ho).1, rfl, ?_⟩
        rw [(mem_placesOf.mp ho).2, (mem_placesOf.mp hm).2, Int.neg_neg]
    · have so : ∀ z, z < ls.length → absI (ls.getD z 0) ≠ k → (sewF x (placesOf ls k) od).getD z 0 = x.getD z 0 := fun z hz hn => sew_other _ _ _ _ (fun w => hn (hkf z w)) (fun w => hn (hkb z (o3 z w)))
      rw [so i hi hik]
      refine ⟨fun hD => ?_, fun hn => (p2 i hi).2 fun z => hn (.inl z)⟩
      obtain ⟨q1, q2, q3⟩ := (p2 i hi).1 (hD.resolve_right hik)
      exact ⟨q1, by rw [so _ q1 (by rw [q3, absI_neg]; exact hik), q2], q3⟩
  · rintro ⟨p1, p2⟩
    have pk : ∀ i, i < ls.length → absI (ls.getD i 0) = k → y.getD i 0 < ls.length ∧ y.getD (y.getD i 0) 0 = i ∧ ls.getD (y.getD i 0) 0 = -ls.getD i 0 := fun i hi e => (p2 i hi).1 ((memD _).mpr (.inr e))
    have odl : ((placesOf ls k).map fun i => y.getD i 0).length = (placesOf ls (-k)).length := by rw [List.length_map]; omega
    have odn : ((placesOf ls k).map fun i => y.getD i 0).Nodup := nodup_map_of nf fun a ha b hb e => by
      have e1 := (pk a (mem_placesOf.mp ha).1 (hkf a ha)).2.1
      have e2 := (pk b (mem_placesOf.mp hb).1 (hkf b hb)).2.1
      rw [← e1, ← e2, e]
    have odm : ∀ x ∈ ((placesOf ls k).map fun i => y.getD i 0), x ∈ placesOf ls (-k) := fun x hx => by
      obtain ⟨i, hi, rfl⟩ := List.mem_map.mp hx
      have := pk i (mem_placesOf.mp hi).1 (hkf i hi)
      exact mem_placesOf.mpr ⟨this.1, by rw [this.2.2, (mem_placesOf.mp hi).2]⟩
    generalize hod : ((placesOf ls k).map fun i => y.getD i 0) = od at odl odn odm
    have hx : PM ls D ((List.range ls.length).map fun i => if absI (ls.getD i 0) = k then 0 else y.getD i 0) := by
      refine ⟨by simp, fun i hi => ?_⟩
      rw [getD_mapRange hi]
      by_cases hik : absI (ls.getD i 0) = k
      · rw [if_pos hik]
        exact ⟨fun z => absurd (hik ▸ z) hkD, fun _ => rfl⟩
      · rw [if_neg hik]
        refine ⟨fun z => ?_, fun z => (p2 i hi).2 fun w => ((memD _).mp w).elim z hik⟩
        obtain ⟨q1, q2, q3⟩ := (p2 i hi).1 ((memD _).mpr (.inl z))
        refine ⟨q1, ?_, q3⟩
        rw [getD_mapRange q1, if_neg (by rw [q3, absI_neg]; exact hik), q2]
    refine ⟨_, List.mem_map.mpr ⟨_, (hf _).mpr hx, rfl⟩, List.mem_map.mpr ⟨od, (mo od).mpr ⟨odl, odn, odm⟩, ?_⟩⟩
    have hxl := hx.1
    have sa := sew_at (placesOf ls k) od ((List.range ls.length).map fun i => if absI (ls.getD i 0) = k then 0 else y.getD i 0) (by omega) nf odn (fun z hz w => dis z hz (odm z w)) (fun z hz => by rw [hxl]; exact (mem_placesOf.mp hz).1) (fun z hz => by rw [hxl]; exact (mem_placesOf.mp (odm z hz)).1)
    have hoj : ∀ j, j < (placesOf ls k).length → od.getD j 0 = y.getD ((placesOf ls k).getD j 0) 0 := fun j hj => by
      rw [← hod, List.getD_eq_getElem?_getD, List.getElem?_map, List.getElem?_eq_getElem hj, List.getD_eq_getElem?_getD (l := placesOf ls k), List.getElem?_eq_getElem hj]
      rfl
    refine ext_getD (by rw [length_sewF, hxl, p1]) fun i hi => ?_
    rw [length_sewF, hxl] at hi
    by_cases hik : absI (ls.getD i 0) = k
    · rcases hkind i hi hik with hm | hm
      · obtain ⟨j, hj, rfl⟩ := mem_getI hm
        rw [(sa j hj).1, hoj j hj]
      · obtain ⟨j, hj, rfl⟩ := mem_getI (subset_perm odn nb odl odm i hm)
        have hj2 : j < (placesOf ls k).length := by omega
        have hm2 := getD_mem hj2
        rw [(sa j hj2).2, hoj j hj2, (pk _ (mem_placesOf.mp hm2).1 (hkf _ hm2)).2.1]
    · rw [sew_other _ _ _ _ (fun w => hik (hkf i w)) (fun w => hik (hkb i (odm i w))), getD_mapRange hi, if_neg hik]
theorem pm_fold {ls : List Int} (h4 : ∀ k, ls.count k ≤ 4) (hb : ∀ k, ls.count k = ls.count (-k)) : ∀ (ks D : List Int) (found : List (List Nat)), (∀ k ∈ ks, 1 ≤ k ∧ 1 ≤ ls.count k) → (D ++ ks).Nodup → (∀ x, x ∈ found ↔ PM ls D x) → ∀ y, y ∈ ks.foldl (stepA ls) found ↔ PM ls (D ++ ks) y
  | [], D, found, _, _, hf, y => by rw [List.append_nil]; exact hf y
  | k :: ks, D, found, hk, nd, hf, y => by
    have hkk := hk k List.mem_cons_self
    have hkD : k ∉ D := fun z => (List.nodup_append.mp nd).2.2 k z k List.mem_cons_self rfl
    have := pm_fold h4 hb ks (D ++ [k]) (stepA ls found k) (fun j hj => hk j (List.mem_cons_of_mem _ hj)) (by rw [List.append_assoc]; exact nd) (pm_step hkk.1 hkD hkk.2 (h4 k) (hb k) hf) y
    rw [List.append_assoc] at this
    exact this
theorem mem_amF {ls ks : List Int} (h4 : ∀ k, ls.count k ≤ 4) (hb : ∀ k, ls.count k = ls.count (-k)) (h0 : ∀ l ∈ ls, l ≠ 0) (hks : ks.Pairwise (· < ·)) (hm : ∀ k, k ∈ ks ↔ ∃ l, l ∈ ls ∧ k = absI l) (y : List Nat) : y ∈ amF ls ks ↔ Mt ls y := by
  have nd : ks.Nodup := List.Pairwise.imp (fun {a b} h => by omega) hks
  have h1 : ∀ k ∈ ks, 1 ≤ k ∧ 1 ≤ ls.count k := fun k hk => by
    obtain ⟨l, hl, e⟩ := (hm k).mp hk
    refine ⟨by rw [e]; exact absI_pos (h0 l hl), ?_⟩
    have h1 : 1 ≤ ls.count l := List.count_pos_iff.mpr hl
    rcases absI_cases l with h | h
    · rw [e, ← h]
      exact h1
    · rw [e, hb, ← h]
      exact h1
  have hall : ∀ i, i < ls.length → absI (ls.getD i 0) ∈ ks := fun i hi => (hm _).mpr ⟨ls.getD i 0, by rw [List.getD_eq_getElem?_getD, List.getElem?_eq_getElem hi]; exact List.getElem_mem hi, rfl⟩
  have := pm_fold h4 hb ks [] [List.replicate ls.length 0] h1 (by simpa using nd) (fun x => by
    constructor
    · intro hx
      rw [List.mem_singleton.mp hx]
      exact ⟨List.length_replicate, fun i hi => ⟨fun z => absurd z (List.not_mem_nil), fun _ => by rw [List.getD_eq_getElem?_getD, List.getElem?_replicate, if_pos hi]; rfl⟩⟩
    · rintro ⟨x1, x2⟩
      rw [List.mem_singleton]
      refine ext_getD (by rw [x1, List.length_replicate]) fun i hi => ?_
      rw [x1] at hi
      rw [(x2 i hi).2 List.not_mem_nil, List.getD_eq_getElem?_getD, List.getElem?_replicate, if_pos hi]
      rfl) y
  rw [List.nil_append] at this
  unfold amF
  rw [this]
  constructor
  · rintro ⟨x1, x2⟩
    exact ⟨x1, fun i hi => ((x2 i hi).1 (hall i hi)).1, fun i hi => ((x2 i hi).1 (hall i hi)).2.1, fun i hi => ((x2 i hi).1 (hall i hi)).2.2⟩
  · intro m
    exact ⟨m.len, fun i hi => ⟨fun _ => ⟨m.lt i hi, m.inv i hi, m.opp i hi⟩, fun z => absurd (hall i hi) z⟩⟩
end HR
/-! M2 -/
/-! M2: the costs of one rim are odd. -/
namespace HR
theorem Bij.congr {n : Nat} {f g : Nat → Nat} (bf : Bij n f) (h : ∀ x, x < n → g x = f x) : Bij n g :=
  ⟨fun x hx => by rw [h x hx]; exact bf.lt x hx, fun x y hx hy e => bf.inj x y hx hy (by rw [← h x hx, ← h y hy]; exact e)⟩
theorem nxF_cons (b l : Nat) (ls : List Nat) (z : Nat) : (nxF b (l :: ls)).getD z 0 = if z < l then b + (z + 1) % l else (nxF (b + l) ls).getD (z - l) 0 := by
  show (((List.range l).map fun j => b + (j + 1) % l) ++ nxF (b + l) ls).getD z 0 = _
  rw [List.getD_eq_getElem?_getD]
  by_cases h : z < l
  · rw [if_pos h, List.getElem?_append_left (by simpa using h), List.getElem?_map, List.getElem?_range h]
    rfl
  · rw [if_neg h, List.getElem?_append_right (by simp; omega), List.length_map, List.length_range, List.getD_eq_getElem?_getD]
theorem mod_step {z l : Nat} (h : z < l) : (z + 1) % l = if z + 1 = l then 0 else z + 1 := by
  by_cases e : z + 1 = l
  · rw [if_pos e, e, Nat.mod_self]
  · rw [if_neg e, Nat.mod_eq_of_lt (by omega)]
/-- no letter is 0 -/
def NZ (ls : List Int) : Prop := ∀ l ∈ ls, l ≠ 0
theorem NZ.getD {ls : List Int} (h : NZ ls) {i : Nat} (hi : i < ls.length) : ls.getD i 0 ≠ 0 := by
  rw [List.getD_eq_getElem?_getD, List.getElem?_eq_getElem hi]
  exact h _ (List.getElem_mem hi)
theorem Mt.ne {ls : List Int} {m : List Nat} (h : Mt ls m) (nz : NZ ls) {i : Nat} (hi : i < ls.length) : m.getD i 0 ≠ i := fun e => by
  have := h.opp i hi
  rw [e] at this
  have := nz.getD hi
  omega
/-- the mates of the places up to j -/
def mj (m : List Nat) (j x : Nat) : Nat := if x < j ∨ m.getD x 0 < j then m.getD x 0 else x
def cntB (m : List Nat) (j : Nat) : Nat := (List.range j).countP fun i => decide (i < m.getD i 0)
theorem cntB_succ (m : List Nat) (j : Nat) : cntB m (j + 1) = cntB m j + if j < m.getD j 0 then 1 else 0 := by
  unfold cntB
  rw [List.range_succ, List.countP_append]
  simp [List.countP_cons]
theorem par_step {ls : List Int} {m : List Nat} (h : Mt ls m) (nz : NZ ls) {f : Nat → Nat} (bf : Bij ls.length f) : ∀ j, j ≤ ls.length → Bij ls.length (fun x => f (mj m j x)) ∧ (cyc ls.length (fun x => f (mj m j x)) + cyc ls.length f + cntB m j) % 2 = 0
  | 0, _ => by
    have e : ∀ x, x < ls.length → (fun x => f (mj m 0 x)) x = f x := fun x _ => by
      show f (mj m 0 x) = f x
      unfold mj
      rw [if_neg (by omega)]
    refine ⟨bf.congr e, ?_⟩
    rw [cyc_congr bf e]
    show (cyc ls.length f + cyc ls.length f + 0) % 2 = 0
    omega
  | j + 1, hj => by
    obtain ⟨b, p⟩ := par_step h nz bf j (by omega)
    have hl := h.lt j (by omega)
    have hi := h.inv j (by omega)
    have hn := h.ne nz (show j < ls.length by omega)
    rw [cntB_succ]
    by_cases hk : j < m.getD j 0
    · rw [if_pos hk]
      have e : ∀ x, x < ls.length → (fun x => f (mj m (j + 1) x)) x = sw (fun x => f (mj m j x)) j (m.getD j 0) x := fun x hx => by
        show f (mj m (j + 1) x) = _
        by_cases x1 : x = j
        · subst x1
          rw [sw_a]
          unfold mj
          rw [if_pos (by omega), if_neg (by rw [hi]; omega)]
        · by_cases x2 : x = m.getD j 0
          · subst x2
            rw [sw_b]
            unfold mj
            rw [if_pos (by rw [hi]; omega), if_neg (by omega), hi]
          · rw [sw_o x1 x2]
            have x3 : m.getD x 0 ≠ j := fun e => x2 (by rw [← e]; exact (h.inv x hx).symm)
            show f (mj m (j + 1) x) = f (mj m j x)
            unfold mj
            by_cases y : x < j ∨ m.getD x 0 < j
            · rw [if_pos y, if_pos (by omega)]
            · rw [if_neg y, if_neg (by omega)]
      have bs := sw_bij b (show j < ls.length by omega) hl
      refine ⟨bs.congr e, ?_⟩
      rw [cyc_congr bs e]
      have := cyc_sw b (show j < ls.length by omega) hl (by omega)
      omega
    · rw [if_neg hk]
      have e : ∀ x, x < ls.length → (fun x => f (mj m (j + 1) x)) x = (fun x => f (mj m j x)) x := fun x hx => by
        show f (mj m (j + 1) x) = f (mj m j x)
        unfold mj
        by_cases y : x < j ∨ m.getD x 0 < j
        · rw [if_pos y, if_pos (by omega)]
        · rw [if_neg y]
          by_cases x1 : x = j
          · subst x1
            omega
          · have x3 : m.getD x 0 ≠ j := fun e => by
              have := h.inv x hx
              rw [e] at this
              omega
            rw [if_neg (by omega)]
      refine ⟨b.congr e, ?_⟩
      rw [cyc_congr b e]
      exact p
theorem cnt_half {ls : List Int} {m : List Nat} (h : Mt ls m) (nz : NZ ls) : cntB m ls.length + cntB m ls.length = ls.length := by
  have h1 : ((List.range ls.length).filter fun i => decide (i < m.getD i 0)).length ≤ ((List.range ls.length).filter fun i => !decide (i < m.getD i 0)).length :=
    inj_len (fun x y => y = m.getD x 0) _ _ (List.nodup_range.filter _) (fun x hx => by
      obtain ⟨x1, x2⟩ := List.mem_filter.mp hx
      have x1 := List.mem_range.mp x1
      have x2 := of_decide_eq_true x2
      refine ⟨_, List.mem_filter.mpr ⟨List.mem_range.mpr (h.lt x x1), ?_⟩, rfl⟩
      rw [h.inv x x1, decide_eq_false (by omega)]
      rfl) (fun x hx y hy z _ e1 e2 => by
      have x1 := List.mem_range.mp (List.mem_filter.mp hx).1
      have y1 := List.mem_range.mp (List.mem_filter.mp hy).1
      rw [← h.inv x x1, ← h.inv y y1, ← e1, ← e2])
  have h2 : ((List.range ls.length).filter fun i => !decide (i < m.getD i 0)).length ≤ ((List.range ls.length).filter fun i => decide (i < m.getD i 0)).length :=
    inj_len (fun x y => y = m.getD x 0) _ _ (List.nodup_range.filter _) (fun x hx => by
      obtain ⟨x1, x2⟩ := List.mem_filter.mp hx
      have x1 := List.mem_range.mp x1
      have x2 : ¬ x < m.getD x 0 := by simpa using x2
      have := h.ne nz x1
      refine ⟨_, List.mem_filter.mpr ⟨List.mem_range.mpr (h.lt x x1), ?_⟩, rfl⟩
      rw [h.inv x x1, decide_eq_true (by omega)]) (fun x hx y hy z _ e1 e2 => by
      have x1 := List.mem_range.mp (List.mem_filter.mp hx).1
      have y1 := List.mem_range.mp (List.mem_filter.mp hy).1
      rw [← h.inv x x1, ← h.inv y y1, ← e1, ← e2])
  have h3 := List.length_eq_countP_add_countP (l := List.range ls.length) (fun i => decide (i < m.getD i 0))
  rw [List.length_range, List.countP_eq_length_filter, List.countP_eq_length_filter] at h3
  unfold cntB
  rw [List.countP_eq_length_filter]
  have h4 : (List.filter (fun a => decide ¬(decide (a < m.getD a 0)) = true) (List.range ls.length)) = ((List.range ls.length).filter fun i => !decide (i < m.getD i 0)) := by
    congr 1
    funext a
    by_cases q : a < m.getD a 0
    · rw [decide_eq_true q]
      rfl
    · rw [decide_eq_false q]
      rfl
  rw [h4] at h3
  omega
theorem Mt.even {ls : List Int} {m : List Nat} (h : Mt ls m) (nz : NZ ls) : ls.length % 2 = 0 := by
  have := cnt_half h nz
  omega
theorem par_all {ls : List Int} {m : List Nat} (h : Mt ls m) (nz : NZ ls) {f : Nat → Nat} (bf : Bij ls.length f) : (cyc ls.length (fun x => f (m.getD x 0)) + cyc ls.length f + ls.length / 2) % 2 = 0 := by
  obtain ⟨b, p⟩ := par_step h nz bf ls.length (Nat.le_refl _)
  have e : ∀ x, x < ls.length → (fun x => f (m.getD x 0)) x = (fun x => f (mj m ls.length x)) x := fun x hx => by
    show f (m.getD x 0) = f (mj m ls.length x)
    unfold mj
    rw [if_pos (.inl hx)]
  rw [cyc_congr b e]
  have := cnt_half h nz
  omega
theorem nx_one {n x : Nat} (hx : x < n) : (nxF 0 [n]).getD x 0 = (x + 1) % n := by
  rw [nxF_cons, if_pos hx, Nat.zero_add]
theorem nx_two {a b x : Nat} (hx : x < a + b) : (nxF 0 [a, b]).getD x 0 = if x < a then (x + 1) % a else a + (x - a + 1) % b := by
  rw [nxF_cons]
  by_cases h : x < a
  · rw [if_pos h, if_pos h, Nat.zero_add]
  · rw [if_neg h, if_neg h, nxF_cons, if_pos (by omega), Nat.zero_add]
theorem flat1 (w : List Int) : ([w] : List (List Int)).flatten = w := by simp
theorem flat2 (u v : List Int) : ([u, v] : List (List Int)).flatten = u ++ v := by simp
theorem lens1 (w : List Int) : lens [w] = [w.length] := rfl
theorem lens2 (u v : List Int) : lens [u, v] = [u.length, v.length] := rfl
theorem cyc_one {n : Nat} (hn : 0 < n) (b : Bij n (fun x => (nxF 0 [n]).getD x 0)) : cyc n (fun x => (nxF 0 [n]).getD x 0) = 1 := by
  have hi : ∀ k, k < n → it (fun x => (nxF 0 [n]).getD x 0) k 0 = k := fun k => by
    induction k with
    | zero => intro _; rfl
    | succ k ih =>
      intro hk
      show (nxF 0 [n]).getD (it (fun x => (nxF 0 [n]).getD x 0) k 0) 0 = k + 1
      rw [ih (by omega), nx_one (by omega), Nat.mod_eq_of_lt hk]
  rw [cyc_of (L := [0]) b ⟨by simp, by simpa using hn, by simp, fun x hx => ⟨0, List.mem_singleton.mpr rfl, x, hi x hx⟩⟩]
  rfl
theorem cost_odd {w : List Int} {m : List Nat} (hw : w ≠ []) (nz : NZ w) (h : Mt w m) : costF [w] m % 2 = 1 := by
  have hp : 0 < w.length := List.length_pos_iff.mpr hw
  have b := nx_bij [w]
  rw [lens1, flat1] at b
  have := par_all h nz b
  rw [cyc_one hp b] at this
  unfold costF phiL
  rw [flat1, lens1]
  omega
end HR
/-! M3 -/
/-! M3: places in another order. -/
namespace HR
/-- R orders the places -/
structure Prm (n : Nat) (R : List Nat) : Prop where
  len : R.length = n
  nd : R.Nodup
  lt : ∀ x ∈ R, x < n
theorem Prm.at_lt {n : Nat} {R : List Nat} (P : Prm n R) {i : Nat} (hi : i < n) : R.getD i 0 < n := P.lt _ (by
  rw [List.getD_eq_getElem?_getD, List.getElem?_eq_getElem (by rw [P.len]; exact hi)]
  exact List.getElem_mem _)
theorem Prm.mem {n : Nat} {R : List Nat} (P : Prm n R) {x : Nat} (hx : x < n) : x ∈ R :=
  subset_perm P.nd List.nodup_range (by rw [P.len, List.length_range]) (fun y hy => List.mem_range.mpr (P.lt y hy)) x (List.mem_range.mpr hx)
theorem idx_getD {R : List Nat} (nd : R.Nodup) {i : Nat} (hi : i < R.length) : R.idxOf (R.getD i 0) = i := by
  rw [List.getD_eq_getElem?_getD, List.getElem?_eq_getElem hi, Option.getD_some]
  exact List.Nodup.idxOf_getElem nd i hi
theorem getD_idx {R : List Nat} {x : Nat} (h : x ∈ R) : R.getD (R.idxOf x) 0 = x := by
  have := List.idxOf_lt_length_of_mem h
  rw [List.getD_eq_getElem?_getD, List.getElem?_eq_getElem this, Option.getD_some]
  exact List.getElem_idxOf this
theorem Prm.idx_lt {n : Nat} {R : List Nat} (P : Prm n R) {x : Nat} (hx : x < n) : R.idxOf x < n := by
  have := List.idxOf_lt_length_of_mem (P.mem hx)
  rw [P.len] at this
  exact this
theorem Prm.bij {n : Nat} {R : List Nat} (P : Prm n R) : Bij n (fun x => R.getD x 0) where
  lt := fun x hx => P.at_lt hx
  inj := fun x y hx hy e => by
    rw [← idx_getD P.nd (show x < R.length by rw [P.len]; exact hx), ← idx_getD P.nd (show y < R.length by rw [P.len]; exact hy)]
    exact congrArg (fun z => R.idxOf z) e
/-- the mates along an order -/
def ordN (m R : List Nat) : List Nat := R.map fun p => R.idxOf (m.getD p 0)
theorem map_getDN {R : List Nat} {f : Nat → Nat} {i : Nat} (hi : i < R.length) : (R.map f).getD i 0 = f (R.getD i 0) := by
  rw [List.getD_eq_getElem?_getD, List.getElem?_map, List.getElem?_eq_getElem hi, List.getD_eq_getElem?_getD, List.getElem?_eq_getElem hi]
  rfl
theorem map_getDI {R : List Nat} {f : Nat → Int} {i : Nat} (hi : i < R.length) : (R.map f).getD i 0 = f (R.getD i 0) := by
  rw [List.getD_eq_getElem?_getD, List.getElem?_map, List.getElem?_eq_getElem hi, List.getD_eq_getElem?_getD, List.getElem?_eq_getElem hi]
  rfl
theorem Mt.ord {ls : List Int} {m R : List Nat} (h : Mt ls m) (P : Prm ls.length R) : Mt (R.map fun p => ls.getD p 0) (ordN m R) := by
  have hl : (R.map fun p => ls.getD p 0).length = ls.length := by rw [List.length_map, P.len]
  have hg : ∀ i, i < ls.length → (ordN m R).getD i 0 = R.idxOf (m.getD (R.getD i 0) 0) := fun i hi => map_getDN (by rw [P.len]; exact hi)
  have hg2 : ∀ i, i < ls.length → R.getD ((ordN m R).getD i 0) 0 = m.getD (R.getD i 0) 0 := fun i hi => by
    rw [hg i hi]
    exact getD_idx (P.mem (h.lt _ (P.at_lt hi)))
  have hlt : ∀ i, i < ls.length → (ordN m R).getD i 0 < ls.length := fun i hi => by
    rw [hg i hi]
    exact P.idx_lt (h.lt _ (P.at_lt hi))
  refine ⟨by rw [hl]; unfold ordN; rw [List.length_map, P.len], fun i hi => ?_, fun i hi => ?_, fun i hi => ?_⟩
  · rw [hl] at hi ⊢
    exact hlt i hi
  · rw [hl] at hi
    rw [hg _ (hlt i hi), hg2 i hi, h.inv _ (P.at_lt hi)]
    exact idx_getD P.nd (by rw [P.len]; exact hi)
  · rw [hl] at hi
    rw [map_getDI (by rw [P.len]; exact hlt i hi), map_getDI (by rw [P.len]; exact hi), hg2 i hi]
    exact h.opp _ (P.at_lt hi)
theorem cost_ord {ws ws' : List (List Int)} {m R : List Nat} (P : Prm ws.flatten.length R) (e : ws'.flatten = R.map fun p => ws.flatten.getD p 0) (h : Mt ws.flatten m)
    (hn : ∀ x, x < ws.flatten.length → R.getD ((nxF 0 (lens ws')).getD x 0) 0 = (nxF 0 (lens ws)).getD (R.getD x 0) 0) : Mt ws'.flatten (ordN m R) ∧ costF ws' (ordN m R) = costF ws m := by
  have hm' : Mt ws'.flatten (ordN m R) := by rw [e]; exact h.ord P
  have hl : ws'.flatten.length = ws.flatten.length := by rw [e, List.length_map, P.len]
  refine ⟨hm', ?_⟩
  have bf := phi_bij hm'
  have bg := phi_bij h
  rw [hl] at bf
  unfold costF
  rw [hl]
  congr 2
  refine (cyc_conj bf bg P.bij fun x hx => ?_).symm
  show phiL (nxF 0 (lens ws)) m (R.getD x 0) = R.getD (phiL (nxF 0 (lens ws')) (ordN m R) x) 0
  unfold phiL
  have hg : (ordN m R).getD x 0 = R.idxOf (m.getD (R.getD x 0) 0) := map_getDN (by rw [P.len]; exact hx)
  have hx2 : (ordN m R).getD x 0 < ws.flatten.length := by
    rw [hg]
    exact P.idx_lt (h.lt _ (P.at_lt hx))
  rw [hn _ hx2, hg, getD_idx (P.mem (h.lt _ (P.at_lt hx)))]
/-- the places from p on -/
def rotN (p n : Nat) : List Nat := (List.range n).map fun i => (p + i) % n
theorem rotN_getD {p n i : Nat} (hi : i < n) : (rotN p n).getD i 0 = (p + i) % n := by
  unfold rotN
  rw [List.getD_eq_getElem?_getD, List.getElem?_map, List.getElem?_range hi]
  rfl
theorem length_rotN (p n : Nat) : (rotN p n).length = n := by unfold rotN; rw [List.length_map, List.length_range]
theorem mod_lin {a n : Nat} (h : a < 2 * n) : a % n = if a < n then a else a - n := by
  by_cases e : a < n
  · rw [if_pos e, Nat.mod_eq_of_lt e]
  · rw [if_neg e, Nat.mod_eq_sub_mod (by omega), Nat.mod_eq_of_lt (by omega)]
theorem rot_inj {p n i j : Nat} (hp : p ≤ n) (hi : i < n) (hj : j < n) (e : (p + i) % n = (p + j) % n) : i = j := by
  by_cases hpn : p = n
  · subst hpn
    rw [Nat.add_mod_left, Nat.add_mod_left, Nat.mod_eq_of_lt hi, Nat.mod_eq_of_lt hj] at e
    exact e
  · rw [mod_lin (by omega), mod_lin (by omega)] at e
    split at e <;> split at e <;> omega
theorem prm_rot {p n : Nat} (hp : p ≤ n) : Prm n (rotN p n) where
  len := length_rotN p n
  nd := by
    unfold rotN
    rw [List.nodup_iff_pairwise_ne, List.pairwise_map]
    refine List.Pairwise.imp_of_mem (fun {i j} hi hj h e => ?_) (List.nodup_iff_pairwise_ne.mp List.nodup_range)
    exact h (rot_inj hp (List.mem_range.mp hi) (List.mem_range.mp hj) e)
  lt := fun x hx => by
    obtain ⟨i, hi, rfl⟩ := List.mem_map.mp hx
    have := List.mem_range.mp hi
    exact Nat.mod_lt _ (by omega)
theorem ext_I {l m : List Int} (h : l.length = m.length) (e : ∀ i, i < l.length → l.getD i 0 = m.getD i 0) : l = m := by
  refine List.ext_getElem h fun i h1 h2 => ?_
  have := e i h1
  rw [List.getD_eq_getElem?_getD, List.getElem?_eq_getElem h1, List.getD_eq_getElem?_getD, List.getElem?_eq_getElem h2] at this
  exact this
/-- w from p on -/
def rotW (p : Nat) (w : List Int) : List Int := w.drop p ++ w.take p
theorem length_rotW {p : Nat} {w : List Int} : (rotW p w).length = w.length := by
  unfold rotW
  rw [List.length_append, List.length_drop, List.length_take]
  omega
theorem getD_drop {w : List Int} {p i : Nat} : (w.drop p).getD i 0 = w.getD (p + i) 0 := by
  rw [List.getD_eq_getElem?_getD, List.getD_eq_getElem?_getD, List.getElem?_drop]
theorem getD_take {w : List Int} {p i : Nat} (h : i < p) : (w.take p).getD i 0 = w.getD i 0 := by
  rw [List.getD_eq_getElem?_getD, List.getD_eq_getElem?_getD, List.getElem?_take, if_pos h]
theorem getD_app {u v : List Int} {i : Nat} : (u ++ v).getD i 0 = if i < u.length then u.getD i 0 else v.getD (i - u.length) 0 := by
  rw [List.getD_eq_getElem?_getD]
  by_cases h : i < u.length
  · rw [if_pos h, List.getElem?_append_left h, List.getD_eq_getElem?_getD]
  · rw [if_neg h, List.getElem?_append_right (by omega), List.getD_eq_getElem?_getD]
theorem getD_appN {u v : List Nat} {i : Nat} : (u ++ v).getD i 0 = if i < u.length then u.getD i 0 else v.getD (i - u.length) 0 := by
  rw [List.getD_eq_getElem?_getD]
  by_cases h : i < u.length
  · rw [if_pos h, List.getElem?_append_left h, List.getD_eq_getElem?_getD]
  · rw [if_neg h, List.getElem?_append_right (by omega), List.getD_eq_getElem?_getD]
theorem rotW_getD {p : Nat} {w : List Int} (hp : p ≤ w.length) {i : Nat} (hi : i < w.length) : (rotW p w).getD i 0 = w.getD ((p + i) % w.length) 0 := by
  unfold rotW
  rw [getD_app, List.length_drop]
  by_cases h : i < w.length - p
  · rw [if_pos h, getD_drop, Nat.mod_eq_of_lt (by omega)]
  · rw [if_neg h, getD_take (by omega), Nat.mod_eq_sub_mod (by omega), Nat.mod_eq_of_lt (by omega)]
    congr 1
    omega
theorem rotW_map {p : Nat} {w : List Int} (hp : p ≤ w.length) : rotW p w = (rotN p w.length).map fun q => w.getD q 0 :=
  ext_I (by rw [length_rotW, List.length_map, length_rotN]) fun i hi => by
    rw [length_rotW] at hi
    rw [rotW_getD hp hi, map_getDI (by rw [length_rotN]; exact hi), rotN_getD hi]
theorem rotW_back {p : Nat} {w : List Int} (hp : p ≤ w.length) : rotW (w.length - p) (rotW p w) = w := by
  unfold rotW
  have e : w.length - p = (w.drop p).length := by rw [List.length_drop]
  rw [e, List.drop_left, List.take_left, List.take_append_drop]
/-- a rim begun elsewhere -/
theorem cost_rot {w : List Int} {m : List Nat} {p : Nat} (hp : p ≤ w.length) (h : Mt w m) : Mt (rotW p w) (ordN m (rotN p w.length)) ∧ costF [rotW p w] (ordN m (rotN p w.length)) = costF [w] m := by
  have q := cost_ord (ws := [w]) (ws' := [rotW p w]) (m := m) (R := rotN p w.length) (by rw [flat1]; exact prm_rot hp) (by rw [flat1, flat1]; exact rotW_map hp) (by rw [flat1]; exact h) (fun x hx => by
    rw [flat1] at hx
    have h1 := Nat.mod_lt (x + 1) (show 0 < w.length by omega)
    have h2 := Nat.mod_lt (p + x) (show 0 < w.length by omega)
    rw [lens1, lens1, length_rotW, nx_one hx, rotN_getD h1, rotN_getD hx, nx_one h2, Nat.add_mod_mod, Nat.mod_add_mod, Nat.add_assoc])
  rw [flat1] at q
  exact q
/-- the first of two rims begun elsewhere -/
theorem cost_rot2 {u v : List Int} {m : List Nat} {p : Nat} (hp : p ≤ u.length) (h : Mt (u ++ v) m) : ∃ m', Mt (rotW p u ++ v) m' ∧ costF [rotW p u, v] m' = costF [u, v] m := by
  have hR : ∀ x, x < u.length + v.length → (rotN p u.length ++ (List.range v.length).map fun i => u.length + i).getD x 0 = if x < u.length then (p + x) % u.length else x := fun x hx => by
    rw [getD_appN, length_rotN]
    by_cases hxu : x < u.length
    · rw [if_pos hxu, if_pos hxu, rotN_getD hxu]
    · rw [if_neg hxu, if_neg hxu, map_getDN (by rw [List.length_range]; omega), List.getD_eq_getElem?_getD, List.getElem?_range (by omega)]
      show u.length + (x - u.length) = x
      omega
  have PR := prm_rot hp
  have q := cost_ord (ws := [u, v]) (ws' := [rotW p u, v]) (m := m) (R := rotN p u.length ++ (List.range v.length).map fun i => u.length + i) (by
    rw [flat2]
    refine ⟨by rw [List.length_append, length_rotN, List.length_map, List.length_range, List.length_append], ?_, fun x hx => ?_⟩
    · rw [List.nodup_append]
      refine ⟨PR.nd, ?_, fun x hx y hy e => ?_⟩
      · rw [List.nodup_iff_pairwise_ne, List.pairwise_map]
        exact List.Pairwise.imp (fun {a b} h e => h (by omega)) (List.nodup_iff_pairwise_ne.mp List.nodup_range)
      · obtain ⟨i, _, rfl⟩ := List.mem_map.mp hy
        have := PR.lt x hx
        omega
    · rw [List.length_append]
      rcases List.mem_append.mp hx with hx | hx
      · have := PR.lt x hx
        omega
      · obtain ⟨i, hi, rfl⟩ := List.mem_map.mp hx
        have := List.mem_range.mp hi
        omega) (by
    rw [flat2, flat2]
    refine ext_I (by simp [length_rotW, length_rotN]) fun i hi => ?_
    rw [List.length_append, length_rotW] at hi
    rw [map_getDI (by simp [length_rotN]; omega), hR i hi, getD_app, getD_app, length_rotW]
    by_cases hu : i < u.length
    · have := Nat.mod_lt (p + i) (show 0 < u.length by omega)
      rw [if_pos hu, if_pos hu, if_pos this, rotW_getD hp hu]
    · rw [if_neg hu, if_neg hu, if_neg hu]) (by rw [flat2]; exact h) (fun x hx => by
    rw [flat2, List.length_append] at hx
    rw [lens2, lens2, length_rotW, nx_two hx, hR x hx]
    by_cases hu : x < u.length
    · have h1 := Nat.mod_lt (x + 1) (show 0 < u.length by omega)
      have h2 := Nat.mod_lt (p + x) (show 0 < u.length by omega)
      rw [if_pos hu, if_pos hu, hR _ (by omega), if_pos h1, nx_two (by omega), if_pos h2, Nat.add_mod_mod, Nat.mod_add_mod, Nat.add_assoc]
    · have h1 := Nat.mod_lt (x - u.length + 1) (show 0 < v.length by omega)
      rw [if_neg hu, if_neg hu, hR _ (by omega), if_neg (by omega), nx_two hx, if_neg hu])
  rw [flat2] at q
  exact ⟨_, q⟩
/-- two rims in the other order -/
theorem cost_swap {u v : List Int} {m : List Nat} (h : Mt (u ++ v) m) : ∃ m', Mt (v ++ u) m' ∧ costF [v, u] m' = costF [u, v] m := by
  have hR : ∀ x, x < v.length + u.length → (((List.range v.length).map fun i => u.length + i) ++ List.range u.length).getD x 0 = if x < v.length then u.length + x else x - v.length := fun x hx => by
    rw [getD_appN, List.length_map, List.length_range]
    by_cases hxu : x < v.length
    · rw [if_pos hxu, if_pos hxu, map_getDN (by rw [List.length_range]; omega), List.getD_eq_getElem?_getD, List.getElem?_range (by omega)]
      rfl
    · rw [if_neg hxu, if_neg hxu, List.getD_eq_getElem?_getD, List.getElem?_range (by omega)]
      rfl
  have q := cost_ord (ws := [u, v]) (ws' := [v, u]) (m := m) (R := ((List.range v.length).map fun i => u.length + i) ++ List.range u.length) (by
    rw [flat2]
    refine ⟨by simp; omega, ?_, fun x hx => ?_⟩
    · rw [List.nodup_append]
      refine ⟨?_, List.nodup_range, fun x hx y hy e => ?_⟩
      · rw [List.nodup_iff_pairwise_ne, List.pairwise_map]
        exact List.Pairwise.imp (fun {a b} h e => h (by omega)) (List.nodup_iff_pairwise_ne.mp List.nodup_range)
      · obtain ⟨i, _, rfl⟩ := List.mem_map.mp hx
        have := List.mem_range.mp hy
        omega
    · rw [List.length_append]
      rcases List.mem_append.mp hx with hx | hx
      · obtain ⟨i, hi, rfl⟩ := List.mem_map.mp hx
        have := List.mem_range.mp hi
        omega
      · have := List.mem_range.mp hx
        omega) (by
    rw [flat2, flat2]
    refine ext_I (by simp) fun i hi => ?_
    rw [List.length_append] at hi
    rw [map_getDI (by simp; omega), hR i hi, getD_app, getD_app]
    by_cases hv : i < v.length
    · rw [if_pos hv, if_pos hv, if_neg (by omega)]
      congr 1
      omega
    · rw [if_neg hv, if_neg hv, if_pos (by omega)]) (by rw [flat2]; exact h) (fun x hx => by
    rw [flat2, List.length_append] at hx
    rw [lens2, lens2, nx_two (by omega), hR x (by omega)]
    by_cases hv : x < v.length
    · have h1 := Nat.mod_lt (x + 1) (show 0 < v.length by omega)
      rw [if_pos hv, if_pos hv, hR _ (by omega), if_pos h1, nx_two (by omega), if_neg (by omega), show u.length + x - u.length + 1 = x + 1 by omega]
    · have h1 := Nat.mod_lt (x - v.length + 1) (show 0 < u.length by omega)
      rw [if_neg hv, if_neg hv, hR _ (by omega), if_neg (by omega), nx_two (by omega), if_pos (by omega), show v.length + (x - v.length + 1) % u.length - v.length = (x - v.length + 1) % u.length by omega])
  rw [flat2] at q
  exact ⟨_, q⟩
end HR
/-! M4 -/
/-! M4: cut, banded, put together: costs. -/
namespace HR
/-! ### cut -/
theorem cut_fun {u v : List Int} {m : List Nat} (hu : u ≠ []) (hv : v ≠ []) (h : Mt (u ++ v) m) : ∀ x, x < u.length + v.length →
    phiL (nxF 0 [u.length, v.length]) m x = sw (phiL (nxF 0 [(u ++ v).length]) m) (m.getD (u.length - 1) 0) (m.getD (u.length + v.length - 1) 0) x := fun x hx => by
  have pu : 0 < u.length := List.length_pos_iff.mpr hu
  have pv : 0 < v.length := List.length_pos_iff.mpr hv
  have hl : (u ++ v).length = u.length + v.length := List.length_append
  have hlt := h.lt
  have hinv := h.inv
  rw [hl] at hlt hinv
  have hmx := hlt x hx
  have n1 : ∀ y, y < u.length + v.length → (nxF 0 [(u ++ v).length]).getD y 0 = if y + 1 = u.length + v.length then 0 else y + 1 := fun y hy => by
    rw [hl, nx_one hy, mod_step hy]
  have n2 : ∀ y, y < u.length + v.length → (nxF 0 [u.length, v.length]).getD y 0 = if y + 1 = u.length then 0 else if y + 1 = u.length + v.length then u.length else y + 1 := fun y hy => by
    rw [nx_two hy]
    by_cases c : y < u.length
    · rw [if_pos c, mod_step c]
      (repeat' split) <;> omega
    · rw [if_neg c, mod_step (show y - u.length < v.length by omega)]
      (repeat' split) <;> omega
  by_cases x1 : x = m.getD (u.length - 1) 0
  · subst x1
    rw [sw_a]
    unfold phiL
    rw [hinv _ (by omega), hinv _ (by omega), n1 _ (by omega), n2 _ (by omega), if_pos (by omega), if_pos (by omega)]
  · by_cases x2 : x = m.getD (u.length + v.length - 1) 0
    · subst x2
      rw [sw_b]
      unfold phiL
      rw [hinv _ (by omega), hinv _ (by omega), n1 _ (by omega), n2 _ (by omega), if_neg (by omega), if_pos (by omega), if_neg (by omega)]
      omega
    · rw [sw_o x1 x2]
      unfold phiL
      have y1 : m.getD x 0 ≠ u.length - 1 := fun e => x1 (by rw [← e, hinv x hx])
      have y2 : m.getD x 0 ≠ u.length + v.length - 1 := fun e => x2 (by rw [← e, hinv x hx])
      rw [n1 _ hmx, n2 _ hmx, if_neg (by omega), if_neg (by omega), if_neg (by omega)]
theorem phi1 {w : List Int} {m : List Nat} (h : Mt w m) : Bij w.length (phiL (nxF 0 [w.length]) m) := by
  have := phi_bij (ws := [w]) (m := m) (by rw [flat1]; exact h)
  rw [flat1, lens1] at this
  exact this
theorem phi2 {u v : List Int} {m : List Nat} (h : Mt (u ++ v) m) : Bij (u.length + v.length) (phiL (nxF 0 [u.length, v.length]) m) := by
  have := phi_bij (ws := [u, v]) (m := m) (by rw [flat2]; exact h)
  rw [flat2, lens2, List.length_append] at this
  exact this
theorem cost1 (w : List Int) (m : List Nat) : costF [w] m = ((w.length / 2 : Nat) : Int) - (cyc w.length (phiL (nxF 0 [w.length]) m) : Int) := by
  unfold costF
  rw [flat1, lens1]
theorem cost2 (u v : List Int) (m : List Nat) : costF [u, v] m = (((u.length + v.length) / 2 : Nat) : Int) - (cyc (u.length + v.length) (phiL (nxF 0 [u.length, v.length]) m) : Int) := by
  unfold costF
  rw [flat2, lens2, List.length_append]
theorem cost_cut {u v : List Int} {m : List Nat} (hu : u ≠ []) (hv : v ≠ []) (h : Mt (u ++ v) m) : costF [u, v] m = costF [u ++ v] m + 1 ∨ costF [u, v] m + 1 = costF [u ++ v] m := by
  have pu : 0 < u.length := List.length_pos_iff.mpr hu
  have pv : 0 < v.length := List.length_pos_iff.mpr hv
  have hl : (u ++ v).length = u.length + v.length := List.length_append
  have b := phi1 h
  have ha := h.lt (u.length - 1) (by omega)
  have hb := h.lt (u.length + v.length - 1) (by omega)
  have bs := sw_bij b ha hb
  have ne : m.getD (u.length - 1) 0 ≠ m.getD (u.length + v.length - 1) 0 := fun e => by
    have h1 := h.inv (u.length - 1) (by omega)
    have h2 := h.inv (u.length + v.length - 1) (by omega)
    rw [e, h2] at h1
    omega
  have c1 := cyc_sw b ha hb ne
  rw [hl] at bs
  have cf := cut_fun hu hv h
  rw [hl] at c1 cf
  rw [cost1, cost2, cyc_congr bs cf, hl]
  omega
/-- two rims whose letters lead into themselves become one -/
theorem cost_join {u v : List Int} {m : List Nat} (hu : u ≠ []) (hv : v ≠ []) (h : Mt (u ++ v) m) (hk : ∀ x, x < u.length → m.getD x 0 < u.length) : costF [u ++ v] m = costF [u, v] m + 1 := by
  have pu : 0 < u.length := List.length_pos_iff.mpr hu
  have pv : 0 < v.length := List.length_pos_iff.mpr hv
  have hl : (u ++ v).length = u.length + v.length := List.length_append
  have b := phi2 h
  have hlt := h.lt
  have hinv := h.inv
  rw [hl] at hlt hinv
  have ha := hlt (u.length - 1) (by omega)
  have hb := hlt (u.length + v.length - 1) (by omega)
  have stay : ∀ k x, x < u.length → it (phiL (nxF 0 [u.length, v.length]) m) k x < u.length := fun k => by
    induction k with
    | zero => exact fun x hx => hx
    | succ k ih =>
      intro x hx
      have i1 := hk _ (ih x hx)
      show (nxF 0 [u.length, v.length]).getD (m.getD (it _ k x) 0) 0 < u.length
      rw [nx_two (by omega), if_pos i1]
      exact Nat.mod_lt _ pu
  have hb2 : ¬ m.getD (u.length + v.length - 1) 0 < u.length := fun z => by
    have := hk _ z
    rw [hinv _ (by omega)] at this
    omega
  have no : ¬ Orb (phiL (nxF 0 [u.length, v.length]) m) (m.getD (u.length - 1) 0) (m.getD (u.length + v.length - 1) 0) := fun ⟨k, e⟩ => by
    have := stay k _ (hk (u.length - 1) (by omega))
    rw [e] at this
    exact hb2 this
  have c1 := cyc_join b ha hb no
  have bs := sw_bij b ha hb
  have e : ∀ x, x < u.length + v.length → phiL (nxF 0 [(u ++ v).length]) m x = sw (phiL (nxF 0 [u.length, v.length]) m) (m.getD (u.length - 1) 0) (m.getD (u.length + v.length - 1) 0) x := fun x hx => by
    have cf := cut_fun hu hv h
    by_cases x1 : x = m.getD (u.length - 1) 0
    · subst x1
      rw [sw_a, cf _ hb, sw_b]
    · by_cases x2 : x = m.getD (u.length + v.length - 1) 0
      · subst x2
        rw [sw_b, cf _ ha, sw_a]
      · rw [sw_o x1 x2, cf x hx, sw_o x1 x2]
  have c2 := cyc_congr bs e
  rw [cost1, cost2, hl]
  rw [hl] at c2
  omega
/-! ### banded -/
/-- u k v, and k the other way -/
def bandL (u v : List Int) (k : Int) : List Int := u ++ (k :: (v ++ [-k]))
def bandN (s n : Nat) (m : List Nat) : List Nat := ((m.map fun x => if x < s then x else x + 1).take s) ++ ((n + 1) :: (((m.map fun x => if x < s then x else x + 1).drop s) ++ [s]))
theorem length_bandL (u v : List Int) (k : Int) : (bandL u v k).length = u.length + v.length + 2 := by
  unfold bandL
  simp
  omega
theorem bandL_getD {u v : List Int} {k : Int} {x : Nat} (hx : x < u.length + v.length + 2) : (bandL u v k).getD x 0 = if x < u.length then u.getD x 0 else if x = u.length then k else if x = u.length + v.length + 1 then -k else v.getD (x - u.length - 1) 0 := by
  unfold bandL
  rw [getD_app]
  by_cases h1 : x < u.length
  · rw [if_pos h1, if_pos h1]
  · rw [if_neg h1, if_neg h1]
    by_cases h2 : x = u.length
    · rw [if_pos h2, h2, Nat.sub_self]
      rfl
    · rw [if_neg h2]
      obtain ⟨y, hy⟩ : ∃ y, x - u.length = y + 1 := ⟨x - u.length - 1, by omega⟩
      rw [hy]
      show (v ++ [-k]).getD y 0 = _
      rw [getD_app]
      by_cases h3 : x = u.length + v.length + 1
      · rw [if_pos h3, if_neg (by omega), show y - v.length = 0 by omega]
        rfl
      · rw [if_neg h3, if_pos (by omega)]
        congr 1
theorem length_bandN {s n : Nat} {m : List Nat} (hm : m.length = n) (hs : s ≤ n) : (bandN s n m).length = n + 2 := by
  unfold bandN
  simp
  omega
theorem bandN_getD {s n : Nat} {m : List Nat} (hm : m.length = n) (hs : s ≤ n) {x : Nat} (hx : x < n + 2) : (bandN s n m).getD x 0 = if x < s then (if m.getD x 0 < s then m.getD x 0 else m.getD x 0 + 1) else if x = s then n + 1 else if x = n + 1 then s else (if m.getD (x - 1) 0 < s then m.getD (x - 1) 0 else m.getD (x - 1) 0 + 1) := by
  have hl : (m.map fun x => if x < s then x else x + 1).length = n := by rw [List.length_map, hm]
  have hg : ∀ y, y < n → (m.map fun x => if x < s then x else x + 1).getD y 0 = if m.getD y 0 < s then m.getD y 0 else m.getD y 0 + 1 := fun y hy => map_getDN (by rw [hm]; exact hy)
  unfold bandN
  rw [getD_appN, List.length_take, hl, Nat.min_eq_left hs]
  by_cases h1 : x < s
  · rw [if_pos h1, if_pos h1, ← hg x (by omega), List.getD_eq_getElem?_getD, List.getElem?_take, if_pos h1, List.getD_eq_getElem?_getD]
  · rw [if_neg h1, if_neg h1]
    by_cases h2 : x = s
    · rw [if_pos h2, h2, Nat.sub_self]
      rfl
    · rw [if_neg h2]
      obtain ⟨y, hy⟩ : ∃ y, x - s = y + 1 := ⟨x - s - 1, by omega⟩
      rw [hy]
      show (_ ++ [s]).getD y 0 = _
      rw [getD_appN, List.length_drop, hl]
      by_cases h3 : x = n + 1
      · rw [if_pos h3, if_neg (by omega), show y - (n - s) = 0 by omega]
        rfl
      · rw [if_neg h3, if_pos (by omega), ← hg (x - 1) (by omega), List.getD_eq_getElem?_getD, List.getElem?_drop, List.getD_eq_getElem?_getD, show s + y = x - 1 by omega]
theorem band_mt {u v : List Int} {m : List Nat} {k : Int} (h : Mt (u ++ v) m) : Mt (bandL u v k) (bandN u.length (u.length + v.length) m) := by
  have hl : (u ++ v).length = u.length + v.length := List.length_append
  have hlen := h.len
  have hlt := h.lt
  have hinv := h.inv
  have hopp := h.opp
  rw [hl] at hlen hlt hinv hopp
  have g : ∀ x, x < u.length + v.length + 2 → _ := fun x hx => bandN_getD hlen (show u.length ≤ u.length + v.length by omega) (x := x) hx
  refine ⟨by rw [length_bandN hlen (by omega), length_bandL], fun x hx => ?_, fun x hx => ?_, fun x hx => ?_⟩
  · rw [length_bandL] at hx ⊢
    rw [g x hx]
    split
    · have := hlt x (by omega)
      split <;> omega
    · split
      · omega
      · split
        · omega
        · have := hlt (x - 1) (by omega)
          split <;> omega
  · rw [length_bandL] at hx
    have key : ∀ y, y < u.length + v.length → (bandN u.length (u.length + v.length) m).getD (if m.getD y 0 < u.length then m.getD y 0 else m.getD y 0 + 1) 0 = if y < u.length then y else y + 1 := fun y hy => by
      have h1 := hlt y hy
      have h2 := hinv y hy
      by_cases c : m.getD y 0 < u.length
      · rw [if_pos c, g _ (by omega), if_pos c, h2]
      · rw [if_neg c, g _ (by omega), if_neg (by omega), if_neg (by omega), if_neg (by omega), Nat.add_sub_cancel, h2]
    rw [g x hx]
    by_cases c1 : x < u.length
    · rw [if_pos c1, key x (by omega), if_pos c1]
    · rw [if_neg c1]
      by_cases c2 : x = u.length
      · rw [if_pos c2, g _ (by omega), if_neg (by omega), if_neg (by omega), if_pos rfl, c2]
      · rw [if_neg c2]
        by_cases c3 : x = u.length + v.length + 1
        · rw [if_pos c3, g _ (by omega), if_neg (by omega), if_pos rfl, c3]
        · rw [if_neg c3, key (x - 1) (by omega), if_neg (by omega)]
          omega
  · rw [length_bandL] at hx
    have lt2 : ∀ y, y < u.length + v.length → (bandL u v k).getD (if y < u.length then y else y + 1) 0 = (u ++ v).getD y 0 := fun y hy => by
      rw [getD_app]
      by_cases c : y < u.length
      · rw [if_pos c, if_pos c, bandL_getD (by omega), if_pos c]
      · rw [if_neg c, if_neg c, bandL_getD (by omega), if_neg (by omega), if_neg (by omega), if_neg (by omega)]
        congr 1
        omega
    rw [g x hx]
    by_cases c1 : x < u.length
    · have e : x = if x < u.length then x else x + 1 := by rw [if_pos c1]
      rw [if_pos c1, lt2 _ (hlt x (by omega)), hopp x (by omega)]
      conv => rhs; rw [e, lt2 x (by omega)]
    · rw [if_neg c1]
      by_cases c2 : x = u.length
      · rw [if_pos c2, bandL_getD (by omega), bandL_getD (by omega), if_neg (by omega), if_neg (by omega), if_pos rfl, if_neg (by omega), if_pos c2]
      · rw [if_neg c2]
        by_cases c3 : x = u.length + v.length + 1
        · rw [if_pos c3, bandL_getD (by omega), bandL_getD (by omega), if_neg (by omega), if_pos rfl, if_neg (by omega), if_neg (by omega), if_pos c3, Int.neg_neg]
        · have e : x = if x - 1 < u.length then x - 1 else x - 1 + 1 := by rw [if_neg (by omega)]; omega
          rw [if_neg c3, lt2 _ (hlt (x - 1) (by omega)), hopp (x - 1) (by omega)]
          conv => rhs; rw [e, lt2 (x - 1) (by omega)]
theorem cost_band {u v : List Int} {m : List Nat} {k : Int} (hu : u ≠ []) (hv : v ≠ []) (h : Mt (u ++ v) m) : costF [bandL u v k] (bandN u.length (u.length + v.length) m) = costF [u, v] m + 1 := by
  have pu : 0 < u.length := List.length_pos_iff.mpr hu
  have pv : 0 < v.length := List.length_pos_iff.mpr hv
  have hl : (u ++ v).length = u.length + v.length := List.length_append
  have hlen := h.len
  have hlt := h.lt
  have hinv := h.inv
  rw [hl] at hlen hlt hinv
  have g : ∀ x, x < u.length + v.length + 2 → _ := fun x hx => bandN_getD hlen (show u.length ≤ u.length + v.length by omega) (x := x) hx
  have b2 := phi2 h
  have b1 := phi1 (band_mt (k := k) h)
  rw [length_bandL] at b1
  have n2 : ∀ y, y < u.length + v.length → (nxF 0 [u.length, v.length]).getD y 0 = if y + 1 = u.length then 0 else if y + 1 = u.length + v.length then u.length else y + 1 := fun y hy => by
    rw [nx_two hy]
    by_cases c : y < u.length
    · rw [if_pos c, mod_step c]
      (repeat' split) <;> omega
    · rw [if_neg c, mod_step (show y - u.length < v.length by omega)]
      (repeat' split) <;> omega
  have n1 : ∀ y, y < u.length + v.length + 2 → (nxF 0 [u.length + v.length + 2]).getD y 0 = if y + 1 = u.length + v.length + 2 then 0 else y + 1 := fun y hy => by
    rw [nx_one hy, mod_step hy]
  have gs : ∀ x, x < u.length + v.length → (bandN u.length (u.length + v.length) m).getD (if x < u.length then x else x + 1) 0 = if m.getD x 0 < u.length then m.getD x 0 else m.getD x 0 + 1 := fun x hx => by
    by_cases c : x < u.length
    · rw [if_pos c, g _ (by omega), if_pos c]
    · rw [if_neg c, g _ (by omega), if_neg (by omega), if_neg (by omega), if_neg (by omega), Nat.add_sub_cancel]
  have p_s : phiL (nxF 0 [u.length + v.length + 2]) (bandN u.length (u.length + v.length) m) u.length = 0 := by
    unfold phiL
    rw [g _ (by omega), if_neg (by omega), if_pos rfl, n1 _ (by omega), if_pos (by omega)]
  have p_e : phiL (nxF 0 [u.length + v.length + 2]) (bandN u.length (u.length + v.length) m) (u.length + v.length + 1) = u.length + 1 := by
    unfold phiL
    rw [g _ (by omega), if_neg (by omega), if_neg (by omega), if_pos rfl, n1 _ (by omega), if_neg (by omega)]
  have step : ∀ x, x < u.length + v.length → phiL (nxF 0 [u.length + v.length + 2]) (bandN u.length (u.length + v.length) m) (if x < u.length then x else x + 1) = (if m.getD x 0 < u.length then m.getD x 0 else m.getD x 0 + 1) + 1 := fun x hx => by
    have := hlt x hx
    unfold phiL
    rw [gs x hx, n1 _ (by split <;> omega), if_neg (by split <;> omega)]
  have phx : ∀ x, x < u.length + v.length → phiL (nxF 0 [u.length, v.length]) m x = if m.getD x 0 + 1 = u.length then 0 else if m.getD x 0 + 1 = u.length + v.length then u.length else m.getD x 0 + 1 := fun x hx => by
    unfold phiL
    exact n2 _ (hlt x hx)
  have hc : cyc (u.length + v.length + 2) (phiL (nxF 0 [u.length + v.length + 2]) (bandN u.length (u.length + v.length) m)) = cyc (u.length + v.length) (phiL (nxF 0 [u.length, v.length]) m) := by
    refine cyc_ret (s := fun x => if x < u.length then x else x + 1) b2 b1 (fun x hx => by show (if x < u.length then x else x + 1) < u.length + v.length + 2; split <;> omega) (fun x y hx hy e => by
      have e : (if x < u.length then x else x + 1) = if y < u.length then y else y + 1 := e
      split at e <;> split at e <;> omega) (fun x hx => ?_) fun z hz => ?_
    · have hm := hlt x hx
      have sx := step x hx
      by_cases c1 : m.getD x 0 + 1 = u.length
      · refine ⟨2, by omega, ?_, fun i i0 i2 y hy e => ?_⟩
        · show phiL _ _ (phiL _ _ (if x < u.length then x else x + 1)) = if phiL (nxF 0 [u.length, v.length]) m x < u.length then phiL (nxF 0 [u.length, v.length]) m x else phiL (nxF 0 [u.length, v.length]) m x + 1
          rw [sx, phx x hx, if_pos (by omega), c1, p_s, if_pos rfl, if_pos pu]
        · have : i = 1 := by omega
          subst this
          have e : phiL _ _ (if x < u.length then x else x + 1) = if y < u.length then y else y + 1 := e
          rw [sx, if_pos (by omega)] at e
          split at e <;> omega
      · by_cases c2 : m.getD x 0 + 1 = u.length + v.length
        · refine ⟨2, by omega, ?_, fun i i0 i2 y hy e => ?_⟩
          · show phiL _ _ (phiL _ _ (if x < u.length then x else x + 1)) = if phiL (nxF 0 [u.length, v.length]) m x < u.length then phiL (nxF 0 [u.length, v.length]) m x else phiL (nxF 0 [u.length, v.length]) m x + 1
            rw [sx, phx x hx, if_neg (by omega), if_neg c1, if_pos c2, c2, p_e, if_neg (by omega)]
          · have : i = 1 := by omega
            subst this
            have e : phiL _ _ (if x < u.length then x else x + 1) = if y < u.length then y else y + 1 := e
            rw [sx, if_neg (by omega)] at e
            split at e <;> omega
        · refine ⟨1, by omega, ?_, fun i i0 i1 => by omega⟩
          show phiL _ _ (if x < u.length then x else x + 1) = if phiL (nxF 0 [u.length, v.length]) m x < u.length then phiL (nxF 0 [u.length, v.length]) m x else phiL (nxF 0 [u.length, v.length]) m x + 1
          rw [sx, phx x hx, if_neg c1, if_neg c2]
          split <;> split <;> omega
    · by_cases z1 : z = u.length
      · have := hlt (u.length - 1) (by omega)
        refine ⟨m.getD (u.length - 1) 0, this, 1, ?_⟩
        show phiL _ _ (if m.getD (u.length - 1) 0 < u.length then m.getD (u.length - 1) 0 else m.getD (u.length - 1) 0 + 1) = z
        rw [step _ this, hinv _ (by omega), if_pos (by omega)]
        omega
      · by_cases z2 : z = u.length + v.length + 1
        · have := hlt (u.length + v.length - 1) (by omega)
          refine ⟨m.getD (u.length + v.length - 1) 0, this, 1, ?_⟩
          show phiL _ _ (if m.getD (u.length + v.length - 1) 0 < u.length then m.getD (u.length + v.length - 1) 0 else m.getD (u.length + v.length - 1) 0 + 1) = z
          rw [step _ this, hinv _ (by omega), if_neg (by omega)]
          omega
        · by_cases z3 : z < u.length
          · exact ⟨z, by omega, 0, by show (if z < u.length then z else z + 1) = z; rw [if_pos z3]⟩
          · exact ⟨z - 1, by omega, 0, by show (if z - 1 < u.length then z - 1 else z - 1 + 1) = z; rw [if_neg (by omega)]; omega⟩
  rw [cost1, cost2, length_bandL, hc]
  omega
end HR
/-! M5 -/
/-! M5: two lots without a common kind; tubes; least costs. -/
namespace HR
theorem nxF_shift (c : Nat) : ∀ (b : Nat) (ls : List Nat), nxF (c + b) ls = (nxF b ls).map fun x => c + x
  | b, [] => rfl
  | b, l :: ls => by
    show ((List.range l).map fun i => c + b + (i + 1) % l) ++ nxF (c + b + l) ls = (((List.range l).map fun i => b + (i + 1) % l) ++ nxF (b + l) ls).map fun x => c + x
    rw [Nat.add_assoc c b l, nxF_shift c (b + l) ls, List.map_append, List.map_map]
    congr 1
    refine List.map_congr_left fun i _ => ?_
    show c + b + (i + 1) % l = c + (b + (i + 1) % l)
    omega
theorem nx_app {ls ms : List Nat} {x : Nat} (hx : x < ls.sum + ms.sum) : (nxF 0 (ls ++ ms)).getD x 0 = if x < ls.sum then (nxF 0 ls).getD x 0 else ls.sum + (nxF 0 ms).getD (x - ls.sum) 0 := by
  rw [nxF_append, getD_appN, length_nxF]
  by_cases h : x < ls.sum
  · rw [if_pos h, if_pos h]
  · rw [if_neg h, if_neg h, Nat.add_comm 0, nxF_shift, map_getDN (by rw [length_nxF]; omega)]
theorem lens_app (us vs : List (List Int)) : lens (us ++ vs) = lens us ++ lens vs := List.map_append
def mL (a : Nat) (m : List Nat) : List Nat := m.take a
def mR (a : Nat) (m : List Nat) : List Nat := (m.drop a).map fun x => x - a
def mC (a : Nat) (m1 m2 : List Nat) : List Nat := m1 ++ m2.map fun x => a + x
theorem mL_getD {a x : Nat} {m : List Nat} (h : x < a) : (mL a m).getD x 0 = m.getD x 0 := by
  unfold mL
  rw [List.getD_eq_getElem?_getD, List.getElem?_take, if_pos h, List.getD_eq_getElem?_getD]
theorem mR_getD {a x : Nat} {m : List Nat} (h : a + x < m.length) : (mR a m).getD x 0 = m.getD (a + x) 0 - a := by
  unfold mR
  rw [map_getDN (by rw [List.length_drop]; omega), List.getD_eq_getElem?_getD, List.getElem?_drop, List.getD_eq_getElem?_getD]
/-- letters without a common kind -/
def Apart (A B : List Int) : Prop := (∀ l ∈ A, -l ∉ B)
theorem getD_memI {l : List Int} {i : Nat} (h : i < l.length) : l.getD i 0 ∈ l := by
  rw [List.getD_eq_getElem?_getD, List.getElem?_eq_getElem h]
  exact List.getElem_mem h
theorem apart_lt {A B : List Int} {m : List Nat} (d : Apart A B) (h : Mt (A ++ B) m) {x : Nat} (hx : x < A.length) : m.getD x 0 < A.length := by
  have hl : (A ++ B).length = A.length + B.length := List.length_append
  have h1 := h.lt x (by omega)
  have h2 := h.opp x (by omega)
  rw [getD_app, getD_app, if_pos hx] at h2
  refine Classical.byContradiction fun z => ?_
  rw [if_neg z] at h2
  exact d _ (getD_memI hx) (h2 ▸ getD_memI (by omega))
theorem apart_ge {A B : List Int} {m : List Nat} (d : Apart A B) (h : Mt (A ++ B) m) {x : Nat} (h0 : A.length ≤ x) (hx : x < A.length + B.length) : A.length ≤ m.getD x 0 := by
  have hl : (A ++ B).length = A.length + B.length := List.length_append
  refine Classical.byContradiction fun z => ?_
  have h1 := apart_lt d h (show m.getD x 0 < A.length by omega)
  rw [h.inv x (by omega)] at h1
  omega
theorem mt_left {A B : List Int} {m : List Nat} (d : Apart A B) (h : Mt (A ++ B) m) : Mt A (mL A.length m) := by
  have hl : (A ++ B).length = A.length + B.length := List.length_append
  have hlen := h.len
  refine ⟨by unfold mL; rw [List.length_take]; omega, fun i hi => ?_, fun i hi => ?_, fun i hi => ?_⟩
  · rw [mL_getD hi]
    exact apart_lt d h hi
  · rw [mL_getD hi, mL_getD (apart_lt d h hi)]
    exact h.inv i (by omega)
  · have := h.opp i (by omega)
    rw [getD_app, getD_app, if_pos hi, if_pos (apart_lt d h hi)] at this
    rw [mL_getD hi]
    exact this
theorem mt_right {A B : List Int} {m : List Nat} (d : Apart A B) (h : Mt (A ++ B) m) : Mt B (mR A.length m) := by
  have hl : (A ++ B).length = A.length + B.length := List.length_append
  have hlen := h.len
  have hg : ∀ i, i < B.length → (mR A.length m).getD i 0 = m.getD (A.length + i) 0 - A.length := fun i hi => mR_getD (by omega)
  have ge : ∀ i, i < B.length → A.length ≤ m.getD (A.length + i) 0 := fun i hi => apart_ge d h (by omega) (by omega)
  have lt : ∀ i, i < B.length → m.getD (A.length + i) 0 < A.length + B.length := fun i hi => by
    have := h.lt (A.length + i) (by omega)
    omega
  refine ⟨by unfold mR; rw [List.length_map, List.length_drop]; omega, fun i hi => ?_, fun i hi => ?_, fun i hi => ?_⟩
  · rw [hg i hi]
    have := lt i hi
    have := ge i hi
    omega
  · have h1 := lt i hi
    have h2 := ge i hi
    rw [hg i hi, hg _ (by omega), show A.length + (m.getD (A.length + i) 0 - A.length) = m.getD (A.length + i) 0 by omega, h.inv _ (by omega)]
    omega
  · have h1 := lt i hi
    have h2 := ge i hi
    have := h.opp (A.length + i) (by omega)
    rw [getD_app, getD_app, if_neg (by omega), if_neg (by omega), show A.length + i - A.length = i by omega] at this
    rw [hg i hi]
    exact this
theorem mt_both {A B : List Int} {m1 m2 : List Nat} (h1 : Mt A m1) (h2 : Mt B m2) : Mt (A ++ B) (mC A.length m1 m2) := by
  have hl : (A ++ B).length = A.length + B.length := List.length_append
  have l1 := h1.len
  have l2 := h2.len
  have hg : ∀ i, i < A.length + B.length → (mC A.length m1 m2).getD i 0 = if i < A.length then m1.getD i 0 else A.length + m2.getD (i - A.length) 0 := fun i hi => by
    unfold mC
    rw [getD_appN, l1]
    by_cases h : i < A.length
    · rw [if_pos h, if_pos h]
    · rw [if_neg h, if_neg h, map_getDN (by omega)]
  refine ⟨by unfold mC; rw [List.length_append, List.length_map]; omega, fun i hi => ?_, fun i hi => ?_, fun i hi => ?_⟩
  · rw [hl] at hi ⊢
    rw [hg i hi]
    split
    · have := h1.lt i (by omega)
      omega
    · have := h2.lt (i - A.length) (by omega)
      omega
  · rw [hl] at hi
    rw [hg i hi]
    by_cases c : i < A.length
    · have := h1.lt i c
      rw [if_pos c, hg _ (by omega), if_pos this, h1.inv i c]
    · have := h2.lt (i - A.length) (by omega)
      rw [if_neg c, hg _ (by omega), if_neg (by omega), Nat.add_sub_cancel_left, h2.inv _ (by omega)]
      omega
  · rw [hl] at hi
    rw [hg i hi]
    by_cases c : i < A.length
    · have := h1.lt i c
      rw [if_pos c, getD_app, getD_app, if_pos this, if_pos c, h1.opp i c]
    · have := h2.lt (i - A.length) (by omega)
      rw [if_neg c, getD_app, getD_app, if_neg (by omega), if_neg c, Nat.add_sub_cancel_left, h2.opp _ (by omega)]
theorem mL_mC {a : Nat} {m1 m2 : List Nat} (h : m1.length = a) : mL a (mC a m1 m2) = m1 := by
  unfold mL mC
  rw [← h, List.take_left]
theorem mR_mC {a : Nat} {m1 m2 : List Nat} (h : m1.length = a) : mR a (mC a m1 m2) = m2 := by
  unfold mR mC
  rw [← h, List.drop_left, List.map_map]
  conv => rhs; rw [← List.map_id m2]
  exact List.map_congr_left fun x _ => by show m1.length + x - m1.length = x; omega
theorem cost_sum {us vs : List (List Int)} {m : List Nat} (nz : NZ us.flatten) (d : Apart us.flatten vs.flatten) (h : Mt (us ++ vs).flatten m) : costF (us ++ vs) m = costF us (mL us.flatten.length m) + costF vs (mR us.flatten.length m) := by
  have b := phi_bij h
  rw [List.flatten_append] at h b
  have hl : (us.flatten ++ vs.flatten).length = us.flatten.length + vs.flatten.length := List.length_append
  have m1 := mt_left d h
  have m2 := mt_right d h
  have b1 := phi_bij m1
  have b2 := phi_bij m2
  have hlen := h.len
  rw [hl] at b hlen
  have ev := m1.even nz
  have s1 : (lens us).sum = us.flatten.length := (length_flat us).symm
  have s2 : (lens vs).sum = vs.flatten.length := (length_flat vs).symm
  rw [lens_app] at b
  have e1 : ∀ x, x < us.flatten.length → phiL (nxF 0 (lens us ++ lens vs)) m x = phiL (nxF 0 (lens us)) (mL us.flatten.length m) x := fun x hx => by
    unfold phiL
    have := apart_lt d h hx
    rw [mL_getD hx, nx_app (by omega), if_pos (by omega)]
  have e2 : ∀ x, x < vs.flatten.length → phiL (nxF 0 (lens us ++ lens vs)) m (us.flatten.length + x) = us.flatten.length + phiL (nxF 0 (lens vs)) (mR us.flatten.length m) x := fun x hx => by
    unfold phiL
    have g1 := apart_ge d h (x := us.flatten.length + x) (by omega) (by omega)
    have g2 := h.lt (us.flatten.length + x) (by omega)
    rw [mR_getD (by omega), nx_app (by omega), if_neg (by omega), s1]
  have c := cyc_two (b1.congr e1) b2 b e2
  rw [cyc_congr b1 e1] at c
  have t : ∀ n, costF (us ++ vs) n = (((us.flatten.length + vs.flatten.length) / 2 : Nat) : Int) - (cyc (us.flatten.length + vs.flatten.length) (phiL (nxF 0 (lens us ++ lens vs)) n) : Int) := fun n => by
    unfold costF
    rw [List.flatten_append, List.length_append, lens_app]
  rw [t, c]
  unfold costF
  omega
/-! ### tubes -/
def tubeM (w : Nat) : List Nat := (List.range (w + w)).map fun i => w + w - 1 - i
theorem tubeM_getD {w i : Nat} (h : i < w + w) : (tubeM w).getD i 0 = w + w - 1 - i := by
  unfold tubeM
  rw [map_getDN (by rw [List.length_range]; exact h), List.getD_eq_getElem?_getD, List.getElem?_range h]
  rfl
theorem contr_getD {t : List Int} {i : Nat} (h : i < t.length) : (contr t).getD i 0 = -t.getD (t.length - 1 - i) 0 := by
  unfold contr
  rw [List.getD_eq_getElem?_getD, List.getElem?_map, List.getElem?_reverse h, List.getD_eq_getElem?_getD, List.getElem?_eq_getElem (by omega)]
  rfl
theorem mt_tube (t : List Int) : Mt (t ++ contr t) (tubeM t.length) := by
  have hl : (t ++ contr t).length = t.length + t.length := by rw [List.length_append, length_contr]
  refine ⟨by unfold tubeM; rw [List.length_map, List.length_range, hl], fun i hi => ?_, fun i hi => ?_, fun i hi => ?_⟩
  · rw [hl] at hi ⊢
    rw [tubeM_getD hi]
    omega
  · rw [hl] at hi
    rw [tubeM_getD hi, tubeM_getD (by omega)]
    omega
  · rw [hl] at hi
    rw [tubeM_getD hi, getD_app, getD_app]
    by_cases c : i < t.length
    · rw [if_pos c, if_neg (by omega), contr_getD (by omega)]
      congr 2
      omega
    · rw [if_neg c, if_pos (by omega), contr_getD (by omega), Int.neg_neg]
      congr 1
      omega
theorem cost_tube {t : List Int} (ht : t ≠ []) : costF [t, contr t] (tubeM t.length) ≤ 0 := by
  have pt : 0 < t.length := List.length_pos_iff.mpr ht
  have h := mt_tube t
  have b := phi2 h
  have hc : (contr t).length = t.length := length_contr t
  rw [hc] at b
  have f : ∀ x, x < t.length + t.length → phiL (nxF 0 [t.length, t.length]) (tubeM t.length) x = if x = 0 then t.length else if x = t.length then 0 else t.length + t.length - x := fun x hx => by
    unfold phiL
    rw [tubeM_getD hx, nx_two (by omega)]
    by_cases c : x < t.length
    · rw [if_neg (by omega)]
      by_cases c0 : x = 0
      · rw [if_pos c0, show t.length + t.length - 1 - x - t.length + 1 = t.length by omega, Nat.mod_self]
        omega
      · rw [if_neg c0, if_neg (by omega), Nat.mod_eq_of_lt (by omega)]
        omega
    · rw [if_pos (by omega), if_neg (by omega)]
      by_cases c1 : x = t.length
      · rw [if_pos c1, show t.length + t.length - 1 - x + 1 = t.length by omega, Nat.mod_self]
      · rw [if_neg c1, Nat.mod_eq_of_lt (by omega)]
        omega
  have inv : ∀ x, x < t.length + t.length → phiL (nxF 0 [t.length, t.length]) (tubeM t.length) (phiL (nxF 0 [t.length, t.length]) (tubeM t.length) x) = x := fun x hx => by
    rw [f x hx]
    by_cases c0 : x = 0
    · rw [if_pos c0, f _ (by omega), if_neg (by omega), if_pos rfl, c0]
    · rw [if_neg c0]
      by_cases c1 : x = t.length
      · rw [if_pos c1, f _ (by omega), if_pos rfl, c1]
      · rw [if_neg c1, f _ (by omega), if_neg (by omega), if_neg (by omega)]
        omega
  have two : ∀ k x, x < t.length + t.length → it (phiL (nxF 0 [t.length, t.length]) (tubeM t.length)) k x = x ∨ it (phiL (nxF 0 [t.length, t.length]) (tubeM t.length)) k x = phiL (nxF 0 [t.length, t.length]) (tubeM t.length) x := fun k => by
    induction k with
    | zero => exact fun x _ => .inl rfl
    | succ k ih =>
      intro x hx
      rcases ih x hx with e | e
      · exact .inr (by show phiL _ _ (it _ k x) = _; rw [e])
      · exact .inl (by show phiL _ _ (it _ k x) = _; rw [e, inv x hx])
  have T := tr_cyc b
  have le : (List.range t.length).length ≤ (reps (t.length + t.length) (phiL (nxF 0 [t.length, t.length]) (tubeM t.length))).length :=
    inj_len (fun x y => Orb (phiL (nxF 0 [t.length, t.length]) (tubeM t.length)) y x) _ _ List.nodup_range (fun x hx => T.cov x (by have := List.mem_range.mp hx; omega)) fun x hx x' hx' y hy o o' => by
      have hx := List.mem_range.mp hx
      have hx' := List.mem_range.mp hx'
      obtain ⟨k, e⟩ := (b.symm (T.lt y hy) o).trans o'
      rcases two k x (by omega) with e2 | e2
      · rw [← e2, e]
      · rw [e2, f x (by omega)] at e
        split at e
        · omega
        · split at e <;> omega
  rw [List.length_range] at le
  have : (reps (t.length + t.length) (phiL (nxF 0 [t.length, t.length]) (tubeM t.length))).length = cyc (t.length + t.length) (phiL (nxF 0 [t.length, t.length]) (tubeM t.length)) := rfl
  rw [cost2, hc]
  omega
/-- no letter runs against the one behind it, round -/
def CR (w : List Int) : Prop := ∀ i, i < w.length → w.getD ((i + 1) % w.length) 0 ≠ -w.getD i 0
instance (w : List Int) : Decidable (CR w) := Nat.decidableBallLT w.length (fun i _ => w.getD ((i + 1) % w.length) 0 ≠ -w.getD i 0)
theorem cyc_half {n : Nat} {f : Nat → Nat} (b : Bij n f) (h : ∀ x, x < n → f x ≠ x) : cyc n f + cyc n f ≤ n := by
  have T := tr_cyc b
  have nd : ((reps n f) ++ (reps n f).map f).Nodup := by
    rw [List.nodup_append]
    refine ⟨T.nd, ?_, fun x hx y hy e => ?_⟩
    · refine nodup_map_of T.nd fun x hx y hy e => b.inj x y (T.lt x hx) (T.lt y hy) e
    · obtain ⟨z, hz, rfl⟩ := List.mem_map.mp hy
      have : z = x := T.sep z hz x hx (e ▸ Orb.step f z)
      subst this
      exact h z (T.lt z hz) e.symm
  have := nodup_len nd fun x hx => by
    rcases List.mem_append.mp hx with hx | hx
    · exact T.lt x hx
    · obtain ⟨z, hz, rfl⟩ := List.mem_map.mp hx
      exact b.lt z (T.lt z hz)
  rw [List.length_append, List.length_map] at this
  exact this
theorem cost_nonneg {u v : List Int} {m : List Nat} (cu : CR u) (cv : CR v) (h : Mt (u ++ v) m) : 0 ≤ costF [u, v] m := by
  have hl : (u ++ v).length = u.length + v.length := List.length_append
  have b := phi2 h
  have := cyc_half b fun x hx e => by
    unfold phiL at e
    have hm := h.lt x (by omega)
    rw [hl] at hm
    have ho := h.opp x (by omega)
    generalize m.getD x 0 = y at e hm ho
    rw [nx_two hm] at e
    rw [getD_app, getD_app] at ho
    by_cases c : y < u.length
    · rw [if_pos c] at e ho
      have h1 := Nat.mod_lt (y + 1) (show 0 < u.length by omega)
      rw [if_pos (by omega), ← e] at ho
      exact cu y c (by rw [ho, Int.neg_neg])
    · rw [if_neg c] at e ho
      have h1 := Nat.mod_lt (y - u.length + 1) (show 0 < v.length by omega)
      rw [if_neg (by omega), ← e, Nat.add_sub_cancel_left] at ho
      exact cv (y - u.length) (by omega) (by rw [ho, Int.neg_neg])
  rw [cost2]
  omega
/-! ### least costs -/
def Least (ws : List (List Int)) (n : Int) : Prop := (∃ m, Mt ws.flatten m ∧ costF ws m = n) ∧ ∀ m, Mt ws.flatten m → n ≤ costF ws m
theorem least_eq {ws ws' : List (List Int)} {d c c' : Int} (f : ∀ m, Mt ws.flatten m → ∃ m', Mt ws'.flatten m' ∧ costF ws' m' = costF ws m + d) (g : ∀ m', Mt ws'.flatten m' → ∃ m, Mt ws.flatten m ∧ costF ws' m' = costF ws m + d) (h : Least ws c) (h' : Least ws' c') : c' = c + d := by
  obtain ⟨⟨m, hm, e⟩, l⟩ := h
  obtain ⟨⟨m', hm', e'⟩, l'⟩ := h'
  obtain ⟨m1, h1, e1⟩ := f m hm
  obtain ⟨m2, h2, e2⟩ := g m' hm'
  have := l' m1 h1
  have := l m2 h2
  omega
theorem least_uniq {ws : List (List Int)} {c c' : Int} (h : Least ws c) (h' : Least ws c') : c' = c := by
  have := least_eq (d := 0) (fun m hm => ⟨m, hm, by omega⟩) (fun m hm => ⟨m, hm, by omega⟩) h h'
  omega
theorem least_odd {w : List Int} {c : Int} (hw : w ≠ []) (nz : NZ w) (h : Least [w] c) : c % 2 = 1 := by
  obtain ⟨⟨m, hm, e⟩, _⟩ := h
  rw [flat1] at hm
  rw [← e]
  exact cost_odd hw nz hm
theorem least_rot {w : List Int} {p : Nat} {c c' : Int} (hp : p ≤ w.length) (h : Least [w] c) (h' : Least [rotW p w] c') : c' = c := by
  have := least_eq (d := 0) (fun m hm => ?_) (fun m hm => ?_) h h'
  · omega
  · rw [flat1] at hm
    obtain ⟨a, b⟩ := cost_rot hp hm
    exact ⟨_, by rw [flat1]; exact a, by rw [b]; omega⟩
  · rw [flat1] at hm
    obtain ⟨a, b⟩ := cost_rot (p := w.length - p) (w := rotW p w) (by rw [length_rotW]; omega) hm
    rw [rotW_back hp] at a b
    exact ⟨_, by rw [flat1]; exact a, by rw [b]; omega⟩
theorem least_cut {u v : List Int} {c c' : Int} (hu : u ≠ []) (hv : v ≠ []) (nz : NZ (u ++ v)) (h : Least [u ++ v] c) (h' : Least [u, v] c') : c' = c - 1 ∨ c' = c + 1 := by
  have ho := least_odd (by simp [hu]) nz h
  obtain ⟨⟨m, hm, e⟩, l⟩ := h
  obtain ⟨⟨m', hm', e'⟩, l'⟩ := h'
  rw [flat1] at hm l
  rw [flat2] at hm' l'
  have h1 := cost_cut hu hv hm
  have h2 := cost_cut hu hv hm'
  have h3 := l' m hm
  have h4 := l m' hm'
  have h5 := cost_odd (w := u ++ v) (by simp [hu]) nz hm'
  omega
theorem band_of {u v : List Int} {k : Int} {m' : List Nat} (hf : ∀ l ∈ u ++ v, l ≠ k ∧ l ≠ -k) (k0 : 0 < k) (h : Mt (bandL u v k) m') : ∃ m, Mt (u ++ v) m ∧ bandN u.length (u.length + v.length) m = m' := by
  have hl : (u ++ v).length = u.length + v.length := List.length_append
  have hlen := h.len
  have hlt := h.lt
  have hinv := h.inv
  have hopp := h.opp
  rw [length_bandL] at hlen hlt hinv hopp
  have fk : ∀ x, x < u.length + v.length + 2 → (bandL u v k).getD x 0 = k → x = u.length := fun x hx e => by
    rw [bandL_getD hx] at e
    by_cases c1 : x < u.length
    · rw [if_pos c1] at e
      exact absurd e (hf _ (List.mem_append_left _ (getD_memI c1))).1
    · rw [if_neg c1] at e
      by_cases c2 : x = u.length
      · exact c2
      · rw [if_neg c2] at e
        by_cases c3 : x = u.length + v.length + 1
        · rw [if_pos c3] at e
          omega
        · rw [if_neg c3] at e
          exact absurd e (hf _ (List.mem_append_right _ (getD_memI (by omega)))).1
  have fn : ∀ x, x < u.length + v.length + 2 → (bandL u v k).getD x 0 = -k → x = u.length + v.length + 1 := fun x hx e => by
    rw [bandL_getD hx] at e
    by_cases c1 : x < u.length
    · rw [if_pos c1] at e
      exact absurd e (hf _ (List.mem_append_left _ (getD_memI c1))).2
    · rw [if_neg c1] at e
      by_cases c2 : x = u.length
      · rw [if_pos c2] at e
        omega
      · rw [if_neg c2] at e
        by_cases c3 : x = u.length + v.length + 1
        · exact c3
        · rw [if_neg c3] at e
          exact absurd e (hf _ (List.mem_append_right _ (getD_memI (by omega)))).2
  have ls : (bandL u v k).getD u.length 0 = k := by rw [bandL_getD (by omega), if_neg (by omega), if_pos rfl]
  have le : (bandL u v k).getD (u.length + v.length + 1) 0 = -k := by rw [bandL_getD (by omega), if_neg (by omega), if_neg (by omega), if_pos rfl]
  have ms : m'.getD u.length 0 = u.length + v.length + 1 := fn _ (hlt _ (by omega)) (by rw [hopp _ (by omega), ls])
  have me : m'.getD (u.length + v.length + 1) 0 = u.length := fk _ (hlt _ (by omega)) (by rw [hopp _ (by omega), le, Int.neg_neg])
  have sl : ∀ y, y < u.length + v.length → (if y < u.length then y else y + 1) < u.length + v.length + 2 ∧ (if y < u.length then y else y + 1) ≠ u.length ∧ (if y < u.length then y else y + 1) ≠ u.length + v.length + 1 := fun y hy => by split <;> omega
  have mo : ∀ y, y < u.length + v.length + 2 → y ≠ u.length → y ≠ u.length + v.length + 1 → m'.getD y 0 < u.length + v.length + 2 ∧ m'.getD y 0 ≠ u.length ∧ m'.getD y 0 ≠ u.length + v.length + 1 := fun y h1 h2 h3 => by
    refine ⟨hlt y h1, fun e => ?_, fun e => ?_⟩
    · have := hinv y h1
      rw [e, ms] at this
      omega
    · have := hinv y h1
      rw [e, me] at this
      omega
  have lt2 : ∀ y, y < u.length + v.length → (bandL u v k).getD (if y < u.length then y else y + 1) 0 = (u ++ v).getD y 0 := fun y hy => by
    rw [getD_app]
    by_cases c : y < u.length
    · rw [if_pos c, if_pos c, bandL_getD (by omega), if_pos c]
    · rw [if_neg c, if_neg c, bandL_getD (by omega), if_neg (by omega), if_neg (by omega), if_neg (by omega)]
      congr 1
      omega
  have hg : ∀ x, x < u.length + v.length → ((List.range (u.length + v.length)).map fun x => (fun y => if y < u.length then y else y - 1) (m'.getD (if x < u.length then x else x + 1) 0)).getD x 0 = (fun y => if y < u.length then y else y - 1) (m'.getD (if x < u.length then x else x + 1) 0) := fun x hx => by
    exact getD_mapRange hx
  have up : ∀ z, z < u.length + v.length + 2 → z ≠ u.length → z ≠ u.length + v.length + 1 → (fun y => if y < u.length then y else y - 1) z < u.length + v.length ∧ (if (fun y => if y < u.length then y else y - 1) z < u.length then (fun y => if y < u.length then y else y - 1) z else (fun y => if y < u.length then y else y - 1) z + 1) = z := fun z h1 h2 h3 => by
    show (if z < u.length then z else z - 1) < u.length + v.length ∧ (if (if z < u.length then z else z - 1) < u.length then (if z < u.length then z else z - 1) else (if z < u.length then z else z - 1) + 1) = z
    by_cases c : z < u.length
    · rw [if_pos c, if_pos c]
      omega
    · rw [if_neg c, if_neg (by omega)]
      omega
  have dn : ∀ y, y < u.length + v.length → (fun y => if y < u.length then y else y - 1) (if y < u.length then y else y + 1) = y := fun y hy => by
    show (if (if y < u.length then y else y + 1) < u.length then (if y < u.length then y else y + 1) else (if y < u.length then y else y + 1) - 1) = y
    by_cases c : y < u.length
    · rw [if_pos c, if_pos c]
    · rw [if_neg c, if_neg (by omega)]
      omega
  generalize hun : (fun y => if y < u.length then y else y - 1) = un at hg up dn
  have hMt : Mt (u ++ v) ((List.range (u.length + v.length)).map fun x => un (m'.getD (if x < u.length then x else x + 1) 0)) := by
    refine ⟨by rw [List.length_map, List.length_range, hl], fun x hx => ?_, fun x hx => ?_, fun x hx => ?_⟩
    · rw [hl] at hx ⊢
      obtain ⟨a1, a2, a3⟩ := sl x hx
      obtain ⟨b1, b2, b3⟩ := mo _ a1 a2 a3
      rw [hg x hx]
      exact (up _ b1 b2 b3).1
    · rw [hl] at hx
      obtain ⟨a1, a2, a3⟩ := sl x hx
      obtain ⟨b1, b2, b3⟩ := mo _ a1 a2 a3
      obtain ⟨c1, c2⟩ := up _ b1 b2 b3
      rw [hg x hx, hg _ c1, c2, hinv _ a1]
      exact dn x hx
    · rw [hl] at hx
      obtain ⟨a1, a2, a3⟩ := sl x hx
      obtain ⟨b1, b2, b3⟩ := mo _ a1 a2 a3
      obtain ⟨c1, c2⟩ := up _ b1 b2 b3
      rw [hg x hx, ← lt2 _ c1, c2, hopp _ a1, lt2 x hx]
  refine ⟨_, hMt, ?_⟩
  have hMl := hMt.len
  rw [hl] at hMl
  refine ext_getD (by rw [length_bandN hMl (by omega), hlen]) fun x hx => ?_
  rw [length_bandN hMl (by omega)] at hx
  rw [bandN_getD hMl (by omega) hx]
  by_cases c1 : x < u.length
  · have e : (if x < u.length then x else x + 1) = x := if_pos c1
    obtain ⟨b1, b2, b3⟩ := mo x (by omega) (by omega) (by omega)
    rw [if_pos c1, hg x (by omega), e, (up _ b1 b2 b3).2]
  · rw [if_neg c1]
    by_cases c2 : x = u.length
    · rw [if_pos c2, c2, ms]
    · rw [if_neg c2]
      by_cases c3 : x = u.length + v.length + 1
      · rw [if_pos c3, c3, me]
      · obtain ⟨b1, b2, b3⟩ := mo x (by omega) (by omega) (by omega)
        have e : (if x - 1 < u.length then x - 1 else x - 1 + 1) = x := by rw [if_neg (by omega)]; omega
        rw [if_neg c3, hg (x - 1) (by omega), e, (up _ b1 b2 b3).2]
theorem least_band {u v : List Int} {k c c' : Int} (hu : u ≠ []) (hv : v ≠ []) (hf : ∀ l ∈ u ++ v, l ≠ k ∧ l ≠ -k) (k0 : 0 < k) (h : Least [u, v] c) (h' : Least [bandL u v k] c') : c' = c + 1 := by
  refine least_eq (fun m hm => ?_) (fun m hm => ?_) h h'
  · rw [flat2] at hm
    exact ⟨_, by rw [flat1]; exact band_mt hm, cost_band hu hv hm⟩
  · rw [flat1] at hm
    obtain ⟨m1, h1, rfl⟩ := band_of hf k0 hm
    exact ⟨m1, by rw [flat2]; exact h1, cost_band hu hv h1⟩
theorem least_sum {us vs : List (List Int)} {c1 c2 c : Int} (nz : NZ us.flatten) (d : Apart us.flatten vs.flatten) (h1 : Least us c1) (h2 : Least vs c2) (h : Least (us ++ vs) c) : c = c1 + c2 := by
  obtain ⟨⟨m1, a1, e1⟩, l1⟩ := h1
  obtain ⟨⟨m2, a2, e2⟩, l2⟩ := h2
  obtain ⟨⟨m, a, e⟩, l⟩ := h
  have q1 : Mt (us ++ vs).flatten (mC us.flatten.length m1 m2) := by rw [List.flatten_append]; exact mt_both a1 a2
  have q2 := cost_sum nz d q1
  rw [mL_mC a1.len, mR_mC a1.len] at q2
  have q3 := cost_sum nz d a
  rw [List.flatten_append] at a
  have := l _ q1
  have := l1 _ (mt_left d a)
  have := l2 _ (mt_right d a)
  omega
theorem least_join {u v : List Int} {c c' : Int} (hu : u ≠ []) (hv : v ≠ []) (d : Apart u v) (h : Least [u, v] c) (h' : Least [u ++ v] c') : c' = c + 1 := by
  refine least_eq (fun m hm => ?_) (fun m hm => ?_) h h'
  · rw [flat2] at hm
    exact ⟨m, by rw [flat1]; exact hm, cost_join hu hv hm fun x hx => apart_lt d hm hx⟩
  · rw [flat1] at hm
    exact ⟨m, by rw [flat2]; exact hm, cost_join hu hv hm fun x hx => apart_lt d hm hx⟩
/-- a ring and its contrary, begun anywhere -/
theorem tube_mt {w : List Int} {p : Nat} (hw : w ≠ []) (hp : p ≤ w.length) : ∃ m, Mt (w ++ contr (rotW p w)) m ∧ costF [w, contr (rotW p w)] m ≤ 0 := by
  have hr : rotW p w ≠ [] := fun z => by
    have := congrArg List.length z
    rw [length_rotW] at this
    exact hw (List.eq_nil_of_length_eq_zero this)
  have h1 := mt_tube (rotW p w)
  have h2 := cost_tube hr
  obtain ⟨m', a, b⟩ := cost_rot2 (p := w.length - p) (by rw [length_rotW]; omega) h1
  rw [rotW_back hp] at a b
  exact ⟨m', a, by omega⟩
theorem least_tube {w : List Int} {p : Nat} {c : Int} (hw : w ≠ []) (hp : p ≤ w.length) (h : Least [w, contr (rotW p w)] c) : c ≤ 0 := by
  obtain ⟨m, a, b⟩ := tube_mt hw hp
  have := h.2 m (by rw [flat2]; exact a)
  omega
theorem least_tube' {w : List Int} {p : Nat} {c : Int} (hw : w ≠ []) (hp : p ≤ w.length) (h : Least [contr (rotW p w), w] c) : c ≤ 0 := by
  obtain ⟨m, a, b⟩ := tube_mt hw hp
  obtain ⟨m', a', b'⟩ := cost_swap a
  have := h.2 m' (by rw [flat2]; exact a')
  omega
theorem least_nonneg {u v : List Int} {c : Int} (cu : CR u) (cv : CR v) (h : Least [u, v] c) : 0 ≤ c := by
  obtain ⟨⟨m, hm, e⟩, _⟩ := h
  rw [flat2] at hm
  have := cost_nonneg cu cv hm
  omega
end HR
/-! M6 -/
/-! M6: the law's own sewings. -/
namespace HR
def okS (ls x : List Int) (p o : Nat) : Bool := decide (p < o) && (decide (x.getD o 0 < 0) && decide (ls.getD o 0 = -ls.getD p 0))
def mkS (x : List Int) (p o : Nat) : List Int := (x.set p (o : Int)).set o (p : Int)
def extS (ls x : List Int) (p hi : Nat) : List (List Int) := ((List.range hi).filter (okS ls x p)).map (mkS x p)
def stepS (ls : List Int) (p : Nat) (xs : List (List Int)) : List (List Int) := xs.filter (fun x => decide (0 ≤ x.getD p 0)) ++ ((xs.filter fun x => decide (x.getD p 0 < 0)).map fun x => extS ls x p ls.length).flatten
def sewS (ls : List Int) : Nat → List (List Int)
  | 0 => [List.replicate ls.length (-1)]
  | p + 1 => stepS ls p (sewS ls p)
/-- mates so far -/
structure PS (ls : List Int) (p : Nat) (x : List Int) : Prop where
  len : x.length = ls.length
  ok : ∀ i, i < ls.length → x.getD i 0 = -1 ∨ ∃ j : Nat, x.getD i 0 = (j : Int) ∧ j < ls.length ∧ x.getD j 0 = (i : Int) ∧ ls.getD j 0 = -ls.getD i 0
  done : ∀ i, i < p → 0 ≤ x.getD i 0
theorem getD_setI {l : List Int} {i j : Nat} {v : Int} : (l.set i v).getD j 0 = if i = j ∧ i < l.length then v else l.getD j 0 := by
  rw [List.getD_eq_getElem?_getD, List.getElem?_set]
  by_cases h : i = j
  · subst h
    rw [if_pos rfl]
    by_cases h2 : i < l.length
    · rw [if_pos h2, if_pos ⟨rfl, h2⟩]
      rfl
    · rw [if_neg h2, if_neg fun z => h2 z.2, List.getD_eq_getElem?_getD, List.getElem?_eq_none (by omega)]
  · rw [if_neg h, if_neg fun z => h z.1, List.getD_eq_getElem?_getD]
theorem mkS_getD {x : List Int} {p o i : Nat} (hp : p < x.length) (ho : o < x.length) : (mkS x p o).getD i 0 = if i = o then (p : Int) else if i = p then (o : Int) else x.getD i 0 := by
  unfold mkS
  rw [getD_setI, getD_setI, List.length_set]
  by_cases h1 : i = o
  · rw [if_pos ⟨h1.symm, ho⟩, if_pos h1]
  · rw [if_neg fun z => h1 z.1.symm, if_neg h1]
    by_cases h2 : i = p
    · rw [if_pos ⟨h2.symm, hp⟩, if_pos h2]
    · rw [if_neg fun z => h2 z.1.symm, if_neg h2]
theorem length_mkS {x : List Int} {p o : Nat} : (mkS x p o).length = x.length := by unfold mkS; rw [List.length_set, List.length_set]
theorem okS_iff {ls x : List Int} {p o : Nat} : okS ls x p o = true ↔ p < o ∧ x.getD o 0 < 0 ∧ ls.getD o 0 = -ls.getD p 0 := by
  unfold okS
  rw [Bool.and_eq_true, Bool.and_eq_true, decide_eq_true_iff, decide_eq_true_iff, decide_eq_true_iff]
theorem ps_step {ls : List Int} {p : Nat} {xs : List (List Int)} (hp : p < ls.length) (h : ∀ x ∈ xs, PS ls p x) : ∀ x ∈ stepS ls p xs, PS ls (p + 1) x := fun x hx => by
  unfold stepS at hx
  rcases List.mem_append.mp hx with hx | hx
  · obtain ⟨h1, h2⟩ := List.mem_filter.mp hx
    have h2 := of_decide_eq_true h2
    have q := h x h1
    refine ⟨q.len, q.ok, fun i hi => ?_⟩
    by_cases e : i = p
    · rw [e]; exact h2
    · exact q.done i (by omega)
  · obtain ⟨l, hl, hx⟩ := List.mem_flatten.mp hx
    obtain ⟨y, hy, rfl⟩ := List.mem_map.mp hl
    obtain ⟨h1, h2⟩ := List.mem_filter.mp hy
    have h2 := of_decide_eq_true h2
    have q := h y h1
    obtain ⟨o, ho, rfl⟩ := List.mem_map.mp hx
    obtain ⟨ho, hok⟩ := List.mem_filter.mp ho
    have ho := List.mem_range.mp ho
    obtain ⟨k1, k2, k3⟩ := okS_iff.mp hok
    have hpl : p < y.length := by rw [q.len]; exact hp
    have hol : o < y.length := by rw [q.len]; exact ho
    refine ⟨by rw [length_mkS, q.len], fun i hi => ?_, fun i hi => ?_⟩
    · rw [mkS_getD hpl hol]
      by_cases c1 : i = o
      · rw [if_pos c1]
        refine .inr ⟨p, rfl, hp, ?_, ?_⟩
        · rw [mkS_getD hpl hol, if_neg (by omega), if_pos rfl, c1]
        · rw [c1, k3, Int.neg_neg]
      · rw [if_neg c1]
        by_cases c2 : i = p
        · rw [if_pos c2]
          refine .inr ⟨o, rfl, ho, ?_, ?_⟩
          · rw [mkS_getD hpl hol, if_pos rfl, c2]
          · rw [c2]; exact k3
        · rw [if_neg c2]
          rcases q.ok i hi with e | ⟨j, e1, e2, e3, e4⟩
          · exact .inl e
          · have n1 : j ≠ o := fun z => by rw [z] at e3; omega
            have n2 : j ≠ p := fun z => by rw [z] at e3; omega
            exact .inr ⟨j, e1, e2, by rw [mkS_getD hpl hol, if_neg n1, if_neg n2]; exact e3, e4⟩
    · rw [mkS_getD hpl hol]
      split
      · omega
      · split
        · omega
        · exact q.done i (by omega)
theorem ps_all {ls : List Int} : ∀ p, p ≤ ls.length → ∀ x ∈ sewS ls p, PS ls p x
  | 0, _, x, hx => by
    have hx : x ∈ [List.replicate ls.length (-1)] := hx
    rw [List.mem_singleton.mp hx]
    refine ⟨List.length_replicate, fun i hi => .inl ?_, fun i hi => absurd hi (Nat.not_lt_zero _)⟩
    rw [List.getD_eq_getElem?_getD, List.getElem?_replicate, if_pos hi]
    rfl
  | p + 1, hp, x, hx => ps_step (by omega) (ps_all p (by omega)) x hx
theorem ps_mt {ls x : List Int} (h : PS ls ls.length x) : Mt ls (x.map Int.toNat) ∧ iN (x.map Int.toNat) = x := by
  have hg : ∀ i, i < ls.length → (x.map Int.toNat).getD i 0 = (x.getD i 0).toNat := fun i hi => by
    rw [List.getD_eq_getElem?_getD, List.getElem?_map, List.getElem?_eq_getElem (by rw [h.len]; exact hi), List.getD_eq_getElem?_getD, List.getElem?_eq_getElem (by rw [h.len]; exact hi)]
    rfl
  have ok : ∀ i, i < ls.length → ∃ j : Nat, x.getD i 0 = (j : Int) ∧ j < ls.length ∧ x.getD j 0 = (i : Int) ∧ ls.getD j 0 = -ls.getD i 0 := fun i hi => by
    rcases h.ok i hi with e | e
    · have := h.done i hi
      omega
    · exact e
  have hg2 : ∀ i, i < ls.length → ∃ j : Nat, (x.map Int.toNat).getD i 0 = j ∧ j < ls.length ∧ x.getD j 0 = (i : Int) ∧ ls.getD j 0 = -ls.getD i 0 := fun i hi => by
    obtain ⟨j, e1, e2, e3, e4⟩ := ok i hi
    exact ⟨j, by rw [hg i hi, e1, Int.toNat_natCast], e2, e3, e4⟩
  refine ⟨⟨by rw [List.length_map, h.len], fun i hi => ?_, fun i hi => ?_, fun i hi => ?_⟩, ?_⟩
  · obtain ⟨j, e1, e2, _⟩ := hg2 i hi
    rw [e1]; exact e2
  · obtain ⟨j, e1, e2, e3, _⟩ := hg2 i hi
    rw [e1, hg j e2, e3, Int.toNat_natCast]
  · obtain ⟨j, e1, e2, e3, e4⟩ := hg2 i hi
    rw [e1]; exact e4
  · refine ext_I (by rw [length_iN, List.length_map]) fun i hi => ?_
    rw [length_iN, List.length_map, h.len] at hi
    rw [iN_getD (by rw [List.length_map, h.len]; exact hi)]
    obtain ⟨j, e1, e2, e3, e4⟩ := ok i hi
    rw [hg i hi, e1, Int.toNat_natCast]
/-- mates m as found ahead of place p -/
def tgtS (m : List Nat) (n p : Nat) : List Int := (List.range n).map fun i => if i < p ∨ m.getD i 0 < p then ((m.getD i 0 : Nat) : Int) else -1
theorem tgtS_getD {m : List Nat} {n p i : Nat} (hi : i < n) : (tgtS m n p).getD i 0 = if i < p ∨ m.getD i 0 < p then ((m.getD i 0 : Nat) : Int) else -1 := by
  unfold tgtS
  rw [map_getDI (by rw [List.length_range]; exact hi), List.getD_eq_getElem?_getD, List.getElem?_range hi]
  rfl
theorem length_tgtS {m : List Nat} {n p : Nat} : (tgtS m n p).length = n := by unfold tgtS; rw [List.length_map, List.length_range]
theorem tgt_mem {ls : List Int} {m : List Nat} (h : Mt ls m) (nz : NZ ls) : ∀ p, p ≤ ls.length → tgtS m ls.length p ∈ sewS ls p
  | 0, _ => by
    refine List.mem_singleton.mpr (ext_I (by rw [length_tgtS, List.length_replicate]) fun i hi => ?_)
    rw [length_tgtS] at hi
    rw [tgtS_getD hi, if_neg (by omega), List.getD_eq_getElem?_getD, List.getElem?_replicate, if_pos hi]
    rfl
  | p + 1, hp => by
    have ih := tgt_mem h nz p (by omega)
    have hlt := h.lt p (by omega)
    have hne := h.ne nz (show p < ls.length by omega)
    have hinv := h.inv p (by omega)
    show _ ∈ stepS ls p (sewS ls p)
    unfold stepS
    by_cases c : m.getD p 0 < p
    · have e : tgtS m ls.length (p + 1) = tgtS m ls.length p := ext_I (by rw [length_tgtS, length_tgtS]) fun i hi => by
        rw [length_tgtS] at hi
        rw [tgtS_getD hi, tgtS_getD hi]
        by_cases q : i < p ∨ m.getD i 0 < p
        · rw [if_pos q, if_pos (by omega)]
        · rw [if_neg q]
          by_cases ip : i = p
          · rw [ip] at q
            omega
          · have : m.getD i 0 ≠ p := fun z => by
              have := h.inv i hi
              rw [z] at this
              omega
            rw [if_neg (by omega)]
      rw [e]
      refine List.mem_append_left _ (List.mem_filter.mpr ⟨ih, decide_eq_true ?_⟩)
      rw [tgtS_getD (by omega), if_pos (.inr c)]
      omega
    · refine List.mem_append_right _ (List.mem_flatten.mpr ⟨_, List.mem_map.mpr ⟨_, List.mem_filter.mpr ⟨ih, decide_eq_true ?_⟩, rfl⟩, List.mem_map.mpr ⟨m.getD p 0, List.mem_filter.mpr ⟨List.mem_range.mpr hlt, okS_iff.mpr ⟨by omega, ?_, h.opp p (by omega)⟩⟩, ?_⟩⟩)
      · rw [tgtS_getD (by omega), if_neg (by omega)]
        omega
      · rw [tgtS_getD hlt, if_neg (by rw [hinv]; omega)]
        omega
      · refine ext_I (by rw [length_mkS, length_tgtS, length_tgtS]) fun i hi => ?_
        rw [length_mkS, length_tgtS] at hi
        rw [mkS_getD (by rw [length_tgtS]; omega) (by rw [length_tgtS]; exact hlt), tgtS_getD hi, tgtS_getD hi]
        by_cases c1 : i = m.getD p 0
        · rw [if_pos c1, c1, hinv, if_pos (by omega)]
        · rw [if_neg c1]
          by_cases c2 : i = p
          · rw [if_pos c2, c2, if_pos (by omega)]
          · have n3 : m.getD i 0 ≠ p := fun z => c1 (by rw [← z, h.inv i hi])
            rw [if_neg c2]
            by_cases q : i < p ∨ m.getD i 0 < p
            · rw [if_pos q, if_pos (by omega)]
            · rw [if_neg q, if_neg (by omega)]
theorem length_extS {ls x : List Int} {p hi : Nat} (h : hi ≤ ls.length) (c4 : ∀ k, ls.count k ≤ 4) : (extS ls x p hi).length ≤ 4 := by
  unfold extS
  rw [List.length_map]
  have h1 := length_placesOf ls (-ls.getD p 0)
  have h2 := c4 (-ls.getD p 0)
  refine Nat.le_trans (nodup_sub (L2 := placesOf ls (-ls.getD p 0)) (List.nodup_range.filter _) fun o ho => ?_) (by omega)
  obtain ⟨h3, h4⟩ := List.mem_filter.mp ho
  have h3 := List.mem_range.mp h3
  exact mem_placesOf.mpr ⟨by omega, (okS_iff.mp h4).2.2⟩
where
  nodup_sub {L1 L2 : List Nat} (nd : L1.Nodup) (h : ∀ x ∈ L1, x ∈ L2) : L1.length ≤ L2.length :=
    inj_len (fun x y => x = y) L1 L2 nd (fun x hx => ⟨x, h x hx, rfl⟩) (fun a _ b _ c _ ra rb => ra.trans rb.symm)
theorem length_flat_le {α : Type} : ∀ (l : List (List α)) (c : Nat), (∀ x ∈ l, x.length ≤ c) → l.flatten.length ≤ c * l.length
  | [], c, _ => by simp
  | x :: l, c, h => by
    rw [List.flatten_cons, List.length_append, List.length_cons, Nat.mul_succ]
    have := h x List.mem_cons_self
    have := length_flat_le l c fun y hy => h y (List.mem_cons_of_mem _ hy)
    omega
theorem split_len {l : List (List Int)} {p : Nat} : (l.filter fun x => decide (0 ≤ x.getD p 0)).length + (l.filter fun x => decide (x.getD p 0 < 0)).length = l.length := by
  induction l with
  | nil => rfl
  | cons x l ih =>
    by_cases h : 0 ≤ x.getD p 0
    · rw [List.filter_cons_of_pos (by simpa using h), List.filter_cons_of_neg (by simpa using h), List.length_cons, List.length_cons]
      omega
    · rw [List.filter_cons_of_neg (by simpa using h), List.filter_cons_of_pos (by simpa using h), List.length_cons, List.length_cons]
      omega
theorem length_stepS {ls : List Int} {p : Nat} {xs : List (List Int)} (c4 : ∀ k, ls.count k ≤ 4) : (stepS ls p xs).length ≤ 4 * xs.length := by
  unfold stepS
  rw [List.length_append]
  have h1 := split_len (l := xs) (p := p)
  have h2 := length_flat_le ((xs.filter fun x => decide (x.getD p 0 < 0)).map fun x => extS ls x p ls.length) 4 fun y hy => by
    obtain ⟨x, _, rfl⟩ := List.mem_map.mp hy
    exact length_extS (Nat.le_refl _) c4
  rw [List.length_map] at h2
  omega
theorem length_sewS {ls : List Int} (c4 : ∀ k, ls.count k ≤ 4) : ∀ p, (sewS ls p).length ≤ 4 ^ p
  | 0 => Nat.le_refl _
  | p + 1 => by
    have := length_stepS (p := p) (xs := sewS ls p) c4
    have := length_sewS c4 p
    rw [Nat.pow_succ]
    show (stepS ls p (sewS ls p)).length ≤ _
    omega
end HR
/-! W1 -/
/-! W1: checks. -/
namespace Hw
open PySem PySem.Spec PyProof.Rows L2
abbrev Ex := Evl.Ex
theorem gi {mg : Str → Option Value} {x : Str} {i : Int} (h : ∃ t, mg x = some (.int i t)) : ∃ u, mg x = some u ∧ RelV (.int i) u := by
  obtain ⟨t, h⟩ := h
  exact ⟨_, h, t, rfl⟩
/-- a list | a tuple of ints -/
def IL (H : Hp) (a : Addr) (ns : List Int) : Prop := H a = some (.lst (ns.map V.int))
def IT (H : Hp) (a : Addr) (ns : List Int) : Prop := H a = some (.tup (ns.map V.int))
def IS (H : Hp) (a : Addr) (ns : List Int) : Prop := IL H a ns ∨ IT H a ns
theorem IL.mono {H H' : Hp} {a : Addr} {ns : List Int} (e : Ex H H') (h : IL H a ns) : IL H' a ns := e _ _ h
theorem IT.mono {H H' : Hp} {a : Addr} {ns : List Int} (e : Ex H H') (h : IT H a ns) : IT H' a ns := e _ _ h
theorem IS.mono {H H' : Hp} {a : Addr} {ns : List Int} (e : Ex H H') (h : IS H a ns) : IS H' a ns := h.imp (IL.mono e) (IT.mono e)
theorem sq_l {K : PySem.W.Frag} {H : Hp} {a : Addr} {xs : List V} (h : H a = some (.lst xs)) : SqL K H a xs := .inl (.inl h)
theorem sq_t {K : PySem.W.Frag} {H : Hp} {a : Addr} {xs : List V} (h : H a = some (.tup xs)) : SqT K H a xs := .inl (.inl h)
/-- a fresh object is no tracked one -/
theorem exn {H : Hp} {p : Addr} {o : HO} (h : H p = none) : Ex H (upd H p o) := Evl.Ex.new h
section
variable {P : Program} {w : World} {K : PySem.W.Frag} {mg : Str → Option Value} {base : Heap}
def sp_is_integer : Sp := fun vs H Q _ => ∃ i : Int, vs = [.int i] ∧ Q (.bl true) H
abbrev N_is_integer : List Str := ["value"]
theorem sc_is_integer : FnScope N_is_integer ["value"] (C8.fnScope s_is_integer) := C8.fnScope_by (by decide +kernel)
theorem k_is_integer (T : Txt K mg) : C8.Cal P w K mg base 1 "is_integer" sp_is_integer [] := by
  have nd := sc_is_integer.nd
  refine defn T.d_is_integer sc_is_integer (fun vs H Q E h => ?_) (fun _ _ _ _ _ _ us hl => match us, hl with | [_], _ => rfl) (fun f cdv A outer s H vs Q E hr h => ?_)
  · obtain ⟨i, rfl, _⟩ := h
    rfl
  · obtain ⟨i, rfl, q⟩ := h
    refine ⟨_, (pss_one (ps_ret (pe_and (pe_callB call_isi (by rfl) T.z_isinstance (by decide +kernel) (pa_cons (pv 0) (pa_cons (pe_bltn (v := .ty "int") (by rfl) T.z_int (by decide +kernel) rfl) pa_nil))) (pe_one (pe_not (pe_callB call_isi (by rfl) T.z_isinstance (by decide +kernel) (pa_cons (pv 0) (pa_cons (pe_bltn (v := .ty "bool") (by rfl) T.z_bool (by decide +kernel) rfl) pa_nil)))))))), ?_⟩
    refine ⟨_, rfl, _, _, _, _, _, rfl, .ty _, .base (.int _), kit_ty (b := "int") (r := true) (by decide +kernel), _, rfl, iteT ?_⟩
    refine ⟨_, rfl, _, _, _, _, _, rfl, .ty _, .base (.int _), kit_ty (b := "bool") (r := false) (by decide +kernel), _, rfl, q⟩
def sp_is_within : Sp := fun vs H Q _ => ∃ i a b : Int, vs = [.int i, .int a, .int b] ∧ Q (.bl (decide (a ≤ i) && decide (i ≤ b))) H
abbrev N_is_within : List Str := ["value", "least", "most"]
theorem sc_is_within : FnScope N_is_within ["value", "least", "most"] (C8.fnScope s_is_within) := C8.fnScope_by (by decide +kernel)
theorem k_is_within (T : Txt K mg) : C8.Cal P w K mg base 2 "is_within" sp_is_within [] := by
  have nd := sc_is_within.nd
  refine defn T.d_is_within sc_is_within (fun vs H Q E h => ?_) (fun _ _ _ _ _ _ us hl => match us, hl with | [_, _, _], _ => rfl) (fun f cdv A outer s H vs Q E hr h => ?_)
  · obtain ⟨i, a, b, rfl, _⟩ := h
    rfl
  · obtain ⟨i, a, b, rfl, q⟩ := h
    refine ⟨_, (pss_cons (ps_if (pt_not (pt_val (C8.pe_c (k_is_integer T) hr (by decide) (by rfl) (pa_cons (pv 0) pa_nil))))
        (pss_one (ps_ret pe_bl))
        pss_nil)
        (pss_one (ps_ret (pe_and (pe_or (pe_cmpR op_isN (pv 1) pe_non (nomark _)) (pe_one (pe_cmpR op_ge (pv 0) (pv 1) (nomark _)))) (pe_one (pe_or (pe_cmpR op_isN (pv 2) pe_non (nomark _)) (pe_one (pe_cmpR op_le (pv 0) (pv 2) (nomark _))))))))), ?_⟩
    refine ⟨_, rfl, _, rfl, _, rfl, iteF ?_⟩
    refine ⟨_, rfl, rfl, _, rfl, iteF ?_⟩
    refine ⟨_, rfl, _, rfl, _, _, rfl, rfl, _, rfl, ite2 (fun e => ?_) (fun e => ?_)⟩
    · refine ⟨_, rfl, rfl, _, rfl, iteF ?_⟩
      refine ⟨_, rfl, _, rfl, _, _, rfl, rfl, ?_⟩
      rw [e] at q
      exact q
    · rw [Bool.not_eq_true] at e
      rw [e] at q
      exact q
def isLet (i : Int) : Prop := -26 ≤ i ∧ i ≤ 26 ∧ i ≠ 0
def sp_is_letter : Sp := fun vs H Q _ => ∃ i : Int, vs = [.int i] ∧ isLet i ∧ Q (.bl true) H
abbrev N_is_letter : List Str := ["value"]
theorem sc_is_letter : FnScope N_is_letter ["value"] (C8.fnScope s_is_letter) := C8.fnScope_by (by decide +kernel)
theorem k_is_letter (T : Txt K mg) : C8.Cal P w K mg base 3 "is_letter" sp_is_letter [] := by
  have nd := sc_is_letter.nd
  refine defn T.d_is_letter sc_is_letter (fun vs H Q E h => ?_) (fun _ _ _ _ _ _ us hl => match us, hl with | [_], _ => rfl) (fun f cdv A outer s H vs Q E hr h => ?_)
  · obtain ⟨i, rfl, _⟩ := h
    rfl
  · obtain ⟨i, rfl, ⟨h1, h2, h3⟩, q⟩ := h
    refine ⟨_, (pss_one (ps_ret (pe_and (C8.pe_c (k_is_within T) hr (by decide) (by rfl) (pa_cons (pv 0) (pa_cons (pe_un un_neg (C8.pe_gc (by rfl) (gi T.v_LAST_KIND))) (pa_cons (C8.pe_gc (by rfl) (gi T.v_LAST_KIND)) pa_nil)))) (pe_one (pe_cmpR op_ne (pv 0) pe_int (nomark _)))))), ?_⟩
    refine ⟨_, rfl, _, rfl, i, -26, 26, rfl, _, rfl, ?_⟩
    rw [decide_eq_true (show (-26 : Int) ≤ i from h1), decide_eq_true h2]
    refine iteT ⟨_, rfl, rfl, ?_⟩
    rw [decide_eq_false (show ¬ V.int i = V.int 0 from fun e => h3 (V.int.inj e))]
    exact q
def sp_need_number : Sp := fun vs H Q _ => ∃ (i a b : Int) (x : V), vs = [.int i, x, .int a, .int b] ∧ a ≤ i ∧ i ≤ b ∧ Q .non H
abbrev N_need_number : List Str := ["value", "part", "least", "most"]
theorem sc_need_number : FnScope N_need_number ["value", "part", "least", "most"] (C8.fnScope s_need_number) := C8.fnScope_by (by decide +kernel)
theorem k_need_number (T : Txt K mg) : C8.Cal P w K mg base 3 "need_number" sp_need_number [] := by
  have nd := sc_need_number.nd
  refine defn T.d_need_number sc_need_number (fun vs H Q E h => ?_) (fun _ _ _ _ _ _ us hl => match us, hl with | [_, _, _, _], _ => rfl) (fun f cdv A outer s H vs Q E hr h => ?_)
  · obtain ⟨i, a, b, x, rfl, _⟩ := h
    rfl
  · obtain ⟨i, a, b, x, rfl, h1, h2, q⟩ := h
    refine ⟨_, (pss_one (ps_if (pt_not (pt_val (C8.pe_c (k_is_within T) hr (by decide) (by rfl) (pa_cons (pv 0) (pa_cons (pv 2) (pa_cons (pv 3) pa_nil))))))
        (pss_one ps_never)
        pss_nil)), ?_⟩
    refine ⟨_, rfl, _, rfl, _, rfl, i, a, b, rfl, _, rfl, ?_⟩
    rw [decide_eq_true h1, decide_eq_true h2]
    exact iteF q
def sp_is_listed : Sp := fun vs H Q _ => ∃ (a : Addr) (xs : List V), vs = [.ref a] ∧ (H a = some (.lst xs) ∨ H a = some (.tup xs)) ∧ ∀ H', Ex H H' → Q (.bl true) H'
abbrev N_is_listed : List Str := ["value"]
theorem sc_is_listed : FnScope N_is_listed ["value"] (C8.fnScope s_is_listed) := C8.fnScope_by (by decide +kernel)
theorem k_is_listed (T : Txt K mg) : C8.Cal P w K mg base 1 "is_listed" sp_is_listed [] := by
  have nd := sc_is_listed.nd
  refine defn T.d_is_listed sc_is_listed (fun vs H Q E h => ?_) (fun _ _ _ _ _ _ us hl => match us, hl with | [_], _ => rfl) (fun f cdv A outer s H vs Q E hr h => ?_)
  · obtain ⟨a, xs, rfl, _⟩ := h
    rfl
  · obtain ⟨a, xs, rfl, hx, q⟩ := h
    refine ⟨_, (pss_one (ps_ret (pe_callB call_isiT (by rfl) T.z_isinstance (by decide +kernel) (pa_cons (pv 0) (pa_cons (pe_tup (pa_cons (pe_bltn (v := .ty "list") (by rfl) T.z_list (by decide +kernel) rfl) (pa_cons (pe_bltn (v := .ty "tuple") (by rfl) T.z_tuple (by decide +kernel) rfl) pa_nil))) pa_nil))))), ?_⟩
    refine ⟨_, rfl, by decide, fun p hp => ?_⟩
    rcases hx with hx | hx
    · refine ⟨_, _, _, _, _, _, rfl, upd_same, .cons (.ty _) (.cons (.ty _) .nil), .base (.lst (exn hp _ _ hx)), kitAny_cons (b := true) (kit_ty (by decide +kernel)) (fun z => nomatch z) (fun _ => rfl), q _ (exn hp)⟩
    · refine ⟨_, _, _, _, _, _, rfl, upd_same, .cons (.ty _) (.cons (.ty _) .nil), .base (.tup (exn hp _ _ hx)), kitAny_cons (b := false) (kit_ty (by decide +kernel)) (fun _ => kitAny_cons (b := true) (kit_ty (by decide +kernel)) (fun z => nomatch z) (fun _ => rfl)) (fun z => nomatch z), q _ (exn hp)⟩
end
end Hw
/-! W2 -/
/-! W2: comprehensions over any walk, told by what each turn gives. -/
namespace Hw
open PySem PySem.Spec PyProof.Rows L2
theorem exr {H : Hp} : Ex H H := Evl.Ex.refl H
theorem ext {H H1 H2 : Hp} (a : Ex H H1) (b : Ex H1 H2) : Ex H H2 := Evl.Ex.trans a b
/-- a list that the heap at the begin does not know is changed -/
theorem exm {H H' : Hp} {p : Addr} {o : HO} (e : Ex H H') (h : H p = none) : Ex H (upd H' p o) := Evl.Ex.mut e h
/-- all but the list at D is kept -/
def Kp (D : Addr) (H H' : Hp) : Prop := (∃ zs, H D = some (.lst zs)) ∧ ∀ a o, a ≠ D → H a = some o → H' a = some o
theorem Kp.of {D : Addr} {H H' : Hp} {zs : List V} (h : H D = some (.lst zs)) (e : Ex H H') : Kp D H H' := ⟨⟨zs, h⟩, fun a o _ x => e a o x⟩
theorem Kp.upd {D : Addr} {H : Hp} {zs xs : List V} (h : H D = some (.lst zs)) : Kp D H (L2.upd H D (.lst xs)) := ⟨⟨zs, h⟩, fun a o n x => by rw [upd_ne n]; exact x⟩
/-- what is no list, no dict and no table of code objects is kept -/
def Lx (H H' : Hp) : Prop := ∀ a o, H a = some o → (∀ zs, o ≠ .lst zs) → (∀ zs, o ≠ .dK zs) → (∀ zs, o ≠ .tbl zs) → H' a = some o
theorem Ex.lx {H H' : Hp} (e : Ex H H') : Lx H H' := fun a o h _ _ _ => e a o h
theorem Kp.lx {D : Addr} {H H' : Hp} (k : Kp D H H') : Lx H H' := fun a o h n _ _ => by
  obtain ⟨⟨zs, hz⟩, k⟩ := k
  refine k a o (fun e => ?_) h
  subst e
  rw [h] at hz
  exact n zs (Option.some.inj hz)
theorem Lx.trans {H H1 H2 : Hp} (a : Lx H H1) (b : Lx H1 H2) : Lx H H2 := fun x o h n m t => b x o (a x o h n m t) n m t
theorem lxu {H : Hp} {D : Addr} {zs xs : List V} (h : H D = some (.lst zs)) : Lx H (upd H D (.lst xs)) := (Kp.upd h).lx
theorem lxd {H : Hp} {D : Addr} {zs xs : List (Key × V)} (h : H D = some (.dK zs)) : Lx H (upd H D (.dK xs)) := fun a o ha _ n _ => by
  rw [upd_ne]
  · exact ha
  · intro e
    subst e
    rw [h] at ha
    exact n zs (Option.some.inj ha).symm
theorem IT.lx {H H' : Hp} {a : Addr} {ns : List Int} (e : Lx H H') (h : IT H a ns) : IT H' a ns := e _ _ h (fun _ z => nomatch z) (fun _ z => nomatch z) (fun _ z => nomatch z)
theorem tyes {A B : Hp → Prop} {σ : L2.St} {H : Hp} (h : A H) : tYes σ H (fun b H3 => if b = true then A H3 else B H3) := by
  show (if true = true then A H else B H)
  rw [if_pos rfl]
  exact h
section
variable {J : It} {n : Nat} {G : Hp → Prop} {Y : Nat → Hp → V → Hp → Prop} {g : TG} {te : TE} {vs : List Nat} {σ : L2.St} {H1 : Hp} {D : Addr} {Qd : Hp → Prop}
/-- [e for x in ..], each turn's value told by Pe -/
theorem lc_all (w : Walk J n G Y) (hn : n ≤ 100000) (Pe : Nat → V → Hp → Prop) (hD : H1 D = none) (hG : ∀ H', Ex H1 H' → G H')
    (mono : ∀ i y H' H'', Kp D H' H'' → Pe i y H' → Pe i y H'')
    (hs : ∀ i x Hc H', i < n → Ex H1 Hc → (∃ zs, Hc D = some (.lst zs)) → Y i Hc x H' → g x (wipe σ vs) H' fun σ2 H2 => wipe σ2 vs = wipe σ vs ∧ ∀ Q : VK, (∀ y H4, Ex Hc H4 → Pe i y H4 → Q y H4) → te σ2 H2 Q)
    (gm : ∀ x σ H (Q Q' : L2.St → Hp → Prop), (∀ σ2 H2, Q σ2 H2 → Q' σ2 H2) → g x σ H Q → g x σ H Q')
    (hd : ∀ ys H', Ex H1 H' → H' D = some (.lst ys) → ys.length = n → (∀ i y, ys[i]? = some y → Pe i y H') → Qd H') :
    ∃ W : Nat → Nat → Hp → Prop, (∃ m, W 0 m (upd H1 D (.lst []))) ∧ ∀ i m H, W i m H →
      (J.stop i H ∧ Qd H) ∨ (J.go i H ∧ ∃ Nx : Hp → Prop, (∀ H', Nx H' → ∃ m', m' < m ∧ W (i + 1) m' H') ∧ ∀ x H', J.yld i H x H' → g x (wipe σ vs) H' fun σ2 H2 => wipe σ2 vs = wipe σ vs ∧ tYes σ2 H2 fun b H3 =>
        if b = true then te σ2 H3 fun y H4 => ∃ acc, H4 D = some (.lst acc) ∧ acc.length < sizeLine ∧ Nx (upd H4 D (.lst (acc ++ [y]))) else Nx H3) := by
  refine lc_it w (Pv := fun i H' => Ex H1 H' ∧ ∃ ys, H' D = some (.lst ys) ∧ ys.length = i ∧ ∀ j y, ys[j]? = some y → Pe j y H') ⟨exn hD, [], upd_same, rfl, fun j y h => by simp at h⟩ (fun i H' _ p => hG H' p.1) (fun i x Hc H' hi p hy => ?_) (fun H' p => ?_)
  · obtain ⟨e, ys, h1, h2, h3⟩ := p
    refine gm _ _ _ _ _ (fun σ2 H2 z => ⟨z.1, ?_⟩) (hs i x Hc H' hi e ⟨ys, h1⟩ hy)
    refine tyes (z.2 _ fun y H4 e4 pe => ?_)
    refine ⟨ys, e4 _ _ h1, Evl.sz_lt (by omega), exm (ext e e4) hD, ys ++ [y], upd_same, by rw [List.length_append, List.length_singleton, h2], fun j z hz => ?_⟩
    have k4 : Kp D Hc H4 := Kp.of h1 e4
    have ku : Kp D H4 (upd H4 D (.lst (ys ++ [y]))) := Kp.upd (e4 _ _ h1)
    by_cases hj : j < ys.length
    · rw [List.getElem?_append_left hj] at hz
      exact mono _ _ _ _ ku (mono _ _ _ _ k4 (h3 j z hz))
    · rw [List.getElem?_append_right (by omega)] at hz
      have e0 : j - ys.length = 0 := by
        rcases Nat.eq_zero_or_pos (j - ys.length) with q | q
        · exact q
        · rw [List.getElem?_eq_none (by rw [List.length_singleton]; omega)] at hz
          cases hz
      rw [e0] at hz
      have ey : y = z := Option.some.inj hz
      subst ey
      have ej : j = i := by omega
      subst ej
      exact mono _ _ _ _ ku pe
  · obtain ⟨e, ys, h1, h2, h3⟩ := p
    exact hd ys H' e h1 h2 h3
/-- .. where each turn gives a plain value -/
theorem lc_val (w : Walk J n G Y) (hn : n ≤ 100000) (v : Nat → V) (hD : H1 D = none) (hG : ∀ H', Ex H1 H' → G H')
    (hs : ∀ i x Hc H', i < n → Ex H1 Hc → Y i Hc x H' → g x (wipe σ vs) H' fun σ2 H2 => wipe σ2 vs = wipe σ vs ∧ ∀ Q : VK, (∀ H4, Ex Hc H4 → Q (v i) H4) → te σ2 H2 Q)
    (gm : ∀ x σ H (Q Q' : L2.St → Hp → Prop), (∀ σ2 H2, Q σ2 H2 → Q' σ2 H2) → g x σ H Q → g x σ H Q')
    (hd : ∀ H', Ex H1 H' → H' D = some (.lst ((List.range n).map v)) → Qd H') :
    ∃ W : Nat → Nat → Hp → Prop, (∃ m, W 0 m (upd H1 D (.lst []))) ∧ ∀ i m H, W i m H →
      (J.stop i H ∧ Qd H) ∨ (J.go i H ∧ ∃ Nx : Hp → Prop, (∀ H', Nx H' → ∃ m', m' < m ∧ W (i + 1) m' H') ∧ ∀ x H', J.yld i H x H' → g x (wipe σ vs) H' fun σ2 H2 => wipe σ2 vs = wipe σ vs ∧ tYes σ2 H2 fun b H3 =>
        if b = true then te σ2 H3 fun y H4 => ∃ acc, H4 D = some (.lst acc) ∧ acc.length < sizeLine ∧ Nx (upd H4 D (.lst (acc ++ [y]))) else Nx H3) := by
  refine lc_all w hn (fun i y _ => y = v i) hD hG (fun _ _ _ _ _ h => h) (fun i x Hc H' hi e _ hy => gm _ _ _ _ _ (fun σ2 H2 z => ⟨z.1, fun Q q => z.2 Q fun H4 e4 => q _ H4 e4 rfl⟩) (hs i x Hc H' hi e hy)) gm (fun ys H' e h1 h2 h3 => hd H' e ?_)
  rw [h1]
  congr 2
  refine List.ext_getElem? fun i => ?_
  by_cases hi : i < n
  · rw [List.getElem?_eq_getElem (by omega), h3 i _ (List.getElem?_eq_getElem (by omega))]
    simp [hi]
  · rw [List.getElem?_eq_none (by omega), List.getElem?_eq_none (by simp; omega)]
/-- .. with a test -/
theorem lc_sel {tt : TT} (w : Walk J n G Y) (hn : n ≤ 100000) (f : Nat → Bool) (v : Nat → V) (hD : H1 D = none) (hG : ∀ H', Ex H1 H' → G H')
    (hs : ∀ i x Hc H', i < n → Ex H1 Hc → Y i Hc x H' → g x (wipe σ vs) H' fun σ2 H2 => wipe σ2 vs = wipe σ vs ∧ Ex Hc H2 ∧ (∀ Q : Bool → Hp → Prop, (∀ H3, Ex H2 H3 → Q (f i) H3) → tt σ2 H2 Q) ∧ (f i = true → ∀ H3, Ex H2 H3 → ∀ Q : VK, (∀ H4, Ex H3 H4 → Q (v i) H4) → te σ2 H3 Q))
    (gm : ∀ x σ H (Q Q' : L2.St → Hp → Prop), (∀ σ2 H2, Q σ2 H2 → Q' σ2 H2) → g x σ H Q → g x σ H Q')
    (hd : ∀ H', Ex H1 H' → H' D = some (.lst (Evl.given n f v)) → Qd H') :
    ∃ W : Nat → Nat → Hp → Prop, (∃ m, W 0 m (upd H1 D (.lst []))) ∧ ∀ i m H, W i m H →
      (J.stop i H ∧ Qd H) ∨ (J.go i H ∧ ∃ Nx : Hp → Prop, (∀ H', Nx H' → ∃ m', m' < m ∧ W (i + 1) m' H') ∧ ∀ x H', J.yld i H x H' → g x (wipe σ vs) H' fun σ2 H2 => wipe σ2 vs = wipe σ vs ∧ tt σ2 H2 fun b H3 =>
        if b = true then te σ2 H3 fun y H4 => ∃ acc, H4 D = some (.lst acc) ∧ acc.length < sizeLine ∧ Nx (upd H4 D (.lst (acc ++ [y]))) else Nx H3) := by
  refine lc_it w (Pv := fun i H' => Ex H1 H' ∧ H' D = some (.lst (Evl.given i f v))) ⟨exn hD, upd_same⟩ (fun i H' _ p => hG H' p.1) (fun i x Hc H' hi p hy => ?_) (fun H' p => hd H' p.1 p.2)
  obtain ⟨e, h1⟩ := p
  refine gm _ _ _ _ _ (fun σ2 H2 z => ⟨z.1, z.2.2.1 _ fun H3 e3 => ?_⟩) (hs i x Hc H' hi e hy)
  have e2 := z.2.1
  cases hf : f i with
  | true =>
    rw [if_pos rfl]
    refine z.2.2.2 hf H3 e3 _ fun H4 e4 => ⟨_, e4 _ _ (e3 _ _ (e2 _ _ h1)), Evl.sz_lt (by have := Evl.given_len i f v; omega), exm (ext (ext (ext e e2) e3) e4) hD, ?_⟩
    rw [Evl.given_yes hf]
    exact upd_same
  | false =>
    rw [if_neg Bool.false_ne_true]
    refine ⟨ext (ext e e2) e3, ?_⟩
    rw [Evl.given_no hf]
    exact e3 _ _ (e2 _ _ h1)
end
/-- a target that is a name takes any wish -/
theorem gmN {i : Nat} : ∀ (x : V) (σ : L2.St) (H : Hp) (Q Q' : L2.St → Hp → Prop), (∀ σ2 H2, Q σ2 H2 → Q' σ2 H2) → gName i x σ H Q → gName i x σ H Q' := fun _ _ _ _ _ h q => h _ _ q
/-- .. a pair of names -/
theorem gmP {K : PySem.W.Frag} {n i j : Nat} : ∀ (x : V) (σ : L2.St) (H : Hp) (Q Q' : L2.St → Hp → Prop), (∀ σ2 H2, Q σ2 H2 → Q' σ2 H2) → gTup K n (gCons (gName i) (gCons (gName j) gNil)) x σ H Q → gTup K n (gCons (gName i) (gCons (gName j) gNil)) x σ H Q' :=
  fun _ _ _ _ _ h q => by
    obtain ⟨a, xs, e1, e2, e3, v, r, e4, v2, r2, e5, e6, q⟩ := q
    exact ⟨a, xs, e1, e2, e3, v, r, e4, v2, r2, e5, e6, h _ _ q⟩
theorem rmap_len {n : Nat} {f : Nat → V} : ((List.range n).map f).length = n := by rw [List.length_map, List.length_range]
theorem rmap_at {α : Type} {l : List α} {f : α → V} {d : α} : (List.range l.length).map (fun i => f (l.getD i d)) = l.map f := by
  refine List.ext_getElem? fun i => ?_
  by_cases hi : i < l.length
  · simp [hi]
  · rw [List.getElem?_eq_none (by simp; omega), List.getElem?_eq_none (by simp; omega)]
theorem rconst {n : Nat} {b : V} : (List.range n).map (fun _ => b) = List.replicate n b := by
  refine List.ext_getElem? fun i => ?_
  by_cases hi : i < n
  · simp [hi]
  · rw [List.getElem?_eq_none (by simp; omega), List.getElem?_eq_none (by simp; omega)]
theorem bls {n : Nat} {f : Nat → Bool} : (List.range n).map (fun i => V.bl (f i)) = ((List.range n).map f).map V.bl := by rw [List.map_map]; rfl
end Hw
/-! R1 -/
/-! R1: t[::-1] of a tuple. -/
namespace Hw
open PySem PySem.Spec PyProof.Rows L2
section
variable {prog : Program} {w : World} {A : Around} {E : Value → Shared → Prop} {s : Shared}
theorem fm_map {α β : Type} {f : α → Option β} {g : α → β} : ∀ {l : List α}, (∀ x ∈ l, f x = some (g x)) → l.filterMap f = l.map g
  | [], _ => rfl
  | x :: l, h => by
    rw [List.filterMap_cons, h x List.mem_cons_self, List.map_cons, fm_map fun y hy => h y (List.mem_cons_of_mem _ hy)]
theorem rev_pick (xs : Array Value) : ((List.range xs.size).filterMap fun (k : Nat) => xs[(((xs.size : Int) - 1) + (k : Int) * (-1)).toNat]?).toArray = xs.toList.reverse.toArray := by
  congr 1
  have e : (List.range xs.size).filterMap (fun (k : Nat) => xs[(((xs.size : Int) - 1) + (k : Int) * (-1)).toNat]?) = (List.range xs.size).map fun k => xs.toList.reverse.getD k Value.none := by
    refine fm_map fun k hk => ?_
    have hk : k < xs.size := List.mem_range.mp hk
    have e1 : (((xs.size : Int) - 1) + (k : Int) * (-1)).toNat = xs.size - 1 - k := by omega
    rw [e1]
    have e2 : xs.size - 1 - k < xs.size := by omega
    simp [e2, hk, List.getElem?_reverse]
  rw [e]
  refine List.ext_getElem? fun i => ?_
  by_cases hi : i < xs.size
  · simp [hi]
  · rw [List.getElem?_eq_none (by simp; omega), List.getElem?_eq_none (by simp; omega)]
theorem getItem_tuple_rev {t sl : Addr} {items : Array Value} {u : Tok} {Q : Value → Shared → Prop} (ht : IsTup s.heap t items) (hs : s.heap.IsSliceOf sl .none .none (.int (-1) u))
    (h : Q (.ref s.heap.objs.size) { s with heap := s.heap.push { cls := .type "tuple", data := .seq items.toList.reverse.toArray } })
    (hsz : items.size ≤ sizeLine) : wpAny (model prog w) A (getItem (.ref t) (.ref sl)) Q E s := by
  have htake : sizeOk (.seq items.toList.reverse.toArray) := by
    show items.toList.reverse.toArray.size ≤ sizeLine
    rw [List.size_toArray, List.length_reverse, Array.length_toList]
    exact hsz
  obtain ⟨os, hos, hcs, hds⟩ := id hs
  have hTs : s.TypeIs (.ref sl) "slice" := ⟨os, hos, hcs⟩
  unfold getItem
  try with_reducible refine wpAny_holding ?_
  first | refine wpAny_bind (wpAny_pure ?_) | skip
  refine wpAny_bind (wpAny_sequenceKey ht.typeIs (by decide) ?_)
  refine wpAny_bind (wpAny_callSpecial?_slot (name := Str.ofString "__getitem__") ht.typeIs PyProof.Rows.slot_tuple_getitem
    (wpAny_call_entry PyProof.Rows.slot_tuple_getitem ht.typeIs entry_tuple_getitem ?_ (args_tuple_getitem _ _)))
  show wpAny _ _ (Builtin.Tuple.tupleItemsOf (.ref t) >>= _) _ _ s
  refine wpAny_bind (tupleItemsOf_ ht ?_)
  refine wpAny_bind (wpAny_typeOf hTs ?_)
  rw [if_pos (by decide)]
  refine wpAny_bind (m := Builtin.Slice.sliceApplied _ _) ?_
  unfold Builtin.Slice.sliceApplied Builtin.Slice.sliceFields
  refine wpAny_bind (wpAny_bind (wpAny_field hos hds (x := .none) rfl (wpAny_bind (wpAny_field hos hds (x := .none) rfl (wpAny_bind (wpAny_field hos hds (x := .int (-1) u) rfl (wpAny_pure ?_)))))))
  refine wpAny_bind (slicePart_int ?_)
  show wpAny _ _ (if ((-1 : Int) == 0) = true then _ else _) _ _ s
  rw [if_neg (by decide)]
  refine wpAny_bind (slicePart_none (wpAny_bind (slicePart_none (wpAny_bind (wpAny_pure ?_)))))
  show wpAny _ _ (pure (((items.size : Int) - 1), (-1 : Int), Builtin.Slice.slicePlaces ((items.size : Int) - 1) (-1) (-1))) _ _ s
  have ep : Builtin.Slice.slicePlaces ((items.size : Int) - 1) (-1) (-1) = items.size := by
    unfold Builtin.Slice.slicePlaces
    rw [if_neg (by omega)]
    have e1 : ((items.size : Int) - 1 - -1 - 1) / -(-1) = (items.size : Int) - 1 := by
      rw [show -(-1 : Int) = 1 from rfl, Int.ediv_one]
      omega
    rw [e1]
    split <;> omega
  rw [ep]
  refine wpAny_pure ?_
  show wpAny _ _ (if (((items.size : Int) - 1 == 0 && (-1 : Int) == 1 && items.size == items.size)) = true then _ else _) _ _ s
  rw [if_neg (by
    intro q
    rw [Bool.and_eq_true, Bool.and_eq_true] at q
    exact absurd q.1.2 (by decide)), rev_pick]
  first
    | exact wpAny_bind (m := Builtin.Tuple.tupleExact _) (wpAny_newObj_type (wpAny_pure ⟨_, rfl, wpAny_pure h⟩) htake)
    | exact wpAny_bind (m := Builtin.Tuple.tupleExact _) (wpAny_newObj_type (wpAny_bind (wpAny_pure (wpAny_pure ⟨_, rfl, wpAny_pure h⟩))) htake)
    | exact wpAny_bind (wpAny_bind (m := Builtin.Tuple.tupleExact _) (wpAny_newObj_type (wpAny_pure (wpAny_pure ⟨_, rfl, wpAny_pure h⟩)) htake))
    | exact wpAny_bind (wpAny_bind (m := Builtin.Tuple.tupleExact _) (wpAny_newObj_type (wpAny_pure ⟨_, rfl, wpAny_pure h⟩) htake))
end
section
variable {X : Cx}
def tRevT (K : PySem.W.Frag) (te : TE) : TE := fun σ H Q => te σ H fun x H1 => ∃ a xs, x = .ref a ∧ SqT K H1 a xs ∧ ∀ p, H1 p = none → Q (.ref p) (upd H1 p (.tup xs.reverse))
theorem pe_revT {e : Expr} {te : TE} {k : Nat} {p1 p2 p3 pos : Pos} (he : PE X e te) : PE X (.Subscript e (.Slice none none (some (.UnaryOp .USub (.Constant (.int 1) k p1) p2)) p3) pos) (tRevT X.K te) := by
  refine ⟨fun pins s σ H Q I h => ?_⟩
  refine Subscript_ (thn (he.run pins s σ H _ I h) fun v s1 ⟨x, H1, I1, r1, q1⟩ => ?_)
  obtain ⟨a, xs, ex, hx, q⟩ := q1
  subst ex
  cases r1
  have hst : PO X (some (.UnaryOp .USub (.Constant (.int 1) k p1) p2)) (tPart (tUn (rU fun i => .int (-i)) (tC (.int 1)))) := po_some (pe_un un_neg pe_int)
  refine wpAny_Slice (thn (po_none.run pins s1 σ H1 (fun o H2 => o = none ∧ H2 = H1) I1 ⟨rfl, rfl⟩) fun vl s2 ⟨l, H2, I2, pl, el, e2⟩ => ?_)
  subst el e2
  refine thn (po_none.run pins s2 σ H2 (fun o H3 => o = none ∧ H3 = H2) I2 ⟨rfl, rfl⟩) fun vu s3 ⟨u, H3, I3, pu, eu, e3⟩ => ?_
  subst eu e3
  refine thn (hst.run pins s3 σ H3 (fun o H4 => o = some (-1) ∧ H4 = H3) I3 ⟨1, rfl, -1, rfl, rfl, rfl⟩) fun vs s4 ⟨o, H4, I4, ps, eo, e4⟩ => ?_
  subst eo e4
  have I5 : Inv X pins σ H4 { s4 with heap := s4.heap.push { cls := .type "slice", data := .fields #[vl, vu, vs] } } := I4.kept (t' := s4.toks) fun b ob q => Heap.get?_push_of_some _ q
  obtain ⟨its, r, ht, hz⟩ := I5.tuple hx
  have hlen := r.length
  cases pl
  cases pu
  cases ps with
  | int i u =>
  show wpAny (model X.prog X.w) X.A (subscriptTail e (.Slice none none (some (.UnaryOp .USub (.Constant (.int 1) k p1) p2)) p3) (.ref a) (.ref s4.heap.objs.size)) (EP X pins σ Q) X.xe { s4 with heap := s4.heap.push { cls := .type "slice", data := .fields #[.none, .none, .int (-1) u] } }
  refine tail_any (ops := [.ref a, .ref s4.heap.objs.size]) ht.typeIs (PyProof.Rows.slot_tuple_getitem.lookup) ?_ (by with_unfolding_all rfl)
  refine getItem_tuple_rev ht (Heap.IsSliceOf.new _ .none .none (.int (-1) u)) ?_ (by rw [List.size_toArray]; omega)
  refine ⟨.ref _, _, I5.laid (t' := s4.toks) (o := .tup xs.reverse) (fun b ob q => Heap.get?_push_of_some _ q) (Nat.le_refl _) ?_, rfl, q _ (I5.hok.fresh (Nat.le_refl _))⟩
  exact ⟨by rw [List.length_reverse]; exact hz, _, r.reverse, ⟨_, Heap.get?_push_size _ rfl, rfl, 0, rfl⟩⟩
end
end Hw
/-! R2 -/
/-! R2: set comprehensions of ints, sorted (turned from the layer's comprehension of truth values). -/
namespace Hw
open PySem PySem.Spec PyProof.Rows L2
section
variable {X : Cx}
theorem addI_ok {pins : List (Addr × Obj)} {σ : L2.St} {H : Hp} {s : Shared} {E : Value → Shared → Prop} {D : Addr} {S : Int → Bool} {n : Nat} {y : Int} {t : Tok} {Q : Value → Shared → Prop} (I : Inv X pins σ H s) (hD : H D = some (SetO X.w D S n)) (room : n + 1 < scanBound)
    (h : ∀ s', Inv X pins σ (upd H D (SetO X.w D (fun j => S j || decide (j = y)) (if S y = true then n else n + 1))) s' → Q .none s') : wpAny (model X.prog X.w) X.A (call (.builtin "set.add") [.ref D, .int y t]) Q E s := by
  have R := setO_get I hD
  refine setR_add R room fun h' sb new => ?_
  have he : ∃ u, h'.get? D = some u := by
    have ⟨o, _, _, _, ho, _⟩ := new
    exact ⟨o, ho⟩
  exact h _ (I.write (e := D) (t' := s.toks + 1) (by rw [hD]; trivial) (.inl rfl) (fun b u hb hu => (sb.2 b hb).trans hu) he (setO_new new))
end
section
variable {X : Cx}
/-- {elt for target in iter if ..}, elt an int: D the new set -/
def tScI (w : World) (wi : TI) (g : TG) (tt : TT) (te : TE) (vs : List Nat) : TE := fun σ H Q => wi σ H fun J H1 => ∀ D, H1 D = none → ∃ W : Nat → Nat → Hp → Prop, (∃ m, W 0 m (upd H1 D (SetO w D (fun _ => false) 0))) ∧ ∀ i m H, W i m H →
  (J.stop i H ∧ Q (.ref D) H) ∨ (J.go i H ∧ ∃ Nx : Hp → Prop, (∀ H', Nx H' → ∃ m', m' < m ∧ W (i + 1) m' H') ∧ ∀ x H', J.yld i H x H' → g x (wipe σ vs) H' fun σ2 H2 => wipe σ2 vs = wipe σ vs ∧ tt σ2 H2 fun b H3 =>
    if b = true then te σ2 H3 fun y H4 => ∃ (c : Int) (S : Int → Bool) (n : Nat), y = .int c ∧ H4 D = some (SetO w D S n) ∧ n + 1 < scanBound ∧ Nx (upd H4 D (SetO w D (fun j => S j || decide (j = c)) (if S c = true then n else n + 1))) else Nx H3)
theorem scI_core {pins : List (Addr × Obj)} {s : Shared} {σ : L2.St} {H : Hp} {Q : VK} {elt tg iter : Expr} {ifs : List Expr} {scope : Scope} {own : List (PySem.Str × Nat)} {pos pos' : Pos} {wi : TI} {g : TG} {tt : TT} {te : TE} {use : Option (Value → Sem Unit)} {Qf : Value → Shared → Prop}
    (hc : X.calm = true) (hN : X.N.Nodup) (I : Inv X pins σ H s) (hi : PI X tg iter wi) (ok : BlkOk X.N X.env.scope scope own)
    (hg : ∀ (s : Shared) (H : Hp) (C : Addr) (cl : List (PySem.Str × Addr)) (fp : List Addr), PG (X.blk s H scope (compEnvC scope cl C X.env) fp) tg g) (ht : ∀ (s : Shared) (H : Hp) (C : Addr) (cl : List (PySem.Str × Addr)) (fp : List Addr), PTs (X.blk s H scope (compEnvC scope cl C X.env) fp) ifs tt)
    (he : ∀ (s : Shared) (H : Hp) (C : Addr) (cl : List (PySem.Str × Addr)) (fp : List Addr), PE (X.blk s H scope (compEnvC scope cl C X.env) fp) elt te) (hs : ∀ x, foldedSetIterable iter X.env x = pure x)
    (h : tScI X.w wi g tt te (own.map (·.2)) σ H Q)
    (hRR : ∀ D C s' m H', Inv X pins σ H' s' → Q (.ref D) H' → s'.heap.Ns C m → FpOk X pins H' C → compPost (model X.prog X.w) X.A X.xe use Qf (.ref D) C (.ok .next) s') :
    wpAny (model X.prog X.w) X.A (comprehension (.SetComp elt [⟨tg, iter, ifs, 0⟩] scope pos) scope X.env pos' (newSet (.type "set")) false (eval iter X.env) use) Qf X.xe s := by
  have hfree : ∀ y ∈ scope.names, y.2 = .free → ∃ c, X.env.cells.lookup y.1 = some c := fun y hy e => by
    rcases ok.free y hy e with k | k
    · exact I.ok.has _ (.inl k)
    · exact I.ok.has _ (.inr k)
  refine wpAny_comprehension_free (use := use) rfl hs (closure_ok hfree) ok.kind (fun y hy e => by rw [ok.uniq y hy, e])
    (thn (hi.run pins s σ H _ I h) fun xv s1 hx => thn hx fun itv s2 h2 => ?_)
  obtain ⟨it, fp, tn, J, H2, e, I2, T, st2, f2, q⟩ := h2
  subst e
  refine PpSet.newSet_ok (newEnv_comp ?_)
  generalize hD : s2.heap.objs.size = D
  have hDn : H2 D = none := I2.hok.fresh (Nat.le_of_eq hD)
  obtain ⟨W, ⟨m0, w0⟩, turn⟩ := q D hDn
  -- the new list
  generalize hs3 : ({ s2 with heap := s2.heap.push { cls := .type "set", dict := none, data := .set #[] 0 (.fresh 0 0 (!X.w.params.followText "set-order")) } } : Shared) = s3
  have I3 : Inv X pins σ (upd H2 D (SetO X.w D (fun _ => false) 0)) s3 := by
    rw [← hs3]
    refine I2.laid (t' := s2.toks) (fun b o e => Heap.get?_push_of_some _ e) (Nat.le_of_eq hD) ?_
    rw [← hD]
    exact setO_new (setR_fresh X.w)
  have h3 : s3.heap = s2.heap.push { cls := .type "set", dict := none, data := .set #[] 0 (.fresh 0 0 (!X.w.params.followText "set-order")) } := by rw [← hs3]
  have sz : ∀ b ∈ fp, b < s2.heap.objs.size := fun b hb => by
    obtain ⟨o, e, _⟩ := T.obj _ _ st2 b hb
    exact Heap.lt_size e
  have f3 : ∀ b ∈ fp, FpOk X pins (upd H2 D (SetO X.w D (fun _ => false) 0)) b ∧ b < s3.heap.objs.size := fun b hb => by
    have hlt := sz b hb
    refine ⟨⟨?_, (f2 b hb).2⟩, by rw [h3, Heap.size_push]; exact Nat.lt_succ_of_lt hlt⟩
    rw [upd_ne (by rw [← hD]; exact Nat.ne_of_lt hlt)]
    exact (f2 b hb).1
  have st3 : tn 0 s3.heap := T.keep _ _ _ st2 fun b _ o e => by rw [h3]; exact Heap.get?_push_of_some _ e
  have I4 := block_start I3 ok hN f3
  have pg := hg s3 (upd H2 D (SetO X.w D (fun _ => false) 0)) s3.heap.objs.size (cellsFrom (s3.heap.objs.size + 1) scope.names (cloFrom X.env.cells scope.names [])) fp
  have pt := ht s3 (upd H2 D (SetO X.w D (fun _ => false) 0)) s3.heap.objs.size (cellsFrom (s3.heap.objs.size + 1) scope.names (cloFrom X.env.cells scope.names [])) fp
  have pe := he s3 (upd H2 D (SetO X.w D (fun _ => false) 0)) s3.heap.objs.size (cellsFrom (s3.heap.objs.size + 1) scope.names (cloFrom X.env.cells scope.names [])) fp
  show codeAny _ _ (.compStart (.SetComp elt [⟨tg, iter, ifs, 0⟩] scope pos) 0 (.ref it) (.ref D) (compEnvC scope (cellsFrom (s3.heap.objs.size + 1) scope.names (cloFrom X.env.cells scope.names [])) s3.heap.objs.size X.env)) (compPost (model X.prog X.w) X.A X.xe use Qf (.ref D) s3.heap.objs.size) { s3 with heap := pushCells (s3.heap.push { cls := .type "dict", data := .dict #[] }) scope.names }
  have nfp : ∀ b ∈ fp, (upd H2 D (SetO X.w D (fun _ => false) 0)) b = none := fun b hb => (f3 b hb).1.1
  generalize hce : compEnvC scope (cellsFrom (s3.heap.objs.size + 1) scope.names (cloFrom X.env.cells scope.names [])) s3.heap.objs.size X.env = ce at I4 pg pt pe ⊢
  have cL : ce.locals = s3.heap.objs.size := by subst hce; rfl
  generalize hH3 : upd H2 D (SetO X.w D (fun _ => false) 0) = H3 at I3 I4 pg pt pe w0 nfp f3
  generalize hs4 : ({ s3 with heap := pushCells (s3.heap.push { cls := .type "dict", data := .dict #[] }) scope.names } : Shared) = s4 at I4 ⊢
  have st4 : tn 0 s4.heap := T.keep _ _ _ st3 fun b _ o e => by rw [← hs4]; exact pushCells_keeps _ _ _ _ (Heap.get?_push_of_some _ e)
  have stat : ∀ {σ' : L2.St} {H' : Hp} {s' : Shared}, Inv (X.blk s3 H3 scope ce fp) [] σ' H' s' → (∀ b ∈ fp, H' b = none) → ∀ b ∈ fp, FpOk (X.blk s3 H3 scope ce fp) [] H' b := fun {σ' H' s'} I' hn b hb =>
    ⟨hn b hb, (I'.ok.exf b hb).1, I'.ok.exfs b hb, .inl hb, fun x c e => (I'.ok.exf b hb).2 x c e, fun p hp => absurd (show p ∈ ([] : List (Addr × Obj)) ++ [] from hp) (by simp)⟩
  have loop : codeAny (model X.prog X.w) X.A (.compLoop (.SetComp elt [⟨tg, iter, ifs, 0⟩] scope pos) 0 (.ref it) (.ref D) ce) (compPost (model X.prog X.w) X.A X.xe use Qf (.ref D) s3.heap.objs.size) s4 := by
    refine PpSet.compLoopS_any (fun n s' => ∃ i H', Inv (X.blk s3 H3 scope ce fp) [] (wipe σ (own.map (·.2))) H' s' ∧ tn i s'.heap ∧ (∀ b ∈ fp, H' b = none) ∧ W i n H') ?_ m0 ⟨0, H3, I4, st4, nfp, w0⟩
    rintro n s5 ⟨i, H5, I5, st5, n5, w5⟩
    rcases turn i n H5 w5 with ⟨stop, qq⟩ | ⟨go, Nx, hNx, step⟩
    · have td := T.done (X.blk s3 H3 scope ce fp) rfl rfl rfl hc i [] s5 _ H5 (fun _ _ => False) I5 (stat I5 n5) st5 stop
      refine thnF td fun r s6 ⟨hr, I6⟩ => ?_
      subst hr
      -- back in the def's context
      have I7 : Inv X pins σ H5 s6 := I3.call' (ch := fp) I6.os I6.base I6.hok I6.bare fun b hb => ⟨(f3 b hb).1.2.2.2.1, (f3 b hb).1.2.1, (f3 b hb).1.2.2.2.2.1, (f3 b hb).1.2.2.2.2.2⟩
      have nC : H5 s3.heap.objs.size = none := by
        have z : H5 ce.locals = none := I6.free
        rw [cL] at z
        exact z
      obtain ⟨m, hn, _⟩ := I6.loc
      have hn : s6.heap.Ns ce.locals m := hn
      rw [cL] at hn
      exact hRR D s3.heap.objs.size s6 m H5 I7 qq hn (I3.fpOk (Nat.le_refl _) nC)
    · have ti := T.item (X.blk s3 H3 scope ce fp) rfl rfl rfl hc i [] s5 _ H5 (fun _ _ => False) I5 (stat I5 n5) st5 go
      refine thnF ti fun r s6 ⟨u, hr, h6⟩ => ?_
      subst hr
      refine thnF h6 fun _ s7 ⟨x, H7, I7, r7, y7, st7, n7⟩ => ?_
      have I7' := I7.pinned (stat I7 n7) (T.obj _ _ st7)
      refine thnF (pg.run _ s7 _ H7 x u _ I7' r7 (step x H7 y7)) fun _ s8 ⟨σ8, H8, I8, hw8, q8⟩ => ?_
      refine thnF (pt.run _ s8 σ8 H8 _ I8 q8) fun b s9 ⟨H9, I9, q9⟩ => ?_
      -- the turn's end
      have fin : ∀ {s' : Shared} {H' : Hp}, Inv (X.blk s3 H3 scope ce fp) ([] ++ pinsAt fp s7.heap) σ8 H' s' → Nx H' → ∃ m, m < n ∧ ∃ i H', Inv (X.blk s3 H3 scope ce fp) [] (wipe σ (own.map (·.2))) H' s' ∧ tn i s'.heap ∧ (∀ b ∈ fp, H' b = none) ∧ W i m H' := fun {s' H'} I' nx => by
        obtain ⟨m', hm, w'⟩ := hNx H' nx
        have pin' : ∀ b ∈ fp, ∀ o, s7.heap.get? b = some o → s'.heap.get? b = some o ∧ H' b = none := fun b hb o e =>
          let z := I'.pin (b, o) (List.mem_append_right _ (List.mem_append_right _ (mem_pinsAt hb e)))
          ⟨z.1, z.2.1⟩
        have hl : (wipe σ (own.map (·.2))).length = σ8.length := by rw [← hw8, wipe_length]
        refine ⟨m', hm, i + 1, H', (I'.unpinned (pins := [])).weak hl (fun j v e => ?_), T.keep _ _ _ st7 fun b hb o e => (pin' b hb o e).1, fun b hb => ?_, w'⟩
        · rw [← hw8] at e
          exact (wipe_some e).1
        · obtain ⟨o, e, _⟩ := T.obj _ _ st7 b hb
          exact (pin' b hb o e).2
      cases b with
      | false =>
        simp only [Bool.false_eq_true, if_false] at q9 ⊢
        exact fin I9 q9
      | true =>
        simp only [if_true] at q9 ⊢
        refine thnF (pe.run _ s9 σ8 H9 _ I9 q9) fun z s10 ⟨yv, H10, I10, r10, cb, S0, n0, ey, hD10, hz10, nx⟩ => ?_
        subst ey
        obtain ⟨tkz, rfl⟩ := (show ∃ t, z = Value.int cb t from r10)
        exact addI_ok (X := X.blk s3 H3 scope ce fp) I10 hD10 hz10 fun s11 I11 => fin I11 nx
  exact PpSet.codeAny_compStart_set loop (T.self X.A 0 _ _ _ st4 loop)
/-- as a value -/
theorem pe_scI {elt tg iter : Expr} {ifs : List Expr} {scope : Scope} {own : List (PySem.Str × Nat)} {pos : Pos} {wi : TI} {g : TG} {tt : TT} {te : TE} (hc : X.calm = true) (hN : X.N.Nodup) (hi : PI X tg iter wi) (ok : BlkOk X.N X.env.scope scope own)
    (hg : ∀ (s : Shared) (H : Hp) (C : Addr) (cl : List (PySem.Str × Addr)) (fp : List Addr), PG (X.blk s H scope (compEnvC scope cl C X.env) fp) tg g) (ht : ∀ (s : Shared) (H : Hp) (C : Addr) (cl : List (PySem.Str × Addr)) (fp : List Addr), PTs (X.blk s H scope (compEnvC scope cl C X.env) fp) ifs tt)
    (he : ∀ (s : Shared) (H : Hp) (C : Addr) (cl : List (PySem.Str × Addr)) (fp : List Addr), PE (X.blk s H scope (compEnvC scope cl C X.env) fp) elt te) (hs : ∀ x, foldedSetIterable iter X.env x = pure x := by intro _; rfl) :
    PE X (.SetComp elt [⟨tg, iter, ifs, 0⟩] scope pos) (tScI X.w wi g tt te (own.map (·.2))) := by
  refine ⟨fun pins s σ H Q I h => ?_⟩
  rw [PpSet.eval_SetComp]
  refine scI_core hc hN I hi ok hg ht he hs h fun D C s' m H' I' q hn f => ⟨m, hn, fun h'' sb => ?_⟩
  obtain ⟨f0, f1, f2, f3, f4, f5⟩ := f
  exact ⟨.ref D, H', I'.turned (t' := s'.toks) (fun b o hb e => (sb.2 b hb).trans e) f0 f1 f3 f4 f5, rfl, q⟩
end
/-- over any walk, the elements ints -/
theorem scI_all {J : It} {n : Nat} {G : Hp → Prop} {Y : Nat → Hp → V → Hp → Prop} {w : World} {g : TG} {te : TE} {vs : List Nat} {σ : L2.St} {H1 : Hp} {D : Addr} {Qd : Hp → Prop} (wk : Walk J n G Y) (hn : n ≤ 1000) (v : Nat → Int) (hD : H1 D = none) (hG : ∀ H', Ex H1 H' → G H')
    (hs : ∀ i x Hc H', i < n → Ex H1 Hc → Y i Hc x H' → g x (wipe σ vs) H' fun σ2 H2 => wipe σ2 vs = wipe σ vs ∧ ∀ Q : VK, (∀ H4, Ex Hc H4 → Q (.int (v i)) H4) → te σ2 H2 Q)
    (gm : ∀ x σ H (Q Q' : L2.St → Hp → Prop), (∀ σ2 H2, Q σ2 H2 → Q' σ2 H2) → g x σ H Q → g x σ H Q')
    (hd : ∀ H' S c, Ex H1 H' → H' D = some (SetO w D S c) → c ≤ n → (∀ k, S k = true ↔ ∃ i, i < n ∧ k = v i) → Qd H') :
    ∃ W : Nat → Nat → Hp → Prop, (∃ m, W 0 m (upd H1 D (SetO w D (fun _ => false) 0))) ∧ ∀ i m H, W i m H →
      (J.stop i H ∧ Qd H) ∨ (J.go i H ∧ ∃ Nx : Hp → Prop, (∀ H', Nx H' → ∃ m', m' < m ∧ W (i + 1) m' H') ∧ ∀ x H', J.yld i H x H' → g x (wipe σ vs) H' fun σ2 H2 => wipe σ2 vs = wipe σ vs ∧ tYes σ2 H2 fun b H3 =>
        if b = true then te σ2 H3 fun y H4 => ∃ (c : Int) (S : Int → Bool) (n : Nat), y = .int c ∧ H4 D = some (SetO w D S n) ∧ n + 1 < scanBound ∧ Nx (upd H4 D (SetO w D (fun j => S j || decide (j = c)) (if S c = true then n else n + 1))) else Nx H3) := by
  refine ⟨fun i m H => m = n - i ∧ i ≤ n ∧ Ex H1 H ∧ ∃ S c, H D = some (SetO w D S c) ∧ c ≤ i ∧ ∀ k, S k = true ↔ ∃ j, j < i ∧ k = v j, ⟨n, by simp, Nat.zero_le _, exn hD, _, _, upd_same, Nat.le_refl 0, fun k => by simp⟩, ?_⟩
  rintro i m H ⟨rfl, hi, e, S, c, h1, h2, h3⟩
  by_cases hlt : i < n
  · refine .inr ⟨wk.goes i H hlt (hG H e), fun H' => Ex H1 H' ∧ ∃ S c, H' D = some (SetO w D S c) ∧ c ≤ i + 1 ∧ ∀ k, S k = true ↔ ∃ j, j < i + 1 ∧ k = v j, fun H' p => ⟨n - (i + 1), by omega, rfl, hlt, p⟩, fun x H' y => ?_⟩
    refine gm _ _ _ _ _ (fun σ2 H2 z => ⟨z.1, ?_⟩) (hs i x H H' hlt e (wk.yields i H x H' hlt (hG H e) y))
    refine tyes (z.2 _ fun H4 e4 => ?_)
    refine ⟨v i, S, c, rfl, e4 _ _ h1, Nat.lt_of_le_of_lt (show c + 1 ≤ 1001 by omega) (by decide +kernel), exm (ext e e4) hD, _, _, upd_same, by split <;> omega, fun k => ?_⟩
    rw [Bool.or_eq_true, h3 k, decide_eq_true_eq]
    constructor
    · rintro (⟨j, hj, ek⟩ | ek)
      · exact ⟨j, by omega, ek⟩
      · exact ⟨i, by omega, ek⟩
    · rintro ⟨j, hj, ek⟩
      by_cases hji : j = i
      · subst hji; exact .inr ek
      · exact .inl ⟨j, by omega, ek⟩
  · have ei : i = n := by omega
    subst ei
    exact .inl ⟨wk.stops H (hG H e), hd H S c e h1 h2 h3⟩
end Hw
/-! R3 -/
/-! R3: rules told by what the heap has behind them. -/
namespace Hw
open PySem PySem.Spec PyProof.Rows L2 RZ
section
variable {X : Cx}
/-- tuple(x), x a list or a tuple -/
def rTupG : List V → Hp → VK → Prop := fun vs H Q => ∃ (p : Addr) (xs : List V), vs = [.ref p] ∧ (H p = some (.lst xs) ∨ H p = some (.tup xs)) ∧ ∀ l H', Ex H H' → H' l = some (.tup xs) → Q (.ref l) H'
theorem call_tupG : CallR X (.type "tuple") rTupG := by
  intro pins s σ H vs us Q I r h
  obtain ⟨p, xs, rfl, hx, q⟩ := h
  refine call_tuple_of pins s σ H _ us Q I r ⟨p, xs, rfl, ?_⟩
  rcases hx with hx | hx
  · exact .inl ⟨sq_l hx, fun l hl => q l _ (exn hl) upd_same⟩
  · exact .inr ⟨sq_t hx, q p _ exr hx⟩
/-- t[lo:hi] -/
def rSlG : V → Option Int → Option Int → Hp → VK → Prop := fun x lo hi H Q => ∃ (a : Addr) (xs : List V), x = .ref a ∧ H a = some (.tup xs) ∧ ∀ l H', Ex H H' → H' l = some (.tup (cutV xs lo hi)) → Q (.ref l) H'
theorem cut_whole {xs : List V} {lo hi : Option Int} (h : HT.sIx xs.length 0 lo = 0 ∧ HT.sIx xs.length xs.length hi = xs.length) : cutV xs lo hi = xs := by
  unfold cutV
  rw [h.1, h.2, List.drop_zero]
  exact List.take_of_length_le (by omega)
theorem sl_tupG : SlR X rSlG := by
  intro pins s σ H x v vl vu lo hi sl Q I rx hs pl pu h
  obtain ⟨a, xs, rfl, hx, q⟩ := h
  refine sl_tupA pins s σ H _ v vl vu lo hi sl Q I rx hs pl pu ⟨a, xs, rfl, sq_t hx, fun e => ?_, fun _ p hp => q p _ (exn hp) upd_same⟩
  exact q a H exr (by rw [cut_whole e]; exact hx)
/-- t + u -/
def rCatG : R2 := fun x y H Q => ∃ (a b : Addr) (xs ys : List V), x = .ref a ∧ y = .ref b ∧ H a = some (.tup xs) ∧ H b = some (.tup ys) ∧ xs.length + ys.length ≤ 100000 ∧ ∀ l H', Ex H H' → H' l = some (.tup (xs ++ ys)) → Q (.ref l) H'
theorem op_catG : OpR X (binaryOp .Add) rCatG := by
  intro pins s σ H x y v u Q I rx ry h
  obtain ⟨a, b, xs, ys, rfl, rfl, hx, hy, hz, q⟩ := h
  cases xs with
  | nil => exact op_catA pins s σ H _ _ v u Q I rx ry ⟨a, b, [], ys, rfl, rfl, sq_t hx, sq_t hy, Evl.sz_of hz, fun _ => q b H exr hy, ⟨fun z => absurd rfl z, fun z => absurd rfl z⟩⟩
  | cons z zs =>
    refine op_catT pins s σ H _ _ v u Q I rx ry ⟨a, b, z :: zs, ys, rfl, rfl, sq_t hx, sq_t hy, List.cons_ne_nil _ _, Evl.sz_of hz, fun e => q a H exr (by rw [e, List.append_nil]; exact hx), fun e p hp => q p _ (exn hp) upd_same⟩
end
theorem walk_zipT {K : PySem.W.Frag} {a b : Addr} {xs ys : List V} {n : Nat} (hn : n = min xs.length ys.length) : Walk (ItzT K a b) n (fun H => SqT K H a xs ∧ SqT K H b ys) (YPair (fun i => xs[i]?) (fun i => ys[i]?)) := by
  subst hn
  refine ⟨fun i _ hi q => ?_, fun _ q => ⟨xs, ys, q.1, q.2, by omega⟩, fun i H v H' _ q y => ?_⟩
  · have h1 : i < xs.length := by omega
    have h2 : i < ys.length := by omega
    exact ⟨xs, ys, xs[i], ys[i], q.1, q.2, by simp [h1], by simp [h2]⟩
  · obtain ⟨T, x, z, h1, h2, h3, h4, h5⟩ := y
    exact ⟨T, x, z, h1, h2, h3, h4 xs q.1, h5 ys q.2⟩
theorem cut_run {xs : List V} {a b : Nat} (h1 : a ≤ b) (h2 : b ≤ xs.length) : cutV xs (some (a : Int)) (some (b : Int)) = (xs.drop a).take (b - a) := by
  unfold cutV
  rw [HT.sIx_nat, HT.sIx_nat, Nat.min_eq_left (show a ≤ xs.length by omega), Nat.min_eq_left (show b ≤ xs.length from h2)]
theorem cut_from {xs : List V} {a : Nat} (h : a ≤ xs.length) : cutV xs (some (a : Int)) none = xs.drop a := by
  unfold cutV
  rw [HT.sIx_nat, HT.sIx_none, Nat.min_eq_left h]
  exact List.take_of_length_le (by rw [List.length_drop]; exact Nat.le_refl _)
theorem cut_to {xs : List V} {b : Nat} (h : b ≤ xs.length) : cutV xs none (some (b : Int)) = xs.take b := by
  unfold cutV
  rw [HT.sIx_none, HT.sIx_nat, Nat.min_eq_left h, List.drop_zero]
  rfl
theorem cut_from' {xs : List V} {a : Nat} : cutV xs (some (a : Int)) none = xs.drop a := by
  by_cases h : a ≤ xs.length
  · exact cut_from h
  · unfold cutV
    rw [HT.sIx_nat, HT.sIx_none, Nat.min_eq_right (by omega), List.drop_length, List.drop_of_length_le (by omega)]
    exact List.take_nil
end Hw
/-! R6 -/
/-! R6: zip of a list and a tuple (turned from the worked proofs of zip of two tuples). -/
namespace Hw
open PySem PySem.Spec PyProof.Rows L2 RZ
open PySem.Sem (wp)
section
variable {prog : Program} {w : World} {A : Around} {E : Value → Shared → Prop} {s : Shared}
theorem zipM_next_item {z TI TO i1 i2 l1 l2 : Addr} {k1 k2 : Nat} {xs ys : Array Value} {x y a b : Value} {Q : Value → Shared → Prop} (D : ZipApart z TI TO i1 i2 l1 l2)
    (hz : IsZip s.heap z TI TO .none) (hTI : IsPair s.heap TI (.ref i1) (.ref i2)) (hTO : IsPair s.heap TO a b)
    (h1 : s.heap.IsListIter i1 l1 k1) (h2 : s.heap.IsTupleIter i2 l2 k2) (hl1 : s.heap.IsList l1 xs) (hl2 : s.heap.IsTuple l2 ys) (hx : xs[k1]? = some x) (hy : ys[k2]? = some y)
    (hQ : ∀ h', IsZip h' z TI TO (rawInt s.heap.objs.size) → IsPair h' TO x y → h'.IsListIter i1 l1 (k1 + 1) → h'.IsTupleIter i2 l2 (k2 + 1) → IsPair h' s.heap.objs.size x y → h'.objs.size = s.heap.objs.size + 1 →
      (∀ c o, c ≠ z → c ≠ TO → c ≠ i1 → c ≠ i2 → s.heap.get? c = some o → h'.get? c = some o) → Q (.ref s.heap.objs.size) { s with heap := h' }) :
    wpAny (model prog w) A (Builtin.«zip.__next__» ⟨[.ref z], []⟩) (fun fin s' => ∃ v, fin = .done (.ret v) ∧ Q v s') E s := by
  show wpAny _ _ (field (.ref z) 2 >>= _) _ _ _
  refine wpAny_bind (wpAny_field hz rfl (x := .bool false) rfl ?_)
  show wpAny _ _ (field (.ref z) 3 >>= _) _ _ _
  refine wpAny_bind (wpAny_field hz rfl (x := .ref TI) rfl ?_)
  refine wpAny_bind (wpAny_seqItems hTI rfl ?_)
  show wpAny _ _ (Builtin.SmallTypes.ownedTupleIsFree (.ref z) >>= _) _ _ _
  refine wpAny_bind ?_
  unfold Builtin.SmallTypes.ownedTupleIsFree
  refine wpAny_bind (wpAny_field hz rfl (x := .none) rfl (wpAny_pure ?_))
  simp only [if_true]
  refine wpAny_bind (wpAny_rule ?_)
  refine wpAny_bind (wpAny_field hz rfl (x := .ref TO) rfl ?_)
  refine wpAny_bind (wpAny_setField_rec hz (by simp) fun h₁ hz₁ hs₁ => ?_)
  replace hz₁ : IsZip h₁ z TI TO .ellipsis := hz₁
  refine wpAny_bind ?_
  simp only [List.zipIdx_cons, List.zipIdx_nil, List.forIn_cons, List.forIn_nil]

  refine wpAny_bind (wpAny_bind (wpAny_onRaise ?_))
  show wpAny _ _ (Builtin.SmallTypes.nextOf (.ref i1) >>= _) _ _ _
  refine wpAny_bind (wpAny_nextOf_list_item (h1.extBut hs₁.extBut D.i1z) (hl1.extBut hs₁.extBut D.l1z) hx fun h₂ h1₂ hs₂ => wpAny_pure ?_)
  have hTO₂ : IsPair h₂ TO a b := hs₂.extBut _ _ D.TOi1 (hs₁.extBut _ _ D.TOz hTO)
  refine wpAny_bind (wpAny_seqItems hTO₂ rfl ?_)
  refine wpAny_bind (wpAny_updateSeq_pair hTO₂ fun h₃ hTO₃ hs₃ => ?_)
  replace hTO₃ : IsPair h₃ TO x b := hTO₃
  refine wpAny_bind (wpAny_letGo (wpAny_pure ?_))

  refine wpAny_bind (wpAny_bind (wpAny_onRaise ?_))
  show wpAny _ _ (Builtin.SmallTypes.nextOf (.ref i2) >>= _) _ _ _
  refine wpAny_bind (nextOf_tuple_item (((h2.extBut hs₁.extBut D.i2z).extBut hs₂.extBut D.i12.symm).extBut hs₃.extBut D.TOi2.symm)
    (((hl2.extBut hs₁.extBut D.l2z).extBut hs₂.extBut D.l2i1).extBut hs₃.extBut D.l2TO) hy fun h₄ h2₄ hs₄ => wpAny_pure ?_)
  have hTO₄ : IsPair h₄ TO x b := hs₄.extBut _ _ D.TOi2 hTO₃
  refine wpAny_bind (wpAny_seqItems hTO₄ rfl ?_)
  refine wpAny_bind (wpAny_updateSeq_pair hTO₄ fun h₅ hTO₅ hs₅ => ?_)
  replace hTO₅ : IsPair h₅ TO x y := hTO₅
  refine wpAny_bind (wpAny_letGo (wpAny_pure (wpAny_pure ?_)))

  refine wpAny_bind (wpAny_seqItems hTO₅ rfl ?_)
  refine wpAny_bind (wpAny_newTuple ?_)
  have hsz : h₅.objs.size = s.heap.objs.size := by rw [hs₅.1, hs₄.1, hs₃.1, hs₂.1, hs₁.1]
  have hz₅ : IsZip h₅ z TI TO .ellipsis := hs₅.extBut _ _ D.TOz.symm (hs₄.extBut _ _ D.i2z.symm (hs₃.extBut _ _ D.TOz.symm (hs₂.extBut _ _ D.i1z.symm hz₁)))
  have hk₅ : ∀ c o, c ≠ z → c ≠ TO → c ≠ i1 → c ≠ i2 → s.heap.get? c = some o → h₅.get? c = some o := fun c o c1 c2 c3 c4 e =>
    hs₅.extBut _ _ c2 (hs₄.extBut _ _ c4 (hs₃.extBut _ _ c2 (hs₂.extBut _ _ c3 (hs₁.extBut _ _ c1 e))))
  have h1₅ : h₅.IsListIter i1 l1 (k1 + 1) := ((h1₂.extBut hs₃.extBut D.TOi1.symm).extBut hs₄.extBut D.i12).extBut hs₅.extBut D.TOi1.symm
  have h2₅ : h₅.IsTupleIter i2 l2 (k2 + 1) := h2₄.extBut hs₅.extBut D.TOi2.symm
  have hzlt : z < h₅.objs.size := Heap.lt_size hz₅
  have hTOlt : TO < h₅.objs.size := Heap.lt_size hTO₅
  have hi1lt : i1 < h₅.objs.size := by obtain ⟨_, e, _⟩ := h1₅; exact Heap.lt_size e
  have hi2lt : i2 < h₅.objs.size := by obtain ⟨_, e, _⟩ := h2₅; exact Heap.lt_size e
  show wpAny _ _ (Builtin.SmallTypes.ownedTupleHandOut (.ref z) (.ref h₅.objs.size) >>= _) _ _ _
  refine wpAny_bind ?_
  unfold Builtin.SmallTypes.ownedTupleHandOut
  have hz₆ : IsZip (h₅.push { cls := .type "tuple", data := .seq #[x, y] }) z TI TO .ellipsis := Heap.get?_push_of_some _ hz₅
  refine wpAny_bind (wpAny_setField_rec hz₆ (by simp) fun h₇ hz₇ hs₇ => ?_)
  replace hz₇ : IsZip h₇ z TI TO (rawInt h₅.objs.size) := hz₇
  refine wpAny_setField_rec hz₇ (by simp) fun h₈ hz₈ hs₈ => ?_
  replace hz₈ : IsZip h₈ z TI TO (rawInt h₅.objs.size) := hz₈
  have up : ∀ c o, c ≠ z → h₅.get? c = some o → h₈.get? c = some o := fun c o c1 e => hs₈.extBut _ _ c1 (hs₇.extBut _ _ c1 (Heap.get?_push_of_some _ e))
  have hT₈ : IsPair h₈ h₅.objs.size x y := hs₈.extBut _ _ (Nat.ne_of_gt hzlt) (hs₇.extBut _ _ (Nat.ne_of_gt hzlt) (Heap.get?_push_size _ rfl))
  have hz8 : h₈.objs.size = h₅.objs.size + 1 := by rw [hs₈.1, hs₇.1, Heap.size_push]
  rw [hsz] at hz₈ hT₈ hz8
  refine wpAny_pure ⟨_, rfl, ?_⟩
  show Q (.ref h₅.objs.size) _
  rw [hsz]
  exact hQ h₈ hz₈ (up _ _ D.TOz hTO₅) (h1₅.at fun o e => up _ o D.i1z e) (h2₅.at fun o e => up _ o D.i2z e) hT₈ hz8 fun c o c1 c2 c3 c4 e => up c o c1 (hk₅ c o c1 c2 c3 c4 e)

theorem zipM_next_end {z TI TO i1 i2 l1 l2 : Addr} {k1 k2 : Nat} {xs ys : Array Value} {a b : Value} {Q : Fin → Shared → Prop} (hh : A.handled = none) (D : ZipApart z TI TO i1 i2 l1 l2)
    (hz : IsZip s.heap z TI TO .none) (hTI : IsPair s.heap TI (.ref i1) (.ref i2)) (hTO : IsPair s.heap TO a b)
    (h1 : s.heap.IsListIter i1 l1 k1) (h2 : s.heap.IsTupleIter i2 l2 k2) (hl1 : s.heap.IsList l1 xs) (hl2 : s.heap.IsTuple l2 ys) (hend : xs[k1]? = none ∨ ys[k2]? = none)
    (hE : ∀ h' e, (∀ c o, c ≠ z → c ≠ TO → c ≠ i1 → c ≠ i2 → s.heap.get? c = some o → h'.get? c = some o) → (∃ o, h'.get? e = some o ∧ o.cls = .type "StopIteration") → E (.ref e) { s with heap := h' }) :
    wpAny (model prog w) A (Builtin.«zip.__next__» ⟨[.ref z], []⟩) Q E s := by
  show wpAny _ _ (field (.ref z) 2 >>= _) _ _ _
  refine wpAny_bind (wpAny_field hz rfl (x := .bool false) rfl ?_)
  show wpAny _ _ (field (.ref z) 3 >>= _) _ _ _
  refine wpAny_bind (wpAny_field hz rfl (x := .ref TI) rfl ?_)
  refine wpAny_bind (wpAny_seqItems hTI rfl ?_)
  show wpAny _ _ (Builtin.SmallTypes.ownedTupleIsFree (.ref z) >>= _) _ _ _
  refine wpAny_bind ?_
  unfold Builtin.SmallTypes.ownedTupleIsFree
  refine wpAny_bind (wpAny_field hz rfl (x := .none) rfl (wpAny_pure ?_))
  simp only [if_true]
  refine wpAny_bind (wpAny_rule ?_)
  refine wpAny_bind (wpAny_field hz rfl (x := .ref TO) rfl ?_)
  refine wpAny_bind (wpAny_setField_rec hz (by simp) fun h₁ hz₁ hs₁ => ?_)
  replace hz₁ : IsZip h₁ z TI TO .ellipsis := hz₁
  refine wpAny_bind ?_
  simp only [List.zipIdx_cons, List.zipIdx_nil, List.forIn_cons, List.forIn_nil]
  refine wpAny_bind (wpAny_bind (wpAny_onRaise ?_))
  show wpAny _ _ (Builtin.SmallTypes.nextOf (.ref i1) >>= _) _ _ _
  cases hx : xs[k1]? with
  | none =>
    refine wpAny_bind (wpAny_nextOf_list_end hh (h1.extBut hs₁.extBut D.i1z) (hl1.extBut hs₁.extBut D.l1z) hx fun h₂ e hs₂ he => ?_)
    obtain ⟨oe, hoe, hce⟩ := he
    have hz₂ : IsZip h₂ z TI TO .ellipsis := hs₂ _ _ D.i1z.symm hz₁
    have hez : e ≠ z := fun x => by subst x; rw [hz₂] at hoe; cases hoe; simp at hce
    refine wpAny_setField_rec hz₂ (by simp) fun h₃ _ hs₃ => hE h₃ e (fun c o c1 _ c3 _ x => hs₃.extBut _ _ c1 (hs₂ _ _ c3 (hs₁.extBut _ _ c1 x))) ⟨oe, hs₃.extBut _ _ hez hoe, hce⟩
  | some x =>
    have hy : ys[k2]? = none := by rcases hend with h | h; rw [hx] at h; cases h; exact h
    refine wpAny_bind (wpAny_nextOf_list_item (h1.extBut hs₁.extBut D.i1z) (hl1.extBut hs₁.extBut D.l1z) hx fun h₂ h1₂ hs₂ => wpAny_pure ?_)
    have hTO₂ : IsPair h₂ TO a b := hs₂.extBut _ _ D.TOi1 (hs₁.extBut _ _ D.TOz hTO)
    refine wpAny_bind (wpAny_seqItems hTO₂ rfl ?_)
    refine wpAny_bind (wpAny_updateSeq_pair hTO₂ fun h₃ hTO₃ hs₃ => ?_)
    refine wpAny_bind (wpAny_letGo (wpAny_pure ?_))
    refine wpAny_bind (wpAny_bind (wpAny_onRaise ?_))
    show wpAny _ _ (Builtin.SmallTypes.nextOf (.ref i2) >>= _) _ _ _
    refine wpAny_bind (nextOf_tuple_end hh (((h2.extBut hs₁.extBut D.i2z).extBut hs₂.extBut D.i12.symm).extBut hs₃.extBut D.TOi2.symm)
      (((hl2.extBut hs₁.extBut D.l2z).extBut hs₂.extBut D.l2i1).extBut hs₃.extBut D.l2TO) hy fun h₄ e hs₄ he => ?_)
    obtain ⟨oe, hoe, hce⟩ := he
    have hz₄ : IsZip h₄ z TI TO .ellipsis := hs₄ _ _ D.i2z.symm (hs₃.extBut _ _ D.TOz.symm (hs₂.extBut _ _ D.i1z.symm hz₁))
    have hez : e ≠ z := fun x => by subst x; rw [hz₄] at hoe; cases hoe; simp at hce
    refine wpAny_setField_rec hz₄ (by simp) fun h₅ _ hs₅ => hE h₅ e (fun c o c1 c2 c3 c4 x => hs₅.extBut _ _ c1 (hs₄ _ _ c4 (hs₃.extBut _ _ c2 (hs₂.extBut _ _ c3 (hs₁.extBut _ _ c1 x))))) ⟨oe, hs₅.extBut _ _ hez hoe, hce⟩

theorem pyNext_zipM_item {z TI TO i1 i2 l1 l2 : Addr} {k1 k2 : Nat} {xs ys : Array Value} {x y a b : Value} {Q : Option Value → Shared → Prop} (D : ZipApart z TI TO i1 i2 l1 l2)
    (hz : IsZip s.heap z TI TO .none) (hTI : IsPair s.heap TI (.ref i1) (.ref i2)) (hTO : IsPair s.heap TO a b)
    (h1 : s.heap.IsListIter i1 l1 k1) (h2 : s.heap.IsTupleIter i2 l2 k2) (hl1 : s.heap.IsList l1 xs) (hl2 : s.heap.IsTuple l2 ys) (hx : xs[k1]? = some x) (hy : ys[k2]? = some y)
    (hQ : ∀ h', IsZip h' z TI TO (rawInt s.heap.objs.size) → IsPair h' TO x y → h'.IsListIter i1 l1 (k1 + 1) → h'.IsTupleIter i2 l2 (k2 + 1) → IsPair h' s.heap.objs.size x y → h'.objs.size = s.heap.objs.size + 1 →
      (∀ c o, c ≠ z → c ≠ TO → c ≠ i1 → c ≠ i2 → s.heap.get? c = some o → h'.get? c = some o) → Q (some (.ref s.heap.objs.size)) { s with heap := h' }) :
    wpAny (model prog w) A (pyNext (.ref z)) Q E s := by
  have hT : s.TypeIs (.ref z) "zip" := ⟨_, hz, rfl⟩
  unfold pyNext
  exact wpAny_bind (wpAny_attempt (wpAny_callSpecial?_slot (name := Str.ofString "__next__") hT F.slot_zip_next
    (wpAny_call_entry F.slot_zip_next hT F.entry_zip_next
      (zipM_next_item D hz hTI hTO h1 h2 hl1 hl2 hx hy fun h' a1 a2 a3 a4 a5 a6 a7 => wpAny_pure (hQ h' a1 a2 a3 a4 a5 a6 a7)) (F.args_zip_next_1 _))))

theorem pyNext_zipM_end {z TI TO i1 i2 l1 l2 : Addr} {k1 k2 : Nat} {xs ys : Array Value} {a b : Value} {Q : Option Value → Shared → Prop} (hh : A.handled = none) (D : ZipApart z TI TO i1 i2 l1 l2)
    (hz : IsZip s.heap z TI TO .none) (hTI : IsPair s.heap TI (.ref i1) (.ref i2)) (hTO : IsPair s.heap TO a b)
    (h1 : s.heap.IsListIter i1 l1 k1) (h2 : s.heap.IsTupleIter i2 l2 k2) (hl1 : s.heap.IsList l1 xs) (hl2 : s.heap.IsTuple l2 ys) (hend : xs[k1]? = none ∨ ys[k2]? = none)
    (hQ : ∀ h', (∀ c o, c ≠ z → c ≠ TO → c ≠ i1 → c ≠ i2 → s.heap.get? c = some o → h'.get? c = some o) → Q none { s with heap := h' }) : wpAny (model prog w) A (pyNext (.ref z)) Q E s := by
  have hT : s.TypeIs (.ref z) "zip" := ⟨_, hz, rfl⟩
  unfold pyNext
  refine wpAny_bind (wpAny_attempt (wpAny_callSpecial?_slot (name := Str.ofString "__next__") hT F.slot_zip_next
    (wpAny_call_entry F.slot_zip_next hT F.entry_zip_next (zipM_next_end hh D hz hTI hTO h1 h2 hl1 hl2 hend fun h' e hk he => ?_) (F.args_zip_next_1 _))))
  obtain ⟨o, ho, hc⟩ := he
  refine wpAny_bind (wpAny_isInstance (T := "StopIteration") (b := true) ⟨o, ho, hc⟩ isSubtype_stop ?_)
  exact wpAny_pure (hQ _ hk)
end

abbrev zipMH1 (h : Heap) (l1 : Addr) : Heap := h.push { cls := .type "list_iterator", data := .fields #[.ref l1, .int 0 0] }
abbrev zipMH2 (h : Heap) (l1 l2 : Addr) : Heap := (zipMH1 h l1).push { cls := .type "tuple_iterator", data := .fields #[.ref l2, .int 0 0] }
abbrev zipMH3 (h : Heap) (l1 l2 : Addr) : Heap := (zipMH2 h l1 l2).push { cls := .type "tuple", data := .seq #[.ref h.objs.size, .ref (zipMH1 h l1).objs.size] }
abbrev zipMH4 (h : Heap) (l1 l2 : Addr) : Heap := (zipMH3 h l1 l2).push { cls := .type "tuple", data := .seq #[.none, .none] }
abbrev zipMH5 (h : Heap) (l1 l2 : Addr) : Heap := (zipMH4 h l1 l2).push { cls := .type "zip", data := .fields #[.none, .bool false, .bool false, .ref (zipMH2 h l1 l2).objs.size, .ref (zipMH3 h l1 l2).objs.size] }

theorem meets_zipM_new (l1 l2 : Addr) (xs ys : Array Value) :
    Meets (Builtin.«zip.__new__» ⟨[.type "zip", .ref l1, .ref l2], []⟩) (fun _ R s => s.heap.IsList l1 xs ∧ s.heap.IsTuple l2 ys ∧
      R (.ok (.ret (.ref (zipMH4 s.heap l1 l2).objs.size))) { s with heap := zipMH5 s.heap l1 l2 }) :=
  .of_wp fun prog w A R s h => by
    obtain ⟨hp, g, d, tk, os⟩ := s; obtain ⟨hl1, hl2, h⟩ := h
    have hsub := sub_zip
    have hL1 : Heap.IsList (Shared.heap ⟨hp, g, d, tk, os⟩) l1 xs := hl1
    have hL2 : Heap.IsTuple (Shared.heap ⟨hp.push { cls := .type "list_iterator", data := .fields #[.ref l1, .int 0 0] }, g, d, tk, os⟩) l2 ys := Heap.IsTuple.push hl2 _
    wp_walk using wpAny_pyIter_list hL1, wpAny_pyIter_tuple hL2
    exact ⟨_, rfl, h⟩

section
variable {prog : Program} {w : World} {A : Around} {E : Value → Shared → Prop} {s : Shared}

theorem call_zipM {l1 l2 : Addr} {xs ys : Array Value} {Q : Value → Shared → Prop} (hl1 : s.heap.IsList l1 xs) (hl2 : s.heap.IsTuple l2 ys)
    (h : ∀ h', IsZip h' (s.heap.objs.size + 4) (s.heap.objs.size + 2) (s.heap.objs.size + 3) .none → IsPair h' (s.heap.objs.size + 2) (.ref s.heap.objs.size) (.ref (s.heap.objs.size + 1)) →
      IsPair h' (s.heap.objs.size + 3) .none .none → h'.IsListIter s.heap.objs.size l1 0 → h'.IsTupleIter (s.heap.objs.size + 1) l2 0 → h'.objs.size = s.heap.objs.size + 5 →
      (∀ c o, s.heap.get? c = some o → h'.get? c = some o) → Q (.ref (s.heap.objs.size + 4)) { s with heap := h' }) :
    wpAny (model prog w) A (call (.type "zip") [.ref l1, .ref l2]) Q E s := by
  refine callType_new F.called_zip (by decide) (F.typeCall_zip_2 _ _) (F.newCall_zip_2 _ _) (fun obj => F.args_object_init_3 obj _ _) F.entry_zip_new
    (meets_zipM_new l1 l2 xs ys) ⟨hl1, hl2, ?_⟩
  have z1 : (zipMH1 s.heap l1).objs.size = s.heap.objs.size + 1 := Heap.size_push ..
  have z2 : (zipMH2 s.heap l1 l2).objs.size = s.heap.objs.size + 2 := by rw [Heap.size_push, z1]
  have z3 : (zipMH3 s.heap l1 l2).objs.size = s.heap.objs.size + 3 := by rw [Heap.size_push, z2]
  have z4 : (zipMH4 s.heap l1 l2).objs.size = s.heap.objs.size + 4 := by rw [Heap.size_push, z3]
  have z5 : (zipMH5 s.heap l1 l2).objs.size = s.heap.objs.size + 5 := by rw [Heap.size_push, z4]
  have g5 : (zipMH5 s.heap l1 l2).get? (zipMH4 s.heap l1 l2).objs.size = some _ := Heap.get?_push_size _ rfl
  have g4 : (zipMH5 s.heap l1 l2).get? (zipMH3 s.heap l1 l2).objs.size = some _ := Heap.get?_push_of_some _ (Heap.get?_push_size _ rfl)
  have g3 : (zipMH5 s.heap l1 l2).get? (zipMH2 s.heap l1 l2).objs.size = some _ := Heap.get?_push_of_some _ (Heap.get?_push_of_some _ (Heap.get?_push_size _ rfl))
  have g2 : (zipMH5 s.heap l1 l2).get? (zipMH1 s.heap l1).objs.size = some _ := Heap.get?_push_of_some _ (Heap.get?_push_of_some _ (Heap.get?_push_of_some _ (Heap.get?_push_size _ rfl)))
  have g1 : (zipMH5 s.heap l1 l2).get? s.heap.objs.size = some _ := Heap.get?_push_of_some _ (Heap.get?_push_of_some _ (Heap.get?_push_of_some _ (Heap.get?_push_of_some _ (Heap.get?_push_size _ rfl))))
  show _ ∧ _
  rw [z2, z3, z4] at g5
  rw [z1, z2] at g3
  rw [z3] at g4
  rw [z1] at g2
  rw [z4]
  exact ⟨⟨_, g5, rfl⟩, h _ g5 g3 g4 ⟨_, g1, rfl, rfl⟩ ⟨_, g2, rfl, rfl⟩ z5 fun c o x =>
    Heap.get?_push_of_some _ (Heap.get?_push_of_some _ (Heap.get?_push_of_some _ (Heap.get?_push_of_some _ (Heap.get?_push_of_some _ x))))⟩
end
def ItzM (K : PySem.W.Frag) (a b : Addr) : It :=
  ⟨fun i H => ∃ (xs ys : List V) (x y : V), SqL K H a xs ∧ SqT K H b ys ∧ xs[i]? = some x ∧ ys[i]? = some y,
    fun i H v H' => ∃ T x y, v = .ref T ∧ H T = none ∧ H' = upd H T (.tup [x, y]) ∧ (∀ xs, SqL K H a xs → xs[i]? = some x) ∧ ∀ ys, SqT K H b ys → ys[i]? = some y,
    fun i H => ∃ xs ys : List V, SqL K H a xs ∧ SqT K H b ys ∧ (xs.length ≤ i ∨ ys.length ≤ i)⟩
theorem turn_zipM {P : Program} {w : World} {K : PySem.W.Frag} {elts : List Expr} {kk : Nat} {tpos : Pos} {a b z TI TO i1 i2 : Addr} (D : ZipApart z TI TO i1 i2 a b) :
    Turn P w K (.Tuple elts kk tpos) (ItzM K a b) [z, TI, TO, i1, i2] z (fun i h => IsZip h z TI TO .none ∧ IsPair h TI (.ref i1) (.ref i2) ∧ (∃ x y, IsPair h TO x y) ∧ h.IsListIter i1 a i ∧ h.IsTupleIter i2 b i) where
  mem := by simp
  obj := fun i h st c hc => by
    obtain ⟨hz, hTI, ⟨x, y, hTO⟩, ⟨o1, e1, _, d1⟩, ⟨o2, e2, _, d2⟩⟩ := st
    have e' : c = z ∨ c = TI ∨ c = TO ∨ c = i1 ∨ c = i2 := by simpa using hc
    rcases e' with q | q | q | q | q
    · rw [q]; exact ⟨_, hz, fun v q => nomatch q⟩
    · rw [q]; exact ⟨_, hTI, fun v q => nomatch q⟩
    · rw [q]; exact ⟨_, hTO, fun v q => nomatch q⟩
    · rw [q]; exact ⟨o1, e1, fun v q => by rw [d1] at q; cases q⟩
    · rw [q]; exact ⟨o2, e2, fun v q => by rw [d2] at q; cases q⟩
  keep := fun i h h' st k => by
    obtain ⟨hz, hTI, ⟨x, y, hTO⟩, h1, h2⟩ := st
    exact ⟨k z (by simp) _ hz, k TI (by simp) _ hTI, ⟨x, y, k TO (by simp) _ hTO⟩, h1.at fun o q => k i1 (by simp) o q, h2.at fun o q => k i2 (by simp) o q⟩
  item := by
    intro X hP hw hK hc i pins s σ H E I hf st hg
    subst hP hw hK
    obtain ⟨hz, hTI, ⟨x0, y0, hTO⟩, h1, h2⟩ := st
    obtain ⟨xs, ys, x, y, hqx, hqy, hx, hy⟩ := hg
    obtain ⟨its, rv, p, _⟩ := I.list hqx
    obtain ⟨its2, rv2, p2, _⟩ := I.tuple hqy
    obtain ⟨u, hu, ru⟩ := rv.get hx
    obtain ⟨u2, hu2, ru2⟩ := rv2.get hy
    have hzl : z < s.heap.objs.size := Heap.lt_size hz
    refine pyNext_zipM_item D hz hTI hTO h1 h2 p.isList p2 (x := u) (y := u2) (by simpa using hu) (by simpa using hu2) fun h' z' TO' h1' h2' hT hsz hk => ?_
    refine ⟨_, rfl, wpAny_letOwnedTupleGo_zip (s := { s with heap := h' }) z' fun h'' z'' sb => ?_⟩
    have hT2 : h''.get? s.heap.objs.size = some { cls := .type "tuple", data := .seq #[u, u2] } := (sb.2 _ (Nat.ne_of_gt hzl)).trans hT
    have new : ObjOk X.prog X.w (upd H s.heap.objs.size (.tup [x, y])) h'' s.heap.objs.size (.tup [x, y]) :=
      ⟨by show 2 ≤ sizeLine; decide, [u, u2], .cons ru (.cons ru2 .nil), ⟨_, hT2, rfl, _, rfl⟩⟩
    have I1 : Inv X pins σ (upd H s.heap.objs.size (.tup [x, y])) { s with heap := h'' } :=
      I.turnedNew (t' := s.toks) (ch := [z, TI, TO, i1, i2]) (fun c o hb q => (sb.2 c (fun q' => hb (by simp [q']))).trans (hk c o (fun q' => hb (by simp [q'])) (fun q' => hb (by simp [q'])) (fun q' => hb (by simp [q'])) (fun q' => hb (by simp [q'])) q)) hf (Nat.le_refl _) new
    refine ⟨.ref s.heap.objs.size, _, I1, rfl, ⟨_, x, y, rfl, I.hok.fresh (Nat.le_refl _), rfl, fun l hl => by rw [I.list_inj hl hqx]; exact hx, fun l hl => by rw [I.tuple_inj hl hqy]; exact hy⟩, ⟨z'', ?_, ⟨u, u2, ?_⟩, ?_, ?_⟩, fun c hcm => ?_⟩
    · exact (sb.2 _ D.TIz).trans (hk _ _ D.TIz D.TITO D.TIi1 D.TIi2 hTI)
    · exact (sb.2 _ D.TOz).trans TO'
    · exact h1'.at fun o q => (sb.2 _ D.i1z).trans q
    · exact h2'.at fun o q => (sb.2 _ D.i2z).trans q
    · have hlt : c < s.heap.objs.size := by
        have e' : c = z ∨ c = TI ∨ c = TO ∨ c = i1 ∨ c = i2 := by simpa using hcm
        rcases e' with q | q | q | q | q
        · rw [q]; exact hzl
        · rw [q]; exact Heap.lt_size hTI
        · rw [q]; exact Heap.lt_size hTO
        · rw [q]; obtain ⟨_, e1, _⟩ := h1; exact Heap.lt_size e1
        · rw [q]; obtain ⟨_, e2, _⟩ := h2; exact Heap.lt_size e2
      rw [upd_ne (Nat.ne_of_lt hlt)]
      exact (hf c hcm).1
  done := by
    intro X hP hw hK hc i pins s σ H E I hf st hg
    subst hP hw hK
    obtain ⟨hz, hTI, ⟨x0, y0, hTO⟩, h1, h2⟩ := st
    obtain ⟨xs, ys, hqx, hqy, hend⟩ := hg
    obtain ⟨its, rv, p, _⟩ := I.list hqx
    obtain ⟨its2, rv2, p2, _⟩ := I.tuple hqy
    have l1 := rv.length
    have l2 := rv2.length
    have he : its.toArray[i]? = none ∨ its2.toArray[i]? = none := by
      rcases hend with q | q
      · exact .inl (by simp; omega)
      · exact .inr (by simp; omega)
    exact pyNext_zipM_end (I.ok.hd hc) D hz hTI hTO h1 h2 p.isList p2 he fun h' hk => ⟨rfl, I.turnedL (t' := s.toks) (ch := [z, TI, TO, i1, i2]) (fun c o hb q =>
      hk c o (fun q' => hb (by simp [q'])) (fun q' => hb (by simp [q'])) (fun q' => hb (by simp [q'])) (fun q' => hb (by simp [q'])) q) hf⟩
  self := fun A i s Q E st h => wpAny_pyIter_zip st.1 h

def iZipM (K : PySem.W.Frag) (ta : TA) : TI := fun σ H R => ta σ H fun vs H1 => ∃ a b xs ys, vs = [.ref a, .ref b] ∧ SqL K H1 a xs ∧ SqT K H1 b ys ∧ R (ItzM K a b) H1
theorem pi_zipM {X : Cx} {e e2 : Expr} {ta : TA} {p pos tpos : Pos} {elts : List Expr} {kk : Nat} (hg : Gl X "zip") (hm : X.mg "zip" = none) (ha : PA X [e, e2] ta)
    (hs : starEach [e, e2] X.env = (false, eval e X.env) :: starEach [e2] X.env := by rfl) (hpl : (backTo pos (starEach [e2] X.env)).any (·.1) = false := by rfl) :
    PI X (.Tuple elts kk tpos) (.Call (.Name "zip" p) [e, e2] [] pos) (iZipM X.K ta) := by
  refine ⟨fun pins s σ H R I h => ?_⟩
  refine Call_ (ld_blt I hg hm PyProof.Rows.boot_zip (PyProof.Rows.callWith_type1 (thn (ha.run pos pins s σ H _ I h) fun us s1 ⟨vs, H1, I1, r1, q1⟩ => ?_) hs hpl))
  obtain ⟨a, b, xs, ys, ex, q1⟩ := q1
  subst ex
  cases r1 with
  | cons r rr =>
    cases rr with
    | cons r' rr =>
      cases rr
      cases r
      cases r'
      have fresh5 : ∀ c, c ∈ [s1.heap.objs.size + 4, s1.heap.objs.size + 2, s1.heap.objs.size + 3, s1.heap.objs.size, s1.heap.objs.size + 1] → FpOk X pins H1 c := fun c hcm => by
        have e' : c = s1.heap.objs.size + 4 ∨ c = s1.heap.objs.size + 2 ∨ c = s1.heap.objs.size + 3 ∨ c = s1.heap.objs.size ∨ c = s1.heap.objs.size + 1 := by simpa using hcm
        have hle : s1.heap.objs.size ≤ c := by
          rcases e' with z | z | z | z | z
          · rw [z]; exact Nat.le_add_right _ _
          · rw [z]; exact Nat.le_add_right _ _
          · rw [z]; exact Nat.le_add_right _ _
          · rw [z]; exact Nat.le_refl _
          · rw [z]; exact Nat.le_add_right _ _
        exact I1.fpOk hle (I1.hok.fresh hle)
      obtain ⟨hqx, hqy, q⟩ := q1
      obtain ⟨its, rv, p1, _⟩ := I1.list hqx
      obtain ⟨its2, rv2, p2, _⟩ := I1.tuple hqy
      obtain ⟨o2, ho2, _⟩ := id p2
      refine call_zipM p1.isList (show s1.heap.IsTuple b its2.toArray from p2) fun h' hz hTI hTO h1 h2 hsz hk => wpAny_pyIter_zip hz ?_
      have I2 : Inv X pins σ H1 { s1 with heap := h' } := I1.kept (t' := s1.toks) hk
      exact ⟨s1.heap.objs.size + 4, [s1.heap.objs.size + 4, s1.heap.objs.size + 2, s1.heap.objs.size + 3, s1.heap.objs.size, s1.heap.objs.size + 1], _, _, H1, rfl, I2, turn_zipM (PySem.W.ktu_apart s1.heap.objs.size a b p1.lt (Heap.lt_size ho2)), ⟨hz, hTI, ⟨_, _, hTO⟩, h1, h2⟩, fresh5, q⟩

theorem walk_zipM {K : PySem.W.Frag} {a b : Addr} {xs ys : List V} {n : Nat} (hn : n = min xs.length ys.length) : Walk (ItzM K a b) n (fun H => SqL K H a xs ∧ SqT K H b ys) (YPair (fun i => xs[i]?) (fun i => ys[i]?)) := by
  subst hn
  refine ⟨fun i _ hi q => ?_, fun _ q => ⟨xs, ys, q.1, q.2, by omega⟩, fun i H v H' _ q y => ?_⟩
  · have h1 : i < xs.length := by omega
    have h2 : i < ys.length := by omega
    exact ⟨xs, ys, xs[i], ys[i], q.1, q.2, by simp [h1], by simp [h2]⟩
  · obtain ⟨T, x, z, h1, h2, h3, h4, h5⟩ := y
    exact ⟨T, x, z, h1, h2, h3, h4 xs q.1, h5 ys q.2⟩
end Hw
/-! R5 -/
/-! R5: enumerate of a tuple (turned from the rule of enumerate of a list). -/
namespace Hw
open PySem PySem.Spec PyProof.Rows L2 RZ
open PySem.Sem (wp)
open AutoSeq1 (wpAny_loadPart')
theorem meets_enumT_new (l : Addr) (items : Array Value) (o : Obj) :
    Meets (Builtin.«enumerate.__new__» ⟨[.type "enumerate", .ref l], []⟩) (fun _ R s => s.heap.get? l = some o ∧ s.heap.IsTuple l items ∧
      R (.ok (.ret (.ref (s.heap.push { cls := .type "tuple_iterator", data := .fields #[.ref l, .int 0 0] }).objs.size)))
        { s with heap := (s.heap.push { cls := .type "tuple_iterator", data := .fields #[.ref l, .int 0 0] }).push { cls := .type "enumerate", data := .fields #[.none, .bool false, .ref s.heap.objs.size, rawInt 0, .none, .none] } }) :=
  .of_wp fun prog w A R s h => by
    obtain ⟨hp, g, d, tk, os⟩ := s; obtain ⟨hl, hL0, h⟩ := h
    have hsub := sub_enumerate
    have hL : Heap.IsTuple (Shared.heap ⟨hp, g, d, tk, os⟩) l items := hL0
    wp_walk using wpAny_loadPart' hl
    refine wpAny_stack_any fun st => wpAny_pure ?_
    split
    · rename_i c _ _ _ _ _
      cases (c == Value.type "enumerate")
      · wp_walk using wpAny_loadPart' hl, wpAny_pyIter_tuple hL
        exact ⟨_, rfl, h⟩
      · wp_walk using wpAny_loadPart' hl, wpAny_pyIter_tuple hL
        exact ⟨_, rfl, h⟩
    · wp_walk using wpAny_loadPart' hl, wpAny_pyIter_tuple hL
      exact ⟨_, rfl, h⟩
section
variable {prog : Program} {w : World} {A : Around} {E : Value → Shared → Prop} {s : Shared}
theorem call_enumT {l : Addr} {items : Array Value} {Q : Value → Shared → Prop} (hL : s.heap.IsTuple l items)
    (h : ∀ h', IsEnum h' (s.heap.objs.size + 1) s.heap.objs.size 0 .none → h'.IsTupleIter s.heap.objs.size l 0 → h'.objs.size = s.heap.objs.size + 2 →
      (∀ b o, s.heap.get? b = some o → h'.get? b = some o) → Q (.ref (s.heap.objs.size + 1)) { s with heap := h' }) :
    wpAny (model prog w) A (call (.type "enumerate") [.ref l]) Q E s := by
  obtain ⟨o, hl, hr⟩ := id hL
  refine callType_new F.called_enumerate (by decide) (F.typeCall_enumerate_1 _) (F.newCall_enumerate_1 _) (fun obj => F.args_object_init_2 obj _) F.entry_enumerate_new
    (meets_enumT_new l items o) ⟨hl, hL, ?_⟩
  have hz : (s.heap.push { cls := .type "tuple_iterator", data := .fields #[.ref l, .int 0 0] }).objs.size = s.heap.objs.size + 1 := Heap.size_push ..
  show _ ∧ _
  rw [hz]
  have he : IsEnum ((s.heap.push { cls := .type "tuple_iterator", data := .fields #[.ref l, .int 0 0] }).push
      { cls := .type "enumerate", data := .fields #[.none, .bool false, .ref s.heap.objs.size, rawInt 0, .none, .none] }) (s.heap.objs.size + 1) s.heap.objs.size 0 .none := by
    have := Heap.get?_push_size (s.heap.push { cls := .type "tuple_iterator", data := .fields #[.ref l, .int 0 0] })
      (o := { cls := .type "enumerate", data := .fields #[.none, .bool false, .ref s.heap.objs.size, rawInt 0, .none, .none] }) rfl
    rw [hz] at this; exact this
  refine ⟨⟨_, he, rfl⟩, h _ he ⟨_, Heap.get?_push_of_some _ (Heap.get?_push_size _ rfl), rfl, rfl⟩ (by rw [Heap.size_push, hz]) fun b o x => Heap.get?_push_of_some _ (Heap.get?_push_of_some _ x)⟩
end
def IteT (K : PySem.W.Frag) (a : Addr) : It :=
  ⟨fun i H => ∃ (xs : List V) (x : V), SqT K H a xs ∧ xs[i]? = some x, fun i H v H' => ∃ T x, v = .ref T ∧ H T = none ∧ H' = upd H T (.tup [.int (i : Nat), x]) ∧ ∀ xs, SqT K H a xs → xs[i]? = some x, fun i H => ∃ xs : List V, SqT K H a xs ∧ xs.length = i⟩
theorem apartT {h : Heap} {e it a : Addr} {i : Nat} {k : Int} {old : Value} {items : Array Value} (he : IsEnum h e it k old) (hit : h.IsTupleIter it a i) (p : h.IsTuple a items) : a ≠ it ∧ e ∉ [it, a] ∨ e = it := by
  obtain ⟨o, ho, hc, hd⟩ := hit
  obtain ⟨o2, ho2, hc2, n, hd2⟩ := p
  by_cases z : e = it
  · exact .inr z
  · refine .inl ⟨fun q => ?_, fun q => ?_⟩
    · subst q
      rw [ho] at ho2
      cases ho2
      rw [hd] at hd2
      cases hd2
    · have q : e = it ∨ e = a := by simpa using q
      rcases q with q | q
      · exact z q
      · subst q
        have q2 : h.get? e = some _ := he
        rw [q2] at ho2
        cases ho2
        cases hd2
theorem turn_enumT {P : Program} {w : World} {K : PySem.W.Frag} {elts : List Expr} {kk : Nat} {tpos : Pos} (a e it : Addr) :
    Turn P w K (.Tuple elts kk tpos) (IteT K a) [e, it] e (fun i h => (∃ old, IsEnum h e it ((i : Nat) : Int) old) ∧ h.IsTupleIter it a i ∧ e ≠ it) where
  mem := by simp
  obj := fun i h st b hb => by
    obtain ⟨⟨old, he⟩, ⟨o, ho, hc, hd⟩, _⟩ := st
    have e' : b = e ∨ b = it := by simpa using hb
    rcases e' with z | z
    · rw [z]; exact ⟨_, he, fun v q => nomatch q⟩
    · rw [z]; exact ⟨o, ho, fun v q => by rw [hd] at q; cases q⟩
  keep := fun i h h' st k => let ⟨⟨old, he⟩, hi, hne⟩ := st; ⟨⟨old, k e (by simp) _ he⟩, hi.at fun o q => k it (by simp) o q, hne⟩
  item := by
    intro X hP hw hK hc i pins s σ H E I hf st hg
    subst hP hw hK
    obtain ⟨⟨old, he⟩, hit, hne⟩ := st
    obtain ⟨xs, x, hq, hx⟩ := hg
    obtain ⟨its, rv, p, hz⟩ := I.tuple hq
    have hel : e < s.heap.objs.size := Heap.lt_size he
    have hil : it < s.heap.objs.size := by obtain ⟨_, q, _⟩ := hit; exact Heap.lt_size q
    obtain ⟨nai, nef⟩ := (apartT he hit (show s.heap.IsTuple a its.toArray from p)).resolve_right hne
    obtain ⟨u0, hu0, ru0⟩ := rv.get hx
    have hlt : i < its.toArray.size := by
      have := (List.getElem?_eq_some_iff.mp hu0).1
      simpa using this
    refine wpAny_pyNext_enum_itemD (Draws.tuple (A := X.A.in1) (I.ok.hd hc) it a nai its.toArray) he ⟨hit, p⟩ hlt hne nef fun u h' tk hu ho hit' hT hsz hk => ?_
    have hu : its[i]? = some u := by simpa using hu
    have eu : u0 = u := by rw [hu0] at hu; exact Option.some.inj hu
    subst eu
    refine ⟨_, rfl, wpAny_letOwnedTupleGo_enum (s := { s with heap := h', toks := tk + 1 }) ho fun h'' he' sb => ?_⟩
    have hT2 : h''.get? s.heap.objs.size = some { cls := .type "tuple", data := .seq #[.int i tk, u0] } := (sb.2 _ (Nat.ne_of_gt hel)).trans hT
    have new : ObjOk X.prog X.w (upd H s.heap.objs.size (.tup [.int (i : Nat), x])) h'' s.heap.objs.size (.tup [.int (i : Nat), x]) :=
      ⟨by show 2 ≤ sizeLine; decide, [.int i tk, u0], .cons ⟨_, rfl⟩ (.cons ru0 .nil), ⟨_, hT2, rfl, _, rfl⟩⟩
    have I1 : Inv X pins σ (upd H s.heap.objs.size (.tup [.int (i : Nat), x])) { s with heap := h'', toks := tk + 1 } :=
      I.turnedNew (ch := [e, it]) (fun b ob hb q => (sb.2 b (fun z => hb (by simp [z]))).trans (hk b ob (fun z => hb (by simp [z])) (fun z => hb (by simp [z])) q)) hf (Nat.le_refl _) new
    refine ⟨.ref s.heap.objs.size, _, I1, rfl, ⟨_, x, rfl, I.hok.fresh (Nat.le_refl _), rfl, fun ys hy => by rw [I.tuple_inj hy hq]; exact hx⟩, ⟨⟨u0, ?_⟩, hit'.1.at fun o q => (sb.2 it (Ne.symm hne)).trans q, hne⟩, fun b hb => ?_⟩
    · have e1 : ((i + 1 : Nat) : Int) = (i : Int) + 1 := by omega
      rw [e1]; exact he'
    · have hb' : b < s.heap.objs.size := by
        have e' : b = e ∨ b = it := by simpa using hb
        rcases e' with z | z
        · rw [z]; exact hel
        · rw [z]; exact hil
      rw [upd_ne (Nat.ne_of_lt hb')]
      exact (hf b hb).1
  done := by
    intro X hP hw hK hc i pins s σ H E I hf st hg
    subst hP hw hK
    obtain ⟨⟨old, he⟩, hit, hne⟩ := st
    obtain ⟨xs, hq, hx⟩ := hg
    obtain ⟨its, rv, p, hz⟩ := I.tuple hq
    obtain ⟨f0, f1, f2, f3, f4, f5⟩ := hf it (by simp)
    obtain ⟨nai, nef⟩ := (apartT he hit (show s.heap.IsTuple a its.toArray from p)).resolve_right hne
    have hl := rv.length
    have ei : i = its.toArray.size := by simp; omega
    rw [ei] at hit
    exact wpAny_pyNext_enum_endD (Draws.tuple (A := X.A.in1) (I.ok.hd hc) it a nai its.toArray) he ⟨hit, p⟩ fun h' eb => ⟨rfl, I.turned (t' := s.toks) (fun b o hb q => eb b o hb q) f0 f1 f3 f4 f5⟩
  self := fun A i s Q E st h => let ⟨⟨_, he⟩, _⟩ := st; wpAny_pyIter_enum he h
def iEnumT (K : PySem.W.Frag) (ta : TA) : TI := fun σ H R => ta σ H fun vs H1 => ∃ a xs, vs = [.ref a] ∧ SqT K H1 a xs ∧ R (IteT K a) H1
theorem pi_enumT {X : Cx} {e : Expr} {ta : TA} {p pos tpos : Pos} {elts : List Expr} {kk : Nat} (hg : Gl X "enumerate") (hm : X.mg "enumerate" = none) (ha : PA X [e] ta) (hs : starEach [e] X.env = [(false, eval e X.env)] := by rfl) :
    PI X (.Tuple elts kk tpos) (.Call (.Name "enumerate" p) [e] [] pos) (iEnumT X.K ta) := by
  refine ⟨fun pins s σ H R I h => ?_⟩
  refine Call_ (ld_blt I hg hm boot_enumerate (PyProof.Rows.callWith_type1 (thn (ha.run pos pins s σ H _ I h) fun us s1 ⟨vs, H1, I1, r1, q1⟩ => ?_) hs rfl))
  obtain ⟨a, xs, ex, hq, q⟩ := q1
  subst ex
  cases r1 with
  | cons r rr =>
    cases rr
    cases r
    obtain ⟨its, rv, p', hz⟩ := I1.tuple hq
    refine call_enumT (show s1.heap.IsTuple a its.toArray from p') fun h' he hit hsz hk => wpAny_pyIter_enum he ?_
    have I2 : Inv X pins σ H1 { s1 with heap := h' } := I1.kept (t' := s1.toks) hk
    refine ⟨s1.heap.objs.size + 1, [s1.heap.objs.size + 1, s1.heap.objs.size], _, _, H1, rfl, I2, turn_enumT a (s1.heap.objs.size + 1) s1.heap.objs.size, ⟨⟨.none, he⟩, hit, Nat.succ_ne_self _⟩, fun b hb => ?_, q⟩
    have e' : b = s1.heap.objs.size + 1 ∨ b = s1.heap.objs.size := by simpa using hb
    have hle : s1.heap.objs.size ≤ b := by
      rcases e' with z | z
      · rw [z]; exact Nat.le_add_right _ _
      · rw [z]; exact Nat.le_refl _
    exact I1.fpOk hle (I1.hok.fresh hle)
theorem walk_enumT {K : PySem.W.Frag} {a : Addr} {xs : List V} : Walk (IteT K a) xs.length (fun H => SqT K H a xs) (YPair (fun i => some (.int (i : Nat))) (fun i => xs[i]?)) := by
  refine ⟨fun i _ hi q => ⟨xs, xs[i], q, by simp [hi]⟩, fun _ q => ⟨xs, q, rfl⟩, fun i H v H' _ q y => ?_⟩
  obtain ⟨T, x, h1, h2, h3, h4⟩ := y
  exact ⟨T, _, x, h1, h2, h3, rfl, h4 xs q⟩
end Hw
/-! R7 -/
/-! R7: itertools.permutations of a list of one to four items. -/
namespace Hw
open PySem PySem.Spec PyProof.Rows L2 RZ HR
open PySem.Sem (wp)
theorem mro_perm : mroOf (.type "itertools.permutations") = pure [.type "itertools.permutations", .type "object"] := by rw [mroOf_type]; kernel_rfl
theorem lookup_perm_new : typeLookup (.type "itertools.permutations") "__new__" = pure (some (.builtin "itertools.permutations.__new__")) := by rw [typeLookup_type, builtinLookup_eq_fast]; kernel_rfl
theorem sub_perm : isSubtype (.type "itertools.permutations") (.type "itertools.permutations") = pure true := by rw [isSubtype_type]; kernel_rfl
theorem slot_perm_init : Slot "itertools.permutations" "__init__" "object.__init__" :=
  .of (owner := "object") (n := "__init__") (by rw [typeLookup_type, builtinLookup_eq_fast]; kernel_rfl) (by decide +kernel) (by decide +kernel) (by decide +kernel)
    (by first | exact .inl (by decide +kernel) | exact .inr (by decide +kernel)) (by rw [isSubtype_type]; kernel_rfl)
theorem called_perm : TypeCalled "itertools.permutations" "itertools.permutations.__new__" "object.__init__" :=
  ⟨by decide +kernel, by decide +kernel, ⟨_, _, mro_perm⟩, madeBy_type mro_perm lookup_perm_new (by decide +kernel), by decide +kernel, sub_perm, slot_perm_init⟩
theorem typeCall_perm (a : Value) : checkTypeCall "itertools.permutations" ⟨[a], []⟩ = pure () := by kernel_rfl
theorem newCall_perm (a : Value) : checkBuiltinCall "itertools.permutations.__new__" ⟨[.type "itertools.permutations", a], []⟩ = pure () := by kernel_rfl
theorem entry_perm_new : entryFor table "itertools.permutations.__new__" = some Builtin.«itertools.permutations.__new__» := entryFor_of_tree (by kernel_rfl)
theorem slot_perm_iter : Slot "itertools.permutations" "__iter__" "itertools.permutations.__iter__" :=
  .of (owner := "itertools.permutations") (n := "__iter__") (by rw [typeLookup_type, builtinLookup_eq_fast]; kernel_rfl) (by decide +kernel) (by decide +kernel) (by decide +kernel)
    (by first | exact .inl (by decide +kernel) | exact .inr (by decide +kernel)) sub_perm
theorem slot_perm_next : Slot "itertools.permutations" "__next__" "itertools.permutations.__next__" :=
  .of (owner := "itertools.permutations") (n := "__next__") (by rw [typeLookup_type, builtinLookup_eq_fast]; kernel_rfl) (by decide +kernel) (by decide +kernel) (by decide +kernel)
    (by first | exact .inl (by decide +kernel) | exact .inr (by decide +kernel)) sub_perm
theorem entry_perm_iter : entryFor table "itertools.permutations.__iter__" = some Builtin.«dict_keyiterator.__iter__» :=
  entryFor_alias (id' := "dict_keyiterator.__iter__") (by kernel_rfl) (by first | rfl | decide +kernel | (unfold String.splitOn; simp +decide [String.splitOnAux])) (by decide +kernel) (by kernel_rfl)
theorem entry_perm_next : entryFor table "itertools.permutations.__next__" = some Builtin.«itertools.permutations.__next__» := entryFor_of_tree (by kernel_rfl)
theorem owner_perm : Manifest.owners.lookup (String.ofList ("itertools.permutations".toList.reverse).reverse) = some Manifest.sig_itertools_permutations := by kernel_rfl
theorem args_perm_iter (a : Value) : argsOk "itertools.permutations.__iter__" ⟨[a], []⟩ := by
  unfold argsOk; rw [signature?_of (id := "itertools.permutations.__iter__") (n := "__iter__".toList.reverse) (o := "itertools.permutations".toList.reverse) (by kernel_rfl) owner_perm]; kernel_rfl
theorem args_perm_next (a : Value) : argsOk "itertools.permutations.__next__" ⟨[a], []⟩ := by
  unfold argsOk; rw [signature?_of (id := "itertools.permutations.__next__") (n := "__next__".toList.reverse) (o := "itertools.permutations".toList.reverse) (by kernel_rfl) owner_perm]; kernel_rfl
abbrev PermRec (P : Addr) (st n : Nat) (last : Value) (ns : List Nat) : Obj :=
  { cls := .type "itertools.permutations", dict := none, data := .fields ([Value.ref P, rawInt (st : Int), rawInt (n : Int), last] ++ ns.map fun (k : Nat) => rawInt (k : Int)).toArray, slots := #[] }
def IsPerm (h : Heap) (it P : Addr) (n i : Nat) : Prop := ∃ last, h.get? it = some (PermRec P (if i = 0 then 0 else 1) n last (pst n i))
def pkR (us : List Value) (i : Nat) : List Value := ((pst us.length (i + 1)).take us.length).map fun k => us.getD k .none
theorem pst_len : ∀ n, n < 5 → ∀ i, 0 < i → i ≤ (ptab n).length → (pst n i).length = n + n := by
  have h : ∀ n, n < 5 → ∀ i, i < 25 → 0 < i → i ≤ (ptab n).length → (pst n i).length = n + n := by decide +kernel
  intro n hn i h0 hi
  refine h n hn i ?_ h0 hi
  have h2 : ∀ n, n < 5 → (ptab n).length ≤ 24 := by decide +kernel
  have := h2 n hn
  omega
theorem nb_f (f : Value → Nat) : ∀ ns : List Nat, (∀ k : Nat, f (rawInt (k : Int)) = k) → List.map f (ns.map fun (k : Nat) => rawInt (k : Int)) = ns
  | [], _ => rfl
  | k :: ns, h => by
    rw [List.map_cons, List.map_cons, nb_f f ns h, h k]
section
variable {prog : Program} {w : World} {A : Around} {E : Value → Shared → Prop} {s : Shared} {it P : Addr} {us : List Value}
theorem perm_result {n : Nat} {last : Value} {ns : List Nat} {ix : List Nat} {st : Nat} {Qf : Fin → Shared → Prop} (ho : s.heap.get? it = some (PermRec P st n last ns)) (hl : ix.length ≤ 1000)
    (h : ∀ h', h'.get? it = some (PermRec P st n (.ref s.heap.objs.size) ns) → h'.get? s.heap.objs.size = some { cls := .type "tuple", data := .seq (ix.map fun i => us.toArray.getD i .none).toArray } → (∀ b o, b ≠ it → s.heap.get? b = some o → h'.get? b = some o) →
      Qf (.done (.ret (.ref s.heap.objs.size))) { s with heap := h' }) :
    wpAny (model prog w) A (do
      let t ← newTuple (ix.map fun i => us.toArray.getD i .none)
      let before ← field (.ref it) 3
      setField (.ref it) 3 t
      letGo [before] [t]
      ret t) Qf E s := by
  have hlt : it < s.heap.objs.size := Heap.lt_size ho
  refine wpAny_bind (wpAny_newTuple ?_ (by rw [List.length_map]; exact Nat.le_trans hl (by decide)))
  have ho2 : (s.heap.push { cls := .type "tuple", data := .seq (ix.map fun i => us.toArray.getD i .none).toArray }).get? it = some (PermRec P st n last ns) := Heap.get?_push_of_some _ ho
  refine wpAny_bind (wpAny_field ho2 rfl (x := last) rfl ?_)
  refine wpAny_bind (wpAny_setField_rec ho2 (by simp) fun h' e sb => ?_)
  refine wpAny_bind (wpAny_letGo ?_)
  refine wpAny_pure (h h' ?_ ?_ fun b o hb e' => (sb.2 b hb).trans (Heap.get?_push_of_some _ e'))
  · rw [e]
    simp [PermRec]
  · exact (sb.2 _ (Nat.ne_of_gt hlt)).trans (Heap.get?_push_size _ rfl)
theorem perm_first {n : Nat} {Q : Value → Shared → Prop} (h1 : 0 < n) (h4 : n < 5) (hn : us.length = n) (ho : IsPerm s.heap it P n 0) (hP : s.heap.IsTuple P us.toArray) (hne : P ≠ it)
    (h : ∀ h', IsPerm h' it P n 1 → h'.get? s.heap.objs.size = some { cls := .type "tuple", data := .seq (pkR us 0).toArray } → (∀ b o, b ≠ it → s.heap.get? b = some o → h'.get? b = some o) → Q (.ref s.heap.objs.size) { s with heap := h' }) :
    wpAny (model prog w) A (Builtin.«itertools.permutations.__next__» ⟨[.ref it], []⟩) (fun fin s' => ∃ v, fin = .done (.ret v) ∧ Q v s') E s := by
  obtain ⟨last, ho⟩ := ho
  rw [if_pos rfl] at ho
  obtain ⟨oP, hoP, _, k, hdP⟩ := id hP
  have hlen := pst_len n h4 1 (by omega) (by have : ∀ n, n < 5 → 0 < n → 1 ≤ (ptab n).length := by decide +kernel
                                             exact this n h4 h1)
  have e0 : pst n 0 = pst n 1 := rfl
  rw [e0] at ho
  generalize hns : pst n 1 = ns at ho hlen
  show wpAny _ _ (field (.ref it) 0 >>= _) _ _ s
  refine wpAny_bind (wpAny_field ho rfl (x := .ref P) rfl ?_)
  show wpAny _ _ ((seqItems? (.ref P) >>= _) >>= _) _ _ s
  refine wpAny_bind (wpAny_bind (wpAny_seqItems hoP hdP (wpAny_pure ?_)))
  show wpAny _ _ ((field (.ref it) 2 >>= _) >>= _) _ _ s
  refine wpAny_bind (wpAny_bind (wpAny_field ho rfl (x := rawInt (n : Int)) rfl (wpAny_pure ?_)))
  show wpAny _ _ ((load it >>= _) >>= _) _ _ s
  refine wpAny_bind (wpAny_bind (wpAny_load ho (wpAny_pure ?_)))
  show wpAny _ _ ((field (.ref it) 1 >>= _) >>= _) _ _ s
  refine wpAny_bind (wpAny_bind (wpAny_field ho rfl (x := rawInt (0 : Int)) rfl (wpAny_pure ?_)))
  show wpAny _ _ (setField (.ref it) 1 (rawInt 1) >>= _) _ _ s
  refine wpAny_bind (wpAny_setField_rec ho (by simp) fun h₁ ho₁ sb => ?_)
  have ho₁ : h₁.get? it = some (PermRec P 1 n last ns) := by
    rw [ho₁]
    simp [PermRec]
  have hsz : h₁.objs.size = s.heap.objs.size := sb.1
  rw [show (List.drop 4 ([Value.ref P, rawInt ((0 : Nat) : Int), rawInt (n : Int), last] ++ List.map (fun (k : Nat) => rawInt (k : Int)) ns).toArray.toList) = List.map (fun (k : Nat) => rawInt (k : Int)) ns from rfl, nb_f]
  rotate_left
  · exact fun _ => rfl
  show wpAny _ _ (newTuple (List.map (fun i => us.toArray.getD i Value.none) (List.take ((n : Int)).toNat ns)) >>= _) _ _ _
  rw [Int.toNat_natCast]
  refine perm_result (us := us) ho₁ (by rw [List.length_take]; omega) fun h' a b c => ?_
  refine ⟨.ref h₁.objs.size, rfl, ?_⟩
  rw [hsz]
  refine h h' ⟨.ref h₁.objs.size, ?_⟩ ?_ fun b o hb e => c b o hb ((sb.2 b hb).trans e)
  · rw [if_neg (by decide), hns]
    exact a
  · have b : h'.get? h₁.objs.size = _ := b
    rw [hsz] at b
    rw [b]
    unfold pkR
    rw [hn, hns]
    simp [List.getD_eq_getElem?_getD, Array.getD_eq_getD_getElem?]
theorem perm_more {n i : Nat} {Q : Value → Shared → Prop} (h0 : 0 < i) (h4 : n < 5) (hi : i < (ptab n).length) (hn : us.length = n) (ho : IsPerm s.heap it P n i) (hP : s.heap.IsTuple P us.toArray) (hne : P ≠ it)
    (h : ∀ h', IsPerm h' it P n (i + 1) → h'.get? s.heap.objs.size = some { cls := .type "tuple", data := .seq (pkR us i).toArray } → (∀ b o, b ≠ it → s.heap.get? b = some o → h'.get? b = some o) → Q (.ref s.heap.objs.size) { s with heap := h' }) :
    wpAny (model prog w) A (Builtin.«itertools.permutations.__next__» ⟨[.ref it], []⟩) (fun fin s' => ∃ v, fin = .done (.ret v) ∧ Q v s') E s := by
  obtain ⟨last, ho⟩ := ho
  rw [if_neg (by omega)] at ho
  obtain ⟨oP, hoP, _, k, hdP⟩ := id hP
  have hlen := pst_len n h4 i h0 (by omega)
  generalize hns : pst n i = ns at ho hlen
  show wpAny _ _ (field (.ref it) 0 >>= _) _ _ s
  refine wpAny_bind (wpAny_field ho rfl (x := .ref P) rfl ?_)
  show wpAny _ _ ((seqItems? (.ref P) >>= _) >>= _) _ _ s
  refine wpAny_bind (wpAny_bind (wpAny_seqItems hoP hdP (wpAny_pure ?_)))
  show wpAny _ _ ((field (.ref it) 2 >>= _) >>= _) _ _ s
  refine wpAny_bind (wpAny_bind (wpAny_field ho rfl (x := rawInt (n : Int)) rfl (wpAny_pure ?_)))
  show wpAny _ _ ((load it >>= _) >>= _) _ _ s
  refine wpAny_bind (wpAny_bind (wpAny_load ho (wpAny_pure ?_)))
  show wpAny _ _ ((field (.ref it) 1 >>= _) >>= _) _ _ s
  refine wpAny_bind (wpAny_bind (wpAny_field ho rfl (x := rawInt (1 : Int)) rfl (wpAny_pure ?_)))
  rw [show (List.drop 4 ([Value.ref P, rawInt ((1 : Nat) : Int), rawInt (n : Int), last] ++ List.map (fun (k : Nat) => rawInt (k : Int)) ns).toArray.toList) = List.map (fun (k : Nat) => rawInt (k : Int)) ns from rfl, nb_f]
  rotate_left
  · exact fun _ => rfl
  dsimp only [rawInt]
  rw [Int.toNat_natCast, show us.toArray.size = n from by simpa using hn]
  split
  · rename_i z
    exact absurd z (by decide)
  · split
    · rename_i a b heq
      have key : (a, b) = ((pst n (i + 1)).take n, (pst n (i + 1)).drop n) := by
        subst hns
        revert heq h0 hi
        clear hlen h ho hn
        revert i
        match n, h4 with
        | 0, _ => exact fun i _ hi => absurd hi (Nat.not_lt_zero _)
        | 1, _ =>
          intro i h0 hi
          exact absurd hi (by show ¬ i < 1; omega)
        | 2, _ =>
          intro i h0 hi
          iterate 2 (rcases i with _ | i; · first | exact absurd h0 (Nat.lt_irrefl _) | exact fun heq => (Option.some.inj heq).symm)
          exact absurd hi (by show ¬ i + 1 + 1 < 2; omega)
        | 3, _ =>
          intro i h0 hi
          iterate 6 (rcases i with _ | i; · first | exact absurd h0 (Nat.lt_irrefl _) | exact fun heq => (Option.some.inj heq).symm)
          exact absurd hi (by show ¬ i + 1 + 1 + 1 + 1 + 1 + 1 < 6; omega)
        | 4, _ =>
          intro i h0 hi
          iterate 24 (rcases i with _ | i; · first | exact absurd h0 (Nat.lt_irrefl _) | exact fun heq => (Option.some.inj heq).symm)
          exact absurd hi (by show ¬ i + 1 + 1 + 1 + 1 + 1 + 1 + 1 + 1 + 1 + 1 + 1 + 1 + 1 + 1 + 1 + 1 + 1 + 1 + 1 + 1 + 1 + 1 + 1 + 1 < 24; omega)
        | n + 5, h4 =>
          intro i
          exact absurd h4 (by omega)
      have ea : a = (pst n (i + 1)).take n := congrArg Prod.fst key
      have eb : b = (pst n (i + 1)).drop n := congrArg Prod.snd key
      have eab : a ++ b = pst n (i + 1) := by rw [ea, eb, List.take_append_drop]
      have hle : i + 1 ≤ (ptab n).length := hi
      have hlen2 := pst_len n h4 (i + 1) (by omega) hle
      show wpAny _ _ (updateFields it (fun fs => fs.extract 0 4 ++ ((a ++ b).map fun (k : Nat) => rawInt (k : Int)).toArray) >>= _) _ _ _
      rw [eab]
      have hsz2 : (([Value.ref P, rawInt ((1 : Nat) : Int), rawInt (n : Int), last] ++ List.map (fun (k : Nat) => rawInt (k : Int)) ns).toArray.extract 0 4 ++ ((pst n (i + 1)).map fun (k : Nat) => rawInt (k : Int)).toArray) = ([Value.ref P, rawInt ((1 : Nat) : Int), rawInt (n : Int), last] ++ List.map (fun (k : Nat) => rawInt (k : Int)) (pst n (i + 1))).toArray := by
        simp
      refine wpAny_bind (wpAny_updateFields ho rfl ?_ (by rw [hsz2]; simp; rw [hlen2]; have := PySem.sizeLine_eq; omega))
      have ho₁ : (s.heap.update it (Obj.mapFields fun fs => fs.extract 0 4 ++ ((pst n (i + 1)).map fun (k : Nat) => rawInt (k : Int)).toArray)).get? it = some (PermRec P 1 n last (pst n (i + 1))) := by
        have q := Heap.get?_update_self (Obj.mapFields fun fs => fs.extract 0 4 ++ ((pst n (i + 1)).map fun (k : Nat) => rawInt (k : Int)).toArray) ho rfl
        rw [q]
        unfold Obj.mapFields
        dsimp only
        rw [hsz2]
      have sb : Heap.SameBut it s.heap (s.heap.update it (Obj.mapFields fun fs => fs.extract 0 4 ++ ((pst n (i + 1)).map fun (k : Nat) => rawInt (k : Int)).toArray)) := Heap.SameBut.update ..
      generalize s.heap.update it (Obj.mapFields fun fs => fs.extract 0 4 ++ ((pst n (i + 1)).map fun (k : Nat) => rawInt (k : Int)).toArray) = h₁ at ho₁ sb
      have hsz : h₁.objs.size = s.heap.objs.size := sb.1
      have hta : a.take n = a := by rw [ea, List.take_take, Nat.min_self]
      show wpAny _ _ (newTuple (List.map (fun i => us.toArray.getD i Value.none) (List.take n a)) >>= _) _ _ _
      rw [hta]
      refine perm_result (us := us) ho₁ (by rw [ea, List.length_take]; omega) fun h' a1 b1 c1 => ?_
      refine ⟨.ref h₁.objs.size, rfl, ?_⟩
      rw [hsz]
      refine h h' ⟨.ref h₁.objs.size, ?_⟩ ?_ fun b o hb e => c1 b o hb ((sb.2 b hb).trans e)
      · rw [if_neg (by omega)]
        exact a1
      · have b1 : h'.get? h₁.objs.size = _ := b1
        rw [hsz] at b1
        rw [b1]
        unfold pkR
        rw [hn, ea]
        simp [List.getD_eq_getElem?_getD, Array.getD_eq_getD_getElem?]
    · rename_i heq
      exfalso
      subst hns
      revert heq h0 hi
      clear hlen h ho hn
      revert i
      match n, h4 with
      | 0, _ => exact fun i _ hi => absurd hi (Nat.not_lt_zero _)
      | 1, _ =>
        intro i h0 hi
        exact absurd hi (by show ¬ i < 1; omega)
      | 2, _ =>
        intro i h0 hi
        iterate 2 (rcases i with _ | i; · first | exact absurd h0 (Nat.lt_irrefl _) | exact fun heq => nomatch (show some _ = none from heq))
        exact absurd hi (by show ¬ i + 1 + 1 < 2; omega)
      | 3, _ =>
        intro i h0 hi
        iterate 6 (rcases i with _ | i; · first | exact absurd h0 (Nat.lt_irrefl _) | exact fun heq => nomatch (show some _ = none from heq))
        exact absurd hi (by show ¬ i + 1 + 1 + 1 + 1 + 1 + 1 < 6; omega)
      | 4, _ =>
        intro i h0 hi
        iterate 24 (rcases i with _ | i; · first | exact absurd h0 (Nat.lt_irrefl _) | exact fun heq => nomatch (show some _ = none from heq))
        exact absurd hi (by show ¬ i + 1 + 1 + 1 + 1 + 1 + 1 + 1 + 1 + 1 + 1 + 1 + 1 + 1 + 1 + 1 + 1 + 1 + 1 + 1 + 1 + 1 + 1 + 1 + 1 < 24; omega)
      | n + 5, h4 =>
        intro i
        exact absurd h4 (by omega)
  · rename_i z
    exact absurd rfl z
theorem perm_end {n i : Nat} {Q : Fin → Shared → Prop} (hh : A.handled = none) (h1 : 0 < n) (h4 : n < 5) (hi : i = (ptab n).length) (hn : us.length = n) (ho : IsPerm s.heap it P n i) (hP : s.heap.IsTuple P us.toArray)
    (hE : ∀ h' e, (∀ b o, b ≠ it → s.heap.get? b = some o → h'.get? b = some o) → (∃ o, h'.get? e = some o ∧ o.cls = .type "StopIteration") → E (.ref e) { s with heap := h' }) :
    wpAny (model prog w) A (Builtin.«itertools.permutations.__next__» ⟨[.ref it], []⟩) Q E s := by
  obtain ⟨last, ho⟩ := ho
  have h0 : 0 < i := by
    have : ∀ n, n < 5 → 0 < n → 0 < (ptab n).length := by decide +kernel
    have := this n h4 h1
    omega
  rw [if_neg (by omega)] at ho
  obtain ⟨oP, hoP, _, k, hdP⟩ := id hP
  have hlen := pst_len n h4 i h0 (by omega)
  generalize hns : pst n i = ns at ho hlen
  show wpAny _ _ (field (.ref it) 0 >>= _) _ _ s
  refine wpAny_bind (wpAny_field ho rfl (x := .ref P) rfl ?_)
  show wpAny _ _ ((seqItems? (.ref P) >>= _) >>= _) _ _ s
  refine wpAny_bind (wpAny_bind (wpAny_seqItems hoP hdP (wpAny_pure ?_)))
  show wpAny _ _ ((field (.ref it) 2 >>= _) >>= _) _ _ s
  refine wpAny_bind (wpAny_bind (wpAny_field ho rfl (x := rawInt (n : Int)) rfl (wpAny_pure ?_)))
  show wpAny _ _ ((load it >>= _) >>= _) _ _ s
  refine wpAny_bind (wpAny_bind (wpAny_load ho (wpAny_pure ?_)))
  show wpAny _ _ ((field (.ref it) 1 >>= _) >>= _) _ _ s
  refine wpAny_bind (wpAny_bind (wpAny_field ho rfl (x := rawInt (1 : Int)) rfl (wpAny_pure ?_)))
  rw [show (List.drop 4 ([Value.ref P, rawInt ((1 : Nat) : Int), rawInt (n : Int), last] ++ List.map (fun (k : Nat) => rawInt (k : Int)) ns).toArray.toList) = List.map (fun (k : Nat) => rawInt (k : Int)) ns from rfl, nb_f]
  rotate_left
  · exact fun _ => rfl
  dsimp only [rawInt]
  rw [Int.toNat_natCast, show us.toArray.size = n from by simpa using hn]
  split
  · rename_i z
    exact absurd z (by decide)
  · split
    · rename_i a b heq
      exfalso
      subst hns hi
      revert heq h1
      clear h0 hlen ho hn
      match n, h4 with
      | 0, _ => exact fun h1 => absurd h1 (Nat.lt_irrefl _)
      | 1, _ => exact fun _ heq => nomatch (show none = some _ from heq)
      | 2, _ => exact fun _ heq => nomatch (show none = some _ from heq)
      | 3, _ => exact fun _ heq => nomatch (show none = some _ from heq)
      | 4, _ => exact fun _ heq => nomatch (show none = some _ from heq)
      | n + 5, h4 => exact absurd h4 (by omega)
    · refine wpAny_bind (wpAny_setField_rec ho (by simp) fun h₁ ho₁ sb => ?_)
      show wpAny _ _ (newExc (.type "StopIteration") [] >>= _) _ _ _
      refine wpAny_bind ?_
      simp only [newExc, newTuple]
      refine wpAny_bind (wpAny_newObj_type ?_ (by size_fits))
      refine wpAny_bind (m := firstArgMember _ _) (wpAny_of_eq (a := Value.none) (by first | rfl | (simp only [firstArgMember]; rfl)) ?_)
      refine wpAny_newObj_type ?_ (by size_fits)
      simp only [raiseNew]
      refine wpAny_bind (wpAny_handled ?_)
      first | rw [show A.in1.handled = none from hh] | rw [hh]
      refine wpAny_bind (wpAny_pure (wpAny_throw ?_))
      exact hE _ _ (fun b o hb e => Heap.get?_push_of_some _ (Heap.get?_push_of_some _ ((sb.2 b hb).trans e))) ⟨_, Heap.get?_push_size _ rfl, rfl⟩
  · rename_i z
    exact absurd rfl z
theorem perm_typeIs {n i : Nat} (ho : IsPerm s.heap it P n i) : s.TypeIs (.ref it) "itertools.permutations" := let ⟨_, h⟩ := ho; ⟨_, h, rfl⟩
theorem pyNext_perm_item {n i : Nat} {Q : Option Value → Shared → Prop} (h1 : 0 < n) (h4 : n < 5) (hi : i < (ptab n).length) (hn : us.length = n) (ho : IsPerm s.heap it P n i) (hP : s.heap.IsTuple P us.toArray) (hne : P ≠ it)
    (h : ∀ h', IsPerm h' it P n (i + 1) → h'.get? s.heap.objs.size = some { cls := .type "tuple", data := .seq (pkR us i).toArray } → (∀ b o, b ≠ it → s.heap.get? b = some o → h'.get? b = some o) → Q (some (.ref s.heap.objs.size)) { s with heap := h' }) :
    wpAny (model prog w) A (pyNext (.ref it)) Q E s := by
  unfold pyNext
  refine wpAny_bind (wpAny_attempt (wpAny_callSpecial?_slot (name := Str.ofString "__next__") (perm_typeIs ho) slot_perm_next (wpAny_call_entry slot_perm_next (perm_typeIs ho) entry_perm_next ?_ (args_perm_next _))))
  by_cases h0 : i = 0
  · subst h0
    exact perm_first h1 h4 hn ho hP hne fun h' a b c => wpAny_pure (h h' a b c)
  · exact perm_more (by omega) h4 hi hn ho hP hne fun h' a b c => wpAny_pure (h h' a b c)
theorem pyNext_perm_end {n i : Nat} {Q : Option Value → Shared → Prop} (hh : A.handled = none) (h1 : 0 < n) (h4 : n < 5) (hi : i = (ptab n).length) (hn : us.length = n) (ho : IsPerm s.heap it P n i) (hP : s.heap.IsTuple P us.toArray)
    (hQ : ∀ h', (∀ b o, b ≠ it → s.heap.get? b = some o → h'.get? b = some o) → Q none { s with heap := h' }) : wpAny (model prog w) A (pyNext (.ref it)) Q E s := by
  unfold pyNext
  refine wpAny_bind (wpAny_attempt (wpAny_callSpecial?_slot (name := Str.ofString "__next__") (perm_typeIs ho) slot_perm_next (wpAny_call_entry slot_perm_next (perm_typeIs ho) entry_perm_next (perm_end hh h1 h4 hi hn ho hP fun h' e k he => ?_) (args_perm_next _))))
  obtain ⟨o, ho, hc⟩ := he
  refine wpAny_bind (wpAny_isInstance (T := "StopIteration") (b := true) ⟨o, ho, hc⟩ isSubtype_stop ?_)
  exact wpAny_pure (hQ _ k)
theorem pyIter_perm {n i : Nat} {Q : Value → Shared → Prop} (ho : IsPerm s.heap it P n i) (h : Q (.ref it) s) : wpAny (model prog w) A (pyIter (.ref it)) Q E s := by
  refine wpAny_pyIter_slot (perm_typeIs ho) slot_perm_iter (wpAny_call_entry slot_perm_iter (perm_typeIs ho) entry_perm_iter ?_ (args_perm_iter _))
  show wpAny _ _ (ret (.ref it)) _ _ s
  exact wpAny_pure ⟨_, rfl, "itertools.permutations", _, perm_typeIs ho, slot_perm_next.lookup, h⟩
end
end Hw
/-! R8 -/
/-! R8: permutations(..) made and walked. -/
namespace Hw
open PySem PySem.Spec PyProof.Rows L2 RZ HR
open PySem.Sem (wp)
theorem new_fields (n : Nat) (p : Value) : ([p, rawInt (if ((n : Int)).toNat > n then 2 else 0), rawInt (((n : Int)).toNat : Int), Value.none] ++ (List.range n).map (fun (i : Nat) => rawInt (i : Int)) ++ (List.range ((n : Int)).toNat).map fun (i : Nat) => rawInt ((n : Int) - (i : Int)))
    = ([p, rawInt ((0 : Nat) : Int), rawInt (n : Int), Value.none] ++ (List.range n ++ (List.range n).map fun i => n - i).map fun (k : Nat) => rawInt (k : Int)) := by
  rw [Int.toNat_natCast, if_neg (Nat.lt_irrefl n), List.map_append, List.map_map, List.append_assoc]
  congr 2
  refine List.map_congr_left fun i hi => ?_
  have := List.mem_range.mp hi
  show rawInt _ = rawInt _
  congr 1
  show (n : Int) - (i : Int) = ((n - i : Nat) : Int)
  omega
theorem noDict_perm : typeHasDict (.type "itertools.permutations") = false := by decide +kernel
theorem meets_perm_new (l : Addr) (us : List Value) (hz : us.length ≤ 1000) :
    Meets (Builtin.«itertools.permutations.__new__» ⟨[.type "itertools.permutations", .ref l], []⟩)
      (fun _ R s => s.heap.IsList l us.toArray ∧ ∀ h' : Heap, (∀ b o, s.heap.get? b = some o → h'.get? b = some o) → R (.ok (.ret (.ref (h'.objs.size + 1))))
        { s with heap := (h'.push { cls := .type "tuple", data := .seq us.toArray }).push (PermRec h'.objs.size 0 us.length .none (List.range us.length ++ (List.range us.length).map fun i => us.length - i)) }) :=
  .of_wp fun prog w A R s h => by
    obtain ⟨hp, g, d, tk, os⟩ := s
    obtain ⟨⟨o, ho, hc, n, hd⟩, h⟩ := h
    have es : ("itertools." ++ "permutations" : String) = "itertools.permutations" := by decide +kernel
    have hsub : isSubtype (.type "itertools.permutations") (.type ("itertools." ++ "permutations")) = pure true := by rw [es]; exact sub_perm
    have hnd := noDict_perm
    wp_walk using wpAny_collect_seq l (.inl rfl) ho hc hd
    intro h' kp
    have hle : us.toArray.toList.length = us.length := rfl
    show wpAny _ _ (pure (us.toArray.toList.length : Int) >>= _) _ _ _
    refine wpAny_bind (wpAny_pure ?_)
    show wpAny _ _ (if (us.toArray.toList.length : Int) < 0 then _ else _) _ _ _
    rw [if_neg (by omega)]
    show wpAny _ _ (if Builtin.Itertools.itTooMany (us.toArray.toList.length : Int) = true then _ else _) _ _ _
    rw [if_neg (by
      unfold Builtin.Itertools.itTooMany
      intro z
      have z := of_decide_eq_true z
      omega)]
    show wpAny _ _ (newTuple us.toArray.toList >>= _) _ _ _
    refine wpAny_bind (wpAny_newTuple ?_ (by rw [hle]; have := PySem.sizeLine_eq; omega))
    show wpAny _ _ (Builtin.Itertools.itNewRecord _ _ >>= _) _ _ _
    refine wpAny_bind ?_
    unfold Builtin.Itertools.itNewRecord
    rw [hnd, if_pos (by rfl)]
    rw [show us.toArray.toList = us from rfl, new_fields]
    refine wpAny_newObj_type ?_ (by
      show Array.size _ ≤ _
      simp
      have := PySem.sizeLine_eq
      omega)
    refine wpAny_pure ⟨.ref (h'.objs.size + 1), ?_, ?_⟩
    · show Fin.done (Flow.ret (Value.ref (h'.push _).objs.size)) = _
      rw [Heap.size_push]
    · exact h h' kp
section
variable {prog : Program} {w : World} {A : Around} {E : Value → Shared → Prop} {s : Shared}
theorem call_perm {l : Addr} {us : List Value} {Q : Value → Shared → Prop} (hL : s.heap.IsList l us.toArray) (hz : us.length ≤ 1000)
    (h : ∀ (h₀ h' : Heap) it P, (∀ b o, s.heap.get? b = some o → h₀.get? b = some o) → h₀.objs.size ≤ P → h₀.objs.size ≤ it → P ≠ it → IsPerm h' it P us.length 0 → h'.IsTuple P us.toArray → (∀ b o, s.heap.get? b = some o → h'.get? b = some o) → Q (.ref it) { s with heap := h' })
    (hp : pst us.length 0 = (List.range us.length ++ (List.range us.length).map fun i => us.length - i)) :
    wpAny (model prog w) A (call (.type "itertools.permutations") [.ref l]) Q E s := by
  refine callType_new called_perm (by decide +kernel) (typeCall_perm _) (newCall_perm _) (fun obj => F.args_object_init_2 obj _) entry_perm_new (meets_perm_new l us hz) ⟨hL, fun h' kp => ?_⟩
  have hit : ((h'.push { cls := .type "tuple", data := .seq us.toArray }).push (PermRec h'.objs.size 0 us.length .none (List.range us.length ++ (List.range us.length).map fun i => us.length - i))).get? (h'.objs.size + 1) = some (PermRec h'.objs.size 0 us.length .none (pst us.length 0)) := by
    rw [hp]
    have q := Heap.get?_push_size (h'.push { cls := .type "tuple", data := .seq us.toArray }) (o := PermRec h'.objs.size 0 us.length .none (List.range us.length ++ (List.range us.length).map fun i => us.length - i)) rfl
    rw [Heap.size_push] at q
    exact q
  refine ⟨⟨_, hit, rfl⟩, h h' _ _ h'.objs.size kp (Nat.le_refl _) (by omega) (by omega) ⟨_, hit⟩ ?_ fun b o e => Heap.get?_push_of_some _ (Heap.get?_push_of_some _ (kp b o e))⟩
  exact ⟨_, Heap.get?_push_of_some _ (Heap.get?_push_size _ rfl), rfl, _, rfl⟩
end
/-- the i-th order of xs -/
def pkV (xs : List V) (i : Nat) : List V := ((pst xs.length (i + 1)).take xs.length).map fun k => xs.getD k .non
def Itp (xs : List V) : It :=
  ⟨fun i _ => i < (ptab xs.length).length, fun i H v H' => ∃ T, v = .ref T ∧ H T = none ∧ H' = upd H T (.tup (pkV xs i)), fun i _ => i = (ptab xs.length).length⟩
theorem pst_lt : ∀ n, n < 5 → ∀ i, i < (ptab n).length → ∀ k ∈ (pst n (i + 1)).take n, k < n := by
  have h : ∀ n, n < 5 → ∀ i, i < 24 → i < (ptab n).length → ∀ k ∈ (pst n (i + 1)).take n, k < n := by decide +kernel
  have h2 : ∀ n, n < 5 → (ptab n).length ≤ 24 := by decide +kernel
  intro n hn i hi
  exact h n hn i (by have := h2 n hn; omega) hi
theorem vals_pick {xs : List V} {us : List Value} (r : Vals xs us) : ∀ ix : List Nat, (∀ k ∈ ix, k < xs.length) → Vals (ix.map fun k => xs.getD k .non) (ix.map fun k => us.getD k .none)
  | [], _ => .nil
  | k :: ix, h => by
    have hk := h k List.mem_cons_self
    obtain ⟨u, hu, ru⟩ := r.get (List.getElem?_eq_getElem hk)
    refine .cons ?_ (vals_pick r ix fun j hj => h j (List.mem_cons_of_mem _ hj))
    show RelV (xs.getD k .non) (us.getD k .none)
    rw [List.getD_eq_getElem?_getD, List.getD_eq_getElem?_getD, hu, List.getElem?_eq_getElem hk]
    exact ru
theorem turn_perm {P : Program} {w : World} {K : PySem.W.Frag} {x : Str} {pos : Pos} {xs : List V} {us : List Value} (r : Vals xs us) (h1 : 0 < xs.length) (h4 : xs.length < 5) (it p : Addr) (hne : p ≠ it) :
    Turn P w K (.Name x pos) (Itp xs) [it, p] it (fun i h => IsPerm h it p xs.length i ∧ h.IsTuple p us.toArray) where
  mem := by simp
  obj := fun i h st b hb => by
    obtain ⟨⟨last, he⟩, ⟨o, ho, hc, n, hd⟩⟩ := st
    have e' : b = it ∨ b = p := by simpa using hb
    rcases e' with z | z
    · rw [z]; exact ⟨_, he, fun v q => nomatch q⟩
    · rw [z]; exact ⟨o, ho, fun v q => by rw [hd] at q; cases q⟩
  keep := fun i h h' st k => let ⟨⟨last, he⟩, hi⟩ := st; ⟨⟨last, k it (by simp) _ he⟩, hi.at fun o q => k p (by simp) o q⟩
  item := by
    intro X hP hw hK hc i pins s σ H E I hf st hg
    subst hP hw hK
    obtain ⟨hit, hp⟩ := st
    have hl := r.length
    have hit0 := hit
    rw [hl] at hit
    have hil : it < s.heap.objs.size := by obtain ⟨_, q⟩ := hit; exact Heap.lt_size q
    have hpl : p < s.heap.objs.size := by obtain ⟨_, q, _⟩ := hp; exact Heap.lt_size q
    refine pyNext_perm_item (by omega) (by omega) (by rw [← hl]; exact hg) rfl hit hp hne fun h' hit' hT hk => ?_
    refine ⟨_, rfl, ?_⟩
    obtain ⟨last, ho⟩ := id hit'
    refine go_of ho rfl rfl (by decide +kernel) ?_
    have hv : Vals (pkV xs i) (pkR us i) := by
      unfold pkV pkR
      rw [← hl]
      exact vals_pick r _ (pst_lt _ h4 i hg)
    have new : ObjOk X.prog X.w (upd H s.heap.objs.size (.tup (pkV xs i))) h' s.heap.objs.size (.tup (pkV xs i)) := by
      refine ⟨?_, pkR us i, hv, ⟨_, hT, rfl, _, rfl⟩⟩
      unfold pkV
      rw [List.length_map, List.length_take]
      have := PySem.sizeLine_eq
      omega
    have I1 : Inv X pins σ (upd H s.heap.objs.size (.tup (pkV xs i))) { s with heap := h' } :=
      I.turnedNew (t' := s.toks) (ch := [it, p]) (fun b ob hb q => hk b ob (fun z => hb (by simp [z])) q) hf (Nat.le_refl _) new
    refine ⟨.ref s.heap.objs.size, _, I1, rfl, ⟨_, rfl, I.hok.fresh (Nat.le_refl _), rfl⟩, ⟨by rw [hl]; exact hit', hp.at fun o q => hk p o hne q⟩, fun b hb => ?_⟩
    have hb' : b < s.heap.objs.size := by
      have e' : b = it ∨ b = p := by simpa using hb
      rcases e' with z | z
      · rw [z]; exact hil
      · rw [z]; exact hpl
    rw [upd_ne (Nat.ne_of_lt hb')]
    exact (hf b hb).1
  done := by
    intro X hP hw hK hc i pins s σ H E I hf st hg
    subst hP hw hK
    obtain ⟨hit, hp⟩ := st
    have hl := r.length
    rw [hl] at hit
    exact pyNext_perm_end (I.ok.hd hc) (by omega) (by omega) (by rw [← hl]; exact hg) rfl hit hp fun h' hk => ⟨rfl, I.turnedL (t' := s.toks) (ch := [it, p]) (fun b o hb q => hk b o (fun z => hb (by simp [z])) q) hf⟩
  self := fun A i s Q E st h => pyIter_perm st.1 h
def iPerm (K : PySem.W.Frag) (ta : TA) : TI := fun σ H R => ta σ H fun vs H1 => ∃ a xs, vs = [.ref a] ∧ SqL K H1 a xs ∧ 0 < xs.length ∧ xs.length < 5 ∧ R (Itp xs) H1
theorem pi_perm {X : Cx} {e : Expr} {ta : TA} {x : Str} {p pos tpos : Pos} (hg : Gl X "permutations") (hm : X.mg "permutations" = some (.type "itertools.permutations")) (ha : PA X [e] ta) (hs : starEach [e] X.env = [(false, eval e X.env)] := by rfl) :
    PI X (.Name x tpos) (.Call (.Name "permutations" p) [e] [] pos) (iPerm X.K ta) := by
  refine ⟨fun pins s σ H R I h => ?_⟩
  refine wpAny_Call_Name_kw (ld_glob I hg hm ?_ (by decide))
  refine PyProof.Rows.callWith_type1 (thn (ha.run pos pins s σ H _ I h) fun us s1 ⟨vs, H1, I1, r1, q1⟩ => ?_) hs rfl
  obtain ⟨a, xs, ex, hq, h1, h4, q⟩ := q1
  subst ex
  cases r1 with
  | cons r rr =>
    cases rr
    cases r
    obtain ⟨its, rv, p', hz⟩ := I1.list hq
    have hl := rv.length
    refine call_perm p'.isList (by omega) (fun h₀ h' it P k₀ hP hit hne ho hT hk => pyIter_perm ho ?_) ?_
    · have I2 : Inv X pins σ H1 { s1 with heap := h' } := I1.kept (t' := s1.toks) hk
      refine ⟨it, [it, P], _, _, H1, rfl, I2, turn_perm rv h1 h4 it P hne, ⟨by rw [hl]; exact ho, hT⟩, fun b hb => ?_, q⟩
      have e' : b = it ∨ b = P := by simpa using hb
      have I3 : Inv X pins σ H1 { s1 with heap := h₀ } := I1.kept (t' := s1.toks) k₀
      have hle : h₀.objs.size ≤ b := by
        rcases e' with z | z
        · rw [z]; exact hit
        · rw [z]; exact hP
      exact I3.fpOk hle (I3.hok.fresh hle)
    · have : ∀ n, n < 5 → 0 < n → pst n 0 = (List.range n ++ (List.range n).map fun i => n - i) := by decide +kernel
      exact this _ (by omega) (by omega)
theorem walk_perm {xs : List V} : Walk (Itp xs) (ptab xs.length).length (fun _ => True) (fun i H v H' => ∃ T, v = .ref T ∧ H T = none ∧ H' = upd H T (.tup (pkV xs i))) :=
  ⟨fun i _ hi _ => hi, fun _ _ => rfl, fun i H v H' _ _ y => y⟩
end Hw
/-! R9 -/
/-! R9: set(list of ints) (turned from the worked set(tuple of ints)). -/
namespace Hw
open PySem PySem.Spec PyProof.Rows L2 RZ
open PySem.Sem (wp)
section
variable {P : Program} {w : World} {A : Around} {E : Value → Shared → Prop} {s : Shared}
theorem call_set_lstI {l : Addr} {items : Array Value} (ns : List Int) {Q : Value → Shared → Prop} (hh : A.handled = none) (hl : s.heap.IsList l items) (hit : IntsAre items.toList ns) (hb : ns.length + 1 < scanBound)
    (h : ∀ (h' : Heap) (tk c : Nat), SetR w h' s.heap.objs.size (fun j => decide (j ∈ ns)) c → c ≤ ns.length → (∀ b o, s.heap.get? b = some o → h'.get? b = some o) → Q (.ref s.heap.objs.size) { s with heap := h', toks := tk }) :
    wpAny (model P w) A (call (.type "set") [.ref l]) Q E s := by
  have hisz : items.size = ns.length := by
    have q := IntsAre.length hit
    rw [Array.length_toList] at q
    exact q
  obtain ⟨c, tl, hmro⟩ := F.called_set.mro
  have hmade := F.called_set.made
  have hsub := F.called_set.sub
  refine wpAny_call (codeAny_of_tree ?_)
  show wpAny _ _ (callAny (.type "set") _) _ _ _
  refine wpAny_pure ⟨Code.quiet_builtin _ (by decide +kernel), codeAny_builtin F.entry_type_call ?_⟩
  rw [Around.under_plain (weight_type_call_type "set" [.ref l] []) rfl]
  have h1 := F.called_set.notType
  have h2 := F.called_set.canCreate
  have hct := F.typeCall_set_1 (.ref l)
  repeat (any_goals (first | assumption | wp_step))

  refine codeAny_mono (code_set_led1 (.ref l) (E := E) (Q₁ := fun obj s₁ => obj = .ref s.heap.objs.size ∧ s₁ = { s with heap := s.heap.push { cls := .type "set", dict := none, data := .set #[] 0 (.fresh 0 0 (!w.params.followText "set-order")) } }) ⟨rfl, rfl⟩) fun r s₁ hr => ?_
  cases r with
  | error e => exact hr
  | ok fl =>
    cases fl with
    | ret obj =>
      obtain ⟨rfl, rfl⟩ := hr
      have hS : (s.heap.push { cls := .type "set", dict := none, data := .set #[] 0 (.fresh 0 0 (!w.params.followText "set-order")) }).get? s.heap.objs.size = some { cls := .type "set", dict := none, data := .set #[] 0 (.fresh 0 0 (!w.params.followText "set-order")) } := Heap.get?_push_size _ rfl
      have hT : Shared.TypeIs { s with heap := s.heap.push { cls := .type "set", dict := none, data := .set #[] 0 (.fresh 0 0 (!w.params.followText "set-order")) } } (.ref s.heap.objs.size) "set" := ⟨_, hS, rfl⟩
      have hli := F.called_set.init.lookup
      have hbi := F.called_set.init.bind (.ref s.heap.objs.size)
      repeat (any_goals (first | assumption | wp_step))

      refine codeAny_mono (codeAny_call_builtin (R := wants (fun r s₂ => r = .none ∧ ∃ h' tk c, s₂ = { s with heap := h', toks := tk } ∧ SetR w h' s.heap.objs.size (fun j => decide (j ∈ ns)) c ∧ c ≤ ns.length ∧
          (∀ b o, s.heap.get? b = some o → h'.get? b = some o)) E) F.called_set.init.plain F.entry_set_init (check_set_init_1 hT ?_)) fun r₂ s₂ hr₂ => ?_
      · obtain ⟨ol, hol, hcl, nl, hdl⟩ := hl
        obtain ⟨ocls, odict, odata, oslots⟩ := ol
        simp only at hcl hdl
        subst hcl; subst hdl
        have hol' : (s.heap.push { cls := .type "set", dict := none, data := .set #[] 0 (.fresh 0 0 (!w.params.followText "set-order")) }).get? l = some { cls := .type "list", dict := odict, data := .seq items nl, slots := oslots } := Heap.get?_push_of_some _ hol
        have hsls := F.sub_list_set
        have hslf := F.sub_list_frozenset
        have hne : (Value.type "list" == Value.type "dict") = false := by decide
        have hl1 : (s.heap.push { cls := .type "set", dict := none, data := .set #[] 0 (.fresh 0 0 (!w.params.followText "set-order")) }).IsList l items := ⟨_, hol', rfl, nl, rfl⟩
        unfold Builtin.«set.__init__» noKeywords Builtin.Frozenset.updateFrom
        generalize hPI : pyIter = PI
        wp_walk
        subst hPI

        refine wpAny_pyIter_list hl1 ?_
        refine wpAny_bind (wpAny_runValue ?_)
        have hlS : l < s.heap.objs.size := Heap.lt_size hol
        have hh3 : A.in1.in1.in1.handled = none := by simp [hh]
        have hz1 : (s.heap.push { cls := .type "set", dict := none, data := .set #[] 0 (.fresh 0 0 (!w.params.followText "set-order")) }).objs.size = s.heap.objs.size + 1 := Heap.size_push ..
        have hneI : l ≠ (s.heap.push { cls := .type "set", dict := none, data := .set #[] 0 (.fresh 0 0 (!w.params.followText "set-order")) }).objs.size := by
          rw [Heap.size_push]; exact Nat.ne_of_lt (Nat.lt_succ_of_lt hlS)
        have hSf : s.heap.objs.size ∉ [(s.heap.push { cls := .type "set", dict := none, data := .set #[] 0 (.fresh 0 0 (!w.params.followText "set-order")) }).objs.size, l] := by
          rw [Heap.size_push]; simp only [List.mem_cons, List.mem_singleton, List.not_mem_nil, or_false, not_or]
          exact ⟨Nat.ne_of_lt (Nat.lt_succ_self _), Nat.ne_of_gt hlS⟩
        have hval : ∀ (i : Nat) (v : Value), items[i]? = some v → ∃ k t, ns[i]? = some k ∧ v = .int k t := fun i v hv => by
          have hi : i < ns.length := by rw [← hisz]; exact (Array.getElem?_eq_some_iff.mp hv).1
          obtain ⟨t, e⟩ := PyProof.Rows.IntsAre.int_at hit i v (by rw [Array.getElem?_toList]; exact hv)
          refine ⟨ns[i], t, List.getElem?_eq_getElem hi, ?_⟩
          rw [e, List.getD_eq_getElem?_getD, List.getElem?_eq_getElem hi] <;> rfl
        refine set_update_ints ((Walks.list hh3 _ l hneI items).toS) s.heap.objs.size
          hSf ns hisz hb hval (items.size - 0) 0 _ (by omega) (Nat.zero_le _)
          ⟨⟨_, Heap.get?_push_size _ rfl, rfl, rfl⟩, (hl1.push _)⟩ ?hS0 ?hR
        case hS0 =>
          have hget : ((s.heap.push { cls := .type "set", dict := none, data := .set #[] 0 (.fresh 0 0 (!w.params.followText "set-order")) }).push { cls := .type "list_iterator", data := .fields #[.ref l, .int 0 0] }).get? s.heap.objs.size
              = some { cls := .type "set", dict := none, data := .set #[] 0 (.fresh 0 0 (!w.params.followText "set-order")) } := Heap.get?_push_of_some _ hS
          exact ⟨0, Nat.le_refl 0, setR_new_at hget⟩
        case hR =>
          intro s' c' hm hc' hS'
          obtain ⟨h', g2, d', tk', os'⟩ := s'
          have eg : g2 = s.gens := hm.gens
          have ed : d' = s.drawn := hm.drawn
          have eo : os' = s.os := hm.os
          subst eg; subst ed; subst eo
          show wpAny _ _ _ _ _ _
          refine wpAny_pure ?_
          show wpAny _ _ (ret Value.none) _ _ _
          rw [hisz] at hc'
          refine wpAny_pure ⟨rfl, h', tk', c', rfl, hS', hc', fun b o e => ?_⟩
          have hb0 : b < s.heap.objs.size := Heap.lt_size e
          have hb1 : b ≠ s.heap.objs.size := Nat.ne_of_lt hb0
          have hb2 : b ≠ (s.heap.push { cls := .type "set", dict := none, data := .set #[] 0 (.fresh 0 0 (!w.params.followText "set-order")) }).objs.size := by
            rw [Heap.size_push]; exact Nat.ne_of_lt (Nat.lt_succ_of_lt hb0)
          exact hm.heap b o (by simp only [List.mem_cons, List.mem_singleton, List.not_mem_nil, or_false, not_or]; exact ⟨hb1, hb2⟩) (Heap.get?_push_of_some _ (Heap.get?_push_of_some _ e))

      · cases r₂ with
        | error e => exact hr₂
        | ok fl₂ =>
          cases fl₂ with
          | ret r =>
            obtain ⟨rfl, h', tk, c', rfl, hS', hc', hk'⟩ := hr₂
            repeat (any_goals (first | assumption | wp_step))
            exact h _ _ _ hS' hc' hk'
          | _ => exact hr₂.elim
    | _ => exact hr.elim

end
section
variable {X : Cx}
def rSetI (w : World) (K : PySem.W.Frag) : List V → Hp → VK → Prop := fun xs H Q => ∃ (l : Addr) (ns : List Int), xs = [V.ref l] ∧ SqL K H l (ns.map V.int) ∧ ns.length < 64 ∧
  ∀ a S n, H a = none → (∀ k, S k = true ↔ k ∈ ns) → n ≤ ns.length → Q (.ref a) (upd H a (SetO w a S n))
theorem cr_setI (hc : X.calm = true) : CallR X (.type "set") (rSetI X.w X.K) := by
  intro pins s σ H xs us Q I r h
  obtain ⟨l, ns, rfl, hl, hk, q⟩ := h
  rw [Vals.ref1 r]
  obtain ⟨its, rv, pl, hz⟩ := I.list hl
  have hn : H s.heap.objs.size = none := I.hok.fresh (Nat.le_refl _)
  refine call_set_lstI (P := X.prog) (w := X.w) ns (I.ok.hd hc) pl.isList (by simpa using intsAre_vals rv) (by unfold scanBound; omega) fun h' tk c R hc' k => ?_
  refine ⟨.ref s.heap.objs.size, upd H s.heap.objs.size (SetO X.w s.heap.objs.size _ c), I.laid (t' := tk) k (Nat.le_refl _) (setO_new R), rfl, q _ _ c hn (fun j => decide_eq_true_iff) hc'⟩
end
end Hw
/-! R10 -/
/-! R10: min(tuple, key=lambda x: ..). -/
namespace Hw
open PySem PySem.Spec PyProof.Rows L2 RZ
open PySem.Sem (wp)
/-- a lambda with parameters, nothing captured, called -/
theorem run_lam1 {P : Program} {w : World} {K : PySem.W.Frag} {mg : Str → Option Value} {base : Heap} {k : Nat} {f c' : Addr} {qual : Str} {params : Arguments} {body : Expr} {scope : Scope} {pm ctv : Value} {N ps : List Str}
    (S : FnScope N ps scope) {A : Around} {outer : List Env} {s : Shared} {H : Hp} {us : List Value} {vs : List V} {Q : VK} {E : XK} {tb : TE} (hr : Room (k + 1) A) (e0 : Env0 P w K mg base A outer s H)
    (hf : s.heap.get? f = some (PySem.W.kla_obj "<lambda>" qual params body scope [] pm c' ctv)) (hc : H c' = some (LamX.CodeO c' qual))
    (hb : bindArgs (PySem.W.kla_fn "<lambda>" qual params body scope [] pm (.ref c') ctv) ⟨us, []⟩ = pure (ps.zip us)) (r : Vals vs us) (hl : vs.length = ps.length)
    (hbody : Room k (A.deeper (envOfC qual scope s.heap.objs.size f (.ref c'))) → PE (cxOf CX0 P w K mg base N qual scope f (.ref c') A outer s H E) body tb) (ht : tb (L2.start N vs) H Q) :
    codeAny (model P w) A (.call (.ref f) ⟨us, []⟩) (CR CX0 outer P w H s Q E) s := by
  have lim : s.heap.NoLimit := e0.mod.nolimit.keeps fun b o e => (e0.bs b o e).1
  obtain ⟨⟨oc, cs, t, hoc, hdc, hvc⟩, _, _⟩ := e0.hok c' _ hc
  have hkind : ∀ y ∈ ps.zip us, scope.names.lookup y.1 = some .local ∨ (scope.names.lookup y.1 = some .cell ∧ ((cellsFrom (s.heap.objs.size + 1) scope.names []).lookup y.1).isSome = true) := fun ⟨n, v⟩ hy => by
    rcases S.par n (List.of_mem_zip hy).1 with q | q
    · exact .inl q
    · exact .inr ⟨q, PySem.W.cellsFrom_some _ _ _ (.inl q)⟩
  refine PySem.W.kla_callFunE hr.depth hf rfl S.co S.gen rfl ⟨c', oc, cs, t, rfl, hoc, hdc, hvc⟩ ?_
  rw [hb]
  refine wpAny_pure (wpAny_newFunctionEnv_cells S.kind hkind fun env he s1 x => ?_)
  subst he
  refine ⟨lim.keeps x.toInCall.keep, ?_⟩
  show codeAny _ _ (.expr body (envOfC qual scope s.heap.objs.size f (.ref c'))) _ _
  have I : Inv (cxOf CX0 P w K mg base N qual scope f (.ref c') A outer s H E) [] (L2.start N vs) H s1 := inv_start S hr.hd e0 hl r x
  refine PySem.W.kla_codeExpr (wpAny_mono ((hbody (hr.deeper _)).run [] s1 (L2.start N vs) H _ I ht) (fun v s' hq => ?_) fun e s' hq => hq)
  obtain ⟨y, H', J, rv, q⟩ := hq
  exact ⟨y, H', J.os, J.bare, J.base, J.hok, rv, q⟩
section
variable {X : Cx} {pins : List (Addr × Obj)} {σ : L2.St} {H : Hp}
theorem min_loop (kf : Nat → Int) (hh : X.A.handled = none) {t I S q : Addr} {vs : List Value} {oq : Obj} {R : Result → Shared → Prop} (htI : t ≠ I) (hSI : S ≠ I) (hqI : q ≠ I) (hqS : q ≠ S) (fI : FpOk X pins H I) (fS : FpOk X pins H S)
    (hT : ∀ s', Inv X pins σ H s' → s'.heap.IsTuple t vs.toArray)
    (turn : ∀ (i : Nat) (v : Value) (s' : Shared), vs[i]? = some v → Inv X pins σ H s' → s'.heap.get? q = some oq →
      wpAny (model X.prog X.w) X.A.in1 (call (.ref q) [v]) (fun x s'' => (∃ tk, x = .int (kf i) tk) ∧ Inv X pins σ H s'' ∧ ∀ b ∈ [I, S, q], ∀ o, s'.heap.get? b = some o → s''.heap.get? b = some o) (fun _ _ => False) s')
    (hR : ∀ i v s', vs[i]? = some v → (∀ j, j < vs.length → kf i ≤ kf j) → Inv X pins σ H s' → R (.ok (.ret v)) s') :
    ∀ (r j i : Nat) (s : Shared) (vb : Value) (tb : Tok) (c : Nat), vs.length - (j + 1) = r → j + 1 ≤ vs.length → Inv X pins σ H s → s.heap.get? S = some (seqObj "list" #[vb, .int (kf i) tb] c) → s.heap.IsTupleIter I t (j + 1) →
      s.heap.get? q = some oq → vs[i]? = some vb → i ≤ j → (∀ j', j' ≤ j → kf i ≤ kf j') →
      codeAny (model X.prog X.w) X.A (.builtin "min.loop" ⟨[.ref I, .ref q, .ref S], []⟩) R s := by
  have hname : (toString "min" ++ toString ".loop" : String) = "min.loop" := by decide
  have W := Walks.tuple (prog := X.prog) (w := X.w) (A := X.A.in1) hh I t htI vs.toArray
  have hsz : vs.toArray.size = vs.length := List.size_toArray ..
  intro r
  induction r with
  | zero =>
    intro j i s vb tb c hr hj J gS hit gq hvb hij hbest
    have hin : j + 1 = vs.length := by omega
    refine codeAny_builtin PySem.F.entry_min_loop ?_
    rw [Around.under_plainId PySem.F.plain_min_loop _]
    show wpAny _ X.A.in1 (seqItems? (.ref S) >>= _) _ _ _
    refine wpAny_bind (wpAny_seqItems gS rfl ?_)
    show wpAny _ X.A.in1 (tryCatch (pyNext (.ref I)) _ >>= _) _ _ _
    refine wpAny_bind (wpAny_tryCatch (W.done _ _ _ ⟨by rw [hsz, ← hin]; exact hit, hT s J⟩ fun h' tk' hk' => ?_))
    have J1 : Inv X pins σ H { s with heap := h', toks := tk' } := J.turnedL (ch := [I]) (fun b o hb e => hk' b o hb e) (fun b hb => by rw [List.mem_singleton.mp hb]; exact fI)
    have hS' := hk' S _ (by simpa using hSI) gS
    have s1 := Heap.SameBut.update h' S (Obj.mapSeq fun _ => (#[] : Array Value))
    show wpAny _ X.A.in1 (updateSeq S (fun _ => #[]) >>= _) _ _ _
    refine wpAny_bind ?_
    refine wpAny_updateSeq hS' rfl (wpAny_bind (wpAny_letGo (wpAny_pure ?_)))
    refine hR i vb _ hvb (fun j' hj' => hbest j' (by omega)) ?_
    exact J1.turnedL (t' := tk') (ch := [S]) (fun b o hb e => (s1.2 b (by simpa using hb)).trans e) (fun b hb => by rw [List.mem_singleton.mp hb]; exact fS)
  | succ r ih =>
    intro j i s vb tb c hr hj J gS hit gq hvb hij hbest
    have hlt : j + 1 < vs.length := by omega
    refine codeAny_builtin PySem.F.entry_min_loop ?_
    rw [Around.under_plainId PySem.F.plain_min_loop _]
    show wpAny _ X.A.in1 (seqItems? (.ref S) >>= _) _ _ _
    refine wpAny_bind (wpAny_seqItems gS rfl ?_)
    show wpAny _ X.A.in1 (tryCatch (pyNext (.ref I)) _ >>= _) _ _ _
    refine wpAny_bind (wpAny_tryCatch (W.item (j + 1) _ _ _ (by rw [hsz]; exact hlt) ⟨hit, hT s J⟩ fun v h' tk' hP hst' hk' => ?_))
    have hv : vs[j + 1]? = some v := by simpa using hP
    have J1 : Inv X pins σ H { s with heap := h', toks := tk' } := J.turnedL (ch := [I]) (fun b o hb e => hk' b o hb e) (fun b hb => by rw [List.mem_singleton.mp hb]; exact fI)
    have gS1 := hk' S _ (by simpa using hSI) gS
    have gq1 := hk' q _ (by simpa using hqI) gq
    obtain ⟨oI', hoI', hoc, hod⟩ := id hst'.1
    show wpAny _ X.A.in1 (tryCatch (holding [v] (call (.ref q) [v])) _ >>= _) _ _ _
    refine wpAny_bind (wpAny_tryCatch (wpAny_holding (wpAny_mono (turn (j + 1) v { s with heap := h', toks := tk' } hv J1 gq1) (fun x s2 he => ?_) fun _ _ hF => hF.elim)))
    obtain ⟨⟨t2, rfl⟩, J2, k2⟩ := he
    have gS2 := k2 S (by simp) _ gS1
    have gI2 := k2 I (by simp) _ hoI'
    have gq2 := k2 q (by simp) _ gq1
    have hit2 : s2.heap.IsTupleIter I t (j + 1 + 1) := ⟨oI', gI2, hoc, hod⟩
    show wpAny _ X.A.in1 (tryCatch (holding [v, .int (kf (j + 1)) t2] (richCompare .Lt (.int (kf (j + 1)) t2) (.int (kf i) tb) >>= _)) _ >>= _) _ _ _
    refine wpAny_bind (wpAny_tryCatch (wpAny_holding (wpAny_bind (CmpOf.ints_lt (prog := X.prog) (w := X.w) (A := X.A.in1) (P := fun i v => ∃ t, v = .int (kf i) t) kf (fun i v h => h) (j + 1) i _ _ _ _ _ ⟨t2, rfl⟩ ⟨tb, rfl⟩ ?_))))
    refine wpAny_bind (wpAny_holding (wpAny_truthy_bool ?_))
    refine wpAny_bind (wpAny_letGo (wpAny_pure ?_))
    by_cases hb' : kf (j + 1) < kf i
    · have s1 := Heap.SameBut.update s2.heap S (Obj.mapSeq fun _ => #[v, .int (kf (j + 1)) t2])
      obtain ⟨c2, hc2⟩ : ∃ c2, (s2.heap.update S (Obj.mapSeq fun _ => #[v, .int (kf (j + 1)) t2])).get? S = some (seqObj "list" #[v, .int (kf (j + 1)) t2] c2) := ⟨_, get?_update_seq gS2 fun _ => #[v, .int (kf (j + 1)) t2]⟩
      simp only [hb', decide_true, if_true]
      refine wpAny_bind ?_
      refine wpAny_updateSeq gS2 rfl (wpAny_bind (wpAny_letGo ?_))
      rw [hname]
      refine wpAny_pure ⟨plainId_quiet PySem.F.plain_min_loop _, ih (j + 1) (j + 1) _ v t2 c2 (by omega) hlt ?_ hc2 ⟨oI', (s1.2 I hSI.symm).trans gI2, hoc, hod⟩ ((s1.2 q hqS).trans gq2) hv (Nat.le_refl _) fun j' hj' => ?_⟩
      · exact J2.turnedL (t' := s2.toks) (ch := [S]) (fun b o hb e => (s1.2 b (by simpa using hb)).trans e) (fun b hb => by rw [List.mem_singleton.mp hb]; exact fS)
      · by_cases e : j' = j + 1
        · subst e
          omega
        · have hb1 := hbest j' (by omega)
          omega
    · simp only [hb', decide_false, Bool.false_eq_true, if_false]
      refine wpAny_bind (wpAny_letGo ?_)
      rw [hname]
      refine wpAny_pure ⟨plainId_quiet PySem.F.plain_min_loop _, ih (j + 1) i _ vb tb c (by omega) hlt J2 gS2 hit2 gq2 hvb (by omega) fun j' hj' => ?_⟩
      by_cases e : j' = j + 1
      · subst e
        omega
      · exact hbest j' (by omega)
theorem inv_nofr {s : Shared} (I : Inv X pins σ H s) {f : Addr} (hf : s.heap.objs.size ≤ f) : f ∉ frs X.stack := fun z => by
  rcases List.mem_cons.mp (I.stkSub _ z) with e | e
  · have h1 := I.lt
    rw [← e] at h1
    exact Nat.lt_irrefl _ (Nat.lt_of_lt_of_le h1 hf)
  · exact I.nofs hf e
theorem min_key (kf : Nat → Int) {s : Shared} (hh : X.A.handled = none) {t q : Addr} {vs : List Value} {oq : Obj} {Qv : Value → Shared → Prop} {E : Value → Shared → Prop} (J0 : Inv X pins σ H s) (hT : ∀ s', Inv X pins σ H s' → s'.heap.IsTuple t vs.toArray) (hne : 0 < vs.length)
    (gq : s.heap.get? q = some oq) (hq : H q = none) (hqf : q ∉ frs X.stack)
    (turn : ∀ (i : Nat) (v : Value) (s' : Shared), vs[i]? = some v → Inv X pins σ H s' → s'.heap.get? q = some oq →
      wpAny (model X.prog X.w) X.A.in1 (call (.ref q) [v]) (fun x s'' => (∃ tk, x = .int (kf i) tk) ∧ Inv X pins σ H s'' ∧ ∀ b, H b = none → b ∉ frs X.stack → ∀ o, s'.heap.get? b = some o → s''.heap.get? b = some o) (fun _ _ => False) s')
    (hQ : ∀ i v s', vs[i]? = some v → (∀ j, j < vs.length → kf i ≤ kf j) → Inv X pins σ H s' → Qv v s') :
    wpAny (model X.prog X.w) X.A (call (.builtin "min") [.ref t] [(Str.ofString "key", .ref q)]) Qv E s := by
  have hname : (toString "min" ++ toString ".loop" : String) = "min.loop" := by decide
  have hls := hT _ J0
  obtain ⟨ol, hol, _⟩ := id hls
  have htl : t < s.heap.objs.size := Heap.lt_size hol
  have hql : q < s.heap.objs.size := Heap.lt_size gq
  refine kmk_tree PySem.F.kind_min PySem.F.plain_min PySem.F.entry_min (kmk_min_key _ _) ?_
  show wpAny _ X.A.in1 (Builtin.Builtins.bindParams "min" ["key", "default"] 0 ⟨[], [(Str.ofString "key", .ref q)]⟩ >>= _) _ _ s
  refine wpAny_bind (wpAny_of_eq (show Builtin.Builtins.bindParams "min" ["key", "default"] 0 ⟨[], [(Str.ofString "key", .ref q)]⟩ = pure [some (.ref q), none] from rfl) ?_)
  refine wpAny_bind (wpAny_pure ?_)
  refine wpAny_bind (wpAny_pyIter_tuple hls ?_)
  refine wpAny_bind (wpAny_newList ?_ (Nat.zero_le _))
  rw [hname]
  have hS : (s.heap.push { cls := .type "tuple_iterator", data := .fields #[.ref t, .int 0 0] }).objs.size = s.heap.objs.size + 1 := Heap.size_push ..
  have htI : t ≠ s.heap.objs.size := Nat.ne_of_lt htl
  have hqI : q ≠ s.heap.objs.size := Nat.ne_of_lt hql
  have gI : ((s.heap.push { cls := .type "tuple_iterator", data := .fields #[.ref t, .int 0 0] }).push (seqObj "list" #[] 0)).get? s.heap.objs.size = some { cls := .type "tuple_iterator", data := .fields #[.ref t, .int 0 0] } :=
    Heap.get?_push_of_some _ (Heap.get?_push_size _ rfl)
  have gS : ((s.heap.push { cls := .type "tuple_iterator", data := .fields #[.ref t, .int 0 0] }).push (seqObj "list" #[] 0)).get? (s.heap.push { cls := .type "tuple_iterator", data := .fields #[.ref t, .int 0 0] }).objs.size = some (seqObj "list" #[] 0) := Heap.get?_push_size _ rfl
  have gq0 : ((s.heap.push { cls := .type "tuple_iterator", data := .fields #[.ref t, .int 0 0] }).push (seqObj "list" #[] 0)).get? q = some oq := Heap.get?_push_of_some _ (Heap.get?_push_of_some _ gq)
  have J1 : Inv X pins σ H { s with heap := (s.heap.push { cls := .type "tuple_iterator", data := .fields #[.ref t, .int 0 0] }).push (seqObj "list" #[] 0) } := J0.kept (t' := s.toks) fun b o e => Heap.get?_push_of_some _ (Heap.get?_push_of_some _ e)
  generalize hh2 : (s.heap.push { cls := .type "tuple_iterator", data := .fields #[.ref t, .int 0 0] }).push (seqObj "list" #[] 0) = h2 at gI gS gq0 J1
  rw [hS] at gS ⊢
  have hSI : s.heap.objs.size + 1 ≠ s.heap.objs.size := Nat.succ_ne_self _
  have hqS : q ≠ s.heap.objs.size + 1 := Nat.ne_of_lt (Nat.lt_succ_of_lt hql)
  have nI : H s.heap.objs.size = none := J0.hok.fresh (Nat.le_refl _)
  have nS : H (s.heap.objs.size + 1) = none := J0.hok.fresh (Nat.le_succ _)
  have fI : FpOk X pins H s.heap.objs.size := J0.fpOk (Nat.le_refl _) nI
  have fS : FpOk X pins H (s.heap.objs.size + 1) := J0.fpOk (Nat.le_succ _) nS
  have rI := inv_nofr J0 (Nat.le_refl _)
  have rS := inv_nofr J0 (Nat.le_succ s.heap.objs.size)
  generalize s.heap.objs.size = I at *
  have turn2 : ∀ (i : Nat) (v : Value) (s' : Shared), vs[i]? = some v → Inv X pins σ H s' → s'.heap.get? q = some oq →
      wpAny (model X.prog X.w) X.A.in1 (call (.ref q) [v]) (fun x s'' => (∃ tk, x = .int (kf i) tk) ∧ Inv X pins σ H s'' ∧ ∀ b ∈ [I, I + 1, q], ∀ o, s'.heap.get? b = some o → s''.heap.get? b = some o) (fun _ _ => False) s' := fun i v s' hv J g => by
    refine wpAny_mono (turn i v s' hv J g) (fun x s2 he => ⟨he.1, he.2.1, fun b hb o e => ?_⟩) fun _ _ z => z
    have hb' : b = I ∨ b = I + 1 ∨ b = q := by simpa using hb
    rcases hb' with z | z | z
    · subst z; exact he.2.2 _ nI rI o e
    · subst z; exact he.2.2 _ nS rS o e
    · subst z; exact he.2.2 _ hq hqf o e
  have W := Walks.tuple (prog := X.prog) (w := X.w) (A := X.A.in1) hh I t htI vs.toArray
  have hsz : vs.toArray.size = vs.length := List.size_toArray ..
  refine wpAny_pure ⟨plainId_quiet PySem.F.plain_min_loop _, ?_⟩
  refine codeAny_builtin PySem.F.entry_min_loop ?_
  rw [Around.under_plainId PySem.F.plain_min_loop _]
  show wpAny _ X.A.in1 (seqItems? (.ref (I + 1)) >>= _) _ _ _
  refine wpAny_bind (wpAny_seqItems gS rfl ?_)
  show wpAny _ X.A.in1 (tryCatch (pyNext (.ref I)) _ >>= _) _ _ _
  refine wpAny_bind (wpAny_tryCatch (W.item 0 _ _ _ (by rw [hsz]; exact hne) ⟨⟨_, gI, rfl, rfl⟩, hT _ J1⟩ fun v h' tk' hP hst' hk' => ?_))
  have hv : vs[0]? = some v := by simpa using hP
  obtain ⟨oI', hoI', hoc, hod⟩ := id hst'.1
  have J2 : Inv X pins σ H { s with heap := h', toks := tk' } := Inv.turnedL (s := { s with heap := h2 }) (ch := [I]) J1 (fun b o hb e => hk' b o hb e) (fun b hb => by rw [List.mem_singleton.mp hb]; exact fI)
  have gS1 := hk' (I + 1) _ (by simp) gS
  have gq1 := hk' q _ (by simpa using hqI) gq0
  show wpAny _ X.A.in1 (tryCatch (holding [v] (call (.ref q) [v])) _ >>= _) _ _ _
  refine wpAny_bind (wpAny_tryCatch (wpAny_holding (wpAny_mono (turn2 0 v { s with heap := h', toks := tk' } hv J2 gq1) (fun x s2 he => ?_) fun _ _ hF => hF.elim)))
  obtain ⟨⟨t2, rfl⟩, J3, k2⟩ := he
  have gS2 := k2 (I + 1) (by simp) _ gS1
  have gI2 := k2 I (by simp) _ hoI'
  have gq2 := k2 q (by simp) _ gq1
  have s1 := Heap.SameBut.update s2.heap (I + 1) (Obj.mapSeq fun _ => #[v, .int (kf 0) t2])
  obtain ⟨c2, hc2⟩ : ∃ c2, (s2.heap.update (I + 1) (Obj.mapSeq fun _ => #[v, .int (kf 0) t2])).get? (I + 1) = some (seqObj "list" #[v, .int (kf 0) t2] c2) := ⟨_, get?_update_seq gS2 fun _ => #[v, .int (kf 0) t2]⟩
  show wpAny _ X.A.in1 (updateSeq (I + 1) (fun _ => #[v, .int (kf 0) t2]) >>= _) _ _ _
  refine wpAny_bind ?_
  refine wpAny_updateSeq gS2 rfl ?_
  rw [hname]
  refine wpAny_pure ⟨plainId_quiet PySem.F.plain_min_loop _, min_loop kf hh htI hSI hqI hqS fI fS hT turn2 ?_ _ 0 0 _ v t2 c2 rfl hne ?_ hc2 ⟨oI', (s1.2 _ hSI.symm).trans gI2, hoc, hod⟩ ((s1.2 q hqS).trans gq2) hv (Nat.le_refl _) fun j' hj' => ?_⟩
  · exact hQ
  · exact J3.turnedL (t' := s2.toks) (ch := [I + 1]) (fun b o hb e => (s1.2 b (by simpa using hb)).trans e) (fun b hb => by rw [List.mem_singleton.mp hb]; exact fS)
  · have e : j' = 0 := by omega
    subst e
    exact Int.le_refl _
end
/-- min(seq, key=lambda x: body): the keys told by kf -/
def tMinK (K : PySem.W.Frag) (T : List (Addr × Str)) (Nl : List Str) (ta : TE) (tb : TE) : TE := fun σ H Q => ta σ H fun x H1 => ∃ (t : Addr) (xs : List V) (kf : Nat → Int), x = .ref t ∧ SqT K H1 t xs ∧ (∀ y ∈ xs, ∃ a, y = .ref a) ∧ 0 < xs.length ∧ LamX.Tabs T H1 ∧
  ∀ H2, LamX.ExtN H1 H2 → LamX.Tabs T H2 → (∀ i y, xs[i]? = some y → tb (L2.start Nl [y]) H2 fun v H3 => v = .int (kf i) ∧ H3 = H2) ∧ ∀ i y, xs[i]? = some y → (∀ j, j < xs.length → kf i ≤ kf j) → Q y H2
theorem ext_sqt {K : PySem.W.Frag} {H H2 : Hp} {a : Addr} {xs : List V} (e : LamX.ExtN H H2) (h : SqT K H a xs) : SqT K H2 a xs := by
  rcases h with (h | ⟨o, h⟩) | h
  · exact .inl (.inl (e _ _ h fun _ z => nomatch z))
  · exact .inl (.inr ⟨o, e _ _ h fun _ z => nomatch z⟩)
  · exact .inr h
section
variable {X : Cx}
theorem pe_minK {T : List (Addr × Str)} {x : Str} {c P : Addr} {k : Nat} {a body : Expr} {params : Arguments} {scope : Scope} {Nl ps : List Str} {ta tb : TE} {p lpos pos kpos : Pos} (S : FnScope Nl ps scope) (hps : ps.length = 1) (hg : Gl X "min") (hm : X.mg "min" = none) (ha : PE X a ta)
    (TB : LamX.TabB X.base X.mg c P) (hcode : X.env.code = .ref c) (hmT : (P, X.env.qual ++ "<lambda>") ∈ T) (hu : ∀ p ∈ T, p.1 = P → p.2 = X.env.qual ++ "<lambda>") (hr : Room (k + 3) X.A) (hdef : defaultsOf params X.env = ([], []))
    (hfree : ∀ y ∈ scope.names, y.2 ≠ .free) (hclo : cloFrom X.env.cells scope.names [] = [])
    (hbind : ∀ (q : Str) (pm cv ctv u : Value), bindArgs (PySem.W.kla_fn "<lambda>" q params body scope [] pm cv ctv) ⟨[u], []⟩ = pure (ps.zip [u]))
    (hbody : ∀ (A : Around) (outer : List Env) (s : Shared) (H : Hp) (f c' : Addr), Room k (A.deeper (envOfC (X.env.qual ++ "<lambda>") scope s.heap.objs.size f (.ref c'))) → PE (cxOf CX0 X.prog X.w X.K X.mg X.base Nl (X.env.qual ++ "<lambda>") scope f (.ref c') A outer s H E0) body tb)
    (he : backTo pos (starEach [a] X.env) = (false, eval a X.env) :: backTo pos (starEach [] X.env) := by rfl) (hpl : (backTo pos (starEach [a] X.env)).any (·.1) = false := by rfl)
    (hall : (backToKw pos (keywordEach [⟨some "key", .Lambda params body scope lpos, kpos⟩] X.env)).all (·.1.isSome) = true := by rfl) (hnone : (backToKw pos (keywordEach [⟨some "key", .Lambda params body scope lpos, kpos⟩] X.env)).any (·.1.isNone) = false := by rfl)
    (hks : (backToKw pos (keywordEach [⟨some "key", .Lambda params body scope lpos, kpos⟩] X.env)).filterMap (·.1) = [("key" : Str)] := by rfl) :
    PE X (.Call (.Name "min" p) [a] [⟨some "key", .Lambda params body scope lpos, kpos⟩] pos) (tMinK X.K T Nl ta tb) := by
  refine ⟨fun pins s σ H Q I h => ?_⟩
  refine wpAny_Call_Name_kw (ld_blt (u := .builtin "min") I hg hm (by decide +kernel) ?_ (by decide) (by decide))
  refine PyProof.Rows.callWith_kw ?_ he hpl hall hnone
  rw [he, hks]
  refine Calls.spliced_cons (thn (ha.run pins s σ H _ I h) fun u s1 ⟨x, H1, I1, r1, q1⟩ => Calls.spliced_nil ?_)
  obtain ⟨t, xs, kf, rfl, hq, hrefs, hne, hT1, q1⟩ := q1
  obtain rfl : u = Value.ref t := r1
  show wpAny _ _ (evalAll [do let v ← eval (.Lambda params body scope lpos) X.env; standAt pos; pure v]) _ _ _
  refine wpAny_evalAll_cons (wpAny_bind (LamX.lam_make2 I1 TB hcode hmT hu hT1 hdef (fun y hy e => absurd e (hfree y hy)) fun f c' pm ctv H2 s2 I2 eN T2 hf hfn hfr hco => wpAny_bind (wpAny_standAt (wpAny_pure (wpAny_evalAll_nil ?_)))))
  rw [hclo] at hf
  obtain ⟨hk, hQ⟩ := q1 H2 eN T2
  have hq2 := ext_sqt eN hq
  obtain ⟨its, rv, p0, hz⟩ := I2.tuple hq2
  have hl := rv.length
  have uniq : ∀ {zs : List V} {us us' : List Value}, Vals zs us → Vals zs us' → (∀ y ∈ zs, ∃ a, y = V.ref a) → us = us' := fun {zs us us'} r r' => by
    induction r generalizing us' with
    | nil => intro _; cases r'; rfl
    | cons r0 rr ih =>
      intro hz
      cases r' with
      | cons r0' rr' =>
        obtain ⟨a, rfl⟩ := hz _ List.mem_cons_self
        cases r0
        cases r0'
        rw [ih rr' fun y hy => hz y (List.mem_cons_of_mem _ hy)]
  show wpAny _ _ (call (.builtin "min") [.ref t] [(Str.ofString "key", .ref f)]) _ _ _
  refine min_key (X := X) (pins := pins) (σ := σ) (H := H2) kf (vs := its) hr.hd I2 (fun s' J => ?_) (by omega) hf hfn hfr (fun i v s' hv J g => ?_) (fun i v s' hv hb J => ?_)
  · obtain ⟨its', rv', p', _⟩ := J.tuple hq2
    rw [uniq rv rv' hrefs]
    exact p'
  · have hi : i < xs.length := by
      have := (List.getElem?_eq_some_iff.mp hv).1
      omega
    obtain ⟨v', hv', ry⟩ := rv.get (List.getElem?_eq_getElem hi)
    rw [hv] at hv'
    cases hv'
    have rc : codeAny (model X.prog X.w) X.A.in1 (.call (.ref f) ⟨[v], []⟩) (CR CX0 X.stack X.prog X.w H2 s' (fun v H3 => v = .int (kf i) ∧ H3 = H2) E0) s' :=
      run_lam1 (N := Nl) (ps := ps) (us := [v]) (vs := [xs[i]]) S ((hr.mono (show k + 2 ≤ k + 3 by omega)).in1) J.env0.in1 g hco (hbind _ _ _ _ v) (.cons ry .nil) hps.symm (fun hr' => hbody _ _ _ _ _ _ hr') (hk i _ (List.getElem?_eq_getElem hi))
    refine wpAny_call (codeAny_mono rc fun r s3 hq => ?_)
    cases r with
    | error e => exact (show False from hq).elim
    | ok fl =>
      cases fl with
      | ret u =>
        obtain ⟨v', H', J', rv', e1, e2⟩ := J.after hq
        obtain ⟨v2, H2', os, bare, un, hok, rv2, e3, e4⟩ := hq
        subst e1 e2 e3 e4
        obtain ⟨tk, rfl⟩ := rv'
        exact ⟨⟨tk, rfl⟩, J', fun b hb hbf o e => un.keep b o e hb hbf (by simp)⟩
      | next => exact False.elim hq
      | brk => exact False.elim hq
      | cont => exact False.elim hq
  · have hi : i < xs.length := by
      have := (List.getElem?_eq_some_iff.mp hv).1
      omega
    obtain ⟨v', hv', ry⟩ := rv.get (List.getElem?_eq_getElem hi)
    rw [hv] at hv'
    cases hv'
    exact ⟨xs[i], H2, J, ry, hQ i _ (List.getElem?_eq_getElem hi) fun j hj => hb j (by omega)⟩
end
end Hw
/-! R11 -/
/-! R11: sorted of tuples of ints, of any number; math.factorial. -/
namespace Hw
open PySem PySem.Spec PyProof.Rows L2 RZ
open PySem.Sem (wp)
open PySem.W (EachIs sorted_data AllAlike Sortable alike_ints depth_ints dataLe)
theorem readsAll_ints (h : Heap) : ∀ {ns : List Int} {us : List Value}, Vals (ns.map V.int) us → ReadsAll h us (ns.map PyData.int) []
  | [], _, .nil => .nil
  | n :: ns, _, .cons r t => by
    obtain ⟨tk, rfl⟩ := r
    exact .cons (as := []) (bs := []) (.int n tk) (readsAll_ints h t)
section
variable {X : Cx}
/-- sorted(xs), xs a list of tuples of ints, none of them empty: the same items in some order -/
def rSortI (K : PySem.W.Frag) : List V → Hp → VK → Prop := fun vs H Q => ∃ (a : Addr) (ks : List (Addr × List Int)), vs = [V.ref a] ∧ SqL K H a (ks.map fun p => V.ref p.1) ∧ (∀ p ∈ ks, SqT K H p.1 (p.2.map V.int) ∧ p.2 ≠ []) ∧
  ∀ (js : List (Addr × List Int)) (p : Addr), js.Perm ks → H p = none → Q (.ref p) (upd H p (.lst (js.map fun p => V.ref p.1)))
theorem cr_sortI (hu : X.A.units + 64 < cLine) : CallR X (.builtin "sorted") (rSortI X.K) := by
  intro pins s σ H vs us Q I r h
  obtain ⟨a, ks, rfl, hs, hx, q⟩ := h
  obtain ⟨its, rv, hl, hz⟩ := I.list hs
  rw [Vals.ref1 r]
  have eits : its = ks.map fun p => Value.ref p.1 := refs_of_vals rv
  subst eits
  have hd : ∀ b : Addr × List Int, ({ b with } : Addr × List Int) = b := fun _ => rfl
  have rd : ∀ p ∈ ks, Reads s.heap (.ref p.1) (.tuple (p.2.map PyData.int)) [] := fun p hp => by
    obtain ⟨ts, rt, ⟨o, ho, hc, n, hdt⟩, _⟩ := I.tuple (hx p hp).1
    exact .tuple (vs := ts.toArray) ho hc hdt (by simpa using readsAll_ints s.heap rt)
  have e1 : EachIs (fun (v : Value) (b : Addr × List Int) => v = .ref b.1) (ks.map fun p => Value.ref p.1) ks := by
    have : ∀ l : List (Addr × List Int), EachIs (fun (v : Value) (b : Addr × List Int) => v = .ref b.1) (l.map fun p => Value.ref p.1) l := fun l => by
      induction l with
      | nil => exact .nil
      | cons b l ih => exact .cons rfl ih
    exact this ks
  have e2 : EachIs (fun (v : Value) (b : Addr × List Int) => ∃ as, Reads s.heap v (PyData.tuple (b.2.map PyData.int)) as) (ks.map fun p => Value.ref p.1) ks := by
    have : ∀ l : List (Addr × List Int), (∀ p ∈ l, p ∈ ks) → EachIs (fun (v : Value) (b : Addr × List Int) => ∃ as, Reads s.heap v (PyData.tuple (b.2.map PyData.int)) as) (l.map fun p => Value.ref p.1) l := fun l => by
      induction l with
      | nil => exact fun _ => .nil
      | cons b l ih => exact fun hm => .cons ⟨_, rd b (hm b List.mem_cons_self)⟩ (ih fun p hp => hm p (List.mem_cons_of_mem _ hp))
    exact this ks fun _ h => h
  refine sorted_data (bs := ks) (enc := fun b : Addr × List Int => PyData.tuple (b.2.map PyData.int)) (R := fun v b => v = .ref b.1) hl.isList e1 e2 ?_ ?_ (by rw [List.length_map] at hz; exact hz) (fun b hb => ?_) fun out ho hout => ?_
  · refine AllAlike.of fun b b' => ?_
    simp [PySem.W.alike, alike_ints]
  · refine .inl fun d hd => ?_
    obtain ⟨b, hb, rfl⟩ := List.mem_map.mp hd
    obtain ⟨n, l, e⟩ := List.exists_cons_of_ne_nil (hx b hb).2
    exact ⟨.int n, l.map PyData.int, by rw [e]; rfl⟩
  · have : (PyData.tuple (b.2.map PyData.int)).depth ≤ 1 := by
      simp [PyData.depth, depth_ints]
    omega
  · have hp := List.mergeSort_perm ks (dataLe false fun b : Addr × List Int => PyData.tuple (b.2.map PyData.int))
    generalize ks.mergeSort (dataLe false fun b : Addr × List Int => PyData.tuple (b.2.map PyData.int)) = js at hp hout
    have eo : out = js.map fun p => Value.ref p.1 := by
      have : ∀ {l : List Value} {m : List (Addr × List Int)}, EachIs (fun (v : Value) (b : Addr × List Int) => v = .ref b.1) l m → l = m.map fun p => Value.ref p.1 := fun {l m} e => by
        induction e with
        | nil => rfl
        | cons h _ ih => rw [h, ih]; rfl
      exact this hout
    subst eo
    obtain ⟨ep, he'⟩ := PyProof.Rows.sortedAll_at s.heap (ks.map fun p => Value.ref p.1) (List.toArray (js.map fun p => Value.ref p.1))
    have hlen : (js.map fun p => V.ref p.1).length ≤ sizeLine := by
      rw [List.length_map, hp.length_eq]
      rw [List.length_map] at hz
      exact hz
    exact ⟨.ref _, upd H (s.heap.objs.size + 1) (.lst (js.map fun p => V.ref p.1)), I.laid (t' := s.toks) (fun _ _ => PyProof.Rows.sortedAll_old) (Nat.le_succ _) ⟨hlen, _, ep, vals_of_refs js, he'⟩, rfl, q js _ hp (I.hok.fresh (Nat.le_succ _))⟩
def rFact : List V → Hp → VK → Prop := fun vs H Q => ∃ a : Nat, vs = [.int (a : Int)] ∧ a ≤ 20 ∧ Q (.int ((Builtin.Math.factorialNat a : Nat) : Int)) H
theorem cr_fact : CallR X (.builtin "math.factorial") rFact := by
  intro pins s σ H vs us Q I r h
  obtain ⟨a, rfl, ha, q⟩ := h
  cases r with
  | cons r t =>
    cases t
    obtain ⟨t, rfl⟩ := r
    have hb : ∀ a, a ≤ 20 → (((Builtin.Math.factorialNat a : Nat) : Int)).natAbs.log2 < bitsLine ∧ ¬ (a : Int) > Builtin.Math.maxSsize ∧ ¬ (a : Int) > Builtin.Math.manyFactors := by decide +kernel
    obtain ⟨h1, h2, h3⟩ := hb a ha
    refine PySem.W.mg_factorial h2 (by omega) h3 h1 ?_
    exact ⟨.int _, H, I.tok _, ⟨_, rfl⟩, q⟩
end
end Hw
/-! R12 -/
/-! R12: an own class whose __init__ begins with super().__init__(..). -/
namespace Hw
open PySem PySem.Spec PyProof.Rows L2 RZ LamX
open PySem.Sem (wp)
/-- what the text must hold for it: C the class, f its __init__, f2 the one above, cc the cell of __class__, cda the code object -/
structure SupIn (P : Program) (K : PySem.W.Frag) (C : Addr) (qual : Str) (st : Stmt) (f f2 cc cda : Addr) (fd : FuncData) : Prop where
  ex : ∃ (oc : Value) (od : Option Addr) (dV kV doc pm : Value) (an : Option Addr) (ct : Value) (osl : Array (Option Value)), fd = PySem.W.ksFn "__init__" qual (C8.fnArgs st) (C8.fnBody st) (C8.fnScope st) dV kV doc pm an (.ref cda) ct cc ∧ K.lookup f = some ⟨oc, od, .func fd, osl⟩
  cd : PySem.W.codeIn K (.ref cda) qual = true
  code : ∃ (ccl : Value) (cdd : Option Addr) (vs : Array Value) (ccs : Array (Option Value)) (file : Str) (tf : Tok), K.lookup cda = some ⟨ccl, cdd, .fields vs, ccs⟩ ∧ vs[2]? = some (.str file tf) ∧ ((P.main.file : Str) == file) = true
  cell : ∃ (cl : Value) (cld : Option Addr) (csl : Array (Option Value)), K.lookup cc = some ⟨cl, cld, .cell (some (.ref C)), csl⟩
  cls : ∃ cd, PySem.W.clsIn K C = some cd
  sub : PySem.W.mroIn K C (.ref C) = some true
  opq : PySem.W.nsIn K cStatics "thirdparty.any" = some none
  sup : PySem.W.ks_superIn K C C "__init__" = some (some (.ref f2))
  ty : PySem.W.typeIn K (.ref f2) = some (.type "function")
  fn2 : PySem.W.fnIn K f2 = true
theorem callwith_bm {X : Cx} {pins : List (Addr × Obj)} {σ : L2.St} {H : Hp} {s : Shared} {g : Addr} {self : Value} {pos : Pos} {e : Expr} {es : List Expr} {q : Addr} {Q : Value → Shared → Prop} {E : Value → Shared → Prop} {A : Around} (I : Inv X ((q, PySem.W.methodObj (.ref g) self) :: pins) σ H s) (hb : X.base.get? q = none) (hf : PySem.W.fnIn X.K g = true)
    (h : wpAny (model X.prog X.w) A (spliced (backTo pos (starEach (e :: es) X.env))) (fun vs s₁ => PySem.W.MethP X.K q g self s₁.heap ∧ wpAny (model X.prog X.w) A (call (.ref q) vs) Q E s₁) E s)
    (he : starEach (e :: es) X.env = (false, eval e X.env) :: starEach es X.env) (hpl : (backTo pos (starEach es X.env)).any (·.1) = false) :
    wpAny (model X.prog X.w) A (callWith pos (.ref q) [] (backTo pos (starEach (e :: es) X.env)) []) Q E s := by
  have hq := ClX.pin_at I
  have hL : q ≠ X.env.locals := (I.pin (q, PySem.W.methodObj (.ref g) self) (List.mem_append_right _ List.mem_cons_self)).2.2.1
  exact PySem.W.callWith_M (K := X.K) (h₀ := X.base) (first := []) I.ok.mod.kin (news_at hL hb hq) List.mem_cons_self hf h he hpl
section
variable {X : Cx} {σ : L2.St} {H : Hp} {s : Shared}
/-- super().__init__(e, ..) -/
theorem super_stmt {body : List Stmt} {k : Nat} {st : Stmt} {scope : Scope} {qual : Str} {C x dx f f2 cc cda L : Addr} {fd : FuncData} {sp2 : Sp} {t : TA} {e : Expr} {es : List Expr} {p0 p1 apos pos pos' : Pos} {Qn : Hp → Prop} {ar : Arg} {fs : List (Str × V)}
    (I : Inv X [] σ H s) (S : SupIn X.prog X.K C qual st f f2 cc cda fd) (henv : X.env = PySem.W.ksEnv qual scope L f (.ref cda) cc) (hsc : X.env.scope = scope) (hlo : X.env.locals = L)
    (hp : (fd.params.posonlyargs ++ fd.params.args).head? = some ar) (hN : X.N[0]? = some ar.arg) (hσ : σ[0]? = some (some (.ref x))) (hx : H x = some (.ins C dx fs))
    (hks : scope.names.lookup ("super" : Str) = some .globalImplicit) (hkc : scope.names.lookup ("__class__" : Str) = some .free) (hka : scope.names.lookup ar.arg = some .local) (hk : scope.kind = .function)
    (htop : (X.prog.main.scope.names.lookup ("super" : Str)).isSome = false) (hm : X.mg "super" = none) (F2 : FnR X.prog X.w X.K X.mg X.base CX0 k f2 sp2) (hr : Room k X.A)
    (ha : PA X (e :: es) t) (he : starEach (e :: es) X.env = (false, eval e X.env) :: starEach es X.env) (hpl : (backTo pos (starEach es X.env)).any (·.1) = false)
    {pl : Sem Bool} (hev : eval (.Call (.Attribute (.Call (.Name "super" p0) [] [] p1) "__init__" apos) (e :: es) [] pos) X.env = (do
      let ov ← attributeBase (.Call (.Name "super" p0) [] [] p1) "__init__" X.env (eval (.Call (.Name "super" p0) [] [] p1) X.env)
      standAt apos.atName
      let (f, first) ← holding [ov] (getMethod ov "__init__" pl)
      callWith pos f first (backTo pos (starEach (e :: es) X.env)) []))
    (hi : interactive X.env = false) (hsw : swapsWith (.Call (.Attribute (.Call (.Name "super" p0) [] [] p1) "__init__" apos) (e :: es) [] pos) none pos'.line X.env = pure false)
    (h : t σ H fun vs H1 => sp2 (.ref x :: vs) H1 (fun _ H2 => Qn H2) E0) :
    _root_.PySem.wpAt (model X.prog X.w) X.A (.func body X.env) (exec (.Expr (.Call (.Attribute (.Call (.Name "super" p0) [] [] p1) "__init__" apos) (e :: es) [] pos) pos') X.env) (fun f s' => f = .next ∧ ∃ H', Inv X [] σ H' s' ∧ Qn H') X.xe s := by
  obtain ⟨oc, od, dV, kV, doc, pm, an, ct, osl, hfd, lk⟩ := S.ex
  obtain ⟨ccl, cdd, vs, ccs, file, tf, hcode, hvs, hfile⟩ := S.code
  obtain ⟨cl, cld, csl, hcell⟩ := S.cell
  obtain ⟨cdC, hcls⟩ := S.cls
  have KX : X.K.In s.heap := I.kIn
  obtain ⟨oD, hD1, hD2⟩ : ∃ oD, s.heap.get? C = some oD ∧ oD.data = .cls cdC := by
    unfold PySem.W.clsIn at hcls
    split at hcls
    · rename_i c d cd' sl ho
      cases hcls
      exact ⟨_, KX _ _ ho, rfl⟩
    · cases hcls
  obtain ⟨mA, om, _, _, _, _⟩ := ins_get I.hok hx
  obtain ⟨odx, J, _⟩ := om.look
  have hfr : f ∉ frs X.stack → True := fun _ => trivial
  have gm : s.heap.Ns mainGlobals X.mg := I.mod.glob.keeps I.bk
  obtain ⟨mb, hb1, hb2⟩ := I.mod.blt
  have gb : s.heap.Ns builtinsNs mb := hb1.keeps I.bk
  obtain ⟨ml, hns, hl⟩ := I.loc
  obtain ⟨wx, rx, hwx⟩ := hl 0 ar.arg (.ref x) hN hσ (by rw [hsc]; exact .inl hka)
  have hmx : ml ar.arg = some wx := by
    rcases hwx with ⟨_, z⟩ | ⟨z, _⟩
    · exact z
    · have z' : X.env.scope.names.lookup ar.arg = some .cell ∨ X.env.scope.names.lookup ar.arg = some .free := z
      rw [hsc, hka] at z'
      rcases z' with z | z <;> cases z
  obtain rfl : wx = Value.ref x := rx
  refine ks_wpAt_Expr_any ?_ hi hsw
  refine ks_wpAt_MethodCall (pl := pl) ?_ hev
  have hks' : X.env.kindOf "super" = some .globalImplicit := by rw [henv]; exact hks
  have hkc' : X.env.kindOf "__class__" = some .free := by rw [henv]; exact hkc
  have hka' : X.env.kindOf ar.arg = some .local := by rw [henv]; exact hka
  have hk' : X.env.scope.kind = .function := by rw [hsc]; exact hk
  have hf' : X.env.func = some f := by rw [henv]
  have hcd' : X.env.code = .ref cda := by rw [henv]
  have hglo : X.env.globals = mainGlobals := by rw [henv]
  have hblt : X.env.builtins = builtinsNs := by rw [henv]
  have hcells : X.env.cells.lookup ("__class__" : Str) = some cc := by rw [henv]; rfl
  refine ks_wpAt_super_base (env := X.env) hks' hkc' (by decide) hf' (KX _ _ lk) rfl hp hcd' (KX _ _ hcode) rfl hvs hfile htop ?_
  refine PySem.W.ks_loadName_global hk' hks' (PySem.Calls.loadGlobal_builtin (env := X.env) (by rw [hglo]; exact gm) hm (by rw [hblt]; exact gb) ((hb2 _ (by decide)).trans (by decide +kernel : bootBuiltins ("super" : Str) = some (.type "super"))) ⟨rfl, ?_⟩)
  refine wpAny_loadName_free hk' hkc' hcells ⟨_, KX _ _ hcell, rfl⟩ ?_
  refine wpAny_loadName_local hk' hka' hns hmx ?_
  refine ks_wpAny_isType_cls hD1 hD2 ⟨rfl, ?_⟩
  obtain ⟨hh, g, d, tk, os⟩ := s
  refine ks_wpAny_call_super hD1 hD2 J.at_ J.cls (fun c e => ?_) (PySem.W.looks_mroIn KX S.sub) (fun h' eso k1 => ?_)
  · have := J.no
    unfold PySem.W.notCls at this
    rw [e] at this
    exact Bool.noConfusion this
  have I1 : Inv X [] σ H { heap := h', gens := g, drawn := d, toks := tk, os := os } := Inv.kept (s := ⟨hh, g, d, tk, os⟩) I k1
  have KX1 : X.K.In h' := I1.kIn
  have hsup := S.sup
  unfold PySem.W.ks_superIn at hsup
  rw [hcls] at hsup
  obtain ⟨of, hof, hofc⟩ : ∃ of, h'.get? f2 = some of ∧ of.cls = .type "function" := by
    have ht' : (X.K.lookup f2).map (·.cls) = some (.type "function") := S.ty
    cases z : X.K.lookup f2 with
    | none => rw [z] at ht'; cases ht'
    | some of => rw [z] at ht'; exact ⟨of, KX1 _ _ z, Option.some.inj ht'⟩
  have hxC : x ≠ C := PySem.W.ks_ne KX J hcls
  refine ks_wpAny_getMethod_super eso (PySem.W.looks_opaque KX1 S.opq) (l₀ := cdC.mro) (fun A Q E s k q => wpAny_bind ((PySem.W.looks_clsIn KX1 hcls) A _ E s k (wpAny_pure q))) rfl KX1 hsup hof hofc hxC (by decide) ?_
  have I2 : Inv X [(h'.objs.size, PySem.W.methodObj (.ref f2) (.ref x))] σ H { heap := h'.push (PySem.W.methodObj (.ref f2) (.ref x)), gens := g, drawn := d, toks := tk + 1, os := os } :=
    ClX.pin_new (s := { heap := h', gens := g, drawn := d, toks := tk, os := os }) I1 (fun _ _ z => Heap.get?_push_of_some _ z) (Nat.le_refl _) (Heap.get?_push_size h' rfl) (fun v z => nomatch z)
  have hbn : X.base.get? h'.objs.size = none := ClX.base_none I1 (Nat.le_refl _)
  refine callwith_bm I2 hbn S.fn2 ?_ he hpl
  refine thn (ha.run pos _ _ σ H _ I2 h) fun us s1 ⟨vs1, H1, I3, r1, q1⟩ => ⟨⟨ClX.pin_at I3, I3.kIn⟩, ?_⟩
  refine wpAny_call (PySem.W.method_call (ClX.pin_at I3) (codeAny_mono (run_fnR (us := .ref x :: us) (vs := .ref x :: vs1) F2 hr pass0 I3 (.cons rfl r1) q1) fun r s2 hq => ?_))
  cases r with
  | error e => exact hq
  | ok fl =>
    cases fl with
    | ret u =>
      obtain ⟨v, H', I4, rv, q4⟩ := ClX.unpinE hq
      exact ⟨rfl, H', I4, q4⟩
    | next => exact False.elim hq
    | brk => exact False.elim hq
    | cont => exact False.elim hq
end
section
variable {P : Program} {w : World} {K : PySem.W.Frag} {mg : Str → Option Value} {base : Heap}
def supNF (qual : Str) (st : Stmt) (cc cda : Addr) : NdefX.NF := ⟨"__init__", qual, C8.fnArgs st, C8.fnBody st, C8.fnScope st, [("__class__", cc)], cda⟩
/-- the class by its __init__ -/
theorem mak_sup {x qual : Str} {C f f2 cc cda : Addr} {st : Stmt} {fd : FuncData} {N ps : List Str} {k : Nat} {sp sp2 : Sp} {rest : List Stmt} {e : Expr} {es : List Expr} {p0 p1 apos pos pos' : Pos} {ar : Arg} (M : Mk K C f) (hmx : mg x = some (.ref C)) (S : SupIn P K C qual st f f2 cc cda fd) (hb : Binds K fd ps [])
    (Sc : NdefX.NScope N ps ["__class__"] (C8.fnScope st)) (len : ∀ vs H Q E, sp vs H Q E → vs.length = ps.length) (hmg : mg "super" = none) (htop : (P.main.scope.names.lookup ("super" : Str)).isSome = false) (F2 : FnR P w K mg base CX0 k f2 sp2)
    (hst : C8.fnBody st = .Expr (.Call (.Attribute (.Call (.Name "super" p0) [] [] p1) "__init__" apos) (e :: es) [] pos) pos' :: rest) (hp : ((C8.fnArgs st).posonlyargs ++ (C8.fnArgs st).args).head? = some ar) (hN : N[0]? = some ar.arg)
    (hks : (C8.fnScope st).names.lookup ("super" : Str) = some .globalImplicit) (hka : (C8.fnScope st).names.lookup ar.arg = some .local)
    (hev : ∀ (X : Cx), X.env.scope = C8.fnScope st → ∃ pl : Sem Bool, starEach (e :: es) X.env = (false, eval e X.env) :: starEach es X.env ∧ (backTo pos (starEach es X.env)).any (·.1) = false ∧ eval (.Call (.Attribute (.Call (.Name "super" p0) [] [] p1) "__init__" apos) (e :: es) [] pos) X.env = (do
      let ov ← attributeBase (.Call (.Name "super" p0) [] [] p1) "__init__" X.env (eval (.Call (.Name "super" p0) [] [] p1) X.env)
      standAt apos.atName
      let (f, first) ← holding [ov] (getMethod ov "__init__" pl)
      callWith pos f first (backTo pos (starEach (e :: es) X.env)) []) ∧ interactive X.env = false ∧ swapsWith (.Call (.Attribute (.Call (.Name "super" p0) [] [] p1) "__init__" apos) (e :: es) [] pos) none pos'.line X.env = pure false)
    (hbody : ∀ (A : Around) (outer : List Env) (s : Shared) (H : Hp) (vs : List V) (Q : VK) (E : XK), Room k (A.deeper (NdefX.envF (supNF qual st cc cda) f s.heap.objs.size)) → sp vs H Q E →
      ∃ (x dx : Addr) (fs : List (Str × V)) (t : TA) (tr : TS), H x = some (.ins C dx fs) ∧ vs[0]? = some (.ref x) ∧ PA (NdefX.ncx CX0 P w K mg base N (supNF qual st cc cda) f A outer s H E) (e :: es) t ∧ PSs (NdefX.ncx CX0 P w K mg base N (supNF qual st cc cda) f A outer s H E) rest tr ∧
        t (NdefX.startF N vs [none]) H fun vs1 H1 => sp2 (.ref x :: vs1) H1 (fun _ H2 => tr { nx := fun _ H' => Q .non H', rt := Q } (NdefX.startF N vs [none]) H2) E0) :
    C8.Mak P w K mg base (k + 1) x C sp [] := by
  refine ⟨f, fd, ps, [], M, ⟨len, fun A outer s H args us vs Q E hr e0 hbind r hsp => ?_⟩, hmx, hb, .nil⟩
  obtain ⟨oc, od, dV, kV, doc, pm, an, ct, osl, hfd, lk⟩ := S.ex
  subst hfd
  have KX : K.In s.heap := e0.mod.kin.keeps fun b o e => (e0.bs b o e).1
  have lim : s.heap.NoLimit := e0.mod.nolimit.keeps fun b o e => (e0.bs b o e).1
  obtain ⟨cl, cld, csl, hcell⟩ := S.cell
  have hl := len _ _ _ _ hsp
  refine codeAny_call_function hr.depth (KX _ _ lk) rfl Sc.co Sc.gen rfl (PySem.W.codeRec_of KX S.cd) (hbind _ _ _ _ ?_)
  refine wpAny_newFunctionEnv Sc.nocell (fun ⟨n, _⟩ hy => Sc.par n (List.of_mem_zip hy).1) (fun h₁ hns hsb => ⟨lim.fresh _ hsb, ?_⟩) Sc.kind
  show codeAny _ _ (.func (C8.fnBody st) (NdefX.envF (supNF qual st cc cda) f s.heap.objs.size)) _ _
  refine ks_codeAny_funcAt ?_
  have kp : ∀ b o, s.heap.get? b = some o → h₁.get? b = some o := fun b o e => hsb.extBut b o (Nat.ne_of_lt (Heap.lt_size e)) (Heap.get?_push_of_some _ e)
  obtain ⟨y, dx, fs, t, tr, hy, hv0, ha, htr, hq⟩ := hbody A outer s H vs Q E (hr.deeper _) hsp
  have hcc := e0.mod.kin _ _ hcell
  have CA : NdefX.CellsAt (supNF qual st cc cda).cl ["__class__"] [none] s.heap H := by
    refine ⟨rfl, fun z c hz => ?_, fun a b c ha hb => ?_, fun i z hz => ?_⟩
    · have : c = cc := by
        have q : List.lookup z [(("__class__" : Str), cc)] = some c := hz
        rw [List.lookup_cons] at q
        split at q
        · exact (Option.some.inj q).symm
        · cases q
      subst this
      exact ⟨(e0.bs _ _ hcc).2, _, ⟨_, (e0.bs _ _ hcc).1, rfl⟩⟩
    · have key : ∀ z, List.lookup z [(("__class__" : Str), cc)] = some c → z = "__class__" := fun z q => by
        rw [List.lookup_cons] at q
        split at q
        · rename_i e
          exact eq_of_beq e
        · cases q
      rw [key a ha, key b hb]
    · rcases i with _ | i
      · have : z = "__class__" := (Option.some.inj hz).symm
        subst this
        exact ⟨cc, rfl, fun v hv => nomatch hv⟩
      · simp at hz
  have I : Inv (NdefX.ncx CX0 P w K mg base N (supNF qual st cc cda) f A outer s H E) [] (NdefX.startF N vs [none]) H { s with heap := h₁, toks := s.toks + (ps.zip us).length } := NdefX.inv_startN Sc hr.hd e0 hl r CA hns kp
  have hσ : (NdefX.startF N vs [none])[0]? = some (some (.ref y)) := by
    unfold NdefX.startF
    cases vs with
    | nil => cases hv0
    | cons v vs =>
      have : v = .ref y := Option.some.inj hv0
      subst this
      rfl
  obtain ⟨pl, h1, h2, h3, h4, h5⟩ := hev (NdefX.ncx CX0 P w K mg base N (supNF qual st cc cda) f A outer s H E) rfl
  have step := super_stmt (X := NdefX.ncx CX0 P w K mg base N (supNF qual st cc cda) f A outer s H E) (body := C8.fnBody st) (scope := C8.fnScope st) (L := s.heap.objs.size) (k := k) (pl := pl) (ar := ar) I S rfl rfl rfl hp hN hσ hy hks (Sc.frk _ (by simp)) hka Sc.kind htop hmg F2 (hr.deeper _) ha h1 h2 h3 h4 h5 hq
  rw [hst]
  rw [hst] at step
  refine ks_wpAt_execs_cons (_root_.PySem.wpAt_mono step (fun fl s' hs => ?_) fun e s' hs => hs)
  obtain ⟨rfl, H', J, q⟩ := hs
  refine _root_.PySem.wpAt_of_wpAny (wpAny_mono (htr.run [] s' (NdefX.startF N vs [none]) H' _ J q) (fun fl s' hs => ?_) fun e s' hs => hs)
  have fin : ∀ {σ' : L2.St} {H' : Hp} {v : V} {u : Value} {s' : Shared}, Inv (NdefX.ncx CX0 P w K mg base N (supNF qual st cc cda) f A outer s H E) [] σ' H' s' → L2.RelV v u → Q v H' → CE outer P w H s Q u s' :=
    fun {σ' H' v u s'} J rv q => ⟨v, H', J.os, J.bare, J.base, J.hok, rv, q⟩
  cases fl with
  | ret u =>
    obtain ⟨v, σ', H', J, rv, q⟩ := hs
    exact fin J rv q
  | next =>
    obtain ⟨σ', H', J, q⟩ := hs
    exact fin (v := V.non) (u := Value.none) J rfl q
  | brk =>
    obtain ⟨_, _, _, q⟩ := hs
    exact False.elim q
  | cont =>
    obtain ⟨_, _, _, q⟩ := hs
    exact False.elim q
end
end Hw
/-! R13 -/
/-! R13: len and bool of own instances; an attribute as a target of an unpacking. -/
namespace Hw
open PySem PySem.Spec PyProof.Rows L2 RZ
open PySem.Sem (wp)
section
variable {prog : Program} {w : World} {A : Around} {E : Value → Shared → Prop} {s : Shared}
theorem meets_bool_t (v : Value) : MeetsIn prog w (Builtin.«bool.__new__» ⟨[.type "bool", v], []⟩) (fun A R s => wpAny (model prog w) A.in1 (truthy v) (fun b s' => R (.ok (.ret (.bool b))) s') (fun e s' => R (.error e) s') s) :=
  MeetsIn.of_wp fun A R s hs => by
    obtain ⟨hp, g, d, tk, os⟩ := s
    have f1 := F.conv_sub_bool
    have ht : wpAny (model prog w) A.in1 (truthy v) (fun b s' => ∃ v, Fin.done (Flow.ret (.bool b)) = .done (.ret v) ∧ R (.ok (.ret v)) s') (fun e s' => R (.error e) s') ⟨hp, g, d, tk, os⟩ := wpAny_mono hs (fun b s' h => ⟨_, rfl, h⟩) fun _ _ h => h
    repeat (any_goals (first | assumption | (refine wpAny_mono ht (fun b s' h => ?_) fun _ _ h => h) | wp_step))
theorem call_bool_t {v : Value} {Q : Value → Shared → Prop} (h : wpAny (model prog w) A.in1.in1 (truthy v) (fun b s' => Q (.bool b) s') E s) : wpAny (model prog w) A (call (.type "bool") [v]) Q E s := by
  refine callType_meetsIn (Q₁ := fun obj s₁ => s₁.TypeIs obj "bool" ∧ Q obj s₁) F.called_bool (F.typeCall_bool_1 v) (F.newCall_bool_1 v) F.entry_bool_new F.entry_object_init (meets_bool_t v) (wpAny_mono h (fun b s' q => ⟨rfl, q⟩) fun _ _ z => z) fun obj s₁ hq => ?_
  exact ⟨hq.1, F.args_object_init_2 obj v, _, object_init_meets F.called_bool.init.lookup F.called_bool.made F.newNe_bool, hq.1, rfl, hq.2⟩
end
section
variable {X : Cx} {k j : Nat} {C : Addr} {sp : Sp}
theorem cr_lenI (c : C8.Met X.prog X.w X.K X.mg X.base k C "__len__" sp []) (hr : Room j X.A) (hk : k + 1 ≤ j) :
    CallR X (.builtin "len") (fun xs H Q => ∃ a dx fs, xs = [.ref a] ∧ H a = some (.ins C dx fs) ∧ sp [.ref a] H (fun v H' => (∃ n : Int, v = .int n ∧ 0 ≤ n ∧ n < 2 ^ 63) ∧ Q v H') E0) := by
  intro pins s σ H xs us Q I r h
  obtain ⟨a, dx, fs, rfl, ha, hsp⟩ := h
  rw [Vals.ref1 r]
  obtain ⟨f, fd, ps, ds, hc, hm, F, b, d⟩ := c.ex
  cases d
  obtain ⟨mA, om, _, _, _, _⟩ := ins_get I.hok ha
  obtain ⟨odx, J, _⟩ := om.look
  refine Calls.call_function_entry kind_len plain_len entry_len (args_len1 _) ?_
  unfold Builtin.«len»
  refine wpAny_bind (m := oneArg "len" _) (wpAny_pure ?_)
  have hl : ([Value.ref a] : List Value).length = ps.length := by
    have q := F.len _ _ _ _ hsp
    exact q
  have rc : codeAny (model X.prog X.w) X.A.in1 (.call (.ref f) ⟨[.ref a], []⟩) (CR CX0 X.stack X.prog X.w H s (fun v H' => (∃ n : Int, v = .int n ∧ 0 ≤ n ∧ n < 2 ^ 63) ∧ Q v H') E0) s :=
    F.run X.A.in1 X.stack s H ⟨[.ref a], []⟩ [.ref a] [.ref a] _ E0 ((hr.mono hk).in1) I.env0.in1 (by have q := b s [.ref a] I.kIn hl; exact q) (.cons rfl .nil) hsp
  refine wpAny_bind (m := callSpecial? (.ref a) (Str.ofString "__len__")) (PySem.W.special_fn I.kIn J hm.at_ (beq_iff_eq.mp hm.fn) (wpAny_call (codeAny_mono rc fun r s' hq => ?_)))
  cases r with
  | error e => exact (show False from hq).elim
  | ok fl =>
    cases fl with
    | ret u =>
      obtain ⟨v, H', I', rv, ⟨n, rfl, h0, h1⟩, q⟩ := I.after hq
      obtain ⟨tk, rfl⟩ := rv
      refine wpAny_bind (wpAny_holding (wpAny_pure ?_))
      refine wpAny_bind (wpAny_letGo ?_)
      show wpAny _ _ (if n < 0 then _ else _) _ _ _
      rw [if_neg (by omega)]
      show wpAny _ _ (if n ≥ 2 ^ 63 then _ else _) _ _ _
      rw [if_neg (by omega)]
      exact wpAny_bind (wpAny_mkInt (wpAny_pure ⟨_, rfl, .int n, H', I'.tok _, ⟨_, rfl⟩, q⟩))
    | next => exact False.elim hq
    | brk => exact False.elim hq
    | cont => exact False.elim hq
/-- bool(o), its __bool__ a plain def -/
theorem cr_boolI (c : C8.Met X.prog X.w X.K X.mg X.base k C "__bool__" sp []) (hr : Room j X.A) (hk : k + 2 ≤ j) :
    CallR X (.type "bool") (fun xs H Q => ∃ a dx fs, xs = [.ref a] ∧ H a = some (.ins C dx fs) ∧ sp [.ref a] H (fun v H' => (∃ n : Bool, v = .bl n) ∧ Q v H') E0) := by
  intro pins s σ H xs us Q I r h
  obtain ⟨a, dx, fs, rfl, ha, hsp⟩ := h
  rw [Vals.ref1 r]
  obtain ⟨f, fd, ps, ds, hc, hm, F, b, d⟩ := c.ex
  cases d
  obtain ⟨mA, om, _, _, _, _⟩ := ins_get I.hok ha
  obtain ⟨odx, J, _⟩ := om.look
  have hl : ([Value.ref a] : List Value).length = ps.length := by
    have q := F.len _ _ _ _ hsp
    exact q
  have rc : codeAny (model X.prog X.w) X.A.in1.in1 (.call (.ref f) ⟨[.ref a], []⟩) (CR CX0 X.stack X.prog X.w H s (fun v H' => (∃ n : Bool, v = .bl n) ∧ Q v H') E0) s :=
    F.run X.A.in1.in1 X.stack s H ⟨[.ref a], []⟩ [.ref a] [.ref a] _ E0 (((hr.mono hk).in1).in1) I.env0.in1.in1 (by have q := b s [.ref a] I.kIn hl; exact q) (.cons rfl .nil) hsp
  refine call_bool_t ?_
  unfold truthy
  refine wpAny_bind (m := callSpecial? (.ref a) (Str.ofString "__bool__")) (PySem.W.special_fn I.kIn J hm.at_ (beq_iff_eq.mp hm.fn) (wpAny_call (codeAny_mono rc fun r s' hq => ?_)))
  cases r with
  | error e => exact (show False from hq).elim
  | ok fl =>
    cases fl with
    | ret u =>
      obtain ⟨v, H', I', rv, ⟨n, rfl⟩, q⟩ := I.after hq
      cases rv
      exact wpAny_pure ⟨.bl n, H', I', rfl, q⟩
    | next => exact False.elim hq
    | brk => exact False.elim hq
    | cont => exact False.elim hq
end
/-- o.f as a target -/
def gFld (K : PySem.W.Frag) (to : TE) (f : Str) : TG := fun v σ H Q => to σ H fun x H1 => ∃ a C dx fs, x = .ref a ∧ H1 a = some (.ins C dx fs) ∧ Cls K C ∧ NoAttr K C f ∧ fs.length < 1000 ∧ Q σ (upd H1 a (.ins C dx (putF f v fs)))
theorem pg_fld {X : Cx} {o : Expr} {f : Str} {to : TE} {pos : Pos} (ho : PE X o to) : PG X (.Attribute o f pos) (gFld X.K to f) := by
  refine ⟨fun pins s σ H v u Q I r h => ?_⟩
  rw [assign_Attribute]
  refine wpAny_bind (wpAny_holding (thn (ho.run pins s σ H _ I h) fun ov s1 ⟨x, H1, I1, r1, a, C, dx, fs, ex, ea, c, n, l, q1⟩ => ?_))
  subst ex
  obtain rfl : ov = Value.ref a := r1
  refine wpAny_bind (wpAny_standAt (wpAny_bind (wpAny_holding (setattr_ok I1 ea c n l r fun s3 I3 => ?_))))
  exact wpAny_release ⟨σ, _, I3, q1⟩
/-- t.count(k), a tuple of ints -/
def rCntT (K : PySem.W.Frag) : V → List V → Hp → VK → Prop := fun x xs H Q => ∃ (p : Addr) (ns : List Int) (k : Int), x = .ref p ∧ xs = [.int k] ∧ SqT K H p (ns.map V.int) ∧ Q (.int (ns.count k : Nat)) H
theorem mt_tcount {X : Cx} : MtR X "tuple.count" (rCntT X.K) := by
  intro pins s σ H x xs v us Q I rx rxs h
  obtain ⟨p, ns, k, rfl, rfl, hs, q⟩ := h
  cases rx
  obtain ⟨u, rfl, ru⟩ := rxs.one
  obtain ⟨t, rfl⟩ := ru
  obtain ⟨its, rv, pl, hlen⟩ := I.tuple hs
  obtain ⟨⟨cls, dd, data, sl⟩, ho, hc, n, hd⟩ := pl
  simp only at hc hd
  subst hc hd
  have hi := ints_of_vals rv
  refine call_meets PySem.F.slot_tuple_count ⟨_, ho, rfl⟩ PySem.F.entry_tuple_count (PySem.F.args_tuple_count_2 _ _)
    (SeqAt.tuple_countAt p its.toArray n dd sl (.int k t) (eqk k)) ⟨ho, fun y hy => (eqk_gives hi y (by simpa using hy)).at _ _, ?_⟩
  have ec : its.toArray.toList.countP (eqk k) = ns.count k := eqk_count hi
  refine ⟨.int (ns.count k : Nat), H, I.tok _, ⟨s.toks, ?_⟩, q⟩
  show Value.int ((its.toArray.toList.countP (eqk k) : Nat) : Int) s.toks = Value.int ((ns.count k : Nat) : Int) s.toks
  rw [ec]
end Hw
/-! R14 -/
/-! R14: rules told of the fragment itself (within a comprehension's block). -/
namespace Hw
open PySem PySem.Spec PyProof.Rows L2 RZ
section
variable {X : Cx} {K : PySem.W.Frag}
theorem pe_fldK {e : Expr} {f : Str} {ta : TE} {pos : Pos} (he : PE X e ta) (hb : attributeBase e f X.env (eval e X.env) = eval e X.env) (hK : X.K = K := by rfl) : PE X (.Attribute e f pos) (tFld K ta f) := hK ▸ pe_fld he hb
theorem ix_listK (hK : X.K = K := by rfl) : IxR X (rIxL K) := hK ▸ ix_list
theorem ix_tupK (hK : X.K = K := by rfl) : IxR X (rIxT K) := hK ▸ ix_tup
theorem op_in_seqK (hK : X.K = K := by rfl) : OpR X (compareOp .In) (rIn K false) := hK ▸ op_in_seq
theorem op_notIn_seqK (hK : X.K = K := by rfl) : OpR X (compareOp .NotIn) (rIn K true) := hK ▸ op_notIn_seq
theorem pi_tupK {tg l : Expr} {tl : TE} (hl : PE X l tl) (hK : X.K = K := by rfl) : PI X tg l (iTup K tl) := hK ▸ pi_tup hl
theorem pi_listK {tg l : Expr} {tl : TE} (hl : PE X l tl) (hK : X.K = K := by rfl) : PI X tg l (iList K tl) := hK ▸ pi_list hl
theorem call_len_seqK (hK : X.K = K := by rfl) : CallR X (.builtin "len") (fun xs H Q => ∃ p ys, xs = [.ref p] ∧ (SqL K H p ys ∨ SqT K H p ys) ∧ Q (.int ys.length) H) := hK ▸ call_len_seq
theorem mt_indexK (hK : X.K = K := by rfl) : MtR X "list.index" (rIndex K) := hK ▸ mt_index
theorem pi_enumK {e : Expr} {ta : TA} {p pos tpos : Pos} {elts : List Expr} {kk : Nat} (hg : Gl X "enumerate") (hm : X.mg "enumerate" = none) (ha : PA X [e] ta) (hs : starEach [e] X.env = [(false, eval e X.env)] := by rfl) (hK : X.K = K := by rfl) :
    PI X (.Tuple elts kk tpos) (.Call (.Name "enumerate" p) [e] [] pos) (iEnum K ta) := hK ▸ pi_enum hg hm ha hs
theorem pe_bmK {T id : String} {name : Str} {o e : Expr} {es : List Expr} {to : TE} {t : TA} {r : V → List V → Hp → VK → Prop} {apos cpos : Pos} (pa : PlainAttrs T) (slot : Slot T name id) (hty : typeOf (.builtin id) = pure (.type "method_descriptor")) (hm : MtR X id r) (ho : PE X o to) (ha : PA X (e :: es) t)
    (hbase : attributeBase o name X.env (eval o X.env) = eval o X.env := by rfl)
    (hfew : ((backTo cpos (starEach (e :: es) X.env)).all (fun x => !x.1) && (backToKw cpos (keywordEach [] X.env)).all (fun x => x.1.isSome)
      && decide ((e :: es).length + ([] : List Keyword).length + (if ([] : List Keyword).isEmpty then 0 else 1) < 30)) = true := by rfl)
    (hline : (apos.endLine == cpos.line) = true := by rfl) (hs : starEach (e :: es) X.env = (false, eval e X.env) :: starEach es X.env := by rfl) (hplain : (backTo cpos (starEach es X.env)).any (·.1) = false := by rfl) (hK : X.K = K := by rfl) :
    PE X (.Call (.Attribute o name apos) (e :: es) [] cpos) (tBM K T r to t) := hK ▸ pe_bm pa slot hty hm ho ha hbase hfew hline hs hplain
end
/-! ### a tuple of ints whose very object is known -/
def ITf (H : Hp) (a : Addr) (ns : List Int) : Prop := ∃ o, H a = some (.frz o (.tup (ns.map V.int))) ∧ o.cls = .type "tuple" ∧ o.dict = none
theorem sq_f {K : PySem.W.Frag} {H : Hp} {a : Addr} {ns : List Int} (h : ITf H a ns) : SqT K H a (ns.map V.int) := let ⟨o, h, _⟩ := h; .inl (.inr ⟨o, h⟩)
theorem ITf.mono {H H' : Hp} {a : Addr} {ns : List Int} (e : Ex H H') (h : ITf H a ns) : ITf H' a ns := let ⟨o, h, r⟩ := h; ⟨o, e _ _ h, r⟩
theorem ITf.lx {H H' : Hp} {a : Addr} {ns : List Int} (e : Lx H H') (h : ITf H a ns) : ITf H' a ns := let ⟨o, h, r⟩ := h; ⟨o, e _ _ h (fun _ z => nomatch z) (fun _ z => nomatch z) (fun _ z => nomatch z), r⟩
/-- tuple(xs), xs a list of ints -/
def rTupF (K : PySem.W.Frag) : List V → Hp → VK → Prop := fun vs H Q => ∃ (p : Addr) (ns : List Int), vs = [.ref p] ∧ IL H p ns ∧ ∀ l H', Ex H H' → ITf H' l ns → Q (.ref l) H'
theorem call_tupF {X : Cx} : CallR X (.type "tuple") (rTupF X.K) := by
  intro pins s σ H xs us Q I r h
  obtain ⟨p, ys, rfl, hq, q⟩ := h
  obtain ⟨u, rfl, rx⟩ := vals1 r
  cases rx
  obtain ⟨its, r', pl, hz⟩ := I.list (show SqL X.K H p (ys.map V.int) from sq_l hq)
  have hlen := r'.length
  refine call_tuple_list pl.isList (fun h' kp => ?_) (by simp only [List.size_toArray] <;> omega)
  have I1 : Inv X pins σ H { s with heap := h' } := I.kept (t' := s.toks) kp
  have I2 : Inv X pins σ (upd H h'.objs.size (.frz { cls := .type "tuple", data := .seq its.toArray } (.tup (ys.map V.int)))) { s with heap := h'.push { cls := .type "tuple", data := .seq its.toArray } } :=
    I1.laid (t' := s.toks) (fun b o e => Heap.get?_push_of_some _ e) (Nat.le_refl _) ⟨Heap.get?_push_size _ rfl, hz, its, r', IsTup.new _ _⟩
  exact ⟨.ref h'.objs.size, _, I2, rfl, q _ _ (exn (I1.hok.fresh (Nat.le_refl _))) ⟨_, upd_same, rfl, rfl⟩⟩
/-- t.count(k) -/
def tCntF (to : TE) (t : TA) : TE := fun σ H Q => to σ H fun x H1 => ∃ (p : Addr) (ns : List Int), x = .ref p ∧ ITf H1 p ns ∧ t σ H1 fun vs H2 => ∃ k : Int, vs = [.int k] ∧ ITf H2 p ns ∧ Q (.int (ns.count k : Nat)) H2
theorem pe_tcountF {X : Cx} {o e : Expr} {to : TE} {t : TA} {apos cpos : Pos} (ho : PE X o to) (ha : PA X [e] t)
    (hbase : attributeBase o "count" X.env (eval o X.env) = eval o X.env := by rfl)
    (hfew : ((backTo cpos (starEach [e] X.env)).all (fun x => !x.1) && (backToKw cpos (keywordEach [] X.env)).all (fun x => x.1.isSome)
      && decide (([e] : List Expr).length + ([] : List Keyword).length + (if ([] : List Keyword).isEmpty then 0 else 1) < 30)) = true := by rfl)
    (hline : (apos.endLine == cpos.line) = true := by rfl) (hs : starEach [e] X.env = (false, eval e X.env) :: starEach [] X.env := by rfl) (hplain : (backTo cpos (starEach [] X.env)).any (·.1) = false := by rfl) :
    PE X (.Call (.Attribute o "count" apos) [e] [] cpos) (tCntF to t) := by
  refine ⟨fun pins s σ H Q I h => ?_⟩
  refine wpAny_Call_method_late hbase hfew hline rfl (thn (ho.run pins s σ H _ I h) fun v s1 ⟨x, H1, I1, r1, p, ns, ex, hf, q1⟩ => ?_)
  subst ex
  cases r1
  obtain ⟨ob, hob, hcl, hdi⟩ := id hf
  have hget : s1.heap.get? p = some ob := (I1.hok p _ hob).1
  refine ⟨"tuple", "tuple.count", PySem.F.plainAttrs_tuple, PySem.F.slot_tuple_count, PySem.F.type_tuple_count, ⟨ob, hget, hcl⟩, fun a e => by cases e; exact ⟨ob, hget, hdi⟩, ?_⟩
  have hA := ha.run cpos pins s1 σ H1 _ I1 q1
  rw [hs] at hA ⊢
  refine Calls.callWith_builtin (by show (false || (backTo cpos (starEach [] X.env)).any (·.1)) = false; rw [hplain] <;> rfl) (Calls.evalArgs_plain ?_)
  refine thn hA fun us s2 ⟨vs, H2, I2, r2, k, ev, hf2, q2⟩ => ?_
  subst ev
  exact mt_tcount pins s2 σ H2 (.ref p) [.int k] (.ref p) us Q I2 rfl r2 ⟨p, ns, k, rfl, rfl, sq_f hf2, q2⟩
end Hw
/-! R15 -/
/-! R15: a comprehension of two for-clauses over any walks. -/
namespace Hw
open PySem PySem.Spec PyProof.Rows L2 RZ
def flatV (mi : Nat → Nat) (v : Nat → Nat → V) (i : Nat) : List V := ((List.range i).map fun a => (List.range (mi a)).map (v a)).flatten
theorem flatV_succ (mi : Nat → Nat) (v : Nat → Nat → V) (i : Nat) : flatV mi v (i + 1) = flatV mi v i ++ (List.range (mi i)).map (v i) := by
  unfold flatV
  rw [List.range_succ, List.map_append, List.flatten_append]
  simp
section
variable {J : It} {n : Nat} {G : Hp → Prop} {Y : Nat → Hp → V → Hp → Prop} {g g1 : TG} {te : TE} {wi1 : TI} {vs vs1 : List Nat} {σ : L2.St} {H1 : Hp} {D : Addr} {Qd : Hp → Prop}
theorem lc2_val (w : Walk J n G Y) (mi : Nat → Nat) (v : Nat → Nat → V) (htot : ∀ i, i ≤ n → (flatV mi v i).length < 100000) (hD : H1 D = none) (hG : ∀ H', Ex H1 H' → G H')
    (hs : ∀ i x Hc H', i < n → Ex H1 Hc → Y i Hc x H' → g x (wipe σ vs) H' fun σ2 H2 => wipe σ2 vs = wipe σ vs ∧ ∀ R : It → Hp → Prop,
      (∀ J1 H4 G1 Y1, Walk J1 (mi i) G1 Y1 → Ex Hc H4 → (∀ H5, Ex H1 H5 → G1 H5) → (∀ j y Hd H', j < mi i → Ex H1 Hd → Y1 j Hd y H' → g1 y (wipe σ2 vs1) H' fun σ3 H5 => wipe σ3 vs1 = wipe σ2 vs1 ∧ ∀ Q : VK, (∀ H7, Ex Hd H7 → Q (v i j) H7) → te σ3 H5 Q) → R J1 H4) → wi1 σ2 H2 R)
    (gm : ∀ x σ H (Q Q' : L2.St → Hp → Prop), (∀ σ2 H2, Q σ2 H2 → Q' σ2 H2) → g x σ H Q → g x σ H Q')
    (gm1 : ∀ x σ H (Q Q' : L2.St → Hp → Prop), (∀ σ2 H2, Q σ2 H2 → Q' σ2 H2) → g1 x σ H Q → g1 x σ H Q')
    (hd : ∀ H', Ex H1 H' → H' D = some (.lst (flatV mi v n)) → Qd H') :
    ∃ W : Nat → Nat → Hp → Prop, (∃ m, W 0 m (upd H1 D (.lst []))) ∧ ∀ i m H, W i m H →
      (J.stop i H ∧ Qd H) ∨ (J.go i H ∧ ∃ Nx : Hp → Prop, (∀ H', Nx H' → ∃ m', m' < m ∧ W (i + 1) m' H') ∧ ∀ x H', J.yld i H x H' → g x (wipe σ vs) H' fun σ2 H2 => wipe σ2 vs = wipe σ vs ∧ tYes σ2 H2 fun b H3 =>
        if b = true then wi1 σ2 H3 fun J1 H4 => ∃ W1 : Nat → Nat → Hp → Prop, (∃ m, W1 0 m H4) ∧ ∀ j k H, W1 j k H →
          (J1.stop j H ∧ Nx H) ∨ (J1.go j H ∧ ∃ Nx1 : Hp → Prop, (∀ H', Nx1 H' → ∃ k', k' < k ∧ W1 (j + 1) k' H') ∧ ∀ x H', J1.yld j H x H' → g1 x (wipe σ2 vs1) H' fun σ3 H5 => wipe σ3 vs1 = wipe σ2 vs1 ∧ tYes σ3 H5 fun b H6 =>
            if b = true then te σ3 H6 fun y H7 => ∃ acc, H7 D = some (.lst acc) ∧ acc.length < sizeLine ∧ Nx1 (upd H7 D (.lst (acc ++ [y]))) else Nx1 H6)
        else Nx H3) := by
  refine ⟨fun i m H => m = n - i ∧ i ≤ n ∧ Ex H1 H ∧ H D = some (.lst (flatV mi v i)), ⟨n, by simp, Nat.zero_le _, exn hD, upd_same⟩, ?_⟩
  rintro i m H ⟨rfl, hi, e, hl⟩
  by_cases hlt : i < n
  · refine .inr ⟨w.goes i H hlt (hG H e), fun H' => Ex H1 H' ∧ H' D = some (.lst (flatV mi v (i + 1))), fun H' p => ⟨n - (i + 1), by omega, rfl, hlt, p⟩, fun x H' y => ?_⟩
    refine gm _ _ _ _ _ (fun σ2 H2 z => ⟨z.1, ?_⟩) (hs i x H H' hlt e (w.yields i H x H' hlt (hG H e) y))
    refine tyes ?_
    refine z.2 _ fun J1 H4 G1 Y1 w1 e4 hG1 hs1 => ?_
    refine ⟨fun j k H => k = mi i - j ∧ j ≤ mi i ∧ Ex H1 H ∧ H D = some (.lst (flatV mi v i ++ (List.range j).map (v i))), ⟨mi i, by simp, Nat.zero_le _, ext e e4, ?_⟩, ?_⟩
    · rw [e4 _ _ hl]
      simp
    · rintro j k Hd ⟨rfl, hj, ed, hld⟩
      by_cases hjlt : j < mi i
      · refine .inr ⟨w1.goes j Hd hjlt (hG1 Hd ed), fun H' => Ex H1 H' ∧ H' D = some (.lst (flatV mi v i ++ (List.range (j + 1)).map (v i))), fun H' p => ⟨mi i - (j + 1), by omega, rfl, hjlt, p⟩, fun y H' yy => ?_⟩
        refine gm1 _ _ _ _ _ (fun σ3 H5 z3 => ⟨z3.1, ?_⟩) (hs1 j y Hd H' hjlt ed (w1.yields j Hd y H' hjlt (hG1 Hd ed) yy))
        refine tyes ?_
        refine z3.2 _ fun H7 e7 => ⟨_, e7 _ _ hld, ?_, exm (ext ed e7) hD, ?_⟩
        · have h1 := htot (i + 1) hlt
          rw [flatV_succ, List.length_append, List.length_map, List.length_range] at h1
          refine Evl.sz_lt ?_
          rw [List.length_append, List.length_map, List.length_range]
          omega
        · rw [upd_same, List.range_succ, List.map_append, List.append_assoc]
          rfl
      · have ej : j = mi i := by omega
        subst ej
        refine .inl ⟨w1.stops Hd (hG1 Hd ed), ed, ?_⟩
        rw [flatV_succ]
        exact hld
  · have ei : i = n := by omega
    subst ei
    exact .inl ⟨w.stops H (hG H e), hd H e hl⟩
end
end Hw
/-! W3 -/
/-! W3: the functions of words. -/
namespace Hw
open PySem PySem.Spec PyProof.Rows L2 HR RZ
/-! ### == of lists of ints -/
theorem dpa_ints {K : PySem.W.Frag} {H : Hp} : ∀ ns : List Int, DpAll K H (ns.map V.int) (ns.map PyData.int)
  | [] => .nil
  | n :: ns => .cons (.int n) (dpa_ints ns)
theorem eqva_ints : ∀ ns ms : List Int, PyData.eqvAll (ns.map PyData.int) (ms.map PyData.int) = decide (ns = ms)
  | [], [] => by simp [PyData.eqvAll]
  | [], m :: ms => by simp [PyData.eqvAll]
  | n :: ns, [] => by simp [PyData.eqvAll]
  | n :: ns, m :: ms => by
    simp only [List.map_cons, PyData.eqvAll, PyData.eqv, eqva_ints ns ms, List.cons.injEq]
    by_cases h : n = m <;> simp [h]
theorem lay_ints : ∀ ns : List Int, PyData.canLayAll0 (ns.map PyData.int) = true
  | [] => by simp [PyData.canLayAll0]
  | n :: ns => by simp [PyData.canLayAll0, PyData.canLay0, lay_ints ns]
theorem depth_ints : ∀ ns : List Int, PyData.depthAll (ns.map PyData.int) = 0
  | [] => by simp [PyData.depthAll]
  | n :: ns => by simp [PyData.depthAll, PyData.depth, depth_ints ns]
theorem sh_l (ns : List Int) : SeqAt.shaped (.list (ns.map PyData.int)) = true := by
  simp [SeqAt.shaped, PyData.canLay0, PyData.depth, lay_ints, depth_ints]
theorem sh_t (ns : List Int) : SeqAt.shaped (.tuple (ns.map PyData.int)) = true := by
  simp [SeqAt.shaped, PyData.canLay0, PyData.depth, lay_ints, depth_ints]
theorem dp_l {K : PySem.W.Frag} {H : Hp} {a : Addr} {ns : List Int} (h : IL H a ns) : Dp K H (.ref a) (.list (ns.map PyData.int)) := .lst (sq_l h) (dpa_ints ns)
theorem dp_t {K : PySem.W.Frag} {H : Hp} {a : Addr} {ns : List Int} (h : IT H a ns) : Dp K H (.ref a) (.tuple (ns.map PyData.int)) := .tup (sq_t h) (dpa_ints ns)
theorem dp_nil {K : PySem.W.Frag} {H : Hp} {a : Addr} (h : H a = some (.lst [])) : Dp K H (.ref a) (.list (([] : List Int).map PyData.int)) := .lst (sq_l h) .nil
theorem eq_l (ns ms : List Int) : PyData.eqv (.list (ns.map PyData.int)) (.list (ms.map PyData.int)) = decide (ns = ms) := by
  rw [PyData.eqv]; exact eqva_ints ns ms
theorem eq_t (ns ms : List Int) : PyData.eqv (.tuple (ns.map PyData.int)) (.tuple (ms.map PyData.int)) = decide (ns = ms) := by
  rw [PyData.eqv]; exact eqva_ints ns ms
/-! ### items -/
theorem int_at {ns : List Int} {i : Nat} {x : V} (h : (ns.map V.int)[i]? = some x) : i < ns.length ∧ x = .int (ns.getD i 0) := by
  rw [List.getElem?_map] at h
  cases e : ns[i]? with
  | none => rw [e] at h; cases h
  | some z =>
    rw [e] at h
    have hi : i < ns.length := (List.getElem?_eq_some_iff.mp e).1
    refine ⟨hi, ?_⟩
    rw [List.getD_eq_getElem?_getD, e]
    exact (Option.some.inj h).symm
theorem at_int {ns : List Int} {i : Nat} (h : i < ns.length) : (ns.map V.int)[i]? = some (.int (ns.getD i 0)) := by
  rw [List.getElem?_map, List.getD_eq_getElem?_getD, List.getElem?_eq_getElem h]
  rfl
theorem ati_int {ns : List Int} {i : Nat} (h : i < ns.length) : atI (ns.map V.int) (i : Int) = some (.int (ns.getD i 0)) := atI_nat (at_int h)
theorem ati_at {ns : List Int} {z : Int} {i : Nat} (e : z = (i : Int)) (h : i < ns.length) : atI (ns.map V.int) z = some (.int (ns.getD i 0)) := by
  rw [e]; exact ati_int h
theorem ml {ns : List Int} : (ns.map V.int).length = ns.length := List.length_map _
theorem sz {n : Nat} (h : n ≤ 100000) : n ≤ sizeLine := Evl.sz_of h
section
variable {P : Program} {w : World} {K : PySem.W.Frag} {mg : Str → Option Value} {base : Heap}
def sp_contrary_of : Sp := fun vs H Q _ => ∃ (a : Addr) (ls : List Int), vs = [.ref a] ∧ IT H a ls ∧ ls.length ≤ 1000 ∧ ∀ p H', Ex H H' → IT H' p (contr ls) → Q (.ref p) H'
abbrev N_contrary_of : List Str := ["letters", "letter"]
theorem sc_contrary_of : FnScope N_contrary_of ["letters"] (C8.fnScope s_contrary_of) := C8.fnScope_by (by decide +kernel)
theorem k_contrary_of (T : Txt K mg) : C8.Cal P w K mg base 1 "contrary_of" sp_contrary_of [] := by
  have nd := sc_contrary_of.nd
  refine defn T.d_contrary_of sc_contrary_of (fun vs H Q E h => ?_) (fun _ _ _ _ _ _ us hl => match us, hl with | [_], _ => rfl) (fun f cdv A outer s H vs Q E hr h => ?_)
  · obtain ⟨a, ls, rfl, _⟩ := h
    rfl
  · obtain ⟨a, ls, rfl, ha, hl, q⟩ := h
    refine ⟨_, (pss_one (ps_ret (pe_callTy call_tupG (by rfl) T.z_tuple (by decide +kernel) (pa_cons (pe_lc (own := [("letter", 1)]) (by rfl) nd (pi_tup (pe_revT (pv 0))) (blkOk_by (own := [("letter", 1)]) (N := N_contrary_of) (sc := C8.fnScope s_contrary_of) (by decide +kernel)) (fun _ _ _ _ _ => (pg_name (i := 1) nd rfl (.inl rfl))) (fun _ _ _ _ _ => pts_nil) (fun _ _ _ _ _ => (pe_un un_neg (pv 1)))) pa_nil)))), ?_⟩
    refine ⟨_, rfl, a, ls.map V.int, rfl, sq_t ha, fun p hp => ⟨p, rfl, ⟨_, sq_t upd_same⟩, fun D hD => ?_⟩⟩
    refine lc_val walk_tup (by rw [List.length_reverse, ml]; omega) (fun i => .int (-(ls.reverse.getD i 0))) hD (fun H' e => sq_t (e _ _ upd_same)) (fun i x Hc H' hi e hy => ?_) gmN (fun H' e h => ?_)
    · obtain ⟨rfl, hx⟩ := hy
      rw [← List.map_reverse] at hx
      obtain ⟨_, rfl⟩ := int_at hx
      exact ⟨rfl, fun Q q => ⟨_, rfl, _, rfl, q _ exr⟩⟩
    · refine ⟨D, _, rfl, .inl h, fun l H2 e2 h2 => ?_⟩
      refine q l _ (ext (ext (exn hp) e) e2) ?_
      show H2 l = _
      rw [h2]
      have e1 : (List.map V.int ls).reverse.length = ls.reverse.length := by rw [List.length_reverse, ml, List.length_reverse]
      rw [e1, rmap_at (l := ls.reverse) (f := fun z => V.int (-z)) (d := 0)]
      unfold contr
      rw [List.map_map]
      rfl
def sp_shortened_of : Sp := fun vs H Q _ => ∃ (a : Addr) (ls : List Int), vs = [.ref a] ∧ IT H a ls ∧ ls.length ≤ 1000 ∧ ∀ p H', Ex H H' → IT H' p (shortF ls) → Q (.ref p) H'
abbrev N_shortened_of : List Str := ["letters", "found", "letter"]
theorem sc_shortened_of : FnScope N_shortened_of ["letters"] (C8.fnScope s_shortened_of) := C8.fnScope_by (by decide +kernel)
theorem k_shortened_of (T : Txt K mg) : C8.Cal P w K mg base 1 "shortened_of" sp_shortened_of [] := by
  have nd := sc_shortened_of.nd
  refine defn T.d_shortened_of sc_shortened_of (fun vs H Q E h => ?_) (fun _ _ _ _ _ _ us hl => match us, hl with | [_], _ => rfl) (fun f cdv A outer s H vs Q E hr h => ?_)
  · obtain ⟨a, ls, rfl, _⟩ := h
    rfl
  · obtain ⟨a, ls, rfl, ha, hl, q⟩ := h
    refine ⟨_, (pss_cons (ps_set (i := 1) nd rfl (.inl rfl) (pe_lst pa_nil))
        (pss_cons (ps_for PassesOwn.never rfl (pi_tup (pv 0)) (pg_name (i := 2) nd rfl (.inl rfl))
        (pss_one (ps_if (PW.pt (pw_and (pt_cmpR (op_neD hr.units) (pv 1) (pe_lst pa_nil) (nomark _)) (pw_and1 (pt_cmpR op_eq (pe_ix ix_list (pv 1) (pe_un un_neg pe_int) (fun _ _ => rfl)) (pe_un un_neg (pv 2)) (nomark _)))))
        (pss_one (ps_expr (pe_bm0 PySem.F.plainAttrs_list PySem.F.slot_list_pop PySem.F.type_list_pop mt_pop (pv 1))))
        (pss_one (ps_expr (pe_bm PySem.F.plainAttrs_list PySem.F.slot_list_append PySem.F.type_list_append mt_append (pv 1) (pa_cons (pv 2) pa_nil)))))))
        (pss_one (ps_ret (pe_callTy call_tupG (by rfl) T.z_tuple (by decide +kernel) (pa_cons (pv 1) pa_nil)))))), ?_⟩
    refine ⟨Nat.zero_le _, fun F hF => ⟨_, rfl, a, rfl, ⟨ls.map V.int, sq_t (exn hF _ _ ha)⟩, ?_⟩⟩
    refine for_tup (xs := ls.map V.int) (fun i σ H' => ∃ y2, σ = [some (.ref a), some (.ref F), y2] ∧ Ex H H' ∧ IL H' F ((ls.take i).foldl pushS [])) ⟨none, rfl, exn hF, upd_same⟩ (fun i σ H' _ p => ?_) (fun i x σ H' hx p => ?_) (fun σ H' p => ?_)
    · obtain ⟨y2, rfl, e, hf⟩ := p
      exact sq_t (e _ _ ha)
    · obtain ⟨y2, rfl, e, hf⟩ := p
      obtain ⟨hi, rfl⟩ := int_at hx
      have hlen : ((ls.take i).foldl pushS []).length ≤ i := by
        have := length_foldS (ls.take i) []
        rw [List.length_take] at this
        simp at this
        omega
      have step : ((ls.take (i + 1)).foldl pushS []) = pushS ((ls.take i).foldl pushS []) (ls.getD i 0) := by
        rw [List.take_add_one, List.foldl_append, List.getD_eq_getElem?_getD, List.getElem?_eq_getElem hi]
        rfl
      generalize (ls.take i).foldl pushS [] = acc at hf hlen step
      refine ⟨_, rfl, Nat.zero_le _, fun N hN => ?_⟩
      have hf2 : IL (upd H' N (.lst [])) F acc := exn hN _ _ hf
      refine ⟨_, _, dp_l hf2, dp_nil upd_same, sh_l _, sh_l _, _, rfl, ?_⟩
      rw [eq_l]
      have e2 : Ex H (upd H' N (.lst [])) := ext e (exn hN)
      have app : ∀ H2, Ex (upd H' N (.lst [])) H2 → pushS acc (ls.getD i 0) = acc ++ [ls.getD i 0] → (∃ y2, [some (V.ref a), some (V.ref F), some (V.int (ls.getD i 0))] = [some (.ref a), some (.ref F), y2] ∧ Ex H (upd H2 F (.lst (acc.map V.int ++ [.int (ls.getD i 0)]))) ∧ IL (upd H2 F (.lst (acc.map V.int ++ [.int (ls.getD i 0)]))) F ((ls.take (i + 1)).foldl pushS [])) := fun H2 e3 ep => by
        refine ⟨_, rfl, exm (ext e2 e3) hF, ?_⟩
        show upd _ F _ F = _
        rw [upd_same, step, ep, List.map_append]
        rfl
      refine ite2 (fun ne => ?_) (fun ne => ?_)
      · have ne : acc ≠ [] := by simpa using ne
        have e0 : acc = acc.dropLast ++ [acc.getLastD 0] := by
          rw [List.getLastD_eq_getLast?, List.getLast?_eq_getLast ne]
          exact (List.dropLast_concat_getLast ne).symm
        refine ⟨_, rfl, _, rfl, F, acc.map V.int, -1, .int (acc.getLastD 0), rfl, rfl, sq_l hf2, ?_, ?_⟩
        · have : acc.map V.int = (acc.dropLast).map V.int ++ [.int (acc.getLastD 0)] := by
            conv => lhs; rw [e0, List.map_append]
            rfl
          rw [this]
          exact atI_last _ _
        · refine ⟨_, rfl, _, rfl, rfl, _, rfl, ?_⟩
          refine ite2 (fun eq => ?_) (fun eq => ?_)
          · have eq : acc.getLastD 0 = -(ls.getD i 0) := V.int.inj (of_decide_eq_true eq)
            refine ⟨_, rfl, .inl ⟨rfl, _, sq_l hf2⟩, F, acc.map V.int, .int (acc.getLastD 0), rfl, rfl, hf2, ?_, ?_⟩
            · rw [ml, at_int (by have := List.length_pos_iff.mpr ne; omega), List.getD_eq_getElem?_getD, List.getLastD_eq_getLast?, List.getLast?_eq_getElem?]
            · refine ⟨_, rfl, exm e2 hF, ?_⟩
              show upd _ F _ F = _
              rw [upd_same, step]
              unfold pushS
              rw [if_pos ⟨ne, eq⟩, List.map_dropLast]
          · have eq : ¬ acc.getLastD 0 = -(ls.getD i 0) := fun z => eq (decide_eq_true (congrArg V.int z))
            refine ⟨_, rfl, .inl ⟨rfl, _, sq_l hf2⟩, _, rfl, F, _, _, rfl, rfl, hf2, by rw [ml]; exact Evl.sz_lt (by omega), ?_⟩
            refine app _ exr ?_
            unfold pushS
            rw [if_neg fun z => eq z.2]
      · have ne : acc = [] := by simpa using ne
        refine ⟨_, rfl, .inl ⟨rfl, _, sq_l hf2⟩, _, rfl, F, _, _, rfl, rfl, hf2, by rw [ml]; exact Evl.sz_lt (by omega), ?_⟩
        refine app _ exr ?_
        unfold pushS
        rw [if_neg fun z => z.1 ne]
    · obtain ⟨y2, rfl, e, hf⟩ := p
      have et : ls.take (ls.map V.int).length = ls := List.take_of_length_le (by rw [ml]; exact Nat.le_refl _)
      rw [et] at hf
      exact ⟨_, rfl, F, _, rfl, .inl hf, fun l H2 e2 h2 => q l _ (ext e e2) h2⟩
end
end Hw
/-! W4 -/
/-! W4: words. -/
namespace Hw
open PySem PySem.Spec PyProof.Rows L2 HR RZ
theorem dec_int' {i j : Int} : decide (V.int i = V.int j) = decide (i = j) := by
  by_cases h : i = j
  · subst h; simp
  · rw [decide_eq_false h, decide_eq_false fun z => h (V.int.inj z)]
section
variable {P : Program} {w : World} {K : PySem.W.Frag} {mg : Str → Option Value} {base : Heap}
def sp_rounded_of : Sp := fun vs H Q _ => ∃ (a : Addr) (ls : List Int), vs = [.ref a] ∧ IT H a ls ∧ ls.length ≤ 1000 ∧ ∀ p H', Ex H H' → IT H' p (roundF ls) → Q (.ref p) H'
abbrev N_rounded_of : List Str := ["letters", "many", "at"]
theorem sc_rounded_of : FnScope N_rounded_of ["letters"] (C8.fnScope s_rounded_of) := C8.fnScope_by (by decide +kernel)
theorem k_rounded_of (T : Txt K mg) : C8.Cal P w K mg base 1 "rounded_of" sp_rounded_of [] := by
  have nd := sc_rounded_of.nd
  refine defn T.d_rounded_of sc_rounded_of (fun vs H Q E h => ?_) (fun _ _ _ _ _ _ us hl => match us, hl with | [_], _ => rfl) (fun f cdv A outer s H vs Q E hr h => ?_)
  · obtain ⟨a, ls, rfl, _⟩ := h
    rfl
  · obtain ⟨a, ls, rfl, ha, hl, q⟩ := h
    refine ⟨_, (pss_cons (ps_par (i := 1) (j := 2) (by rfl) nd rfl rfl (by decide) rfl rfl (pa_cons (pe_callB call_len_seq (by rfl) T.z_len PySem.boot_len (pa_cons (pv 0) pa_nil)) (pa_cons pe_int pa_nil)) (by rfl))
        (pss_cons (ps_while PassesOwn.never (PW.pt (pw_and (pt_cmpR op_lt (pv 2) (pe_op op_sub (pe_op op_sub (pv 1) pe_int) (pv 2)) (nomark _)) (pw_and1 (pt_cmpR op_eq (pe_ix ix_tup (pv 0) (pv 2) (fun _ _ => rfl)) (pe_un un_neg (pe_ix ix_tup (pv 0) (pe_op op_sub (pe_op op_sub (pv 1) pe_int) (pv 2)) (fun _ _ => rfl))) (nomark _)))))
        (pss_one (ps_set (i := 2) nd rfl (.inl rfl) (pe_op op_add (pv 2) pe_int))))
        (pss_one (ps_ret (pe_slice sl_tupG (pv 0) (po_some (pv 2)) (po_some (pe_op op_sub (pv 1) (pv 2)))))))), ?_⟩
    refine ⟨_, rfl, a, _, rfl, .inr (sq_t ha), _, _, rfl, ?_⟩
    rw [ml]
    refine ⟨fun m σ H' => ∃ k : Nat, σ = [some (.ref a), some (.int (ls.length : Int)), some (.int (k : Int))] ∧ m = ls.length - k ∧ k + k ≤ ls.length ∧ H' = H ∧ roundA ls (ls.length - k) k = roundA ls ls.length 0, ⟨_, 0, rfl, rfl, by omega, rfl, rfl⟩, fun m σ H' h => ?_⟩
    obtain ⟨k, rfl, rfl, hk, rfl, hr⟩ := h
    have stop : ¬ (k + 1 + k < ls.length ∧ ls.getD k 0 = -ls.getD (ls.length - 1 - k) 0) → IT H' a ls → k = roundA ls ls.length 0 := fun z _ => by
      rw [← hr, roundA_stop z]
    have last : k = roundA ls ls.length 0 → ∃ v, ([some (V.ref a), some (.int (ls.length : Int)), some (.int (k : Int))] : L2.St)[0]? = some (some v) ∧ ∃ v2, ([some (V.ref a), some (.int (ls.length : Int)), some (.int (k : Int))] : L2.St)[2]? = some (some v2) ∧ ∃ i, v2 = .int i ∧
        ∃ v3, ([some (V.ref a), some (.int (ls.length : Int)), some (.int (k : Int))] : L2.St)[1]? = some (some v3) ∧ ∃ v4, ([some (V.ref a), some (.int (ls.length : Int)), some (.int (k : Int))] : L2.St)[2]? = some (some v4) ∧ ∃ i1 j1, v3 = .int i1 ∧ v4 = .int j1 ∧
        ∃ j, V.int (i1 - j1) = .int j ∧ rSlG v (some i) (some j) H' Q := fun e => by
      refine ⟨_, rfl, _, rfl, _, rfl, _, rfl, _, rfl, _, _, rfl, rfl, _, rfl, a, _, rfl, ha, fun p H2 e2 h2 => q p H2 e2 ?_⟩
      have e3 : (ls.length : Int) - (k : Int) = ((ls.length - k : Nat) : Int) := by omega
      rw [e3, cut_run (by omega) (by rw [ml]; omega), ← List.map_drop, ← List.map_take] at h2
      rw [e] at h2
      exact h2
    refine ⟨_, rfl, _, rfl, _, _, rfl, rfl, _, rfl, _, _, rfl, rfl, _, _, rfl, rfl, _, rfl, ite2 (fun lt => ?_) (fun lt => ?_)⟩
    · have lt : k + 1 + k < ls.length := by
        have := of_decide_eq_true lt
        omega
      have e1 : (ls.length : Int) - 1 - (k : Int) = ((ls.length - 1 - k : Nat) : Int) := by omega
      refine ⟨_, rfl, _, rfl, a, _, _, _, rfl, rfl, sq_t ha, ati_int (by omega), _, rfl, _, rfl, _, _, rfl, rfl, _, rfl, _, _, rfl, rfl, a, _, _, _, rfl, rfl, sq_t ha, ati_at e1 (by omega), _, rfl, rfl, _, rfl, ?_⟩
      rw [dec_int']
      refine ite2 (fun eq => ?_) (fun eq => ?_)
      · have eq := of_decide_eq_true eq
        refine ⟨fun σ' H2 => ∃ m', m' < ls.length - k ∧ ∃ k : Nat, σ' = [some (.ref a), some (.int (ls.length : Int)), some (.int (k : Int))] ∧ m' = ls.length - k ∧ k + k ≤ ls.length ∧ H2 = H' ∧ roundA ls (ls.length - k) k = roundA ls ls.length 0, fun _ _ z => z, ?_⟩
        refine ⟨_, rfl, _, _, rfl, rfl, _, by omega, k + 1, rfl, rfl, by omega, rfl, ?_⟩
        rw [← hr, show ls.length - k = (ls.length - (k + 1)) + 1 by omega, roundA_step ⟨lt, eq⟩]
      · have eq : ¬ ls.getD k 0 = -ls.getD (ls.length - 1 - k) 0 := fun z => eq (decide_eq_true z)
        exact last (stop (fun z => eq z.2) ha)
    · have lt : ¬ k + 1 + k < ls.length := fun z => lt (decide_eq_true (by omega))
      exact last (stop (fun z => lt z.1) ha)
def sp_are_short : Sp := fun vs H Q _ => ∃ (a : Addr) (ls : List Int), vs = [.ref a] ∧ IT H a ls ∧ ls.length ≤ 1000 ∧ ∀ H', Ex H H' → Q (.bl (areShort ls)) H'
abbrev N_are_short : List Str := ["letters", "one", "other"]
theorem sc_are_short : FnScope N_are_short ["letters"] (C8.fnScope s_are_short) := C8.fnScope_by (by decide +kernel)
theorem k_are_short (T : Txt K mg) : C8.Cal P w K mg base 1 "are_short" sp_are_short [] := by
  have nd := sc_are_short.nd
  refine defn T.d_are_short sc_are_short (fun vs H Q E h => ?_) (fun _ _ _ _ _ _ us hl => match us, hl with | [_], _ => rfl) (fun f cdv A outer s H vs Q E hr h => ?_)
  · obtain ⟨a, ls, rfl, _⟩ := h
    rfl
  · obtain ⟨a, ls, rfl, ha, hl, q⟩ := h
    refine ⟨_, (pss_one (ps_ret (pe_callB (cr_all rfl) (by rfl) T.z_all (by decide +kernel) (pa_cons (pe_lc (g := gTup K 2 (gCons (gName 1) (gCons (gName 2) gNil))) (own := [("one", 1), ("other", 2)]) (by rfl) nd (pi_zipA (by rfl) T.z_zip (pa_cons (pv 0) (pa_cons (pe_slice sl_tupG (pv 0) (po_some pe_int) po_none) pa_nil))) (blkOk_by (own := [("one", 1), ("other", 2)]) (N := N_are_short) (sc := C8.fnScope s_are_short) (by decide +kernel)) (fun _ _ _ _ _ => (pg_tup rfl (pgs_cons (pg_name (i := 1) nd rfl (.inl rfl)) (pgs_cons (pg_name (i := 2) nd rfl (.inl rfl)) pgs_nil)))) (fun _ _ _ _ _ => pts_nil) (fun _ _ _ _ _ => (pe_cmpR op_ne (pv 1) (pe_un un_neg (pv 2)) (nomark _)))) pa_nil)))), ?_⟩
    refine ⟨_, rfl, _, rfl, 1, rfl, a, _, rfl, ha, fun b H1 e1 hb => ?_⟩
    rw [show (1 : Int) = ((1 : Nat) : Int) from rfl, cut_from', ← List.map_drop] at hb
    refine ⟨a, b, _, _, rfl, .inr ⟨sq_t (e1 _ _ ha), sq_t hb, fun D hD => ?_⟩⟩
    refine lc_val (walk_zipT rfl) (by rw [ml, ml, List.length_drop]; omega) (fun i => .bl (!decide (ls.getD i 0 = -ls.getD (i + 1) 0))) hD (fun H' e => ⟨sq_t (e _ _ (e1 _ _ ha)), sq_t (e _ _ hb)⟩) (fun i x Hc H' hi e hy => ?_) gmP (fun H' e h => ?_)
    · obtain ⟨T2, x, y, rfl, hT, rfl, hx, hy⟩ := hy
      obtain ⟨hi1, rfl⟩ := int_at hx
      obtain ⟨hi2, rfl⟩ := int_at hy
      have ed : (ls.drop 1).getD i 0 = ls.getD (i + 1) 0 := by
        rw [List.getD_eq_getElem?_getD, List.getD_eq_getElem?_getD, List.getElem?_drop, Nat.add_comm]
      refine ⟨T2, _, rfl, sq_t upd_same, rfl, _, _, rfl, _, _, rfl, rfl, rfl, fun Q q => ?_⟩
      refine ⟨_, rfl, _, rfl, _, rfl, rfl, ?_⟩
      rw [dec_int', ed]
      exact q _ (exn hT)
    · rw [bls] at h
      refine ⟨D, _, rfl, sq_l h, ?_⟩
      have ea : (List.map (fun i => !decide (ls.getD i 0 = -ls.getD (i + 1) 0)) (List.range (min (List.map V.int ls).length (List.map V.int (List.drop 1 ls)).length))).all id = areShort ls := by
        rw [ml, ml, List.length_drop, Nat.min_eq_right (by omega), List.all_map]
        rfl
      rw [ea]
      exact q _ (ext e1 e)
def sp_need_few_words : Sp := fun vs H Q _ => ∃ i : Int, vs = [.int i] ∧ i ≤ 500 ∧ Q .non H
abbrev N_need_few_words : List Str := ["many"]
theorem sc_need_few_words : FnScope N_need_few_words ["many"] (C8.fnScope s_need_few_words) := C8.fnScope_by (by decide +kernel)
theorem k_need_few_words (T : Txt K mg) : C8.Cal P w K mg base 1 "need_few_words" sp_need_few_words [] := by
  have nd := sc_need_few_words.nd
  refine defn T.d_need_few_words sc_need_few_words (fun vs H Q E h => ?_) (fun _ _ _ _ _ _ us hl => match us, hl with | [_], _ => rfl) (fun f cdv A outer s H vs Q E hr h => ?_)
  · obtain ⟨i, rfl, _⟩ := h
    rfl
  · obtain ⟨i, rfl, hi, q⟩ := h
    refine ⟨_, (pss_one (ps_if (pt_cmpR op_gt (pv 0) (C8.pe_gc (by rfl) (gi T.v_MOST_LETTERS_words)) (nomark _))
        (pss_one ps_never)
        pss_nil)), ?_⟩
    refine ⟨_, rfl, _, _, rfl, rfl, _, rfl, ?_⟩
    rw [decide_eq_false (show ¬ (500 : Int) < i by omega)]
    exact iteF q
/-- a Word of these letters -/
def WordAt (K : PySem.W.Frag) (H : Hp) (x : Addr) (ls : List Int) : Prop := ∃ (dx t tk : Addr) (ks : List Int), H x = some (.ins (cWord K) dx [("letters", .ref t), ("length", .int (ls.length : Int)), ("kinds", .ref tk), ("is_short", .bl (areShort ls)), ("is_short_round", .bl (isSR ls))]) ∧ IT H t ls ∧ IT H tk ks ∧ ∀ k ∈ ks, ∃ l, l ∈ ls ∧ k = absI l
theorem WordAt.lx {H H' : Hp} {x : Addr} {ls : List Int} (e : Lx H H') (h : WordAt K H x ls) : WordAt K H' x ls := by
  obtain ⟨dx, t, tk, ks, h1, h2, h3, h4⟩ := h
  exact ⟨dx, t, tk, ks, e _ _ h1 (fun _ z => nomatch z) (fun _ z => nomatch z) (fun _ z => nomatch z), h2.lx e, h3.lx e, h4⟩
theorem WordAt.mono {H H' : Hp} {x : Addr} {ls : List Int} (e : Ex H H') (h : WordAt K H x ls) : WordAt K H' x ls := h.lx (Ex.lx e)
def sp_need_word (K : PySem.W.Frag) : Sp := fun vs H Q _ => ∃ (x : Addr) (ls : List Int) (y : V), vs = [.ref x, y] ∧ WordAt K H x ls ∧ Q .non H
abbrev N_need_word : List Str := ["value", "part"]
theorem sc_need_word : FnScope N_need_word ["value", "part"] (C8.fnScope s_need_word) := C8.fnScope_by (by decide +kernel)
theorem k_need_word (T : Txt K mg) : C8.Cal P w K mg base 1 "need_word" (sp_need_word K) [] := by
  have nd := sc_need_word.nd
  refine defn T.d_need_word sc_need_word (fun vs H Q E h => ?_) (fun _ _ _ _ _ _ us hl => match us, hl with | [_, _], _ => rfl) (fun f cdv A outer s H vs Q E hr h => ?_)
  · obtain ⟨x, ls, y, rfl, _⟩ := h
    rfl
  · obtain ⟨x, ls, y, rfl, ⟨dx, t, tk, ks, h1, h2, h3, h4⟩, q⟩ := h
    refine ⟨_, (pss_one (ps_if (pt_not (pt_val (pe_callB (C8.call_isC T.i_Word) (by rfl) T.z_isinstance (by decide +kernel) (pa_cons (pv 0) (pa_cons (pe_glob (v := .ref (cWord K)) (by rfl) T.g_Word rfl) pa_nil)))))
        (pss_one ps_never)
        pss_nil)), ?_⟩
    refine ⟨_, rfl, x, dx, _, rfl, h1, _, rfl, ?_⟩
    exact iteF q
end
end Hw
/-! W5 -/
/-! W5: the class Word. -/
namespace Hw
open PySem PySem.Spec PyProof.Rows L2 HR RZ
theorem all_true {n : Nat} : (List.replicate n true).all id = true := by simp
theorem bl_true {n : Nat} : (List.range n).map (fun _ => V.bl true) = (List.replicate n true).map V.bl := by rw [rconst, List.map_replicate]
/-- behind a new instance's __init__ all that was tracked is as it was -/
theorem ex_made {H H1 : Hp} {x dx C : Addr} (nx : H x = none) (nd : H dx = none) (k : ∀ b o, b ≠ x → (upd (upd H dx (.own x)) x (.ins C dx [])) b = some o → H1 b = some o) : Ex H H1 :=
  fun b o e => k b o (ne_of_none e nx) (by rw [upd_ne (ne_of_none e nx), upd_ne (ne_of_none e nd)]; exact e)
theorem exb {H : Hp} {x dx C : Addr} (nx : H x = none) (nd : H dx = none) : Ex H (upd (upd H dx (.own x)) x (.ins C dx [])) := fun b o e => by
  rw [upd_ne (ne_of_none e nx), upd_ne (ne_of_none e nd)]
  exact e
section
variable {P : Program} {w : World} {K : PySem.W.Frag} {mg : Str → Option Value} {base : Heap}
def sp_are_letters : Sp := fun vs H Q _ => ∃ (a : Addr) (ls : List Int), vs = [.ref a] ∧ IS H a ls ∧ (∀ l ∈ ls, isLet l) ∧ ls.length ≤ 1000 ∧ ∀ H', Ex H H' → Q (.bl true) H'
abbrev N_are_letters : List Str := ["value", "each"]
theorem sc_are_letters : FnScope N_are_letters ["value"] (C8.fnScope s_are_letters) := C8.fnScope_by (by decide +kernel)
theorem k_are_letters (T : Txt K mg) : C8.Cal P w K mg base 4 "are_letters" sp_are_letters [] := by
  have nd := sc_are_letters.nd
  refine defn T.d_are_letters sc_are_letters (fun vs H Q E h => ?_) (fun _ _ _ _ _ _ us hl => match us, hl with | [_], _ => rfl) (fun f cdv A outer s H vs Q E hr h => ?_)
  · obtain ⟨a, ls, rfl, _⟩ := h
    rfl
  · obtain ⟨a, ls, rfl, ha, hls, hn, q⟩ := h
    have el : ∀ (H1 Hc : Hp) (i : Nat) (x : V), (ls.map V.int)[i]? = some x → ∃ z, x = .int z ∧ isLet z := fun H1 Hc i x hx => by
      obtain ⟨hi, rfl⟩ := int_at hx
      refine ⟨_, rfl, hls _ ?_⟩
      rw [List.getD_eq_getElem?_getD, List.getElem?_eq_getElem hi]
      exact List.getElem_mem hi
    rcases ha with ha | ha
    · refine ⟨_, (pss_one (ps_ret (pe_and (C8.pe_c (k_is_listed T) hr (by decide) (by rfl) (pa_cons (pv 0) pa_nil)) (pe_one (pe_callB (cr_all rfl) (by rfl) T.z_all (by decide +kernel) (pa_cons (pe_lc (own := [("each", 1)]) (by rfl) nd (pi_list (pv 0)) (blkOk_by (own := [("each", 1)]) (N := N_are_letters) (sc := C8.fnScope s_are_letters) (by decide +kernel)) (fun _ _ _ _ _ => (pg_name (i := 1) nd rfl (.inl rfl))) (fun _ _ _ _ _ => pts_nil) (fun _ _ _ _ _ => (C8.pe_c (k_is_letter T) hr (by decide) (by rfl) (pa_cons (pv 1) pa_nil)))) pa_nil)))))), ?_⟩
      refine ⟨_, rfl, a, _, rfl, .inl ha, fun H1 e1 => ⟨_, rfl, iteT ?_⟩⟩
      refine ⟨_, rfl, a, rfl, ⟨_, sq_l (e1 _ _ ha)⟩, fun D hD => ?_⟩
      refine lc_val walk_list (by rw [ml]; omega) (fun _ => .bl true) hD (fun H' e => sq_l (e _ _ (e1 _ _ ha))) (fun i x Hc H' hi e hy => ?_) gmN (fun H' e h => ?_)
      · obtain ⟨rfl, hx⟩ := hy
        obtain ⟨z, rfl, hz⟩ := el H1 H1 i x hx
        exact ⟨rfl, fun Q q => ⟨_, rfl, z, rfl, hz, q _ exr⟩⟩
      · rw [bl_true] at h
        refine ⟨D, _, rfl, sq_l h, ?_⟩
        rw [all_true]
        exact q _ (ext e1 e)
    · refine ⟨_, (pss_one (ps_ret (pe_and (C8.pe_c (k_is_listed T) hr (by decide) (by rfl) (pa_cons (pv 0) pa_nil)) (pe_one (pe_callB (cr_all rfl) (by rfl) T.z_all (by decide +kernel) (pa_cons (pe_lc (own := [("each", 1)]) (by rfl) nd (pi_tup (pv 0)) (blkOk_by (own := [("each", 1)]) (N := N_are_letters) (sc := C8.fnScope s_are_letters) (by decide +kernel)) (fun _ _ _ _ _ => (pg_name (i := 1) nd rfl (.inl rfl))) (fun _ _ _ _ _ => pts_nil) (fun _ _ _ _ _ => (C8.pe_c (k_is_letter T) hr (by decide) (by rfl) (pa_cons (pv 1) pa_nil)))) pa_nil)))))), ?_⟩
      refine ⟨_, rfl, a, _, rfl, .inr ha, fun H1 e1 => ⟨_, rfl, iteT ?_⟩⟩
      refine ⟨_, rfl, a, rfl, ⟨_, sq_t (e1 _ _ ha)⟩, fun D hD => ?_⟩
      refine lc_val walk_tup (by rw [ml]; omega) (fun _ => .bl true) hD (fun H' e => sq_t (e _ _ (e1 _ _ ha))) (fun i x Hc H' hi e hy => ?_) gmN (fun H' e h => ?_)
      · obtain ⟨rfl, hx⟩ := hy
        obtain ⟨z, rfl, hz⟩ := el H1 H1 i x hx
        exact ⟨rfl, fun Q q => ⟨_, rfl, z, rfl, hz, q _ exr⟩⟩
      · rw [bl_true] at h
        refine ⟨D, _, rfl, sq_l h, ?_⟩
        rw [all_true]
        exact q _ (ext e1 e)
def sp_Word (K : PySem.W.Frag) : Sp := fun vs H Q _ => ∃ (x dx a : Addr) (ls : List Int), vs = [.ref x, .ref a] ∧ H x = some (.ins (cWord K) dx []) ∧ IS H a ls ∧ (∀ l ∈ ls, isLet l) ∧ ls.length ≤ 60 ∧
  ∀ H', (∀ b o, b ≠ x → H b = some o → H' b = some o) → WordAt K H' x ls → Q .non H'
abbrev N_Word_init : List Str := ["self", "letters", "letter"]
theorem sc_Word_init : FnScope N_Word_init ["self", "letters"] (C8.fnScope s_Word_init) := C8.fnScope_by (by decide +kernel)
theorem k_Word (T : Txt K mg) : C8.Mak P w K mg base 5 "Word" (cWord K) (sp_Word K) [] := by
  have nd := sc_Word_init.nd
  refine makn T.m_Word_init T.k_Word T.g_Word sc_Word_init (fun vs H Q E h => ?_) (fun _ _ _ _ _ _ us hl => match us, hl with | [_, _], _ => rfl) (fun f cdv A outer s H vs Q E hr h => ?_)
  · obtain ⟨x, dx, a, ls, rfl, _⟩ := h
    rfl
  · obtain ⟨x, dx, a, ls, rfl, hx, ha, hls, hn, q⟩ := h
    refine ⟨_, (pss_cons (ps_if (pt_not (pt_val (C8.pe_c (k_are_letters T) hr (by decide) (by rfl) (pa_cons (pv 1) pa_nil))))
        (pss_one ps_never)
        pss_nil)
        (pss_cons (ps_expr (C8.pe_c (k_need_few_words T) hr (by decide) (by rfl) (pa_cons (pe_callB call_len_seq (by rfl) T.z_len PySem.boot_len (pa_cons (pv 1) pa_nil)) pa_nil)))
        (pss_cons (ps_fld (pv 0) (pe_callTy call_tupG (by rfl) T.z_tuple (by decide +kernel) (pa_cons (pv 1) pa_nil)) rfl)
        (pss_cons (ps_fld (pv 0) (pe_callB call_len_seq (by rfl) T.z_len PySem.boot_len (pa_cons (pe_fld (pv 0) rfl) pa_nil)) rfl)
        (pss_cons (ps_fld (pv 0) (pe_callTy call_tupG (by rfl) T.z_tuple (by decide +kernel) (pa_cons (pe_callB (cr_sortedSet rfl) (by rfl) T.z_sorted (by decide +kernel) (pa_cons (pe_scI (own := [("letter", 2)]) (by rfl) nd (pi_tup (pe_fld (pv 0) rfl)) (blkOk_by (own := [("letter", 2)]) (N := N_Word_init) (sc := C8.fnScope s_Word_init) (by decide +kernel)) (fun _ _ _ _ _ => (pg_name (i := 2) nd rfl (.inl rfl))) (fun _ _ _ _ _ => pts_nil) (fun _ _ _ _ _ => (pe_callB call_abs (by rfl) T.z_abs (by decide +kernel) (pa_cons (pv 2) pa_nil)))) pa_nil)) pa_nil)) rfl)
        (pss_cons (ps_fld (pv 0) (C8.pe_c (k_are_short T) hr (by decide) (by rfl) (pa_cons (pe_fld (pv 0) rfl) pa_nil)) rfl)
        (pss_one (ps_fld (pv 0) (pe_and (pe_fld (pv 0) rfl) (pe_one (pe_cmpR (op_eqD hr.units) (C8.pe_c (k_rounded_of T) hr (by decide) (by rfl) (pa_cons (pe_fld (pv 0) rfl) pa_nil)) (pe_fld (pv 0) rfl) (nomark _)))) rfl)))))))), ?_⟩
    have cl := T.i_Word.cl
    refine ⟨_, rfl, a, ls, rfl, ha, hls, by omega, fun H1 e1 => ⟨_, rfl, iteF ?_⟩⟩
    have hx1 := e1 _ _ hx
    have ha1 := ha.mono e1
    have nxa : a ≠ x := fun e => by
      subst e
      rcases ha with z | z <;> (have z2 : H a = _ := z; rw [hx] at z2; cases z2)
    -- need_few_words(len(letters))
    refine ⟨_, rfl, a, ls.map V.int, rfl, ha1.imp sq_l sq_t, _, rfl, by rw [ml]; omega, ?_⟩
    -- self.letters = tuple(letters)
    refine ⟨_, rfl, a, ls.map V.int, rfl, ha1, fun t H2 e2 ht => ?_⟩
    have hx2 := e2 _ _ hx1
    refine ⟨_, rfl, x, _, dx, _, rfl, hx2, cl, T.n_Word_letters, by decide, ?_⟩
    have ntx : t ≠ x := fun e => by subst e; rw [hx2] at ht; cases ht
    -- self.length = len(self.letters)
    refine ⟨_, rfl, x, _, dx, _, _, rfl, upd_same, cl, T.n_Word_letters, rfl, t, _, rfl, .inr (sq_t ((upd_ne ntx).trans ht)), ?_⟩
    refine ⟨_, rfl, x, _, dx, _, rfl, upd_same, cl, T.n_Word_length, (show 1 < 1000 by decide), ?_⟩
    rw [upd_upd, ml]
    -- self.kinds = tuple(sorted({abs(letter) for letter in self.letters}))
    have ht3 : ∀ o, IT (upd H2 x o) t ls := fun o => (upd_ne ntx).trans ht
    refine ⟨_, rfl, x, _, dx, _, _, rfl, upd_same, cl, T.n_Word_letters, rfl, t, rfl, ⟨_, sq_t (ht3 _)⟩, fun D hD => ?_⟩
    refine scI_all walk_tup (by rw [ml]; omega) (fun i => absI (ls.getD i 0)) hD (fun H' e => sq_t (e _ _ (ht3 _))) (fun i y Hc H' hi e hy => ?_) gmN (fun H3 S c e3 hS hc hk => ?_)
    · obtain ⟨rfl, hy⟩ := hy
      obtain ⟨_, rfl⟩ := int_at hy
      exact ⟨rfl, fun Q q => ⟨_, rfl, _, rfl, q _ exr⟩⟩
    rw [ml] at hc hk
    refine ⟨D, S, c, rfl, hS, by omega, fun ks p hks hmem hlen hp => ?_⟩
    refine ⟨p, _, rfl, .inl upd_same, fun tk H4 e4 htk => ?_⟩
    have e5 := ext (ext e3 (exn hp)) e4
    have hx5 := e5 _ _ (upd_same (H := H2) (a := x))
    refine ⟨_, rfl, x, _, dx, _, rfl, hx5, cl, T.n_Word_kinds, (show 2 < 1000 by decide), ?_⟩
    have ntk : tk ≠ x := fun e => by subst e; rw [hx5] at htk; cases htk
    have htk6 : ∀ o, IT (upd H4 x o) tk ks := fun o => (upd_ne ntk).trans htk
    have ht6 : ∀ o, IT (upd H4 x o) t ls := fun o => (upd_ne ntx).trans (e5 _ _ (ht3 _))
    -- self.is_short = are_short(self.letters)
    refine ⟨_, rfl, x, _, dx, _, _, rfl, upd_same, cl, T.n_Word_letters, rfl, t, ls, rfl, ht6 _, by omega, fun H6 e6 => ?_⟩
    have hx6 := e6 _ _ (upd_same (H := H4) (a := x))
    refine ⟨_, rfl, x, _, dx, _, rfl, hx6, cl, T.n_Word_is_short, (show 3 < 1000 by decide), ?_⟩
    have ht7 : ∀ o, IT (upd H6 x o) t ls := fun o => (upd_ne ntx).trans (e6 _ _ (ht6 _))
    have htk7 : ∀ o, IT (upd H6 x o) tk ks := fun o => (upd_ne ntk).trans (e6 _ _ (htk6 _))
    -- self.is_short_round = self.is_short and rounded_of(self.letters) == self.letters
    have keep : ∀ b o, b ≠ x → H b = some o → ∀ u, upd H6 x u b = some o := fun b o nb hb u => by
      rw [upd_ne nb]
      refine e6 _ _ ?_
      rw [upd_ne nb]
      refine e5 _ _ ?_
      rw [upd_ne nb]
      exact e2 _ _ (e1 _ _ hb)
    have fin : ∀ (H8 : Hp) (b : Bool), Ex (upd H6 x (.ins (cWord K) dx (putF "is_short" (.bl (areShort ls)) (putF "kinds" (.ref tk) (putF "length" (.int (ls.length : Int)) (putF "letters" (.ref t) [])))))) H8 → b = isSR ls →
        Q .non (upd H8 x (.ins (cWord K) dx (putF "is_short_round" (.bl b) (putF "is_short" (.bl (areShort ls)) (putF "kinds" (.ref tk) (putF "length" (.int (ls.length : Int)) (putF "letters" (.ref t) []))))))) := fun H8 b e8 eb => by
      refine q _ (fun b o nb hb => ?_) ⟨dx, t, tk, ks, ?_, (upd_ne ntx).trans (e8 _ _ (ht7 _)), (upd_ne ntk).trans (e8 _ _ (htk7 _)), fun k hk' => ?_⟩
      · rw [upd_ne nb]
        exact e8 _ _ (keep b o nb hb _)
      · rw [upd_same, eb]
        rfl
      · obtain ⟨i, hi, ek⟩ := (hk k).mp ((hmem k).mp hk')
        refine ⟨ls.getD i 0, ?_, ek⟩
        rw [List.getD_eq_getElem?_getD, List.getElem?_eq_getElem hi]
        exact List.getElem_mem hi
    refine ⟨_, rfl, x, _, dx, _, _, rfl, upd_same, cl, T.n_Word_is_short, rfl, areShort ls, rfl, ite2 (fun hs => ?_) (fun hs => ?_)⟩
    · refine ⟨_, rfl, x, _, dx, _, _, rfl, upd_same, cl, T.n_Word_letters, rfl, t, ls, rfl, ht7 _, by omega, fun r H8 e8 hr8 => ?_⟩
      have hx8 := e8 _ _ (upd_same (H := H6) (a := x))
      refine ⟨_, rfl, x, _, dx, _, _, rfl, hx8, cl, T.n_Word_letters, rfl, _, _, dp_t hr8, dp_t (e8 _ _ (ht7 _)), sh_t _, sh_t _, ?_⟩
      refine ⟨_, rfl, x, _, dx, _, rfl, hx8, cl, T.n_Word_is_short_round, (show 4 < 1000 by decide), ?_⟩
      rw [eq_t]
      refine fin H8 _ e8 ?_
      unfold isSR
      rw [hs, Bool.true_and]
    · refine ⟨_, rfl, x, _, dx, _, rfl, upd_same, cl, T.n_Word_is_short_round, (show 4 < 1000 by decide), ?_⟩
      refine fin _ _ exr ?_
      unfold isSR
      rw [Bool.not_eq_true] at hs
      rw [hs, Bool.false_and]
end
end Hw
/-! W6 -/
/-! W6: methods of Word. -/
namespace Hw
open PySem PySem.Spec PyProof.Rows L2 HR RZ
def WOk (ls : List Int) : Prop := (∀ l ∈ ls, isLet l) ∧ ls.length ≤ 60
section
variable {P : Program} {w : World} {K : PySem.W.Frag} {mg : Str → Option Value} {base : Heap}
/-- Word(a list or tuple of letters) -/
theorem mkWord {a : Addr} {ls : List Int} {Q : VK} {E : XK} {H1 : Hp} (ha : IS H1 a ls) (ok : WOk ls) (q : ∀ y H', Ex H1 H' → WordAt K H' y ls → Q (.ref y) H') (x dx : Addr) (nx : H1 x = none) (nd : H1 dx = none) (ne : dx ≠ x) :
    sp_Word K (.ref x :: ([.ref a] ++ [])) (upd (upd H1 dx (.own x)) x (.ins (cWord K) dx [])) (fun v H2 => v = .non ∧ Q (.ref x) H2) E :=
  ⟨x, dx, a, ls, rfl, upd_same, ha.mono (exb nx nd), ok.1, ok.2, fun H' kp hw => ⟨rfl, q x H' (ex_made nx nd kp) hw⟩⟩
theorem WOk.contr {ls : List Int} (h : WOk ls) : WOk (contr ls) := ⟨fun l hl => by
  unfold HR.contr at hl
  obtain ⟨z, hz, rfl⟩ := List.mem_map.mp hl
  obtain ⟨h1, h2, h3⟩ := h.1 z (List.mem_reverse.mp hz)
  exact ⟨by omega, by omega, by omega⟩, by rw [length_contr]; exact h.2⟩
theorem WOk.short {ls : List Int} (h : WOk ls) : WOk (shortF ls) := ⟨fun l hl => h.1 l (mem_shortF hl), Nat.le_trans (length_shortF ls) h.2⟩
theorem WOk.round {ls : List Int} (h : WOk ls) : WOk (roundF ls) := ⟨fun l hl => h.1 l (mem_roundF hl), Nat.le_trans (length_roundF ls) h.2⟩
def sp_contrary (K : PySem.W.Frag) : Sp := fun vs H Q _ => ∃ (x : Addr) (ls : List Int), vs = [.ref x] ∧ WordAt K H x ls ∧ WOk ls ∧ ∀ y H', Ex H H' → WordAt K H' y (contr ls) → Q (.ref y) H'
abbrev N_Word_contrary : List Str := ["self"]
theorem sc_Word_contrary : FnScope N_Word_contrary ["self"] (C8.fnScope s_Word_contrary) := C8.fnScope_by (by decide +kernel)
theorem m_contrary (T : Txt K mg) : C8.Met P w K mg base 7 (cWord K) "contrary" (sp_contrary K) [] := by
  have nd := sc_Word_contrary.nd
  refine metn T.m_Word_contrary T.i_Word.cl sc_Word_contrary (fun vs H Q E h => ?_) (fun _ _ _ _ _ _ us hl => match us, hl with | [_], _ => rfl) (fun f cdv A outer s H vs Q E hr h => ?_)
  · obtain ⟨x, ls, rfl, _⟩ := h
    rfl
  · obtain ⟨x, ls, rfl, hw, ok, q⟩ := h
    obtain ⟨dx, t, tk, ks, h1, h2, h3, h4⟩ := id hw
    refine ⟨_, (pss_one (ps_ret (C8.pe_mk (k_Word T) hr (by decide) (by rfl) (pa_cons (C8.pe_c (k_contrary_of T) hr (by decide) (by rfl) (pa_cons (pe_fld (pv 0) rfl) pa_nil)) pa_nil)))), ?_⟩
    refine ⟨_, rfl, x, _, dx, _, _, rfl, h1, T.i_Word.cl, T.n_Word_letters, rfl, t, ls, rfl, h2, Nat.le_trans ok.2 (by decide), fun p H1 e1 hp => ?_⟩
    exact mkWord (.inr hp) ok.contr fun y H' e2 hy => q y H' (ext e1 e2) hy
def sp_shortened_round (K : PySem.W.Frag) : Sp := fun vs H Q _ => ∃ (x : Addr) (ls : List Int), vs = [.ref x] ∧ WordAt K H x ls ∧ WOk ls ∧ ∀ y H', Ex H H' → WordAt K H' y (roundF (shortF ls)) → Q (.ref y) H'
abbrev N_Word_shortened_round : List Str := ["self"]
theorem sc_Word_shortened_round : FnScope N_Word_shortened_round ["self"] (C8.fnScope s_Word_shortened_round) := C8.fnScope_by (by decide +kernel)
theorem m_shortened_round (T : Txt K mg) : C8.Met P w K mg base 7 (cWord K) "shortened_round" (sp_shortened_round K) [] := by
  have nd := sc_Word_shortened_round.nd
  refine metn T.m_Word_shortened_round T.i_Word.cl sc_Word_shortened_round (fun vs H Q E h => ?_) (fun _ _ _ _ _ _ us hl => match us, hl with | [_], _ => rfl) (fun f cdv A outer s H vs Q E hr h => ?_)
  · obtain ⟨x, ls, rfl, _⟩ := h
    rfl
  · obtain ⟨x, ls, rfl, hw, ok, q⟩ := h
    obtain ⟨dx, t, tk, ks, h1, h2, h3, h4⟩ := id hw
    refine ⟨_, (pss_one (ps_ret (C8.pe_mk (k_Word T) hr (by decide) (by rfl) (pa_cons (C8.pe_c (k_rounded_of T) hr (by decide) (by rfl) (pa_cons (C8.pe_c (k_shortened_of T) hr (by decide) (by rfl) (pa_cons (pe_fld (pv 0) rfl) pa_nil)) pa_nil)) pa_nil)))), ?_⟩
    refine ⟨_, rfl, x, _, dx, _, _, rfl, h1, T.i_Word.cl, T.n_Word_letters, rfl, t, ls, rfl, h2, Nat.le_trans ok.2 (by decide), fun p H1 e1 hp => ?_⟩
    refine ⟨p, _, rfl, hp, Nat.le_trans ok.short.2 (by decide), fun p2 H2 e2 hp2 => ?_⟩
    exact mkWord (.inr hp2) ok.short.round fun y H' e3 hy => q y H' (ext (ext e1 e2) e3) hy
def sp_wlen (K : PySem.W.Frag) : Sp := fun vs H Q _ => ∃ (x : Addr) (ls : List Int), vs = [.ref x] ∧ WordAt K H x ls ∧ Q (.int (ls.length : Int)) H
abbrev N_Word_len : List Str := ["self"]
theorem sc_Word_len : FnScope N_Word_len ["self"] (C8.fnScope s_Word_len) := C8.fnScope_by (by decide +kernel)
theorem m_wlen (T : Txt K mg) : C8.Met P w K mg base 1 (cWord K) "__len__" (sp_wlen K) [] := by
  have nd := sc_Word_len.nd
  refine metn T.m_Word_len T.i_Word.cl sc_Word_len (fun vs H Q E h => ?_) (fun _ _ _ _ _ _ us hl => match us, hl with | [_], _ => rfl) (fun f cdv A outer s H vs Q E hr h => ?_)
  · obtain ⟨x, ls, rfl, _⟩ := h
    rfl
  · obtain ⟨x, ls, rfl, hw, q⟩ := h
    obtain ⟨dx, t, tk, ks, h1, h2, h3, h4⟩ := id hw
    refine ⟨_, (pss_one (ps_ret (pe_callB call_len_seq (by rfl) T.z_len PySem.boot_len (pa_cons (pe_fld (pv 0) rfl) pa_nil)))), ?_⟩
    refine ⟨_, rfl, x, _, dx, _, _, rfl, h1, T.i_Word.cl, T.n_Word_letters, rfl, t, _, rfl, .inr (sq_t h2), ?_⟩
    rw [ml]
    exact q
def RW (K : PySem.W.Frag) (a b : Addr) (H : Hp) : Prop := ∃ ls, WordAt K H a ls ∧ WordAt K H b ls
abbrev N_Word_eq : List Str := ["self", "other"]
theorem sc_Word_eq : FnScope N_Word_eq ["self", "other"] (C8.fnScope s_Word_eq) := C8.fnScope_by (by decide +kernel)
theorem m_weq (T : Txt K mg) : C8.Met P w K mg base 1 (cWord K) "__eq__" (spEq (RW K)) [] := by
  have nd := sc_Word_eq.nd
  refine metn T.m_Word_eq T.i_Word.cl sc_Word_eq (fun vs H Q E h => ?_) (fun _ _ _ _ _ _ us hl => match us, hl with | [_, _], _ => rfl) (fun f cdv A outer s H vs Q E hr h => ?_)
  · obtain ⟨a, b, rfl, _⟩ := h
    rfl
  · obtain ⟨a, b, rfl, ⟨ls, hw, hw2⟩, q⟩ := h
    obtain ⟨dx, t, tk, ks, h1, h2, h3, h4⟩ := id hw
    obtain ⟨dx', t', tk', ks', h1', h2', h3', h4'⟩ := id hw2
    refine ⟨_, (pss_one (ps_ret (pe_and (pe_callB (C8.call_isC T.i_Word) (by rfl) T.z_isinstance (by decide +kernel) (pa_cons (pv 1) (pa_cons (pe_glob (v := .ref (cWord K)) (by rfl) T.g_Word rfl) pa_nil))) (pe_one (pe_cmpR (op_eqD hr.units) (pe_fld (pv 0) rfl) (pe_fld (pv 1) rfl) (nomark _)))))), ?_⟩
    refine ⟨_, rfl, b, dx', _, rfl, h1', _, rfl, iteT ?_⟩
    refine ⟨_, rfl, a, _, dx, _, _, rfl, h1, T.i_Word.cl, T.n_Word_letters, rfl, _, rfl, b, _, dx', _, _, rfl, h1', T.i_Word.cl, T.n_Word_letters, rfl, _, _, dp_t h2, dp_t h2', sh_t _, sh_t _, ?_⟩
    rw [eq_t, decide_eq_true rfl]
    exact q H Ext.rfl'
end
end Hw
/-! W7 -/
/-! W7: functions of rims. -/
namespace Hw
open PySem PySem.Spec PyProof.Rows L2 HR RZ
theorem mem_putK {kvs : List (Key × V)} {k : Key} {v : V} {p : Key × V} (h : p ∈ putK kvs k v) : (p.1 = k ∧ p.2 = v) ∨ (p.1 ≠ k ∧ p ∈ kvs) := by
  unfold putK at h
  split at h
  · obtain ⟨q, hq, e⟩ := List.mem_map.mp h
    by_cases z : q.1 = k
    · rw [if_pos z] at e
      subst e
      exact .inl ⟨z, rfl⟩
    · rw [if_neg z] at e
      subst e
      exact .inr ⟨z, hq⟩
  · rename_i hn
    rcases List.mem_append.mp h with h | h
    · refine .inr ⟨fun z => hn ?_, h⟩
      rw [List.any_eq_true]
      exact ⟨p, h, decide_eq_true z⟩
    · have := List.mem_singleton.mp h
      subst this
      exact .inl ⟨rfl, rfl⟩
theorem valV_mem {kvs : List (Key × V)} {k : Key} {v : V} (h : valV kvs k = some v) : ∃ p ∈ kvs, p.1 = k ∧ p.2 = v := by
  unfold valV at h
  obtain ⟨p, hp, e⟩ := Option.map_eq_some_iff.mp h
  have h1 := List.find?_some hp
  exact ⟨p, List.mem_of_find?_eq_some hp, of_decide_eq_true h1, e⟩
theorem given_none {n : Nat} {f : Nat → Bool} {v : Nat → V} (h : ∀ i, i < n → f i = false) : Evl.given n f v = [] := by
  induction n with
  | zero => rfl
  | succ n ih => rw [Evl.given_no (h n (Nat.lt_succ_self n))]; exact ih fun i hi => h i (Nat.lt_succ_of_lt hi)
section
variable {P : Program} {w : World} {K : PySem.W.Frag} {mg : Str → Option Value} {base : Heap}
def sp_odd_kind : Sp := fun vs H Q _ => ∃ (a : Addr) (ls : List Int), vs = [.ref a] ∧ IL H a ls ∧ Bal ls ∧ ls.length ≤ 1000 ∧ ∀ H', Ex H H' → Q .non H'
abbrev N_odd_kind : List Str := ["letters", "more", "letter", "odd", "kind", "number"]
theorem sc_odd_kind : FnScope N_odd_kind ["letters"] (C8.fnScope s_odd_kind) := C8.fnScope_by (by decide +kernel)
theorem k_odd_kind (T : Txt K mg) : C8.Cal P w K mg base 1 "odd_kind" sp_odd_kind [] := by
  have nd := sc_odd_kind.nd
  refine defn T.d_odd_kind sc_odd_kind (fun vs H Q E h => ?_) (fun _ _ _ _ _ _ us hl => match us, hl with | [_], _ => rfl) (fun f cdv A outer s H vs Q E hr h => ?_)
  · obtain ⟨a, ls, rfl, _⟩ := h
    rfl
  · obtain ⟨a, ls, rfl, ha, hb, hl, q⟩ := h
    refine ⟨_, (pss_cons (ps_set (i := 1) nd rfl (.inl rfl) pe_dnewK)
        (pss_cons (ps_for PassesOwn.never rfl (pi_list (pv 0)) (pg_name (i := 2) nd rfl (.inl rfl))
        (pss_one (ps_dput (hu_of hr) (pv 1) (pe_callB call_abs (by rfl) T.z_abs (by decide +kernel) (pa_cons (pv 2) pa_nil)) (pe_op op_add (pe_dget2 (hu_of hr) (pv 1) (pe_callB call_abs (by rfl) T.z_abs (by decide +kernel) (pa_cons (pv 2) pa_nil)) pe_int ⟨by rfl, by rfl, by rfl, by rfl⟩) (pe_ifExp (pt_cmpR op_gt (pv 2) pe_int (nomark _)) pe_int (pe_un un_neg pe_int))) rfl)))
        (pss_cons (ps_lock (ps_setLc (g := gTup K 2 (gCons (gName 4) (gCons (gName 5) gNil))) (i := 3) (own := [("kind", 4), ("number", 5)]) (by rfl) nd rfl rfl (sw_true rfl rfl rfl (by decide +kernel)) (pi_items (pv 1)) (blkOk_by (own := [("kind", 4), ("number", 5)]) (N := N_odd_kind) (sc := C8.fnScope s_odd_kind) (by decide +kernel)) (fun _ _ _ _ _ => (pg_tup rfl (pgs_cons (pg_name (i := 4) nd rfl (.inl rfl)) (pgs_cons (pg_name (i := 5) nd rfl (.inl rfl)) pgs_nil)))) (fun _ _ _ _ _ => (pts_one (pt_cmpR op_ne (pv 5) pe_int (nomark _)))) (fun _ _ _ _ _ => (pv 4))))
        (pss_one (ps_ret (pe_ifExp (pt_cmpR (op_neD hr.units) (pv 3) (pe_lst pa_nil) (nomark _)) (pe_callB (cr_min rfl) (by rfl) T.z_min (by decide +kernel) (pa_cons (pv 3) pa_nil)) pe_non)))))), ?_⟩
    refine fun d hd => ⟨_, rfl, a, rfl, ⟨_, sq_l (exn hd _ _ ha)⟩, ?_⟩
    refine for_list (xs := ls.map V.int) (fun i σ H' => ∃ y2 y3 y4 y5, σ = [some (.ref a), some (.ref d), y2, y3, y4, y5] ∧ Ex H H' ∧ ∃ kvs : List (Key × V), H' d = some (.dK kvs) ∧ kvs.length ≤ i ∧
      (∀ p ∈ kvs, ∃ k, p.1 = Sum.inl k ∧ p.2 = .int (balF k (ls.take i))) ∧ ∀ k, valV kvs (Sum.inl k) = none → balF k (ls.take i) = 0) ⟨none, none, none, none, rfl, exn hd, [], upd_same, Nat.le_refl 0, by simp, fun k _ => rfl⟩ (fun i σ H' _ p => ?_) (fun i x σ H' hx p => ?_) (fun σ H' p => ?_)
    · obtain ⟨_, _, _, _, rfl, e, _⟩ := p
      exact sq_l (e _ _ ha)
    · obtain ⟨y2, y3, y4, y5, rfl, e, kvs, h1, h2, h3, h4⟩ := p
      obtain ⟨hi, rfl⟩ := int_at hx
      have step : ls.take (i + 1) = ls.take i ++ [ls.getD i 0] := by
        rw [List.take_add_one, List.getD_eq_getElem?_getD, List.getElem?_eq_getElem hi]
        rfl
      have ebal : ∀ k, balF k (ls.take (i + 1)) = balF k (ls.take i) + (if absI (ls.getD i 0) = k then (if ls.getD i 0 > 0 then 1 else -1) else 0) := fun k => by
        rw [step, balF_append]
        unfold balF
        simp
      generalize ls.getD i 0 = l at ebal
      have eget : ∀ o : Option V, o = valV kvs (Sum.inl (absI l)) → o.getD (.int 0) = .int (balF (absI l) (ls.take i)) := fun o ho => by
        cases o with
        | none =>
          rw [h4 _ ho.symm]
          rfl
        | some v =>
          obtain ⟨p, hp, e1, e2⟩ := valV_mem ho.symm
          obtain ⟨k, e3, e4⟩ := h3 p hp
          rw [e1] at e3
          cases e3
          rw [← e2, e4]
          rfl
      refine ⟨_, rfl, d, rfl, .inl ⟨kvs, .inl h1⟩, _, rfl, _, rfl, _, DGet.k (k := Sum.inl (absI l)) h1, ?_⟩
      rw [eget _ rfl]
      have put : ∀ z : Int, z = balF (absI l) (ls.take (i + 1)) → Ex H (upd H' d (.dK (putK kvs (Sum.inl (absI l)) (.int z)))) ∧ ∃ kv2 : List (Key × V), upd H' d (.dK (putK kvs (Sum.inl (absI l)) (.int z))) d = some (.dK kv2) ∧ kv2.length ≤ i + 1 ∧
          (∀ p ∈ kv2, ∃ k, p.1 = Sum.inl k ∧ p.2 = .int (balF k (ls.take (i + 1)))) ∧ ∀ k, valV kv2 (Sum.inl k) = none → balF k (ls.take (i + 1)) = 0 := fun z hz => by
        refine ⟨exm e hd, _, upd_same, ?_, fun p hp => ?_, fun k hk => ?_⟩
        · have := length_putK kvs (Sum.inl (absI l)) (V.int z)
          omega
        · rcases mem_putK hp with ⟨e1, e2⟩ | ⟨e1, e2⟩
          · exact ⟨absI l, e1, by rw [e2, hz]⟩
          · obtain ⟨k, e3, e4⟩ := h3 p e2
            refine ⟨k, e3, ?_⟩
            rw [ebal k, if_neg (fun z => e1 (by rw [e3, z])), Int.add_zero]
            exact e4
        · rw [valV_put] at hk
          split at hk
          · cases hk
          · rename_i ne
            rw [ebal k, if_neg (fun z => ne (by rw [z])), Int.add_zero]
            exact h4 k hk
      have e0 := ebal (absI l)
      rw [if_pos rfl] at e0
      refine ⟨_, rfl, _, _, rfl, rfl, _, rfl, ite2 (fun lt => ?_) (fun lt => ?_)⟩
      · have lt : 0 < l := of_decide_eq_true lt
        rw [if_pos lt] at e0
        exact ⟨_, _, rfl, rfl, _, rfl, _, rfl, _, rfl, d, _, rfl, DPut.k (k := Sum.inl (absI l)) h1 (Evl.sz_lt (by omega)), _, _, _, _, rfl, put _ e0.symm⟩
      · have lt : ¬ 0 < l := fun z => lt (decide_eq_true z)
        rw [if_neg lt] at e0
        exact ⟨_, rfl, _, _, rfl, rfl, _, rfl, _, rfl, _, rfl, d, _, rfl, DPut.k (k := Sum.inl (absI l)) h1 (Evl.sz_lt (by omega)), _, _, _, _, rfl, put _ e0.symm⟩
    · obtain ⟨y2, y3, y4, y5, rfl, e, kvs, h1, h2, h3, h4⟩ := p
      have et : ls.take (ls.map V.int).length = ls := List.take_of_length_le (by rw [ml]; exact Nat.le_refl _)
      rw [et] at h3 h4
      rw [ml] at h2
      refine ⟨d, _, h1, trivial, fun od => ?_⟩
      refine ⟨_, rfl, d, od, kvs, rfl, upd_same, fun D hD => ?_⟩
      have nDd : D ≠ d := fun z => by rw [z, upd_same] at hD; cases hD
      refine lc_sel walk_items (by omega) (fun _ => false) (fun _ => .non) hD (fun H' e => e _ _ upd_same) (fun i x Hc H' hi e hy => ?_) gmP (fun H' e2 h => ?_)
      · obtain ⟨T2, x, y, rfl, hT, rfl, hx, hy⟩ := hy
        refine ⟨T2, _, rfl, sq_t upd_same, rfl, _, _, rfl, _, _, rfl, rfl, rfl, exn hT, fun Q q => ?_, fun z => nomatch z⟩
        have ey : y = .int 0 := by
          obtain ⟨kv, hkv, ekv⟩ := Option.map_eq_some_iff.mp hy
          obtain ⟨k, e1, e2⟩ := h3 kv (List.mem_of_getElem? hkv)
          rw [← ekv, e2, hb k]
        subst ey
        refine ⟨_, rfl, rfl, _, rfl, ?_⟩
        exact q _ exr
      · rw [given_none fun _ _ => rfl] at h
        refine ⟨e2 _ _ upd_same, _, rfl, Nat.zero_le _, fun N hN => ?_⟩
        have hD2 : upd H' d (.dK kvs) D = some (.lst []) := (upd_ne nDd).trans h
        refine ⟨_, _, dp_nil (exn hN _ _ hD2), dp_nil upd_same, sh_l [], sh_l [], _, rfl, ?_⟩
        rw [eq_l]
        refine iteF ?_
        refine q _ (ext (fun b o hb => ?_) (exn hN))
        by_cases z : b = d
        · rw [z, hd] at hb
          cases hb
        · rw [upd_ne z]
          exact e2 _ _ ((upd_ne z).trans (e _ _ hb))
/-- words at the addresses ps -/
def WordsAt (K : PySem.W.Frag) (H : Hp) (ps : List Addr) (ws : List (List Int)) : Prop := ps.length = ws.length ∧ ∀ i, i < ws.length → WordAt K H (ps.getD i 0) (ws.getD i [])
theorem WordsAt.lx {H H' : Hp} {ps : List Addr} {ws : List (List Int)} (e : Lx H H') (h : WordsAt K H ps ws) : WordsAt K H' ps ws := ⟨h.1, fun i hi => (h.2 i hi).lx e⟩
theorem WordsAt.mono {H H' : Hp} {ps : List Addr} {ws : List (List Int)} (e : Ex H H') (h : WordsAt K H ps ws) : WordsAt K H' ps ws := h.lx e.lx
theorem ref_at {ps : List Addr} {i : Nat} {x : V} (h : (ps.map V.ref)[i]? = some x) : i < ps.length ∧ x = .ref (ps.getD i 0) := by
  rw [List.getElem?_map] at h
  cases e : ps[i]? with
  | none => rw [e] at h; cases h
  | some z =>
    rw [e] at h
    have hi : i < ps.length := (List.getElem?_eq_some_iff.mp e).1
    refine ⟨hi, ?_⟩
    rw [List.getD_eq_getElem?_getD, e]
    exact (Option.some.inj h).symm
theorem mlr {ps : List Addr} : (ps.map V.ref).length = ps.length := List.length_map _
theorem at_ref {ps : List Addr} {i : Nat} (h : i < ps.length) : (ps.map V.ref)[i]? = some (.ref (ps.getD i 0)) := by
  rw [List.getElem?_map, List.getD_eq_getElem?_getD, List.getElem?_eq_getElem h]
  rfl
theorem lens_take {ws : List (List Int)} {i : Nat} (h : i < ws.length) : lens (ws.take (i + 1)) = lens (ws.take i) ++ [(ws.getD i []).length] := by
  unfold lens
  rw [List.take_add_one, List.map_append, List.getD_eq_getElem?_getD, List.getElem?_eq_getElem h]
  rfl
theorem lens_le {ws : List (List Int)} (i : Nat) : (lens (ws.take i)).sum ≤ (lens ws).sum := by
  have e : lens ws = lens (ws.take i) ++ lens (ws.drop i) := by
    unfold lens
    rw [← List.map_append, List.take_append_drop]
  rw [e, List.sum_append]
  omega
theorem ivals {n : Nat} {f : Nat → Nat} {v : Nat → V} (h : ∀ i, i < n → v i = .int ((f i : Nat) : Int)) : (List.range n).map v = (iN ((List.range n).map f)).map V.int := by
  unfold iN
  rw [List.map_map, List.map_map]
  refine List.map_congr_left fun i hi => ?_
  exact h i (List.mem_range.mp hi)
def sp_nexts_of (K : PySem.W.Frag) : Sp := fun vs H Q _ => ∃ (a : Addr) (ps : List Addr) (ws : List (List Int)), vs = [.ref a] ∧ H a = some (.lst (ps.map V.ref)) ∧ WordsAt K H ps ws ∧ (∀ w ∈ ws, w ≠ []) ∧ ws.flatten.length ≤ 1000 ∧ ∀ p H', Ex H H' → IT H' p (iN (nxF 0 (lens ws))) → Q (.ref p) H'
abbrev N_nexts_of : List Str := ["words", "found", "word", "begin", "at"]
theorem sc_nexts_of : FnScope N_nexts_of ["words"] (C8.fnScope s_nexts_of) := C8.fnScope_by (by decide +kernel)
theorem k_nexts_of (T : Txt K mg) : C8.Cal P w K mg base 1 "nexts_of" (sp_nexts_of K) [] := by
  have nd := sc_nexts_of.nd
  refine defn T.d_nexts_of sc_nexts_of (fun vs H Q E h => ?_) (fun _ _ _ _ _ _ us hl => match us, hl with | [_], _ => rfl) (fun f cdv A outer s H vs Q E hr h => ?_)
  · obtain ⟨a, ps, ws, rfl, _⟩ := h
    rfl
  · obtain ⟨a, ps, ws, rfl, ha, hw, hne, hl, q⟩ := h
    rw [length_flat] at hl
    have hpl := hw.1
    refine ⟨_, (pss_cons (ps_set (i := 1) nd rfl (.inl rfl) (pe_lst pa_nil))
        (pss_cons (ps_for PassesOwn.never rfl (pi_list (pv 0)) (pg_name (i := 2) nd rfl (.inr rfl))
        (pss_cons (ps_set (i := 3) nd rfl (.inr rfl) (pe_callB call_len_seq (by rfl) T.z_len PySem.boot_len (pa_cons (pv 1) pa_nil)))
        (pss_one (ps_expr (pe_bm (X := (cxOf CX0 P w K mg base N_nexts_of _ (C8.fnScope s_nexts_of) f cdv A outer s H E).nox) PySem.F.plainAttrs_list PySem.F.slot_list_extend PySem.F.type_list_extend mt_extend (pv 1) (pa_cons (pe_lc (own := [("at", 4)]) (by rfl) nd (pi_range1 (by rfl) T.z_range (pa_cons (pe_fld (pv 2) rfl) pa_nil)) (blkOk_by (own := [("at", 4)]) (N := N_nexts_of) (sc := C8.fnScope s_nexts_of) (by decide +kernel)) (fun _ _ _ _ _ => (pg_name (i := 4) nd rfl (.inl rfl))) (fun _ _ _ _ _ => pts_nil) (fun _ _ _ _ _ => (pe_op op_add (pv 3) (pe_op op_mod (pe_op op_add (pv 4) pe_int) (pe_fldK (K := K) (pv 2) (by rfl)))))) pa_nil))))))
        (pss_one (ps_ret (pe_callTy call_tupG (by rfl) T.z_tuple (by decide +kernel) (pa_cons (pv 1) pa_nil)))))), ?_⟩
    refine ⟨Nat.zero_le _, fun F hF => ⟨_, rfl, a, rfl, ⟨_, sq_l (exn hF _ _ ha)⟩, ?_⟩⟩
    refine for_list (xs := ps.map V.ref) (fun i σ H' => ∃ y2 y3 y4, σ = [some (.ref a), some (.ref F), y2, y3, y4] ∧ Ex H H' ∧ IL H' F (iN (nxF 0 (lens (ws.take i))))) ⟨none, none, none, rfl, exn hF, upd_same⟩ (fun i σ H' _ p => ?_) (fun i x σ H' hx p => ?_) (fun σ H' p => ?_)
    · obtain ⟨_, _, _, rfl, e, _⟩ := p
      exact sq_l (e _ _ ha)
    · obtain ⟨y2, y3, y4, rfl, e, hf⟩ := p
      obtain ⟨hi, rfl⟩ := ref_at hx
      have hi2 : i < ws.length := by omega
      have hlen := length_nxF 0 (lens (ws.take i))
      have hst : nxF 0 (lens (ws.take (i + 1))) = nxF 0 (lens (ws.take i)) ++ (List.range (ws.getD i []).length).map (fun j => (lens (ws.take i)).sum + (j + 1) % (ws.getD i []).length) := by
        rw [lens_take hi2, nxF_append, Nat.zero_add]
        show _ ++ (_ ++ []) = _
        rw [List.append_nil]
      have hle1 := lens_le (ws := ws) (i + 1)
      rw [lens_take hi2, List.sum_append, List.sum_singleton] at hle1
      have hwi := (hw.2 i hi2).mono e
      have hpos : 0 < (ws.getD i []).length := by
        have : ws.getD i [] ∈ ws := by
          rw [List.getD_eq_getElem?_getD, List.getElem?_eq_getElem hi2]
          exact List.getElem_mem hi2
        exact List.length_pos_iff.mpr (hne _ this)
      generalize ws.getD i [] = wd at hst hle1 hwi hpos
      generalize ps.getD i 0 = x at hwi
      generalize nxF 0 (lens (ws.take i)) = acc at hf hlen hst
      generalize (lens (ws.take i)).sum = b at hlen hst hle1
      obtain ⟨dx, t, tk, ks, h1, h2, h3, h4⟩ := id hwi
      refine ⟨_, rfl, F, _, rfl, .inl (sq_l hf), ?_⟩
      rw [ml, length_iN, hlen]
      refine ⟨_, rfl, .inl ⟨rfl, _, sq_l hf⟩, ?_⟩
      refine ⟨_, rfl, x, _, dx, _, _, rfl, h1, T.i_Word.cl, T.n_Word_length, rfl, ?_⟩
      refine ⟨_, rfl, by omega, by omega, fun D hD => ?_⟩
      rw [Int.toNat_natCast]
      refine lc_val walk_range (by omega) (fun j => .int ((b + (j + 1) % wd.length : Nat) : Int)) hD (fun _ _ => trivial) (fun j y Hc H2 hj e2 hy => ?_) gmN (fun H2 e2 h => ?_)
      · obtain ⟨rfl, rfl⟩ := hy
        refine ⟨rfl, fun Q q => ?_⟩
        refine ⟨_, rfl, _, rfl, _, _, rfl, rfl, _, rfl, x, _, dx, _, _, rfl, e2 _ _ h1, T.i_Word.cl, T.n_Word_length, rfl, _, _, rfl, rfl, by omega, _, _, rfl, rfl, ?_⟩
        have eq : (b : Int) + ((0 + (j : Int)) + 1) % (wd.length : Int) = ((b + (j + 1) % wd.length : Nat) : Int) := by
          rw [Int.natCast_add, Int.natCast_emod, Int.zero_add]
          rfl
        show Q (.int ((b : Int) + ((0 + (j : Int)) + 1) % (wd.length : Int))) H2
        rw [eq]
        exact q _ exr
      · rw [ivals (f := fun j => b + (j + 1) % wd.length) (fun _ _ => rfl)] at h
        refine ⟨F, D, _, _, rfl, rfl, e2 _ _ hf, h, ?_, ?_⟩
        · rw [ml, ml, length_iN, length_iN, List.length_map, List.length_range]
          exact sz (by omega)
        · refine ⟨_, _, _, rfl, exm (ext e e2) hF, ?_⟩
          show upd _ F _ F = _
          rw [upd_same, hst, iN_append, List.map_append]
    · obtain ⟨y2, y3, y4, rfl, e, hf⟩ := p
      have et : ws.take (ps.map V.ref).length = ws := List.take_of_length_le (by rw [mlr]; omega)
      rw [et] at hf
      exact ⟨_, rfl, F, _, rfl, .inl hf, fun l H2 e2 h2 => q l _ (ext e e2) h2⟩
def sp_numbers_of (K : PySem.W.Frag) : Sp := fun vs H Q _ => ∃ (a : Addr) (ps : List Addr) (ws : List (List Int)), vs = [.ref a] ∧ H a = some (.lst (ps.map V.ref)) ∧ WordsAt K H ps ws ∧ ws.flatten.length ≤ 1000 ∧ ws.length ≤ 1000 ∧ ∀ p H', Ex H H' → IT H' p (iN (nuF 0 (lens ws))) → Q (.ref p) H'
abbrev N_numbers_of : List Str := ["words", "number", "word", "letter"]
theorem sc_numbers_of : FnScope N_numbers_of ["words"] (C8.fnScope s_numbers_of) := C8.fnScope_by (by decide +kernel)
theorem k_numbers_of (T : Txt K mg) : C8.Cal P w K mg base 1 "numbers_of" (sp_numbers_of K) [] := by
  have nd := sc_numbers_of.nd
  refine defn T.d_numbers_of sc_numbers_of (fun vs H Q E h => ?_) (fun _ _ _ _ _ _ us hl => match us, hl with | [_], _ => rfl) (fun f cdv A outer s H vs Q E hr h => ?_)
  · obtain ⟨a, ps, ws, rfl, _⟩ := h
    rfl
  · obtain ⟨a, ps, ws, rfl, ha, hw, hl, hl2, q⟩ := h
    rw [length_flat] at hl
    have hpl := hw.1
    refine ⟨_, (pss_one (ps_ret (pe_callTy call_tupG (by rfl) T.z_tuple (by decide +kernel) (pa_cons (pe_lc2 (vs1 := [3]) (g := gTup K 2 (gCons (gName 1) (gCons (gName 2) gNil))) (own := [("number", 1), ("word", 2), ("letter", 3)]) (by rfl) nd (pi_enum (by rfl) T.z_enumerate (pa_cons (pv 0) pa_nil)) (blkOk_by (own := [("number", 1), ("word", 2), ("letter", 3)]) (N := N_numbers_of) (sc := C8.fnScope s_numbers_of) (by decide +kernel)) (by decide) (fun _ _ _ _ _ => (pg_tup rfl (pgs_cons (pg_name (i := 1) nd rfl (.inl rfl)) (pgs_cons (pg_name (i := 2) nd rfl (.inl rfl)) pgs_nil)))) (fun _ _ _ _ _ => pts_nil) (fun _ _ _ _ _ => (pi_tupK (K := K) (pe_fldK (K := K) (pv 2) (by rfl)))) (fun _ _ _ _ _ => (pg_name (i := 3) nd rfl (.inl rfl))) (fun _ _ _ _ _ => pts_nil) (fun _ _ _ _ _ => (pv 1))) pa_nil)))), ?_⟩
    refine ⟨_, rfl, a, _, rfl, sq_l ha, fun D hD => ?_⟩
    have hwl : ∀ i, i < ws.length → (flatV (fun i => (ws.getD i []).length) (fun i _ => V.int (i : Int)) (i + 1)) = (iN (nuF 0 (lens (ws.take (i + 1))))).map V.int := fun i => by
      induction i with
      | zero =>
        intro h0
        rw [flatV_succ, lens_take h0]
        simp [flatV, lens, nuF, iN, rconst]
      | succ i ih =>
        intro h0
        rw [flatV_succ, ih (by omega), lens_take h0, nuF_append, iN_append, List.map_append]
        congr 1
        rw [rconst]
        have hll : (lens (ws.take (i + 1))).length = i + 1 := by
          unfold lens
          rw [List.length_map, List.length_take]
          omega
        rw [hll]
        simp [nuF, iN]
    have hfl : ∀ i, i ≤ ws.length → flatV (fun i => (ws.getD i []).length) (fun i _ => V.int (i : Int)) i = (iN (nuF 0 (lens (ws.take i)))).map V.int := fun i hi => by
      rcases i with _ | i
      · rfl
      · exact hwl i (by omega)
    refine lc2_val (n := (ps.map V.ref).length) walk_enum (fun i => (ws.getD i []).length) (fun i _ => V.int (i : Int)) (fun i hi => ?_) hD (fun H' e => sq_l (e _ _ ha)) (fun i x Hc H' hi e hy => ?_) gmP gmN (fun H' e h => ?_)
    · rw [mlr] at hi
      rw [hfl i (by omega), ml, length_iN, length_nuF]
      have := lens_le (ws := ws) i
      omega
    · rw [mlr] at hi
      obtain ⟨T2, x, y, rfl, hT, rfl, hx, hy⟩ := hy
      obtain ⟨_, rfl⟩ := ref_at hy
      cases hx
      have hwi := hw.2 i (by omega)
      generalize ps.getD i 0 = x at hwi
      generalize ws.getD i [] = wd at hwi
      obtain ⟨dx, t, tk, ks, h1, h2, h3, h4⟩ := hwi
      refine ⟨T2, _, rfl, sq_t upd_same, rfl, _, _, rfl, _, _, rfl, rfl, rfl, fun R r => ?_⟩
      have e2 : Ex Hc (upd Hc T2 (.tup [.int (i : Nat), .ref x])) := exn hT
      refine ⟨_, rfl, x, _, dx, _, _, rfl, e2 _ _ (e _ _ h1), T.i_Word.cl, T.n_Word_letters, rfl, ?_⟩
      refine ⟨t, rfl, ⟨wd.map V.int, sq_t (e2 _ _ (e _ _ h2))⟩, ?_⟩
      have hwt : Walk (Itt K t) wd.length (fun H => SqT K H t (wd.map V.int)) (YAt (wd.map V.int)) := by
        have q := walk_tup (K := K) (a := t) (xs := wd.map V.int)
        rw [ml] at q
        exact q
      refine r _ _ _ _ hwt e2 (fun H5 e5 => sq_t (e5 _ _ h2)) (fun j y Hd H' hj ed hy => ?_)
      obtain ⟨rfl, _⟩ := hy
      exact ⟨rfl, fun Q q => ⟨_, rfl, q _ exr⟩⟩
    · rw [mlr, hpl, hfl _ (Nat.le_refl _), List.take_length] at h
      exact ⟨D, _, rfl, .inl h, fun l H2 e2 h2 => q l _ (ext e e2) h2⟩
end
end Hw
/-! W8 -/
/-! W8: the class Rims. -/
namespace Hw
open PySem PySem.Spec PyProof.Rows L2 HR RZ
theorem rcG_of {X : Cx} {k : Nat} {C : Addr} {R : Addr → Addr → Hp → Prop} (c : C8.Met X.prog X.w X.K X.mg X.base k C "__eq__" (spEq R) []) : RcG X k (DIns C R) := by
  obtain ⟨f, fd, ps, ds, hc, hm, F, b, d⟩ := c.ex
  cases d
  exact rcG_ins (E := E0) F hm.at_ hm.fn b pass0
theorem eqG_of {X : Cx} {k : Nat} {C : Addr} {R : Addr → Addr → Hp → Prop} (c : C8.Met X.prog X.w X.K X.mg X.base k C "__eq__" (spEq R) []) : EqG X k (DIns C R) :=
  (rcG_of c).eqG fun _ _ _ d => let ⟨a, b, _, _, _, _, hx, hy, _⟩ := d; ⟨a, b, hx, hy⟩
/-- what a list of words must be for Rims -/
structure ROk (ws : List (List Int)) : Prop where
  few : 1 ≤ ws.length ∧ ws.length ≤ 4
  ok : ∀ w ∈ ws, WOk w ∧ w ≠ []
  sz : ws.flatten.length ≤ 24
  bal : Bal ws.flatten
def RimsAt (K : PySem.W.Frag) (H : Hp) (x : Addr) (ws : List (List Int)) : Prop := ∃ (dx tw tl tn tm : Addr) (ps : List Addr), H x = some (.ins (cRims K) dx [("words", .ref tw), ("letters", .ref tl), ("many", .int (ws.flatten.length : Int)), ("bands", .int ((ws.flatten.length / 2 : Nat) : Int)), ("is_short", .bl (ws.all isSR)), ("nexts", .ref tn), ("numbers", .ref tm)]) ∧
  H tw = some (.tup (ps.map V.ref)) ∧ WordsAt K H ps ws ∧ ITf H tl ws.flatten ∧ IT H tn (iN (nxF 0 (lens ws))) ∧ IT H tm (iN (nuF 0 (lens ws)))
theorem RimsAt.lx {K : PySem.W.Frag} {H H' : Hp} {x : Addr} {ws : List (List Int)} (e : Lx H H') (h : RimsAt K H x ws) : RimsAt K H' x ws := by
  obtain ⟨dx, tw, tl, tn, tm, ps, h1, h2, h3, h4, h5, h6⟩ := h
  exact ⟨dx, tw, tl, tn, tm, ps, e _ _ h1 (fun _ z => nomatch z) (fun _ z => nomatch z) (fun _ z => nomatch z), e _ _ h2 (fun _ z => nomatch z) (fun _ z => nomatch z) (fun _ z => nomatch z), h3.lx e, h4.lx e, h5.lx e, h6.lx e⟩
theorem RimsAt.mono {K : PySem.W.Frag} {H H' : Hp} {x : Addr} {ws : List (List Int)} (e : Ex H H') (h : RimsAt K H x ws) : RimsAt K H' x ws := h.lx e.lx
theorem WordsAt.off {K : PySem.W.Frag} {H H' : Hp} {x dx C : Addr} {ps : List Addr} {ws : List (List Int)} (hx : H x = some (.ins C dx [])) (k : ∀ b o, b ≠ x → H b = some o → H' b = some o) (h : WordsAt K H ps ws) : WordsAt K H' ps ws := by
  refine ⟨h.1, fun i hi => ?_⟩
  obtain ⟨dy, t, tk, ks, h1, h2, h3, h4⟩ := h.2 i hi
  have n1 : ps.getD i 0 ≠ x := fun z => by
    rw [z, hx] at h1
    have := (HO.ins.inj (Option.some.inj h1)).2.2
    cases this
  have n2 : t ≠ x := fun z => by rw [z] at h2; have h2 : H x = _ := h2; rw [hx] at h2; cases h2
  have n3 : tk ≠ x := fun z => by rw [z] at h3; have h3 : H x = _ := h3; rw [hx] at h3; cases h3
  exact ⟨dy, t, tk, ks, k _ _ n1 h1, k _ _ n2 h2, k _ _ n3 h3, h4⟩
section
variable {P : Program} {w : World} {K : PySem.W.Frag} {mg : Str → Option Value} {base : Heap}
def sp_need_rims (K : PySem.W.Frag) : Sp := fun vs H Q _ => ∃ (x : Addr) (ws : List (List Int)), vs = [.ref x] ∧ RimsAt K H x ws ∧ Q .non H
abbrev N_need_rims : List Str := ["value"]
theorem sc_need_rims : FnScope N_need_rims ["value"] (C8.fnScope s_need_rims) := C8.fnScope_by (by decide +kernel)
theorem k_need_rims (T : Txt K mg) : C8.Cal P w K mg base 1 "need_rims" (sp_need_rims K) [] := by
  have nd := sc_need_rims.nd
  refine defn T.d_need_rims sc_need_rims (fun vs H Q E h => ?_) (fun _ _ _ _ _ _ us hl => match us, hl with | [_], _ => rfl) (fun f cdv A outer s H vs Q E hr h => ?_)
  · obtain ⟨x, ws, rfl, _⟩ := h
    rfl
  · obtain ⟨x, ws, rfl, ⟨dx, tw, tl, tn, tm, ps, h1, _⟩, q⟩ := h
    refine ⟨_, (pss_one (ps_if (pt_not (pt_val (pe_callB (C8.call_isC T.i_Rims) (by rfl) T.z_isinstance (by decide +kernel) (pa_cons (pv 0) (pa_cons (pe_glob (v := .ref (cRims K)) (by rfl) T.g_Rims rfl) pa_nil)))))
        (pss_one ps_never)
        pss_nil)), ?_⟩
    exact ⟨_, rfl, x, dx, _, rfl, h1, _, rfl, iteF q⟩
def sp_need_place (K : PySem.W.Frag) : Sp := fun vs H Q _ => ∃ (x : Addr) (ws : List (List Int)) (p : Nat), vs = [.ref x, .int (p : Int)] ∧ RimsAt K H x ws ∧ p < ws.flatten.length ∧ Q .non H
abbrev N_need_place : List Str := ["rims", "value"]
theorem sc_need_place : FnScope N_need_place ["rims", "value"] (C8.fnScope s_need_place) := C8.fnScope_by (by decide +kernel)
theorem k_need_place (T : Txt K mg) : C8.Cal P w K mg base 3 "need_place" (sp_need_place K) [] := by
  have nd := sc_need_place.nd
  refine defn T.d_need_place sc_need_place (fun vs H Q E h => ?_) (fun _ _ _ _ _ _ us hl => match us, hl with | [_, _], _ => rfl) (fun f cdv A outer s H vs Q E hr h => ?_)
  · obtain ⟨x, ws, p, rfl, _⟩ := h
    rfl
  · obtain ⟨x, ws, p, rfl, ⟨dx, tw, tl, tn, tm, ps, h1, _⟩, hp, q⟩ := h
    refine ⟨_, (pss_one (ps_if (pt_not (pt_val (C8.pe_c (k_is_within T) hr (by decide) (by rfl) (pa_cons (pv 1) (pa_cons pe_int (pa_cons (pe_op op_sub (pe_fld (pv 0) rfl) pe_int) pa_nil))))))
        (pss_one ps_never)
        pss_nil)), ?_⟩
    refine ⟨_, rfl, _, rfl, x, _, dx, _, _, rfl, h1, T.i_Rims.cl, T.n_Rims_many, rfl, _, _, rfl, rfl, (p : Int), 0, _, rfl, _, rfl, ?_⟩
    rw [decide_eq_true (show (0 : Int) ≤ (p : Int) by omega), decide_eq_true (show (p : Int) ≤ (ws.flatten.length : Int) - 1 by omega)]
    exact iteF q
theorem flat_at {ws : List (List Int)} (i : Nat) (hi : i ≤ ws.length) : flatV (fun i => (ws.getD i []).length) (fun i j => V.int ((ws.getD i []).getD j 0)) i = ((ws.take i).flatten).map V.int := by
  induction i with
  | zero => rfl
  | succ i ih =>
    rw [flatV_succ, ih (by omega), List.take_add_one, List.flatten_append, List.map_append]
    congr 1
    rw [List.getD_eq_getElem?_getD, List.getElem?_eq_getElem (show i < ws.length by omega)]
    simp only [Option.toList, Option.getD_some, List.flatten_cons, List.flatten_nil, List.append_nil]
    exact rmap_at (l := ws[i]) (f := V.int) (d := 0)
theorem mem_getD {ws : List (List Int)} {i : Nat} (hi : i < ws.length) : ws.getD i [] ∈ ws := by
  rw [List.getD_eq_getElem?_getD, List.getElem?_eq_getElem hi]
  exact List.getElem_mem hi
def sp_Rims (K : PySem.W.Frag) : Sp := fun vs H Q _ => ∃ (x dx a : Addr) (ps : List Addr) (ws : List (List Int)), vs = [.ref x, .ref a] ∧ H x = some (.ins (cRims K) dx []) ∧ H a = some (.lst (ps.map V.ref)) ∧ WordsAt K H ps ws ∧ ROk ws ∧
  ∀ H', (∀ b o, b ≠ x → H b = some o → H' b = some o) → RimsAt K H' x ws → Q .non H'
abbrev N_Rims_init : List Str := ["self", "words", "letters", "odd", "word", "letter"]
theorem sc_Rims_init : FnScope N_Rims_init ["self", "words"] (C8.fnScope s_Rims_init) := C8.fnScope_by (by decide +kernel)
theorem k_Rims (T : Txt K mg) : C8.Mak P w K mg base 5 "Rims" (cRims K) (sp_Rims K) [] := by
  have nd := sc_Rims_init.nd
  refine makn T.m_Rims_init T.k_Rims T.g_Rims sc_Rims_init (fun vs H Q E h => ?_) (fun _ _ _ _ _ _ us hl => match us, hl with | [_, _], _ => rfl) (fun f cdv A outer s H vs Q E hr h => ?_)
  · obtain ⟨x, dx, a, ps, ws, rfl, _⟩ := h
    rfl
  · obtain ⟨x, dx, a, ps, ws, rfl, hx, ha, hw, ok, q⟩ := h
    refine ⟨_, (pss_cons (ps_if (PW.pt (pw_or (pt_not (pt_val (C8.pe_c (k_is_listed T) hr (by decide) (by rfl) (pa_cons (pv 1) pa_nil)))) (pw_or1 (pt_not (pt_chain op_le op_le pe_int (pe_callB call_len_seq (by rfl) T.z_len PySem.boot_len (pa_cons (pv 1) pa_nil)) (C8.pe_gc (by rfl) (gi T.v_MOST_WORDS)))))))
        (pss_one ps_never)
        pss_nil)
        (pss_cons (ps_if (PW.pt (pw_or (pt_not (pt_val (pe_callB (cr_all rfl) (by rfl) T.z_all (by decide +kernel) (pa_cons (pe_lc (own := [("word", 4)]) (by rfl) nd (pi_list (pv 1)) (blkOk_by (own := [("word", 4)]) (N := N_Rims_init) (sc := C8.fnScope s_Rims_init) (by decide +kernel)) (fun _ _ _ _ _ => (pg_name (i := 4) nd rfl (.inl rfl))) (fun _ _ _ _ _ => pts_nil) (fun _ _ _ _ _ => (pe_callB (C8.call_isC T.i_Word) (by rfl) T.z_isinstance (by decide +kernel) (pa_cons (pv 4) (pa_cons (pe_glob (v := .ref (cWord K)) (by rfl) T.g_Word rfl) pa_nil))))) pa_nil)))) (pw_or1 (pt_not (pt_val (pe_callB (cr_all rfl) (by rfl) T.z_all (by decide +kernel) (pa_cons (pe_lc (own := [("word", 4)]) (by rfl) nd (pi_list (pv 1)) (blkOk_by (own := [("word", 4)]) (N := N_Rims_init) (sc := C8.fnScope s_Rims_init) (by decide +kernel)) (fun _ _ _ _ _ => (pg_name (i := 4) nd rfl (.inl rfl))) (fun _ _ _ _ _ => pts_nil) (fun _ _ _ _ _ => (pe_cmpR op_gt (pe_fldK (K := K) (pv 4) (by rfl)) pe_int (nomark _)))) pa_nil)))))))
        (pss_one ps_never)
        pss_nil)
        (pss_cons (ps_setLc2 (vs1 := [5]) (i := 2) (own := [("word", 4), ("letter", 5)]) (by rfl) nd rfl rfl (sw_true rfl rfl rfl (by decide +kernel)) (pi_list (pv 1)) (blkOk_by (own := [("word", 4), ("letter", 5)]) (N := N_Rims_init) (sc := C8.fnScope s_Rims_init) (by decide +kernel)) (by decide) (fun _ _ _ _ _ => (pg_name (i := 4) nd rfl (.inl rfl))) (fun _ _ _ _ _ => pts_nil) (fun _ _ _ _ _ => (pi_tupK (K := K) (pe_fldK (K := K) (pv 4) (by rfl)))) (fun _ _ _ _ _ => (pg_name (i := 5) nd rfl (.inl rfl))) (fun _ _ _ _ _ => pts_nil) (fun _ _ _ _ _ => (pv 5)))
        (pss_cons (ps_if (pt_cmpR op_gt (pe_callB call_len_seq (by rfl) T.z_len PySem.boot_len (pa_cons (pv 2) pa_nil)) (C8.pe_gc (by rfl) (gi T.v_MOST_LETTERS_rims)) (nomark _))
        (pss_one ps_never)
        pss_nil)
        (pss_cons (ps_set (i := 3) nd rfl (.inl rfl) (C8.pe_c (k_odd_kind T) hr (by decide) (by rfl) (pa_cons (pv 2) pa_nil)))
        (pss_cons (ps_if (pt_cmpR op_notN (pv 3) pe_non (nomark _))
        (pss_one ps_never)
        pss_nil)
        (pss_cons (ps_fld (pv 0) (pe_callTy call_tupG (by rfl) T.z_tuple (by decide +kernel) (pa_cons (pv 1) pa_nil)) rfl)
        (pss_cons (ps_fld (pv 0) (pe_callTy call_tupF (by rfl) T.z_tuple (by decide +kernel) (pa_cons (pv 2) pa_nil)) rfl)
        (pss_cons (ps_fld (pv 0) (pe_callB call_len_seq (by rfl) T.z_len PySem.boot_len (pa_cons (pv 2) pa_nil)) rfl)
        (pss_cons (ps_fld (pv 0) (pe_op op_fdiv (pe_callB call_len_seq (by rfl) T.z_len PySem.boot_len (pa_cons (pv 2) pa_nil)) pe_int) rfl)
        (pss_cons (ps_fld (pv 0) (pe_callB (cr_all rfl) (by rfl) T.z_all (by decide +kernel) (pa_cons (pe_lc (own := [("word", 4)]) (by rfl) nd (pi_list (pv 1)) (blkOk_by (own := [("word", 4)]) (N := N_Rims_init) (sc := C8.fnScope s_Rims_init) (by decide +kernel)) (fun _ _ _ _ _ => (pg_name (i := 4) nd rfl (.inl rfl))) (fun _ _ _ _ _ => pts_nil) (fun _ _ _ _ _ => (pe_fldK (K := K) (pv 4) (by rfl)))) pa_nil)) rfl)
        (pss_cons (ps_fld (pv 0) (C8.pe_c (k_nexts_of T) hr (by decide) (by rfl) (pa_cons (pv 1) pa_nil)) rfl)
        (pss_one (ps_fld (pv 0) (C8.pe_c (k_numbers_of T) hr (by decide) (by rfl) (pa_cons (pv 1) pa_nil)) rfl)))))))))))))), ?_⟩
    have cl := T.i_Rims.cl
    have hpl := hw.1
    have hn1 := ok.few.1
    have hn2 := ok.few.2
    refine ⟨_, rfl, a, ps.map V.ref, rfl, .inl ha, fun H1 e1 => ⟨_, rfl, iteF ?_⟩⟩
    have ha1 := e1 _ _ ha
    have hx1 := e1 _ _ hx
    have hw1 := hw.mono e1
    refine ⟨_, rfl, a, _, rfl, .inl (sq_l ha1), _, _, rfl, rfl, _, rfl, ?_⟩
    rw [mlr, hpl, decide_eq_true (show (1 : Int) ≤ (ws.length : Int) by omega)]
    refine iteT ⟨_, _, rfl, rfl, _, rfl, ?_⟩
    rw [decide_eq_true (show (ws.length : Int) ≤ 4 by omega)]
    refine iteF ?_
    -- all of them words
    refine ⟨_, rfl, a, rfl, ⟨_, sq_l ha1⟩, fun D1 hD1 => ?_⟩
    refine lc_val walk_list (by rw [mlr]; omega) (fun _ => .bl true) hD1 (fun H' e => sq_l (e _ _ ha1)) (fun i y Hc H' hi e hy => ?_) gmN (fun H2 e2 h => ?_)
    · obtain ⟨rfl, hy⟩ := hy
      obtain ⟨hi', rfl⟩ := ref_at hy
      obtain ⟨dx', _, _, _, h1, _⟩ := (hw1.2 i (by omega)).mono e
      exact ⟨rfl, fun Q q => ⟨_, rfl, _, dx', _, rfl, h1, q _ exr⟩⟩
    rw [bl_true] at h
    refine ⟨D1, _, rfl, sq_l h, ?_⟩
    rw [all_true]
    refine ⟨_, rfl, iteF ?_⟩
    have E2 := ext e1 e2
    have ha2 := E2 _ _ ha
    have hw2 := hw.mono E2
    clear h
    -- none of them empty
    refine ⟨_, rfl, a, rfl, ⟨_, sq_l ha2⟩, fun D2 hD2 => ?_⟩
    refine lc_val walk_list (by rw [mlr]; omega) (fun _ => .bl true) hD2 (fun H' e => sq_l (e _ _ ha2)) (fun i y Hc H' hi e hy => ?_) gmN (fun H3 e3 h => ?_)
    · obtain ⟨rfl, hy⟩ := hy
      obtain ⟨hi', rfl⟩ := ref_at hy
      have hne := (ok.ok _ (mem_getD (show i < ws.length by omega))).2
      obtain ⟨dx', _, _, _, h1, _⟩ := (hw2.2 i (by omega)).mono e
      refine ⟨rfl, fun Q q => ⟨_, rfl, _, _, dx', _, _, rfl, h1, T.i_Word.cl, T.n_Word_length, rfl, _, _, rfl, rfl, ?_⟩⟩
      have := List.length_pos_iff.mpr hne
      show Q (.bl (decide ((0 : Int) < ((ws.getD i []).length : Int)))) _
      rw [decide_eq_true (by omega)]
      exact q _ exr
    rw [bl_true] at h
    refine ⟨D2, _, rfl, sq_l h, ?_⟩
    rw [all_true]
    refine ⟨_, rfl, iteF ?_⟩
    have E3 := ext E2 e3
    have ha3 := E3 _ _ ha
    have hw3 := hw.mono E3
    clear h
    -- letters
    refine ⟨_, rfl, a, rfl, ⟨_, sq_l ha3⟩, fun L hL => ?_⟩
    refine lc2_val (n := (ps.map V.ref).length) walk_list (fun i => (ws.getD i []).length) (fun i j => V.int ((ws.getD i []).getD j 0)) (fun i hi => ?_) hL (fun H' e => sq_l (e _ _ ha3)) (fun i y Hc H' hi e hy => ?_) gmN gmN (fun H4 e4 h => ?_)
    · rw [mlr] at hi
      rw [flat_at i (by omega), ml, length_flat]
      have h1 := lens_le (ws := ws) i
      have h2 := ok.sz
      rw [length_flat] at h2
      omega
    · rw [mlr] at hi
      obtain ⟨rfl, hy⟩ := hy
      obtain ⟨_, rfl⟩ := ref_at hy
      have hwi := hw3.2 i (by omega)
      generalize ps.getD i 0 = y at hwi
      generalize ws.getD i [] = wd at hwi
      obtain ⟨dy, t, tk, ks, h1, h2, h3, h4⟩ := hwi
      refine ⟨rfl, fun R r => ?_⟩
      refine ⟨_, rfl, y, _, dy, _, _, rfl, e _ _ h1, T.i_Word.cl, T.n_Word_letters, rfl, t, rfl, ⟨wd.map V.int, sq_t (e _ _ h2)⟩, ?_⟩
      have hwt : Walk (Itt K t) wd.length (fun H => SqT K H t (wd.map V.int)) (YAt (wd.map V.int)) := by
        have q := walk_tup (K := K) (a := t) (xs := wd.map V.int)
        rw [ml] at q
        exact q
      refine r _ _ _ _ hwt exr (fun H5 e5 => sq_t (e5 _ _ h2)) (fun j z Hd H' hj ed hy => ?_)
      obtain ⟨rfl, hz⟩ := hy
      obtain ⟨_, rfl⟩ := int_at hz
      exact ⟨rfl, fun Q q => ⟨_, rfl, q _ exr⟩⟩
    rw [mlr, hpl, flat_at _ (Nat.le_refl _), List.take_length] at h
    have E4 := ext E3 e4
    have hLl : IL H4 L ws.flatten := h
    have nLx : L ≠ x := fun z => by
      subst z
      have := E4 _ _ hx
      rw [this] at h
      cases h
    generalize hfl : ws.flatten = fl at hLl
    have hsz := ok.sz
    rw [hfl] at hsz
    refine ⟨_, rfl, L, _, rfl, .inl (sq_l hLl), _, _, rfl, rfl, _, rfl, ?_⟩
    rw [ml, decide_eq_false (show ¬ (24 : Int) < (fl.length : Int) by omega)]
    refine iteF ?_
    refine ⟨_, rfl, L, fl, rfl, hLl, by rw [← hfl]; exact ok.bal, by omega, fun H5 e5 => ?_⟩
    refine ⟨_, rfl, rfl, _, rfl, ?_⟩
    rw [decide_eq_true rfl]
    refine iteF ?_
    have E5 := ext E4 e5
    have hx5 := E5 _ _ hx
    have ha5 := E5 _ _ ha
    have hL5 := e5 _ _ hLl
    have nax : a ≠ x := fun z => by
      subst z
      rw [hx] at ha
      cases ha
    -- self.words = tuple(words)
    refine ⟨_, rfl, a, _, rfl, .inl ha5, fun tw H6 e6 htw => ?_⟩
    have hx6 := e6 _ _ hx5
    refine ⟨_, rfl, x, _, dx, _, rfl, hx6, cl, T.n_Rims_words, (show 0 < 1000 by decide), ?_⟩
    have ntw : tw ≠ x := fun z => by subst z; rw [hx6] at htw; cases htw
    -- self.letters = tuple(letters)
    have nx : ∀ {H' : Hp} {b : Addr} {o u : HO}, b ≠ x → H' b = some o → upd H' x u b = some o := fun n h => (upd_ne n).trans h
    refine ⟨_, rfl, L, fl, rfl, nx nLx (e6 _ _ hL5), fun tl H7 e7 htl => ?_⟩
    have hx7 := e7 _ _ (upd_same (H := H6) (a := x))
    refine ⟨_, rfl, x, _, dx, _, rfl, hx7, cl, T.n_Rims_letters, (show 1 < 1000 by decide), ?_⟩
    have ntl : tl ≠ x := fun z => by
      subst z
      obtain ⟨o, htl, _⟩ := htl
      rw [hx7] at htl
      cases htl
    have hL7 : ∀ u, upd H7 x u L = some (.lst (fl.map V.int)) := fun u => nx nLx (e7 _ _ (nx nLx (e6 _ _ hL5)))
    -- self.many, self.bands
    refine ⟨_, rfl, L, _, rfl, .inl (sq_l (hL7 _)), ?_⟩
    refine ⟨_, rfl, x, _, dx, _, rfl, upd_same, cl, T.n_Rims_many, (show 2 < 1000 by decide), ?_⟩
    rw [upd_upd, ml]
    refine ⟨_, rfl, L, _, rfl, .inl (sq_l (hL7 _)), _, _, rfl, rfl, ⟨by decide, by decide⟩, ?_⟩
    refine ⟨_, rfl, x, _, dx, _, rfl, upd_same, cl, T.n_Rims_bands, (show 3 < 1000 by decide), ?_⟩
    rw [upd_upd, ml]
    -- self.is_short
    have ha7 : ∀ u, upd H7 x u a = some (.lst (ps.map V.ref)) := fun u => nx nax (e7 _ _ (nx nax (e6 _ _ ha5)))
    have k7 : ∀ u b o, b ≠ x → H b = some o → upd H7 x u b = some o := fun u b o n h => nx n (e7 _ _ (nx n (e6 _ _ (E5 _ _ h))))
    have hw7 : ∀ u, WordsAt K (upd H7 x u) ps ws := fun u => hw.off hx (k7 u)
    refine ⟨_, rfl, a, rfl, ⟨_, sq_l (ha7 _)⟩, fun D3 hD3 => ?_⟩
    refine lc_val walk_list (by rw [mlr]; omega) (fun i => .bl (isSR (ws.getD i []))) hD3 (fun H' e => sq_l (e _ _ (ha7 _))) (fun i y Hc H' hi e hy => ?_) gmN (fun H8 e8 h => ?_)
    · obtain ⟨rfl, hy⟩ := hy
      obtain ⟨hi', rfl⟩ := ref_at hy
      obtain ⟨dx', _, _, _, h1, _⟩ := ((hw7 _).2 i (by omega)).mono e
      exact ⟨rfl, fun Q q => ⟨_, rfl, _, _, dx', _, _, rfl, h1, T.i_Word.cl, T.n_Word_is_short_round, rfl, q _ exr⟩⟩
    rw [bls] at h
    refine ⟨D3, _, rfl, sq_l h, ?_⟩
    clear h
    have eall : (List.map (fun i => isSR (ws.getD i [])) (List.range (ps.map V.ref).length)).all id = ws.all isSR := by
      rw [mlr, hpl, List.all_map]
      rw [Bool.eq_iff_iff]
      simp only [List.all_eq_true, List.mem_range, Function.comp, id]
      refine ⟨fun h w hw => ?_, fun h i hi => h _ (mem_getD hi)⟩
      obtain ⟨i, hi, rfl⟩ := List.getElem_of_mem hw
      have := h i hi
      rwa [List.getD_eq_getElem?_getD, List.getElem?_eq_getElem hi] at this
    rw [eall]
    have hx8 := e8 _ _ (upd_same (H := H7) (a := x))
    refine ⟨_, rfl, x, _, dx, _, rfl, hx8, cl, T.n_Rims_is_short, (show 4 < 1000 by decide), ?_⟩
    -- self.nexts, self.numbers
    have k8 : ∀ u b o, b ≠ x → H b = some o → upd H8 x u b = some o := fun u b o n h => nx n (e8 _ _ (k7 _ b o n h))
    refine ⟨_, rfl, a, ps, ws, rfl, k8 _ _ _ nax ha, hw.off hx (k8 _), fun w hw => (ok.ok w hw).2, by rw [hfl]; omega, fun tn H9 e9 htn => ?_⟩
    have hx9 := e9 _ _ (upd_same (H := H8) (a := x))
    refine ⟨_, rfl, x, _, dx, _, rfl, hx9, cl, T.n_Rims_nexts, (show 5 < 1000 by decide), ?_⟩
    have ntn : tn ≠ x := fun z => by subst z; have htn : H9 tn = _ := htn; rw [hx9] at htn; cases htn
    have k9 : ∀ u b o, b ≠ x → H b = some o → upd H9 x u b = some o := fun u b o n h => nx n (e9 _ _ (k8 _ b o n h))
    refine ⟨_, rfl, a, ps, ws, rfl, k9 _ _ _ nax ha, hw.off hx (k9 _), by rw [hfl]; omega, by omega, fun tm H10 e10 htm => ?_⟩
    have hx10 := e10 _ _ (upd_same (H := H9) (a := x))
    refine ⟨_, rfl, x, _, dx, _, rfl, hx10, cl, T.n_Rims_numbers, (show 6 < 1000 by decide), ?_⟩
    have ntm : tm ≠ x := fun z => by subst z; have htm : H10 tm = _ := htm; rw [hx10] at htm; cases htm
    have k10 : ∀ u b o, b ≠ x → H b = some o → upd H10 x u b = some o := fun u b o n h => nx n (e10 _ _ (k9 _ b o n h))
    refine q _ (k10 _) ⟨dx, tw, tl, tn, tm, ps, ?_, ?_, hw.off hx (k10 _), ?_, ?_, ?_⟩
    · rw [upd_same]
      have eb : (fl.length : Int) / 2 = ((fl.length / 2 : Nat) : Int) := by omega
      rw [hfl]
      show some (HO.ins _ _ _) = _
      rw [← eb]
      rfl
    · exact nx ntw (e10 _ _ (nx ntw (e9 _ _ (nx ntw (e8 _ _ (nx ntw (e7 _ _ (nx ntw htw))))))))
    · obtain ⟨o, h1, r⟩ := htl
      rw [hfl]
      exact ⟨o, nx ntl (e10 _ _ (nx ntl (e9 _ _ (nx ntl (e8 _ _ (nx ntl h1)))))), r⟩
    · exact nx ntn (e10 _ _ (nx ntn htn))
    · exact nx ntm htm
/-- Rims(a list of words) -/
theorem mkRims {a : Addr} {ps : List Addr} {ws : List (List Int)} {Q : VK} {E : XK} {H1 : Hp} (ha : H1 a = some (.lst (ps.map V.ref))) (hw : WordsAt K H1 ps ws) (ok : ROk ws) (q : ∀ y H', Ex H1 H' → RimsAt K H' y ws → Q (.ref y) H') (x dx : Addr) (nx : H1 x = none) (nd : H1 dx = none) (ne : dx ≠ x) :
    sp_Rims K (.ref x :: ([.ref a] ++ [])) (upd (upd H1 dx (.own x)) x (.ins (cRims K) dx [])) (fun v H2 => v = .non ∧ Q (.ref x) H2) E :=
  ⟨x, dx, a, ps, ws, rfl, upd_same, exb nx nd _ _ ha, hw.mono (exb nx nd), ok, fun H' kp hr => ⟨rfl, q x H' (ex_made nx nd kp) hr⟩⟩
def RRm (K : PySem.W.Frag) (a b : Addr) (H : Hp) : Prop := ∃ ws, RimsAt K H a ws ∧ RimsAt K H b ws
theorem mon_RW {a b : Addr} {H H' : Hp} (e : Ext H H') (h : RW K a b H) : RW K a b H' := let ⟨ls, h1, h2⟩ := h; ⟨ls, h1.mono e, h2.mono e⟩
abbrev N_Rims_eq : List Str := ["self", "other"]
theorem sc_Rims_eq : FnScope N_Rims_eq ["self", "other"] (C8.fnScope s_Rims_eq) := C8.fnScope_by (by decide +kernel)
theorem m_req (T : Txt K mg) : C8.Met P w K mg base 4 (cRims K) "__eq__" (spEq (RRm K)) [] := by
  have nd := sc_Rims_eq.nd
  refine metn T.m_Rims_eq T.i_Rims.cl sc_Rims_eq (fun vs H Q E h => ?_) (fun _ _ _ _ _ _ us hl => match us, hl with | [_, _], _ => rfl) (fun f cdv A outer s H vs Q E hr h => ?_)
  · obtain ⟨a, b, rfl, _⟩ := h
    rfl
  · obtain ⟨a, b, rfl, ⟨ws, hw, hw2⟩, q⟩ := h
    obtain ⟨dx, tw, tl, tn, tm, ps, h1, h2, h3, h4, h5, h6⟩ := hw
    obtain ⟨dx', tw', tl', tn', tm', ps', h1', h2', h3', h4', h5', h6'⟩ := hw2
    refine ⟨_, (pss_one (ps_ret (pe_and (pe_callB (C8.call_isC T.i_Rims) (by rfl) T.z_isinstance (by decide +kernel) (pa_cons (pv 1) (pa_cons (pe_glob (v := .ref (cRims K)) (by rfl) T.g_Rims rfl) pa_nil))) (pe_one (pe_cmpR (op_eqG (rcG_tup (n := 1) (D := DIns (cWord K) (RW K)) (mon_ins (R := RW K) fun a b H H' e h => mon_RW e h) (eqG_of (m_weq T))) (hr.mono (show 2 ≤ 3 by decide))) (pe_fld (pv 0) rfl) (pe_fld (pv 1) rfl) (nomark _)))))), ?_⟩
    refine ⟨_, rfl, b, dx', _, rfl, h1', _, rfl, iteT ?_⟩
    refine ⟨_, rfl, a, _, dx, _, _, rfl, h1, T.i_Rims.cl, T.n_Rims_words, rfl, _, rfl, b, _, dx', _, _, rfl, h1', T.i_Rims.cl, T.n_Rims_words, rfl, ⟨tw, tw', _, _, rfl, rfl, sq_t h2, sq_t h2', ?_, fun i x y hx hy => ?_⟩, fun H' e => q H' e⟩
    · rw [mlr, mlr, h3.1, h3'.1]
    · obtain ⟨hi, rfl⟩ := ref_at hx
      obtain ⟨hi', rfl⟩ := ref_at hy
      have w1 := h3.2 i (by rw [← h3.1]; exact hi)
      have w2 := h3'.2 i (by rw [← h3.1]; exact hi)
      obtain ⟨d1, _, _, _, g1, _⟩ := id w1
      obtain ⟨d2, _, _, _, g2, _⟩ := id w2
      exact ⟨_, _, d1, d2, _, _, rfl, rfl, g1, g2, _, w1, w2⟩
end
end Hw
/-! W9 -/
/-! W9: how many sewings; sewn. -/
namespace Hw
open PySem PySem.Spec PyProof.Rows L2 HR RZ
theorem fac_eq : ∀ n, Builtin.Math.factorialNat n = fac n
  | 0 => rfl
  | n + 1 => by rw [PySem.W.mc_fac_succ, fac_eq n]; rfl
section
variable {P : Program} {w : World} {K : PySem.W.Frag} {mg : Str → Option Value} {base : Heap}
def sp_kinds_of : Sp := fun vs H Q _ => ∃ (a : Addr) (ls : List Int), vs = [.ref a] ∧ ITf H a ls ∧ ls.length ≤ 60 ∧ ∀ p ks H', Ex H H' → IL H' p ks → ks.Pairwise (· < ·) → (∀ k, k ∈ ks ↔ ∃ l, l ∈ ls ∧ k = absI l) → ks.length ≤ 60 → Q (.ref p) H'
abbrev N_kinds_of : List Str := ["letters", "letter"]
theorem sc_kinds_of : FnScope N_kinds_of ["letters"] (C8.fnScope s_kinds_of) := C8.fnScope_by (by decide +kernel)
theorem k_kinds_of (T : Txt K mg) : C8.Cal P w K mg base 1 "kinds_of" sp_kinds_of [] := by
  have nd := sc_kinds_of.nd
  refine defn T.d_kinds_of sc_kinds_of (fun vs H Q E h => ?_) (fun _ _ _ _ _ _ us hl => match us, hl with | [_], _ => rfl) (fun f cdv A outer s H vs Q E hr h => ?_)
  · obtain ⟨a, ls, rfl, _⟩ := h
    rfl
  · obtain ⟨a, ls, rfl, ha, hl, q⟩ := h
    refine ⟨_, (pss_one (ps_ret (pe_callB (cr_sortedSet rfl) (by rfl) T.z_sorted (by decide +kernel) (pa_cons (pe_scI (own := [("letter", 1)]) (by rfl) nd (pi_tup (pv 0)) (blkOk_by (own := [("letter", 1)]) (N := N_kinds_of) (sc := C8.fnScope s_kinds_of) (by decide +kernel)) (fun _ _ _ _ _ => (pg_name (i := 1) nd rfl (.inl rfl))) (fun _ _ _ _ _ => pts_nil) (fun _ _ _ _ _ => (pe_callB call_abs (by rfl) T.z_abs (by decide +kernel) (pa_cons (pv 1) pa_nil)))) pa_nil)))), ?_⟩
    refine ⟨_, rfl, a, rfl, ⟨_, sq_f ha⟩, fun D hD => ?_⟩
    refine scI_all walk_tup (by rw [ml]; omega) (fun i => absI (ls.getD i 0)) hD (fun H' e => sq_f (ha.mono e)) (fun i y Hc H' hi e hy => ?_) gmN (fun H3 S c e3 hS hc hk => ?_)
    · obtain ⟨rfl, hy⟩ := hy
      obtain ⟨_, rfl⟩ := int_at hy
      exact ⟨rfl, fun Q q => ⟨_, rfl, _, rfl, q _ exr⟩⟩
    rw [ml] at hc hk
    refine ⟨D, S, c, rfl, hS, by omega, fun ks p hks hmem hlen hp => ?_⟩
    refine q p ks _ (ext e3 (exn hp)) upd_same hks (fun k => ?_) (by omega)
    rw [hmem k, hk k]
    refine ⟨fun ⟨i, hi, e⟩ => ⟨ls.getD i 0, ?_, e⟩, fun ⟨l, hl, e⟩ => ?_⟩
    · rw [List.getD_eq_getElem?_getD, List.getElem?_eq_getElem hi]
      exact List.getElem_mem hi
    · obtain ⟨i, hi, rfl⟩ := List.getElem_of_mem hl
      refine ⟨i, hi, ?_⟩
      rw [List.getD_eq_getElem?_getD, List.getElem?_eq_getElem hi]
      exact e
def sp_many_of : Sp := fun vs H Q _ => ∃ (a : Addr) (ls : List Int), vs = [.ref a] ∧ ITf H a ls ∧ ls.length ≤ 24 ∧ (∀ l ∈ ls, isLet l) ∧ (∀ k, ls.count k ≤ 4) ∧ manyF ls ≤ 720 ∧ ∀ H', Ex H H' → Q (.int (manyF ls : Int)) H'
abbrev N_many_of : List Str := ["letters", "found", "kind"]
theorem sc_many_of : FnScope N_many_of ["letters"] (C8.fnScope s_many_of) := C8.fnScope_by (by decide +kernel)
theorem k_many_of (T : Txt K mg) : C8.Cal P w K mg base 2 "many_of" sp_many_of [] := by
  have nd := sc_many_of.nd
  refine defn T.d_many_of sc_many_of (fun vs H Q E h => ?_) (fun _ _ _ _ _ _ us hl => match us, hl with | [_], _ => rfl) (fun f cdv A outer s H vs Q E hr h => ?_)
  · obtain ⟨a, ls, rfl, _⟩ := h
    rfl
  · obtain ⟨a, ls, rfl, ha, hl, hls, hc, hm, q⟩ := h
    refine ⟨_, (pss_cons (ps_set (i := 1) nd rfl (.inl rfl) pe_int)
        (pss_cons (ps_for PassesOwn.never rfl (pi_list (C8.pe_c (k_kinds_of T) hr (by decide) (by rfl) (pa_cons (pv 0) pa_nil))) (pg_name (i := 2) nd rfl (.inl rfl))
        (pss_one (ps_set (i := 1) nd rfl (.inl rfl) (pe_op op_mul (pv 1) (pe_callBfun cr_fact (by rfl) T.g_factorial (pa_cons (pe_tcountF (pv 0) (pa_cons (pv 2) pa_nil)) pa_nil))))))
        (pss_one (ps_ret (pv 1))))), ?_⟩
    refine ⟨_, rfl, a, ls, rfl, ha, by omega, fun p ks H1 e1 hp hks hmem hkl => ?_⟩
    have hpr := many_kinds hls hks hmem
    have h1 : ∀ k, 1 ≤ fac (ls.count k) := fun k => fac_pos _
    refine ⟨p, rfl, ⟨_, sq_l hp⟩, ?_⟩
    refine for_list (xs := ks.map V.int) (fun i σ H' => ∃ y2, σ = [some (.ref a), some (.int (prodG (fun k => fac (ls.count k)) (ks.take i) : Int)), y2] ∧ Ex H1 H') ⟨none, rfl, exr⟩ (fun i σ H' _ p => ?_) (fun i x σ H' hx p => ?_) (fun σ H' p => ?_)
    · obtain ⟨y2, rfl, e⟩ := p
      exact sq_l (e _ _ hp)
    · obtain ⟨y2, rfl, e⟩ := p
      obtain ⟨hi, rfl⟩ := int_at hx
      have hc' := hc (ks.getD i 0)
      have hb := prodG_take h1 ks i
      rw [hpr] at hb
      refine ⟨_, rfl, _, rfl, a, ls, rfl, (ha.mono e1).mono e, _, rfl, _, rfl, (ha.mono e1).mono e, ls.count (ks.getD i 0), rfl, by omega, _, _, rfl, rfl, .inl (by omega), ?_⟩
      have hst : ((prodG (fun k => fac (ls.count k)) (ks.take i) : Nat) : Int) * ((Builtin.Math.factorialNat (ls.count (ks.getD i 0)) : Nat) : Int) = ((prodG (fun k => fac (ls.count k)) (ks.take (i + 1)) : Nat) : Int) := by
        have e1 : ks[i]?.toList = [ks.getD i 0] := by
          rw [List.getD_eq_getElem?_getD, List.getElem?_eq_getElem hi]
          rfl
        rw [fac_eq, List.take_add_one, prodG_append, e1, prodG_one, Int.natCast_mul]
      refine ⟨some (.int (ks.getD i 0)), ?_, e⟩
      rw [← hst]
      rfl
    · obtain ⟨y2, rfl, e⟩ := p
      rw [ml, List.take_length, hpr]
      exact ⟨_, rfl, q _ (ext e1 e)⟩
/-- few enough sewings -/
structure Few (ws : List (List Int)) : Prop where
  c4 : ∀ k, ws.flatten.count k ≤ 4
  many : manyF ws.flatten ≤ 720
theorem ROk.let_ {ws : List (List Int)} (ok : ROk ws) : ∀ l ∈ ws.flatten, isLet l := fun l hl => by
  obtain ⟨w, hw, h⟩ := List.mem_flatten.mp hl
  exact (ok.ok w hw).1.1 l h
def sp_need_few_sewings (K : PySem.W.Frag) : Sp := fun vs H Q _ => ∃ (x : Addr) (ws : List (List Int)), vs = [.ref x] ∧ RimsAt K H x ws ∧ ROk ws ∧ Few ws ∧ ∀ H', Ex H H' → Q .non H'
abbrev N_need_few_sewings : List Str := ["rims"]
theorem sc_need_few_sewings : FnScope N_need_few_sewings ["rims"] (C8.fnScope s_need_few_sewings) := C8.fnScope_by (by decide +kernel)
theorem k_need_few_sewings (T : Txt K mg) : C8.Cal P w K mg base 3 "need_few_sewings" (sp_need_few_sewings K) [] := by
  have nd := sc_need_few_sewings.nd
  refine defn T.d_need_few_sewings sc_need_few_sewings (fun vs H Q E h => ?_) (fun _ _ _ _ _ _ us hl => match us, hl with | [_], _ => rfl) (fun f cdv A outer s H vs Q E hr h => ?_)
  · obtain ⟨x, ws, rfl, _⟩ := h
    rfl
  · obtain ⟨x, ws, rfl, hr0, ok, few, q⟩ := h
    obtain ⟨dx, tw, tl, tn, tm, ps, h1, h2, h3, h4, h5, h6⟩ := id hr0
    refine ⟨_, (pss_cons (ps_expr (C8.pe_c (k_need_rims T) hr (by decide) (by rfl) (pa_cons (pv 0) pa_nil)))
        (pss_one (ps_if (pt_cmpR op_gt (C8.pe_c (k_many_of T) hr (by decide) (by rfl) (pa_cons (pe_fld (pv 0) rfl) pa_nil)) (C8.pe_gc (by rfl) (gi T.v_MOST_SEWINGS)) (nomark _))
        (pss_one ps_never)
        pss_nil))), ?_⟩
    refine ⟨_, rfl, x, ws, rfl, hr0, ?_⟩
    refine ⟨_, rfl, x, _, dx, _, _, rfl, h1, T.i_Rims.cl, T.n_Rims_letters, rfl, tl, _, rfl, h4, ok.sz, ok.let_, few.c4, few.many, fun H' e => ?_⟩
    refine ⟨_, _, rfl, rfl, _, rfl, ?_⟩
    have := few.many
    rw [decide_eq_false (show ¬ (720 : Int) < (manyF ws.flatten : Int) by omega)]
    exact iteF (q _ e)
def sp_sewn : Sp := fun vs H Q _ => ∃ (m f o : Addr) (ms fw od : List Nat), vs = [.ref m, .ref f, .ref o] ∧ IL H m (iN ms) ∧ IL H f (iN fw) ∧ IT H o (iN od) ∧ fw.length = od.length ∧ (∀ x ∈ fw, x < ms.length) ∧ (∀ x ∈ od, x < ms.length) ∧ ms.length ≤ 1000 ∧ fw.length ≤ 1000 ∧
  ∀ p H', H p = none → Ex H H' → IL H' p (iN (sewF ms fw od)) → Q (.ref p) H'
abbrev N_sewn : List Str := ["mates", "forward", "backward", "found", "one", "other"]
theorem sc_sewn : FnScope N_sewn ["mates", "forward", "backward"] (C8.fnScope s_sewn) := C8.fnScope_by (by decide +kernel)
theorem k_sewn (T : Txt K mg) : C8.Cal P w K mg base 1 "sewn" sp_sewn [] := by
  have nd := sc_sewn.nd
  refine defn T.d_sewn sc_sewn (fun vs H Q E h => ?_) (fun _ _ _ _ _ _ us hl => match us, hl with | [_, _, _], _ => rfl) (fun f cdv A outer s H vs Q E hr h => ?_)
  · obtain ⟨m, f, o, ms, fw, od, rfl, _⟩ := h
    rfl
  · obtain ⟨m, f', o, ms, fw, od, rfl, hm, hf, ho, hlen, hfw, hod, hz, hz2, q⟩ := h
    refine ⟨_, (pss_cons (ps_set (i := 3) nd rfl (.inl rfl) (pe_callTy call_list_of (by rfl) T.z_list (by decide +kernel) (pa_cons (pv 0) pa_nil)))
        (pss_cons (ps_for PassesOwn.never rfl (pi_zipM (by rfl) T.z_zip (pa_cons (pv 1) (pa_cons (pv 2) pa_nil))) (pg_tup rfl (pgs_cons (pg_name (i := 4) nd rfl (.inl rfl)) (pgs_cons (pg_name (i := 5) nd rfl (.inl rfl)) pgs_nil)))
        (pss_cons (ps_asg (pv 5) (pg_sub (pv 3) (pv 4) set_list))
        (pss_one (ps_asg (pv 4) (pg_sub (pv 3) (pv 5) set_list)))))
        (pss_one (ps_ret (pv 3))))), ?_⟩
    refine ⟨_, rfl, m, _, rfl, .inl (sq_l hm), fun F hF => ?_⟩
    refine ⟨_, rfl, _, rfl, f', o, _, _, rfl, sq_l (exn hF _ _ hf), sq_t (exn hF _ _ ho), ?_⟩
    refine for_it (walk_zipM (K := K) (a := f') (b := o) (xs := (iN fw).map V.int) (ys := (iN od).map V.int) (n := fw.length) (by rw [ml, ml, length_iN, length_iN]; omega)) (fun i σ H' => ∃ y4 y5, σ = [some (.ref m), some (.ref f'), some (.ref o), some (.ref F), y4, y5] ∧ Ex H H' ∧ IL H' F (iN (sewF ms (fw.take i) (od.take i)))) ⟨none, none, rfl, exn hF, upd_same⟩ (fun i σ H' _ p => ?_) (fun i x σ H1 H' hi p hy => ?_) (fun σ H' p => ?_)
    · obtain ⟨_, _, rfl, e, _⟩ := p
      exact ⟨sq_l (e _ _ hf), sq_t (e _ _ ho)⟩
    · obtain ⟨y4, y5, rfl, e, hl⟩ := p
      obtain ⟨T2, x, y, rfl, hT, rfl, hx, hy⟩ := hy
      obtain ⟨_, rfl⟩ := int_at hx
      obtain ⟨_, rfl⟩ := int_at hy
      have hi2 : i < od.length := by omega
      have hst : sewF ms (fw.take (i + 1)) (od.take (i + 1)) = ((sewF ms (fw.take i) (od.take i)).set (fw.getD i 0) (od.getD i 0)).set (od.getD i 0) (fw.getD i 0) := by
        unfold sewF
        rw [List.take_add_one, List.take_add_one, List.zip_append (by rw [List.length_take, List.length_take]; omega), List.foldl_append, List.getD_eq_getElem?_getD, List.getD_eq_getElem?_getD, List.getElem?_eq_getElem hi, List.getElem?_eq_getElem hi2]
        rfl
      have hsl := length_sewF ms (fw.take i) (od.take i)
      have hb1 : fw.getD i 0 < ms.length := hfw _ (by rw [List.getD_eq_getElem?_getD, List.getElem?_eq_getElem hi]; exact List.getElem_mem hi)
      have hb2 : od.getD i 0 < ms.length := hod _ (by rw [List.getD_eq_getElem?_getD, List.getElem?_eq_getElem hi2]; exact List.getElem_mem hi2)
      rw [iN_getD hi, iN_getD hi2]
      generalize sewF ms (fw.take i) (od.take i) = acc at hl hst hsl
      generalize fw.getD i 0 = a at hst hb1
      generalize od.getD i 0 = b at hst hb2
      have eset : ∀ (l : List Nat) (u v : Nat), ((iN l).map V.int).set u (.int (v : Int)) = (iN (l.set u v)).map V.int := fun l u v => by
        unfold iN
        rw [List.map_map, List.map_map, List.map_set]
        rfl
      have nTF : F ≠ T2 := fun z => by rw [← z] at hT; have hl : H1 F = _ := hl; rw [hT] at hl; cases hl
      refine ⟨T2, _, rfl, sq_t upd_same, rfl, _, _, rfl, _, _, rfl, rfl, ?_⟩
      refine ⟨_, rfl, _, rfl, _, rfl, F, _, _, a, rfl, rfl, (upd_ne nTF).trans hl, ?_, ?_⟩
      · rw [ml, length_iN, hsl]
        exact Evl.ixN_nat hb1
      · rw [eset]
        refine ⟨_, rfl, _, rfl, _, rfl, F, _, _, b, rfl, rfl, upd_same, ?_, ?_⟩
        · rw [ml, length_iN, List.length_set, hsl]
          exact Evl.ixN_nat hb2
        · rw [eset, upd_upd]
          refine ⟨_, _, rfl, exm (ext e (exn hT)) hF, ?_⟩
          show upd _ F _ F = _
          rw [upd_same, hst]
    · obtain ⟨y4, y5, rfl, e, hl⟩ := p
      rw [List.take_length, hlen, List.take_length] at hl
      exact ⟨_, rfl, q _ _ hF e hl⟩
end
end Hw
/-! W10 -/
/-! W10: all the sewings' mates. -/
namespace Hw
open PySem PySem.Spec PyProof.Rows L2 HR RZ
/-- a list of lists of places -/
def LL (H : Hp) (F : Addr) (mss : List (List Nat)) : Prop := ∃ as : List Addr, H F = some (.lst (as.map V.ref)) ∧ as.length = mss.length ∧ ∀ i, i < mss.length → as.getD i 0 ≠ F ∧ IL H (as.getD i 0) (iN (mss.getD i []))
theorem LL.mono {H H' : Hp} {F : Addr} {mss : List (List Nat)} (e : Ex H H') (h : LL H F mss) : LL H' F mss := by
  obtain ⟨as, h1, h2, h3⟩ := h
  exact ⟨as, e _ _ h1, h2, fun i hi => ⟨(h3 i hi).1, (h3 i hi).2.mono e⟩⟩
theorem getD_app {α : Type} {l m : List α} {d : α} {i : Nat} : (l ++ m).getD i d = if i < l.length then l.getD i d else m.getD (i - l.length) d := by
  rw [List.getD_eq_getElem?_getD, List.getD_eq_getElem?_getD, List.getD_eq_getElem?_getD]
  split
  · rename_i h
    rw [List.getElem?_append_left h]
  · rename_i h
    rw [List.getElem?_append_right (by omega)]
theorem given_filter (n : Nat) (f : Nat → Bool) (v : Nat → V) : Evl.given n f v = ((List.range n).filter f).map v := by
  induction n with
  | zero => rfl
  | succ n ih =>
    rw [List.range_succ, List.filter_append, List.map_append, ← ih]
    cases h : f n with
    | true => rw [Evl.given_yes h]; simp [h]
    | false => rw [Evl.given_no h]; simp [h]
theorem given_places (ls : List Int) (k : Int) : Evl.given ls.length (fun i => decide (ls.getD i 0 = k)) (fun i => .int (i : Int)) = (iN (placesOf ls k)).map V.int := by
  rw [given_filter]
  unfold placesOf iN
  rw [List.map_map]
  rfl
theorem pkV_iN (bw : List Nat) (h4 : bw.length < 5) {i : Nat} (hi : i < (ptab bw.length).length) : pkV ((iN bw).map V.int) i = (iN ((ordsF bw).getD i [])).map V.int := by
  unfold pkV ordsF
  rw [ml, length_iN, List.getD_eq_getElem?_getD, List.getElem?_map, List.getElem?_range hi]
  show _ = (iN (List.map _ _)).map V.int
  unfold iN
  rw [List.map_map, List.map_map, List.map_map]
  refine List.map_congr_left fun k hk => ?_
  have := pst_lt _ h4 i hi k hk
  show ((bw.map _).getD k _) = _
  rw [List.getD_eq_getElem?_getD, List.getElem?_map, List.getElem?_eq_getElem this]
  show V.int ((bw[k] : Nat) : Int) = V.int ((bw.getD k 0 : Nat) : Int)
  rw [List.getD_eq_getElem?_getD, List.getElem?_eq_getElem this]
  rfl
theorem mem_getDD {α : Type} {l : List α} {d : α} {i : Nat} (h : i < l.length) : l.getD i d ∈ l := by
  rw [List.getD_eq_getElem?_getD, List.getElem?_eq_getElem h]
  exact List.getElem_mem h
theorem len_ords {bw od : List Nat} (h4 : bw.length < 5) (h : od ∈ ordsF bw) : od.length = bw.length ∧ ∀ x ∈ od, x ∈ bw := by
  unfold ordsF at h
  obtain ⟨i, hi, rfl⟩ := List.mem_map.mp h
  have hi := List.mem_range.mp hi
  have hl := pst_len _ h4 (i + 1) (by omega) (by omega)
  refine ⟨by rw [List.length_map, List.length_take]; omega, fun x hx => ?_⟩
  obtain ⟨k, hk, rfl⟩ := List.mem_map.mp hx
  exact mem_getDD (pst_lt _ h4 i hi k hk)
theorem stepA_take {ls : List Int} {found : List (List Nat)} {k : Int} {j : Nat} (h : j < found.length) : stepA ls (found.take (j + 1)) k = stepA ls (found.take j) k ++ (ordsF (placesOf ls (-k))).map fun od => sewF (found.getD j []) (placesOf ls k) od := by
  unfold stepA
  rw [List.take_add_one, List.map_append, List.flatten_append, List.getElem?_eq_getElem h, List.getD_eq_getElem?_getD, List.getElem?_eq_getElem h]
  simp
theorem len_amF : ∀ (ls : List Int) (ks : List Int) (found : List (List Nat)), (∀ m ∈ found, m.length = ls.length) → ∀ m ∈ ks.foldl (stepA ls) found, m.length = ls.length
  | ls, [], found, h => h
  | ls, k :: ks, found, h => by
    rw [List.foldl_cons]
    refine len_amF ls ks _ fun m hm => ?_
    unfold stepA at hm
    obtain ⟨l, hl, hml⟩ := List.mem_flatten.mp hm
    obtain ⟨m0, hm0, rfl⟩ := List.mem_map.mp hl
    obtain ⟨od, _, rfl⟩ := List.mem_map.mp hml
    rw [length_sewF, h m0 hm0]
section
variable {P : Program} {w : World} {K : PySem.W.Frag} {mg : Str → Option Value} {base : Heap}
def sp_all_mates : Sp := fun vs H Q _ => ∃ (a : Addr) (ls : List Int), vs = [.ref a] ∧ ITf H a ls ∧ ls.length ≤ 24 ∧ ls ≠ [] ∧ (∀ l ∈ ls, isLet l) ∧ (∀ k, ls.count k ≤ 4) ∧ (∀ k, ls.count k = ls.count (-k)) ∧ manyF ls ≤ 720 ∧
  ∀ p (as : List Addr) (mss : List (List Nat)) ks H', Ex H H' → ks.Pairwise (· < ·) → (∀ k, k ∈ ks ↔ ∃ l, l ∈ ls ∧ k = absI l) → H' p = some (.lst (as.map V.ref)) → as.length = mss.length → (∀ i, i < mss.length → IT H' (as.getD i 0) (iN (mss.getD i []))) → mss.Perm (amF ls ks) → Q (.ref p) H'
abbrev N_all_mates : List Str := ["letters", "found", "kind", "forward", "backward", "longer", "mates", "letter", "place", "order"]
theorem sc_all_mates : FnScope N_all_mates ["letters"] (C8.fnScope s_all_mates) := C8.fnScope_by (by decide +kernel)
theorem k_all_mates (T : Txt K mg) : C8.Cal P w K mg base 2 "all_mates" sp_all_mates [] := by
  have nd := sc_all_mates.nd
  refine defn T.d_all_mates sc_all_mates (fun vs H Q E h => ?_) (fun _ _ _ _ _ _ us hl => match us, hl with | [_], _ => rfl) (fun f cdv A outer s H vs Q E hr h => ?_)
  · obtain ⟨a, ls, rfl, _⟩ := h
    rfl
  · obtain ⟨a, ls, rfl, ha, hl, hne, hls, hc, hb, hm, q⟩ := h
    refine ⟨_, (pss_cons (ps_set (i := 1) nd rfl (.inl rfl) (pe_lst (pa_cons (pe_lc (own := [("letter", 7)]) (by rfl) nd (pi_tup (pv 0)) (blkOk_by (own := [("letter", 7)]) (N := N_all_mates) (sc := C8.fnScope s_all_mates) (by decide +kernel)) (fun _ _ _ _ _ => (pg_name (i := 7) nd rfl (.inl rfl))) (fun _ _ _ _ _ => pts_nil) (fun _ _ _ _ _ => pe_int)) pa_nil)))
        (pss_cons (ps_for PassesOwn.never rfl (pi_list (C8.pe_c (k_kinds_of T) hr (by decide) (by rfl) (pa_cons (pv 0) pa_nil))) (pg_name (i := 2) nd rfl (.inr rfl))
        (pss_cons (ps_set (i := 3) nd rfl (.inr rfl) (pe_lc (g := gTup K 2 (gCons (gName 8) (gCons (gName 7) gNil))) (own := [("place", 8), ("letter", 7)]) (by rfl) nd (pi_enumT (by rfl) T.z_enumerate (pa_cons (pv 0) pa_nil)) (blkOk_by (own := [("place", 8), ("letter", 7)]) (N := N_all_mates) (sc := C8.fnScope s_all_mates) (by decide +kernel)) (fun _ _ _ _ _ => (pg_tup rfl (pgs_cons (pg_name (i := 8) nd rfl (.inl rfl)) (pgs_cons (pg_name (i := 7) nd rfl (.inl rfl)) pgs_nil)))) (fun _ _ _ _ _ => (pts_one (pt_cmpR op_eq (pv 7) (pv 2) (nomark _)))) (fun _ _ _ _ _ => (pv 8))))
        (pss_cons (ps_setLc (g := gTup K 2 (gCons (gName 8) (gCons (gName 7) gNil))) (i := 4) (own := [("place", 8), ("letter", 7)]) (by rfl) nd rfl rfl (sw_true rfl rfl rfl (by decide +kernel)) (pi_enumT (by rfl) T.z_enumerate (pa_cons (pv 0) pa_nil)) (blkOk_by (own := [("place", 8), ("letter", 7)]) (N := N_all_mates) (sc := C8.fnScope s_all_mates) (by decide +kernel)) (fun _ _ _ _ _ => (pg_tup rfl (pgs_cons (pg_name (i := 8) nd rfl (.inl rfl)) (pgs_cons (pg_name (i := 7) nd rfl (.inl rfl)) pgs_nil)))) (fun _ _ _ _ _ => (pts_one (pt_cmpR op_eq (pv 7) (pe_un un_neg (pv 2)) (nomark _)))) (fun _ _ _ _ _ => (pv 8)))
        (pss_cons (ps_set (i := 5) nd rfl (.inl rfl) (pe_lst pa_nil))
        (pss_cons (ps_for PassesOwn.never rfl (pi_list (pv 1)) (pg_name (i := 6) nd rfl (.inr rfl))
        (pss_one (ps_expr (pe_bm (X := (cxOf CX0 P w K mg base N_all_mates _ (C8.fnScope s_all_mates) f cdv A outer s H E).nox) PySem.F.plainAttrs_list PySem.F.slot_list_extend PySem.F.type_list_extend mt_extend (pv 5) (pa_cons (pe_lc (own := [("order", 9)]) (by rfl) nd (pi_perm (by rfl) T.g_permutations (pa_cons (pv 4) pa_nil)) (blkOk_by (own := [("order", 9)]) (N := N_all_mates) (sc := C8.fnScope s_all_mates) (by decide +kernel)) (fun _ _ _ _ _ => (pg_name (i := 9) nd rfl (.inl rfl))) (fun _ _ _ _ _ => pts_nil) (fun _ _ _ _ _ => (C8.pe_c (k_sewn T) hr (by decide) (by rfl) (pa_cons (pv 6) (pa_cons (pv 3) (pa_cons (pv 9) pa_nil)))))) pa_nil)))))
        (pss_one (ps_set (i := 1) nd rfl (.inl rfl) (pv 5))))))))
        (pss_one (ps_ret (pe_callB (cr_sortI hr.units) (by rfl) T.z_sorted (by decide +kernel) (pa_cons (pe_lc (own := [("mates", 6)]) (by rfl) nd (pi_list (pv 1)) (blkOk_by (own := [("mates", 6)]) (N := N_all_mates) (sc := C8.fnScope s_all_mates) (by decide +kernel)) (fun _ _ _ _ _ => (pg_name (i := 6) nd rfl (.inl rfl))) (fun _ _ _ _ _ => pts_nil) (fun _ _ _ _ _ => (pe_callTy call_tupG (by rfl) T.z_tuple (by decide +kernel) (pa_cons (pv 6) pa_nil)))) pa_nil)))))), ?_⟩
    refine ⟨_, rfl, a, rfl, ⟨_, sq_f ha⟩, fun D0 hD0 => ?_⟩
    refine lc_val walk_tup (by rw [ml]; omega) (fun _ => .int 0) hD0 (fun H' e => sq_f (ha.mono e)) (fun i y Hc H' hi e hy => ?_) gmN (fun H0 e0 h0 => ?_)
    · obtain ⟨rfl, hy⟩ := hy
      exact ⟨rfl, fun Q q => q _ exr⟩
    refine ⟨Nat.le_of_ble_eq_true rfl, fun F0 hF0 => ?_⟩
    have ha0 := (ha.mono e0).mono (exn (o := .lst [.ref D0]) hF0)
    refine ⟨_, rfl, a, ls, rfl, ha0, by omega, fun p ks H1 e1 hp hks hmem hkl => ?_⟩
    have ha1 := ha0.mono e1
    have hpr := many_kinds hls hks hmem
    have hk1 : ∀ k ∈ ks, 1 ≤ ls.count k := fun k hk => by
      obtain ⟨l, hl', e⟩ := (hmem k).mp hk
      unfold absI at e
      have h1 : 1 ≤ ls.count l := List.count_pos_iff.mpr hl'
      split at e
      · rw [e, ← hb l]
        exact h1
      · rw [e]
        exact h1
    refine ⟨p, rfl, ⟨_, sq_l hp⟩, ?_⟩
    refine for_list (xs := ks.map V.int) (fun i σ H' => ∃ F y2 y3 y4 y5 y6 y7 y8 y9, σ = [some (.ref a), some (.ref F), y2, y3, y4, y5, y6, y7, y8, y9] ∧ Ex H1 H' ∧ LL H' F (amF ls (ks.take i))) ⟨F0, none, none, none, none, none, none, none, none, rfl, exr, ?_⟩ (fun i σ H' _ p => ?_) (fun i x σ H' hx p => ?_) (fun σ H' p => ?_)
    · refine LL.mono e1 ⟨[D0], upd_same, rfl, fun i hi => ?_⟩
      have : i = 0 := by
        have : i < 1 := hi
        omega
      subst this
      have h2 : H0 D0 = some (.lst ((iN (List.replicate ls.length 0)).map V.int)) := by
        rw [h0, rconst, ml]
        unfold iN
        simp
      refine ⟨fun z => ?_, exn hF0 _ _ h2⟩
      have z : D0 = F0 := z
      rw [z, hF0] at h2
      cases h2
    · obtain ⟨F, _, _, _, _, _, _, _, _, rfl, e, _⟩ := p
      exact sq_l (e _ _ hp)
    · obtain ⟨F, y2, y3, y4, y5, y6, y7, y8, y9, rfl, e, hF⟩ := p
      obtain ⟨hi, rfl⟩ := int_at hx
      have hkm : ks.getD i 0 ∈ ks := mem_getDD hi
      have hck := hk1 _ hkm
      have hst : amF ls (ks.take (i + 1)) = stepA ls (amF ls (ks.take i)) (ks.getD i 0) := by
        unfold amF
        rw [List.take_add_one, List.foldl_append, List.getD_eq_getElem?_getD, List.getElem?_eq_getElem hi]
        rfl
      have hlen1 : (amF ls (ks.take (i + 1))).length ≤ 720 := by
        unfold amF
        rw [length_amF hc hb _ _ fun k hk => hk1 k (List.mem_of_mem_take hk)]
        have := prodG_take (g := fun k => fac (ls.count k)) (fun k => fac_pos _) ks (i + 1)
        rw [hpr] at this
        simp
        omega
      have hmlen : ∀ m ∈ amF ls (ks.take i), m.length = ls.length := len_amF ls _ _ fun m hm => by
        rw [List.mem_singleton.mp hm, List.length_replicate]
      generalize amF ls (ks.take i) = found at hF hst hmlen
      generalize ks.getD i 0 = k at hst hkm hck
      have hck2 := hb k
      have hc4 := hc (-k)
      have lfw := length_placesOf ls k
      have lbw := length_placesOf ls (-k)
      rw [hst, length_stepA] at hlen1
      -- forward
      refine ⟨_, rfl, a, _, rfl, sq_f (ha1.mono e), fun D1 hD1 => ?_⟩
      refine lc_sel (n := (ls.map V.int).length) walk_enumT (by rw [ml]; omega) (fun i => decide (ls.getD i 0 = k)) (fun i => .int (i : Int)) hD1 (fun H' e' => sq_f ((ha1.mono e).mono e')) (fun j y Hc H2 hj e' hy => ?_) gmP (fun H2 e2 h2 => ?_)
      · obtain ⟨T2, x, y, rfl, hT, rfl, hx, hy⟩ := hy
        cases hx
        obtain ⟨_, rfl⟩ := int_at hy
        refine ⟨T2, _, rfl, sq_t upd_same, rfl, _, _, rfl, _, _, rfl, rfl, rfl, exn hT, fun Q q => ?_, fun _ H3 e3 Q q => ⟨_, rfl, q _ exr⟩⟩
        refine ⟨_, rfl, _, rfl, rfl, _, rfl, ?_⟩
        rw [dec_int']
        exact q _ exr
      rw [ml, given_places] at h2
      have E2 := ext e e2
      -- backward
      refine ⟨_, rfl, a, _, rfl, sq_f (ha1.mono E2), fun D2 hD2 => ?_⟩
      refine lc_sel (n := (ls.map V.int).length) walk_enumT (by rw [ml]; omega) (fun i => decide (ls.getD i 0 = -k)) (fun i => .int (i : Int)) hD2 (fun H' e' => sq_f ((ha1.mono E2).mono e')) (fun j y Hc H2 hj e' hy => ?_) gmP (fun H3 e3 h3 => ?_)
      · obtain ⟨T2, x, y, rfl, hT, rfl, hx, hy⟩ := hy
        cases hx
        obtain ⟨_, rfl⟩ := int_at hy
        refine ⟨T2, _, rfl, sq_t upd_same, rfl, _, _, rfl, _, _, rfl, rfl, rfl, exn hT, fun Q q => ?_, fun _ H3 e3 Q q => ⟨_, rfl, q _ exr⟩⟩
        refine ⟨_, rfl, _, rfl, _, rfl, rfl, _, rfl, ?_⟩
        rw [dec_int']
        exact q _ exr
      rw [ml, given_places] at h3
      have E3 := ext E2 e3
      have hfw : IL H3 D1 (iN (placesOf ls k)) := e3 _ _ h2
      have hbw : IL H3 D2 (iN (placesOf ls (-k))) := h3
      have hF3 := hF.mono (ext e2 e3)
      clear h2 h3
      have mfw : ∀ x ∈ placesOf ls k, x < ls.length := fun x hx => (mem_placesOf.mp hx).1
      have mbw : ∀ x ∈ placesOf ls (-k), x < ls.length := fun x hx => (mem_placesOf.mp hx).1
      -- longer
      refine ⟨Nat.zero_le _, fun G hG => ?_⟩
      obtain ⟨as, hFa, hal, hai⟩ := hF3
      refine ⟨_, rfl, F, rfl, ⟨_, sq_l (exn hG _ _ hFa)⟩, ?_⟩
      refine for_list (xs := as.map V.ref) (fun j σ H' => ∃ y6 y7 y8 y9, σ = [some (.ref a), some (.ref F), some (.int k), some (.ref D1), some (.ref D2), some (.ref G), y6, y7, y8, y9] ∧ Ex H3 H' ∧ LL H' G (stepA ls (found.take j) k)) ⟨_, _, _, _, rfl, exn hG, [], upd_same, rfl, fun i hi => by simp [stepA] at hi⟩ (fun j σ H' _ p => ?_) (fun j x σ H' hx p => ?_) (fun σ H' p => ?_)
      · obtain ⟨_, _, _, _, rfl, e, _⟩ := p
        exact sq_l (e _ _ hFa)
      · obtain ⟨y6, y7, y8, y9, rfl, e4, hG4⟩ := p
        obtain ⟨hj, rfl⟩ := ref_at hx
        have hj2 : j < found.length := by omega
        have hstj := stepA_take (ls := ls) (k := k) hj2
        obtain ⟨_, him⟩ := hai j hj2
        have him := him.mono e4
        have hml := hmlen _ (mem_getDD (d := []) hj2)
        generalize as.getD j 0 = mA at him
        generalize found.getD j [] = m at him hstj hml
        obtain ⟨gs, hGa, hgl, hgi⟩ := hG4
        have hlenj : (stepA ls (found.take j) k).length + (ptab (ls.count (-k))).length ≤ 720 := by
          rw [length_stepA, List.length_take, Nat.min_eq_left (by omega)]
          have : (j + 1) * (ptab (ls.count (-k))).length ≤ found.length * (ptab (ls.count (-k))).length := Nat.mul_le_mul_right _ hj2
          rw [Nat.succ_mul] at this
          omega
        refine ⟨_, rfl, .inl ⟨rfl, _, sq_l hGa⟩, ?_⟩
        refine ⟨_, rfl, D2, _, rfl, sq_l (e4 _ _ hbw), by rw [ml, length_iN]; omega, by rw [ml, length_iN]; omega, fun D hD => ?_⟩
        have hn : (ptab ((iN (placesOf ls (-k))).map V.int).length).length = (ordsF (placesOf ls (-k))).length := by rw [ml, length_iN, length_ordsF]
        refine lc_all walk_perm (by rw [ml, length_iN, lbw]; omega) (fun i y H' => ∃ s, y = .ref s ∧ s ≠ D ∧ H' s ≠ none ∧ s ≠ G ∧ IL H' s (iN (sewF m (placesOf ls k) ((ordsF (placesOf ls (-k))).getD i [])))) hD (fun _ _ => trivial) (fun i y H' H'' kp h => ?_) (fun i y Hc H5 hi e5 hz hy => ?_) gmN (fun ys H5 e5 h5 hyl hys => ?_)
        · obtain ⟨s, rfl, h1, h2, h3, h4⟩ := h
          have h4' := kp.2 _ _ h1 h4
          exact ⟨s, rfl, h1, fun z => Option.some_ne_none _ ((Eq.symm h4').trans z), h3, h4'⟩
        · obtain ⟨T2, rfl, hT, rfl⟩ := hy
          rw [ml, length_iN] at hi
          have hod : (ordsF (placesOf ls (-k))).getD i [] ∈ ordsF (placesOf ls (-k)) := mem_getDD (by rw [length_ordsF]; exact hi)
          obtain ⟨ho1, ho2⟩ := len_ords (by omega) hod
          have hpk := pkV_iN (placesOf ls (-k)) (by omega) hi
          obtain ⟨zs, hz⟩ := hz
          refine ⟨rfl, fun Q q => ?_⟩
          have e6 : Ex Hc (upd Hc T2 (.tup (pkV ((iN (placesOf ls (-k))).map V.int) i))) := exn hT
          refine ⟨_, rfl, _, rfl, _, rfl, mA, D1, T2, m, placesOf ls k, _, rfl, e6 _ _ (e5 _ _ him), e6 _ _ (e5 _ _ (e4 _ _ hfw)), ?_, ?_, fun x hx => by rw [hml]; exact mfw x hx, fun x hx => by rw [hml]; exact mbw x (ho2 x hx), by omega, by omega, fun s H6 hs e7 hr => ?_⟩
          · show upd Hc T2 _ T2 = _
            rw [upd_same, hpk]
          · omega
          · refine q _ _ (ext e6 e7) ⟨s, rfl, fun z => ?_, fun z => ?_, fun z => ?_, hr⟩
            · rw [z, e6 _ _ hz] at hs
              cases hs
            · have hr : H6 s = _ := hr
              rw [z] at hr
              cases hr
            · rw [z, e6 _ _ (e5 _ _ hGa)] at hs
              cases hs
        · rw [hn] at hyl
          have hG5 := e5 _ _ hGa
          refine ⟨G, D, _, _, rfl, rfl, hG5, h5, ?_, ?_⟩
          · rw [mlr, hgl, hyl, length_ordsF, lbw]
            exact sz (by omega)
          · refine ⟨_, _, _, _, rfl, exm (ext e4 e5) hG, ?_⟩
            have hdec : ∃ bs : List Addr, ys = bs.map V.ref := by
              have : ∀ l : List V, (∀ y ∈ l, ∃ s, y = V.ref s) → ∃ bs : List Addr, l = bs.map V.ref := fun l => by
                induction l with
                | nil => exact fun _ => ⟨[], rfl⟩
                | cons y l ih =>
                  intro h
                  obtain ⟨s, rfl⟩ := h y List.mem_cons_self
                  obtain ⟨bs, rfl⟩ := ih fun z hz => h z (List.mem_cons_of_mem _ hz)
                  exact ⟨s :: bs, rfl⟩
              refine this ys fun y hy => ?_
              obtain ⟨i, hi, e⟩ := List.getElem_of_mem hy
              obtain ⟨s, e2, _⟩ := hys i y (by rw [← e]; exact List.getElem?_eq_getElem hi)
              exact ⟨s, e2⟩
            obtain ⟨bs, rfl⟩ := hdec
            rw [mlr] at hyl
            refine ⟨gs ++ bs, ?_, ?_, fun i hi => ?_⟩
            · rw [upd_same, List.map_append]
            · rw [hstj, List.length_append, List.length_append, hgl, hyl, List.length_map]
            · rw [hstj, List.length_append, List.length_map] at hi
              rw [getD_app, hstj, getD_app, hgl]
              split
              · rename_i hlt
                obtain ⟨n1, n2⟩ := hgi i hlt
                refine ⟨n1, ?_⟩
                show upd H5 G _ _ = _
                rw [upd_ne n1]
                exact e5 _ _ n2
              · rename_i hge
                have hib : i - (stepA ls (found.take j) k).length < bs.length := by omega
                obtain ⟨s, e1, n1, n2, n3, n4⟩ := hys _ _ (at_ref hib)
                have e1 : bs.getD (i - (stepA ls (found.take j) k).length) 0 = s := V.ref.inj e1
                rw [e1]
                refine ⟨n3, ?_⟩
                show upd H5 G _ _ = _
                rw [upd_ne n3, List.getD_eq_getElem?_getD, List.getElem?_map]
                rw [List.getD_eq_getElem?_getD] at n4
                rw [List.getElem?_eq_getElem (by omega)] at n4 ⊢
                exact n4
      · obtain ⟨y6, y7, y8, y9, rfl, e4, hG4⟩ := p
        rw [mlr, hal, List.take_length] at hG4
        refine ⟨_, rfl, G, _, _, _, _, _, _, _, _, rfl, ext E3 e4, ?_⟩
        rw [hst]
        exact hG4
    · obtain ⟨F, y2, y3, y4, y5, y6, y7, y8, y9, rfl, e, hF⟩ := p
      rw [ml, List.take_length] at hF
      have hlen0 : (amF ls ks).length ≤ 720 := by
        unfold amF
        rw [length_amF hc hb _ _ fun k hk => hk1 k hk, hpr]
        simpa using hm
      have hmlen : ∀ m ∈ amF ls ks, m.length = ls.length := len_amF ls _ _ fun m hm => by
        rw [List.mem_singleton.mp hm, List.length_replicate]
      obtain ⟨as, hFa, hal, hai⟩ := hF
      refine ⟨_, rfl, F, rfl, ⟨_, sq_l hFa⟩, fun D hD => ?_⟩
      refine lc_all walk_list (by rw [mlr]; omega) (fun i y H' => ∃ t, y = .ref t ∧ t ≠ D ∧ IT H' t (iN ((amF ls ks).getD i []))) hD (fun H' e' => sq_l (e' _ _ hFa)) (fun i y H1 H2 kp h => ?_) (fun i x Hc H2 hi e' hz hy => ?_) gmN (fun ys H2 e2 h2 hyl hys => ?_)
      · obtain ⟨t, rfl, h1, h2⟩ := h
        exact ⟨t, rfl, h1, kp.2 _ _ h1 h2⟩
      · obtain ⟨rfl, hx⟩ := hy
        obtain ⟨hi', rfl⟩ := ref_at hx
        obtain ⟨zs, hz⟩ := hz
        refine ⟨rfl, fun Q q => ⟨_, rfl, as.getD i 0, _, rfl, .inl (e' _ _ (hai i (by omega)).2), fun t H3 e3 h3 => q _ _ e3 ⟨t, rfl, fun z => ?_, h3⟩⟩⟩
        rw [z, e3 _ _ hz] at h3
        cases h3
      · have hys2 : ∀ i, i < (amF ls ks).length → ∃ t, ys[i]? = some (.ref t) ∧ IT H2 t (iN ((amF ls ks).getD i [])) := fun i hi => by
          have hi2 : i < ys.length := by
            rw [hyl, mlr, hal]
            exact hi
          obtain ⟨t, e1, _, e2⟩ := hys i _ (List.getElem?_eq_getElem hi2)
          exact ⟨t, by rw [List.getElem?_eq_getElem hi2, e1], e2⟩
        rw [mlr, hal] at hyl
        obtain ⟨found, hfd⟩ : ∃ found, found = amF ls ks := ⟨_, rfl⟩
        rw [← hfd] at hyl hys hys2 hai hal hlen0 hmlen
        let f : Nat → Addr := fun i => match ys[i]? with | some (.ref t) => t | _ => 0
        let ps : List (Addr × List Int) := (List.range found.length).map fun i => (f i, iN (found.getD i []))
        have hps : ps.map (fun p => V.ref p.1) = ys := by
          refine List.ext_getElem? fun i => ?_
          by_cases hi : i < found.length
          · obtain ⟨t, e1, _⟩ := hys2 i hi
            rw [List.getElem?_map, List.getElem?_map, List.getElem?_range hi, e1]
            show some (V.ref (f i)) = _
            show some (V.ref (match ys[i]? with | some (.ref t) => t | _ => 0)) = _
            rw [e1]
          · rw [List.getElem?_eq_none (by simp [ps]; omega), List.getElem?_eq_none (by omega)]
        refine ⟨D, ps, rfl, by rw [hps]; exact sq_l h2, fun p hp => ?_, fun js p hj hp => ?_⟩
        · obtain ⟨i, hi, rfl⟩ := List.mem_map.mp hp
          have hi := List.mem_range.mp hi
          obtain ⟨t, e1, e2⟩ := hys2 i hi
          refine ⟨sq_t (?_ : IT H2 (f i) _), fun z => hne ?_⟩
          · show IT H2 (match ys[i]? with | some (.ref t) => t | _ => 0) _
            rw [e1]
            exact e2
          · have := hmlen _ (mem_getDD (d := []) hi)
            have z : iN (found.getD i []) = [] := z
            rw [← length_iN, z] at this
            exact List.eq_nil_of_length_eq_zero this.symm
        · have hjm : ∀ x ∈ js, ∃ i, i < found.length ∧ x.2 = iN (found.getD i []) ∧ IT H2 x.1 x.2 := fun x hx => by
            obtain ⟨i, hi, rfl⟩ := List.mem_map.mp (hj.mem_iff.mp hx)
            have hi := List.mem_range.mp hi
            obtain ⟨t, e1, e2⟩ := hys2 i hi
            refine ⟨i, hi, rfl, ?_⟩
            show IT H2 (match ys[i]? with | some (.ref t) => t | _ => 0) _
            rw [e1]
            exact e2
          have hin : ∀ m : List Nat, (iN m).map Int.toNat = m := fun m => by
            unfold iN
            rw [List.map_map]
            conv => rhs; rw [← List.map_id m]
            exact List.map_congr_left fun _ _ => rfl
          refine q p (js.map fun x => x.1) (js.map fun x => x.2.map Int.toNat) ks _ (ext e0 (ext (exn hF0) (ext e1 (ext e (ext e2 (exn hp)))))) hks hmem ?_ (by rw [List.length_map, List.length_map]) (fun i hi => ?_) ?_
          · rw [upd_same, List.map_map]
            rfl
          · rw [List.length_map] at hi
            obtain ⟨i0, hi0, e3, h3⟩ := hjm _ (List.getElem_mem hi)
            rw [List.getD_eq_getElem?_getD, List.getD_eq_getElem?_getD, List.getElem?_map, List.getElem?_map, List.getElem?_eq_getElem hi]
            show IT _ (js[i]).1 (iN ((js[i]).2.map Int.toNat))
            rw [e3] at h3
            rw [e3, hin]
            exact h3.mono (exn hp)
          · refine (hj.map _).trans ?_
            have : ps.map (fun x => x.2.map Int.toNat) = found := by
              refine List.ext_getElem? fun i => ?_
              by_cases hi : i < found.length
              · rw [List.getElem?_map, List.getElem?_map, List.getElem?_range hi]
                show some ((iN (found.getD i [])).map Int.toNat) = _
                rw [hin, List.getD_eq_getElem?_getD, List.getElem?_eq_getElem hi]
                rfl
              · rw [List.getElem?_eq_none (by simp [ps]; omega), List.getElem?_eq_none (by omega)]
            rw [this, hfd]
end
end Hw
/-! W11 -/
/-! W11: corners. -/
namespace Hw
open PySem PySem.Spec PyProof.Rows L2 HR RZ
/-- a list or a tuple of places -/
def LT (H : Hp) (a : Addr) (m : List Nat) : Prop := IL H a (iN m) ∨ IT H a (iN m)
theorem LT.mono {H H' : Hp} {a : Addr} {m : List Nat} (e : Ex H H') (h : LT H a m) : LT H' a m := h.imp (fun h => h.mono e) fun h => h.mono e
theorem ati_iN {l : List Nat} {k : Nat} (h : k < l.length) : atI ((iN l).map V.int) (k : Int) = some (.int ((l.getD k 0 : Nat) : Int)) := by
  rw [ati_int (by rw [length_iN]; exact h), iN_getD h]
def kvT (ks : List Nat) : List (Key × V) := ks.map fun (k : Nat) => ((Sum.inl (k : Int) : Key), V.bl true)
theorem valV_kvT (k : Nat) : ∀ ks : List Nat, (valV (kvT ks) (Sum.inl (k : Int) : Key)).isSome = decide (k ∈ ks)
  | [] => by simp [kvT, valV_nil]
  | x :: ks => by
    by_cases e : x = k
    · subst e
      rw [show kvT (x :: ks) = ((Sum.inl (x : Int) : Key), V.bl true) :: kvT ks from rfl, valV_pos rfl]
      simp
    · have e2 : ¬ ((Sum.inl (x : Int) : Key)) = Sum.inl (k : Int) := fun z => e (by have := Sum.inl.inj z; omega)
      rw [show kvT (x :: ks) = ((Sum.inl (x : Int) : Key), V.bl true) :: kvT ks from rfl, valV_neg e2, valV_kvT k ks]
      have : k ≠ x := fun z => e z.symm
      simp [this]
theorem putK_kvT {k : Nat} {ks : List Nat} (h : k ∉ ks) : putK (kvT ks) (Sum.inl (k : Int) : Key) (V.bl true) = kvT (ks ++ [k]) := by
  rw [putK_new]
  · unfold kvT
    rw [List.map_append]
    rfl
  · have := valV_kvT k ks
    rw [decide_eq_false h] at this
    exact Option.isNone_iff_eq_none.mp (by rw [← Option.not_isSome, this]; rfl)
section
variable {P : Program} {w : World} {K : PySem.W.Frag} {mg : Str → Option Value} {base : Heap}
def sp_corners_of : Sp := fun vs H Q _ => ∃ (a b : Addr) (nl m : List Nat), vs = [.ref a, .ref b] ∧ IT H a (iN nl) ∧ LT H b m ∧ nl.length = m.length ∧ m.length ≤ 1000 ∧ (∀ x, x < m.length → m.getD x 0 < m.length) ∧ Bij m.length (phiL nl m) ∧
  ∀ p xs H', Ex H H' → H' p = some (.tup xs) → xs.length = cyc m.length (phiL nl m) → Q (.ref p) H'
abbrev N_corners_of : List Str := ["nexts", "mates", "known", "found", "place", "corner", "at"]
theorem sc_corners_of : FnScope N_corners_of ["nexts", "mates"] (C8.fnScope s_corners_of) := C8.fnScope_by (by decide +kernel)
def muC (n : Nat) (d : Addr) (H : Hp) : Nat := match H d with | some (.dK kvs) => n + 1 - kvs.length | _ => 0
theorem k_corners_of (T : Txt K mg) : C8.Cal P w K mg base 1 "corners_of" sp_corners_of [] := by
  have nd := sc_corners_of.nd
  refine defn T.d_corners_of sc_corners_of (fun vs H Q E h => ?_) (fun _ _ _ _ _ _ us hl => match us, hl with | [_, _], _ => rfl) (fun f cdv A outer s H vs Q E hr h => ?_)
  · obtain ⟨a, b, nl, m, rfl, _⟩ := h
    rfl
  · obtain ⟨a, b, nl, m, rfl, ha, hb, hnl, hn, hm, bj, q⟩ := h
    rcases hb with hb | hb
    · refine ⟨_, (pss_cons (ps_par (i := 2) (j := 3) (by rfl) nd rfl rfl (by decide) rfl rfl (pa_cons pe_dnewK (pa_cons (pe_lst pa_nil) pa_nil)) (by rfl))
          (pss_cons (ps_for PassesOwn.never rfl (pi_range1 (by rfl) T.z_range (pa_cons (pe_callB call_len_seq (by rfl) T.z_len PySem.boot_len (pa_cons (pv 1) pa_nil)) pa_nil)) (pg_name (i := 4) nd rfl (.inl rfl))
          (pss_cons (ps_par (i := 5) (j := 6) (by rfl) nd rfl rfl (by decide) rfl rfl (pa_cons (pe_lst pa_nil) (pa_cons (pv 4) pa_nil)) (by rfl))
          (pss_cons (ps_while PassesOwn.never (pt_cmp (pc_dnotin (hu_of hr) (pv 6) (pv 2)) rfl)
          (pss_cons (ps_dput (hu_of hr) (pv 2) (pv 6) pe_bl rfl)
          (pss_cons (ps_expr (pe_bm PySem.F.plainAttrs_list PySem.F.slot_list_append PySem.F.type_list_append mt_append (pv 5) (pa_cons (pv 6) pa_nil)))
          (pss_one (ps_set (i := 6) nd rfl (.inl rfl) (pe_ix ix_tup (pv 0) (pe_ix ix_list (pv 1) (pv 6) (fun _ _ => rfl)) (fun _ _ => rfl)))))))
          (pss_one (ps_if (pt_cmpR (op_neD hr.units) (pv 5) (pe_lst pa_nil) (nomark _))
          (pss_one (ps_expr (pe_bm PySem.F.plainAttrs_list PySem.F.slot_list_append PySem.F.type_list_append mt_append (pv 3) (pa_cons (pe_callTy call_tupG (by rfl) T.z_tuple (by decide +kernel) (pa_cons (pv 5) pa_nil)) pa_nil))))
          pss_nil)))))
          (pss_one (ps_ret (pe_callTy call_tupG (by rfl) T.z_tuple (by decide +kernel) (pa_cons (pv 3) pa_nil)))))), ?_⟩
      refine fun d hd => ⟨Nat.zero_le _, fun F hF => ⟨_, _, rfl, ?_⟩⟩
      have hb0 := exn (o := .lst []) hF _ _ (exn (o := .dK []) hd _ _ hb)
      have hd0 := exn (o := .lst []) hF _ _ (upd_same (H := H) (a := d) (o := .dK []))
      have hFd : F ≠ d := fun z => by rw [z, upd_same] at hF; cases hF
      have hF0 : H F = none := by rw [← hF, upd_ne hFd]
      refine ⟨_, rfl, b, _, rfl, .inl (sq_l hb0), _, rfl, by omega, by rw [ml, length_iN]; omega, ?_⟩
      rw [Int.toNat_natCast, ml, length_iN]
      refine for_it walk_range (fun i σ H' => ∃ y4 y5 y6, σ = [some (.ref a), some (.ref b), some (.ref d), some (.ref F), y4, y5, y6] ∧ Ex H H' ∧ ∃ (R ks : List Nat) (fs : List V), Cor m.length (phiL nl m) i R ks ∧ H' d = some (.dK (kvT ks)) ∧ H' F = some (.lst fs) ∧ fs.length = R.length) ⟨none, none, none, rfl, ext (exn hd) (exn hF), [], [], [], Cor.zero _ _, hd0, upd_same, rfl⟩ (fun _ _ _ _ _ => trivial) (fun i x σ H1 H' hi p hy => ?_) (fun σ H' p => ?_)
      · obtain ⟨y4, y5, y6, rfl, e, R, ks, fs, hc, h1, h2, h3⟩ := p
        obtain ⟨rfl, rfl⟩ := hy
        show gName 4 (.int (0 + (i : Int))) _ H' _
        rw [Int.zero_add]
        have hRn : R.length ≤ m.length := nodup_len hc.nd hc.lt
        refine ⟨Nat.zero_le _, fun C hC => ⟨_, rfl, _, _, rfl, ?_⟩⟩
        have hCd : C ≠ d := fun z => by rw [z, h1] at hC; cases hC
        have hCF : C ≠ F := fun z => by rw [z, h2] at hC; cases hC
        have hC0 : H C = none := Classical.byContradiction fun z => by
          obtain ⟨o, ho⟩ := Option.ne_none_iff_exists'.mp z
          rw [e _ _ ho] at hC
          cases hC
        have eC : Ex H (upd H' C (.lst [])) := exm e hC0
        have hb1 : H b ≠ none := fun z => by
          have hb := hb
          have hb2 : H b = _ := hb
          rw [z] at hb2
          cases hb2
        refine while_by (fun σ H2 => ∃ k : Nat, σ = [some (.ref a), some (.ref b), some (.ref d), some (.ref F), some (.int (i : Int)), some (.ref C), some (.int ((it (phiL nl m) k i : Nat) : Int))] ∧ Ex H H2 ∧ H2 F = some (.lst fs) ∧ H2 d = some (.dK (kvT (ks ++ pathF (phiL nl m) i k))) ∧ (ks ++ pathF (phiL nl m) i k).Nodup ∧ IL H2 C (iN (pathF (phiL nl m) i k))) (fun _ H2 => muC m.length d H2) ⟨0, rfl, eC, (upd_ne (Ne.symm hCF)).trans h2, ?_, ?_, ?_⟩ (fun σ H2 p => ?_) (fun σ H Q Q' h q => ?_)
        · show upd H' C _ d = _
          rw [upd_ne (Ne.symm hCd)]
          simp [pathF, h1]
        · simpa [pathF] using hc.kn
        · exact upd_same
        · obtain ⟨k, rfl, e2, p1, p2, p3, p4⟩ := p
          have hat : it (phiL nl m) k i < m.length := bj.it_lt hi k
          have hall : ∀ x ∈ ks ++ pathF (phiL nl m) i k, x < m.length := fun x hx => by
            rcases List.mem_append.mp hx with hx | hx
            · exact hc.ltk bj x hx
            · obtain ⟨j, _, rfl⟩ := mem_pathF.mp hx
              exact bj.it_lt hi j
          refine ⟨_, rfl, _, rfl, d, _, rfl, DGet.k (k := Sum.inl ((it (phiL nl m) k i : Nat) : Int)) p2, ?_⟩
          rw [valV_kvT]
          by_cases hin : it (phiL nl m) k i ∈ ks ++ pathF (phiL nl m) i k
          · rw [decide_eq_true hin]
            refine ⟨_, rfl, iteF ?_⟩
            refine ⟨_, rfl, Nat.zero_le _, fun N hN => ?_⟩
            have p4' : IL (upd H2 N (.lst [])) C (iN (pathF (phiL nl m) i k)) := exn hN _ _ p4
            refine ⟨_, _, dp_l p4', dp_nil upd_same, sh_l _, sh_l _, _, rfl, ?_⟩
            rw [eq_l]
            have e3 := ext e2 (exn (o := .lst []) hN)
            refine ite2 (fun ne => ?_) (fun ne => ?_)
            · have hk : 0 < k := by
                rcases Nat.eq_zero_or_pos k with z | z
                · subst z
                  simp [pathF, iN] at ne
                · exact z
              refine ⟨_, rfl, .inl ⟨rfl, _, sq_l (exn hN _ _ p1)⟩, _, rfl, C, _, rfl, .inl p4', fun l H4 e4 h4 => ?_⟩
              have h5 : H4 F = some (.lst fs) := e4 _ _ (exn hN _ _ p1)
              have h6 := e4 _ _ (exn (o := .lst []) hN _ _ p2)
              refine ⟨F, _, _, rfl, rfl, h5, Evl.sz_lt (by omega), ?_⟩
              refine ⟨_, _, _, rfl, exm (ext e3 e4) hF0, _, _, _, hc.next bj hi hk p3 hin, (upd_ne (Ne.symm hFd)).trans h6, upd_same, ?_⟩
              rw [List.length_append, List.length_append, h3]
              rfl
            · have hk : k = 0 := by
                rcases Nat.eq_zero_or_pos k with z | z
                · exact z
                · exfalso
                  refine ne ?_
                  obtain ⟨j, rfl⟩ := Nat.exists_eq_succ_of_ne_zero (by omega : k ≠ 0)
                  rw [pathF_succ]
                  simp [iN]
              subst hk
              have hin : i ∈ ks := by simpa [pathF, it] using hin
              refine ⟨_, _, _, rfl, e3, _, _, _, hc.skip hin, (exn hN _ _ p2).trans ?_, exn hN _ _ p1, h3⟩
              simp [pathF]
          · rw [decide_eq_false hin]
            refine ⟨_, rfl, iteT ?_⟩
            have hlen : (ks ++ pathF (phiL nl m) i k).length ≤ m.length := nodup_len p3 hall
            have hnd : ((ks ++ pathF (phiL nl m) i k) ++ [it (phiL nl m) k i]).Nodup := by
              rw [List.nodup_append]
              exact ⟨p3, by simp, fun x hx y hy z => hin (by rw [List.mem_singleton.mp hy] at z; exact z ▸ hx)⟩
            have hlen2 := nodup_len hnd fun x hx => by
              rcases List.mem_append.mp hx with hx | hx
              · exact hall x hx
              · rw [List.mem_singleton.mp hx]
                exact hat
            rw [List.length_append, List.length_singleton] at hlen2
            have hpl : (pathF (phiL nl m) i k).length ≤ m.length := by
              rw [List.length_append] at hlen
              omega
            have hkv : (kvT (ks ++ pathF (phiL nl m) i k)).length = (ks ++ pathF (phiL nl m) i k).length := List.length_map _
            have hput := putK_kvT hin
            rw [List.append_assoc, ← pathF_succ] at hput
            refine ⟨_, rfl, _, rfl, d, _, rfl, DPut.k (k := Sum.inl ((it (phiL nl m) k i : Nat) : Int)) p2 (Evl.sz_lt (by omega)), ?_⟩
            rw [hput]
            refine ⟨_, rfl, .inl ⟨rfl, _, sq_l ((upd_ne hCd).trans p4)⟩, _, rfl, C, _, _, rfl, rfl, (upd_ne hCd).trans p4, ?_, ?_⟩
            · rw [ml, length_iN]
              exact Evl.sz_lt (by omega)
            · have e3 : Ex H (upd H2 d (.dK (kvT (ks ++ pathF (phiL nl m) i (k + 1))))) := exm e2 hd
              have e4 := exm (o := .lst ((iN (pathF (phiL nl m) i k)).map V.int ++ [.int ((it (phiL nl m) k i : Nat) : Int)])) e3 hC0
              have hmx := hm _ hat
              refine ⟨_, rfl, _, rfl, _, rfl, b, _, _, _, rfl, rfl, sq_l (e4 _ _ hb), ati_iN hat, a, _, _, _, rfl, rfl, sq_t (e4 _ _ ha), ati_iN (by omega), ?_⟩
              have hfin : (kvT (ks ++ pathF (phiL nl m) i (k + 1))).length = (kvT (ks ++ pathF (phiL nl m) i k)).length + 1 := by
                unfold kvT
                rw [pathF_succ, List.length_map, List.length_map, List.length_append, List.length_append, List.length_append]
                simp
                omega
              refine ⟨⟨k + 1, rfl, e4, (upd_ne (Ne.symm hCF)).trans ((upd_ne hFd).trans p1), (upd_ne (Ne.symm hCd)).trans upd_same, ?_, ?_⟩, ?_⟩
              · rw [pathF_succ, ← List.append_assoc]
                exact hnd
              · show upd _ C _ C = _
                rw [upd_same, pathF_succ, iN_append, List.map_append]
                rfl
              · unfold muC
                rw [p2, (upd_ne (Ne.symm hCd)).trans upd_same]
                show m.length + 1 - _ < m.length + 1 - _
                rw [hfin]
                omega
        · obtain ⟨v1, hv1, v2, hv2, a2, o2, e1, e2, b2, e3, q2⟩ := q
          exact ⟨v1, hv1, v2, hv2, a2, o2, e1, e2, b2, e3, h _ _ q2⟩
      · obtain ⟨y4, y5, y6, rfl, e, R, ks, fs, hc, h1, h2, h3⟩ := p
        exact ⟨_, rfl, F, _, rfl, .inl h2, fun l H2 e2 h4 => q l _ _ (ext e e2) h4 (h3.trans (hc.done bj))⟩
    · refine ⟨_, (pss_cons (ps_par (i := 2) (j := 3) (by rfl) nd rfl rfl (by decide) rfl rfl (pa_cons pe_dnewK (pa_cons (pe_lst pa_nil) pa_nil)) (by rfl))
          (pss_cons (ps_for PassesOwn.never rfl (pi_range1 (by rfl) T.z_range (pa_cons (pe_callB call_len_seq (by rfl) T.z_len PySem.boot_len (pa_cons (pv 1) pa_nil)) pa_nil)) (pg_name (i := 4) nd rfl (.inl rfl))
          (pss_cons (ps_par (i := 5) (j := 6) (by rfl) nd rfl rfl (by decide) rfl rfl (pa_cons (pe_lst pa_nil) (pa_cons (pv 4) pa_nil)) (by rfl))
          (pss_cons (ps_while PassesOwn.never (pt_cmp (pc_dnotin (hu_of hr) (pv 6) (pv 2)) rfl)
          (pss_cons (ps_dput (hu_of hr) (pv 2) (pv 6) pe_bl rfl)
          (pss_cons (ps_expr (pe_bm PySem.F.plainAttrs_list PySem.F.slot_list_append PySem.F.type_list_append mt_append (pv 5) (pa_cons (pv 6) pa_nil)))
          (pss_one (ps_set (i := 6) nd rfl (.inl rfl) (pe_ix ix_tup (pv 0) (pe_ix ix_tup (pv 1) (pv 6) (fun _ _ => rfl)) (fun _ _ => rfl)))))))
          (pss_one (ps_if (pt_cmpR (op_neD hr.units) (pv 5) (pe_lst pa_nil) (nomark _))
          (pss_one (ps_expr (pe_bm PySem.F.plainAttrs_list PySem.F.slot_list_append PySem.F.type_list_append mt_append (pv 3) (pa_cons (pe_callTy call_tupG (by rfl) T.z_tuple (by decide +kernel) (pa_cons (pv 5) pa_nil)) pa_nil))))
          pss_nil)))))
          (pss_one (ps_ret (pe_callTy call_tupG (by rfl) T.z_tuple (by decide +kernel) (pa_cons (pv 3) pa_nil)))))), ?_⟩
      refine fun d hd => ⟨Nat.zero_le _, fun F hF => ⟨_, _, rfl, ?_⟩⟩
      have hb0 := exn (o := .lst []) hF _ _ (exn (o := .dK []) hd _ _ hb)
      have hd0 := exn (o := .lst []) hF _ _ (upd_same (H := H) (a := d) (o := .dK []))
      have hFd : F ≠ d := fun z => by rw [z, upd_same] at hF; cases hF
      have hF0 : H F = none := by rw [← hF, upd_ne hFd]
      refine ⟨_, rfl, b, _, rfl, .inr (sq_t hb0), _, rfl, by omega, by rw [ml, length_iN]; omega, ?_⟩
      rw [Int.toNat_natCast, ml, length_iN]
      refine for_it walk_range (fun i σ H' => ∃ y4 y5 y6, σ = [some (.ref a), some (.ref b), some (.ref d), some (.ref F), y4, y5, y6] ∧ Ex H H' ∧ ∃ (R ks : List Nat) (fs : List V), Cor m.length (phiL nl m) i R ks ∧ H' d = some (.dK (kvT ks)) ∧ H' F = some (.lst fs) ∧ fs.length = R.length) ⟨none, none, none, rfl, ext (exn hd) (exn hF), [], [], [], Cor.zero _ _, hd0, upd_same, rfl⟩ (fun _ _ _ _ _ => trivial) (fun i x σ H1 H' hi p hy => ?_) (fun σ H' p => ?_)
      · obtain ⟨y4, y5, y6, rfl, e, R, ks, fs, hc, h1, h2, h3⟩ := p
        obtain ⟨rfl, rfl⟩ := hy
        show gName 4 (.int (0 + (i : Int))) _ H' _
        rw [Int.zero_add]
        have hRn : R.length ≤ m.length := nodup_len hc.nd hc.lt
        refine ⟨Nat.zero_le _, fun C hC => ⟨_, rfl, _, _, rfl, ?_⟩⟩
        have hCd : C ≠ d := fun z => by rw [z, h1] at hC; cases hC
        have hCF : C ≠ F := fun z => by rw [z, h2] at hC; cases hC
        have hC0 : H C = none := Classical.byContradiction fun z => by
          obtain ⟨o, ho⟩ := Option.ne_none_iff_exists'.mp z
          rw [e _ _ ho] at hC
          cases hC
        have eC : Ex H (upd H' C (.lst [])) := exm e hC0
        have hb1 : H b ≠ none := fun z => by
          have hb := hb
          have hb2 : H b = _ := hb
          rw [z] at hb2
          cases hb2
        refine while_by (fun σ H2 => ∃ k : Nat, σ = [some (.ref a), some (.ref b), some (.ref d), some (.ref F), some (.int (i : Int)), some (.ref C), some (.int ((it (phiL nl m) k i : Nat) : Int))] ∧ Ex H H2 ∧ H2 F = some (.lst fs) ∧ H2 d = some (.dK (kvT (ks ++ pathF (phiL nl m) i k))) ∧ (ks ++ pathF (phiL nl m) i k).Nodup ∧ IL H2 C (iN (pathF (phiL nl m) i k))) (fun _ H2 => muC m.length d H2) ⟨0, rfl, eC, (upd_ne (Ne.symm hCF)).trans h2, ?_, ?_, ?_⟩ (fun σ H2 p => ?_) (fun σ H Q Q' h q => ?_)
        · show upd H' C _ d = _
          rw [upd_ne (Ne.symm hCd)]
          simp [pathF, h1]
        · simpa [pathF] using hc.kn
        · exact upd_same
        · obtain ⟨k, rfl, e2, p1, p2, p3, p4⟩ := p
          have hat : it (phiL nl m) k i < m.length := bj.it_lt hi k
          have hall : ∀ x ∈ ks ++ pathF (phiL nl m) i k, x < m.length := fun x hx => by
            rcases List.mem_append.mp hx with hx | hx
            · exact hc.ltk bj x hx
            · obtain ⟨j, _, rfl⟩ := mem_pathF.mp hx
              exact bj.it_lt hi j
          refine ⟨_, rfl, _, rfl, d, _, rfl, DGet.k (k := Sum.inl ((it (phiL nl m) k i : Nat) : Int)) p2, ?_⟩
          rw [valV_kvT]
          by_cases hin : it (phiL nl m) k i ∈ ks ++ pathF (phiL nl m) i k
          · rw [decide_eq_true hin]
            refine ⟨_, rfl, iteF ?_⟩
            refine ⟨_, rfl, Nat.zero_le _, fun N hN => ?_⟩
            have p4' : IL (upd H2 N (.lst [])) C (iN (pathF (phiL nl m) i k)) := exn hN _ _ p4
            refine ⟨_, _, dp_l p4', dp_nil upd_same, sh_l _, sh_l _, _, rfl, ?_⟩
            rw [eq_l]
            have e3 := ext e2 (exn (o := .lst []) hN)
            refine ite2 (fun ne => ?_) (fun ne => ?_)
            · have hk : 0 < k := by
                rcases Nat.eq_zero_or_pos k with z | z
                · subst z
                  simp [pathF, iN] at ne
                · exact z
              refine ⟨_, rfl, .inl ⟨rfl, _, sq_l (exn hN _ _ p1)⟩, _, rfl, C, _, rfl, .inl p4', fun l H4 e4 h4 => ?_⟩
              have h5 : H4 F = some (.lst fs) := e4 _ _ (exn hN _ _ p1)
              have h6 := e4 _ _ (exn (o := .lst []) hN _ _ p2)
              refine ⟨F, _, _, rfl, rfl, h5, Evl.sz_lt (by omega), ?_⟩
              refine ⟨_, _, _, rfl, exm (ext e3 e4) hF0, _, _, _, hc.next bj hi hk p3 hin, (upd_ne (Ne.symm hFd)).trans h6, upd_same, ?_⟩
              rw [List.length_append, List.length_append, h3]
              rfl
            · have hk : k = 0 := by
                rcases Nat.eq_zero_or_pos k with z | z
                · exact z
                · exfalso
                  refine ne ?_
                  obtain ⟨j, rfl⟩ := Nat.exists_eq_succ_of_ne_zero (by omega : k ≠ 0)
                  rw [pathF_succ]
                  simp [iN]
              subst hk
              have hin : i ∈ ks := by simpa [pathF, it] using hin
              refine ⟨_, _, _, rfl, e3, _, _, _, hc.skip hin, (exn hN _ _ p2).trans ?_, exn hN _ _ p1, h3⟩
              simp [pathF]
          · rw [decide_eq_false hin]
            refine ⟨_, rfl, iteT ?_⟩
            have hlen : (ks ++ pathF (phiL nl m) i k).length ≤ m.length := nodup_len p3 hall
            have hnd : ((ks ++ pathF (phiL nl m) i k) ++ [it (phiL nl m) k i]).Nodup := by
              rw [List.nodup_append]
              exact ⟨p3, by simp, fun x hx y hy z => hin (by rw [List.mem_singleton.mp hy] at z; exact z ▸ hx)⟩
            have hlen2 := nodup_len hnd fun x hx => by
              rcases List.mem_append.mp hx with hx | hx
              · exact hall x hx
              · rw [List.mem_singleton.mp hx]
                exact hat
            rw [List.length_append, List.length_singleton] at hlen2
            have hpl : (pathF (phiL nl m) i k).length ≤ m.length := by
              rw [List.length_append] at hlen
              omega
            have hkv : (kvT (ks ++ pathF (phiL nl m) i k)).length = (ks ++ pathF (phiL nl m) i k).length := List.length_map _
            have hput := putK_kvT hin
            rw [List.append_assoc, ← pathF_succ] at hput
            refine ⟨_, rfl, _, rfl, d, _, rfl, DPut.k (k := Sum.inl ((it (phiL nl m) k i : Nat) : Int)) p2 (Evl.sz_lt (by omega)), ?_⟩
            rw [hput]
            refine ⟨_, rfl, .inl ⟨rfl, _, sq_l ((upd_ne hCd).trans p4)⟩, _, rfl, C, _, _, rfl, rfl, (upd_ne hCd).trans p4, ?_, ?_⟩
            · rw [ml, length_iN]
              exact Evl.sz_lt (by omega)
            · have e3 : Ex H (upd H2 d (.dK (kvT (ks ++ pathF (phiL nl m) i (k + 1))))) := exm e2 hd
              have e4 := exm (o := .lst ((iN (pathF (phiL nl m) i k)).map V.int ++ [.int ((it (phiL nl m) k i : Nat) : Int)])) e3 hC0
              have hmx := hm _ hat
              refine ⟨_, rfl, _, rfl, _, rfl, b, _, _, _, rfl, rfl, sq_t (e4 _ _ hb), ati_iN hat, a, _, _, _, rfl, rfl, sq_t (e4 _ _ ha), ati_iN (by omega), ?_⟩
              have hfin : (kvT (ks ++ pathF (phiL nl m) i (k + 1))).length = (kvT (ks ++ pathF (phiL nl m) i k)).length + 1 := by
                unfold kvT
                rw [pathF_succ, List.length_map, List.length_map, List.length_append, List.length_append, List.length_append]
                simp
                omega
              refine ⟨⟨k + 1, rfl, e4, (upd_ne (Ne.symm hCF)).trans ((upd_ne hFd).trans p1), (upd_ne (Ne.symm hCd)).trans upd_same, ?_, ?_⟩, ?_⟩
              · rw [pathF_succ, ← List.append_assoc]
                exact hnd
              · show upd _ C _ C = _
                rw [upd_same, pathF_succ, iN_append, List.map_append]
                rfl
              · unfold muC
                rw [p2, (upd_ne (Ne.symm hCd)).trans upd_same]
                show m.length + 1 - _ < m.length + 1 - _
                rw [hfin]
                omega
        · obtain ⟨v1, hv1, v2, hv2, a2, o2, e1, e2, b2, e3, q2⟩ := q
          exact ⟨v1, hv1, v2, hv2, a2, o2, e1, e2, b2, e3, h _ _ q2⟩
      · obtain ⟨y4, y5, y6, rfl, e, R, ks, fs, hc, h1, h2, h3⟩ := p
        exact ⟨_, rfl, F, _, rfl, .inl h2, fun l H2 e2 h4 => q l _ _ (ext e e2) h4 (h3.trans (hc.done bj))⟩
end
end Hw
/-! W12 -/
/-! W12: pieces. -/
namespace Hw
open PySem PySem.Spec PyProof.Rows L2 HR RZ
theorem ati_m1 {l : List Nat} (h : 0 < l.length) : atI ((iN l).map V.int) (-1) = some (.int ((l.getD (l.length - 1) 0 : Nat) : Int)) := by
  have e : l = l.dropLast ++ [l.getD (l.length - 1) 0] := by
    have := List.dropLast_concat_getLast (List.ne_nil_of_length_pos h)
    rw [List.getD_eq_getElem?_getD, List.getElem?_eq_getElem (by omega), Option.getD_some, ← List.getLast_eq_getElem (List.ne_nil_of_length_pos h)]
    exact this.symm
  generalize l.getD (l.length - 1) 0 = x at e ⊢
  rw [e, iN_append, List.map_append]
  exact atI_last _ _
theorem one_lt {ks : List Int} (h : ks.Pairwise (· < ·)) {z : Int} (hm : ∀ k, k ∈ ks ↔ k = z) : ks.length = 1 := by
  match ks, h, hm with
  | [], _, hm => exact absurd ((hm z).mpr rfl) (by simp)
  | [x], _, _ => rfl
  | x :: y :: r, h, hm =>
    have h1 := (hm x).mp (by simp)
    have h2 := (hm y).mp (by simp)
    have := (List.pairwise_cons.mp h).1 y (by simp)
    omega
theorem inV_pair {x a b : Nat} : inV (V.int (x : Int)) [V.int (a : Int), V.int (b : Int)] = decide (x = a ∨ x = b) := by
  rw [Bool.eq_iff_iff]
  simp [inV, eqV]
  omega
theorem min_nat {a b : Nat} : (if (b : Int) < (a : Int) then (b : Int) else (a : Int)) = ((if b < a then b else a : Nat) : Int) := by
  by_cases h : b < a
  · rw [if_pos h, if_pos (by omega)]
  · rw [if_neg h, if_neg (by omega)]
section
variable {P : Program} {w : World} {K : PySem.W.Frag} {mg : Str → Option Value} {base : Heap}
def sp_pieces_of : Sp := fun vs H Q _ => ∃ (a b : Addr) (nu m : List Nat) (c : Nat), vs = [.ref a, .ref b] ∧ IT H a (iN nu) ∧ LT H b m ∧ nu.length = m.length ∧ 0 < m.length ∧ m.length ≤ 1000 ∧ (∀ x, x < m.length → m.getD x 0 < m.length) ∧ (∀ x, x < nu.length → nu.getD x 0 < c) ∧ nu.getD (m.length - 1) 0 + 1 = c ∧ c ≤ 60 ∧
  ∀ p xs H', Ex H H' → H' p = some (.tup xs) → xs.length ≤ 60 → (c = 1 → xs.length = 1) → Q (.ref p) H'
abbrev N_pieces_of : List Str := ["numbers", "mates", "heads", "place", "mate", "one", "other", "lots", "least", "head", "number", "lot"]
theorem sc_pieces_of : FnScope N_pieces_of ["numbers", "mates"] (C8.fnScope s_pieces_of) := C8.fnScope_by (by decide +kernel)
theorem k_pieces_of (T : Txt K mg) : C8.Cal P w K mg base 1 "pieces_of" sp_pieces_of [] := by
  have nd := sc_pieces_of.nd
  refine defn T.d_pieces_of sc_pieces_of (fun vs H Q E h => ?_) (fun _ _ _ _ _ _ us hl => match us, hl with | [_, _], _ => rfl) (fun f cdv A outer s H vs Q E hr h => ?_)
  · obtain ⟨a, b, nl, m, c, rfl, _⟩ := h
    rfl
  · obtain ⟨a, b, nu, m, c, rfl, ha, hb, hnu, hm0, hn, hm, hnc, hlast, hc, q⟩ := h
    rcases hb with hb | hb
    · refine ⟨_, (pss_cons (ps_set (i := 2) nd rfl (.inr rfl) (pe_listRg rfl (by rfl) T.z_list (prg_1 (by rfl) T.z_range (pe_op op_add (pe_ix ix_tup (pv 0) (pe_un un_neg pe_int) (fun _ _ => rfl)) pe_int))))
          (pss_cons (ps_for PassesOwn.never rfl (pi_enum (by rfl) T.z_enumerate (pa_cons (pv 1) pa_nil)) (pg_tup rfl (pgs_cons (pg_name (i := 3) nd rfl (.inl rfl)) (pgs_cons (pg_name (i := 4) nd rfl (.inl rfl)) pgs_nil)))
          (pss_cons (ps_asg (pe_tup (pa_cons (pe_ix ix_list (pv 2) (pe_ix ix_tup (pv 0) (pv 3) (fun _ _ => rfl)) (fun _ _ => rfl)) (pa_cons (pe_ix ix_list (pv 2) (pe_ix ix_tup (pv 0) (pv 4) (fun _ _ => rfl)) (fun _ _ => rfl)) pa_nil))) (pg_tup rfl (pgs_cons (pg_name (i := 5) nd rfl (.inr rfl)) (pgs_cons (pg_name (i := 6) nd rfl (.inr rfl)) pgs_nil))))
          (pss_one (ps_set (i := 2) nd rfl (.inr rfl) (pe_lc (own := [("head", 9)]) (by rfl) nd (pi_list (pv 2)) (blkOk_by (own := [("head", 9)]) (N := N_pieces_of) (sc := C8.fnScope s_pieces_of) (by decide +kernel)) (fun _ _ _ _ _ => (pg_name (i := 9) nd rfl (.inl rfl))) (fun _ _ _ _ _ => pts_nil) (fun _ _ _ _ _ => (pe_ifExp (pt_cmpR (op_in_seqK (K := K)) (pv 9) (pe_tup (pa_cons (pv 5) (pa_cons (pv 6) pa_nil))) (by rfl)) (pe_callB (call_min2 rfl) (by rfl) T.z_min (by decide +kernel) (pa_cons (pv 5) (pa_cons (pv 6) pa_nil))) (pv 9))))))))
          (pss_cons (ps_setLc (i := 7) (own := [("least", 8)]) (by rfl) nd rfl rfl (sw_true rfl rfl rfl (by decide +kernel)) (pi_list (pe_callB (cr_sortedSet rfl) (by rfl) T.z_sorted (by decide +kernel) (pa_cons (pe_callTy (cr_setI rfl) (by rfl) T.z_set (by decide +kernel) (pa_cons (pv 2) pa_nil)) pa_nil))) (blkOk_by (own := [("least", 8)]) (N := N_pieces_of) (sc := C8.fnScope s_pieces_of) (by decide +kernel)) (fun _ _ _ _ _ => (pg_name (i := 8) nd rfl (.inr rfl))) (fun _ _ _ _ _ => pts_nil) (fun _ _ _ _ _ => (pe_lc (g := gTup K 2 (gCons (gName 10) (gCons (gName 9) gNil))) (own := [("number", 10), ("head", 9)]) (by rfl) nd (pi_enumK (K := K) (by rfl) T.z_enumerate (pa_cons (pv 2) pa_nil)) (blkOk_by (by rfl)) (fun _ _ _ _ _ => (pg_tup rfl (pgs_cons (pg_name (i := 10) nd rfl (.inl rfl)) (pgs_cons (pg_name (i := 9) nd rfl (.inl rfl)) pgs_nil)))) (fun _ _ _ _ _ => (pts_one (pt_cmpR op_eq (pv 9) (pv 8) (nomark _)))) (fun _ _ _ _ _ => (pv 10)))))
          (pss_one (ps_ret (pe_callTy call_tupG (by rfl) T.z_tuple (by decide +kernel) (pa_cons (pe_lc (own := [("lot", 11)]) (by rfl) nd (pi_list (pv 7)) (blkOk_by (own := [("lot", 11)]) (N := N_pieces_of) (sc := C8.fnScope s_pieces_of) (by decide +kernel)) (fun _ _ _ _ _ => (pg_name (i := 11) nd rfl (.inl rfl))) (fun _ _ _ _ _ => pts_nil) (fun _ _ _ _ _ => (pe_callTy call_tupG (by rfl) T.z_tuple (by decide +kernel) (pa_cons (pv 11) pa_nil)))) pa_nil))))))), ?_⟩
      have hlv : nu.length - 1 = m.length - 1 := by omega
      refine ⟨_, rfl, _, rfl, _, _, _, _, rfl, rfl, sq_t ha, ati_m1 (by omega), _, _, rfl, rfl, _, rfl, ?_⟩
      rw [hlv]
      have hb1 : ((nu.getD (m.length - 1) 0 : Nat) : Int) + 1 = (c : Int) := by omega
      rw [hb1]
      refine ⟨RgOk.of_le (by omega) (by omega) (by omega) (by omega), fun F0 hF0 => ?_⟩
      have hrg : rgV 0 (c : Int) = (iN (List.range c)).map V.int := by
        unfold rgV iN
        rw [show ((c : Int) - 0).toNat = c by omega, List.map_map]
        refine List.map_congr_left fun i _ => ?_
        show V.int (0 + (i : Int)) = V.int (i : Int)
        rw [Int.zero_add]
      rw [hrg]
      refine ⟨_, rfl, b, _, rfl, sq_l (exn hF0 _ _ hb), ?_⟩
      refine for_it (walk_enum (xs := (iN m).map V.int)) (fun i σ H' => ∃ F y3 y4 y5 y6 y7 y8 y9 y10 y11, σ = [some (.ref a), some (.ref b), some (.ref F), y3, y4, y5, y6, y7, y8, y9, y10, y11] ∧ Ex H H' ∧ ∃ hs : List Nat, hs.length = c ∧ (∀ x ∈ hs, x < c) ∧ IL H' F (iN hs)) ⟨F0, none, none, none, none, none, none, none, none, none, rfl, exn hF0, List.range c, List.length_range, fun x hx => List.mem_range.mp hx, upd_same⟩ (fun i σ H' _ p => ?_) (fun i x σ H1 H' hi p hy => ?_) (fun σ H' p => ?_)
      · obtain ⟨_, _, _, _, _, _, _, _, _, _, rfl, e, _⟩ := p
        exact sq_l (e _ _ hb)
      · obtain ⟨F, y3, y4, y5, y6, y7, y8, y9, y10, y11, rfl, e, hs, hl, hlt, hF⟩ := p
        obtain ⟨T2, x, y, rfl, hT, rfl, hx, hy⟩ := hy
        cases hx
        obtain ⟨hi2, rfl⟩ := int_at hy
        rw [length_iN] at hi2
        rw [iN_getD hi2]
        have e1 := exn (o := .tup [.int (i : Int), .int ((m.getD i 0 : Nat) : Int)]) hT
        have ha1 := e1 _ _ (e _ _ ha)
        have hF1 := e1 _ _ hF
        have hmi := hm i hi2
        have hn1 := hnc i (by omega)
        have hn2 := hnc (m.getD i 0) (by omega)
        refine ⟨T2, _, rfl, sq_t upd_same, rfl, _, _, rfl, _, _, rfl, rfl, ?_⟩
        refine ⟨_, rfl, _, rfl, _, rfl, a, _, _, _, rfl, rfl, sq_t ha1, ati_iN (by omega), F, _, _, _, rfl, rfl, sq_l hF1, ati_iN (by omega), ?_⟩
        refine ⟨_, rfl, _, rfl, _, rfl, a, _, _, _, rfl, rfl, sq_t ha1, ati_iN (by omega), F, _, _, _, rfl, rfl, sq_l hF1, ati_iN (by omega), ?_⟩
        have hon := hlt _ (mem_getDD (d := 0) (show nu.getD i 0 < hs.length by omega))
        have hot := hlt _ (mem_getDD (d := 0) (show nu.getD (m.getD i 0) 0 < hs.length by omega))
        generalize hs.getD (nu.getD i 0) 0 = one at hon ⊢
        generalize hs.getD (nu.getD (m.getD i 0) 0) 0 = other at hot ⊢
        refine ⟨Nat.le_of_ble_eq_true rfl, fun T3 hT3 => ?_⟩
        refine ⟨T3, _, rfl, sq_t upd_same, rfl, _, _, rfl, _, _, rfl, rfl, ?_⟩
        have e2 := exn (o := .tup [.int (one : Int), .int (other : Int)]) hT3
        have hF2 := e2 _ _ hF1
        refine ⟨_, rfl, F, rfl, ⟨_, sq_l hF2⟩, fun D hD => ?_⟩
        refine lc_val walk_list (by rw [ml, length_iN]; omega) (fun j => .int (((if hs.getD j 0 = one ∨ hs.getD j 0 = other then (if other < one then other else one) else hs.getD j 0 : Nat)) : Int)) hD (fun H' e => sq_l (e _ _ hF2)) (fun j x Hc H' hj e3 hy => ?_) gmN (fun H4 e4 h4 => ?_)
        · obtain ⟨rfl, hx⟩ := hy
          obtain ⟨hj2, rfl⟩ := int_at hx
          rw [length_iN] at hj2
          rw [iN_getD hj2]
          refine ⟨rfl, fun Q q => ?_⟩
          refine ⟨_, rfl, _, rfl, _, rfl, Nat.le_of_ble_eq_true rfl, fun T4 hT4 => ?_⟩
          refine ⟨T4, _, rfl, .inr (sq_t upd_same), rfl, rfl, _, rfl, ?_⟩
          rw [inV_pair]
          have q : ∀ H4, Ex H' H4 → Q (.int (((if hs.getD j 0 = one ∨ hs.getD j 0 = other then (if other < one then other else one) else hs.getD j 0 : Nat)) : Int)) H4 := q
          refine ite2 (fun ne => ?_) (fun ne => ?_)
          · have ne := of_decide_eq_true ne
            rw [if_pos ne] at q
            refine ⟨_, rfl, _, rfl, _, _, rfl, ?_⟩
            rw [min_nat]
            exact q _ (exn hT4)
          · have ne : ¬ (hs.getD j 0 = one ∨ hs.getD j 0 = other) := fun z => ne (decide_eq_true z)
            rw [if_neg ne] at q
            exact ⟨_, rfl, q _ (exn hT4)⟩
        · rw [ml, length_iN, ivals (f := fun j => if hs.getD j 0 = one ∨ hs.getD j 0 = other then (if other < one then other else one) else hs.getD j 0) (fun _ _ => rfl)] at h4
          refine ⟨D, _, _, _, _, _, _, _, _, _, rfl, ext e (ext e1 (ext e2 e4)), _, by rw [List.length_map, List.length_range, hl], fun x hx => ?_, h4⟩
          obtain ⟨j, hj, rfl⟩ := List.mem_map.mp hx
          have hj := List.mem_range.mp hj
          split
          · split
            · exact hot
            · exact hon
          · exact hlt _ (mem_getDD hj)
      · obtain ⟨F, y3, y4, y5, y6, y7, y8, y9, y10, y11, rfl, e, hs, hl, hlt, hF⟩ := p
        refine ⟨_, rfl, F, iN hs, rfl, sq_l hF, by rw [length_iN]; omega, fun S1 S n hS hk hn => ?_⟩
        refine ⟨S1, S, n, rfl, upd_same, by rw [length_iN] at hn; omega, fun ks p hks hmem hlen hp => ?_⟩
        have e1 := ext (exn (o := SetO _ S1 S n) hS) (exn (o := .lst (ks.map V.int)) hp)
        have hkn : ks.length ≤ 60 := by rw [length_iN] at hn; omega
        have hk1 : c = 1 → ks.length = 1 := fun hc1 => by
          subst hc1
          refine one_lt hks (z := 0) fun k => ?_
          rw [hmem k, hk k]
          match hs, hl with
          | [x], _ =>
            have := hlt x (by simp)
            have : x = 0 := by omega
            subst this
            simp [iN]
        refine ⟨p, rfl, ⟨_, sq_l upd_same⟩, fun D1 hD1 => ?_⟩
        refine lc_all walk_list (by rw [ml]; omega) (fun i y H' => ∃ s, y = .ref s ∧ ∃ zs, s ≠ D1 ∧ H' s = some (.lst zs)) hD1 (fun H' e => sq_l (e _ _ upd_same)) (fun i y H1 H2 kp h => ?_) (fun i x Hc H2 hi e2 hz hy => ?_) gmN (fun ys H2 e2 h2 hyl hys => ?_)
        · obtain ⟨s1, rfl, zs, h1, h2⟩ := h
          exact ⟨s1, rfl, zs, h1, kp.2 _ _ h1 h2⟩
        · obtain ⟨rfl, hx⟩ := hy
          obtain ⟨_, rfl⟩ := int_at hx
          obtain ⟨zs, hz⟩ := hz
          refine ⟨rfl, fun Q q => ?_⟩
          refine ⟨_, rfl, F, _, rfl, sq_l (e2 _ _ (e1 _ _ hF)), fun D2 hD2 => ?_⟩
          refine lc_sel (n := ((iN hs).map V.int).length) walk_enum (by rw [ml, length_iN]; omega) (fun j => decide (((hs.getD j 0 : Nat) : Int) = ks.getD i 0)) (fun j => .int (j : Int)) hD2 (fun H' e' => sq_l (e' _ _ (e2 _ _ (e1 _ _ hF)))) (fun j y Hc H3 hj e' hy => ?_) gmP (fun H3 e3 h3 => ?_)
          · obtain ⟨T2, x, y, rfl, hT, rfl, hx, hy⟩ := hy
            cases hx
            obtain ⟨hj2, rfl⟩ := int_at hy
            rw [length_iN] at hj2
            rw [iN_getD hj2]
            refine ⟨T2, _, rfl, sq_t upd_same, rfl, _, _, rfl, _, _, rfl, rfl, rfl, exn hT, fun Q q => ?_, fun _ H3 e3 Q q => ⟨_, rfl, q _ exr⟩⟩
            refine ⟨_, rfl, _, rfl, rfl, _, rfl, ?_⟩
            rw [dec_int']
            exact q _ exr
          · refine q _ _ e3 ⟨D2, rfl, _, fun z => ?_, h3⟩
            rw [z, hz] at hD2
            cases hD2
        · have hlen1 : ys.length = ks.length := by rw [hyl, ml]
          refine ⟨_, rfl, D1, rfl, ⟨_, sq_l h2⟩, fun D3 hD3 => ?_⟩
          refine lc_all walk_list (by rw [hlen1]; omega) (fun _ _ _ => True) hD3 (fun H' e => sq_l (e _ _ h2)) (fun _ _ _ _ _ _ => trivial) (fun i x Hc H3 hi e3 hz hy => ?_) gmN (fun zs H3 e3 h3 hzl _ => ?_)
          · obtain ⟨rfl, hx⟩ := hy
            obtain ⟨s1, rfl, zs, _, h5⟩ := hys _ _ hx
            exact ⟨rfl, fun Q q => ⟨_, rfl, s1, _, rfl, .inl (e3 _ _ h5), fun t H4 e4 _ => q _ _ e4 trivial⟩⟩
          · refine ⟨D3, _, rfl, .inl h3, fun l H4 e4 h4 => q l _ _ (ext e (ext e1 (ext e2 (ext e3 e4)))) h4 (by omega) fun z => ?_⟩
            rw [hzl, hlen1, hk1 z]
    · refine ⟨_, (pss_cons (ps_set (i := 2) nd rfl (.inr rfl) (pe_listRg rfl (by rfl) T.z_list (prg_1 (by rfl) T.z_range (pe_op op_add (pe_ix ix_tup (pv 0) (pe_un un_neg pe_int) (fun _ _ => rfl)) pe_int))))
          (pss_cons (ps_for PassesOwn.never rfl (pi_enumT (by rfl) T.z_enumerate (pa_cons (pv 1) pa_nil)) (pg_tup rfl (pgs_cons (pg_name (i := 3) nd rfl (.inl rfl)) (pgs_cons (pg_name (i := 4) nd rfl (.inl rfl)) pgs_nil)))
          (pss_cons (ps_asg (pe_tup (pa_cons (pe_ix ix_list (pv 2) (pe_ix ix_tup (pv 0) (pv 3) (fun _ _ => rfl)) (fun _ _ => rfl)) (pa_cons (pe_ix ix_list (pv 2) (pe_ix ix_tup (pv 0) (pv 4) (fun _ _ => rfl)) (fun _ _ => rfl)) pa_nil))) (pg_tup rfl (pgs_cons (pg_name (i := 5) nd rfl (.inr rfl)) (pgs_cons (pg_name (i := 6) nd rfl (.inr rfl)) pgs_nil))))
          (pss_one (ps_set (i := 2) nd rfl (.inr rfl) (pe_lc (own := [("head", 9)]) (by rfl) nd (pi_list (pv 2)) (blkOk_by (own := [("head", 9)]) (N := N_pieces_of) (sc := C8.fnScope s_pieces_of) (by decide +kernel)) (fun _ _ _ _ _ => (pg_name (i := 9) nd rfl (.inl rfl))) (fun _ _ _ _ _ => pts_nil) (fun _ _ _ _ _ => (pe_ifExp (pt_cmpR (op_in_seqK (K := K)) (pv 9) (pe_tup (pa_cons (pv 5) (pa_cons (pv 6) pa_nil))) (by rfl)) (pe_callB (call_min2 rfl) (by rfl) T.z_min (by decide +kernel) (pa_cons (pv 5) (pa_cons (pv 6) pa_nil))) (pv 9))))))))
          (pss_cons (ps_setLc (i := 7) (own := [("least", 8)]) (by rfl) nd rfl rfl (sw_true rfl rfl rfl (by decide +kernel)) (pi_list (pe_callB (cr_sortedSet rfl) (by rfl) T.z_sorted (by decide +kernel) (pa_cons (pe_callTy (cr_setI rfl) (by rfl) T.z_set (by decide +kernel) (pa_cons (pv 2) pa_nil)) pa_nil))) (blkOk_by (own := [("least", 8)]) (N := N_pieces_of) (sc := C8.fnScope s_pieces_of) (by decide +kernel)) (fun _ _ _ _ _ => (pg_name (i := 8) nd rfl (.inr rfl))) (fun _ _ _ _ _ => pts_nil) (fun _ _ _ _ _ => (pe_lc (g := gTup K 2 (gCons (gName 10) (gCons (gName 9) gNil))) (own := [("number", 10), ("head", 9)]) (by rfl) nd (pi_enumK (K := K) (by rfl) T.z_enumerate (pa_cons (pv 2) pa_nil)) (blkOk_by (by rfl)) (fun _ _ _ _ _ => (pg_tup rfl (pgs_cons (pg_name (i := 10) nd rfl (.inl rfl)) (pgs_cons (pg_name (i := 9) nd rfl (.inl rfl)) pgs_nil)))) (fun _ _ _ _ _ => (pts_one (pt_cmpR op_eq (pv 9) (pv 8) (nomark _)))) (fun _ _ _ _ _ => (pv 10)))))
          (pss_one (ps_ret (pe_callTy call_tupG (by rfl) T.z_tuple (by decide +kernel) (pa_cons (pe_lc (own := [("lot", 11)]) (by rfl) nd (pi_list (pv 7)) (blkOk_by (own := [("lot", 11)]) (N := N_pieces_of) (sc := C8.fnScope s_pieces_of) (by decide +kernel)) (fun _ _ _ _ _ => (pg_name (i := 11) nd rfl (.inl rfl))) (fun _ _ _ _ _ => pts_nil) (fun _ _ _ _ _ => (pe_callTy call_tupG (by rfl) T.z_tuple (by decide +kernel) (pa_cons (pv 11) pa_nil)))) pa_nil))))))), ?_⟩
      have hlv : nu.length - 1 = m.length - 1 := by omega
      refine ⟨_, rfl, _, rfl, _, _, _, _, rfl, rfl, sq_t ha, ati_m1 (by omega), _, _, rfl, rfl, _, rfl, ?_⟩
      rw [hlv]
      have hb1 : ((nu.getD (m.length - 1) 0 : Nat) : Int) + 1 = (c : Int) := by omega
      rw [hb1]
      refine ⟨RgOk.of_le (by omega) (by omega) (by omega) (by omega), fun F0 hF0 => ?_⟩
      have hrg : rgV 0 (c : Int) = (iN (List.range c)).map V.int := by
        unfold rgV iN
        rw [show ((c : Int) - 0).toNat = c by omega, List.map_map]
        refine List.map_congr_left fun i _ => ?_
        show V.int (0 + (i : Int)) = V.int (i : Int)
        rw [Int.zero_add]
      rw [hrg]
      refine ⟨_, rfl, b, _, rfl, sq_t (exn hF0 _ _ hb), ?_⟩
      refine for_it (walk_enumT (xs := (iN m).map V.int)) (fun i σ H' => ∃ F y3 y4 y5 y6 y7 y8 y9 y10 y11, σ = [some (.ref a), some (.ref b), some (.ref F), y3, y4, y5, y6, y7, y8, y9, y10, y11] ∧ Ex H H' ∧ ∃ hs : List Nat, hs.length = c ∧ (∀ x ∈ hs, x < c) ∧ IL H' F (iN hs)) ⟨F0, none, none, none, none, none, none, none, none, none, rfl, exn hF0, List.range c, List.length_range, fun x hx => List.mem_range.mp hx, upd_same⟩ (fun i σ H' _ p => ?_) (fun i x σ H1 H' hi p hy => ?_) (fun σ H' p => ?_)
      · obtain ⟨_, _, _, _, _, _, _, _, _, _, rfl, e, _⟩ := p
        exact sq_t (e _ _ hb)
      · obtain ⟨F, y3, y4, y5, y6, y7, y8, y9, y10, y11, rfl, e, hs, hl, hlt, hF⟩ := p
        obtain ⟨T2, x, y, rfl, hT, rfl, hx, hy⟩ := hy
        cases hx
        obtain ⟨hi2, rfl⟩ := int_at hy
        rw [length_iN] at hi2
        rw [iN_getD hi2]
        have e1 := exn (o := .tup [.int (i : Int), .int ((m.getD i 0 : Nat) : Int)]) hT
        have ha1 := e1 _ _ (e _ _ ha)
        have hF1 := e1 _ _ hF
        have hmi := hm i hi2
        have hn1 := hnc i (by omega)
        have hn2 := hnc (m.getD i 0) (by omega)
        refine ⟨T2, _, rfl, sq_t upd_same, rfl, _, _, rfl, _, _, rfl, rfl, ?_⟩
        refine ⟨_, rfl, _, rfl, _, rfl, a, _, _, _, rfl, rfl, sq_t ha1, ati_iN (by omega), F, _, _, _, rfl, rfl, sq_l hF1, ati_iN (by omega), ?_⟩
        refine ⟨_, rfl, _, rfl, _, rfl, a, _, _, _, rfl, rfl, sq_t ha1, ati_iN (by omega), F, _, _, _, rfl, rfl, sq_l hF1, ati_iN (by omega), ?_⟩
        have hon := hlt _ (mem_getDD (d := 0) (show nu.getD i 0 < hs.length by omega))
        have hot := hlt _ (mem_getDD (d := 0) (show nu.getD (m.getD i 0) 0 < hs.length by omega))
        generalize hs.getD (nu.getD i 0) 0 = one at hon ⊢
        generalize hs.getD (nu.getD (m.getD i 0) 0) 0 = other at hot ⊢
        refine ⟨Nat.le_of_ble_eq_true rfl, fun T3 hT3 => ?_⟩
        refine ⟨T3, _, rfl, sq_t upd_same, rfl, _, _, rfl, _, _, rfl, rfl, ?_⟩
        have e2 := exn (o := .tup [.int (one : Int), .int (other : Int)]) hT3
        have hF2 := e2 _ _ hF1
        refine ⟨_, rfl, F, rfl, ⟨_, sq_l hF2⟩, fun D hD => ?_⟩
        refine lc_val walk_list (by rw [ml, length_iN]; omega) (fun j => .int (((if hs.getD j 0 = one ∨ hs.getD j 0 = other then (if other < one then other else one) else hs.getD j 0 : Nat)) : Int)) hD (fun H' e => sq_l (e _ _ hF2)) (fun j x Hc H' hj e3 hy => ?_) gmN (fun H4 e4 h4 => ?_)
        · obtain ⟨rfl, hx⟩ := hy
          obtain ⟨hj2, rfl⟩ := int_at hx
          rw [length_iN] at hj2
          rw [iN_getD hj2]
          refine ⟨rfl, fun Q q => ?_⟩
          refine ⟨_, rfl, _, rfl, _, rfl, Nat.le_of_ble_eq_true rfl, fun T4 hT4 => ?_⟩
          refine ⟨T4, _, rfl, .inr (sq_t upd_same), rfl, rfl, _, rfl, ?_⟩
          rw [inV_pair]
          have q : ∀ H4, Ex H' H4 → Q (.int (((if hs.getD j 0 = one ∨ hs.getD j 0 = other then (if other < one then other else one) else hs.getD j 0 : Nat)) : Int)) H4 := q
          refine ite2 (fun ne => ?_) (fun ne => ?_)
          · have ne := of_decide_eq_true ne
            rw [if_pos ne] at q
            refine ⟨_, rfl, _, rfl, _, _, rfl, ?_⟩
            rw [min_nat]
            exact q _ (exn hT4)
          · have ne : ¬ (hs.getD j 0 = one ∨ hs.getD j 0 = other) := fun z => ne (decide_eq_true z)
            rw [if_neg ne] at q
            exact ⟨_, rfl, q _ (exn hT4)⟩
        · rw [ml, length_iN, ivals (f := fun j => if hs.getD j 0 = one ∨ hs.getD j 0 = other then (if other < one then other else one) else hs.getD j 0) (fun _ _ => rfl)] at h4
          refine ⟨D, _, _, _, _, _, _, _, _, _, rfl, ext e (ext e1 (ext e2 e4)), _, by rw [List.length_map, List.length_range, hl], fun x hx => ?_, h4⟩
          obtain ⟨j, hj, rfl⟩ := List.mem_map.mp hx
          have hj := List.mem_range.mp hj
          split
          · split
            · exact hot
            · exact hon
          · exact hlt _ (mem_getDD hj)
      · obtain ⟨F, y3, y4, y5, y6, y7, y8, y9, y10, y11, rfl, e, hs, hl, hlt, hF⟩ := p
        refine ⟨_, rfl, F, iN hs, rfl, sq_l hF, by rw [length_iN]; omega, fun S1 S n hS hk hn => ?_⟩
        refine ⟨S1, S, n, rfl, upd_same, by rw [length_iN] at hn; omega, fun ks p hks hmem hlen hp => ?_⟩
        have e1 := ext (exn (o := SetO _ S1 S n) hS) (exn (o := .lst (ks.map V.int)) hp)
        have hkn : ks.length ≤ 60 := by rw [length_iN] at hn; omega
        have hk1 : c = 1 → ks.length = 1 := fun hc1 => by
          subst hc1
          refine one_lt hks (z := 0) fun k => ?_
          rw [hmem k, hk k]
          match hs, hl with
          | [x], _ =>
            have := hlt x (by simp)
            have : x = 0 := by omega
            subst this
            simp [iN]
        refine ⟨p, rfl, ⟨_, sq_l upd_same⟩, fun D1 hD1 => ?_⟩
        refine lc_all walk_list (by rw [ml]; omega) (fun i y H' => ∃ s, y = .ref s ∧ ∃ zs, s ≠ D1 ∧ H' s = some (.lst zs)) hD1 (fun H' e => sq_l (e _ _ upd_same)) (fun i y H1 H2 kp h => ?_) (fun i x Hc H2 hi e2 hz hy => ?_) gmN (fun ys H2 e2 h2 hyl hys => ?_)
        · obtain ⟨s1, rfl, zs, h1, h2⟩ := h
          exact ⟨s1, rfl, zs, h1, kp.2 _ _ h1 h2⟩
        · obtain ⟨rfl, hx⟩ := hy
          obtain ⟨_, rfl⟩ := int_at hx
          obtain ⟨zs, hz⟩ := hz
          refine ⟨rfl, fun Q q => ?_⟩
          refine ⟨_, rfl, F, _, rfl, sq_l (e2 _ _ (e1 _ _ hF)), fun D2 hD2 => ?_⟩
          refine lc_sel (n := ((iN hs).map V.int).length) walk_enum (by rw [ml, length_iN]; omega) (fun j => decide (((hs.getD j 0 : Nat) : Int) = ks.getD i 0)) (fun j => .int (j : Int)) hD2 (fun H' e' => sq_l (e' _ _ (e2 _ _ (e1 _ _ hF)))) (fun j y Hc H3 hj e' hy => ?_) gmP (fun H3 e3 h3 => ?_)
          · obtain ⟨T2, x, y, rfl, hT, rfl, hx, hy⟩ := hy
            cases hx
            obtain ⟨hj2, rfl⟩ := int_at hy
            rw [length_iN] at hj2
            rw [iN_getD hj2]
            refine ⟨T2, _, rfl, sq_t upd_same, rfl, _, _, rfl, _, _, rfl, rfl, rfl, exn hT, fun Q q => ?_, fun _ H3 e3 Q q => ⟨_, rfl, q _ exr⟩⟩
            refine ⟨_, rfl, _, rfl, rfl, _, rfl, ?_⟩
            rw [dec_int']
            exact q _ exr
          · refine q _ _ e3 ⟨D2, rfl, _, fun z => ?_, h3⟩
            rw [z, hz] at hD2
            cases hD2
        · have hlen1 : ys.length = ks.length := by rw [hyl, ml]
          refine ⟨_, rfl, D1, rfl, ⟨_, sq_l h2⟩, fun D3 hD3 => ?_⟩
          refine lc_all walk_list (by rw [hlen1]; omega) (fun _ _ _ => True) hD3 (fun H' e => sq_l (e _ _ h2)) (fun _ _ _ _ _ _ => trivial) (fun i x Hc H3 hi e3 hz hy => ?_) gmN (fun zs H3 e3 h3 hzl _ => ?_)
          · obtain ⟨rfl, hx⟩ := hy
            obtain ⟨s1, rfl, zs, _, h5⟩ := hys _ _ hx
            exact ⟨rfl, fun Q q => ⟨_, rfl, s1, _, rfl, .inl (e3 _ _ h5), fun t H4 e4 _ => q _ _ e4 trivial⟩⟩
          · refine ⟨D3, _, rfl, .inl h3, fun l H4 e4 h4 => q l _ _ (ext e (ext e1 (ext e2 (ext e3 e4)))) h4 (by omega) fun z => ?_⟩
            rw [hzl, hlen1, hk1 z]
end
end Hw
/-! W13 -/
/-! W13: are_mates. -/
namespace Hw
open PySem PySem.Spec PyProof.Rows L2 HR RZ
section
variable {P : Program} {w : World} {K : PySem.W.Frag} {mg : Str → Option Value} {base : Heap}
def sp_are_integers : Sp := fun vs H Q _ => ∃ (a : Addr) (m : List Nat), vs = [.ref a] ∧ LT H a m ∧ m.length ≤ 1000 ∧ ∀ H', Ex H H' → Q (.bl true) H'
abbrev N_are_integers : List Str := ["value", "each"]
theorem sc_are_integers : FnScope N_are_integers ["value"] (C8.fnScope s_are_integers) := C8.fnScope_by (by decide +kernel)
theorem k_are_integers (T : Txt K mg) : C8.Cal P w K mg base 2 "are_integers" sp_are_integers [] := by
  have nd := sc_are_integers.nd
  refine defn T.d_are_integers sc_are_integers (fun vs H Q E h => ?_) (fun _ _ _ _ _ _ us hl => match us, hl with | [_], _ => rfl) (fun f cdv A outer s H vs Q E hr h => ?_)
  · obtain ⟨a, m, rfl, _⟩ := h
    rfl
  · obtain ⟨a, m, rfl, ha, hn, q⟩ := h
    rcases ha with ha | ha
    · refine ⟨_, (pss_one (ps_ret (pe_and (C8.pe_c (k_is_listed T) hr (by decide) (by rfl) (pa_cons (pv 0) pa_nil)) (pe_one (pe_callB (cr_all rfl) (by rfl) T.z_all (by decide +kernel) (pa_cons (pe_lc (own := [("each", 1)]) (by rfl) nd (pi_list (pv 0)) (blkOk_by (own := [("each", 1)]) (N := N_are_integers) (sc := C8.fnScope s_are_integers) (by decide +kernel)) (fun _ _ _ _ _ => (pg_name (i := 1) nd rfl (.inl rfl))) (fun _ _ _ _ _ => pts_nil) (fun _ _ _ _ _ => (C8.pe_c (k_is_integer T) hr (by decide) (by rfl) (pa_cons (pv 1) pa_nil)))) pa_nil)))))), ?_⟩
      refine ⟨_, rfl, a, _, rfl, .inl ha, fun H1 e1 => ⟨_, rfl, iteT ?_⟩⟩
      refine ⟨_, rfl, a, rfl, ⟨_, sq_l (e1 _ _ ha)⟩, fun D hD => ?_⟩
      refine lc_val walk_list (by rw [ml, length_iN]; omega) (fun _ => .bl true) hD (fun H' e => sq_l (e _ _ (e1 _ _ ha))) (fun i x Hc H' hi e hy => ?_) gmN (fun H' e h => ?_)
      · obtain ⟨rfl, hx⟩ := hy
        obtain ⟨_, rfl⟩ := int_at hx
        exact ⟨rfl, fun Q q => ⟨_, rfl, _, rfl, q _ exr⟩⟩
      · rw [bl_true] at h
        refine ⟨D, _, rfl, sq_l h, ?_⟩
        rw [all_true]
        exact q _ (ext e1 e)
    · refine ⟨_, (pss_one (ps_ret (pe_and (C8.pe_c (k_is_listed T) hr (by decide) (by rfl) (pa_cons (pv 0) pa_nil)) (pe_one (pe_callB (cr_all rfl) (by rfl) T.z_all (by decide +kernel) (pa_cons (pe_lc (own := [("each", 1)]) (by rfl) nd (pi_tup (pv 0)) (blkOk_by (own := [("each", 1)]) (N := N_are_integers) (sc := C8.fnScope s_are_integers) (by decide +kernel)) (fun _ _ _ _ _ => (pg_name (i := 1) nd rfl (.inl rfl))) (fun _ _ _ _ _ => pts_nil) (fun _ _ _ _ _ => (C8.pe_c (k_is_integer T) hr (by decide) (by rfl) (pa_cons (pv 1) pa_nil)))) pa_nil)))))), ?_⟩
      refine ⟨_, rfl, a, _, rfl, .inr ha, fun H1 e1 => ⟨_, rfl, iteT ?_⟩⟩
      refine ⟨_, rfl, a, rfl, ⟨_, sq_t (e1 _ _ ha)⟩, fun D hD => ?_⟩
      refine lc_val walk_tup (by rw [ml, length_iN]; omega) (fun _ => .bl true) hD (fun H' e => sq_t (e _ _ (e1 _ _ ha))) (fun i x Hc H' hi e hy => ?_) gmN (fun H' e h => ?_)
      · obtain ⟨rfl, hx⟩ := hy
        obtain ⟨_, rfl⟩ := int_at hx
        exact ⟨rfl, fun Q q => ⟨_, rfl, _, rfl, q _ exr⟩⟩
      · rw [bl_true] at h
        refine ⟨D, _, rfl, sq_l h, ?_⟩
        rw [all_true]
        exact q _ (ext e1 e)
def sp_are_mates : Sp := fun vs H Q _ => ∃ (a b : Addr) (ls : List Int) (m : List Nat), vs = [.ref a, .ref b] ∧ ITf H a ls ∧ LT H b m ∧ Mt ls m ∧ ls.length ≤ 1000 ∧ ∀ H', Ex H H' → Q (.bl true) H'
abbrev N_are_mates : List Str := ["letters", "value", "place", "mate"]
theorem sc_are_mates : FnScope N_are_mates ["letters", "value"] (C8.fnScope s_are_mates) := C8.fnScope_by (by decide +kernel)
theorem k_are_mates (T : Txt K mg) : C8.Cal P w K mg base 3 "are_mates" sp_are_mates [] := by
  have nd := sc_are_mates.nd
  refine defn T.d_are_mates sc_are_mates (fun vs H Q E h => ?_) (fun _ _ _ _ _ _ us hl => match us, hl with | [_, _], _ => rfl) (fun f cdv A outer s H vs Q E hr h => ?_)
  · obtain ⟨a, b, ls, m, rfl, _⟩ := h
    rfl
  · obtain ⟨a, b, ls, m, rfl, ha, hb, hm, hn, q⟩ := h
    have hml := hm.len
    rcases hb with hb | hb
    · refine ⟨_, (pss_cons (ps_if (PW.pt (pw_or (pt_not (pt_val (C8.pe_c (k_are_integers T) hr (by decide) (by rfl) (pa_cons (pv 1) pa_nil)))) (pw_or1 (pt_cmpR op_ne (pe_callB call_len_seq (by rfl) T.z_len PySem.boot_len (pa_cons (pv 1) pa_nil)) (pe_callB call_len_seq (by rfl) T.z_len PySem.boot_len (pa_cons (pv 0) pa_nil)) (nomark _)))))
          (pss_one (ps_ret pe_bl))
          pss_nil)
          (pss_cons (ps_if (pt_not (pt_val (pe_callB (cr_all rfl) (by rfl) T.z_all (by decide +kernel) (pa_cons (pe_lc (own := [("mate", 3)]) (by rfl) nd (pi_list (pv 1)) (blkOk_by (own := [("mate", 3)]) (N := N_are_mates) (sc := C8.fnScope s_are_mates) (by decide +kernel)) (fun _ _ _ _ _ => (pg_name (i := 3) nd rfl (.inl rfl))) (fun _ _ _ _ _ => pts_nil) (fun _ _ _ _ _ => (pe_chain op_le op_lt pe_int (pv 3) (pe_callB (call_len_seqK (K := K)) (by rfl) T.z_len PySem.boot_len (pa_cons (pv 0) pa_nil))))) pa_nil))))
          (pss_one (ps_ret pe_bl))
          pss_nil)
          (pss_one (ps_ret (pe_callB (cr_all rfl) (by rfl) T.z_all (by decide +kernel) (pa_cons (pe_lc (g := gTup K 2 (gCons (gName 2) (gCons (gName 3) gNil))) (own := [("place", 2), ("mate", 3)]) (by rfl) nd (pi_enum (by rfl) T.z_enumerate (pa_cons (pv 1) pa_nil)) (blkOk_by (own := [("place", 2), ("mate", 3)]) (N := N_are_mates) (sc := C8.fnScope s_are_mates) (by decide +kernel)) (fun _ _ _ _ _ => (pg_tup rfl (pgs_cons (pg_name (i := 2) nd rfl (.inl rfl)) (pgs_cons (pg_name (i := 3) nd rfl (.inl rfl)) pgs_nil)))) (fun _ _ _ _ _ => pts_nil) (fun _ _ _ _ _ => (pe_and (pe_cmpR op_eq (pe_ix (ix_listK (K := K)) (pv 1) (pv 3) (fun _ _ => rfl)) (pv 2) (nomark _)) (pe_one (pe_cmpR op_eq (pe_ix (ix_tupK (K := K)) (pv 0) (pv 3) (fun _ _ => rfl)) (pe_un un_neg (pe_ix (ix_tupK (K := K)) (pv 0) (pv 2) (fun _ _ => rfl))) (nomark _)))))) pa_nil)))))), ?_⟩
      refine ⟨_, rfl, ⟨b, m, rfl, .inl hb, by omega, fun H1 e1 => ⟨_, rfl, ?_⟩⟩⟩
      refine iteF ?_
      refine ⟨_, rfl, b, _, rfl, .inl (sq_l (e1 _ _ hb)), _, rfl, a, _, rfl, .inr (sq_f (ha.mono e1)), ?_⟩
      rw [ml, ml, length_iN, hml]
      refine ⟨rfl, _, rfl, ?_⟩
      rw [decide_eq_true (rfl : V.int (ls.length : Int) = V.int (ls.length : Int))]
      refine iteF ?_
      refine ⟨_, rfl, b, rfl, ⟨_, sq_l (e1 _ _ hb)⟩, fun D1 hD1 => ?_⟩
      refine lc_val walk_list (by rw [ml, length_iN]; omega) (fun _ => .bl true) hD1 (fun H' e => sq_l (e _ _ (e1 _ _ hb))) (fun i y Hc H' hi e hy => ?_) gmN (fun H2 e2 h => ?_)
      · obtain ⟨rfl, hx⟩ := hy
        obtain ⟨hi2, rfl⟩ := int_at hx
        rw [length_iN] at hi2
        have hlt := hm.lt i (by omega)
        rw [iN_getD hi2]
        refine ⟨rfl, fun Q q => ⟨_, rfl, _, _, rfl, rfl, _, rfl, ?_⟩⟩
        rw [decide_eq_true (show (0 : Int) ≤ ((m.getD i 0 : Nat) : Int) by omega)]
        refine iteT ⟨_, rfl, a, _, rfl, .inr (sq_f ((ha.mono e1).mono e)), _, _, rfl, rfl, ?_⟩
        rw [ml]
        show Q (.bl (decide (((m.getD i 0 : Nat) : Int) < (ls.length : Int)))) _
        rw [decide_eq_true (show ((m.getD i 0 : Nat) : Int) < (ls.length : Int) by omega)]
        exact q _ exr
      rw [bl_true] at h
      refine ⟨D1, _, rfl, sq_l h, ?_⟩
      rw [all_true]
      refine ⟨_, rfl, iteF ?_⟩
      have E2 := ext e1 e2
      clear h
      refine ⟨_, rfl, b, _, rfl, sq_l (E2 _ _ hb), fun D2 hD2 => ?_⟩
      refine lc_val (n := ((iN m).map V.int).length) walk_enum (by rw [ml, length_iN]; omega) (fun _ => .bl true) hD2 (fun H' e' => sq_l (e' _ _ (E2 _ _ hb))) (fun i y Hc H2 hi e' hy => ?_) gmP (fun H3 e3 h => ?_)
      · obtain ⟨T2, x, y, rfl, hT, rfl, hx, hy⟩ := hy
        cases hx
        obtain ⟨hi2, rfl⟩ := int_at hy
        rw [length_iN] at hi2
        have hlt := hm.lt i (by omega)
        have hinv := hm.inv i (by omega)
        have hopp := hm.opp i (by omega)
        rw [iN_getD hi2]
        have e4 := ext E2 (ext e' (exn (o := .tup [.int (i : Int), .int ((m.getD i 0 : Nat) : Int)]) hT))
        refine ⟨T2, _, rfl, sq_t upd_same, rfl, _, _, rfl, _, _, rfl, rfl, rfl, fun Q q => ?_⟩
        refine ⟨_, rfl, _, rfl, b, _, _, _, rfl, rfl, sq_l (e4 _ _ hb), ati_iN (by omega), _, rfl, rfl, _, rfl, ?_⟩
        rw [hinv, decide_eq_true (rfl : V.int (i : Int) = V.int (i : Int))]
        refine iteT ?_
        refine ⟨_, rfl, _, rfl, a, _, _, _, rfl, rfl, sq_f (ha.mono e4), ati_int hlt, _, rfl, _, rfl, a, _, _, _, rfl, rfl, sq_f (ha.mono e4), ati_int (by omega), _, rfl, rfl, ?_⟩
        rw [hopp, decide_eq_true (rfl : V.int _ = V.int _)]
        exact q _ (exn hT)
      rw [bl_true] at h
      refine ⟨D2, _, rfl, sq_l h, ?_⟩
      rw [all_true]
      exact q _ (ext E2 e3)
    · refine ⟨_, (pss_cons (ps_if (PW.pt (pw_or (pt_not (pt_val (C8.pe_c (k_are_integers T) hr (by decide) (by rfl) (pa_cons (pv 1) pa_nil)))) (pw_or1 (pt_cmpR op_ne (pe_callB call_len_seq (by rfl) T.z_len PySem.boot_len (pa_cons (pv 1) pa_nil)) (pe_callB call_len_seq (by rfl) T.z_len PySem.boot_len (pa_cons (pv 0) pa_nil)) (nomark _)))))
          (pss_one (ps_ret pe_bl))
          pss_nil)
          (pss_cons (ps_if (pt_not (pt_val (pe_callB (cr_all rfl) (by rfl) T.z_all (by decide +kernel) (pa_cons (pe_lc (own := [("mate", 3)]) (by rfl) nd (pi_tup (pv 1)) (blkOk_by (own := [("mate", 3)]) (N := N_are_mates) (sc := C8.fnScope s_are_mates) (by decide +kernel)) (fun _ _ _ _ _ => (pg_name (i := 3) nd rfl (.inl rfl))) (fun _ _ _ _ _ => pts_nil) (fun _ _ _ _ _ => (pe_chain op_le op_lt pe_int (pv 3) (pe_callB (call_len_seqK (K := K)) (by rfl) T.z_len PySem.boot_len (pa_cons (pv 0) pa_nil))))) pa_nil))))
          (pss_one (ps_ret pe_bl))
          pss_nil)
          (pss_one (ps_ret (pe_callB (cr_all rfl) (by rfl) T.z_all (by decide +kernel) (pa_cons (pe_lc (g := gTup K 2 (gCons (gName 2) (gCons (gName 3) gNil))) (own := [("place", 2), ("mate", 3)]) (by rfl) nd (pi_enumT (by rfl) T.z_enumerate (pa_cons (pv 1) pa_nil)) (blkOk_by (own := [("place", 2), ("mate", 3)]) (N := N_are_mates) (sc := C8.fnScope s_are_mates) (by decide +kernel)) (fun _ _ _ _ _ => (pg_tup rfl (pgs_cons (pg_name (i := 2) nd rfl (.inl rfl)) (pgs_cons (pg_name (i := 3) nd rfl (.inl rfl)) pgs_nil)))) (fun _ _ _ _ _ => pts_nil) (fun _ _ _ _ _ => (pe_and (pe_cmpR op_eq (pe_ix (ix_tupK (K := K)) (pv 1) (pv 3) (fun _ _ => rfl)) (pv 2) (nomark _)) (pe_one (pe_cmpR op_eq (pe_ix (ix_tupK (K := K)) (pv 0) (pv 3) (fun _ _ => rfl)) (pe_un un_neg (pe_ix (ix_tupK (K := K)) (pv 0) (pv 2) (fun _ _ => rfl))) (nomark _)))))) pa_nil)))))), ?_⟩
      refine ⟨_, rfl, ⟨b, m, rfl, .inr hb, by omega, fun H1 e1 => ⟨_, rfl, ?_⟩⟩⟩
      refine iteF ?_
      refine ⟨_, rfl, b, _, rfl, .inr (sq_t (e1 _ _ hb)), _, rfl, a, _, rfl, .inr (sq_f (ha.mono e1)), ?_⟩
      rw [ml, ml, length_iN, hml]
      refine ⟨rfl, _, rfl, ?_⟩
      rw [decide_eq_true (rfl : V.int (ls.length : Int) = V.int (ls.length : Int))]
      refine iteF ?_
      refine ⟨_, rfl, b, rfl, ⟨_, sq_t (e1 _ _ hb)⟩, fun D1 hD1 => ?_⟩
      refine lc_val walk_tup (by rw [ml, length_iN]; omega) (fun _ => .bl true) hD1 (fun H' e => sq_t (e _ _ (e1 _ _ hb))) (fun i y Hc H' hi e hy => ?_) gmN (fun H2 e2 h => ?_)
      · obtain ⟨rfl, hx⟩ := hy
        obtain ⟨hi2, rfl⟩ := int_at hx
        rw [length_iN] at hi2
        have hlt := hm.lt i (by omega)
        rw [iN_getD hi2]
        refine ⟨rfl, fun Q q => ⟨_, rfl, _, _, rfl, rfl, _, rfl, ?_⟩⟩
        rw [decide_eq_true (show (0 : Int) ≤ ((m.getD i 0 : Nat) : Int) by omega)]
        refine iteT ⟨_, rfl, a, _, rfl, .inr (sq_f ((ha.mono e1).mono e)), _, _, rfl, rfl, ?_⟩
        rw [ml]
        show Q (.bl (decide (((m.getD i 0 : Nat) : Int) < (ls.length : Int)))) _
        rw [decide_eq_true (show ((m.getD i 0 : Nat) : Int) < (ls.length : Int) by omega)]
        exact q _ exr
      rw [bl_true] at h
      refine ⟨D1, _, rfl, sq_l h, ?_⟩
      rw [all_true]
      refine ⟨_, rfl, iteF ?_⟩
      have E2 := ext e1 e2
      clear h
      refine ⟨_, rfl, b, _, rfl, sq_t (E2 _ _ hb), fun D2 hD2 => ?_⟩
      refine lc_val (n := ((iN m).map V.int).length) walk_enumT (by rw [ml, length_iN]; omega) (fun _ => .bl true) hD2 (fun H' e' => sq_t (e' _ _ (E2 _ _ hb))) (fun i y Hc H2 hi e' hy => ?_) gmP (fun H3 e3 h => ?_)
      · obtain ⟨T2, x, y, rfl, hT, rfl, hx, hy⟩ := hy
        cases hx
        obtain ⟨hi2, rfl⟩ := int_at hy
        rw [length_iN] at hi2
        have hlt := hm.lt i (by omega)
        have hinv := hm.inv i (by omega)
        have hopp := hm.opp i (by omega)
        rw [iN_getD hi2]
        have e4 := ext E2 (ext e' (exn (o := .tup [.int (i : Int), .int ((m.getD i 0 : Nat) : Int)]) hT))
        refine ⟨T2, _, rfl, sq_t upd_same, rfl, _, _, rfl, _, _, rfl, rfl, rfl, fun Q q => ?_⟩
        refine ⟨_, rfl, _, rfl, b, _, _, _, rfl, rfl, sq_t (e4 _ _ hb), ati_iN (by omega), _, rfl, rfl, _, rfl, ?_⟩
        rw [hinv, decide_eq_true (rfl : V.int (i : Int) = V.int (i : Int))]
        refine iteT ?_
        refine ⟨_, rfl, _, rfl, a, _, _, _, rfl, rfl, sq_f (ha.mono e4), ati_int hlt, _, rfl, _, rfl, a, _, _, _, rfl, rfl, sq_f (ha.mono e4), ati_int (by omega), _, rfl, rfl, ?_⟩
        rw [hopp, decide_eq_true (rfl : V.int _ = V.int _)]
        exact q _ (exn hT)
      rw [bl_true] at h
      refine ⟨D2, _, rfl, sq_l h, ?_⟩
      rw [all_true]
      exact q _ (ext E2 e3)
end
end Hw
/-! W14 -/
/-! W14: class Sewing. -/
namespace Hw
open PySem PySem.Spec PyProof.Rows L2 HR RZ
/-- a sewing of rims ws with mates m -/
def SewAt (K : PySem.W.Frag) (H : Hp) (x : Addr) (ws : List (List Int)) (m : List Nat) : Prop := ∃ (dx r tm tc tp : Addr) (xs : List V) (hd : Int), H x = some (.ins (cSewing K) dx [("rims", .ref r), ("mates", .ref tm), ("corners", .ref tc), ("cost", .int (costF ws m)), ("pieces", .ref tp), ("handles", .int hd)]) ∧
  RimsAt K H r ws ∧ IT H tm (iN m) ∧ ROk ws ∧ Mt ws.flatten m ∧ (ws.length = 1 → hd = (1 + costF ws m) / 2)
theorem SewAt.lx {K : PySem.W.Frag} {H H' : Hp} {x : Addr} {ws : List (List Int)} {m : List Nat} (e : Lx H H') (h : SewAt K H x ws m) : SewAt K H' x ws m := by
  obtain ⟨dx, r, tm, tc, tp, xs, hd, h1, h2, h3, h4⟩ := h
  exact ⟨dx, r, tm, tc, tp, xs, hd, e _ _ h1 (fun _ z => nomatch z) (fun _ z => nomatch z) (fun _ z => nomatch z), h2.lx e, h3.lx e, h4⟩
theorem SewAt.mono {K : PySem.W.Frag} {H H' : Hp} {x : Addr} {ws : List (List Int)} {m : List Nat} (e : Ex H H') (h : SewAt K H x ws m) : SewAt K H' x ws m := h.lx e.lx
theorem RimsAt.off {K : PySem.W.Frag} {H H' : Hp} {x dx C r : Addr} {ws : List (List Int)} (hx : H x = some (.ins C dx [])) (k : ∀ b o, b ≠ x → H b = some o → H' b = some o) (h : RimsAt K H r ws) : RimsAt K H' r ws := by
  obtain ⟨dy, tw, tl, tn, tm, ps, h1, h2, h3, ⟨o, h4, h4'⟩, h5, h6⟩ := h
  have n1 : r ≠ x := fun z => by
    rw [z, hx] at h1
    have := (HO.ins.inj (Option.some.inj h1)).2.2
    cases this
  have n2 : ∀ {a : Addr} {xs : List V}, H a = some (.tup xs) → a ≠ x := fun h z => by
    rw [z, hx] at h
    cases h
  have n3 : tl ≠ x := fun z => by
    rw [z, hx] at h4
    cases h4
  exact ⟨dy, tw, tl, tn, tm, ps, k _ _ n1 h1, k _ _ (n2 h2) h2, h3.off hx k, ⟨o, k _ _ n3 h4, h4'⟩, k _ _ (n2 h5) h5, k _ _ (n2 h6) h6⟩
theorem LT.off {H H' : Hp} {x dx C b : Addr} {m : List Nat} (hx : H x = some (.ins C dx [])) (k : ∀ b o, b ≠ x → H b = some o → H' b = some o) (h : LT H b m) : LT H' b m := by
  have n1 : b ≠ x := fun z => by
    subst z
    rcases h with h | h
    · have h : H b = _ := h
      rw [hx] at h
      cases h
    · have h : H b = _ := h
      rw [hx] at h
      cases h
  exact h.imp (fun h => k _ _ n1 h) fun h => k _ _ n1 h
section
variable {P : Program} {w : World} {K : PySem.W.Frag} {mg : Str → Option Value} {base : Heap}
def sp_Sewing (K : PySem.W.Frag) : Sp := fun vs H Q _ => ∃ (x dx r b : Addr) (ws : List (List Int)) (m : List Nat), vs = [.ref x, .ref r, .ref b] ∧ H x = some (.ins (cSewing K) dx []) ∧ RimsAt K H r ws ∧ LT H b m ∧ ROk ws ∧ Mt ws.flatten m ∧
  ∀ H', (∀ b o, b ≠ x → H b = some o → H' b = some o) → SewAt K H' x ws m → Q .non H'
abbrev N_Sewing_init : List Str := ["self", "rims", "mates"]
theorem sc_Sewing_init : FnScope N_Sewing_init ["self", "rims", "mates"] (C8.fnScope s_Sewing_init) := C8.fnScope_by (by decide +kernel)
theorem k_Sewing (T : Txt K mg) : C8.Mak P w K mg base 4 "Sewing" (cSewing K) (sp_Sewing K) [] := by
  have nd := sc_Sewing_init.nd
  refine makn T.m_Sewing_init T.k_Sewing T.g_Sewing sc_Sewing_init (fun vs H Q E h => ?_) (fun _ _ _ _ _ _ us hl => match us, hl with | [_, _, _], _ => rfl) (fun f cdv A outer s H vs Q E hr h => ?_)
  · obtain ⟨x, dx, r, b, ws, m, rfl, _⟩ := h
    rfl
  · obtain ⟨x, dx, r, b, ws, m, rfl, hx, hr', hb, ok, hm, q⟩ := h
    have cl := T.i_Sewing.cl
    refine ⟨_, (pss_cons (ps_expr (C8.pe_c (k_need_rims T) hr (by decide) (by rfl) (pa_cons (pv 1) pa_nil)))
        (pss_cons (ps_if (pt_not (pt_val (C8.pe_c (k_are_mates T) hr (by decide) (by rfl) (pa_cons (pe_fld (pv 1) rfl) (pa_cons (pv 2) pa_nil)))))
        (pss_one ps_never)
        pss_nil)
        (pss_cons (ps_fld (pv 0) (pv 1) rfl)
        (pss_cons (ps_fld (pv 0) (pe_callTy call_tupG (by rfl) T.z_tuple (by decide +kernel) (pa_cons (pv 2) pa_nil)) rfl)
        (pss_cons (ps_fld (pv 0) (C8.pe_c (k_corners_of T) hr (by decide) (by rfl) (pa_cons (pe_fld (pv 1) rfl) (pa_cons (pv 2) pa_nil))) rfl)
        (pss_cons (ps_fld (pv 0) (pe_op op_sub (pe_fld (pv 1) rfl) (pe_callB call_len_seq (by rfl) T.z_len PySem.boot_len (pa_cons (pe_fld (pv 0) rfl) pa_nil))) rfl)
        (pss_cons (ps_fld (pv 0) (C8.pe_c (k_pieces_of T) hr (by decide) (by rfl) (pa_cons (pe_fld (pv 1) rfl) (pa_cons (pv 2) pa_nil))) rfl)
        (pss_one (ps_fld (pv 0) (pe_op op_fdiv (pe_op op_add (pe_op op_sub (pe_op op_mul pe_int (pe_callB call_len_seq (by rfl) T.z_len PySem.boot_len (pa_cons (pe_fld (pv 0) rfl) pa_nil))) (pe_callB call_len_seq (by rfl) T.z_len PySem.boot_len (pa_cons (pe_fld (pv 1) rfl) pa_nil))) (pe_fld (pv 0) rfl)) pe_int) rfl))))))))), ?_⟩
    obtain ⟨dr, tw, tl, tn, tu, ps, g1, g2, g3, g4, g5, g6⟩ := id hr'
    have hlen := length_flat ws
    have hsz := ok.sz
    have hbij := phi_bij hm
    have nrx : r ≠ x := fun z => by
      rw [z, hx] at g1
      have := (HO.ins.inj (Option.some.inj g1)).2.2
      cases this
    have nbx : b ≠ x := fun z => by
      subst z
      rcases hb with hb | hb
      · have hb : H b = _ := hb
        rw [hx] at hb
        cases hb
      · have hb : H b = _ := hb
        rw [hx] at hb
        cases hb
    have tne : ∀ {a : Addr} {xs : List V}, H a = some (.tup xs) → a ≠ x := fun h z => by
      rw [z, hx] at h
      cases h
    have nx : ∀ {H' : Hp} {b : Addr} {o u : HO}, b ≠ x → H' b = some o → upd H' x u b = some o := fun n h => (upd_ne n).trans h
    have tne2 : ∀ {H' : Hp} {a : Addr} {xs : List V} {o : List (Str × V)}, H' x = some (.ins (cSewing K) dx o) → H' a = some (.tup xs) → a ≠ x := fun h0 h z => by
      rw [z, h0] at h
      cases h
    refine ⟨_, rfl, r, ws, rfl, hr', ?_⟩
    refine ⟨_, rfl, r, _, dr, _, _, rfl, g1, T.i_Rims.cl, T.n_Rims_letters, rfl, _, rfl, tl, b, ws.flatten, m, rfl, g4, hb, hm, by omega, fun H1 e1 => ⟨_, rfl, iteF ?_⟩⟩
    have hx1 := e1 _ _ hx
    -- rims
    refine ⟨_, rfl, _, rfl, x, _, dx, _, rfl, hx1, cl, T.n_Sewing_rims, (show 0 < 1000 by decide), ?_⟩
    have k1 : ∀ u b o, b ≠ x → H b = some o → upd H1 x u b = some o := fun u b o n h => nx n (e1 _ _ h)
    -- mates
    refine ⟨_, rfl, b, (iN m).map V.int, rfl, hb.off hx (k1 _), fun tm H2 e2 htm => ?_⟩
    have hx2 := e2 _ _ (upd_same (H := H1) (a := x))
    refine ⟨_, rfl, x, _, dx, _, rfl, hx2, cl, T.n_Sewing_mates, (show 1 < 1000 by decide), ?_⟩
    have ntm := tne2 hx2 htm
    have k2 : ∀ u b o, b ≠ x → H b = some o → upd H2 x u b = some o := fun u b o n h => nx n (e2 _ _ (k1 _ b o n h))
    -- corners
    refine ⟨_, rfl, r, _, dr, _, _, rfl, k2 _ _ _ nrx g1, T.i_Rims.cl, T.n_Rims_nexts, rfl, _, rfl, tn, b, nxF 0 (lens ws), m, rfl, k2 _ _ _ (tne g5) g5, hb.off hx (k2 _), ?_, ?_, ?_, ?_, fun tc xs H3 e3 htc hxs => ?_⟩
    · rw [length_nxF, hm.len, hlen]
    · rw [hm.len]
      omega
    · rw [hm.len]
      exact hm.lt
    · rw [hm.len]
      exact hbij
    have hx3 := e3 _ _ (upd_same (H := H2) (a := x))
    refine ⟨_, rfl, x, _, dx, _, rfl, hx3, cl, T.n_Sewing_corners, (show 2 < 1000 by decide), ?_⟩
    have ntc := tne2 hx3 htc
    have k3 : ∀ u b o, b ≠ x → H b = some o → upd H3 x u b = some o := fun u b o n h => nx n (e3 _ _ (k2 _ b o n h))
    -- cost
    refine ⟨_, rfl, r, _, dr, _, _, rfl, k3 _ _ _ nrx g1, T.i_Rims.cl, T.n_Rims_bands, rfl, _, rfl, x, _, dx, _, _, rfl, upd_same, cl, T.n_Sewing_corners, rfl, tc, xs, rfl, .inr (sq_t (nx ntc htc)), _, _, rfl, rfl, ?_⟩
    have hcost : (((ws.flatten.length / 2 : Nat) : Int) - (xs.length : Int)) = costF ws m := by
      unfold costF
      rw [hxs, hm.len]
    refine ⟨_, rfl, x, _, dx, _, rfl, upd_same, cl, T.n_Sewing_cost, (show 3 < 1000 by decide), ?_⟩
    rw [upd_upd]
    -- pieces
    have hpos : ∀ l ∈ lens ws, 0 < l := fun l hl => by
      obtain ⟨w, hw, rfl⟩ := List.mem_map.mp hl
      exact List.length_pos_iff.mpr (ok.ok w hw).2
    have hne : lens ws ≠ [] := fun z => by
      have := ok.few.1
      rw [show ws = [] from List.map_eq_nil_iff.mp z] at this
      simp at this
    have hll : (lens ws).length = ws.length := List.length_map _
    have hsp : 0 < (lens ws).sum := by
      obtain ⟨l, r, hl⟩ := List.exists_cons_of_ne_nil hne
      have h1 := hpos l (by rw [hl]; exact List.mem_cons_self)
      rw [hl, List.sum_cons]
      omega
    have hlast := nuF_last 0 (lens ws) hpos hne
    refine ⟨_, rfl, r, _, dr, _, _, rfl, k3 _ _ _ nrx g1, T.i_Rims.cl, T.n_Rims_numbers, rfl, _, rfl, tu, b, nuF 0 (lens ws), m, ws.length, rfl, k3 _ _ _ (tne g6) g6, hb.off hx (k3 _), ?_, ?_, ?_, ?_, ?_, ?_, ?_, fun tp zs H4 e4 htp hzs hz1 => ?_⟩
    · rw [length_nuF, hm.len, hlen]
    · rw [hm.len]
      omega
    · rw [hm.len]
      omega
    · rw [hm.len]
      exact hm.lt
    · intro z hz
      rw [length_nuF] at hz
      have := (nuF_getD 0 (lens ws) z hz).2
      omega
    · rw [hm.len, hlen, hlast, hll]
      omega
    · have := ok.few.2
      omega
    have hx4 := e4 _ _ (upd_same (H := H3) (a := x))
    refine ⟨_, rfl, x, _, dx, _, rfl, hx4, cl, T.n_Sewing_pieces, (show 4 < 1000 by decide), ?_⟩
    have ntp := tne2 hx4 htp
    have k4 : ∀ u b o, b ≠ x → H b = some o → upd H4 x u b = some o := fun u b o n h => nx n (e4 _ _ (k3 _ b o n h))
    -- handles
    refine ⟨_, rfl, x, _, dx, _, _, rfl, upd_same, cl, T.n_Sewing_pieces, rfl, tp, zs, rfl, .inr (sq_t (nx ntp htp)), _, _, rfl, rfl, .inl ⟨by decide, by decide⟩, ?_⟩
    refine ⟨_, rfl, r, _, dr, _, _, rfl, k4 _ _ _ nrx g1, T.i_Rims.cl, T.n_Rims_words, rfl, tw, _, rfl, .inr (sq_t (k4 _ _ _ (tne g2) g2)), _, _, rfl, rfl, ?_⟩
    refine ⟨_, rfl, x, _, dx, _, _, rfl, upd_same, cl, T.n_Sewing_cost, rfl, _, _, rfl, rfl, _, _, rfl, rfl, ⟨by decide, by decide⟩, ?_⟩
    refine ⟨_, rfl, x, _, dx, _, rfl, upd_same, cl, T.n_Sewing_handles, (show 5 < 1000 by decide), ?_⟩
    rw [upd_upd]
    have hobj : ∀ h : Int, some (HO.ins (cSewing K) dx [("rims", V.ref r), ("mates", .ref tm), ("corners", .ref tc), ("cost", .int (((ws.flatten.length / 2 : Nat) : Int) - (xs.length : Int))), ("pieces", .ref tp), ("handles", .int h)]) = some (HO.ins (cSewing K) dx [("rims", V.ref r), ("mates", .ref tm), ("corners", .ref tc), ("cost", .int (costF ws m)), ("pieces", .ref tp), ("handles", .int h)]) := fun h => by rw [hcost]
    refine q _ (k4 _) ⟨dx, r, tm, tc, tp, zs, _, upd_same.trans (hobj _), hr'.off hx (k4 _), ?_, ok, hm, fun h1 => ?_⟩
    · exact nx ntm (e4 _ _ (nx ntm (e3 _ _ (nx ntm htm))))
    · rw [hz1 h1, mlr, g3.1, h1]
      rw [← hcost]
      show (2 * (1 : Int) - 1 + _) / 2 = _
      congr 1
abbrev N_Sewing_eq : List Str := ["self", "other"]
theorem sc_Sewing_eq : FnScope N_Sewing_eq ["self", "other"] (C8.fnScope s_Sewing_eq) := C8.fnScope_by (by decide +kernel)
def RSw (K : PySem.W.Frag) (a b : Addr) (H : Hp) : Prop := ∃ ws m, SewAt K H a ws m ∧ SewAt K H b ws m
theorem m_seq (T : Txt K mg) : C8.Met P w K mg base 5 (cSewing K) "__eq__" (spEq (RSw K)) [] := by
  have nd := sc_Sewing_eq.nd
  refine metn T.m_Sewing_eq T.i_Sewing.cl sc_Sewing_eq (fun vs H Q E h => ?_) (fun _ _ _ _ _ _ us hl => match us, hl with | [_, _], _ => rfl) (fun f cdv A outer s H vs Q E hr h => ?_)
  · obtain ⟨a, b, rfl, _⟩ := h
    rfl
  · obtain ⟨a, b, rfl, ⟨ws, m, hw, hw2⟩, q⟩ := h
    obtain ⟨dx, r, tm, tc, tp, xs, hd, h1, h2, h3, h4⟩ := hw
    obtain ⟨dx', r', tm', tc', tp', xs', hd', h1', h2', h3', h4'⟩ := hw2
    obtain ⟨d1, _, _, _, _, _, g1, _⟩ := id h2
    obtain ⟨d2, _, _, _, _, _, g2, _⟩ := id h2'
    refine ⟨_, (pss_one (ps_ret (pe_and (pe_callB (C8.call_isC T.i_Sewing) (by rfl) T.z_isinstance (by decide +kernel) (pa_cons (pv 1) (pa_cons (pe_glob (v := .ref (cSewing K)) (by rfl) T.g_Sewing rfl) pa_nil))) (pe_and (pe_cmpR (op_eqG (rcG_of (m_req T)) hr) (pe_fld (pv 0) rfl) (pe_fld (pv 1) rfl) (nomark _)) (pe_one (pe_cmpR (op_eqD hr.units) (pe_fld (pv 0) rfl) (pe_fld (pv 1) rfl) (nomark _))))))), ?_⟩
    refine ⟨_, rfl, b, dx', _, rfl, h1', _, rfl, iteT ?_⟩
    refine ⟨_, rfl, a, _, dx, _, _, rfl, h1, T.i_Sewing.cl, T.n_Sewing_rims, rfl, _, rfl, b, _, dx', _, _, rfl, h1', T.i_Sewing.cl, T.n_Sewing_rims, rfl, ⟨r, r', d1, d2, _, _, rfl, rfl, g1, g2, ws, h2, h2'⟩, fun H' e => ?_⟩
    refine ⟨_, rfl, iteT ?_⟩
    refine ⟨_, rfl, a, _, dx, _, _, rfl, e _ _ h1, T.i_Sewing.cl, T.n_Sewing_mates, rfl, _, rfl, b, _, dx', _, _, rfl, e _ _ h1', T.i_Sewing.cl, T.n_Sewing_mates, rfl, _, _, dp_t (h3.mono e), dp_t (h3'.mono e), sh_t _, sh_t _, ?_⟩
    rw [eq_t, decide_eq_true rfl]
    exact q _ e
end
end Hw
/-! W15 -/
/-! W15: all_sewings. -/
namespace Hw
open PySem PySem.Spec PyProof.Rows L2 HR RZ
theorem bal_count {ls : List Int} (h : Bal ls) (k : Int) : ls.count k = ls.count (-k) := by
  rcases Int.lt_trichotomy k 0 with h1 | h1 | h1
  · have := balF_count (k := -k) (by omega) ls
    rw [h, Int.neg_neg] at this
    omega
  · subst h1
    rfl
  · have := balF_count h1 ls
    rw [h] at this
    omega
section
variable {P : Program} {w : World} {K : PySem.W.Frag} {mg : Str → Option Value} {base : Heap}
/-- Sewing(rims, mates) -/
theorem mkSewing {r b : Addr} {ws : List (List Int)} {m : List Nat} {Q : VK} {E : XK} {H1 : Hp} (hr : RimsAt K H1 r ws) (hb : LT H1 b m) (ok : ROk ws) (hm : Mt ws.flatten m) (q : ∀ y H', Ex H1 H' → SewAt K H' y ws m → Q (.ref y) H') (x dx : Addr) (nx : H1 x = none) (nd : H1 dx = none) (ne : dx ≠ x) :
    sp_Sewing K (.ref x :: ([.ref r, .ref b] ++ [])) (upd (upd H1 dx (.own x)) x (.ins (cSewing K) dx [])) (fun v H2 => v = .non ∧ Q (.ref x) H2) E :=
  ⟨x, dx, r, b, ws, m, rfl, upd_same, hr.mono (exb nx nd), hb.mono (exb nx nd), ok, hm, fun H' kp hs => ⟨rfl, q x H' (ex_made nx nd kp) hs⟩⟩
def sp_all_sewings (K : PySem.W.Frag) : Sp := fun vs H Q _ => ∃ (r : Addr) (ws : List (List Int)), vs = [.ref r] ∧ RimsAt K H r ws ∧ ROk ws ∧ Few ws ∧
  ∀ p (ps : List Addr) (mss : List (List Nat)) H', Ex H H' → H' p = some (.tup (ps.map V.ref)) → ps.length = mss.length → mss ≠ [] → mss.length ≤ 720 → (∀ m, m ∈ mss ↔ Mt ws.flatten m) → (∀ i, i < mss.length → SewAt K H' (ps.getD i 0) ws (mss.getD i [])) → Q (.ref p) H'
abbrev N_all_sewings : List Str := ["rims", "mates"]
theorem sc_all_sewings : FnScope N_all_sewings ["rims"] (C8.fnScope s_all_sewings) := C8.fnScope_by (by decide +kernel)
theorem k_all_sewings (T : Txt K mg) : C8.Cal P w K mg base 6 "all_sewings" (sp_all_sewings K) [] := by
  have nd := sc_all_sewings.nd
  refine defn T.d_all_sewings sc_all_sewings (fun vs H Q E h => ?_) (fun _ _ _ _ _ _ us hl => match us, hl with | [_], _ => rfl) (fun f cdv A outer s H vs Q E hr h => ?_)
  · obtain ⟨r, ws, rfl, _⟩ := h
    rfl
  · obtain ⟨r, ws, rfl, hr0, ok, few, q⟩ := h
    have hbc := bal_count ok.bal
    have hne : ws.flatten ≠ [] := fun z => by
      obtain ⟨h1, _⟩ := ok.few
      match ws, h1, ok.ok, z with
      | w :: ws, _, h, z =>
        rw [List.flatten_cons] at z
        exact (h w List.mem_cons_self).2 (List.append_eq_nil_iff.mp z).1
    refine ⟨_, (pss_cons (ps_expr (C8.pe_c (k_need_few_sewings T) hr (by decide) (by rfl) (pa_cons (pv 0) pa_nil)))
        (pss_one (ps_ret (pe_callTy call_tupG (by rfl) T.z_tuple (by decide +kernel) (pa_cons (pe_lc (own := [("mates", 1)]) (by rfl) nd (pi_list (C8.pe_c (k_all_mates T) hr (by decide) (by rfl) (pa_cons (pe_fld (pv 0) rfl) pa_nil))) (blkOk_by (own := [("mates", 1)]) (N := N_all_sewings) (sc := C8.fnScope s_all_sewings) (by decide +kernel)) (fun _ _ _ _ _ => (pg_name (i := 1) nd rfl (.inl rfl))) (fun _ _ _ _ _ => pts_nil) (fun _ _ _ _ _ => (C8.pe_mk (k_Sewing T) hr (by decide) (by rfl) (pa_cons (pv 0) (pa_cons (pv 1) pa_nil))))) pa_nil))))), ?_⟩
    refine ⟨_, rfl, r, ws, rfl, hr0, ok, few, fun H1 e1 => ?_⟩
    have hr1 := hr0.mono e1
    obtain ⟨dr, tw, tl, tn, tm, qs, h1, h2, h3, h4, h5, h6⟩ := id hr1
    refine ⟨_, rfl, r, _, dr, _, _, rfl, h1, T.i_Rims.cl, T.n_Rims_letters, rfl, tl, _, rfl, h4, ok.sz, hne, ok.let_, few.c4, hbc, few.many, fun p as mss ks H2 e2 hks hmem hp hal hai hperm => ?_⟩
    have hmm : ∀ m, m ∈ mss ↔ Mt ws.flatten m := fun m => by
      rw [hperm.mem_iff]
      exact mem_amF few.c4 hbc (fun l hl => (ok.let_ l hl).2.2) hks hmem m
    have hk1 : ∀ k ∈ ks, 1 ≤ ws.flatten.count k := fun k hk => by
      obtain ⟨l, hl', e⟩ := (hmem k).mp hk
      have h1 : 1 ≤ ws.flatten.count l := List.count_pos_iff.mpr hl'
      rcases absI_cases l with h | h
      · rw [e, ← h]
        exact h1
      · rw [e, hbc, ← h]
        exact h1
    have hlen : mss.length = manyF ws.flatten := by
      rw [hperm.length_eq]
      unfold amF
      rw [length_amF few.c4 hbc _ _ hk1, many_kinds ok.let_ hks hmem]
      simp
    have hpos : 1 ≤ manyF ws.flatten := prodG_pos (fun k => fac_pos _) _
    have hmany := few.many
    refine ⟨p, rfl, ⟨_, sq_l hp⟩, fun D hD => ?_⟩
    refine lc_all walk_list (by rw [mlr]; omega) (fun i y H' => ∃ t, y = .ref t ∧ SewAt K H' t ws (mss.getD i [])) hD (fun H' e => sq_l (e _ _ hp)) (fun i y H3 H4 kp h => ?_) (fun i x Hc H3 hi e3 hz hy => ?_) gmN (fun ys H3 e3 h3 hyl hys => ?_)
    · obtain ⟨t, rfl, h⟩ := h
      exact ⟨t, rfl, h.lx kp.lx⟩
    · obtain ⟨rfl, hx⟩ := hy
      obtain ⟨hi', rfl⟩ := ref_at hx
      have hib : i < mss.length := by omega
      refine ⟨rfl, fun Q q => ⟨_, rfl, _, rfl, ?_⟩⟩
      exact mkSewing (hr1.mono (ext e2 e3)) (.inr ((hai i hib).mono e3)) ok ((hmm _).mp (mem_getDD hib)) fun y H' e4 hy => q _ _ e4 ⟨y, rfl, hy⟩
    · rw [mlr] at hyl
      have hdec : ∃ bs : List Addr, ys = bs.map V.ref := by
        have : ∀ l : List V, (∀ y ∈ l, ∃ s, y = V.ref s) → ∃ bs : List Addr, l = bs.map V.ref := fun l => by
          induction l with
          | nil => exact fun _ => ⟨[], rfl⟩
          | cons y l ih =>
            intro h
            obtain ⟨s, rfl⟩ := h y List.mem_cons_self
            obtain ⟨bs, rfl⟩ := ih fun z hz => h z (List.mem_cons_of_mem _ hz)
            exact ⟨s :: bs, rfl⟩
        refine this ys fun y hy => ?_
        obtain ⟨i, hi, e⟩ := List.getElem_of_mem hy
        obtain ⟨s, e2, _⟩ := hys i y (by rw [← e]; exact List.getElem?_eq_getElem hi)
        exact ⟨s, e2⟩
      obtain ⟨bs, rfl⟩ := hdec
      rw [mlr] at hyl
      refine ⟨D, _, rfl, .inl h3, fun l H4 e4 h5 => q l bs mss H4 (ext e1 (ext e2 (ext e3 e4))) h5 (by omega) (fun z => by rw [z] at hlen; simp at hlen; omega) (by omega) hmm fun i hi => ?_⟩
      obtain ⟨t, e5, h6⟩ := hys _ _ (at_ref (ps := bs) (show i < bs.length by omega))
      rw [V.ref.inj e5]
      exact h6.mono e4
end
end Hw
/-! W16 -/
/-! W16: papers. -/
namespace Hw
open PySem PySem.Spec PyProof.Rows L2 HR RZ
section
variable {P : Program} {w : World} {K : PySem.W.Frag} {mg : Str → Option Value} {base : Heap}
abbrev N_fixed : List Str := ["value", "each"]
theorem sc_fixed : FnScope N_fixed ["value"] (C8.fnScope s_fixed) := C8.fnScope_by (by decide +kernel)
def sp_fixed0 : Sp := fun vs H Q _ => ∃ n : Int, vs = [.int n] ∧ ∀ H', Ex H H' → Q (.int n) H'
theorem k_fixed0 (T : Txt K mg) : C8.Cal P w K mg base 1 "fixed" sp_fixed0 [] := by
  have nd := sc_fixed.nd
  refine defn T.d_fixed sc_fixed (fun vs H Q E h => ?_) (fun _ _ _ _ _ _ us hl => match us, hl with | [_], _ => rfl) (fun f cdv A outer s H vs Q E hr h => ?_)
  · obtain ⟨n, rfl, _⟩ := h
    rfl
  · obtain ⟨n, rfl, q⟩ := h
    refine ⟨_, (pss_cons (ps_if (pt_val (pe_callB call_isiT (by rfl) T.z_isinstance (by decide +kernel) (pa_cons (pv 0) (pa_cons (pe_tup (pa_cons (pe_bltn (v := .ty "list") (by rfl) T.z_list (by decide +kernel) rfl) (pa_cons (pe_bltn (v := .ty "tuple") (by rfl) T.z_tuple (by decide +kernel) rfl) pa_nil))) pa_nil))))
      (pss_one ps_never)
      pss_nil)
      (pss_one (ps_ret (pv 0)))), ?_⟩
    refine ⟨_, rfl, by decide, fun p hp => ?_⟩
    refine ⟨_, _, _, _, _, _, rfl, upd_same, .cons (.ty _) (.cons (.ty _) .nil), .base (.int _), kitAny_cons (b := false) (kit_ty (by decide +kernel)) (fun _ => kitAny_cons (b := false) (kit_ty (by decide +kernel)) (fun _ => kitAny_nil) (fun z => nomatch z)) (fun z => nomatch z), _, rfl, iteF ?_⟩
    exact ⟨_, rfl, q _ (exn hp)⟩
def sp_fixed1 : Sp := fun vs H Q _ => (∃ n : Int, vs = [.int n] ∧ ∀ H', Ex H H' → Q (.int n) H') ∨ ∃ (a : Addr) (ns : List Int), vs = [.ref a] ∧ IT H a ns ∧ ns.length ≤ 1000 ∧ ∀ p H', Ex H H' → IT H' p ns → Q (.ref p) H'
theorem k_fixed1 (T : Txt K mg) : C8.Cal P w K mg base 2 "fixed" sp_fixed1 [] := by
  have nd := sc_fixed.nd
  refine defn T.d_fixed sc_fixed (fun vs H Q E h => ?_) (fun _ _ _ _ _ _ us hl => match us, hl with | [_], _ => rfl) (fun f cdv A outer s H vs Q E hr h => ?_)
  · rcases h with ⟨n, rfl, _⟩ | ⟨a, ns, rfl, _⟩
    · rfl
    · rfl
  · refine ⟨_, (pss_cons (ps_if (pt_val (pe_callB call_isiT (by rfl) T.z_isinstance (by decide +kernel) (pa_cons (pv 0) (pa_cons (pe_tup (pa_cons (pe_bltn (v := .ty "list") (by rfl) T.z_list (by decide +kernel) rfl) (pa_cons (pe_bltn (v := .ty "tuple") (by rfl) T.z_tuple (by decide +kernel) rfl) pa_nil))) pa_nil))))
        (pss_one (ps_ret (pe_callTy call_tupG (by rfl) T.z_tuple (by decide +kernel) (pa_cons (pe_lc (own := [("each", 1)]) (by rfl) nd (pi_tup (pv 0)) (blkOk_by (own := [("each", 1)]) (N := N_fixed) (sc := C8.fnScope s_fixed) (by decide +kernel)) (fun _ _ _ _ _ => (pg_name (i := 1) nd rfl (.inl rfl))) (fun _ _ _ _ _ => pts_nil) (fun _ _ _ _ _ => (C8.pe_c (k_fixed0 T) hr (by decide) (by rfl) (pa_cons (pv 1) pa_nil)))) pa_nil))))
        pss_nil)
        (pss_one (ps_ret (pv 0)))), ?_⟩
    rcases h with ⟨n, rfl, q⟩ | ⟨a, ns, rfl, ha, hn, q⟩
    · refine ⟨_, rfl, by decide, fun p hp => ?_⟩
      refine ⟨_, _, _, _, _, _, rfl, upd_same, .cons (.ty _) (.cons (.ty _) .nil), .base (.int _), kitAny_cons (b := false) (kit_ty (by decide +kernel)) (fun _ => kitAny_cons (b := false) (kit_ty (by decide +kernel)) (fun _ => kitAny_nil) (fun z => nomatch z)) (fun z => nomatch z), _, rfl, iteF ?_⟩
      exact ⟨_, rfl, q _ (exn hp)⟩
    · refine ⟨_, rfl, by decide, fun p hp => ?_⟩
      have ha2 := exn (o := .tup [V.ty "list", V.ty "tuple"]) hp _ _ ha
      refine ⟨_, _, _, _, _, _, rfl, upd_same, .cons (.ty _) (.cons (.ty _) .nil), .base (.tup ha2), kitAny_cons (b := false) (kit_ty (by decide +kernel)) (fun _ => kitAny_cons (b := true) (kit_ty (by decide +kernel)) (fun z => nomatch z) (fun _ => rfl)) (fun z => nomatch z), _, rfl, iteT ?_⟩
      refine ⟨_, rfl, a, rfl, ⟨_, sq_t ha2⟩, fun D hD => ?_⟩
      refine lc_val walk_tup (by rw [ml]; omega) (fun i => .int (ns.getD i 0)) hD (fun H' e => sq_t (e _ _ ha2)) (fun i x Hc H' hi e hy => ?_) gmN (fun H' e h => ?_)
      · obtain ⟨rfl, hx⟩ := hy
        obtain ⟨_, rfl⟩ := int_at hx
        exact ⟨rfl, fun Q q => ⟨_, rfl, _, rfl, fun H2 e2 => q _ e2⟩⟩
      · refine ⟨D, _, rfl, .inl h, fun l H2 e2 h2 => q l _ (ext (exn hp) (ext e e2)) ?_⟩
        show H2 l = _
        rw [h2, ml, rmap_at (l := ns) (f := fun z => V.int z) (d := 0)]
/-- a value of ints, or tuples of ints -/
def FixV (H : Hp) (x : V) : Prop := (∃ n : Int, x = .int n) ∨ ∃ (a : Addr) (ns : List Int), x = .ref a ∧ IT H a ns ∧ ns.length ≤ 1000
def sp_fixed2 : Sp := fun vs H Q _ => ∃ (a : Addr) (xs : List V), vs = [.ref a] ∧ H a = some (.tup xs) ∧ xs.length ≤ 1000 ∧ (∀ x ∈ xs, FixV H x) ∧ ∀ p ys H', Ex H H' → H' p = some (.tup ys) → ys.length = xs.length → (∀ (i : Nat) (n : Int), xs[i]? = some (V.int n) → ys[i]? = some (V.int n)) → Q (.ref p) H'
theorem k_fixed2 (T : Txt K mg) : C8.Cal P w K mg base 3 "fixed" sp_fixed2 [] := by
  have nd := sc_fixed.nd
  refine defn T.d_fixed sc_fixed (fun vs H Q E h => ?_) (fun _ _ _ _ _ _ us hl => match us, hl with | [_], _ => rfl) (fun f cdv A outer s H vs Q E hr h => ?_)
  · obtain ⟨a, ns, rfl, _⟩ := h
    rfl
  · obtain ⟨a, xs, rfl, ha, hn, hx, q⟩ := h
    refine ⟨_, (pss_cons (ps_if (pt_val (pe_callB call_isiT (by rfl) T.z_isinstance (by decide +kernel) (pa_cons (pv 0) (pa_cons (pe_tup (pa_cons (pe_bltn (v := .ty "list") (by rfl) T.z_list (by decide +kernel) rfl) (pa_cons (pe_bltn (v := .ty "tuple") (by rfl) T.z_tuple (by decide +kernel) rfl) pa_nil))) pa_nil))))
        (pss_one (ps_ret (pe_callTy call_tupG (by rfl) T.z_tuple (by decide +kernel) (pa_cons (pe_lc (own := [("each", 1)]) (by rfl) nd (pi_tup (pv 0)) (blkOk_by (own := [("each", 1)]) (N := N_fixed) (sc := C8.fnScope s_fixed) (by decide +kernel)) (fun _ _ _ _ _ => (pg_name (i := 1) nd rfl (.inl rfl))) (fun _ _ _ _ _ => pts_nil) (fun _ _ _ _ _ => (C8.pe_c (k_fixed1 T) hr (by decide) (by rfl) (pa_cons (pv 1) pa_nil)))) pa_nil))))
        pss_nil)
        (pss_one (ps_ret (pv 0)))), ?_⟩
    refine ⟨_, rfl, by decide, fun p hp => ?_⟩
    have e0 := exn (o := .tup [V.ty "list", V.ty "tuple"]) hp
    have ha2 := e0 _ _ ha
    refine ⟨_, _, _, _, _, _, rfl, upd_same, .cons (.ty _) (.cons (.ty _) .nil), .base (.tup ha2), kitAny_cons (b := false) (kit_ty (by decide +kernel)) (fun _ => kitAny_cons (b := true) (kit_ty (by decide +kernel)) (fun z => nomatch z) (fun _ => rfl)) (fun z => nomatch z), _, rfl, iteT ?_⟩
    refine ⟨_, rfl, a, rfl, ⟨_, sq_t ha2⟩, fun D hD => ?_⟩
    refine lc_all walk_tup (by omega) (fun i (y : V) H' => ∀ n, xs[i]? = some (V.int n) → y = V.int n) hD (fun H' e => sq_t (e _ _ ha2)) (fun i y H' H'' _ h => h) (fun i x Hc H' hi e hz hy => ?_) gmN (fun ys H' e h hyl hys => ?_)
    · obtain ⟨rfl, hy⟩ := hy
      refine ⟨rfl, fun Q q => ⟨_, rfl, ?_⟩⟩
      rcases hx x (List.mem_of_getElem? hy) with ⟨n, rfl⟩ | ⟨b, ns, rfl, hb, hbn⟩
      · refine .inl ⟨n, rfl, fun H2 e2 => q _ _ e2 fun m hm => ?_⟩
        rw [hy] at hm
        cases hm
        rfl
      · refine .inr ⟨b, ns, rfl, (hb.mono e0).mono e, hbn, fun p2 H2 e2 _ => q _ _ e2 fun m hm => ?_⟩
        rw [hy] at hm
        cases hm
    · refine ⟨D, _, rfl, .inl h, fun l H2 e2 h2 => q l ys _ (ext e0 (ext e e2)) h2 hyl fun i n hi => ?_⟩
      have hlt : i < ys.length := by
        rw [hyl]
        exact Classical.byContradiction fun z => by
          rw [List.getElem?_eq_none (by omega)] at hi
          cases hi
      have := hys i _ (List.getElem?_eq_getElem hlt) n hi
      rw [List.getElem?_eq_getElem hlt, this]
end
end Hw
/-! W17 -/
/-! W17: Paper.__init__, and the classes above it. -/
namespace Hw
open PySem PySem.Spec PyProof.Rows L2 HR RZ
abbrev fPaper (K : PySem.W.Frag) : Addr := He.ma K (cPaper K) "__init__"
abbrev N_Paper_init : List Str := ["self", "word", "parts"]
theorem sc_Paper_init : FnScope N_Paper_init ((["self", "word"] : List Str) ++ (["parts"] : List Str)) (C8.fnScope s_Paper_init) := C8.fnScope_by (by decide +kernel)
theorem bind_Paper (kV doc pm cdv ct : Value) (an : Option Addr) : ∀ us rest : List Value, us.length = 2 → bindArgs (PySem.W.fnOf "__init__" "Paper.__init__" (C8.fnArgs s_Paper_init) (C8.fnBody s_Paper_init) (C8.fnScope s_Paper_init) .none kV doc pm an cdv ct) ⟨us ++ rest, []⟩ = (newTuple rest >>= fun t => pure ((["self", "word"] : List Str).zip us ++ [(("parts" : Str), t)])) := by
  intro us rest h
  match us, rest, h with
  | [a, b], [], _ => rfl
  | [a, b], c :: r, _ => rfl
section
variable {P : Program} {w : World} {K : PySem.W.Frag} {mg : Str → Option Value} {base : Heap}
def sp_Paper (C : Addr) : Sp := fun vs H Q _ => ∃ (x dx p : Addr) (z : Str) (xs : List V), vs = [.ref x, .str z, .ref p] ∧ H x = some (.ins C dx []) ∧ H p = some (.tup xs) ∧ xs.length ≤ 1000 ∧ (∀ v ∈ xs, FixV H v) ∧
  ∀ H' q ys, (∀ b o, b ≠ x → H b = some o → H' b = some o) → H' x = some (.ins C dx [("word", .str z), ("parts", .ref q)]) → H' q = some (.tup ys) → ys.length = xs.length → (∀ (i : Nat) (n : Int), xs[i]? = some (V.int n) → ys[i]? = some (V.int n)) → Q .non H'
theorem f_Paper (T : Txt K mg) {C : Addr} (cl : Cls K C) (n1 : NoAttr K C "word") (n2 : NoAttr K C "parts") : FnR P w K mg base CX0 4 (fPaper K) (fun vs H Q E => ∃ ws rest, vs = ws ++ rest ∧ ws.length = 2 ∧ rest.length ≤ sizeLine ∧ ∀ p, H p = none → sp_Paper C (ws ++ [V.ref p]) (upd H p (.tup rest)) Q E) := by
  obtain ⟨f, fd, me, F, df⟩ := T.m_Paper_init
  have e : fPaper K = f := by
    have h1 := me.at_
    unfold fPaper He.ma
    rw [h1]
  rw [e]
  obtain ⟨oc, od, dV, kV, doc, pm, an, cdv, ct, osl, rfl, lk, hcd⟩ := F.ex
  have df : dV = .none := df
  subst df
  refine StX.fn_star (sp := sp_Paper C) lk hcd sc_Paper_init StX.cxUp_none (bind_Paper _ _ _ _ _ _) fun A outer s H vs Q E hr h => ?_
  have nd := sc_Paper_init.nd
  obtain ⟨x, dx, p, z, xs, rfl, hx, hp, hn, hxs, q⟩ := h
  have key : ∃ t, PSs (cxOf CX0 P w K mg base N_Paper_init "Paper.__init__" (C8.fnScope s_Paper_init) f cdv A outer s H E).nox (C8.fnBody s_Paper_init) t ∧ t { nx := fun _ H' => Q .non H', rt := Q } (L2.start N_Paper_init [.ref x, .str z, .ref p]) H := by
    refine ⟨_, (pss_cons (ps_fld (pv 0) (pv 1) rfl)
        (pss_one (ps_fld (pv 0) (C8.pe_c (k_fixed2 T) hr (by decide) (by rfl) (pa_cons (pv 2) pa_nil)) rfl))), ?_⟩
    have npx : p ≠ x := fun e => by
      rw [e, hx] at hp
      cases hp
    have nx : ∀ {H' : Hp} {b : Addr} {o u : HO}, b ≠ x → H' b = some o → upd H' x u b = some o := fun n h => (upd_ne n).trans h
    refine ⟨_, rfl, _, rfl, x, _, dx, _, rfl, hx, cl, n1, (show 0 < 1000 by decide), ?_⟩
    refine ⟨_, rfl, p, xs, rfl, nx npx hp, hn, fun v hv => ?_, fun q' ys H2 e2 hq hl hk => ?_⟩
    · rcases hxs v hv with ⟨n, rfl⟩ | ⟨a, ns, rfl, ha, hl⟩
      · exact .inl ⟨n, rfl⟩
      · refine .inr ⟨a, ns, rfl, nx (fun e => ?_) ha, hl⟩
        have ha : H a = _ := ha
        rw [e, hx] at ha
        cases ha
    · have hx2 := e2 _ _ (upd_same (H := H) (a := x))
      refine ⟨_, rfl, x, _, dx, _, rfl, hx2, cl, n2, (show 1 < 1000 by decide), ?_⟩
      refine q _ q' ys (fun b o n h => nx n (e2 _ _ (nx n h))) upd_same (nx (fun e => ?_) hq) hl hk
      rw [e, hx2] at hq
      cases hq
  obtain ⟨t, h, q⟩ := key
  exact ⟨t, h.nox, q⟩
end
/-- what the walk leans on of the classes above Paper -/
structure Txt2 (P : Program) (K : PySem.W.Frag) (mg : Str → Option Value) : Prop where
  z_super : mg "super" = none
  top : (P.main.scope.names.lookup ("super" : Str)).isSome = false
  s_Tube : ∃ cc cda fd, SupIn P K (cTube K) "Tube.__init__" s_Tube_init (He.ma K (cTube K) "__init__") (fPaper K) cc cda fd ∧ fd.defaults = .none
  s_Cheapest : ∃ cc cda fd, SupIn P K (cCheapest K) "Cheapest.__init__" s_Cheapest_init (He.ma K (cCheapest K) "__init__") (fPaper K) cc cda fd ∧ fd.defaults = .none
  s_InOne : ∃ cc cda fd, SupIn P K (cInOne K) "InOne.__init__" s_InOne_init (He.ma K (cInOne K) "__init__") (fPaper K) cc cda fd ∧ fd.defaults = .none
theorem sup_binds {P : Program} {K : PySem.W.Frag} {C f f2 cc cda : Addr} {q : Str} {st : Stmt} {fd : FuncData} (S : SupIn P K C q st f f2 cc cda fd) (df : fd.defaults = .none) {ps : List Str}
    (h : ∀ (kV doc pm ct : Value) (an : Option Addr) (us : List Value), us.length = ps.length → bindArgs (PySem.W.ksFn "__init__" q (C8.fnArgs st) (C8.fnBody st) (C8.fnScope st) .none kV doc pm an (.ref cda) ct cc) ⟨us, []⟩ = pure (ps.zip us)) : Binds K fd ps [] := by
  obtain ⟨oc, od, dV, kV, doc, pm, an, ct, osl, rfl, lk⟩ := S.ex
  have e : dV = .none := df
  subst e
  exact .all (h kV doc pm ct an)
section
variable {P : Program} {w : World} {K : PySem.W.Frag} {mg : Str → Option Value} {base : Heap}
def TubeAt (K : PySem.W.Frag) (H : Hp) (x : Addr) : Prop := ∃ dx fs, H x = some (.ins (cTube K) dx fs)
def sp_Tube (K : PySem.W.Frag) : Sp := fun vs H Q _ => ∃ (x dx : Addr) (n : Int), vs = [.ref x, .int n] ∧ H x = some (.ins (cTube K) dx []) ∧ ∀ H', (∀ b o, b ≠ x → H b = some o → H' b = some o) → TubeAt K H' x → Q .non H'
abbrev N_Tube_init : List Str := ["self", "turn", "__class__"]
theorem sc_Tube_init : NdefX.NScope N_Tube_init ["self", "turn"] ["__class__"] (C8.fnScope s_Tube_init) := NdefX.nscope_by (by decide +kernel)
theorem k_Tube (T : Txt K mg) (T2 : Txt2 P K mg) : C8.Mak P w K mg base 5 "Tube" (cTube K) (sp_Tube K) [] := by
  obtain ⟨cc, cda, fd, S, df⟩ := T2.s_Tube
  have cl := T.i_Tube.cl
  have nd := sc_Tube_init.nd
  refine mak_sup T.k_Tube T.g_Tube S (sup_binds S df fun _ _ _ _ _ us hl => match us, hl with | [_, _], _ => rfl) sc_Tube_init (fun vs H Q E h => ?_) T2.z_super T2.top (f_Paper T cl T.n_Tube_word T.n_Tube_parts) rfl rfl rfl (by decide +kernel) (by decide +kernel) (fun X hX => ⟨_, rfl, rfl, rfl, by unfold interactive; rw [hX]; rfl, rfl⟩) (fun A outer s H vs Q E hr h => ?_)
  · obtain ⟨x, dx, n, rfl, _⟩ := h
    rfl
  · obtain ⟨x, dx, n, rfl, hx, q⟩ := h
    refine ⟨x, dx, [], _, _, hx, rfl, (pa_cons pe_str (pa_cons (pv 1) pa_nil)), (pss_one (ps_fld (pv 0) (pe_ix ix_tup (pe_fld (pv 0) rfl) pe_int (fun _ _ => rfl)) rfl)), ?_⟩
    refine ⟨_, rfl, [V.ref x, V.str "tube"], [V.int n], rfl, rfl, Nat.le_of_ble_eq_true rfl, fun p hp => ⟨x, dx, p, _, [.int n], rfl, exn hp _ _ hx, upd_same, Nat.le_of_ble_eq_true rfl, fun v hv => .inl ⟨n, List.mem_singleton.mp hv⟩, fun H2 q2 ys k hx2 hq hl hk => ?_⟩⟩
    refine ⟨_, rfl, x, _, dx, _, _, rfl, hx2, cl, T.n_Tube_parts, rfl, q2, ys, 0, .int n, rfl, rfl, sq_t hq, atI_nat (hk 0 n rfl), ?_⟩
    refine ⟨_, rfl, x, _, dx, _, rfl, hx2, cl, T.n_Tube_turn, (show 2 < 1000 by decide), ?_⟩
    exact q _ (fun b o n h => (upd_ne n).trans (k _ _ n (exn hp _ _ h))) ⟨dx, _, upd_same⟩
def CheapAt (K : PySem.W.Frag) (H : Hp) (x : Addr) (n : Int) : Prop := ∃ dx q m, H x = some (.ins (cCheapest K) dx [("word", .str "cheapest"), ("parts", .ref q), ("cost", .int n), ("mates", m)])
def sp_Cheapest (K : PySem.W.Frag) : Sp := fun vs H Q _ => ∃ (x dx b : Addr) (n : Int) (m : List Nat), vs = [.ref x, .int n, .ref b] ∧ H x = some (.ins (cCheapest K) dx []) ∧ IT H b (iN m) ∧ m.length ≤ 1000 ∧ ∀ H', (∀ b o, b ≠ x → H b = some o → H' b = some o) → CheapAt K H' x n → Q .non H'
abbrev N_Cheapest_init : List Str := ["self", "cost", "mates", "__class__"]
theorem sc_Cheapest_init : NdefX.NScope N_Cheapest_init ["self", "cost", "mates"] ["__class__"] (C8.fnScope s_Cheapest_init) := NdefX.nscope_by (by decide +kernel)
theorem k_Cheapest (T : Txt K mg) (T2 : Txt2 P K mg) : C8.Mak P w K mg base 5 "Cheapest" (cCheapest K) (sp_Cheapest K) [] := by
  obtain ⟨cc, cda, fd, S, df⟩ := T2.s_Cheapest
  have cl := T.i_Cheapest.cl
  have nd := sc_Cheapest_init.nd
  refine mak_sup T.k_Cheapest T.g_Cheapest S (sup_binds S df fun _ _ _ _ _ us hl => match us, hl with | [_, _, _], _ => rfl) sc_Cheapest_init (fun vs H Q E h => ?_) T2.z_super T2.top (f_Paper T cl T.n_Cheapest_word T.n_Cheapest_parts) rfl rfl rfl (by decide +kernel) (by decide +kernel) (fun X hX => ⟨_, rfl, rfl, rfl, by unfold interactive; rw [hX]; rfl, rfl⟩) (fun A outer s H vs Q E hr h => ?_)
  · obtain ⟨x, dx, b, n, m, rfl, _⟩ := h
    rfl
  · obtain ⟨x, dx, b, n, m, rfl, hx, hb, hm, q⟩ := h
    refine ⟨x, dx, [], _, _, hx, rfl, (pa_cons pe_str (pa_cons (pv 1) (pa_cons (pv 2) pa_nil))), (pss_one (ps_asg (pe_fld (pv 0) rfl) (pg_tup rfl (pgs_cons (pg_fld (pv 0)) (pgs_cons (pg_fld (pv 0)) pgs_nil))))), ?_⟩
    refine ⟨_, rfl, _, rfl, [V.ref x, V.str "cheapest"], [V.int n, V.ref b], rfl, rfl, Nat.le_of_ble_eq_true rfl, fun p hp => ⟨x, dx, p, _, [.int n, .ref b], rfl, exn hp _ _ hx, upd_same, Nat.le_of_ble_eq_true rfl, fun v hv => ?_, fun H2 q2 ys k hx2 hq hl hk => ?_⟩⟩
    · rcases List.mem_cons.mp hv with e | e
      · exact .inl ⟨n, e⟩
      · exact .inr ⟨b, _, List.mem_singleton.mp e, hb.mono (exn hp), by rw [length_iN]; exact hm⟩
    · have h0 := hk 0 n rfl
      match ys, hl, h0 with
      | [y0, y1], _, h0 =>
        have h0 : y0 = .int n := Option.some.inj h0
        subst h0
        refine ⟨_, rfl, x, _, dx, _, _, rfl, hx2, cl, T.n_Cheapest_parts, rfl, ?_⟩
        refine ⟨q2, _, rfl, sq_t hq, rfl, _, _, rfl, _, rfl, x, _, dx, _, rfl, hx2, cl, T.n_Cheapest_cost, (show 2 < 1000 by decide), ?_⟩
        refine ⟨_, _, rfl, _, rfl, x, _, dx, _, rfl, upd_same, cl, T.n_Cheapest_mates, (show 3 < 1000 by decide), rfl, ?_⟩
        refine q _ (fun b o n h => (upd_ne n).trans ((upd_ne n).trans (k _ _ n (exn hp _ _ h)))) ⟨dx, q2, y1, ?_⟩
        rw [upd_same]
        rfl
def InOneAt (K : PySem.W.Frag) (H : Hp) (x : Addr) (n : Int) : Prop := ∃ dx q m, H x = some (.ins (cInOne K) dx [("word", .str "inone"), ("parts", .ref q), ("handles", .int n), ("mates", m)])
def sp_InOne (K : PySem.W.Frag) : Sp := fun vs H Q _ => ∃ (x dx b : Addr) (n : Int) (m : List Nat), vs = [.ref x, .int n, .ref b] ∧ H x = some (.ins (cInOne K) dx []) ∧ IT H b (iN m) ∧ m.length ≤ 1000 ∧ ∀ H', (∀ b o, b ≠ x → H b = some o → H' b = some o) → InOneAt K H' x n → Q .non H'
abbrev N_InOne_init : List Str := ["self", "handles", "mates", "__class__"]
theorem sc_InOne_init : NdefX.NScope N_InOne_init ["self", "handles", "mates"] ["__class__"] (C8.fnScope s_InOne_init) := NdefX.nscope_by (by decide +kernel)
theorem k_InOne (T : Txt K mg) (T2 : Txt2 P K mg) : C8.Mak P w K mg base 5 "InOne" (cInOne K) (sp_InOne K) [] := by
  obtain ⟨cc, cda, fd, S, df⟩ := T2.s_InOne
  have cl := T.i_InOne.cl
  have nd := sc_InOne_init.nd
  refine mak_sup T.k_InOne T.g_InOne S (sup_binds S df fun _ _ _ _ _ us hl => match us, hl with | [_, _, _], _ => rfl) sc_InOne_init (fun vs H Q E h => ?_) T2.z_super T2.top (f_Paper T cl T.n_InOne_word T.n_InOne_parts) rfl rfl rfl (by decide +kernel) (by decide +kernel) (fun X hX => ⟨_, rfl, rfl, rfl, by unfold interactive; rw [hX]; rfl, rfl⟩) (fun A outer s H vs Q E hr h => ?_)
  · obtain ⟨x, dx, b, n, m, rfl, _⟩ := h
    rfl
  · obtain ⟨x, dx, b, n, m, rfl, hx, hb, hm, q⟩ := h
    refine ⟨x, dx, [], _, _, hx, rfl, (pa_cons pe_str (pa_cons (pv 1) (pa_cons (pv 2) pa_nil))), (pss_one (ps_asg (pe_fld (pv 0) rfl) (pg_tup rfl (pgs_cons (pg_fld (pv 0)) (pgs_cons (pg_fld (pv 0)) pgs_nil))))), ?_⟩
    refine ⟨_, rfl, _, rfl, [V.ref x, V.str "inone"], [V.int n, V.ref b], rfl, rfl, Nat.le_of_ble_eq_true rfl, fun p hp => ⟨x, dx, p, _, [.int n, .ref b], rfl, exn hp _ _ hx, upd_same, Nat.le_of_ble_eq_true rfl, fun v hv => ?_, fun H2 q2 ys k hx2 hq hl hk => ?_⟩⟩
    · rcases List.mem_cons.mp hv with e | e
      · exact .inl ⟨n, e⟩
      · exact .inr ⟨b, _, List.mem_singleton.mp e, hb.mono (exn hp), by rw [length_iN]; exact hm⟩
    · have h0 := hk 0 n rfl
      match ys, hl, h0 with
      | [y0, y1], _, h0 =>
        have h0 : y0 = .int n := Option.some.inj h0
        subst h0
        refine ⟨_, rfl, x, _, dx, _, _, rfl, hx2, cl, T.n_InOne_parts, rfl, ?_⟩
        refine ⟨q2, _, rfl, sq_t hq, rfl, _, _, rfl, _, rfl, x, _, dx, _, rfl, hx2, cl, T.n_InOne_handles, (show 2 < 1000 by decide), ?_⟩
        refine ⟨_, _, rfl, _, rfl, x, _, dx, _, rfl, upd_same, cl, T.n_InOne_mates, (show 3 < 1000 by decide), rfl, ?_⟩
        refine q _ (fun b o n h => (upd_ne n).trans ((upd_ne n).trans (k _ _ n (exn hp _ _ h)))) ⟨dx, q2, y1, ?_⟩
        rw [upd_same]
        rfl
end
end Hw
/-! W18 -/
/-! W18: cheapest, in_one. -/
namespace Hw
open PySem PySem.Spec PyProof.Rows L2 HR RZ
open LamX (ExtN Tabs TabS TabB)
theorem ExtN.lx {H H' : Hp} (e : ExtN H H') : Lx H H' := fun a o h _ _ n => e a o h n
theorem tabs_ex {T : List (Addr × Str)} {H H' : Hp} (t : Tabs T H) (e : Ex H H') : Tabs T H' := fun p hp => (t p hp).ext e
/-- a def of the module whose body makes a lambda: its code object stands at c, the table of that at PT -/
structure DefL (K : PySem.W.Frag) (base : Heap) (mg : Str → Option Value) (x : Str) (st : Stmt) (c PT : Addr) : Prop where
  fn : ∃ (f : Addr) (oc : Value) (od : Option Addr) (kV doc pm : Value) (an : Option Addr) (ct : Value) (osl : Array (Option Value)), K.lookup f = some ⟨oc, od, .func (PySem.W.fnOf x x (C8.fnArgs st) (C8.fnBody st) (C8.fnScope st) .none kV doc pm an (.ref c) ct), osl⟩ ∧ mg x = some (.ref f) ∧ PySem.W.keepIn K (.ref f) = true
  cd : PySem.W.codeIn K (.ref c) x = true
  tb : TabB base mg c PT
theorem defl {P : Program} {w : World} {K : PySem.W.Frag} {mg : Str → Option Value} {base : Heap} {x : Str} {st : Stmt} {c PT : Addr} {N ps : List Str} {k : Nat} {sp : Sp} (F : DefL K base mg x st c PT) (S : FnScope N ps (C8.fnScope st)) (len : ∀ vs H Q E, sp vs H Q E → vs.length = ps.length)
    (hb : ∀ (kV doc pm : Value) (an : Option Addr) (cdv ct : Value) (us : List Value), us.length = ps.length → bindArgs (PySem.W.fnOf x x (C8.fnArgs st) (C8.fnBody st) (C8.fnScope st) .none kV doc pm an cdv ct) ⟨us, []⟩ = pure (ps.zip us))
    (hbody : ∀ (f : Addr) (A : Around) (outer : List Env) (s : Shared) (H : Hp) (vs : List V) (Q : VK) (E : XK), Room k (A.deeper (envOfC x (C8.fnScope st) s.heap.objs.size f (.ref c))) → sp vs H Q E →
      ∃ t, PSs (cxOf CX0 P w K mg base N x (C8.fnScope st) f (.ref c) A outer s H E).nox (C8.fnBody st) t ∧ t { nx := fun _ H' => Q .non H', rt := Q } (L2.start N vs) H) : C8.Cal P w K mg base (k + 1) x sp [] := by
  obtain ⟨f, oc, od, kV, doc, pm, an, ct, osl, lk, hm, kp⟩ := F.fn
  refine ⟨f, _, ps, [], fn_of lk F.cd S len fun A outer s H vs Q E hr hsp => ?_, hm, kp, .all (hb kV doc pm an (.ref c) ct), .nil⟩
  obtain ⟨t, h, q⟩ := hbody f A outer s H vs Q E hr hsp
  exact ⟨t, h.nox, q⟩
/-- n is the least cost -/
def IsMin (ws : List (List Int)) (n : Int) : Prop := (∃ m, Mt ws.flatten m ∧ costF ws m = n) ∧ ∀ m, Mt ws.flatten m → n ≤ costF ws m
/-- n is the least number of handles, one rim -/
def IsMinH (ws : List (List Int)) (n : Int) : Prop := (∃ m, Mt ws.flatten m ∧ (1 + costF ws m) / 2 = n) ∧ ∀ m, Mt ws.flatten m → n ≤ (1 + costF ws m) / 2
abbrev qC : Str := "cheapest.<locals>.<lambda>"
abbrev qI : Str := "in_one.<locals>.<lambda>"
section
variable {P : Program} {w : World} {K : PySem.W.Frag} {mg : Str → Option Value} {base : Heap}
def sp_cheapest (K : PySem.W.Frag) (TT : List (Addr × Str)) : Sp := fun vs H Q _ => ∃ (r : Addr) (ws : List (List Int)), vs = [.ref r] ∧ RimsAt K H r ws ∧ ROk ws ∧ Few ws ∧ Tabs TT H ∧
  ∀ y n H', ExtN H H' → Tabs TT H' → CheapAt K H' y n → IsMin ws n → Q (.ref y) H'
abbrev N_cheapest : List Str := ["rims", "found"]
theorem sc_cheapest : FnScope N_cheapest ["rims"] (C8.fnScope s_cheapest) := C8.fnScope_by (by decide +kernel)
def lamSc : Stmt → Scope
  | .Assign _ (.Call _ _ [⟨_, .Lambda _ _ sc _, _⟩] _) _ => sc
  | _ => default
def scL (st : Stmt) : Scope := match C8.fnBody st with
  | a :: _ => lamSc a
  | [] => default
theorem sc_cheapL : FnScope ["sewing"] ["sewing"] (scL s_cheapest) := C8.fnScope_by (by decide +kernel)
theorem k_cheapest (T : Txt K mg) (T2 : Txt2 P K mg) {c PT : Addr} {TT : List (Addr × Str)} (L : DefL K base mg "cheapest" s_cheapest c PT) (hmT : (PT, qC) ∈ TT) (hu : ∀ p ∈ TT, p.1 = PT → p.2 = qC) : C8.Cal P w K mg base 8 "cheapest" (sp_cheapest K TT) [] := by
  have nd := sc_cheapest.nd
  refine defl L sc_cheapest (fun vs H Q E h => ?_) (fun _ _ _ _ _ _ us hl => match us, hl with | [_], _ => rfl) (fun f A outer s H vs Q E hr h => ?_)
  · obtain ⟨r, ws, rfl, _⟩ := h
    rfl
  · obtain ⟨r, ws, rfl, hr0, ok, few, ht, q⟩ := h
    refine ⟨_, (pss_cons (ps_set (i := 1) nd rfl (.inl rfl) (pe_minK (T := TT) (x := "min") (k := 1) (tb := tFld K (tVar 0) "cost") sc_cheapL rfl (by rfl) T.z_min (C8.pe_c (k_all_sewings T) hr (by decide) (by rfl) (pa_cons (pv 0) pa_nil)) L.tb rfl hmT hu (hr.mono (show 1 + 3 ≤ 7 by decide)) rfl (by decide +kernel) (by rfl) (fun _ _ _ _ _ => rfl) (fun A outer s H f c' hr' => pe_fld (pv 0) rfl)))
      (pss_one (ps_ret (C8.pe_mk (k_Cheapest T T2) hr (by decide) (by rfl) (pa_cons (pe_fld (pv 1) rfl) (pa_cons (pe_fld (pv 1) rfl) pa_nil)))))), ?_⟩
    refine ⟨_, rfl, r, ws, rfl, hr0, ok, few, fun p ps mss H1 e1 hp hpl hne hml hmm hsew => ?_⟩
    have hgl : ∀ {i : Nat}, i < mss.length → mss.getD i [] ∈ mss := fun h => mem_getDD h
    have h0 : 0 < mss.length := List.length_pos_iff.mpr hne
    refine ⟨p, _, fun i => costF ws (mss.getD i []), rfl, sq_t hp, fun y hy => ?_, by rw [mlr]; omega, tabs_ex ht e1, fun H2 e2 t2 => ⟨fun i y hy => ?_, fun i y hy hmin => ?_⟩⟩
    · obtain ⟨a, _, rfl⟩ := List.mem_map.mp hy
      exact ⟨a, rfl⟩
    · obtain ⟨hi, rfl⟩ := ref_at hy
      obtain ⟨dx, r1, tm, tc, tp, xs, hd, h1, h2, h3, h4⟩ := (hsew i (by omega)).lx (ExtN.lx e2)
      exact ⟨_, rfl, _, _, dx, _, _, rfl, h1, T.i_Sewing.cl, T.n_Sewing_cost, rfl, rfl, rfl⟩
    · obtain ⟨hi, rfl⟩ := ref_at hy
      have him : i < mss.length := by omega
      obtain ⟨dx, r1, tm, tc, tp, xs, hd, h1, h2, h3, h4⟩ := (hsew i him).lx (ExtN.lx e2)
      have hlen := ((hmm _).mp (hgl him)).len
      have hsz := ok.sz
      refine ⟨_, rfl, _, _, dx, _, _, rfl, h1, T.i_Sewing.cl, T.n_Sewing_cost, rfl, _, rfl, _, _, dx, _, _, rfl, h1, T.i_Sewing.cl, T.n_Sewing_mates, rfl, ?_⟩
      intro x dx' nx nd ne
      refine ⟨x, dx', tm, costF ws (mss.getD i []), mss.getD i [], rfl, upd_same, h3.mono (exb nx nd), by omega, fun H3 kp hc => ⟨rfl, q x _ H3 ?_ ?_ hc ⟨⟨_, (hmm _).mp (hgl him), rfl⟩, fun m hm => ?_⟩⟩⟩
      · exact ExtN.trans (ExtN.trans (ExtN.of e1) e2) (ExtN.of (ex_made nx nd kp))
      · exact tabs_ex t2 (ex_made nx nd kp)
      · obtain ⟨j, hj, e⟩ := List.getElem_of_mem ((hmm m).mpr hm)
        have : costF ws (mss.getD i []) ≤ costF ws (mss.getD j []) := hmin j (by rw [mlr]; omega)
        have e2 : mss.getD j [] = m := by
          rw [List.getD_eq_getElem?_getD, List.getElem?_eq_getElem hj]
          exact e
        rw [e2] at this
        exact this
def sp_in_one (K : PySem.W.Frag) (TT : List (Addr × Str)) : Sp := fun vs H Q _ => ∃ (r : Addr) (ws : List (List Int)), vs = [.ref r] ∧ RimsAt K H r ws ∧ ROk ws ∧ Few ws ∧ ws.length = 1 ∧ Tabs TT H ∧
  ∀ y n H', ExtN H H' → Tabs TT H' → InOneAt K H' y n → IsMinH ws n → Q (.ref y) H'
abbrev N_in_one : List Str := ["rims", "found"]
theorem sc_in_one : FnScope N_in_one ["rims"] (C8.fnScope s_in_one) := C8.fnScope_by (by decide +kernel)
theorem sc_in_oneL : FnScope ["sewing"] ["sewing"] (scL s_in_one) := C8.fnScope_by (by decide +kernel)
theorem k_in_one (T : Txt K mg) (T2 : Txt2 P K mg) {c PT : Addr} {TT : List (Addr × Str)} (L : DefL K base mg "in_one" s_in_one c PT) (hmT : (PT, qI) ∈ TT) (hu : ∀ p ∈ TT, p.1 = PT → p.2 = qI) : C8.Cal P w K mg base 8 "in_one" (sp_in_one K TT) [] := by
  have nd := sc_in_one.nd
  refine defl L sc_in_one (fun vs H Q E h => ?_) (fun _ _ _ _ _ _ us hl => match us, hl with | [_], _ => rfl) (fun f A outer s H vs Q E hr h => ?_)
  · obtain ⟨r, ws, rfl, _⟩ := h
    rfl
  · obtain ⟨r, ws, rfl, hr0, ok, few, hw1, ht, q⟩ := h
    refine ⟨_, (pss_cons (ps_set (i := 1) nd rfl (.inl rfl) (pe_minK (T := TT) (x := "min") (k := 1) (tb := tFld K (tVar 0) "handles") sc_in_oneL rfl (by rfl) T.z_min (C8.pe_c (k_all_sewings T) hr (by decide) (by rfl) (pa_cons (pv 0) pa_nil)) L.tb rfl hmT hu (hr.mono (show 1 + 3 ≤ 7 by decide)) rfl (by decide +kernel) (by rfl) (fun _ _ _ _ _ => rfl) (fun A outer s H f c' hr' => pe_fld (pv 0) rfl)))
      (pss_one (ps_ret (C8.pe_mk (k_InOne T T2) hr (by decide) (by rfl) (pa_cons (pe_fld (pv 1) rfl) (pa_cons (pe_fld (pv 1) rfl) pa_nil)))))), ?_⟩
    refine ⟨_, rfl, r, ws, rfl, hr0, ok, few, fun p ps mss H1 e1 hp hpl hne hml hmm hsew => ?_⟩
    have hgl : ∀ {i : Nat}, i < mss.length → mss.getD i [] ∈ mss := fun h => mem_getDD h
    have h0 : 0 < mss.length := List.length_pos_iff.mpr hne
    refine ⟨p, _, fun i => (1 + costF ws (mss.getD i [])) / 2, rfl, sq_t hp, fun y hy => ?_, by rw [mlr]; omega, tabs_ex ht e1, fun H2 e2 t2 => ⟨fun i y hy => ?_, fun i y hy hmin => ?_⟩⟩
    · obtain ⟨a, _, rfl⟩ := List.mem_map.mp hy
      exact ⟨a, rfl⟩
    · obtain ⟨hi, rfl⟩ := ref_at hy
      obtain ⟨dx, r1, tm, tc, tp, xs, hd, h1, h2, h3, h4⟩ := (hsew i (by omega)).lx (ExtN.lx e2)
      have hhd := h4.2.2 hw1
      subst hhd
      exact ⟨_, rfl, _, _, dx, _, _, rfl, h1, T.i_Sewing.cl, T.n_Sewing_handles, rfl, rfl, rfl⟩
    · obtain ⟨hi, rfl⟩ := ref_at hy
      have him : i < mss.length := by omega
      obtain ⟨dx, r1, tm, tc, tp, xs, hd, h1, h2, h3, h4⟩ := (hsew i him).lx (ExtN.lx e2)
      have hhd := h4.2.2 hw1
      subst hhd
      have hlen := ((hmm _).mp (hgl him)).len
      have hsz := ok.sz
      refine ⟨_, rfl, _, _, dx, _, _, rfl, h1, T.i_Sewing.cl, T.n_Sewing_handles, rfl, _, rfl, _, _, dx, _, _, rfl, h1, T.i_Sewing.cl, T.n_Sewing_mates, rfl, ?_⟩
      intro x dx' nx nd ne
      refine ⟨x, dx', tm, (1 + costF ws (mss.getD i [])) / 2, mss.getD i [], rfl, upd_same, h3.mono (exb nx nd), by omega, fun H3 kp hc => ⟨rfl, q x _ H3 ?_ ?_ hc ⟨⟨_, (hmm _).mp (hgl him), rfl⟩, fun m hm => ?_⟩⟩⟩
      · exact ExtN.trans (ExtN.trans (ExtN.of e1) e2) (ExtN.of (ex_made nx nd kp))
      · exact tabs_ex t2 (ex_made nx nd kp)
      · obtain ⟨j, hj, e⟩ := List.getElem_of_mem ((hmm m).mpr hm)
        have : (1 + costF ws (mss.getD i [])) / 2 ≤ (1 + costF ws (mss.getD j [])) / 2 := hmin j (by rw [mlr]; omega)
        have e2 : mss.getD j [] = m := by
          rw [List.getD_eq_getElem?_getD, List.getElem?_eq_getElem hj]
          exact e
        rw [e2] at this
        exact this
end
end Hw
/-! W19 -/
/-! W19: tubes. -/
namespace Hw
open PySem PySem.Spec PyProof.Rows L2 HR RZ
def tNev : TE := fun _ _ _ => False
theorem pe_nev {X : Cx} {e : Expr} : PE X e tNev := ⟨fun _ _ _ _ _ _ h => False.elim h⟩
/-- how far ls turns to run against ms -/
def turnF (ls ms : List Int) : Option Nat := (List.range ls.length).find? fun t => decide ((contr ls).drop t ++ (contr ls).take t = ms)
def turnV (ls ms : List Int) : V := match turnF ls ms with | some t => .int (t : Int) | none => .non
section
variable {P : Program} {w : World} {K : PySem.W.Frag} {mg : Str → Option Value} {base : Heap}
def sp_need_words (K : PySem.W.Frag) : Sp := fun vs H Q _ => ∃ (x y : Addr) (ls ms : List Int), vs = [.ref x, .ref y] ∧ WordAt K H x ls ∧ WordAt K H y ms ∧ Q .non H
abbrev N_need_words : List Str := ["one", "other"]
theorem sc_need_words : FnScope N_need_words ["one", "other"] (C8.fnScope s_need_words) := C8.fnScope_by (by decide +kernel)
theorem k_need_words (T : Txt K mg) : C8.Cal P w K mg base 2 "need_words" (sp_need_words K) [] := by
  have nd := sc_need_words.nd
  refine defn T.d_need_words sc_need_words (fun vs H Q E h => ?_) (fun _ _ _ _ _ _ us hl => match us, hl with | [_, _], _ => rfl) (fun f cdv A outer s H vs Q E hr h => ?_)
  · obtain ⟨x, y, ls, ms, rfl, _⟩ := h
    rfl
  · obtain ⟨x, y, ls, ms, rfl, hx, hy, q⟩ := h
    refine ⟨_, (pss_cons (ps_expr (C8.pe_c (k_need_word T) hr (by decide) (by rfl) (pa_cons (pv 0) (pa_cons pe_str pa_nil))))
        (pss_one (ps_expr (C8.pe_c (k_need_word T) hr (by decide) (by rfl) (pa_cons (pv 1) (pa_cons pe_str pa_nil)))))), ?_⟩
    exact ⟨_, rfl, x, ls, _, rfl, hx, _, rfl, y, ms, _, rfl, hy, q⟩
def sp_turn_of (K : PySem.W.Frag) : Sp := fun vs H Q _ => ∃ (x y : Addr) (ls ms : List Int), vs = [.ref x, .ref y] ∧ WordAt K H x ls ∧ WordAt K H y ms ∧ WOk ls ∧ ∀ H', Ex H H' → Q (turnV ls ms) H'
abbrev N_turn_of : List Str := ["one", "other", "back", "turn"]
theorem sc_turn_of : FnScope N_turn_of ["one", "other"] (C8.fnScope s_turn_of) := C8.fnScope_by (by decide +kernel)
theorem k_turn_of (T : Txt K mg) : C8.Cal P w K mg base 8 "turn_of" (sp_turn_of K) [] := by
  have nd := sc_turn_of.nd
  refine defn T.d_turn_of sc_turn_of (fun vs H Q E h => ?_) (fun _ _ _ _ _ _ us hl => match us, hl with | [_, _], _ => rfl) (fun f cdv A outer s H vs Q E hr h => ?_)
  · obtain ⟨x, y, ls, ms, rfl, _⟩ := h
    rfl
  · obtain ⟨x, y, ls, ms, rfl, hx, hy, ok, q⟩ := h
    refine ⟨_, (pss_cons (ps_set (i := 2) nd rfl (.inl rfl) (pe_fld (C8.pe_mt0 (m_contrary T) hr (by decide) (pv 0)) rfl))
        (pss_cons (ps_for PassesOwn.never rfl (pi_range1 (by rfl) T.z_range (pa_cons (pe_callB call_len_seq (by rfl) T.z_len PySem.boot_len (pa_cons (pv 2) pa_nil)) pa_nil)) (pg_name (i := 3) nd rfl (.inl rfl))
        (pss_one (ps_if (pt_cmpR (op_eqD hr.units) (pe_op op_catG (pe_slice sl_tupG (pv 2) (po_some (pv 3)) po_none) (pe_slice sl_tupG (pv 2) po_none (po_some (pv 3)))) (pe_fld (pv 1) rfl) (nomark _))
        (pss_one (ps_ret (pv 3)))
        pss_nil)))
        (pss_one (ps_ret pe_non)))), ?_⟩
    obtain ⟨dx0, t0, tk0, ks0, f1, _⟩ := id hx
    refine ⟨_, rfl, x, dx0, _, rfl, f1, rfl, x, ls, rfl, hx, ok, fun z H1 e1 hz => ?_⟩
    obtain ⟨dz, tz, tk, ks, h1, h2, h3, h4⟩ := id hz
    refine ⟨z, _, dz, _, _, rfl, h1, T.i_Word.cl, T.n_Word_letters, rfl, ?_⟩
    have hcl : (contr ls).length = ls.length := length_contr ls
    have hlz := ok.2
    refine ⟨_, rfl, tz, _, rfl, .inr (sq_t h2), _, rfl, by omega, by rw [ml]; omega, ?_⟩
    rw [Int.toNat_natCast, ml, hcl]
    refine for_it walk_range (fun i σ H' => ∃ y3, σ = [some (.ref x), some (.ref y), some (.ref tz), y3] ∧ Ex H1 H' ∧ ∀ t, t < i → ¬ ((contr ls).drop t ++ (contr ls).take t = ms)) ⟨none, rfl, exr, fun t h => absurd h (Nat.not_lt_zero _)⟩ (fun _ _ _ _ _ => trivial) (fun i x' σ H2 H' hi p hy' => ?_) (fun σ H' p => ?_)
    · obtain ⟨y3, rfl, e, hno⟩ := p
      obtain ⟨rfl, rfl⟩ := hy'
      show gName 3 (.int (0 + (i : Int))) _ H' _
      rw [Int.zero_add]
      have hI : IT H' tz (contr ls) := e _ _ h2
      obtain ⟨dy, ty, tky, ksy, g1, g2, g3, g4⟩ := (hy.mono e1).mono e
      refine ⟨_, rfl, _, rfl, _, rfl, tz, _, rfl, hI, fun p1 H3 e3 hp1 => ?_⟩
      refine ⟨_, rfl, _, rfl, _, rfl, tz, _, rfl, e3 _ _ hI, fun p2 H4 e4 hp2 => ?_⟩
      rw [cut_from (by rw [ml]; omega), ← List.map_drop] at hp1
      rw [cut_to (by rw [ml]; omega), ← List.map_take] at hp2
      refine ⟨p1, p2, _, _, rfl, rfl, e4 _ _ hp1, hp2, by rw [ml, ml, List.length_drop, List.length_take]; omega, fun p3 H5 e5 hp3 => ?_⟩
      rw [← List.map_append] at hp3
      have e35 := ext e3 (ext e4 e5)
      refine ⟨_, rfl, y, _, dy, _, _, rfl, e35 _ _ g1, T.i_Word.cl, T.n_Word_letters, rfl, _, _, dp_t hp3, dp_t (e35 _ _ g2), sh_t _, sh_t _, _, rfl, ?_⟩
      rw [eq_t]
      refine ite2 (fun eq => ?_) (fun ne => ?_)
      · have eq := of_decide_eq_true eq
        refine ⟨_, rfl, ?_⟩
        have ht : turnF ls ms = some i := by
          unfold turnF
          rw [List.find?_range_eq_some]
          exact ⟨decide_eq_true eq, List.mem_range.mpr hi, fun j hj => by rw [decide_eq_false (hno j hj)]; rfl⟩
        have := q H5 (ext e1 (ext e e35))
        unfold turnV at this
        rw [ht] at this
        exact this
      · have ne : ¬ ((contr ls).drop i ++ (contr ls).take i = ms) := fun z => ne (decide_eq_true z)
        refine ⟨_, rfl, ext e e35, fun t ht => ?_⟩
        rcases Nat.lt_succ_iff_lt_or_eq.mp ht with h | h
        · exact hno t h
        · rw [h]
          exact ne
    · obtain ⟨y3, rfl, e, hno⟩ := p
      have ht : turnF ls ms = none := by
        unfold turnF
        rw [List.find?_eq_none]
        intro t ht
        have := hno t (List.mem_range.mp ht)
        simpa using this
      have := q H' (ext e1 e)
      unfold turnV at this
      rw [ht] at this
      exact this
def sp_fellow_of (K : PySem.W.Frag) : Sp := fun vs H Q _ => ∃ (tw l : Addr) (ps : List Addr) (ls ms : List Int) (t : Nat), vs = [.ref tw, .int 0, .ref l] ∧ H tw = some (.tup (ps.map V.ref)) ∧ WordsAt K H ps [ls, ms] ∧ WOk ls ∧ H l = some (.lst [.int 1]) ∧ turnF ls ms = some t ∧
  ∀ p H', Ex H H' → H' p = some (.tup [.int 1, .int (t : Int)]) → Q (.ref p) H'
abbrev N_fellow_of : List Str := ["words", "number", "others", "other", "turn"]
theorem sc_fellow_of : FnScope N_fellow_of ["words", "number", "others"] (C8.fnScope s_fellow_of) := C8.fnScope_by (by decide +kernel)
theorem k_fellow_of (T : Txt K mg) : C8.Cal P w K mg base 9 "fellow_of" (sp_fellow_of K) [] := by
  have nd := sc_fellow_of.nd
  refine defn T.d_fellow_of sc_fellow_of (fun vs H Q E h => ?_) (fun _ _ _ _ _ _ us hl => match us, hl with | [_, _, _], _ => rfl) (fun f cdv A outer s H vs Q E hr h => ?_)
  · obtain ⟨tw, l, ps, ls, ms, t, rfl, _⟩ := h
    rfl
  · obtain ⟨tw, l, ps, ls, ms, t, rfl, htw, hws, ok, hl, ht, q⟩ := h
    refine ⟨_, (pss_cons (ps_for PassesOwn.never rfl (pi_list (pv 2)) (pg_name (i := 3) nd rfl (.inl rfl))
        (pss_cons (ps_set (i := 4) nd rfl (.inl rfl) (C8.pe_c (k_turn_of T) hr (by decide) (by rfl) (pa_cons (pe_ix ix_tup (pv 0) (pv 1) (fun _ _ => rfl)) (pa_cons (pe_ix ix_tup (pv 0) (pv 3) (fun _ _ => rfl)) pa_nil))))
        (pss_one (ps_if (pt_cmpR op_notN (pv 4) pe_non (nomark _))
        (pss_one (ps_ret (pe_tup (pa_cons (pv 3) (pa_cons (pv 4) pa_nil)))))
        pss_nil))))
        (pss_one (ps_ret pe_non))), ?_⟩
    refine ⟨_, rfl, l, rfl, ⟨_, sq_l hl⟩, ?_⟩
    refine for_list (xs := [V.int 1]) (fun i σ H' => i = 0 ∧ σ = [some (.ref tw), some (.int 0), some (.ref l), none, none] ∧ H' = H) ⟨rfl, rfl, rfl⟩ (fun i σ H' _ p => ?_) (fun i x σ H' hx p => ?_) (fun σ H' p => absurd p.1 (by decide))
    · obtain ⟨rfl, rfl, rfl⟩ := p
      exact sq_l hl
    · obtain ⟨rfl, rfl, rfl⟩ := p
      have hx : x = .int 1 := (Option.some.inj hx).symm
      subst hx
      have w0 := hws.2 0 (by show 0 < 2; decide)
      have w1 := hws.2 1 (by show 1 < 2; decide)
      have hpl : ps.length = 2 := hws.1
      match ps, hpl with
      | [p0, p1], _ =>
        refine ⟨_, rfl, _, rfl, tw, [.ref p0, .ref p1], 0, .ref p0, rfl, rfl, sq_t htw, rfl, _, rfl, _, rfl, tw, [.ref p0, .ref p1], 1, .ref p1, rfl, rfl, sq_t htw, rfl, p0, p1, ls, ms, rfl, w0, w1, ok, fun H1 e1 => ?_⟩
        unfold turnV
        rw [ht]
        refine ⟨_, rfl, rfl, _, rfl, ?_⟩
        have hd : (!decide (V.int (t : Int) = V.non)) = true := by
          rw [decide_eq_false (fun z => nomatch z)]
          rfl
        show (if (!decide (V.int (t : Int) = V.non)) = true then _ else _)
        rw [hd]
        refine iteT ?_
        exact ⟨_, rfl, _, rfl, Nat.le_of_ble_eq_true rfl, fun p hp => q p _ (ext e1 (exn hp)) upd_same⟩
def muL (L : Addr) (H : Hp) : Nat := match H L with | some (.lst xs) => xs.length | _ => 0
theorem muL_at {L : Addr} {H : Hp} {xs : List V} (h : H L = some (.lst xs)) : muL L H = xs.length := by unfold muL; rw [h]
def sp_tubes_of (K : PySem.W.Frag) : Sp := fun vs H Q _ => ∃ (r : Addr) (ls ms : List Int) (t : Nat), vs = [.ref r] ∧ RimsAt K H r [ls, ms] ∧ WOk ls ∧ isSR ls = true ∧ isSR ms = true ∧ turnF ls ms = some t ∧ ∀ p H', Ex H H' → Q (.ref p) H'
abbrev N_tubes_of : List Str := ["rims", "left", "found", "number", "fellow"]
theorem sc_tubes_of : FnScope N_tubes_of ["rims"] (C8.fnScope s_tubes_of) := C8.fnScope_by (by decide +kernel)
theorem k_tubes_of (T : Txt K mg) : C8.Cal P w K mg base 10 "tubes_of" (sp_tubes_of K) [] := by
  have nd := sc_tubes_of.nd
  refine defn T.d_tubes_of sc_tubes_of (fun vs H Q E h => ?_) (fun _ _ _ _ _ _ us hl => match us, hl with | [_], _ => rfl) (fun f cdv A outer s H vs Q E hr h => ?_)
  · obtain ⟨r, ls, ms, t, rfl, _⟩ := h
    rfl
  · obtain ⟨r, ls, ms, t, rfl, hr0, ok, s1, s2, ht, q⟩ := h
    obtain ⟨dr, tw, tl, tn, tm, ps, h1, h2, h3, h4, h5, h6⟩ := id hr0
    have hpl : ps.length = 2 := h3.1
    refine ⟨_, (pss_cons (ps_expr (C8.pe_c (k_need_rims T) hr (by decide) (by rfl) (pa_cons (pv 0) pa_nil)))
        (pss_cons (ps_if (pt_not (pt_val (pe_fld (pv 0) rfl)))
        (pss_one ps_never)
        pss_nil)
        (pss_cons (ps_par (i := 1) (j := 2) (by rfl) nd rfl rfl (by decide) rfl rfl (pa_cons (pe_listRg rfl (by rfl) T.z_list (prg_1 (by rfl) T.z_range (pe_callB call_len_seq (by rfl) T.z_len PySem.boot_len (pa_cons (pe_fld (pv 0) rfl) pa_nil)))) (pa_cons (pe_lst pa_nil) pa_nil)) (by rfl))
        (pss_cons (ps_while PassesOwn.never (pt_cmpR (op_neD hr.units) (pv 1) (pe_lst pa_nil) (nomark _))
        (pss_cons (ps_set (i := 3) nd rfl (.inl rfl) (pe_bm PySem.F.plainAttrs_list PySem.F.slot_list_pop PySem.F.type_list_pop mt_popAt (pv 1) (pa_cons pe_int pa_nil)))
        (pss_cons (ps_set (i := 4) nd rfl (.inl rfl) (C8.pe_c (k_fellow_of T) hr (by decide) (by rfl) (pa_cons (pe_fld (pv 0) rfl) (pa_cons (pv 3) (pa_cons (pv 1) pa_nil)))))
        (pss_cons (ps_if (pt_cmpR op_isN (pv 4) pe_non (nomark _))
        (pss_one (ps_ret pe_non))
        pss_nil)
        (pss_cons (ps_expr (pe_bm PySem.F.plainAttrs_list PySem.F.slot_list_remove PySem.F.type_list_remove mt_remove (pv 1) (pa_cons (pe_ix ix_tup (pv 4) pe_int (fun _ _ => rfl)) pa_nil)))
        (pss_one (ps_expr (pe_bm PySem.F.plainAttrs_list PySem.F.slot_list_append PySem.F.type_list_append mt_append (pv 2) (pa_cons (pe_tup (pa_cons (pv 3) (StX.pa_star (pv 4) pa_nil))) pa_nil)))))))))
        (pss_one (ps_ret (pe_callTy call_tupG (by rfl) T.z_tuple (by decide +kernel) (pa_cons (pv 2) pa_nil)))))))), ?_⟩
    refine ⟨_, rfl, r, _, rfl, hr0, ?_⟩
    refine ⟨_, rfl, r, _, dr, _, _, rfl, h1, T.i_Rims.cl, T.n_Rims_is_short, rfl, ?_⟩
    have hall : ([ls, ms].all isSR) = true := by simp [s1, s2]
    refine ⟨_, rfl, ?_⟩
    rw [hall]
    refine iteF ?_
    refine ⟨_, rfl, r, _, dr, _, _, rfl, h1, T.i_Rims.cl, T.n_Rims_words, rfl, tw, _, rfl, .inr (sq_t h2), _, rfl, ?_⟩
    rw [mlr, hpl]
    refine ⟨RgOk.of_le (by omega) (by omega) (by omega) (by omega), fun L hL => ⟨Nat.zero_le _, fun F hF => ⟨_, _, rfl, ?_⟩⟩⟩
    have hLF : L ≠ F := fun z => by rw [← z, upd_same] at hF; cases hF
    have hF0 : H F = none := by rw [← hF, upd_ne (Ne.symm hLF)]
    refine while_by (fun σ H' => ∃ y3 y4, σ = [some (.ref r), some (.ref L), some (.ref F), y3, y4] ∧ Ex H H' ∧ ((IL H' L [0, 1] ∧ H' F = some (.lst [])) ∨ (IL H' L [] ∧ ∃ v, H' F = some (.lst [v])))) (fun _ H' => muL L H') ⟨none, none, rfl, ext (exn hL) (exn hF), .inl ⟨(upd_ne hLF).trans upd_same, upd_same⟩⟩ (fun σ H1 p => ?_) (fun σ H Q Q' h q => ?_)
    · obtain ⟨y3, y4, rfl, e, ⟨hLl, hFl⟩ | ⟨hLl, v, hFl⟩⟩ := p
      · refine ⟨_, rfl, Nat.zero_le _, fun N hN => ?_⟩
        have hL2 : IL (upd H1 N (.lst [])) L [0, 1] := exn hN _ _ hLl
        refine ⟨_, _, dp_l hL2, dp_nil upd_same, sh_l _, sh_l _, _, rfl, ?_⟩
        rw [eq_l]
        refine iteT ?_
        have e2 := ext e (exn (o := .lst []) hN)
        have hF2 : (upd H1 N (.lst [])) F = some (.lst []) := exn hN _ _ hFl
        have hr2 := hr0.mono e2
        generalize upd H1 N (.lst []) = H2 at e2 hF2 hL2 hr2
        refine ⟨_, rfl, .inl ⟨rfl, _, sq_l hL2⟩, ?_⟩
        refine ⟨L, _, 0, 0, .int 0, rfl, rfl, hL2, by decide, by decide, rfl, rfl, ?_⟩
        have e3 : Ex H (upd H2 L (.lst (([0, 1].map V.int).eraseIdx 0))) := exm e2 hL
        have hr3 := hr0.mono e3
        obtain ⟨dr3, tw3, _, _, _, ps3, g1, g2, g3, _⟩ := id hr3
        refine ⟨_, rfl, r, _, dr3, _, _, rfl, g1, T.i_Rims.cl, T.n_Rims_words, rfl, _, rfl, _, rfl, tw3, L, ps3, ls, ms, t, rfl, g2, g3, ok, upd_same, ht, fun p H4 e4 hp => ?_⟩
        refine ⟨_, rfl, rfl, _, rfl, ?_⟩
        rw [decide_eq_false (fun z => nomatch z)]
        refine iteF ?_
        have hL4 : IL H4 L [1] := e4 _ _ upd_same
        have hF4 : H4 F = some (.lst []) := e4 _ _ ((upd_ne (Ne.symm hLF)).trans hF2)
        refine ⟨_, rfl, .inl ⟨rfl, _, sq_l hL4⟩, _, rfl, p, _, 0, _, rfl, rfl, sq_t hp, rfl, L, [1], 1, 0, rfl, rfl, hL4, rfl, fun m hm => absurd hm (Nat.not_lt_zero _), ?_⟩
        have e5 : Ex H (upd H4 L (.lst (([1] : List Int).eraseIdx 0 |>.map V.int))) := exm (ext e3 e4) hL
        have hp5 : (upd H4 L (.lst (([1] : List Int).eraseIdx 0 |>.map V.int))) p = some (.tup [.int 1, .int (t : Int)]) := (upd_ne (fun z => by have h : H4 L = _ := hL4; rw [← z, hp] at h; cases h)).trans hp
        have hF5 : (upd H4 L (.lst (([1] : List Int).eraseIdx 0 |>.map V.int))) F = some (.lst []) := (upd_ne (Ne.symm hLF)).trans hF4
        have hL5 : IL (upd H4 L (.lst (([1] : List Int).eraseIdx 0 |>.map V.int))) L [] := upd_same
        generalize upd H4 L (.lst (([1] : List Int).eraseIdx 0 |>.map V.int)) = H5 at e5 hp5 hF5 hL5
        refine ⟨_, rfl, .inl ⟨rfl, _, sq_l hF5⟩, _, rfl, _, rfl, p, _, rfl, .inl (sq_t hp5), Nat.le_of_ble_eq_true rfl, fun Tq hTq => ?_⟩
        have e6 := exn (o := .tup ([V.int 0] ++ ([V.int 1, V.int (t : Int)] ++ []))) hTq
        refine ⟨F, [], _, rfl, rfl, e6 _ _ hF5, Evl.sz_lt (by decide), ?_⟩
        have hLn := e6 _ _ hL5
        refine ⟨⟨_, _, rfl, exm (ext e5 e6) hF0, .inr ⟨(upd_ne hLF).trans hLn, _, upd_same⟩⟩, ?_⟩
        refine Nat.lt_of_le_of_lt (Nat.le_of_eq (muL_at ((upd_ne hLF).trans hLn))) ?_
        refine Nat.lt_of_lt_of_le ?_ (Nat.le_of_eq (muL_at hLl).symm)
        exact Nat.lt_of_lt_of_le Nat.zero_lt_two (Nat.le_refl _)
      · refine ⟨_, rfl, Nat.zero_le _, fun N hN => ?_⟩
        have hL2 : IL (upd H1 N (.lst [])) L [] := exn hN _ _ hLl
        refine ⟨_, _, dp_l hL2, dp_nil upd_same, sh_l _, sh_l _, _, rfl, ?_⟩
        rw [eq_l]
        refine iteF ?_
        exact ⟨_, rfl, F, _, rfl, .inl (exn hN _ _ hFl), fun l H2 e2 _ => q l _ (ext e (ext (exn hN) e2))⟩
    · obtain ⟨v1, hv1, z, q2⟩ := q
      refine ⟨v1, hv1, z, fun N hN => ?_⟩
      obtain ⟨d1, d2, a1, a2, a3, a4, k, hk, q3⟩ := q2 N hN
      exact ⟨d1, d2, a1, a2, a3, a4, k, hk, h _ _ q3⟩
def sp_tube (K : PySem.W.Frag) : Sp := fun vs H Q _ => ∃ (x y : Addr) (ls ms : List Int) (t : Nat), vs = [.ref x, .ref y] ∧ WordAt K H x ls ∧ WordAt K H y ms ∧ WOk ls ∧ WOk ms ∧ roundF (shortF ls) ≠ [] ∧ roundF (shortF ms) ≠ [] ∧ turnF (roundF (shortF ls)) (roundF (shortF ms)) = some t ∧
  ∀ p H', Ex H H' → TubeAt K H' p → Q (.ref p) H'
abbrev N_tube : List Str := ["one", "other", "mine", "its", "turn"]
theorem sc_tube : FnScope N_tube ["one", "other"] (C8.fnScope s_tube) := C8.fnScope_by (by decide +kernel)
theorem k_tube (T : Txt K mg) (T2 : Txt2 P K mg) : C8.Cal P w K mg base 9 "tube" (sp_tube K) [] := by
  have nd := sc_tube.nd
  refine defn T.d_tube sc_tube (fun vs H Q E h => ?_) (fun _ _ _ _ _ _ us hl => match us, hl with | [_, _], _ => rfl) (fun f cdv A outer s H vs Q E hr h => ?_)
  · obtain ⟨x, y, ls, ms, t, rfl, _⟩ := h
    rfl
  · obtain ⟨x, y, ls, ms, t, rfl, hx, hy, ok1, ok2, n1, n2, ht, q⟩ := h
    refine ⟨_, (pss_cons (ps_expr (C8.pe_c (k_need_words T) hr (by decide) (by rfl) (pa_cons (pv 0) (pa_cons (pv 1) pa_nil))))
        (pss_cons (ps_par (i := 2) (j := 3) (by rfl) nd rfl rfl (by decide) rfl rfl (pa_cons (C8.pe_mt0 (m_shortened_round T) hr (by decide) (pv 0)) (pa_cons (C8.pe_mt0 (m_shortened_round T) hr (by decide) (pv 1)) pa_nil)) (by rfl))
        (pss_cons (ps_if (PW.pt (pw_or (pt_cmpR op_eq (pe_fld (pv 2) rfl) pe_int (nomark _)) (pw_or1 (pt_cmpR op_eq (pe_fld (pv 3) rfl) pe_int (nomark _)))))
        (pss_one ps_never)
        pss_nil)
        (pss_cons (ps_set (i := 4) nd rfl (.inl rfl) (C8.pe_c (k_turn_of T) hr (by decide) (by rfl) (pa_cons (pv 2) (pa_cons (pv 3) pa_nil))))
        (pss_one (ps_ret (pe_ifExp (pt_cmpR op_isN (pv 4) pe_non (nomark _)) pe_nev (C8.pe_mk (k_Tube T T2) hr (by decide) (by rfl) (pa_cons (pv 4) pa_nil))))))))), ?_⟩
    refine ⟨_, rfl, _, rfl, x, y, ls, ms, rfl, hx, hy, ?_⟩
    obtain ⟨dx0, t0, tk0, ks0, f1, _⟩ := id hx
    refine ⟨_, rfl, x, dx0, _, rfl, f1, rfl, x, ls, rfl, hx, ok1, fun z H1 e1 hz => ?_⟩
    have hy1 := hy.mono e1
    obtain ⟨dy0, t1, tk1, ks1, f2, _⟩ := id hy1
    refine ⟨_, rfl, y, dy0, _, rfl, f2, rfl, y, ms, rfl, hy1, ok2, fun z2 H2 e2 hz2 => ⟨_, _, rfl, ?_⟩⟩
    have hz := hz.mono e2
    obtain ⟨d3, t3, tk3, ks3, f3, _⟩ := id hz
    obtain ⟨d4, t4, tk4, ks4, f4, _⟩ := id hz2
    refine ⟨_, rfl, _, _, d3, _, _, rfl, f3, T.i_Word.cl, T.n_Word_length, rfl, rfl, _, rfl, ?_⟩
    have d1 : decide (V.int ((roundF (shortF ls)).length : Int) = V.int 0) = false := decide_eq_false (fun z => n1 (List.eq_nil_of_length_eq_zero (by have := V.int.inj z; omega)))
    have d2 : decide (V.int ((roundF (shortF ms)).length : Int) = V.int 0) = false := decide_eq_false (fun z => n2 (List.eq_nil_of_length_eq_zero (by have := V.int.inj z; omega)))
    rw [d1]
    refine iteF ?_
    refine ⟨_, rfl, _, _, d4, _, _, rfl, f4, T.i_Word.cl, T.n_Word_length, rfl, rfl, _, rfl, ?_⟩
    rw [d2]
    refine iteF ?_
    refine ⟨_, rfl, _, rfl, z, z2, _, _, rfl, hz, hz2, ok1.short.round, fun H3 e3 => ?_⟩
    unfold turnV
    rw [ht]
    refine ⟨_, rfl, rfl, _, rfl, ?_⟩
    have d3 : decide (V.int (t : Int) = V.non) = false := decide_eq_false (fun z => nomatch z)
    show (if decide (V.int (t : Int) = V.non) = true then _ else _)
    rw [d3]
    refine iteF ?_
    exact ⟨_, rfl, fun x dx nx nd ne => ⟨x, dx, t, rfl, upd_same, fun H4 kp htb => ⟨rfl, q x H4 (ext e1 (ext e2 (ext e3 (ex_made nx nd kp)))) htb⟩⟩⟩
end
end Hw
/-! W20 -/
/-! W20: cutting, the small ones. -/
namespace Hw
open PySem PySem.Spec PyProof.Rows L2 HR RZ
section
variable {P : Program} {w : World} {K : PySem.W.Frag} {mg : Str → Option Value} {base : Heap}
theorem any_false {n : Nat} : ((List.range n).map fun _ => V.bl false) = (List.replicate n false).map V.bl := by
  rw [rconst, List.map_replicate]
theorem notin {ks : List Int} {k : Int} (h : k ∉ ks) : inV (V.int k) (ks.map V.int) = false := by
  unfold inV
  rw [List.any_map, List.any_eq_false]
  intro x hx
  have : x ≠ k := fun e => h (e ▸ hx)
  simpa [eqV] using this
theorem flat_all {ks : List Int} : (ks.map V.int).all L2.flatV = true := by
  rw [List.all_map, List.all_eq_true]
  intro x _
  rfl
def sp_need_fresh (K : PySem.W.Frag) : Sp := fun vs H Q _ => ∃ (k : Int) (a : Addr) (ps : List Addr) (ws : List (List Int)), vs = [.int k, .ref a] ∧ 1 ≤ k ∧ k ≤ 26 ∧ (H a = some (.lst (ps.map V.ref)) ∨ H a = some (.tup (ps.map V.ref))) ∧ WordsAt K H ps ws ∧ ws.length ≤ 100 ∧ (∀ w ∈ ws, ∀ l ∈ w, absI l ≠ k) ∧ ∀ H', Ex H H' → Q .non H'
abbrev N_need_fresh : List Str := ["kind", "words", "word"]
theorem sc_need_fresh : FnScope N_need_fresh ["kind", "words"] (C8.fnScope s_need_fresh) := C8.fnScope_by (by decide +kernel)
theorem k_need_fresh (T : Txt K mg) : C8.Cal P w K mg base 4 "need_fresh" (sp_need_fresh K) [] := by
  have nd := sc_need_fresh.nd
  refine defn T.d_need_fresh sc_need_fresh (fun vs H Q E h => ?_) (fun _ _ _ _ _ _ us hl => match us, hl with | [_, _], _ => rfl) (fun f cdv A outer s H vs Q E hr h => ?_)
  · obtain ⟨k, a, ps, ws, rfl, _⟩ := h
    rfl
  · obtain ⟨k, a, ps, ws, rfl, k1, k2, ha, hw, hn, hf, q⟩ := h
    have hpl := hw.1
    rcases ha with ha | ha
    · refine ⟨_, (pss_cons (ps_expr (C8.pe_c (k_need_number T) hr (by decide) (by rfl) (pa_cons (pv 0) (pa_cons pe_str (pa_cons pe_int (pa_cons (C8.pe_gc (by rfl) (gi T.v_LAST_KIND)) pa_nil))))))
          (pss_one (ps_if (pt_val (pe_callB (cr_any rfl) (by rfl) T.z_any (by decide +kernel) (pa_cons (pe_lc (own := [("word", 2)]) (by rfl) nd (pi_list (pv 1)) (blkOk_by (own := [("word", 2)]) (N := N_need_fresh) (sc := C8.fnScope s_need_fresh) (by decide +kernel)) (fun _ _ _ _ _ => (pg_name (i := 2) nd rfl (.inl rfl))) (fun _ _ _ _ _ => pts_nil) (fun _ _ _ _ _ => (pe_cmpR (op_in_seqK (K := K)) (pv 0) (pe_fldK (K := K) (pv 2) (by rfl)) (by rfl)))) pa_nil)))
          (pss_one ps_never)
          pss_nil))), ?_⟩
      refine ⟨_, rfl, k, _, _, _, rfl, k1, k2, ?_⟩
      refine ⟨_, rfl, a, rfl, ⟨_, sq_l ha⟩, fun D hD => ?_⟩
      refine lc_val walk_list (by rw [mlr]; omega) (fun _ => .bl false) hD (fun H' e => sq_l (e _ _ ha)) (fun i y Hc H' hi e hy => ?_) gmN (fun H2 e2 h => ?_)
      · obtain ⟨rfl, hy⟩ := hy
        obtain ⟨hi', rfl⟩ := ref_at hy
        obtain ⟨dx', t, tk, ks, h1, h2, h3, h4⟩ := (hw.2 i (by omega)).mono e
        refine ⟨rfl, fun Q q => ⟨_, rfl, _, rfl, _, _, dx', _, _, rfl, h1, T.i_Word.cl, T.n_Word_kinds, rfl, tk, _, rfl, .inr (sq_t h3), rfl, flat_all, ?_⟩⟩
        have : k ∉ ks := fun z => by
          obtain ⟨l, hl, e⟩ := h4 k z
          exact hf _ (mem_getDD (d := []) (show i < ws.length by omega)) l hl e.symm
        rw [notin this]
        exact q _ exr
      · rw [any_false] at h
        refine ⟨D, _, rfl, sq_l h, ?_⟩
        have : (List.replicate ((ps.map V.ref).length) false).any id = false := by
          rw [List.any_eq_false]
          intro x hx
          rw [List.eq_of_mem_replicate hx]
          simp
        rw [this]
        refine ⟨_, rfl, iteF ?_⟩
        exact q _ e2
    · refine ⟨_, (pss_cons (ps_expr (C8.pe_c (k_need_number T) hr (by decide) (by rfl) (pa_cons (pv 0) (pa_cons pe_str (pa_cons pe_int (pa_cons (C8.pe_gc (by rfl) (gi T.v_LAST_KIND)) pa_nil))))))
          (pss_one (ps_if (pt_val (pe_callB (cr_any rfl) (by rfl) T.z_any (by decide +kernel) (pa_cons (pe_lc (own := [("word", 2)]) (by rfl) nd (pi_tup (pv 1)) (blkOk_by (own := [("word", 2)]) (N := N_need_fresh) (sc := C8.fnScope s_need_fresh) (by decide +kernel)) (fun _ _ _ _ _ => (pg_name (i := 2) nd rfl (.inl rfl))) (fun _ _ _ _ _ => pts_nil) (fun _ _ _ _ _ => (pe_cmpR (op_in_seqK (K := K)) (pv 0) (pe_fldK (K := K) (pv 2) (by rfl)) (by rfl)))) pa_nil)))
          (pss_one ps_never)
          pss_nil))), ?_⟩
      refine ⟨_, rfl, k, _, _, _, rfl, k1, k2, ?_⟩
      refine ⟨_, rfl, a, rfl, ⟨_, sq_t ha⟩, fun D hD => ?_⟩
      refine lc_val walk_tup (by rw [mlr]; omega) (fun _ => .bl false) hD (fun H' e => sq_t (e _ _ ha)) (fun i y Hc H' hi e hy => ?_) gmN (fun H2 e2 h => ?_)
      · obtain ⟨rfl, hy⟩ := hy
        obtain ⟨hi', rfl⟩ := ref_at hy
        obtain ⟨dx', t, tk, ks, h1, h2, h3, h4⟩ := (hw.2 i (by omega)).mono e
        refine ⟨rfl, fun Q q => ⟨_, rfl, _, rfl, _, _, dx', _, _, rfl, h1, T.i_Word.cl, T.n_Word_kinds, rfl, tk, _, rfl, .inr (sq_t h3), rfl, flat_all, ?_⟩⟩
        have : k ∉ ks := fun z => by
          obtain ⟨l, hl, e⟩ := h4 k z
          exact hf _ (mem_getDD (d := []) (show i < ws.length by omega)) l hl e.symm
        rw [notin this]
        exact q _ exr
      · rw [any_false] at h
        refine ⟨D, _, rfl, sq_l h, ?_⟩
        have : (List.replicate ((ps.map V.ref).length) false).any id = false := by
          rw [List.any_eq_false]
          intro x hx
          rw [List.eq_of_mem_replicate hx]
          simp
        rw [this]
        refine ⟨_, rfl, iteF ?_⟩
        exact q _ e2
/-- R goes once round the rim from its head -/
structure Rnd (nl R : List Nat) : Prop where
  pos : 0 < R.length
  lt : ∀ i, i < R.length → R.getD i 0 < nl.length
  nx : ∀ i, i + 1 < R.length → nl.getD (R.getD i 0) 0 = R.getD (i + 1) 0 ∧ R.getD (i + 1) 0 ≠ R.getD 0 0
  last : nl.getD (R.getD (R.length - 1) 0) 0 = R.getD 0 0
theorem take_last {R : List Nat} {k : Nat} (h : k < R.length) : (R.take (k + 1)).getD ((R.take (k + 1)).length - 1) 0 = R.getD k 0 := by
  have e : (R.take (k + 1)).length = k + 1 := by rw [List.length_take]; omega
  rw [e, List.getD_eq_getElem?_getD, List.getElem?_take, if_pos (by omega), List.getD_eq_getElem?_getD]
  rfl
def sp_round_from (K : PySem.W.Frag) : Sp := fun vs H Q _ => ∃ (r : Addr) (ws : List (List Int)) (R : List Nat), vs = [.ref r, .int ((R.getD 0 0 : Nat) : Int)] ∧ RimsAt K H r ws ∧ Rnd (nxF 0 (lens ws)) R ∧ R.length ≤ 1000 ∧ ∀ q H', Ex H H' → IL H' q (iN R) → Q (.ref q) H'
abbrev N_round_from : List Str := ["rims", "place", "found"]
theorem sc_round_from : FnScope N_round_from ["rims", "place"] (C8.fnScope s_round_from) := C8.fnScope_by (by decide +kernel)
theorem k_round_from (T : Txt K mg) : C8.Cal P w K mg base 1 "round_from" (sp_round_from K) [] := by
  have nd := sc_round_from.nd
  refine defn T.d_round_from sc_round_from (fun vs H Q E h => ?_) (fun _ _ _ _ _ _ us hl => match us, hl with | [_, _], _ => rfl) (fun f cdv A outer s H vs Q E hr h => ?_)
  · obtain ⟨r, ws, R, rfl, _⟩ := h
    rfl
  · obtain ⟨r, ws, R, rfl, hr0, hR, hlen, q⟩ := h
    refine ⟨_, (pss_cons (ps_set (i := 2) nd rfl (.inl rfl) (pe_lst (pa_cons (pv 1) pa_nil)))
        (pss_cons (ps_while PassesOwn.never (pt_cmpR op_ne (pe_ix ix_tup (pe_fld (pv 0) rfl) (pe_ix ix_list (pv 2) (pe_un un_neg pe_int) (fun _ _ => rfl)) (fun _ _ => rfl)) (pv 1) (nomark _))
        (pss_one (ps_expr (pe_bm PySem.F.plainAttrs_list PySem.F.slot_list_append PySem.F.type_list_append mt_append (pv 2) (pa_cons (pe_ix ix_tup (pe_fld (pv 0) rfl) (pe_ix ix_list (pv 2) (pe_un un_neg pe_int) (fun _ _ => rfl)) (fun _ _ => rfl)) pa_nil)))))
        (pss_one (ps_ret (pv 2))))), ?_⟩
    refine ⟨_, rfl, Nat.le_of_ble_eq_true rfl, fun F hF => ?_⟩
    have hpos := hR.pos
    have h1 : R.take (0 + 1) = [R.getD 0 0] := by
      rw [List.take_add_one, List.getD_eq_getElem?_getD, List.getElem?_eq_getElem hpos]
      rfl
    refine while_by (fun σ H' => ∃ k, k < R.length ∧ σ = [some (.ref r), some (.int ((R.getD 0 0 : Nat) : Int)), some (.ref F)] ∧ Ex H H' ∧ IL H' F (iN (R.take (k + 1)))) (fun _ H' => R.length - muL F H') ⟨0, hpos, rfl, exn hF, ?_⟩ (fun σ H1 p => ?_) (fun σ H Q Q' h q => ?_)
    · show upd H F _ F = _
      rw [upd_same, h1]
      rfl
    · obtain ⟨k, hk, rfl, e, hl⟩ := p
      have hr1 := hr0.mono e
      obtain ⟨dr, tw, tl, tn, tm, ps, g1, g2, g3, g4, g5, g6⟩ := id hr1
      have htl : (R.take (k + 1)).length = k + 1 := by rw [List.length_take]; omega
      have hRk := hR.lt k hk
      have hat := ati_m1 (l := R.take (k + 1)) (by omega)
      rw [take_last hk] at hat
      refine ⟨_, rfl, r, _, dr, _, _, rfl, g1, T.i_Rims.cl, T.n_Rims_nexts, rfl, _, rfl, _, rfl, F, _, _, _, rfl, rfl, sq_l hl, hat, tn, _, _, _, rfl, rfl, sq_t g5, ati_iN hRk, _, rfl, rfl, _, rfl, ?_⟩
      by_cases hk1 : k + 1 < R.length
      · obtain ⟨n1, n2⟩ := hR.nx k hk1
        rw [n1, decide_eq_false (fun z => n2 (by have := V.int.inj z; omega))]
        refine iteT ?_
        refine ⟨_, rfl, .inl ⟨rfl, _, sq_l hl⟩, ?_⟩
        refine ⟨_, rfl, r, _, dr, _, _, rfl, g1, T.i_Rims.cl, T.n_Rims_nexts, rfl, _, rfl, _, rfl, F, _, _, _, rfl, rfl, sq_l hl, hat, tn, _, _, _, rfl, rfl, sq_t g5, ati_iN hRk, F, _, _, rfl, rfl, hl, ?_, ?_⟩
        · rw [ml, length_iN, htl]
          exact Evl.sz_lt (by omega)
        · have hst : (iN (R.take (k + 1))).map V.int ++ [.int (((nxF 0 (lens ws)).getD (R.getD k 0) 0 : Nat) : Int)] = (iN (R.take (k + 1 + 1))).map V.int := by
            have : R.take (k + 1 + 1) = R.take (k + 1) ++ [R.getD (k + 1) 0] := by
              rw [List.take_add_one (i := k + 1), List.getD_eq_getElem?_getD, List.getElem?_eq_getElem hk1]
              rfl
            rw [this, n1, iN_append, List.map_append]
            rfl
          refine ⟨⟨k + 1, hk1, rfl, exm e hF, ?_⟩, ?_⟩
          · show upd H1 F _ F = _
            rw [upd_same, hst]
          · have m1 : muL F (upd H1 F (.lst ((iN (R.take (k + 1))).map V.int ++ [.int (((nxF 0 (lens ws)).getD (R.getD k 0) 0 : Nat) : Int)]))) = k + 2 := by
              rw [muL_at upd_same, List.length_append, ml, length_iN, htl]
              rfl
            have m2 : muL F H1 = k + 1 := by rw [muL_at hl, ml, length_iN, htl]
            show R.length - muL F _ < R.length - muL F H1
            rw [m1, m2]
            omega
      · have hkl : k = R.length - 1 := by omega
        have hl2 := hR.last
        rw [← hkl] at hl2
        rw [hl2, decide_eq_true rfl]
        refine iteF ?_
        have : R.take (k + 1) = R := List.take_of_length_le (by omega)
        rw [this] at hl
        exact ⟨_, rfl, q F _ e hl⟩
    · obtain ⟨v1, hv1, a1, a2, a3, a4, a5, a6, a7, a8, a9, a10, a11, a12, a13, a14, a15, a16, a17, a18, a19, a20, a21, a22, a23, a24, a25, a26, a27, a28, a29, a30, a31, a32, a33, k, hk, q3⟩ := q
      exact ⟨v1, hv1, a1, a2, a3, a4, a5, a6, a7, a8, a9, a10, a11, a12, a13, a14, a15, a16, a17, a18, a19, a20, a21, a22, a23, a24, a25, a26, a27, a28, a29, a30, a31, a32, a33, k, hk, h _ _ q3⟩
def sp_with_rows (K : PySem.W.Frag) : Sp := fun vs H Q _ => ∃ (r nb rw : Addr) (ws : List (List Int)) (ns : List Nat) (xs : List V), vs = [.ref r, .ref nb, .ref rw] ∧ RimsAt K H r ws ∧ IL H nb (iN ns) ∧ H rw = some (.lst xs) ∧ 0 ∈ ns ∧ (∀ i, i < ws.length → i ∈ ns) ∧ 1 ≤ ws.length ∧ ws.length ≤ 100 ∧ xs.length ≤ 1000 ∧ ∀ q H', Ex H H' → H' q = some (.lst xs) → Q (.ref q) H'
abbrev N_with_rows : List Str := ["rims", "numbers", "rows", "found", "number", "place"]
theorem sc_with_rows : FnScope N_with_rows ["rims", "numbers", "rows"] (C8.fnScope s_with_rows) := C8.fnScope_by (by decide +kernel)
theorem k_with_rows (T : Txt K mg) : C8.Cal P w K mg base 1 "with_rows" (sp_with_rows K) [] := by
  have nd := sc_with_rows.nd
  refine defn T.d_with_rows sc_with_rows (fun vs H Q E h => ?_) (fun _ _ _ _ _ _ us hl => match us, hl with | [_, _, _], _ => rfl) (fun f cdv A outer s H vs Q E hr h => ?_)
  · obtain ⟨r, nb, rw, ws, ns, xs, rfl, _⟩ := h
    rfl
  · obtain ⟨r, nb, rw, ws, ns, xs, rfl, hr0, hnb, hrw, h0, hall, hw1, hw2, hx, q⟩ := h
    obtain ⟨dr, tw, tl, tn, tm, ps, g1, g2, g3, g4, g5, g6⟩ := id hr0
    have hpl := g3.1
    refine ⟨_, (pss_cons (ps_set (i := 3) nd rfl (.inl rfl) (pe_lst pa_nil))
        (pss_cons (ps_for PassesOwn.never rfl (pi_range1 (by rfl) T.z_range (pa_cons (pe_callB call_len_seq (by rfl) T.z_len PySem.boot_len (pa_cons (pe_fld (pv 0) rfl) pa_nil)) pa_nil)) (pg_name (i := 4) nd rfl (.inr rfl))
        (pss_one (ps_if (pt_cmpR op_eq (pv 4) (pe_callB (cr_min rfl) (by rfl) T.z_min (by decide +kernel) (pa_cons (pv 1) pa_nil)) (nomark _))
        (pss_one (ps_expr (pe_bm PySem.F.plainAttrs_list PySem.F.slot_list_extend PySem.F.type_list_extend mt_extend (pv 3) (pa_cons (pv 2) pa_nil))))
        (pss_one (ps_if (pt_cmpR op_notIn_seq (pv 4) (pv 1) (by rfl))
        (pss_one (ps_expr (pe_bm (X := (cxOf CX0 P w K mg base N_with_rows _ (C8.fnScope s_with_rows) f cdv A outer s H E).nox) PySem.F.plainAttrs_list PySem.F.slot_list_append PySem.F.type_list_append mt_append (pv 3) (pa_cons (pe_lc (own := [("place", 5)]) (by rfl) nd (pi_range1 (by rfl) T.z_range (pa_cons (pe_fld (pv 0) rfl) pa_nil)) (blkOk_by (own := [("place", 5)]) (N := N_with_rows) (sc := C8.fnScope s_with_rows) (by decide +kernel)) (fun _ _ _ _ _ => (pg_name (i := 5) nd rfl (.inl rfl))) (fun _ _ _ _ _ => (pts_one (pt_cmpR op_eq (pe_ix (ix_tupK (K := K)) (pe_fldK (K := K) (pv 0) (by rfl)) (pv 5) (fun _ _ => rfl)) (pv 4) (nomark _)))) (fun _ _ _ _ _ => (pv 5))) pa_nil))))
        pss_nil)))))
        (pss_one (ps_ret (pv 3))))), ?_⟩
    refine ⟨Nat.zero_le _, fun F hF => ?_⟩
    refine ⟨_, rfl, r, _, dr, _, _, rfl, exn hF _ _ g1, T.i_Rims.cl, T.n_Rims_words, rfl, tw, _, rfl, .inr (sq_t (exn hF _ _ g2)), _, rfl, by omega, by rw [mlr]; omega, ?_⟩
    rw [Int.toNat_natCast, mlr, hpl]
    refine for_it walk_range (fun i σ H' => ∃ y4 y5, σ = [some (.ref r), some (.ref nb), some (.ref rw), some (.ref F), y4, y5] ∧ Ex H H' ∧ H' F = some (.lst (if i = 0 then [] else xs))) ⟨none, none, rfl, exn hF, upd_same⟩ (fun _ _ _ _ _ => trivial) (fun i x' σ H2 H' hi p hy' => ?_) (fun σ H' p => ?_)
    · obtain ⟨y4, y5, rfl, e, hl⟩ := p
      obtain ⟨rfl, rfl⟩ := hy'
      show gName 4 (.int (0 + (i : Int))) _ H' _
      rw [Int.zero_add]
      have hz : (0 : Int) ∈ iN ns := List.mem_map.mpr ⟨0, h0, rfl⟩
      refine ⟨_, rfl, _, rfl, nb, iN ns, rfl, sq_l (e _ _ hnb), List.length_pos_of_mem hz, fun m hm hmin => ?_⟩
      have hm0 : m = 0 := by
        have h1 := hmin 0 hz
        obtain ⟨n, _, rfl⟩ := List.mem_map.mp hm
        omega
      subst hm0
      refine ⟨rfl, _, rfl, ?_⟩
      rw [dec_int']
      rcases Nat.eq_zero_or_pos i with hi0 | hi0
      · subst hi0
        refine iteT ?_
        refine ⟨_, rfl, .inl ⟨rfl, _, sq_l hl⟩, _, rfl, F, rw, _, _, rfl, rfl, hl, e _ _ hrw, ?_, ?_⟩
        · simp
          exact sz (by omega)
        · exact ⟨_, _, rfl, exm e hF, by rw [upd_same]; rfl⟩
      · rw [decide_eq_false (show ¬ (i : Int) = 0 by omega)]
        refine iteF ?_
        refine ⟨_, rfl, _, rfl, nb, _, rfl, .inl (sq_l (e _ _ hnb)), rfl, flat_all, _, rfl, ?_⟩
        have hin : inV (V.int (i : Int)) ((iN ns).map V.int) = true := by
          unfold inV
          rw [List.any_map, List.any_eq_true]
          exact ⟨(i : Int), List.mem_map.mpr ⟨i, hall i hi, rfl⟩, by simp [eqV]⟩
        rw [hin]
        refine iteF ?_
        refine ⟨_, _, rfl, e, ?_⟩
        rw [if_neg (by omega)] at hl ⊢
        exact hl
    · obtain ⟨y4, y5, rfl, e, hl⟩ := p
      rw [if_neg (by omega)] at hl
      exact ⟨_, rfl, q F _ e hl⟩
end
end Hw
/-! W21 -/
/-! W21: sewn_by. -/
namespace Hw
open PySem PySem.Spec PyProof.Rows L2 HR RZ
theorem map_getD {β : Type} (f : Nat → β) : ∀ l : List Nat, (List.range l.length).map (fun j => f (l.getD j 0)) = l.map f := fun l => by
  refine List.ext_getElem (by simp) fun i h1 h2 => ?_
  rw [List.length_map] at h2
  simp [List.getD_eq_getElem?_getD, List.getElem?_eq_getElem h2]
theorem flat_atN {ws : List (List Nat)} (i : Nat) (hi : i ≤ ws.length) : flatV (fun i => (ws.getD i []).length) (fun i j => V.int (((ws.getD i []).getD j 0 : Nat) : Int)) i = (iN (ws.take i).flatten).map V.int := by
  induction i with
  | zero => rfl
  | succ i ih =>
    rw [flatV_succ, ih (by omega), List.take_add_one, List.flatten_append, iN_append, List.map_append]
    congr 1
    rw [List.getElem?_eq_getElem (show i < ws.length by omega), List.getD_eq_getElem?_getD, List.getElem?_eq_getElem (show i < ws.length by omega)]
    show _ = (iN (ws[i] ++ [])).map V.int
    rw [List.append_nil]
    unfold iN
    rw [List.map_map, Option.getD_some]
    exact map_getD (fun p => V.int ((p : Nat) : Int)) ws[i]
theorem before_idx {v : Nat} : ∀ {l : List Nat} {i x : Nat}, i < l.idxOf v → l[i]? = some x → x ≠ v
  | [], i, x, h, e => by simp at e
  | a :: l, i, x, h, e => by
    rw [List.idxOf_cons] at h
    by_cases ha : a = v
    · rw [ha] at h
      simp at h
    · have hb : (a == v) = false := by simpa using ha
      rw [hb] at h
      have h : i < l.idxOf v + 1 := h
      cases i with
      | zero =>
        have : a = x := by simpa using e
        rw [← this]
        exact ha
      | succ i => exact before_idx (l := l) (i := i) (by omega) (by simpa using e)
section
variable {P : Program} {w : World} {K : PySem.W.Frag} {mg : Str → Option Value} {base : Heap}
/-- the words of rows of places -/
def rowW (ls : List Int) (rws : List (List Nat)) : List (List Int) := rws.map fun rw => rw.map fun p => ls.getD p 0
/-- the mates along an order of the places -/
def ordM (m order : List Nat) : List Nat := order.map fun p => order.idxOf (m.getD p 0)
def sp_sewn_by (K : PySem.W.Frag) : Sp := fun vs H Q _ => ∃ (x a : Addr) (ws : List (List Int)) (m : List Nat) (as : List Addr) (rws : List (List Nat)), vs = [.ref x, .ref a] ∧ SewAt K H x ws m ∧ H a = some (.lst (as.map V.ref)) ∧ as.length = rws.length ∧ (∀ i, i < rws.length → IL H (as.getD i 0) (iN (rws.getD i []))) ∧
  (∀ p ∈ rws.flatten, p < ws.flatten.length) ∧ (∀ p ∈ rws.flatten, m.getD p 0 ∈ rws.flatten) ∧ rws.flatten.length ≤ 100 ∧ ROk (rowW ws.flatten rws) ∧ Mt (rowW ws.flatten rws).flatten (ordM m rws.flatten) ∧
  ∀ y H', Ex H H' → SewAt K H' y (rowW ws.flatten rws) (ordM m rws.flatten) → Q (.ref y) H'
abbrev N_sewn_by : List Str := ["sewing", "rows", "words", "order", "row", "place"]
theorem sc_sewn_by : FnScope N_sewn_by ["sewing", "rows"] (C8.fnScope s_sewn_by) := C8.fnScope_by (by decide +kernel)
theorem k_sewn_by (T : Txt K mg) : C8.Cal P w K mg base 7 "sewn_by" (sp_sewn_by K) [] := by
  have nd := sc_sewn_by.nd
  refine defn T.d_sewn_by sc_sewn_by (fun vs H Q E h => ?_) (fun _ _ _ _ _ _ us hl => match us, hl with | [_, _], _ => rfl) (fun f cdv A outer s H vs Q E hr h => ?_)
  · obtain ⟨x, a, ws, m, as, rws, rfl, _⟩ := h
    rfl
  · obtain ⟨x, a, ws, m, as, rws, rfl, hs, ha, hal, hai, hlt, hge, hlen, ok, hm, q⟩ := h
    obtain ⟨dx, r, tm, tc, tp, xs, hd, h1, h2, h3, h4⟩ := id hs
    obtain ⟨dr, tw, tl, tn, tu, ps, g1, g2, g3, g4, g5, g6⟩ := id h2
    refine ⟨_, (pss_cons (ps_setLc (i := 2) (own := [("row", 4)]) (by rfl) nd rfl rfl (sw_true rfl rfl rfl (by decide +kernel)) (pi_list (pv 1)) (blkOk_by (own := [("row", 4)]) (N := N_sewn_by) (sc := C8.fnScope s_sewn_by) (by decide +kernel)) (fun _ _ _ _ _ => (pg_name (i := 4) nd rfl (.inl rfl))) (fun _ _ _ _ _ => pts_nil) (fun _ _ _ _ _ => (C8.pe_mk (k_Word T) hr (by decide) (by rfl) (pa_cons (pe_lc (own := [("place", 5)]) (by rfl) nd (pi_listK (K := K) (pv 4)) (blkOk_by (by rfl)) (fun _ _ _ _ _ => (pg_name (i := 5) nd rfl (.inl rfl))) (fun _ _ _ _ _ => pts_nil) (fun _ _ _ _ _ => (pe_ix (ix_tupK (K := K)) (pe_fldK (K := K) (pe_fldK (K := K) (pv 0) (by rfl)) (by rfl)) (pv 5) (fun _ _ => rfl)))) pa_nil))))
        (pss_cons (ps_set (i := 3) nd rfl (.inr rfl) (pe_lc2 (vs1 := [5]) (own := [("row", 4), ("place", 5)]) (by rfl) nd (pi_list (pv 1)) (blkOk_by (own := [("row", 4), ("place", 5)]) (N := N_sewn_by) (sc := C8.fnScope s_sewn_by) (by decide +kernel)) (by decide) (fun _ _ _ _ _ => (pg_name (i := 4) nd rfl (.inl rfl))) (fun _ _ _ _ _ => pts_nil) (fun _ _ _ _ _ => (pi_listK (K := K) (pv 4))) (fun _ _ _ _ _ => (pg_name (i := 5) nd rfl (.inl rfl))) (fun _ _ _ _ _ => pts_nil) (fun _ _ _ _ _ => (pv 5))))
        (pss_one (ps_ret (C8.pe_mk (k_Sewing T) hr (by decide) (by rfl) (pa_cons (C8.pe_mk (k_Rims T) hr (by decide) (by rfl) (pa_cons (pv 2) pa_nil)) (pa_cons (pe_lc (own := [("place", 5)]) (by rfl) nd (pi_list (pv 3)) (blkOk_by (own := [("place", 5)]) (N := N_sewn_by) (sc := C8.fnScope s_sewn_by) (by decide +kernel)) (fun _ _ _ _ _ => (pg_name (i := 5) nd rfl (.inl rfl))) (fun _ _ _ _ _ => pts_nil) (fun _ _ _ _ _ => (pe_bmK (K := K) PySem.F.plainAttrs_list PySem.F.slot_list_index PySem.F.type_list_index (mt_indexK (K := K)) (pv 3) (pa_cons (pe_ix (ix_tupK (K := K)) (pe_fldK (K := K) (pv 0) (by rfl)) (pv 5) (fun _ _ => rfl)) pa_nil)))) pa_nil))))))), ?_⟩
    have hlr : (rowW ws.flatten rws).length = rws.length := List.length_map _
    have hfew := ok.few
    have hget : ∀ i, i < rws.length → (rowW ws.flatten rws).getD i [] = (rws.getD i []).map fun p => ws.flatten.getD p 0 := fun i hi => by
      unfold rowW
      rw [List.getD_eq_getElem?_getD, List.getD_eq_getElem?_getD, List.getElem?_map, List.getElem?_eq_getElem hi]
      rfl
    have hrow : ∀ i, i < rws.length → ∀ p ∈ rws.getD i [], p ∈ rws.flatten := fun i hi p hp => List.mem_flatten.mpr ⟨_, mem_getDD hi, hp⟩
    have hrl : ∀ i, i < rws.length → (rws.getD i []).length ≤ 100 := fun i hi => by
      have := (ok.ok _ (mem_getDD (d := []) (show i < (rowW ws.flatten rws).length by omega))).1.2
      rw [hget i hi, List.length_map] at this
      omega
    refine ⟨_, rfl, a, rfl, ⟨_, sq_l ha⟩, fun D hD => ?_⟩
    refine lc_all walk_list (by rw [mlr]; omega) (fun i y H' => ∃ t, y = .ref t ∧ WordAt K H' t ((rowW ws.flatten rws).getD i [])) hD (fun H' e => sq_l (e _ _ ha)) (fun i y H3 H4 kp h => ?_) (fun i y Hc H3 hi e3 hz hy => ?_) gmN (fun ys H3 e3 h3' hyl hys => ?_)
    · obtain ⟨t, rfl, h⟩ := h
      exact ⟨t, rfl, h.lx kp.lx⟩
    · obtain ⟨rfl, hy⟩ := hy
      obtain ⟨hi', rfl⟩ := ref_at hy
      have hir : i < rws.length := by omega
      have hai' := (hai i hir).mono e3
      have hw := hget i hir
      have hmem := hrow i hir
      have hl1 := hrl i hir
      have okw := (ok.ok _ (mem_getDD (d := []) (show i < (rowW ws.flatten rws).length by omega))).1
      rw [hw] at okw ⊢
      generalize as.getD i 0 = b at hai'
      generalize rws.getD i [] = row at hai' hmem hl1 okw ⊢
      refine ⟨rfl, fun Q q => ?_⟩
      refine ⟨_, rfl, b, rfl, ⟨_, sq_l hai'⟩, fun D2 hD2 => ?_⟩
      refine lc_val walk_list (by rw [ml, length_iN]; omega) (fun j => .int (ws.flatten.getD (row.getD j 0) 0)) hD2 (fun H' e => sq_l (e _ _ hai')) (fun j y Hc H4 hj e4 hy => ?_) gmN (fun H4 e4 h4 => ?_)
      · obtain ⟨rfl, hy⟩ := hy
        obtain ⟨hj2, rfl⟩ := int_at hy
        rw [length_iN] at hj2
        rw [iN_getD hj2]
        have hpl := hlt _ (hmem _ (getD_mem hj2))
        have e34 := ext e3 e4
        exact ⟨rfl, fun Q q => ⟨_, rfl, x, _, dx, _, _, rfl, e34 _ _ h1, T.i_Sewing.cl, T.n_Sewing_rims, rfl, r, _, dr, _, _, rfl, e34 _ _ g1, T.i_Rims.cl, T.n_Rims_letters, rfl, _, rfl, tl, _, _, _, rfl, rfl, sq_f (g4.mono e34), ati_int hpl, q _ exr⟩⟩
      · rw [ml, length_iN] at h4
        have h4' : IL H4 D2 (row.map fun p => ws.flatten.getD p 0) := by
          show H4 D2 = _
          rw [h4, map_getD (fun p => V.int (ws.flatten.getD p 0)) row, List.map_map]
          rfl
        exact mkWord (.inl h4') okw fun y H' e5 hy => q _ _ (ext e4 e5) ⟨y, rfl, hy⟩
    · rw [mlr] at hyl
      have hdec : ∃ bs : List Addr, ys = bs.map V.ref := by
        have : ∀ l : List V, (∀ y ∈ l, ∃ s, y = V.ref s) → ∃ bs : List Addr, l = bs.map V.ref := fun l => by
          induction l with
          | nil => exact fun _ => ⟨[], rfl⟩
          | cons y l ih =>
            intro h
            obtain ⟨s, rfl⟩ := h y List.mem_cons_self
            obtain ⟨bs, rfl⟩ := ih fun z hz => h z (List.mem_cons_of_mem _ hz)
            exact ⟨s :: bs, rfl⟩
        refine this ys fun y hy => ?_
        obtain ⟨i, hi, e⟩ := List.getElem_of_mem hy
        obtain ⟨s, e2, _⟩ := hys i y (by rw [← e]; exact List.getElem?_eq_getElem hi)
        exact ⟨s, e2⟩
      obtain ⟨bs, rfl⟩ := hdec
      rw [mlr] at hyl
      have hWd : WordsAt K H3 bs (rowW ws.flatten rws) := ⟨by omega, fun i hi => by
        obtain ⟨t, e5, h6⟩ := hys _ _ (at_ref (ps := bs) (show i < bs.length by omega))
        rw [V.ref.inj e5]
        exact h6⟩
      clear hys
      -- order
      refine ⟨_, rfl, a, rfl, ⟨_, sq_l (e3 _ _ ha)⟩, fun D2 hD2 => ?_⟩
      refine lc2_val (n := (as.map V.ref).length) walk_list (fun i => (rws.getD i []).length) (fun i j => V.int (((rws.getD i []).getD j 0 : Nat) : Int)) (fun i hi => ?_) hD2 (fun H' e => sq_l (e _ _ (e3 _ _ ha))) (fun i y Hc H' hi e hy => ?_) gmN gmN (fun H4 e4 h => ?_)
      · rw [mlr] at hi
        have := congrArg (fun l : List (List Nat) => l.flatten.length) (List.take_append_drop i rws)
        simp only [List.flatten_append, List.length_append] at this
        rw [flat_atN i (by omega), ml, length_iN]
        omega
      · rw [mlr] at hi
        obtain ⟨rfl, hy⟩ := hy
        obtain ⟨_, rfl⟩ := ref_at hy
        have hai3 := (hai i (by omega)).mono e3
        have hai' := hai3.mono e
        generalize as.getD i 0 = b at hai' hai3
        generalize rws.getD i [] = row at hai' hai3
        refine ⟨rfl, fun R r => ?_⟩
        refine ⟨_, rfl, b, rfl, ⟨_, sq_l hai'⟩, ?_⟩
        have hwt : Walk (Itl K b) row.length (fun H => SqL K H b ((iN row).map V.int)) (YAt ((iN row).map V.int)) := by
          have q := walk_list (K := K) (a := b) (xs := (iN row).map V.int)
          rw [ml, length_iN] at q
          exact q
        refine r _ _ _ _ hwt exr (fun H5 e5 => sq_l (e5 _ _ hai3)) (fun j z Hd H' hj ed hy => ?_)
        obtain ⟨rfl, hz⟩ := hy
        obtain ⟨hj2, rfl⟩ := int_at hz
        rw [length_iN] at hj2
        rw [iN_getD hj2]
        exact ⟨rfl, fun Q q => ⟨_, rfl, q _ exr⟩⟩
      · rw [mlr, hal, flat_atN _ (Nat.le_refl _), List.take_length] at h
        generalize hord : rws.flatten = order at *
        have hD2' : IL H4 D2 (iN order) := h
        have h4D := e4 _ _ h3'
        have e34 := ext e3 e4
        refine ⟨_, rfl, ?_⟩
        intro yr dx2 nx2 nd2 ne2
        refine ⟨yr, dx2, D, bs, _, rfl, upd_same, exb nx2 nd2 _ _ h4D, (hWd.mono e4).mono (exb nx2 nd2), ok, fun H5 kp hyr => ⟨rfl, ?_⟩⟩
        have e5 := ex_made nx2 nd2 kp
        have e35 := ext e34 e5
        have hD5 := hD2'.mono e5
        refine ⟨_, rfl, D2, rfl, ⟨_, sq_l hD5⟩, fun D3 hD3 => ?_⟩
        refine lc_val walk_list (by rw [ml, length_iN]; omega) (fun j => .int ((order.idxOf (m.getD (order.getD j 0) 0) : Nat) : Int)) hD3 (fun H' e => sq_l (e _ _ hD5)) (fun j y Hc H6 hj e6 hy => ?_) gmN (fun H6 e6 h6 => ?_)
        · obtain ⟨rfl, hy⟩ := hy
          obtain ⟨hj2, rfl⟩ := int_at hy
          rw [length_iN] at hj2
          rw [iN_getD hj2]
          have hpl := hlt _ (getD_mem hj2)
          have hml := h4.2.1.len
          have hv := hge _ (getD_mem hj2)
          have e36 := ext e35 e6
          have hD6 := e6 _ _ hD5
          generalize order.getD j 0 = p at hpl hv
          refine ⟨rfl, fun Q q => ⟨_, rfl, .inl ⟨rfl, _, sq_l hD6⟩, _, rfl, x, _, dx, _, _, rfl, e36 _ _ h1, T.i_Sewing.cl, T.n_Sewing_mates, rfl, _, rfl, tm, _, _, _, rfl, rfl, sq_t (e36 _ _ h3), ati_iN (by omega), D2, _, _, order.idxOf (m.getD p 0), .int ((m.getD p 0 : Nat) : Int), rfl, rfl, sq_l hD6, rfl, flat_all, ?_, ?_, ?_, q _ exr⟩⟩
          · have := List.idxOf_lt_length_of_mem hv
            unfold iN
            rw [List.getElem?_map, List.getElem?_map, List.getElem?_eq_getElem this, List.getElem_idxOf this]
            rfl
          · simp [eqV]
          · intro i' z' hi' hz'
            unfold iN at hz'
            rw [List.getElem?_map, List.getElem?_map] at hz'
            cases ho : order[i']? with
            | none => rw [ho] at hz'; cases hz'
            | some x0 =>
              rw [ho] at hz'
              have hz' : V.int (x0 : Int) = z' := Option.some.inj hz'
              have := before_idx hi' ho
              rw [← hz']
              show ((x0 : Int) == ((m.getD p 0 : Nat) : Int)) = false
              rw [beq_eq_false_iff_ne]
              omega
        · rw [ml, length_iN] at h6
          have h6' : IL H6 D3 (iN (ordM m order)) := by
            show H6 D3 = _
            rw [h6, map_getD (fun p => V.int ((order.idxOf (m.getD p 0) : Nat) : Int)) order]
            unfold ordM iN
            rw [List.map_map, List.map_map]
            rfl
          exact mkSewing (hyr.mono e6) (.inl h6') ok hm fun y H' e7 hy => q y H' (ext e35 (ext e6 e7)) hy
end
end Hw
/-! W22 -/
/-! W22: banded, banded_sewing. -/
namespace Hw
open PySem PySem.Spec PyProof.Rows L2 HR RZ
section
variable {P : Program} {w : World} {K : PySem.W.Frag} {mg : Str → Option Value} {base : Heap}
def sp_need_sewing (K : PySem.W.Frag) : Sp := fun vs H Q _ => ∃ (x : Addr) (ws : List (List Int)) (m : List Nat) (y : V), vs = [.ref x, y] ∧ SewAt K H x ws m ∧ Q .non H
abbrev N_need_sewing : List Str := ["value", "part"]
theorem sc_need_sewing : FnScope N_need_sewing ["value", "part"] (C8.fnScope s_need_sewing) := C8.fnScope_by (by decide +kernel)
theorem k_need_sewing (T : Txt K mg) : C8.Cal P w K mg base 1 "need_sewing" (sp_need_sewing K) [] := by
  have nd := sc_need_sewing.nd
  refine defn T.d_need_sewing sc_need_sewing (fun vs H Q E h => ?_) (fun _ _ _ _ _ _ us hl => match us, hl with | [_, _], _ => rfl) (fun f cdv A outer s H vs Q E hr h => ?_)
  · obtain ⟨x, ws, m, y, rfl, _⟩ := h
    rfl
  · obtain ⟨x, ws, m, y, rfl, ⟨dx, r, tm, tc, tp, xs, hd, h1, _⟩, q⟩ := h
    refine ⟨_, (pss_one (ps_if (pt_not (pt_val (pe_callB (C8.call_isC T.i_Sewing) (by rfl) T.z_isinstance (by decide +kernel) (pa_cons (pv 0) (pa_cons (pe_glob (v := .ref (cSewing K)) (by rfl) T.g_Sewing rfl) pa_nil)))))
        (pss_one ps_never)
        pss_nil)), ?_⟩
    exact ⟨_, rfl, x, dx, _, rfl, h1, _, rfl, iteF q⟩
def bandW (ls ms : List Int) (k : Int) : List Int := ls ++ (k :: (ms ++ [-k]))
def sp_banded (K : PySem.W.Frag) : Sp := fun vs H Q _ => ∃ (x y : Addr) (ls ms : List Int) (k : Int), vs = [.ref x, .ref y, .int k] ∧ WordAt K H x ls ∧ WordAt K H y ms ∧ ls ≠ [] ∧ ms ≠ [] ∧ 1 ≤ k ∧ k ≤ 26 ∧ (∀ l ∈ ls, absI l ≠ k) ∧ (∀ l ∈ ms, absI l ≠ k) ∧ WOk (bandW ls ms k) ∧
  ∀ z H', Ex H H' → WordAt K H' z (bandW ls ms k) → Q (.ref z) H'
abbrev N_banded : List Str := ["one", "other", "kind"]
theorem sc_banded : FnScope N_banded ["one", "other", "kind"] (C8.fnScope s_banded) := C8.fnScope_by (by decide +kernel)
theorem k_banded (T : Txt K mg) : C8.Cal P w K mg base 7 "banded" (sp_banded K) [] := by
  have nd := sc_banded.nd
  refine defn T.d_banded sc_banded (fun vs H Q E h => ?_) (fun _ _ _ _ _ _ us hl => match us, hl with | [_, _, _], _ => rfl) (fun f cdv A outer s H vs Q E hr h => ?_)
  · obtain ⟨x, y, ls, ms, k, rfl, _⟩ := h
    rfl
  · obtain ⟨x, y, ls, ms, k, rfl, hx, hy, n1, n2, k1, k2, f1, f2, ok, q⟩ := h
    refine ⟨_, (pss_cons (ps_expr (C8.pe_c (k_need_words T) hr (by decide) (by rfl) (pa_cons (pv 0) (pa_cons (pv 1) pa_nil))))
        (pss_cons (ps_expr (C8.pe_c (k_need_fresh T) hr (by decide) (by rfl) (pa_cons (pv 2) (pa_cons (pe_lst (pa_cons (pv 0) (pa_cons (pv 1) pa_nil))) pa_nil))))
        (pss_cons (ps_if (PW.pt (pw_or (pt_cmpR op_eq (pe_fld (pv 0) rfl) pe_int (nomark _)) (pw_or1 (pt_cmpR op_eq (pe_fld (pv 1) rfl) pe_int (nomark _)))))
        (pss_one ps_never)
        pss_nil)
        (pss_one (ps_ret (C8.pe_mk (k_Word T) hr (by decide) (by rfl) (pa_cons (pe_lst (StX.pa_star (pe_fld (pv 0) rfl) (pa_cons (pv 2) (StX.pa_star (pe_fld (pv 1) rfl) (pa_cons (pe_un un_neg (pv 2)) pa_nil))))) pa_nil))))))), ?_⟩
    refine ⟨_, rfl, _, rfl, x, y, ls, ms, rfl, hx, hy, ?_⟩
    refine ⟨_, rfl, _, rfl, _, rfl, Nat.le_of_ble_eq_true rfl, fun L hL => ?_⟩
    refine ⟨k, L, [x, y], [ls, ms], rfl, k1, k2, .inl upd_same, ⟨rfl, fun i hi => ?_⟩, by show 2 ≤ 100; decide, fun w hw => ?_, fun H1 e1 => ?_⟩
    · have hi : i < 2 := hi
      match i, hi with
      | 0, _ => exact hx.mono (exn hL)
      | 1, _ => exact hy.mono (exn hL)
    · rcases List.mem_cons.mp hw with e | e
      · rw [e]
        exact f1
      · rw [List.mem_singleton.mp e]
        exact f2
    have e1 := ext (exn (o := .lst [V.ref x, V.ref y]) hL) e1
    obtain ⟨dx, tx, tkx, ksx, h1, h2, h3, h4⟩ := hx.mono e1
    obtain ⟨dy, ty, tky, ksy, g1, g2, g3, g4⟩ := hy.mono e1
    have d1 : decide (V.int (ls.length : Int) = V.int 0) = false := decide_eq_false (fun z => n1 (List.eq_nil_of_length_eq_zero (by have := V.int.inj z; omega)))
    have d2 : decide (V.int (ms.length : Int) = V.int 0) = false := decide_eq_false (fun z => n2 (List.eq_nil_of_length_eq_zero (by have := V.int.inj z; omega)))
    refine ⟨_, rfl, _, _, dx, _, _, rfl, h1, T.i_Word.cl, T.n_Word_length, rfl, rfl, _, rfl, ?_⟩
    rw [d1]
    refine iteF ?_
    refine ⟨_, rfl, _, _, dy, _, _, rfl, g1, T.i_Word.cl, T.n_Word_length, rfl, rfl, _, rfl, ?_⟩
    rw [d2]
    refine iteF ?_
    refine ⟨_, rfl, _, _, dx, _, _, rfl, h1, T.i_Word.cl, T.n_Word_letters, rfl, tx, _, rfl, .inl (sq_t h2), _, rfl, _, rfl, _, _, dy, _, _, rfl, g1, T.i_Word.cl, T.n_Word_letters, rfl, ty, _, rfl, .inl (sq_t g2), _, rfl, _, rfl, ?_⟩
    have hbl : (bandW ls ms k).length = ls.length + ms.length + 2 := by
      unfold bandW
      simp
      omega
    have hbm : ls.map V.int ++ (V.int k :: (ms.map V.int ++ [V.int (-k)])) = (bandW ls ms k).map V.int := by
      unfold bandW
      simp
    have hok := ok.2
    show (ls.map V.int ++ (V.int k :: (ms.map V.int ++ [V.int (-k)]))).length ≤ sizeLine ∧ ∀ (p : Addr), _
    refine ⟨sz (by rw [hbm, ml]; omega), fun p hp => ?_⟩
    intro z dz nz nd' ne
    refine ⟨z, dz, p, bandW ls ms k, rfl, upd_same, .inl (exb nz nd' _ _ ?_), ok.1, ok.2, fun H2 kp hw => ⟨rfl, q z H2 (ext e1 (ext (exn hp) (ex_made nz nd' kp))) hw⟩⟩
    rw [← hbm]
    exact upd_same
/-- the mates behind a band of two rims -/
def bandM (s n : Nat) (m : List Nat) : List Nat := ((m.map fun x => if x < s then x else x + 1).take s) ++ ((n + 1) :: (((m.map fun x => if x < s then x else x + 1).drop s) ++ [s]))
def sp_banded_sewing (K : PySem.W.Frag) : Sp := fun vs H Q _ => ∃ (x : Addr) (ls ms : List Int) (m : List Nat) (k : Int), vs = [.ref x, .int k] ∧ SewAt K H x [ls, ms] m ∧ 1 ≤ k ∧ k ≤ 26 ∧ (∀ l ∈ ls, absI l ≠ k) ∧ (∀ l ∈ ms, absI l ≠ k) ∧ ROk [bandW ls ms k] ∧ Mt [bandW ls ms k].flatten (bandM ls.length (ls.length + ms.length) m) ∧
  ∀ z H', Ex H H' → SewAt K H' z [bandW ls ms k] (bandM ls.length (ls.length + ms.length) m) → Q (.ref z) H'
abbrev N_banded_sewing : List Str := ["sewing", "kind", "rims", "spot", "moved", "ring", "mate"]
theorem sc_banded_sewing : FnScope N_banded_sewing ["sewing", "kind"] (C8.fnScope s_banded_sewing) := C8.fnScope_by (by decide +kernel)
theorem k_banded_sewing (T : Txt K mg) : C8.Cal P w K mg base 8 "banded_sewing" (sp_banded_sewing K) [] := by
  have nd := sc_banded_sewing.nd
  refine defn T.d_banded_sewing sc_banded_sewing (fun vs H Q E h => ?_) (fun _ _ _ _ _ _ us hl => match us, hl with | [_, _], _ => rfl) (fun f cdv A outer s H vs Q E hr h => ?_)
  · obtain ⟨x, ls, ms, m, k, rfl, _⟩ := h
    rfl
  · obtain ⟨x, ls, ms, m, k, rfl, hs, k1, k2, f1, f2, ok, hm, q⟩ := h
    obtain ⟨dx, r, tm, tc, tp, xs, hd, h1, h2, h3, h4⟩ := id hs
    obtain ⟨dr, tw, tl, tn, tu, ps, g1, g2, g3, g4, g5, g6⟩ := id h2
    refine ⟨_, (pss_cons (ps_expr (C8.pe_c (k_need_sewing T) hr (by decide) (by rfl) (pa_cons (pv 0) (pa_cons pe_str pa_nil))))
        (pss_cons (ps_set (i := 2) nd rfl (.inl rfl) (pe_fld (pv 0) rfl))
        (pss_cons (ps_expr (C8.pe_c (k_need_fresh T) hr (by decide) (by rfl) (pa_cons (pv 1) (pa_cons (pe_fld (pv 2) rfl) pa_nil))))
        (pss_cons (ps_if (pt_cmpR op_ne (pe_callB call_len_seq (by rfl) T.z_len PySem.boot_len (pa_cons (pe_fld (pv 2) rfl) pa_nil)) pe_int (nomark _))
        (pss_one ps_never)
        pss_nil)
        (pss_cons (ps_if (pt_cmpR op_gt (pe_op op_add (pe_fld (pv 2) rfl) pe_int) (C8.pe_gc (by rfl) (gi T.v_MOST_LETTERS_rims)) (nomark _))
        (pss_one ps_never)
        pss_nil)
        (pss_cons (ps_set (i := 3) nd rfl (.inr rfl) (pe_fld (pe_ix ix_tup (pe_fld (pv 2) rfl) pe_int (fun _ _ => rfl)) rfl))
        (pss_cons (ps_setLc (i := 4) (own := [("mate", 6)]) (by rfl) nd rfl rfl (sw_true rfl rfl rfl (by decide +kernel)) (pi_tup (pe_fld (pv 0) rfl)) (blkOk_by (own := [("mate", 6)]) (N := N_banded_sewing) (sc := C8.fnScope s_banded_sewing) (by decide +kernel)) (fun _ _ _ _ _ => (pg_name (i := 6) nd rfl (.inl rfl))) (fun _ _ _ _ _ => pts_nil) (fun _ _ _ _ _ => (pe_ifExp (pt_cmpR op_lt (pv 6) (pv 3) (nomark _)) (pv 6) (pe_op op_add (pv 6) pe_int))))
        (pss_cons (ps_set (i := 5) nd rfl (.inl rfl) (C8.pe_c (k_banded T) hr (by decide) (by rfl) (pa_cons (pe_ix ix_tup (pe_fld (pv 2) rfl) pe_int (fun _ _ => rfl)) (pa_cons (pe_ix ix_tup (pe_fld (pv 2) rfl) pe_int (fun _ _ => rfl)) (pa_cons (pv 1) pa_nil)))))
        (pss_one (ps_ret (C8.pe_mk (k_Sewing T) hr (by decide) (by rfl) (pa_cons (C8.pe_mk (k_Rims T) hr (by decide) (by rfl) (pa_cons (pe_lst (pa_cons (pv 5) pa_nil)) pa_nil)) (pa_cons (pe_lst (StX.pa_star (pe_slice sl_list (pv 4) po_none (po_some (pv 3))) (pa_cons (pe_op op_add (pe_fld (pv 2) rfl) pe_int) (StX.pa_star (pe_slice sl_list (pv 4) (po_some (pv 3)) po_none) (pa_cons (pv 3) pa_nil))))) pa_nil))))))))))))), ?_⟩
    have hpl : ps.length = 2 := g3.1
    have hnf : ([ls, ms] : List (List Int)).flatten.length = ls.length + ms.length := by simp
    have hbl : ([bandW ls ms k] : List (List Int)).flatten.length = ls.length + ms.length + 2 := by
      unfold bandW
      simp
      omega
    have hsz := ok.sz
    rw [hbl] at hsz
    have hml := h4.2.1.len
    rw [hnf] at hml
    refine ⟨_, rfl, x, [ls, ms], m, _, rfl, hs, ?_⟩
    refine ⟨_, rfl, x, _, dx, _, _, rfl, h1, T.i_Sewing.cl, T.n_Sewing_rims, rfl, ?_⟩
    refine ⟨_, rfl, _, rfl, r, _, dr, _, _, rfl, g1, T.i_Rims.cl, T.n_Rims_words, rfl, k, tw, ps, _, rfl, k1, k2, .inr g2, g3, by show 2 ≤ 100; decide, fun w hw => ?_, fun H1 e1 => ?_⟩
    · rcases List.mem_cons.mp hw with e | e
      · rw [e]
        exact f1
      · rw [List.mem_singleton.mp e]
        exact f2
    match ps, hpl with
    | [p0, p1], _ =>
      have g2' := e1 _ _ g2
      have g1' := e1 _ _ g1
      have w0 : WordAt K H1 p0 ls := (g3.2 0 (by show 0 < 2; decide)).mono e1
      have w1 : WordAt K H1 p1 ms := (g3.2 1 (by show 1 < 2; decide)).mono e1
      obtain ⟨dw0, t0, tk0, ks0, a1, a2, a3, a4⟩ := id w0
      refine ⟨_, rfl, r, _, dr, _, _, rfl, g1', T.i_Rims.cl, T.n_Rims_words, rfl, tw, _, rfl, .inr (sq_t g2'), rfl, _, rfl, iteF ?_⟩
      refine ⟨_, rfl, r, _, dr, _, _, rfl, g1', T.i_Rims.cl, T.n_Rims_many, rfl, _, _, rfl, rfl, _, _, rfl, rfl, _, rfl, ?_⟩
      rw [hnf, decide_eq_false (show ¬ (24 : Int) < ((ls.length + ms.length : Nat) : Int) + 2 by omega)]
      refine iteF ?_
      refine ⟨_, rfl, r, _, dr, _, _, rfl, g1', T.i_Rims.cl, T.n_Rims_words, rfl, tw, [.ref p0, .ref p1], 0, .ref p0, rfl, rfl, sq_t g2', rfl, p0, _, dw0, _, _, rfl, a1, T.i_Word.cl, T.n_Word_length, rfl, ?_⟩
      -- moved
      have hm1 := e1 _ _ h3
      refine ⟨_, rfl, x, _, dx, _, _, rfl, e1 _ _ h1, T.i_Sewing.cl, T.n_Sewing_mates, rfl, tm, rfl, ⟨_, sq_t hm1⟩, fun D hD => ?_⟩
      refine lc_val walk_tup (by rw [ml, length_iN]; omega) (fun j => .int (((if m.getD j 0 < ls.length then m.getD j 0 else m.getD j 0 + 1 : Nat)) : Int)) hD (fun H' e => sq_t (e _ _ hm1)) (fun j y Hc H2 hj e2 hy => ?_) gmN (fun H2 e2 hh2 => ?_)
      · obtain ⟨rfl, hy⟩ := hy
        obtain ⟨hj2, rfl⟩ := int_at hy
        rw [length_iN] at hj2
        rw [iN_getD hj2]
        refine ⟨rfl, fun Q q => ⟨_, rfl, _, rfl, _, _, rfl, rfl, _, rfl, ?_⟩⟩
        have q : ∀ H4, Ex H2 H4 → Q (.int (((if m.getD j 0 < ls.length then m.getD j 0 else m.getD j 0 + 1 : Nat)) : Int)) H4 := q
        refine ite2 (fun lt => ?_) (fun lt => ?_)
        · have lt := of_decide_eq_true lt
          rw [if_pos (by omega)] at q
          exact ⟨_, rfl, q _ exr⟩
        · have lt : ¬ ((m.getD j 0 : Nat) : Int) < (ls.length : Int) := fun z => lt (decide_eq_true z)
          rw [if_neg (by omega)] at q
          exact ⟨_, rfl, _, _, rfl, rfl, q _ exr⟩
      rw [ml, length_iN] at hh2
      have hmv : IL H2 D (iN (m.map fun x => if x < ls.length then x else x + 1)) := by
        show H2 D = _
        rw [hh2, map_getD (fun x => V.int ((if x < ls.length then x else x + 1 : Nat) : Int)) m]
        unfold iN
        rw [List.map_map, List.map_map]
        rfl
      clear hh2
      have hmvl : (m.map fun x => if x < ls.length then x else x + 1).length = ls.length + ms.length := by rw [List.length_map, hml]
      unfold bandM at hm q
      generalize (m.map fun x => if x < ls.length then x else x + 1) = mv at hmv hmvl hm q
      have g22 := e2 _ _ g2'
      have g12 := e2 _ _ g1'
      -- ring
      have okw : WOk (bandW ls ms k) := (ok.ok _ (List.mem_singleton.mpr rfl)).1
      have hne := h4.1.ok
      refine ⟨_, rfl, r, _, dr, _, _, rfl, g12, T.i_Rims.cl, T.n_Rims_words, rfl, tw, [.ref p0, .ref p1], 0, .ref p0, rfl, rfl, sq_t g22, rfl, _, rfl, r, _, dr, _, _, rfl, g12, T.i_Rims.cl, T.n_Rims_words, rfl, tw, [.ref p0, .ref p1], 1, .ref p1, rfl, rfl, sq_t g22, rfl, _, rfl, p0, p1, ls, ms, k, rfl, w0.mono e2, w1.mono e2, (hne ls (by simp)).2, (hne ms (by simp)).2, k1, k2, f1, f2, okw, fun z H3 e3 hz => ?_⟩
      refine ⟨_, rfl, Nat.le_of_ble_eq_true rfl, fun W hW => ?_⟩
      intro yr dx2 nx2 nd2 ne2
      refine ⟨yr, dx2, W, [z], [bandW ls ms k], rfl, upd_same, exb nx2 nd2 _ _ upd_same, ⟨rfl, fun i hi => ?_⟩, ok, fun H5 kp hyr => ⟨rfl, ?_⟩⟩
      · have hi : i < 1 := hi
        have : i = 0 := by omega
        subst this
        exact (hz.mono (exn hW)).mono (exb nx2 nd2)
      have e5 := ext (exn (o := .lst [V.ref z]) hW) (ex_made nx2 nd2 kp)
      have hD5 := e5 _ _ (e3 _ _ hmv)
      have g15 := e5 _ _ (e3 _ _ g12)
      refine ⟨_, rfl, _, rfl, _, rfl, D, _, rfl, sq_l hD5, fun A1 hA1 => ⟨A1, _, rfl, .inr (sq_l upd_same), ?_⟩⟩
      have x1 := exn (o := .lst (cutV ((iN mv).map V.int) none (some (ls.length : Int)))) hA1
      have eA : cutV ((iN mv).map V.int) none (some (ls.length : Int)) = (iN (mv.take ls.length)).map V.int := by
        rw [cut_to (by rw [ml, length_iN]; omega)]
        unfold iN
        rw [List.map_map, List.map_map, List.map_take]
      refine ⟨_, rfl, r, _, dr, _, _, rfl, x1 _ _ g15, T.i_Rims.cl, T.n_Rims_many, rfl, _, _, rfl, rfl, ?_⟩
      refine ⟨_, rfl, _, rfl, _, rfl, D, _, rfl, sq_l (x1 _ _ hD5), fun A2 hA2 => ⟨A2, _, rfl, .inr (sq_l upd_same), ?_⟩⟩
      have x2 := exn (o := .lst (cutV ((iN mv).map V.int) (some (ls.length : Int)) none)) hA2
      have eB : cutV ((iN mv).map V.int) (some (ls.length : Int)) none = (iN (mv.drop ls.length)).map V.int := by
        rw [cut_from (by rw [ml, length_iN]; omega)]
        unfold iN
        rw [List.map_map, List.map_map, List.map_drop]
      refine ⟨_, rfl, ?_⟩
      rw [eA, eB, hnf]
      have eC : (iN (mv.take ls.length)).map V.int ++ (V.int (((ls.length + ms.length : Nat) : Int) + 1) :: ((iN (mv.drop ls.length)).map V.int ++ [V.int (ls.length : Int)])) = (iN (mv.take ls.length ++ ((ls.length + ms.length + 1) :: (mv.drop ls.length ++ [ls.length])))).map V.int := by
        rw [iN_append, List.map_append]
        congr 1
        show _ = V.int _ :: (iN (mv.drop ls.length ++ [ls.length])).map V.int
        rw [iN_append, List.map_append]
        rfl
      rw [eA] at x1 x2
      rw [eB] at x2
      show ((iN (mv.take ls.length)).map V.int ++ (V.int (((ls.length + ms.length : Nat) : Int) + 1) :: ((iN (mv.drop ls.length)).map V.int ++ [V.int (ls.length : Int)]))).length ≤ sizeLine ∧ ∀ (p : Addr), _
      refine ⟨sz (by rw [eC, ml, length_iN]; simp; omega), fun p hp => ?_⟩
      intro x9 dx9 nx9 nd9 ne9
      have x3 := exn (o := .lst ((iN (mv.take ls.length)).map V.int ++ (V.int (((ls.length + ms.length : Nat) : Int) + 1) :: ((iN (mv.drop ls.length)).map V.int ++ [V.int (ls.length : Int)])))) hp
      have x123 := ext x1 (ext x2 x3)
      refine ⟨x9, dx9, yr, p, _, _, rfl, upd_same, (hyr.mono x123).mono (exb nx9 nd9), .inl (exb nx9 nd9 _ _ ?_), ok, hm, fun H6 kp6 hs6 => ⟨rfl, q x9 H6 (ext e1 (ext e2 (ext e3 (ext e5 (ext x123 (ex_made nx9 nd9 kp6)))))) hs6⟩⟩
      rw [← eC]
      exact upd_same
end
end Hw
/-! W23 -/
/-! W23: cut, unbanded. -/
namespace Hw
open PySem PySem.Spec PyProof.Rows L2 HR RZ
section
variable {P : Program} {w : World} {K : PySem.W.Frag} {mg : Str → Option Value} {base : Heap}
/-- what sewn_by asks of rows -/
structure RowsOk (ws : List (List Int)) (m : List Nat) (rws : List (List Nat)) : Prop where
  lt : ∀ p ∈ rws.flatten, p < ws.flatten.length
  ge : ∀ p ∈ rws.flatten, m.getD p 0 ∈ rws.flatten
  len : rws.flatten.length ≤ 100
  ok : ROk (rowW ws.flatten rws)
  mt : Mt (rowW ws.flatten rws).flatten (ordM m rws.flatten)
theorem inV_iN {x : Nat} {l : List Nat} : inV (V.int (x : Int)) ((iN l).map V.int) = decide (x ∈ l) := by
  rw [Bool.eq_iff_iff]
  unfold inV iN
  rw [List.any_map, List.any_map, List.any_eq_true, decide_eq_true_iff]
  constructor
  · rintro ⟨y, hy, e⟩
    have e : ((y : Int) == (x : Int)) = true := e
    rw [beq_iff_eq] at e
    have : y = x := by omega
    exact this ▸ hy
  · intro h
    exact ⟨x, h, by show ((x : Int) == (x : Int)) = true; simp⟩
theorem flat_iN {l : List Nat} : ((iN l).map V.int).all L2.flatV = true := flat_all
theorem u65 {k : Nat} {A : Around} (r : Room k A) : A.units + 65 < cLine := by have := r.un; omega
theorem idx_facts {l : List Nat} {v : Nat} (hv : v ∈ l) : ((iN l).map V.int)[l.idxOf v]? = some (.int (v : Int)) ∧ ∀ (m : Nat) (z' : V), m < l.idxOf v → ((iN l).map V.int)[m]? = some z' → eqV z' (.int (v : Int)) = false := by
  constructor
  · have := List.idxOf_lt_length_of_mem hv
    unfold iN
    rw [List.getElem?_map, List.getElem?_map, List.getElem?_eq_getElem this, List.getElem_idxOf this]
    rfl
  · intro i' z' hi' hz'
    unfold iN at hz'
    rw [List.getElem?_map, List.getElem?_map] at hz'
    cases ho : l[i']? with
    | none => rw [ho] at hz'; cases hz'
    | some x0 =>
      rw [ho] at hz'
      have hz' : V.int (x0 : Int) = z' := Option.some.inj hz'
      have := before_idx hi' ho
      rw [← hz']
      show ((x0 : Int) == (v : Int)) = false
      rw [beq_eq_false_iff_ne]
      omega
theorem cut_takeN {l : List Nat} {k : Nat} (h : k ≤ l.length) : cutV ((iN l).map V.int) none (some (k : Int)) = (iN (l.take k)).map V.int := by
  rw [cut_to (by rw [ml, length_iN]; omega)]
  unfold iN
  rw [List.map_map, List.map_map, List.map_take]
theorem cut_dropN {l : List Nat} {k : Nat} : cutV ((iN l).map V.int) (some (k : Int)) none = (iN (l.drop k)).map V.int := by
  rw [cut_from']
  unfold iN
  rw [List.map_map, List.map_map, List.map_drop]
def sp_cut (K : PySem.W.Frag) : Sp := fun vs H Q _ => ∃ (x : Addr) (ws : List (List Int)) (m R1 R2 : List Nat) (p q : Nat) (rws : List (List Nat)), vs = [.ref x, .int (p : Int), .int (q : Int)] ∧ SewAt K H x ws m ∧ p < ws.flatten.length ∧ q < ws.flatten.length ∧ p ≠ q ∧ ws.length < 4 ∧ Rnd (nxF 0 (lens ws)) R1 ∧ R1.getD 0 0 = p ∧ R1.length ≤ 100 ∧
  ((q ∈ R1 ∧ rws = [R1.take (R1.idxOf q), R1.drop (R1.idxOf q)]) ∨ (q ∉ R1 ∧ rws = [R1 ++ R2] ∧ Rnd (nxF 0 (lens ws)) R2 ∧ R2.getD 0 0 = q ∧ R2.length ≤ 100)) ∧
  0 ∈ [(nuF 0 (lens ws)).getD p 0, (nuF 0 (lens ws)).getD q 0] ∧ (∀ i, i < ws.length → i ∈ [(nuF 0 (lens ws)).getD p 0, (nuF 0 (lens ws)).getD q 0]) ∧ RowsOk ws m rws ∧
  ∀ y H', Ex H H' → SewAt K H' y (rowW ws.flatten rws) (ordM m rws.flatten) → Q (.ref y) H'
abbrev N_cut : List Str := ["sewing", "place", "other", "rims", "value", "numbers", "mine", "rows"]
theorem sc_cut : FnScope N_cut ["sewing", "place", "other"] (C8.fnScope s_cut) := C8.fnScope_by (by decide +kernel)
theorem k_cut (T : Txt K mg) : C8.Cal P w K mg base 8 "cut" (sp_cut K) [] := by
  have nd := sc_cut.nd
  refine defn T.d_cut sc_cut (fun vs H Q E h => ?_) (fun _ _ _ _ _ _ us hl => match us, hl with | [_, _, _], _ => rfl) (fun f cdv A outer s H vs Q E hr h => ?_)
  · obtain ⟨x, ws, m, R1, R2, p, q, rws, rfl, _⟩ := h
    rfl
  · obtain ⟨x, ws, m, R1, R2, p, q, rws, rfl, hs, hp, hq, hpq, hw4, hR1, hR10, hR1l, hcase, hn0, hnall, hrok, qq⟩ := h
    obtain ⟨dx, r, tm, tc, tp, xs, hd, h1, h2, h3, h4⟩ := id hs
    obtain ⟨dr, tw, tl, tn, tu, ps, g1, g2, g3, g4, g5, g6⟩ := id h2
    have hnul : (nuF 0 (lens ws)).length = ws.flatten.length := by rw [length_nuF, length_flat]
    refine ⟨_, (pss_cons (ps_expr (C8.pe_c (k_need_sewing T) hr (by decide) (by rfl) (pa_cons (pv 0) (pa_cons pe_str pa_nil))))
        (pss_cons (ps_set (i := 3) nd rfl (.inl rfl) (pe_fld (pv 0) rfl))
        (pss_cons (ps_for PassesOwn.never rfl (pi_tup (pe_tup (pa_cons (pv 1) (pa_cons (pv 2) pa_nil)))) (pg_name (i := 4) nd rfl (.inl rfl))
        (pss_one (ps_expr (C8.pe_c (k_need_place T) hr (by decide) (by rfl) (pa_cons (pv 3) (pa_cons (pv 4) pa_nil))))))
        (pss_cons (ps_if (pt_cmpR op_eq (pv 1) (pv 2) (nomark _))
        (pss_one ps_never)
        pss_nil)
        (pss_cons (ps_set (i := 5) nd rfl (.inl rfl) (pe_lst (pa_cons (pe_ix ix_tup (pe_fld (pv 3) rfl) (pv 1) (fun _ _ => rfl)) (pa_cons (pe_ix ix_tup (pe_fld (pv 3) rfl) (pv 2) (fun _ _ => rfl)) pa_nil))))
        (pss_cons (ps_set (i := 6) nd rfl (.inl rfl) (C8.pe_c (k_round_from T) hr (by decide) (by rfl) (pa_cons (pv 3) (pa_cons (pv 1) pa_nil))))
        (pss_cons (ps_if (pt_cmpR op_in_seq (pv 2) (pv 6) (by rfl))
        (pss_one (ps_set (i := 7) nd rfl (.inl rfl) (pe_lst (pa_cons (pe_slice sl_list (pv 6) po_none (po_some (pe_bm PySem.F.plainAttrs_list PySem.F.slot_list_index PySem.F.type_list_index mt_index (pv 6) (pa_cons (pv 2) pa_nil)))) (pa_cons (pe_slice sl_list (pv 6) (po_some (pe_bm PySem.F.plainAttrs_list PySem.F.slot_list_index PySem.F.type_list_index mt_index (pv 6) (pa_cons (pv 2) pa_nil))) po_none) pa_nil)))))
        (pss_one (ps_set (i := 7) nd rfl (.inl rfl) (pe_lst (pa_cons (pe_op op_cat (pv 6) (C8.pe_c (k_round_from T) hr (by decide) (by rfl) (pa_cons (pv 3) (pa_cons (pv 2) pa_nil)))) pa_nil)))))
        (pss_cons (ps_if (PW.pt (pw_and (pt_cmpR op_eq (pe_callB call_len_seq (by rfl) T.z_len PySem.boot_len (pa_cons (pv 7) pa_nil)) pe_int (nomark _)) (pw_and1 (pt_cmpR op_eq (pe_callB call_len_seq (by rfl) T.z_len PySem.boot_len (pa_cons (pe_fld (pv 3) rfl) pa_nil)) (C8.pe_gc (by rfl) (gi T.v_MOST_WORDS)) (nomark _)))))
        (pss_one ps_never)
        pss_nil)
        (pss_one (ps_ret (C8.pe_c (k_sewn_by T) hr (by decide) (by rfl) (pa_cons (pv 0) (pa_cons (C8.pe_c (k_with_rows T) hr (by decide) (by rfl) (pa_cons (pv 3) (pa_cons (pv 5) (pa_cons (pv 7) pa_nil)))) pa_nil))))))))))))), ?_⟩
    refine ⟨_, rfl, x, ws, m, _, rfl, hs, ?_⟩
    refine ⟨_, rfl, x, _, dx, _, _, rfl, h1, T.i_Sewing.cl, T.n_Sewing_rims, rfl, ?_⟩
    refine ⟨_, rfl, _, rfl, Nat.le_of_ble_eq_true rfl, fun Tq hTq => ⟨Tq, rfl, ⟨_, sq_t upd_same⟩, ?_⟩⟩
    have e0 := exn (o := .tup [V.int (p : Int), V.int (q : Int)]) hTq
    refine for_tup (xs := [V.int (p : Int), V.int (q : Int)]) (fun i σ H' => ∃ y4, σ = [some (.ref x), some (.int (p : Int)), some (.int (q : Int)), some (.ref r), y4, none, none, none] ∧ H' = upd H Tq (.tup [V.int (p : Int), V.int (q : Int)])) ⟨none, rfl, rfl⟩ (fun i σ H' _ pp => ?_) (fun i v σ H' hx pp => ?_) (fun σ H' pp => ?_)
    · obtain ⟨_, rfl, rfl⟩ := pp
      exact sq_t upd_same
    · obtain ⟨y4, rfl, rfl⟩ := pp
      have hv : ∃ z : Nat, v = .int (z : Int) ∧ z < ws.flatten.length := by
        match i, hx with
        | 0, hx => exact ⟨p, (Option.some.inj hx).symm, hp⟩
        | 1, hx => exact ⟨q, (Option.some.inj hx).symm, hq⟩
      obtain ⟨z, rfl, hz⟩ := hv
      exact ⟨_, rfl, _, rfl, r, ws, z, rfl, h2.mono e0, hz, _, rfl, rfl⟩
    · obtain ⟨y4, rfl, rfl⟩ := pp
      generalize upd H Tq (.tup [V.int (p : Int), V.int (q : Int)]) = H1 at e0
      refine ⟨_, rfl, _, rfl, rfl, _, rfl, ?_⟩
      rw [decide_eq_false (fun z => hpq (by have := V.int.inj z; omega))]
      refine iteF ?_
      have a1 := e0 _ _ g1
      have a6 := e0 _ _ g6
      refine ⟨_, rfl, r, _, dr, _, _, rfl, a1, T.i_Rims.cl, T.n_Rims_numbers, rfl, _, rfl, tu, _, _, _, rfl, rfl, sq_t a6, ati_iN (by omega), _, rfl, r, _, dr, _, _, rfl, a1, T.i_Rims.cl, T.n_Rims_numbers, rfl, _, rfl, tu, _, _, _, rfl, rfl, sq_t a6, ati_iN (by omega), Nat.le_of_ble_eq_true rfl, fun N hN => ?_⟩
      have e1 := exn (o := .lst [V.int ((nuF 0 (lens ws)).getD p 0 : Nat), V.int ((nuF 0 (lens ws)).getD q 0 : Nat)]) hN
      refine ⟨_, rfl, _, rfl, r, ws, R1, (by rw [hR10]; rfl), (h2.mono e0).mono e1, hR1, by omega, fun qa H2 e2 hRa => ?_⟩
      have hN2 : IL H2 N (iN [(nuF 0 (lens ws)).getD p 0, (nuF 0 (lens ws)).getD q 0]) := e2 _ _ upd_same
      have e012 := ext e0 (ext e1 e2)
      refine ⟨_, rfl, _, rfl, qa, _, rfl, .inl (sq_l hRa), rfl, flat_iN, _, rfl, ?_⟩
      rw [inV_iN]
      rcases hcase with ⟨hin, rfl⟩ | ⟨hin, rfl, hR2, hR20, hR2l⟩
      · rw [decide_eq_true hin]
        refine iteT ?_
        obtain ⟨i1, i2⟩ := idx_facts hin
        have hix := List.idxOf_lt_length_of_mem hin
        refine ⟨_, rfl, _, rfl, .inl ⟨rfl, _, sq_l hRa⟩, _, rfl, qa, _, _, _, _, rfl, rfl, sq_l hRa, rfl, flat_iN, i1, by simp [eqV], i2, _, rfl, qa, _, rfl, sq_l hRa, fun A1 hA1 => ?_⟩
        rw [cut_takeN (by omega)]
        have x1 := exn (o := .lst ((iN (R1.take (R1.idxOf q))).map V.int)) hA1
        have hRa1 := x1 _ _ hRa
        refine ⟨_, rfl, _, rfl, .inl ⟨rfl, _, sq_l hRa1⟩, _, rfl, qa, _, _, _, _, rfl, rfl, sq_l hRa1, rfl, flat_iN, i1, by simp [eqV], i2, _, rfl, qa, _, rfl, sq_l hRa1, fun A2 hA2 => ?_⟩
        rw [cut_dropN]
        have x2 := exn (o := .lst ((iN (R1.drop (R1.idxOf q))).map V.int)) hA2
        have hR1A := x2 _ _ (upd_same (H := H2) (a := A1))
        refine ⟨Nat.le_of_ble_eq_true rfl, fun L hL => ?_⟩
        have x3 := exn (o := .lst [V.ref A1, V.ref A2]) hL
        have x123 := ext x1 (ext x2 x3)
        have hB1 : IL (upd (upd (upd H2 A1 (.lst ((iN (R1.take (R1.idxOf q))).map V.int))) A2 (.lst ((iN (R1.drop (R1.idxOf q))).map V.int))) L (.lst [V.ref A1, V.ref A2])) A1 (iN (R1.take (R1.idxOf q))) := x3 _ _ hR1A
        have hB2 : IL (upd (upd (upd H2 A1 (.lst ((iN (R1.take (R1.idxOf q))).map V.int))) A2 (.lst ((iN (R1.drop (R1.idxOf q))).map V.int))) L (.lst [V.ref A1, V.ref A2])) A2 (iN (R1.drop (R1.idxOf q))) := x3 _ _ upd_same
        have hL5 := upd_same (H := upd (upd H2 A1 (.lst ((iN (R1.take (R1.idxOf q))).map V.int))) A2 (.lst ((iN (R1.drop (R1.idxOf q))).map V.int))) (a := L) (o := .lst [V.ref A1, V.ref A2])
        generalize upd (upd (upd H2 A1 (.lst ((iN (R1.take (R1.idxOf q))).map V.int))) A2 (.lst ((iN (R1.drop (R1.idxOf q))).map V.int))) L (.lst [V.ref A1, V.ref A2]) = H5 at x3 x123 hB1 hB2 hL5
        have e5 := ext e012 x123
        have hN5 := hN2.mono x123
        have b1 := e5 _ _ g1
        have b2 := e5 _ _ g2
        refine ⟨_, rfl, L, _, rfl, .inl (sq_l hL5), rfl, _, rfl, iteT ?_⟩
        refine ⟨_, rfl, r, _, dr, _, _, rfl, b1, T.i_Rims.cl, T.n_Rims_words, rfl, tw, _, rfl, .inr (sq_t b2), rfl, _, rfl, ?_⟩
        rw [mlr, g3.1, decide_eq_false (fun z => by have := V.int.inj z; omega)]
        refine iteF ?_
        refine ⟨_, rfl, _, rfl, _, rfl, _, rfl, r, N, L, ws, _, _, rfl, h2.mono e5, hN5, hL5, hn0, hnall, by have := h4.1.few; omega, by omega, by show 2 ≤ 1000; decide, fun fq H6 e6 hf6 => ?_⟩
        have e56 := ext e5 e6
        refine ⟨x, fq, ws, m, [A1, A2], _, rfl, hs.mono e56, hf6, rfl, fun i hi => ?_, hrok.lt, hrok.ge, hrok.len, hrok.ok, hrok.mt, fun y H7 e7 hy => qq y H7 (ext e56 e7) hy⟩
        have hi : i < 2 := hi
        match i, hi with
        | 0, _ => exact hB1.mono e6
        | 1, _ => exact hB2.mono e6
      · rw [decide_eq_false hin]
        refine iteF ?_
        refine ⟨_, rfl, _, rfl, _, rfl, r, ws, R2, (by rw [hR20]; rfl), h2.mono e012, hR2, by omega, fun qb H3 e3 hRb => ?_⟩
        have hRa3 := e3 _ _ hRa
        refine ⟨qa, qb, _, _, rfl, rfl, hRa3, hRb, sz (by rw [ml, ml, length_iN, length_iN]; omega), fun A1 hA1 => ?_⟩
        have x1 := exn (o := .lst ((iN R1).map V.int ++ (iN R2).map V.int)) hA1
        have hB0 : IL (upd H3 A1 (.lst ((iN R1).map V.int ++ (iN R2).map V.int))) A1 (iN (R1 ++ R2)) := by
          show upd H3 A1 _ A1 = _
          rw [upd_same, iN_append, List.map_append]
        refine ⟨Nat.le_of_ble_eq_true rfl, fun L hL => ?_⟩
        have x3 := exn (o := .lst [V.ref A1]) hL
        have hB1 := hB0.mono x3
        have hL5 := upd_same (H := upd H3 A1 (.lst ((iN R1).map V.int ++ (iN R2).map V.int))) (a := L) (o := .lst [V.ref A1])
        have x123 := ext e3 (ext x1 x3)
        generalize upd (upd H3 A1 (.lst ((iN R1).map V.int ++ (iN R2).map V.int))) L (.lst [V.ref A1]) = H5 at x3 x123 hB1 hL5
        have e5 := ext e012 x123
        have hN5 := hN2.mono x123
        refine ⟨_, rfl, L, _, rfl, .inl (sq_l hL5), rfl, _, rfl, iteF (iteF ?_)⟩
        refine ⟨_, rfl, _, rfl, _, rfl, _, rfl, r, N, L, ws, _, _, rfl, h2.mono e5, hN5, hL5, hn0, hnall, by have := h4.1.few; omega, by omega, by show 1 ≤ 1000; decide, fun fq H6 e6 hf6 => ?_⟩
        have e56 := ext e5 e6
        refine ⟨x, fq, ws, m, [A1], _, rfl, hs.mono e56, hf6, rfl, fun i hi => ?_, hrok.lt, hrok.ge, hrok.len, hrok.ok, hrok.mt, fun y H7 e7 hy => qq y H7 (ext e56 e7) hy⟩
        have hi : i < 1 := hi
        match i, hi with
        | 0, _ => exact hB1.mono e6
def sp_unbanded (K : PySem.W.Frag) : Sp := fun vs H Q _ => ∃ (x : Addr) (ws : List (List Int)) (m R : List Nat) (p : Nat) (rws : List (List Nat)), vs = [.ref x, .int (p : Int)] ∧ SewAt K H x ws m ∧ p < ws.flatten.length ∧ ws.length < 4 ∧ Rnd (nxF 0 (lens ws)) (p :: R) ∧ R.length ≤ 100 ∧
  m.getD p 0 ∈ R ∧ rws = [R.take (R.idxOf (m.getD p 0)), R.drop (R.idxOf (m.getD p 0) + 1)] ∧ R.take (R.idxOf (m.getD p 0)) ≠ [] ∧ R.drop (R.idxOf (m.getD p 0) + 1) ≠ [] ∧
  0 ∈ [(nuF 0 (lens ws)).getD p 0, (nuF 0 (lens ws)).getD (m.getD p 0) 0] ∧ (∀ i, i < ws.length → i ∈ [(nuF 0 (lens ws)).getD p 0, (nuF 0 (lens ws)).getD (m.getD p 0) 0]) ∧ RowsOk ws m rws ∧
  ∀ y H', Ex H H' → SewAt K H' y (rowW ws.flatten rws) (ordM m rws.flatten) → Q (.ref y) H'
abbrev N_unbanded : List Str := ["sewing", "place", "rims", "mate", "numbers", "mine", "rows"]
theorem sc_unbanded : FnScope N_unbanded ["sewing", "place"] (C8.fnScope s_unbanded) := C8.fnScope_by (by decide +kernel)
theorem k_unbanded (T : Txt K mg) : C8.Cal P w K mg base 8 "unbanded" (sp_unbanded K) [] := by
  have nd := sc_unbanded.nd
  refine defn T.d_unbanded sc_unbanded (fun vs H Q E h => ?_) (fun _ _ _ _ _ _ us hl => match us, hl with | [_, _], _ => rfl) (fun f cdv A outer s H vs Q E hr h => ?_)
  · obtain ⟨x, ws, m, R, p, rws, rfl, _⟩ := h
    rfl
  · obtain ⟨x, ws, m, R, p, rws, rfl, hs, hp, hw4, hR, hRl, hin, rfl, n1, n2, hn0, hnall, hrok, qq⟩ := h
    obtain ⟨dx, r, tm, tc, tp, xs, hd, h1, h2, h3, h4⟩ := id hs
    obtain ⟨dr, tw, tl, tn, tu, ps, g1, g2, g3, g4, g5, g6⟩ := id h2
    have hnul : (nuF 0 (lens ws)).length = ws.flatten.length := by rw [length_nuF, length_flat]
    have hml := h4.2.1.len
    have hmp := h4.2.1.lt p hp
    generalize hmd : m.getD p 0 = mt at *
    have hmat := ati_iN (l := m) (k := p) (by omega)
    rw [hmd] at hmat
    refine ⟨_, (pss_cons (ps_expr (C8.pe_c (k_need_sewing T) hr (by decide) (by rfl) (pa_cons (pv 0) (pa_cons pe_str pa_nil))))
        (pss_cons (ps_set (i := 2) nd rfl (.inl rfl) (pe_fld (pv 0) rfl))
        (pss_cons (ps_expr (C8.pe_c (k_need_place T) hr (by decide) (by rfl) (pa_cons (pv 2) (pa_cons (pv 1) pa_nil))))
        (pss_cons (ps_set (i := 3) nd rfl (.inl rfl) (pe_ix ix_tup (pe_fld (pv 0) rfl) (pv 1) (fun _ _ => rfl)))
        (pss_cons (ps_set (i := 4) nd rfl (.inl rfl) (pe_lst (pa_cons (pe_ix ix_tup (pe_fld (pv 2) rfl) (pv 1) (fun _ _ => rfl)) (pa_cons (pe_ix ix_tup (pe_fld (pv 2) rfl) (pv 3) (fun _ _ => rfl)) pa_nil))))
        (pss_cons (ps_set (i := 5) nd rfl (.inl rfl) (pe_slice sl_list (C8.pe_c (k_round_from T) hr (by decide) (by rfl) (pa_cons (pv 2) (pa_cons (pv 1) pa_nil))) (po_some pe_int) po_none))
        (pss_cons (ps_if (pt_cmpR op_in_seq (pv 3) (pv 5) (by rfl))
        (pss_one (ps_set (i := 6) nd rfl (.inl rfl) (pe_lst (pa_cons (pe_slice sl_list (pv 5) po_none (po_some (pe_bm PySem.F.plainAttrs_list PySem.F.slot_list_index PySem.F.type_list_index mt_index (pv 5) (pa_cons (pv 3) pa_nil)))) (pa_cons (pe_slice sl_list (pv 5) (po_some (pe_op op_add (pe_bm PySem.F.plainAttrs_list PySem.F.slot_list_index PySem.F.type_list_index mt_index (pv 5) (pa_cons (pv 3) pa_nil)) pe_int)) po_none) pa_nil)))))
        (pss_one (ps_set (i := 6) nd rfl (.inl rfl) (pe_lst (pa_cons (pe_op op_cat (pv 5) (pe_slice sl_list (C8.pe_c (k_round_from T) hr (by decide) (by rfl) (pa_cons (pv 2) (pa_cons (pv 3) pa_nil))) (po_some pe_int) po_none)) pa_nil)))))
        (pss_cons (ps_if (pt_cmpR (op_inD (u65 hr)) (pe_lst pa_nil) (pv 6) (by rfl))
        (pss_one ps_never)
        pss_nil)
        (pss_cons (ps_if (PW.pt (pw_and (pt_cmpR op_eq (pe_callB call_len_seq (by rfl) T.z_len PySem.boot_len (pa_cons (pv 6) pa_nil)) pe_int (nomark _)) (pw_and1 (pt_cmpR op_eq (pe_callB call_len_seq (by rfl) T.z_len PySem.boot_len (pa_cons (pe_fld (pv 2) rfl) pa_nil)) (C8.pe_gc (by rfl) (gi T.v_MOST_WORDS)) (nomark _)))))
        (pss_one ps_never)
        pss_nil)
        (pss_one (ps_ret (C8.pe_c (k_sewn_by T) hr (by decide) (by rfl) (pa_cons (pv 0) (pa_cons (C8.pe_c (k_with_rows T) hr (by decide) (by rfl) (pa_cons (pv 2) (pa_cons (pv 4) (pa_cons (pv 6) pa_nil)))) pa_nil)))))))))))))), ?_⟩
    refine ⟨_, rfl, x, ws, m, _, rfl, hs, ?_⟩
    refine ⟨_, rfl, x, _, dx, _, _, rfl, h1, T.i_Sewing.cl, T.n_Sewing_rims, rfl, ?_⟩
    refine ⟨_, rfl, _, rfl, r, ws, p, rfl, h2, hp, ?_⟩
    refine ⟨_, rfl, x, _, dx, _, _, rfl, h1, T.i_Sewing.cl, T.n_Sewing_mates, rfl, _, rfl, tm, _, _, _, rfl, rfl, sq_t h3, hmat, ?_⟩
    refine ⟨_, rfl, r, _, dr, _, _, rfl, g1, T.i_Rims.cl, T.n_Rims_numbers, rfl, _, rfl, tu, _, _, _, rfl, rfl, sq_t g6, ati_iN (by omega), _, rfl, r, _, dr, _, _, rfl, g1, T.i_Rims.cl, T.n_Rims_numbers, rfl, _, rfl, tu, _, _, _, rfl, rfl, sq_t g6, ati_iN (by omega), Nat.le_of_ble_eq_true rfl, fun N hN => ?_⟩
    have e1 := exn (o := .lst [V.int ((nuF 0 (lens ws)).getD p 0 : Nat), V.int ((nuF 0 (lens ws)).getD mt 0 : Nat)]) hN
    refine ⟨_, rfl, _, rfl, r, ws, p :: R, rfl, h2.mono e1, hR, by simp; omega, fun qa H2 e2 hRa => ?_⟩
    have eM : cutV ((iN (p :: R)).map V.int) (some 1) none = (iN R).map V.int := cut_dropN (l := p :: R) (k := 1)
    refine ⟨_, rfl, qa, _, rfl, sq_l hRa, fun M hM => ?_⟩
    rw [eM]
    have e3 := exn (o := .lst ((iN R).map V.int)) hM
    have hRM : IL (upd H2 M (.lst ((iN R).map V.int))) M (iN R) := upd_same
    generalize upd H2 M (.lst ((iN R).map V.int)) = H3 at e3 hRM
    have e123 := ext e1 (ext e2 e3)
    have hN3 : IL H3 N (iN [(nuF 0 (lens ws)).getD p 0, (nuF 0 (lens ws)).getD mt 0]) := (ext e2 e3) _ _ upd_same
    refine ⟨_, rfl, _, rfl, M, _, rfl, .inl (sq_l hRM), rfl, flat_iN, _, rfl, ?_⟩
    rw [inV_iN, decide_eq_true hin]
    refine iteT ?_
    obtain ⟨i1, i2⟩ := idx_facts hin
    have hix := List.idxOf_lt_length_of_mem hin
    refine ⟨_, rfl, _, rfl, .inl ⟨rfl, _, sq_l hRM⟩, _, rfl, M, _, _, _, _, rfl, rfl, sq_l hRM, rfl, flat_iN, i1, by simp [eqV], i2, _, rfl, M, _, rfl, sq_l hRM, fun A1 hA1 => ?_⟩
    rw [cut_takeN (by omega)]
    have x1 := exn (o := .lst ((iN (R.take (R.idxOf mt))).map V.int)) hA1
    have hRM1 := x1 _ _ hRM
    refine ⟨_, rfl, _, rfl, .inl ⟨rfl, _, sq_l hRM1⟩, _, rfl, M, _, _, _, _, rfl, rfl, sq_l hRM1, rfl, flat_iN, i1, by simp [eqV], i2, _, _, rfl, rfl, _, rfl, M, _, rfl, sq_l hRM1, fun A2 hA2 => ?_⟩
    have eB : cutV ((iN R).map V.int) (some (((R.idxOf mt : Nat) : Int) + 1)) none = (iN (R.drop (R.idxOf mt + 1))).map V.int := cut_dropN (l := R) (k := R.idxOf mt + 1)
    rw [eB]
    have x2 := exn (o := .lst ((iN (R.drop (R.idxOf mt + 1))).map V.int)) hA2
    have hR1A := x2 _ _ (upd_same (H := H3) (a := A1))
    refine ⟨Nat.le_of_ble_eq_true rfl, fun L hL => ?_⟩
    have x3 := exn (o := .lst [V.ref A1, V.ref A2]) hL
    have hB1 : IL _ A1 (iN (R.take (R.idxOf mt))) := x3 _ _ hR1A
    have hB2 : IL _ A2 (iN (R.drop (R.idxOf mt + 1))) := x3 _ _ upd_same
    have x123 := ext e123 (ext x1 (ext x2 x3))
    have hN5 := hN3.mono (ext x1 (ext x2 x3))
    have hL5 := upd_same (H := upd (upd H3 A1 (.lst ((iN (R.take (R.idxOf mt))).map V.int))) A2 (.lst ((iN (R.drop (R.idxOf mt + 1))).map V.int))) (a := L) (o := .lst [V.ref A1, V.ref A2])
    generalize upd (upd (upd H3 A1 (.lst ((iN (R.take (R.idxOf mt))).map V.int))) A2 (.lst ((iN (R.drop (R.idxOf mt + 1))).map V.int))) L (.lst [V.ref A1, V.ref A2]) = H5 at x3 x123 hB1 hB2 hL5 hN5
    refine ⟨Nat.zero_le _, fun Z hZ => ?_⟩
    have z1 := exn (o := .lst []) hZ
    refine ⟨_, rfl, _, _, dp_nil upd_same, .lst (sq_l (z1 _ _ hL5)) (.cons (dp_l (hB1.mono z1)) (.cons (dp_l (hB2.mono z1)) .nil)), sh_l _, ?_, _, rfl, ?_⟩
    · simp [SeqAt.shaped, PyData.canLay0, PyData.canLayAll0, PyData.depth, PyData.depthAll, lay_ints, depth_ints]
    · have n1' : iN (R.take (R.idxOf mt)) ≠ [] := fun z => n1 (List.map_eq_nil_iff.mp z)
      have n2' : iN (R.drop (R.idxOf mt + 1)) ≠ [] := fun z => n2 (List.map_eq_nil_iff.mp z)
      have hany : (([PyData.list ((iN (R.take (R.idxOf mt))).map PyData.int), PyData.list ((iN (R.drop (R.idxOf mt + 1))).map PyData.int)] : List PyData).any fun z => PyData.eqv z (.list (([] : List Int).map PyData.int))) = false := by
        rw [List.any_cons, List.any_cons, List.any_nil, eq_l, eq_l, decide_eq_false n1', decide_eq_false n2']
        rfl
      rw [hany]
      refine iteF ?_
      have hLz := z1 _ _ hL5
      have hNz := hN5.mono z1
      have hB1z := hB1.mono z1
      have hB2z := hB2.mono z1
      generalize upd H5 Z (.lst []) = H6 at z1 hLz hNz hB1z hB2z
      have e5 := ext x123 z1
      have b1 := e5 _ _ g1
      have b2 := e5 _ _ g2
      refine ⟨_, rfl, L, _, rfl, .inl (sq_l hLz), rfl, _, rfl, iteT ?_⟩
      refine ⟨_, rfl, r, _, dr, _, _, rfl, b1, T.i_Rims.cl, T.n_Rims_words, rfl, tw, _, rfl, .inr (sq_t b2), rfl, _, rfl, ?_⟩
      rw [mlr, g3.1, decide_eq_false (fun z => by have := V.int.inj z; omega)]
      refine iteF ?_
      refine ⟨_, rfl, _, rfl, _, rfl, _, rfl, r, N, L, ws, _, _, rfl, h2.mono e5, hNz, hLz, hn0, hnall, by have := h4.1.few; omega, by omega, by show 2 ≤ 1000; decide, fun fq H7 e6 hf6 => ?_⟩
      have e56 := ext e5 e6
      refine ⟨x, fq, ws, m, [A1, A2], _, rfl, hs.mono e56, hf6, rfl, fun i hi => ?_, hrok.lt, hrok.ge, hrok.len, hrok.ok, hrok.mt, fun y H8 e7 hy => qq y H8 (ext e56 e7) hy⟩
      have hi : i < 2 := hi
      match i, hi with
      | 0, _ => exact hB1z.mono e6
      | 1, _ => exact hB2z.mono e6
end
end Hw
/-! W24 -/
/-! W24: the law's draws: loom, spin, pick, mixed. -/
namespace Hw
open PySem PySem.Spec PyProof.Rows L2 HR RZ
open LamX (ExtN Tabs TabS TabB)
/-- all but what stands at L is kept -/
def Mx (L : Addr) (H H' : Hp) : Prop := ∀ a o, a ≠ L → H a = some o → H' a = some o
/-- .. and the tables of code objects -/
def Fx (L : Addr) (H H' : Hp) : Prop := ∀ a o, a ≠ L → H a = some o → (∀ zs, o ≠ .tbl zs) → H' a = some o
theorem Mx.refl {L : Addr} {H : Hp} : Mx L H H := fun _ _ _ h => h
theorem Mx.trans {L : Addr} {H H1 H2 : Hp} (a : Mx L H H1) (b : Mx L H1 H2) : Mx L H H2 := fun x o n h => b x o n (a x o n h)
theorem Ex.mx {L : Addr} {H H' : Hp} (e : Ex H H') : Mx L H H' := fun a o _ h => e a o h
theorem mxu {L : Addr} {H : Hp} {o : HO} : Mx L H (upd H L o) := fun a u n h => (upd_ne n).trans h
/-- a list that the heap at the begin does not know is changed -/
theorem mxm {L : Addr} {H H' : Hp} {p : Addr} {o : HO} (e : Mx L H H') (h : H p = none) : Mx L H (upd H' p o) := fun a u n hu => (upd_ne (ne_of_none hu h)).trans (e a u n hu)
theorem Mx.fx {L : Addr} {H H' : Hp} (e : Mx L H H') : Fx L H H' := fun a o n h _ => e a o n h
theorem Fx.refl {L : Addr} {H : Hp} : Fx L H H := fun _ _ _ h _ => h
theorem Fx.trans {L : Addr} {H H1 H2 : Hp} (a : Fx L H H1) (b : Fx L H1 H2) : Fx L H H2 := fun x o n h t => b x o n (a x o n h t) t
theorem ExtN.fx {L : Addr} {H H' : Hp} (e : ExtN H H') : Fx L H H' := fun a o _ h t => e a o h t
theorem Ex.fx {L : Addr} {H H' : Hp} (e : Ex H H') : Fx L H H' := fun a o _ h _ => e a o h
theorem fxm {L : Addr} {H H' : Hp} {p : Addr} {o : HO} (e : Fx L H H') (h : H p = none) : Fx L H (upd H' p o) := fun a u n hu t => (upd_ne (ne_of_none hu h)).trans (e a u n hu t)
/-- the loom: cells (at C), how many were begun, what is left of a great one -/
def LoomAt (H : Hp) (L C : Addr) (b : Nat) : Prop := ∃ (cells : List Int) (a : Nat) (rest : Int), H L = some (.lst [.ref C, .int (a : Int), .int rest]) ∧ IL H C cells ∧ cells.length ≤ 1000 ∧ a ≤ b
theorem LoomAt.le {H : Hp} {L C : Addr} {b b' : Nat} (h : LoomAt H L C b) (l : b ≤ b') : LoomAt H L C b' := let ⟨cs, a, r, h1, h2, h3, h4⟩ := h; ⟨cs, a, r, h1, h2, h3, Nat.le_trans h4 l⟩
theorem LoomAt.mono {H H' : Hp} {L C : Addr} {b : Nat} (e : Ex H H') (h : LoomAt H L C b) : LoomAt H' L C b := let ⟨cs, a, r, h1, h2, h3, h4⟩ := h; ⟨cs, a, r, e _ _ h1, h2.mono e, h3, h4⟩
theorem LoomAt.nx {H H' : Hp} {L C : Addr} {b : Nat} (e : ExtN H H') (h : LoomAt H L C b) : LoomAt H' L C b := let ⟨cs, a, r, h1, h2, h3, h4⟩ := h; ⟨cs, a, r, e _ _ h1 (fun _ z => nomatch z), e _ _ h2 (fun _ z => nomatch z), h3, h4⟩
theorem LoomAt.upd {H : Hp} {L C p : Addr} {o : HO} {b : Nat} (h : LoomAt H L C b) (n1 : p ≠ L) (n2 : p ≠ C) : LoomAt (L2.upd H p o) L C b := let ⟨cs, a, r, h1, h2, h3, h4⟩ := h; ⟨cs, a, r, (upd_ne (Ne.symm n1)).trans h1, (upd_ne (Ne.symm n2)).trans h2, h3, h4⟩
/-- a list of ints is not the loom -/
theorem LoomAt.neI {H : Hp} {L C x : Addr} {b : Nat} {ns : List Int} (h : LoomAt H L C b) (hx : IL H x ns) : x ≠ L := fun e => by
  obtain ⟨cs, a, r, h1, _⟩ := h
  have hx : H x = _ := hx
  rw [e, h1] at hx
  have := HO.lst.inj (Option.some.inj hx)
  match ns, this with
  | [], z => cases z
  | n :: ns, z => cases z
theorem LoomAt.lstL {H : Hp} {L C : Addr} {b : Nat} (h : LoomAt H L C b) : ∃ xs, H L = some (.lst xs) := let ⟨cs, a, r, h1, _⟩ := h; ⟨_, h1⟩
theorem LoomAt.lstC {H : Hp} {L C : Addr} {b : Nat} (h : LoomAt H L C b) : ∃ xs, H C = some (.lst xs) := let ⟨cs, a, r, _, h1, _⟩ := h; ⟨_, h1⟩
theorem ne_some {H : Hp} {p L : Addr} {o : HO} (h : H p = none) (hL : H L = some o) : p ≠ L := fun z => by rw [z, hL] at h; cases h
/-- a new address is none of the loom's -/
theorem LoomAt.new {H : Hp} {L C p : Addr} {b : Nat} (h : LoomAt H L C b) (hp : H p = none) : p ≠ L ∧ p ≠ C := by
  obtain ⟨cs, a, r, h1, h2, _⟩ := h
  exact ⟨ne_some hp h1, ne_some hp h2⟩
theorem IL.mx {H H' : Hp} {L a : Addr} {ns : List Int} (e : Mx L H H') (n : a ≠ L) (h : IL H a ns) : IL H' a ns := e _ _ n h
theorem IL.fx {H H' : Hp} {L a : Addr} {ns : List Int} (e : Fx L H H') (n : a ≠ L) (h : IL H a ns) : IL H' a ns := e _ _ n h (fun _ z => nomatch z)
theorem tabs_mx {TT : List (Addr × Str)} {L : Addr} {H H' : Hp} (t : Tabs TT H) (hL : ∃ xs, H L = some (.lst xs)) (e : Mx L H H') : Tabs TT H' := fun p hp => by
  obtain ⟨xs, hL⟩ := hL
  obtain ⟨ps, h1, h2, h3⟩ := t p hp
  have n1 : p.1 ≠ L := fun z => by
    rw [z, hL] at h1
    cases h1
  refine ⟨ps, e _ _ n1 h1, h2, fun pos cv hc => ?_⟩
  obtain ⟨c, e1, e2⟩ := h3 pos cv hc
  refine ⟨c, e1, e _ _ (fun z => ?_) e2⟩
  rw [z, hL] at e2
  cases e2
section
variable {P : Program} {w : World} {K : PySem.W.Frag} {mg : Str → Option Value} {base : Heap}
def sp_law_loom (K : PySem.W.Frag) : Sp := fun vs H Q _ => ∃ (a : Addr) (ns : List Int), vs = [.ref a] ∧ SqL K H a (ns.map V.int) ∧ ns.length ≤ 1000 ∧ ∀ L C H', Ex H H' → LoomAt H' L C 0 → Q (.ref L) H'
abbrev N_law_loom : List Str := ["_law_script", "_law_cell"]
theorem sc_law_loom : FnScope N_law_loom ["_law_script"] (C8.fnScope s_law_loom) := C8.fnScope_by (by decide +kernel)
theorem k_law_loom (T : Txt K mg) : C8.Cal P w K mg base 1 "_law_loom" (sp_law_loom K) [] := by
  have nd := sc_law_loom.nd
  refine defn T.d_law_loom sc_law_loom (fun vs H Q E h => ?_) (fun _ _ _ _ _ _ us hl => match us, hl with | [_], _ => rfl) (fun f cdv A outer s H vs Q E hr h => ?_)
  · obtain ⟨a, ns, rfl, _⟩ := h
    rfl
  · obtain ⟨a, ns, rfl, ha, hn, q⟩ := h
    refine ⟨_, (pss_one (ps_ret (pe_lst (pa_cons (pe_lc (own := [("_law_cell", 1)]) (by rfl) nd (pi_list (pe_slice sl_list (pv 0) po_none (po_some pe_int))) (blkOk_by (own := [("_law_cell", 1)]) (N := N_law_loom) (sc := C8.fnScope s_law_loom) (by decide +kernel)) (fun _ _ _ _ _ => (pg_name (i := 1) nd rfl (.inl rfl))) (fun _ _ _ _ _ => pts_nil) (fun _ _ _ _ _ => (pe_callTy call_int1 (by rfl) T.z_int (by decide +kernel) (pa_cons (pv 1) pa_nil)))) (pa_cons pe_int (pa_cons pe_int pa_nil)))))), ?_⟩
    refine ⟨_, rfl, 62, rfl, a, _, rfl, ha, fun S hS => ?_⟩
    have hc : cutV (ns.map V.int) none (some 62) = (ns.take 62).map V.int := by
      unfold cutV
      rw [HT.sIx_none, show (62 : Int) = ((62 : Nat) : Int) from rfl, HT.sIx_nat, List.drop_zero, List.map_take, ml]
      by_cases h : 62 ≤ ns.length
      · rw [Nat.min_eq_left h]
      · rw [Nat.min_eq_right (by omega), List.take_of_length_le (by rw [ml]; omega), List.take_of_length_le (by rw [ml]; omega)]
    rw [hc]
    generalize hm : ns.take 62 = ms
    have hml : ms.length ≤ 1000 := by rw [← hm, List.length_take]; omega
    have hS0 : IL (upd H S (.lst (ms.map V.int))) S ms := upd_same
    have e0 := exn (o := .lst (ms.map V.int)) hS
    generalize upd H S (.lst (ms.map V.int)) = H0 at hS0 e0
    refine ⟨S, rfl, ⟨_, sq_l hS0⟩, fun D hD => ?_⟩
    refine lc_val walk_list (by rw [ml]; omega) (fun i => .int (ms.getD i 0)) hD (fun H' e => sq_l (e _ _ hS0)) (fun i x Hc H' hi e hy => ?_) gmN (fun H' e h => ?_)
    · obtain ⟨rfl, hx⟩ := hy
      obtain ⟨_, rfl⟩ := int_at hx
      exact ⟨rfl, fun Q q => ⟨_, rfl, .inl ⟨_, rfl, q _ exr⟩⟩⟩
    · rw [ml, rmap_at (l := ms) (f := fun z => V.int z) (d := 0)] at h
      refine ⟨Nat.le_of_ble_eq_true rfl, fun L hL => q L D _ (ext e0 (ext e (exn hL))) ⟨ms, 0, 0, upd_same, ?_, hml, Nat.le_refl _⟩⟩
      exact (upd_ne (ne_of_none h hL)).trans h
def sp_law_spin : Sp := fun vs H Q _ => ∃ (L C : Addr) (b n : Nat), vs = [.ref L, .int (n : Int)] ∧ LoomAt H L C b ∧ b ≤ 1000 ∧ 1 ≤ n ∧ n ≤ 100000 ∧ ∀ (r : Nat) H', r < n → Mx L H H' → LoomAt H' L C (b + 1) → Q (.int (r : Int)) H'
theorem mod_nat {i : Int} {n : Nat} (h : 1 ≤ n) : ∃ r : Nat, i % (n : Int) = (r : Int) ∧ r < n := by
  have h1 := Int.emod_nonneg i (show (n : Int) ≠ 0 by omega)
  have h2 := Int.emod_lt_of_pos i (show (0 : Int) < (n : Int) by omega)
  exact ⟨(i % (n : Int)).toNat, by omega, by omega⟩
theorem mix1 {z : Int} : -(2 ^ 64) < z % 2147483549 ∧ z % 2147483549 < 2 ^ 64 := by
  have d1 := Int.emod_nonneg z (show (2147483549 : Int) ≠ 0 by decide)
  have d2 := Int.emod_lt_of_pos z (show (0 : Int) < 2147483549 by decide)
  omega
theorem mix2 {z : Int} {a : Nat} (ha : a ≤ 1000) : (z % 2147483549 * (2 * (a : Int) + 4355) + 148971 * (a : Int) * (a : Int) + 71475).natAbs < 2 ^ 64 := by
  have d1 := Int.emod_nonneg z (show (2147483549 : Int) ≠ 0 by decide)
  have d2 := Int.emod_lt_of_pos z (show (0 : Int) < 2147483549 by decide)
  have d3 : z % 2147483549 * (2 * (a : Int) + 4355) ≤ 2147483549 * 6355 := Int.mul_le_mul (by omega) (by omega) (by omega) (by omega)
  have d4 : 0 ≤ z % 2147483549 * (2 * (a : Int) + 4355) := Int.mul_nonneg (by omega) (by omega)
  have d5 : 148971 * (a : Int) * (a : Int) ≤ 148971000 * 1000 := Int.mul_le_mul (by omega) (by omega) (by omega) (by omega)
  have d6 : 0 ≤ 148971 * (a : Int) * (a : Int) := Int.mul_nonneg (by omega) (by omega)
  omega
abbrev N_law_spin : List Str := ["_law_loom_here", "_law_many", "_law_rest", "_law_at", "_law_cell", "_law_mixed_here"]
theorem sc_law_spin : FnScope N_law_spin ["_law_loom_here", "_law_many"] (C8.fnScope s_law_spin) := C8.fnScope_by (by decide +kernel)
theorem k_law_spin (T : Txt K mg) : C8.Cal P w K mg base 1 "_law_spin" sp_law_spin [] := by
  have nd := sc_law_spin.nd
  refine defn T.d_law_spin sc_law_spin (fun vs H Q E h => ?_) (fun _ _ _ _ _ _ us hl => match us, hl with | [_, _], _ => rfl) (fun f cdv A outer s H vs Q E hr h => ?_)
  · obtain ⟨L, C, b, n, rfl, _⟩ := h
    rfl
  · obtain ⟨L, C, b, n, rfl, hL, hb, n1, n2, q⟩ := h
    obtain ⟨cells, at_, rest, h1, h2, h3, h4⟩ := id hL
    have nCL : C ≠ L := hL.neI h2
    have pn : (0 : Int) < (n : Int) := by omega
    have ln : (n : Int) < 1073741824 := by omega
    refine ⟨_, (pss_cons (ps_if (pt_cmpR op_gt (pe_ix ix_list (pv 0) pe_int (fun _ _ => rfl)) pe_int (nomark _))
        (pss_cons (ps_set (i := 2) nd rfl (.inl rfl) (pe_ix ix_list (pv 0) pe_int (fun _ _ => rfl)))
        (pss_cons (ps_asg (pe_op op_fdiv (pe_callTy call_int1 (by rfl) T.z_int (by decide +kernel) (pa_cons (pv 2) pa_nil)) (pv 1)) (pg_sub (pv 0) pe_int set_list))
        (pss_one (ps_ret (pe_op op_mod (pe_callTy call_int1 (by rfl) T.z_int (by decide +kernel) (pa_cons (pv 2) pa_nil)) (pv 1))))))
        pss_nil)
        (pss_cons (ps_set (i := 3) nd rfl (.inl rfl) (pe_ix ix_list (pv 0) pe_int (fun _ _ => rfl)))
        (pss_cons (ps_asg (pe_op op_add (pv 3) pe_int) (pg_sub (pv 0) pe_int set_list))
        (pss_cons (ps_set (i := 4) nd rfl (.inl rfl) (pe_op op_add (pe_op op_mul pe_int (pv 3)) pe_int))
        (pss_cons (ps_if (pt_cmpR (op_neD hr.units) (pe_ix ix_list (pv 0) pe_int (fun _ _ => rfl)) (pe_lst pa_nil) (nomark _))
        (pss_one (ps_set (i := 4) nd rfl (.inl rfl) (pe_ix ix_list (pe_ix ix_list (pv 0) pe_int (fun _ _ => rfl)) (pe_op op_mod (pe_callTy call_int1 (by rfl) T.z_int (by decide +kernel) (pa_cons (pv 3) pa_nil)) (pe_callB call_len_seq (by rfl) T.z_len PySem.boot_len (pa_cons (pe_ix ix_list (pv 0) pe_int (fun _ _ => rfl)) pa_nil))) (fun _ _ => rfl))))
        pss_nil)
        (pss_cons (ps_if (PW.pt (pw_and (pt_cmpR op_lt (pv 3) (pe_callB call_len_seq (by rfl) T.z_len PySem.boot_len (pa_cons (pe_ix ix_list (pv 0) pe_int (fun _ _ => rfl)) pa_nil)) (nomark _)) (pw_and1 (pt_cmpR op_ge (pe_callB call_abs (by rfl) T.z_abs (by decide +kernel) (pa_cons (pv 4) pa_nil)) (pe_op op_pow pe_int pe_int) (nomark _)))))
        (pss_cons (ps_set (i := 2) nd rfl (.inl rfl) (pe_op op_add (pe_op op_mul pe_int (pe_op op_sub (pe_callB call_abs (by rfl) T.z_abs (by decide +kernel) (pa_cons (pv 4) pa_nil)) (pe_op op_pow pe_int pe_int))) (pe_callTy call_int1 (by rfl) T.z_int (by decide +kernel) (pa_cons (pe_cmpR op_lt (pv 4) pe_int (nomark _)) pa_nil))))
        (pss_cons (ps_asg (pe_op op_fdiv (pe_callTy call_int1 (by rfl) T.z_int (by decide +kernel) (pa_cons (pv 2) pa_nil)) (pv 1)) (pg_sub (pv 0) pe_int set_list))
        (pss_one (ps_ret (pe_op op_mod (pe_callTy call_int1 (by rfl) T.z_int (by decide +kernel) (pa_cons (pv 2) pa_nil)) (pv 1))))))
        pss_nil)
        (pss_cons (ps_set (i := 5) nd rfl (.inl rfl) (pe_op op_mod (pe_callTy call_int1 (by rfl) T.z_int (by decide +kernel) (pa_cons (pe_op op_pow (pe_op op_add (pe_op op_add (pe_op op_mod (pe_callTy call_int1 (by rfl) T.z_int (by decide +kernel) (pa_cons (pv 4) pa_nil)) pe_int) (pe_op op_mul pe_int (pv 3))) pe_int) pe_int) pa_nil)) pe_int))
        (pss_cons (ps_set (i := 5) nd rfl (.inl rfl) (pe_op op_mod (pe_callTy call_int1 (by rfl) T.z_int (by decide +kernel) (pa_cons (pe_op op_pow (pe_op op_add (pe_op op_add (pe_op op_mul (pv 5) (pe_op op_add (pe_op op_mul pe_int (pv 3)) pe_int)) (pe_op op_mul (pe_op op_mul pe_int (pv 3)) (pv 3))) pe_int) pe_int) pa_nil)) pe_int))
        (pss_one (ps_ret (pe_op op_mod (pe_callTy call_int1 (by rfl) T.z_int (by decide +kernel) (pa_cons (pe_op op_fdiv (pv 5) pe_int) pa_nil)) (pv 1)))))))))))), ?_⟩
    have fin : ∀ (H2 : Hp) (x y : Int) (k : Nat), k ≤ at_ + 1 → Mx L H H2 → H2 L = some (.lst [.ref C, .int (k : Int), .int y]) → Q (.int (x % (n : Int))) H2 := fun H2 x y k hk m hL2 => by
      obtain ⟨r, e, hr⟩ := mod_nat (i := x) n1
      rw [e]
      exact q r H2 hr m ⟨cells, k, y, hL2, h2.mx m nCL, h3, by omega⟩
    have p18 : CPow 10 18 := ⟨by decide, by decide, by decide⟩
    refine ⟨_, rfl, L, _, 2, _, rfl, rfl, sq_l h1, rfl, _, _, rfl, rfl, _, rfl, ite2 (fun _ => ?_) (fun _ => ?_)⟩
    · refine ⟨_, rfl, L, _, 2, _, rfl, rfl, sq_l h1, rfl, ?_⟩
      refine ⟨_, rfl, .inl ⟨_, rfl, _, rfl, _, _, rfl, rfl, ⟨pn, ln⟩, ?_⟩⟩
      refine ⟨_, rfl, L, _, _, 2, rfl, rfl, h1, rfl, ?_⟩
      refine ⟨_, rfl, .inl ⟨_, rfl, _, rfl, _, _, rfl, rfl, pn, ?_⟩⟩
      exact fin _ _ (rest / (n : Int)) at_ (by omega) mxu upd_same
    · refine ⟨_, rfl, L, _, 1, _, rfl, rfl, sq_l h1, rfl, ?_⟩
      refine ⟨_, rfl, _, _, rfl, rfl, _, rfl, L, _, _, 1, rfl, rfl, h1, rfl, ?_⟩
      have hL1 : (upd H L (.lst ([V.ref C, V.int (at_ : Int), V.int rest].set 1 (V.int ((at_ : Int) + 1))))) L = some (.lst [.ref C, .int ((at_ : Int) + 1), .int rest]) := upd_same
      have m1 : Mx L H (upd H L (.lst ([V.ref C, V.int (at_ : Int), V.int rest].set 1 (V.int ((at_ : Int) + 1))))) := mxu
      generalize upd H L (.lst ([V.ref C, V.int (at_ : Int), V.int rest].set 1 (V.int ((at_ : Int) + 1)))) = H1 at hL1 m1
      have hC1 := h2.mx m1 nCL
      refine ⟨_, rfl, _, _, rfl, rfl, .inl ⟨by decide, by decide⟩, _, _, rfl, rfl, ?_⟩
      refine ⟨_, rfl, L, _, 0, _, rfl, rfl, sq_l hL1, rfl, Nat.zero_le _, fun N hN => ?_⟩
      have eN := exn (o := .lst []) hN
      have hL2 := eN _ _ hL1
      have hC2 := hC1.mono eN
      have m2 : Mx L H (upd H1 N (.lst [])) := m1.trans (Ex.mx eN)
      refine ⟨_, _, dp_l hC2, dp_nil upd_same, sh_l _, sh_l _, _, rfl, ?_⟩
      rw [eq_l]
      generalize upd H1 N (.lst []) = H2 at hL2 hC2 m2
      generalize 148971 * (at_ : Int) + 6309 = c0
      by_cases hne : cells = []
      rw [decide_eq_true hne]
      refine iteF ?_
      rotate_left
      rw [decide_eq_false hne]
      refine iteT ?_
      have hcl : 0 < cells.length := List.length_pos_iff.mpr hne
      obtain ⟨r, er, hr⟩ := mod_nat (i := (at_ : Int)) (n := cells.length) hcl
      refine ⟨_, rfl, L, _, 0, _, rfl, rfl, sq_l hL2, rfl, _, rfl, .inl ⟨_, rfl, _, rfl, L, _, 0, _, rfl, rfl, sq_l hL2, rfl, C, _, rfl, .inl (sq_l hC2), _, _, rfl, rfl, (by rw [ml]; show (0 : Int) < (cells.length : Int); omega), C, _, _, _, rfl, rfl, sq_l hC2, (by rw [ml, er]; exact ati_int hr), ?_⟩⟩
      generalize cells.getD r 0 = c0
      all_goals
        refine ⟨_, rfl, _, rfl, L, _, 0, _, rfl, rfl, sq_l hL2, rfl, C, _, rfl, .inl (sq_l hC2), _, _, rfl, rfl, _, rfl, ite2 (fun _ => ⟨_, rfl, _, rfl, _, _, rfl, rfl, p18, _, _, rfl, rfl, _, rfl, ite2 (fun _ => ?thn) (fun _ => ?_)⟩) (fun _ => ?_)⟩
        case thn =>
          refine ⟨_, rfl, _, rfl, _, _, rfl, rfl, p18, _, _, rfl, rfl, _, _, rfl, rfl, .inl ⟨by decide, by decide⟩, _, rfl, _, _, rfl, rfl, .inr ⟨_, rfl, _, _, rfl, rfl, ?_⟩⟩
          refine ⟨_, rfl, .inl ⟨_, rfl, _, rfl, _, _, rfl, rfl, ⟨pn, ln⟩, ?_⟩⟩
          refine ⟨_, rfl, L, _, _, 2, rfl, rfl, hL2, rfl, ?_⟩
          refine ⟨_, rfl, .inl ⟨_, rfl, _, rfl, _, _, rfl, rfl, pn, ?_⟩⟩
          exact fin _ _ _ (at_ + 1) (by omega) (m2.trans mxu) upd_same
        all_goals
          have c1 := Int.emod_nonneg c0 (show (2147483563 : Int) ≠ 0 by decide)
          have c2 := Int.emod_lt_of_pos c0 (show (0 : Int) < 2147483563 by decide)
          refine ⟨_, rfl, .inl ⟨_, rfl, _, _, rfl, rfl, (by show (0 : Int) < 2147483563; decide), _, rfl, _, _, rfl, rfl, .inl ⟨by decide, by decide⟩, _, _, rfl, rfl, _, _, rfl, rfl, _, _, rfl, rfl, ⟨by decide, by decide, by omega⟩, .inl ⟨_, rfl, _, _, rfl, rfl, (by show (0 : Int) < 2147483549; decide), ?_⟩⟩⟩
          refine ⟨_, rfl, _, rfl, _, _, rfl, rfl, .inl ⟨by decide, by decide⟩, _, _, rfl, rfl, _, _, rfl, rfl, .inl mix1, _, rfl, _, _, rfl, rfl, .inl ⟨by decide, by decide⟩, _, rfl, _, _, rfl, rfl, .inl ⟨by omega, by omega⟩, _, _, rfl, rfl, _, _, rfl, rfl, _, _, rfl, rfl, ⟨by decide, by decide, mix2 (Nat.le_trans h4 hb)⟩, .inl ⟨_, rfl, _, _, rfl, rfl, (by show (0 : Int) < 2147483629; decide), ?_⟩⟩
          refine ⟨_, rfl, _, _, rfl, rfl, ⟨by decide, by decide⟩, .inl ⟨_, rfl, _, rfl, _, _, rfl, rfl, pn, ?_⟩⟩
          exact fin _ _ _ (at_ + 1) (by omega) m2 hL2
def sp_law_pick : Sp := fun vs H Q _ => ∃ (L C a : Addr) (b : Nat) (xs : List V), vs = [.ref L, .ref a] ∧ LoomAt H L C b ∧ b ≤ 1000 ∧ a ≠ L ∧ H a = some (.lst xs) ∧ 1 ≤ xs.length ∧ xs.length ≤ 100000 ∧ ∀ (r : Nat) (v : V) H', xs[r]? = some v → Mx L H H' → LoomAt H' L C (b + 1) → Q v H'
abbrev N_law_pick : List Str := ["_law_loom_here", "_law_some"]
theorem sc_law_pick : FnScope N_law_pick ["_law_loom_here", "_law_some"] (C8.fnScope s_law_pick) := C8.fnScope_by (by decide +kernel)
theorem k_law_pick (T : Txt K mg) : C8.Cal P w K mg base 2 "_law_pick" sp_law_pick [] := by
  have nd := sc_law_pick.nd
  refine defn T.d_law_pick sc_law_pick (fun vs H Q E h => ?_) (fun _ _ _ _ _ _ us hl => match us, hl with | [_, _], _ => rfl) (fun f cdv A outer s H vs Q E hr h => ?_)
  · obtain ⟨L, C, a, b, xs, rfl, _⟩ := h
    rfl
  · obtain ⟨L, C, a, b, xs, rfl, hL, hb, nL, ha, n1, n2, q⟩ := h
    refine ⟨_, (pss_one (ps_ret (pe_ix ix_list (pv 1) (C8.pe_c (k_law_spin T) hr (by decide) (by rfl) (pa_cons (pv 0) (pa_cons (pe_callB call_len_seq (by rfl) T.z_len PySem.boot_len (pa_cons (pv 1) pa_nil)) pa_nil))) (fun _ _ => rfl)))), ?_⟩
    refine ⟨_, rfl, _, rfl, _, rfl, a, _, rfl, .inl (sq_l ha), L, C, b, xs.length, rfl, hL, hb, n1, n2, fun r H' hr m hL' => ?_⟩
    obtain ⟨v, hv⟩ : ∃ v, xs[r]? = some v := ⟨xs[r], List.getElem?_eq_getElem hr⟩
    exact ⟨a, xs, (r : Int), v, rfl, rfl, sq_l (m a _ nL ha), atI_nat hv, q r v H' hv m hL'⟩
theorem seqI {r n : Nat} (h : r < n) : seqIndex? (r : Int) n = some r := by
  unfold seqIndex?
  rw [if_neg (show ¬ (r : Int) < 0 by omega)]
  have h1 : (decide (0 ≤ (r : Int)) && decide ((r : Int) < (n : Int))) = true := by
    rw [decide_eq_true (show 0 ≤ (r : Int) by omega), decide_eq_true (show (r : Int) < (n : Int) by omega)]
    rfl
  show (if (decide (0 ≤ (r : Int)) && decide ((r : Int) < (n : Int))) = true then some (r : Int).toNat else none) = some r
  rw [if_pos h1, Int.toNat_natCast]
theorem perm_erase {α : Type} : ∀ {l : List α} {r : Nat} {y : α}, l[r]? = some y → List.Perm ([y] ++ l.eraseIdx r) l
  | [], _, _, h => by simp at h
  | x :: l, 0, y, h => by
    have : x = y := by simpa using h
    rw [this]
    exact List.Perm.refl _
  | x :: l, r + 1, y, h => by
    have ih := perm_erase (l := l) (r := r) (y := y) (by simpa using h)
    exact (List.Perm.swap x y _).trans (ih.cons x)
def sp_law_mixed : Sp := fun vs H Q _ => ∃ (L C a : Addr) (b : Nat) (xs : List V), vs = [.ref L, .ref a] ∧ LoomAt H L C b ∧ b + xs.length ≤ 1000 ∧ a ≠ L ∧ H a = some (.lst xs) ∧ xs.length ≤ 1000 ∧ ∀ (p : Addr) (ys : List V) H', ys.Perm xs → Mx L H H' → LoomAt H' L C (b + xs.length) → p ≠ L → H' p = some (.lst ys) → Q (.ref p) H'
abbrev N_law_mixed : List Str := ["_law_loom_here", "_law_some", "_law_left", "_law_found", "_law_turn"]
theorem sc_law_mixed : FnScope N_law_mixed ["_law_loom_here", "_law_some"] (C8.fnScope s_law_mixed) := C8.fnScope_by (by decide +kernel)
theorem k_law_mixed (T : Txt K mg) : C8.Cal P w K mg base 2 "_law_mixed" sp_law_mixed [] := by
  have nd := sc_law_mixed.nd
  refine defn T.d_law_mixed sc_law_mixed (fun vs H Q E h => ?_) (fun _ _ _ _ _ _ us hl => match us, hl with | [_, _], _ => rfl) (fun f cdv A outer s H vs Q E hr h => ?_)
  · obtain ⟨L, C, a, b, xs, rfl, _⟩ := h
    rfl
  · obtain ⟨L, C, a, b, xs, rfl, hL, hb, nL, ha, hn, q⟩ := h
    refine ⟨_, (pss_cons (ps_par (i := 2) (j := 3) (by rfl) nd rfl rfl (by decide) rfl rfl (pa_cons (pe_callTy call_list_of (by rfl) T.z_list (by decide +kernel) (pa_cons (pv 1) pa_nil)) (pa_cons (pe_lst pa_nil) pa_nil)) (by rfl))
        (pss_cons (ps_for PassesOwn.never rfl (pi_range1 (by rfl) T.z_range (pa_cons (pe_callB call_len_seq (by rfl) T.z_len PySem.boot_len (pa_cons (pv 2) pa_nil)) pa_nil)) (pg_name (i := 4) nd rfl (.inl rfl))
        (pss_one (ps_expr (pe_bm PySem.F.plainAttrs_list PySem.F.slot_list_append PySem.F.type_list_append mt_append (pv 3) (pa_cons (pe_bm PySem.F.plainAttrs_list PySem.F.slot_list_pop PySem.F.type_list_pop mt_popAt (pv 2) (pa_cons (C8.pe_c (k_law_spin T) hr (by decide) (by rfl) (pa_cons (pv 0) (pa_cons (pe_callB call_len_seq (by rfl) T.z_len PySem.boot_len (pa_cons (pv 2) pa_nil)) pa_nil))) pa_nil)) pa_nil)))))
        (pss_one (ps_ret (pv 3))))), ?_⟩
    refine ⟨_, rfl, a, _, rfl, .inl (sq_l ha), fun F hF => ⟨Nat.zero_le _, fun G hG => ⟨_, _, rfl, ?_⟩⟩⟩
    obtain ⟨nFL, nFC⟩ := hL.new hF
    have hG0 : H G = none := by
      by_cases z : G = F
      · rw [z]; exact hF
      · rw [← hG, upd_ne z]
    have nGF : G ≠ F := fun z => by rw [z, upd_same] at hG; cases hG
    obtain ⟨nGL, nGC⟩ := hL.new hG0
    have hF1 : (upd (upd H F (.lst xs)) G (.lst [])) F = some (.lst xs) := (upd_ne (Ne.symm nGF)).trans upd_same
    have hG1 : (upd (upd H F (.lst xs)) G (.lst [])) G = some (.lst []) := upd_same
    have m1 : Mx L H (upd (upd H F (.lst xs)) G (.lst [])) := mxm (mxm Mx.refl hF) hG0
    have hL1 : LoomAt (upd (upd H F (.lst xs)) G (.lst [])) L C (b + 0) := (hL.mono (exn hF)).mono (exn hG)
    generalize upd (upd H F (.lst xs)) G (.lst []) = H1 at hF1 hG1 m1 hL1
    refine ⟨_, rfl, F, _, rfl, .inl (sq_l hF1), _, rfl, by omega, by omega, ?_⟩
    rw [Int.toNat_natCast]
    refine for_it walk_range (fun i σ H' => ∃ y4 ys zs, σ = [some (.ref L), some (.ref a), some (.ref F), some (.ref G), y4] ∧ Mx L H H' ∧ LoomAt H' L C (b + i) ∧ H' F = some (.lst zs) ∧ H' G = some (.lst ys) ∧ (ys ++ zs).Perm xs ∧ ys.length = i) ⟨none, [], xs, rfl, m1, hL1, hF1, hG1, List.Perm.refl _, rfl⟩ (fun _ _ _ _ _ => trivial) (fun i x' σ H2 H' hi p hy' => ?_) (fun σ H' p => ?_)
    · obtain ⟨y4, ys, zs, rfl, m, hLi, hFi, hGi, hp, hyl⟩ := p
      obtain ⟨rfl, rfl⟩ := hy'
      have hpl := hp.length_eq
      rw [List.length_append] at hpl
      refine ⟨_, rfl, .inl ⟨rfl, _, sq_l hGi⟩, _, rfl, .inl ⟨rfl, _, sq_l hFi⟩, _, rfl, _, rfl, F, _, rfl, .inl (sq_l hFi), L, C, b + i, zs.length, rfl, hLi, by omega, by omega, by omega, fun r H3 hr m3 hL3 => ?_⟩
      obtain ⟨y, hy⟩ : ∃ y, zs[r]? = some y := ⟨zs[r], List.getElem?_eq_getElem hr⟩
      have hF3 := m3 _ _ nFL hFi
      have hG3 := m3 _ _ nGL hGi
      refine ⟨F, zs, (r : Int), r, y, rfl, rfl, hF3, by omega, by omega, seqI hr, hy, ?_⟩
      refine ⟨G, ys, y, rfl, rfl, (upd_ne nGF).trans hG3, Evl.sz_lt (by omega), ?_⟩
      refine ⟨_, _, _, rfl, mxm (mxm (m.trans m3) hF) hG0, ?_, (upd_ne (Ne.symm nGF)).trans upd_same, upd_same, ?_, ?_⟩
      · exact ((hL3.upd nFL nFC).upd nGL nGC).le (by omega)
      · rw [List.append_assoc]
        refine List.Perm.trans (List.Perm.append_left ys ?_) hp
        exact perm_erase hy
      · rw [List.length_append, hyl]
        rfl
    · obtain ⟨y4, ys, zs, rfl, m, hLi, hFi, hGi, hp, hyl⟩ := p
      have hpl := hp.length_eq
      rw [List.length_append] at hpl
      have : zs = [] := List.eq_nil_of_length_eq_zero (by omega)
      rw [this, List.append_nil] at hp
      exact ⟨_, rfl, q G ys H' hp m hLi nGL hGi⟩
end
end Hw
/-! W25 -/
/-! W25: the law's rims, back, short, round, ring. -/
namespace Hw
open PySem PySem.Spec PyProof.Rows L2 HR RZ
open LamX (ExtN Tabs TabS TabB)
/-- lists of words as lists of letters -/
def WLs (H : Hp) (as : List Addr) (ws : List (List Int)) : Prop := as.length = ws.length ∧ ∀ i, i < ws.length → IL H (as.getD i 0) (ws.getD i [])
theorem WLs.mono {H H' : Hp} {as : List Addr} {ws : List (List Int)} (e : Ex H H') (h : WLs H as ws) : WLs H' as ws := ⟨h.1, fun i hi => (h.2 i hi).mono e⟩
theorem wl1 {H : Hp} {a : Addr} {w : List Int} (h : IL H a w) : WLs H [a] [w] := ⟨rfl, fun i hi => by
  have hi : i < 1 := hi
  match i, hi with
  | 0, _ => exact h⟩
theorem wl2 {H : Hp} {a b : Addr} {u v : List Int} (h : IL H a u) (g : IL H b v) : WLs H [a, b] [u, v] := ⟨rfl, fun i hi => by
  have hi : i < 2 := hi
  match i, hi with
  | 0, _ => exact h
  | 1, _ => exact g⟩
theorem wl3 {H : Hp} {a b c : Addr} {u v x : List Int} (h : IL H a u) (g : IL H b v) (k : IL H c x) : WLs H [a, b, c] [u, v, x] := ⟨rfl, fun i hi => by
  have hi : i < 3 := hi
  match i, hi with
  | 0, _ => exact h
  | 1, _ => exact g
  | 2, _ => exact k⟩
section
variable {P : Program} {w : World} {K : PySem.W.Frag} {mg : Str → Option Value} {base : Heap}
def sp_law_rims (K : PySem.W.Frag) : Sp := fun vs H Q _ => ∃ (a : Addr) (as : List Addr) (ws : List (List Int)), vs = [.ref a] ∧ H a = some (.lst (as.map V.ref)) ∧ WLs H as ws ∧ ROk ws ∧ ∀ y H', Ex H H' → RimsAt K H' y ws → Q (.ref y) H'
abbrev N_law_rims : List Str := ["_law_words", "_law_word"]
theorem sc_law_rims : FnScope N_law_rims ["_law_words"] (C8.fnScope s_law_rims) := C8.fnScope_by (by decide +kernel)
theorem k_law_rims (T : Txt K mg) : C8.Cal P w K mg base 7 "_law_rims" (sp_law_rims K) [] := by
  have nd := sc_law_rims.nd
  refine defn T.d_law_rims sc_law_rims (fun vs H Q E h => ?_) (fun _ _ _ _ _ _ us hl => match us, hl with | [_], _ => rfl) (fun f cdv A outer s H vs Q E hr h => ?_)
  · obtain ⟨a, as, ws, rfl, _⟩ := h
    rfl
  · obtain ⟨a, as, ws, rfl, ha, hw, ok, q⟩ := h
    refine ⟨_, (pss_one (ps_ret (C8.pe_mk (k_Rims T) hr (by decide) (by rfl) (pa_cons (pe_lc (own := [("_law_word", 1)]) (by rfl) nd (pi_list (pv 0)) (blkOk_by (own := [("_law_word", 1)]) (N := N_law_rims) (sc := C8.fnScope s_law_rims) (by decide +kernel)) (fun _ _ _ _ _ => (pg_name (i := 1) nd rfl (.inl rfl))) (fun _ _ _ _ _ => pts_nil) (fun _ _ _ _ _ => (C8.pe_mk (k_Word T) hr (by decide) (by rfl) (pa_cons (pv 1) pa_nil)))) pa_nil)))), ?_⟩
    have hal := hw.1
    have hfew := ok.few
    refine ⟨_, rfl, a, rfl, ⟨_, sq_l ha⟩, fun D hD => ?_⟩
    refine lc_all walk_list (by rw [mlr]; omega) (fun i y H' => ∃ t, y = .ref t ∧ WordAt K H' t (ws.getD i [])) hD (fun H' e => sq_l (e _ _ ha)) (fun i y H3 H4 kp h => ?_) (fun i y Hc H3 hi e3 hz hy => ?_) gmN (fun ys H3 e3 h3' hyl hys => ?_)
    · obtain ⟨t, rfl, h⟩ := h
      exact ⟨t, rfl, h.lx kp.lx⟩
    · obtain ⟨rfl, hy⟩ := hy
      obtain ⟨hi', rfl⟩ := ref_at hy
      have hir : i < ws.length := by omega
      have okw := (ok.ok _ (mem_getDD (d := []) hir)).1
      exact ⟨rfl, fun Q q => ⟨_, rfl, mkWord (.inl ((hw.2 i hir).mono e3)) okw fun y H' e4 hy => q _ _ e4 ⟨y, rfl, hy⟩⟩⟩
    · rw [mlr] at hyl
      have hdec : ∃ bs : List Addr, ys = bs.map V.ref := by
        have : ∀ l : List V, (∀ y ∈ l, ∃ s, y = V.ref s) → ∃ bs : List Addr, l = bs.map V.ref := fun l => by
          induction l with
          | nil => exact fun _ => ⟨[], rfl⟩
          | cons y l ih =>
            intro h
            obtain ⟨s, rfl⟩ := h y List.mem_cons_self
            obtain ⟨bs, rfl⟩ := ih fun z hz => h z (List.mem_cons_of_mem _ hz)
            exact ⟨s :: bs, rfl⟩
        refine this ys fun y hy => ?_
        obtain ⟨i, hi, e⟩ := List.getElem_of_mem hy
        obtain ⟨s, e2, _⟩ := hys i y (by rw [← e]; exact List.getElem?_eq_getElem hi)
        exact ⟨s, e2⟩
      obtain ⟨bs, rfl⟩ := hdec
      rw [mlr] at hyl
      have hWd : WordsAt K H3 bs ws := ⟨by omega, fun i hi => by
        obtain ⟨t, e5, h6⟩ := hys _ _ (at_ref (ps := bs) (show i < bs.length by omega))
        rw [V.ref.inj e5]
        exact h6⟩
      exact mkRims h3' hWd ok fun y H' e4 hy => q y H' (ext e3 e4) hy
def sp_law_back : Sp := fun vs H Q _ => ∃ (a : Addr) (ls : List Int), vs = [.ref a] ∧ IL H a ls ∧ ls.length ≤ 1000 ∧ ∀ p H', Ex H H' → IL H' p (contr ls) → Q (.ref p) H'
abbrev N_law_back : List Str := ["_law_word", "_law_letter"]
theorem sc_law_back : FnScope N_law_back ["_law_word"] (C8.fnScope s_law_back) := C8.fnScope_by (by decide +kernel)
theorem k_law_back (T : Txt K mg) : C8.Cal P w K mg base 1 "_law_back" sp_law_back [] := by
  have nd := sc_law_back.nd
  refine defn T.d_law_back sc_law_back (fun vs H Q E h => ?_) (fun _ _ _ _ _ _ us hl => match us, hl with | [_], _ => rfl) (fun f cdv A outer s H vs Q E hr h => ?_)
  · obtain ⟨a, ls, rfl, _⟩ := h
    rfl
  · obtain ⟨a, ls, rfl, ha, hl, q⟩ := h
    refine ⟨_, (pss_one (ps_ret (pe_lc (own := [("_law_letter", 1)]) (by rfl) nd (pi_list (pe_revL (pv 0))) (blkOk_by (own := [("_law_letter", 1)]) (N := N_law_back) (sc := C8.fnScope s_law_back) (by decide +kernel)) (fun _ _ _ _ _ => (pg_name (i := 1) nd rfl (.inl rfl))) (fun _ _ _ _ _ => pts_nil) (fun _ _ _ _ _ => (pe_un un_neg (pv 1)))))), ?_⟩
    refine ⟨_, rfl, a, _, rfl, sq_l ha, fun S hS => ?_⟩
    have e0 := exn (o := .lst (ls.map V.int).reverse) hS
    have hS0 : IL (upd H S (.lst (ls.map V.int).reverse)) S ls.reverse := by
      show upd H S _ S = _
      rw [upd_same, List.map_reverse]
    generalize upd H S (.lst (ls.map V.int).reverse) = H0 at e0 hS0
    refine ⟨S, rfl, ⟨_, sq_l hS0⟩, fun D hD => ?_⟩
    refine lc_val walk_list (by rw [ml, List.length_reverse]; omega) (fun i => .int (-(ls.reverse.getD i 0))) hD (fun H' e => sq_l (e _ _ hS0)) (fun i x Hc H' hi e hy => ?_) gmN (fun H' e h => ?_)
    · obtain ⟨rfl, hx⟩ := hy
      obtain ⟨_, rfl⟩ := int_at hx
      exact ⟨rfl, fun Q q => ⟨_, rfl, _, rfl, q _ exr⟩⟩
    · rw [ml, rmap_at (l := ls.reverse) (f := fun z => V.int (-z)) (d := 0)] at h
      refine q D H' (ext e0 e) ?_
      show H' D = _
      rw [h]
      unfold HR.contr
      rw [List.map_map]
      rfl
def sp_law_short : Sp := fun vs H Q _ => ∃ (a : Addr) (ls : List Int), vs = [.ref a] ∧ IL H a ls ∧ ls.length ≤ 1000 ∧ ∀ p H', Ex H H' → IL H' p (shortF ls) → Q (.ref p) H'
abbrev N_law_short : List Str := ["_law_word", "_law_found", "_law_letter"]
theorem sc_law_short : FnScope N_law_short ["_law_word"] (C8.fnScope s_law_short) := C8.fnScope_by (by decide +kernel)
theorem k_law_short (T : Txt K mg) : C8.Cal P w K mg base 1 "_law_short" sp_law_short [] := by
  have nd := sc_law_short.nd
  refine defn T.d_law_short sc_law_short (fun vs H Q E h => ?_) (fun _ _ _ _ _ _ us hl => match us, hl with | [_], _ => rfl) (fun f cdv A outer s H vs Q E hr h => ?_)
  · obtain ⟨a, ls, rfl, _⟩ := h
    rfl
  · obtain ⟨a, ls, rfl, ha, hl, q⟩ := h
    refine ⟨_, (pss_cons (ps_set (i := 1) nd rfl (.inl rfl) (pe_lst pa_nil))
        (pss_cons (ps_for PassesOwn.never rfl (pi_list (pv 0)) (pg_name (i := 2) nd rfl (.inl rfl))
        (pss_one (ps_if (PW.pt (pw_and (pt_cmpR (op_neD hr.units) (pv 1) (pe_lst pa_nil) (nomark _)) (pw_and1 (pt_cmpR op_eq (pe_ix ix_list (pv 1) (pe_un un_neg pe_int) (fun _ _ => rfl)) (pe_un un_neg (pv 2)) (nomark _)))))
        (pss_one (ps_expr (pe_bm0 PySem.F.plainAttrs_list PySem.F.slot_list_pop PySem.F.type_list_pop mt_pop (pv 1))))
        (pss_one (ps_expr (pe_bm PySem.F.plainAttrs_list PySem.F.slot_list_append PySem.F.type_list_append mt_append (pv 1) (pa_cons (pv 2) pa_nil)))))))
        (pss_one (ps_ret (pv 1))))), ?_⟩
    refine ⟨Nat.zero_le _, fun F hF => ⟨_, rfl, a, rfl, ⟨ls.map V.int, sq_l (exn hF _ _ ha)⟩, ?_⟩⟩
    refine for_list (xs := ls.map V.int) (fun i σ H' => ∃ y2, σ = [some (.ref a), some (.ref F), y2] ∧ Ex H H' ∧ IL H' F ((ls.take i).foldl pushS [])) ⟨none, rfl, exn hF, upd_same⟩ (fun i σ H' _ p => ?_) (fun i x σ H' hx p => ?_) (fun σ H' p => ?_)
    · obtain ⟨y2, rfl, e, hf⟩ := p
      exact sq_l (e _ _ ha)
    · obtain ⟨y2, rfl, e, hf⟩ := p
      obtain ⟨hi, rfl⟩ := int_at hx
      have hlen : ((ls.take i).foldl pushS []).length ≤ i := by
        have := length_foldS (ls.take i) []
        rw [List.length_take] at this
        simp at this
        omega
      have step : ((ls.take (i + 1)).foldl pushS []) = pushS ((ls.take i).foldl pushS []) (ls.getD i 0) := by
        rw [List.take_add_one, List.foldl_append, List.getD_eq_getElem?_getD, List.getElem?_eq_getElem hi]
        rfl
      generalize (ls.take i).foldl pushS [] = acc at hf hlen step
      refine ⟨_, rfl, Nat.zero_le _, fun N hN => ?_⟩
      have hf2 : IL (upd H' N (.lst [])) F acc := exn hN _ _ hf
      refine ⟨_, _, dp_l hf2, dp_nil upd_same, sh_l _, sh_l _, _, rfl, ?_⟩
      rw [eq_l]
      have e2 : Ex H (upd H' N (.lst [])) := ext e (exn hN)
      have app : ∀ H2, Ex (upd H' N (.lst [])) H2 → pushS acc (ls.getD i 0) = acc ++ [ls.getD i 0] → (∃ y2, [some (V.ref a), some (V.ref F), some (V.int (ls.getD i 0))] = [some (.ref a), some (.ref F), y2] ∧ Ex H (upd H2 F (.lst (acc.map V.int ++ [.int (ls.getD i 0)]))) ∧ IL (upd H2 F (.lst (acc.map V.int ++ [.int (ls.getD i 0)]))) F ((ls.take (i + 1)).foldl pushS [])) := fun H2 e3 ep => by
        refine ⟨_, rfl, exm (ext e2 e3) hF, ?_⟩
        show upd _ F _ F = _
        rw [upd_same, step, ep, List.map_append]
        rfl
      refine ite2 (fun ne => ?_) (fun ne => ?_)
      · have ne : acc ≠ [] := by simpa using ne
        have e0 : acc = acc.dropLast ++ [acc.getLastD 0] := by
          rw [List.getLastD_eq_getLast?, List.getLast?_eq_getLast ne]
          exact (List.dropLast_concat_getLast ne).symm
        refine ⟨_, rfl, _, rfl, F, acc.map V.int, -1, .int (acc.getLastD 0), rfl, rfl, sq_l hf2, ?_, ?_⟩
        · have : acc.map V.int = (acc.dropLast).map V.int ++ [.int (acc.getLastD 0)] := by
            conv => lhs; rw [e0, List.map_append]
            rfl
          rw [this]
          exact atI_last _ _
        · refine ⟨_, rfl, _, rfl, rfl, _, rfl, ?_⟩
          refine ite2 (fun eq => ?_) (fun eq => ?_)
          · have eq : acc.getLastD 0 = -(ls.getD i 0) := V.int.inj (of_decide_eq_true eq)
            refine ⟨_, rfl, .inl ⟨rfl, _, sq_l hf2⟩, F, acc.map V.int, .int (acc.getLastD 0), rfl, rfl, hf2, ?_, ?_⟩
            · rw [ml, at_int (by have := List.length_pos_iff.mpr ne; omega), List.getD_eq_getElem?_getD, List.getLastD_eq_getLast?, List.getLast?_eq_getElem?]
            · refine ⟨_, rfl, exm e2 hF, ?_⟩
              show upd _ F _ F = _
              rw [upd_same, step]
              unfold pushS
              rw [if_pos ⟨ne, eq⟩, List.map_dropLast]
          · have eq : ¬ acc.getLastD 0 = -(ls.getD i 0) := fun z => eq (decide_eq_true (congrArg V.int z))
            refine ⟨_, rfl, .inl ⟨rfl, _, sq_l hf2⟩, _, rfl, F, _, _, rfl, rfl, hf2, by rw [ml]; exact Evl.sz_lt (by omega), ?_⟩
            refine app _ exr ?_
            unfold pushS
            rw [if_neg fun z => eq z.2]
      · have ne : acc = [] := by simpa using ne
        refine ⟨_, rfl, .inl ⟨rfl, _, sq_l hf2⟩, _, rfl, F, _, _, rfl, rfl, hf2, by rw [ml]; exact Evl.sz_lt (by omega), ?_⟩
        refine app _ exr ?_
        unfold pushS
        rw [if_neg fun z => z.1 ne]
    · obtain ⟨y2, rfl, e, hf⟩ := p
      have et : ls.take (ls.map V.int).length = ls := List.take_of_length_le (by rw [ml]; exact Nat.le_refl _)
      rw [et] at hf
      exact ⟨_, rfl, q F _ e hf⟩
/-- both ends taken off while they run against one another -/
def lrF : Nat → List Int → List Int
  | 0, l => l
  | f + 1, l => if 1 < l.length ∧ l.getD 0 0 = -l.getD (l.length - 1) 0 then lrF f ((l.drop 1).take (l.length - 2)) else l
def lroundF (l : List Int) : List Int := lrF l.length (shortF l)
theorem lrF_stop {l : List Int} (h : ¬ (1 < l.length ∧ l.getD 0 0 = -l.getD (l.length - 1) 0)) : ∀ f, lrF f l = l
  | 0 => rfl
  | f + 1 => if_neg h
theorem cut_mid {l : List Int} (h : 1 < l.length) : cutV (l.map V.int) (some 1) (some (-1)) = ((l.drop 1).take (l.length - 2)).map V.int := by
  unfold cutV
  have e1 : HT.sIx (l.map V.int).length 0 (some 1) = 1 := by
    rw [show (1 : Int) = ((1 : Nat) : Int) from rfl, HT.sIx_nat, ml, Nat.min_eq_left (by omega)]
  have e2 : HT.sIx (l.map V.int).length (l.map V.int).length (some (-1)) = l.length - 1 := by
    rw [ml]
    unfold HT.sIx
    simp
    omega
  rw [e1, e2, List.map_take, List.map_drop]
  congr 1
theorem ati_lastI {l : List Int} (h : 0 < l.length) : atI (l.map V.int) (-1) = some (.int (l.getD (l.length - 1) 0)) := by
  have e : l = l.dropLast ++ [l.getD (l.length - 1) 0] := by
    have := List.dropLast_concat_getLast (List.ne_nil_of_length_pos h)
    rw [List.getD_eq_getElem?_getD, List.getElem?_eq_getElem (by omega), Option.getD_some, ← List.getLast_eq_getElem (List.ne_nil_of_length_pos h)]
    exact this.symm
  generalize l.getD (l.length - 1) 0 = x at e ⊢
  rw [e, List.map_append]
  exact atI_last _ _
def sp_law_round : Sp := fun vs H Q _ => ∃ (a : Addr) (ls : List Int), vs = [.ref a] ∧ IL H a ls ∧ ls.length ≤ 1000 ∧ ∀ p H', Ex H H' → IL H' p (lroundF ls) → Q (.ref p) H'
abbrev N_law_round : List Str := ["_law_word", "_law_found"]
theorem sc_law_round : FnScope N_law_round ["_law_word"] (C8.fnScope s_law_round) := C8.fnScope_by (by decide +kernel)
theorem k_law_round (T : Txt K mg) : C8.Cal P w K mg base 2 "_law_round" sp_law_round [] := by
  have nd := sc_law_round.nd
  refine defn T.d_law_round sc_law_round (fun vs H Q E h => ?_) (fun _ _ _ _ _ _ us hl => match us, hl with | [_], _ => rfl) (fun f cdv A outer s H vs Q E hr h => ?_)
  · obtain ⟨a, ls, rfl, _⟩ := h
    rfl
  · obtain ⟨a, ls, rfl, ha, hl, q⟩ := h
    refine ⟨_, (pss_cons (ps_set (i := 1) nd rfl (.inl rfl) (C8.pe_c (k_law_short T) hr (by decide) (by rfl) (pa_cons (pv 0) pa_nil)))
        (pss_cons (ps_while PassesOwn.never (PW.pt (pw_and (pt_cmpR op_gt (pe_callB call_len_seq (by rfl) T.z_len PySem.boot_len (pa_cons (pv 1) pa_nil)) pe_int (nomark _)) (pw_and1 (pt_cmpR op_eq (pe_ix ix_list (pv 1) pe_int (fun _ _ => rfl)) (pe_un un_neg (pe_ix ix_list (pv 1) (pe_un un_neg pe_int) (fun _ _ => rfl))) (nomark _)))))
        (pss_one (ps_set (i := 1) nd rfl (.inl rfl) (pe_slice sl_list (pv 1) (po_some pe_int) (po_some (pe_un un_neg pe_int))))))
        (pss_one (ps_ret (pv 1))))), ?_⟩
    refine ⟨_, rfl, a, ls, rfl, ha, hl, fun p0 H0 e0 hp0 => ?_⟩
    refine ⟨fun m σ H' => ∃ p l, σ = [some (.ref a), some (.ref p)] ∧ Ex H H' ∧ IL H' p l ∧ l.length ≤ m ∧ lrF m l = lroundF ls, ⟨ls.length, p0, shortF ls, rfl, e0, hp0, length_shortF ls, rfl⟩, fun m σ H' h => ?_⟩
    obtain ⟨p, l, rfl, e, hp, hm, hr⟩ := h
    refine ⟨_, rfl, p, _, rfl, .inl (sq_l hp), _, _, rfl, rfl, _, rfl, ?_⟩
    rw [ml]
    have last : ¬ (1 < l.length ∧ l.getD 0 0 = -l.getD (l.length - 1) 0) → Q (.ref p) H' := fun z => q p H' e (by rw [← hr, lrF_stop z]; exact hp)
    refine ite2 (fun lt => ?_) (fun lt => ?_)
    · have lt : 1 < l.length := by
        have := of_decide_eq_true lt
        omega
      refine ⟨_, rfl, p, _, 0, _, rfl, rfl, sq_l hp, ati_int (i := 0) (by omega), _, rfl, _, rfl, p, _, -1, _, rfl, rfl, sq_l hp, ati_lastI (by omega), _, rfl, rfl, _, rfl, ?_⟩
      rw [dec_int']
      refine ite2 (fun eq => ?_) (fun eq => ?_)
      · have eq := of_decide_eq_true eq
        obtain ⟨f, rfl⟩ : ∃ f, m = f + 1 := ⟨m - 1, by omega⟩
        refine ⟨fun σ' H2 => ∃ m', m' < f + 1 ∧ ∃ p l, σ' = [some (.ref a), some (.ref p)] ∧ Ex H H2 ∧ IL H2 p l ∧ l.length ≤ m' ∧ lrF m' l = lroundF ls, fun _ _ z => z, ?_⟩
        refine ⟨_, rfl, _, rfl, _, rfl, _, rfl, p, _, rfl, sq_l hp, fun p2 hp2 => ?_⟩
        refine ⟨f, by omega, p2, (l.drop 1).take (l.length - 2), rfl, ext e (exn hp2), ?_, by rw [List.length_take]; omega, ?_⟩
        · show upd H' p2 _ p2 = _
          rw [upd_same, cut_mid lt]
        · rw [← hr]
          show _ = (if _ then _ else _)
          rw [if_pos ⟨lt, eq⟩]
      · have eq : ¬ l.getD 0 0 = -l.getD (l.length - 1) 0 := fun z => eq (decide_eq_true z)
        exact ⟨_, rfl, last fun z => eq z.2⟩
    · have lt : ¬ 1 < l.length := fun z => lt (decide_eq_true (by omega))
      exact ⟨_, rfl, last fun z => lt z.1⟩
def rg1 (k : Int) (c : Nat) : List Int := List.replicate c k ++ List.replicate c (-k)
def baseF (ks : List Int) (cs : List Nat) : List Int := ((ks.zip cs).map fun p => rg1 p.1 p.2).flatten
theorem rep_one {c : Nat} {v : V} : (List.replicate c [v]).flatten = List.replicate c v := by
  induction c with
  | zero => rfl
  | succ c ih => rw [List.replicate_succ, List.flatten_cons, ih, List.replicate_succ]; rfl
def toI : V → Int
  | .int n => n
  | _ => 0
theorem perm_ints {ys : List V} {ns : List Int} (h : ys.Perm (ns.map V.int)) : ∃ ms : List Int, ys = ms.map V.int ∧ ms.Perm ns := by
  refine ⟨ys.map toI, ?_, ?_⟩
  · rw [List.map_map]
    conv => lhs; rw [← List.map_id ys]
    refine List.map_congr_left fun y hy => ?_
    obtain ⟨n, _, rfl⟩ := List.mem_map.mp (h.mem_iff.mp hy)
    rfl
  · have := h.map toI
    rw [List.map_map] at this
    have e : ns.map (toI ∘ V.int) = ns := by
      conv => rhs; rw [← List.map_id ns]
      exact List.map_congr_left fun y _ => rfl
    rw [e] at this
    exact this
def sp_law_ring : Sp := fun vs H Q _ => ∃ (L C a b : Addr) (n : Nat) (ks : List Int) (cs : List Nat), vs = [.ref L, .ref a, .ref b] ∧ LoomAt H L C n ∧ IL H a (iN cs) ∧ IL H b ks ∧ (baseF ks cs).length ≤ 100 ∧ n ≤ 800 ∧ (∀ c ∈ cs, c ≤ 100) ∧ ks.length ≤ 100 ∧
  ∀ p ns H', ns.Perm (baseF ks cs) → Mx L H H' → LoomAt H' L C (n + (baseF ks cs).length) → IL H' p ns → Q (.ref p) H'
abbrev N_law_ring : List Str := ["_law_loom_here", "_law_counts", "_law_kinds", "_law_found", "_law_kind", "_law_many"]
theorem sc_law_ring : FnScope N_law_ring ["_law_loom_here", "_law_counts", "_law_kinds"] (C8.fnScope s_law_ring) := C8.fnScope_by (by decide +kernel)
theorem k_law_ring (T : Txt K mg) : C8.Cal P w K mg base 3 "_law_ring" sp_law_ring [] := by
  have nd := sc_law_ring.nd
  refine defn T.d_law_ring sc_law_ring (fun vs H Q E h => ?_) (fun _ _ _ _ _ _ us hl => match us, hl with | [_, _, _], _ => rfl) (fun f cdv A outer s H vs Q E hr h => ?_)
  · obtain ⟨L, C, a, b, n, ks, cs, rfl, _⟩ := h
    rfl
  · obtain ⟨L, C, a, b, n, ks, cs, rfl, hL, ha, hb, hl, hn, hc, hk, q⟩ := h
    refine ⟨_, (pss_cons (ps_set (i := 3) nd rfl (.inl rfl) (pe_lst pa_nil))
        (pss_cons (ps_for PassesOwn.never rfl (pi_zip (by rfl) T.z_zip (pa_cons (pv 2) (pa_cons (pv 1) pa_nil))) (pg_tup rfl (pgs_cons (pg_name (i := 4) nd rfl (.inl rfl)) (pgs_cons (pg_name (i := 5) nd rfl (.inl rfl)) pgs_nil)))
        (pss_one (ps_expr (pe_bm (X := (cxOf CX0 P w K mg base N_law_ring _ (C8.fnScope s_law_ring) f cdv A outer s H E).nox) PySem.F.plainAttrs_list PySem.F.slot_list_extend PySem.F.type_list_extend mt_extend (pv 3) (pa_cons (pe_op op_cat (pe_op op_rep (pe_lst (pa_cons (pv 4) pa_nil)) (pv 5)) (pe_op op_rep (pe_lst (pa_cons (pe_un un_neg (pv 4)) pa_nil)) (pv 5))) pa_nil)))))
        (pss_one (ps_ret (C8.pe_c (k_law_mixed T) hr (by decide) (by rfl) (pa_cons (pv 0) (pa_cons (pv 3) pa_nil))))))), ?_⟩
    refine ⟨Nat.zero_le _, fun F hF => ?_⟩
    have e0 := exn (o := .lst []) hF
    refine ⟨_, rfl, _, rfl, b, a, _, _, rfl, sq_l (e0 _ _ hb), sq_l (e0 _ _ ha), ?_⟩
    refine for_it (walk_zip (xs := ks.map V.int) (ys := (iN cs).map V.int) rfl) (fun i σ H' => ∃ y4 y5, σ = [some (.ref L), some (.ref a), some (.ref b), some (.ref F), y4, y5] ∧ Ex H H' ∧ IL H' F (((ks.zip cs).take i).map fun p => rg1 p.1 p.2).flatten) ⟨none, none, rfl, e0, upd_same⟩ (fun i σ H' _ p => ?_) (fun i x' σ H2 H' hi p hy' => ?_) (fun σ H' p => ?_)
    · obtain ⟨y4, y5, rfl, e, _⟩ := p
      exact ⟨sq_l (e _ _ hb), sq_l (e _ _ ha)⟩
    · obtain ⟨y4, y5, rfl, e, hl2⟩ := p
      obtain ⟨T2, x, y, rfl, hT, rfl, hx, hy⟩ := hy'
      obtain ⟨hi1, rfl⟩ := int_at hx
      obtain ⟨hi2, rfl⟩ := int_at hy
      rw [length_iN] at hi2
      rw [iN_getD hi2]
      have e2 := exn (o := .tup [V.int (ks.getD i 0), V.int ((cs.getD i 0 : Nat) : Int)]) hT
      have hF2 := hl2.mono e2
      have ee := ext e e2
      have hc1 : cs.getD i 0 ≤ 100 := hc _ (getD_mem hi2)
      have step : (((ks.zip cs).take (i + 1)).map fun p => rg1 p.1 p.2).flatten = (((ks.zip cs).take i).map fun p => rg1 p.1 p.2).flatten ++ rg1 (ks.getD i 0) (cs.getD i 0) := by
        rw [List.take_add_one, List.map_append, List.flatten_append]
        congr 1
        rw [List.getElem?_eq_getElem (by rw [List.length_zip]; omega), List.getElem_zip, List.getD_eq_getElem?_getD, List.getElem?_eq_getElem hi1, List.getD_eq_getElem?_getD, List.getElem?_eq_getElem hi2]
        simp
      have hlen : ((((ks.zip cs).take i).map fun p => rg1 p.1 p.2).flatten).length ≤ 100 := by
        refine Nat.le_trans ?_ hl
        unfold baseF
        conv => rhs; rw [← List.take_append_drop i (ks.zip cs), List.map_append, List.flatten_append, List.length_append]
        omega
      refine ⟨T2, _, rfl, sq_t upd_same, rfl, _, _, rfl, _, _, rfl, rfl, ?_⟩
      generalize (((ks.zip cs).take i).map fun p => rg1 p.1 p.2).flatten = acc at hF2 step hlen
      generalize upd H2 T2 _ = H3 at hF2 ee
      generalize ks.getD i 0 = kd at step
      generalize cs.getD i 0 = cn at step hc1
      have szc : ∀ z : V, [z].length * ((cn : Nat) : Int).toNat ≤ sizeLine := fun z => by
        rw [Int.toNat_natCast]
        exact sz (by rw [List.length_singleton]; omega)
      refine ⟨_, rfl, .inl ⟨rfl, _, sq_l hF2⟩, _, rfl, Nat.le_of_ble_eq_true rfl, fun A1 hA1 => ⟨_, rfl, A1, _, _, rfl, rfl, upd_same, by omega, by omega, szc _, fun A2 hA2 => ?_⟩⟩
      rw [Int.toNat_natCast, rep_one]
      have x12 := ext (exn (o := .lst [V.int kd]) hA1) (exn (o := .lst (List.replicate cn (V.int kd))) hA2)
      have hA2' := upd_same (H := upd H3 A1 (.lst [V.int kd])) (a := A2) (o := .lst (List.replicate cn (V.int kd)))
      generalize upd (upd H3 A1 (.lst [V.int kd])) A2 (.lst (List.replicate cn (V.int kd))) = H4 at x12 hA2'
      refine ⟨_, rfl, _, rfl, Nat.le_of_ble_eq_true rfl, fun A3 hA3 => ⟨_, rfl, A3, _, _, rfl, rfl, upd_same, by omega, by omega, szc _, fun A4 hA4 => ?_⟩⟩
      rw [Int.toNat_natCast, rep_one]
      have x34 := ext (exn (o := .lst [V.int (-kd)]) hA3) (exn (o := .lst (List.replicate cn (V.int (-kd)))) hA4)
      have hA4' := upd_same (H := upd H4 A3 (.lst [V.int (-kd)])) (a := A4) (o := .lst (List.replicate cn (V.int (-kd))))
      have hA2'' := x34 _ _ hA2'
      generalize upd (upd H4 A3 (.lst [V.int (-kd)])) A4 (.lst (List.replicate cn (V.int (-kd)))) = H5 at x34 hA4' hA2''
      refine ⟨A2, A4, _, _, rfl, rfl, hA2'', hA4', sz (by rw [List.length_replicate, List.length_replicate]; omega), fun A5 hA5 => ?_⟩
      have x5 := exn (o := .lst (List.replicate cn (V.int kd) ++ List.replicate cn (V.int (-kd)))) hA5
      have e15 := ext x12 (ext x34 x5)
      have hF5 : IL _ F acc := e15 _ _ hF2
      refine ⟨F, A5, _, _, rfl, rfl, hF5, upd_same, sz (by rw [ml, List.length_append, List.length_replicate, List.length_replicate]; omega), ?_⟩
      refine ⟨_, _, rfl, exm (ext ee e15) hF, ?_⟩
      show upd _ F _ F = _
      rw [upd_same, step]
      unfold rg1
      rw [List.map_append, List.map_append, List.map_replicate, List.map_replicate]
    · obtain ⟨y4, y5, rfl, e, hl2⟩ := p
      have e9 : (((ks.zip cs).take (min (ks.map V.int).length ((iN cs).map V.int).length)).map fun p => rg1 p.1 p.2).flatten = baseF ks cs := by
        rw [List.take_of_length_le (by rw [List.length_zip, ml, ml, length_iN]; exact Nat.le_refl _)]
        rfl
      rw [e9] at hl2
      have nF := (hL.mono e).neI hl2
      refine ⟨_, rfl, _, rfl, L, C, F, n, (baseF ks cs).map V.int, rfl, hL.mono e, by rw [ml]; omega, nF, hl2, by rw [ml]; omega, fun p ys H2 hp m hL2 np hp2 => ?_⟩
      obtain ⟨ms, rfl, hpm⟩ := perm_ints hp
      rw [ml] at hL2
      exact q p ms H2 hpm ((Ex.mx e).trans m) hL2 hp2
end
end Hw
/-! W26 -/
/-! W26: the law's sewings. -/
namespace Hw
open PySem PySem.Spec PyProof.Rows L2 HR RZ
open LamX (ExtN Tabs TabS TabB)
theorem range_getD {α : Type} (d : α) : ∀ l : List α, (List.range l.length).map (fun i => l.getD i d) = l := fun l => by
  refine List.ext_getElem? fun i => ?_
  by_cases hi : i < l.length
  · simp [hi]
  · rw [List.getElem?_eq_none (by simp; omega), List.getElem?_eq_none (by omega)]
theorem filter_at (g : List Int → Bool) (xs : List (List Int)) : xs.filter g = ((List.range xs.length).filter fun i => g (xs.getD i [])).map fun i => xs.getD i [] := by
  conv => lhs; rw [← range_getD [] xs, List.filter_map]
  rfl
theorem WLs.filter {H : Hp} {as : List Addr} {xs : List (List Int)} (g : List Int → Bool) (h : WLs H as xs) : WLs H (((List.range xs.length).filter fun i => g (xs.getD i [])).map fun i => as.getD i 0) (xs.filter g) := by
  rw [filter_at g xs]
  refine ⟨by rw [List.length_map, List.length_map], fun i hi => ?_⟩
  rw [List.length_map] at hi
  rw [List.getD_eq_getElem?_getD, List.getElem?_map, List.getD_eq_getElem?_getD, List.getElem?_map, List.getElem?_eq_getElem hi]
  exact h.2 _ (List.mem_range.mp (List.mem_filter.mp (List.getElem_mem hi)).1)
theorem getD_appA {as bs : List Addr} {i : Nat} : (as ++ bs).getD i 0 = if i < as.length then as.getD i 0 else bs.getD (i - as.length) 0 := getD_appN
theorem getD_appL {as bs : List (List Int)} {i : Nat} : (as ++ bs).getD i [] = if i < as.length then as.getD i [] else bs.getD (i - as.length) [] := by
  rw [List.getD_eq_getElem?_getD]
  by_cases h : i < as.length
  · rw [if_pos h, List.getElem?_append_left h, List.getD_eq_getElem?_getD]
  · rw [if_neg h, List.getElem?_append_right (by omega), List.getD_eq_getElem?_getD]
theorem WLs.snoc {H : Hp} {as : List Addr} {xs : List (List Int)} {b : Addr} {x : List Int} (h : WLs H as xs) (hb : IL H b x) : WLs H (as ++ [b]) (xs ++ [x]) := by
  refine ⟨by rw [List.length_append, List.length_append, h.1]; rfl, fun i hi => ?_⟩
  rw [List.length_append, List.length_singleton] at hi
  rw [getD_appA, getD_appL, h.1]
  by_cases c : i < xs.length
  · rw [if_pos c, if_pos c]
    exact h.2 i c
  · rw [if_neg c, if_neg c, show i - xs.length = 0 by omega]
    exact hb
/-- no list of the lot is D -/
theorem WLs.mx {H H' : Hp} {D : Addr} {as : List Addr} {xs : List (List Int)} (e : Mx D H H') (n : ∀ b ∈ as, b ≠ D) (h : WLs H as xs) : WLs H' as xs := ⟨h.1, fun i hi => e _ _ (n _ (by
  rw [List.getD_eq_getElem?_getD, List.getElem?_eq_getElem (by rw [h.1]; exact hi)]
  exact List.getElem_mem _)) (h.2 i hi)⟩
theorem WLs.off {H : Hp} {D : Addr} {o : HO} {as : List Addr} {xs : List (List Int)} (n : ∀ b ∈ as, b ≠ D) (h : WLs H as xs) : WLs (upd H D o) as xs := h.mx mxu n
theorem WLs.new {H : Hp} {D : Addr} {as : List Addr} {xs : List (List Int)} (h : WLs H as xs) (hD : H D = none) : ∀ b ∈ as, b ≠ D := fun b hb z => by
  obtain ⟨i, hi, e⟩ := List.getElem_of_mem hb
  have := h.2 i (by rw [← h.1]; exact hi)
  rw [List.getD_eq_getElem?_getD, List.getElem?_eq_getElem hi, Option.getD_some, e, z] at this
  have this : H D = _ := this
  rw [hD] at this
  cases this
theorem mem_sub {as : List Addr} {n : Nat} {f : Nat → Bool} (h : as.length = n) {b : Addr} (hb : b ∈ ((List.range n).filter f).map fun i => as.getD i 0) : b ∈ as := by
  obtain ⟨i, hi, rfl⟩ := List.mem_map.mp hb
  have hi := List.mem_range.mp (List.mem_filter.mp hi).1
  rw [List.getD_eq_getElem?_getD, List.getElem?_eq_getElem (by omega)]
  exact List.getElem_mem _
theorem extS_succ {ls x : List Int} {p h : Nat} : extS ls x p (h + 1) = extS ls x p h ++ if okS ls x p h = true then [mkS x p h] else [] := by
  unfold extS
  rw [List.range_succ, List.filter_append, List.map_append]
  congr 1
  cases h2 : okS ls x p h <;> simp [h2]
theorem extS_nil {ls x : List Int} {p : Nat} : extS ls x p (p + 1) = [] := by
  unfold extS
  rw [List.map_eq_nil_iff, List.filter_eq_nil_iff]
  intro o ho z
  have := List.mem_range.mp ho
  have := (okS_iff.mp z).1
  omega
theorem ixN_nat {n i : Nat} (h : i < n) : ixN n (i : Int) = some i := by
  unfold ixN
  rw [if_pos (by omega), if_pos (by omega), Int.toNat_natCast]
section
variable {P : Program} {w : World} {K : PySem.W.Frag} {mg : Str → Option Value} {base : Heap}
def sp_law_sewings : Sp := fun vs H Q _ => ∃ (a : Addr) (ls : List Int), vs = [.ref a] ∧ IL H a ls ∧ ls ≠ [] ∧ ls.length ≤ 8 ∧ (∀ k, ls.count k ≤ 4) ∧ NZ ls ∧ (∃ m, Mt ls m) ∧
  ∀ p (as : List Addr) (mss : List (List Nat)) H', Ex H H' → H' p = some (.lst (as.map V.ref)) → as.length = mss.length → mss ≠ [] → mss.length ≤ 100000 → (∀ i, i < mss.length → IT H' (as.getD i 0) (iN (mss.getD i []))) → (∀ m ∈ mss, Mt ls m) → Q (.ref p) H'
abbrev N_law_sewings : List Str := ["_law_letters", "_law_found", "_law_place", "_law_mates", "_law_longer", "_law_other", "_law_made"]
theorem sc_law_sewings : FnScope N_law_sewings ["_law_letters"] (C8.fnScope s_law_sewings) := C8.fnScope_by (by decide +kernel)
theorem k_law_sewings (T : Txt K mg) : C8.Cal P w K mg base 1 "_law_sewings" sp_law_sewings [] := by
  have nd := sc_law_sewings.nd
  refine defn T.d_law_sewings sc_law_sewings (fun vs H Q E h => ?_) (fun _ _ _ _ _ _ us hl => match us, hl with | [_], _ => rfl) (fun f cdv A outer s H vs Q E hr h => ?_)
  · obtain ⟨a, ls, rfl, _⟩ := h
    rfl
  · obtain ⟨a, ls, rfl, ha, hne, hl8, c4, nz, ⟨m0, hm0⟩, q⟩ := h
    have hlen : ∀ p, p ≤ ls.length → (sewS ls p).length ≤ 65536 := fun p hp => Nat.le_trans (length_sewS c4 p) (by
      have : (4 : Nat) ^ p ≤ 4 ^ 8 := Nat.pow_le_pow_right (by decide) (by omega)
      exact this)
    refine ⟨_, (pss_cons (ps_set (i := 1) nd rfl (.inl rfl) (pe_lst (pa_cons (pe_op op_rep (pe_lst (pa_cons (pe_un un_neg pe_int) pa_nil)) (pe_callB call_len_seq (by rfl) T.z_len PySem.boot_len (pa_cons (pv 0) pa_nil))) pa_nil)))
        (pss_cons (ps_for PassesOwn.never rfl (pi_range1 (by rfl) T.z_range (pa_cons (pe_callB call_len_seq (by rfl) T.z_len PySem.boot_len (pa_cons (pv 0) pa_nil)) pa_nil)) (pg_name (i := 2) nd rfl (.inr rfl))
        (pss_cons (ps_setLc (i := 4) (own := [("_law_mates", 3)]) (by rfl) nd rfl rfl (sw_true rfl rfl rfl (by decide +kernel)) (pi_list (pv 1)) (blkOk_by (own := [("_law_mates", 3)]) (N := N_law_sewings) (sc := C8.fnScope s_law_sewings) (by decide +kernel)) (fun _ _ _ _ _ => (pg_name (i := 3) nd rfl (.inl rfl))) (fun _ _ _ _ _ => (pts_one (pt_cmpR op_ge (pe_ix (ix_listK (K := K)) (pv 3) (pv 2) (fun _ _ => rfl)) pe_int (nomark _)))) (fun _ _ _ _ _ => (pv 3)))
        (pss_cons (ps_for PassesOwn.never rfl (pi_list (pe_lc (own := [("_law_mates", 3)]) (by rfl) nd (pi_list (pv 1)) (blkOk_by (own := [("_law_mates", 3)]) (N := N_law_sewings) (sc := C8.fnScope s_law_sewings) (by decide +kernel)) (fun _ _ _ _ _ => (pg_name (i := 3) nd rfl (.inl rfl))) (fun _ _ _ _ _ => (pts_one (pt_cmpR op_lt (pe_ix (ix_listK (K := K)) (pv 3) (pv 2) (fun _ _ => rfl)) pe_int (nomark _)))) (fun _ _ _ _ _ => (pv 3)))) (pg_name (i := 3) nd rfl (.inl rfl))
        (pss_one (ps_for PassesOwn.never rfl (pi_range2 (by rfl) T.z_range (pa_cons (pe_op op_add (pv 2) pe_int) (pa_cons (pe_callB call_len_seq (by rfl) T.z_len PySem.boot_len (pa_cons (pv 0) pa_nil)) pa_nil))) (pg_name (i := 5) nd rfl (.inl rfl))
        (pss_one (ps_if (PW.pt (pw_and (pt_cmpR op_lt (pe_ix ix_list (pv 3) (pv 5) (fun _ _ => rfl)) pe_int (nomark _)) (pw_and1 (pt_cmpR op_eq (pe_ix ix_list (pv 0) (pv 5) (fun _ _ => rfl)) (pe_un un_neg (pe_ix ix_list (pv 0) (pv 2) (fun _ _ => rfl))) (nomark _)))))
        (pss_cons (ps_set (i := 6) nd rfl (.inl rfl) (pe_callTy call_list_of (by rfl) T.z_list (by decide +kernel) (pa_cons (pv 3) pa_nil)))
        (pss_cons (ps_asg (pe_tup (pa_cons (pv 5) (pa_cons (pv 2) pa_nil))) (pg_tup rfl (pgs_cons (pg_sub (pv 6) (pv 2) set_list) (pgs_cons (pg_sub (pv 6) (pv 5) set_list) pgs_nil))))
        (pss_one (ps_expr (pe_bm PySem.F.plainAttrs_list PySem.F.slot_list_append PySem.F.type_list_append mt_append (pv 4) (pa_cons (pv 6) pa_nil))))))
        pss_nil)))))
        (pss_one (ps_set (i := 1) nd rfl (.inl rfl) (pv 4))))))
        (pss_one (ps_ret (pe_callB (cr_sortI hr.units) (by rfl) T.z_sorted (by decide +kernel) (pa_cons (pe_lc (own := [("_law_mates", 3)]) (by rfl) nd (pi_list (pv 1)) (blkOk_by (own := [("_law_mates", 3)]) (N := N_law_sewings) (sc := C8.fnScope s_law_sewings) (by decide +kernel)) (fun _ _ _ _ _ => (pg_name (i := 3) nd rfl (.inl rfl))) (fun _ _ _ _ _ => pts_nil) (fun _ _ _ _ _ => (pe_callTy call_tupG (by rfl) T.z_tuple (by decide +kernel) (pa_cons (pv 3) pa_nil)))) pa_nil)))))), ?_⟩
    refine ⟨_, rfl, Nat.le_of_ble_eq_true rfl, fun A1 hA1 => ⟨_, rfl, a, _, rfl, .inl (sq_l (exn hA1 _ _ ha)), A1, _, _, rfl, rfl, upd_same, by omega, by rw [ml]; omega, sz (by rw [List.length_singleton, ml]; omega), fun A2 hA2 => ?_⟩⟩
    rw [Int.toNat_natCast, rep_one, ml]
    have x12 := ext (exn (o := .lst [V.int (-1)]) hA1) (exn (o := .lst (List.replicate ls.length (V.int (-1)))) hA2)
    have hA2' := upd_same (H := upd H A1 (.lst [V.int (-1)])) (a := A2) (o := .lst (List.replicate ls.length (V.int (-1))))
    generalize upd (upd H A1 (.lst [V.int (-1)])) A2 (.lst (List.replicate ls.length (V.int (-1)))) = H2 at x12 hA2'
    refine ⟨Nat.le_of_ble_eq_true rfl, fun F0 hF0 => ?_⟩
    have x3 := exn (o := .lst [V.ref A2]) hF0
    have e0 := ext x12 x3
    have hw0 : WLs (upd H2 F0 (.lst [V.ref A2])) [A2] (sewS ls 0) := wl1 (IL.mono x3 (by
      show H2 A2 = _
      rw [hA2', List.map_replicate]))
    have hF0' : (upd H2 F0 (.lst [V.ref A2])) F0 = some (.lst ([A2].map V.ref)) := upd_same
    generalize upd H2 F0 (.lst [V.ref A2]) = H3 at e0 hw0 hF0'
    refine ⟨_, rfl, a, _, rfl, .inl (sq_l (e0 _ _ ha)), _, rfl, by omega, by rw [ml]; omega, ?_⟩
    rw [Int.toNat_natCast, ml]
    refine for_it walk_range (fun i σ H' => ∃ F as y2 y3 y4 y5 y6, σ = [some (.ref a), some (.ref F), y2, y3, y4, y5, y6] ∧ Ex H H' ∧ H' F = some (.lst (as.map V.ref)) ∧ WLs H' as (sewS ls i)) ⟨F0, [A2], none, none, none, none, none, rfl, e0, hF0', hw0⟩ (fun _ _ _ _ _ => trivial) (fun i x' σ Hs H' hi p hy' => ?_) (fun σ H' p => ?_)
    · obtain ⟨F, as, y2, y3, y4, y5, y6, rfl, e, hF, hw⟩ := p
      obtain ⟨rfl, rfl⟩ := hy'
      show gName 2 (.int (0 + (i : Int))) _ H' _
      rw [Int.zero_add]
      have hb := hlen i (by omega)
      have hb2 : (stepS ls i (sewS ls i)).length ≤ 65536 := hlen (i + 1) (by omega)
      have hps := ps_all i (by omega) (ls := ls)
      have hstep : sewS ls (i + 1) = stepS ls i (sewS ls i) := rfl
      rw [hstep]
      generalize sewS ls i = xs at hw hb hb2 hps
      have hxl : ∀ j, j < xs.length → (xs.getD j []).length = ls.length := fun j hj => (hps _ (mem_getDD hj)).len
      have hal := hw.1
      -- longer
      refine ⟨_, rfl, F, rfl, ⟨_, sq_l hF⟩, fun D1 hD1 => ?_⟩
      refine lc_sel (n := (as.map V.ref).length) walk_list (by rw [mlr]; omega) (fun j => decide (0 ≤ (xs.getD j []).getD i 0)) (fun j => .ref (as.getD j 0)) hD1 (fun H2 e2 => sq_l (e2 _ _ hF)) (fun j y Hc H2 hj e2 hy => ?_) gmN (fun H1 e1 h1 => ?_)
      · obtain ⟨rfl, hy⟩ := hy
        obtain ⟨hj2, rfl⟩ := ref_at hy
        have hA := (hw.2 j (by omega)).mono e2
        have hxj := hxl j (by omega)
        generalize as.getD j 0 = A at hA ⊢
        generalize xs.getD j [] = x at hA hxj ⊢
        refine ⟨rfl, exr, fun Q q => ?_, fun _ H3 e3 Q q => ⟨_, rfl, q _ exr⟩⟩
        exact ⟨_, rfl, _, rfl, A, _, _, _, rfl, rfl, sq_l hA, ati_int (by omega), _, _, rfl, rfl, _, rfl, q _ exr⟩
      have h1' : H1 D1 = some (.lst ((((List.range xs.length).filter fun j => decide (0 ≤ (xs.getD j []).getD i 0)).map fun j => as.getD j 0).map V.ref)) := by
        rw [h1, mlr, hal]
        unfold Evl.given
        rw [List.map_map]
        rfl
      have hw1 : WLs H1 (((List.range xs.length).filter fun j => decide (0 ≤ (xs.getD j []).getD i 0)).map fun j => as.getD j 0) (xs.filter fun x => decide (0 ≤ x.getD i 0)) := (hw.filter fun x => decide (0 ≤ x.getD i 0)).mono e1
      have hn1 : ∀ b ∈ (((List.range xs.length).filter fun j => decide (0 ≤ (xs.getD j []).getD i 0)).map fun j => as.getD j 0), b ≠ D1 := fun b hb => hw.new hD1 b (mem_sub hal hb)
      clear h1
      generalize (((List.range xs.length).filter fun j => decide (0 ≤ (xs.getD j []).getD i 0)).map fun j => as.getD j 0) = as1 at h1' hw1 hn1
      -- those without a mate here
      have hF1 := e1 _ _ hF
      refine ⟨_, rfl, F, rfl, ⟨_, sq_l hF1⟩, fun D2 hD2 => ?_⟩
      refine lc_sel (n := (as.map V.ref).length) walk_list (by rw [mlr]; omega) (fun j => decide ((xs.getD j []).getD i 0 < 0)) (fun j => .ref (as.getD j 0)) hD2 (fun H2 e2 => sq_l (e2 _ _ hF1)) (fun j y Hc H2 hj e2 hy => ?_) gmN (fun H5 e5 h5 => ?_)
      · obtain ⟨rfl, hy⟩ := hy
        obtain ⟨hj2, rfl⟩ := ref_at hy
        have hA := ((hw.2 j (by omega)).mono e1).mono e2
        have hxj := hxl j (by omega)
        generalize as.getD j 0 = A at hA ⊢
        generalize xs.getD j [] = x at hA hxj ⊢
        refine ⟨rfl, exr, fun Q q => ?_, fun _ H3 e3 Q q => ⟨_, rfl, q _ exr⟩⟩
        exact ⟨_, rfl, _, rfl, A, _, _, _, rfl, rfl, sq_l hA, ati_int (by omega), _, _, rfl, rfl, _, rfl, q _ exr⟩
      have h5' : H5 D2 = some (.lst ((((List.range xs.length).filter fun j => decide ((xs.getD j []).getD i 0 < 0)).map fun j => as.getD j 0).map V.ref)) := by
        rw [h5, mlr, hal]
        unfold Evl.given
        rw [List.map_map]
        rfl
      have e15 := ext e1 e5
      have hw2 : WLs H5 (((List.range xs.length).filter fun j => decide ((xs.getD j []).getD i 0 < 0)).map fun j => as.getD j 0) (xs.filter fun x => decide (x.getD i 0 < 0)) := (hw.filter fun x => decide (x.getD i 0 < 0)).mono e15
      have hn2 : ∀ b ∈ (((List.range xs.length).filter fun j => decide ((xs.getD j []).getD i 0 < 0)).map fun j => as.getD j 0), b ≠ D1 := fun b hb => hw.new hD1 b (mem_sub hal hb)
      clear h5
      generalize (((List.range xs.length).filter fun j => decide ((xs.getD j []).getD i 0 < 0)).map fun j => as.getD j 0) = as2 at h5' hw2 hn2
      have hD15 := e5 _ _ h1'
      have hw15 := hw1.mono e5
      have nD : D2 ≠ D1 := fun z => by rw [z, h1'] at hD2; cases hD2
      have hl2 : ∀ x ∈ xs.filter (fun x => decide (x.getD i 0 < 0)), x.length = ls.length := fun x hx => (hps x (List.mem_filter.mp hx).1).len
      unfold stepS at hb2 ⊢
      generalize xs.filter (fun x => decide (x.getD i 0 < 0)) = xs2 at hw2 hl2 hb2 ⊢
      generalize xs.filter (fun x => decide (0 ≤ x.getD i 0)) = xs1 at hw15 hb2 ⊢
      clear hw1
      have ha5 := (ext e e15) _ _ ha
      refine ⟨D2, rfl, ⟨_, sq_l h5'⟩, ?_⟩
      have fin : ∀ {H' : Hp}, Mx D1 H5 H' → Ex H H' := fun m b o hb => m b o (fun z => by rw [z] at hb; have := e _ _ hb; rw [hD1] at this; cases this) ((ext e e15) _ _ hb)
      refine for_list (xs := as2.map V.ref) (fun k σ H' => ∃ y3 y5 y6 bs, σ = [some (.ref a), some (.ref F), some (.int (i : Int)), y3, some (.ref D1), y5, y6] ∧ Mx D1 H5 H' ∧ H' D1 = some (.lst (bs.map V.ref)) ∧ (∀ b ∈ bs, b ≠ D1) ∧ WLs H' bs (xs1 ++ ((xs2.take k).map fun x => extS ls x i ls.length).flatten)) ⟨_, _, _, as1, rfl, Mx.refl, hD15, hn1, by simpa using hw15⟩ (fun k σ H' _ p => ?_) (fun k y σ H' hy p => ?_) (fun σ H' p => ?_)
      · obtain ⟨_, _, _, bs, rfl, m, _⟩ := p
        exact sq_l (m _ _ nD h5')
      · obtain ⟨y3, y5, y6, bs, rfl, m, hbD, hbn, hbw⟩ := p
        obtain ⟨hk, rfl⟩ := ref_at hy
        have hk2 : k < xs2.length := by rw [← hw2.1]; exact hk
        have hA := hw2.2 k hk2
        have hAn : as2.getD k 0 ≠ D1 := hn2 _ (by
          rw [List.getD_eq_getElem?_getD, List.getElem?_eq_getElem hk]
          exact List.getElem_mem _)
        have hxk := hl2 _ (mem_getDD (d := []) hk2)
        have hst : ((xs2.take (k + 1)).map fun x => extS ls x i ls.length).flatten = ((xs2.take k).map fun x => extS ls x i ls.length).flatten ++ extS ls (xs2.getD k []) i ls.length := by
          rw [List.take_add_one, List.map_append, List.flatten_append]
          congr 1
          rw [List.getD_eq_getElem?_getD, List.getElem?_eq_getElem hk2]
          simp
        have hacc : (xs1 ++ ((xs2.take k).map fun x => extS ls x i ls.length).flatten).length ≤ 65536 := by
          refine Nat.le_trans ?_ hb2
          rw [List.length_append, List.length_append]
          conv => rhs; rw [← List.take_append_drop k xs2, List.map_append, List.flatten_append, List.length_append]
          omega
        rw [hst, ← List.append_assoc]
        generalize xs1 ++ ((xs2.take k).map fun x => extS ls x i ls.length).flatten = acc at hbw hacc ⊢
        generalize as2.getD k 0 = A at hA hAn ⊢
        generalize xs2.getD k [] = x at hA hxk ⊢
        have ha6 : IL H' a ls := fin m _ _ ha
        refine ⟨_, rfl, _, _, rfl, rfl, _, rfl, a, _, rfl, .inl (sq_l ha6), _, _, rfl, ⟨by omega, by omega, by omega, by rw [ml]; omega⟩, ?_⟩
        have en : ((((ls.map V.int).length : Nat) : Int) - ((i : Int) + 1)).toNat = ls.length - (i + 1) := by rw [ml]; omega
        rw [en]
        refine for_it walk_range (fun j σ H' => ∃ y5 y6 bs, σ = [some (.ref a), some (.ref F), some (.int (i : Int)), some (.ref A), some (.ref D1), y5, y6] ∧ Mx D1 H5 H' ∧ H' D1 = some (.lst (bs.map V.ref)) ∧ (∀ b ∈ bs, b ≠ D1) ∧ WLs H' bs (acc ++ extS ls x i (i + 1 + j))) ⟨_, _, bs, rfl, m, hbD, hbn, by rw [Nat.add_zero, extS_nil, List.append_nil]; exact hbw⟩ (fun _ _ _ _ _ => trivial) (fun j x' σ Hs H' hj p hy' => ?_) (fun σ H' p => ?_)
        · obtain ⟨y5, y6, bs, rfl, m, hbD, hbn, hbw⟩ := p
          obtain ⟨rfl, rfl⟩ := hy'
          have eo : ((i : Int) + 1 + (j : Int)) = ((i + 1 + j : Nat) : Int) := by omega
          show gName 5 (.int ((i : Int) + 1 + (j : Int))) _ H' _
          rw [eo]
          have ho : i + 1 + j < ls.length := by omega
          rw [show i + 1 + (j + 1) = i + 1 + j + 1 by omega, extS_succ, ← List.append_assoc]
          have hel := length_extS (ls := ls) (x := x) (p := i) (hi := i + 1 + j) (by omega) c4
          have hok := okS_iff (ls := ls) (x := x) (p := i) (o := i + 1 + j)
          have hio : i < i + 1 + j := by omega
          generalize i + 1 + j = o at ho hbw hel hok hio ⊢
          have ha7 : IL H' a ls := fin m _ _ ha
          have hA7 : IL H' A x := m _ _ hAn hA
          refine ⟨_, rfl, _, rfl, A, _, _, _, rfl, rfl, sq_l hA7, ati_int (by omega), _, _, rfl, rfl, _, rfl, ite2 (fun c1 => ?_) (fun c1 => ?_)⟩
          · have c1 := of_decide_eq_true c1
            refine ⟨_, rfl, _, rfl, a, _, _, _, rfl, rfl, sq_l ha7, ati_int ho, _, rfl, _, rfl, a, _, _, _, rfl, rfl, sq_l ha7, ati_int hi, _, rfl, rfl, _, rfl, ?_⟩
            rw [dec_int']
            refine ite2 (fun c2 => ?_) (fun c2 => ?_)
            · have c2 := of_decide_eq_true c2
              have ey : (if okS ls x i o = true then [mkS x i o] else []) = [mkS x i o] := if_pos (hok.mpr ⟨hio, c1, c2⟩)
              refine ⟨_, rfl, A, _, rfl, .inl (sq_l hA7), fun M hM => ?_⟩
              have nMD : M ≠ D1 := fun z => by rw [z, hbD] at hM; cases hM
              have xM := exn (o := .lst (x.map V.int)) hM
              have hM1 := upd_same (H := H') (a := M) (o := .lst (x.map V.int))
              have hM0 := hM
              generalize upd H' M (.lst (x.map V.int)) = H8 at xM hM1
              refine ⟨_, rfl, _, rfl, Nat.le_of_ble_eq_true rfl, fun Tq hTq => ?_⟩
              have xT := exn (o := .tup [V.int (o : Int), V.int (i : Int)]) hTq
              have hM2 := xT _ _ hM1
              have hTq1 := upd_same (H := H8) (a := Tq) (o := .tup [V.int (o : Int), V.int (i : Int)])
              have x89 := ext xM xT
              generalize upd H8 Tq (.tup [V.int (o : Int), V.int (i : Int)]) = H9 at xT hM2 hTq1 x89
              refine ⟨Tq, _, rfl, sq_t hTq1, rfl, _, _, rfl, _, rfl, _, rfl, M, _, _, i, rfl, rfl, hM2, ixN_nat (by rw [ml]; omega), ?_⟩
              refine ⟨_, _, rfl, _, rfl, _, rfl, M, _, _, o, rfl, rfl, upd_same, ixN_nat (by rw [List.length_set, ml]; omega), rfl, ?_⟩
              rw [upd_upd]
              have eM : ((x.map V.int).set i (V.int (o : Int))).set o (V.int (i : Int)) = (mkS x i o).map V.int := by
                unfold mkS
                rw [List.map_set, List.map_set]
              rw [eM]
              have mM : Mx D1 H' (upd H9 M (.lst ((mkS x i o).map V.int))) := mxm (Ex.mx x89) hM0
              have hD9 := (upd_ne (H := H9) (a := M) (o := .lst ((mkS x i o).map V.int)) (Ne.symm nMD)).trans (x89 _ _ hbD)
              have hM9 : IL (upd H9 M (.lst ((mkS x i o).map V.int))) M (mkS x i o) := upd_same
              have hbw9 : WLs (upd H9 M (.lst ((mkS x i o).map V.int))) bs (acc ++ extS ls x i o) := hbw.mx mM hbn
              generalize upd H9 M (.lst ((mkS x i o).map V.int)) = H10 at mM hD9 hM9 hbw9
              refine ⟨_, rfl, .inl ⟨rfl, _, sq_l hD9⟩, _, rfl, D1, _, _, rfl, rfl, hD9, Evl.sz_lt (by rw [mlr, hbw.1, List.length_append]; omega), ?_⟩
              have hbn2 : ∀ b ∈ bs ++ [M], b ≠ D1 := fun b hb => by
                rcases List.mem_append.mp hb with hb | hb
                · exact hbn b hb
                · rw [List.mem_singleton.mp hb]
                  exact nMD
              refine ⟨_, _, bs ++ [M], rfl, (m.trans mM).trans mxu, by rw [upd_same, List.map_append]; rfl, hbn2, ?_⟩
              rw [ey]
              exact (hbw9.snoc hM9).off hbn2
            · have c2 : ¬ ls.getD o 0 = -ls.getD i 0 := fun z => c2 (decide_eq_true z)
              have ey : (if okS ls x i o = true then [mkS x i o] else []) = [] := if_neg fun z => c2 (hok.mp z).2.2
              refine ⟨_, _, bs, rfl, m, hbD, hbn, ?_⟩
              rw [ey, List.append_nil]
              exact hbw
          · have c1 : ¬ x.getD o 0 < 0 := fun z => c1 (decide_eq_true z)
            have ey : (if okS ls x i o = true then [mkS x i o] else []) = [] := if_neg fun z => c1 (hok.mp z).2.1
            refine ⟨_, _, bs, rfl, m, hbD, hbn, ?_⟩
            rw [ey, List.append_nil]
            exact hbw
        · obtain ⟨y5, y6, bs, rfl, m, hbD, hbn, hbw⟩ := p
          rw [show i + 1 + (ls.length - (i + 1)) = ls.length by omega] at hbw
          exact ⟨_, _, _, bs, rfl, m, hbD, hbn, hbw⟩
      · obtain ⟨y3, y5, y6, bs, rfl, m, hbD, hbn, hbw⟩ := p
        rw [mlr, hw2.1, List.take_length] at hbw
        exact ⟨_, rfl, D1, bs, _, _, _, _, _, rfl, fin m, hbD, hbw⟩
    · obtain ⟨F, as, y2, y3, y4, y5, y6, rfl, e, hF, hw⟩ := p
      have hb := hlen ls.length (Nat.le_refl _)
      have hps := ps_all ls.length (Nat.le_refl _) (ls := ls)
      have hmem := tgt_mem hm0 nz ls.length (Nat.le_refl _)
      generalize sewS ls ls.length = xs at hw hb hps hmem
      have hal := hw.1
      have hin : ∀ m : List Nat, (iN m).map Int.toNat = m := fun m => by
        unfold iN
        rw [List.map_map]
        conv => rhs; rw [← List.map_id m]
        exact List.map_congr_left fun _ _ => rfl
      refine ⟨_, rfl, F, rfl, ⟨_, sq_l hF⟩, fun D hD => ?_⟩
      refine lc_all walk_list (by rw [mlr]; omega) (fun i y H' => ∃ t, y = .ref t ∧ t ≠ D ∧ IT H' t (xs.getD i [])) hD (fun H' e' => sq_l (e' _ _ hF)) (fun i y H1 H2 kp h => ?_) (fun i x Hc H2 hi e' hz hy => ?_) gmN (fun ys H2 e2 h2 hyl hys => ?_)
      · obtain ⟨t, rfl, h1, h2⟩ := h
        exact ⟨t, rfl, h1, kp.2 _ _ h1 h2⟩
      · obtain ⟨rfl, hx⟩ := hy
        obtain ⟨hi', rfl⟩ := ref_at hx
        obtain ⟨zs, hz⟩ := hz
        refine ⟨rfl, fun Q q => ⟨_, rfl, as.getD i 0, _, rfl, .inl (e' _ _ (hw.2 i (by omega))), fun t H3 e3 h3 => q _ _ e3 ⟨t, rfl, fun z => ?_, h3⟩⟩⟩
        rw [z, e3 _ _ hz] at h3
        cases h3
      · rw [mlr, hal] at hyl
        have hys2 : ∀ i, i < xs.length → ∃ t, ys[i]? = some (.ref t) ∧ IT H2 t (xs.getD i []) := fun i hi => by
          have hi2 : i < ys.length := by omega
          obtain ⟨t, e1, _, e2⟩ := hys i _ (List.getElem?_eq_getElem hi2)
          exact ⟨t, by rw [List.getElem?_eq_getElem hi2, e1], e2⟩
        let f : Nat → Addr := fun i => match ys[i]? with | some (.ref t) => t | _ => 0
        let ps : List (Addr × List Int) := (List.range xs.length).map fun i => (f i, xs.getD i [])
        have hpsr : ps.map (fun p => V.ref p.1) = ys := by
          refine List.ext_getElem? fun i => ?_
          by_cases hi : i < xs.length
          · obtain ⟨t, e1, _⟩ := hys2 i hi
            rw [List.getElem?_map, List.getElem?_map, List.getElem?_range hi, e1]
            show some (V.ref (f i)) = _
            show some (V.ref (match ys[i]? with | some (.ref t) => t | _ => 0)) = _
            rw [e1]
          · rw [List.getElem?_eq_none (by simp [ps]; omega), List.getElem?_eq_none (by omega)]
        have hpp : ∀ p ∈ ps, IT H2 p.1 p.2 ∧ p.2 ∈ xs := fun p hp => by
          obtain ⟨i, hi, rfl⟩ := List.mem_map.mp hp
          have hi := List.mem_range.mp hi
          obtain ⟨t, e1, e2⟩ := hys2 i hi
          refine ⟨?_, mem_getDD hi⟩
          show IT H2 (match ys[i]? with | some (.ref t) => t | _ => 0) _
          rw [e1]
          exact e2
        have hpl : ps.length = xs.length := by simp [ps]
        refine ⟨D, ps, rfl, by rw [hpsr]; exact sq_l h2, fun p hp => ?_, fun js p hj hp => ?_⟩
        · obtain ⟨h3, h4⟩ := hpp p hp
          refine ⟨sq_t h3, fun z => hne ?_⟩
          have := (hps _ h4).len
          rw [z] at this
          exact List.eq_nil_of_length_eq_zero this.symm
        · have hjl : js.length = xs.length := by rw [hj.length_eq, hpl]
          refine q p (js.map fun x => x.1) (js.map fun x => x.2.map Int.toNat) _ (ext e (ext e2 (exn hp))) ?_ (by rw [List.length_map, List.length_map]) (fun z => ?_) (by rw [List.length_map]; omega) (fun i hi => ?_) (fun m hm => ?_)
          · rw [upd_same, List.map_map]
            rfl
          · have z1 := List.map_eq_nil_iff.mp z
            rw [z1] at hjl
            have := List.length_pos_of_mem hmem
            rw [← hjl] at this
            exact Nat.lt_irrefl _ this
          · rw [List.length_map] at hi
            obtain ⟨h3, h4⟩ := hpp _ (hj.mem_iff.mp (List.getElem_mem hi))
            rw [List.getD_eq_getElem?_getD, List.getD_eq_getElem?_getD, List.getElem?_map, List.getElem?_map, List.getElem?_eq_getElem hi]
            show IT _ (js[i]).1 (iN ((js[i]).2.map Int.toNat))
            rw [(ps_mt (hps _ h4)).2]
            exact h3.mono (exn hp)
          · obtain ⟨x, hx, rfl⟩ := List.mem_map.mp hm
            exact (ps_mt (hps _ (hpp _ (hj.mem_iff.mp hx)).2)).1
end
end Hw
/-! W27 -/
/-! W27: what cutting, banding, joining ask, plainly. -/
namespace Hw
open PySem PySem.Spec PyProof.Rows L2 HR RZ
/-- letters that rims may be made of, with few sewings -/
structure LOk (ls : List Int) : Prop where
  sz : ls.length ≤ 24
  let_ : ∀ l ∈ ls, isLet l
  bal : Bal ls
  c4 : ∀ k, ls.count k ≤ 4
  many : manyF ls ≤ 720
theorem balF_perm {k : Int} {l m : List Int} (p : l.Perm m) : balF k l = balF k m := by
  unfold balF
  induction p with
  | nil => rfl
  | cons x _ ih => rw [List.map_cons, List.map_cons, List.sum_cons, List.sum_cons, ih]
  | swap x y l => rw [List.map_cons, List.map_cons, List.sum_cons, List.sum_cons, List.map_cons, List.map_cons, List.sum_cons, List.sum_cons]; omega
  | trans _ _ ih1 ih2 => rw [ih1, ih2]
theorem LOk.perm {l m : List Int} (h : LOk m) (p : l.Perm m) : LOk l where
  sz := by rw [p.length_eq]; exact h.sz
  let_ := fun x hx => h.let_ x (p.mem_iff.mp hx)
  bal := fun k => by rw [balF_perm p]; exact h.bal k
  c4 := fun k => by rw [p.count_eq]; exact h.c4 k
  many := by rw [manyF_perm p]; exact h.many
theorem LOk.nz {l : List Int} (h : LOk l) : NZ l := fun x hx => (h.let_ x hx).2.2
theorem LOk.rok {ws : List (List Int)} (h : LOk ws.flatten) (f : 1 ≤ ws.length ∧ ws.length ≤ 4) (ne : ∀ w ∈ ws, w ≠ []) : ROk ws where
  few := f
  ok := fun w hw => ⟨⟨fun l hl => h.let_ l (List.mem_flatten.mpr ⟨w, hw, hl⟩), by
    have : w.length ≤ ws.flatten.length := (List.sublist_flatten_of_mem hw).length_le
    have := h.sz
    omega⟩, ne w hw⟩
  sz := h.sz
  bal := h.bal
theorem LOk.few {ws : List (List Int)} (h : LOk ws.flatten) : Few ws := ⟨h.c4, h.many⟩
theorem LOk.rok1 {w : List Int} (h : LOk w) (n : w ≠ []) : ROk [w] := LOk.rok (by rw [flat1]; exact h) ⟨Nat.le_refl 1, by show 1 ≤ 4; decide⟩ fun x hx => by rw [List.mem_singleton.mp hx]; exact n
theorem LOk.rok2 {u v : List Int} (h : LOk (u ++ v)) (n1 : u ≠ []) (n2 : v ≠ []) : ROk [u, v] := LOk.rok (by rw [flat2]; exact h) ⟨by show 1 ≤ 2; decide, by show 2 ≤ 4; decide⟩ fun x hx => by
  rcases List.mem_cons.mp hx with e | e
  · rw [e]; exact n1
  · rw [List.mem_singleton.mp e]; exact n2
theorem rotN_idx {p n y : Nat} (hp : p ≤ n) (hy : y < n) : y ∈ rotN p n := (prm_rot hp).mem hy
theorem rnd_rot {p n : Nat} (hp : p < n) : Rnd (nxF 0 [n]) (rotN p n) where
  pos := by rw [length_rotN]; omega
  lt := fun i hi => by
    rw [length_rotN] at hi
    rw [length_nxF, rotN_getD hi]
    have := Nat.mod_lt (p + i) (show 0 < n by omega)
    simpa using this
  nx := fun i hi => by
    rw [length_rotN] at hi
    have := Nat.mod_lt (p + i) (show 0 < n by omega)
    rw [rotN_getD (by omega), rotN_getD hi, rotN_getD (by omega), nx_one this, Nat.mod_add_mod]
    refine ⟨by rw [Nat.add_assoc], fun e => ?_⟩
    have := rot_inj (Nat.le_of_lt hp) hi (show 0 < n by omega) e
    omega
  last := by
    rw [length_rotN, rotN_getD (by omega), rotN_getD (by omega)]
    have := Nat.mod_lt (p + (n - 1)) (show 0 < n by omega)
    rw [nx_one this, Nat.mod_add_mod, show p + (n - 1) + 1 = p + n by omega, Nat.add_mod_right, Nat.add_zero]
theorem ordM_N (m R : List Nat) : ordM m R = ordN m R := rfl
theorem bandW_L (u v : List Int) (k : Int) : bandW u v k = bandL u v k := rfl
theorem bandM_N (s n : Nat) (m : List Nat) : bandM s n m = bandN s n m := rfl
theorem nu_one {n x : Nat} (hx : x < n) : (nuF 0 [n]).getD x 0 = 0 := by rw [nuF_cons, if_pos hx]
theorem nu_two {a b x : Nat} (hx : x < a + b) : (nuF 0 [a, b]).getD x 0 = if x < a then 0 else 1 := by
  rw [nuF_cons]
  by_cases h : x < a
  · rw [if_pos h, if_pos h]
  · rw [if_neg h, if_neg h, nuF_cons, if_pos (by omega)]
/-- cut one rim -/
theorem cut_facts {ring : List Int} {m : List Nat} {p k : Nat} (h : Mt ring m) (lo : LOk ring) (hp : p < ring.length) (k0 : 0 < k) (hk : k < ring.length) :
    rowW ([ring] : List (List Int)).flatten [(rotN p ring.length).take k, (rotN p ring.length).drop k] = [(rotW p ring).take k, (rotW p ring).drop k] ∧
    RowsOk [ring] m [(rotN p ring.length).take k, (rotN p ring.length).drop k] ∧ ([(rotN p ring.length).take k, (rotN p ring.length).drop k] : List (List Nat)).flatten = rotN p ring.length ∧ LOk (rotW p ring) ∧ (rotW p ring).take k ≠ [] ∧ (rotW p ring).drop k ≠ [] := by
  have hf : ([(rotN p ring.length).take k, (rotN p ring.length).drop k] : List (List Nat)).flatten = rotN p ring.length := by simp
  have hrl : (rotW p ring).length = ring.length := length_rotW
  have e1 : rowW ([ring] : List (List Int)).flatten [(rotN p ring.length).take k, (rotN p ring.length).drop k] = [(rotW p ring).take k, (rotW p ring).drop k] := by
    unfold rowW
    rw [flat1, rotW_map (Nat.le_of_lt hp)]
    simp
  have n1 : (rotW p ring).take k ≠ [] := fun z => by
    have := congrArg List.length z
    rw [List.length_take, hrl, List.length_nil] at this
    omega
  have n2 : (rotW p ring).drop k ≠ [] := fun z => by
    have := congrArg List.length z
    rw [List.length_drop, hrl, List.length_nil] at this
    omega
  have lr : LOk (rotW p ring) := lo.perm (by
    unfold rotW
    exact List.perm_append_comm.trans (by rw [List.take_append_drop]))
  have P := prm_rot (p := p) (n := ring.length) (Nat.le_of_lt hp)
  refine ⟨e1, ⟨?_, ?_, ?_, ?_, ?_⟩, hf, lr, n1, n2⟩
  · rw [hf, flat1]
    exact P.lt
  · rw [hf]
    intro x hx
    exact P.mem (h.lt x (P.lt x hx))
  · rw [hf, length_rotN]
    have := lo.sz
    omega
  · rw [e1]
    exact LOk.rok2 (by rw [List.take_append_drop]; exact lr) n1 n2
  · rw [hf, e1, flat2, List.take_append_drop, rotW_map (Nat.le_of_lt hp)]
    exact h.ord P
/-- join two rims, from their first places -/
theorem join_facts {u v : List Int} {m : List Nat} (h : Mt (u ++ v) m) (lo : LOk (u ++ v)) (hu : u ≠ []) (hv : v ≠ []) :
    Rnd (nxF 0 [u.length, v.length]) (List.range u.length) ∧ Rnd (nxF 0 [u.length, v.length]) ((List.range v.length).map fun i => u.length + i) ∧
    rowW ([u, v] : List (List Int)).flatten [List.range u.length ++ (List.range v.length).map fun i => u.length + i] = [u ++ v] ∧ RowsOk [u, v] m [List.range u.length ++ (List.range v.length).map fun i => u.length + i] ∧
    ordM m ([List.range u.length ++ (List.range v.length).map fun i => u.length + i] : List (List Nat)).flatten = m := by
  have pu : 0 < u.length := List.length_pos_iff.mpr hu
  have pv : 0 < v.length := List.length_pos_iff.mpr hv
  have hl : (u ++ v).length = u.length + v.length := List.length_append
  have rg : ∀ {a i : Nat}, i < a → (List.range a).getD i 0 = i := fun hi => by rw [List.getD_eq_getElem?_getD, List.getElem?_range hi]; rfl
  have rm : ∀ {a i : Nat}, i < a → ((List.range a).map fun i => u.length + i).getD i 0 = u.length + i := fun hi => getD_mapRange hi
  have er : List.range u.length ++ (List.range v.length).map (fun i => u.length + i) = List.range (u.length + v.length) := (List.range_add).symm
  have hf : ([List.range (u.length + v.length)] : List (List Nat)).flatten = List.range (u.length + v.length) := by simp
  have hmap : ((List.range (u.length + v.length)).map fun p => (u ++ v).getD p 0) = u ++ v := by
    rw [← hl]
    exact range_getD 0 (u ++ v)
  have e1 : rowW ([u, v] : List (List Int)).flatten [List.range (u.length + v.length)] = [u ++ v] := by
    unfold rowW
    rw [flat2]
    show [(List.range (u.length + v.length)).map fun p => (u ++ v).getD p 0] = [u ++ v]
    rw [hmap]
  have hlen := h.len
  rw [hl] at hlen
  have eo : ordM m (List.range (u.length + v.length)) = m := by
    unfold ordM
    refine ext_getD (by rw [List.length_map, List.length_range, hlen]) fun i hi => ?_
    rw [List.length_map, List.length_range] at hi
    rw [getD_mapRange hi]
    have hm := h.lt i (by omega)
    have := idx_getD (R := List.range (u.length + v.length)) List.nodup_range (i := m.getD i 0) (by rw [List.length_range]; omega)
    rw [rg (by omega)] at this
    exact this
  rw [er]
  refine ⟨⟨by rw [List.length_range]; exact pu, fun i hi => ?_, fun i hi => ?_, ?_⟩, ⟨by rw [List.length_map, List.length_range]; exact pv, fun i hi => ?_, fun i hi => ?_, ?_⟩, e1, ⟨?_, ?_, ?_, ?_, ?_⟩, by rw [hf]; exact eo⟩
  · rw [List.length_range] at hi
    rw [rg hi, length_nxF]
    simp
    omega
  · rw [List.length_range] at hi
    rw [rg (by omega), rg hi, rg pu, nx_two (by omega), if_pos (by omega), Nat.mod_eq_of_lt hi]
    omega
  · rw [List.length_range, rg (by omega), rg pu, nx_two (by omega), if_pos (by omega), show u.length - 1 + 1 = u.length by omega, Nat.mod_self]
  · rw [List.length_map, List.length_range] at hi
    rw [rm hi, length_nxF]
    simp
    omega
  · rw [List.length_map, List.length_range] at hi
    rw [rm (by omega), rm hi, rm pv, nx_two (by omega), if_neg (by omega), show u.length + i - u.length + 1 = i + 1 by omega, Nat.mod_eq_of_lt hi]
    omega
  · rw [List.length_map, List.length_range, rm (by omega), rm pv, nx_two (by omega), if_neg (by omega), show u.length + (v.length - 1) - u.length + 1 = v.length by omega, Nat.mod_self]
  · rw [hf, flat2, hl]
    exact fun p hp => List.mem_range.mp hp
  · rw [hf]
    intro p hp
    have hp := List.mem_range.mp hp
    have := h.lt p (by omega)
    exact List.mem_range.mpr (by omega)
  · rw [hf, List.length_range]
    have := lo.sz
    omega
  · rw [e1]
    exact lo.rok1 (by simp [hu])
  · rw [hf, e1, flat1, eo]
    exact h
/-- take the band out again -/
theorem unband_facts {u v : List Int} {m : List Nat} {k : Int} (h : Mt (u ++ v) m) (lo : LOk (u ++ v)) (hu : u ≠ []) (hv : v ≠ []) :
    Rnd (nxF 0 [(bandL u v k).length]) ((u.length + v.length + 1) :: List.range (u.length + v.length + 1)) ∧ (bandN u.length (u.length + v.length) m).getD (u.length + v.length + 1) 0 = u.length ∧
    (List.range (u.length + v.length + 1)).idxOf u.length = u.length ∧
    rowW ([bandL u v k] : List (List Int)).flatten [(List.range (u.length + v.length + 1)).take u.length, (List.range (u.length + v.length + 1)).drop (u.length + 1)] = [u, v] ∧
    RowsOk [bandL u v k] (bandN u.length (u.length + v.length) m) [(List.range (u.length + v.length + 1)).take u.length, (List.range (u.length + v.length + 1)).drop (u.length + 1)] ∧
    ordM (bandN u.length (u.length + v.length) m) ([(List.range (u.length + v.length + 1)).take u.length, (List.range (u.length + v.length + 1)).drop (u.length + 1)] : List (List Nat)).flatten = m ∧
    (List.range (u.length + v.length + 1)).take u.length ≠ [] ∧ (List.range (u.length + v.length + 1)).drop (u.length + 1) ≠ [] := by
  have pu : 0 < u.length := List.length_pos_iff.mpr hu
  have pv : 0 < v.length := List.length_pos_iff.mpr hv
  have hl : (u ++ v).length = u.length + v.length := List.length_append
  have hlen := h.len
  have hlt := h.lt
  rw [hl] at hlen hlt
  have rg : ∀ {a i : Nat}, i < a → (List.range a).getD i 0 = i := fun hi => by rw [List.getD_eq_getElem?_getD, List.getElem?_range hi]; rfl
  have g : ∀ x, x < u.length + v.length + 2 → _ := fun x hx => bandN_getD hlen (show u.length ≤ u.length + v.length by omega) (x := x) hx
  -- the places left
  have hO : ([(List.range (u.length + v.length + 1)).take u.length, (List.range (u.length + v.length + 1)).drop (u.length + 1)] : List (List Nat)).flatten = (List.range (u.length + v.length)).map fun i => if i < u.length then i else i + 1 := by
    have fl : ([(List.range (u.length + v.length + 1)).take u.length, (List.range (u.length + v.length + 1)).drop (u.length + 1)] : List (List Nat)).flatten = (List.range (u.length + v.length + 1)).take u.length ++ (List.range (u.length + v.length + 1)).drop (u.length + 1) := by simp
    rw [fl]
    refine ext_getD (by simp; omega) fun i hi => ?_
    have hi2 : i < u.length + v.length := by
      simp at hi
      omega
    rw [getD_mapRange hi2, getD_appN, List.length_take, List.length_range, Nat.min_eq_left (by omega)]
    by_cases c : i < u.length
    · rw [if_pos c, if_pos c, List.getD_eq_getElem?_getD, List.getElem?_take, if_pos c, List.getElem?_range (by omega)]
      rfl
    · rw [if_neg c, if_neg c, List.getD_eq_getElem?_getD, List.getElem?_drop, List.getElem?_range (by omega)]
      show u.length + 1 + (i - u.length) = i + 1
      omega
  have hOl : ((List.range (u.length + v.length)).map fun i => if i < u.length then i else i + 1).length = u.length + v.length := by rw [List.length_map, List.length_range]
  have hOg : ∀ i, i < u.length + v.length → ((List.range (u.length + v.length)).map fun i => if i < u.length then i else i + 1).getD i 0 = if i < u.length then i else i + 1 := fun i hi => getD_mapRange hi
  have hOn : ((List.range (u.length + v.length)).map fun i => if i < u.length then i else i + 1).Nodup := by
    refine nodup_map_of List.nodup_range fun x hx y hy e => ?_
    split at e <;> split at e <;> omega
  have gs : ∀ i, i < u.length + v.length → (bandN u.length (u.length + v.length) m).getD (if i < u.length then i else i + 1) 0 = if m.getD i 0 < u.length then m.getD i 0 else m.getD i 0 + 1 := fun x hx => by
    by_cases c : x < u.length
    · rw [if_pos c, g _ (by omega), if_pos c]
    · rw [if_neg c, g _ (by omega), if_neg (by omega), if_neg (by omega), if_neg (by omega), Nat.add_sub_cancel]
  have eo : ordM (bandN u.length (u.length + v.length) m) ((List.range (u.length + v.length)).map fun i => if i < u.length then i else i + 1) = m := by
    unfold ordM
    refine ext_getD (by rw [List.length_map, hOl, hlen]) fun i hi => ?_
    rw [List.length_map, hOl] at hi
    rw [map_getDN (by rw [hOl]; exact hi), hOg i hi, gs i hi]
    have hm := hlt i hi
    have := idx_getD hOn (i := m.getD i 0) (by rw [hOl]; exact hm)
    rw [hOg _ hm] at this
    exact this
  have fl1 : ([bandL u v k] : List (List Int)).flatten = bandL u v k := flat1 _
  have e1 : rowW ([bandL u v k] : List (List Int)).flatten [(List.range (u.length + v.length + 1)).take u.length, (List.range (u.length + v.length + 1)).drop (u.length + 1)] = [u, v] := by
    unfold rowW
    rw [fl1]
    show [_, _] = [u, v]
    congr 1
    · refine ext_I (by simp; omega) fun i hi => ?_
      have hi : i < u.length := by simp at hi; omega
      rw [map_getDI (by simp; omega), List.getD_eq_getElem?_getD (l := List.take _ _), List.getElem?_take, if_pos hi, List.getElem?_range (by omega)]
      show (bandL u v k).getD i 0 = _
      rw [bandL_getD (by omega), if_pos hi]
    · congr 1
      refine ext_I (by simp) fun i hi => ?_
      have hi : i < v.length := by simp at hi; omega
      rw [map_getDI (by simp; omega), List.getD_eq_getElem?_getD (l := List.drop _ _), List.getElem?_drop, List.getElem?_range (by omega)]
      show (bandL u v k).getD (u.length + 1 + i) 0 = _
      rw [bandL_getD (by omega), if_neg (by omega), if_neg (by omega), if_neg (by omega)]
      congr 1
      omega
  have hbl := length_bandL u v k
  refine ⟨⟨by simp, fun i hi => ?_, fun i hi => ?_, ?_⟩, ?_, ?_, e1, ⟨?_, ?_, ?_, ?_, ?_⟩, by rw [hO]; exact eo, fun z => ?_, fun z => ?_⟩
  · rw [length_nxF, hbl]
    rw [List.length_cons, List.length_range] at hi
    cases i with
    | zero =>
      show u.length + v.length + 1 < _
      simp
    | succ i =>
      show (List.range _).getD i 0 < _
      rw [rg (by omega)]
      simp
      omega
  · rw [List.length_cons, List.length_range] at hi
    rw [hbl]
    cases i with
    | zero =>
      show (nxF 0 [u.length + v.length + 2]).getD (u.length + v.length + 1) 0 = (List.range _).getD 0 0 ∧ (List.range _).getD 0 0 ≠ u.length + v.length + 1
      rw [rg (by omega), nx_one (by omega), Nat.mod_self]
      omega
    | succ i =>
      show (nxF 0 [u.length + v.length + 2]).getD ((List.range _).getD i 0) 0 = (List.range _).getD (i + 1) 0 ∧ (List.range _).getD (i + 1) 0 ≠ u.length + v.length + 1
      rw [rg (by omega), rg (by omega), nx_one (by omega), Nat.mod_eq_of_lt (by omega)]
      omega
  · rw [List.length_cons, List.length_range, hbl]
    show (nxF 0 [u.length + v.length + 2]).getD ((List.range _).getD (u.length + v.length) 0) 0 = u.length + v.length + 1
    rw [rg (by omega), nx_one (by omega), Nat.mod_eq_of_lt (by omega)]
  · rw [g _ (by omega), if_neg (by omega), if_neg (by omega), if_pos rfl]
  · have := idx_getD (R := List.range (u.length + v.length + 1)) List.nodup_range (i := u.length) (by rw [List.length_range]; omega)
    rw [rg (by omega)] at this
    exact this
  · rw [hO, fl1, hbl]
    intro p hp
    obtain ⟨i, hi, rfl⟩ := List.mem_map.mp hp
    have := List.mem_range.mp hi
    show (if i < u.length then i else i + 1) < _
    split <;> omega
  · rw [hO]
    intro p hp
    obtain ⟨i, hi, rfl⟩ := List.mem_map.mp hp
    have hi := List.mem_range.mp hi
    show (bandN u.length (u.length + v.length) m).getD (if i < u.length then i else i + 1) 0 ∈ _
    rw [gs i hi]
    exact List.mem_map.mpr ⟨m.getD i 0, List.mem_range.mpr (hlt i hi), rfl⟩
  · rw [hO, hOl]
    have := lo.sz
    omega
  · rw [e1]
    exact lo.rok2 hu hv
  · rw [e1, flat2, hO, eo]
    exact h
  · have := congrArg List.length z
    rw [List.length_take, List.length_range, List.length_nil] at this
    omega
  · have := congrArg List.length z
    rw [List.length_drop, List.length_range, List.length_nil] at this
    omega
end Hw
/-! W28 -/
/-! W28: cut, banded and joined again. -/
namespace Hw
open PySem PySem.Spec PyProof.Rows L2 HR RZ
open LamX (ExtN Tabs TabS TabB)
theorem band_perm (u v : List Int) (k : Int) : (bandL u v k).Perm ((u ++ v) ++ [k, -k]) := by
  unfold bandL
  rw [List.append_assoc]
  refine List.Perm.append_left u ?_
  have h1 : (k :: (v ++ [-k])).Perm (k :: (-k :: v)) := (List.perm_append_singleton (-k) v).cons k
  have h2 : (v ++ [k, -k]).Perm ([k, -k] ++ v) := List.perm_append_comm
  exact h1.trans h2.symm
theorem rotW_perm {p : Nat} {w : List Int} : (rotW p w).Perm w := by
  unfold rotW
  exact List.perm_append_comm.trans (by rw [List.take_append_drop])
theorem nz_ne {u v : List Int} {k : Int} (h : LOk (bandL u v k)) : k ≠ 0 := by
  have := h.let_ k (by unfold bandL; simp)
  exact this.2.2
/-- a ring that the law may cut -/
structure RingOk (r : List Int) : Prop where
  n8 : r.length ≤ 8
  lo : LOk r
  lb : LOk (r ++ [13, -13])
  fr : ∀ l ∈ r, absI l ≠ 13
theorem notin2 {c d : Int} (h : c = d - 1 ∨ c = d + 1) : inV (V.int c) [V.int (d - 1), V.int (d + 1)] = true := by
  unfold inV
  rcases h with h | h
  · rw [List.any_cons, List.any_cons, List.any_nil, h]
    simp [eqV]
  · rw [List.any_cons, List.any_cons, List.any_nil, h]
    simp [eqV]
section
variable {P : Program} {w : World} {K : PySem.W.Frag} {mg : Str → Option Value} {base : Heap}
def sp_law_cuts (K : PySem.W.Frag) : Sp := fun vs H Q _ => ∃ (a t : Addr) (ring : List Int) (m : List Nat) (p q : Nat), vs = [.ref a, .ref t, .int (p : Int), .int (q : Int)] ∧ IL H a ring ∧ IT H t (iN m) ∧ Mt ring m ∧ RingOk ring ∧ p < ring.length ∧ q < ring.length ∧ p ≠ q ∧ ∀ H', Ex H H' → Q (.bl true) H'
abbrev N_law_cuts_right : List Str := ["_law_ring_here", "_law_mates", "_law_place", "_law_other", "_law_sewing", "_law_many", "_law_parts", "_law_band", "_law_spot", "_law_joined", "_law_order", "_law_due", "_law_at"]
theorem sc_law_cuts_right : FnScope N_law_cuts_right ["_law_ring_here", "_law_mates", "_law_place", "_law_other"] (C8.fnScope s_law_cuts_right) := C8.fnScope_by (by decide +kernel)
theorem k_law_cuts_right (T : Txt K mg) : C8.Cal P w K mg base 9 "_law_cuts_right" (sp_law_cuts K) [] := by
  have nd := sc_law_cuts_right.nd
  refine defn T.d_law_cuts_right sc_law_cuts_right (fun vs H Q E h => ?_) (fun _ _ _ _ _ _ us hl => match us, hl with | [_, _, _, _], _ => rfl) (fun f cdv A outer s H vs Q E hr h => ?_)
  · obtain ⟨a, t, ring, m, p, q, rfl, _⟩ := h
    rfl
  · obtain ⟨a, t, ring, m, p, q, rfl, ha, ht, hm, rok, hp, hq, hpq, fin⟩ := h
    have hn8 := rok.n8
    have hrne : ring ≠ [] := fun z => by rw [z] at hp; exact absurd hp (Nat.not_lt_zero _)
    refine ⟨_, (pss_cons (ps_asg (pe_tup (pa_cons (C8.pe_mk (k_Sewing T) hr (by decide) (by rfl) (pa_cons (C8.pe_c (k_law_rims T) hr (by decide) (by rfl) (pa_cons (pe_lst (pa_cons (pv 0) pa_nil)) pa_nil)) (pa_cons (pv 1) pa_nil))) (pa_cons (pe_callB call_len_seq (by rfl) T.z_len PySem.boot_len (pa_cons (pv 0) pa_nil)) pa_nil))) (pg_tup rfl (pgs_cons (pg_name (i := 4) nd rfl (.inl rfl)) (pgs_cons (pg_name (i := 5) nd rfl (.inr rfl)) pgs_nil))))
        (pss_cons (ps_set (i := 6) nd rfl (.inl rfl) (C8.pe_c (k_cut T) hr (by decide) (by rfl) (pa_cons (pv 4) (pa_cons (pv 2) (pa_cons (pv 3) pa_nil)))))
        (pss_cons (ps_set (i := 7) nd rfl (.inl rfl) (C8.pe_c (k_banded_sewing T) hr (by decide) (by rfl) (pa_cons (pv 6) (pa_cons pe_int pa_nil))))
        (pss_cons (ps_if (PW.pt (pw_or (pt_cmpR op_notIn_seq (pe_fld (pv 6) rfl) (pe_tup (pa_cons (pe_op op_sub (pe_fld (pv 4) rfl) pe_int) (pa_cons (pe_op op_add (pe_fld (pv 4) rfl) pe_int) pa_nil))) (by rfl)) (pw_or1 (pt_cmpR op_ne (pe_fld (pv 7) rfl) (pe_op op_add (pe_fld (pv 6) rfl) pe_int) (nomark _)))))
        (pss_one (ps_ret pe_bl))
        pss_nil)
        (pss_cons (ps_set (i := 8) nd rfl (.inl rfl) (pe_callB (cr_lenI (m_wlen T) hr (by decide)) (by rfl) T.z_len PySem.boot_len (pa_cons (pe_ix ix_tup (pe_fld (pe_fld (pv 6) rfl) rfl) pe_int (fun _ _ => rfl)) pa_nil)))
        (pss_cons (ps_set (i := 9) nd rfl (.inl rfl) (C8.pe_c (k_cut T) hr (by decide) (by rfl) (pa_cons (C8.pe_c (k_unbanded T) hr (by decide) (by rfl) (pa_cons (pv 7) (pa_cons (pe_op op_add (pv 5) pe_int) pa_nil))) (pa_cons pe_int (pa_cons (pv 8) pa_nil)))))
        (pss_cons (ps_set (i := 10) nd rfl (.inr rfl) (pe_lc (own := [("_law_at", 12)]) (by rfl) nd (pi_range1 (by rfl) T.z_range (pa_cons (pv 5) pa_nil)) (blkOk_by (own := [("_law_at", 12)]) (N := N_law_cuts_right) (sc := C8.fnScope s_law_cuts_right) (by decide +kernel)) (fun _ _ _ _ _ => (pg_name (i := 12) nd rfl (.inl rfl))) (fun _ _ _ _ _ => pts_nil) (fun _ _ _ _ _ => (pe_op op_mod (pe_callTy call_int1 (by rfl) T.z_int (by decide +kernel) (pa_cons (pe_op op_add (pv 2) (pv 12)) pa_nil)) (pv 5)))))
        (pss_cons (ps_set (i := 11) nd rfl (.inl rfl) (C8.pe_mk (k_Sewing T) hr (by decide) (by rfl) (pa_cons (C8.pe_c (k_law_rims T) hr (by decide) (by rfl) (pa_cons (pe_lst (pa_cons (pe_lc (own := [("_law_at", 12)]) (by rfl) nd (pi_list (pv 10)) (blkOk_by (own := [("_law_at", 12)]) (N := N_law_cuts_right) (sc := C8.fnScope s_law_cuts_right) (by decide +kernel)) (fun _ _ _ _ _ => (pg_name (i := 12) nd rfl (.inl rfl))) (fun _ _ _ _ _ => pts_nil) (fun _ _ _ _ _ => (pe_ix (ix_listK (K := K)) (pv 0) (pv 12) (fun _ _ => rfl)))) pa_nil)) pa_nil)) (pa_cons (pe_lc (own := [("_law_at", 12)]) (by rfl) nd (pi_list (pv 10)) (blkOk_by (own := [("_law_at", 12)]) (N := N_law_cuts_right) (sc := C8.fnScope s_law_cuts_right) (by decide +kernel)) (fun _ _ _ _ _ => (pg_name (i := 12) nd rfl (.inl rfl))) (fun _ _ _ _ _ => pts_nil) (fun _ _ _ _ _ => (pe_bmK (K := K) PySem.F.plainAttrs_list PySem.F.slot_list_index PySem.F.type_list_index (mt_indexK (K := K)) (pv 10) (pa_cons (pe_ix (ix_tupK (K := K)) (pv 1) (pv 12) (fun _ _ => rfl)) pa_nil)))) pa_nil))))
        (pss_one (ps_ret (pe_and (pe_cmpR (op_eqG (rcG_of (m_seq T)) (hr.mono (show 5 ≤ 8 by decide))) (pv 9) (pv 11) (nomark _)) (pe_and (pe_cmpR op_eq (pe_fld (pv 9) rfl) (pe_fld (pv 4) rfl) (nomark _)) (pe_one (pe_cmpR (op_eqG (rcG_of (m_seq T)) (hr.mono (show 5 ≤ 8 by decide))) (C8.pe_c (k_unbanded T) hr (by decide) (by rfl) (pa_cons (pv 7) (pa_cons (pe_op op_add (pv 5) pe_int) pa_nil))) (pv 6) (nomark _))))))))))))))), ?_⟩
    -- the sewing
    refine ⟨_, rfl, Nat.le_of_ble_eq_true rfl, fun A1 hA1 => ?_⟩
    have x1 := exn (o := .lst [V.ref a]) hA1
    refine ⟨A1, [a], [ring], rfl, upd_same, wl1 (ha.mono x1), rok.lo.rok1 hrne, fun r H1 e1 hr1 => ?_⟩
    have e1 := ext x1 e1
    refine ⟨_, rfl, ?_⟩
    intro s1 dx1 nx1 nd1 ne1
    refine ⟨s1, dx1, r, t, [ring], m, rfl, upd_same, hr1.mono (exb nx1 nd1), .inr ((ht.mono e1).mono (exb nx1 nd1)), rok.lo.rok1 hrne, by rw [flat1]; exact hm, fun H2 kp1 hs1 => ⟨rfl, ?_⟩⟩
    have e2 := ext e1 (ex_made nx1 nd1 kp1)
    refine ⟨_, rfl, a, _, rfl, .inl (sq_l (e2 _ _ ha)), Nat.le_of_ble_eq_true rfl, fun T1 hT1 => ?_⟩
    rw [ml]
    refine ⟨T1, _, rfl, sq_t upd_same, rfl, _, _, rfl, _, _, rfl, rfl, ?_⟩
    have x3 := exn (o := .tup [V.ref s1, V.int (ring.length : Int)]) hT1
    have hs1' := hs1.mono x3
    have e3 := ext e2 x3
    generalize upd H2 T1 (.tup [V.ref s1, V.int (ring.length : Int)]) = H3 at x3 hs1' e3
    -- cut
    have hqm : q ∈ rotN p ring.length := rotN_idx (Nat.le_of_lt hp) hq
    have hql := List.idxOf_lt_length_of_mem hqm
    rw [length_rotN] at hql
    have hq0 : 0 < (rotN p ring.length).idxOf q := by
      rcases Nat.eq_zero_or_pos ((rotN p ring.length).idxOf q) with z | z
      · have := getD_idx hqm
        rw [z, rotN_getD (by omega), Nat.add_zero, Nat.mod_eq_of_lt hp] at this
        exact absurd this hpq
      · exact z
    obtain ⟨f1, f2, f3, f4, f5, f6⟩ := cut_facts hm rok.lo hp hq0 hql
    have hfl : ([ring] : List (List Int)).flatten.length = ring.length := by rw [flat1]
    have hnu : ∀ x, x < ring.length → (nuF 0 (lens [ring])).getD x 0 = 0 := fun x hx => nu_one hx
    refine ⟨_, rfl, _, rfl, _, rfl, s1, [ring], m, rotN p ring.length, [], p, q, _, rfl, hs1', by omega, by omega, hpq, by show 1 < 4; decide, rnd_rot hp, by rw [rotN_getD (by omega), Nat.add_zero, Nat.mod_eq_of_lt hp], by rw [length_rotN]; omega, .inl ⟨hqm, rfl⟩, by rw [hnu p hp]; simp, fun i hi => by
      have : i = 0 := by
        have : i < 1 := hi
        omega
      rw [this, hnu p hp]
      simp, f2, fun s2 H4 e4 hs2 => ?_⟩
    rw [f1, f3, ordM_N] at hs2
    have hcr := cost_rot (Nat.le_of_lt hp) hm
    have huv : (rotW p ring).take ((rotN p ring.length).idxOf q) ++ (rotW p ring).drop ((rotN p ring.length).idxOf q) = rotW p ring := List.take_append_drop _ _
    have hrw := rotW_map (Nat.le_of_lt hp)
    have hrp := rotW_perm (p := p) (w := ring)
    have hrl : (rotW p ring).length = ring.length := length_rotW
    generalize (rotW p ring).take ((rotN p ring.length).idxOf q) = u at huv f5 hs2
    generalize (rotW p ring).drop ((rotN p ring.length).idxOf q) = v at huv f6 hs2
    clear f1 f2 f3
    rw [← huv] at hcr f4 hrw hrp hrl
    obtain ⟨hm1, hc1⟩ := hcr
    have hm1d : ordN m (rotN p ring.length) = ordN m (rotN p ring.length) := rfl
    generalize hm1e : ordN m (rotN p ring.length) = m1 at hs2 hm1 hc1
    clear hm1d
    rw [List.length_append] at hrl
    have e4 := ext e3 e4
    have lbd : LOk (bandL u v 13) := rok.lb.perm ((band_perm u v 13).trans (List.Perm.append_right _ hrp))
    have hbne : bandL u v 13 ≠ [] := by unfold bandL; simp
    have fu : ∀ l ∈ u, absI l ≠ 13 := fun l hl => rok.fr l (hrp.mem_iff.mp (List.mem_append_left _ hl))
    have fv : ∀ l ∈ v, absI l ≠ 13 := fun l hl => rok.fr l (hrp.mem_iff.mp (List.mem_append_right _ hl))
    have hbm := band_mt (k := 13) hm1
    have hbc := cost_band (k := 13) f5 f6 hm1
    have hcc := cost_cut f5 f6 hm1
    -- band
    refine ⟨_, rfl, s2, u, v, m1, 13, rfl, hs2, by decide, by decide, fu, fv, lbd.rok1 hbne, by rw [bandW_L, flat1]; exact hbm, fun s3 H5 e5 hs3 => ?_⟩
    rw [bandW_L, bandM_N] at hs3
    have e5' := ext e4 e5
    have hs25 := hs2.mono e5
    have hs15 : SewAt K H5 s1 [ring] m := (hs1'.mono (by assumption)).mono e5
    have hcl : u.length + v.length = ring.length := hrl
    obtain ⟨d1, r1, tm1, tc1, tp1, z1, hd1, g1, g1', _⟩ := id hs15
    obtain ⟨d2, r2, tm2, tc2, tp2, z2, hd2, g2, g2', _⟩ := id hs25
    obtain ⟨d3, r3, tm3, tc3, tp3, z3, hd3, g3, g3', _⟩ := id hs3
    have cl := T.i_Sewing.cl
    refine ⟨_, rfl, s2, _, d2, _, _, rfl, g2, cl, T.n_Sewing_cost, rfl, _, rfl, s1, _, d1, _, _, rfl, g1, cl, T.n_Sewing_cost, rfl, _, _, rfl, rfl, _, rfl, s1, _, d1, _, _, rfl, g1, cl, T.n_Sewing_cost, rfl, _, _, rfl, rfl, Nat.le_of_ble_eq_true rfl, fun T2 hT2 => ⟨T2, _, rfl, .inr (sq_t upd_same), rfl, rfl, _, rfl, ?_⟩⟩
    rw [notin2 (by omega)]
    refine iteF ?_
    have x6 := exn (o := .tup [V.int (costF [ring] m - 1), V.int (costF [ring] m + 1)]) hT2
    have e6 := ext e5' x6
    have hs36 := hs3.mono x6
    have hs26 := hs25.mono x6
    have hs16 := hs15.mono x6
    have g3_6 := x6 _ _ g3
    have g2_6 := x6 _ _ g2
    generalize upd H5 T2 (.tup [V.int (costF [ring] m - 1), V.int (costF [ring] m + 1)]) = H6 at x6 e6 hs36 hs26 hs16 g3_6 g2_6
    refine ⟨_, rfl, s3, _, d3, _, _, rfl, g3_6, cl, T.n_Sewing_cost, rfl, _, rfl, s2, _, d2, _, _, rfl, g2_6, cl, T.n_Sewing_cost, rfl, _, _, rfl, rfl, rfl, _, rfl, ?_⟩
    have hnc : decide (V.int (costF [bandL u v 13] (bandN u.length (u.length + v.length) m1)) = V.int (costF [u, v] m1 + 1)) = true := decide_eq_true (by rw [hbc])
    rw [hnc]
    refine iteF ?_
    -- spot
    obtain ⟨dr, tw, tl, tn, tu, ps, a1, a2, a3, a4, a5, a6⟩ := id (g2'.mono x6)
    have hpl : ps.length = 2 := a3.1
    match ps, hpl with
    | [p0, p1], _ =>
      have w0 : WordAt K H6 p0 u := a3.2 0 (by show 0 < 2; decide)
      obtain ⟨dw, tw0, tk0, ks0, b1, _⟩ := id w0
      refine ⟨_, rfl, s2, _, d2, _, _, rfl, g2_6, cl, T.n_Sewing_rims, rfl, r2, _, dr, _, _, rfl, a1, T.i_Rims.cl, T.n_Rims_words, rfl, tw, [.ref p0, .ref p1], 0, .ref p0, rfl, rfl, sq_t a2, rfl, p0, dw, _, rfl, b1, p0, u, rfl, w0, ⟨_, rfl, by omega, by omega⟩, ?_⟩
      -- the band taken out, joined
      obtain ⟨k1, k2, k3, k4, k5, k6, k7, k8⟩ := unband_facts (k := 13) hm1 f4 f5 f6
      obtain ⟨j1, j2, j3, j4, j5⟩ := join_facts hm1 f4 f5 f6
      have hp13 : u.length + v.length + 1 < ([bandL u v 13] : List (List Int)).flatten.length := by rw [flat1, length_bandL]; omega
      have ub1 : ([V.ref s3, V.int ((ring.length : Int) + 1)] : List V) = [V.ref s3, V.int ((u.length + v.length + 1 : Nat) : Int)] := by rw [show (ring.length : Int) + 1 = ((u.length + v.length + 1 : Nat) : Int) by omega]
      have ub2 : (bandN u.length (u.length + v.length) m1).getD (u.length + v.length + 1) 0 ∈ List.range (u.length + v.length + 1) := by rw [k2]; exact List.mem_range.mpr (by omega)
      have ub3 : [(List.range (u.length + v.length + 1)).take u.length, (List.range (u.length + v.length + 1)).drop (u.length + 1)] = [(List.range (u.length + v.length + 1)).take ((List.range (u.length + v.length + 1)).idxOf ((bandN u.length (u.length + v.length) m1).getD (u.length + v.length + 1) 0)), (List.range (u.length + v.length + 1)).drop ((List.range (u.length + v.length + 1)).idxOf ((bandN u.length (u.length + v.length) m1).getD (u.length + v.length + 1) 0) + 1)] := by rw [k2, k3]
      have ub4 : (List.range (u.length + v.length + 1)).take ((List.range (u.length + v.length + 1)).idxOf ((bandN u.length (u.length + v.length) m1).getD (u.length + v.length + 1) 0)) ≠ [] := by rw [k2, k3]; exact k7
      have ub5 : (List.range (u.length + v.length + 1)).drop ((List.range (u.length + v.length + 1)).idxOf ((bandN u.length (u.length + v.length) m1).getD (u.length + v.length + 1) 0) + 1) ≠ [] := by rw [k2, k3]; exact k8
      have ub6 : ∀ z, 0 ∈ [(nuF 0 (lens [bandL u v 13])).getD (u.length + v.length + 1) 0, z] := fun z => by
        show 0 ∈ [(nuF 0 [(bandL u v 13).length]).getD _ 0, _]
        rw [nu_one (by rw [length_bandL]; omega)]
        simp
      have ub7 : ∀ z i, i < ([bandL u v 13] : List (List Int)).length → i ∈ [(nuF 0 (lens [bandL u v 13])).getD (u.length + v.length + 1) 0, z] := fun z i hi => by
        have : i = 0 := by
          have : i < 1 := hi
          omega
        rw [this]
        exact ub6 z
      refine ⟨_, rfl, _, rfl, _, _, rfl, rfl, s3, [bandL u v 13], _, List.range (u.length + v.length + 1), u.length + v.length + 1, _, ub1, hs36, hp13, by show 1 < 4; decide, k1, by rw [List.length_range]; omega, ub2, ub3, ub4, ub5, ub6 _, ub7 _, k5, fun s4 H7 e7 hs4 => ?_⟩
      rw [k4, k6] at hs4
      have hpu : 0 < u.length := List.length_pos_iff.mpr f5
      have hpv : 0 < v.length := List.length_pos_iff.mpr f6
      refine ⟨_, rfl, s4, [u, v], m1, List.range u.length, (List.range v.length).map fun i => u.length + i, 0, u.length, _, rfl, hs4, by rw [flat2, List.length_append]; omega, by rw [flat2, List.length_append]; omega, by omega, by show 2 < 4; decide, j1, by rw [List.getD_eq_getElem?_getD, List.getElem?_range hpu]; rfl, by rw [List.length_range]; omega, .inr ⟨fun z => absurd (List.mem_range.mp z) (Nat.lt_irrefl _), rfl, j2, getD_mapRange hpv, by rw [List.length_map, List.length_range]; omega⟩, ?_, fun i hi => ?_, j4, fun s5 H8 e8 hs5 => ?_⟩
      · show 0 ∈ [(nuF 0 [u.length, v.length]).getD 0 0, _]
        rw [nu_two (by omega), if_pos hpu]
        simp
      · show i ∈ [(nuF 0 [u.length, v.length]).getD 0 0, (nuF 0 [u.length, v.length]).getD u.length 0]
        rw [nu_two (by omega), if_pos hpu, nu_two (by omega), if_neg (Nat.lt_irrefl _)]
        have hi : i < 2 := hi
        match i, hi with
        | 0, _ => simp
        | 1, _ => simp
      rw [j3, j5] at hs5
      have e68 := ext e7 e8
      have e8' := ext e6 e68
      have hs38 := hs36.mono e68
      have hs28 := hs26.mono e68
      have hs18 := hs16.mono e68
      -- order
      refine ⟨_, rfl, _, rfl, by omega, by omega, fun D1 hD1 => ?_⟩
      rw [Int.toNat_natCast]
      refine lc_val walk_range (by omega) (fun i => .int (((p + i) % ring.length : Nat) : Int)) hD1 (fun _ _ => trivial) (fun i x Hc H' hi e hy => ?_) gmN (fun H9 e9 h9 => ?_)
      · obtain ⟨rfl, rfl⟩ := hy
        refine ⟨rfl, fun Q q => ⟨_, rfl, _, rfl, _, _, rfl, rfl, .inl ⟨_, rfl, _, rfl, _, _, rfl, rfl, (by omega : (0 : Int) < (ring.length : Int)), ?_⟩⟩⟩
        have : ((p : Int) + (0 + (i : Int))) % (ring.length : Int) = (((p + i) % ring.length : Nat) : Int) := by
          rw [Int.zero_add]
          exact (Int.natCast_emod (p + i) ring.length).symm ▸ rfl
        show Q (V.int (((p : Int) + (0 + (i : Int))) % (ring.length : Int))) H'
        rw [this]
        exact q _ exr
      have h9' : IL H9 D1 (iN (rotN p ring.length)) := by
        show H9 D1 = _
        rw [h9]
        unfold iN rotN
        rw [List.map_map, List.map_map]
        rfl
      clear h9
      have e89 := ext e8' e9
      have hRl := length_rotN p ring.length
      -- due
      refine ⟨_, rfl, D1, rfl, ⟨_, sq_l h9'⟩, fun D2 hD2 => ?_⟩
      refine lc_val walk_list (by rw [ml, length_iN, hRl]; omega) (fun j => .int (ring.getD ((rotN p ring.length).getD j 0) 0)) hD2 (fun H' e => sq_l (e _ _ h9')) (fun j y Hc H' hj e hy => ?_) gmN (fun H10 e10 h10 => ?_)
      · obtain ⟨rfl, hy⟩ := hy
        obtain ⟨hj2, rfl⟩ := int_at hy
        rw [length_iN] at hj2
        rw [iN_getD hj2]
        rw [hRl] at hj2
        exact ⟨rfl, fun Q q => ⟨_, rfl, _, rfl, a, _, _, _, rfl, rfl, sq_l (e _ _ (e89 _ _ ha)), ati_int (by rw [rotN_getD hj2]; exact Nat.mod_lt _ (by omega)), q _ exr⟩⟩
      have h10' : IL H10 D2 (u ++ v) := by
        show H10 D2 = _
        rw [h10, ml, length_iN, map_getD (fun x => V.int (ring.getD x 0)) (rotN p ring.length), hrw, List.map_map]
        rfl
      clear h10
      have e910 := ext e89 e10
      refine ⟨Nat.le_of_ble_eq_true rfl, fun A3 hA3 => ?_⟩
      have x11 := exn (o := .lst [V.ref D2]) hA3
      refine ⟨A3, [D2], [u ++ v], rfl, upd_same, wl1 (h10'.mono x11), f4.rok1 (by simp [f5]), fun r5 H11 e11 hr5 => ?_⟩
      have x1011 := ext x11 e11
      have e911 := ext e910 x1011
      have h11o : IL H11 D1 (iN (rotN p ring.length)) := (h9'.mono e10).mono x1011
      refine ⟨_, rfl, D1, rfl, ⟨_, sq_l h11o⟩, fun D3 hD3 => ?_⟩
      refine lc_val walk_list (by rw [ml, length_iN, hRl]; omega) (fun j => .int (((rotN p ring.length).idxOf (m.getD ((rotN p ring.length).getD j 0) 0) : Nat) : Int)) hD3 (fun H' e => sq_l (e _ _ h11o)) (fun j y Hc H' hj e hy => ?_) gmN (fun H12 e12 h12 => ?_)
      · obtain ⟨rfl, hy⟩ := hy
        obtain ⟨hj2, rfl⟩ := int_at hy
        rw [length_iN] at hj2
        rw [iN_getD hj2]
        rw [hRl] at hj2
        have hpl : (rotN p ring.length).getD j 0 < ring.length := by rw [rotN_getD hj2]; exact Nat.mod_lt _ (by omega)
        have hmv := rotN_idx (Nat.le_of_lt hp) (hm.lt _ hpl)
        obtain ⟨i1, i2⟩ := idx_facts hmv
        have hD' := e _ _ h11o
        refine ⟨rfl, fun Q q => ⟨_, rfl, .inl ⟨rfl, _, sq_l hD'⟩, _, rfl, _, rfl, t, _, _, _, rfl, rfl, sq_t (e _ _ (e911 _ _ ht)), ati_iN (by rw [hm.len]; exact hpl), D1, _, _, _, _, rfl, rfl, sq_l hD', rfl, flat_iN, i1, by simp [eqV], i2, q _ exr⟩⟩
      have h12' : IL H12 D3 (iN m1) := by
        show H12 D3 = _
        rw [h12, ml, length_iN, map_getD (fun x => V.int (((rotN p ring.length).idxOf (m.getD x 0) : Nat) : Int)) (rotN p ring.length), ← hm1e]
        unfold iN ordN
        rw [List.map_map, List.map_map]
        rfl
      clear h12
      have e912 := ext e911 e12
      intro s6 dx6 nx6 nd6 ne6
      refine ⟨s6, dx6, r5, D3, [u ++ v], m1, rfl, upd_same, (hr5.mono e12).mono (exb nx6 nd6), .inl (IL.mono (exb nx6 nd6) h12'), f4.rok1 (by simp [f5]), by rw [flat1]; exact hm1, fun H13 kp6 hs6 => ⟨rfl, ?_⟩⟩
      have x13 := ex_made nx6 nd6 kp6
      have e913 := ext e912 x13
      have e813 : Ex H8 H13 := ext e9 (ext e10 (ext x1011 (ext e12 x13)))
      have hs5' := hs5.mono e813
      obtain ⟨d5, r5', tm5, tc5, tp5, z5, hd5, g5, _⟩ := id hs5'
      obtain ⟨d6, r6', tm6, tc6, tp6, z6, hd6, g6, _⟩ := id hs6
      refine ⟨_, rfl, _, rfl, ⟨s5, s6, d5, d6, _, _, rfl, rfl, g5, g6, _, _, hs5', hs6⟩, fun H14 e14 => ⟨_, rfl, iteT ?_⟩⟩
      have e814 : Ex H8 H14 := ext e813 e14
      have hs1z := hs18.mono e814
      obtain ⟨dz, rz, tmz, tcz, tpz, zz, hdz, gz, _⟩ := id hs1z
      refine ⟨_, rfl, s5, _, d5, _, _, rfl, e14 _ _ g5, cl, T.n_Sewing_cost, rfl, _, rfl, s1, _, dz, _, _, rfl, gz, cl, T.n_Sewing_cost, rfl, rfl, ?_⟩
      have hcd : decide (V.int (costF [u ++ v] m1) = V.int (costF [ring] m)) = true := decide_eq_true (by rw [hc1])
      rw [hcd]
      refine ⟨_, rfl, iteT ?_⟩
      have hs3z := hs38.mono e814
      have hs2z := hs28.mono e814
      refine ⟨_, rfl, _, rfl, _, _, rfl, rfl, s3, [bandL u v 13], _, List.range (u.length + v.length + 1), u.length + v.length + 1, _, ub1, hs3z, hp13, by show 1 < 4; decide, k1, by rw [List.length_range]; omega, ub2, ub3, ub4, ub5, ub6 _, ub7 _, k5, fun s7 H15 e15 hs7 => ?_⟩
      rw [k4, k6] at hs7
      have hs2y := hs2z.mono e15
      obtain ⟨d7, r7, tm7, tc7, tp7, z7, hd7, g7, _⟩ := id hs7
      obtain ⟨d8, r8, tm8, tc8, tp8, z8, hd8, g8, _⟩ := id hs2y
      exact ⟨_, rfl, ⟨s7, s2, d7, d8, _, _, rfl, rfl, g7, g8, _, _, hs7, hs2y⟩, fun H16 e16 => fin _ (ext e913 (ext e14 (ext e15 e16)))⟩
end
end Hw
/-! W29 -/
/-! W29: the cheapest of parts. -/
namespace Hw
open PySem PySem.Spec PyProof.Rows L2 HR RZ
open LamX (ExtN Tabs TabS TabB)
theorem IL.nx {H H' : Hp} {a : Addr} {ns : List Int} (e : ExtN H H') (h : IL H a ns) : IL H' a ns := e _ _ h (fun _ z => nomatch z)
theorem WordAt.nx {K : PySem.W.Frag} {H H' : Hp} {x : Addr} {ls : List Int} (e : ExtN H H') (h : WordAt K H x ls) : WordAt K H' x ls := h.lx (ExtN.lx e)
theorem RimsAt.nx {K : PySem.W.Frag} {H H' : Hp} {x : Addr} {ws : List (List Int)} (e : ExtN H H') (h : RimsAt K H x ws) : RimsAt K H' x ws := h.lx (ExtN.lx e)
theorem isMin_least {ws : List (List Int)} {n : Int} (h : IsMin ws n) : Least ws n := h
theorem Least.rot {w : List Int} {p : Nat} {c : Int} (hp : p ≤ w.length) (h : Least [w] c) : Least [rotW p w] c := by
  obtain ⟨⟨m, hm, e⟩, l⟩ := h
  rw [flat1] at hm l
  obtain ⟨a, b⟩ := cost_rot hp hm
  refine ⟨⟨_, by rw [flat1]; exact a, by rw [b, e]⟩, fun m' hm' => ?_⟩
  rw [flat1] at hm'
  obtain ⟨a', b'⟩ := cost_rot (p := w.length - p) (w := rotW p w) (by rw [length_rotW]; omega) hm'
  rw [rotW_back hp] at a' b'
  have := l _ a'
  omega
theorem minH {w : List Int} {c h : Int} (hw : w ≠ []) (nz : NZ w) (l : Least [w] c) (hh : IsMinH [w] h) : 2 * h = c + 1 := by
  have ho := least_odd hw nz l
  obtain ⟨⟨m, hm, e⟩, lm⟩ := l
  obtain ⟨⟨m', hm', e'⟩, lm'⟩ := hh
  have h1 := lm' m hm
  have h2 := lm m' hm'
  rw [e] at h1
  omega
theorem size_k {p q n : Nat} (hp : p < n) (hq : q < n) (h : p ≠ q) : ∃ k : Nat, ((q : Int) - (p : Int)) % (n : Int) = (k : Int) ∧ 0 < k ∧ k < n := by
  by_cases c : p < q
  · exact ⟨q - p, by rw [Int.emod_eq_of_lt (by omega) (by omega)]; omega, by omega, by omega⟩
  · refine ⟨n + q - p, ?_, by omega, by omega⟩
    have e : ((q : Int) - (p : Int)) % (n : Int) = ((q : Int) - (p : Int) + (n : Int)) % (n : Int) := by rw [Int.add_emod_right]
    rw [e, Int.emod_eq_of_lt (by omega) (by omega)]
    omega
section
variable {P : Program} {w : World} {K : PySem.W.Frag} {mg : Str → Option Value} {base : Heap}
def sp_law_parts (K : PySem.W.Frag) (TT : List (Addr × Str)) : Sp := fun vs H Q _ => ∃ (a : Addr) (ring : List Int) (p q : Nat), vs = [.ref a, .int (p : Int), .int (q : Int)] ∧ IL H a ring ∧ RingOk ring ∧ p < ring.length ∧ q < ring.length ∧ p ≠ q ∧ Tabs TT H ∧ ∀ H', ExtN H H' → Tabs TT H' → Q (.bl true) H'
abbrev N_law_parts_right : List Str := ["_law_ring_here", "_law_place", "_law_other", "_law_turned", "_law_size", "_law_words", "_law_whole", "_law_parts", "_law_loop"]
theorem sc_law_parts_right : FnScope N_law_parts_right ["_law_ring_here", "_law_place", "_law_other"] (C8.fnScope s_law_parts_right) := C8.fnScope_by (by decide +kernel)
theorem k_law_parts_right (T : Txt K mg) (T2 : Txt2 P K mg) {c1 PT1 c2 PT2 : Addr} {TT : List (Addr × Str)} (LC : DefL K base mg "cheapest" s_cheapest c1 PT1) (hmC : (PT1, qC) ∈ TT) (huC : ∀ p ∈ TT, p.1 = PT1 → p.2 = qC) (LI : DefL K base mg "in_one" s_in_one c2 PT2) (hmI : (PT2, qI) ∈ TT) (huI : ∀ p ∈ TT, p.1 = PT2 → p.2 = qI) : C8.Cal P w K mg base 9 "_law_parts_right" (sp_law_parts K TT) [] := by
  have nd := sc_law_parts_right.nd
  refine defn T.d_law_parts_right sc_law_parts_right (fun vs H Q E h => ?_) (fun _ _ _ _ _ _ us hl => match us, hl with | [_, _, _], _ => rfl) (fun f cdv A outer s H vs Q E hr h => ?_)
  · obtain ⟨a, ring, p, q, rfl, _⟩ := h
    rfl
  · obtain ⟨a, ring, p, q, rfl, ha, rok, hp, hq, hpq, ht, fin⟩ := h
    have hn8 := rok.n8
    have hrne : ring ≠ [] := fun z => by rw [z] at hp; exact absurd hp (Nat.not_lt_zero _)
    refine ⟨_, (pss_cons (ps_par (i := 3) (j := 4) (by rfl) nd rfl rfl (by decide) rfl rfl (pa_cons (pe_op op_cat (pe_slice sl_list (pv 0) (po_some (pv 1)) po_none) (pe_slice sl_list (pv 0) po_none (po_some (pv 1)))) (pa_cons (pe_op op_mod (pe_callTy call_int1 (by rfl) T.z_int (by decide +kernel) (pa_cons (pe_op op_sub (pv 2) (pv 1)) pa_nil)) (pe_callB call_len_seq (by rfl) T.z_len PySem.boot_len (pa_cons (pv 0) pa_nil))) pa_nil)) (by rfl))
        (pss_cons (ps_set (i := 5) nd rfl (.inl rfl) (pe_lst (pa_cons (pe_slice sl_list (pv 3) po_none (po_some (pv 4))) (pa_cons (pe_slice sl_list (pv 3) (po_some (pv 4)) po_none) pa_nil))))
        (pss_cons (ps_par (i := 6) (j := 7) (by rfl) nd rfl rfl (by decide) rfl rfl (pa_cons (pe_fld (C8.pe_c (k_cheapest T T2 LC hmC huC) hr (by decide) (by rfl) (pa_cons (C8.pe_c (k_law_rims T) hr (by decide) (by rfl) (pa_cons (pe_lst (pa_cons (pv 0) pa_nil)) pa_nil)) pa_nil)) rfl) (pa_cons (pe_fld (C8.pe_c (k_cheapest T T2 LC hmC huC) hr (by decide) (by rfl) (pa_cons (C8.pe_c (k_law_rims T) hr (by decide) (by rfl) (pa_cons (pv 5) pa_nil)) pa_nil)) rfl) pa_nil)) (by rfl))
        (pss_cons (ps_set (i := 8) nd rfl (.inl rfl) (C8.pe_c (k_banded T) hr (by decide) (by rfl) (pa_cons (C8.pe_mk (k_Word T) hr (by decide) (by rfl) (pa_cons (pe_ix ix_list (pv 5) pe_int (fun _ _ => rfl)) pa_nil)) (pa_cons (C8.pe_mk (k_Word T) hr (by decide) (by rfl) (pa_cons (pe_ix ix_list (pv 5) pe_int (fun _ _ => rfl)) pa_nil)) (pa_cons pe_int pa_nil)))))
        (pss_cons (ps_if (PW.pt (pw_or (pt_cmpR op_notIn_seq (pv 7) (pe_tup (pa_cons (pe_op op_sub (pv 6) pe_int) (pa_cons (pe_op op_add (pv 6) pe_int) pa_nil))) (by rfl)) (pw_or1 (pt_cmpR op_ne (pe_fld (C8.pe_c (k_cheapest T T2 LC hmC huC) hr (by decide) (by rfl) (pa_cons (C8.pe_mk (k_Rims T) hr (by decide) (by rfl) (pa_cons (pe_lst (pa_cons (pv 8) pa_nil)) pa_nil)) pa_nil)) rfl) (pe_op op_add (pv 7) pe_int) (nomark _)))))
        (pss_one (ps_ret pe_bl))
        pss_nil)
        (pss_one (ps_ret (pe_and (pe_cmpR op_eq (pe_op op_mul pe_int (pe_fld (C8.pe_c (k_in_one T T2 LI hmI huI) hr (by decide) (by rfl) (pa_cons (C8.pe_mk (k_Rims T) hr (by decide) (by rfl) (pa_cons (pe_lst (pa_cons (pv 8) pa_nil)) pa_nil)) pa_nil)) rfl)) (pe_op op_add (pv 7) pe_int) (nomark _)) (pe_one (pe_cmpR op_eq (pe_op op_mul pe_int (pe_fld (C8.pe_c (k_in_one T T2 LI hmI huI) hr (by decide) (by rfl) (pa_cons (C8.pe_c (k_law_rims T) hr (by decide) (by rfl) (pa_cons (pe_lst (pa_cons (pv 0) pa_nil)) pa_nil)) pa_nil)) rfl)) (pe_op op_add (pv 6) pe_int) (nomark _))))))))))), ?_⟩
    refine ⟨_, rfl, _, rfl, _, rfl, a, _, rfl, sq_l ha, fun A1 hA1 => ?_⟩
    rw [cut_from (by rw [ml]; omega), ← List.map_drop]
    have x1 := exn (o := .lst ((ring.drop p).map V.int)) hA1
    refine ⟨_, rfl, _, rfl, _, rfl, a, _, rfl, sq_l (x1 _ _ ha), fun A2 hA2 => ?_⟩
    rw [cut_to (by rw [ml]; omega), ← List.map_take]
    have x2 := exn (o := .lst ((ring.take p).map V.int)) hA2
    refine ⟨A1, A2, _, _, rfl, rfl, x2 _ _ upd_same, upd_same, sz (by rw [ml, ml, List.length_drop, List.length_take]; omega), fun A3 hA3 => ?_⟩
    rw [← List.map_append]
    have x3 := exn (o := .lst ((ring.drop p ++ ring.take p).map V.int)) hA3
    have e3 := ext x1 (ext x2 x3)
    have hA3' : IL (upd (upd (upd H A1 (.lst ((ring.drop p).map V.int))) A2 (.lst ((ring.take p).map V.int))) A3 (.lst ((ring.drop p ++ ring.take p).map V.int))) A3 (rotW p ring) := upd_same
    generalize upd (upd (upd H A1 (.lst ((ring.drop p).map V.int))) A2 (.lst ((ring.take p).map V.int))) A3 (.lst ((ring.drop p ++ ring.take p).map V.int)) = H3 at x3 e3 hA3'
    obtain ⟨k, hk, k0, kn⟩ := size_k hp hq hpq
    refine ⟨_, rfl, _, rfl, _, _, rfl, rfl, .inl ⟨_, rfl, _, rfl, a, _, rfl, .inl (sq_l (e3 _ _ ha)), _, _, rfl, rfl, (by rw [ml]; omega), .ref A3, .int (k : Int), (by show [V.ref A3, V.int (((q : Int) - (p : Int)) % ((ring.map V.int).length : Int))] = _; rw [ml, hk]), ?_⟩⟩
    have hrl : (rotW p ring).length = ring.length := length_rotW
    refine ⟨_, rfl, _, rfl, _, rfl, A3, _, rfl, sq_l hA3', fun B1 hB1 => ?_⟩
    rw [cut_to (by rw [ml]; omega), ← List.map_take]
    have y1 := exn (o := .lst (((rotW p ring).take k).map V.int)) hB1
    refine ⟨_, rfl, _, rfl, _, rfl, A3, _, rfl, sq_l (y1 _ _ hA3'), fun B2 hB2 => ?_⟩
    rw [cut_from (by rw [ml]; omega), ← List.map_drop]
    have y2 := exn (o := .lst (((rotW p ring).drop k).map V.int)) hB2
    refine ⟨Nat.le_of_ble_eq_true rfl, fun W hW => ?_⟩
    have y3 := exn (o := .lst [V.ref B1, V.ref B2]) hW
    have hB1' : IL (upd (upd (upd H3 B1 (.lst (((rotW p ring).take k).map V.int))) B2 (.lst (((rotW p ring).drop k).map V.int))) W (.lst [V.ref B1, V.ref B2])) B1 ((rotW p ring).take k) := y3 _ _ (y2 _ _ upd_same)
    have hB2' : IL (upd (upd (upd H3 B1 (.lst (((rotW p ring).take k).map V.int))) B2 (.lst (((rotW p ring).drop k).map V.int))) W (.lst [V.ref B1, V.ref B2])) B2 ((rotW p ring).drop k) := y3 _ _ upd_same
    have hW' := upd_same (H := upd (upd H3 B1 (.lst (((rotW p ring).take k).map V.int))) B2 (.lst (((rotW p ring).drop k).map V.int))) (a := W) (o := .lst [V.ref B1, V.ref B2])
    have e4 := ext e3 (ext y1 (ext y2 y3))
    generalize upd (upd (upd H3 B1 (.lst (((rotW p ring).take k).map V.int))) B2 (.lst (((rotW p ring).drop k).map V.int))) W (.lst [V.ref B1, V.ref B2]) = H4 at hB1' hB2' hW' e4
    clear y1 y2 y3
    have huv : (rotW p ring).take k ++ (rotW p ring).drop k = rotW p ring := List.take_append_drop _ _
    have n1 : (rotW p ring).take k ≠ [] := fun z => by
      have := congrArg List.length z
      rw [List.length_take, hrl, List.length_nil] at this
      omega
    have n2 : (rotW p ring).drop k ≠ [] := fun z => by
      have := congrArg List.length z
      rw [List.length_drop, hrl, List.length_nil] at this
      omega
    have hrp := rotW_perm (p := p) (w := ring)
    generalize (rotW p ring).take k = u at huv n1 hB1'
    generalize (rotW p ring).drop k = v at huv n2 hB2'
    have lr : LOk (u ++ v) := by rw [huv]; exact rok.lo.perm hrp
    have lbd : LOk (bandL u v 13) := rok.lb.perm ((band_perm u v 13).trans (List.Perm.append_right _ (by rw [huv]; exact hrp)))
    have hbne : bandL u v 13 ≠ [] := by unfold bandL; simp
    have fu : ∀ l ∈ u, absI l ≠ 13 := fun l hl => rok.fr l (hrp.mem_iff.mp (by rw [← huv]; exact List.mem_append_left _ hl))
    have fv : ∀ l ∈ v, absI l ≠ 13 := fun l hl => rok.fr l (hrp.mem_iff.mp (by rw [← huv]; exact List.mem_append_right _ hl))
    have ok1 := rok.lo.rok1 hrne
    have few1 : Few [ring] := LOk.few (by rw [flat1]; exact rok.lo)
    have ok2 := lr.rok2 n1 n2
    have few2 : Few [u, v] := LOk.few (by rw [flat2]; exact lr)
    have ok3 := lbd.rok1 hbne
    have few3 : Few [bandL u v 13] := LOk.few (by rw [flat1]; exact lbd)
    have t4 := tabs_ex ht e4
    -- whole
    refine ⟨_, rfl, Nat.le_of_ble_eq_true rfl, fun A5 hA5 => ?_⟩
    have x5 := exn (o := .lst [V.ref a]) hA5
    refine ⟨A5, [a], [ring], rfl, upd_same, wl1 ((ha.mono e4).mono x5), ok1, fun r1 H5 e5 hr1 => ?_⟩
    have e5 := ext x5 e5
    refine ⟨r1, [ring], rfl, hr1, ok1, few1, tabs_ex t4 e5, fun p1 c1 H6 en6 t6 hp1 im1 => ?_⟩
    have f6 := ExtN.trans (ExtN.of e5) en6
    obtain ⟨dp1, qp1, mp1, hp1⟩ := hp1
    refine ⟨p1, _, dp1, _, _, rfl, hp1, T.i_Cheapest.cl, T.n_Cheapest_cost, rfl, ?_⟩
    have hW6 := f6 _ _ hW' (fun _ z => nomatch z)
    have hB16 := hB1'.nx f6
    have hB26 := hB2'.nx f6
    -- parts
    refine ⟨_, rfl, W, [B1, B2], [u, v], rfl, hW6, wl2 hB16 hB26, ok2, fun r2 H7 e7 hr2 => ?_⟩
    refine ⟨r2, [u, v], rfl, hr2, ok2, few2, tabs_ex t6 e7, fun p2 c2 H8 en8 t8 hp2 im2 => ?_⟩
    have f8 := ExtN.trans f6 (ExtN.trans (ExtN.of e7) en8)
    obtain ⟨dp2, qp2, mp2, hp2⟩ := hp2
    refine ⟨p2, _, dp2, _, _, rfl, hp2, T.i_Cheapest.cl, T.n_Cheapest_cost, rfl, _, _, rfl, ?_⟩
    have hW8 := f8 _ _ hW' (fun _ z => nomatch z)
    have hB18 := hB1'.nx f8
    have hB28 := hB2'.nx f8
    -- loop
    refine ⟨_, rfl, W, _, 0, _, rfl, rfl, sq_l hW8, rfl, ?_⟩
    intro w1 dw1 nw1 nd1 ne1
    refine ⟨w1, dw1, B1, u, rfl, upd_same, .inl (hB18.mono (exb nw1 nd1)), (ok2.ok u (by simp)).1.1, (ok2.ok u (by simp)).1.2, fun H9 kp9 hw1 => ⟨rfl, ?_⟩⟩
    have e9 := ex_made nw1 nd1 kp9
    refine ⟨_, rfl, W, _, 1, _, rfl, rfl, sq_l (e9 _ _ hW8), rfl, ?_⟩
    intro w2 dw2 nw2 nd2 ne2
    refine ⟨w2, dw2, B2, v, rfl, upd_same, .inl ((hB28.mono e9).mono (exb nw2 nd2)), (ok2.ok v (by simp)).1.1, (ok2.ok v (by simp)).1.2, fun H10 kp10 hw2 => ⟨rfl, ?_⟩⟩
    have e10 := ex_made nw2 nd2 kp10
    refine ⟨w1, w2, u, v, 13, rfl, hw1.mono e10, hw2, n1, n2, by decide, by decide, fu, fv, by rw [bandW_L]; exact (ok3.ok _ (List.mem_singleton.mpr rfl)).1, fun lp H11 e11 hlp => ?_⟩
    rw [bandW_L] at hlp
    have f11 := ExtN.trans f8 (ExtN.of (ext e9 (ext e10 e11)))
    have t11 := tabs_ex t8 (ext e9 (ext e10 e11))
    -- the test
    have m1 := isMin_least im1
    have m2 := isMin_least im2
    have nzr := rok.lo.nz
    have mr : Least [u ++ v] c1 := by rw [huv]; exact Least.rot (Nat.le_of_lt hp) m1
    have hc12 := least_cut n1 n2 lr.nz mr m2
    refine ⟨_, rfl, _, rfl, _, _, rfl, rfl, _, rfl, _, _, rfl, rfl, Nat.le_of_ble_eq_true rfl, fun T3 hT3 => ⟨T3, _, rfl, .inr (sq_t upd_same), rfl, rfl, _, rfl, ?_⟩⟩
    rw [notin2 hc12]
    refine iteF ?_
    have x12 := exn (o := .tup [V.int (c1 - 1), V.int (c1 + 1)]) hT3
    have hlp12 := hlp.mono x12
    have f12 := ExtN.trans f11 (ExtN.of x12)
    have t12 := tabs_ex t11 x12
    generalize upd H11 T3 (.tup [V.int (c1 - 1), V.int (c1 + 1)]) = H12 at x12 hlp12 f12 t12
    refine ⟨_, rfl, Nat.le_of_ble_eq_true rfl, fun A13 hA13 => ?_⟩
    have x13 := exn (o := .lst [V.ref lp]) hA13
    intro r3 dr3 nr3 ndr3 ner3
    refine ⟨r3, dr3, A13, [lp], [bandL u v 13], rfl, upd_same, exb nr3 ndr3 _ _ upd_same, ⟨rfl, fun i hi => ?_⟩, ok3, fun H14 kp14 hr3 => ⟨rfl, ?_⟩⟩
    · have hi : i < 1 := hi
      have : i = 0 := by omega
      subst this
      exact (hlp12.mono x13).mono (exb nr3 ndr3)
    have e14 := ext x13 (ex_made nr3 ndr3 kp14)
    refine ⟨r3, _, rfl, hr3, ok3, few3, tabs_ex t12 e14, fun p3 c3 H15 en15 t15 hp3 im3 => ?_⟩
    have f15 := ExtN.trans f12 (ExtN.trans (ExtN.of e14) en15)
    have hlp15 := hlp12.nx (ExtN.trans (ExtN.of e14) en15)
    obtain ⟨dp3, qp3, mp3, hp3⟩ := hp3
    have m3 := isMin_least im3
    have hc3 := least_band n1 n2 (fun l hl => by
      have := rok.fr l (hrp.mem_iff.mp (by rw [← huv]; exact hl))
      unfold absI at this
      split at this <;> omega) (by decide) m2 m3
    refine ⟨p3, _, dp3, _, _, rfl, hp3, T.i_Cheapest.cl, T.n_Cheapest_cost, rfl, _, rfl, _, _, rfl, rfl, rfl, _, rfl, ?_⟩
    rw [show decide (V.int c3 = V.int (c2 + 1)) = true from decide_eq_true (by rw [hc3])]
    refine iteF ?_
    -- in one
    refine ⟨_, rfl, Nat.le_of_ble_eq_true rfl, fun A16 hA16 => ?_⟩
    have x16 := exn (o := .lst [V.ref lp]) hA16
    intro r4 dr4 nr4 ndr4 ner4
    refine ⟨r4, dr4, A16, [lp], [bandL u v 13], rfl, upd_same, exb nr4 ndr4 _ _ upd_same, ⟨rfl, fun i hi => ?_⟩, ok3, fun H17 kp17 hr4 => ⟨rfl, ?_⟩⟩
    · have hi : i < 1 := hi
      have : i = 0 := by omega
      subst this
      exact (hlp15.mono x16).mono (exb nr4 ndr4)
    have e17 := ext x16 (ex_made nr4 ndr4 kp17)
    refine ⟨r4, _, rfl, hr4, ok3, few3, rfl, tabs_ex t15 e17, fun p4 h4 H18 en18 t18 hp4 im4 => ?_⟩
    have f18 := ExtN.trans f15 (ExtN.trans (ExtN.of e17) en18)
    obtain ⟨dp4, qp4, mp4, hp4⟩ := hp4
    have hh4 := minH hbne lbd.nz m3 im4
    refine ⟨p4, _, dp4, _, _, rfl, hp4, T.i_InOne.cl, T.n_InOne_handles, rfl, _, _, rfl, rfl, .inl ⟨by decide, by decide⟩, _, rfl, _, _, rfl, rfl, rfl, ?_⟩
    rw [show decide (V.int (2 * h4) = V.int (c2 + 2)) = true from decide_eq_true (by rw [show 2 * h4 = c2 + 2 by omega])]
    refine ⟨_, rfl, iteT ?_⟩
    have ha18 := ha.nx (ExtN.trans (ExtN.of e4) f18)
    refine ⟨_, rfl, Nat.le_of_ble_eq_true rfl, fun A19 hA19 => ?_⟩
    have x19 := exn (o := .lst [V.ref a]) hA19
    refine ⟨A19, [a], [ring], rfl, upd_same, wl1 (ha18.mono x19), ok1, fun r5 H19 e19 hr5 => ?_⟩
    have e19 := ext x19 e19
    refine ⟨r5, [ring], rfl, hr5, ok1, few1, rfl, tabs_ex t18 e19, fun p5 h5 H20 en20 t20 hp5 im5 => ?_⟩
    obtain ⟨dp5, qp5, mp5, hp5⟩ := hp5
    have hh5 := minH hrne nzr m1 im5
    refine ⟨p5, _, dp5, _, _, rfl, hp5, T.i_InOne.cl, T.n_InOne_handles, rfl, _, _, rfl, rfl, .inl ⟨by decide, by decide⟩, _, rfl, _, _, rfl, rfl, rfl, ?_⟩
    rw [show decide (V.int (2 * h5) = V.int (c1 + 1)) = true from decide_eq_true (by rw [show 2 * h5 = c1 + 1 by omega])]
    exact fin _ (ExtN.trans (ExtN.of e4) (ExtN.trans f18 (ExtN.trans (ExtN.of e19) en20))) t20
end
end Hw
/-! W30 -/
/-! W30: two rings, a ring and its contrary. -/
namespace Hw
open PySem PySem.Spec PyProof.Rows L2 HR RZ
open LamX (ExtN Tabs TabS TabB)
theorem Least.sum {us vs : List (List Int)} {c1 c2 : Int} (nz : NZ us.flatten) (d : Apart us.flatten vs.flatten) (h1 : Least us c1) (h2 : Least vs c2) : Least (us ++ vs) (c1 + c2) := by
  obtain ⟨⟨m1, a1, e1⟩, l1⟩ := h1
  obtain ⟨⟨m2, a2, e2⟩, l2⟩ := h2
  have q1 : Mt (us ++ vs).flatten (mC us.flatten.length m1 m2) := by rw [List.flatten_append]; exact mt_both a1 a2
  have q2 := cost_sum nz d q1
  rw [mL_mC a1.len, mR_mC a1.len] at q2
  refine ⟨⟨_, q1, by omega⟩, fun m hm => ?_⟩
  have q3 := cost_sum nz d hm
  rw [List.flatten_append] at hm
  have := l1 _ (mt_left d hm)
  have := l2 _ (mt_right d hm)
  omega
theorem least_add {us vs : List (List Int)} {c1 c : Int} (nz : NZ us.flatten) (d : Apart us.flatten vs.flatten) (h1 : Least us c1) (h2 : ∃ m, Mt vs.flatten m ∧ costF vs m ≤ 0) (h : Least (us ++ vs) c) : c ≤ c1 := by
  obtain ⟨⟨m1, a1, e1⟩, l1⟩ := h1
  obtain ⟨m2, a2, e2⟩ := h2
  have q1 : Mt (us ++ vs).flatten (mC us.flatten.length m1 m2) := by rw [List.flatten_append]; exact mt_both a1 a2
  have q2 := cost_sum nz d q1
  rw [mL_mC a1.len, mR_mC a1.len] at q2
  have := h.2 _ q1
  omega
theorem apart_symm {A B : List Int} (h : HR.Apart A B) : HR.Apart B A := fun l hl hm => h _ hm (by rw [Int.neg_neg]; exact hl)
theorem contr_perm {l m : List Int} (p : l.Perm m) : (contr l).Perm (contr m) := by
  unfold HR.contr
  exact ((List.reverse_perm l).trans (p.trans (List.reverse_perm m).symm)).map _
/-- the ways of the law -/
def ways : List (List Int) := [[20], [20, 21], [-20, 20, 20]]
/-- what the law asks of a ring and its contrary, begun at p -/
def tubeB (its : List Int) (p : Nat) : Bool :=
  (!decide (its = lroundF its) || (decide (CR its) && decide (CR (contr (rotW p its))) && isSR its && isSR (contr (rotW p its)) && (turnF its (contr (rotW p its))).isSome)) &&
  (decide (lroundF its = []) || (!decide (roundF (shortF its) = []) && !decide (roundF (shortF (contr (rotW p its))) = []) && (turnF (roundF (shortF its)) (roundF (shortF (contr (rotW p its))))).isSome))
structure SumOk (ring its : List Int) : Prop where
  n1 : ring ≠ []
  n2 : its ≠ []
  l2 : its.length ≤ 8
  lo1 : LOk ring
  lo2 : LOk its
  lo12 : LOk (ring ++ its)
  lb : LOk ((ring ++ its) ++ [13, -13])
  fr1 : ∀ l ∈ ring, absI l ≠ 13
  fr2 : ∀ l ∈ its, absI l ≠ 13
  ap : Apart ring its
  lw : ∀ y ∈ ways, LOk (ring ++ (y ++ contr y)) ∧ Apart ring (y ++ contr y)
  lt : LOk (its ++ contr its)
  tb : ∀ p, p < its.length → tubeB its p = true
structure Txt3 (K : PySem.W.Frag) : Prop where
  m_Tube_bool : MetN K (cTube K) "__bool__" "Paper.__bool__" s_Paper_bool
/-- what the law carries along -/
structure Bd (TT : List (Addr × Str)) (H : Hp) (L C a b : Addr) (n : Nat) (ring its : List Int) : Prop where
  hL : LoomAt H L C n
  ha : IL H a ring
  hb : IL H b its
  ht : Tabs TT H
theorem Bd.ex {TT : List (Addr × Str)} {H H' : Hp} {L C a b : Addr} {n : Nat} {ring its : List Int} (h : Bd TT H L C a b n ring its) (e : Ex H H') : Bd TT H' L C a b n ring its := ⟨h.hL.mono e, h.ha.mono e, h.hb.mono e, tabs_ex h.ht e⟩
theorem Bd.nx {TT : List (Addr × Str)} {H H' : Hp} {L C a b : Addr} {n : Nat} {ring its : List Int} (h : Bd TT H L C a b n ring its) (e : ExtN H H') (t : Tabs TT H') : Bd TT H' L C a b n ring its := ⟨h.hL.nx e, h.ha.nx e, h.hb.nx e, t⟩
theorem Bd.mx {TT : List (Addr × Str)} {H H' : Hp} {L C a b : Addr} {n n' : Nat} {ring its : List Int} (h : Bd TT H L C a b n ring its) (e : Mx L H H') (hL : LoomAt H' L C n') : Bd TT H' L C a b n' ring its := ⟨hL, h.ha.mx e (h.hL.neI h.ha), h.hb.mx e (h.hL.neI h.hb), tabs_mx h.ht h.hL.lstL e⟩
theorem perm2 {α : Type} {x y : α} {l : List α} (h : l.Perm [x, y]) : l = [x, y] ∨ l = [y, x] := by
  match l, h.length_eq with
  | [u, v], _ =>
    have hu := h.mem_iff.mp (List.mem_cons_self (a := u))
    rcases List.mem_cons.mp hu with e | e
    · subst e
      have := h.cons_inv
      exact .inl (by rw [List.perm_singleton.mp this])
    · have e := List.mem_singleton.mp e
      subst e
      have := (h.trans (List.Perm.swap _ _ _)).cons_inv
      exact .inr (by rw [List.perm_singleton.mp this])
theorem tubeB_1 {its : List Int} {p : Nat} (h : tubeB its p = true) (e : its = lroundF its) : CR its ∧ CR (contr (rotW p its)) ∧ isSR its = true ∧ isSR (contr (rotW p its)) = true ∧ ∃ t, turnF its (contr (rotW p its)) = some t := by
  unfold tubeB at h
  rw [Bool.and_eq_true] at h
  have h1 := h.1
  rw [decide_eq_true e] at h1
  simp only [Bool.not_true, Bool.false_or, Bool.and_eq_true, decide_eq_true_iff] at h1
  exact ⟨h1.1.1.1.1, h1.1.1.1.2, h1.1.1.2, h1.1.2, Option.isSome_iff_exists.mp h1.2⟩
theorem tubeB_2 {its : List Int} {p : Nat} (h : tubeB its p = true) (e : lroundF its ≠ []) : roundF (shortF its) ≠ [] ∧ roundF (shortF (contr (rotW p its))) ≠ [] ∧ ∃ t, turnF (roundF (shortF its)) (roundF (shortF (contr (rotW p its)))) = some t := by
  unfold tubeB at h
  rw [Bool.and_eq_true] at h
  have h2 := h.2
  rw [decide_eq_false e, Bool.false_or, Bool.and_eq_true, Bool.and_eq_true] at h2
  refine ⟨by simpa using h2.1.1, by simpa using h2.1.2, Option.isSome_iff_exists.mp h2.2⟩
section
variable {P : Program} {w : World} {K : PySem.W.Frag} {mg : Str → Option Value} {base : Heap}
def sp_tbool (K : PySem.W.Frag) : Sp := fun vs H Q _ => ∃ x : Addr, vs = [.ref x] ∧ TubeAt K H x ∧ Q (.bl true) H
abbrev N_Paper_bool : List Str := ["self"]
theorem sc_Paper_bool : FnScope N_Paper_bool ["self"] (C8.fnScope s_Paper_bool) := C8.fnScope_by (by decide +kernel)
theorem m_tbool (T : Txt K mg) (T3 : Txt3 K) : C8.Met P w K mg base 1 (cTube K) "__bool__" (sp_tbool K) [] := by
  have nd := sc_Paper_bool.nd
  refine metn T3.m_Tube_bool T.i_Tube.cl sc_Paper_bool (fun vs H Q E h => ?_) (fun _ _ _ _ _ _ us hl => match us, hl with | [_], _ => rfl) (fun f cdv A outer s H vs Q E hr h => ?_)
  · obtain ⟨x, rfl, _⟩ := h
    rfl
  · obtain ⟨x, rfl, _, q⟩ := h
    exact ⟨_, pss_one (ps_ret pe_bl), q⟩
def sp_law_sums (K : PySem.W.Frag) (TT : List (Addr × Str)) : Sp := fun vs H Q _ => ∃ (L C a b : Addr) (n : Nat) (ring its : List Int), vs = [.ref L, .ref a, .ref b] ∧ Bd TT H L C a b n ring its ∧ n ≤ 800 ∧ SumOk ring its ∧ ∀ H', Q (.bl true) H'
abbrev N_law_sums_right : List Str := ["_law_loom_here", "_law_ring_here", "_law_its", "_law_mine", "_law_other", "_law_at", "_law_way", "_law_back_here"]
theorem sc_law_sums_right : FnScope N_law_sums_right ["_law_loom_here", "_law_ring_here", "_law_its"] (C8.fnScope s_law_sums_right) := C8.fnScope_by (by decide +kernel)
theorem k_law_sums_right (T : Txt K mg) (T2 : Txt2 P K mg) (T3 : Txt3 K) {c1 PT1 : Addr} {TT : List (Addr × Str)} (LC : DefL K base mg "cheapest" s_cheapest c1 PT1) (hmC : (PT1, qC) ∈ TT) (huC : ∀ p ∈ TT, p.1 = PT1 → p.2 = qC) : C8.Cal P w K mg base 11 "_law_sums_right" (sp_law_sums K TT) [] := by
  have nd := sc_law_sums_right.nd
  refine defn T.d_law_sums_right sc_law_sums_right (fun vs H Q E h => ?_) (fun _ _ _ _ _ _ us hl => match us, hl with | [_, _, _], _ => rfl) (fun f cdv A outer s H vs Q E hr h => ?_)
  · obtain ⟨L, C, a, b, n, ring, its, rfl, _⟩ := h
    rfl
  · obtain ⟨L, C, a, b, n, ring, its, rfl, bd, hn, so, fin⟩ := h
    have hl2 := so.l2
    have cl := T.i_Cheapest.cl
    refine ⟨_, (pss_cons (ps_par (i := 3) (j := 4) (by rfl) nd rfl rfl (by decide) rfl rfl (pa_cons (pe_fld (C8.pe_c (k_cheapest T T2 LC hmC huC) hr (by decide) (by rfl) (pa_cons (C8.pe_c (k_law_rims T) hr (by decide) (by rfl) (pa_cons (pe_lst (pa_cons (pv 1) pa_nil)) pa_nil)) pa_nil)) rfl) (pa_cons (pe_fld (C8.pe_c (k_cheapest T T2 LC hmC huC) hr (by decide) (by rfl) (pa_cons (C8.pe_c (k_law_rims T) hr (by decide) (by rfl) (pa_cons (pe_lst (pa_cons (pv 2) pa_nil)) pa_nil)) pa_nil)) rfl) pa_nil)) (by rfl))
        (pss_cons (ps_if (pt_cmpR op_ne (pe_fld (C8.pe_c (k_cheapest T T2 LC hmC huC) hr (by decide) (by rfl) (pa_cons (C8.pe_c (k_law_rims T) hr (by decide) (by rfl) (pa_cons (C8.pe_c (k_law_mixed T) hr (by decide) (by rfl) (pa_cons (pv 0) (pa_cons (pe_lst (pa_cons (pv 1) (pa_cons (pv 2) pa_nil))) pa_nil))) pa_nil)) pa_nil)) rfl) (pe_op op_add (pv 3) (pv 4)) (nomark _))
        (pss_one (ps_ret pe_bl))
        pss_nil)
        (pss_cons (ps_if (PW.pt (pw_or (pt_cmpR op_ne (pe_fld (C8.pe_c (k_cheapest T T2 LC hmC huC) hr (by decide) (by rfl) (pa_cons (C8.pe_mk (k_Rims T) hr (by decide) (by rfl) (pa_cons (pe_lst (pa_cons (C8.pe_c (k_banded T) hr (by decide) (by rfl) (pa_cons (C8.pe_mk (k_Word T) hr (by decide) (by rfl) (pa_cons (pv 1) pa_nil)) (pa_cons (C8.pe_mk (k_Word T) hr (by decide) (by rfl) (pa_cons (pv 2) pa_nil)) (pa_cons pe_int pa_nil)))) pa_nil)) pa_nil)) pa_nil)) rfl) (pe_op op_add (pe_op op_add (pv 3) (pv 4)) pe_int) (nomark _)) (pw_or1 (pt_cmpR op_ne (pe_fld (C8.pe_c (k_cheapest T T2 LC hmC huC) hr (by decide) (by rfl) (pa_cons (C8.pe_c (k_law_rims T) hr (by decide) (by rfl) (pa_cons (pe_lst (pa_cons (pe_op op_cat (pv 1) (pv 2)) pa_nil)) pa_nil)) pa_nil)) rfl) (pe_op op_add (pe_op op_add (pv 3) (pv 4)) pe_int) (nomark _)))))
        (pss_one (ps_ret pe_bl))
        pss_nil)
        (pss_cons (ps_par (i := 5) (j := 6) (by rfl) nd rfl rfl (by decide) rfl rfl (pa_cons (C8.pe_c (k_law_spin T) hr (by decide) (by rfl) (pa_cons (pv 0) (pa_cons (pe_callB call_len_seq (by rfl) T.z_len PySem.boot_len (pa_cons (pv 2) pa_nil)) pa_nil))) (pa_cons (C8.pe_c (k_law_pick T) hr (by decide) (by rfl) (pa_cons (pv 0) (pa_cons (pe_lst (pa_cons (pe_lst (pa_cons pe_int pa_nil)) (pa_cons (pe_lst (pa_cons pe_int (pa_cons pe_int pa_nil))) (pa_cons (pe_lst (pa_cons (pe_un un_neg pe_int) (pa_cons pe_int (pa_cons pe_int pa_nil)))) pa_nil)))) pa_nil))) pa_nil)) (by rfl))
        (pss_cons (ps_set (i := 7) nd rfl (.inl rfl) (C8.pe_c (k_law_back T) hr (by decide) (by rfl) (pa_cons (pe_op op_cat (pe_slice sl_list (pv 2) (po_some (pv 5)) po_none) (pe_slice sl_list (pv 2) po_none (po_some (pv 5)))) pa_nil)))
        (pss_cons (ps_if (PW.pt (pw_or (pt_cmpR op_gt (pe_fld (C8.pe_c (k_cheapest T T2 LC hmC huC) hr (by decide) (by rfl) (pa_cons (C8.pe_c (k_law_rims T) hr (by decide) (by rfl) (pa_cons (pe_lst (pa_cons (pv 1) (pa_cons (pv 6) (pa_cons (C8.pe_c (k_law_back T) hr (by decide) (by rfl) (pa_cons (pv 6) pa_nil)) pa_nil)))) pa_nil)) pa_nil)) rfl) (pv 3) (nomark _)) (pw_or1 (pt_cmpR op_gt (pe_fld (C8.pe_c (k_cheapest T T2 LC hmC huC) hr (by decide) (by rfl) (pa_cons (C8.pe_c (k_law_rims T) hr (by decide) (by rfl) (pa_cons (pe_lst (pa_cons (pv 2) (pa_cons (pv 7) pa_nil))) pa_nil)) pa_nil)) rfl) pe_int (nomark _)))))
        (pss_one (ps_ret pe_bl))
        pss_nil)
        (pss_cons (ps_if (PW.pt (pw_and (pt_cmpR (op_eqD hr.units) (pv 2) (C8.pe_c (k_law_round T) hr (by decide) (by rfl) (pa_cons (pv 2) pa_nil)) (nomark _)) (pw_and1 (PW.pt (pw_or (pt_cmpR op_ne (pe_fld (C8.pe_c (k_cheapest T T2 LC hmC huC) hr (by decide) (by rfl) (pa_cons (C8.pe_c (k_law_rims T) hr (by decide) (by rfl) (pa_cons (pe_lst (pa_cons (pv 7) (pa_cons (pv 2) pa_nil))) pa_nil)) pa_nil)) rfl) pe_int (nomark _)) (pw_or1 (pt_cmpR op_isN (C8.pe_c (k_tubes_of T) hr (by decide) (by rfl) (pa_cons (C8.pe_c (k_law_rims T) hr (by decide) (by rfl) (pa_cons (pe_lst (pa_cons (pv 2) (pa_cons (pv 7) pa_nil))) pa_nil)) pa_nil)) pe_non (nomark _))))))))
        (pss_one (ps_ret pe_bl))
        pss_nil)
        (pss_one (ps_ret (pe_or (pe_cmpR (op_eqD hr.units) (C8.pe_c (k_law_round T) hr (by decide) (by rfl) (pa_cons (pv 2) pa_nil)) (pe_lst pa_nil) (nomark _)) (pe_one (pe_callTy (cr_boolI (m_tbool T T3) hr (by decide)) (by rfl) T.z_bool (by decide +kernel) (pa_cons (C8.pe_c (k_tube T T2) hr (by decide) (by rfl) (pa_cons (C8.pe_mk (k_Word T) hr (by decide) (by rfl) (pa_cons (pv 2) pa_nil)) (pa_cons (C8.pe_mk (k_Word T) hr (by decide) (by rfl) (pa_cons (pv 7) pa_nil)) pa_nil))) pa_nil))))))))))))), ?_⟩
    have ok1 := so.lo1.rok1 so.n1
    have few1 : Few [ring] := LOk.few (by rw [flat1]; exact so.lo1)
    have ok2 := so.lo2.rok1 so.n2
    have few2 : Few [its] := LOk.few (by rw [flat1]; exact so.lo2)
    -- mine
    refine ⟨_, rfl, Nat.le_of_ble_eq_true rfl, fun A1 hA1 => ?_⟩
    have x1 := exn (o := .lst [V.ref a]) hA1
    have bd1 := bd.ex x1
    refine ⟨A1, [a], [ring], rfl, upd_same, wl1 bd1.ha, ok1, fun r1 H1 e1 hr1 => ?_⟩
    have bd1 := bd1.ex e1
    refine ⟨r1, [ring], rfl, hr1, ok1, few1, bd1.ht, fun p1 c1 H2 en2 t2 hp1 im1 => ?_⟩
    have bd2 := bd1.nx en2 t2
    obtain ⟨dp1, qp1, mp1, hp1⟩ := hp1
    refine ⟨p1, _, dp1, _, _, rfl, hp1, cl, T.n_Cheapest_cost, rfl, ?_⟩
    -- other
    refine ⟨_, rfl, Nat.le_of_ble_eq_true rfl, fun A2 hA2 => ?_⟩
    have x2 := exn (o := .lst [V.ref b]) hA2
    have bd2 := bd2.ex x2
    refine ⟨A2, [b], [its], rfl, upd_same, wl1 bd2.hb, ok2, fun r2 H3 e3 hr2 => ?_⟩
    have bd3 := bd2.ex e3
    refine ⟨r2, [its], rfl, hr2, ok2, few2, bd3.ht, fun p2 c2 H4 en4 t4 hp2 im2 => ?_⟩
    have bd4 := bd3.nx en4 t4
    obtain ⟨dp2, qp2, mp2, hp2⟩ := hp2
    refine ⟨p2, _, dp2, _, _, rfl, hp2, cl, T.n_Cheapest_cost, rfl, _, _, rfl, ?_⟩
    have m1 := isMin_least im1
    have m2 := isMin_least im2
    have nz1 : NZ ([ring] : List (List Int)).flatten := by rw [flat1]; exact so.lo1.nz
    have nz2 : NZ ([its] : List (List Int)).flatten := by rw [flat1]; exact so.lo2.nz
    have ap1 : Apart ([ring] : List (List Int)).flatten ([its] : List (List Int)).flatten := by rw [flat1, flat1]; exact so.ap
    have m12 : Least [ring, its] (c1 + c2) := Least.sum nz1 ap1 m1 m2
    have m21 : Least [its, ring] (c2 + c1) := Least.sum nz2 (apart_symm ap1) m2 m1
    clear hp1 hp2
    -- mixed
    refine ⟨_, rfl, _, rfl, _, rfl, Nat.le_of_ble_eq_true rfl, fun A3 hA3 => ?_⟩
    have x3 := exn (o := .lst [V.ref a, V.ref b]) hA3
    have nA3 := (bd4.hL.new hA3).1
    have bd5 := bd4.ex x3
    refine ⟨L, C, A3, n, [.ref a, .ref b], rfl, bd5.hL, by show n + 2 ≤ 1000; omega, nA3, upd_same, by show 2 ≤ 1000; decide, fun p3 ys H5 hys mx5 hL5 np3 hp3 => ?_⟩
    have bd5 := bd5.mx mx5 hL5
    have hws : ∃ (as : List Addr) (ws : List (List Int)) (c : Int), ys = as.map V.ref ∧ WLs H5 as ws ∧ ROk ws ∧ Few ws ∧ Least ws c ∧ c = c1 + c2 := by
      rcases perm2 hys with e | e
      · exact ⟨[a, b], [ring, its], c1 + c2, e, wl2 bd5.ha bd5.hb, so.lo12.rok2 so.n1 so.n2, LOk.few (by rw [flat2]; exact so.lo12), m12, rfl⟩
      · have lo21 : LOk (its ++ ring) := so.lo12.perm List.perm_append_comm
        exact ⟨[b, a], [its, ring], c2 + c1, e, wl2 bd5.hb bd5.ha, lo21.rok2 so.n2 so.n1, LOk.few (by rw [flat2]; exact lo21), m21, by omega⟩
    obtain ⟨as, ws, c3, rfl, hwl, ok3, few3, m3, e3⟩ := hws
    refine ⟨p3, as, ws, rfl, hp3, hwl, ok3, fun r3 H6 e6 hr3 => ?_⟩
    have bd6 := bd5.ex e6
    refine ⟨r3, ws, rfl, hr3, ok3, few3, bd6.ht, fun p4 c4 H7 en7 t7 hp4 im4 => ?_⟩
    have bd7 := bd6.nx en7 t7
    obtain ⟨dp4, qp4, mp4, hp4⟩ := hp4
    have e4 := least_uniq m3 (isMin_least im4)
    refine ⟨p4, _, dp4, _, _, rfl, hp4, cl, T.n_Cheapest_cost, rfl, _, rfl, _, rfl, _, _, rfl, rfl, rfl, _, rfl, ?_⟩
    rw [show decide (V.int c4 = V.int (c1 + c2)) = true from decide_eq_true (by rw [e4, e3])]
    refine iteF ?_
    clear hp4 e4 hr3 hwl
    -- banded
    have okw1 := (ok1.ok ring (by simp)).1
    have okw2 := (ok2.ok its (by simp)).1
    have lbd : LOk (bandL ring its 13) := so.lb.perm (band_perm ring its 13)
    have hbne : bandL ring its 13 ≠ [] := by unfold bandL; simp
    have ok4 := lbd.rok1 hbne
    have few4 : Few [bandL ring its 13] := LOk.few (by rw [flat1]; exact lbd)
    refine ⟨_, rfl, ?_⟩
    intro w1 dw1 nw1 nd1 ne1
    refine ⟨w1, dw1, a, ring, rfl, upd_same, .inl (bd7.ha.mono (exb nw1 nd1)), okw1.1, okw1.2, fun H8 kp8 hw1 => ⟨rfl, ?_⟩⟩
    have bd8 := bd7.ex (ex_made nw1 nd1 kp8)
    refine ⟨_, rfl, ?_⟩
    intro w2 dw2 nw2 nd2 ne2
    refine ⟨w2, dw2, b, its, rfl, upd_same, .inl (bd8.hb.mono (exb nw2 nd2)), okw2.1, okw2.2, fun H9 kp9 hw2 => ⟨rfl, ?_⟩⟩
    have e9 := ex_made nw2 nd2 kp9
    have bd9 := bd8.ex e9
    refine ⟨w1, w2, ring, its, 13, rfl, hw1.mono e9, hw2, so.n1, so.n2, by decide, by decide, so.fr1, so.fr2, by rw [bandW_L]; exact (ok4.ok _ (List.mem_singleton.mpr rfl)).1, fun lp H10 e10 hlp => ?_⟩
    rw [bandW_L] at hlp
    have bd10 := bd9.ex e10
    refine ⟨Nat.le_of_ble_eq_true rfl, fun A11 hA11 => ?_⟩
    have x11 := exn (o := .lst [V.ref lp]) hA11
    intro r4 dr4 nr4 ndr4 ner4
    refine ⟨r4, dr4, A11, [lp], [bandL ring its 13], rfl, upd_same, exb nr4 ndr4 _ _ upd_same, ⟨rfl, fun i hi => ?_⟩, ok4, fun H11 kp11 hr4 => ⟨rfl, ?_⟩⟩
    · have hi : i < 1 := hi
      have : i = 0 := by omega
      subst this
      exact (hlp.mono x11).mono (exb nr4 ndr4)
    have bd11 := bd10.ex (ext x11 (ex_made nr4 ndr4 kp11))
    refine ⟨r4, _, rfl, hr4, ok4, few4, bd11.ht, fun p5 c5 H12 en12 t12 hp5 im5 => ?_⟩
    have bd12 := bd11.nx en12 t12
    obtain ⟨dp5, qp5, mp5, hp5⟩ := hp5
    have e5 := least_band so.n1 so.n2 (fun l hl => by
      have : absI l ≠ 13 := by
        rcases List.mem_append.mp hl with h | h
        · exact so.fr1 l h
        · exact so.fr2 l h
      unfold absI at this
      split at this <;> omega) (by decide) m12 (isMin_least im5)
    refine ⟨p5, _, dp5, _, _, rfl, hp5, cl, T.n_Cheapest_cost, rfl, _, rfl, _, rfl, _, _, rfl, rfl, _, _, rfl, rfl, rfl, _, rfl, ?_⟩
    rw [show decide (V.int c5 = V.int (c1 + c2 + 1)) = true from decide_eq_true (by rw [e5])]
    refine iteF ?_
    -- one behind the other
    refine ⟨_, rfl, _, rfl, a, b, _, _, rfl, rfl, bd12.ha, bd12.hb, sz (by rw [ml, ml]; have := so.lo12.sz; rw [List.length_append] at this; omega), fun A13 hA13 => ?_⟩
    rw [← List.map_append]
    have x13 := exn (o := .lst ((ring ++ its).map V.int)) hA13
    have hA13' : IL (upd H12 A13 (.lst ((ring ++ its).map V.int))) A13 (ring ++ its) := upd_same
    have bd13 := bd12.ex x13
    generalize upd H12 A13 (.lst ((ring ++ its).map V.int)) = H13 at x13 hA13' bd13
    refine ⟨Nat.le_of_ble_eq_true rfl, fun A14 hA14 => ?_⟩
    have x14 := exn (o := .lst [V.ref A13]) hA14
    have ok6 := so.lo12.rok1 (by simp [so.n1])
    have few6 : Few [ring ++ its] := LOk.few (by rw [flat1]; exact so.lo12)
    refine ⟨A14, [A13], [ring ++ its], rfl, upd_same, wl1 (hA13'.mono x14), ok6, fun r6 H15 e15 hr6 => ?_⟩
    have bd15 := bd13.ex (ext x14 e15)
    refine ⟨r6, _, rfl, hr6, ok6, few6, bd15.ht, fun p6 c6 H16 en16 t16 hp6 im6 => ?_⟩
    have bd16 := bd15.nx en16 t16
    obtain ⟨dp6, qp6, mp6, hp6⟩ := hp6
    have e6 := least_join so.n1 so.n2 so.ap m12 (isMin_least im6)
    refine ⟨p6, _, dp6, _, _, rfl, hp6, cl, T.n_Cheapest_cost, rfl, _, rfl, _, rfl, _, _, rfl, rfl, _, _, rfl, rfl, rfl, _, rfl, ?_⟩
    rw [show decide (V.int c6 = V.int (c1 + c2 + 1)) = true from decide_eq_true (by rw [e6])]
    refine iteF ?_
    clear hp5 hp6 hr6 hr4 hlp hw1 hw2
    -- at, way
    have hit : 1 ≤ its.length := List.length_pos_iff.mpr so.n2
    refine ⟨_, rfl, _, rfl, b, _, rfl, .inl (sq_l bd16.hb), ?_⟩
    rw [ml]
    refine ⟨L, C, _, its.length, rfl, bd16.hL, by show n + 2 ≤ 1000; omega, hit, by omega, fun at_ H17 hat mx17 hL17 => ?_⟩
    have bd17 := bd16.mx mx17 hL17
    refine ⟨_, rfl, Nat.le_of_ble_eq_true rfl, fun B1 hB1 => ⟨Nat.le_of_ble_eq_true rfl, fun B2 hB2 => ⟨_, rfl, Nat.le_of_ble_eq_true rfl, fun B3 hB3 => ⟨Nat.le_of_ble_eq_true rfl, fun W hW => ?_⟩⟩⟩⟩
    have y1 := exn (o := .lst [V.int 20]) hB1
    have y2 := exn (o := .lst [V.int 20, V.int 21]) hB2
    have y3 := exn (o := .lst [V.int (-20), V.int 20, V.int 20]) hB3
    have y4 := exn (o := .lst [V.ref B1, V.ref B2, V.ref B3]) hW
    have h1 : IL (upd (upd (upd (upd H17 B1 (.lst [V.int 20])) B2 (.lst [V.int 20, V.int 21])) B3 (.lst [V.int (-20), V.int 20, V.int 20])) W (.lst [V.ref B1, V.ref B2, V.ref B3])) B1 [20] := y4 _ _ (y3 _ _ (y2 _ _ upd_same))
    have h2 : IL (upd (upd (upd (upd H17 B1 (.lst [V.int 20])) B2 (.lst [V.int 20, V.int 21])) B3 (.lst [V.int (-20), V.int 20, V.int 20])) W (.lst [V.ref B1, V.ref B2, V.ref B3])) B2 [20, 21] := y4 _ _ (y3 _ _ upd_same)
    have h3 : IL (upd (upd (upd (upd H17 B1 (.lst [V.int 20])) B2 (.lst [V.int 20, V.int 21])) B3 (.lst [V.int (-20), V.int 20, V.int 20])) W (.lst [V.ref B1, V.ref B2, V.ref B3])) B3 [-20, 20, 20] := y4 _ _ upd_same
    have hW' := upd_same (H := upd (upd (upd H17 B1 (.lst [V.int 20])) B2 (.lst [V.int 20, V.int 21])) B3 (.lst [V.int (-20), V.int 20, V.int 20])) (a := W) (o := .lst [V.ref B1, V.ref B2, V.ref B3])
    have e18 := ext y1 (ext y2 (ext y3 y4))
    have bd18 := bd17.ex e18
    have nWL : W ≠ L := ne_some hW (((ext y1 (ext y2 y3)) _ _ (Exists.choose_spec bd17.hL.lstL)))
    generalize upd (upd (upd (upd H17 B1 (.lst [V.int 20])) B2 (.lst [V.int 20, V.int 21])) B3 (.lst [V.int (-20), V.int 20, V.int 20])) W (.lst [V.ref B1, V.ref B2, V.ref B3]) = H18 at h1 h2 h3 hW' e18 bd18
    clear y1 y2 y3 y4
    refine ⟨L, C, W, _, [.ref B1, .ref B2, .ref B3], rfl, bd18.hL, by show n + 2 + 1 ≤ 1000; omega, nWL, hW', by show 1 ≤ 3; decide, by show 3 ≤ 100000; decide, fun rr vv H19 hv mx19 hL19 => ⟨_, _, rfl, ?_⟩⟩
    have hway : ∃ (B : Addr) (y : List Int), y ∈ ways ∧ vv = .ref B ∧ IL H18 B y := by
      match rr, hv with
      | 0, hv => exact ⟨B1, [20], by simp [ways], (Option.some.inj hv).symm, h1⟩
      | 1, hv => exact ⟨B2, [20, 21], by simp [ways], (Option.some.inj hv).symm, h2⟩
      | 2, hv => exact ⟨B3, [-20, 20, 20], by simp [ways], (Option.some.inj hv).symm, h3⟩
    obtain ⟨B, y, hy, rfl, hBy⟩ := hway
    have hB19 := hBy.mx mx19 (bd18.hL.neI hBy)
    have bd19 := bd18.mx mx19 hL19
    clear h1 h2 h3 hW' hBy
    obtain ⟨lw1, lw2⟩ := so.lw y hy
    have hyl : y.length ≤ 3 ∧ y ≠ [] := by
      unfold ways at hy
      rcases List.mem_cons.mp hy with e | hy
      · rw [e]; exact ⟨by decide, by decide⟩
      · rcases List.mem_cons.mp hy with e | hy
        · rw [e]; exact ⟨by decide, by decide⟩
        · rw [List.mem_singleton.mp hy]; exact ⟨by decide, by decide⟩
    have tb := so.tb at_ hat
    -- back_here
    refine ⟨_, rfl, _, rfl, _, rfl, b, _, rfl, sq_l bd19.hb, fun D1 hD1 => ?_⟩
    rw [cut_from (by rw [ml]; omega), ← List.map_drop]
    have z1 := exn (o := .lst ((its.drop at_).map V.int)) hD1
    refine ⟨_, rfl, _, rfl, _, rfl, b, _, rfl, sq_l (z1 _ _ bd19.hb), fun D2 hD2 => ?_⟩
    rw [cut_to (by rw [ml]; omega), ← List.map_take]
    have z2 := exn (o := .lst ((its.take at_).map V.int)) hD2
    refine ⟨D1, D2, _, _, rfl, rfl, z2 _ _ upd_same, upd_same, sz (by rw [ml, ml, List.length_drop, List.length_take]; omega), fun D3 hD3 => ?_⟩
    rw [← List.map_append]
    have z3 := exn (o := .lst ((its.drop at_ ++ its.take at_).map V.int)) hD3
    have hD3' : IL (upd (upd (upd H19 D1 (.lst ((its.drop at_).map V.int))) D2 (.lst ((its.take at_).map V.int))) D3 (.lst ((its.drop at_ ++ its.take at_).map V.int))) D3 (rotW at_ its) := upd_same
    have e20 := ext z1 (ext z2 z3)
    generalize upd (upd (upd H19 D1 (.lst ((its.drop at_).map V.int))) D2 (.lst ((its.take at_).map V.int))) D3 (.lst ((its.drop at_ ++ its.take at_).map V.int)) = H20 at z3 e20 hD3'
    refine ⟨D3, rotW at_ its, rfl, hD3', by rw [length_rotW]; omega, fun k H21 e21 hk => ?_⟩
    have e21 := ext e20 e21
    have bd21 := bd19.ex e21
    have hB21 := hB19.mono e21
    have hrp := rotW_perm (p := at_) (w := its)
    have lt1 : LOk (its ++ contr (rotW at_ its)) := so.lt.perm (List.Perm.append_left _ (contr_perm hrp))
    have lt2 : LOk (contr (rotW at_ its) ++ its) := lt1.perm List.perm_append_comm
    have hkn : contr (rotW at_ its) ≠ [] := fun z => by
      have := congrArg List.length z
      rw [length_contr, length_rotW, List.length_nil] at this
      omega
    have htc : ∀ c, Least [its, contr (rotW at_ its)] c → c ≤ 0 := fun c h => least_tube so.n2 (Nat.le_of_lt hat) h
    have htc' : ∀ c, Least [contr (rotW at_ its), its] c → c ≤ 0 := fun c h => least_tube' so.n2 (Nat.le_of_lt hat) h
    have hkl : (contr (rotW at_ its)).length = its.length := by rw [length_contr, length_rotW]
    have tb1 := tubeB_1 tb
    have tb2 := tubeB_2 tb
    generalize contr (rotW at_ its) = bk at hk lt1 lt2 hkn htc htc' hkl tb1 tb2
    have okA := lt1.rok2 so.n2 hkn
    have fewA : Few [its, bk] := LOk.few (by rw [flat2]; exact lt1)
    have okB := lt2.rok2 hkn so.n2
    have fewB : Few [bk, its] := LOk.few (by rw [flat2]; exact lt2)
    -- with a way and its contrary
    have hyc : contr y ≠ [] := fun z => by
      have := congrArg List.length z
      rw [length_contr, List.length_nil] at this
      exact hyl.2 (List.eq_nil_of_length_eq_zero this)
    refine ⟨_, rfl, _, rfl, _, rfl, B, y, rfl, hB21, by omega, fun q8 H22 e22 hq8 => ?_⟩
    have bd22 := bd21.ex e22
    have hk22 := hk.mono e22
    refine ⟨Nat.le_of_ble_eq_true rfl, fun A23 hA23 => ?_⟩
    have x23 := exn (o := .lst [V.ref a, V.ref B, V.ref q8]) hA23
    have bd23 := bd22.ex x23
    have ok7 : ROk [ring, y, contr y] := LOk.rok (by simpa using lw1) ⟨by show 1 ≤ 3; decide, by show 3 ≤ 4; decide⟩ fun x hx => by
      rcases List.mem_cons.mp hx with e | hx
      · rw [e]; exact so.n1
      · rcases List.mem_cons.mp hx with e | hx
        · rw [e]; exact hyl.2
        · rw [List.mem_singleton.mp hx]; exact hyc
    have few7 : Few [ring, y, contr y] := LOk.few (by simpa using lw1)
    refine ⟨A23, [a, B, q8], [ring, y, contr y], rfl, upd_same, wl3 bd23.ha ((hB21.mono e22).mono x23) (hq8.mono x23), ok7, fun r7 H24 e24 hr7 => ?_⟩
    have bd24 := bd23.ex e24
    refine ⟨r7, _, rfl, hr7, ok7, few7, bd24.ht, fun p7 c7 H25 en25 t25 hp7 im7 => ?_⟩
    have bd25 := bd24.nx en25 t25
    have hk25 := ((hk22.mono x23).mono e24).nx en25
    obtain ⟨dp7, qp7, mp7, hp7⟩ := hp7
    have e7 : c7 ≤ c1 := least_add (us := [ring]) (vs := [y, contr y]) nz1 (by rw [flat1, flat2]; exact lw2) m1 ⟨_, by rw [flat2]; exact mt_tube y, cost_tube hyl.2⟩ (isMin_least im7)
    refine ⟨p7, _, dp7, _, _, rfl, hp7, cl, T.n_Cheapest_cost, rfl, _, rfl, _, _, rfl, rfl, _, rfl, ?_⟩
    rw [decide_eq_false (show ¬ c1 < c7 by omega)]
    refine iteF ?_
    clear hp7 hr7 hq8 hB21 hB19
    -- as rims of a tube
    refine ⟨_, rfl, _, rfl, Nat.le_of_ble_eq_true rfl, fun A26 hA26 => ?_⟩
    have x26 := exn (o := .lst [V.ref b, V.ref k]) hA26
    have bd26 := bd25.ex x26
    have hk26 := hk25.mono x26
    refine ⟨A26, [b, k], [its, bk], rfl, upd_same, wl2 bd26.hb hk26, okA, fun r8 H27 e27 hr8 => ?_⟩
    have bd27 := bd26.ex e27
    refine ⟨r8, _, rfl, hr8, okA, fewA, bd27.ht, fun p8 c8 H28 en28 t28 hp8 im8 => ?_⟩
    have bd28 := bd27.nx en28 t28
    have hk28 := (hk26.mono e27).nx en28
    obtain ⟨dp8, qp8, mp8, hp8⟩ := hp8
    have e8 := htc _ (isMin_least im8)
    refine ⟨p8, _, dp8, _, _, rfl, hp8, cl, T.n_Cheapest_cost, rfl, _, _, rfl, rfl, _, rfl, ?_⟩
    rw [decide_eq_false (show ¬ 0 < c8 by omega)]
    refine iteF ?_
    clear hp8 hr8
    -- short round?
    refine ⟨_, rfl, _, rfl, b, its, rfl, bd28.hb, by omega, fun p9 H29 e29 hp9 => ?_⟩
    have bd29 := bd28.ex e29
    have hk29 := hk28.mono e29
    refine ⟨_, _, dp_l bd29.hb, dp_l hp9, sh_l _, sh_l _, _, rfl, ?_⟩
    rw [eq_l]
    by_cases hsr : its = lroundF its
    rotate_left
    rw [decide_eq_false hsr]
    refine iteF ?_
    have bdz := bd29
    have hkz := hk29
    rotate_left
    obtain ⟨cr1, cr2, sr1, sr2, tt, htt⟩ := tb1 hsr
    rw [decide_eq_true hsr]
    refine iteT ?_
    refine ⟨_, rfl, _, rfl, Nat.le_of_ble_eq_true rfl, fun A30 hA30 => ?_⟩
    have x30 := exn (o := .lst [V.ref k, V.ref b]) hA30
    have bd30 := bd29.ex x30
    have hk30 := hk29.mono x30
    refine ⟨A30, [k, b], [bk, its], rfl, upd_same, wl2 hk30 bd30.hb, okB, fun r9 H31 e31 hr9 => ?_⟩
    have bd31 := bd30.ex e31
    refine ⟨r9, _, rfl, hr9, okB, fewB, bd31.ht, fun p10 c10 H32 en32 t32 hp10 im10 => ?_⟩
    have bd32 := bd31.nx en32 t32
    have hk32 := (hk30.mono e31).nx en32
    obtain ⟨dp10, qp10, mp10, hp10⟩ := hp10
    have e10 := htc' _ (isMin_least im10)
    have e10' := least_nonneg cr2 cr1 (isMin_least im10)
    have e10'' : c10 = 0 := by omega
    refine ⟨p10, _, dp10, _, _, rfl, hp10, cl, T.n_Cheapest_cost, rfl, rfl, _, rfl, ?_⟩
    rw [show decide (V.int c10 = V.int 0) = true from decide_eq_true (by rw [e10''])]
    refine iteF ?_
    refine ⟨_, rfl, _, rfl, Nat.le_of_ble_eq_true rfl, fun A33 hA33 => ?_⟩
    have x33 := exn (o := .lst [V.ref b, V.ref k]) hA33
    have bd33 := bd32.ex x33
    have hk33 := hk32.mono x33
    refine ⟨A33, [b, k], [its, bk], rfl, upd_same, wl2 bd33.hb hk33, okA, fun r10 H34 e34 hr10 => ?_⟩
    refine ⟨r10, its, bk, tt, rfl, hr10, okw2, sr1, sr2, htt, fun pt H35 e35 => ?_⟩
    refine ⟨rfl, _, rfl, ?_⟩
    rw [decide_eq_false (fun z => nomatch z)]
    refine iteF ?_
    have bdz := (bd33.ex e34).ex e35
    have hkz := (hk33.mono e34).mono e35
    all_goals
      refine ⟨_, rfl, b, its, rfl, bdz.hb, by omega, fun p11 H36 e36 hp11 => ⟨Nat.zero_le _, fun N hN => ?_⟩⟩
      have xN := exn (o := .lst []) hN
      have hp11' := hp11.mono xN
      have bdy := (bdz.ex e36).ex xN
      have hky := (hkz.mono e36).mono xN
      refine ⟨_, _, dp_l hp11', dp_nil upd_same, sh_l _, sh_l _, ?_⟩
      rw [eq_l]
      generalize upd H36 N (.lst []) = H37 at xN hp11' bdy hky
      refine ⟨_, rfl, ?_⟩
      by_cases hnil : lroundF its = []
      · rw [decide_eq_true hnil]
        refine iteT ?_
        exact fin _
      · rw [decide_eq_false hnil]
        refine iteF ?_
        obtain ⟨q1, q2, q3, hq3⟩ := tb2 hnil
        refine ⟨_, rfl, ?_⟩
        intro v1 dv1 nv1 ndv1 nev1
        refine ⟨v1, dv1, b, its, rfl, upd_same, .inl (bdy.hb.mono (exb nv1 ndv1)), okw2.1, okw2.2, fun H38 kp38 hv1 => ⟨rfl, ?_⟩⟩
        have e38 := ex_made nv1 ndv1 kp38
        have okk := (okA.ok bk (by simp)).1
        refine ⟨_, rfl, ?_⟩
        intro v2 dv2 nv2 ndv2 nev2
        refine ⟨v2, dv2, k, bk, rfl, upd_same, .inl ((hky.mono e38).mono (exb nv2 ndv2)), okk.1, okk.2, fun H39 kp39 hv2 => ⟨rfl, ?_⟩⟩
        have e39 := ex_made nv2 ndv2 kp39
        refine ⟨v1, v2, its, bk, q3, rfl, hv1.mono e39, hv2, okw2, okk, q1, q2, hq3, fun pt H40 e40 htb => ?_⟩
        obtain ⟨dt, ft, h40⟩ := id htb
        exact ⟨pt, dt, ft, rfl, h40, pt, rfl, htb, ⟨_, rfl⟩, fin _⟩
end
end Hw
/-! W31 -/
/-! W31: what holds of all rings that the law draws. -/
namespace Hw
open PySem PySem.Spec PyProof.Rows L2 HR RZ
def okB (b : List Int) : Bool := decide (b.length ≤ 24) && (b.all fun l => decide (-26 ≤ l) && decide (l ≤ 26) && !decide (l = 0) && decide (b.count l = b.count (-l)) && decide (b.count l ≤ 4)) && decide (manyF b ≤ 720)
theorem lok_of {b : List Int} (h : okB b = true) : LOk b := by
  unfold okB at h
  rw [Bool.and_eq_true, Bool.and_eq_true, decide_eq_true_iff, decide_eq_true_iff, List.all_eq_true] at h
  obtain ⟨⟨h1, h2⟩, h3⟩ := h
  have g : ∀ l ∈ b, -26 ≤ l ∧ l ≤ 26 ∧ l ≠ 0 ∧ b.count l = b.count (-l) ∧ b.count l ≤ 4 := fun l hl => by
    have := h2 l hl
    simp only [Bool.and_eq_true, decide_eq_true_iff, Bool.not_eq_true', decide_eq_false_iff_not] at this
    exact ⟨this.1.1.1.1, this.1.1.1.2, this.1.1.2, this.1.2, this.2⟩
  have c : ∀ k, b.count k = b.count (-k) := fun k => by
    by_cases hk : k ∈ b
    · exact (g k hk).2.2.2.1
    · by_cases hk2 : -k ∈ b
      · have := (g _ hk2).2.2.2.1
        rw [Int.neg_neg] at this
        exact this.symm
      · rw [List.count_eq_zero.mpr hk, List.count_eq_zero.mpr hk2]
  exact ⟨h1, fun l hl => ⟨(g l hl).1, (g l hl).2.1, (g l hl).2.2.1⟩, bal_of (fun l hl => (g l hl).2.2.1) c, fun k => by
    by_cases hk : k ∈ b
    · exact (g k hk).2.2.2.2
    · rw [List.count_eq_zero.mpr hk]
      omega, h3⟩
theorem exists_mt {ls : List Int} (lo : LOk ls) : ∃ m, Mt ls m := by
  have hbc := bal_count lo.bal
  have pw : allK.Pairwise (· < ·) := by decide +kernel
  have hks : (allK.filter fun k => ls.any fun l => decide (k = absI l)).Pairwise (· < ·) := pw.filter _
  have hm : ∀ k, k ∈ (allK.filter fun k => ls.any fun l => decide (k = absI l)) ↔ ∃ l, l ∈ ls ∧ k = absI l := fun k => by
    rw [List.mem_filter, List.any_eq_true]
    constructor
    · rintro ⟨_, l, hl, e⟩
      exact ⟨l, hl, of_decide_eq_true e⟩
    · rintro ⟨l, hl, e⟩
      refine ⟨?_, l, hl, decide_eq_true e⟩
      obtain ⟨h1, h2, h3⟩ := lo.let_ l hl
      have := absI_pos h3
      rw [mem_allK, e]
      refine ⟨this, ?_⟩
      unfold absI
      split <;> omega
  generalize (allK.filter fun k => ls.any fun l => decide (k = absI l)) = ks at hks hm
  have hk1 : ∀ k ∈ ks, 1 ≤ ls.count k := fun k hk => by
    obtain ⟨l, hl', e⟩ := (hm k).mp hk
    have h1 : 1 ≤ ls.count l := List.count_pos_iff.mpr hl'
    rcases absI_cases l with h | h
    · rw [e, ← h]
      exact h1
    · rw [e, hbc, ← h]
      exact h1
  have hlen := length_amF lo.c4 hbc ks [List.replicate ls.length 0] hk1
  have hpos : 1 ≤ prodG (fun k => fac (ls.count k)) ks := prodG_pos (fun k => fac_pos _) _
  have : 0 < (amF ls ks).length := by
    unfold amF
    rw [hlen, List.length_singleton, Nat.one_mul]
    exact hpos
  obtain ⟨m, hmm⟩ := List.exists_mem_of_length_pos this
  exact ⟨m, (mem_amF lo.c4 hbc (fun l hl => (lo.let_ l hl).2.2) hks hm m).mp hmm⟩
/-- how often each kind runs -/
def cnts1 : List (List Nat) := [[2, 1], [1, 1], [2, 2], [3], [1, 1, 1], [3, 1], [2, 1, 1]]
def cnts2 : List (List Nat) := [[1, 1], [2], [1], [2, 1]]
def base1 (k : Int) (cs : List Nat) : List Int := baseF [k, 2, 5] cs
def base2 (cs : List Nat) : List Int := baseF [7, 8] cs
def apartB (A B : List Int) : Bool := A.all fun l => !decide (-l ∈ B)
theorem apart_of {A B A' B' : List Int} (h : apartB A B = true) (p : A'.Perm A) (q : B'.Perm B) : HR.Apart A' B' := fun l hl hm => by
  unfold apartB at h
  rw [List.all_eq_true] at h
  have := h l (p.mem_iff.mp hl)
  rw [decide_eq_true (q.mem_iff.mp hm)] at this
  cases this
def freshB (A : List Int) : Bool := A.all fun l => !decide (absI l = 13)
theorem fresh_of {A A' : List Int} (h : freshB A = true) (p : A'.Perm A) : ∀ l ∈ A', absI l ≠ 13 := fun l hl e => by
  unfold freshB at h
  rw [List.all_eq_true] at h
  have := h l (p.mem_iff.mp hl)
  rw [decide_eq_true e] at this
  cases this
def ringB (b : List Int) : Bool := okB b && okB (b ++ [13, -13]) && freshB b && decide (b.length ≤ 8) && decide (2 ≤ b.length) && ways.all fun y => okB (b ++ (y ++ contr y)) && apartB b (y ++ contr y)
def pairB (b c : List Int) : Bool := okB (b ++ c) && okB ((b ++ c) ++ [13, -13]) && apartB b c
def itsB (c : List Int) : Bool := okB c && okB (c ++ contr c) && freshB c && decide (c.length ≤ 6) && decide (1 ≤ c.length)
def permsL : Nat → List Int → List (List Int)
  | 0, _ => [[]]
  | n + 1, b => (b.map fun x => (permsL n (b.erase x)).map fun l => x :: l).flatten
theorem mem_permsL : ∀ {l b : List Int}, l.Perm b → l ∈ permsL l.length b
  | [], _, _ => List.mem_singleton.mpr rfl
  | x :: l, b, p => by
    have h := List.cons_perm_iff_perm_erase.mp p
    exact List.mem_flatten.mpr ⟨_, List.mem_map.mpr ⟨x, h.1, rfl⟩, List.mem_map.mpr ⟨l, mem_permsL h.2, rfl⟩⟩
def tubesB (c : List Int) : Bool := (permsL c.length c).all fun l => (List.range l.length).all fun p => tubeB l p
theorem chk_ring : ([1, 3, 26].all fun k => cnts1.all fun cs => ringB (base1 k cs)) = true := by decide +kernel
theorem chk_its : (cnts2.all fun cs => itsB (base2 cs)) = true := by decide +kernel
theorem chk_pair : ([1, 3, 26].all fun k => cnts1.all fun cs => cnts2.all fun ds => pairB (base1 k cs) (base2 ds)) = true := by decide +kernel
theorem chk_tubes : (cnts2.all fun cs => tubesB (base2 cs)) = true := by decide +kernel
/-- a ring as the law draws it -/
theorem ring_ok {ring : List Int} {k : Int} {cs : List Nat} (hk : k ∈ ([1, 3, 26] : List Int)) (hc : cs ∈ cnts1) (p : ring.Perm (base1 k cs)) : RingOk ring ∧ 2 ≤ ring.length := by
  have h := List.all_eq_true.mp (List.all_eq_true.mp chk_ring k hk) cs hc
  unfold ringB at h
  simp only [Bool.and_eq_true, decide_eq_true_iff] at h
  obtain ⟨⟨⟨⟨⟨h1, h2⟩, h3⟩, h4⟩, h5⟩, h6⟩ := h
  refine ⟨⟨by rw [p.length_eq]; exact h4, (lok_of h1).perm p, (lok_of h2).perm (List.Perm.append_right _ p), fresh_of h3 p⟩, by rw [p.length_eq]; exact h5⟩
theorem sum_ok {ring its : List Int} {k : Int} {cs ds : List Nat} (hk : k ∈ ([1, 3, 26] : List Int)) (hc : cs ∈ cnts1) (hd : ds ∈ cnts2) (p : ring.Perm (base1 k cs)) (q : its.Perm (base2 ds)) : SumOk ring its := by
  have h := List.all_eq_true.mp (List.all_eq_true.mp chk_ring k hk) cs hc
  unfold ringB at h
  simp only [Bool.and_eq_true, decide_eq_true_iff] at h
  obtain ⟨⟨⟨⟨⟨h1, h2⟩, h3⟩, h4⟩, h5⟩, h6⟩ := h
  have g := List.all_eq_true.mp chk_its ds hd
  unfold itsB at g
  simp only [Bool.and_eq_true, decide_eq_true_iff] at g
  obtain ⟨⟨⟨⟨g1, g2⟩, g3⟩, g4⟩, g5⟩ := g
  have j := List.all_eq_true.mp (List.all_eq_true.mp (List.all_eq_true.mp chk_pair k hk) cs hc) ds hd
  unfold pairB at j
  simp only [Bool.and_eq_true] at j
  obtain ⟨⟨j1, j2⟩, j3⟩ := j
  have t := List.all_eq_true.mp chk_tubes ds hd
  unfold tubesB at t
  have lr := p.length_eq
  have li := q.length_eq
  refine ⟨fun z => ?_, fun z => ?_, by omega, (lok_of h1).perm p, (lok_of g1).perm q, (lok_of j1).perm (p.append q), (lok_of j2).perm (List.Perm.append_right _ (p.append q)), fresh_of h3 p, fresh_of g3 q, apart_of j3 p q, fun y hy => ?_, (lok_of g2).perm (q.append (contr_perm q)), fun x hx => ?_⟩
  · rw [z, List.length_nil] at lr
    omega
  · rw [z, List.length_nil] at li
    omega
  · have := List.all_eq_true.mp h6 y hy
    rw [Bool.and_eq_true] at this
    exact ⟨(lok_of this.1).perm (List.Perm.append_right _ p), apart_of this.2 p (List.Perm.refl _)⟩
  · have m := mem_permsL q
    rw [li] at m
    exact List.all_eq_true.mp (List.all_eq_true.mp t its m) x (List.mem_range.mpr hx)
end Hw
/-! W32 -/
/-! W32: the law. -/
namespace Hw
open PySem PySem.Spec PyProof.Rows L2 HR RZ
open LamX (ExtN Tabs TabS TabB)
theorem LoomAt.neR {H : Hp} {L C x : Addr} {b : Nat} {as : List Addr} (h : LoomAt H L C b) (hx : H x = some (.lst (as.map V.ref))) : x ≠ L := fun e => by
  obtain ⟨cs, a, r, h1, _⟩ := h
  rw [e, h1] at hx
  have := HO.lst.inj (Option.some.inj hx)
  match as, this with
  | [], z => cases z
  | [_], z => cases z
  | _ :: _ :: _, z => cases z
theorem LoomAt.neT {H : Hp} {L C x : Addr} {b : Nat} {xs : List V} (h : LoomAt H L C b) (hx : H x = some (.tup xs)) : x ≠ L := fun e => by
  obtain ⟨cs, a, r, h1, _⟩ := h
  rw [e, h1] at hx
  cases hx
theorem cnts1_le : ∀ cs ∈ cnts1, ∀ c ∈ cs, c ≤ 100 := by decide
theorem cnts2_le : ∀ cs ∈ cnts2, ∀ c ∈ cs, c ≤ 100 := by decide
theorem base2_le : ∀ cs ∈ cnts2, (base2 cs).length ≤ 6 := by decide +kernel
theorem given_not {n p : Nat} : Evl.given n (fun j => !decide (j = p)) (fun j => V.int (j : Int)) = (iN ((List.range n).filter fun j => !decide (j = p))).map V.int := by
  unfold Evl.given iN
  rw [List.map_map]
  rfl
section
variable {P : Program} {w : World} {K : PySem.W.Frag} {mg : Str → Option Value} {base : Heap}
def sp_law (K : PySem.W.Frag) (TT : List (Addr × Str)) : Sp := fun vs H Q _ => ∃ (a : Addr) (ns : List Int), vs = [.ref a] ∧ SqL K H a (ns.map V.int) ∧ ns.length ≤ 1000 ∧ Tabs TT H ∧ ∀ H', Q (.bl true) H'
abbrev N_law : List Str := ["_law_script", "_law_loom_here", "_law_ring_here", "_law_every", "_law_turn", "_law_mates", "_law_place", "_law_other", "_law_spot"]
theorem sc_law : FnScope N_law ["_law_script"] (C8.fnScope s_law) := C8.fnScope_by (by decide +kernel)
theorem ok_law (T : Txt K mg) (T2 : Txt2 P K mg) (T3 : Txt3 K) {c1 PT1 c2 PT2 : Addr} {TT : List (Addr × Str)} (LC : DefL K base mg "cheapest" s_cheapest c1 PT1) (hmC : (PT1, qC) ∈ TT) (huC : ∀ p ∈ TT, p.1 = PT1 → p.2 = qC) (LI : DefL K base mg "in_one" s_in_one c2 PT2) (hmI : (PT2, qI) ∈ TT) (huI : ∀ p ∈ TT, p.1 = PT2 → p.2 = qI) {f : Addr} {fd : FuncData} (F : C8.Fun K "law" "law" s_law f fd) : FnOk P w K mg base CX0 12 f fd ["_law_script"] (sp_law K TT) := by
  have nd := sc_law.nd
  refine C8.fn0 F sc_law (fun vs H Q E h => ?_) (fun cdv A outer s H vs Q E hr h => ?_)
  · obtain ⟨a, ns, rfl, _⟩ := h
    rfl
  · obtain ⟨a, ns, rfl, hs, hl, ht, fin⟩ := h
    refine ⟨_, (pss_cons (ps_set (i := 1) nd rfl (.inl rfl) (C8.pe_c (k_law_loom T) hr (by decide) (by rfl) (pa_cons (pv 0) pa_nil)))
        (pss_cons (ps_set (i := 2) nd rfl (.inl rfl) (C8.pe_c (k_law_ring T) hr (by decide) (by rfl) (pa_cons (pv 1) (pa_cons (C8.pe_c (k_law_pick T) hr (by decide) (by rfl) (pa_cons (pv 1) (pa_cons (pe_lst (pa_cons (pe_lst (pa_cons pe_int (pa_cons pe_int pa_nil))) (pa_cons (pe_lst (pa_cons pe_int (pa_cons pe_int pa_nil))) (pa_cons (pe_lst (pa_cons pe_int (pa_cons pe_int pa_nil))) (pa_cons (pe_lst (pa_cons pe_int pa_nil)) (pa_cons (pe_lst (pa_cons pe_int (pa_cons pe_int (pa_cons pe_int pa_nil)))) (pa_cons (pe_lst (pa_cons pe_int (pa_cons pe_int pa_nil))) (pa_cons (pe_lst (pa_cons pe_int (pa_cons pe_int (pa_cons pe_int pa_nil)))) pa_nil)))))))) pa_nil))) (pa_cons (pe_lst (pa_cons (C8.pe_c (k_law_pick T) hr (by decide) (by rfl) (pa_cons (pv 1) (pa_cons (pe_lst (pa_cons pe_int (pa_cons pe_int (pa_cons pe_int pa_nil)))) pa_nil))) (pa_cons pe_int (pa_cons pe_int pa_nil)))) pa_nil)))))
        (pss_cons (ps_set (i := 3) nd rfl (.inl rfl) (C8.pe_c (k_law_sewings T) hr (by decide) (by rfl) (pa_cons (pv 2) pa_nil)))
        (pss_cons (ps_for PassesOwn.never rfl (pi_range1 (by rfl) T.z_range (pa_cons pe_int pa_nil)) (pg_name (i := 4) nd rfl (.inl rfl))
        (pss_cons (ps_asg (pe_tup (pa_cons (C8.pe_c (k_law_pick T) hr (by decide) (by rfl) (pa_cons (pv 1) (pa_cons (pv 3) pa_nil))) (pa_cons (C8.pe_c (k_law_spin T) hr (by decide) (by rfl) (pa_cons (pv 1) (pa_cons (pe_callB call_len_seq (by rfl) T.z_len PySem.boot_len (pa_cons (pv 2) pa_nil)) pa_nil))) pa_nil))) (pg_tup rfl (pgs_cons (pg_name (i := 5) nd rfl (.inl rfl)) (pgs_cons (pg_name (i := 6) nd rfl (.inr rfl)) pgs_nil))))
        (pss_one (ps_for PassesOwn.never rfl (pi_list (pe_lc (own := [("_law_spot", 8)]) (by rfl) nd (pi_range1 (by rfl) T.z_range (pa_cons (pe_callB call_len_seq (by rfl) T.z_len PySem.boot_len (pa_cons (pv 2) pa_nil)) pa_nil)) (blkOk_by (own := [("_law_spot", 8)]) (N := N_law) (sc := C8.fnScope s_law) (by decide +kernel)) (fun _ _ _ _ _ => (pg_name (i := 8) nd rfl (.inl rfl))) (fun _ _ _ _ _ => (pts_one (pt_cmpR op_ne (pv 8) (pv 6) (nomark _)))) (fun _ _ _ _ _ => (pv 8)))) (pg_name (i := 7) nd rfl (.inl rfl))
        (pss_one (ps_if (pt_not (pt_val (C8.pe_c (k_law_cuts_right T) hr (by decide) (by rfl) (pa_cons (pv 2) (pa_cons (pv 5) (pa_cons (pv 6) (pa_cons (pv 7) pa_nil)))))))
        (pss_one (ps_ret pe_bl))
        pss_nil))))))
        (pss_cons (ps_set (i := 6) nd rfl (.inr rfl) (C8.pe_c (k_law_spin T) hr (by decide) (by rfl) (pa_cons (pv 1) (pa_cons (pe_callB call_len_seq (by rfl) T.z_len PySem.boot_len (pa_cons (pv 2) pa_nil)) pa_nil))))
        (pss_cons (ps_for PassesOwn.never rfl (pi_list (pe_lc (own := [("_law_spot", 8)]) (by rfl) nd (pi_range1 (by rfl) T.z_range (pa_cons (pe_callB call_len_seq (by rfl) T.z_len PySem.boot_len (pa_cons (pv 2) pa_nil)) pa_nil)) (blkOk_by (own := [("_law_spot", 8)]) (N := N_law) (sc := C8.fnScope s_law) (by decide +kernel)) (fun _ _ _ _ _ => (pg_name (i := 8) nd rfl (.inl rfl))) (fun _ _ _ _ _ => (pts_one (pt_cmpR op_ne (pv 8) (pv 6) (nomark _)))) (fun _ _ _ _ _ => (pv 8)))) (pg_name (i := 7) nd rfl (.inl rfl))
        (pss_one (ps_if (pt_not (pt_val (C8.pe_c (k_law_parts_right T T2 LC hmC huC LI hmI huI) hr (by decide) (by rfl) (pa_cons (pv 2) (pa_cons (pv 6) (pa_cons (pv 7) pa_nil))))))
        (pss_one (ps_ret pe_bl))
        pss_nil)))
        (pss_one (ps_ret (C8.pe_c (k_law_sums_right T T2 T3 LC hmC huC) hr (by decide) (by rfl) (pa_cons (pv 1) (pa_cons (pv 2) (pa_cons (C8.pe_c (k_law_ring T) hr (by decide) (by rfl) (pa_cons (pv 1) (pa_cons (C8.pe_c (k_law_pick T) hr (by decide) (by rfl) (pa_cons (pv 1) (pa_cons (pe_lst (pa_cons (pe_lst (pa_cons pe_int (pa_cons pe_int pa_nil))) (pa_cons (pe_lst (pa_cons pe_int pa_nil)) (pa_cons (pe_lst (pa_cons pe_int pa_nil)) (pa_cons (pe_lst (pa_cons pe_int (pa_cons pe_int pa_nil))) pa_nil))))) pa_nil))) (pa_cons (pe_lst (pa_cons pe_int (pa_cons pe_int pa_nil))) pa_nil)))) pa_nil)))))))))))), ?_⟩
    refine ⟨_, rfl, a, ns, rfl, hs, hl, fun L C H1 e1 hL => ?_⟩
    have t1 := tabs_ex ht e1
    -- the counts
    refine ⟨_, rfl, _, rfl, Nat.le_of_ble_eq_true rfl, fun B0 hB0 => ⟨Nat.le_of_ble_eq_true rfl, fun B1 hB1 => ⟨Nat.le_of_ble_eq_true rfl, fun B2 hB2 => ⟨Nat.le_of_ble_eq_true rfl, fun B3 hB3 => ⟨Nat.le_of_ble_eq_true rfl, fun B4 hB4 => ⟨Nat.le_of_ble_eq_true rfl, fun B5 hB5 => ⟨Nat.le_of_ble_eq_true rfl, fun B6 hB6 => ⟨Nat.le_of_ble_eq_true rfl, fun W hW => ?_⟩⟩⟩⟩⟩⟩⟩⟩
    have y0 := exn (o := .lst [V.int 2, V.int 1]) hB0
    have y1 := exn (o := .lst [V.int 1, V.int 1]) hB1
    have y2 := exn (o := .lst [V.int 2, V.int 2]) hB2
    have y3 := exn (o := .lst [V.int 3]) hB3
    have y4 := exn (o := .lst [V.int 1, V.int 1, V.int 1]) hB4
    have y5 := exn (o := .lst [V.int 3, V.int 1]) hB5
    have y6 := exn (o := .lst [V.int 2, V.int 1, V.int 1]) hB6
    have y7 := exn (o := .lst [V.ref B0, V.ref B1, V.ref B2, V.ref B3, V.ref B4, V.ref B5, V.ref B6]) hW
    generalize g0 : upd H1 B0 (.lst [V.int 2, V.int 1]) = K0 at *
    generalize g1 : upd K0 B1 (.lst [V.int 1, V.int 1]) = K1 at *
    generalize g2 : upd K1 B2 (.lst [V.int 2, V.int 2]) = K2 at *
    generalize g3 : upd K2 B3 (.lst [V.int 3]) = K3 at *
    generalize g4 : upd K3 B4 (.lst [V.int 1, V.int 1, V.int 1]) = K4 at *
    generalize g5 : upd K4 B5 (.lst [V.int 3, V.int 1]) = K5 at *
    generalize g6 : upd K5 B6 (.lst [V.int 2, V.int 1, V.int 1]) = K6 at *
    generalize g7 : upd K6 W (.lst [V.ref B0, V.ref B1, V.ref B2, V.ref B3, V.ref B4, V.ref B5, V.ref B6]) = K7 at *
    have i0 : IL K7 B0 (iN [2, 1]) := (ext y1 (ext y2 (ext y3 (ext y4 (ext y5 (ext y6 y7)))))) _ _ (by rw [← g0]; exact upd_same)
    have i1 : IL K7 B1 (iN [1, 1]) := (ext y2 (ext y3 (ext y4 (ext y5 (ext y6 y7))))) _ _ (by rw [← g1]; exact upd_same)
    have i2 : IL K7 B2 (iN [2, 2]) := (ext y3 (ext y4 (ext y5 (ext y6 y7)))) _ _ (by rw [← g2]; exact upd_same)
    have i3 : IL K7 B3 (iN [3]) := (ext y4 (ext y5 (ext y6 y7))) _ _ (by rw [← g3]; exact upd_same)
    have i4 : IL K7 B4 (iN [1, 1, 1]) := (ext y5 (ext y6 y7)) _ _ (by rw [← g4]; exact upd_same)
    have i5 : IL K7 B5 (iN [3, 1]) := (ext y6 y7) _ _ (by rw [← g5]; exact upd_same)
    have i6 : IL K7 B6 (iN [2, 1, 1]) := y7 _ _ (by rw [← g6]; exact upd_same)
    have hW' : K7 W = some (.lst [V.ref B0, V.ref B1, V.ref B2, V.ref B3, V.ref B4, V.ref B5, V.ref B6]) := by rw [← g7]; exact upd_same
    have e06 := ext y0 (ext y1 (ext y2 (ext y3 (ext y4 (ext y5 y6)))))
    have nW := ((hL.mono e06).new hW).1
    have e07 := ext e06 y7
    clear g0 g1 g2 g3 g4 g5 g6 g7 y0 y1 y2 y3 y4 y5 y6 y7 hB0 hB1 hB2 hB3 hB4 hB5 hB6 hW e06
    have hL7 := hL.mono e07
    have t7 := tabs_ex t1 e07
    refine ⟨L, C, W, 0, _, rfl, hL7, by decide, nW, hW', by show 1 ≤ 7; decide, by show 7 ≤ 100000; decide, fun rr vv H2 hv m2 hL2 => ?_⟩
    have hcs : ∃ (B : Addr) (cs : List Nat), cs ∈ cnts1 ∧ vv = .ref B ∧ IL K7 B (iN cs) := by
      match rr, hv with
      | 0, hv => exact ⟨B0, _, by simp [cnts1], (Option.some.inj hv).symm, i0⟩
      | 1, hv => exact ⟨B1, _, by simp [cnts1], (Option.some.inj hv).symm, i1⟩
      | 2, hv => exact ⟨B2, _, by simp [cnts1], (Option.some.inj hv).symm, i2⟩
      | 3, hv => exact ⟨B3, _, by simp [cnts1], (Option.some.inj hv).symm, i3⟩
      | 4, hv => exact ⟨B4, _, by simp [cnts1], (Option.some.inj hv).symm, i4⟩
      | 5, hv => exact ⟨B5, _, by simp [cnts1], (Option.some.inj hv).symm, i5⟩
      | 6, hv => exact ⟨B6, _, by simp [cnts1], (Option.some.inj hv).symm, i6⟩
    obtain ⟨B, cs, hcs, rfl, hB⟩ := hcs
    have hB2 := hB.mx m2 (hL7.neI hB)
    have t2 := tabs_mx t7 hL7.lstL m2
    clear i0 i1 i2 i3 i4 i5 i6 hW' nW hB
    -- the first kind
    refine ⟨_, rfl, Nat.le_of_ble_eq_true rfl, fun D1 hD1 => ?_⟩
    have x3 := exn (o := .lst [V.int 1, V.int 3, V.int 26]) hD1
    have nD := (hL2.new hD1).1
    have hL3 := hL2.mono x3
    refine ⟨L, C, D1, 1, _, rfl, hL3, by decide, nD, upd_same, by show 1 ≤ 3; decide, by show 3 ≤ 100000; decide, fun rr vv H4 hv m4 hL4 => ?_⟩
    have hkk : ∃ k : Int, k ∈ ([1, 3, 26] : List Int) ∧ vv = .int k := by
      match rr, hv with
      | 0, hv => exact ⟨1, by simp, (Option.some.inj hv).symm⟩
      | 1, hv => exact ⟨3, by simp, (Option.some.inj hv).symm⟩
      | 2, hv => exact ⟨26, by simp, (Option.some.inj hv).symm⟩
    obtain ⟨k, hkk, rfl⟩ := hkk
    have hB3 := hB2.mono x3
    have hB4 := hB3.mx m4 (hL3.neI hB3)
    have t4 := tabs_mx (tabs_ex t2 x3) hL3.lstL m4
    refine ⟨Nat.le_of_ble_eq_true rfl, fun KL hKL => ?_⟩
    have x5 := exn (o := .lst [V.int k, V.int 2, V.int 5]) hKL
    have hL5 := hL4.mono x5
    have hB5 := hB4.mono x5
    have t5 := tabs_ex t4 x5
    have hKL' : IL (upd H4 KL (.lst [V.int k, V.int 2, V.int 5])) KL [k, 2, 5] := upd_same
    generalize upd H4 KL (.lst [V.int k, V.int 2, V.int 5]) = H5 at x5 hL5 hB5 t5 hKL'
    have hb8 := (ring_ok hkk hcs (List.Perm.refl _)).1.n8
    refine ⟨L, C, B, KL, 2, [k, 2, 5], cs, rfl, hL5, hB5, hKL', by show (base1 k cs).length ≤ 100; omega, by decide, cnts1_le cs hcs, by show 3 ≤ 100; decide, fun R ring H6 hperm m6 hL6 hR => ?_⟩
    have t6 := tabs_mx t5 hL5.lstL m6
    have hperm : ring.Perm (base1 k cs) := hperm
    obtain ⟨rok, r2⟩ := ring_ok hkk hcs hperm
    have hn8 := rok.n8
    have hrne : ring ≠ [] := fun z => by rw [z] at r2; exact absurd r2 (by decide)
    have hL6 : LoomAt H6 L C (2 + ring.length) := by rw [hperm.length_eq]; exact hL6
    clear hKL' hB5 hB4 hB3 hB2
    -- the sewings
    refine ⟨_, rfl, R, ring, rfl, hR, hrne, hn8, rok.lo.c4, rok.lo.nz, exists_mt rok.lo, fun E as mss H7 e7 hE hal hne hml hai hmt => ?_⟩
    have hL7 := hL6.mono e7
    have hR7 := hR.mono e7
    have t7 := tabs_ex t6 e7
    have nR := hL7.neI hR7
    have nE := hL7.neR hE
    refine ⟨_, rfl, by decide, by decide, ?_⟩
    refine for_it (n := 3) walk_range (fun i σ H' => ∃ y4 y5 y6 y7 y8, σ = [some (.ref a), some (.ref L), some (.ref R), some (.ref E), y4, y5, y6, y7, y8] ∧ Mx L H7 H' ∧ LoomAt H' L C (2 + ring.length + 2 * i)) ⟨none, none, none, none, none, rfl, Mx.refl, hL7⟩ (fun _ _ _ _ _ => trivial) (fun i x' σ Hs H' hi p hy' => ?_) (fun σ H' p => ?_)
    · obtain ⟨y4, y5, y6, y7, y8, rfl, m, hLi⟩ := p
      obtain ⟨rfl, rfl⟩ := hy'
      show gName 4 (.int (0 + (i : Int))) _ H' _
      refine ⟨_, rfl, _, rfl, L, C, E, _, as.map V.ref, rfl, hLi, by omega, nE, m _ _ nE hE, by rw [mlr, hal]; exact List.length_pos_iff.mpr hne, by rw [mlr]; omega, fun rr vv H8 hv m8 hL8 => ?_⟩
      obtain ⟨hr1, rfl⟩ := ref_at hv
      have hrm : rr < mss.length := by omega
      have hti := hai rr hrm
      have hmm := hmt _ (mem_getDD (d := []) hrm)
      generalize as.getD rr 0 = t at hti ⊢
      generalize mss.getD rr [] = mt at hti hmm
      have nt := hL7.neT hti
      have m78 := m.trans m8
      have hR8 := hR7.mx m78 nR
      refine ⟨_, rfl, _, rfl, R, _, rfl, .inl (sq_l hR8), ?_⟩
      rw [ml]
      refine ⟨L, C, _, ring.length, rfl, hL8, by omega, by omega, by omega, fun pl H9 hpl m9 hL9 => ?_⟩
      have m79 := m78.trans m9
      refine ⟨Nat.le_of_ble_eq_true rfl, fun Tq hTq => ⟨Tq, _, rfl, sq_t upd_same, rfl, _, _, rfl, _, _, rfl, rfl, ?_⟩⟩
      have x10 := exn (o := .tup [V.ref t, V.int (pl : Int)]) hTq
      have m710 := m79.trans (Ex.mx x10)
      have hL10 := hL9.mono x10
      generalize upd H9 Tq (.tup [V.ref t, V.int (pl : Int)]) = H10 at x10 m710 hL10
      have hR10 := hR7.mx m710 nR
      have ht10 : IT H10 t (iN mt) := m710 _ _ nt hti
      refine ⟨_, rfl, R, _, rfl, .inl (sq_l hR10), _, rfl, by omega, by rw [ml]; omega, fun D2 hD2 => ?_⟩
      rw [Int.toNat_natCast, ml]
      refine lc_sel (n := ring.length) walk_range (by omega) (fun j => !decide (j = pl)) (fun j => .int (j : Int)) hD2 (fun _ _ => trivial) (fun j y Hc H2 hj e2 hy => ?_) gmN (fun H11 e11 h11 => ?_)
      · obtain ⟨rfl, rfl⟩ := hy
        show gName 8 (.int (0 + (j : Int))) _ _ _
        rw [Int.zero_add]
        refine ⟨rfl, exr, fun Q q => ?_, fun _ H3 e3 Q q => ⟨_, rfl, q _ exr⟩⟩
        refine ⟨_, rfl, _, rfl, rfl, _, rfl, ?_⟩
        have : decide (V.int (j : Int) = V.int (pl : Int)) = decide (j = pl) := by
          rw [dec_int']
          by_cases z : j = pl
          · rw [decide_eq_true z, decide_eq_true (by omega)]
          · rw [decide_eq_false z, decide_eq_false (by omega)]
        rw [this]
        exact q _ exr
      rw [given_not] at h11
      have h11' : IL H11 D2 (iN ((List.range ring.length).filter fun j => !decide (j = pl))) := h11
      have hol : ∀ o ∈ (List.range ring.length).filter fun j => !decide (j = pl), o < ring.length ∧ pl ≠ o := fun o ho => by
        obtain ⟨h1, h2⟩ := List.mem_filter.mp ho
        refine ⟨List.mem_range.mp h1, fun z => ?_⟩
        rw [decide_eq_true z.symm] at h2
        cases h2
      clear h11
      generalize ((List.range ring.length).filter fun j => !decide (j = pl)) = os at h11' hol
      refine ⟨D2, rfl, ⟨_, sq_l h11'⟩, ?_⟩
      refine for_list (xs := (iN os).map V.int) (fun j σ H' => ∃ y7 y8, σ = [some (.ref a), some (.ref L), some (.ref R), some (.ref E), some (.int (0 + (i : Int))), some (.ref t), some (.int (pl : Int)), y7, y8] ∧ Ex H11 H') ⟨_, _, rfl, exr⟩ (fun j σ H' _ p => ?_) (fun j y σ H' hy p => ?_) (fun σ H' p => ?_)
      · obtain ⟨_, _, rfl, e⟩ := p
        exact sq_l (e _ _ h11')
      · obtain ⟨y7, y8, rfl, e⟩ := p
        obtain ⟨hj, rfl⟩ := int_at hy
        rw [length_iN] at hj
        rw [iN_getD hj]
        obtain ⟨o1, o2⟩ := hol _ (getD_mem hj)
        have ee := ext e11 e
        refine ⟨_, rfl, _, rfl, _, rfl, _, rfl, R, t, ring, mt, pl, _, rfl, hR10.mono ee, ht10.mono ee, hmm, rok, hpl, o1, o2, fun H12 e12 => ⟨_, rfl, iteF ?_⟩⟩
        exact ⟨_, _, rfl, ext e e12⟩
      · obtain ⟨y7, y8, rfl, e⟩ := p
        have ee := ext e11 e
        exact ⟨_, _, _, _, _, rfl, m710.trans (Ex.mx ee), (hL10.mono ee).le (by omega)⟩
    · obtain ⟨y4, y5, y6, y7, y8, rfl, m, hLi⟩ := p
      have hR8 := hR7.mx m nR
      have t8 := tabs_mx t7 hL7.lstL m
      refine ⟨_, rfl, _, rfl, R, _, rfl, .inl (sq_l hR8), ?_⟩
      rw [ml]
      refine ⟨L, C, _, ring.length, rfl, hLi, by omega, by omega, by omega, fun pl H9 hpl m9 hL9 => ?_⟩
      have hR9 := hR8.mx m9 (hLi.neI hR8)
      have t9 := tabs_mx t8 hLi.lstL m9
      refine ⟨_, rfl, R, _, rfl, .inl (sq_l hR9), _, rfl, by omega, by rw [ml]; omega, fun D2 hD2 => ?_⟩
      rw [Int.toNat_natCast, ml]
      refine lc_sel (n := ring.length) walk_range (by omega) (fun j => !decide (j = pl)) (fun j => .int (j : Int)) hD2 (fun _ _ => trivial) (fun j y Hc H2 hj e2 hy => ?_) gmN (fun H11 e11 h11 => ?_)
      · obtain ⟨rfl, rfl⟩ := hy
        show gName 8 (.int (0 + (j : Int))) _ _ _
        rw [Int.zero_add]
        refine ⟨rfl, exr, fun Q q => ?_, fun _ H3 e3 Q q => ⟨_, rfl, q _ exr⟩⟩
        refine ⟨_, rfl, _, rfl, rfl, _, rfl, ?_⟩
        have : decide (V.int (j : Int) = V.int (pl : Int)) = decide (j = pl) := by
          rw [dec_int']
          by_cases z : j = pl
          · rw [decide_eq_true z, decide_eq_true (by omega)]
          · rw [decide_eq_false z, decide_eq_false (by omega)]
        rw [this]
        exact q _ exr
      rw [given_not] at h11
      have h11' : IL H11 D2 (iN ((List.range ring.length).filter fun j => !decide (j = pl))) := h11
      have hol : ∀ o ∈ (List.range ring.length).filter fun j => !decide (j = pl), o < ring.length ∧ pl ≠ o := fun o ho => by
        obtain ⟨h1, h2⟩ := List.mem_filter.mp ho
        refine ⟨List.mem_range.mp h1, fun z => ?_⟩
        rw [decide_eq_true z.symm] at h2
        cases h2
      clear h11
      generalize ((List.range ring.length).filter fun j => !decide (j = pl)) = os at h11' hol
      have hR11 := hR9.mono e11
      have t11 := tabs_ex t9 e11
      have hL11 := hL9.mono e11
      refine ⟨D2, rfl, ⟨_, sq_l h11'⟩, ?_⟩
      refine for_list (xs := (iN os).map V.int) (fun j σ H' => ∃ y4 y5 y7 y8, σ = [some (.ref a), some (.ref L), some (.ref R), some (.ref E), y4, y5, some (.int (pl : Int)), y7, y8] ∧ ExtN H11 H' ∧ Tabs TT H') ⟨_, _, _, _, rfl, ExtN.refl _, t11⟩ (fun j σ H' _ p => ?_) (fun j y σ H' hy p => ?_) (fun σ H' p => ?_)
      · obtain ⟨_, _, _, _, rfl, e, _⟩ := p
        exact sq_l (h11'.nx e)
      · obtain ⟨y4, y5, y7, y8, rfl, e, tt⟩ := p
        obtain ⟨hj, rfl⟩ := int_at hy
        rw [length_iN] at hj
        rw [iN_getD hj]
        obtain ⟨o1, o2⟩ := hol _ (getD_mem hj)
        refine ⟨_, rfl, _, rfl, _, rfl, R, ring, pl, _, rfl, hR11.nx e, rok, hpl, o1, o2, tt, fun H12 e12 t12 => ⟨_, rfl, iteF ?_⟩⟩
        exact ⟨_, _, _, _, rfl, ExtN.trans e e12, t12⟩
      · obtain ⟨y4, y5, y7, y8, rfl, e, tt⟩ := p
        have hR12 := hR11.nx e
        have hL12 := hL11.nx e
        refine ⟨_, rfl, _, rfl, _, rfl, _, rfl, Nat.le_of_ble_eq_true rfl, fun B0 hB0 => ⟨Nat.le_of_ble_eq_true rfl, fun B1 hB1 => ⟨Nat.le_of_ble_eq_true rfl, fun B2 hB2 => ⟨Nat.le_of_ble_eq_true rfl, fun B3 hB3 => ⟨Nat.le_of_ble_eq_true rfl, fun W hW => ?_⟩⟩⟩⟩⟩
        have y0 := exn (o := .lst [V.int 1, V.int 1]) hB0
        have y1 := exn (o := .lst [V.int 2]) hB1
        have y2 := exn (o := .lst [V.int 1]) hB2
        have y3 := exn (o := .lst [V.int 2, V.int 1]) hB3
        have y4 := exn (o := .lst [V.ref B0, V.ref B1, V.ref B2, V.ref B3]) hW
        generalize g0 : upd H' B0 (.lst [V.int 1, V.int 1]) = K0 at *
        generalize g1 : upd K0 B1 (.lst [V.int 2]) = K1 at *
        generalize g2 : upd K1 B2 (.lst [V.int 1]) = K2 at *
        generalize g3 : upd K2 B3 (.lst [V.int 2, V.int 1]) = K3 at *
        generalize g4 : upd K3 W (.lst [V.ref B0, V.ref B1, V.ref B2, V.ref B3]) = K4 at *
        have i0 : IL K4 B0 (iN [1, 1]) := (ext y1 (ext y2 (ext y3 y4))) _ _ (by rw [← g0]; exact upd_same)
        have i1 : IL K4 B1 (iN [2]) := (ext y2 (ext y3 y4)) _ _ (by rw [← g1]; exact upd_same)
        have i2 : IL K4 B2 (iN [1]) := (ext y3 y4) _ _ (by rw [← g2]; exact upd_same)
        have i3 : IL K4 B3 (iN [2, 1]) := y4 _ _ (by rw [← g3]; exact upd_same)
        have hW' : K4 W = some (.lst [V.ref B0, V.ref B1, V.ref B2, V.ref B3]) := by rw [← g4]; exact upd_same
        have e03 := ext y0 (ext y1 (ext y2 y3))
        have nW := ((hL12.mono e03).new hW).1
        have e04 := ext e03 y4
        clear g0 g1 g2 g3 g4 y0 y1 y2 y3 y4 hB0 hB1 hB2 hB3 hW e03
        have hL13 := hL12.mono e04
        have hR13 := hR12.mono e04
        have t13 := tabs_ex tt e04
        refine ⟨L, C, W, _, _, rfl, hL13, by omega, nW, hW', by show 1 ≤ 4; decide, by show 4 ≤ 100000; decide, fun rr vv H14 hv m14 hL14 => ?_⟩
        have hds : ∃ (B : Addr) (ds : List Nat), ds ∈ cnts2 ∧ vv = .ref B ∧ IL K4 B (iN ds) := by
          match rr, hv with
          | 0, hv => exact ⟨B0, _, by simp [cnts2], (Option.some.inj hv).symm, i0⟩
          | 1, hv => exact ⟨B1, _, by simp [cnts2], (Option.some.inj hv).symm, i1⟩
          | 2, hv => exact ⟨B2, _, by simp [cnts2], (Option.some.inj hv).symm, i2⟩
          | 3, hv => exact ⟨B3, _, by simp [cnts2], (Option.some.inj hv).symm, i3⟩
        obtain ⟨B', ds, hds, rfl, hBB⟩ := hds
        have hB14 := hBB.mx m14 (hL13.neI hBB)
        have hR14 := hR13.mx m14 (hL13.neI hR13)
        have t14 := tabs_mx t13 hL13.lstL m14
        refine ⟨Nat.le_of_ble_eq_true rfl, fun KM hKM => ?_⟩
        have x15 := exn (o := .lst [V.int 7, V.int 8]) hKM
        have hL15 := hL14.mono x15
        have hB15 := hB14.mono x15
        have hR15 := hR14.mono x15
        have t15 := tabs_ex t14 x15
        have hKM' : IL (upd H14 KM (.lst [V.int 7, V.int 8])) KM [7, 8] := upd_same
        generalize upd H14 KM (.lst [V.int 7, V.int 8]) = H15 at x15 hL15 hB15 hR15 t15 hKM'
        have hb6 := base2_le ds hds
        refine ⟨L, C, B', KM, _, [7, 8], ds, rfl, hL15, hB15, hKM', by show (base2 ds).length ≤ 100; omega, by omega, cnts2_le ds hds, by show 2 ≤ 100; decide, fun I its H16 hperm2 m16 hL16 hI => ?_⟩
        have hperm2 : its.Perm (base2 ds) := hperm2
        have hl16 : (baseF [7, 8] ds).length ≤ 6 := hb6
        exact ⟨L, C, R, I, _, ring, its, rfl, ⟨hL16, hR15.mx m16 (hL15.neI hR15), hI, tabs_mx t15 hL15.lstL m16⟩, by omega, sum_ok hkk hcs hds hperm hperm2, fin⟩
end
end Hw
/-! H3 -/
/-! H3: from the head's facts to the law. Printed by mkH3.py. -/
namespace Hw
open PySem PySem.Spec PyProof.Rows L2 HR RZ
section
variable {K : PySem.W.Frag} {h : Heap} {mg : Str → Option Value}
theorem defN_of (X : K.In h) (G : h.Ns mainGlobals mg) {x nm : Str} {st : Stmt} (d : ∃ fd, FunD K (dd x nm st).name (dd x nm st).qual (dd x nm st).params (dd x nm st).body (dd x nm st).scope ((dd x nm st).dvs K) ((dd x nm st).kws K) (He.fAd K (dd x nm st).at_) fd) (g : (He.Fa.glo x).ok K = true) : DefN K mg x nm st := by
  obtain ⟨fd, F⟩ := d
  obtain ⟨oc, od, dV, kV, doc, pm, an, cdv, ct, osl, e, lk, cd, hD, _⟩ := F.ex
  have hd : dV = .none := by
    rcases hD with ⟨_, e⟩ | ⟨e, _⟩
    · exact e
    · exact absurd rfl e
  subst hd
  refine ⟨He.ga K x, fd, ⟨⟨oc, od, .none, kV, doc, pm, an, cdv, ct, osl, e, lk, cd⟩⟩, He.glo_ok X G g, F.kp, ?_⟩
  rw [e]
theorem metN_of {C m q : Str} {st : Stmt} (d : ∃ fd, FunD K (dm C m q st).name (dm C m q st).qual (dm C m q st).params (dm C m q st).body (dm C m q st).scope ((dm C m q st).dvs K) ((dm C m q st).kws K) (He.fAd K (dm C m q st).at_) fd) (g : (He.Fa.meth C m).ok K = true) : MetN K (He.ga K C) m q st := by
  obtain ⟨fd, F⟩ := d
  obtain ⟨oc, od, dV, kV, doc, pm, an, cdv, ct, osl, e, lk, cd, hD, _⟩ := F.ex
  have hd : dV = .none := by
    rcases hD with ⟨_, e⟩ | ⟨e, _⟩
    · exact e
    · exact absurd rfl e
  subst hd
  refine ⟨He.ma K (He.ga K C) m, fd, He.meth_ok g, ⟨⟨oc, od, .none, kV, doc, pm, an, cdv, ct, osl, e, lk, cd⟩⟩, ?_⟩
  rw [e]
theorem insC_of {x : Str} (c : Cls K (He.ga K x)) (b : insB K x = true) : C8.InsC K (He.ga K x) := by
  obtain ⟨b1, b⟩ := He.ba b
  obtain ⟨b2, b⟩ := He.ba b
  obtain ⟨b3, b⟩ := He.ba b
  obtain ⟨b4, b5⟩ := He.ba b
  exact ⟨c, He.eqO_ok b1, He.eqO_ok b2, of_decide_eq_true b3, of_decide_eq_true b4, of_decide_eq_true b5⟩
theorem sup_of {P : Program} {x q : Str} {st : Stmt} (hP : P.main.file = fnm) (b : supB K x q = true) (v : fnC K x = supV q st) : ∃ cc cda fd, SupIn P K (He.ga K x) q st (He.ma K (He.ga K x) "__init__") (He.ma K (He.ga K "Paper") "__init__") cc cda fd ∧ fd.defaults = .none := by
  unfold supB at b
  obtain ⟨b1, b⟩ := He.ba b
  obtain ⟨b2, b⟩ := He.ba b
  obtain ⟨b3, b⟩ := He.ba b
  obtain ⟨b4, b⟩ := He.ba b
  obtain ⟨b5, b⟩ := He.ba b
  obtain ⟨b6, b⟩ := He.ba b
  obtain ⟨b7, b⟩ := He.ba b
  obtain ⟨b8, b9⟩ := He.ba b
  unfold fnC at v
  cases lk : K.lookup (He.ma K (He.ga K x) "__init__") with
  | none =>
    rw [lk] at v
    cases v
  | some o =>
    obtain ⟨oc, od, dt, osl⟩ := o
    rw [lk] at v
    cases dt with
    | func fd =>
      obtain ⟨n1, n2, n3, n4, n5, n6, n7, n8, n9, n10, n11, n12, n13, n14, n15⟩ := fd
      have v : (some (n1, n2, n3, n4, n5, n6, n7.map (·.1), n8, n15) : FnC) = supV q st := v
      unfold supV at v
      simp only [Option.some.injEq, Prod.mk.injEq] at v
      obtain ⟨h1, h2, h3, h4, h5, h6, h7, h8, h9⟩ := v
      subst h1 h2 h3 h4 h5 h6 h8 h9
      match n7, h7 with
      | [(a, c)], h7 =>
        have ha : a = "__class__" := by simpa using h7
        subst ha
        have hcd : cdOf K (He.ma K (He.ga K x) "__init__") = n13 := by
          unfold cdOf
          rw [lk]
        have hcl : cloOf K (He.ma K (He.ga K x) "__init__") = c := by
          unfold cloOf
          rw [lk]
        rw [hcd] at b1 b2
        rw [hcl] at b3
        obtain ⟨cda, rfl⟩ := He.codeIn_ref b1
        refine ⟨c, cda, _, ⟨⟨oc, od, .none, n9, n10, n11, n12, n14, osl, rfl, lk⟩, b1, ?_, ?_, Option.isSome_iff_exists.mp b4, of_decide_eq_true b5, He.eqO_ok b6, He.eqO_ok b7, of_decide_eq_true b8, b9⟩, rfl⟩
        · have b2 : (match K.lookup cda with
            | some ⟨_, _, .fields vs, _⟩ => (match (vs[2]? : Option Value) with
              | some (.str file _) => (fnm == file)
              | _ => false)
            | _ => false) = true := b2
          cases q2 : K.lookup cda with
          | none =>
            rw [q2] at b2
            cases b2
          | some o2 =>
            obtain ⟨oc2, od2, dt2, osl2⟩ := o2
            rw [q2] at b2
            cases dt2 with
            | fields vs =>
              have b2 : (match (vs[2]? : Option Value) with
                | some (.str file _) => (fnm == file)
                | _ => false) = true := b2
              cases q3 : (vs[2]? : Option Value) with
              | none =>
                rw [q3] at b2
                cases b2
              | some z =>
                rw [q3] at b2
                cases z with
                | str file tf => exact ⟨oc2, od2, vs, osl2, file, tf, rfl, q3, by rw [hP]; exact b2⟩
                | _ => cases b2
            | _ => cases b2
        · cases q2 : K.lookup c with
          | none =>
            rw [q2] at b3
            cases b3
          | some o2 =>
            obtain ⟨oc2, od2, dt2, osl2⟩ := o2
            rw [q2] at b3
            cases dt2 with
            | cell z =>
              cases z with
              | none => cases b3
              | some z =>
                cases z with
                | ref C' =>
                  have e : C' = He.ga K x := of_decide_eq_true b3
                  rw [e]
                  exact ⟨oc2, od2, osl2, rfl⟩
                | _ => cases b3
            | _ => cases b3
    | _ => cases v
theorem txt_of (X : K.In h) (G : h.Ns mainGlobals mg) (c : He.SaysD faL fnL K) (ex : exB K = true) : Txt K mg := by
  obtain ⟨x1, x⟩ := He.ba ex
  obtain ⟨x2, x⟩ := He.ba x
  obtain ⟨x3, x⟩ := He.ba x
  obtain ⟨x4, _⟩ := He.ba x
  have exI : ∀ C, C ∈ clN → insB K C = true := fun C hC => List.all_eq_true.mp x1 C hC
  have exP := He.eqO_ok x3
  have exF := He.eqO_ok x4
  exact {
    d_is_integer := defN_of X G (c.def_ 0 (d := dd "is_integer" "is_integer" s_is_integer) rfl) (c.fact 0 (f := .glo "is_integer") rfl)
    d_is_within := defN_of X G (c.def_ 1 (d := dd "is_within" "is_within" s_is_within) rfl) (c.fact 1 (f := .glo "is_within") rfl)
    d_is_letter := defN_of X G (c.def_ 2 (d := dd "is_letter" "is_letter" s_is_letter) rfl) (c.fact 2 (f := .glo "is_letter") rfl)
    d_is_listed := defN_of X G (c.def_ 3 (d := dd "is_listed" "is_listed" s_is_listed) rfl) (c.fact 3 (f := .glo "is_listed") rfl)
    d_are_integers := defN_of X G (c.def_ 4 (d := dd "are_integers" "are_integers" s_are_integers) rfl) (c.fact 4 (f := .glo "are_integers") rfl)
    d_are_letters := defN_of X G (c.def_ 5 (d := dd "are_letters" "are_letters" s_are_letters) rfl) (c.fact 5 (f := .glo "are_letters") rfl)
    d_need_number := defN_of X G (c.def_ 6 (d := dd "need_number" "need_number" s_need_number) rfl) (c.fact 6 (f := .glo "need_number") rfl)
    d_contrary_of := defN_of X G (c.def_ 7 (d := dd "contrary_of" "contrary_of" s_contrary_of) rfl) (c.fact 7 (f := .glo "contrary_of") rfl)
    d_shortened_of := defN_of X G (c.def_ 8 (d := dd "shortened_of" "shortened_of" s_shortened_of) rfl) (c.fact 8 (f := .glo "shortened_of") rfl)
    d_rounded_of := defN_of X G (c.def_ 9 (d := dd "rounded_of" "rounded_of" s_rounded_of) rfl) (c.fact 9 (f := .glo "rounded_of") rfl)
    d_are_short := defN_of X G (c.def_ 10 (d := dd "are_short" "are_short" s_are_short) rfl) (c.fact 10 (f := .glo "are_short") rfl)
    d_need_few_words := defN_of X G (c.def_ 11 (d := dd "need_few_words" "need_few" s_need_few_words) rfl) (c.fact 11 (f := .glo "need_few_words") rfl)
    d_need_word := defN_of X G (c.def_ 12 (d := dd "need_word" "need_word" s_need_word) rfl) (c.fact 12 (f := .glo "need_word") rfl)
    d_need_rims := defN_of X G (c.def_ 13 (d := dd "need_rims" "need_rims" s_need_rims) rfl) (c.fact 13 (f := .glo "need_rims") rfl)
    d_need_place := defN_of X G (c.def_ 14 (d := dd "need_place" "need_place" s_need_place) rfl) (c.fact 14 (f := .glo "need_place") rfl)
    d_odd_kind := defN_of X G (c.def_ 15 (d := dd "odd_kind" "odd_kind" s_odd_kind) rfl) (c.fact 15 (f := .glo "odd_kind") rfl)
    d_nexts_of := defN_of X G (c.def_ 16 (d := dd "nexts_of" "nexts_of" s_nexts_of) rfl) (c.fact 16 (f := .glo "nexts_of") rfl)
    d_numbers_of := defN_of X G (c.def_ 17 (d := dd "numbers_of" "numbers_of" s_numbers_of) rfl) (c.fact 17 (f := .glo "numbers_of") rfl)
    d_need_sewing := defN_of X G (c.def_ 18 (d := dd "need_sewing" "need_sewing" s_need_sewing) rfl) (c.fact 18 (f := .glo "need_sewing") rfl)
    d_need_few_sewings := defN_of X G (c.def_ 19 (d := dd "need_few_sewings" "need_few" s_need_few_sewings) rfl) (c.fact 19 (f := .glo "need_few_sewings") rfl)
    d_kinds_of := defN_of X G (c.def_ 20 (d := dd "kinds_of" "kinds_of" s_kinds_of) rfl) (c.fact 20 (f := .glo "kinds_of") rfl)
    d_many_of := defN_of X G (c.def_ 21 (d := dd "many_of" "many_of" s_many_of) rfl) (c.fact 21 (f := .glo "many_of") rfl)
    d_sewn := defN_of X G (c.def_ 22 (d := dd "sewn" "sewn" s_sewn) rfl) (c.fact 22 (f := .glo "sewn") rfl)
    d_all_mates := defN_of X G (c.def_ 23 (d := dd "all_mates" "all_mates" s_all_mates) rfl) (c.fact 23 (f := .glo "all_mates") rfl)
    d_corners_of := defN_of X G (c.def_ 24 (d := dd "corners_of" "corners_of" s_corners_of) rfl) (c.fact 24 (f := .glo "corners_of") rfl)
    d_pieces_of := defN_of X G (c.def_ 25 (d := dd "pieces_of" "pieces_of" s_pieces_of) rfl) (c.fact 25 (f := .glo "pieces_of") rfl)
    d_are_mates := defN_of X G (c.def_ 26 (d := dd "are_mates" "are_mates" s_are_mates) rfl) (c.fact 26 (f := .glo "are_mates") rfl)
    d_all_sewings := defN_of X G (c.def_ 27 (d := dd "all_sewings" "all_sewings" s_all_sewings) rfl) (c.fact 27 (f := .glo "all_sewings") rfl)
    d_fixed := defN_of X G (c.def_ 28 (d := dd "fixed" "fixed" s_fixed) rfl) (c.fact 28 (f := .glo "fixed") rfl)
    d_need_words := defN_of X G (c.def_ 29 (d := dd "need_words" "need_words" s_need_words) rfl) (c.fact 29 (f := .glo "need_words") rfl)
    d_turn_of := defN_of X G (c.def_ 30 (d := dd "turn_of" "turn_of" s_turn_of) rfl) (c.fact 30 (f := .glo "turn_of") rfl)
    d_fellow_of := defN_of X G (c.def_ 31 (d := dd "fellow_of" "fellow_of" s_fellow_of) rfl) (c.fact 31 (f := .glo "fellow_of") rfl)
    d_tube := defN_of X G (c.def_ 32 (d := dd "tube" "tube" s_tube) rfl) (c.fact 32 (f := .glo "tube") rfl)
    d_tubes_of := defN_of X G (c.def_ 33 (d := dd "tubes_of" "tubes_of" s_tubes_of) rfl) (c.fact 33 (f := .glo "tubes_of") rfl)
    d_need_fresh := defN_of X G (c.def_ 34 (d := dd "need_fresh" "need_fresh" s_need_fresh) rfl) (c.fact 34 (f := .glo "need_fresh") rfl)
    d_round_from := defN_of X G (c.def_ 35 (d := dd "round_from" "round_from" s_round_from) rfl) (c.fact 35 (f := .glo "round_from") rfl)
    d_with_rows := defN_of X G (c.def_ 36 (d := dd "with_rows" "with_rows" s_with_rows) rfl) (c.fact 36 (f := .glo "with_rows") rfl)
    d_sewn_by := defN_of X G (c.def_ 37 (d := dd "sewn_by" "sewn_by" s_sewn_by) rfl) (c.fact 37 (f := .glo "sewn_by") rfl)
    d_banded := defN_of X G (c.def_ 38 (d := dd "banded" "banded" s_banded) rfl) (c.fact 38 (f := .glo "banded") rfl)
    d_banded_sewing := defN_of X G (c.def_ 39 (d := dd "banded_sewing" "banded_sewing" s_banded_sewing) rfl) (c.fact 39 (f := .glo "banded_sewing") rfl)
    d_unbanded := defN_of X G (c.def_ 40 (d := dd "unbanded" "unbanded" s_unbanded) rfl) (c.fact 40 (f := .glo "unbanded") rfl)
    d_cut := defN_of X G (c.def_ 41 (d := dd "cut" "cut" s_cut) rfl) (c.fact 41 (f := .glo "cut") rfl)
    d_cheapest := defN_of X G (c.def_ 42 (d := dd "cheapest" "cheapest" s_cheapest) rfl) (c.fact 42 (f := .glo "cheapest") rfl)
    d_in_one := defN_of X G (c.def_ 43 (d := dd "in_one" "in_one" s_in_one) rfl) (c.fact 43 (f := .glo "in_one") rfl)
    d_law_loom := defN_of X G (c.def_ 44 (d := dd "_law_loom" "_law_loom" s_law_loom) rfl) (c.fact 44 (f := .glo "_law_loom") rfl)
    d_law_spin := defN_of X G (c.def_ 45 (d := dd "_law_spin" "_law_spin" s_law_spin) rfl) (c.fact 45 (f := .glo "_law_spin") rfl)
    d_law_pick := defN_of X G (c.def_ 46 (d := dd "_law_pick" "_law_pick" s_law_pick) rfl) (c.fact 46 (f := .glo "_law_pick") rfl)
    d_law_mixed := defN_of X G (c.def_ 47 (d := dd "_law_mixed" "_law_mixed" s_law_mixed) rfl) (c.fact 47 (f := .glo "_law_mixed") rfl)
    d_law_sewings := defN_of X G (c.def_ 48 (d := dd "_law_sewings" "_law_sewings" s_law_sewings) rfl) (c.fact 48 (f := .glo "_law_sewings") rfl)
    d_law_rims := defN_of X G (c.def_ 49 (d := dd "_law_rims" "_law_rims" s_law_rims) rfl) (c.fact 49 (f := .glo "_law_rims") rfl)
    d_law_back := defN_of X G (c.def_ 50 (d := dd "_law_back" "_law_back" s_law_back) rfl) (c.fact 50 (f := .glo "_law_back") rfl)
    d_law_short := defN_of X G (c.def_ 51 (d := dd "_law_short" "_law_short" s_law_short) rfl) (c.fact 51 (f := .glo "_law_short") rfl)
    d_law_round := defN_of X G (c.def_ 52 (d := dd "_law_round" "_law_round" s_law_round) rfl) (c.fact 52 (f := .glo "_law_round") rfl)
    d_law_ring := defN_of X G (c.def_ 53 (d := dd "_law_ring" "_law_ring" s_law_ring) rfl) (c.fact 53 (f := .glo "_law_ring") rfl)
    d_law_cuts_right := defN_of X G (c.def_ 54 (d := dd "_law_cuts_right" "_law_cuts_right" s_law_cuts_right) rfl) (c.fact 54 (f := .glo "_law_cuts_right") rfl)
    d_law_parts_right := defN_of X G (c.def_ 55 (d := dd "_law_parts_right" "_law_parts_right" s_law_parts_right) rfl) (c.fact 55 (f := .glo "_law_parts_right") rfl)
    d_law_sums_right := defN_of X G (c.def_ 56 (d := dd "_law_sums_right" "_law_sums_right" s_law_sums_right) rfl) (c.fact 56 (f := .glo "_law_sums_right") rfl)
    d_law := defN_of X G (c.def_ 57 (d := dd "law" "law" s_law) rfl) (c.fact 57 (f := .glo "law") rfl)
    m_Word_init := metN_of (c.def_ 58 (d := dm "Word" "__init__" "Word.__init__" s_Word_init) rfl) (c.fact 58 (f := .meth "Word" "__init__") rfl)
    m_Word_contrary := metN_of (c.def_ 59 (d := dm "Word" "contrary" "Word.contrary" s_Word_contrary) rfl) (c.fact 59 (f := .meth "Word" "contrary") rfl)
    m_Word_shortened_round := metN_of (c.def_ 60 (d := dm "Word" "shortened_round" "Word.shortened_round" s_Word_shortened_round) rfl) (c.fact 60 (f := .meth "Word" "shortened_round") rfl)
    m_Word_len := metN_of (c.def_ 61 (d := dm "Word" "__len__" "Word.__len__" s_Word_len) rfl) (c.fact 61 (f := .meth "Word" "__len__") rfl)
    m_Word_eq := metN_of (c.def_ 62 (d := dm "Word" "__eq__" "Word.__eq__" s_Word_eq) rfl) (c.fact 62 (f := .meth "Word" "__eq__") rfl)
    m_Rims_init := metN_of (c.def_ 63 (d := dm "Rims" "__init__" "Rims.__init__" s_Rims_init) rfl) (c.fact 63 (f := .meth "Rims" "__init__") rfl)
    m_Rims_eq := metN_of (c.def_ 64 (d := dm "Rims" "__eq__" "Rims.__eq__" s_Rims_eq) rfl) (c.fact 64 (f := .meth "Rims" "__eq__") rfl)
    m_Sewing_init := metN_of (c.def_ 65 (d := dm "Sewing" "__init__" "Sewing.__init__" s_Sewing_init) rfl) (c.fact 65 (f := .meth "Sewing" "__init__") rfl)
    m_Sewing_eq := metN_of (c.def_ 66 (d := dm "Sewing" "__eq__" "Sewing.__eq__" s_Sewing_eq) rfl) (c.fact 66 (f := .meth "Sewing" "__eq__") rfl)
    m_Paper_init := metN_of (c.def_ 67 (d := dm "Paper" "__init__" "Paper.__init__" s_Paper_init) rfl) (c.fact 67 (f := .meth "Paper" "__init__") rfl)
    m_Paper_bool := metN_of (c.def_ 68 (d := dm "Paper" "__bool__" "Paper.__bool__" s_Paper_bool) rfl) (c.fact 68 (f := .meth "Paper" "__bool__") rfl)
    g_Word := He.glo_ok X G (c.fact 69 (f := .glo "Word") rfl)
    i_Word := insC_of (He.cls_ok (c.fact 70 (f := .cls "Word") rfl)) (exI "Word" (by decide))
    k_Word := He.mkr_ok (c.fact 71 (f := .mkr "Word") rfl)
    g_Rims := He.glo_ok X G (c.fact 72 (f := .glo "Rims") rfl)
    i_Rims := insC_of (He.cls_ok (c.fact 73 (f := .cls "Rims") rfl)) (exI "Rims" (by decide))
    k_Rims := He.mkr_ok (c.fact 74 (f := .mkr "Rims") rfl)
    g_Sewing := He.glo_ok X G (c.fact 75 (f := .glo "Sewing") rfl)
    i_Sewing := insC_of (He.cls_ok (c.fact 76 (f := .cls "Sewing") rfl)) (exI "Sewing" (by decide))
    k_Sewing := He.mkr_ok (c.fact 77 (f := .mkr "Sewing") rfl)
    g_Paper := He.glo_ok X G (c.fact 78 (f := .glo "Paper") rfl)
    i_Paper := insC_of (He.cls_ok (c.fact 79 (f := .cls "Paper") rfl)) (exI "Paper" (by decide))
    g_Tube := He.glo_ok X G (c.fact 80 (f := .glo "Tube") rfl)
    i_Tube := insC_of (He.cls_ok (c.fact 81 (f := .cls "Tube") rfl)) (exI "Tube" (by decide))
    k_Tube := He.mkr_ok (c.fact 82 (f := .mkr "Tube") rfl)
    g_Cheapest := He.glo_ok X G (c.fact 83 (f := .glo "Cheapest") rfl)
    i_Cheapest := insC_of (He.cls_ok (c.fact 84 (f := .cls "Cheapest") rfl)) (exI "Cheapest" (by decide))
    k_Cheapest := He.mkr_ok (c.fact 85 (f := .mkr "Cheapest") rfl)
    g_InOne := He.glo_ok X G (c.fact 86 (f := .glo "InOne") rfl)
    i_InOne := insC_of (He.cls_ok (c.fact 87 (f := .cls "InOne") rfl)) (exI "InOne" (by decide))
    k_InOne := He.mkr_ok (c.fact 88 (f := .mkr "InOne") rfl)
    n_Word_letters := He.noat_ok (c.fact 89 (f := .noat "Word" "letters") rfl)
    n_Word_length := He.noat_ok (c.fact 90 (f := .noat "Word" "length") rfl)
    n_Word_kinds := He.noat_ok (c.fact 91 (f := .noat "Word" "kinds") rfl)
    n_Word_is_short := He.noat_ok (c.fact 92 (f := .noat "Word" "is_short") rfl)
    n_Word_is_short_round := He.noat_ok (c.fact 93 (f := .noat "Word" "is_short_round") rfl)
    n_Rims_words := He.noat_ok (c.fact 94 (f := .noat "Rims" "words") rfl)
    n_Rims_letters := He.noat_ok (c.fact 95 (f := .noat "Rims" "letters") rfl)
    n_Rims_many := He.noat_ok (c.fact 96 (f := .noat "Rims" "many") rfl)
    n_Rims_bands := He.noat_ok (c.fact 97 (f := .noat "Rims" "bands") rfl)
    n_Rims_is_short := He.noat_ok (c.fact 98 (f := .noat "Rims" "is_short") rfl)
    n_Rims_nexts := He.noat_ok (c.fact 99 (f := .noat "Rims" "nexts") rfl)
    n_Rims_numbers := He.noat_ok (c.fact 100 (f := .noat "Rims" "numbers") rfl)
    n_Sewing_rims := He.noat_ok (c.fact 101 (f := .noat "Sewing" "rims") rfl)
    n_Sewing_mates := He.noat_ok (c.fact 102 (f := .noat "Sewing" "mates") rfl)
    n_Sewing_corners := He.noat_ok (c.fact 103 (f := .noat "Sewing" "corners") rfl)
    n_Sewing_cost := He.noat_ok (c.fact 104 (f := .noat "Sewing" "cost") rfl)
    n_Sewing_pieces := He.noat_ok (c.fact 105 (f := .noat "Sewing" "pieces") rfl)
    n_Sewing_handles := He.noat_ok (c.fact 106 (f := .noat "Sewing" "handles") rfl)
    n_Tube_word := He.noat_ok (c.fact 107 (f := .noat "Tube" "word") rfl)
    n_Tube_parts := He.noat_ok (c.fact 108 (f := .noat "Tube" "parts") rfl)
    n_Tube_turn := He.noat_ok (c.fact 109 (f := .noat "Tube" "turn") rfl)
    n_Cheapest_word := He.noat_ok (c.fact 110 (f := .noat "Cheapest" "word") rfl)
    n_Cheapest_parts := He.noat_ok (c.fact 111 (f := .noat "Cheapest" "parts") rfl)
    n_Cheapest_cost := He.noat_ok (c.fact 112 (f := .noat "Cheapest" "cost") rfl)
    n_Cheapest_mates := He.noat_ok (c.fact 113 (f := .noat "Cheapest" "mates") rfl)
    n_InOne_word := He.noat_ok (c.fact 114 (f := .noat "InOne" "word") rfl)
    n_InOne_parts := He.noat_ok (c.fact 115 (f := .noat "InOne" "parts") rfl)
    n_InOne_handles := He.noat_ok (c.fact 116 (f := .noat "InOne" "handles") rfl)
    n_InOne_mates := He.noat_ok (c.fact 117 (f := .noat "InOne" "mates") rfl)
    z_isinstance := He.free_ok X G (c.fact 118 (f := .free "isinstance") rfl)
    z_int := He.free_ok X G (c.fact 119 (f := .free "int") rfl)
    z_bool := He.free_ok X G (c.fact 120 (f := .free "bool") rfl)
    z_list := He.free_ok X G (c.fact 121 (f := .free "list") rfl)
    z_tuple := He.free_ok X G (c.fact 122 (f := .free "tuple") rfl)
    z_all := He.free_ok X G (c.fact 123 (f := .free "all") rfl)
    z_any := He.free_ok X G (c.fact 124 (f := .free "any") rfl)
    z_len := He.free_ok X G (c.fact 125 (f := .free "len") rfl)
    z_range := He.free_ok X G (c.fact 126 (f := .free "range") rfl)
    z_zip := He.free_ok X G (c.fact 127 (f := .free "zip") rfl)
    z_enumerate := He.free_ok X G (c.fact 128 (f := .free "enumerate") rfl)
    z_sorted := He.free_ok X G (c.fact 129 (f := .free "sorted") rfl)
    z_abs := He.free_ok X G (c.fact 130 (f := .free "abs") rfl)
    z_min := He.free_ok X G (c.fact 131 (f := .free "min") rfl)
    z_max := He.free_ok X G (c.fact 132 (f := .free "max") rfl)
    z_set := He.free_ok X G (c.fact 133 (f := .free "set") rfl)
    v_LAST_KIND := He.int_ok X G (c.fact 134 (f := .int "LAST_KIND" 26) rfl)
    v_MOST_LETTERS_words := He.int_ok X G (c.fact 135 (f := .int "MOST_LETTERS_words" 500) rfl)
    v_MOST_WORDS := He.int_ok X G (c.fact 136 (f := .int "MOST_WORDS" 4) rfl)
    v_MOST_LETTERS_rims := He.int_ok X G (c.fact 137 (f := .int "MOST_LETTERS_rims" 24) rfl)
    v_MOST_SEWINGS := He.int_ok X G (c.fact 138 (f := .int "MOST_SEWINGS" 720) rfl)
    g_permutations := PySem.W.mg_of X G exP
    g_factorial := PySem.W.mg_of X G exF
  }
theorem txt2_of (X : K.In h) (G : h.Ns mainGlobals mg) (c : He.SaysD faL fnL K) (ex : exB K = true) (sv : fnCs K = valY.2.1) {P : Program} (hP : P.main.file = fnm) (ht : (P.main.scope.names.lookup ("super" : Str)).isSome = false) : Txt2 P K mg := by
  obtain ⟨x1, x⟩ := He.ba ex
  obtain ⟨x2, x⟩ := He.ba x
  have exS : ∀ p, p ∈ supN → supB K p.1 p.2 = true := fun p hp => List.all_eq_true.mp x2 p hp
  have e0 : fnC K "Tube" = supV "Tube.__init__" s_Tube_init := (List.cons.inj sv).1
  have e12 := (List.cons.inj sv).2
  have e1 : fnC K "Cheapest" = supV "Cheapest.__init__" s_Cheapest_init := (List.cons.inj e12).1
  have e2 : fnC K "InOne" = supV "InOne.__init__" s_InOne_init := (List.cons.inj (List.cons.inj e12).2).1
  exact ⟨He.free_ok X G (c.fact 139 (f := .free "super") rfl), ht, sup_of hP (exS ("Tube", "Tube.__init__") (by simp [supN])) e0, sup_of hP (exS ("Cheapest", "Cheapest.__init__") (by simp [supN])) e1, sup_of hP (exS ("InOne", "InOne.__init__") (by simp [supN])) e2⟩
theorem tabs_ne (ex : exB K = true) : (He.cT K ("cheapest", none)).2 ≠ (He.cT K ("in_one", none)).2 := fun z => by
  obtain ⟨x1, x⟩ := He.ba ex
  obtain ⟨x2, x⟩ := He.ba x
  obtain ⟨x3, x⟩ := He.ba x
  obtain ⟨_, x5⟩ := He.ba x
  rw [decide_eq_true z] at x5
  cases x5
theorem txt3_of (c : He.SaysD faL fnL K) : Txt3 K := ⟨metN_of (c.def_ 69 (d := dm "Tube" "__bool__" "Paper.__bool__" s_Paper_bool) rfl) (c.fact 140 (f := .meth "Tube" "__bool__") rfl)⟩
end
end Hw
/-! H4 -/
/-! H4: the end. -/
namespace Hw
open PySem PySem.Spec PyProof.Rows L2 HR RZ
theorem file_eq : (PySem.Challenge.rw_handlerims_k97_whole_cut_banded_put_toge).prog.main.file = fnm := by rfl
theorem super_eq : ((PySem.Challenge.rw_handlerims_k97_whole_cut_banded_put_toge).prog.main.scope.names.lookup ("super" : Str)).isSome = false := by decide +kernel
theorem law_name : (HandSHeadRun.topDef R0.prog 107).name = ("law" : Str) := by kernel_rfl
theorem law_at {w : World} {mg : Str → Option Value} {fa : Addr} {h : Heap} {K : PySem.W.Frag} (X : K.In h) (G : h.Ns mainGlobals mg) (c : SaysY h K) (hmg : mg ("law" : Str) = some (.ref fa)) :
    LamX.LawAtS PySem.Challenge.rw_handlerims_k97_whole_cut_banded_put_toge w K CX0 12 63 "_law_script" mg fa h := by
  have T := txt_of X G c.d c.more
  have T2 := txt2_of X G c.d c.more c.sup file_eq super_eq
  have T3 := txt3_of c.d
  obtain ⟨f, fd, F, hm, kp, df⟩ := T.d_law
  have e : fa = f := by
    rw [hm] at hmg
    exact (Value.ref.inj (Option.some.inj hmg)).symm
  subst e
  -- the two with lambdas
  have dl : ∀ {x : Str} {st : Stmt}, DefN K mg x x st → mg x = some (.ref (He.ga K x)) → ((x, none) : He.Defn) ∈ tfL → ∀ base : Heap, LamX.TabB base mg (He.cT K (x, none)).1 (He.cT K (x, none)).2 → DefL K base mg x st (He.cT K (x, none)).1 (He.cT K (x, none)).2 := fun {x st} D hg ht base tb => by
    obtain ⟨f2, fd2, F2, hm2, kp2, df2⟩ := D
    have e2 : f2 = He.ga K x := by
      rw [hm2] at hg
      exact Value.ref.inj (Option.some.inj hg)
    subst e2
    obtain ⟨oc, od, dV, kV, doc, pm, an, cdv, ct, osl, rfl, lk, hcd⟩ := F2.ex
    have hd : dV = .none := df2
    subst hd
    obtain ⟨c2, rfl⟩ := He.codeIn_ref hcd
    have ec : (He.cT K (x, none)).1 = c2 := He.codeOf_eq (p := (x, none)) lk rfl
    refine ⟨⟨_, oc, od, kV, doc, pm, an, ct, osl, ?_, hm2, kp2⟩, ?_, tb⟩
    · rw [ec]
      exact lk
    · rw [ec]
      exact hcd
  refine ⟨fd, [He.cT K ("cheapest", none), He.cT K ("in_one", none)], sp_law K [((He.cT K ("cheapest", none)).2, qC), ((He.cT K ("in_one", none)).2, qI)], fun p hp => ?_, fun p hp => ?_, fun p hp => ?_, fun s u => ?_, fun H a ns hl _ ht hs => ?_, fun base hb hG hT => ?_⟩
  · rcases List.mem_cons.mp hp with e | e
    · rw [e]; exact c.empty _ (by simp [tfL])
    · rw [List.mem_singleton.mp e]; exact c.empty _ (by simp [tfL])
  · rcases List.mem_cons.mp hp with e | e
    · rw [e]; exact c.out _ (by simp [tfL])
    · rw [List.mem_singleton.mp e]; exact c.out _ (by simp [tfL])
  · rcases List.mem_cons.mp hp with e | e
    · rw [e]; exact PySem.W.codeHd_of_K X (c.hd _ (by simp [tfL]))
    · rw [List.mem_singleton.mp e]; exact PySem.W.codeHd_of_K X (c.hd _ (by simp [tfL]))
  · obtain ⟨oc, od, dV, kV, doc, pm, an, cdv, ct, osl, rfl, lk, hcd⟩ := F.ex
    have hd : dV = .none := df
    subst hd
    exact .of_eq rfl
  · refine ⟨a, ns, rfl, hs, by omega, fun p hp => ?_, fun _ => rfl⟩
    rcases List.mem_cons.mp hp with e | e
    · rw [e]; exact LamX.TabS.nil (ht _ (by simp))
    · rw [List.mem_singleton.mp e]; exact LamX.TabS.nil (ht _ (by simp))
  · have ne := tabs_ne c.more
    have hT1 := hT _ (by simp : He.cT K ("cheapest", none) ∈ _)
    have hT2 := hT _ (by simp : He.cT K ("in_one", none) ∈ _)
    have L1 := dl T.d_cheapest (by obtain ⟨f2, _, _, hm2, _⟩ := T.d_cheapest; exact He.glo_ok X G (c.d.fact 42 (f := .glo "cheapest") rfl)) (by simp [tfL]) base hT1
    have L2 := dl T.d_in_one (by exact He.glo_ok X G (c.d.fact 43 (f := .glo "in_one") rfl)) (by simp [tfL]) base hT2
    exact ok_law T T2 T3 L1 (by simp) (fun p hp e => by
      rcases List.mem_cons.mp hp with z | z
      · rw [z]
      · rw [List.mem_singleton.mp z] at e
        exact absurd e.symm ne) L2 (by simp) (fun p hp e => by
      rcases List.mem_cons.mp hp with z | z
      · rw [z] at e
        exact absurd e ne
      · rw [List.mem_singleton.mp z]) F
end Hw
open PySem PySem.W PySem.Calls PyProof.Rows
theorem PySem.Challenge.cw_handlerims_k97_whole_cut_banded_put_toge_holds : PySem.Challenge.rw_handlerims_k97_whole_cut_banded_put_toge.Holds := by
  w_on; o_law
  refine HandSHeadRun.head_imp (r := Hw.R0) (q := Hw.qv) (H := Hw.hookY) (ob := Hw.obT) (M := 20000) (loose := Hw.looseN) (d := HandSHeadRun.topDef Hw.R0.prog 107) (kwd := []) Hw.obT_eq Hw.run (by kernel_rfl) (by kernel_rfl) (by kernel_rfl) (by rfl) (by first | assumption | decide +kernel) (by decide +kernel) ⟨rfl, rfl, rfl, rfl, rfl, by decide +kernel⟩ ?hw ?hc
  case hw => w_witness2
  case hc =>
    refine LamX.walk_ofTsE (l := PySem.Challenge.rw_handlerims_k97_whole_cut_banded_put_toge) (n := 63) (k := 12) (x := "_law_script") (CX := fun _ => L2.CX0) rfl (by decide) (by kernel_rfl) ⟨rfl, by decide, by decide⟩ ?F (fun _ _ _ _ _ z => z)
    intro w mg fa h Y G hmg0
    obtain ⟨K, KX, c⟩ := Y
    have hmg : mg ("law" : PySem.Str) = some (.ref fa) := by
      rw [← Hw.law_name]
      exact hmg0
    exact ⟨K, KX, Hw.law_at KX G c hmg⟩
