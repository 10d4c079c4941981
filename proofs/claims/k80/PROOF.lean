import PyProof.Rows.All
import Wide.All
import OpenK.AllK
import Wide.FinOn
import KE.KStateDown
import Lean
import HandS.ForMost
import HandS.More
import HandS.Words
import HandS.WordsList
import HandS.WordsDict
import HandS.WordsExc
import HandS.Defaults
import HandS.IsInst
import HandS.OwnEq
import HandS.Deep
import HandS.Codes
import HandS.Head0
import HandS.Head1
import HandS.Head2
import HandS.HeadEnd
import HandS.HeadHook1
import HandS.HeadHook2
import HandS.HeadHook3
import HandS.HeadHook4
import PySem.Challenge.RW_rootpledge_k80_whole_late_as_in_time
import HandS.Walk
import HandS.SetFor
import HandS.Style
import HandS.TupSets
import PyProof.InstNe
import PyProof.NeKinds
import HandS.SortKw
import HandS.ExcValue
import KE.SortKeyHeap
import HandS.ListItems
import KE.KDictCopyH
set_option Elab.async false
set_option linter.all false
set_option maxRecDepth 100000
set_option maxHeartbeats 4000000
/-! rootpledge k80: the base: defs by names, calls by their promises -/
namespace RP
open PySem PySem.Spec PyProof.Rows L2
def top (i : Nat) : Stmt := PySem.Challenge.pw_rootpledge_k80_whole_late_as_in_time.main.body.getD i (.Pass ⟨0, 0, 0, 0⟩)

/-! ### promises: the number of arguments first -/
def spA (n : Nat) (R : List V → Hp → VK → Prop) : Sp := fun vs H Q _ => vs.length = n ∧ R vs H Q

/-! ### defs, methods, classes that keep a promise -/
section
variable (P : Program) (w : World) (K : PySem.W.Frag) (mg : Str → Option Value) (base : Heap)
/-- the module's def x; the written arguments are followed by dvs -/
structure Fx (x : Str) (n : Nat) (dvs : List V) (sp : Sp) : Prop where
  ex : ∃ (f : Addr) (fd : FuncData) (ps : List Str) (ds : List Value), mg x = some (.ref f) ∧ PySem.W.keepIn K (.ref f) = true ∧ FnOk P w K mg base CX0 n f fd ps sp ∧ Binds K fd ps ds ∧ Vals dvs ds
/-- the method m of the class at C -/
structure Mx (C : Addr) (m : Str) (n : Nat) (sp : Sp) : Prop where
  cl : Cls K C
  ex : ∃ (f : Addr) (fd : FuncData) (ps : List Str), Meth K C m f ∧ FnOk P w K mg base CX0 n f fd ps sp ∧ Binds K fd ps []
/-- the class x at C, made by its __init__ -/
structure Nx (C : Addr) (x : Str) (n : Nat) (dvs : List V) (sp : Sp) : Prop where
  ex : ∃ (f : Addr) (fd : FuncData) (ps : List Str) (ds : List Value), mg x = some (.ref C) ∧ Mk K C f ∧ FnOk P w K mg base CX0 n f fd ps sp ∧ Binds K fd ps ds ∧ Vals dvs ds
end
section
variable {X : Cx} {n : Nat} {dvs : List V} {sp : Sp} {x m : Str} {C : Addr} {p pos apos : Pos} {e o : Expr} {es : List Expr} {t : TA} {ta : TE}
theorem pe_f (F : Fx X.prog X.w X.K X.mg X.base x n dvs sp) (hr : Room n X.A) (ha : PA X (e :: es) t) (hg : Gl X x := by rfl) (hdb : (x == ("__debug__" : Str)) = false := by decide)
    (he : starEach (e :: es) X.env = (false, eval e X.env) :: starEach es X.env := by rfl) (hpl : (backTo pos (starEach es X.env)).any (·.1) = false := by rfl) : PE X (.Call (.Name x p) (e :: es) [] pos) (tCall sp dvs E0 t) := by
  obtain ⟨f, fd, ps, ds, hm, hk, G, hb, hd⟩ := F.ex
  exact pe_call G hr hg hm hk hb hd pass0 ha hdb he hpl
theorem pe_m {pl : Sem Bool} (M : Mx X.prog X.w X.K X.mg X.base C m n sp) (hr : Room n X.A) (ho : PE X o ta) (ha : PA X (e :: es) t)
    (hst : starEach (e :: es) X.env = (false, eval e X.env) :: starEach es X.env := by rfl) (hpl : (backTo pos (starEach es X.env)).any (·.1) = false := by rfl)
    (ht : eval (.Call (.Attribute o m apos) (e :: es) [] pos) X.env = (do
      let ov ← eval o X.env
      standAt apos.atName
      let (f, first) ← holding [ov] (getMethod ov m pl)
      callWith pos f first (backTo pos (starEach (e :: es) X.env)) (backToKw pos (keywordEach [] X.env))) := by rfl) :
    PE X (.Call (.Attribute o m apos) (e :: es) [] pos) (tMeth C m sp [] E0 ta t) := by
  obtain ⟨f, fd, ps, hm, G, hb⟩ := M.ex
  exact pe_meth (pl := pl) ho M.cl hm G hr hb .nil pass0 ha hst hpl ht
theorem pe_m0 {pl : Sem Bool} (M : Mx X.prog X.w X.K X.mg X.base C m n sp) (hr : Room n X.A) (ho : PE X o ta)
    (ht : eval (.Call (.Attribute o m apos) [] [] pos) X.env = (do
      let ov ← eval o X.env
      standAt apos.atName
      let (f, first) ← holding [ov] (getMethod ov m pl)
      callWith pos f first (backTo pos (starEach [] X.env)) (backToKw pos (keywordEach [] X.env))) := by rfl) :
    PE X (.Call (.Attribute o m apos) [] [] pos) (tMeth C m sp [] E0 ta tNil) := by
  obtain ⟨f, fd, ps, hm, G, hb⟩ := M.ex
  exact pe_meth0 (pl := pl) ho M.cl hm G hr hb .nil pass0 ht
theorem pe_n (M : Nx X.prog X.w X.K X.mg X.base C x n dvs sp) (hr : Room (n + 1) X.A) (ha : PA X (e :: es) t) (hg : Gl X x := by rfl) (hdb : (x == ("__debug__" : Str)) = false := by decide)
    (he : starEach (e :: es) X.env = (false, eval e X.env) :: starEach es X.env := by rfl) (hpl : (backTo pos (starEach es X.env)).any (·.1) = false := by rfl) : PE X (.Call (.Name x p) (e :: es) [] pos) (tMake C sp dvs E0 t) := by
  obtain ⟨f, fd, ps, ds, hm, hk, G, hb, hd⟩ := M.ex
  exact pe_make hk G hr hg hm hb hd pass0 ha hdb he hpl
end
/-! ### a def's proof -/
section
variable {P : Program} {w : World} {K : PySem.W.Frag} {mg : Str → Option Value} {base : Heap} {qual : Str} {st : Stmt} {N ps : List Str} {k n : Nat} {f : Addr} {R : List V → Hp → VK → Prop} {x m : Str} {C : Addr} {dfl : List V} {kws : List (Str × V)} {fd : FuncData}
/-- a def's body: its term and its reading -/
theorem fn_body (F : FunD K x qual (defArgs st) (defBody st) (defScope st) dfl kws f fd) (S : FnScope N ps (defScope st)) (hn : ps.length = n)
    (hbody : ∀ (cdv : Value) (A : Around) (outer : List Env) (s : Shared) (H : Hp) (vs : List V) (Q : VK) (E : XK), Room k (A.deeper (envOfC qual (defScope st) s.heap.objs.size f cdv)) → R vs H Q →
      ∃ t, PSs (cxOf CX0 P w K mg base N qual (defScope st) f cdv A outer s H E).nox (defBody st) t ∧ t { nx := fun _ H' => Q .non H', rt := Q } (start N vs) H) : FnOk P w K mg base CX0 (k + 1) f fd ps (spA n R) := by
  refine F.ok S (fun vs H Q E h => by rw [hn]; exact h.1) fun cdv A outer s H vs Q E hr h => ?_
  obtain ⟨t, h1, h2⟩ := hbody cdv A outer s H vs Q E hr h.2
  exact ⟨t, h1.nox, h2⟩
end
end RP
set_option Elab.async false
set_option linter.all false
set_option maxRecDepth 100000
set_option maxHeartbeats 4000000

/-! rootpledge k80: the defs by places, what the top has written, by names (printed by hgen.py) -/
namespace RP
open PySem PySem.Spec PyProof.Rows L2
abbrev s_is_whole : Stmt := top 15
theorem sc_is_whole : FnScope ["thing"] ["thing"] (defScope s_is_whole) := ⟨rfl, rfl, rfl, by decide +kernel, rfl, by decide +kernel, by decide +kernel⟩
abbrev s_is_between : Stmt := top 16
theorem sc_is_between : FnScope ["thing", "least", "most"] ["thing", "least", "most"] (defScope s_is_between) := ⟨rfl, rfl, rfl, by decide +kernel, rfl, by decide +kernel, by decide +kernel⟩
abbrev s_is_from : Stmt := top 17
theorem sc_is_from : FnScope ["thing", "least"] ["thing", "least"] (defScope s_is_from) := ⟨rfl, rfl, rfl, by decide +kernel, rfl, by decide +kernel, by decide +kernel⟩
abbrev s_is_name : Stmt := top 18
theorem sc_is_name : FnScope ["thing", "sign"] ["thing"] (defScope s_is_name) := ⟨rfl, rfl, rfl, by decide +kernel, rfl, by decide +kernel, by decide +kernel⟩
abbrev s_common : Stmt := top 19
theorem sc_common : FnScope ["one", "other"] ["one", "other"] (defScope s_common) := ⟨rfl, rfl, rfl, by decide +kernel, rfl, by decide +kernel, by decide +kernel⟩
abbrev s_Part_init : Stmt := inClass (top 20) 0
theorem sc_Part_init : FnScope ["self", "top", "bottom", "by"] ["self", "top", "bottom"] (defScope s_Part_init) := ⟨rfl, rfl, rfl, by decide +kernel, rfl, by decide +kernel, by decide +kernel⟩
abbrev s_Part_eq : Stmt := inClass (top 20) 1
theorem sc_Part_eq : FnScope ["self", "other"] ["self", "other"] (defScope s_Part_eq) := ⟨rfl, rfl, rfl, by decide +kernel, rfl, by decide +kernel, by decide +kernel⟩
abbrev s_plus : Stmt := top 21
theorem sc_plus : FnScope ["one", "other"] ["one", "other"] (defScope s_plus) := ⟨rfl, rfl, rfl, by decide +kernel, rfl, by decide +kernel, by decide +kernel⟩
abbrev s_minus : Stmt := top 22
theorem sc_minus : FnScope ["one", "other"] ["one", "other"] (defScope s_minus) := ⟨rfl, rfl, rfl, by decide +kernel, rfl, by decide +kernel, by decide +kernel⟩
abbrev s_less : Stmt := top 23
theorem sc_less : FnScope ["one", "other"] ["one", "other"] (defScope s_less) := ⟨rfl, rfl, rfl, by decide +kernel, rfl, by decide +kernel, by decide +kernel⟩
abbrev s_is_grade : Stmt := top 33
theorem sc_is_grade : FnScope ["thing"] ["thing"] (defScope s_is_grade) := ⟨rfl, rfl, rfl, by decide +kernel, rfl, by decide +kernel, by decide +kernel⟩
abbrev s_are_grades : Stmt := top 34
theorem sc_are_grades : FnScope ["thing", "one", "k"] ["thing"] (defScope s_are_grades) := ⟨rfl, rfl, rfl, by decide +kernel, rfl, by decide +kernel, by decide +kernel⟩
abbrev s_Breed_init : Stmt := inClass (top 35) 0
theorem sc_Breed_init : FnScope ["self", "name", "grades"] ["self", "name", "grades"] (defScope s_Breed_init) := ⟨rfl, rfl, rfl, by decide +kernel, rfl, by decide +kernel, by decide +kernel⟩
abbrev s_first_wrong : Stmt := top 36
theorem sc_first_wrong : FnScope ["rows", "word", "is_so"] ["rows"] (defScope s_first_wrong) := ⟨rfl, rfl, rfl, by decide +kernel, rfl, by decide +kernel, by decide +kernel⟩
abbrev s_Bed_init : Stmt := inClass (top 37) 0
theorem sc_Bed_init : FnScope ["self", "name", "breed", "owner", "roots", "guess", "offsets", "kind", "rows", "wrong"] ["self", "name", "breed", "owner", "roots", "guess", "offsets", "kind"] (defScope s_Bed_init) := ⟨rfl, rfl, rfl, by decide +kernel, rfl, by decide +kernel, by decide +kernel⟩
abbrev s_are_unlike : Stmt := top 38
theorem sc_are_unlike : FnScope ["names"] ["names"] (defScope s_are_unlike) := ⟨rfl, rfl, rfl, by decide +kernel, rfl, by decide +kernel, by decide +kernel⟩
abbrev s_are_breeds : Stmt := top 39
theorem sc_are_breeds : FnScope ["thing", "one"] ["thing"] (defScope s_are_breeds) := ⟨rfl, rfl, rfl, by decide +kernel, rfl, by decide +kernel, by decide +kernel⟩
abbrev s_are_beds : Stmt := top 40
theorem sc_are_beds : FnScope ["thing", "one"] ["thing"] (defScope s_are_beds) := ⟨rfl, rfl, rfl, by decide +kernel, rfl, by decide +kernel, by decide +kernel⟩
abbrev s_Field_init : Stmt := inClass (top 41) 0
theorem sc_Field_init : FnScope ["self", "breeds", "beds", "one"] ["self", "breeds", "beds"] (defScope s_Field_init) := ⟨rfl, rfl, rfl, by decide +kernel, rfl, by decide +kernel, by decide +kernel⟩
abbrev s_Field_bed_of : Stmt := inClass (top 41) 3
theorem sc_Field_bed_of : FnScope ["self", "name"] ["self", "name"] (defScope s_Field_bed_of) := ⟨rfl, rfl, rfl, by decide +kernel, rfl, by decide +kernel, by decide +kernel⟩
abbrev s_Field_bed_names : Stmt := inClass (top 41) 4
theorem sc_Field_bed_names : FnScope ["self"] ["self"] (defScope s_Field_bed_names) := ⟨rfl, rfl, rfl, by decide +kernel, rfl, by decide +kernel, by decide +kernel⟩
abbrev s_is_thing : Stmt := top 46
theorem sc_is_thing : FnScope ["thing"] ["thing"] (defScope s_is_thing) := ⟨rfl, rfl, rfl, by decide +kernel, rfl, by decide +kernel, by decide +kernel⟩
abbrev s_has : Stmt := top 47
theorem sc_has : FnScope ["field", "thing", "bed"] ["field", "thing"] (defScope s_has) := ⟨rfl, rfl, rfl, by decide +kernel, rfl, by decide +kernel, by decide +kernel⟩
abbrev s_is_rule : Stmt := top 48
theorem sc_is_rule : FnScope ["rule"] ["rule"] (defScope s_is_rule) := ⟨rfl, rfl, rfl, by decide +kernel, rfl, by decide +kernel, by decide +kernel⟩
abbrev s_goes_with : Stmt := top 49
theorem sc_goes_with : FnScope ["rule", "thing"] ["rule", "thing"] (defScope s_goes_with) := ⟨rfl, rfl, rfl, by decide +kernel, rfl, by decide +kernel, by decide +kernel⟩
abbrev s_is_going : Stmt := top 50
theorem sc_is_going : FnScope ["offsets", "thing"] ["offsets", "thing"] (defScope s_is_going) := ⟨rfl, rfl, rfl, by decide +kernel, rfl, by decide +kernel, by decide +kernel⟩
abbrev s_Promise_init : Stmt := inClass (top 51) 0
theorem sc_Promise_init : FnScope ["self", "number", "moment", "seller", "buyer", "thing", "price", "rule", "offsets", "earnest", "rows", "wrong"] ["self", "number", "moment", "seller", "buyer", "thing", "price", "rule", "offsets", "earnest"] (defScope s_Promise_init) := ⟨rfl, rfl, rfl, by decide +kernel, rfl, by decide +kernel, by decide +kernel⟩
abbrev s_Promise_told : Stmt := inClass (top 51) 1
theorem sc_Promise_told : FnScope ["self", "first"] ["self"] (defScope s_Promise_told) := ⟨rfl, rfl, rfl, by decide +kernel, rfl, by decide +kernel, by decide +kernel⟩
abbrev s_Promise_eq : Stmt := inClass (top 51) 2
theorem sc_Promise_eq : FnScope ["self", "other"] ["self", "other"] (defScope s_Promise_eq) := ⟨rfl, rfl, rfl, by decide +kernel, rfl, by decide +kernel, by decide +kernel⟩
abbrev s_Spoiling_init : Stmt := inClass (top 52) 0
theorem sc_Spoiling_init : FnScope ["self", "number", "moment", "bed", "wrong"] ["self", "number", "moment", "bed"] (defScope s_Spoiling_init) := ⟨rfl, rfl, rfl, by decide +kernel, rfl, by decide +kernel, by decide +kernel⟩
abbrev s_Spoiling_eq : Stmt := inClass (top 52) 1
theorem sc_Spoiling_eq : FnScope ["self", "other"] ["self", "other"] (defScope s_Spoiling_eq) := ⟨rfl, rfl, rfl, by decide +kernel, rfl, by decide +kernel, by decide +kernel⟩
abbrev s_is_line : Stmt := top 55
theorem sc_is_line : FnScope ["thing"] ["thing"] (defScope s_is_line) := ⟨rfl, rfl, rfl, by decide +kernel, rfl, by decide +kernel, by decide +kernel⟩
abbrev s_when : Stmt := top 56
theorem sc_when : FnScope ["line"] ["line"] (defScope s_when) := ⟨rfl, rfl, rfl, by decide +kernel, rfl, by decide +kernel, by decide +kernel⟩
abbrev s_in_time : Stmt := top 57
theorem sc_in_time : FnScope ["lines"] ["lines"] (defScope s_in_time) := ⟨rfl, rfl, rfl, by decide +kernel, rfl, by decide +kernel, by decide +kernel⟩
abbrev s_Standing_init : Stmt := inClass (top 60) 0
theorem sc_Standing_init : FnScope ["self", "field", "name"] ["self", "field"] (defScope s_Standing_init) := ⟨rfl, rfl, rfl, by decide +kernel, rfl, by decide +kernel, by decide +kernel⟩
abbrev s_Standing_back : Stmt := inClass (top 60) 1
theorem sc_Standing_back : FnScope ["self", "bed", "k"] ["self", "bed"] (defScope s_Standing_back) := ⟨rfl, rfl, rfl, by decide +kernel, rfl, by decide +kernel, by decide +kernel⟩
abbrev s_Standing_holds : Stmt := inClass (top 60) 2
theorem sc_Standing_holds : FnScope ["self", "promise", "kind", "bed", "which"] ["self", "promise"] (defScope s_Standing_holds) := ⟨rfl, rfl, rfl, by decide +kernel, rfl, by decide +kernel, by decide +kernel⟩
abbrev s_Standing_moves : Stmt := inClass (top 60) 3
theorem sc_Standing_moves : FnScope ["self", "promise", "kind", "bed", "which", "offsets"] ["self", "promise"] (defScope s_Standing_moves) := ⟨rfl, rfl, rfl, by decide +kernel, rfl, by decide +kernel, by decide +kernel⟩
abbrev s_Standing_go : Stmt := inClass (top 60) 4
theorem sc_Standing_go : FnScope ["self", "promise", "kind", "bed", "which", "shares", "things", "thing"] ["self", "promise"] (defScope s_Standing_go) := ⟨rfl, rfl, rfl, by decide +kernel, rfl, by decide +kernel, by decide +kernel⟩
abbrev s_Standing_void : Stmt := inClass (top 60) 5
theorem sc_Standing_void : FnScope ["self", "promise", "kind", "bed", "which", "thing", "row", "other", "things"] ["self", "promise"] (defScope s_Standing_void) := ⟨rfl, rfl, rfl, by decide +kernel, rfl, by decide +kernel, by decide +kernel⟩
abbrev s_Standing_spoil : Stmt := inClass (top 60) 6
theorem sc_Standing_spoil : FnScope ["self", "spoiling", "bed", "undone", "promise", "things"] ["self", "spoiling"] (defScope s_Standing_spoil) := ⟨rfl, rfl, rfl, by decide +kernel, rfl, by decide +kernel, by decide +kernel⟩
abbrev s_Standing_take : Stmt := inClass (top 60) 7
theorem sc_Standing_take : FnScope ["self", "line"] ["self", "line"] (defScope s_Standing_take) := ⟨rfl, rfl, rfl, by decide +kernel, rfl, by decide +kernel, by decide +kernel⟩
abbrev s_Ledger_init : Stmt := inClass (top 61) 0
theorem sc_Ledger_init : FnScope ["self", "field"] ["self", "field"] (defScope s_Ledger_init) := ⟨rfl, rfl, rfl, by decide +kernel, rfl, by decide +kernel, by decide +kernel⟩
abbrev s_Ledger_len : Stmt := inClass (top 61) 1
theorem sc_Ledger_len : FnScope ["self"] ["self"] (defScope s_Ledger_len) := ⟨rfl, rfl, rfl, by decide +kernel, rfl, by decide +kernel, by decide +kernel⟩
abbrev s_Ledger_check : Stmt := inClass (top 61) 2
theorem sc_Ledger_check : FnScope ["self", "line"] ["self", "line"] (defScope s_Ledger_check) := ⟨rfl, rfl, rfl, by decide +kernel, rfl, by decide +kernel, by decide +kernel⟩
abbrev s_Ledger_tell : Stmt := inClass (top 61) 3
theorem sc_Ledger_tell : FnScope ["self", "line"] ["self", "line"] (defScope s_Ledger_tell) := ⟨rfl, rfl, rfl, by decide +kernel, rfl, by decide +kernel, by decide +kernel⟩
abbrev s_Ledger_lines : Stmt := inClass (top 61) 4
theorem sc_Ledger_lines : FnScope ["self"] ["self"] (defScope s_Ledger_lines) := ⟨rfl, rfl, rfl, by decide +kernel, rfl, by decide +kernel, by decide +kernel⟩
abbrev s_Ledger_standing : Stmt := inClass (top 61) 5
theorem sc_Ledger_standing : FnScope ["self", "found", "line"] ["self"] (defScope s_Ledger_standing) := ⟨rfl, rfl, rfl, by decide +kernel, rfl, by decide +kernel, by decide +kernel⟩
abbrev s_Ledger_voids : Stmt := inClass (top 61) 6
theorem sc_Ledger_voids : FnScope ["self"] ["self"] (defScope s_Ledger_voids) := ⟨rfl, rfl, rfl, by decide +kernel, rfl, by decide +kernel, by decide +kernel⟩
abbrev s_Ledger_undone : Stmt := inClass (top 61) 7
theorem sc_Ledger_undone : FnScope ["self"] ["self"] (defScope s_Ledger_undone) := ⟨rfl, rfl, rfl, by decide +kernel, rfl, by decide +kernel, by decide +kernel⟩
abbrev s_Ledger_hold : Stmt := inClass (top 61) 8
theorem sc_Ledger_hold : FnScope ["self", "promise", "things"] ["self"] (defScope s_Ledger_hold) := ⟨rfl, rfl, rfl, by decide +kernel, rfl, by decide +kernel, by decide +kernel⟩
abbrev s_Ledger_spoiled : Stmt := inClass (top 61) 9
theorem sc_Ledger_spoiled : FnScope ["self"] ["self"] (defScope s_Ledger_spoiled) := ⟨rfl, rfl, rfl, by decide +kernel, rfl, by decide +kernel, by decide +kernel⟩
abbrev s_Ledger_check_thing : Stmt := inClass (top 61) 10
theorem sc_Ledger_check_thing : FnScope ["self", "thing"] ["self", "thing"] (defScope s_Ledger_check_thing) := ⟨rfl, rfl, rfl, by decide +kernel, rfl, by decide +kernel, by decide +kernel⟩
abbrev s_Ledger_holder : Stmt := inClass (top 61) 11
theorem sc_Ledger_holder : FnScope ["self", "thing"] ["self", "thing"] (defScope s_Ledger_holder) := ⟨rfl, rfl, rfl, by decide +kernel, rfl, by decide +kernel, by decide +kernel⟩
abbrev s_Ledger_row : Stmt := inClass (top 61) 12
theorem sc_Ledger_row : FnScope ["self", "thing", "promise", "things"] ["self", "thing"] (defScope s_Ledger_row) := ⟨rfl, rfl, rfl, by decide +kernel, rfl, by decide +kernel, by decide +kernel⟩
abbrev s_Ledger_holders : Stmt := inClass (top 61) 13
theorem sc_Ledger_holders : FnScope ["self", "bed", "shares", "name"] ["self", "bed"] (defScope s_Ledger_holders) := ⟨rfl, rfl, rfl, by decide +kernel, rfl, by decide +kernel, by decide +kernel⟩
abbrev s_law_cell_at : Stmt := top 63
theorem sc_law_cell_at : FnScope ["_law_script", "_law_k"] ["_law_script", "_law_k"] (defScope s_law_cell_at) := ⟨rfl, rfl, rfl, by decide +kernel, rfl, by decide +kernel, by decide +kernel⟩
abbrev s_law_source : Stmt := top 64
theorem sc_law_source : FnScope ["_law_cell"] ["_law_cell"] (defScope s_law_source) := ⟨rfl, rfl, rfl, by decide +kernel, rfl, by decide +kernel, by decide +kernel⟩
abbrev s_law_next : Stmt := top 65
theorem sc_law_next : FnScope ["_law_source_here", "_law_many", "_law_found", "_law_prime", "_law_figure"] ["_law_source_here", "_law_many"] (defScope s_law_next) := ⟨rfl, rfl, rfl, by decide +kernel, rfl, by decide +kernel, by decide +kernel⟩
abbrev s_law_names : Stmt := top 66
theorem sc_law_names : FnScope ["_law_source_here", "_law_many", "_law_some", "_law_at", "_law_found", "_law_last", "_law_word", "_law_k"] ["_law_source_here", "_law_many"] (defScope s_law_names) := ⟨rfl, rfl, rfl, by decide +kernel, rfl, by decide +kernel, by decide +kernel⟩
abbrev s_law_breed_rows : Stmt := top 67
theorem sc_law_breed_rows : FnScope ["_law_source_here", "_law_names_here", "_law_found", "_law_k", "_law_least", "_law_grades", "_law_j"] ["_law_source_here", "_law_names_here"] (defScope s_law_breed_rows) := ⟨rfl, rfl, rfl, by decide +kernel, rfl, by decide +kernel, by decide +kernel⟩
abbrev s_law_bed_rows : Stmt := top 68
theorem sc_law_bed_rows : FnScope ["_law_source_here", "_law_names_here", "_law_breeds", "_law_owners", "_law_most", "_law_found", "_law_k", "_law_breed", "_law_owner", "_law_kind", "_law_roots", "_law_row"] ["_law_source_here", "_law_names_here", "_law_breeds", "_law_owners", "_law_most"] (defScope s_law_bed_rows) := ⟨rfl, rfl, rfl, by decide +kernel, rfl, by decide +kernel, by decide +kernel⟩
abbrev s_law_field : Stmt := top 69
theorem sc_law_field : FnScope ["_law_breeds", "_law_beds", "_law_built", "_law_name", "_law_grades", "_law_dug", "_law_row"] ["_law_breeds", "_law_beds"] (defScope s_law_field) := ⟨rfl, rfl, rfl, by decide +kernel, rfl, by decide +kernel, by decide +kernel⟩
abbrev s_law_made : Stmt := top 70
theorem sc_law_made : FnScope ["_law_row"] ["_law_row"] (defScope s_law_made) := ⟨rfl, rfl, rfl, by decide +kernel, rfl, by decide +kernel, by decide +kernel⟩
abbrev s_law_things : Stmt := top 71
theorem sc_law_things : FnScope ["_law_beds", "_law_found", "_law_row", "_law_k"] ["_law_beds"] (defScope s_law_things) := ⟨rfl, rfl, rfl, by decide +kernel, rfl, by decide +kernel, by decide +kernel⟩
abbrev s_law_in_time : Stmt := top 72
theorem sc_law_in_time : FnScope ["_law_rows_here", "_law_moment", "_law_number", "_law_k", "_law_row"] ["_law_rows_here"] (defScope s_law_in_time) := ⟨rfl, rfl, rfl, by decide +kernel, rfl, by decide +kernel, by decide +kernel⟩
abbrev s_law_back : Stmt := top 73
theorem sc_law_back : FnScope ["_law_state", "_law_row", "_law_name", "_law_breed", "_law_owner", "_law_roots", "_law_guess", "_law_offsets", "_law_kind", "_law_k"] ["_law_state", "_law_row"] (defScope s_law_back) := ⟨rfl, rfl, rfl, by decide +kernel, rfl, by decide +kernel, by decide +kernel⟩
abbrev s_law_begin : Stmt := top 74
theorem sc_law_begin : FnScope ["_law_beds", "_law_state", "_law_row"] ["_law_beds"] (defScope s_law_begin) := ⟨rfl, rfl, rfl, by decide +kernel, rfl, by decide +kernel, by decide +kernel⟩
abbrev s_law_keys : Stmt := top 75
theorem sc_law_keys : FnScope ["_law_state", "_law_row", "_law_kind", "_law_bed", "_law_which", "_law_offsets"] ["_law_state", "_law_row"] (defScope s_law_keys) := ⟨rfl, rfl, rfl, by decide +kernel, rfl, by decide +kernel, by decide +kernel⟩
abbrev s_law_promised : Stmt := top 76
theorem sc_law_promised : FnScope ["_law_state", "_law_row", "_law_kind", "_law_bed", "_law_which", "_law_number", "_law_moment", "_law_seller", "_law_buyer", "_law_keys_here", "_law_shares", "_law_units", "_law_short", "_law_ahead", "_law_entry", "_law_key"] ["_law_state", "_law_row"] (defScope s_law_promised) := ⟨rfl, rfl, rfl, by decide +kernel, rfl, by decide +kernel, by decide +kernel⟩
abbrev s_law_spoiled : Stmt := top 77
theorem sc_law_spoiled : FnScope ["_law_state", "_law_beds", "_law_row", "_law_bed", "_law_entry", "_law_one"] ["_law_state", "_law_beds", "_law_row"] (defScope s_law_spoiled) := ⟨rfl, rfl, rfl, by decide +kernel, rfl, by decide +kernel, by decide +kernel⟩
abbrev s_law_led : Stmt := top 78
theorem sc_law_led : FnScope ["_law_beds", "_law_rows_here", "_law_state", "_law_row"] ["_law_beds", "_law_rows_here"] (defScope s_law_led) := ⟨rfl, rfl, rfl, by decide +kernel, rfl, by decide +kernel, by decide +kernel⟩
abbrev s_law_alike : Stmt := top 79
theorem sc_law_alike : FnScope ["_law_ledger", "_law_state", "_law_beds", "_law_entry", "_law_row", "_law_shares", "_law_due", "_law_name", "_law_places", "_law_k", "_law_thing"] ["_law_ledger", "_law_state", "_law_beds"] (defScope s_law_alike) := ⟨rfl, rfl, rfl, by decide +kernel, rfl, by decide +kernel, by decide +kernel⟩
abbrev s_law_likely : Stmt := top 80
theorem sc_law_likely : FnScope ["_law_source_here", "_law_number", "_law_moment", "_law_names_here", "_law_things_here", "_law_state", "_law_thing", "_law_some", "_law_name", "_law_bottom", "_law_far", "_law_seller", "_law_others", "_law_buyer", "_law_going", "_law_found"] ["_law_source_here", "_law_number", "_law_moment", "_law_names_here", "_law_things_here", "_law_state"] (defScope s_law_likely) := ⟨rfl, rfl, rfl, by decide +kernel, rfl, by decide +kernel, by decide +kernel⟩
abbrev s_law_row_of : Stmt := top 81
theorem sc_law_row_of : FnScope ["_law_source_here", "_law_k", "_law_names_here", "_law_things_here", "_law_state", "_law_spoils", "_law_number", "_law_moment"] ["_law_source_here", "_law_k", "_law_names_here", "_law_things_here", "_law_state", "_law_spoils"] (defScope s_law_row_of) := ⟨rfl, rfl, rfl, by decide +kernel, rfl, by decide +kernel, by decide +kernel⟩
abbrev s_law_scene : Stmt := top 82
theorem sc_law_scene : FnScope ["_law_source_here", "_law_most", "_law_names_here", "_law_breeds", "_law_beds"] ["_law_source_here", "_law_most"] (defScope s_law_scene) := ⟨rfl, rfl, rfl, by decide +kernel, rfl, by decide +kernel, by decide +kernel⟩
abbrev s_law_rows : Stmt := top 83
theorem sc_law_rows : FnScope ["_law_source_here", "_law_cells", "_law_names_here", "_law_beds", "_law_things_here", "_law_state", "_law_rows_here", "_law_k", "_law_cell", "_law_teller", "_law_row"] ["_law_source_here", "_law_cells", "_law_names_here", "_law_beds", "_law_things_here"] (defScope s_law_rows) := ⟨rfl, rfl, rfl, by decide +kernel, rfl, by decide +kernel, by decide +kernel⟩
abbrev s_law_turned : Stmt := top 84
theorem sc_law_turned : FnScope ["_law_source_here", "_law_some", "_law_left", "_law_found"] ["_law_source_here", "_law_some"] (defScope s_law_turned) := ⟨rfl, rfl, rfl, by decide +kernel, rfl, by decide +kernel, by decide +kernel⟩
abbrev s_law_told : Stmt := top 85
theorem sc_law_told : FnScope ["_law_source_here", "_law_beds", "_law_field_here", "_law_rows_here", "_law_ledger", "_law_so_far", "_law_row", "_law_again"] ["_law_source_here", "_law_beds", "_law_field_here", "_law_rows_here"] (defScope s_law_told) := ⟨rfl, rfl, rfl, by decide +kernel, rfl, by decide +kernel, by decide +kernel⟩
abbrev s_law : Stmt := top 86
theorem sc_law : FnScope ["_law_script", "_law_source_here", "_law_names_here", "_law_beds", "_law_field_here", "_law_rows_here", "_law_state", "_law_mixed", "_law_some", "_law_ledger"] ["_law_script"] (defScope s_law) := ⟨rfl, rfl, rfl, by decide +kernel, rfl, by decide +kernel, by decide +kernel⟩
/-- what the top has written -/
structure Txt (K : PySem.W.Frag) (mg : Str → Option Value) : Prop where
  g_is_whole : mg "is_whole" = some (.ref (He.ga K "is_whole"))
  g_is_between : mg "is_between" = some (.ref (He.ga K "is_between"))
  g_is_from : mg "is_from" = some (.ref (He.ga K "is_from"))
  g_is_name : mg "is_name" = some (.ref (He.ga K "is_name"))
  g_common : mg "common" = some (.ref (He.ga K "common"))
  g_plus : mg "plus" = some (.ref (He.ga K "plus"))
  g_minus : mg "minus" = some (.ref (He.ga K "minus"))
  g_less : mg "less" = some (.ref (He.ga K "less"))
  g_is_grade : mg "is_grade" = some (.ref (He.ga K "is_grade"))
  g_are_grades : mg "are_grades" = some (.ref (He.ga K "are_grades"))
  g_first_wrong : mg "first_wrong" = some (.ref (He.ga K "first_wrong"))
  g_are_unlike : mg "are_unlike" = some (.ref (He.ga K "are_unlike"))
  g_are_breeds : mg "are_breeds" = some (.ref (He.ga K "are_breeds"))
  g_are_beds : mg "are_beds" = some (.ref (He.ga K "are_beds"))
  g_is_thing : mg "is_thing" = some (.ref (He.ga K "is_thing"))
  g_has : mg "has" = some (.ref (He.ga K "has"))
  g_is_rule : mg "is_rule" = some (.ref (He.ga K "is_rule"))
  g_goes_with : mg "goes_with" = some (.ref (He.ga K "goes_with"))
  g_is_going : mg "is_going" = some (.ref (He.ga K "is_going"))
  g_is_line : mg "is_line" = some (.ref (He.ga K "is_line"))
  g_when : mg "when" = some (.ref (He.ga K "when"))
  g_in_time : mg "in_time" = some (.ref (He.ga K "in_time"))
  g__law_cell_at : mg "_law_cell_at" = some (.ref (He.ga K "_law_cell_at"))
  g__law_source : mg "_law_source" = some (.ref (He.ga K "_law_source"))
  g__law_next : mg "_law_next" = some (.ref (He.ga K "_law_next"))
  g__law_names : mg "_law_names" = some (.ref (He.ga K "_law_names"))
  g__law_breed_rows : mg "_law_breed_rows" = some (.ref (He.ga K "_law_breed_rows"))
  g__law_bed_rows : mg "_law_bed_rows" = some (.ref (He.ga K "_law_bed_rows"))
  g__law_field : mg "_law_field" = some (.ref (He.ga K "_law_field"))
  g__law_made : mg "_law_made" = some (.ref (He.ga K "_law_made"))
  g__law_things : mg "_law_things" = some (.ref (He.ga K "_law_things"))
  g__law_in_time : mg "_law_in_time" = some (.ref (He.ga K "_law_in_time"))
  g__law_back : mg "_law_back" = some (.ref (He.ga K "_law_back"))
  g__law_begin : mg "_law_begin" = some (.ref (He.ga K "_law_begin"))
  g__law_keys : mg "_law_keys" = some (.ref (He.ga K "_law_keys"))
  g__law_promised : mg "_law_promised" = some (.ref (He.ga K "_law_promised"))
  g__law_spoiled : mg "_law_spoiled" = some (.ref (He.ga K "_law_spoiled"))
  g__law_led : mg "_law_led" = some (.ref (He.ga K "_law_led"))
  g__law_alike : mg "_law_alike" = some (.ref (He.ga K "_law_alike"))
  g__law_likely : mg "_law_likely" = some (.ref (He.ga K "_law_likely"))
  g__law_row_of : mg "_law_row_of" = some (.ref (He.ga K "_law_row_of"))
  g__law_scene : mg "_law_scene" = some (.ref (He.ga K "_law_scene"))
  g__law_rows : mg "_law_rows" = some (.ref (He.ga K "_law_rows"))
  g__law_turned : mg "_law_turned" = some (.ref (He.ga K "_law_turned"))
  g__law_told : mg "_law_told" = some (.ref (He.ga K "_law_told"))
  g_law : mg "law" = some (.ref (He.ga K "law"))
  g_Part : mg "Part" = some (.ref (He.ga K "Part"))
  g_Breed : mg "Breed" = some (.ref (He.ga K "Breed"))
  g_Bed : mg "Bed" = some (.ref (He.ga K "Bed"))
  g_Field : mg "Field" = some (.ref (He.ga K "Field"))
  g_Promise : mg "Promise" = some (.ref (He.ga K "Promise"))
  g_Spoiling : mg "Spoiling" = some (.ref (He.ga K "Spoiling"))
  g_Standing : mg "Standing" = some (.ref (He.ga K "Standing"))
  g_Ledger : mg "Ledger" = some (.ref (He.ga K "Ledger"))
  n_int : mg "int" = none
  n_bool : mg "bool" = none
  n_str : mg "str" = none
  n_tuple : mg "tuple" = none
  n_list : mg "list" = none
  n_set : mg "set" = none
  n_dict : mg "dict" = none
  n_len : mg "len" = none
  n_isinstance : mg "isinstance" = none
  n_all : mg "all" = none
  n_sorted : mg "sorted" = none
  n_abs : mg "abs" = none
  n_max : mg "max" = none
  n_min : mg "min" = none
  n_range : mg "range" = none
  n_enumerate : mg "enumerate" = none
  i_MOST_LETTERS : ∃ t, mg "MOST_LETTERS" = some (.int 8 t)
  i_MOST_GRADES : ∃ t, mg "MOST_GRADES" = some (.int 6 t)
  i_MOST_LEAST : ∃ t, mg "MOST_LEAST" = some (.int 1000000 t)
  i_MOST_HUNDREDTHS : ∃ t, mg "MOST_HUNDREDTHS" = some (.int 1000 t)
  i_MOST_BEDS : ∃ t, mg "MOST_BEDS" = some (.int 6 t)
  i_MOST_ROOTS : ∃ t, mg "MOST_ROOTS" = some (.int 12 t)
  i_MOST_GUESS : ∃ t, mg "MOST_GUESS" = some (.int 60 t)
  i_MOST_OFFSETS : ∃ t, mg "MOST_OFFSETS" = some (.int 60 t)
  i_MOST_SUM : ∃ t, mg "MOST_SUM" = some (.int 1000000 t)
  i_MOST_BOTTOM : ∃ t, mg "MOST_BOTTOM" = some (.int 12 t)
  i_MOST_LINES : ∃ t, mg "MOST_LINES" = some (.int 120 t)
  s_LETTERS : ∃ t, mg "LETTERS" = some (.str "abcdefghijklmnopqrstuvwxyz" t)
  g_KINDS : mg "KINDS" = some (.ref (He.ga K "KINDS"))
  g_RULES : mg "RULES" = some (.ref (He.ga K "RULES"))
  cl_Part : Cls K (He.ga K "Part")
  cl_Breed : Cls K (He.ga K "Breed")
  cl_Bed : Cls K (He.ga K "Bed")
  cl_Field : Cls K (He.ga K "Field")
  cl_Promise : Cls K (He.ga K "Promise")
  cl_Spoiling : Cls K (He.ga K "Spoiling")
  cl_Standing : Cls K (He.ga K "Standing")
  cl_Ledger : Cls K (He.ga K "Ledger")
  mk_Part : Mk K (He.ga K "Part") (He.ma K (He.ga K "Part") "__init__")
  mk_Breed : Mk K (He.ga K "Breed") (He.ma K (He.ga K "Breed") "__init__")
  mk_Bed : Mk K (He.ga K "Bed") (He.ma K (He.ga K "Bed") "__init__")
  mk_Field : Mk K (He.ga K "Field") (He.ma K (He.ga K "Field") "__init__")
  mk_Promise : Mk K (He.ga K "Promise") (He.ma K (He.ga K "Promise") "__init__")
  mk_Spoiling : Mk K (He.ga K "Spoiling") (He.ma K (He.ga K "Spoiling") "__init__")
  mk_Standing : Mk K (He.ga K "Standing") (He.ma K (He.ga K "Standing") "__init__")
  mk_Ledger : Mk K (He.ga K "Ledger") (He.ma K (He.ga K "Ledger") "__init__")
  me_Part_eq : Meth K (He.ga K "Part") "__eq__" (He.ma K (He.ga K "Part") "__eq__")
  me_Field_bed_of : Meth K (He.ga K "Field") "bed_of" (He.ma K (He.ga K "Field") "bed_of")
  me_Field_bed_names : Meth K (He.ga K "Field") "bed_names" (He.ma K (He.ga K "Field") "bed_names")
  me_Promise_told : Meth K (He.ga K "Promise") "told" (He.ma K (He.ga K "Promise") "told")
  me_Promise_eq : Meth K (He.ga K "Promise") "__eq__" (He.ma K (He.ga K "Promise") "__eq__")
  me_Spoiling_eq : Meth K (He.ga K "Spoiling") "__eq__" (He.ma K (He.ga K "Spoiling") "__eq__")
  me_Standing_back : Meth K (He.ga K "Standing") "back" (He.ma K (He.ga K "Standing") "back")
  me_Standing_holds : Meth K (He.ga K "Standing") "holds" (He.ma K (He.ga K "Standing") "holds")
  me_Standing_moves : Meth K (He.ga K "Standing") "moves" (He.ma K (He.ga K "Standing") "moves")
  me_Standing_go : Meth K (He.ga K "Standing") "go" (He.ma K (He.ga K "Standing") "go")
  me_Standing_void : Meth K (He.ga K "Standing") "void" (He.ma K (He.ga K "Standing") "void")
  me_Standing_spoil : Meth K (He.ga K "Standing") "spoil" (He.ma K (He.ga K "Standing") "spoil")
  me_Standing_take : Meth K (He.ga K "Standing") "take" (He.ma K (He.ga K "Standing") "take")
  me_Ledger_len : Meth K (He.ga K "Ledger") "__len__" (He.ma K (He.ga K "Ledger") "__len__")
  me_Ledger_check : Meth K (He.ga K "Ledger") "check" (He.ma K (He.ga K "Ledger") "check")
  me_Ledger_tell : Meth K (He.ga K "Ledger") "tell" (He.ma K (He.ga K "Ledger") "tell")
  me_Ledger_lines : Meth K (He.ga K "Ledger") "lines" (He.ma K (He.ga K "Ledger") "lines")
  me_Ledger_standing : Meth K (He.ga K "Ledger") "standing" (He.ma K (He.ga K "Ledger") "standing")
  me_Ledger_voids : Meth K (He.ga K "Ledger") "voids" (He.ma K (He.ga K "Ledger") "voids")
  me_Ledger_undone : Meth K (He.ga K "Ledger") "undone" (He.ma K (He.ga K "Ledger") "undone")
  me_Ledger_hold : Meth K (He.ga K "Ledger") "hold" (He.ma K (He.ga K "Ledger") "hold")
  me_Ledger_spoiled : Meth K (He.ga K "Ledger") "spoiled" (He.ma K (He.ga K "Ledger") "spoiled")
  me_Ledger_check_thing : Meth K (He.ga K "Ledger") "check_thing" (He.ma K (He.ga K "Ledger") "check_thing")
  me_Ledger_holder : Meth K (He.ga K "Ledger") "holder" (He.ma K (He.ga K "Ledger") "holder")
  me_Ledger_row : Meth K (He.ga K "Ledger") "row" (He.ma K (He.ga K "Ledger") "row")
  me_Ledger_holders : Meth K (He.ga K "Ledger") "holders" (He.ma K (He.ga K "Ledger") "holders")
  na_Part_top : NoAttr K (He.ga K "Part") "top"
  na_Part_bottom : NoAttr K (He.ga K "Part") "bottom"
  na_Breed_name : NoAttr K (He.ga K "Breed") "name"
  na_Breed_grades : NoAttr K (He.ga K "Breed") "grades"
  na_Bed_name : NoAttr K (He.ga K "Bed") "name"
  na_Bed_breed : NoAttr K (He.ga K "Bed") "breed"
  na_Bed_owner : NoAttr K (He.ga K "Bed") "owner"
  na_Bed_roots : NoAttr K (He.ga K "Bed") "roots"
  na_Bed_guess : NoAttr K (He.ga K "Bed") "guess"
  na_Bed_offsets : NoAttr K (He.ga K "Bed") "offsets"
  na_Bed_kind : NoAttr K (He.ga K "Bed") "kind"
  na_Field_grown : NoAttr K (He.ga K "Field") "grown"
  na_Field_dug : NoAttr K (He.ga K "Field") "dug"
  na_Promise_number : NoAttr K (He.ga K "Promise") "number"
  na_Promise_moment : NoAttr K (He.ga K "Promise") "moment"
  na_Promise_seller : NoAttr K (He.ga K "Promise") "seller"
  na_Promise_buyer : NoAttr K (He.ga K "Promise") "buyer"
  na_Promise_thing : NoAttr K (He.ga K "Promise") "thing"
  na_Promise_price : NoAttr K (He.ga K "Promise") "price"
  na_Promise_rule : NoAttr K (He.ga K "Promise") "rule"
  na_Promise_offsets : NoAttr K (He.ga K "Promise") "offsets"
  na_Promise_earnest : NoAttr K (He.ga K "Promise") "earnest"
  na_Spoiling_number : NoAttr K (He.ga K "Spoiling") "number"
  na_Spoiling_moment : NoAttr K (He.ga K "Spoiling") "moment"
  na_Spoiling_bed : NoAttr K (He.ga K "Spoiling") "bed"
  na_Standing_field : NoAttr K (He.ga K "Standing") "field"
  na_Standing_held : NoAttr K (He.ga K "Standing") "held"
  na_Standing_parts : NoAttr K (He.ga K "Standing") "parts"
  na_Standing_spoilt : NoAttr K (He.ga K "Standing") "spoilt"
  na_Standing_good : NoAttr K (He.ga K "Standing") "good"
  na_Standing_void_rows : NoAttr K (He.ga K "Standing") "void_rows"
  na_Standing_gone : NoAttr K (He.ga K "Standing") "gone"
  na_Ledger_field : NoAttr K (He.ga K "Ledger") "field"
  na_Ledger_known_lines : NoAttr K (He.ga K "Ledger") "known_lines"
  na_Ledger_come : NoAttr K (He.ga K "Ledger") "come"
  ic_Part : PySem.W.findIn K (.ref (He.ga K "Part")) "__class__" = some (some (.builtin "object.__class__"))
  im_Part : PySem.W.mroIn K (He.ga K "Part") (.type "object") = some true
  ic_Breed : PySem.W.findIn K (.ref (He.ga K "Breed")) "__class__" = some (some (.builtin "object.__class__"))
  im_Breed : PySem.W.mroIn K (He.ga K "Breed") (.type "object") = some true
  ic_Bed : PySem.W.findIn K (.ref (He.ga K "Bed")) "__class__" = some (some (.builtin "object.__class__"))
  im_Bed : PySem.W.mroIn K (He.ga K "Bed") (.type "object") = some true
  ic_Field : PySem.W.findIn K (.ref (He.ga K "Field")) "__class__" = some (some (.builtin "object.__class__"))
  im_Field : PySem.W.mroIn K (He.ga K "Field") (.type "object") = some true
  ic_Promise : PySem.W.findIn K (.ref (He.ga K "Promise")) "__class__" = some (some (.builtin "object.__class__"))
  im_Promise : PySem.W.mroIn K (He.ga K "Promise") (.type "object") = some true
  ic_Spoiling : PySem.W.findIn K (.ref (He.ga K "Spoiling")) "__class__" = some (some (.builtin "object.__class__"))
  im_Spoiling : PySem.W.mroIn K (He.ga K "Spoiling") (.type "object") = some true
  ic_Standing : PySem.W.findIn K (.ref (He.ga K "Standing")) "__class__" = some (some (.builtin "object.__class__"))
  im_Standing : PySem.W.mroIn K (He.ga K "Standing") (.type "object") = some true
  ic_Ledger : PySem.W.findIn K (.ref (He.ga K "Ledger")) "__class__" = some (some (.builtin "object.__class__"))
  im_Ledger : PySem.W.mroIn K (He.ga K "Ledger") (.type "object") = some true
  icg : PySem.W.specialIn K (.builtin "object.__class__") "__get__" = some (some (.builtin "getset_descriptor.__get__"))
  ict : PySem.W.takesIn K (.builtin "object.__class__") = some true
  ki_Part_Part : PySem.W.kitOne K (.ref (He.ga K "Part")) (.ref (He.ga K "Part")) = some true
  ki_Breed_Breed : PySem.W.kitOne K (.ref (He.ga K "Breed")) (.ref (He.ga K "Breed")) = some true
  ki_Bed_Bed : PySem.W.kitOne K (.ref (He.ga K "Bed")) (.ref (He.ga K "Bed")) = some true
  ki_Promise_Promise : PySem.W.kitOne K (.ref (He.ga K "Promise")) (.ref (He.ga K "Promise")) = some true
  ki_Spoiling_Promise : PySem.W.kitOne K (.ref (He.ga K "Spoiling")) (.ref (He.ga K "Promise")) = some false
  ki_Spoiling_Spoiling : PySem.W.kitOne K (.ref (He.ga K "Spoiling")) (.ref (He.ga K "Spoiling")) = some true
  ne_Part : PySem.W.findIn K (.ref (He.ga K "Part")) "__ne__" = some (some (.builtin "object.__ne__"))
  ne_Promise : PySem.W.findIn K (.ref (He.ga K "Promise")) "__ne__" = some (some (.builtin "object.__ne__"))
  ne_Spoiling : PySem.W.findIn K (.ref (He.ga K "Spoiling")) "__ne__" = some (some (.builtin "object.__ne__"))
  t_KINDS : ∀ H, SqT K H (He.ga K "KINDS") [V.str "roots", V.str "shares"]
  t_RULES : ∀ H, SqT K H (He.ga K "RULES") [V.str "flat", V.str "weighed", V.str "graded", V.str "gram"]
  d_is_whole : ∃ fd, FunD K "is_whole" "is_whole" (defArgs s_is_whole) (defBody s_is_whole) (defScope s_is_whole) [] [] (He.ga K "is_whole") fd
  d_is_between : ∃ fd, FunD K "is_between" "is_between" (defArgs s_is_between) (defBody s_is_between) (defScope s_is_between) [] [] (He.ga K "is_between") fd
  d_is_from : ∃ fd, FunD K "is_from" "is_from" (defArgs s_is_from) (defBody s_is_from) (defScope s_is_from) [] [] (He.ga K "is_from") fd
  d_is_name : ∃ fd, FunD K "is_name" "is_name" (defArgs s_is_name) (defBody s_is_name) (defScope s_is_name) [] [] (He.ga K "is_name") fd
  d_common : ∃ fd, FunD K "common" "common" (defArgs s_common) (defBody s_common) (defScope s_common) [] [] (He.ga K "common") fd
  d_Part_init : ∃ fd, FunD K "__init__" "Part.__init__" (defArgs s_Part_init) (defBody s_Part_init) (defScope s_Part_init) [V.int 1] [] (He.ma K (He.ga K "Part") "__init__") fd
  d_Part_eq : ∃ fd, FunD K "__eq__" "Part.__eq__" (defArgs s_Part_eq) (defBody s_Part_eq) (defScope s_Part_eq) [] [] (He.ma K (He.ga K "Part") "__eq__") fd
  d_plus : ∃ fd, FunD K "plus" "plus" (defArgs s_plus) (defBody s_plus) (defScope s_plus) [] [] (He.ga K "plus") fd
  d_minus : ∃ fd, FunD K "minus" "minus" (defArgs s_minus) (defBody s_minus) (defScope s_minus) [] [] (He.ga K "minus") fd
  d_less : ∃ fd, FunD K "less" "less" (defArgs s_less) (defBody s_less) (defScope s_less) [] [] (He.ga K "less") fd
  d_is_grade : ∃ fd, FunD K "is_grade" "is_grade" (defArgs s_is_grade) (defBody s_is_grade) (defScope s_is_grade) [] [] (He.ga K "is_grade") fd
  d_are_grades : ∃ fd, FunD K "are_grades" "are_grades" (defArgs s_are_grades) (defBody s_are_grades) (defScope s_are_grades) [] [] (He.ga K "are_grades") fd
  d_Breed_init : ∃ fd, FunD K "__init__" "Breed.__init__" (defArgs s_Breed_init) (defBody s_Breed_init) (defScope s_Breed_init) [] [] (He.ma K (He.ga K "Breed") "__init__") fd
  d_first_wrong : ∃ fd, FunD K "first_wrong" "first_wrong" (defArgs s_first_wrong) (defBody s_first_wrong) (defScope s_first_wrong) [] [] (He.ga K "first_wrong") fd
  d_Bed_init : ∃ fd, FunD K "__init__" "Bed.__init__" (defArgs s_Bed_init) (defBody s_Bed_init) (defScope s_Bed_init) [V.int 0, V.str "roots"] [] (He.ma K (He.ga K "Bed") "__init__") fd
  d_are_unlike : ∃ fd, FunD K "are_unlike" "are_unlike" (defArgs s_are_unlike) (defBody s_are_unlike) (defScope s_are_unlike) [] [] (He.ga K "are_unlike") fd
  d_are_breeds : ∃ fd, FunD K "are_breeds" "are_breeds" (defArgs s_are_breeds) (defBody s_are_breeds) (defScope s_are_breeds) [] [] (He.ga K "are_breeds") fd
  d_are_beds : ∃ fd, FunD K "are_beds" "are_beds" (defArgs s_are_beds) (defBody s_are_beds) (defScope s_are_beds) [] [] (He.ga K "are_beds") fd
  d_Field_init : ∃ fd, FunD K "__init__" "Field.__init__" (defArgs s_Field_init) (defBody s_Field_init) (defScope s_Field_init) [] [] (He.ma K (He.ga K "Field") "__init__") fd
  d_Field_bed_of : ∃ fd, FunD K "bed_of" "Field.bed_of" (defArgs s_Field_bed_of) (defBody s_Field_bed_of) (defScope s_Field_bed_of) [] [] (He.ma K (He.ga K "Field") "bed_of") fd
  d_Field_bed_names : ∃ fd, FunD K "bed_names" "Field.bed_names" (defArgs s_Field_bed_names) (defBody s_Field_bed_names) (defScope s_Field_bed_names) [] [] (He.ma K (He.ga K "Field") "bed_names") fd
  d_is_thing : ∃ fd, FunD K "is_thing" "is_thing" (defArgs s_is_thing) (defBody s_is_thing) (defScope s_is_thing) [] [] (He.ga K "is_thing") fd
  d_has : ∃ fd, FunD K "has" "has" (defArgs s_has) (defBody s_has) (defScope s_has) [] [] (He.ga K "has") fd
  d_is_rule : ∃ fd, FunD K "is_rule" "is_rule" (defArgs s_is_rule) (defBody s_is_rule) (defScope s_is_rule) [] [] (He.ga K "is_rule") fd
  d_goes_with : ∃ fd, FunD K "goes_with" "goes_with" (defArgs s_goes_with) (defBody s_goes_with) (defScope s_goes_with) [] [] (He.ga K "goes_with") fd
  d_is_going : ∃ fd, FunD K "is_going" "is_going" (defArgs s_is_going) (defBody s_is_going) (defScope s_is_going) [] [] (He.ga K "is_going") fd
  d_Promise_init : ∃ fd, FunD K "__init__" "Promise.__init__" (defArgs s_Promise_init) (defBody s_Promise_init) (defScope s_Promise_init) [V.str "weighed", V.str "go", V.int 0] [] (He.ma K (He.ga K "Promise") "__init__") fd
  d_Promise_told : ∃ fd, FunD K "told" "Promise.told" (defArgs s_Promise_told) (defBody s_Promise_told) (defScope s_Promise_told) [] [] (He.ma K (He.ga K "Promise") "told") fd
  d_Promise_eq : ∃ fd, FunD K "__eq__" "Promise.__eq__" (defArgs s_Promise_eq) (defBody s_Promise_eq) (defScope s_Promise_eq) [] [] (He.ma K (He.ga K "Promise") "__eq__") fd
  d_Spoiling_init : ∃ fd, FunD K "__init__" "Spoiling.__init__" (defArgs s_Spoiling_init) (defBody s_Spoiling_init) (defScope s_Spoiling_init) [] [] (He.ma K (He.ga K "Spoiling") "__init__") fd
  d_Spoiling_eq : ∃ fd, FunD K "__eq__" "Spoiling.__eq__" (defArgs s_Spoiling_eq) (defBody s_Spoiling_eq) (defScope s_Spoiling_eq) [] [] (He.ma K (He.ga K "Spoiling") "__eq__") fd
  d_is_line : ∃ fd, FunD K "is_line" "is_line" (defArgs s_is_line) (defBody s_is_line) (defScope s_is_line) [] [] (He.ga K "is_line") fd
  d_when : ∃ fd, FunD K "when" "when" (defArgs s_when) (defBody s_when) (defScope s_when) [] [] (He.ga K "when") fd
  d_in_time : ∃ fd, FunD K "in_time" "in_time" (defArgs s_in_time) (defBody s_in_time) (defScope s_in_time) [] [] (He.ga K "in_time") fd
  d_Standing_init : ∃ fd, FunD K "__init__" "Standing.__init__" (defArgs s_Standing_init) (defBody s_Standing_init) (defScope s_Standing_init) [] [] (He.ma K (He.ga K "Standing") "__init__") fd
  d_Standing_back : ∃ fd, FunD K "back" "Standing.back" (defArgs s_Standing_back) (defBody s_Standing_back) (defScope s_Standing_back) [] [] (He.ma K (He.ga K "Standing") "back") fd
  d_Standing_holds : ∃ fd, FunD K "holds" "Standing.holds" (defArgs s_Standing_holds) (defBody s_Standing_holds) (defScope s_Standing_holds) [] [] (He.ma K (He.ga K "Standing") "holds") fd
  d_Standing_moves : ∃ fd, FunD K "moves" "Standing.moves" (defArgs s_Standing_moves) (defBody s_Standing_moves) (defScope s_Standing_moves) [] [] (He.ma K (He.ga K "Standing") "moves") fd
  d_Standing_go : ∃ fd, FunD K "go" "Standing.go" (defArgs s_Standing_go) (defBody s_Standing_go) (defScope s_Standing_go) [] [] (He.ma K (He.ga K "Standing") "go") fd
  d_Standing_void : ∃ fd, FunD K "void" "Standing.void" (defArgs s_Standing_void) (defBody s_Standing_void) (defScope s_Standing_void) [] [] (He.ma K (He.ga K "Standing") "void") fd
  d_Standing_spoil : ∃ fd, FunD K "spoil" "Standing.spoil" (defArgs s_Standing_spoil) (defBody s_Standing_spoil) (defScope s_Standing_spoil) [] [] (He.ma K (He.ga K "Standing") "spoil") fd
  d_Standing_take : ∃ fd, FunD K "take" "Standing.take" (defArgs s_Standing_take) (defBody s_Standing_take) (defScope s_Standing_take) [] [] (He.ma K (He.ga K "Standing") "take") fd
  d_Ledger_init : ∃ fd, FunD K "__init__" "Ledger.__init__" (defArgs s_Ledger_init) (defBody s_Ledger_init) (defScope s_Ledger_init) [] [] (He.ma K (He.ga K "Ledger") "__init__") fd
  d_Ledger_len : ∃ fd, FunD K "__len__" "Ledger.__len__" (defArgs s_Ledger_len) (defBody s_Ledger_len) (defScope s_Ledger_len) [] [] (He.ma K (He.ga K "Ledger") "__len__") fd
  d_Ledger_check : ∃ fd, FunD K "check" "Ledger.check" (defArgs s_Ledger_check) (defBody s_Ledger_check) (defScope s_Ledger_check) [] [] (He.ma K (He.ga K "Ledger") "check") fd
  d_Ledger_tell : ∃ fd, FunD K "tell" "Ledger.tell" (defArgs s_Ledger_tell) (defBody s_Ledger_tell) (defScope s_Ledger_tell) [] [] (He.ma K (He.ga K "Ledger") "tell") fd
  d_Ledger_lines : ∃ fd, FunD K "lines" "Ledger.lines" (defArgs s_Ledger_lines) (defBody s_Ledger_lines) (defScope s_Ledger_lines) [] [] (He.ma K (He.ga K "Ledger") "lines") fd
  d_Ledger_standing : ∃ fd, FunD K "standing" "Ledger.standing" (defArgs s_Ledger_standing) (defBody s_Ledger_standing) (defScope s_Ledger_standing) [] [] (He.ma K (He.ga K "Ledger") "standing") fd
  d_Ledger_voids : ∃ fd, FunD K "voids" "Ledger.voids" (defArgs s_Ledger_voids) (defBody s_Ledger_voids) (defScope s_Ledger_voids) [] [] (He.ma K (He.ga K "Ledger") "voids") fd
  d_Ledger_undone : ∃ fd, FunD K "undone" "Ledger.undone" (defArgs s_Ledger_undone) (defBody s_Ledger_undone) (defScope s_Ledger_undone) [] [] (He.ma K (He.ga K "Ledger") "undone") fd
  d_Ledger_hold : ∃ fd, FunD K "hold" "Ledger.hold" (defArgs s_Ledger_hold) (defBody s_Ledger_hold) (defScope s_Ledger_hold) [] [] (He.ma K (He.ga K "Ledger") "hold") fd
  d_Ledger_spoiled : ∃ fd, FunD K "spoiled" "Ledger.spoiled" (defArgs s_Ledger_spoiled) (defBody s_Ledger_spoiled) (defScope s_Ledger_spoiled) [] [] (He.ma K (He.ga K "Ledger") "spoiled") fd
  d_Ledger_check_thing : ∃ fd, FunD K "check_thing" "Ledger.check_thing" (defArgs s_Ledger_check_thing) (defBody s_Ledger_check_thing) (defScope s_Ledger_check_thing) [] [] (He.ma K (He.ga K "Ledger") "check_thing") fd
  d_Ledger_holder : ∃ fd, FunD K "holder" "Ledger.holder" (defArgs s_Ledger_holder) (defBody s_Ledger_holder) (defScope s_Ledger_holder) [] [] (He.ma K (He.ga K "Ledger") "holder") fd
  d_Ledger_row : ∃ fd, FunD K "row" "Ledger.row" (defArgs s_Ledger_row) (defBody s_Ledger_row) (defScope s_Ledger_row) [] [] (He.ma K (He.ga K "Ledger") "row") fd
  d_Ledger_holders : ∃ fd, FunD K "holders" "Ledger.holders" (defArgs s_Ledger_holders) (defBody s_Ledger_holders) (defScope s_Ledger_holders) [] [] (He.ma K (He.ga K "Ledger") "holders") fd
  d_law_cell_at : ∃ fd, FunD K "_law_cell_at" "_law_cell_at" (defArgs s_law_cell_at) (defBody s_law_cell_at) (defScope s_law_cell_at) [] [] (He.ga K "_law_cell_at") fd
  d_law_source : ∃ fd, FunD K "_law_source" "_law_source" (defArgs s_law_source) (defBody s_law_source) (defScope s_law_source) [] [] (He.ga K "_law_source") fd
  d_law_next : ∃ fd, FunD K "_law_next" "_law_next" (defArgs s_law_next) (defBody s_law_next) (defScope s_law_next) [] [] (He.ga K "_law_next") fd
  d_law_names : ∃ fd, FunD K "_law_names" "_law_names" (defArgs s_law_names) (defBody s_law_names) (defScope s_law_names) [] [] (He.ga K "_law_names") fd
  d_law_breed_rows : ∃ fd, FunD K "_law_breed_rows" "_law_breed_rows" (defArgs s_law_breed_rows) (defBody s_law_breed_rows) (defScope s_law_breed_rows) [] [] (He.ga K "_law_breed_rows") fd
  d_law_bed_rows : ∃ fd, FunD K "_law_bed_rows" "_law_bed_rows" (defArgs s_law_bed_rows) (defBody s_law_bed_rows) (defScope s_law_bed_rows) [] [] (He.ga K "_law_bed_rows") fd
  d_law_field : ∃ fd, FunD K "_law_field" "_law_field" (defArgs s_law_field) (defBody s_law_field) (defScope s_law_field) [] [] (He.ga K "_law_field") fd
  d_law_made : ∃ fd, FunD K "_law_made" "_law_made" (defArgs s_law_made) (defBody s_law_made) (defScope s_law_made) [] [] (He.ga K "_law_made") fd
  d_law_things : ∃ fd, FunD K "_law_things" "_law_things" (defArgs s_law_things) (defBody s_law_things) (defScope s_law_things) [] [] (He.ga K "_law_things") fd
  d_law_in_time : ∃ fd, FunD K "_law_in_time" "_law_in_time" (defArgs s_law_in_time) (defBody s_law_in_time) (defScope s_law_in_time) [] [] (He.ga K "_law_in_time") fd
  d_law_back : ∃ fd, FunD K "_law_back" "_law_back" (defArgs s_law_back) (defBody s_law_back) (defScope s_law_back) [] [] (He.ga K "_law_back") fd
  d_law_begin : ∃ fd, FunD K "_law_begin" "_law_begin" (defArgs s_law_begin) (defBody s_law_begin) (defScope s_law_begin) [] [] (He.ga K "_law_begin") fd
  d_law_keys : ∃ fd, FunD K "_law_keys" "_law_keys" (defArgs s_law_keys) (defBody s_law_keys) (defScope s_law_keys) [] [] (He.ga K "_law_keys") fd
  d_law_promised : ∃ fd, FunD K "_law_promised" "_law_promised" (defArgs s_law_promised) (defBody s_law_promised) (defScope s_law_promised) [] [] (He.ga K "_law_promised") fd
  d_law_spoiled : ∃ fd, FunD K "_law_spoiled" "_law_spoiled" (defArgs s_law_spoiled) (defBody s_law_spoiled) (defScope s_law_spoiled) [] [] (He.ga K "_law_spoiled") fd
  d_law_led : ∃ fd, FunD K "_law_led" "_law_led" (defArgs s_law_led) (defBody s_law_led) (defScope s_law_led) [] [] (He.ga K "_law_led") fd
  d_law_alike : ∃ fd, FunD K "_law_alike" "_law_alike" (defArgs s_law_alike) (defBody s_law_alike) (defScope s_law_alike) [] [] (He.ga K "_law_alike") fd
  d_law_likely : ∃ fd, FunD K "_law_likely" "_law_likely" (defArgs s_law_likely) (defBody s_law_likely) (defScope s_law_likely) [] [] (He.ga K "_law_likely") fd
  d_law_row_of : ∃ fd, FunD K "_law_row_of" "_law_row_of" (defArgs s_law_row_of) (defBody s_law_row_of) (defScope s_law_row_of) [] [] (He.ga K "_law_row_of") fd
  d_law_scene : ∃ fd, FunD K "_law_scene" "_law_scene" (defArgs s_law_scene) (defBody s_law_scene) (defScope s_law_scene) [] [] (He.ga K "_law_scene") fd
  d_law_rows : ∃ fd, FunD K "_law_rows" "_law_rows" (defArgs s_law_rows) (defBody s_law_rows) (defScope s_law_rows) [] [] (He.ga K "_law_rows") fd
  d_law_turned : ∃ fd, FunD K "_law_turned" "_law_turned" (defArgs s_law_turned) (defBody s_law_turned) (defScope s_law_turned) [] [] (He.ga K "_law_turned") fd
  d_law_told : ∃ fd, FunD K "_law_told" "_law_told" (defArgs s_law_told) (defBody s_law_told) (defScope s_law_told) [] [] (He.ga K "_law_told") fd
  d_law : ∃ fd, FunD K "law" "law" (defArgs s_law) (defBody s_law) (defScope s_law) [] [] (He.ga K "law") fd
end RP
set_option Elab.async false
set_option linter.all false
set_option maxRecDepth 100000
set_option maxHeartbeats 4000000

/-! rootpledge k80: the head: the lists of facts, the run, Txt (printed by hgen.py) -/
namespace RP
open PySem PySem.Spec PyProof.Rows L2
def fa0 : List He.Fa := [.glo "is_whole", .glo "is_between", .glo "is_from", .glo "is_name", .glo "common", .glo "plus", .glo "minus", .glo "less", .glo "is_grade", .glo "are_grades", .glo "first_wrong", .glo "are_unlike", .glo "are_breeds", .glo "are_beds", .glo "is_thing", .glo "has", .glo "is_rule", .glo "goes_with", .glo "is_going", .glo "is_line", .glo "when", .glo "in_time", .glo "_law_cell_at", .glo "_law_source", .glo "_law_next", .glo "_law_names", .glo "_law_breed_rows", .glo "_law_bed_rows", .glo "_law_field", .glo "_law_made"]
def fa1 : List He.Fa := [.glo "_law_things", .glo "_law_in_time", .glo "_law_back", .glo "_law_begin", .glo "_law_keys", .glo "_law_promised", .glo "_law_spoiled", .glo "_law_led", .glo "_law_alike", .glo "_law_likely", .glo "_law_row_of", .glo "_law_scene", .glo "_law_rows", .glo "_law_turned", .glo "_law_told", .glo "law", .glo "Part", .glo "Breed", .glo "Bed", .glo "Field", .glo "Promise", .glo "Spoiling", .glo "Standing", .glo "Ledger", .free "int", .free "bool", .free "str", .free "tuple", .free "list", .free "set"]
def fa2 : List He.Fa := [.free "dict", .free "len", .free "isinstance", .free "all", .free "sorted", .free "abs", .free "max", .free "min", .free "range", .free "enumerate", .int "MOST_LETTERS" 8, .int "MOST_GRADES" 6, .int "MOST_LEAST" 1000000, .int "MOST_HUNDREDTHS" 1000, .int "MOST_BEDS" 6, .int "MOST_ROOTS" 12, .int "MOST_GUESS" 60, .int "MOST_OFFSETS" 60, .int "MOST_SUM" 1000000, .int "MOST_BOTTOM" 12, .int "MOST_LINES" 120, .str "LETTERS" "abcdefghijklmnopqrstuvwxyz", .glo "KINDS", .glo "RULES", .cls "Part", .cls "Breed", .cls "Bed", .cls "Field", .cls "Promise", .cls "Spoiling"]
def fa3 : List He.Fa := [.cls "Standing", .cls "Ledger", .mkr "Part", .mkr "Breed", .mkr "Bed", .mkr "Field", .mkr "Promise", .mkr "Spoiling", .mkr "Standing", .mkr "Ledger", .meth "Part" "__eq__", .meth "Field" "bed_of", .meth "Field" "bed_names", .meth "Promise" "told", .meth "Promise" "__eq__", .meth "Spoiling" "__eq__", .meth "Standing" "back", .meth "Standing" "holds", .meth "Standing" "moves", .meth "Standing" "go", .meth "Standing" "void", .meth "Standing" "spoil", .meth "Standing" "take", .meth "Ledger" "__len__", .meth "Ledger" "check", .meth "Ledger" "tell", .meth "Ledger" "lines", .meth "Ledger" "standing", .meth "Ledger" "voids", .meth "Ledger" "undone"]
def fa4 : List He.Fa := [.meth "Ledger" "hold", .meth "Ledger" "spoiled", .meth "Ledger" "check_thing", .meth "Ledger" "holder", .meth "Ledger" "row", .meth "Ledger" "holders", .noat "Part" "top", .noat "Part" "bottom", .noat "Breed" "name", .noat "Breed" "grades", .noat "Bed" "name", .noat "Bed" "breed", .noat "Bed" "owner", .noat "Bed" "roots", .noat "Bed" "guess", .noat "Bed" "offsets", .noat "Bed" "kind", .noat "Field" "grown", .noat "Field" "dug", .noat "Promise" "number", .noat "Promise" "moment", .noat "Promise" "seller", .noat "Promise" "buyer", .noat "Promise" "thing", .noat "Promise" "price", .noat "Promise" "rule", .noat "Promise" "offsets", .noat "Promise" "earnest", .noat "Spoiling" "number", .noat "Spoiling" "moment"]
def fa5 : List He.Fa := [.noat "Spoiling" "bed", .noat "Standing" "field", .noat "Standing" "held", .noat "Standing" "parts", .noat "Standing" "spoilt", .noat "Standing" "good", .noat "Standing" "void_rows", .noat "Standing" "gone", .noat "Ledger" "field", .noat "Ledger" "known_lines", .noat "Ledger" "come"]
def faL : List He.Fa := fa0 ++ fa1 ++ fa2 ++ fa3 ++ fa4 ++ fa5
def dd_is_whole : He.DefD := ⟨("is_whole", none), "is_whole", "is_whole", defArgs s_is_whole, defBody s_is_whole, defScope s_is_whole, [], []⟩
def dd_is_between : He.DefD := ⟨("is_between", none), "is_between", "is_between", defArgs s_is_between, defBody s_is_between, defScope s_is_between, [], []⟩
def dd_is_from : He.DefD := ⟨("is_from", none), "is_from", "is_from", defArgs s_is_from, defBody s_is_from, defScope s_is_from, [], []⟩
def dd_is_name : He.DefD := ⟨("is_name", none), "is_name", "is_name", defArgs s_is_name, defBody s_is_name, defScope s_is_name, [], []⟩
def dd_common : He.DefD := ⟨("common", none), "common", "common", defArgs s_common, defBody s_common, defScope s_common, [], []⟩
def dd_Part_init : He.DefD := ⟨("Part", some "__init__"), "__init__", "Part.__init__", defArgs s_Part_init, defBody s_Part_init, defScope s_Part_init, [.int 1], []⟩
def dd_Part_eq : He.DefD := ⟨("Part", some "__eq__"), "__eq__", "Part.__eq__", defArgs s_Part_eq, defBody s_Part_eq, defScope s_Part_eq, [], []⟩
def dd_plus : He.DefD := ⟨("plus", none), "plus", "plus", defArgs s_plus, defBody s_plus, defScope s_plus, [], []⟩
def dd_minus : He.DefD := ⟨("minus", none), "minus", "minus", defArgs s_minus, defBody s_minus, defScope s_minus, [], []⟩
def dd_less : He.DefD := ⟨("less", none), "less", "less", defArgs s_less, defBody s_less, defScope s_less, [], []⟩
def dd_is_grade : He.DefD := ⟨("is_grade", none), "is_grade", "is_grade", defArgs s_is_grade, defBody s_is_grade, defScope s_is_grade, [], []⟩
def dd_are_grades : He.DefD := ⟨("are_grades", none), "are_grades", "are_grades", defArgs s_are_grades, defBody s_are_grades, defScope s_are_grades, [], []⟩
def dd_Breed_init : He.DefD := ⟨("Breed", some "__init__"), "__init__", "Breed.__init__", defArgs s_Breed_init, defBody s_Breed_init, defScope s_Breed_init, [], []⟩
def dd_first_wrong : He.DefD := ⟨("first_wrong", none), "first_wrong", "first_wrong", defArgs s_first_wrong, defBody s_first_wrong, defScope s_first_wrong, [], []⟩
def dd_Bed_init : He.DefD := ⟨("Bed", some "__init__"), "__init__", "Bed.__init__", defArgs s_Bed_init, defBody s_Bed_init, defScope s_Bed_init, [.int 0, .str "roots"], []⟩
def dd_are_unlike : He.DefD := ⟨("are_unlike", none), "are_unlike", "are_unlike", defArgs s_are_unlike, defBody s_are_unlike, defScope s_are_unlike, [], []⟩
def dd_are_breeds : He.DefD := ⟨("are_breeds", none), "are_breeds", "are_breeds", defArgs s_are_breeds, defBody s_are_breeds, defScope s_are_breeds, [], []⟩
def dd_are_beds : He.DefD := ⟨("are_beds", none), "are_beds", "are_beds", defArgs s_are_beds, defBody s_are_beds, defScope s_are_beds, [], []⟩
def dd_Field_init : He.DefD := ⟨("Field", some "__init__"), "__init__", "Field.__init__", defArgs s_Field_init, defBody s_Field_init, defScope s_Field_init, [], []⟩
def dd_Field_bed_of : He.DefD := ⟨("Field", some "bed_of"), "bed_of", "Field.bed_of", defArgs s_Field_bed_of, defBody s_Field_bed_of, defScope s_Field_bed_of, [], []⟩
def dd_Field_bed_names : He.DefD := ⟨("Field", some "bed_names"), "bed_names", "Field.bed_names", defArgs s_Field_bed_names, defBody s_Field_bed_names, defScope s_Field_bed_names, [], []⟩
def dd_is_thing : He.DefD := ⟨("is_thing", none), "is_thing", "is_thing", defArgs s_is_thing, defBody s_is_thing, defScope s_is_thing, [], []⟩
def dd_has : He.DefD := ⟨("has", none), "has", "has", defArgs s_has, defBody s_has, defScope s_has, [], []⟩
def dd_is_rule : He.DefD := ⟨("is_rule", none), "is_rule", "is_rule", defArgs s_is_rule, defBody s_is_rule, defScope s_is_rule, [], []⟩
def dd_goes_with : He.DefD := ⟨("goes_with", none), "goes_with", "goes_with", defArgs s_goes_with, defBody s_goes_with, defScope s_goes_with, [], []⟩
def dd_is_going : He.DefD := ⟨("is_going", none), "is_going", "is_going", defArgs s_is_going, defBody s_is_going, defScope s_is_going, [], []⟩
def dd_Promise_init : He.DefD := ⟨("Promise", some "__init__"), "__init__", "Promise.__init__", defArgs s_Promise_init, defBody s_Promise_init, defScope s_Promise_init, [.str "weighed", .str "go", .int 0], []⟩
def dd_Promise_told : He.DefD := ⟨("Promise", some "told"), "told", "Promise.told", defArgs s_Promise_told, defBody s_Promise_told, defScope s_Promise_told, [], []⟩
def dd_Promise_eq : He.DefD := ⟨("Promise", some "__eq__"), "__eq__", "Promise.__eq__", defArgs s_Promise_eq, defBody s_Promise_eq, defScope s_Promise_eq, [], []⟩
def dd_Spoiling_init : He.DefD := ⟨("Spoiling", some "__init__"), "__init__", "Spoiling.__init__", defArgs s_Spoiling_init, defBody s_Spoiling_init, defScope s_Spoiling_init, [], []⟩
def dd_Spoiling_eq : He.DefD := ⟨("Spoiling", some "__eq__"), "__eq__", "Spoiling.__eq__", defArgs s_Spoiling_eq, defBody s_Spoiling_eq, defScope s_Spoiling_eq, [], []⟩
def dd_is_line : He.DefD := ⟨("is_line", none), "is_line", "is_line", defArgs s_is_line, defBody s_is_line, defScope s_is_line, [], []⟩
def dd_when : He.DefD := ⟨("when", none), "when", "when", defArgs s_when, defBody s_when, defScope s_when, [], []⟩
def dd_in_time : He.DefD := ⟨("in_time", none), "in_time", "in_time", defArgs s_in_time, defBody s_in_time, defScope s_in_time, [], []⟩
def dd_Standing_init : He.DefD := ⟨("Standing", some "__init__"), "__init__", "Standing.__init__", defArgs s_Standing_init, defBody s_Standing_init, defScope s_Standing_init, [], []⟩
def dd_Standing_back : He.DefD := ⟨("Standing", some "back"), "back", "Standing.back", defArgs s_Standing_back, defBody s_Standing_back, defScope s_Standing_back, [], []⟩
def dd_Standing_holds : He.DefD := ⟨("Standing", some "holds"), "holds", "Standing.holds", defArgs s_Standing_holds, defBody s_Standing_holds, defScope s_Standing_holds, [], []⟩
def dd_Standing_moves : He.DefD := ⟨("Standing", some "moves"), "moves", "Standing.moves", defArgs s_Standing_moves, defBody s_Standing_moves, defScope s_Standing_moves, [], []⟩
def dd_Standing_go : He.DefD := ⟨("Standing", some "go"), "go", "Standing.go", defArgs s_Standing_go, defBody s_Standing_go, defScope s_Standing_go, [], []⟩
def dd_Standing_void : He.DefD := ⟨("Standing", some "void"), "void", "Standing.void", defArgs s_Standing_void, defBody s_Standing_void, defScope s_Standing_void, [], []⟩
def dd_Standing_spoil : He.DefD := ⟨("Standing", some "spoil"), "spoil", "Standing.spoil", defArgs s_Standing_spoil, defBody s_Standing_spoil, defScope s_Standing_spoil, [], []⟩
def dd_Standing_take : He.DefD := ⟨("Standing", some "take"), "take", "Standing.take", defArgs s_Standing_take, defBody s_Standing_take, defScope s_Standing_take, [], []⟩
def dd_Ledger_init : He.DefD := ⟨("Ledger", some "__init__"), "__init__", "Ledger.__init__", defArgs s_Ledger_init, defBody s_Ledger_init, defScope s_Ledger_init, [], []⟩
def dd_Ledger_len : He.DefD := ⟨("Ledger", some "__len__"), "__len__", "Ledger.__len__", defArgs s_Ledger_len, defBody s_Ledger_len, defScope s_Ledger_len, [], []⟩
def dd_Ledger_check : He.DefD := ⟨("Ledger", some "check"), "check", "Ledger.check", defArgs s_Ledger_check, defBody s_Ledger_check, defScope s_Ledger_check, [], []⟩
def dd_Ledger_tell : He.DefD := ⟨("Ledger", some "tell"), "tell", "Ledger.tell", defArgs s_Ledger_tell, defBody s_Ledger_tell, defScope s_Ledger_tell, [], []⟩
def dd_Ledger_lines : He.DefD := ⟨("Ledger", some "lines"), "lines", "Ledger.lines", defArgs s_Ledger_lines, defBody s_Ledger_lines, defScope s_Ledger_lines, [], []⟩
def dd_Ledger_standing : He.DefD := ⟨("Ledger", some "standing"), "standing", "Ledger.standing", defArgs s_Ledger_standing, defBody s_Ledger_standing, defScope s_Ledger_standing, [], []⟩
def dd_Ledger_voids : He.DefD := ⟨("Ledger", some "voids"), "voids", "Ledger.voids", defArgs s_Ledger_voids, defBody s_Ledger_voids, defScope s_Ledger_voids, [], []⟩
def dd_Ledger_undone : He.DefD := ⟨("Ledger", some "undone"), "undone", "Ledger.undone", defArgs s_Ledger_undone, defBody s_Ledger_undone, defScope s_Ledger_undone, [], []⟩
def dd_Ledger_hold : He.DefD := ⟨("Ledger", some "hold"), "hold", "Ledger.hold", defArgs s_Ledger_hold, defBody s_Ledger_hold, defScope s_Ledger_hold, [], []⟩
def dd_Ledger_spoiled : He.DefD := ⟨("Ledger", some "spoiled"), "spoiled", "Ledger.spoiled", defArgs s_Ledger_spoiled, defBody s_Ledger_spoiled, defScope s_Ledger_spoiled, [], []⟩
def dd_Ledger_check_thing : He.DefD := ⟨("Ledger", some "check_thing"), "check_thing", "Ledger.check_thing", defArgs s_Ledger_check_thing, defBody s_Ledger_check_thing, defScope s_Ledger_check_thing, [], []⟩
def dd_Ledger_holder : He.DefD := ⟨("Ledger", some "holder"), "holder", "Ledger.holder", defArgs s_Ledger_holder, defBody s_Ledger_holder, defScope s_Ledger_holder, [], []⟩
def dd_Ledger_row : He.DefD := ⟨("Ledger", some "row"), "row", "Ledger.row", defArgs s_Ledger_row, defBody s_Ledger_row, defScope s_Ledger_row, [], []⟩
def dd_Ledger_holders : He.DefD := ⟨("Ledger", some "holders"), "holders", "Ledger.holders", defArgs s_Ledger_holders, defBody s_Ledger_holders, defScope s_Ledger_holders, [], []⟩
def dd_law_cell_at : He.DefD := ⟨("_law_cell_at", none), "_law_cell_at", "_law_cell_at", defArgs s_law_cell_at, defBody s_law_cell_at, defScope s_law_cell_at, [], []⟩
def dd_law_source : He.DefD := ⟨("_law_source", none), "_law_source", "_law_source", defArgs s_law_source, defBody s_law_source, defScope s_law_source, [], []⟩
def dd_law_next : He.DefD := ⟨("_law_next", none), "_law_next", "_law_next", defArgs s_law_next, defBody s_law_next, defScope s_law_next, [], []⟩
def dd_law_names : He.DefD := ⟨("_law_names", none), "_law_names", "_law_names", defArgs s_law_names, defBody s_law_names, defScope s_law_names, [], []⟩
def dd_law_breed_rows : He.DefD := ⟨("_law_breed_rows", none), "_law_breed_rows", "_law_breed_rows", defArgs s_law_breed_rows, defBody s_law_breed_rows, defScope s_law_breed_rows, [], []⟩
def dd_law_bed_rows : He.DefD := ⟨("_law_bed_rows", none), "_law_bed_rows", "_law_bed_rows", defArgs s_law_bed_rows, defBody s_law_bed_rows, defScope s_law_bed_rows, [], []⟩
def dd_law_field : He.DefD := ⟨("_law_field", none), "_law_field", "_law_field", defArgs s_law_field, defBody s_law_field, defScope s_law_field, [], []⟩
def dd_law_made : He.DefD := ⟨("_law_made", none), "_law_made", "_law_made", defArgs s_law_made, defBody s_law_made, defScope s_law_made, [], []⟩
def dd_law_things : He.DefD := ⟨("_law_things", none), "_law_things", "_law_things", defArgs s_law_things, defBody s_law_things, defScope s_law_things, [], []⟩
def dd_law_in_time : He.DefD := ⟨("_law_in_time", none), "_law_in_time", "_law_in_time", defArgs s_law_in_time, defBody s_law_in_time, defScope s_law_in_time, [], []⟩
def dd_law_back : He.DefD := ⟨("_law_back", none), "_law_back", "_law_back", defArgs s_law_back, defBody s_law_back, defScope s_law_back, [], []⟩
def dd_law_begin : He.DefD := ⟨("_law_begin", none), "_law_begin", "_law_begin", defArgs s_law_begin, defBody s_law_begin, defScope s_law_begin, [], []⟩
def dd_law_keys : He.DefD := ⟨("_law_keys", none), "_law_keys", "_law_keys", defArgs s_law_keys, defBody s_law_keys, defScope s_law_keys, [], []⟩
def dd_law_promised : He.DefD := ⟨("_law_promised", none), "_law_promised", "_law_promised", defArgs s_law_promised, defBody s_law_promised, defScope s_law_promised, [], []⟩
def dd_law_spoiled : He.DefD := ⟨("_law_spoiled", none), "_law_spoiled", "_law_spoiled", defArgs s_law_spoiled, defBody s_law_spoiled, defScope s_law_spoiled, [], []⟩
def dd_law_led : He.DefD := ⟨("_law_led", none), "_law_led", "_law_led", defArgs s_law_led, defBody s_law_led, defScope s_law_led, [], []⟩
def dd_law_alike : He.DefD := ⟨("_law_alike", none), "_law_alike", "_law_alike", defArgs s_law_alike, defBody s_law_alike, defScope s_law_alike, [], []⟩
def dd_law_likely : He.DefD := ⟨("_law_likely", none), "_law_likely", "_law_likely", defArgs s_law_likely, defBody s_law_likely, defScope s_law_likely, [], []⟩
def dd_law_row_of : He.DefD := ⟨("_law_row_of", none), "_law_row_of", "_law_row_of", defArgs s_law_row_of, defBody s_law_row_of, defScope s_law_row_of, [], []⟩
def dd_law_scene : He.DefD := ⟨("_law_scene", none), "_law_scene", "_law_scene", defArgs s_law_scene, defBody s_law_scene, defScope s_law_scene, [], []⟩
def dd_law_rows : He.DefD := ⟨("_law_rows", none), "_law_rows", "_law_rows", defArgs s_law_rows, defBody s_law_rows, defScope s_law_rows, [], []⟩
def dd_law_turned : He.DefD := ⟨("_law_turned", none), "_law_turned", "_law_turned", defArgs s_law_turned, defBody s_law_turned, defScope s_law_turned, [], []⟩
def dd_law_told : He.DefD := ⟨("_law_told", none), "_law_told", "_law_told", defArgs s_law_told, defBody s_law_told, defScope s_law_told, [], []⟩
def dd_law : He.DefD := ⟨("law", none), "law", "law", defArgs s_law, defBody s_law, defScope s_law, [], []⟩
def fn0 : List He.DefD := [dd_is_whole, dd_is_between, dd_is_from, dd_is_name, dd_common, dd_Part_init, dd_Part_eq, dd_plus, dd_minus, dd_less, dd_is_grade, dd_are_grades, dd_Breed_init, dd_first_wrong, dd_Bed_init, dd_are_unlike, dd_are_breeds, dd_are_beds, dd_Field_init, dd_Field_bed_of, dd_Field_bed_names, dd_is_thing, dd_has, dd_is_rule, dd_goes_with, dd_is_going, dd_Promise_init, dd_Promise_told, dd_Promise_eq, dd_Spoiling_init]
def fn1 : List He.DefD := [dd_Spoiling_eq, dd_is_line, dd_when, dd_in_time, dd_Standing_init, dd_Standing_back, dd_Standing_holds, dd_Standing_moves, dd_Standing_go, dd_Standing_void, dd_Standing_spoil, dd_Standing_take, dd_Ledger_init, dd_Ledger_len, dd_Ledger_check, dd_Ledger_tell, dd_Ledger_lines, dd_Ledger_standing, dd_Ledger_voids, dd_Ledger_undone, dd_Ledger_hold, dd_Ledger_spoiled, dd_Ledger_check_thing, dd_Ledger_holder, dd_Ledger_row, dd_Ledger_holders, dd_law_cell_at, dd_law_source, dd_law_next, dd_law_names]
def fn2 : List He.DefD := [dd_law_breed_rows, dd_law_bed_rows, dd_law_field, dd_law_made, dd_law_things, dd_law_in_time, dd_law_back, dd_law_begin, dd_law_keys, dd_law_promised, dd_law_spoiled, dd_law_led, dd_law_alike, dd_law_likely, dd_law_row_of, dd_law_scene, dd_law_rows, dd_law_turned, dd_law_told, dd_law]
def fnL : List He.DefD := fn0 ++ fn1 ++ fn2
def ex0 (K : PySem.W.Frag) : Bool := decide (PySem.W.findIn K (.ref (He.ga K "Part")) "__class__" = some (some (.builtin "object.__class__"))) && (decide (PySem.W.mroIn K (He.ga K "Part") (.type "object") = some true) && (decide (PySem.W.findIn K (.ref (He.ga K "Breed")) "__class__" = some (some (.builtin "object.__class__"))) && (decide (PySem.W.mroIn K (He.ga K "Breed") (.type "object") = some true) && (decide (PySem.W.findIn K (.ref (He.ga K "Bed")) "__class__" = some (some (.builtin "object.__class__"))) && (decide (PySem.W.mroIn K (He.ga K "Bed") (.type "object") = some true) && (decide (PySem.W.findIn K (.ref (He.ga K "Field")) "__class__" = some (some (.builtin "object.__class__"))) && (decide (PySem.W.mroIn K (He.ga K "Field") (.type "object") = some true) && (decide (PySem.W.findIn K (.ref (He.ga K "Promise")) "__class__" = some (some (.builtin "object.__class__"))) && (decide (PySem.W.mroIn K (He.ga K "Promise") (.type "object") = some true) && (decide (PySem.W.findIn K (.ref (He.ga K "Spoiling")) "__class__" = some (some (.builtin "object.__class__"))) && (decide (PySem.W.mroIn K (He.ga K "Spoiling") (.type "object") = some true) && (decide (PySem.W.findIn K (.ref (He.ga K "Standing")) "__class__" = some (some (.builtin "object.__class__"))) && (decide (PySem.W.mroIn K (He.ga K "Standing") (.type "object") = some true) && (decide (PySem.W.findIn K (.ref (He.ga K "Ledger")) "__class__" = some (some (.builtin "object.__class__"))) && (decide (PySem.W.mroIn K (He.ga K "Ledger") (.type "object") = some true) && (decide (PySem.W.specialIn K (.builtin "object.__class__") "__get__" = some (some (.builtin "getset_descriptor.__get__"))) && (decide (PySem.W.takesIn K (.builtin "object.__class__") = some true) && (decide (PySem.W.kitOne K (.ref (He.ga K "Part")) (.ref (He.ga K "Part")) = some true) && (decide (PySem.W.kitOne K (.ref (He.ga K "Breed")) (.ref (He.ga K "Breed")) = some true))))))))))))))))))))
def ex1 (K : PySem.W.Frag) : Bool := decide (PySem.W.kitOne K (.ref (He.ga K "Bed")) (.ref (He.ga K "Bed")) = some true) && (decide (PySem.W.kitOne K (.ref (He.ga K "Promise")) (.ref (He.ga K "Promise")) = some true) && (decide (PySem.W.kitOne K (.ref (He.ga K "Spoiling")) (.ref (He.ga K "Promise")) = some false) && (decide (PySem.W.kitOne K (.ref (He.ga K "Spoiling")) (.ref (He.ga K "Spoiling")) = some true) && (decide (PySem.W.findIn K (.ref (He.ga K "Part")) "__ne__" = some (some (.builtin "object.__ne__"))) && (decide (PySem.W.findIn K (.ref (He.ga K "Promise")) "__ne__" = some (some (.builtin "object.__ne__"))) && (decide (PySem.W.findIn K (.ref (He.ga K "Spoiling")) "__ne__" = some (some (.builtin "object.__ne__"))) && (He.tupB K "KINDS" [.str "roots", .str "shares"] && (He.tupB K "RULES" [.str "flat", .str "weighed", .str "graded", .str "gram"]))))))))
def exL (K : PySem.W.Frag) : Bool := ex0 K && (ex1 K)
abbrev RW : PySem.W.OpenRow := PySem.W.OpenLaw.row PySem.Challenge.rw_rootpledge_k80_whole_late_as_in_time
/-- the objects that the module's names reach in four steps, one behind the other -/
def nxt (g : Addr → Option Obj) (as : List Addr) : List Addr := as.flatMap fun a => match g a with
  | some o => He.refsD o
  | none => []
def asM (g : Addr → Option Obj) : List Addr := mainGlobals :: (nxt g [mainGlobals] ++ (nxt g (nxt g [mainGlobals]) ++ (nxt g (nxt g (nxt g [mainGlobals])) ++ nxt g (nxt g (nxt g (nxt g [mainGlobals]))))))
abbrev AlM : Type := He.AlD × Bool
def obsM (fa : List He.Fa) (fn : List He.DefD) (ex : PySem.W.Frag → Bool) (g : Addr → Option Obj) : AlM := (He.obsD fa fn (He.frG g (asM g)), ex (He.frG g (asM g)))
def hookM (fa : List He.Fa) (fn : List He.DefD) (ex : PySem.W.Frag → Bool) : PySem.W.Hook where
  α := AlM
  obs := fun s => obsM fa fn ex s.heap.get?
  val := fun _ => (He.valD fn, true)
  says := fun _ h => ∃ K : PySem.W.Frag, K.In h ∧ He.SaysD fa fn K ∧ ex K = true
  of := fun _ _ e => ⟨_, He.frG_in, congrArg (fun z : AlM => z.1) e, congrArg (fun z : AlM => z.2) e⟩
  keeps := fun _ _ _ ⟨K, hK, c⟩ k => ⟨K, PySem.W.Frag.In.keeps hK k, c⟩
abbrev hk : PySem.W.Hook := hookM faL fnL exL
def ob (s : PySem.W.SharedT) : AlM := obsM faL fnL exL (HandSHeadRun.getT s)
theorem ob_eq (s : PySem.W.SharedT) : ob s = hk.obs s.abs := by
  have e : HandSHeadRun.getT s = s.abs.heap.get? := funext (HandSHeadRun.getT_eq s)
  show obsM faL fnL exL (HandSHeadRun.getT s) = obsM faL fnL exL s.abs.heap.get?
  rw [e]
def lo0 : List PySem.Str := ["_wall", "RootError", "NoPart", "NoBreed", "NoBed", "NoField", "NotThere", "NoPromise", "NoLine", "Taken", "TooMany", "LETTERS", "MOST_LETTERS", "is_whole", "is_between", "is_from", "is_name", "common", "Part", "plus", "minus", "less", "MOST_GRADES", "MOST_LEAST", "MOST_HUNDREDTHS", "MOST_BEDS", "MOST_ROOTS", "MOST_GUESS", "MOST_OFFSETS", "KINDS"]
def lo1 : List PySem.Str := ["is_grade", "are_grades", "Breed", "first_wrong", "Bed", "are_unlike", "are_breeds", "are_beds", "Field", "MOST_SUM", "MOST_BOTTOM", "RULES", "is_thing", "has", "is_rule", "goes_with", "is_going", "Promise", "Spoiling", "thing_words", "words_of", "is_line", "when", "in_time", "MOST_LINES", "Standing", "Ledger", "_law_cell_at", "_law_source", "_law_next"]
def lo2 : List PySem.Str := ["_law_names", "_law_breed_rows", "_law_bed_rows", "_law_field", "_law_made", "_law_things", "_law_in_time", "_law_back", "_law_begin", "_law_keys", "_law_promised", "_law_spoiled", "_law_led", "_law_alike", "_law_likely", "_law_row_of", "_law_scene", "_law_rows", "_law_turned", "_law_told"]
def loL : List PySem.Str := lo0 ++ lo1 ++ lo2
theorem run (w : World) : HandSHeadRun.RunEq RW (PySem.W.view RW.prog [86]) hk ob 8000 loL w := by
  intro os
  kernel_rfl
theorem ba {a b : Bool} (h : (a && b) = true) : a = true ∧ b = true := Bool.and_eq_true_iff.mp h
theorem txt {K : PySem.W.Frag} {h : Heap} {mg : Str → Option Value} (X : K.In h) (G : h.Ns mainGlobals mg) (c : He.SaysD faL fnL K) (m : exL K = true) : Txt K mg := by
  obtain ⟨x0, m⟩ := ba m
  have x1 := m
  obtain ⟨m_ic_Part, x0⟩ := ba x0
  obtain ⟨m_im_Part, x0⟩ := ba x0
  obtain ⟨m_ic_Breed, x0⟩ := ba x0
  obtain ⟨m_im_Breed, x0⟩ := ba x0
  obtain ⟨m_ic_Bed, x0⟩ := ba x0
  obtain ⟨m_im_Bed, x0⟩ := ba x0
  obtain ⟨m_ic_Field, x0⟩ := ba x0
  obtain ⟨m_im_Field, x0⟩ := ba x0
  obtain ⟨m_ic_Promise, x0⟩ := ba x0
  obtain ⟨m_im_Promise, x0⟩ := ba x0
  obtain ⟨m_ic_Spoiling, x0⟩ := ba x0
  obtain ⟨m_im_Spoiling, x0⟩ := ba x0
  obtain ⟨m_ic_Standing, x0⟩ := ba x0
  obtain ⟨m_im_Standing, x0⟩ := ba x0
  obtain ⟨m_ic_Ledger, x0⟩ := ba x0
  obtain ⟨m_im_Ledger, x0⟩ := ba x0
  obtain ⟨m_icg, x0⟩ := ba x0
  obtain ⟨m_ict, x0⟩ := ba x0
  obtain ⟨m_ki_Part_Part, x0⟩ := ba x0
  have m_ki_Breed_Breed := x0
  obtain ⟨m_ki_Bed_Bed, x1⟩ := ba x1
  obtain ⟨m_ki_Promise_Promise, x1⟩ := ba x1
  obtain ⟨m_ki_Spoiling_Promise, x1⟩ := ba x1
  obtain ⟨m_ki_Spoiling_Spoiling, x1⟩ := ba x1
  obtain ⟨m_ne_Part, x1⟩ := ba x1
  obtain ⟨m_ne_Promise, x1⟩ := ba x1
  obtain ⟨m_ne_Spoiling, x1⟩ := ba x1
  obtain ⟨m_t_KINDS, x1⟩ := ba x1
  have m_t_RULES := x1
  exact {
    g_is_whole := He.glo_ok X G (c.fact 0 (f := .glo "is_whole") rfl)
    g_is_between := He.glo_ok X G (c.fact 1 (f := .glo "is_between") rfl)
    g_is_from := He.glo_ok X G (c.fact 2 (f := .glo "is_from") rfl)
    g_is_name := He.glo_ok X G (c.fact 3 (f := .glo "is_name") rfl)
    g_common := He.glo_ok X G (c.fact 4 (f := .glo "common") rfl)
    g_plus := He.glo_ok X G (c.fact 5 (f := .glo "plus") rfl)
    g_minus := He.glo_ok X G (c.fact 6 (f := .glo "minus") rfl)
    g_less := He.glo_ok X G (c.fact 7 (f := .glo "less") rfl)
    g_is_grade := He.glo_ok X G (c.fact 8 (f := .glo "is_grade") rfl)
    g_are_grades := He.glo_ok X G (c.fact 9 (f := .glo "are_grades") rfl)
    g_first_wrong := He.glo_ok X G (c.fact 10 (f := .glo "first_wrong") rfl)
    g_are_unlike := He.glo_ok X G (c.fact 11 (f := .glo "are_unlike") rfl)
    g_are_breeds := He.glo_ok X G (c.fact 12 (f := .glo "are_breeds") rfl)
    g_are_beds := He.glo_ok X G (c.fact 13 (f := .glo "are_beds") rfl)
    g_is_thing := He.glo_ok X G (c.fact 14 (f := .glo "is_thing") rfl)
    g_has := He.glo_ok X G (c.fact 15 (f := .glo "has") rfl)
    g_is_rule := He.glo_ok X G (c.fact 16 (f := .glo "is_rule") rfl)
    g_goes_with := He.glo_ok X G (c.fact 17 (f := .glo "goes_with") rfl)
    g_is_going := He.glo_ok X G (c.fact 18 (f := .glo "is_going") rfl)
    g_is_line := He.glo_ok X G (c.fact 19 (f := .glo "is_line") rfl)
    g_when := He.glo_ok X G (c.fact 20 (f := .glo "when") rfl)
    g_in_time := He.glo_ok X G (c.fact 21 (f := .glo "in_time") rfl)
    g__law_cell_at := He.glo_ok X G (c.fact 22 (f := .glo "_law_cell_at") rfl)
    g__law_source := He.glo_ok X G (c.fact 23 (f := .glo "_law_source") rfl)
    g__law_next := He.glo_ok X G (c.fact 24 (f := .glo "_law_next") rfl)
    g__law_names := He.glo_ok X G (c.fact 25 (f := .glo "_law_names") rfl)
    g__law_breed_rows := He.glo_ok X G (c.fact 26 (f := .glo "_law_breed_rows") rfl)
    g__law_bed_rows := He.glo_ok X G (c.fact 27 (f := .glo "_law_bed_rows") rfl)
    g__law_field := He.glo_ok X G (c.fact 28 (f := .glo "_law_field") rfl)
    g__law_made := He.glo_ok X G (c.fact 29 (f := .glo "_law_made") rfl)
    g__law_things := He.glo_ok X G (c.fact 30 (f := .glo "_law_things") rfl)
    g__law_in_time := He.glo_ok X G (c.fact 31 (f := .glo "_law_in_time") rfl)
    g__law_back := He.glo_ok X G (c.fact 32 (f := .glo "_law_back") rfl)
    g__law_begin := He.glo_ok X G (c.fact 33 (f := .glo "_law_begin") rfl)
    g__law_keys := He.glo_ok X G (c.fact 34 (f := .glo "_law_keys") rfl)
    g__law_promised := He.glo_ok X G (c.fact 35 (f := .glo "_law_promised") rfl)
    g__law_spoiled := He.glo_ok X G (c.fact 36 (f := .glo "_law_spoiled") rfl)
    g__law_led := He.glo_ok X G (c.fact 37 (f := .glo "_law_led") rfl)
    g__law_alike := He.glo_ok X G (c.fact 38 (f := .glo "_law_alike") rfl)
    g__law_likely := He.glo_ok X G (c.fact 39 (f := .glo "_law_likely") rfl)
    g__law_row_of := He.glo_ok X G (c.fact 40 (f := .glo "_law_row_of") rfl)
    g__law_scene := He.glo_ok X G (c.fact 41 (f := .glo "_law_scene") rfl)
    g__law_rows := He.glo_ok X G (c.fact 42 (f := .glo "_law_rows") rfl)
    g__law_turned := He.glo_ok X G (c.fact 43 (f := .glo "_law_turned") rfl)
    g__law_told := He.glo_ok X G (c.fact 44 (f := .glo "_law_told") rfl)
    g_law := He.glo_ok X G (c.fact 45 (f := .glo "law") rfl)
    g_Part := He.glo_ok X G (c.fact 46 (f := .glo "Part") rfl)
    g_Breed := He.glo_ok X G (c.fact 47 (f := .glo "Breed") rfl)
    g_Bed := He.glo_ok X G (c.fact 48 (f := .glo "Bed") rfl)
    g_Field := He.glo_ok X G (c.fact 49 (f := .glo "Field") rfl)
    g_Promise := He.glo_ok X G (c.fact 50 (f := .glo "Promise") rfl)
    g_Spoiling := He.glo_ok X G (c.fact 51 (f := .glo "Spoiling") rfl)
    g_Standing := He.glo_ok X G (c.fact 52 (f := .glo "Standing") rfl)
    g_Ledger := He.glo_ok X G (c.fact 53 (f := .glo "Ledger") rfl)
    n_int := He.free_ok X G (c.fact 54 (f := .free "int") rfl)
    n_bool := He.free_ok X G (c.fact 55 (f := .free "bool") rfl)
    n_str := He.free_ok X G (c.fact 56 (f := .free "str") rfl)
    n_tuple := He.free_ok X G (c.fact 57 (f := .free "tuple") rfl)
    n_list := He.free_ok X G (c.fact 58 (f := .free "list") rfl)
    n_set := He.free_ok X G (c.fact 59 (f := .free "set") rfl)
    n_dict := He.free_ok X G (c.fact 60 (f := .free "dict") rfl)
    n_len := He.free_ok X G (c.fact 61 (f := .free "len") rfl)
    n_isinstance := He.free_ok X G (c.fact 62 (f := .free "isinstance") rfl)
    n_all := He.free_ok X G (c.fact 63 (f := .free "all") rfl)
    n_sorted := He.free_ok X G (c.fact 64 (f := .free "sorted") rfl)
    n_abs := He.free_ok X G (c.fact 65 (f := .free "abs") rfl)
    n_max := He.free_ok X G (c.fact 66 (f := .free "max") rfl)
    n_min := He.free_ok X G (c.fact 67 (f := .free "min") rfl)
    n_range := He.free_ok X G (c.fact 68 (f := .free "range") rfl)
    n_enumerate := He.free_ok X G (c.fact 69 (f := .free "enumerate") rfl)
    i_MOST_LETTERS := He.int_ok X G (c.fact 70 (f := .int "MOST_LETTERS" 8) rfl)
    i_MOST_GRADES := He.int_ok X G (c.fact 71 (f := .int "MOST_GRADES" 6) rfl)
    i_MOST_LEAST := He.int_ok X G (c.fact 72 (f := .int "MOST_LEAST" 1000000) rfl)
    i_MOST_HUNDREDTHS := He.int_ok X G (c.fact 73 (f := .int "MOST_HUNDREDTHS" 1000) rfl)
    i_MOST_BEDS := He.int_ok X G (c.fact 74 (f := .int "MOST_BEDS" 6) rfl)
    i_MOST_ROOTS := He.int_ok X G (c.fact 75 (f := .int "MOST_ROOTS" 12) rfl)
    i_MOST_GUESS := He.int_ok X G (c.fact 76 (f := .int "MOST_GUESS" 60) rfl)
    i_MOST_OFFSETS := He.int_ok X G (c.fact 77 (f := .int "MOST_OFFSETS" 60) rfl)
    i_MOST_SUM := He.int_ok X G (c.fact 78 (f := .int "MOST_SUM" 1000000) rfl)
    i_MOST_BOTTOM := He.int_ok X G (c.fact 79 (f := .int "MOST_BOTTOM" 12) rfl)
    i_MOST_LINES := He.int_ok X G (c.fact 80 (f := .int "MOST_LINES" 120) rfl)
    s_LETTERS := He.str_ok X G (c.fact 81 (f := .str "LETTERS" "abcdefghijklmnopqrstuvwxyz") rfl)
    g_KINDS := He.glo_ok X G (c.fact 82 (f := .glo "KINDS") rfl)
    g_RULES := He.glo_ok X G (c.fact 83 (f := .glo "RULES") rfl)
    cl_Part := He.cls_ok (c.fact 84 (f := .cls "Part") rfl)
    cl_Breed := He.cls_ok (c.fact 85 (f := .cls "Breed") rfl)
    cl_Bed := He.cls_ok (c.fact 86 (f := .cls "Bed") rfl)
    cl_Field := He.cls_ok (c.fact 87 (f := .cls "Field") rfl)
    cl_Promise := He.cls_ok (c.fact 88 (f := .cls "Promise") rfl)
    cl_Spoiling := He.cls_ok (c.fact 89 (f := .cls "Spoiling") rfl)
    cl_Standing := He.cls_ok (c.fact 90 (f := .cls "Standing") rfl)
    cl_Ledger := He.cls_ok (c.fact 91 (f := .cls "Ledger") rfl)
    mk_Part := He.mkr_ok (c.fact 92 (f := .mkr "Part") rfl)
    mk_Breed := He.mkr_ok (c.fact 93 (f := .mkr "Breed") rfl)
    mk_Bed := He.mkr_ok (c.fact 94 (f := .mkr "Bed") rfl)
    mk_Field := He.mkr_ok (c.fact 95 (f := .mkr "Field") rfl)
    mk_Promise := He.mkr_ok (c.fact 96 (f := .mkr "Promise") rfl)
    mk_Spoiling := He.mkr_ok (c.fact 97 (f := .mkr "Spoiling") rfl)
    mk_Standing := He.mkr_ok (c.fact 98 (f := .mkr "Standing") rfl)
    mk_Ledger := He.mkr_ok (c.fact 99 (f := .mkr "Ledger") rfl)
    me_Part_eq := He.meth_ok (c.fact 100 (f := .meth "Part" "__eq__") rfl)
    me_Field_bed_of := He.meth_ok (c.fact 101 (f := .meth "Field" "bed_of") rfl)
    me_Field_bed_names := He.meth_ok (c.fact 102 (f := .meth "Field" "bed_names") rfl)
    me_Promise_told := He.meth_ok (c.fact 103 (f := .meth "Promise" "told") rfl)
    me_Promise_eq := He.meth_ok (c.fact 104 (f := .meth "Promise" "__eq__") rfl)
    me_Spoiling_eq := He.meth_ok (c.fact 105 (f := .meth "Spoiling" "__eq__") rfl)
    me_Standing_back := He.meth_ok (c.fact 106 (f := .meth "Standing" "back") rfl)
    me_Standing_holds := He.meth_ok (c.fact 107 (f := .meth "Standing" "holds") rfl)
    me_Standing_moves := He.meth_ok (c.fact 108 (f := .meth "Standing" "moves") rfl)
    me_Standing_go := He.meth_ok (c.fact 109 (f := .meth "Standing" "go") rfl)
    me_Standing_void := He.meth_ok (c.fact 110 (f := .meth "Standing" "void") rfl)
    me_Standing_spoil := He.meth_ok (c.fact 111 (f := .meth "Standing" "spoil") rfl)
    me_Standing_take := He.meth_ok (c.fact 112 (f := .meth "Standing" "take") rfl)
    me_Ledger_len := He.meth_ok (c.fact 113 (f := .meth "Ledger" "__len__") rfl)
    me_Ledger_check := He.meth_ok (c.fact 114 (f := .meth "Ledger" "check") rfl)
    me_Ledger_tell := He.meth_ok (c.fact 115 (f := .meth "Ledger" "tell") rfl)
    me_Ledger_lines := He.meth_ok (c.fact 116 (f := .meth "Ledger" "lines") rfl)
    me_Ledger_standing := He.meth_ok (c.fact 117 (f := .meth "Ledger" "standing") rfl)
    me_Ledger_voids := He.meth_ok (c.fact 118 (f := .meth "Ledger" "voids") rfl)
    me_Ledger_undone := He.meth_ok (c.fact 119 (f := .meth "Ledger" "undone") rfl)
    me_Ledger_hold := He.meth_ok (c.fact 120 (f := .meth "Ledger" "hold") rfl)
    me_Ledger_spoiled := He.meth_ok (c.fact 121 (f := .meth "Ledger" "spoiled") rfl)
    me_Ledger_check_thing := He.meth_ok (c.fact 122 (f := .meth "Ledger" "check_thing") rfl)
    me_Ledger_holder := He.meth_ok (c.fact 123 (f := .meth "Ledger" "holder") rfl)
    me_Ledger_row := He.meth_ok (c.fact 124 (f := .meth "Ledger" "row") rfl)
    me_Ledger_holders := He.meth_ok (c.fact 125 (f := .meth "Ledger" "holders") rfl)
    na_Part_top := He.noat_ok (c.fact 126 (f := .noat "Part" "top") rfl)
    na_Part_bottom := He.noat_ok (c.fact 127 (f := .noat "Part" "bottom") rfl)
    na_Breed_name := He.noat_ok (c.fact 128 (f := .noat "Breed" "name") rfl)
    na_Breed_grades := He.noat_ok (c.fact 129 (f := .noat "Breed" "grades") rfl)
    na_Bed_name := He.noat_ok (c.fact 130 (f := .noat "Bed" "name") rfl)
    na_Bed_breed := He.noat_ok (c.fact 131 (f := .noat "Bed" "breed") rfl)
    na_Bed_owner := He.noat_ok (c.fact 132 (f := .noat "Bed" "owner") rfl)
    na_Bed_roots := He.noat_ok (c.fact 133 (f := .noat "Bed" "roots") rfl)
    na_Bed_guess := He.noat_ok (c.fact 134 (f := .noat "Bed" "guess") rfl)
    na_Bed_offsets := He.noat_ok (c.fact 135 (f := .noat "Bed" "offsets") rfl)
    na_Bed_kind := He.noat_ok (c.fact 136 (f := .noat "Bed" "kind") rfl)
    na_Field_grown := He.noat_ok (c.fact 137 (f := .noat "Field" "grown") rfl)
    na_Field_dug := He.noat_ok (c.fact 138 (f := .noat "Field" "dug") rfl)
    na_Promise_number := He.noat_ok (c.fact 139 (f := .noat "Promise" "number") rfl)
    na_Promise_moment := He.noat_ok (c.fact 140 (f := .noat "Promise" "moment") rfl)
    na_Promise_seller := He.noat_ok (c.fact 141 (f := .noat "Promise" "seller") rfl)
    na_Promise_buyer := He.noat_ok (c.fact 142 (f := .noat "Promise" "buyer") rfl)
    na_Promise_thing := He.noat_ok (c.fact 143 (f := .noat "Promise" "thing") rfl)
    na_Promise_price := He.noat_ok (c.fact 144 (f := .noat "Promise" "price") rfl)
    na_Promise_rule := He.noat_ok (c.fact 145 (f := .noat "Promise" "rule") rfl)
    na_Promise_offsets := He.noat_ok (c.fact 146 (f := .noat "Promise" "offsets") rfl)
    na_Promise_earnest := He.noat_ok (c.fact 147 (f := .noat "Promise" "earnest") rfl)
    na_Spoiling_number := He.noat_ok (c.fact 148 (f := .noat "Spoiling" "number") rfl)
    na_Spoiling_moment := He.noat_ok (c.fact 149 (f := .noat "Spoiling" "moment") rfl)
    na_Spoiling_bed := He.noat_ok (c.fact 150 (f := .noat "Spoiling" "bed") rfl)
    na_Standing_field := He.noat_ok (c.fact 151 (f := .noat "Standing" "field") rfl)
    na_Standing_held := He.noat_ok (c.fact 152 (f := .noat "Standing" "held") rfl)
    na_Standing_parts := He.noat_ok (c.fact 153 (f := .noat "Standing" "parts") rfl)
    na_Standing_spoilt := He.noat_ok (c.fact 154 (f := .noat "Standing" "spoilt") rfl)
    na_Standing_good := He.noat_ok (c.fact 155 (f := .noat "Standing" "good") rfl)
    na_Standing_void_rows := He.noat_ok (c.fact 156 (f := .noat "Standing" "void_rows") rfl)
    na_Standing_gone := He.noat_ok (c.fact 157 (f := .noat "Standing" "gone") rfl)
    na_Ledger_field := He.noat_ok (c.fact 158 (f := .noat "Ledger" "field") rfl)
    na_Ledger_known_lines := He.noat_ok (c.fact 159 (f := .noat "Ledger" "known_lines") rfl)
    na_Ledger_come := He.noat_ok (c.fact 160 (f := .noat "Ledger" "come") rfl)
    ic_Part := of_decide_eq_true m_ic_Part
    im_Part := of_decide_eq_true m_im_Part
    ic_Breed := of_decide_eq_true m_ic_Breed
    im_Breed := of_decide_eq_true m_im_Breed
    ic_Bed := of_decide_eq_true m_ic_Bed
    im_Bed := of_decide_eq_true m_im_Bed
    ic_Field := of_decide_eq_true m_ic_Field
    im_Field := of_decide_eq_true m_im_Field
    ic_Promise := of_decide_eq_true m_ic_Promise
    im_Promise := of_decide_eq_true m_im_Promise
    ic_Spoiling := of_decide_eq_true m_ic_Spoiling
    im_Spoiling := of_decide_eq_true m_im_Spoiling
    ic_Standing := of_decide_eq_true m_ic_Standing
    im_Standing := of_decide_eq_true m_im_Standing
    ic_Ledger := of_decide_eq_true m_ic_Ledger
    im_Ledger := of_decide_eq_true m_im_Ledger
    icg := of_decide_eq_true m_icg
    ict := of_decide_eq_true m_ict
    ki_Part_Part := of_decide_eq_true m_ki_Part_Part
    ki_Breed_Breed := of_decide_eq_true m_ki_Breed_Breed
    ki_Bed_Bed := of_decide_eq_true m_ki_Bed_Bed
    ki_Promise_Promise := of_decide_eq_true m_ki_Promise_Promise
    ki_Spoiling_Promise := of_decide_eq_true m_ki_Spoiling_Promise
    ki_Spoiling_Spoiling := of_decide_eq_true m_ki_Spoiling_Spoiling
    ne_Part := of_decide_eq_true m_ne_Part
    ne_Promise := of_decide_eq_true m_ne_Promise
    ne_Spoiling := of_decide_eq_true m_ne_Spoiling
    t_KINDS := fun H => He.tupB_ok m_t_KINDS H
    t_RULES := fun H => He.tupB_ok m_t_RULES H
    d_is_whole := c.def_ 0 (d := dd_is_whole) rfl
    d_is_between := c.def_ 1 (d := dd_is_between) rfl
    d_is_from := c.def_ 2 (d := dd_is_from) rfl
    d_is_name := c.def_ 3 (d := dd_is_name) rfl
    d_common := c.def_ 4 (d := dd_common) rfl
    d_Part_init := c.def_ 5 (d := dd_Part_init) rfl
    d_Part_eq := c.def_ 6 (d := dd_Part_eq) rfl
    d_plus := c.def_ 7 (d := dd_plus) rfl
    d_minus := c.def_ 8 (d := dd_minus) rfl
    d_less := c.def_ 9 (d := dd_less) rfl
    d_is_grade := c.def_ 10 (d := dd_is_grade) rfl
    d_are_grades := c.def_ 11 (d := dd_are_grades) rfl
    d_Breed_init := c.def_ 12 (d := dd_Breed_init) rfl
    d_first_wrong := c.def_ 13 (d := dd_first_wrong) rfl
    d_Bed_init := c.def_ 14 (d := dd_Bed_init) rfl
    d_are_unlike := c.def_ 15 (d := dd_are_unlike) rfl
    d_are_breeds := c.def_ 16 (d := dd_are_breeds) rfl
    d_are_beds := c.def_ 17 (d := dd_are_beds) rfl
    d_Field_init := c.def_ 18 (d := dd_Field_init) rfl
    d_Field_bed_of := c.def_ 19 (d := dd_Field_bed_of) rfl
    d_Field_bed_names := c.def_ 20 (d := dd_Field_bed_names) rfl
    d_is_thing := c.def_ 21 (d := dd_is_thing) rfl
    d_has := c.def_ 22 (d := dd_has) rfl
    d_is_rule := c.def_ 23 (d := dd_is_rule) rfl
    d_goes_with := c.def_ 24 (d := dd_goes_with) rfl
    d_is_going := c.def_ 25 (d := dd_is_going) rfl
    d_Promise_init := c.def_ 26 (d := dd_Promise_init) rfl
    d_Promise_told := c.def_ 27 (d := dd_Promise_told) rfl
    d_Promise_eq := c.def_ 28 (d := dd_Promise_eq) rfl
    d_Spoiling_init := c.def_ 29 (d := dd_Spoiling_init) rfl
    d_Spoiling_eq := c.def_ 30 (d := dd_Spoiling_eq) rfl
    d_is_line := c.def_ 31 (d := dd_is_line) rfl
    d_when := c.def_ 32 (d := dd_when) rfl
    d_in_time := c.def_ 33 (d := dd_in_time) rfl
    d_Standing_init := c.def_ 34 (d := dd_Standing_init) rfl
    d_Standing_back := c.def_ 35 (d := dd_Standing_back) rfl
    d_Standing_holds := c.def_ 36 (d := dd_Standing_holds) rfl
    d_Standing_moves := c.def_ 37 (d := dd_Standing_moves) rfl
    d_Standing_go := c.def_ 38 (d := dd_Standing_go) rfl
    d_Standing_void := c.def_ 39 (d := dd_Standing_void) rfl
    d_Standing_spoil := c.def_ 40 (d := dd_Standing_spoil) rfl
    d_Standing_take := c.def_ 41 (d := dd_Standing_take) rfl
    d_Ledger_init := c.def_ 42 (d := dd_Ledger_init) rfl
    d_Ledger_len := c.def_ 43 (d := dd_Ledger_len) rfl
    d_Ledger_check := c.def_ 44 (d := dd_Ledger_check) rfl
    d_Ledger_tell := c.def_ 45 (d := dd_Ledger_tell) rfl
    d_Ledger_lines := c.def_ 46 (d := dd_Ledger_lines) rfl
    d_Ledger_standing := c.def_ 47 (d := dd_Ledger_standing) rfl
    d_Ledger_voids := c.def_ 48 (d := dd_Ledger_voids) rfl
    d_Ledger_undone := c.def_ 49 (d := dd_Ledger_undone) rfl
    d_Ledger_hold := c.def_ 50 (d := dd_Ledger_hold) rfl
    d_Ledger_spoiled := c.def_ 51 (d := dd_Ledger_spoiled) rfl
    d_Ledger_check_thing := c.def_ 52 (d := dd_Ledger_check_thing) rfl
    d_Ledger_holder := c.def_ 53 (d := dd_Ledger_holder) rfl
    d_Ledger_row := c.def_ 54 (d := dd_Ledger_row) rfl
    d_Ledger_holders := c.def_ 55 (d := dd_Ledger_holders) rfl
    d_law_cell_at := c.def_ 56 (d := dd_law_cell_at) rfl
    d_law_source := c.def_ 57 (d := dd_law_source) rfl
    d_law_next := c.def_ 58 (d := dd_law_next) rfl
    d_law_names := c.def_ 59 (d := dd_law_names) rfl
    d_law_breed_rows := c.def_ 60 (d := dd_law_breed_rows) rfl
    d_law_bed_rows := c.def_ 61 (d := dd_law_bed_rows) rfl
    d_law_field := c.def_ 62 (d := dd_law_field) rfl
    d_law_made := c.def_ 63 (d := dd_law_made) rfl
    d_law_things := c.def_ 64 (d := dd_law_things) rfl
    d_law_in_time := c.def_ 65 (d := dd_law_in_time) rfl
    d_law_back := c.def_ 66 (d := dd_law_back) rfl
    d_law_begin := c.def_ 67 (d := dd_law_begin) rfl
    d_law_keys := c.def_ 68 (d := dd_law_keys) rfl
    d_law_promised := c.def_ 69 (d := dd_law_promised) rfl
    d_law_spoiled := c.def_ 70 (d := dd_law_spoiled) rfl
    d_law_led := c.def_ 71 (d := dd_law_led) rfl
    d_law_alike := c.def_ 72 (d := dd_law_alike) rfl
    d_law_likely := c.def_ 73 (d := dd_law_likely) rfl
    d_law_row_of := c.def_ 74 (d := dd_law_row_of) rfl
    d_law_scene := c.def_ 75 (d := dd_law_scene) rfl
    d_law_rows := c.def_ 76 (d := dd_law_rows) rfl
    d_law_turned := c.def_ 77 (d := dd_law_turned) rfl
    d_law_told := c.def_ 78 (d := dd_law_told) rfl
    d_law := c.def_ 79 (d := dd_law) rfl
  }
end RP
set_option Elab.async false
set_option linter.all false
set_option maxRecDepth 100000
set_option maxHeartbeats 4000000
/-! rootpledge k80: short words -/
namespace RP
open PySem PySem.Spec PyProof.Rows L2
/-! ### built-ins by name -/
theorem b_len : bootBuiltins "len" = some (.builtin "len") := by decide +kernel
theorem b_isinstance : bootBuiltins "isinstance" = some (.builtin "isinstance") := by decide +kernel
theorem b_all : bootBuiltins "all" = some (.builtin "all") := by decide +kernel
theorem b_sorted : bootBuiltins "sorted" = some (.builtin "sorted") := by decide +kernel
theorem b_abs : bootBuiltins "abs" = some (.builtin "abs") := by decide +kernel
theorem b_max : bootBuiltins "max" = some (.builtin "max") := by decide +kernel
theorem b_min : bootBuiltins "min" = some (.builtin "min") := by decide +kernel
theorem b_int : bootBuiltins "int" = some (.type "int") := by decide +kernel
theorem b_bool : bootBuiltins "bool" = some (.type "bool") := by decide +kernel
theorem b_str : bootBuiltins "str" = some (.type "str") := by decide +kernel
theorem b_tuple : bootBuiltins "tuple" = some (.type "tuple") := by decide +kernel
theorem b_list : bootBuiltins "list" = some (.type "list") := by decide +kernel
theorem b_dict : bootBuiltins "dict" = some (.type "dict") := by decide +kernel
theorem b_set : bootBuiltins "set" = some (.type "set") := by decide +kernel
/-! ### rules with K said (for a comprehension's block) -/
section
variable {X : Cx} {K : PySem.W.Frag}
theorem ix_listK (e : X.K = K) : IxR X (rIxL K) := by
  subst e
  exact ix_list
theorem ix_tupK (e : X.K = K) : IxR X (rIxT K) := by
  subst e
  exact ix_tup
theorem pe_fldK {o : Expr} {f : Str} {pos : Pos} {ta : TE} (e : X.K = K) (he : PE X o ta) (hb : attributeBase o f X.env (eval o X.env) = eval o X.env) : PE X (.Attribute o f pos) (tFld K ta f) := by
  subst e
  exact pe_fld he hb
theorem pg_tupK {es : List Expr} {t : TGs} {k : Nat} {pos : Pos} (n : Nat) (e : X.K = K) (hc : X.calm = true) (h : PGs X es t) (hn : (assignEach es X.env).length = n := by rfl) (hst : (assignEach es X.env).findIdx? (·.1) = none := by rfl) : PG X (.Tuple es k pos) (gTup K n t) := by
  subst e
  exact pg_tup hc h hn hst
theorem op_inDK (e : X.K = K) (hu : X.A.units + 65 < cLine) : OpR X (compareOp .In) (rInD K) := by
  subst e
  exact op_inD hu
theorem hr65 {k : Nat} {A : Around} (r : Room k A) : A.units + 65 < cLine := by
  have := r.un
  omega
end
section
variable {K : PySem.W.Frag} {mg : Str → Option Value}
/-! ### the module's constants -/
theorem ci {x : Str} {i : Int} (h : ∃ t, mg x = some (.int i t)) : ∃ u, mg x = some u ∧ RelV (.int i) u := by
  obtain ⟨t, e⟩ := h
  exact ⟨_, e, t, rfl⟩
theorem Txt.c_MOST_LETTERS (T : Txt K mg) : ∃ u, mg "MOST_LETTERS" = some u ∧ RelV (.int 8) u := ci T.i_MOST_LETTERS
theorem Txt.c_MOST_GRADES (T : Txt K mg) : ∃ u, mg "MOST_GRADES" = some u ∧ RelV (.int 6) u := ci T.i_MOST_GRADES
theorem Txt.c_MOST_LEAST (T : Txt K mg) : ∃ u, mg "MOST_LEAST" = some u ∧ RelV (.int 1000000) u := ci T.i_MOST_LEAST
theorem Txt.c_MOST_HUNDREDTHS (T : Txt K mg) : ∃ u, mg "MOST_HUNDREDTHS" = some u ∧ RelV (.int 1000) u := ci T.i_MOST_HUNDREDTHS
theorem Txt.c_MOST_BEDS (T : Txt K mg) : ∃ u, mg "MOST_BEDS" = some u ∧ RelV (.int 6) u := ci T.i_MOST_BEDS
theorem Txt.c_MOST_ROOTS (T : Txt K mg) : ∃ u, mg "MOST_ROOTS" = some u ∧ RelV (.int 12) u := ci T.i_MOST_ROOTS
theorem Txt.c_MOST_GUESS (T : Txt K mg) : ∃ u, mg "MOST_GUESS" = some u ∧ RelV (.int 60) u := ci T.i_MOST_GUESS
theorem Txt.c_MOST_OFFSETS (T : Txt K mg) : ∃ u, mg "MOST_OFFSETS" = some u ∧ RelV (.int 60) u := ci T.i_MOST_OFFSETS
theorem Txt.c_MOST_SUM (T : Txt K mg) : ∃ u, mg "MOST_SUM" = some u ∧ RelV (.int 1000000) u := ci T.i_MOST_SUM
theorem Txt.c_MOST_BOTTOM (T : Txt K mg) : ∃ u, mg "MOST_BOTTOM" = some u ∧ RelV (.int 12) u := ci T.i_MOST_BOTTOM
theorem Txt.c_MOST_LINES (T : Txt K mg) : ∃ u, mg "MOST_LINES" = some u ∧ RelV (.int 120) u := ci T.i_MOST_LINES
theorem Txt.c_LETTERS (T : Txt K mg) : ∃ u, mg "LETTERS" = some u ∧ RelV (.str "abcdefghijklmnopqrstuvwxyz") u := by
  obtain ⟨t, e⟩ := T.s_LETTERS
  exact ⟨_, e, t, rfl⟩
theorem Txt.c_KINDS (T : Txt K mg) : ∃ u, mg "KINDS" = some u ∧ RelV (.ref (He.ga K "KINDS")) u := ⟨_, T.g_KINDS, rfl⟩
theorem Txt.c_RULES (T : Txt K mg) : ∃ u, mg "RULES" = some u ∧ RelV (.ref (He.ga K "RULES")) u := ⟨_, T.g_RULES, rfl⟩
/-! ### isinstance -/
/-- isinstance(x, c) is b -/
def IsB (K : PySem.W.Frag) (x c : V) (H : Hp) (b : Bool) : Prop := ∃ t u, ClsV c u ∧ TyX K H x t ∧ PySem.W.kitOne K t u = some b
def rIs (K : PySem.W.Frag) : List V → Hp → VK → Prop := fun xs H Q => ∃ x c b, xs = [x, c] ∧ IsB K x c H b ∧ Q (.bl b) H
theorem call_is {X : Cx} : CallR X (.builtin "isinstance") (rIs X.K) := by
  intro pins s σ H xs us Q I r h
  obtain ⟨x, c, b, rfl, ⟨t, u, h1, h2, h3⟩, q⟩ := h
  exact call_isi pins s σ H _ us Q I r ⟨x, c, t, u, b, rfl, h1, h2, h3, q⟩
theorem call_isK {X : Cx} (e : X.K = K) : CallR X (.builtin "isinstance") (rIs K) := by
  subst e
  exact call_is
variable {H : Hp} {Q : VK}
theorem is_int {i : Int} : IsB K (.int i) (.ty "int") H true := ⟨_, _, .ty _, .base (.int i), kit_ty (by decide +kernel)⟩
theorem is_int_bool {i : Int} : IsB K (.int i) (.ty "bool") H false := ⟨_, _, .ty _, .base (.int i), kit_ty (by decide +kernel)⟩
theorem is_str {x : Str} : IsB K (.str x) (.ty "str") H true := ⟨_, _, .ty _, .base (.str x), kit_ty (by decide +kernel)⟩
theorem is_tup {a : Addr} {xs : List V} (h : H a = some (.tup xs)) : IsB K (.ref a) (.ty "tuple") H true := ⟨_, _, .ty _, .base (.tup h), kit_ty (by decide +kernel)⟩
theorem is_lst {a : Addr} {xs : List V} (h : H a = some (.lst xs)) : IsB K (.ref a) (.ty "list") H true := ⟨_, _, .ty _, .base (.lst h), kit_ty (by decide +kernel)⟩
/-- of an instance of the class at C and the class at D -/
theorem is_ins {a C D dx : Addr} {fs : List (Str × V)} {b : Bool} (h : H a = some (.ins C dx fs)) (cl : Cls K C) (ha : PySem.W.findIn K (.ref C) "__class__" = some (some (.builtin "object.__class__")))
    (hn : PySem.W.specialIn K (.builtin "object.__class__") "__get__" = some (some (.builtin "getset_descriptor.__get__"))) (htk : PySem.W.takesIn K (.builtin "object.__class__") = some true)
    (hm : PySem.W.mroIn K C (.type "object") = some true) (hk : PySem.W.kitOne K (.ref C) (.ref D) = some b) : IsB K (.ref a) (.ref D) H b :=
  ⟨_, _, .own D, .base (.ins h cl ha hn htk hm), hk⟩
abbrev cPart (K : PySem.W.Frag) : Addr := He.ga K "Part"
abbrev cBreed (K : PySem.W.Frag) : Addr := He.ga K "Breed"
abbrev cBed (K : PySem.W.Frag) : Addr := He.ga K "Bed"
abbrev cField (K : PySem.W.Frag) : Addr := He.ga K "Field"
abbrev cPromise (K : PySem.W.Frag) : Addr := He.ga K "Promise"
abbrev cSpoiling (K : PySem.W.Frag) : Addr := He.ga K "Spoiling"
abbrev cStanding (K : PySem.W.Frag) : Addr := He.ga K "Standing"
abbrev cLedger (K : PySem.W.Frag) : Addr := He.ga K "Ledger"
theorem is_Part (T : Txt K mg) {a dx : Addr} {fs : List (Str × V)} (h : H a = some (.ins (cPart K) dx fs)) : IsB K (.ref a) (.ref (cPart K)) H true := is_ins h T.cl_Part T.ic_Part T.icg T.ict T.im_Part T.ki_Part_Part
theorem is_Breed (T : Txt K mg) {a dx : Addr} {fs : List (Str × V)} (h : H a = some (.ins (cBreed K) dx fs)) : IsB K (.ref a) (.ref (cBreed K)) H true := is_ins h T.cl_Breed T.ic_Breed T.icg T.ict T.im_Breed T.ki_Breed_Breed
theorem is_Bed (T : Txt K mg) {a dx : Addr} {fs : List (Str × V)} (h : H a = some (.ins (cBed K) dx fs)) : IsB K (.ref a) (.ref (cBed K)) H true := is_ins h T.cl_Bed T.ic_Bed T.icg T.ict T.im_Bed T.ki_Bed_Bed
theorem is_Promise (T : Txt K mg) {a dx : Addr} {fs : List (Str × V)} (h : H a = some (.ins (cPromise K) dx fs)) : IsB K (.ref a) (.ref (cPromise K)) H true := is_ins h T.cl_Promise T.ic_Promise T.icg T.ict T.im_Promise T.ki_Promise_Promise
theorem is_Spoiling (T : Txt K mg) {a dx : Addr} {fs : List (Str × V)} (h : H a = some (.ins (cSpoiling K) dx fs)) : IsB K (.ref a) (.ref (cSpoiling K)) H true := is_ins h T.cl_Spoiling T.ic_Spoiling T.icg T.ict T.im_Spoiling T.ki_Spoiling_Spoiling
theorem is_SpoilingPromise (T : Txt K mg) {a dx : Addr} {fs : List (Str × V)} (h : H a = some (.ins (cSpoiling K) dx fs)) : IsB K (.ref a) (.ref (cPromise K)) H false := is_ins h T.cl_Spoiling T.ic_Spoiling T.icg T.ict T.im_Spoiling T.ki_Spoiling_Promise
end
end RP
set_option Elab.async false
set_option linter.all false
set_option maxRecDepth 100000
set_option maxHeartbeats 4000000
/-! rootpledge k80: small defs: numbers, names, parts -/
namespace RP
open PySem PySem.Spec PyProof.Rows L2
/-! ### a comprehension that only makes objects -/
theorem same_upd {H H' : Hp} {D : Addr} {o : HO} (e : Same H H') (h : H D = none) : Same H (upd H' D o) := fun a u q => by
  rw [upd_ne (ne_of_none q h)]
  exact e a u q
/-- Acc: what is made so far, by the turn and the heap -/
theorem lc_mk {J : It} {n : Nat} {G : Hp → Prop} {Y : Nat → Hp → V → Hp → Prop} (w : Walk J n G Y) {g : TG} {tt : TT} {te : TE} {vs : List Nat} {σ : L2.St} {H1 : Hp} {D : Addr} {Qd : Hp → Prop} (hD : H1 D = none) (Acc : Nat → List V → Hp → Prop)
    (h0 : Acc 0 [] H1) (mono : ∀ i acc H H', Same H H' → Acc i acc H → Acc i acc H') (mono2 : ∀ i acc H zs zs', H D = some (.lst zs) → Acc i acc H → Acc i acc (upd H D (.lst zs')))
    (hn : n ≤ 100000) (hG : ∀ H, Same H1 H → G H)
    (hs : ∀ i x acc H H', i < n → Same H1 H → Acc i acc H → Y i H x H' → ∀ (Q1 : VK) (Q0 : Hp → Prop), (∀ y H4, Same H H4 → Acc (i + 1) (acc ++ [y]) H4 → Q1 y H4) → (∀ H3, Same H H3 → Acc (i + 1) acc H3 → Q0 H3) →
      g x (wipe σ vs) H' fun σ2 H2 => wipe σ2 vs = wipe σ vs ∧ tt σ2 H2 fun b H3 => if b = true then te σ2 H3 Q1 else Q0 H3)
    (hd : ∀ acc H, Same H1 H → H D = some (.lst acc) → acc.length ≤ n → Acc n acc H → Qd H) :
    ∃ W : Nat → Nat → Hp → Prop, (∃ m, W 0 m (upd H1 D (.lst []))) ∧ ∀ i m H, W i m H →
      (J.stop i H ∧ Qd H) ∨ (J.go i H ∧ ∃ Nx : Hp → Prop, (∀ H', Nx H' → ∃ m', m' < m ∧ W (i + 1) m' H') ∧ ∀ x H', J.yld i H x H' → g x (wipe σ vs) H' fun σ2 H2 => wipe σ2 vs = wipe σ vs ∧ tt σ2 H2 fun b H3 =>
        if b = true then te σ2 H3 fun y H4 => ∃ acc, H4 D = some (.lst acc) ∧ acc.length < sizeLine ∧ Nx (upd H4 D (.lst (acc ++ [y]))) else Nx H3) := by
  have e0 : Same H1 (upd H1 D (.lst [])) := same_upd (Same.refl _) hD
  refine lc_it w (fun i H => ∃ acc, Same H1 H ∧ H D = some (.lst acc) ∧ acc.length ≤ i ∧ Acc i acc H) ⟨[], e0, upd_same, Nat.le_refl _, mono _ _ _ _ e0 h0⟩ (fun i H _ ⟨_, e, _⟩ => hG H e) ?_ (fun H ⟨acc, e, hl, hk, ha⟩ => hd acc H e hl hk ha)
  rintro i x H H' hi ⟨acc, e, hl, hk, ha⟩ y
  refine hs i x acc H H' hi e ha y _ _ (fun z H4 s4 a4 => ?_) (fun H3 s3 a3 => ⟨acc, e.trans s3, s3 _ _ hl, Nat.le_succ_of_le hk, a3⟩)
  refine ⟨acc, s4 _ _ hl, Nat.lt_of_lt_of_le (Nat.lt_of_le_of_lt hk (Nat.lt_of_lt_of_le hi hn)) (by decide), acc ++ [z], same_upd (e.trans s4) hD, upd_same, ?_, mono2 _ _ _ _ _ (s4 _ _ hl) a4⟩
  rw [List.length_append]
  exact Nat.succ_le_succ hk
/-- .. whose items hang on nothing but the turn -/
theorem lc_pure {J : It} {n : Nat} {G : Hp → Prop} {Y : Nat → Hp → V → Hp → Prop} (w : Walk J n G Y) {g : TG} {tt : TT} {te : TE} {vs : List Nat} {σ : L2.St} {H1 : Hp} {D : Addr} {Qd : Hp → Prop} (hD : H1 D = none) (Acc : Nat → List V → Prop)
    (h0 : Acc 0 []) (hn : n ≤ 100000) (hG : ∀ H, Same H1 H → G H)
    (hs : ∀ i x acc H H', i < n → Same H1 H → Acc i acc → Y i H x H' → ∀ (Q1 : VK) (Q0 : Hp → Prop), (∀ y H4, Same H H4 → Acc (i + 1) (acc ++ [y]) → Q1 y H4) → (∀ H3, Same H H3 → Acc (i + 1) acc → Q0 H3) →
      g x (wipe σ vs) H' fun σ2 H2 => wipe σ2 vs = wipe σ vs ∧ tt σ2 H2 fun b H3 => if b = true then te σ2 H3 Q1 else Q0 H3)
    (hd : ∀ acc H, Same H1 H → H D = some (.lst acc) → acc.length ≤ n → Acc n acc → Qd H) :
    ∃ W : Nat → Nat → Hp → Prop, (∃ m, W 0 m (upd H1 D (.lst []))) ∧ ∀ i m H, W i m H →
      (J.stop i H ∧ Qd H) ∨ (J.go i H ∧ ∃ Nx : Hp → Prop, (∀ H', Nx H' → ∃ m', m' < m ∧ W (i + 1) m' H') ∧ ∀ x H', J.yld i H x H' → g x (wipe σ vs) H' fun σ2 H2 => wipe σ2 vs = wipe σ vs ∧ tt σ2 H2 fun b H3 =>
        if b = true then te σ2 H3 fun y H4 => ∃ acc, H4 D = some (.lst acc) ∧ acc.length < sizeLine ∧ Nx (upd H4 D (.lst (acc ++ [y]))) else Nx H3) :=
  lc_mk w hD (fun i acc _ => Acc i acc) h0 (fun _ _ _ _ _ h => h) (fun _ _ _ _ _ _ h => h) hn hG hs hd
/-! ### names -/
structure NameOk (x : Str) : Prop where
  lo : 1 ≤ x.length
  hi : x.length ≤ 8
  az : ∀ c ∈ x.cps.toList, 97 ≤ c ∧ c ≤ 122
theorem letters (c : Nat) (h : 97 ≤ c ∧ c ≤ 122) : c ∈ ("abcdefghijklmnopqrstuvwxyz" : Str).cps.toList := by
  have h2 : ∀ c ∈ List.range 123, 97 ≤ c → c ∈ ("abcdefghijklmnopqrstuvwxyz" : Str).cps.toList := by decide +kernel
  exact h2 c (List.mem_range.mpr (by omega)) h.1
def sp_is_whole : Sp := spA 1 fun vs H Q => ∃ i, vs = [.int i] ∧ Q (.bl true) H
def sp_is_between : Sp := spA 3 fun vs H Q => ∃ i a b, vs = [.int i, .int a, .int b] ∧ Q (.bl (decide (a ≤ i) && decide (i ≤ b))) H
def sp_is_from : Sp := spA 2 fun vs H Q => ∃ i a, vs = [.int i, .int a] ∧ Q (.bl (decide (a ≤ i))) H
def sp_is_name : Sp := spA 1 fun vs H Q => ∃ x, vs = [.str x] ∧ NameOk x ∧ ∀ H', Same H H' → Q (.bl true) H'
def sp_common : Sp := spA 2 fun vs H Q => ∃ a b : Nat, vs = [.int a, .int b] ∧ Q (.int (Nat.gcd a b : Nat)) H
section
variable {P : Program} {w : World} {K : PySem.W.Frag} {mg : Str → Option Value} {base : Heap}
theorem ok_is_whole (T : Txt K mg) : Fx P w K mg base "is_whole" 1 [] sp_is_whole := by
  obtain ⟨fd, F⟩ := T.d_is_whole
  refine ⟨_, fd, _, [], T.g_is_whole, F.kp, fn_body F sc_is_whole rfl (fun cdv A outer s H vs Q E hr h => ?_), F.bindsN (fun _ _ _ _ _ _ us hl => match us, hl with | [_], _ => rfl), .nil⟩
  have nd := sc_is_whole.nd
  have hu := hu_of hr
  obtain ⟨i, rfl, k⟩ := h
  refine ⟨_, (pss_one (ps_ret (pe_and (pe_callB call_is (by rfl) T.n_isinstance b_isinstance (pa_cons (pv 0) (pa_cons (pe_bltn (v := .ty "int") (by rfl) T.n_int b_int rfl) pa_nil))) (pe_one (pe_not (pe_callB call_is (by rfl) T.n_isinstance b_isinstance (pa_cons (pv 0) (pa_cons (pe_bltn (v := .ty "bool") (by rfl) T.n_bool b_bool rfl) pa_nil)))))))), ?_⟩
  exact ⟨_, rfl, _, _, _, rfl, is_int, true, rfl, iteT ⟨_, rfl, _, _, _, rfl, is_int_bool, false, rfl, k⟩⟩
theorem ok_is_between (T : Txt K mg) : Fx P w K mg base "is_between" 2 [] sp_is_between := by
  obtain ⟨fd, F⟩ := T.d_is_between
  refine ⟨_, fd, _, [], T.g_is_between, F.kp, fn_body F sc_is_between rfl (fun cdv A outer s H vs Q E hr h => ?_), F.bindsN (fun _ _ _ _ _ _ us hl => match us, hl with | [_, _, _], _ => rfl), .nil⟩
  have nd := sc_is_between.nd
  have hu := hu_of hr
  obtain ⟨i, a, b, rfl, k⟩ := h
  refine ⟨_, (pss_one (ps_ret (pe_and (pe_f (ok_is_whole T) (hr.mono (by decide)) (pa_cons (pv 0) pa_nil)) (pe_one (pe_chain op_le op_le (pv 1) (pv 0) (pv 2)))))), ?_⟩
  refine ⟨_, rfl, rfl, i, rfl, true, rfl, iteT ?_⟩
  refine ⟨_, rfl, _, rfl, _, _, rfl, rfl, _, rfl, ?_⟩
  refine ite2 (fun h1 => ?_) (fun h1 => ?_)
  · rw [h1] at k
    exact ⟨_, rfl, _, _, rfl, rfl, k⟩
  · rw [Bool.not_eq_true] at h1
    rw [h1] at k
    exact k
theorem ok_is_from (T : Txt K mg) : Fx P w K mg base "is_from" 2 [] sp_is_from := by
  obtain ⟨fd, F⟩ := T.d_is_from
  refine ⟨_, fd, _, [], T.g_is_from, F.kp, fn_body F sc_is_from rfl (fun cdv A outer s H vs Q E hr h => ?_), F.bindsN (fun _ _ _ _ _ _ us hl => match us, hl with | [_, _], _ => rfl), .nil⟩
  have nd := sc_is_from.nd
  have hu := hu_of hr
  obtain ⟨i, a, rfl, k⟩ := h
  refine ⟨_, (pss_one (ps_ret (pe_and (pe_f (ok_is_whole T) (hr.mono (by decide)) (pa_cons (pv 0) pa_nil)) (pe_one (pe_cmpR op_ge (pv 0) (pv 1) (nomark _)))))), ?_⟩
  exact ⟨_, rfl, rfl, i, rfl, true, rfl, iteT ⟨_, rfl, _, rfl, _, _, rfl, rfl, k⟩⟩
theorem ok_is_name (T : Txt K mg) : Fx P w K mg base "is_name" 1 [] sp_is_name := by
  obtain ⟨fd, F⟩ := T.d_is_name
  refine ⟨_, fd, _, [], T.g_is_name, F.kp, fn_body F sc_is_name rfl (fun cdv A outer s H vs Q E hr h => ?_), F.bindsN (fun _ _ _ _ _ _ us hl => match us, hl with | [_], _ => rfl), .nil⟩
  have nd := sc_is_name.nd
  have hu := hu_of hr
  obtain ⟨x, rfl, hx, k⟩ := h
  refine ⟨_, (pss_cons (ps_if (PW.pt (pw_or (pt_not (pt_val (pe_callB call_is (by rfl) T.n_isinstance b_isinstance (pa_cons (pv 0) (pa_cons (pe_bltn (v := .ty "str") (by rfl) T.n_str b_str rfl) pa_nil))))) (pw_or1 (pt_not (pt_chain op_le op_le pe_int (pe_callB call_len_str (by rfl) T.n_len b_len (pa_cons (pv 0) pa_nil)) (C8.pe_gc rfl T.c_MOST_LETTERS)))))) (pss_one (ps_ret pe_bl)) pss_nil)
      (pss_one (ps_ret (pe_callB (cr_all rfl) (by rfl) T.n_all b_all (pa_cons (pe_lc (own := [("sign", 1)])  rfl nd (pi_str (pv 0)) (blkOk_by (own := [("sign", 1)]) (N := ["thing", "sign"]) (sc := defScope s_is_name) (by decide +kernel)) (fun _ _ _ _ _ => (pg_name (i := 1) nd rfl (.inl rfl))) (fun _ _ _ _ _ => pts_nil) (fun _ _ _ _ _ => (pe_cmpR op_in_sign (pv 1) (C8.pe_gc rfl T.c_LETTERS) rfl))) pa_nil))))), ?_⟩
  have hz : x.length ≤ sizeLine := Nat.le_trans hx.hi (by decide)
  refine ⟨_, rfl, _, _, _, rfl, is_str, true, rfl, iteF ?_⟩
  have h1 : decide ((1 : Int) ≤ (x.length : Int)) = true := decide_eq_true (by have := hx.lo; omega)
  have h2 : decide ((x.length : Int) ≤ 8) = true := decide_eq_true (by have := hx.hi; omega)
  refine ⟨_, rfl, _, rfl, hz, _, _, rfl, rfl, _, rfl, ?_⟩
  rw [h1]
  refine iteT ⟨_, _, rfl, rfl, _, rfl, ?_⟩
  rw [h2]
  refine iteF ⟨_, rfl, _, rfl, fun D hD => ?_⟩
  refine lc_pure walk_str hD (fun i acc => acc = (List.replicate i true).map V.bl) rfl (Nat.le_trans hx.hi (by decide)) (fun _ _ => trivial) ?_ ?_
  · rintro i v acc H1 H2 hi e rfl ⟨rfl, c, hc, rfl⟩ Q1 Q0 q1 q0
    refine ⟨rfl, _, rfl, c, _, rfl, rfl, ?_⟩
    have hm : c ∈ x.cps.toList := by
      rw [Array.mem_toList_iff]
      exact Array.mem_of_getElem? hc
    rw [decide_eq_true (letters c (hx.az c hm))]
    refine q1 _ _ (Same.refl _) ?_
    rw [List.replicate_succ', List.map_append]
    all_goals rfl
  · rintro acc H1 e hl _ rfl
    refine ⟨_, _, rfl, SqL.of hl, ?_⟩
    have e2 : (List.replicate x.cps.size true).all id = true := by
      rw [List.all_eq_true]
      intro b hb
      exact List.eq_of_mem_replicate hb
    rw [e2]
    exact k _ e
theorem ok_common (T : Txt K mg) : Fx P w K mg base "common" 1 [] sp_common := by
  obtain ⟨fd, F⟩ := T.d_common
  refine ⟨_, fd, _, [], T.g_common, F.kp, fn_body F sc_common rfl (fun cdv A outer s H vs Q E hr h => ?_), F.bindsN (fun _ _ _ _ _ _ us hl => match us, hl with | [_, _], _ => rfl), .nil⟩
  have nd := sc_common.nd
  have hu := hu_of hr
  obtain ⟨a, b, rfl, k⟩ := h
  refine ⟨_, (pss_cons (ps_set (i := 0) nd rfl (Or.inl rfl) (pe_callB call_abs (by rfl) T.n_abs b_abs (pa_cons (pv 0) pa_nil)))
      (pss_cons (ps_set (i := 1) nd rfl (Or.inl rfl) (pe_callB call_abs (by rfl) T.n_abs b_abs (pa_cons (pv 1) pa_nil)))
      (pss_cons (ps_while PassesOwn.never (pt_cmpR op_gt (pv 1) pe_int (nomark _)) (pss_one (ps_par (i := 0) (j := 1) (by rfl) nd rfl rfl (by decide) rfl rfl (pa_cons (pv 1) (pa_cons (pe_op op_modN (pv 0) (pv 1)) pa_nil)) (by rfl))))
      (pss_one (ps_ret (pv 0)))))), ?_⟩
  refine ⟨_, rfl, _, rfl, _, rfl, _, rfl, ?_⟩
  rw [if_neg (by omega : ¬ (a : Int) < 0), if_neg (by omega : ¬ (b : Int) < 0)]
  refine while_by (fun σ H' => ∃ x y : Nat, σ = [some (.int x), some (.int y)] ∧ H' = H ∧ Nat.gcd x y = Nat.gcd a b) (fun σ _ => match σ with
    | [_, some (.int y)] => y.toNat
    | _ => 0) ⟨a, b, rfl, rfl, rfl⟩ ?_ ?_
  · rintro σ H1 ⟨x, y, rfl, rfl, e⟩
    refine ⟨_, rfl, _, _, rfl, rfl, _, rfl, ?_⟩
    refine ite2 (fun h1 => ?_) (fun h1 => ?_)
    · have h2 := of_decide_eq_true h1
      have hy : 0 < y := by omega
      refine ⟨_, rfl, _, rfl, _, rfl, _, _, rfl, rfl, (by omega), _, _, rfl, ⟨y, x % y, ?_, rfl, ?_⟩, ?_⟩
      · show [some (V.int y), some (V.int ((x : Int).fmod y))] = _
        rw [Int.fmod_eq_emod_of_nonneg _ (by omega)]
        rfl
      · rw [← e, Nat.gcd_comm x y, Nat.gcd_rec y x, Nat.gcd_comm]
      · show ((x : Int).fmod y).toNat < (y : Int).toNat
        rw [Int.fmod_eq_emod_of_nonneg _ (by omega)]
        have := Nat.mod_lt x hy
        omega
    · have h2 : ¬ (0 : Int) < y := fun q => h1 (decide_eq_true q)
      have hy : y = 0 := by omega
      subst hy
      rw [Nat.gcd_zero_right] at e
      rw [← e] at k
      exact ⟨_, rfl, k⟩
  · intro σ H1 Q1 Q2 hq h1
    obtain ⟨v, e1, i, j, e2, e3, c, e4, q⟩ := h1
    exact ⟨v, e1, i, j, e2, e3, c, e4, hq _ _ q⟩
end
end RP
set_option Elab.async false
set_option linter.all false
set_option maxRecDepth 100000
set_option maxHeartbeats 4000000
/-! rootpledge k80: parts as numbers of 27720ths -/
namespace RP
open PySem PySem.Spec PyProof.Rows L2
/-! ### fractions in lowest terms -/
theorem low_unique {a b c d : Nat} (hb : 0 < b) (hd : 0 < d) (e : a * d = c * b) : a / Nat.gcd a b = c / Nat.gcd c d ∧ b / Nat.gcd a b = d / Nat.gcd c d := by
  have g1 : 0 < Nat.gcd a b := Nat.gcd_pos_of_pos_right _ hb
  have g2 : 0 < Nat.gcd c d := Nat.gcd_pos_of_pos_right _ hd
  have c1 : Nat.Coprime (a / Nat.gcd a b) (b / Nat.gcd a b) := Nat.coprime_div_gcd_div_gcd g1
  have c2 : Nat.Coprime (c / Nat.gcd c d) (d / Nat.gcd c d) := Nat.coprime_div_gcd_div_gcd g2
  have a1 : Nat.gcd a b * (a / Nat.gcd a b) = a := Nat.mul_div_cancel' (Nat.gcd_dvd_left a b)
  have b1 : Nat.gcd a b * (b / Nat.gcd a b) = b := Nat.mul_div_cancel' (Nat.gcd_dvd_right a b)
  have c3 : Nat.gcd c d * (c / Nat.gcd c d) = c := Nat.mul_div_cancel' (Nat.gcd_dvd_left c d)
  have d3 : Nat.gcd c d * (d / Nat.gcd c d) = d := Nat.mul_div_cancel' (Nat.gcd_dvd_right c d)
  generalize Nat.gcd a b = g at *
  generalize Nat.gcd c d = h at *
  generalize a / g = x at *
  generalize b / g = y at *
  generalize c / h = z at *
  generalize d / h = t at *
  subst a1 b1 c3 d3
  have e2 : x * t = z * y := by
    have e3 : (g * h) * (x * t) = (g * h) * (z * y) := by
      calc (g * h) * (x * t) = g * x * (h * t) := by ac_rfl
        _ = h * z * (g * y) := e
        _ = (g * h) * (z * y) := by ac_rfl
    exact Nat.eq_of_mul_eq_mul_left (Nat.mul_pos g1 g2) e3
  have hy : 0 < y := Nat.pos_of_mul_pos_left hb
  have ht : 0 < t := Nat.pos_of_mul_pos_left hd
  have d1 : y ∣ t := c1.symm.dvd_of_dvd_mul_left (by rw [e2]; exact Nat.dvd_mul_left _ _)
  have d2 : t ∣ y := c2.symm.dvd_of_dvd_mul_left (by rw [← e2]; exact Nat.dvd_mul_left _ _)
  have ey : y = t := Nat.dvd_antisymm d1 d2
  subst ey
  exact ⟨Nat.eq_of_mul_eq_mul_right hy e2, rfl⟩
/-- the numerator and the denominator of u 27720ths -/
def pg (u : Nat) : Nat := Nat.gcd u 27720
def pT (u : Nat) : Nat := u / pg u
def pB (u : Nat) : Nat := 27720 / pg u
theorem pg_pos (u : Nat) : 0 < pg u := Nat.gcd_pos_of_pos_right _ (by decide)
theorem pT_eq (u : Nat) : pg u * pT u = u := Nat.mul_div_cancel' (Nat.gcd_dvd_left u 27720)
theorem pB_eq (u : Nat) : pg u * pB u = 27720 := Nat.mul_div_cancel' (Nat.gcd_dvd_right u 27720)
theorem pT_le (u : Nat) : pT u ≤ u := Nat.div_le_self _ _
theorem pB_le (u : Nat) : pB u ≤ 27720 := Nat.div_le_self _ _
theorem pB_pos (u : Nat) : 0 < pB u := Nat.div_pos (Nat.gcd_le_right u (by decide)) (pg_pos u)
theorem pB_mul (u v : Nat) : 0 < pB u * pB v ∧ pB u * pB v < 1073741824 := ⟨Nat.mul_pos (pB_pos u) (pB_pos v), Nat.lt_of_le_of_lt (Nat.mul_le_mul (pB_le u) (pB_le v)) (by decide)⟩
theorem p_lt (u v : Nat) : (pT u * pB v < pT v * pB u) ↔ u < v := by
  have e1 := pT_eq u
  have e2 := pB_eq u
  have e3 := pT_eq v
  have e4 := pB_eq v
  have g1 := pg_pos u
  have g2 := pg_pos v
  generalize pg u = g at *
  generalize pg v = h at *
  generalize pT u = x at *
  generalize pB u = y at *
  generalize pT v = z at *
  generalize pB v = t at *
  have l1 : (g * h) * (x * t) = u * 27720 := by
    calc (g * h) * (x * t) = (g * x) * (h * t) := by ac_rfl
      _ = u * 27720 := by rw [e1, e4]
  have l2 : (g * h) * (z * y) = v * 27720 := by
    calc (g * h) * (z * y) = (h * z) * (g * y) := by ac_rfl
      _ = v * 27720 := by rw [e3, e2]
  constructor
  · intro q
    have q2 := Nat.mul_lt_mul_of_pos_left q (Nat.mul_pos g1 g2)
    rw [l1, l2] at q2
    exact Nat.lt_of_mul_lt_mul_right q2
  · intro q
    refine Nat.lt_of_mul_lt_mul_left (a := g * h) ?_
    rw [l1, l2]
    exact Nat.mul_lt_mul_of_pos_right q (by decide)
theorem p_add (u v : Nat) : (pT u * pB v + pT v * pB u) * 27720 = (u + v) * (pB u * pB v) := by
  have e1 := pT_eq u
  have e2 := pB_eq u
  have e3 := pT_eq v
  have e4 := pB_eq v
  generalize pg u = g at *
  generalize pg v = h at *
  generalize pT u = x at *
  generalize pB u = y at *
  generalize pT v = z at *
  generalize pB v = t at *
  rw [Nat.add_mul, Nat.add_mul]
  have l1 : x * t * 27720 = u * (y * t) := by
    rw [← e1, ← e2]
    ac_rfl
  have l2 : z * y * 27720 = v * (y * t) := by
    rw [← e3, ← e4]
    ac_rfl
  rw [l1, l2]
theorem p_sub {u v : Nat} (hv : v ≤ u) : pT v * pB u ≤ pT u * pB v ∧ (pT u * pB v - pT v * pB u) * 27720 = (u - v) * (pB u * pB v) := by
  have hl : pT v * pB u ≤ pT u * pB v := by
    have h := p_lt u v
    have : ¬ pT u * pB v < pT v * pB u := fun q => absurd (h.mp q) (Nat.not_lt.mpr hv)
    omega
  refine ⟨hl, ?_⟩
  have e1 := pT_eq u
  have e2 := pB_eq u
  have e3 := pT_eq v
  have e4 := pB_eq v
  generalize pg u = g at *
  generalize pg v = h at *
  generalize pT u = x at *
  generalize pB u = y at *
  generalize pT v = z at *
  generalize pB v = t at *
  rw [Nat.sub_mul, Nat.sub_mul]
  have l1 : x * t * 27720 = u * (y * t) := by
    rw [← e1, ← e2]
    ac_rfl
  have l2 : z * y * 27720 = v * (y * t) := by
    rw [← e3, ← e4]
    ac_rfl
  rw [l1, l2]
/-- a Part of u 27720ths stands at p -/
def partFs (u : Nat) : List (Str × V) := [("top", .int (pT u)), ("bottom", .int (pB u))]
def PartAt (K : PySem.W.Frag) (H : Hp) (p : Addr) (u : Nat) : Prop := ∃ dx, H p = some (.ins (cPart K) dx (partFs u))
theorem PartAt.same {K : PySem.W.Frag} {H H' : Hp} {p : Addr} {u : Nat} (h : PartAt K H p u) (e : Same H H') : PartAt K H' p u := h.elim fun dx h => ⟨dx, e _ _ h⟩
def sp_Part_init (K : PySem.W.Frag) : Sp := spA 3 fun vs H Q => ∃ (p dx : Addr) (a b : Nat), vs = [.ref p, .int a, .int b] ∧ 0 < b ∧ b < 1073741824 ∧ H p = some (.ins (cPart K) dx []) ∧
  Q .non (upd H p (.ins (cPart K) dx [("top", .int (a / Nat.gcd a b : Nat)), ("bottom", .int (b / Nat.gcd a b : Nat))]))
def sp_less (K : PySem.W.Frag) : Sp := spA 2 fun vs H Q => ∃ (p q : Addr) (u v : Nat), vs = [.ref p, .ref q] ∧ PartAt K H p u ∧ PartAt K H q v ∧ u ≤ 27720 ∧ v ≤ 27720 ∧ Q (.bl (decide (u < v))) H
/-- a new Part -/
def RPart (K : PySem.W.Frag) (H : Hp) (Q : VK) (u : Nat) : Prop := ∀ p H', H p = none → Same H H' → PartAt K H' p u → Q (.ref p) H'
def sp_plus (K : PySem.W.Frag) : Sp := spA 2 fun vs H Q => ∃ (p q : Addr) (u v : Nat), vs = [.ref p, .ref q] ∧ PartAt K H p u ∧ PartAt K H q v ∧ u ≤ 27720 ∧ v ≤ 27720 ∧ RPart K H Q (u + v)
def sp_minus (K : PySem.W.Frag) : Sp := spA 2 fun vs H Q => ∃ (p q : Addr) (u v : Nat), vs = [.ref p, .ref q] ∧ PartAt K H p u ∧ PartAt K H q v ∧ u ≤ 27720 ∧ v ≤ u ∧ RPart K H Q (u - v)
def REqPart (K : PySem.W.Frag) (a b : Addr) (H : Hp) : Prop := ∃ u, PartAt K H a u ∧ PartAt K H b u
/-- Part(a, b) gives u 27720ths -/
theorem mkPart {K : PySem.W.Frag} {H : Hp} {Q : VK} {a b u : Nat} (hb : 0 < b) (hb2 : b < 1073741824) (e : a * 27720 = u * b) (q : RPart K H Q u) :
    ∀ x dx, H x = none → H dx = none → dx ≠ x → sp_Part_init K [.ref x, .int a, .int b] (upd (upd H dx (.own x)) x (.ins (cPart K) dx [])) (fun v H2 => v = .non ∧ Q (.ref x) H2) E0 := by
  intro x dx nx nd ne
  refine ⟨rfl, x, dx, a, b, rfl, hb, hb2, upd_same, rfl, ?_⟩
  obtain ⟨e1, e2⟩ := low_unique hb (show 0 < 27720 by decide) e
  rw [upd_upd, e1, e2]
  exact q x _ nx (same_upd (same_upd (Same.refl _) nd) nx) ⟨dx, upd_same⟩
section
variable {P : Program} {w : World} {K : PySem.W.Frag} {mg : Str → Option Value} {base : Heap}
theorem fn_Part_init (T : Txt K mg) : ∃ fd, FunD K "__init__" "Part.__init__" (defArgs s_Part_init) (defBody s_Part_init) (defScope s_Part_init) [V.int 1] [] (He.ma K (He.ga K "Part") "__init__") fd ∧
    FnOk P w K mg base CX0 2 (He.ma K (He.ga K "Part") "__init__") fd ["self", "top", "bottom"] (sp_Part_init K) := by
  obtain ⟨fd, F⟩ := T.d_Part_init
  refine ⟨fd, F, fn_body F sc_Part_init rfl (fun cdv A outer s H vs Q E hr h => ?_)⟩
  have nd := sc_Part_init.nd
  have hu := hu_of hr
  obtain ⟨p, dx, a, b, rfl, hb, hb2, hp, k⟩ := h
  refine ⟨_, (pss_cons (ps_if (PW.pt (pw_or (pt_not (pt_val (pe_f (ok_is_whole T) (hr.mono (by decide)) (pa_cons (pv 1) pa_nil)))) (pw_or (pt_not (pt_val (pe_f (ok_is_whole T) (hr.mono (by decide)) (pa_cons (pv 2) pa_nil)))) (pw_or1 (pt_cmpR op_eq (pv 2) pe_int (nomark _)))))) (pss_one ps_never) pss_nil)
      (pss_cons (ps_set (i := 3) nd rfl (Or.inl rfl) (pe_f (ok_common T) (hr.mono (by decide)) (pa_cons (pv 1) (pa_cons (pv 2) pa_nil))))
      (pss_cons (ps_if (pt_cmpR op_lt (pv 2) pe_int (nomark _)) (pss_one (ps_set (i := 3) nd rfl (Or.inl rfl) (pe_un un_neg (pv 3)))) pss_nil)
      (pss_cons (ps_fld (pv 0) (pe_op op_fdivN (pv 1) (pv 3)) rfl)
      (pss_one (ps_fld (pv 0) (pe_op op_fdivN (pv 2) (pv 3)) rfl)))))), ?_⟩
  have hg : 0 < Nat.gcd a b := Nat.gcd_pos_of_pos_right _ hb
  have hg2 : Nat.gcd a b ≤ b := Nat.gcd_le_right _ hb
  refine ⟨_, rfl, rfl, _, rfl, true, rfl, _, rfl, rfl, _, rfl, true, rfl, _, rfl, rfl, _, rfl, ?_⟩
  rw [decide_eq_false (show ¬ (V.int b = V.int 0) from fun q => by injection q with q; omega)]
  refine ⟨_, rfl, _, rfl, rfl, a, b, rfl, _, rfl, _, _, rfl, rfl, _, rfl, ?_⟩
  rw [decide_eq_false (show ¬ (b : Int) < 0 by omega)]
  refine ⟨_, rfl, _, rfl, _, _, rfl, rfl, ⟨by omega, by omega⟩, _, rfl, p, _, dx, [], rfl, hp, T.cl_Part, T.na_Part_top, (by show 0 < 1000; decide), ?_⟩
  refine ⟨_, rfl, _, rfl, _, _, rfl, rfl, ⟨by omega, by omega⟩, _, rfl, p, _, dx, _, rfl, upd_same, T.cl_Part, T.na_Part_bottom, (by show 1 < 1000; decide), ?_⟩
  rw [upd_upd]
  have f1 : ((a : Int).fdiv ((Nat.gcd a b : Nat) : Int)) = ((a / Nat.gcd a b : Nat) : Int) := by
    rw [Int.fdiv_eq_ediv_of_nonneg _ (by omega)]
    rfl
  have f2 : ((b : Int).fdiv ((Nat.gcd a b : Nat) : Int)) = ((b / Nat.gcd a b : Nat) : Int) := by
    rw [Int.fdiv_eq_ediv_of_nonneg _ (by omega)]
    rfl
  rw [← f1, ← f2] at k
  exact k
theorem ok_Part_init (T : Txt K mg) : Nx P w K mg base (cPart K) "Part" 2 [] (sp_Part_init K) := by
  obtain ⟨fd, F, G⟩ := fn_Part_init (P := P) (w := w) (base := base) T
  obtain ⟨ds, hd, hb⟩ := F.binds1 (ps := ["self", "top", "bottom"]) 3 1 (List.cons_ne_nil _ _) rfl (fun _ _ _ _ _ _ _ us its h1 h2 => match us, h1, its, h2 with | [_, _, _], _, [_], _ => ⟨_, rfl, rfl⟩)
  exact ⟨_, fd, _, ds, T.g_Part, T.mk_Part, G, hb, hd⟩
theorem ok_Part_init1 (T : Txt K mg) : Nx P w K mg base (cPart K) "Part" 2 [.int 1] (sp_Part_init K) := by
  obtain ⟨fd, F, G⟩ := fn_Part_init (P := P) (w := w) (base := base) T
  obtain ⟨ds, hd, hb⟩ := F.binds1 (ps := ["self", "top", "bottom"]) 2 0 (List.cons_ne_nil _ _) rfl (fun _ _ _ _ _ _ _ us its h1 h2 => match us, h1, its, h2 with | [_, _], _, [_], _ => ⟨_, rfl, rfl⟩)
  exact ⟨_, fd, _, ds, T.g_Part, T.mk_Part, G, hb, hd⟩
theorem fld_top {u : Nat} : (partFs u).lookup ("top" : Str) = some (.int (pT u)) := rfl
theorem fld_bottom {u : Nat} : (partFs u).lookup ("bottom" : Str) = some (.int (pB u)) := rfl
theorem ok_less (T : Txt K mg) : Fx P w K mg base "less" 1 [] (sp_less K) := by
  obtain ⟨fd, F⟩ := T.d_less
  refine ⟨_, fd, _, [], T.g_less, F.kp, fn_body F sc_less rfl (fun cdv A outer s H vs Q E hr h => ?_), F.bindsN (fun _ _ _ _ _ _ us hl => match us, hl with | [_, _], _ => rfl), .nil⟩
  have nd := sc_less.nd
  have hu := hu_of hr
  obtain ⟨p, q, u, v, rfl, ⟨dx, hp⟩, ⟨dy, hq⟩, hu1, hv1, k⟩ := h
  refine ⟨_, (pss_one (ps_ret (pe_cmpR op_lt (pe_op op_mul (pe_fld (pv 0) rfl) (pe_fld (pv 1) rfl)) (pe_op op_mul (pe_fld (pv 1) rfl) (pe_fld (pv 0) rfl)) (nomark _)))), ?_⟩
  have e : decide ((pT u : Int) * (pB v : Int) < (pT v : Int) * (pB u : Int)) = decide (u < v) := by
    have h := p_lt u v
    rw [decide_eq_decide]
    rw [← h, ← Int.natCast_mul, ← Int.natCast_mul]
    omega
  have a1 := pT_le u
  have a2 := pT_le v
  refine ⟨_, rfl, p, _, dx, _, _, rfl, hp, T.cl_Part, T.na_Part_top, fld_top, _, rfl, q, _, dy, _, _, rfl, hq, T.cl_Part, T.na_Part_bottom, fld_bottom, _, _, rfl, rfl, .inl ⟨by omega, by omega⟩, ?_⟩
  refine ⟨_, rfl, q, _, dy, _, _, rfl, hq, T.cl_Part, T.na_Part_top, fld_top, _, rfl, p, _, dx, _, _, rfl, hp, T.cl_Part, T.na_Part_bottom, fld_bottom, _, _, rfl, rfl, .inl ⟨by omega, by omega⟩, _, _, rfl, rfl, ?_⟩
  rw [← e] at k
  exact k
theorem ok_plus (T : Txt K mg) : Fx P w K mg base "plus" 4 [] (sp_plus K) := by
  obtain ⟨fd, F⟩ := T.d_plus
  refine ⟨_, fd, _, [], T.g_plus, F.kp, fn_body F sc_plus rfl (fun cdv A outer s H vs Q E hr h => ?_), F.bindsN (fun _ _ _ _ _ _ us hl => match us, hl with | [_, _], _ => rfl), .nil⟩
  have nd := sc_plus.nd
  have hu := hu_of hr
  obtain ⟨p, q, u, v, rfl, ⟨dx, hp⟩, ⟨dy, hq⟩, hu1, hv1, k⟩ := h
  refine ⟨_, (pss_one (ps_ret (pe_n (ok_Part_init T) (hr.mono (by decide)) (pa_cons (pe_op op_add (pe_op op_mul (pe_fld (pv 0) rfl) (pe_fld (pv 1) rfl)) (pe_op op_mul (pe_fld (pv 1) rfl) (pe_fld (pv 0) rfl))) (pa_cons (pe_op op_mul (pe_fld (pv 0) rfl) (pe_fld (pv 1) rfl)) pa_nil))))), ?_⟩
  have a1 := pT_le u
  have a2 := pT_le v
  have a3 := pB_le u
  refine ⟨_, rfl, p, _, dx, _, _, rfl, hp, T.cl_Part, T.na_Part_top, fld_top, _, rfl, q, _, dy, _, _, rfl, hq, T.cl_Part, T.na_Part_bottom, fld_bottom, _, _, rfl, rfl, .inl ⟨by omega, by omega⟩, ?_⟩
  refine ⟨_, rfl, q, _, dy, _, _, rfl, hq, T.cl_Part, T.na_Part_top, fld_top, _, rfl, p, _, dx, _, _, rfl, hp, T.cl_Part, T.na_Part_bottom, fld_bottom, _, _, rfl, rfl, .inl ⟨by omega, by omega⟩, _, _, rfl, rfl, ?_⟩
  refine ⟨_, rfl, p, _, dx, _, _, rfl, hp, T.cl_Part, T.na_Part_bottom, fld_bottom, _, rfl, q, _, dy, _, _, rfl, hq, T.cl_Part, T.na_Part_bottom, fld_bottom, _, _, rfl, rfl, .inl ⟨by omega, by omega⟩, ?_⟩
  exact mkPart (pB_mul u v).1 (pB_mul u v).2 (p_add u v) k
theorem ok_minus (T : Txt K mg) : Fx P w K mg base "minus" 4 [] (sp_minus K) := by
  obtain ⟨fd, F⟩ := T.d_minus
  refine ⟨_, fd, _, [], T.g_minus, F.kp, fn_body F sc_minus rfl (fun cdv A outer s H vs Q E hr h => ?_), F.bindsN (fun _ _ _ _ _ _ us hl => match us, hl with | [_, _], _ => rfl), .nil⟩
  have nd := sc_minus.nd
  have hu := hu_of hr
  obtain ⟨p, q, u, v, rfl, ⟨dx, hp⟩, ⟨dy, hq⟩, hu1, hv1, k⟩ := h
  refine ⟨_, (pss_one (ps_ret (pe_n (ok_Part_init T) (hr.mono (by decide)) (pa_cons (pe_op op_sub (pe_op op_mul (pe_fld (pv 0) rfl) (pe_fld (pv 1) rfl)) (pe_op op_mul (pe_fld (pv 1) rfl) (pe_fld (pv 0) rfl))) (pa_cons (pe_op op_mul (pe_fld (pv 0) rfl) (pe_fld (pv 1) rfl)) pa_nil))))), ?_⟩
  have a1 := pT_le u
  have a2 := pT_le v
  have a3 := pB_le u
  obtain ⟨b1, b2⟩ := p_sub hv1
  refine ⟨_, rfl, p, _, dx, _, _, rfl, hp, T.cl_Part, T.na_Part_top, fld_top, _, rfl, q, _, dy, _, _, rfl, hq, T.cl_Part, T.na_Part_bottom, fld_bottom, _, _, rfl, rfl, .inl ⟨by omega, by omega⟩, ?_⟩
  refine ⟨_, rfl, q, _, dy, _, _, rfl, hq, T.cl_Part, T.na_Part_top, fld_top, _, rfl, p, _, dx, _, _, rfl, hp, T.cl_Part, T.na_Part_bottom, fld_bottom, _, _, rfl, rfl, .inl ⟨by omega, by omega⟩, _, _, rfl, rfl, ?_⟩
  refine ⟨_, rfl, p, _, dx, _, _, rfl, hp, T.cl_Part, T.na_Part_bottom, fld_bottom, _, rfl, q, _, dy, _, _, rfl, hq, T.cl_Part, T.na_Part_bottom, fld_bottom, _, _, rfl, rfl, .inl ⟨by omega, by omega⟩, ?_⟩
  have e : ((pT u : Int) * (pB v : Int) - (pT v : Int) * (pB u : Int)) = ((pT u * pB v - pT v * pB u : Nat) : Int) := by
    rw [← Int.natCast_mul, ← Int.natCast_mul]
    omega
  have k2 := mkPart (K := K) (pB_mul u v).1 (pB_mul u v).2 b2 k
  simp only [← e] at k2
  exact k2
theorem fn_Part_eq (T : Txt K mg) : ∃ fd, FunD K "__eq__" "Part.__eq__" (defArgs s_Part_eq) (defBody s_Part_eq) (defScope s_Part_eq) [] [] (He.ma K (He.ga K "Part") "__eq__") fd ∧
    FnOk P w K mg base CX0 1 (He.ma K (He.ga K "Part") "__eq__") fd ["self", "other"] (spA 2 (fun vs H Q => spEq (REqPart K) vs H Q E0)) := by
  obtain ⟨fd, F⟩ := T.d_Part_eq
  refine ⟨fd, F, fn_body F sc_Part_eq rfl (fun cdv A outer s H vs Q E hr h => ?_)⟩
  have nd := sc_Part_eq.nd
  have hu := hu_of hr
  obtain ⟨p, q, rfl, ⟨u, ⟨dx, hp⟩, ⟨dy, hq⟩⟩, k⟩ := h
  refine ⟨_, (pss_cons (ps_if (pt_not (pt_val (pe_callB call_is (by rfl) T.n_isinstance b_isinstance (pa_cons (pv 1) (pa_cons (pe_glob (v := .ref (He.ga K "Part")) rfl T.g_Part rfl) pa_nil))))) (pss_one (ps_ret pe_bl)) pss_nil)
      (pss_one (ps_ret (pe_and (pe_cmpR op_eq (pe_fld (pv 0) rfl) (pe_fld (pv 1) rfl) (nomark _)) (pe_one (pe_cmpR op_eq (pe_fld (pv 0) rfl) (pe_fld (pv 1) rfl) (nomark _))))))), ?_⟩
  refine ⟨_, rfl, _, _, _, rfl, is_Part T hq, true, rfl, ?_⟩
  refine ⟨_, rfl, p, _, dx, _, _, rfl, hp, T.cl_Part, T.na_Part_top, fld_top, _, rfl, q, _, dy, _, _, rfl, hq, T.cl_Part, T.na_Part_top, fld_top, rfl, true, (by rw [decide_eq_true rfl]), ?_⟩
  refine ⟨_, rfl, p, _, dx, _, _, rfl, hp, T.cl_Part, T.na_Part_bottom, fld_bottom, _, rfl, q, _, dy, _, _, rfl, hq, T.cl_Part, T.na_Part_bottom, fld_bottom, rfl, ?_⟩
  rw [decide_eq_true rfl]
  exact k H (Same.refl _)
end
end RP
set_option Elab.async false
set_option linter.all false
set_option maxRecDepth 100000
set_option maxHeartbeats 4000000
/-! rootpledge k80: breeds and beds -/
namespace RP
open PySem PySem.Spec PyProof.Rows L2
/-! ### rows of a word and True -/
def TrueRow (v : V) (H : Hp) : Prop := ∃ t w, v = .ref t ∧ H t = some (.tup [.str w, .bl true])
theorem TrueRow.same {v : V} {H H' : Hp} (h : TrueRow v H) (e : Same H H') : TrueRow v H' := by
  obtain ⟨t, w, rfl, h⟩ := h
  exact ⟨t, w, rfl, e _ _ h⟩
/-- a write at l, that is no tuple, leaves it -/
theorem TrueRow.upd {v : V} {H : Hp} {l : Addr} {xs : List V} {o : HO} (h : TrueRow v H) (hl : H l = some (.lst xs)) : TrueRow v (L2.upd H l o) := by
  obtain ⟨t, w, rfl, h⟩ := h
  exact ⟨t, w, rfl, by rw [upd_ne (ne_of h hl (by intro z; cases z))]; exact h⟩
def EvRow (te : TE) (σ : L2.St) (H : Hp) : Prop := ∀ H1, Same H H1 → ∀ Q : VK, (∀ v H2, Same H1 H2 → TrueRow v H2 → Q v H2) → te σ H1 Q
def EvRows (ta : TA) (σ : L2.St) (H : Hp) (n : Nat) : Prop := ∀ H1, Same H H1 → ∀ Q : List V → Hp → Prop, (∀ vs H2, Same H1 H2 → (∀ v ∈ vs, TrueRow v H2) → vs.length = n → Q vs H2) → ta σ H1 Q
theorem evrows_nil {σ : L2.St} {H : Hp} : EvRows tNil σ H 0 := fun H1 _ Q q => q [] H1 (Same.refl _) (fun v h => nomatch h) rfl
theorem evrows_cons {te : TE} {ta : TA} {σ : L2.St} {H : Hp} {n : Nat} (h : EvRow te σ H) (h2 : EvRows ta σ H n) : EvRows (tCons te ta) σ H (n + 1) := fun H1 e Q q =>
  h H1 e _ fun v H2 e2 t2 => h2 H2 (e.trans e2) _ fun vs H3 e3 t3 hl => q (v :: vs) H3 (e2.trans e3) (fun u hu => by
    rcases List.mem_cons.mp hu with rfl | hu
    · exact t2.same e3
    · exact t3 u hu) (by rw [List.length_cons, hl])
/-- ("word", e), e True -/
theorem evrow {te : TE} {wd : Str} {σ : L2.St} {H : Hp} (h : ∀ H1, Same H H1 → ∀ Q : VK, (∀ H2, Same H1 H2 → Q (.bl true) H2) → te σ H1 Q) : EvRow (tTup (tCons (tC (.str wd)) (tCons te tNil))) σ H := fun H1 e Q q =>
  h H1 e _ fun H2 e2 => ⟨by show 2 ≤ sizeLine; decide, fun p hp => q _ _ (same_upd e2 (e2.free hp)) ⟨p, wd, rfl, upd_same⟩⟩
/-- a list of such rows -/
def RowsAt (H : Hp) (a : Addr) (n : Nat) : Prop := ∃ vs, H a = some (.lst vs) ∧ (∀ v ∈ vs, TrueRow v H) ∧ vs.length = n
theorem RowsAt.same {H H' : Hp} {a : Addr} {n : Nat} (h : RowsAt H a n) (e : Same H H') : RowsAt H' a n := by
  obtain ⟨vs, h1, h2, h3⟩ := h
  exact ⟨vs, e _ _ h1, fun v hv => (h2 v hv).same e, h3⟩
theorem evlst {ta : TA} {σ : L2.St} {H : Hp} {n : Nat} (hn : n ≤ 100) (h : EvRows ta σ H n) {H1 : Hp} (e : Same H H1) {Q : VK} (q : ∀ p H2, H1 p = none → Same H1 H2 → RowsAt H2 p n → Q (.ref p) H2) : tLst ta σ H1 Q :=
  h H1 e _ fun vs H2 e2 t hl => ⟨by rw [hl]; exact Nat.le_trans hn (by decide), fun p hp => q p _ (e2.free hp) (same_upd e2 (e2.free hp)) ⟨vs, upd_same, fun v hv => (t v hv).same (same_upd (Same.refl _) hp), hl⟩⟩
/-- xs.append(row) -/
theorem evapp {te : TE} {σ : L2.St} {H : Hp} {i n : Nat} {a : Addr} {K : PySem.W.Frag} (hi : σ[i]? = some (some (.ref a))) (hn : n ≤ 100) (hr : RowsAt H a n) (h : EvRow te σ H) {D : Ends}
    (q : ∀ H2, (∀ b o, b ≠ a → H b = some o → H2 b = some o) → RowsAt H2 a (n + 1) → D.nx σ H2) : tDrop (tBM K "list" rAppend (tVar i) (tCons te tNil)) D σ H := by
  obtain ⟨vs, h1, h2, h3⟩ := hr
  refine ⟨_, hi, Or.inl ⟨rfl, _, SqL.of h1⟩, ?_⟩
  refine h H (Same.refl _) _ fun v H2 e2 t2 => ?_
  refine ⟨a, vs, v, rfl, rfl, e2 _ _ h1, by rw [h3]; exact Nat.lt_of_le_of_lt hn (by decide), ?_⟩
  refine q _ (fun b o hb hq => by rw [upd_ne hb]; exact e2 _ _ hq) ⟨vs ++ [v], upd_same, fun u hu => ?_, by rw [List.length_append, h3]; rfl⟩
  rcases List.mem_append.mp hu with hu | hu
  · exact ((h2 u hu).same e2).upd (e2 _ _ h1)
  · rw [List.mem_singleton.mp hu]
    exact t2.upd (e2 _ _ h1)
section
variable {u : TS} {D : Ends} {te : TE} {ta : TA} {σ : L2.St} {H : Hp} {i j n m : Nat} {a : Addr} {K : PySem.W.Frag}
theorem evlst_set (n : Nat) (h : EvRows ta σ H n) (hn : n ≤ 100) (q : ∀ p H2, H p = none → Same H H2 → RowsAt H2 p n → u D (σ.set i (some (.ref p))) H2) : tSeq (tAsg (tLst ta) (gName i)) u D σ H := by
  show tLst ta σ H fun x H1 => u D (σ.set i (some x)) H1
  exact evlst hn h (Same.refl _) q
theorem evcat_set (m : Nat) (hj : σ[j]? = some (some (.ref a))) (hr : RowsAt H a n) (h : EvRows ta σ H m) (hn : n + m ≤ 100) (q : ∀ p H2, H p = none → Same H H2 → RowsAt H2 p (n + m) → u D (σ.set i (some (.ref p))) H2) :
    tSeq (tAsg (tOp rCat (tVar j) (tLst ta)) (gName i)) u D σ H := by
  refine ⟨_, hj, evlst (by omega) h (Same.refl H) fun r2 H2 f2 e2 R2 => ?_⟩
  obtain ⟨vs1, g1, g2, g3⟩ := hr.same e2
  obtain ⟨vs2, g4, g5, g6⟩ := R2
  refine ⟨a, r2, vs1, vs2, rfl, rfl, g1, g4, (by rw [g3, g6]; exact Nat.le_trans hn (by decide)), fun r3 f3 => ?_⟩
  refine q _ _ (e2.free f3) (same_upd e2 (e2.free f3)) ⟨_, upd_same, fun v hv => ?_, by rw [List.length_append, g3, g6]⟩
  rcases List.mem_append.mp hv with hv | hv
  · exact (g2 v hv).same (same_upd (Same.refl _) f3)
  · exact (g5 v hv).same (same_upd (Same.refl _) f3)
theorem evapp_seq (hi : σ[i]? = some (some (.ref a))) (hr : RowsAt H a n) (h : EvRow te σ H) (hn : n ≤ 100) (q : ∀ H2, (∀ b o, b ≠ a → H b = some o → H2 b = some o) → RowsAt H2 a (n + 1) → u D σ H2) :
    tSeq (tDrop (tBM K "list" rAppend (tVar i) (tCons te tNil))) u D σ H := evapp (D := { D with nx := u D }) hi hn hr h q
end
theorem evrow_name {w : Str} {x : Str} {i : Nat} {σ : L2.St} {H : Hp} (hi : σ[i]? = some (some (.str x))) (hx : NameOk x) : EvRow (tTup (tCons (tC (.str w)) (tCons (tCall sp_is_name [] E0 (tCons (tVar i) tNil)) tNil))) σ H :=
  evrow fun H1 e Q q => ⟨_, hi, rfl, x, rfl, hx, q⟩
theorem evrow_between {w : Str} {v a b : Int} {i : Nat} {σ : L2.St} {H : Hp} (hi : σ[i]? = some (some (.int v))) (h1 : a ≤ v) (h2 : v ≤ b) : EvRow (tTup (tCons (tC (.str w)) (tCons (tCall sp_is_between [] E0 (tCons (tVar i) (tCons (tC (.int a)) (tCons (tC (.int b)) tNil)))) tNil))) σ H :=
  evrow fun H1 e Q q => ⟨_, hi, rfl, v, a, b, rfl, by rw [decide_eq_true h1, decide_eq_true h2]; exact q H1 (Same.refl _)⟩
theorem evrow_from {w : Str} {v a : Int} {i : Nat} {σ : L2.St} {H : Hp} (hi : σ[i]? = some (some (.int v))) (h1 : a ≤ v) : EvRow (tTup (tCons (tC (.str w)) (tCons (tCall sp_is_from [] E0 (tCons (tVar i) (tCons (tC (.int a)) tNil))) tNil))) σ H :=
  evrow fun H1 e Q q => ⟨_, hi, rfl, v, a, rfl, by rw [decide_eq_true h1]; exact q H1 (Same.refl _)⟩
/-! ### what stands where -/
structure GradeOk (g : Int × Str × Int) : Prop where
  l0 : 0 ≤ g.1
  l1 : g.1 ≤ 1000000
  nm : NameOk g.2.1
  h0 : 0 ≤ g.2.2
  h1 : g.2.2 ≤ 1000
def GradeAt (H : Hp) (v : V) (g : Int × Str × Int) : Prop := ∃ t, v = .ref t ∧ H t = some (.tup [.int g.1, .str g.2.1, .int g.2.2])
theorem GradeAt.same {H H' : Hp} {v : V} {g : Int × Str × Int} (h : GradeAt H v g) (e : Same H H') : GradeAt H' v g := by
  obtain ⟨t, rfl, h⟩ := h
  exact ⟨t, rfl, e _ _ h⟩
/-- a list of grades, rising from 0 -/
structure GradesAt (H : Hp) (a : Addr) (n : Nat) (gs : Nat → Int × Str × Int) : Prop where
  at_ : ∃ vs, H a = some (.lst vs) ∧ vs.length = n ∧ ∀ (i : Nat) v, vs[i]? = some v → GradeAt H v (gs i)
  ok : ∀ i, i < n → GradeOk (gs i)
  n1 : 1 ≤ n
  n6 : n ≤ 6
  z : (gs 0).1 = 0
  up : ∀ i, i + 1 < n → (gs i).1 < (gs (i + 1)).1
theorem GradesAt.same {H H' : Hp} {a : Addr} {n : Nat} {gs : Nat → Int × Str × Int} (h : GradesAt H a n gs) (e : Same H H') : GradesAt H' a n gs := by
  obtain ⟨⟨vs, h1, h2, h3⟩, h4, h5, h6, h7, h8⟩ := h
  exact ⟨⟨vs, e _ _ h1, h2, fun i v hv => (h3 i v hv).same e⟩, h4, h5, h6, h7, h8⟩
/-- an __init__'s end: only the object is changed -/
def RInit (H : Hp) (p C dx : Addr) (fs : List (Str × V)) (Q : VK) : Prop := ∀ H', (∀ b o, b ≠ p → H b = some o → H' b = some o) → H' p = some (.ins C dx fs) → Q .non H'
def sp_is_grade : Sp := spA 1 fun vs H Q => ∃ v g, vs = [v] ∧ GradeAt H v g ∧ GradeOk g ∧ ∀ H', Same H H' → Q (.bl true) H'
def sp_are_grades : Sp := spA 1 fun vs H Q => ∃ a n gs, vs = [.ref a] ∧ GradesAt H a n gs ∧ ∀ H', Same H H' → Q (.bl true) H'
def sp_Breed_init (K : PySem.W.Frag) : Sp := spA 3 fun vs H Q => ∃ p dx x a n gs, vs = [.ref p, .str x, .ref a] ∧ NameOk x ∧ GradesAt H a n gs ∧ H p = some (.ins (cBreed K) dx []) ∧
  ∀ g, RInit H p (cBreed K) dx [("name", .str x), ("grades", .ref g)] Q
def sp_first_wrong : Sp := spA 1 fun vs H Q => ∃ a n, vs = [.ref a] ∧ RowsAt H a n ∧ Q .non H
/-- a bed's row -/
structure BedR where
  name : Str
  breed : Str
  owner : Str
  roots : Nat
  guess : Nat
  offs : Nat
  shares : Bool
def BedR.kind (b : BedR) : Str := if b.shares then "shares" else "roots"
structure BedOk (b : BedR) : Prop where
  n1 : NameOk b.name
  n2 : NameOk b.breed
  n3 : NameOk b.owner
  r1 : 1 ≤ b.roots
  r12 : b.roots ≤ 12
  g1 : 1 ≤ b.guess
  g60 : b.guess ≤ 60
  o60 : b.offs ≤ 60
def bedVs (b : BedR) : List V := [.str b.name, .str b.breed, .str b.owner, .int b.roots, .int b.guess, .int b.offs, .str b.kind]
def bedFs (b : BedR) : List (Str × V) := [("name", .str b.name), ("breed", .str b.breed), ("owner", .str b.owner), ("roots", .int b.roots), ("guess", .int b.guess), ("offsets", .int b.offs), ("kind", .str b.kind)]
def sp_Bed_init (K : PySem.W.Frag) : Sp := spA 8 fun vs H Q => ∃ p dx b, vs = .ref p :: bedVs b ∧ BedOk b ∧ H p = some (.ins (cBed K) dx []) ∧ RInit H p (cBed K) dx (bedFs b) Q
section
variable {P : Program} {w : World} {K : PySem.W.Frag} {mg : Str → Option Value} {base : Heap}
theorem ok_is_grade (T : Txt K mg) : Fx P w K mg base "is_grade" 3 [] sp_is_grade := by
  obtain ⟨fd, F⟩ := T.d_is_grade
  refine ⟨_, fd, _, [], T.g_is_grade, F.kp, fn_body F sc_is_grade rfl (fun cdv A outer s H vs Q E hr h => ?_), F.bindsN (fun _ _ _ _ _ _ us hl => match us, hl with | [_], _ => rfl), .nil⟩
  have nd := sc_is_grade.nd
  have hu := hu_of hr
  obtain ⟨v, ⟨l, x, z⟩, rfl, ⟨t, rfl, ht⟩, g, k⟩ := h
  refine ⟨_, (pss_cons (ps_if (PW.pt (pw_or (pt_not (pt_val (pe_callB call_is (by rfl) T.n_isinstance b_isinstance (pa_cons (pv 0) (pa_cons (pe_bltn (v := .ty "tuple") (by rfl) T.n_tuple b_tuple rfl) pa_nil))))) (pw_or (pt_cmpR op_ne (pe_callB call_len_seq (by rfl) T.n_len b_len (pa_cons (pv 0) pa_nil)) pe_int (nomark _)) (pw_or1 (pt_not (pt_val (pe_f (ok_is_between T) (hr.mono (by decide)) (pa_cons (pe_ix ix_tup (pv 0) pe_int (fun _ _ => rfl)) (pa_cons pe_int (pa_cons (C8.pe_gc rfl T.c_MOST_LEAST) pa_nil)))))))))) (pss_one (ps_ret pe_bl)) pss_nil)
      (pss_one (ps_ret (pe_and (pe_f (ok_is_name T) (hr.mono (by decide)) (pa_cons (pe_ix ix_tup (pv 0) pe_int (fun _ _ => rfl)) pa_nil)) (pe_one (pe_f (ok_is_between T) (hr.mono (by decide)) (pa_cons (pe_ix ix_tup (pv 0) pe_int (fun _ _ => rfl)) (pa_cons pe_int (pa_cons (C8.pe_gc rfl T.c_MOST_HUNDREDTHS) pa_nil))))))))), ?_⟩
  refine ⟨_, rfl, _, _, _, rfl, is_tup ht, true, rfl, ?_⟩
  refine ⟨_, rfl, t, _, rfl, .inr (SqT.of ht), rfl, _, rfl, ?_⟩
  refine ⟨_, rfl, t, _, 0, _, rfl, rfl, SqT.of ht, rfl, rfl, _, _, _, rfl, ?_⟩
  rw [decide_eq_true g.l0, decide_eq_true g.l1]
  refine ⟨true, rfl, ?_⟩
  refine ⟨_, rfl, t, _, 1, _, rfl, rfl, SqT.of ht, rfl, rfl, x, rfl, g.nm, fun H' e => ⟨true, rfl, ?_⟩⟩
  refine ⟨_, rfl, t, _, 2, _, rfl, rfl, SqT.of (e _ _ ht), rfl, rfl, _, _, _, rfl, ?_⟩
  rw [decide_eq_true g.h0, decide_eq_true g.h1]
  exact k H' e
theorem ok_are_grades (T : Txt K mg) : Fx P w K mg base "are_grades" 4 [] sp_are_grades := by
  obtain ⟨fd, F⟩ := T.d_are_grades
  refine ⟨_, fd, _, [], T.g_are_grades, F.kp, fn_body F sc_are_grades rfl (fun cdv A outer s H vs Q E hr h => ?_), F.bindsN (fun _ _ _ _ _ _ us hl => match us, hl with | [_], _ => rfl), .nil⟩
  have nd := sc_are_grades.nd
  have hu := hu_of hr
  obtain ⟨a, n, gs, rfl, G, k⟩ := h
  obtain ⟨vs, ha, hl, hg⟩ := G.at_
  refine ⟨_, (pss_cons (ps_if (PW.pt (pw_or (pt_not (pt_val (pe_callB call_is (by rfl) T.n_isinstance b_isinstance (pa_cons (pv 0) (pa_cons (pe_bltn (v := .ty "list") (by rfl) T.n_list b_list rfl) pa_nil))))) (pw_or (pt_not (pt_chain op_le op_le pe_int (pe_callB call_len_seq (by rfl) T.n_len b_len (pa_cons (pv 0) pa_nil)) (C8.pe_gc rfl T.c_MOST_GRADES))) (pw_or1 (pt_not (pt_val (pe_callB (cr_all rfl) (by rfl) T.n_all b_all (pa_cons (pe_lc (own := [("one", 1)])  rfl nd (pi_list (pv 0)) (blkOk_by (own := [("one", 1)]) (N := ["thing", "one", "k"]) (sc := defScope s_are_grades) (by decide +kernel)) (fun _ _ _ _ _ => (pg_name (i := 1) nd rfl (.inl rfl))) (fun _ _ _ _ _ => pts_nil) (fun _ _ _ _ _ => (pe_f (ok_is_grade T) (hr.mono (by decide)) (pa_cons (pv 1) pa_nil)))) pa_nil)))))))) (pss_one (ps_ret pe_bl)) pss_nil)
      (pss_cons (ps_if (pt_cmpR op_ne (pe_ix ix_tup (pe_ix ix_list (pv 0) pe_int (fun _ _ => rfl)) pe_int (fun _ _ => rfl)) pe_int (nomark _)) (pss_one (ps_ret pe_bl)) pss_nil)
      (pss_one (ps_ret (pe_callB (cr_all rfl) (by rfl) T.n_all b_all (pa_cons (pe_lc (own := [("k", 2)])  rfl nd (pi_range2 (by rfl) T.n_range (pa_cons pe_int (pa_cons (pe_callB call_len_seq (by rfl) T.n_len b_len (pa_cons (pv 0) pa_nil)) pa_nil))) (blkOk_by (own := [("k", 2)]) (N := ["thing", "one", "k"]) (sc := defScope s_are_grades) (by decide +kernel)) (fun _ _ _ _ _ => (pg_name (i := 2) nd rfl (.inl rfl))) (fun _ _ _ _ _ => pts_nil) (fun _ _ _ _ _ => (pe_cmpR op_lt (pe_ix (ix_tupK (K := K) rfl) (pe_ix (ix_listK (K := K) rfl) (pv 0) (pe_op op_sub (pv 2) pe_int) (fun _ _ => rfl)) pe_int (fun _ _ => rfl)) (pe_ix (ix_tupK (K := K) rfl) (pe_ix (ix_listK (K := K) rfl) (pv 0) (pv 2) (fun _ _ => rfl)) pe_int (fun _ _ => rfl)) (nomark _)))) pa_nil)))))), ?_⟩
  have hl1 : decide ((1 : Int) ≤ (vs.length : Int)) = true := decide_eq_true (by have := G.n1; omega)
  have hl2 : decide ((vs.length : Int) ≤ 6) = true := decide_eq_true (by have := G.n6; omega)
  refine ⟨_, rfl, _, _, _, rfl, is_lst ha, true, rfl, ?_⟩
  refine ⟨_, rfl, a, vs, rfl, .inl (SqL.of ha), _, _, rfl, rfl, _, rfl, ?_⟩
  rw [hl1]
  refine ⟨_, _, rfl, rfl, _, rfl, ?_⟩
  rw [hl2]
  refine ⟨_, rfl, a, rfl, ⟨vs, SqL.of ha⟩, fun D hD => ?_⟩
  refine lc_pure (walk_list (xs := vs)) hD (fun i acc => acc = (List.replicate i true).map V.bl) rfl (by have := G.n6; omega) (fun H1 e => e.seq (SqL.of ha)) ?_ ?_
  · rintro i v acc H1 H2 hi e rfl ⟨rfl, hv⟩ Q1 Q0 q1 q0
    refine ⟨rfl, _, rfl, rfl, v, gs i, rfl, (hg i v hv).same e, G.ok i (by omega), fun H3 e3 => q1 _ _ e3 ?_⟩
    rw [List.replicate_succ', List.map_append]
    all_goals rfl
  · rintro acc H1 e hD1 _ rfl
    have e2 : ∀ m, (List.replicate m true).all id = true := fun m => by
      rw [List.all_eq_true]
      intro b hb
      exact List.eq_of_mem_replicate hb
    refine ⟨_, _, rfl, SqL.of hD1, ?_⟩
    rw [e2]
    have h0 : 0 < vs.length := by have := G.n1; omega
    obtain ⟨t0, hv0, ht0⟩ := hg 0 _ (List.getElem?_eq_getElem h0)
    have hat : atI vs 0 = some vs[0] := atI_nat (List.getElem?_eq_getElem h0)
    refine ⟨true, rfl, _, rfl, a, vs, 0, _, rfl, rfl, SqL.of (e _ _ ha), hat, t0, _, 0, _, hv0, rfl, SqT.of (e _ _ ht0), rfl, rfl, ?_⟩
    rw [G.z]
    refine ⟨_, rfl, _, rfl, a, vs, rfl, .inl (SqL.of (e _ _ ha)), _, _, rfl, ⟨by decide, by decide, by omega, by have := G.n6; omega⟩, fun D2 hD2 => ?_⟩
    refine lc_pure walk_range hD2 (fun i acc => acc = (List.replicate i true).map V.bl) rfl (by have := G.n6; omega) (fun _ _ => trivial) ?_ ?_
    · rintro i v acc H3 H4 hi e3 rfl ⟨rfl, rfl⟩ Q1 Q0 q1 q0
      have hi1 : i + 1 < vs.length := by omega
      have hi0 : i < vs.length := by omega
      obtain ⟨t1, hv1, ht1⟩ := hg i _ (List.getElem?_eq_getElem hi0)
      obtain ⟨t2, hv2, ht2⟩ := hg (i + 1) _ (List.getElem?_eq_getElem hi1)
      have e4 := e.trans e3
      have a1 : atI vs ((1 : Int) + (i : Int) - 1) = some vs[i] := at_of (by omega) (List.getElem?_eq_getElem hi0)
      have a2 : atI vs ((1 : Int) + (i : Int)) = some vs[i + 1] := at_of (by omega) (List.getElem?_eq_getElem hi1)
      refine ⟨rfl, _, rfl, _, rfl, _, _, rfl, rfl, a, vs, _, _, rfl, rfl, SqL.of (e4 _ _ ha), a1, t1, _, 0, _, hv1, rfl, SqT.of (e4 _ _ ht1), rfl, ?_⟩
      refine ⟨_, rfl, _, rfl, a, vs, _, _, rfl, rfl, SqL.of (e4 _ _ ha), a2, t2, _, 0, _, hv2, rfl, SqT.of (e4 _ _ ht2), rfl, _, _, rfl, rfl, ?_⟩
      show Q1 (V.bl (decide ((gs i).1 < (gs (i + 1)).1))) H4
      rw [decide_eq_true (G.up i (by omega))]
      refine q1 _ _ (Same.refl _) ?_
      rw [List.replicate_succ', List.map_append]
      all_goals rfl
    · rintro acc H3 e3 hD3 _ rfl
      refine ⟨_, _, rfl, SqL.of hD3, ?_⟩
      rw [e2]
      exact k _ (e.trans e3)
theorem ok_Breed_init (T : Txt K mg) : Nx P w K mg base (He.ga K "Breed") "Breed" 5 [] (sp_Breed_init K) := by
  obtain ⟨fd, F⟩ := T.d_Breed_init
  refine ⟨_, fd, _, [], T.g_Breed, T.mk_Breed, fn_body F sc_Breed_init rfl (fun cdv A outer s H vs Q E hr h => ?_), F.bindsN (fun _ _ _ _ _ _ us hl => match us, hl with | [_, _, _], _ => rfl), .nil⟩
  have nd := sc_Breed_init.nd
  have hu := hu_of hr
  obtain ⟨p, dx, x, a, n, gs, rfl, hx, G, hp, k⟩ := h
  refine ⟨_, (pss_cons (ps_if (PW.pt (pw_or (pt_not (pt_val (pe_f (ok_is_name T) (hr.mono (by decide)) (pa_cons (pv 1) pa_nil)))) (pw_or1 (pt_not (pt_val (pe_f (ok_are_grades T) (hr.mono (by decide)) (pa_cons (pv 2) pa_nil))))))) (pss_one ps_never) pss_nil)
      (pss_cons (ps_fld (pv 0) (pv 1) rfl)
      (pss_one (ps_fld (pv 0) (pe_callTy call_list_of (by rfl) T.n_list b_list (pa_cons (pv 2) pa_nil)) rfl)))), ?_⟩
  refine ⟨_, rfl, rfl, x, rfl, hx, fun H1 e1 => ⟨true, rfl, ?_⟩⟩
  refine ⟨_, rfl, rfl, a, n, gs, rfl, G.same e1, fun H2 e2 => ⟨true, rfl, ?_⟩⟩
  have e := e1.trans e2
  obtain ⟨vs, ha, hl, hg⟩ := (G.same e).at_
  have nap : a ≠ p := ne_of ha (e _ _ hp) (by intro z; cases z)
  refine ⟨_, rfl, _, rfl, p, _, dx, [], rfl, e _ _ hp, T.cl_Breed, T.na_Breed_name, (by show 0 < 1000; decide), ?_⟩
  refine ⟨_, rfl, a, vs, rfl, .inl (SqL.of (by rw [upd_ne nap]; exact ha)), fun g hg2 => ?_⟩
  have npg : p ≠ g := ne_of_none upd_same hg2
  refine ⟨_, rfl, p, _, dx, _, rfl, (by rw [upd_ne npg]; exact upd_same), T.cl_Breed, T.na_Breed_grades, (by show 1 < 1000; decide), ?_⟩
  refine k g _ (fun b o hb q => ?_) upd_same
  have q2 := e _ _ q
  have nbg : b ≠ g := ne_of_none (H := upd H2 p (.ins (cBreed K) dx (putF "name" (.str x) []))) (by rw [upd_ne hb]; exact q2) hg2
  rw [upd_ne hb, upd_ne nbg, upd_ne hb]
  exact q2
theorem ok_first_wrong (T : Txt K mg) : Fx P w K mg base "first_wrong" 1 [] sp_first_wrong := by
  obtain ⟨fd, F⟩ := T.d_first_wrong
  refine ⟨_, fd, _, [], T.g_first_wrong, F.kp, fn_body F sc_first_wrong rfl (fun cdv A outer s H vs Q E hr h => ?_), F.bindsN (fun _ _ _ _ _ _ us hl => match us, hl with | [_], _ => rfl), .nil⟩
  have nd := sc_first_wrong.nd
  have hu := hu_of hr
  obtain ⟨a, n, rfl, ⟨vs, ha, ht, hl⟩, k⟩ := h
  refine ⟨_, (pss_cons (ps_for PassesOwn.never rfl (pi_list (pv 0)) (pg_tup rfl (pgs_cons (pg_name (i := 1) nd rfl (.inl rfl)) (pgs_cons (pg_name (i := 2) nd rfl (.inl rfl)) pgs_nil)))
      (pss_one (ps_if (pt_not (pt_val (pv 2))) (pss_one (ps_ret (pv 1))) pss_nil)))
      (pss_one (ps_ret pe_non))), ?_⟩
  refine ⟨_, rfl, a, rfl, ⟨vs, SqL.of ha⟩, ?_⟩
  refine for_list (K := K) (xs := vs) (fun i σ H' => H' = H ∧ ∃ v1 v2, σ = [some (.ref a), v1, v2]) ⟨rfl, _, _, rfl⟩ (fun i σ H' _ ⟨e, _⟩ => by rw [e]; exact SqL.of ha) ?_ ?_
  · rintro i v σ H' hv ⟨rfl, v1, v2, rfl⟩
    obtain ⟨t, wd, rfl, ht2⟩ := ht v (List.mem_of_getElem? hv)
    refine ⟨t, _, rfl, SqT.of ht2, rfl, _, _, rfl, _, _, rfl, rfl, ?_⟩
    exact ⟨_, rfl, true, rfl, rfl, _, _, rfl⟩
  · rintro σ H' ⟨rfl, v1, v2, rfl⟩
    exact k
theorem kinds_in (b : BedR) : inV (.str b.kind) [V.str "roots", V.str "shares"] = true := by
  unfold BedR.kind
  cases b.shares <;> decide +kernel
theorem ok_Bed_init (T : Txt K mg) : Nx P w K mg base (He.ga K "Bed") "Bed" 3 [] (sp_Bed_init K) := by
  obtain ⟨fd, F⟩ := T.d_Bed_init
  obtain ⟨ds, hd, hb⟩ := F.binds1 (ps := ["self", "name", "breed", "owner", "roots", "guess", "offsets", "kind"]) 8 2 (List.cons_ne_nil _ _) rfl (fun _ _ _ _ _ _ _ us its h1 h2 => match us, h1, its, h2 with | [_, _, _, _, _, _, _, _], _, [_, _], _ => ⟨_, rfl, rfl⟩)
  refine ⟨_, fd, _, ds, T.g_Bed, T.mk_Bed, fn_body F sc_Bed_init rfl (fun cdv A outer s H vs Q E hr h => ?_), hb, hd⟩
  have nd := sc_Bed_init.nd
  have hu := hu_of hr
  obtain ⟨p, dx, b, rfl, B, hp, k⟩ := h
  refine ⟨_, (pss_cons (ps_set (i := 8) nd rfl (Or.inl rfl) (pe_lst (pa_cons (pe_tup (pa_cons pe_str (pa_cons (pe_f (ok_is_name T) (hr.mono (by decide)) (pa_cons (pv 1) pa_nil)) pa_nil))) (pa_cons (pe_tup (pa_cons pe_str (pa_cons (pe_f (ok_is_name T) (hr.mono (by decide)) (pa_cons (pv 2) pa_nil)) pa_nil))) (pa_cons (pe_tup (pa_cons pe_str (pa_cons (pe_f (ok_is_name T) (hr.mono (by decide)) (pa_cons (pv 3) pa_nil)) pa_nil))) pa_nil)))))
      (pss_cons (ps_set (i := 8) nd rfl (Or.inl rfl) (pe_op op_cat (pv 8) (pe_lst (pa_cons (pe_tup (pa_cons pe_str (pa_cons (pe_f (ok_is_between T) (hr.mono (by decide)) (pa_cons (pv 4) (pa_cons pe_int (pa_cons (C8.pe_gc rfl T.c_MOST_ROOTS) pa_nil)))) pa_nil))) (pa_cons (pe_tup (pa_cons pe_str (pa_cons (pe_f (ok_is_between T) (hr.mono (by decide)) (pa_cons (pv 5) (pa_cons pe_int (pa_cons (C8.pe_gc rfl T.c_MOST_GUESS) pa_nil)))) pa_nil))) pa_nil)))))
      (pss_cons (ps_expr (pe_bm PySem.F.plainAttrs_list PySem.F.slot_list_append PySem.F.type_list_append mt_append (pv 8) (pa_cons (pe_tup (pa_cons pe_str (pa_cons (pe_f (ok_is_between T) (hr.mono (by decide)) (pa_cons (pv 6) (pa_cons pe_int (pa_cons (C8.pe_gc rfl T.c_MOST_OFFSETS) pa_nil)))) pa_nil))) pa_nil)))
      (pss_cons (ps_expr (pe_bm PySem.F.plainAttrs_list PySem.F.slot_list_append PySem.F.type_list_append mt_append (pv 8) (pa_cons (pe_tup (pa_cons pe_str (pa_cons (pe_and (pe_callB call_is (by rfl) T.n_isinstance b_isinstance (pa_cons (pv 7) (pa_cons (pe_bltn (v := .ty "str") (by rfl) T.n_str b_str rfl) pa_nil))) (pe_one (pe_cmpR op_in_seq (pv 7) (C8.pe_gc rfl T.c_KINDS) rfl))) pa_nil))) pa_nil)))
      (pss_cons (ps_set (i := 9) nd rfl (Or.inl rfl) (pe_f (ok_first_wrong T) (hr.mono (by decide)) (pa_cons (pv 8) pa_nil)))
      (pss_cons (ps_if (pt_cmpR op_notN (pv 9) pe_non (nomark _)) (pss_one ps_never) pss_nil)
      (pss_cons (ps_fld (pv 0) (pv 1) rfl)
      (pss_cons (ps_fld (pv 0) (pv 2) rfl)
      (pss_cons (ps_fld (pv 0) (pv 3) rfl)
      (pss_cons (ps_fld (pv 0) (pv 4) rfl)
      (pss_cons (ps_fld (pv 0) (pv 5) rfl)
      (pss_cons (ps_fld (pv 0) (pv 6) rfl)
      (pss_one (ps_fld (pv 0) (pv 7) rfl)))))))))))))), ?_⟩
  have b1 := B.r1
  have b2 := B.r12
  have b3 := B.g1
  have b4 := B.g60
  have b5 := B.o60
  -- rows = [..]
  refine evlst_set 3 (evrows_cons (evrow_name (by rfl) B.n1) (evrows_cons (evrow_name (by rfl) B.n2) (evrows_cons (evrow_name (by rfl) B.n3) evrows_nil))) (by decide) fun r1 H1 f1 e1 R1 => ?_
  -- rows = rows + [..]
  refine evcat_set 2 (by rfl) R1 (evrows_cons (evrow_between (by rfl) (by omega) (by omega)) (evrows_cons (evrow_between (by rfl) (by omega) (by omega)) evrows_nil)) (by decide) fun r3 H3 f3 e3' R3 => ?_
  have e3 := e1.trans e3'
  have n3 : ∀ c o, H c = some o → c ≠ r3 := fun c o q => ne_of_none (e1 _ _ q) f3
  -- rows.append(..)
  refine evapp_seq (by rfl) R3 (evrow_between (by rfl) (by omega) (by omega)) (by decide) fun H4 e4 R4 => ?_
  refine evapp_seq (by rfl) R4 (evrow fun H5 e5 Q5 q5 => ?_) (by decide) fun H6 e6 R6 => ?_
  · refine ⟨_, rfl, _, _, _, rfl, is_str, true, rfl, _, rfl, _, _, rfl, .inr (T.t_KINDS _), rfl, (by decide +kernel), ?_⟩
    rw [if_neg Bool.false_ne_true, kinds_in]
    exact q5 _ (Same.refl _)
  refine ⟨_, rfl, rfl, r3, _, rfl, R6, _, rfl, rfl, _, rfl, ?_⟩
  have e7 : Same H H6 := fun c o q => e6 c o (n3 c o q) (e4 c o (n3 c o q) (e3 c o q))
  refine ⟨_, rfl, _, rfl, p, _, dx, [], rfl, e7 _ _ hp, T.cl_Bed, T.na_Bed_name, (by show 0 < 1000; decide), ?_⟩
  refine ⟨_, rfl, _, rfl, p, _, dx, _, rfl, upd_same, T.cl_Bed, T.na_Bed_breed, (by show 1 < 1000; decide), ?_⟩
  refine ⟨_, rfl, _, rfl, p, _, dx, _, rfl, upd_same, T.cl_Bed, T.na_Bed_owner, (by show 2 < 1000; decide), ?_⟩
  refine ⟨_, rfl, _, rfl, p, _, dx, _, rfl, upd_same, T.cl_Bed, T.na_Bed_roots, (by show 3 < 1000; decide), ?_⟩
  refine ⟨_, rfl, _, rfl, p, _, dx, _, rfl, upd_same, T.cl_Bed, T.na_Bed_guess, (by show 4 < 1000; decide), ?_⟩
  refine ⟨_, rfl, _, rfl, p, _, dx, _, rfl, upd_same, T.cl_Bed, T.na_Bed_offsets, (by show 5 < 1000; decide), ?_⟩
  refine ⟨_, rfl, _, rfl, p, _, dx, _, rfl, upd_same, T.cl_Bed, T.na_Bed_kind, (by show 6 < 1000; decide), ?_⟩
  refine k _ (fun c o hc q => ?_) upd_same
  simp only [upd_upd]
  rw [upd_ne hc]
  exact e7 _ _ q
end
end RP
set_option Elab.async false
set_option linter.all false
set_option maxRecDepth 100000
set_option maxHeartbeats 4000000
/-! rootpledge k80: rules of our own, 1: set(xs) of a list -/
namespace RP
open PySem PySem.Spec PyProof.Rows L2
theorem all_rep (m : Nat) : (List.replicate m true).all id = true := by
  rw [List.all_eq_true]
  intro b hb
  exact List.eq_of_mem_replicate hb
abbrev freshSet (w : World) : Obj := { cls := .type "set", dict := none, data := .set #[] 0 (.fresh 0 0 (!w.params.followText "set-order")) }
section
variable {P : Program} {w : World} {A : Around} {E : Value → Shared → Prop} {s : Shared}
/-- set(xs), told of its loop -/
theorem set_of_list {l : Addr} {items : Array Value} {Q : Value → Shared → Prop} (Fin : Heap → Prop) (hh : A.handled = none) (hl : s.heap.IsList l items)
    (loop : ∀ (A' : Around) (I : Addr) (fp wr : List Addr) (G : Array GenState → Array GenState → Prop) (St : Nat → Shared → Prop) (R : Result → Shared → Prop) (s0 : Shared), WalksS P w A'.in1 I fp wr G items.size (fun i v => items[i]? = some v) St → ¬ s.heap.objs.size ∈ fp → St 0 s0 →
      s0.heap.get? s.heap.objs.size = some (freshSet w) → (∀ s', Moved (s.heap.objs.size :: wr) G s0 s' → Fin s'.heap → R (.ok (.ret .none)) s') → codeAny (model P w) A' (.builtin "set.update.loop" ⟨[.ref s.heap.objs.size, .ref I], []⟩) R s0)
    (h : ∀ (h' : Heap) (tk : Nat), Fin h' → (∀ b o, s.heap.get? b = some o → h'.get? b = some o) → Q (.ref s.heap.objs.size) { s with heap := h', toks := tk }) :
    wpAny (model P w) A (call (.type "set") [.ref l]) Q E s := by
  obtain ⟨c, tl, m0⟩ := F.called_set.mro
  have m1 := F.called_set.made
  have m2 := F.called_set.sub
  have m3 := F.called_set.notType
  have m4 := F.called_set.canCreate
  have m5 := F.typeCall_set_1 (.ref l)
  refine wpAny_call (codeAny_of_tree ?_)
  show wpAny _ _ (callAny (.type "set") _) _ _ _
  refine wpAny_pure ⟨Code.quiet_builtin _ (by decide +kernel), codeAny_builtin F.entry_type_call ?_⟩
  rw [Around.under_plain (weight_type_call_type "set" [.ref l] []) rfl]
  repeat (any_goals (first | assumption | wp_step))
  refine codeAny_mono (code_set_led1 (.ref l) (E := E) (Q₁ := fun obj s₁ => obj = .ref s.heap.objs.size ∧ s₁ = { s with heap := s.heap.push (freshSet w) }) ⟨rfl, rfl⟩) fun r s₁ hr => ?_
  cases r with
  | error e => exact hr
  | ok fl =>
    cases fl with
    | next => exact hr.elim
    | brk => exact hr.elim
    | cont => exact hr.elim
    | ret obj =>
      obtain ⟨rfl, rfl⟩ := hr
      have hS : (s.heap.push (freshSet w)).get? s.heap.objs.size = some (freshSet w) := Heap.get?_push_size _ rfl
      have hT : Shared.TypeIs { s with heap := s.heap.push (freshSet w) } (.ref s.heap.objs.size) "set" := ⟨_, hS, rfl⟩
      have m6 := F.called_set.init.lookup
      have m7 := F.called_set.init.bind (.ref s.heap.objs.size)
      repeat (any_goals (first | assumption | wp_step))
      refine codeAny_mono (codeAny_call_builtin (R := wants (fun r s₂ => r = .none ∧ ∃ h' tk, s₂ = { s with heap := h', toks := tk } ∧ Fin h' ∧ (∀ b o, s.heap.get? b = some o → h'.get? b = some o)) E) F.called_set.init.plain F.entry_set_init (check_set_init_1 hT ?_)) fun r₂ s₂ hr₂ => ?_
      · obtain ⟨⟨oc, od, da, os⟩, ho, hc, nl, hd⟩ := hl
        simp only at hc hd
        subst hc
        subst hd
        have hl1 : (s.heap.push (freshSet w)).IsList l items := ⟨_, Heap.get?_push_of_some _ ho, rfl, nl, rfl⟩
        have ho2 : (s.heap.push (freshSet w)).get? l = some { cls := .type "list", dict := od, data := .seq items nl, slots := os } := Heap.get?_push_of_some _ ho
        have m8 := F.sub_list_set
        have m9 := F.sub_list_frozenset
        have m10 : (Value.type "list" == Value.type "dict") = false := by decide
        unfold Builtin.«set.__init__» noKeywords Builtin.Frozenset.updateFrom
        generalize hPI : pyIter = PI
        wp_walk
        subst hPI
        refine wpAny_pyIter_list hl1 ?_
        refine wpAny_bind (wpAny_runValue ?_)
        have hlS : l < s.heap.objs.size := Heap.lt_size ho
        have hz : (s.heap.push (freshSet w)).objs.size = s.heap.objs.size + 1 := Heap.size_push ..
        have hneI : l ≠ (s.heap.push (freshSet w)).objs.size := by rw [hz]; exact Nat.ne_of_lt (Nat.lt_succ_of_lt hlS)
        refine loop _ _ _ _ _ _ _ _ ((Walks.list (by simp [hh]) _ l hneI items).toS) (fun z => ?_) ⟨⟨_, Heap.get?_push_size _ rfl, rfl, rfl⟩, (hl1.push _)⟩ (Heap.get?_push_of_some _ hS) fun s' hm hF => ?_
        · rw [hz] at z
          rcases List.mem_cons.mp z with z | z
          · exact Nat.ne_of_lt (Nat.lt_succ_self _) z
          · exact Nat.ne_of_gt hlS (List.mem_singleton.mp z)
        · obtain ⟨h', g2, d2, tk2, os2⟩ := s'
          have eg : g2 = s.gens := hm.gens
          have ed : d2 = s.drawn := hm.drawn
          have eo : os2 = s.os := hm.os
          subst eg
          subst ed
          subst eo
          show wpAny _ _ _ _ _ _
          refine wpAny_pure ?_
          show wpAny _ _ (ret Value.none) _ _ _
          refine wpAny_pure ⟨rfl, h', tk2, rfl, hF, fun b o e => ?_⟩
          have hb := Heap.lt_size e
          refine hm.heap b o (fun z => ?_) (Heap.get?_push_of_some _ (Heap.get?_push_of_some _ e))
          rcases List.mem_cons.mp z with z | z
          · exact Nat.ne_of_lt hb z
          · exact Nat.ne_of_lt (Nat.lt_succ_of_lt hb) ((List.mem_singleton.mp z).trans hz)
      · cases r₂ with
        | error e => exact hr₂
        | ok fl₂ =>
          cases fl₂ with
          | next => exact hr₂.elim
          | brk => exact hr₂.elim
          | cont => exact hr₂.elim
          | ret r =>
            obtain ⟨rfl, h', tk, rfl, hF, hk⟩ := hr₂
            repeat (any_goals (first | assumption | wp_step))
            exact h _ _ hF hk
theorem setOf_keep {h h' : Heap} {a : Addr} {S : Str → Bool} {n : Nat} (R : h.SetOf (strKind P w) a S n) (k : ∀ o, h.get? a = some o → h'.get? a = some o) : h'.SetOf (strKind P w) a S n := by
  obtain ⟨o, es, ep, t, ho, r⟩ := R
  exact ⟨o, es, ep, t, k o ho, r⟩
/-- the loop over unlike texts -/
theorem loop_strs {I : Addr} {fp wr : List Addr} {G : Array GenState → Array GenState → Prop} {n : Nat} {Pv : Nat → Value → Prop} {St : Nat → Shared → Prop} {R : Result → Shared → Prop}
    (W : WalksS P w A.in1 I fp wr G n Pv St) (S : Addr) (hSf : ¬ S ∈ fp) (xs : List Str) (hn : n = xs.length) (nd : xs.Nodup) (hb : xs.length + 1 < scanBound) (hval : ∀ i v, Pv i v → ∃ k t, xs[i]? = some k ∧ v = .str k t) :
    ∀ (k i : Nat) (s : Shared), n - i = k → i ≤ n → St i s → s.heap.SetOf (strKind P w) S (fun z => decide (z ∈ xs.take i)) i →
      (∀ s', Moved (S :: wr) G s s' → s'.heap.SetOf (strKind P w) S (fun z => decide (z ∈ xs)) n → R (.ok (.ret .none)) s') → codeAny (model P w) A (.builtin "set.update.loop" ⟨[.ref S, .ref I], []⟩) R s := by
  have q1 : ¬ S ∈ wr := fun z => hSf (W.sub _ z)
  intro k
  induction k with
  | zero =>
    intro i s e0 hi hst hS hR
    obtain rfl : i = n := by omega
    refine codeAny_builtin F.entry_set_update_loop ?_
    rw [Around.under_plainId F.plain_set_update_loop _]
    refine wpAny_bind (m := pyNext (.ref I)) (W.done s _ _ hst fun s1 hm => wpAny_pure (hR s1 (hm.mono fun b z => List.mem_cons_of_mem _ z) ?_))
    rw [List.take_of_length_le (by omega)] at hS
    exact setOf_keep hS fun o e => hm.heap S o q1 e
  | succ k ih =>
    intro i s e0 hi hst hS hR
    have hlt : i < n := by omega
    refine codeAny_builtin F.entry_set_update_loop ?_
    rw [Around.under_plainId F.plain_set_update_loop _]
    refine wpAny_bind (m := pyNext (.ref I)) (W.item i s _ _ hlt hst fun v s1 hP hst1 hm => ?_)
    obtain ⟨z, t, hz, rfl⟩ := hval i v hP
    have hS1 : s1.heap.SetOf (strKind P w) S (fun z => decide (z ∈ xs.take i)) i := setOf_keep hS fun o e => hm.heap S o q1 e
    refine wpAny_bind (m := holding [Value.str z t] (setAdd S (.str z t))) (wpAny_holding ?_)
    unfold setAdd
    refine wpAny_holding ?_
    refine wpAny_bind ((strKind P w).pyHash (k := z) (strKind_is _ _ _ _) ?_)
    refine wpAny_setAddHashed_of (knd := strKind P w) (s := { s1 with toks := s1.toks + 1 }) (strKind_is _ _ _ _) rfl hS1 (by omega) fun h2 sb hS2 => ?_
    have hnz : ¬ z ∈ xs.take i := fun q => by
      obtain ⟨j, hj, ej⟩ := List.getElem_of_mem q
      rw [List.length_take] at hj
      rw [List.getElem_take] at ej
      have e1 : xs[j]? = xs[i]? := by rw [hz, ← ej]; exact List.getElem?_eq_getElem (by omega)
      have := (List.getElem?_inj (by omega) nd).mp e1
      omega
    have hS3 : h2.SetOf (strKind P w) S (fun y => decide (y ∈ xs.take (i + 1))) (i + 1) := by
      refine SetOf_congr hS2 (fun y => ?_) ?_
      · rw [List.take_add_one, hz]
        simp [List.mem_append]
      · rw [if_neg (by rw [decide_eq_false hnz]; exact Bool.false_ne_true)]
    refine wpAny_pure ⟨plainId_quiet F.plain_set_update_loop _, ih (i + 1) _ (by omega) hlt (W.frame _ s1 _ _ hst1 (Nat.le_succ _) fun b hb o e => ?_) hS3 fun s3 hm3 hS4 => hR s3 (Moved.trans W.gtrans ((hm.mono fun b z => List.mem_cons_of_mem _ z).then_heap (Nat.le_succ _) fun b o hb e => ?_) hm3) hS4⟩
    · rw [sb.2 b fun q => hSf (by rw [← q]; exact hb)]
      exact e
    · rw [sb.2 b fun q => hb (by rw [q]; exact List.mem_cons_self)]
      exact e
/-- set(xs) of unlike texts -/
theorem set_strs {l : Addr} {its : List Value} {xs : List Str} {Q : Value → Shared → Prop} (hh : A.handled = none) (hl : s.heap.IsList l its.toArray) (hv : Vals (xs.map V.str) its) (nd : xs.Nodup) (hb : xs.length ≤ 1000)
    (h : ∀ (h' : Heap) (tk : Nat), h'.SetOf (strKind P w) s.heap.objs.size (fun z => decide (z ∈ xs)) xs.length → (∀ b o, s.heap.get? b = some o → h'.get? b = some o) → Q (.ref s.heap.objs.size) { s with heap := h', toks := tk }) :
    wpAny (model P w) A (call (.type "set") [.ref l]) Q E s := by
  have hlen : its.length = xs.length := by rw [← hv.length, List.length_map]
  refine set_of_list (fun h' => h'.SetOf (strKind P w) s.heap.objs.size (fun z => decide (z ∈ xs)) xs.length) hh hl (fun A' I fp wr G St R s0 W hSf h0 hg hR => ?_) h
  refine loop_strs W _ hSf xs (by rw [List.size_toArray, hlen]) nd (by unfold scanBound; omega) (fun i v hiv => ?_) _ 0 s0 rfl (Nat.zero_le _) h0 ?_ fun s' hm hS => hR s' hm ?_
  · rw [List.getElem?_toArray] at hiv
    have hi : i < xs.length := by rw [← hlen]; exact (List.getElem?_eq_some_iff.mp hiv).1
    obtain ⟨u, hu, t, rfl⟩ := hv.get (i := i) (x := .str xs[i]) (by rw [List.getElem?_map, List.getElem?_eq_getElem hi]; rfl)
    rw [hu] at hiv
    exact ⟨xs[i], t, List.getElem?_eq_getElem hi, (Option.some.inj hiv).symm⟩
  · exact SetOf_congr ((setObjOf_fresh (knd := strKind P w) _).setOf hg (by unfold scanBound; omega)) (fun _ => rfl) rfl
  · have e : its.toArray.size = xs.length := by rw [List.size_toArray, hlen]
    rw [e] at hS
    exact hS
/-- set(xs) of ints -/
theorem set_ints {l : Addr} {its : List Value} {ns : List Int} {Q : Value → Shared → Prop} (hh : A.handled = none) (hl : s.heap.IsList l its.toArray) (hv : Vals (ns.map V.int) its) (hb : ns.length ≤ 1000)
    (h : ∀ (h' : Heap) (tk c : Nat), SetR w h' s.heap.objs.size (fun j => decide (j ∈ ns)) c → c ≤ ns.length → (∀ b o, s.heap.get? b = some o → h'.get? b = some o) → Q (.ref s.heap.objs.size) { s with heap := h', toks := tk }) :
    wpAny (model P w) A (call (.type "set") [.ref l]) Q E s := by
  have hlen : its.length = ns.length := by rw [← hv.length, List.length_map]
  refine set_of_list (fun h' => ∃ c, SetR w h' s.heap.objs.size (fun j => decide (j ∈ ns)) c ∧ c ≤ ns.length) hh hl (fun A' I fp wr G St R s0 W hSf h0 hg hR => ?_) fun h' tk ⟨c, h1, h2⟩ k => h h' tk c h1 h2 k
  refine set_update_ints W _ hSf ns (by rw [List.size_toArray, hlen]) (by unfold scanBound; omega) (fun i v hiv => ?_) _ 0 s0 rfl (Nat.zero_le _) h0 ⟨0, Nat.le_refl 0, setR_new_at hg⟩ fun s' c hm hc hS => hR s' hm ⟨c, hS, ?_⟩
  · rw [List.getElem?_toArray] at hiv
    have hi : i < ns.length := by rw [← hlen]; exact (List.getElem?_eq_some_iff.mp hiv).1
    obtain ⟨u, hu, t, rfl⟩ := hv.get (i := i) (x := .int ns[i]) (by rw [List.getElem?_map, List.getElem?_eq_getElem hi]; rfl)
    rw [hu] at hiv
    exact ⟨ns[i], t, List.getElem?_eq_getElem hi, (Option.some.inj hiv).symm⟩
  · rw [List.size_toArray, hlen] at hc
    exact hc
end
/-- len(set(xs)) of unlike texts -/
def tLenS (K : PySem.W.Frag) (ta : TE) : TE := fun σ H Q => ta σ H fun x H1 => ∃ (l : Addr) (xs : List Str), x = .ref l ∧ SqL K H1 l (xs.map V.str) ∧ xs.Nodup ∧ xs.length ≤ 100 ∧ Q (.int (xs.length : Nat)) H1
theorem pe_lenSet {X : Cx} {a : Expr} {ta : TE} {p p2 q pos : Pos} (hm : X.mg "len" = none) (hm2 : X.mg "set" = none) (ha : PE X a ta) (hg : Gl X "len" := by rfl) (hg2 : Gl X "set" := by rfl) (hc : X.calm = true := by rfl)
    (na : starEach [a] X.env = (false, eval a X.env) :: starEach [] X.env := by rfl) : PE X (.Call (.Name "len" p) [.Call (.Name "set" p2) [a] [] q] [] pos) (tLenS X.K ta) := by
  refine ⟨fun pins s σ H Q I h => ?_⟩
  refine Call_ (ld_blt I hg hm boot_len (PyProof.Rows.callWith_builtin1 (PyProof.Rows.args_cons ?_ rfl) rfl rfl))
  refine Call_ (ld_blt I hg2 hm2 boot_set (PyProof.Rows.callWith_type1 (PyProof.Rows.args_cons (thn (ha.run pins s σ H _ I h) fun v s1 ⟨x, H1, I1, r1, q1⟩ => PyProof.Rows.args_nil ?_) na) na rfl))
  obtain ⟨l, xs, rfl, hq, nd, h1, q1⟩ := q1
  cases r1
  obtain ⟨its, r, pl, hz⟩ := I1.list hq
  refine set_strs (I1.ok.hd hc) pl.isList r nd (by omega) fun h' tk hS hk => PyProof.Rows.args_nil ?_
  obtain ⟨o, es, ep, t, ho, hex, hd, _, _, _, hf, hn⟩ := hS
  have I2 : Inv X pins σ H1 { s1 with heap := h', toks := tk } := I1.kept hk
  exact call_len_set ho hex hd hf (by rw [hn]; omega) ⟨.int xs.length, H1, I2.tok _, ⟨_, by rw [hn]⟩, q1⟩
/-- sorted(set(xs)) of a few ints -/
def tSortSet (K : PySem.W.Frag) (ta : TE) : TE := fun σ H Q => ta σ H fun x H1 => ∃ (l : Addr) (ns : List Int), x = .ref l ∧ SqL K H1 l (ns.map V.int) ∧ ns.length < 64 ∧ ∀ (zs : List Int) p, zs.Pairwise (· < ·) → (∀ k, k ∈ zs ↔ k ∈ ns) → zs.length ≤ ns.length → H1 p = none → Q (.ref p) (upd H1 p (.lst (zs.map V.int)))
theorem pe_sortedSet3 {X : Cx} {a : Expr} {ta : TE} {p p2 q pos : Pos} (hm : X.mg "sorted" = none) (hm2 : X.mg "set" = none) (ha : PE X a ta) (hg : Gl X "sorted" := by rfl) (hg2 : Gl X "set" := by rfl) (hc : X.calm = true := by rfl)
    (na : starEach [a] X.env = (false, eval a X.env) :: starEach [] X.env := by rfl) : PE X (.Call (.Name "sorted" p) [.Call (.Name "set" p2) [a] [] q] [] pos) (tSortSet X.K ta) := by
  refine ⟨fun pins s σ H Q I h => ?_⟩
  refine Call_ (ld_blt I hg hm b_sorted (PyProof.Rows.callWith_builtin1 (PyProof.Rows.args_cons ?_ rfl) rfl rfl))
  refine Call_ (ld_blt I hg2 hm2 boot_set (PyProof.Rows.callWith_type1 (PyProof.Rows.args_cons (thn (ha.run pins s σ H _ I h) fun v s1 ⟨x, H1, I1, r1, q1⟩ => PyProof.Rows.args_nil ?_) na) na rfl))
  obtain ⟨l, ns, rfl, hq, h1, q1⟩ := q1
  cases r1
  obtain ⟨its, r, pl, hz⟩ := I1.list hq
  refine set_ints (I1.ok.hd hc) pl.isList r (by omega) fun h' tk c hS hcl hk => PyProof.Rows.args_nil ?_
  have I2 : Inv X pins σ H1 { s1 with heap := h', toks := tk } := I1.kept hk
  have hS : SetR X.w ({ s1 with heap := h', toks := tk } : Shared).heap s1.heap.objs.size (fun j => decide (j ∈ ns)) c := hS
  clear hk
  show wpAny _ _ _ _ _ ({ s1 with heap := h', toks := tk } : Shared)
  generalize ({ s1 with heap := h', toks := tk } : Shared) = s2 at I2 hS ⊢
  refine sorted_set hS (I2.ok.hd hc) (by omega) fun s' p out cc zs k g o hp hg' hi hs hm' hl' => ?_
  have hn : H1 p = none := I2.hok.fresh hp
  have J : Inv X pins σ (upd H1 p (.lst (zs.map V.int))) { s2 with heap := s'.heap, gens := s'.gens, drawn := s'.drawn, toks := s'.toks } :=
    I2.call (ch := []) (Un.laid k hp hn) (I2.hok.laid k hp ⟨by rw [List.length_map, hl', sizeLine_eq]; omega, out.toList, cc, vals_of_ints hi, hg'⟩) (by rw [g]; exact I2.bare) (fun _ z => nomatch z)
  have e : s' = { s2 with heap := s'.heap, gens := s'.gens, drawn := s'.drawn, toks := s'.toks } := by
    cases s'
    cases s2
    cases o
    rfl
  rw [e]
  exact ⟨.ref p, _, J, rfl, q1 zs p hs (fun k => by rw [hm' k]; exact decide_eq_true_iff) (by omega) hn⟩
end RP
set_option Elab.async false
set_option linter.all false
set_option maxRecDepth 100000
set_option maxHeartbeats 4000000
/-! rootpledge k80: the field -/
namespace RP
open PySem PySem.Spec PyProof.Rows L2
/-! ### lists of what is told by R -/
section
variable {α β : Type} {R : Hp → V → α → Prop} {H H' : Hp} {a : Addr} {vs : List V} {xs : List α}
def Fits (R : Hp → V → α → Prop) (H : Hp) (vs : List V) (xs : List α) : Prop := vs.length = xs.length ∧ ∀ (i : Nat) v x, vs[i]? = some v → xs[i]? = some x → R H v x
def LAt (R : Hp → V → α → Prop) (H : Hp) (a : Addr) (xs : List α) : Prop := ∃ vs, H a = some (.lst vs) ∧ Fits R H vs xs
/-- R leans on what stands alone -/
def Mo (R : Hp → V → α → Prop) : Prop := ∀ H H' v x, Same H H' → R H v x → R H' v x
theorem Fits.same (f : Fits R H vs xs) (m : Mo R) (e : Same H H') : Fits R H' vs xs := ⟨f.1, fun i v x h1 h2 => m _ _ _ _ e (f.2 i v x h1 h2)⟩
theorem LAt.same (l : LAt R H a xs) (m : Mo R) (e : Same H H') : LAt R H' a xs := by
  obtain ⟨vs, h, f⟩ := l
  exact ⟨vs, e _ _ h, f.same m e⟩
theorem Fits.nil : Fits R H [] [] := ⟨rfl, fun i v x h _ => by simp at h⟩
theorem Fits.snoc {v : V} {x : α} (f : Fits R H vs xs) (r : R H v x) : Fits R H (vs ++ [v]) (xs ++ [x]) := by
  refine ⟨by rw [List.length_append, List.length_append, f.1]; rfl, fun i u y h1 h2 => ?_⟩
  by_cases hi : i < vs.length
  · rw [List.getElem?_append_left hi] at h1
    rw [List.getElem?_append_left (by rw [← f.1]; exact hi)] at h2
    exact f.2 i u y h1 h2
  · rw [List.getElem?_append_right (by omega)] at h1
    rw [List.getElem?_append_right (by rw [← f.1]; omega), ← f.1] at h2
    cases hk : i - vs.length with
    | zero =>
      rw [hk] at h1 h2
      simp at h1 h2
      rw [← h1, ← h2]
      exact r
    | succ k =>
      rw [hk] at h1
      simp at h1
theorem Fits.get {i : Nat} {x : α} (f : Fits R H vs xs) (h : xs[i]? = some x) : ∃ v, vs[i]? = some v ∧ R H v x := by
  have hi : i < xs.length := (List.getElem?_eq_some_iff.mp h).1
  have hv : vs[i]? = some (vs[i]'(by rw [f.1]; exact hi)) := List.getElem?_eq_getElem _
  exact ⟨_, hv, f.2 i _ _ hv h⟩
theorem Fits.get2 {i : Nat} {v : V} (f : Fits R H vs xs) (h : vs[i]? = some v) : ∃ x, xs[i]? = some x ∧ R H v x := by
  have hi : i < vs.length := (List.getElem?_eq_some_iff.mp h).1
  have hx : xs[i]? = some (xs[i]'(by rw [← f.1]; exact hi)) := List.getElem?_eq_getElem _
  exact ⟨_, hx, f.2 i _ _ h hx⟩
theorem Fits.imp {R' : Hp → V → α → Prop} (f : Fits R H vs xs) (h : ∀ v x, x ∈ xs → R H v x → R' H' v x) : Fits R' H' vs xs :=
  ⟨f.1, fun i v x h1 h2 => h v x (List.mem_of_getElem? h2) (f.2 i v x h1 h2)⟩
theorem Fits.all2 (f : Fits R H vs xs) {v : V} (h : v ∈ vs) : ∃ x, x ∈ xs ∧ R H v x := by
  obtain ⟨i, hi, e⟩ := List.getElem_of_mem h
  obtain ⟨x, h1, h2⟩ := f.get2 (i := i) (v := v) (by rw [List.getElem?_eq_getElem hi, e])
  exact ⟨x, List.mem_of_getElem? h1, h2⟩
/-- texts -/
def RStr : Hp → V → Str → Prop := fun _ v x => v = .str x
theorem mo_str : Mo RStr := fun _ _ _ _ _ h => h
theorem fits_str : ∀ {xs : List Str} {vs : List V} {H : Hp}, Fits RStr H vs xs → vs = xs.map V.str
  | xs, vs, H, f => by
    apply List.ext_getElem?
    intro i
    rw [List.getElem?_map]
    cases h : xs[i]? with
    | none =>
      have : xs.length ≤ i := List.getElem?_eq_none_iff.mp h
      exact List.getElem?_eq_none_iff.mpr (by rw [f.1]; exact this)
    | some x =>
      obtain ⟨v, hv, e⟩ := f.get h
      rw [hv, e]
      rfl
theorem str_fits {xs : List Str} {H : Hp} : Fits RStr H (xs.map V.str) xs := ⟨List.length_map _, fun i v x h1 h2 => by
  rw [List.getElem?_map, h2] at h1
  exact (Option.some.inj h1).symm⟩
end
/-! ### what stands where -/
def BreedAt (K : PySem.W.Frag) (H : Hp) (v : V) (x : Str) : Prop := ∃ p dx g, v = .ref p ∧ H p = some (.ins (cBreed K) dx [("name", .str x), ("grades", .ref g)])
theorem mo_breed {K : PySem.W.Frag} : Mo (BreedAt K) := fun H H' v x e h => by
  obtain ⟨p, dx, g, rfl, h⟩ := h
  exact ⟨p, dx, g, rfl, e _ _ h⟩
def BedAt (K : PySem.W.Frag) (H : Hp) (v : V) (b : BedR) : Prop := ∃ p dx, v = .ref p ∧ H p = some (.ins (cBed K) dx (bedFs b))
theorem mo_bed {K : PySem.W.Frag} : Mo (BedAt K) := fun H H' v x e h => by
  obtain ⟨p, dx, rfl, h⟩ := h
  exact ⟨p, dx, rfl, e _ _ h⟩
/-- the beds of a law's field -/
structure BedsOk (bs : List BedR) : Prop where
  ok : ∀ b ∈ bs, BedOk b
  n1 : 1 ≤ bs.length
  n6 : bs.length ≤ 6
  nd : (bs.map (·.name)).Nodup
/-- the dict of the beds by name -/
def DugAt (K : PySem.W.Frag) (H : Hp) (d : Addr) (bs : List BedR) : Prop := ∃ kvs, H d = some (.dK kvs) ∧ kvs.map (·.1) = bs.map (fun b => Sum.inr b.name) ∧ ∀ b ∈ bs, ∃ v, valV kvs (Sum.inr b.name) = some v ∧ BedAt K H v b
theorem DugAt.same {K : PySem.W.Frag} {H H' : Hp} {d : Addr} {bs : List BedR} (h : DugAt K H d bs) (e : Same H H') : DugAt K H' d bs := by
  obtain ⟨kvs, h1, h2, h3⟩ := h
  refine ⟨kvs, e _ _ h1, h2, fun b hb => ?_⟩
  obtain ⟨v, h4, h5⟩ := h3 b hb
  exact ⟨v, h4, mo_bed _ _ _ _ e h5⟩
structure FieldAt (K : PySem.W.Frag) (H : Hp) (f : Addr) (bs : List BedR) : Prop where
  ex : ∃ dx g d, H f = some (.ins (cField K) dx [("grown", .ref g), ("dug", .ref d)]) ∧ DugAt K H d bs
  ok : BedsOk bs
theorem FieldAt.same {K : PySem.W.Frag} {H H' : Hp} {f : Addr} {bs : List BedR} (h : FieldAt K H f bs) (e : Same H H') : FieldAt K H' f bs := by
  obtain ⟨dx, g, d, h1, h2⟩ := h.ex
  exact ⟨⟨dx, g, d, e _ _ h1, h2.same e⟩, h.ok⟩
/-! ### dict(pairs) of unlike keys -/
theorem merge_nodup : ∀ {more acc : List (Key × V)}, ((acc ++ more).map (·.1)).Nodup → mergeK acc more = acc ++ more
  | [], acc, _ => by rw [List.append_nil]; rfl
  | p :: r, acc, h => by
    have hn : valV acc p.1 = none := by
      cases q : valV acc p.1 with
      | none => rfl
      | some v =>
        have hm := valV_in q
        rw [List.map_append, List.map_cons] at h
        have := (List.nodup_append.mp h).2.2
        exact absurd rfl (this p.1 hm p.1 List.mem_cons_self)
    show mergeK (putK acc p.1 p.2) r = _
    rw [putK_new _ hn]
    have e : acc ++ [(p.1, p.2)] ++ r = acc ++ p :: r := by simp
    rw [merge_nodup (by rw [e]; exact h), e]
theorem val_at : ∀ {kvs : List (Key × V)} {i : Nat} {k : Key} {v : V}, (kvs.map (·.1)).Nodup → kvs[i]? = some (k, v) → valV kvs k = some v
  | [], i, k, v, _, h => by simp at h
  | p :: r, 0, k, v, _, h => by
    simp at h
    rw [h, valV_pos rfl]
  | p :: r, i + 1, k, v, hn, h => by
    simp at h
    have hn2 : ¬ p.1 ∈ r.map (·.1) ∧ (r.map (·.1)).Nodup := List.nodup_cons.mp hn
    have hm : k ∈ r.map (·.1) := List.mem_map.mpr ⟨_, List.mem_of_getElem? h, rfl⟩
    rw [valV_neg fun e => hn2.1 (by rw [e]; exact hm)]
    exact val_at hn2.2 h
/-- a list of tuples of a name and what is told by R -/
def RPair {α : Type} (nm : α → Str) (R : Hp → V → α → Prop) : Hp → V → α → Prop := fun H v x => ∃ t u, v = .ref t ∧ H t = some (.tup [.str (nm x), u]) ∧ R H u x
theorem mo_pair {α : Type} {nm : α → Str} {R : Hp → V → α → Prop} (m : Mo R) : Mo (RPair nm R) := fun H H' v x e h => by
  obtain ⟨t, u, rfl, h1, h2⟩ := h
  exact ⟨t, u, rfl, e _ _ h1, m _ _ _ _ e h2⟩
/-- what call_dictP asks of such a list -/
theorem pairs_of {α : Type} {nm : α → Str} {R : Hp → V → α → Prop} {K : PySem.W.Frag} {H : Hp} : ∀ {xs : List α} {vs : List V}, Fits (RPair nm R) H vs xs →
    ∃ (ps : List Addr) (kvs : List (Key × V)), vs = ps.map V.ref ∧ Paired (fun p kv => SqT K H p [kV kv.1, kv.2]) ps kvs ∧ kvs.map (·.1) = xs.map (fun x => Sum.inr (nm x)) ∧ ∀ (i : Nat) x, xs[i]? = some x → ∃ k u, kvs[i]? = some (k, u) ∧ k = Sum.inr (nm x) ∧ R H u x
  | [], [], _ => ⟨[], [], rfl, .nil, rfl, fun i x h => by simp at h⟩
  | [], v :: vs, f => by
    have := f.1
    simp at this
  | x :: xs, [], f => by
    have := f.1
    simp at this
  | x :: xs, v :: vs, f => by
    obtain ⟨t, u, rfl, h1, h2⟩ := f.2 0 v x rfl rfl
    obtain ⟨ps, kvs, e1, e2, e3, e4⟩ := pairs_of (xs := xs) (vs := vs) (K := K) ⟨by have := f.1; simpa using this, fun i a b h1 h2 => f.2 (i + 1) a b (by simpa using h1) (by simpa using h2)⟩
    refine ⟨t :: ps, (Sum.inr (nm x), u) :: kvs, by rw [e1]; rfl, .cons (SqT.of h1) e2, by rw [List.map_cons, e3]; rfl, fun i y h => ?_⟩
    cases i with
    | zero =>
      simp at h
      subst h
      exact ⟨_, u, rfl, rfl, h2⟩
    | succ i =>
      simp at h
      obtain ⟨k, w, g1, g2, g3⟩ := e4 i y h
      exact ⟨k, w, by simpa using g1, g2, g3⟩
def sp_are_unlike : Sp := spA 1 fun vs H Q => ∃ (a : Addr) (xs : List Str), vs = [.ref a] ∧ H a = some (.lst (xs.map V.str)) ∧ xs.Nodup ∧ xs.length ≤ 100 ∧ Q (.bl true) H
def sp_are_breeds (K : PySem.W.Frag) : Sp := spA 1 fun vs H Q => ∃ (a : Addr) (ns : List Str), vs = [.ref a] ∧ LAt (BreedAt K) H a ns ∧ ns.Nodup ∧ 1 ≤ ns.length ∧ ns.length ≤ 6 ∧ ∀ H', Same H H' → Q (.bl true) H'
def sp_are_beds (K : PySem.W.Frag) : Sp := spA 1 fun vs H Q => ∃ (a : Addr) (bs : List BedR), vs = [.ref a] ∧ LAt (BedAt K) H a bs ∧ BedsOk bs ∧ ∀ H', Same H H' → Q (.bl true) H'
def sp_Field_init (K : PySem.W.Frag) : Sp := spA 3 fun vs H Q => ∃ (p dx a b : Addr) (ns : List Str) (bs : List BedR), vs = [.ref p, .ref a, .ref b] ∧ LAt (BreedAt K) H a ns ∧ ns.Nodup ∧ 1 ≤ ns.length ∧ ns.length ≤ 6 ∧ LAt (BedAt K) H b bs ∧ BedsOk bs ∧
  (∀ x ∈ bs, x.breed ∈ ns) ∧ H p = some (.ins (cField K) dx []) ∧ ∀ H', (∀ c o, c ≠ p → H c = some o → H' c = some o) → FieldAt K H' p bs → Q .non H'
def sp_Field_bed_of (K : PySem.W.Frag) : Sp := spA 2 fun vs H Q => ∃ (f : Addr) (bs : List BedR) (b : BedR) (G : Hp), vs = [.ref f, .str b.name] ∧ Same G H ∧ FieldAt K G f bs ∧ b ∈ bs ∧ ∀ v H', Same H H' → BedAt K G v b → Q v H'
def sp_Field_bed_names (K : PySem.W.Frag) : Sp := spA 1 fun vs H Q => ∃ (f : Addr) (bs : List BedR), vs = [.ref f] ∧ FieldAt K H f bs ∧ ∀ (ys : List Str) p, ys.Perm (bs.map (·.name)) → H p = none → Q (.ref p) (upd H p (.lst (ys.map V.str)))
section
variable {P : Program} {w : World} {K : PySem.W.Frag} {mg : Str → Option Value} {base : Heap}
theorem ok_are_unlike (T : Txt K mg) : Fx P w K mg base "are_unlike" 1 [] sp_are_unlike := by
  obtain ⟨fd, F⟩ := T.d_are_unlike
  refine ⟨_, fd, _, [], T.g_are_unlike, F.kp, fn_body F sc_are_unlike rfl (fun cdv A outer s H vs Q E hr h => ?_), F.bindsN (fun _ _ _ _ _ _ us hl => match us, hl with | [_], _ => rfl), .nil⟩
  have nd := sc_are_unlike.nd
  have hu := hu_of hr
  obtain ⟨a, xs, rfl, ha, hn, hl, k⟩ := h
  refine ⟨_, (pss_one (ps_ret (pe_cmpR op_eq (pe_lenSet T.n_len T.n_set (pv 0)) (pe_callB call_len_seq (by rfl) T.n_len b_len (pa_cons (pv 0) pa_nil)) (nomark _)))), ?_⟩
  refine ⟨_, rfl, a, xs, rfl, SqL.of ha, hn, hl, _, rfl, a, _, rfl, .inl (SqL.of ha), rfl, ?_⟩
  rw [List.length_map, decide_eq_true rfl]
  exact k
theorem ok_are_breeds (T : Txt K mg) : Fx P w K mg base "are_breeds" 2 [] (sp_are_breeds K) := by
  obtain ⟨fd, F⟩ := T.d_are_breeds
  refine ⟨_, fd, _, [], T.g_are_breeds, F.kp, fn_body F sc_are_breeds rfl (fun cdv A outer s H vs Q E hr h => ?_), F.bindsN (fun _ _ _ _ _ _ us hl => match us, hl with | [_], _ => rfl), .nil⟩
  have nd := sc_are_breeds.nd
  have hu := hu_of hr
  obtain ⟨a, ns, rfl, ⟨vs, ha, f⟩, hn, hl1, hl6, k⟩ := h
  refine ⟨_, (pss_cons (ps_if (PW.pt (pw_or (pt_not (pt_val (pe_callB call_is (by rfl) T.n_isinstance b_isinstance (pa_cons (pv 0) (pa_cons (pe_bltn (v := .ty "list") (by rfl) T.n_list b_list rfl) pa_nil))))) (pw_or1 (pt_not (pt_chain op_le op_le pe_int (pe_callB call_len_seq (by rfl) T.n_len b_len (pa_cons (pv 0) pa_nil)) (C8.pe_gc rfl T.c_MOST_BEDS)))))) (pss_one (ps_ret pe_bl)) pss_nil)
      (pss_one (ps_ret (pe_and (pe_callB (cr_all rfl) (by rfl) T.n_all b_all (pa_cons (pe_lc (own := [("one", 1)])  rfl nd (pi_list (pv 0)) (blkOk_by (own := [("one", 1)]) (N := ["thing", "one"]) (sc := defScope s_are_breeds) (by decide +kernel)) (fun _ _ _ _ _ => (pg_name (i := 1) nd rfl (.inl rfl))) (fun _ _ _ _ _ => pts_nil) (fun _ _ _ _ _ => (pe_callB (call_isK (K := K) rfl) (by rfl) T.n_isinstance b_isinstance (pa_cons (pv 1) (pa_cons (pe_glob (v := .ref (He.ga K "Breed")) rfl T.g_Breed rfl) pa_nil))))) pa_nil)) (pe_one (pe_f (ok_are_unlike T) (hr.mono (by decide)) (pa_cons (pe_lc (own := [("one", 1)])  rfl nd (pi_list (pv 0)) (blkOk_by (own := [("one", 1)]) (N := ["thing", "one"]) (sc := defScope s_are_breeds) (by decide +kernel)) (fun _ _ _ _ _ => (pg_name (i := 1) nd rfl (.inl rfl))) (fun _ _ _ _ _ => pts_nil) (fun _ _ _ _ _ => (pe_fldK (K := K) rfl (pv 1) rfl))) pa_nil))))))), ?_⟩
  have h1 : decide ((1 : Int) ≤ (vs.length : Int)) = true := decide_eq_true (by rw [f.1]; omega)
  have h2 : decide ((vs.length : Int) ≤ 6) = true := decide_eq_true (by rw [f.1]; omega)
  have hv : vs.length ≤ 6 := by rw [f.1]; exact hl6
  refine ⟨_, rfl, _, _, _, rfl, is_lst ha, true, rfl, ?_⟩
  refine ⟨_, rfl, a, vs, rfl, .inl (SqL.of ha), _, _, rfl, rfl, _, rfl, ?_⟩
  rw [h1]
  refine ⟨_, _, rfl, rfl, _, rfl, ?_⟩
  rw [h2]
  refine ⟨_, rfl, a, rfl, ⟨vs, SqL.of ha⟩, fun D hD => ?_⟩
  refine lc_pure (walk_list (xs := vs)) hD (fun i acc => acc = (List.replicate i true).map V.bl) rfl (by omega) (fun H1 e => e.seq (SqL.of ha)) ?_ ?_
  · rintro i v acc H1 H2 hi e rfl ⟨rfl, hv⟩ Q1 Q0 q1 q0
    obtain ⟨x, hx, p, dx, g, rfl, hp⟩ := f.get2 hv
    refine ⟨rfl, _, rfl, _, _, _, rfl, is_Breed T (e _ _ hp), q1 _ _ (Same.refl _) ?_⟩
    rw [List.replicate_succ', List.map_append]
    all_goals rfl
  · rintro acc H1 e hD1 _ rfl
    refine ⟨_, _, rfl, SqL.of hD1, ?_⟩
    rw [all_rep]
    refine ⟨true, rfl, _, rfl, a, rfl, ⟨vs, SqL.of (e _ _ ha)⟩, fun D2 hD2 => ?_⟩
    refine lc_pure (walk_list (xs := vs)) hD2 (fun i acc => acc = (ns.take i).map V.str) rfl (by omega) (fun H1 e2 => (e.trans e2).seq (SqL.of ha)) ?_ ?_
    · rintro i v acc H3 H4 hi e3 rfl ⟨rfl, hv⟩ Q1 Q0 q1 q0
      obtain ⟨x, hx, p, dx, g, rfl, hp⟩ := f.get2 hv
      refine ⟨rfl, _, rfl, p, _, dx, _, _, rfl, e3 _ _ (e _ _ hp), T.cl_Breed, T.na_Breed_name, rfl, q1 _ _ (Same.refl _) ?_⟩
      rw [List.take_succ, hx, List.map_append]
      all_goals rfl
    · rintro acc H3 e3 hD3 _ rfl
      rw [f.1, List.take_length] at hD3
      exact ⟨rfl, D2, ns, rfl, hD3, hn, by omega, k _ (e.trans e3)⟩
theorem ok_are_beds (T : Txt K mg) : Fx P w K mg base "are_beds" 2 [] (sp_are_beds K) := by
  obtain ⟨fd, F⟩ := T.d_are_beds
  refine ⟨_, fd, _, [], T.g_are_beds, F.kp, fn_body F sc_are_beds rfl (fun cdv A outer s H vs Q E hr h => ?_), F.bindsN (fun _ _ _ _ _ _ us hl => match us, hl with | [_], _ => rfl), .nil⟩
  have nd := sc_are_beds.nd
  have hu := hu_of hr
  obtain ⟨a, bs, rfl, ⟨vs, ha, f⟩, B, k⟩ := h
  refine ⟨_, (pss_cons (ps_if (PW.pt (pw_or (pt_not (pt_val (pe_callB call_is (by rfl) T.n_isinstance b_isinstance (pa_cons (pv 0) (pa_cons (pe_bltn (v := .ty "list") (by rfl) T.n_list b_list rfl) pa_nil))))) (pw_or1 (pt_not (pt_chain op_le op_le pe_int (pe_callB call_len_seq (by rfl) T.n_len b_len (pa_cons (pv 0) pa_nil)) (C8.pe_gc rfl T.c_MOST_BEDS)))))) (pss_one (ps_ret pe_bl)) pss_nil)
      (pss_one (ps_ret (pe_and (pe_callB (cr_all rfl) (by rfl) T.n_all b_all (pa_cons (pe_lc (own := [("one", 1)])  rfl nd (pi_list (pv 0)) (blkOk_by (own := [("one", 1)]) (N := ["thing", "one"]) (sc := defScope s_are_beds) (by decide +kernel)) (fun _ _ _ _ _ => (pg_name (i := 1) nd rfl (.inl rfl))) (fun _ _ _ _ _ => pts_nil) (fun _ _ _ _ _ => (pe_callB (call_isK (K := K) rfl) (by rfl) T.n_isinstance b_isinstance (pa_cons (pv 1) (pa_cons (pe_glob (v := .ref (He.ga K "Bed")) rfl T.g_Bed rfl) pa_nil))))) pa_nil)) (pe_one (pe_f (ok_are_unlike T) (hr.mono (by decide)) (pa_cons (pe_lc (own := [("one", 1)])  rfl nd (pi_list (pv 0)) (blkOk_by (own := [("one", 1)]) (N := ["thing", "one"]) (sc := defScope s_are_beds) (by decide +kernel)) (fun _ _ _ _ _ => (pg_name (i := 1) nd rfl (.inl rfl))) (fun _ _ _ _ _ => pts_nil) (fun _ _ _ _ _ => (pe_fldK (K := K) rfl (pv 1) rfl))) pa_nil))))))), ?_⟩
  have hl1 := B.n1
  have hl6 := B.n6
  have h1 : decide ((1 : Int) ≤ (vs.length : Int)) = true := decide_eq_true (by rw [f.1]; omega)
  have h2 : decide ((vs.length : Int) ≤ 6) = true := decide_eq_true (by rw [f.1]; omega)
  have hv : vs.length ≤ 6 := by rw [f.1]; exact hl6
  refine ⟨_, rfl, _, _, _, rfl, is_lst ha, true, rfl, ?_⟩
  refine ⟨_, rfl, a, vs, rfl, .inl (SqL.of ha), _, _, rfl, rfl, _, rfl, ?_⟩
  rw [h1]
  refine ⟨_, _, rfl, rfl, _, rfl, ?_⟩
  rw [h2]
  refine ⟨_, rfl, a, rfl, ⟨vs, SqL.of ha⟩, fun D hD => ?_⟩
  refine lc_pure (walk_list (xs := vs)) hD (fun i acc => acc = (List.replicate i true).map V.bl) rfl (by omega) (fun H1 e => e.seq (SqL.of ha)) ?_ ?_
  · rintro i v acc H1 H2 hi e rfl ⟨rfl, hv⟩ Q1 Q0 q1 q0
    obtain ⟨x, hx, p, dx, rfl, hp⟩ := f.get2 hv
    refine ⟨rfl, _, rfl, _, _, _, rfl, is_Bed T (e _ _ hp), q1 _ _ (Same.refl _) ?_⟩
    rw [List.replicate_succ', List.map_append]
    all_goals rfl
  · rintro acc H1 e hD1 _ rfl
    refine ⟨_, _, rfl, SqL.of hD1, ?_⟩
    rw [all_rep]
    refine ⟨true, rfl, _, rfl, a, rfl, ⟨vs, SqL.of (e _ _ ha)⟩, fun D2 hD2 => ?_⟩
    refine lc_pure (walk_list (xs := vs)) hD2 (fun i acc => acc = ((bs.map (·.name)).take i).map V.str) rfl (by omega) (fun H1 e2 => (e.trans e2).seq (SqL.of ha)) ?_ ?_
    · rintro i v acc H3 H4 hi e3 rfl ⟨rfl, hv⟩ Q1 Q0 q1 q0
      obtain ⟨x, hx, p, dx, rfl, hp⟩ := f.get2 hv
      refine ⟨rfl, _, rfl, p, _, dx, _, _, rfl, e3 _ _ (e _ _ hp), T.cl_Bed, T.na_Bed_name, rfl, q1 _ _ (Same.refl _) ?_⟩
      rw [List.take_succ, List.getElem?_map, hx, List.map_append]
      all_goals rfl
    · rintro acc H3 e3 hD3 _ rfl
      have e4 : (bs.map (·.name)).take vs.length = bs.map (·.name) := by
        rw [f.1]
        exact List.take_of_length_le (by rw [List.length_map]; exact Nat.le_refl _)
      rw [e4] at hD3
      exact ⟨rfl, D2, _, rfl, hD3, B.nd, by rw [List.length_map]; omega, k _ (e.trans e3)⟩
theorem ok_Field_bed_of (T : Txt K mg) : Mx P w K mg base (He.ga K "Field") "bed_of" 2 (sp_Field_bed_of K) := by
  obtain ⟨fd, F⟩ := T.d_Field_bed_of
  refine ⟨T.cl_Field, _, fd, _, T.me_Field_bed_of, fn_body F sc_Field_bed_of rfl (fun cdv A outer s H vs Q E hr h => ?_), F.bindsN (fun _ _ _ _ _ _ us hl => match us, hl with | [_, _], _ => rfl)⟩
  have nd := sc_Field_bed_of.nd
  have hu := hu_of hr
  obtain ⟨f, bs, b, G, rfl, eG, ⟨⟨dx, g, d, hfG, hdG⟩, B⟩, hb, k⟩ := h
  refine ⟨_, (pss_cons (ps_if (PW.pt (pw_or (pt_not (pt_val (pe_f (ok_is_name T) (hr.mono (by decide)) (pa_cons (pv 1) pa_nil)))) (pw_or1 (pt_cmp (pc_dnotin hu (pv 1) (pe_fld (pv 0) rfl)))))) (pss_one ps_never) pss_nil)
      (pss_one (ps_ret (pe_dget hu (pe_fld (pv 0) rfl) (pv 1) (fun _ _ => rfl))))), ?_⟩
  have hf := eG _ _ hfG
  refine ⟨_, rfl, rfl, b.name, rfl, (B.ok b hb).n1, fun H1 e1 => ⟨true, rfl, ?_⟩⟩
  obtain ⟨kvs, h1G, h2, h3⟩ := hdG
  have h1 := e1 _ _ (eG _ _ h1G)
  obtain ⟨v, h4, h5⟩ := h3 b hb
  refine ⟨_, rfl, _, rfl, f, _, dx, _, _, rfl, e1 _ _ hf, T.cl_Field, T.na_Field_dug, rfl, d, _, rfl, DGet.k (k := Sum.inr b.name) h1, _, rfl, ?_⟩
  rw [h4]
  exact ⟨_, rfl, f, _, dx, _, _, rfl, e1 _ _ hf, T.cl_Field, T.na_Field_dug, rfl, _, rfl, d, v, rfl, (by have q := DGet.k (k := Sum.inr b.name) h1; rw [h4] at q; exact q), k v H1 e1 h5⟩
theorem ok_Field_bed_names (T : Txt K mg) : Mx P w K mg base (He.ga K "Field") "bed_names" 1 (sp_Field_bed_names K) := by
  obtain ⟨fd, F⟩ := T.d_Field_bed_names
  refine ⟨T.cl_Field, _, fd, _, T.me_Field_bed_names, fn_body F sc_Field_bed_names rfl (fun cdv A outer s H vs Q E hr h => ?_), F.bindsN (fun _ _ _ _ _ _ us hl => match us, hl with | [_], _ => rfl)⟩
  have nd := sc_Field_bed_names.nd
  have hu := hu_of hr
  obtain ⟨f, bs, rfl, ⟨⟨dx, g, d, hf, hd⟩, B⟩, k⟩ := h
  refine ⟨_, (pss_one (ps_ret (pe_callB (call_sortedD rfl) (by rfl) T.n_sorted b_sorted (pa_cons (pe_fld (pv 0) rfl) pa_nil)))), ?_⟩
  obtain ⟨kvs, h1, h2, h3⟩ := hd
  have hk : bs.map (fun b => (Sum.inr b.name : Key)) = (bs.map (·.name)).map Sum.inr := by rw [List.map_map]; rfl
  exact ⟨_, rfl, f, _, dx, _, _, rfl, hf, T.cl_Field, T.na_Field_dug, rfl, d, kvs, bs.map (·.name), rfl, .inl h1, h2.trans hk, by rw [List.length_map]; have := B.n6; omega, fun ys p hp _ hq => k ys p hp hq⟩
theorem ok_Field_init (T : Txt K mg) : Nx P w K mg base (He.ga K "Field") "Field" 3 [] (sp_Field_init K) := by
  obtain ⟨fd, F⟩ := T.d_Field_init
  refine ⟨_, fd, _, [], T.g_Field, T.mk_Field, fn_body F sc_Field_init rfl (fun cdv A outer s H vs Q E hr h => ?_), F.bindsN (fun _ _ _ _ _ _ us hl => match us, hl with | [_, _, _], _ => rfl), .nil⟩
  have nd := sc_Field_init.nd
  have hu := hu_of hr
  obtain ⟨p, dx, a, b, ns, bs, rfl, LA, hn, hn1, hn6, LB, B, hbr, hp, k⟩ := h
  refine ⟨_, (pss_cons (ps_if (PW.pt (pw_or (pt_not (pt_val (pe_f (ok_are_breeds T) (hr.mono (by decide)) (pa_cons (pv 1) pa_nil)))) (pw_or1 (pt_not (pt_val (pe_f (ok_are_beds T) (hr.mono (by decide)) (pa_cons (pv 2) pa_nil))))))) (pss_one ps_never) pss_nil)
      (pss_cons (ps_fld (pv 0) (pe_callTy (call_dictP rfl) (by rfl) T.n_dict b_dict (pa_cons (pe_lc (own := [("one", 3)])  rfl nd (pi_list (pv 1)) (blkOk_by (own := [("one", 3)]) (N := ["self", "breeds", "beds", "one"]) (sc := defScope s_Field_init) (by decide +kernel)) (fun _ _ _ _ _ => (pg_name (i := 3) nd rfl (.inl rfl))) (fun _ _ _ _ _ => pts_nil) (fun _ _ _ _ _ => (pe_tup (pa_cons (pe_fldK (K := K) rfl (pv 3) rfl) (pa_cons (pv 3) pa_nil))))) pa_nil)) rfl)
      (pss_cons (ps_if (pt_not (pt_val (pe_callB (cr_all rfl) (by rfl) T.n_all b_all (pa_cons (pe_lc (own := [("one", 3)])  rfl nd (pi_list (pv 2)) (blkOk_by (own := [("one", 3)]) (N := ["self", "breeds", "beds", "one"]) (sc := defScope s_Field_init) (by decide +kernel)) (fun _ _ _ _ _ => (pg_name (i := 3) nd rfl (.inl rfl))) (fun _ _ _ _ _ => pts_nil) (fun _ _ _ _ _ => (pe_cmp (pc_din hu (pe_fldK (K := K) rfl (pv 3) rfl) (pe_fldK (K := K) rfl (pv 0) rfl))))) pa_nil)))) (pss_one ps_never) pss_nil)
      (pss_one (ps_fld (pv 0) (pe_callTy (call_dictP rfl) (by rfl) T.n_dict b_dict (pa_cons (pe_lc (own := [("one", 3)])  rfl nd (pi_list (pv 2)) (blkOk_by (own := [("one", 3)]) (N := ["self", "breeds", "beds", "one"]) (sc := defScope s_Field_init) (by decide +kernel)) (fun _ _ _ _ _ => (pg_name (i := 3) nd rfl (.inl rfl))) (fun _ _ _ _ _ => pts_nil) (fun _ _ _ _ _ => (pe_tup (pa_cons (pe_fldK (K := K) rfl (pv 3) rfl) (pa_cons (pv 3) pa_nil))))) pa_nil)) rfl))))), ?_⟩
  refine ⟨_, rfl, rfl, a, ns, rfl, LA, hn, hn1, hn6, fun H1 e1 => ⟨true, rfl, ?_⟩⟩
  refine ⟨_, rfl, rfl, b, bs, rfl, LB.same mo_bed e1, B, fun H2 e2 => ⟨true, rfl, ?_⟩⟩
  have e12 := e1.trans e2
  obtain ⟨va, ha, fa⟩ := LA.same mo_breed e12
  -- self.grown = dict([..])
  refine ⟨_, rfl, a, rfl, ⟨va, SqL.of ha⟩, fun D hD => ?_⟩
  refine lc_mk (walk_list (xs := va)) hD (fun i acc H => Fits (RPair id (BreedAt K)) H acc (ns.take i)) Fits.nil (fun i acc H H' e f => f.same (mo_pair mo_breed) e) (fun i acc H zs zs' hl f => f.imp fun v x _ r => ?_) (by rw [fa.1]; omega) (fun H1 e => e.seq (SqL.of ha)) ?_ ?_
  · obtain ⟨t, u, rfl, h1, q, dq, g, rfl, h2⟩ := r
    exact ⟨t, _, rfl, by rw [upd_ne (ne_of h1 hl (by intro z; cases z))]; exact h1, q, dq, g, rfl, by rw [upd_ne (ne_of h2 hl (by intro z; cases z))]; exact h2⟩
  · rintro i v acc H3 H4 hi e3 F ⟨rfl, hv⟩ Q1 Q0 q1 q0
    obtain ⟨x, hx, q, dq, g, rfl, hq⟩ := fa.get2 hv
    refine ⟨rfl, _, rfl, q, _, dq, _, _, rfl, e3 _ _ hq, T.cl_Breed, T.na_Breed_name, rfl, _, rfl, (by show 2 ≤ sizeLine; decide), fun t ht => q1 _ _ (same_upd (Same.refl _) ht) ?_⟩
    rw [List.take_succ, hx]
    have eu := same_upd (o := .tup [V.str x, .ref q]) (Same.refl H4) ht
    exact (F.same (mo_pair mo_breed) eu).snoc ⟨t, _, rfl, upd_same, q, dq, g, rfl, eu _ _ (e3 _ _ hq)⟩
  rintro acc H3 e3 hD3 _ F
  rw [fa.1, List.take_length] at F
  obtain ⟨ps, gk, g1, g2, g3, g4⟩ := pairs_of (K := K) F
  have gn : (gk.map (·.1)).Nodup := by
    rw [g3]
    exact List.Pairwise.map _ (fun x y h e => h (Sum.inr.inj e)) hn
  refine ⟨D, ps, gk, rfl, SqL.of (by rw [← g1]; exact hD3), g2, fun d1 hd1 => ?_⟩
  rw [merge_nodup (acc := []) gn, List.nil_append]
  have e4 : Same H (upd H3 d1 (.dK gk)) := same_upd (e12.trans e3) ((e12.trans e3).free hd1)
  have hd1' : H d1 = none := (e12.trans e3).free hd1
  have hd4 : upd H3 d1 (.dK gk) d1 = some (.dK gk) := upd_same
  generalize upd H3 d1 (.dK gk) = H4 at e4 hd4
  have npd : p ≠ d1 := ne_of_none hp hd1'
  refine ⟨_, rfl, p, _, dx, [], rfl, e4 _ _ hp, T.cl_Field, T.na_Field_grown, (by show 0 < 1000; decide), ?_⟩
  -- all([one.breed in self.grown for one in beds])
  obtain ⟨vb, hb, fb⟩ := LB.same mo_bed e4
  have nbp : b ≠ p := ne_of hb (e4 _ _ hp) (by intro z; cases z)
  have hp5 : upd H4 p (.ins (cField K) dx (putF "grown" (.ref d1) [])) p = some (.ins (cField K) dx [("grown", .ref d1)]) := upd_same
  have hb5 : upd H4 p (.ins (cField K) dx (putF "grown" (.ref d1) [])) b = some (.lst vb) := by rw [upd_ne nbp]; exact hb
  have hd5 : upd H4 p (.ins (cField K) dx (putF "grown" (.ref d1) [])) d1 = some (.dK gk) := by rw [upd_ne npd.symm]; exact hd4
  have e5 : ∀ c o, c ≠ p → H c = some o → upd H4 p (.ins (cField K) dx (putF "grown" (.ref d1) [])) c = some o := fun c o hc q => by rw [upd_ne hc]; exact e4 _ _ q
  have fb5 : Fits (BedAt K) (upd H4 p (.ins (cField K) dx (putF "grown" (.ref d1) []))) vb bs := fb.imp fun v x _ r => by
    obtain ⟨q, dq, rfl, hq⟩ := r
    exact ⟨q, dq, rfl, by rw [upd_ne (ne_of hq (e4 _ _ hp) (by intro z; injection z with z1 z2 z3; have z4 := congrArg List.length z3; cases z4))]; exact hq⟩
  generalize upd H4 p (.ins (cField K) dx (putF "grown" (.ref d1) [])) = H5 at hp5 hb5 hd5 e5 fb5
  refine ⟨_, rfl, b, rfl, ⟨vb, SqL.of hb5⟩, fun D2 hD2 => ?_⟩
  refine lc_pure (walk_list (xs := vb)) hD2 (fun i acc => acc = (List.replicate i true).map V.bl) rfl (by rw [fb.1]; have := B.n6; omega) (fun H1 e => e.seq (SqL.of hb5)) ?_ ?_
  · rintro i v acc H6 H7 hi e6 rfl ⟨rfl, hv⟩ Q1 Q0 q1 q0
    obtain ⟨x, hx, q, dq, rfl, hq⟩ := fb5.get2 hv
    refine ⟨rfl, _, rfl, q, _, dq, _, _, rfl, e6 _ _ hq, T.cl_Bed, T.na_Bed_breed, rfl, _, rfl, p, _, dx, _, _, rfl, e6 _ _ hp5, T.cl_Field, T.na_Field_grown, rfl, d1, _, rfl, DGet.k (k := Sum.inr x.breed) (e6 _ _ hd5), ?_⟩
    obtain ⟨j, hj, ej⟩ := List.getElem_of_mem (hbr x (List.mem_of_getElem? hx))
    obtain ⟨kk, u, q2, q3, q4⟩ := g4 j x.breed (by rw [List.getElem?_eq_getElem hj, ej])
    rw [val_at gn (by rw [q2, q3]; rfl)]
    refine q1 _ _ (Same.refl _) ?_
    rw [List.replicate_succ', List.map_append]
    all_goals rfl
  rintro acc H6 e6 hD6 _ rfl
  refine ⟨_, _, rfl, SqL.of hD6, ?_⟩
  rw [all_rep]
  refine ⟨true, rfl, ?_⟩
  -- self.dug = dict([..])
  refine ⟨_, rfl, b, rfl, ⟨vb, SqL.of (e6 _ _ hb5)⟩, fun D3 hD3 => ?_⟩
  have fb6 := fb5.same mo_bed e6
  refine lc_mk (walk_list (xs := vb)) hD3 (fun i acc H => Fits (RPair BedR.name (BedAt K)) H acc (bs.take i)) Fits.nil (fun i acc H H' e f => f.same (mo_pair mo_bed) e) (fun i acc H zs zs' hl f => f.imp fun v x _ r => ?_) (by rw [fb.1]; have := B.n6; omega) (fun H1 e => e.seq (SqL.of (e6 _ _ hb5))) ?_ ?_
  · obtain ⟨t, u, rfl, h1, q, dq, rfl, h2⟩ := r
    exact ⟨t, _, rfl, by rw [upd_ne (ne_of h1 hl (by intro z; cases z))]; exact h1, q, dq, rfl, by rw [upd_ne (ne_of h2 hl (by intro z; cases z))]; exact h2⟩
  · rintro i v acc H7 H8 hi e7 F ⟨rfl, hv⟩ Q1 Q0 q1 q0
    obtain ⟨x, hx, q, dq, rfl, hq⟩ := fb6.get2 hv
    refine ⟨rfl, _, rfl, q, _, dq, _, _, rfl, e7 _ _ hq, T.cl_Bed, T.na_Bed_name, rfl, _, rfl, (by show 2 ≤ sizeLine; decide), fun t ht => q1 _ _ (same_upd (Same.refl _) ht) ?_⟩
    rw [List.take_succ, hx]
    have eu := same_upd (o := .tup [V.str x.name, .ref q]) (Same.refl H8) ht
    exact (F.same (mo_pair mo_bed) eu).snoc ⟨t, _, rfl, upd_same, q, dq, rfl, eu _ _ (e7 _ _ hq)⟩
  rintro acc H7 e7 hD7 _ F
  rw [fb.1, List.take_length] at F
  obtain ⟨ps2, dk, d1', d2, d3, d4⟩ := pairs_of (K := K) F
  have dn : (dk.map (·.1)).Nodup := by
    rw [d3]
    exact List.Pairwise.map _ (fun x y h e => h (Sum.inr.inj e)) (List.pairwise_map.mp B.nd) |> List.pairwise_map.mpr ∘ List.pairwise_map.mp
  refine ⟨D3, ps2, dk, rfl, SqL.of (by rw [← d1']; exact hD7), d2, fun dd hdd => ?_⟩
  rw [merge_nodup (acc := []) dn, List.nil_append]
  have e8 : Same H5 (upd H7 dd (.dK dk)) := same_upd (e6.trans e7) ((e6.trans e7).free hdd)
  have ndp : p ≠ dd := ne_of_none (e7 _ _ (e6 _ _ hp5)) hdd
  refine ⟨_, rfl, p, _, dx, _, rfl, e8 _ _ hp5, T.cl_Field, T.na_Field_dug, (by show 1 < 1000; decide), ?_⟩
  refine k _ (fun c o hc q => ?_) ⟨⟨dx, d1, dd, upd_same, dk, ?_, d3, fun x hx => ?_⟩, B⟩
  · rw [upd_ne hc]
    exact e8 _ _ (e5 _ _ hc q)
  · rw [upd_ne ndp.symm]
    exact upd_same
  · obtain ⟨j, hj, ej⟩ := List.getElem_of_mem hx
    obtain ⟨kk, u, q2, q3, q4⟩ := d4 j x (by rw [List.getElem?_eq_getElem hj, ej])
    obtain ⟨q, dq, rfl, hq⟩ := q4
    refine ⟨_, val_at dn (by rw [q2, q3]), q, dq, rfl, ?_⟩
    have hq8 : upd H7 dd (.dK dk) q = some (.ins (cBed K) dq (bedFs x)) := by rw [upd_ne (ne_of_none hq hdd)]; exact hq
    have nqp : q ≠ p := ne_of hq8 (e8 _ _ hp5) (by intro z; injection z with z1 z2 z3; have z4 := congrArg List.length z3; cases z4)
    rw [upd_ne nqp]
    exact hq8
end
end RP
set_option Elab.async false
set_option linter.all false
set_option maxRecDepth 100000
set_option maxHeartbeats 400000
/-! rootpledge k80: things, promises, spoilings -/
namespace RP
open PySem PySem.Spec PyProof.Rows L2
inductive Kd where
  | root | offs | share
  deriving DecidableEq
def Kd.s : Kd → Str
  | .root => "root"
  | .offs => "offsets"
  | .share => "share"
/-- a thing: for a share k is its 27720ths -/
structure Th where
  kd : Kd
  bed : Str
  k : Nat
  deriving DecidableEq
theorem kd_root (k : Kd) : decide (V.str k.s = V.str "root") = decide (k = .root) := by cases k <;> decide +kernel
theorem kd_offs (k : Kd) : decide (V.str k.s = V.str "offsets") = decide (k = .offs) := by cases k <;> decide +kernel
theorem kd_share (k : Kd) : decide (V.str k.s = V.str "share") = decide (k = .share) := by cases k <;> decide +kernel
/-- the third of a thing's tuple -/
def ThV (K : PySem.W.Frag) (H : Hp) (th : Th) (v : V) : Prop := (th.kd = .share ∧ ∃ p, v = .ref p ∧ PartAt K H p th.k) ∨ (th.kd ≠ .share ∧ v = .int th.k)
def ThAt (K : PySem.W.Frag) (H : Hp) (t : Addr) (th : Th) : Prop := ∃ v, H t = some (.tup [.str th.kd.s, .str th.bed, v]) ∧ ThV K H th v
theorem ThV.same {K : PySem.W.Frag} {H H' : Hp} {th : Th} {v : V} (h : ThV K H th v) (e : Same H H') : ThV K H' th v := by
  rcases h with ⟨h1, p, h2, h3⟩ | h
  · exact .inl ⟨h1, p, h2, h3.same e⟩
  · exact .inr h
theorem ThAt.same {K : PySem.W.Frag} {H H' : Hp} {t : Addr} {th : Th} (h : ThAt K H t th) (e : Same H H') : ThAt K H' t th := by
  obtain ⟨v, h1, h2⟩ := h
  exact ⟨v, e _ _ h1, h2.same e⟩
structure ThOk (th : Th) : Prop where
  nm : NameOk th.bed
  k1 : 1 ≤ th.k
  sh : th.kd = .share → th.k ≤ 27720 ∧ pB th.k ≤ 12
/-- the thing is one of the field's -/
structure ThIn (bs : List BedR) (th : Th) : Prop where
  ok : ThOk th
  ex : ∃ b ∈ bs, b.name = th.bed ∧ ((th.kd = .share ∧ b.shares = true) ∨ (th.kd ≠ .share ∧ b.shares = false ∧ th.k ≤ b.roots))
def goS (g : Bool) : Str := if g then "go" else "stay"
def sp_is_thing (K : PySem.W.Frag) : Sp := spA 1 fun vs H Q => ∃ t th, vs = [.ref t] ∧ ThAt K H t th ∧ ThOk th ∧ ∀ H', Same H H' → Q (.bl true) H'
def sp_has (K : PySem.W.Frag) : Sp := spA 2 fun vs H Q => ∃ f t bs th, vs = [.ref f, .ref t] ∧ FieldAt K H f bs ∧ ThAt K H t th ∧ ThIn bs th ∧ ∀ H', Same H H' → Q (.bl true) H'
def sp_is_rule : Sp := spA 1 fun vs H Q => vs = [.str "flat"] ∧ Q (.bl true) H
def sp_goes_with (K : PySem.W.Frag) : Sp := spA 2 fun vs H Q => ∃ t th, vs = [.str "flat", .ref t] ∧ ThAt K H t th ∧ Q (.bl true) H
def sp_is_going (K : PySem.W.Frag) : Sp := spA 2 fun vs H Q => ∃ g t th, vs = [.str (goS g), .ref t] ∧ ThAt K H t th ∧ (g = false → th.kd = .root) ∧ Q (.bl true) H
/-- a promise; ta: where its thing stands -/
structure Pr where
  num : Nat
  mom : Nat
  seller : Str
  buyer : Str
  ta : Addr
  th : Th
  price : Nat
  go : Bool
  earn : Nat
structure PrOk (p : Pr) : Prop where
  n1 : 1 ≤ p.num
  s : NameOk p.seller
  b : NameOk p.buyer
  ne : p.buyer ≠ p.seller
  th : ThOk p.th
  pr : p.price ≤ 1000000
  ea : p.earn ≤ 1000000
  go : p.go = false → p.th.kd = .root
def prVs (p : Pr) : List V := [.int p.num, .int p.mom, .str p.seller, .str p.buyer, .ref p.ta, .int p.price, .str "flat", .str (goS p.go), .int p.earn]
def prFs (p : Pr) : List (Str × V) := [("number", .int p.num), ("moment", .int p.mom), ("seller", .str p.seller), ("buyer", .str p.buyer), ("thing", .ref p.ta), ("price", .int p.price), ("rule", .str "flat"), ("offsets", .str (goS p.go)), ("earnest", .int p.earn)]
def sp_Promise_init (K : PySem.W.Frag) : Sp := spA 10 fun vs H Q => ∃ q dx p, vs = .ref q :: prVs p ∧ PrOk p ∧ ThAt K H p.ta p.th ∧ H q = some (.ins (cPromise K) dx []) ∧ RInit H q (cPromise K) dx (prFs p) Q
def PromAt (K : PySem.W.Frag) (H : Hp) (q : Addr) (p : Pr) : Prop := (∃ dx, H q = some (.ins (cPromise K) dx (prFs p))) ∧ ThAt K H p.ta p.th
theorem PromAt.same {K : PySem.W.Frag} {H H' : Hp} {q : Addr} {p : Pr} (h : PromAt K H q p) (e : Same H H') : PromAt K H' q p := by
  obtain ⟨⟨dx, h1⟩, h2⟩ := h
  exact ⟨⟨dx, e _ _ h1⟩, h2.same e⟩
def sp_Promise_told (K : PySem.W.Frag) : Sp := spA 1 fun vs H Q => ∃ q p, vs = [.ref q] ∧ PromAt K H q p ∧ ∀ t H', H t = none → Same H H' → H' t = some (.tup (prVs p)) → Q (.ref t) H'
def REqProm (K : PySem.W.Frag) (a b : Addr) (H : Hp) : Prop := ∃ p, PromAt K H a p ∧ PromAt K H b p
def spFs (n m : Nat) (b : Str) : List (Str × V) := [("number", .int n), ("moment", .int m), ("bed", .str b)]
def SpoilAt (K : PySem.W.Frag) (H : Hp) (q : Addr) (n m : Nat) (b : Str) : Prop := ∃ dx, H q = some (.ins (cSpoiling K) dx (spFs n m b))
def sp_Spoiling_init (K : PySem.W.Frag) : Sp := spA 4 fun vs H Q => ∃ q dx n m b, vs = [.ref q, .int (n : Nat), .int (m : Nat), .str b] ∧ 1 ≤ n ∧ NameOk b ∧ H q = some (.ins (cSpoiling K) dx []) ∧ RInit H q (cSpoiling K) dx (spFs n m b) Q
def REqSpoil (K : PySem.W.Frag) (a b : Addr) (H : Hp) : Prop := ∃ n m x, SpoilAt K H a n m x ∧ SpoilAt K H b n m x
/-- a line -/
inductive Ln where
  | prom (p : Pr)
  | spoil (n m : Nat) (b : Str)
def Ln.num : Ln → Nat
  | .prom p => p.num
  | .spoil n _ _ => n
def Ln.mom : Ln → Nat
  | .prom p => p.mom
  | .spoil _ m _ => m
def LnAt (K : PySem.W.Frag) (H : Hp) (v : V) (l : Ln) : Prop := ∃ q, v = .ref q ∧ match l with
  | .prom p => PromAt K H q p
  | .spoil n m b => SpoilAt K H q n m b
theorem mo_ln {K : PySem.W.Frag} : Mo (LnAt K) := fun H H' v l e h => by
  obtain ⟨q, rfl, h⟩ := h
  refine ⟨q, rfl, ?_⟩
  cases l with
  | prom p => exact PromAt.same h e
  | spoil n m b =>
    obtain ⟨dx, h⟩ := h
    exact ⟨dx, e _ _ h⟩
def sp_is_line (K : PySem.W.Frag) : Sp := spA 1 fun vs H Q => ∃ v l, vs = [v] ∧ LnAt K H v l ∧ Q (.bl true) H
def sp_when (K : PySem.W.Frag) : Sp := spA 1 fun vs H Q => ∃ v l, vs = [v] ∧ LnAt K H v l ∧ ∀ t, H t = none → Q (.ref t) (upd H t (.tup [.int (l.mom : Nat), .int (l.num : Nat)]))
/-- == of tuples of flat things and of the same objects -/
def DSame : Eqv := fun x y _ => ∃ a, x = .ref a ∧ y = .ref a
theorem eqG_same {X : Cx} : EqG X 0 DSame := by
  intro A pins s σ H x y u v sb I rx ry d
  obtain ⟨a, rfl, rfl⟩ := d
  cases rx
  cases ry
  exact SeqAt.EqAt.same (A := A) (s := s) (.ref a) X.prog X.w X.xe _ ⟨rfl, H, I, Ext.rfl'⟩
abbrev DId : Eqv := fun x y H => DFlat x y H ∨ DSame x y H
theorem mon_id : Mon DId := mon_flat.or fun x y H H' e d => d
theorem op_told {X : Cx} {k : Nat} (hr : Room (k + 1) X.A) : OpR X (compareOp .Eq) (rEqG (DTup X.K DId)) := op_eqG (rcG_tup mon_id (eqG_flat.or eqG_same)) (hr.mono (by omega))
theorem evlst_call {u : TS} {D : Ends} {ta : TA} {σ : L2.St} {H : Hp} {i : Nat} {sp : Sp} (n : Nat) (h : EvRows ta σ H n) (hn : n ≤ 100) (q : ∀ p H2, H p = none → Same H H2 → RowsAt H2 p n → sp [.ref p] H2 (fun v H3 => u D (σ.set i (some v)) H3) E0) :
    tSeq (tAsg (tCall sp [] E0 (tCons (tLst ta) tNil)) (gName i)) u D σ H := by
  show tLst ta σ H fun x H1 => sp [x] H1 (fun v H3 => u D (σ.set i (some v)) H3) E0
  exact evlst hn h (Same.refl _) q
theorem ThV.share {K : PySem.W.Frag} {H : Hp} {th : Th} {v : V} (h : ThV K H th v) (e : th.kd = .share) : ∃ p, v = .ref p ∧ PartAt K H p th.k := by
  rcases h with ⟨_, h⟩ | ⟨h, _⟩
  · exact h
  · exact absurd e h
theorem ThV.num {K : PySem.W.Frag} {H : Hp} {th : Th} {v : V} (h : ThV K H th v) (e : th.kd ≠ .share) : v = .int th.k := by
  rcases h with ⟨h, _⟩ | ⟨_, h⟩
  · exact absurd h e
  · exact h
theorem flat_int (i : Int) (H : Hp) : DId (.int i) (.int i) H := .inl ⟨rfl, rfl, by show decide (i = i) = true; exact decide_eq_true rfl⟩
theorem flat_str (x : Str) (H : Hp) : DId (.str x) (.str x) H := .inl ⟨rfl, rfl, by show decide (x = x) = true; exact decide_eq_true rfl⟩
/-- .. whatever comes after -/
theorem mkPartW {K : PySem.W.Frag} {H : Hp} {Z : VK} {a b u : Nat} {x dx : Addr} (hb : 0 < b) (hb2 : b < 1073741824) (e : a * 27720 = u * b) (nx : H x = none) (nd : H dx = none) (q : ∀ H', Same H H' → PartAt K H' x u → Z .non H') :
    sp_Part_init K [.ref x, .int a, .int b] (upd (upd H dx (.own x)) x (.ins (cPart K) dx [])) Z E0 := by
  refine ⟨rfl, x, dx, a, b, rfl, hb, hb2, upd_same, ?_⟩
  obtain ⟨e1, e2⟩ := low_unique hb (show 0 < 27720 by decide) e
  rw [upd_upd, e1, e2]
  exact q _ (same_upd (same_upd (Same.refl _) nd) nx) ⟨dx, upd_same⟩
section
variable {P : Program} {w : World} {K : PySem.W.Frag} {mg : Str → Option Value} {base : Heap}
theorem ok_is_thing (T : Txt K mg) : Fx P w K mg base "is_thing" 4 [] (sp_is_thing K) := by
  obtain ⟨fd, F⟩ := T.d_is_thing
  refine ⟨_, fd, _, [], T.g_is_thing, F.kp, fn_body F sc_is_thing rfl (fun cdv A outer s H vs Q E hr h => ?_), F.bindsN (fun _ _ _ _ _ _ us hl => match us, hl with | [_], _ => rfl), .nil⟩
  have nd := sc_is_thing.nd
  have hu := hu_of hr
  obtain ⟨t, ⟨kd, bed, u⟩, rfl, ⟨v, ht, hv⟩, O, k⟩ := h
  refine ⟨_, (pss_cons (ps_if (PW.pt (pw_or (pt_not (pt_val (pe_callB call_is (by rfl) T.n_isinstance b_isinstance (pa_cons (pv 0) (pa_cons (pe_bltn (v := .ty "tuple") (by rfl) T.n_tuple b_tuple rfl) pa_nil))))) (pw_or (pt_cmpR op_ne (pe_callB call_len_seq (by rfl) T.n_len b_len (pa_cons (pv 0) pa_nil)) pe_int (nomark _)) (pw_or (pt_not (pt_val (pe_callB call_is (by rfl) T.n_isinstance b_isinstance (pa_cons (pe_ix ix_tup (pv 0) pe_int (fun _ _ => rfl)) (pa_cons (pe_bltn (v := .ty "str") (by rfl) T.n_str b_str rfl) pa_nil))))) (pw_or1 (pt_not (pt_val (pe_f (ok_is_name T) (hr.mono (by decide)) (pa_cons (pe_ix ix_tup (pv 0) pe_int (fun _ _ => rfl)) pa_nil))))))))) (pss_one (ps_ret pe_bl)) pss_nil)
      (pss_cons (ps_if (PW.pt (pw_or (pt_cmpR op_eq (pe_ix ix_tup (pv 0) pe_int (fun _ _ => rfl)) pe_str (nomark _)) (pw_or1 (pt_cmpR op_eq (pe_ix ix_tup (pv 0) pe_int (fun _ _ => rfl)) pe_str (nomark _))))) (pss_one (ps_ret (pe_f (ok_is_from T) (hr.mono (by decide)) (pa_cons (pe_ix ix_tup (pv 0) pe_int (fun _ _ => rfl)) (pa_cons pe_int pa_nil))))) pss_nil)
      (pss_cons (ps_if (PW.pt (pw_or (pt_cmpR op_ne (pe_ix ix_tup (pv 0) pe_int (fun _ _ => rfl)) pe_str (nomark _)) (pw_or (pt_not (pt_val (pe_callB call_is (by rfl) T.n_isinstance b_isinstance (pa_cons (pe_ix ix_tup (pv 0) pe_int (fun _ _ => rfl)) (pa_cons (pe_glob (v := .ref (He.ga K "Part")) rfl T.g_Part rfl) pa_nil))))) (pw_or1 (pt_cmpR op_gt (pe_fld (pe_ix ix_tup (pv 0) pe_int (fun _ _ => rfl)) rfl) (C8.pe_gc rfl T.c_MOST_BOTTOM) (nomark _)))))) (pss_one (ps_ret pe_bl)) pss_nil)
      (pss_one (ps_ret (pe_and (pe_f (ok_less T) (hr.mono (by decide)) (pa_cons (pe_n (ok_Part_init1 T) (hr.mono (by decide)) (pa_cons pe_int pa_nil)) (pa_cons (pe_ix ix_tup (pv 0) pe_int (fun _ _ => rfl)) pa_nil))) (pe_one (pe_not (pe_f (ok_less T) (hr.mono (by decide)) (pa_cons (pe_n (ok_Part_init1 T) (hr.mono (by decide)) (pa_cons pe_int pa_nil)) (pa_cons (pe_ix ix_tup (pv 0) pe_int (fun _ _ => rfl)) pa_nil))))))))))), ?_⟩
  have O1 := O.nm
  have O2 := O.k1
  have O3 := O.sh
  simp only at O1 O2 O3 ht hv
  refine ⟨_, rfl, _, _, _, rfl, is_tup ht, true, rfl, ?_⟩
  refine ⟨_, rfl, t, _, rfl, .inr (SqT.of ht), rfl, _, rfl, ?_⟩
  refine ⟨_, rfl, t, _, 0, _, rfl, rfl, SqT.of ht, rfl, _, _, _, rfl, is_str, true, rfl, ?_⟩
  refine ⟨_, rfl, t, _, 1, _, rfl, rfl, SqT.of ht, rfl, rfl, bed, rfl, O1, fun H1 e1 => ⟨true, rfl, ?_⟩⟩
  have h1 := e1 _ _ ht
  have hv1 := hv.same e1
  refine ⟨_, rfl, t, _, 0, _, rfl, rfl, SqT.of h1, rfl, rfl, _, rfl, ?_⟩
  rw [kd_root]
  cases kd with
  | root =>
    obtain rfl := hv1.num (by intro z; cases z)
    refine ⟨_, rfl, t, _, 2, _, rfl, rfl, SqT.of h1, rfl, rfl, _, _, rfl, ?_⟩
    rw [decide_eq_true (by show (1 : Int) ≤ (u : Int); omega)]
    exact k _ e1
  | offs =>
    obtain rfl := hv1.num (by intro z; cases z)
    refine ⟨_, rfl, t, _, 0, _, rfl, rfl, SqT.of h1, rfl, rfl, _, rfl, ?_⟩
    rw [kd_offs]
    refine ⟨_, rfl, t, _, 2, _, rfl, rfl, SqT.of h1, rfl, rfl, _, _, rfl, ?_⟩
    rw [decide_eq_true (by show (1 : Int) ≤ (u : Int); omega)]
    exact k _ e1
  | share =>
    obtain ⟨p, rfl, dx, hp⟩ := hv1.share rfl
    refine ⟨_, rfl, t, _, 0, _, rfl, rfl, SqT.of h1, rfl, rfl, _, rfl, ?_⟩
    rw [kd_offs]
    refine ⟨_, rfl, t, _, 0, _, rfl, rfl, SqT.of h1, rfl, rfl, _, rfl, ?_⟩
    rw [kd_share]
    refine ⟨_, rfl, t, _, 2, _, rfl, rfl, SqT.of h1, rfl, _, _, _, rfl, is_Part T hp, true, rfl, ?_⟩
    refine ⟨_, rfl, t, _, 2, _, rfl, rfl, SqT.of h1, rfl, p, _, dx, _, _, rfl, hp, T.cl_Part, T.na_Part_bottom, fld_bottom, _, _, rfl, rfl, _, rfl, ?_⟩
    obtain ⟨b1, b2⟩ := O3 rfl
    rw [decide_eq_false (show ¬ (12 : Int) < (pB u : Int) by omega)]
    refine iteF ?_
    show ∀ x dx : Addr, _
    intro q dq f2 g2 n2
    refine mkPartW (K := K) (a := 0) (b := 1) (u := 0) (by decide) (by decide) (by decide) f2 g2 fun H2 e2 P2 => ⟨rfl, ?_⟩
    refine ⟨_, rfl, t, _, 2, _, rfl, rfl, SqT.of (e2 _ _ h1), rfl, rfl, q, p, 0, u, rfl, P2, ⟨dx, e2 _ _ hp⟩, by decide, b1, ?_⟩
    rw [decide_eq_true (show 0 < u by omega)]
    refine ⟨true, rfl, ?_⟩
    intro q2 dq2 f3 g3 n3
    refine mkPartW (K := K) (a := 1) (b := 1) (u := 27720) (by decide) (by decide) (by decide) f3 g3 fun H3 e3 P3 => ⟨rfl, ?_⟩
    refine ⟨_, rfl, t, _, 2, _, rfl, rfl, SqT.of (e3 _ _ (e2 _ _ h1)), rfl, rfl, q2, p, 27720, u, rfl, P3, ⟨dx, e3 _ _ (e2 _ _ hp)⟩, by decide, b1, ?_⟩
    rw [decide_eq_false (show ¬ 27720 < u by omega)]
    exact ⟨false, rfl, k _ ((e1.trans e2).trans e3)⟩
theorem in_names {x : Str} {xs : List Str} (h : x ∈ xs) : inV (.str x) (xs.map V.str) = true := by
  unfold inV
  rw [List.any_eq_true]
  exact ⟨.str x, List.mem_map.mpr ⟨x, h, rfl⟩, by show decide (x = x) = true; exact decide_eq_true rfl⟩
theorem flat_names (xs : List Str) : (xs.map V.str).all flatV = true := by
  rw [List.all_eq_true]
  intro v hv
  obtain ⟨x, _, rfl⟩ := List.mem_map.mp hv
  rfl
theorem kind_eq (b : BedR) : decide (V.str b.kind = V.str "shares") = b.shares ∧ decide (V.str b.kind = V.str "roots") = !b.shares := by
  unfold BedR.kind
  cases b.shares <;> decide +kernel
theorem ok_has (T : Txt K mg) : Fx P w K mg base "has" 5 [] (sp_has K) := by
  obtain ⟨fd, F⟩ := T.d_has
  refine ⟨_, fd, _, [], T.g_has, F.kp, fn_body F sc_has rfl (fun cdv A outer s H vs Q E hr h => ?_), F.bindsN (fun _ _ _ _ _ _ us hl => match us, hl with | [_, _], _ => rfl), .nil⟩
  have nd := sc_has.nd
  have hu := hu_of hr
  obtain ⟨f, t, bs, ⟨kd, bed, u⟩, rfl, FF, AA, I, k⟩ := h
  refine ⟨_, (pss_cons (ps_if (PW.pt (pw_or (pt_not (pt_val (pe_f (ok_is_thing T) (hr.mono (by decide)) (pa_cons (pv 1) pa_nil)))) (pw_or1 (pt_cmpR op_notIn_seq (pe_ix ix_tup (pv 1) pe_int (fun _ _ => rfl)) (pe_m0 (ok_Field_bed_names T) (hr.mono (by decide)) (pv 0)) rfl)))) (pss_one (ps_ret pe_bl)) pss_nil)
      (pss_cons (ps_set (i := 2) nd rfl (Or.inl rfl) (pe_m (ok_Field_bed_of T) (hr.mono (by decide)) (pv 0) (pa_cons (pe_ix ix_tup (pv 1) pe_int (fun _ _ => rfl)) pa_nil)))
      (pss_cons (ps_if (pt_cmpR op_eq (pe_ix ix_tup (pv 1) pe_int (fun _ _ => rfl)) pe_str (nomark _)) (pss_one (ps_ret (pe_cmpR op_eq (pe_fld (pv 2) rfl) pe_str (nomark _)))) pss_nil)
      (pss_one (ps_ret (pe_and (pe_cmpR op_eq (pe_fld (pv 2) rfl) pe_str (nomark _)) (pe_one (pe_cmpR op_le (pe_ix ix_tup (pv 1) pe_int (fun _ _ => rfl)) (pe_fld (pv 2) rfl) (nomark _))))))))), ?_⟩
  obtain ⟨b, hb, hbn, hbk⟩ := I.ex
  simp only at hbn hbk
  refine ⟨_, rfl, rfl, t, _, rfl, AA, I.ok, fun H1 e1 => ⟨true, rfl, ?_⟩⟩
  obtain ⟨v, ht, hv⟩ := AA.same e1
  simp only at ht
  refine ⟨_, rfl, t, _, 1, _, rfl, rfl, SqT.of ht, rfl, ?_⟩
  obtain ⟨dx, g, d, hf, hd⟩ := FF.ex
  refine ⟨_, rfl, f, dx, _, rfl, e1 _ _ hf, rfl, rfl, f, bs, rfl, FF.same e1, fun ys p hy hp => ?_⟩
  refine ⟨p, _, rfl, .inl (SqL.of upd_same), rfl, flat_names _, ?_⟩
  rw [if_pos rfl, in_names (hy.mem_iff.mpr (List.mem_map.mpr ⟨b, hb, hbn⟩))]
  refine ⟨_, rfl, ?_⟩
  have e2 : Same H1 (upd H1 p (.lst (ys.map V.str))) := same_upd (Same.refl _) hp
  generalize upd H1 p (.lst (ys.map V.str)) = H2 at e2
  have e12 := e1.trans e2
  refine ⟨_, rfl, f, dx, _, rfl, e12 _ _ hf, rfl, _, rfl, t, _, 1, _, rfl, rfl, SqT.of (e2 _ _ ht), rfl, rfl, f, bs, b, H2, (by rw [hbn]; rfl), Same.refl _, FF.same e12, hb, fun v3 H3 e3 B3 => ?_⟩
  have B3 := mo_bed _ _ _ _ e3 B3
  obtain ⟨q, dq, rfl, hq⟩ := B3
  have e13 := e12.trans e3
  obtain ⟨k1, k2⟩ := kind_eq b
  refine ⟨_, rfl, t, _, 0, _, rfl, rfl, SqT.of (e3 _ _ (e2 _ _ ht)), rfl, rfl, _, rfl, ?_⟩
  rw [kd_share]
  rcases hbk with ⟨rfl, hs⟩ | ⟨hk, hs, hr2⟩
  · refine ⟨_, rfl, q, _, dq, _, _, rfl, hq, T.cl_Bed, T.na_Bed_kind, rfl, rfl, ?_⟩
    rw [k1, hs]
    exact k _ e13
  · rw [decide_eq_false hk]
    refine ⟨_, rfl, q, _, dq, _, _, rfl, hq, T.cl_Bed, T.na_Bed_kind, rfl, rfl, _, rfl, ?_⟩
    rw [k2, hs]
    rcases hv with ⟨h1, _⟩ | ⟨_, hv⟩
    · exact absurd h1 hk
    simp only at hv
    rw [hv] at ht
    refine ⟨_, rfl, t, _, 2, _, rfl, rfl, SqT.of (e3 _ _ (e2 _ _ ht)), rfl, _, rfl, q, _, dq, _, _, rfl, hq, T.cl_Bed, T.na_Bed_roots, rfl, _, _, rfl, rfl, ?_⟩
    show Q (V.bl (decide ((u : Int) ≤ (b.roots : Int)))) H3
    rw [decide_eq_true (show (u : Int) ≤ (b.roots : Int) by omega)]
    exact k _ e13
theorem ok_is_rule (T : Txt K mg) : Fx P w K mg base "is_rule" 3 [] sp_is_rule := by
  obtain ⟨fd, F⟩ := T.d_is_rule
  refine ⟨_, fd, _, [], T.g_is_rule, F.kp, fn_body F sc_is_rule rfl (fun cdv A outer s H vs Q E hr h => ?_), F.bindsN (fun _ _ _ _ _ _ us hl => match us, hl with | [_], _ => rfl), .nil⟩
  have nd := sc_is_rule.nd
  have hu := hu_of hr
  obtain ⟨rfl, k⟩ := h
  refine ⟨_, (pss_cons (ps_if (pt_val (pe_callB call_is (by rfl) T.n_isinstance b_isinstance (pa_cons (pv 0) (pa_cons (pe_bltn (v := .ty "str") (by rfl) T.n_str b_str rfl) pa_nil)))) (pss_one (ps_ret (pe_cmpR op_in_seq (pv 0) (C8.pe_gc rfl T.c_RULES) rfl))) pss_nil)
      (pss_cons (ps_if (PW.pt (pw_or (pt_not (pt_val (pe_callB call_is (by rfl) T.n_isinstance b_isinstance (pa_cons (pv 0) (pa_cons (pe_bltn (v := .ty "tuple") (by rfl) T.n_tuple b_tuple rfl) pa_nil))))) (pw_or (pt_cmpR op_ne (pe_callB call_len_str (by rfl) T.n_len b_len (pa_cons (pv 0) pa_nil)) pe_int (nomark _)) (pw_or (pt_not (pt_val (pe_callB call_is (by rfl) T.n_isinstance b_isinstance (pa_cons (pe_ix ix_str (pv 0) pe_int (fun _ _ => rfl)) (pa_cons (pe_bltn (v := .ty "str") (by rfl) T.n_str b_str rfl) pa_nil))))) (pw_or1 (pt_cmpR op_ne (pe_ix ix_str (pv 0) pe_int (fun _ _ => rfl)) pe_str (nomark _))))))) (pss_one (ps_ret pe_bl)) pss_nil)
      (pss_one (ps_ret (pe_and (pe_f (ok_is_from T) (hr.mono (by decide)) (pa_cons (pe_ix ix_str (pv 0) pe_int (fun _ _ => rfl)) (pa_cons pe_int pa_nil))) (pe_one (pe_f (ok_is_from T) (hr.mono (by decide)) (pa_cons (pe_ix ix_str (pv 0) pe_int (fun _ _ => rfl)) (pa_cons (pe_ix ix_str (pv 0) pe_int (fun _ _ => rfl)) pa_nil))))))))), ?_⟩
  refine ⟨_, rfl, _, _, _, rfl, is_str, true, rfl, ?_⟩
  refine ⟨_, rfl, _, _, rfl, .inr (T.t_RULES _), rfl, (by decide +kernel), ?_⟩
  rw [if_neg Bool.false_ne_true, show inV (.str "flat") [V.str "flat", V.str "weighed", V.str "graded", V.str "gram"] = true by decide +kernel]
  exact k
theorem ok_goes_with (T : Txt K mg) : Fx P w K mg base "goes_with" 4 [] (sp_goes_with K) := by
  obtain ⟨fd, F⟩ := T.d_goes_with
  refine ⟨_, fd, _, [], T.g_goes_with, F.kp, fn_body F sc_goes_with rfl (fun cdv A outer s H vs Q E hr h => ?_), F.bindsN (fun _ _ _ _ _ _ us hl => match us, hl with | [_, _], _ => rfl), .nil⟩
  have nd := sc_goes_with.nd
  have hu := hu_of hr
  obtain ⟨t, th, rfl, ⟨v, ht, hv⟩, k⟩ := h
  refine ⟨_, (pss_cons (ps_if (pt_not (pt_val (pe_f (ok_is_rule T) (hr.mono (by decide)) (pa_cons (pv 0) pa_nil)))) (pss_one (ps_ret pe_bl)) pss_nil)
      (pss_one (ps_ret (pe_or (pe_cmpR op_ne (pe_ix ix_tup (pv 1) pe_int (fun _ _ => rfl)) pe_str (nomark _)) (pe_or (pe_cmpR op_eq (pv 0) pe_str (nomark _)) (pe_one (pe_cmpR op_eq (pv 0) pe_str (nomark _)))))))), ?_⟩
  refine ⟨_, rfl, rfl, rfl, true, rfl, ?_⟩
  refine ⟨_, rfl, t, _, 0, _, rfl, rfl, SqT.of ht, rfl, rfl, _, rfl, ?_⟩
  rw [kd_offs]
  cases hk : decide (th.kd = .offs) with
  | false => exact k
  | true =>
    refine ⟨_, rfl, rfl, _, rfl, ?_⟩
    rw [decide_eq_true rfl]
    exact k
theorem go_eq (g : Bool) : decide (V.str (goS g) = V.str "go") = g ∧ decide (V.str (goS g) = V.str "stay") = !g := by cases g <;> decide +kernel
theorem ok_is_going (T : Txt K mg) : Fx P w K mg base "is_going" 1 [] (sp_is_going K) := by
  obtain ⟨fd, F⟩ := T.d_is_going
  refine ⟨_, fd, _, [], T.g_is_going, F.kp, fn_body F sc_is_going rfl (fun cdv A outer s H vs Q E hr h => ?_), F.bindsN (fun _ _ _ _ _ _ us hl => match us, hl with | [_, _], _ => rfl), .nil⟩
  have nd := sc_is_going.nd
  have hu := hu_of hr
  obtain ⟨g, t, th, rfl, ⟨v, ht, hv⟩, hg, k⟩ := h
  refine ⟨_, (pss_cons (ps_if (pt_not (pt_val (pe_callB call_is (by rfl) T.n_isinstance b_isinstance (pa_cons (pv 0) (pa_cons (pe_bltn (v := .ty "str") (by rfl) T.n_str b_str rfl) pa_nil))))) (pss_one (ps_ret pe_bl)) pss_nil)
      (pss_one (ps_ret (pe_or (pe_cmpR op_eq (pv 0) pe_str (nomark _)) (pe_one (pe_and (pe_cmpR op_eq (pv 0) pe_str (nomark _)) (pe_one (pe_cmpR op_eq (pe_ix ix_tup (pv 1) pe_int (fun _ _ => rfl)) pe_str (nomark _))))))))), ?_⟩
  obtain ⟨g1, g2⟩ := go_eq g
  refine ⟨_, rfl, _, _, _, rfl, is_str, true, rfl, ?_⟩
  refine ⟨_, rfl, rfl, _, rfl, ?_⟩
  rw [g1]
  cases g with
  | true => exact k
  | false =>
    refine ⟨_, rfl, rfl, _, rfl, ?_⟩
    rw [g2]
    refine ⟨_, rfl, t, _, 0, _, rfl, rfl, SqT.of ht, rfl, rfl, ?_⟩
    rw [kd_root, hg rfl]
    exact k
theorem ok_Promise_init (T : Txt K mg) : Nx P w K mg base (He.ga K "Promise") "Promise" 5 [] (sp_Promise_init K) := by
  obtain ⟨fd, F⟩ := T.d_Promise_init
  obtain ⟨ds, hd, hb⟩ := F.binds1 (ps := ["self", "number", "moment", "seller", "buyer", "thing", "price", "rule", "offsets", "earnest"]) 10 3 (List.cons_ne_nil _ _) rfl (fun _ _ _ _ _ _ _ us its h1 h2 => match us, h1, its, h2 with | [_, _, _, _, _, _, _, _, _, _], _, [_, _, _], _ => ⟨_, rfl, rfl⟩)
  refine ⟨_, fd, _, ds, T.g_Promise, T.mk_Promise, fn_body F sc_Promise_init rfl (fun cdv A outer s H vs Q E hr h => ?_), hb, hd⟩
  have nd := sc_Promise_init.nd
  have hu := hu_of hr
  obtain ⟨q, dx, p, rfl, B, A, hq, k⟩ := h
  refine ⟨_, (pss_cons (ps_set (i := 10) nd rfl (Or.inl rfl) (pe_lst (pa_cons (pe_tup (pa_cons pe_str (pa_cons (pe_f (ok_is_from T) (hr.mono (by decide)) (pa_cons (pv 1) (pa_cons pe_int pa_nil))) pa_nil))) (pa_cons (pe_tup (pa_cons pe_str (pa_cons (pe_f (ok_is_from T) (hr.mono (by decide)) (pa_cons (pv 2) (pa_cons pe_int pa_nil))) pa_nil))) (pa_cons (pe_tup (pa_cons pe_str (pa_cons (pe_f (ok_is_name T) (hr.mono (by decide)) (pa_cons (pv 3) pa_nil)) pa_nil))) pa_nil)))))
      (pss_cons (ps_expr (pe_bm PySem.F.plainAttrs_list PySem.F.slot_list_append PySem.F.type_list_append mt_append (pv 10) (pa_cons (pe_tup (pa_cons pe_str (pa_cons (pe_and (pe_f (ok_is_name T) (hr.mono (by decide)) (pa_cons (pv 4) pa_nil)) (pe_one (pe_cmpR op_ne (pv 4) (pv 3) (nomark _)))) pa_nil))) pa_nil)))
      (pss_cons (ps_expr (pe_bm PySem.F.plainAttrs_list PySem.F.slot_list_append PySem.F.type_list_append mt_append (pv 10) (pa_cons (pe_tup (pa_cons pe_str (pa_cons (pe_f (ok_is_thing T) (hr.mono (by decide)) (pa_cons (pv 5) pa_nil)) pa_nil))) pa_nil)))
      (pss_cons (ps_expr (pe_bm PySem.F.plainAttrs_list PySem.F.slot_list_append PySem.F.type_list_append mt_append (pv 10) (pa_cons (pe_tup (pa_cons pe_str (pa_cons (pe_f (ok_is_between T) (hr.mono (by decide)) (pa_cons (pv 6) (pa_cons pe_int (pa_cons (C8.pe_gc rfl T.c_MOST_SUM) pa_nil)))) pa_nil))) pa_nil)))
      (pss_cons (ps_set (i := 11) nd rfl (Or.inl rfl) (pe_f (ok_first_wrong T) (hr.mono (by decide)) (pa_cons (pv 10) pa_nil)))
      (pss_cons (ps_if (pt_cmpR op_isN (pv 11) pe_non (nomark _)) (pss_cons (ps_set (i := 10) nd rfl (Or.inl rfl) (pe_lst (pa_cons (pe_tup (pa_cons pe_str (pa_cons (pe_f (ok_goes_with T) (hr.mono (by decide)) (pa_cons (pv 7) (pa_cons (pv 5) pa_nil))) pa_nil))) (pa_cons (pe_tup (pa_cons pe_str (pa_cons (pe_f (ok_is_going T) (hr.mono (by decide)) (pa_cons (pv 8) (pa_cons (pv 5) pa_nil))) pa_nil))) pa_nil))))
      (pss_cons (ps_expr (pe_bm PySem.F.plainAttrs_list PySem.F.slot_list_append PySem.F.type_list_append mt_append (pv 10) (pa_cons (pe_tup (pa_cons pe_str (pa_cons (pe_f (ok_is_between T) (hr.mono (by decide)) (pa_cons (pv 9) (pa_cons pe_int (pa_cons (C8.pe_gc rfl T.c_MOST_SUM) pa_nil)))) pa_nil))) pa_nil)))
      (pss_one (ps_set (i := 11) nd rfl (Or.inl rfl) (pe_f (ok_first_wrong T) (hr.mono (by decide)) (pa_cons (pv 10) pa_nil)))))) pss_nil)
      (pss_cons (ps_if (pt_cmpR op_notN (pv 11) pe_non (nomark _)) (pss_one ps_never) pss_nil)
      (pss_cons (ps_fld (pv 0) (pv 1) rfl)
      (pss_cons (ps_fld (pv 0) (pv 2) rfl)
      (pss_cons (ps_fld (pv 0) (pv 3) rfl)
      (pss_cons (ps_fld (pv 0) (pv 4) rfl)
      (pss_cons (ps_fld (pv 0) (pv 5) rfl)
      (pss_cons (ps_fld (pv 0) (pv 6) rfl)
      (pss_cons (ps_fld (pv 0) (pv 7) rfl)
      (pss_cons (ps_fld (pv 0) (pv 8) rfl)
      (pss_one (ps_fld (pv 0) (pv 9) rfl))))))))))))))))), ?_⟩
  have b1 := B.n1
  have b2 := B.pr
  have b3 := B.ea
  refine evlst_set 3 (evrows_cons (evrow_from (by rfl) (by omega)) (evrows_cons (evrow_from (by rfl) (by omega)) (evrows_cons (evrow_name (by rfl) B.s) evrows_nil))) (by decide) fun r1 H1 f1 e1 R1 => ?_
  have n1 : ∀ c o, H c = some o → c ≠ r1 := fun c o z => ne_of_none z f1
  refine evapp_seq (by rfl) R1 (evrow fun H5 e5 Q5 q5 => ?_) (by decide) fun H2 e2 R2 => ?_
  · refine ⟨_, rfl, rfl, p.buyer, rfl, B.b, fun H6 e6 => ⟨true, rfl, _, rfl, _, rfl, rfl, ?_⟩⟩
    rw [decide_eq_false (fun z => B.ne (by injection z))]
    exact q5 _ e6
  have e12 : Same H H2 := fun c o z => e2 c o (n1 c o z) (e1 c o z)
  refine evapp_seq (by rfl) R2 (evrow fun H5 e5 Q5 q5 => ?_) (by decide) fun H3 e3 R3 => ?_
  · exact ⟨_, rfl, rfl, p.ta, p.th, rfl, (A.same e12).same e5, B.th, q5⟩
  have e13 : Same H H3 := fun c o z => e3 c o (n1 c o z) (e12 c o z)
  refine evapp_seq (by rfl) R3 (evrow_between (by rfl) (by omega) (by omega)) (by decide) fun H4 e4 R4 => ?_
  have e14 : Same H H4 := fun c o z => e4 c o (n1 c o z) (e13 c o z)
  refine ⟨_, rfl, rfl, r1, _, rfl, R4, _, rfl, rfl, _, rfl, ?_⟩
  refine evlst_set 2 (evrows_cons (evrow fun H5 e5 Q5 q5 => ⟨_, rfl, _, rfl, rfl, p.ta, p.th, rfl, (A.same e14).same e5, q5 _ (Same.refl _)⟩) (evrows_cons (evrow fun H5 e5 Q5 q5 => ⟨_, rfl, _, rfl, rfl, p.go, p.ta, p.th, rfl, (A.same e14).same e5, B.go, q5 _ (Same.refl _)⟩) evrows_nil)) (by decide) fun r2 H5 f5 e5 R5 => ?_
  have n2 : ∀ c o, H c = some o → c ≠ r2 := fun c o z => ne_of_none (e14 c o z) f5
  refine evapp_seq (by rfl) R5 (evrow_between (by rfl) (by omega) (by omega)) (by decide) fun H6 e6 R6 => ?_
  have e7 : Same H H6 := fun c o z => e6 c o (n2 c o z) (e5 c o (e14 c o z))
  refine ⟨_, rfl, rfl, r2, _, rfl, R6, _, rfl, rfl, _, rfl, ?_⟩
  refine ⟨_, rfl, _, rfl, q, _, dx, [], rfl, e7 _ _ hq, T.cl_Promise, T.na_Promise_number, (by show 0 < 1000; decide), ?_⟩
  refine ⟨_, rfl, _, rfl, q, _, dx, _, rfl, upd_same, T.cl_Promise, T.na_Promise_moment, (by show 1 < 1000; decide), ?_⟩
  refine ⟨_, rfl, _, rfl, q, _, dx, _, rfl, upd_same, T.cl_Promise, T.na_Promise_seller, (by show 2 < 1000; decide), ?_⟩
  refine ⟨_, rfl, _, rfl, q, _, dx, _, rfl, upd_same, T.cl_Promise, T.na_Promise_buyer, (by show 3 < 1000; decide), ?_⟩
  refine ⟨_, rfl, _, rfl, q, _, dx, _, rfl, upd_same, T.cl_Promise, T.na_Promise_thing, (by show 4 < 1000; decide), ?_⟩
  refine ⟨_, rfl, _, rfl, q, _, dx, _, rfl, upd_same, T.cl_Promise, T.na_Promise_price, (by show 5 < 1000; decide), ?_⟩
  refine ⟨_, rfl, _, rfl, q, _, dx, _, rfl, upd_same, T.cl_Promise, T.na_Promise_rule, (by show 6 < 1000; decide), ?_⟩
  refine ⟨_, rfl, _, rfl, q, _, dx, _, rfl, upd_same, T.cl_Promise, T.na_Promise_offsets, (by show 7 < 1000; decide), ?_⟩
  refine ⟨_, rfl, _, rfl, q, _, dx, _, rfl, upd_same, T.cl_Promise, T.na_Promise_earnest, (by show 8 < 1000; decide), ?_⟩
  refine k _ (fun c o hc z => ?_) upd_same
  simp only [upd_upd]
  rw [upd_ne hc]
  exact e7 _ _ z
theorem ok_Promise_told (T : Txt K mg) : Mx P w K mg base (He.ga K "Promise") "told" 1 (sp_Promise_told K) := by
  obtain ⟨fd, F⟩ := T.d_Promise_told
  refine ⟨T.cl_Promise, _, fd, _, T.me_Promise_told, fn_body F sc_Promise_told rfl (fun cdv A outer s H vs Q E hr h => ?_), F.bindsN (fun _ _ _ _ _ _ us hl => match us, hl with | [_], _ => rfl)⟩
  have nd := sc_Promise_told.nd
  have hu := hu_of hr
  obtain ⟨q, p, rfl, ⟨⟨dx, hq⟩, A⟩, k⟩ := h
  refine ⟨_, (pss_cons (ps_set (i := 1) nd rfl (Or.inl rfl) (pe_tup (pa_cons (pe_fld (pv 0) rfl) (pa_cons (pe_fld (pv 0) rfl) (pa_cons (pe_fld (pv 0) rfl) (pa_cons (pe_fld (pv 0) rfl) (pa_cons (pe_fld (pv 0) rfl) (pa_cons (pe_fld (pv 0) rfl) pa_nil))))))))
      (pss_one (ps_ret (pe_op op_catT (pv 1) (pe_tup (pa_cons (pe_fld (pv 0) rfl) (pa_cons (pe_fld (pv 0) rfl) (pa_cons (pe_fld (pv 0) rfl) pa_nil)))))))), ?_⟩
  refine ⟨_, rfl, q, _, dx, _, _, rfl, hq, T.cl_Promise, T.na_Promise_number, rfl, _, rfl, q, _, dx, _, _, rfl, hq, T.cl_Promise, T.na_Promise_moment, rfl, _, rfl, q, _, dx, _, _, rfl, hq, T.cl_Promise, T.na_Promise_seller, rfl, ?_⟩
  refine ⟨_, rfl, q, _, dx, _, _, rfl, hq, T.cl_Promise, T.na_Promise_buyer, rfl, _, rfl, q, _, dx, _, _, rfl, hq, T.cl_Promise, T.na_Promise_thing, rfl, _, rfl, q, _, dx, _, _, rfl, hq, T.cl_Promise, T.na_Promise_price, rfl, ?_⟩
  refine ⟨by show 6 ≤ sizeLine; decide, fun t1 ht1 => ?_⟩
  have e1 := same_upd (o := .tup [V.int p.num, .int p.mom, .str p.seller, .str p.buyer, .ref p.ta, .int p.price]) (Same.refl H) ht1
  have h1 : upd H t1 (.tup [V.int p.num, .int p.mom, .str p.seller, .str p.buyer, .ref p.ta, .int p.price]) t1 = some (.tup [V.int p.num, .int p.mom, .str p.seller, .str p.buyer, .ref p.ta, .int p.price]) := upd_same
  refine ⟨_, rfl, _, rfl, q, _, dx, _, _, rfl, e1 _ _ hq, T.cl_Promise, T.na_Promise_rule, rfl, _, rfl, q, _, dx, _, _, rfl, e1 _ _ hq, T.cl_Promise, T.na_Promise_offsets, rfl, _, rfl, q, _, dx, _, _, rfl, e1 _ _ hq, T.cl_Promise, T.na_Promise_earnest, rfl, ?_⟩
  refine ⟨by show 3 ≤ sizeLine; decide, fun t2 ht2 => ?_⟩
  have n12 : t1 ≠ t2 := ne_of_none h1 ht2
  refine ⟨t1, t2, _, _, rfl, rfl, SqT.of (by rw [upd_ne n12]; exact h1), SqT.of upd_same, List.cons_ne_nil _ _, (by show 6 + 3 ≤ sizeLine; decide), fun z => (nomatch z), fun _ t3 ht3 => ?_⟩
  have e3 : Same H (upd (upd (upd H t1 (.tup [V.int p.num, .int p.mom, .str p.seller, .str p.buyer, .ref p.ta, .int p.price])) t2 (.tup [V.str "flat", .str (goS p.go), .int p.earn])) t3 (.tup (prVs p))) := same_upd (same_upd e1 (e1.free ht2)) ((same_upd e1 (e1.free ht2)).free ht3)
  exact k t3 _ ((same_upd e1 (e1.free ht2)).free ht3) e3 upd_same
theorem fn_Promise_eq (T : Txt K mg) : ∃ fd, FunD K "__eq__" "Promise.__eq__" (defArgs s_Promise_eq) (defBody s_Promise_eq) (defScope s_Promise_eq) [] [] (He.ma K (He.ga K "Promise") "__eq__") fd ∧
    FnOk P w K mg base CX0 2 (He.ma K (He.ga K "Promise") "__eq__") fd ["self", "other"] (spA 2 (fun vs H Q => spEq (REqProm K) vs H Q E0)) := by
  obtain ⟨fd, F⟩ := T.d_Promise_eq
  refine ⟨fd, F, fn_body F sc_Promise_eq rfl (fun cdv A outer s H vs Q E hr h => ?_)⟩
  have nd := sc_Promise_eq.nd
  have hu := hu_of hr
  obtain ⟨a, b, rfl, ⟨p, A1, A2⟩, k⟩ := h
  refine ⟨_, (pss_cons (ps_if (pt_not (pt_val (pe_callB call_is (by rfl) T.n_isinstance b_isinstance (pa_cons (pv 1) (pa_cons (pe_glob (v := .ref (He.ga K "Promise")) rfl T.g_Promise rfl) pa_nil))))) (pss_one (ps_ret pe_bl)) pss_nil)
      (pss_one (ps_ret (pe_cmpR (op_told hr) (pe_m0 (ok_Promise_told T) (hr.mono (by decide)) (pv 0)) (pe_m0 (ok_Promise_told T) (hr.mono (by decide)) (pv 1)) (nomark _))))), ?_⟩
  obtain ⟨⟨dx, h1⟩, _⟩ := id A1
  obtain ⟨⟨dy, h2⟩, _⟩ := id A2
  refine ⟨_, rfl, _, _, _, rfl, is_Promise T h2, true, rfl, ?_⟩
  refine ⟨_, rfl, a, dx, _, rfl, h1, rfl, rfl, a, p, rfl, A1, fun t1 H1 f1 e1 g1 => ?_⟩
  refine ⟨_, rfl, b, dy, _, rfl, e1 _ _ h2, rfl, rfl, b, p, rfl, A2.same e1, fun t2 H2 f2 e2 g2 => ?_⟩
  refine ⟨⟨t1, t2, _, _, rfl, rfl, SqT.of (e2 _ _ g1), SqT.of g2, ?_⟩, fun H3 e3 => k _ ((Same.trans e1 e2).trans e3)⟩
  exact .cons (flat_int _ _) (.cons (flat_int _ _) (.cons (flat_str _ _) (.cons (flat_str _ _) (.cons (.inr ⟨_, rfl, rfl⟩) (.cons (flat_int _ _) (.cons (flat_str _ _) (.cons (flat_str _ _) (.cons (flat_int _ _) .nil))))))))
theorem ok_Spoiling_init (T : Txt K mg) : Nx P w K mg base (He.ga K "Spoiling") "Spoiling" 3 [] (sp_Spoiling_init K) := by
  obtain ⟨fd, F⟩ := T.d_Spoiling_init
  refine ⟨_, fd, _, [], T.g_Spoiling, T.mk_Spoiling, fn_body F sc_Spoiling_init rfl (fun cdv A outer s H vs Q E hr h => ?_), F.bindsN (fun _ _ _ _ _ _ us hl => match us, hl with | [_, _, _, _], _ => rfl), .nil⟩
  have nd := sc_Spoiling_init.nd
  have hu := hu_of hr
  obtain ⟨q, dx, n, m, b, rfl, hn, hb, hq, k⟩ := h
  refine ⟨_, (pss_cons (ps_set (i := 4) nd rfl (Or.inl rfl) (pe_f (ok_first_wrong T) (hr.mono (by decide)) (pa_cons (pe_lst (pa_cons (pe_tup (pa_cons pe_str (pa_cons (pe_f (ok_is_from T) (hr.mono (by decide)) (pa_cons (pv 1) (pa_cons pe_int pa_nil))) pa_nil))) (pa_cons (pe_tup (pa_cons pe_str (pa_cons (pe_f (ok_is_from T) (hr.mono (by decide)) (pa_cons (pv 2) (pa_cons pe_int pa_nil))) pa_nil))) (pa_cons (pe_tup (pa_cons pe_str (pa_cons (pe_f (ok_is_name T) (hr.mono (by decide)) (pa_cons (pv 3) pa_nil)) pa_nil))) pa_nil)))) pa_nil)))
      (pss_cons (ps_if (pt_cmpR op_notN (pv 4) pe_non (nomark _)) (pss_one ps_never) pss_nil)
      (pss_cons (ps_fld (pv 0) (pv 1) rfl)
      (pss_cons (ps_fld (pv 0) (pv 2) rfl)
      (pss_one (ps_fld (pv 0) (pv 3) rfl)))))), ?_⟩
  refine evlst_call 3 (evrows_cons (evrow_from (by rfl) (by omega)) (evrows_cons (evrow_from (by rfl) (by omega)) (evrows_cons (evrow_name (by rfl) hb) evrows_nil))) (by decide) fun r1 H1 f1 e1 R1 => ?_
  refine ⟨rfl, r1, _, rfl, R1, _, rfl, rfl, _, rfl, ?_⟩
  refine ⟨_, rfl, _, rfl, q, _, dx, [], rfl, e1 _ _ hq, T.cl_Spoiling, T.na_Spoiling_number, (by show 0 < 1000; decide), ?_⟩
  refine ⟨_, rfl, _, rfl, q, _, dx, _, rfl, upd_same, T.cl_Spoiling, T.na_Spoiling_moment, (by show 1 < 1000; decide), ?_⟩
  refine ⟨_, rfl, _, rfl, q, _, dx, _, rfl, upd_same, T.cl_Spoiling, T.na_Spoiling_bed, (by show 2 < 1000; decide), ?_⟩
  refine k _ (fun c o hc z => ?_) upd_same
  simp only [upd_upd]
  rw [upd_ne hc]
  exact e1 _ _ z
theorem fn_Spoiling_eq (T : Txt K mg) : ∃ fd, FunD K "__eq__" "Spoiling.__eq__" (defArgs s_Spoiling_eq) (defBody s_Spoiling_eq) (defScope s_Spoiling_eq) [] [] (He.ma K (He.ga K "Spoiling") "__eq__") fd ∧
    FnOk P w K mg base CX0 2 (He.ma K (He.ga K "Spoiling") "__eq__") fd ["self", "other"] (spA 2 (fun vs H Q => spEq (REqSpoil K) vs H Q E0)) := by
  obtain ⟨fd, F⟩ := T.d_Spoiling_eq
  refine ⟨fd, F, fn_body F sc_Spoiling_eq rfl (fun cdv A outer s H vs Q E hr h => ?_)⟩
  have nd := sc_Spoiling_eq.nd
  have hu := hu_of hr
  obtain ⟨a, b, rfl, ⟨n, m, x, ⟨dx, h1⟩, ⟨dy, h2⟩⟩, k⟩ := h
  refine ⟨_, (pss_cons (ps_if (pt_not (pt_val (pe_callB call_is (by rfl) T.n_isinstance b_isinstance (pa_cons (pv 1) (pa_cons (pe_glob (v := .ref (He.ga K "Spoiling")) rfl T.g_Spoiling rfl) pa_nil))))) (pss_one (ps_ret pe_bl)) pss_nil)
      (pss_one (ps_ret (pe_cmpR (op_told hr) (pe_tup (pa_cons (pe_fld (pv 0) rfl) (pa_cons (pe_fld (pv 0) rfl) (pa_cons (pe_fld (pv 0) rfl) pa_nil)))) (pe_tup (pa_cons (pe_fld (pv 1) rfl) (pa_cons (pe_fld (pv 1) rfl) (pa_cons (pe_fld (pv 1) rfl) pa_nil)))) (nomark _))))), ?_⟩
  refine ⟨_, rfl, _, _, _, rfl, is_Spoiling T h2, true, rfl, ?_⟩
  refine ⟨_, rfl, a, _, dx, _, _, rfl, h1, T.cl_Spoiling, T.na_Spoiling_number, rfl, _, rfl, a, _, dx, _, _, rfl, h1, T.cl_Spoiling, T.na_Spoiling_moment, rfl, _, rfl, a, _, dx, _, _, rfl, h1, T.cl_Spoiling, T.na_Spoiling_bed, rfl, ?_⟩
  refine ⟨by show 3 ≤ sizeLine; decide, fun t1 ht1 => ?_⟩
  have e1 := same_upd (o := .tup [V.int (n : Nat), .int (m : Nat), .str x]) (Same.refl H) ht1
  have g1 : upd H t1 (.tup [V.int (n : Nat), .int (m : Nat), .str x]) t1 = some (.tup [V.int (n : Nat), .int (m : Nat), .str x]) := upd_same
  refine ⟨_, rfl, b, _, dy, _, _, rfl, e1 _ _ h2, T.cl_Spoiling, T.na_Spoiling_number, rfl, _, rfl, b, _, dy, _, _, rfl, e1 _ _ h2, T.cl_Spoiling, T.na_Spoiling_moment, rfl, _, rfl, b, _, dy, _, _, rfl, e1 _ _ h2, T.cl_Spoiling, T.na_Spoiling_bed, rfl, ?_⟩
  refine ⟨by show 3 ≤ sizeLine; decide, fun t2 ht2 => ?_⟩
  have n12 : t1 ≠ t2 := ne_of_none g1 ht2
  refine ⟨⟨t1, t2, _, _, rfl, rfl, SqT.of (by rw [upd_ne n12]; exact g1), SqT.of upd_same, ?_⟩, fun H3 e3 => k _ ((same_upd e1 (e1.free ht2)).trans e3)⟩
  exact .cons (flat_int _ _) (.cons (flat_int _ _) (.cons (flat_str _ _) .nil))
theorem ok_is_line (T : Txt K mg) : Fx P w K mg base "is_line" 1 [] (sp_is_line K) := by
  obtain ⟨fd, F⟩ := T.d_is_line
  refine ⟨_, fd, _, [], T.g_is_line, F.kp, fn_body F sc_is_line rfl (fun cdv A outer s H vs Q E hr h => ?_), F.bindsN (fun _ _ _ _ _ _ us hl => match us, hl with | [_], _ => rfl), .nil⟩
  have nd := sc_is_line.nd
  have hu := hu_of hr
  obtain ⟨v, l, rfl, ⟨q, rfl, A⟩, k⟩ := h
  refine ⟨_, (pss_one (ps_ret (pe_or (pe_callB call_is (by rfl) T.n_isinstance b_isinstance (pa_cons (pv 0) (pa_cons (pe_glob (v := .ref (He.ga K "Promise")) rfl T.g_Promise rfl) pa_nil))) (pe_one (pe_callB call_is (by rfl) T.n_isinstance b_isinstance (pa_cons (pv 0) (pa_cons (pe_glob (v := .ref (He.ga K "Spoiling")) rfl T.g_Spoiling rfl) pa_nil))))))), ?_⟩
  cases l with
  | prom p =>
    obtain ⟨⟨dx, h1⟩, _⟩ := A
    exact ⟨_, rfl, _, _, _, rfl, is_Promise T h1, true, rfl, k⟩
  | spoil n m b =>
    obtain ⟨dx, h1⟩ := A
    exact ⟨_, rfl, _, _, _, rfl, is_SpoilingPromise T h1, false, rfl, _, rfl, _, _, _, rfl, is_Spoiling T h1, k⟩
theorem ok_when (T : Txt K mg) : Fx P w K mg base "when" 1 [] (sp_when K) := by
  obtain ⟨fd, F⟩ := T.d_when
  refine ⟨_, fd, _, [], T.g_when, F.kp, fn_body F sc_when rfl (fun cdv A outer s H vs Q E hr h => ?_), F.bindsN (fun _ _ _ _ _ _ us hl => match us, hl with | [_], _ => rfl), .nil⟩
  have nd := sc_when.nd
  have hu := hu_of hr
  obtain ⟨v, l, rfl, ⟨q, rfl, A⟩, k⟩ := h
  refine ⟨_, (pss_one (ps_ret (pe_tup (pa_cons (pe_fld (pv 0) rfl) (pa_cons (pe_fld (pv 0) rfl) pa_nil))))), ?_⟩
  cases l with
  | prom p =>
    obtain ⟨⟨dx, h1⟩, _⟩ := A
    exact ⟨_, rfl, q, _, dx, _, _, rfl, h1, T.cl_Promise, T.na_Promise_moment, rfl, _, rfl, q, _, dx, _, _, rfl, h1, T.cl_Promise, T.na_Promise_number, rfl, (by show 2 ≤ sizeLine; decide), k⟩
  | spoil n m b =>
    obtain ⟨dx, h1⟩ := A
    exact ⟨_, rfl, q, _, dx, _, _, rfl, h1, T.cl_Spoiling, T.na_Spoiling_moment, rfl, _, rfl, q, _, dx, _, _, rfl, h1, T.cl_Spoiling, T.na_Spoiling_number, rfl, (by show 2 ≤ sizeLine; decide), k⟩
end
end RP
set_option Elab.async false
set_option linter.all false
set_option maxRecDepth 100000
set_option maxHeartbeats 400000
/-! rootpledge k80: the pure mirror: a field's standing after lines in time -/
namespace RP
open PySem PySem.Spec PyProof.Rows L2
/-- a thing as a key -/
inductive GK where
  | sh (b : Str)
  | it (r : Bool) (b : Str) (k : Nat)
  deriving DecidableEq
def itS (r : Bool) : Str := if r then "root" else "offsets"
def GK.key : GK → List Key
  | .sh b => [.inr "share", .inr b]
  | .it r b k => [.inr (itS r), .inr b, .inl (k : Nat)]
def GK.data : GK → PyData
  | .sh b => .tuple [.str "share", .str b]
  | .it r b k => .tuple [.str (itS r), .str b, .int (k : Nat)]
theorem itS_inj {a b : Bool} (h : itS a = itS b) : a = b := by
  cases a <;> cases b
  · rfl
  · exact absurd h (by decide +kernel)
  · exact absurd h (by decide +kernel)
  · rfl
theorem GK.key_inj {g h : GK} (e : g.key = h.key) : g = h := by
  cases g with
  | sh b =>
    cases h with
    | sh c =>
      injection e with _ e
      injection e with e _
      injection e with e
      rw [e]
    | it r c k =>
      have := congrArg List.length e
      cases this
  | it r b k =>
    cases h with
    | sh c =>
      have := congrArg List.length e
      cases this
    | it r2 c k2 =>
      injection e with e1 e
      injection e with e2 e
      injection e with e3 _
      injection e1 with e1
      injection e2 with e2
      injection e3 with e3
      have e4 : k = k2 := by omega
      rw [itS_inj e1, e2, e4]
theorem GK.eqv (g h : GK) : PyData.eqv g.data h.data = decide (g = h) := by
  have st : ∀ a b : Str, PyData.eqv (.str a) (.str b) = (a == b) := fun a b => by simp only [PyData.eqv]
  have it : ∀ a b : Int, PyData.eqv (.int a) (.int b) = (a == b) := fun a b => by simp only [PyData.eqv]
  have hs : ∀ a b : Str, (a == b) = decide (a = b) := fun a b => by
    rw [Bool.eq_iff_iff]
    simp
  have hi : ∀ a b : Nat, (((a : Nat) : Int) == ((b : Nat) : Int)) = decide (a = b) := fun a b => by
    rw [Bool.eq_iff_iff]
    simp
    omega
  have hr : ∀ a b : Bool, decide (itS a = itS b) = decide (a = b) := fun a b => by
    rw [decide_eq_decide]
    exact ⟨itS_inj, fun e => by rw [e]⟩
  cases g with
  | sh b =>
    cases h with
    | sh c =>
      simp only [GK.data, PyData.eqv, PyData.eqvAll, hs, GK.sh.injEq]
      simp
    | it r c k =>
      simp only [GK.data, PyData.eqv, PyData.eqvAll, hs]
      simp
  | it r b k =>
    cases h with
    | sh c =>
      simp only [GK.data, PyData.eqv, PyData.eqvAll, hs]
      simp
    | it r2 c k2 =>
      simp only [GK.data, PyData.eqv, PyData.eqvAll, hs, hi, hr, GK.it.injEq, Bool.decide_and, Bool.and_true]
theorem any_gk (ks : List GK) (g : GK) : ((ks.map GK.data).any fun z => PyData.eqv z g.data) = decide (g ∈ ks) := by
  rw [Bool.eq_iff_iff, List.any_eq_true, decide_eq_true_iff]
  constructor
  · rintro ⟨d, hd, e⟩
    obtain ⟨h, hh, rfl⟩ := List.mem_map.mp hd
    rw [GK.eqv] at e
    rw [← of_decide_eq_true e]
    exact hh
  · intro h
    exact ⟨_, List.mem_map.mpr ⟨g, h, rfl⟩, by rw [GK.eqv]; exact decide_eq_true rfl⟩
def Th.gk (t : Th) : GK := match t.kd with
  | .share => .sh t.bed
  | .root => .it true t.bed t.k
  | .offs => .it false t.bed t.k
/-! ### small tables -/
def sget : List (Str × Nat) → Str → Option Nat
  | [], _ => none
  | (m, u) :: r, n => if m = n then some u else sget r n
def pget (l : List (Str × Nat)) (n : Str) : Nat := (sget l n).getD 0
def pput : List (Str × Nat) → Str → Nat → List (Str × Nat)
  | [], n, u => [(n, u)]
  | (m, v) :: r, n, u => if m = n then (m, u) :: r else (m, v) :: pput r n u
def psum (l : List (Str × Nat)) : Nat := (l.map (·.2)).sum
theorem psum_cons (m : Str) (v : Nat) (r : List (Str × Nat)) : psum ((m, v) :: r) = v + psum r := by simp [psum]
theorem pget_cons (m n : Str) (v : Nat) (r : List (Str × Nat)) : pget ((m, v) :: r) n = if m = n then v else pget r n := by
  unfold pget
  rw [sget]
  by_cases h : m = n
  · rw [if_pos h, if_pos h]
    rfl
  · rw [if_neg h, if_neg h]
theorem psum_pput : ∀ (l : List (Str × Nat)) (n : Str) (u : Nat), psum (pput l n u) + pget l n = psum l + u
  | [], n, u => by simp [psum, pput, pget, sget]
  | (m, v) :: r, n, u => by
    rw [pget_cons, pput]
    by_cases h : m = n
    · rw [if_pos h, if_pos h, psum_cons, psum_cons]
      omega
    · rw [if_neg h, if_neg h, psum_cons, psum_cons]
      have := psum_pput r n u
      omega
theorem pget_le : ∀ (l : List (Str × Nat)) (n : Str), pget l n ≤ psum l
  | [], n => by simp [pget, sget]
  | (m, v) :: r, n => by
    rw [pget_cons, psum_cons]
    have := pget_le r n
    by_cases h : m = n
    · rw [if_pos h]
      omega
    · rw [if_neg h]
      omega
theorem mem_psum : ∀ {l : List (Str × Nat)} {x : Str × Nat}, x ∈ l → x.2 ≤ psum l
  | [], x, h => nomatch h
  | (m, v) :: r, x, h => by
    rw [psum_cons]
    rcases List.mem_cons.mp h with rfl | h
    · exact Nat.le_add_right _ _
    · have := mem_psum h
      omega
theorem pput_keys : ∀ (l : List (Str × Nat)) (n : Str) (u : Nat), (pput l n u).map (·.1) = if n ∈ l.map (·.1) then l.map (·.1) else l.map (·.1) ++ [n]
  | [], n, u => by simp [pput]
  | (m, v) :: r, n, u => by
    rw [pput]
    by_cases h : m = n
    · rw [if_pos h, if_pos (by simp [h])]
      rfl
    · rw [if_neg h, List.map_cons, pput_keys r n u, List.map_cons]
      by_cases h2 : n ∈ r.map (·.1)
      · rw [if_pos h2, if_pos (List.mem_cons_of_mem _ h2)]
      · rw [if_neg h2, if_neg (fun z => (List.mem_cons.mp z).elim (fun z => h z.symm) h2)]
        rfl
theorem pput_nd {l : List (Str × Nat)} {n : Str} {u : Nat} (h : (l.map (·.1)).Nodup) : ((pput l n u).map (·.1)).Nodup := by
  rw [pput_keys]
  by_cases h2 : n ∈ l.map (·.1)
  · rw [if_pos h2]
    exact h
  · rw [if_neg h2]
    exact nd_snoc h h2
theorem pput_len (l : List (Str × Nat)) (n : Str) (u : Nat) : (pput l n u).length ≤ l.length + 1 := by
  have h := congrArg List.length (pput_keys l n u)
  rw [List.length_map] at h
  rw [h]
  by_cases h2 : n ∈ l.map (·.1)
  · rw [if_pos h2, List.length_map]
    omega
  · rw [if_neg h2, List.length_append, List.length_map]
    all_goals simp
theorem pput_mem {l : List (Str × Nat)} {n : Str} {u : Nat} {x : Str} (h : x ∈ (pput l n u).map (·.1)) : x ∈ l.map (·.1) ∨ x = n := by
  rw [pput_keys] at h
  by_cases h2 : n ∈ l.map (·.1)
  · rw [if_pos h2] at h
    exact .inl h
  · rw [if_neg h2] at h
    rcases List.mem_append.mp h with h | h
    · exact .inl h
    · exact .inr (List.mem_singleton.mp h)
theorem sget_none : ∀ {l : List (Str × Nat)} {n : Str}, sget l n = none ↔ ¬ n ∈ l.map (·.1)
  | [], n => by simp [sget]
  | (m, v) :: r, n => by
    rw [sget]
    by_cases h : m = n
    · rw [if_pos h]
      simp [h]
    · rw [if_neg h, sget_none, List.map_cons, List.mem_cons]
      constructor
      · rintro a (b | b)
        · exact h b.symm
        · exact a b
      · intro a b
        exact a (.inr b)
theorem pget_mem {l : List (Str × Nat)} {n : Str} (h : 0 < pget l n) : ∃ u, sget l n = some u ∧ u = pget l n := by
  unfold pget at h ⊢
  cases e : sget l n with
  | none =>
    rw [e] at h
    exact absurd h (by simp)
  | some u => exact ⟨u, rfl, rfl⟩
theorem sget_put : ∀ (l : List (Str × Nat)) (n : Str) (u : Nat) (m : Str), sget (pput l n u) m = if n = m then some u else sget l m
  | [], n, u, m => by
    rw [pput, sget]
    rfl
  | (a, v) :: r, n, u, m => by
    rw [pput]
    by_cases h : a = n
    · subst h
      rw [if_pos rfl, sget, sget]
      by_cases h2 : a = m
      · rw [if_pos h2, if_pos h2]
      · rw [if_neg h2, if_neg h2, if_neg h2]
    · rw [if_neg h, sget, sget_put r n u m, sget]
      by_cases h2 : a = m
      · subst h2
        rw [if_pos rfl, if_neg (fun z => h z.symm), if_pos rfl]
      · rw [if_neg h2, if_neg h2]
theorem mem_sget : ∀ {l : List (Str × Nat)} {x : Str × Nat}, (l.map (·.1)).Nodup → x ∈ l → sget l x.1 = some x.2
  | [], x, _, h => nomatch h
  | (m, v) :: r, x, hn, h => by
    have hn2 : ¬ m ∈ r.map (·.1) ∧ (r.map (·.1)).Nodup := List.nodup_cons.mp hn
    rw [sget]
    rcases List.mem_cons.mp h with rfl | h
    · rw [if_pos rfl]
    · rw [if_neg (fun z => hn2.1 (by rw [z]; exact List.mem_map.mpr ⟨x, h, rfl⟩))]
      exact mem_sget hn2.2 h
/-! ### the standing -/
structure Ent where
  num : Nat
  seller : Str
  keys : List GK
  bed : Str
inductive Vd where
  | spoiled (n : Nat)
  | never
  | clash (n : Nat)
structure PS where
  held : GK → Option Str
  parts : Str → List (Str × Nat)
  spoilt : List (Str × Nat)
  good : List Ent
  voids : List (Nat × Vd)
  gone : List Nat
def backH (held : GK → Option Str) (b : BedR) : GK → Option Str
  | .it r x k => if x = b.name ∧ 1 ≤ k ∧ k ≤ b.roots then some b.owner else held (.it r x k)
  | .sh x => held (.sh x)
def backP (parts : Str → List (Str × Nat)) (b : BedR) : Str → List (Str × Nat) := fun x => if x = b.name then [(b.owner, 27720)] else parts x
def PS.back (st : PS) (b : BedR) : PS := { st with held := backH st.held b, parts := backP st.parts b }
def PS.zero : PS := ⟨fun _ => none, fun _ => [], [], [], [], []⟩
def PS.begin (bs : List BedR) : PS := bs.foldl PS.back PS.zero
def PS.keys (st : PS) (p : Pr) : List GK := if p.th.kd = .root ∧ p.go = true ∧ st.held (.it false p.th.bed p.th.k) = some p.seller then [p.th.gk, .it false p.th.bed p.th.k] else [p.th.gk]
def PS.holds (st : PS) (p : Pr) : Bool := if p.th.kd = .share then decide (p.th.k ≤ pget (st.parts p.th.bed) p.seller) else decide (st.held p.th.gk = some p.seller)
def PS.ahead (st : PS) (p : Pr) : List Nat := (st.good.filter fun e => decide (e.seller = p.seller) && decide (p.th.gk ∈ e.keys)).map (·.num)
/-- the seller's and the buyer's units after u go over -/
def shift (l : List (Str × Nat)) (s b : Str) (u : Nat) : List (Str × Nat) := pput (pput l s (pget l s - u)) b (pget (pput l s (pget l s - u)) b + u)
def PS.app (st : PS) (p : Pr) : List Ent := st.good ++ [⟨p.num, p.seller, st.keys p, p.th.bed⟩]
def PS.go (st : PS) (p : Pr) : PS :=
  if p.th.kd = .share then { st with parts := fun x => if x = p.th.bed then shift (st.parts x) p.seller p.buyer p.th.k else st.parts x, good := st.app p }
  else { st with held := fun g => if g ∈ st.keys p then some p.buyer else st.held g, good := st.app p }
def vdOf (st : PS) (p : Pr) : Vd := match (st.ahead p).getLast? with
  | none => .never
  | some n => .clash n
def PS.void (st : PS) (p : Pr) : PS := { st with voids := st.voids ++ [(p.num, match sget st.spoilt p.th.bed with
  | some n => Vd.spoiled n
  | none => vdOf st p)] }
def PS.prom (st : PS) (p : Pr) : PS := if (sget st.spoilt p.th.bed = none ∧ st.holds p = true) then st.go p else st.void p
def PS.undo (st : PS) (n : Nat) (x : Str) : PS := { st with spoilt := st.spoilt ++ [(x, n)], gone := st.gone ++ ((st.good.filter fun e => decide (e.bed = x)).map (·.num)).reverse, good := st.good.filter fun e => !decide (e.bed = x) }
def PS.spoil (st : PS) (n : Nat) (b : BedR) : PS := if sget st.spoilt b.name = none then (st.undo n b.name).back b else st
def bedOf (bs : List BedR) (x : Str) : Option BedR := bs.find? fun b => decide (b.name = x)
def PS.step (bs : List BedR) (st : PS) : Ln → PS
  | .prom p => st.prom p
  | .spoil n _ x => match bedOf bs x with
    | some b => st.spoil n b
    | none => st
def led (bs : List BedR) (ls : List Ln) : PS := ls.foldl (PS.step bs) (PS.begin bs)
/-! ### what is true of it -/
structure PrIn (bs : List BedR) (Nm : Str → Prop) (p : Pr) : Prop where
  ok : PrOk p
  th : ThIn bs p.th
  s : Nm p.seller
  b : Nm p.buyer
def LnOk (bs : List BedR) (Nm : Str → Prop) : Ln → Prop
  | .prom p => PrIn bs Nm p
  | .spoil n _ x => 1 ≤ n ∧ ∃ b ∈ bs, b.name = x
def GKok (g : GK) : Prop := match g with
  | .sh b => NameOk b
  | .it _ b _ => NameOk b
structure PSok (bs : List BedR) (Nm : Str → Prop) (n : Nat) (st : PS) : Prop where
  held : ∀ b ∈ bs, ∀ r k, 1 ≤ k → k ≤ b.roots → ∃ x, Nm x ∧ st.held (.it r b.name k) = some x
  sum : ∀ b ∈ bs, psum (st.parts b.name) = 27720
  nd : ∀ b ∈ bs, ((st.parts b.name).map (·.1)).Nodup
  pl : ∀ b ∈ bs, (st.parts b.name).length ≤ n + 1
  pn : ∀ b ∈ bs, ∀ x ∈ (st.parts b.name).map (·.1), Nm x
  sl : st.spoilt.length ≤ n
  snd : (st.spoilt.map (·.1)).Nodup
  sn : ∀ x ∈ st.spoilt.map (·.1), NameOk x
  gl : st.good.length + st.gone.length ≤ n
  vl : st.voids.length ≤ n
  kl : ∀ e ∈ st.good, e.keys.length ≤ 2
  ko : ∀ e ∈ st.good, ∀ g ∈ e.keys, GKok g
theorem bed_same {bs : List BedR} (B : BedsOk bs) {b c : BedR} (hb : b ∈ bs) (hc : c ∈ bs) (e : b.name = c.name) : b = c := by
  obtain ⟨i, hi, rfl⟩ := List.getElem_of_mem hb
  obtain ⟨j, hj, rfl⟩ := List.getElem_of_mem hc
  have h := (List.getElem_inj (xs := bs.map (·.name)) (h₀ := by simpa using hi) (h₁ := by simpa using hj) B.nd).mp (by simpa using e)
  subst h
  rfl
theorem bedOf_some {bs : List BedR} (B : BedsOk bs) {b : BedR} (hb : b ∈ bs) : bedOf bs b.name = some b := by
  unfold bedOf
  cases h : bs.find? fun c => decide (c.name = b.name) with
  | none => exact absurd (List.find?_eq_none.mp h b hb) (by simp)
  | some c =>
    have h1 := List.mem_of_find?_eq_some h
    have h2 := List.find?_some h
    simp only [decide_eq_true_eq] at h2
    rw [bed_same B h1 hb h2]
theorem back_comm {b c : BedR} (h : b.name ≠ c.name) (st : PS) : (st.back b).back c = (st.back c).back b := by
  unfold PS.back
  simp only [PS.mk.injEq, and_true]
  constructor
  · funext g
    cases g with
    | sh x => rfl
    | it r x k =>
      simp only [backH]
      by_cases h1 : x = c.name ∧ 1 ≤ k ∧ k ≤ c.roots
      · by_cases h2 : x = b.name ∧ 1 ≤ k ∧ k ≤ b.roots
        · exact absurd (h2.1.symm.trans h1.1) h
        · rw [if_pos h1, if_neg h2, if_pos h1]
      · rw [if_neg h1, if_neg h1]
  · funext x
    simp only [backP]
    by_cases h1 : x = c.name
    · by_cases h2 : x = b.name
      · exact absurd (h2.symm.trans h1) h
      · rw [if_pos h1, if_neg h2, if_pos h1]
    · rw [if_neg h1, if_neg h1]
theorem begin_perm {bs ys : List BedR} (B : BedsOk bs) (p : ys.Perm bs) : PS.begin ys = PS.begin bs := by
  refine p.foldl_eq' (fun x hx y hy z => ?_) _
  by_cases e : x.name = y.name
  · rw [bed_same B (p.mem_iff.mp hx) (p.mem_iff.mp hy) e]
  · exact back_comm e z

theorem begin_ok {bs : List BedR} {Nm : Str → Prop} (B : BedsOk bs) (hn : ∀ b ∈ bs, Nm b.owner) : PSok bs Nm 0 (PS.begin bs) := by
  have key : ∀ (l : List BedR) (st : PS), (∀ b ∈ l, Nm b.owner) → (l.map (·.name)).Nodup → (∀ b ∈ l, ∀ x k, x = b.name → (l.foldl PS.back st).parts x = [(b.owner, 27720)] ∧ (1 ≤ k → k ≤ b.roots → ∀ r, (l.foldl PS.back st).held (.it r x k) = some b.owner)) ∧
      (∀ x, ¬ x ∈ l.map (·.name) → (l.foldl PS.back st).parts x = st.parts x ∧ ∀ r k, (l.foldl PS.back st).held (.it r x k) = st.held (.it r x k)) ∧
      (l.foldl PS.back st).spoilt = st.spoilt ∧ (l.foldl PS.back st).good = st.good ∧ (l.foldl PS.back st).voids = st.voids ∧ (l.foldl PS.back st).gone = st.gone := by
    intro l
    induction l with
    | nil => exact fun st _ _ => ⟨fun b h => (nomatch h), fun x _ => ⟨rfl, fun _ _ => rfl⟩, rfl, rfl, rfl, rfl⟩
    | cons b l ih =>
      intro st ho nd
      have nd2 : ¬ b.name ∈ l.map (·.name) ∧ (l.map (·.name)).Nodup := List.nodup_cons.mp nd
      obtain ⟨i1, i2, i3⟩ := ih (st.back b) (fun c h => ho c (List.mem_cons_of_mem _ h)) nd2.2
      refine ⟨fun c hc x k e => ?_, fun x hx => ?_, i3⟩
      · rcases List.mem_cons.mp hc with rfl | hc
        · obtain ⟨j1, j2⟩ := i2 c.name nd2.1
          subst e
          refine ⟨?_, fun h1 h2 r => ?_⟩
          · show (l.foldl PS.back (st.back c)).parts c.name = _
            rw [j1]
            show backP st.parts c c.name = _
            rw [backP, if_pos rfl]
          · show (l.foldl PS.back (st.back c)).held _ = _
            rw [j2]
            show backH st.held c (.it r c.name k) = _
            rw [backH, if_pos ⟨rfl, h1, h2⟩]
        · exact i1 c hc x k e
      · rw [List.map_cons, List.mem_cons] at hx
        obtain ⟨j1, j2⟩ := i2 x fun z => hx (.inr z)
        refine ⟨?_, fun r k => ?_⟩
        · show (l.foldl PS.back (st.back b)).parts x = _
          rw [j1]
          show backP st.parts b x = _
          rw [backP, if_neg (fun z => hx (.inl z))]
        · show (l.foldl PS.back (st.back b)).held _ = _
          rw [j2]
          show backH st.held b (.it r x k) = _
          rw [backH, if_neg (fun z => hx (.inl z.1))]
  obtain ⟨k1, _, k3, k4, k5, k6⟩ := key bs PS.zero hn B.nd
  have hp : ∀ b ∈ bs, (PS.begin bs).parts b.name = [(b.owner, 27720)] := fun b hb => (k1 b hb b.name 0 rfl).1
  have z1 : (PS.begin bs).spoilt = [] := k3
  have z2 : (PS.begin bs).good = [] := k4
  have z3 : (PS.begin bs).voids = [] := k5
  have z4 : (PS.begin bs).gone = [] := k6
  refine ⟨fun b hb r k h1 h2 => ⟨b.owner, hn b hb, (k1 b hb b.name k rfl).2 h1 h2 r⟩, fun b hb => by rw [hp b hb]; rfl, fun b hb => by rw [hp b hb]; exact List.nodup_cons.mpr ⟨fun z => (nomatch z), List.nodup_nil⟩, fun b hb => by rw [hp b hb]; exact Nat.le_refl _, fun b hb x hx => ?_,
    by rw [z1]; exact Nat.le_refl _, by rw [z1]; exact List.nodup_nil, by rw [z1]; exact fun x h => (nomatch h), by rw [z2, z4]; exact Nat.le_refl _, by rw [z3]; exact Nat.le_refl _, by rw [z2]; exact fun e h => (nomatch h), by rw [z2]; exact fun e h => nomatch h⟩
  rw [hp b hb] at hx
  rw [List.mem_singleton.mp hx]
  exact hn b hb
theorem keys_len (st : PS) (p : Pr) : (st.keys p).length ≤ 2 := by
  unfold PS.keys
  split
  · exact Nat.le_refl _
  · exact Nat.le_succ _
theorem gk_ok {p : Pr} (h : ThOk p.th) : GKok p.th.gk := by
  unfold Th.gk
  have := h.nm
  cases p.th.kd <;> exact this
theorem keys_ok {st : PS} {p : Pr} (h : ThOk p.th) : ∀ g ∈ st.keys p, GKok g := by
  intro g hg
  unfold PS.keys at hg
  split at hg
  · rcases List.mem_cons.mp hg with rfl | hg
    · exact gk_ok h
    · rw [List.mem_singleton.mp hg]
      exact h.nm
  · rw [List.mem_singleton.mp hg]
    exact gk_ok h
theorem keys_head (st : PS) (p : Pr) : ∃ r, st.keys p = p.th.gk :: r := by
  unfold PS.keys
  split
  · exact ⟨_, rfl⟩
  · exact ⟨_, rfl⟩
section
variable {bs : List BedR} {Nm : Str → Prop} {n : Nat} {st : PS}
theorem PSok.mono {m : Nat} (h : PSok bs Nm n st) (e : n ≤ m) : PSok bs Nm m st :=
  ⟨h.held, h.sum, h.nd, fun b hb => Nat.le_trans (h.pl b hb) (Nat.succ_le_succ e), h.pn, Nat.le_trans h.sl e, h.snd, h.sn, Nat.le_trans h.gl e, Nat.le_trans h.vl e, h.kl, h.ko⟩
/-- what a shift keeps -/
theorem shift_ok {l : List (Str × Nat)} {s b : Str} {u : Nat} (hne : b ≠ s) (hu : u ≤ pget l s) (nd : (l.map (·.1)).Nodup) (h0 : 0 < u) : psum (shift l s b u) = psum l ∧ ((shift l s b u).map (·.1)).Nodup ∧ (shift l s b u).length ≤ l.length + 1 ∧ ∀ x ∈ (shift l s b u).map (·.1), x ∈ l.map (·.1) ∨ x = b := by
  have e1 := psum_pput l s (pget l s - u)
  have e2 := psum_pput (pput l s (pget l s - u)) b (pget (pput l s (pget l s - u)) b + u)
  have e3 := pget_le l s
  obtain ⟨v, hv, _⟩ := pget_mem (l := l) (n := s) (by omega)
  have hs : s ∈ l.map (·.1) := by
    cases h : decide (s ∈ l.map (·.1)) with
    | true => exact of_decide_eq_true h
    | false =>
      rw [sget_none.mpr (of_decide_eq_false h)] at hv
      exact absurd hv (by simp)
  have hl : (pput l s (pget l s - u)).length = l.length := by
    have h := congrArg List.length (pput_keys l s (pget l s - u))
    rw [if_pos hs, List.length_map, List.length_map] at h
    exact h
  refine ⟨by unfold shift; omega, pput_nd (pput_nd nd), ?_, fun x hx => ?_⟩
  · have := pput_len (pput l s (pget l s - u)) b (pget (pput l s (pget l s - u)) b + u)
    rw [hl] at this
    exact this
  · rcases pput_mem hx with hx | hx
    · rcases pput_mem hx with hx | hx
      · exact .inl hx
      · rw [hx]
        exact .inl hs
    · exact .inr hx
theorem go_ok {p : Pr} (B : BedsOk bs) (h : PSok bs Nm n st) (q : PrIn bs Nm p) (hh : st.holds p = true) : PSok bs Nm (n + 1) (st.go p) := by
  have ga : (st.app p).length + st.gone.length ≤ n + 1 := by
    have := h.gl
    unfold PS.app
    rw [List.length_append]
    show _ + 1 + _ ≤ _
    omega
  have kl : ∀ e ∈ st.app p, e.keys.length ≤ 2 := fun e he => by
    rcases List.mem_append.mp he with he | he
    · exact h.kl e he
    · rw [List.mem_singleton.mp he]
      exact keys_len st p
  have ko : ∀ e ∈ st.app p, ∀ g ∈ e.keys, GKok g := fun e he => by
    rcases List.mem_append.mp he with he | he
    · exact h.ko e he
    · rw [List.mem_singleton.mp he]
      exact keys_ok q.ok.th
  unfold PS.go
  by_cases hk : p.th.kd = .share
  · rw [if_pos hk]
    have hu : p.th.k ≤ pget (st.parts p.th.bed) p.seller := by
      unfold PS.holds at hh
      rw [if_pos hk] at hh
      exact of_decide_eq_true hh
    have sh : ∀ b ∈ bs, b.name = p.th.bed → psum (shift (st.parts p.th.bed) p.seller p.buyer p.th.k) = psum (st.parts p.th.bed) ∧ ((shift (st.parts p.th.bed) p.seller p.buyer p.th.k).map (·.1)).Nodup ∧ (shift (st.parts p.th.bed) p.seller p.buyer p.th.k).length ≤ (st.parts p.th.bed).length + 1 ∧ ∀ x ∈ (shift (st.parts p.th.bed) p.seller p.buyer p.th.k).map (·.1), x ∈ (st.parts p.th.bed).map (·.1) ∨ x = p.buyer := fun b hb e => shift_ok (l := st.parts p.th.bed) q.ok.ne hu (by rw [← e]; exact h.nd b hb) q.ok.th.k1
    refine ⟨h.held, fun b hb => ?_, fun b hb => ?_, fun b hb => ?_, fun b hb => ?_, Nat.le_succ_of_le h.sl, h.snd, h.sn, ga, Nat.le_succ_of_le h.vl, kl, ko⟩
    · show psum (if b.name = p.th.bed then _ else _) = _
      by_cases e : b.name = p.th.bed
      · rw [if_pos e, e, (sh b hb e).1, ← e]
        exact h.sum b hb
      · rw [if_neg e]
        exact h.sum b hb
    · show ((if b.name = p.th.bed then _ else _ : List (Str × Nat)).map (·.1)).Nodup
      by_cases e : b.name = p.th.bed
      · rw [if_pos e, e]
        exact (sh b hb e).2.1
      · rw [if_neg e]
        exact h.nd b hb
    · show (if b.name = p.th.bed then _ else _ : List (Str × Nat)).length ≤ _
      by_cases e : b.name = p.th.bed
      · rw [if_pos e, e]
        have h1 := (sh b hb e).2.2.1
        have h2 := h.pl b hb
        rw [e] at h2
        omega
      · rw [if_neg e]
        exact Nat.le_succ_of_le (h.pl b hb)
    · show ∀ x ∈ (if b.name = p.th.bed then _ else _ : List (Str × Nat)).map (·.1), _
      by_cases e : b.name = p.th.bed
      · rw [if_pos e, e]
        intro x hx
        rcases (sh b hb e).2.2.2 x hx with hx | hx
        · rw [← e] at hx
          exact h.pn b hb x hx
        · rw [hx]
          exact q.b
      · rw [if_neg e]
        exact h.pn b hb
  · rw [if_neg hk]
    refine ⟨fun b hb r k h1 h2 => ?_, h.sum, h.nd, fun b hb => Nat.le_succ_of_le (h.pl b hb), h.pn, Nat.le_succ_of_le h.sl, h.snd, h.sn, ga, Nat.le_succ_of_le h.vl, kl, ko⟩
    show ∃ x, Nm x ∧ (if GK.it r b.name k ∈ st.keys p then some p.buyer else st.held (.it r b.name k)) = some x
    split
    · exact ⟨p.buyer, q.b, rfl⟩
    · exact h.held b hb r k h1 h2
theorem void_ok {p : Pr} (h : PSok bs Nm n st) : PSok bs Nm (n + 1) (st.void p) :=
  ⟨h.held, h.sum, h.nd, fun b hb => Nat.le_succ_of_le (h.pl b hb), h.pn, Nat.le_succ_of_le h.sl, h.snd, h.sn, Nat.le_succ_of_le h.gl, by
    show (st.voids ++ _).length ≤ _
    rw [List.length_append]
    exact Nat.succ_le_succ h.vl, h.kl, h.ko⟩
theorem prom_ok {p : Pr} (B : BedsOk bs) (h : PSok bs Nm n st) (q : PrIn bs Nm p) : PSok bs Nm (n + 1) (st.prom p) := by
  unfold PS.prom
  by_cases c : sget st.spoilt p.th.bed = none ∧ st.holds p = true
  · rw [if_pos c]
    exact go_ok B h q c.2
  · rw [if_neg c]
    exact void_ok h
theorem filter2 {α : Type} (f : α → Bool) : ∀ l : List α, (l.filter fun e => f e).length + (l.filter fun e => !f e).length = l.length
  | [] => rfl
  | a :: l => by
    have := filter2 f l
    rw [List.filter_cons, List.filter_cons, List.length_cons]
    cases f a
    · simp only [Bool.not_false, if_true, Bool.false_eq_true, if_false, List.length_cons]
      omega
    · simp only [Bool.not_true, if_true, Bool.false_eq_true, if_false, List.length_cons]
      omega
theorem back_ok {b : BedR} (B : BedsOk bs) (hb : b ∈ bs) (hn : Nm b.owner) (h : PSok bs Nm n st) : PSok bs Nm n (st.back b) := by
  have hp : ∀ c ∈ bs, (st.back b).parts c.name = [(b.owner, 27720)] ∨ (st.back b).parts c.name = st.parts c.name := fun c hc => by
    show backP st.parts b c.name = _ ∨ backP st.parts b c.name = _
    unfold backP
    by_cases e : c.name = b.name
    · rw [if_pos e]
      exact .inl rfl
    · rw [if_neg e]
      exact .inr rfl
  refine ⟨fun c hc r k h1 h2 => ?_, fun c hc => ?_, fun c hc => ?_, fun c hc => ?_, fun c hc => ?_, h.sl, h.snd, h.sn, h.gl, h.vl, h.kl, h.ko⟩
  · show ∃ x, Nm x ∧ backH st.held b (.it r c.name k) = some x
    unfold backH
    simp only
    by_cases e : c.name = b.name ∧ 1 ≤ k ∧ k ≤ b.roots
    · rw [if_pos e]
      exact ⟨_, hn, rfl⟩
    · rw [if_neg e]
      exact h.held c hc r k h1 h2
  · rcases hp c hc with e | e
    · rw [e]
      rfl
    · rw [e]
      exact h.sum c hc
  · rcases hp c hc with e | e
    · rw [e]
      exact List.nodup_cons.mpr ⟨fun z => (nomatch z), List.nodup_nil⟩
    · rw [e]
      exact h.nd c hc
  · rcases hp c hc with e | e
    · rw [e]
      exact Nat.succ_le_succ (Nat.zero_le _)
    · rw [e]
      exact h.pl c hc
  · rcases hp c hc with e | e
    · rw [e]
      intro x hx
      rw [List.mem_singleton.mp hx]
      exact hn
    · rw [e]
      exact h.pn c hc
theorem spoil_ok {b : BedR} {m : Nat} (B : BedsOk bs) (hb : b ∈ bs) (hn : Nm b.owner) (h : PSok bs Nm n st) : PSok bs Nm (n + 1) (st.spoil m b) := by
  unfold PS.spoil
  by_cases c : sget st.spoilt b.name = none
  · rw [if_pos c]
    refine back_ok B hb hn ?_
    refine ⟨h.held, h.sum, h.nd, fun b hb => Nat.le_succ_of_le (h.pl b hb), h.pn, ?_, ?_, ?_, ?_, Nat.le_succ_of_le h.vl, fun e he => h.kl e (List.mem_filter.mp he).1, fun e he => h.ko e (List.mem_filter.mp he).1⟩
    · show (st.spoilt ++ _).length ≤ _
      rw [List.length_append]
      exact Nat.succ_le_succ h.sl
    · show ((st.spoilt ++ _).map (·.1)).Nodup
      rw [List.map_append]
      exact nd_snoc h.snd (sget_none.mp c)
    · intro x hx
      have hx : x ∈ (st.spoilt ++ [(b.name, m)]).map (·.1) := hx
      rw [List.map_append] at hx
      rcases List.mem_append.mp hx with hx | hx
      · exact h.sn x hx
      · rw [List.mem_singleton.mp hx]
        exact (B.ok b hb).n1
    · show (st.good.filter _).length + (st.gone ++ _).length ≤ _
      rw [List.length_append, List.length_reverse, List.length_map]
      have h1 := filter2 (fun e : Ent => decide (e.bed = b.name)) st.good
      have h2 := h.gl
      omega
  · rw [if_neg c]
    exact h.mono (Nat.le_succ _)
theorem step_ok {l : Ln} (B : BedsOk bs) (hn : ∀ b ∈ bs, Nm b.owner) (h : PSok bs Nm n st) (q : LnOk bs Nm l) : PSok bs Nm (n + 1) (st.step bs l) := by
  cases l with
  | prom p => exact prom_ok B h q
  | spoil m t x =>
    obtain ⟨_, b, hb, rfl⟩ := q
    show PSok bs Nm (n + 1) (match bedOf bs b.name with
      | some b => st.spoil m b
      | none => st)
    rw [bedOf_some B hb]
    exact spoil_ok B hb (hn b hb) h
end
theorem led_ok {bs : List BedR} {Nm : Str → Prop} (B : BedsOk bs) (hn : ∀ b ∈ bs, Nm b.owner) : ∀ (ls : List Ln) (n : Nat) (st : PS), (∀ l ∈ ls, LnOk bs Nm l) → PSok bs Nm n st → PSok bs Nm (n + ls.length) (ls.foldl (PS.step bs) st)
  | [], n, st, _, h => h
  | l :: ls, n, st, hl, h => by
    have := led_ok B hn ls (n + 1) (st.step bs l) (fun x hx => hl x (List.mem_cons_of_mem _ hx)) (step_ok B hn h (hl l List.mem_cons_self))
    rw [List.length_cons, Nat.add_comm ls.length 1, ← Nat.add_assoc]
    exact this
end RP
set_option Elab.async false
set_option linter.all false
set_option maxRecDepth 100000
set_option maxHeartbeats 400000
/-! rootpledge k80: where a standing stands: its cells, what else is left alone -/
namespace RP
open PySem PySem.Spec PyProof.Rows L2
/-! ### the heap without some cells -/
open Classical in
noncomputable def cut (H : Hp) (C : Addr → Prop) : Hp := fun a => if C a then none else H a
section
variable {H H' H'' : Hp} {C C' C'' D : Addr → Prop} {a : Addr} {o : HO}
theorem cut_in (h : C a) : cut H C a = none := by
  unfold cut
  rw [if_pos h]
theorem cut_out (h : ¬ C a) : cut H C a = H a := by
  unfold cut
  rw [if_neg h]
theorem cut_some (h : cut H C a = some o) : ¬ C a ∧ H a = some o := by
  by_cases c : C a
  · rw [cut_in c] at h
    cases h
  · rw [cut_out c] at h
    exact ⟨c, h⟩
theorem cut_of (h : ¬ C a) (e : H a = some o) : cut H C a = some o := by rw [cut_out h, e]
theorem cut_le : Same (cut H C) H := fun a o h => (cut_some h).2
theorem cut_mono (h : ∀ a, C a → D a) : Same (cut H D) (cut H C) := fun a o e => cut_of (fun z => (cut_some e).1 (h a z)) (cut_some e).2
theorem cut_write (h : C a) : cut (upd H a o) C = cut H C := by
  funext b
  by_cases c : C b
  · rw [cut_in c, cut_in c]
  · rw [cut_out c, cut_out c, upd_ne fun z => c (by rw [z]; exact h)]
/-- only C's cells are written; C' are the cells then -/
structure Chg (C C' : Addr → Prop) (H H' : Hp) : Prop where
  kp : ∀ a o, ¬ C a → H a = some o → H' a = some o
  nw : ∀ a, C' a → C a ∨ H a = none
theorem Chg.of (e : Same H H') : Chg C C H H' := ⟨fun a o _ => e a o, fun a => .inl⟩
theorem Chg.write (h : C a) : Chg C C H (upd H a o) := ⟨fun b u hb e => by rw [upd_ne fun z => hb (by rw [z]; exact h)]; exact e, fun a => .inl⟩
theorem Chg.trans (x : Chg C C' H H') (y : Chg C' C'' H' H'') : Chg C C'' H H'' := by
  refine ⟨fun a o h e => y.kp a o (fun z => ?_) (x.kp a o h e), fun a h => ?_⟩
  · rcases x.nw a z with q | q
    · exact h q
    · rw [q] at e
      cases e
  · by_cases c : C a
    · exact .inl c
    · cases e : H a with
      | none => exact .inr rfl
      | some o =>
        rcases y.nw a h with q | q
        · rcases x.nw a q with z | z
          · exact absurd z c
          · rw [e] at z
            cases z
        · rw [x.kp a o c e] at q
          cases q
theorem Chg.cut (x : Chg C C' H H') : Same (cut H C) (cut H' C') := fun a o e => by
  obtain ⟨h1, h2⟩ := cut_some e
  refine cut_of (fun z => ?_) (x.kp a o h1 h2)
  rcases x.nw a z with q | q
  · exact h1 q
  · rw [h2] at q
    cases q
/-- with other cells M in view -/
theorem Chg.frame (x : Chg C C' H H') (M : Addr → Prop) : Chg (fun a => C a ∨ M a) (fun a => C' a ∨ M a) H H' :=
  ⟨fun a o h e => x.kp a o (fun z => h (.inl z)) e, fun a h => h.elim (fun h => (x.nw a h).elim (fun z => .inl (.inl z)) .inr) fun h => .inl (.inr h)⟩
theorem Chg.frame2 (x : Chg C C' H H') (M : Addr → Prop) : Chg (fun a => M a ∨ C a) (fun a => M a ∨ C' a) H H' :=
  ⟨fun a o h e => x.kp a o (fun z => h (.inr z)) e, fun a h => h.elim (fun h => .inl (.inl h)) fun h => (x.nw a h).elim (fun z => .inl (.inr z)) .inr⟩
theorem Chg.off (x : Chg C C' H H') (h : ¬ C a) (e : H a = some o) : ¬ C' a := fun z => (x.nw a z).elim h fun q => by rw [e] at q; cases q
end
/-! ### a table of names -/
inductive Sh (U : Hp → V → Nat → Prop) (G : Hp) : List (Key × V) → List (Str × Nat) → Prop where
  | nil : Sh U G [] []
  | cons {v : V} {n : Str} {u : Nat} {kvs : List (Key × V)} {l : List (Str × Nat)} : U G v u → Sh U G kvs l → Sh U G ((Sum.inr n, v) :: kvs) ((n, u) :: l)
def UI : Hp → V → Nat → Prop := fun _ v n => v = .int (n : Nat)
theorem mo_ui : Mo UI := fun _ _ _ _ _ h => h
section
variable {U : Hp → V → Nat → Prop} {G G' : Hp} {kvs : List (Key × V)} {l : List (Str × Nat)} {n : Str} {v : V} {u : Nat}
theorem Sh.mono (m : Mo U) (e : Same G G') (h : Sh U G kvs l) : Sh U G' kvs l := by
  induction h with
  | nil => exact .nil
  | cons h1 _ ih => exact .cons (m _ _ _ _ e h1) ih
theorem Sh.keys (h : Sh U G kvs l) : kvs.map (·.1) = l.map (fun x => Sum.inr x.1) := by
  induction h with
  | nil => rfl
  | cons h1 _ ih => rw [List.map_cons, List.map_cons, ih]
theorem Sh.len (h : Sh U G kvs l) : kvs.length = l.length := by
  induction h with
  | nil => rfl
  | cons h1 _ ih => rw [List.length_cons, List.length_cons, ih]
theorem Sh.none (h : Sh U G kvs l) (e : sget l n = none) : valV kvs (Sum.inr n) = none := by
  induction h with
  | nil => rfl
  | @cons v m u kvs l h1 _ ih =>
    rw [sget] at e
    by_cases c : m = n
    · rw [if_pos c] at e
      cases e
    · rw [if_neg c] at e
      rw [valV_neg (fun z => c (by injection z))]
      exact ih e
theorem Sh.get (h : Sh U G kvs l) {u : Nat} (e : sget l n = some u) : ∃ v, valV kvs (Sum.inr n) = some v ∧ U G v u := by
  induction h with
  | nil => cases e
  | @cons v m w kvs l h1 _ ih =>
    rw [sget] at e
    by_cases c : m = n
    · rw [if_pos c] at e
      rw [c, valV_pos rfl]
      cases e
      exact ⟨_, rfl, h1⟩
    · rw [if_neg c] at e
      rw [valV_neg (fun z => c (by injection z))]
      exact ih e
theorem putK_pos {k : Key} {v v' : V} {r : List (Key × V)} (h : ¬ k ∈ r.map (·.1)) : putK ((k, v) :: r) k v' = (k, v') :: r := by
  unfold putK
  rw [List.any_cons, decide_eq_true rfl, Bool.true_or, if_pos rfl, List.map_cons, if_pos rfl]
  congr 1
  exact (List.map_congr_left (g := id) fun x hx => if_neg fun z => h (List.mem_map.mpr ⟨x, hx, z⟩)).trans (List.map_id _)
theorem putK_neg {k a : Key} {v v' : V} {r : List (Key × V)} (h : a ≠ k) : putK ((a, v) :: r) k v' = (a, v) :: putK r k v' := by
  unfold putK
  rw [List.any_cons, decide_eq_false h, Bool.false_or]
  by_cases c : (r.any fun kv => decide (kv.1 = k)) = true
  · rw [if_pos c, if_pos c, List.map_cons, if_neg h]
  · rw [if_neg c, if_neg c]
    rfl
theorem Sh.put (h : Sh U G kvs l) (nd : (l.map (·.1)).Nodup) (hv : U G v u) : Sh U G (putK kvs (Sum.inr n) v) (pput l n u) := by
  induction h with
  | nil => exact .cons hv .nil
  | @cons a m w kvs l h1 h2 ih =>
    have nd2 : ¬ m ∈ l.map (·.1) ∧ (l.map (·.1)).Nodup := List.nodup_cons.mp nd
    rw [pput]
    by_cases c : m = n
    · subst c
      rw [if_pos rfl, putK_pos]
      · exact .cons hv h2
      · rw [h2.keys]
        intro z
        obtain ⟨x, hx, e⟩ := List.mem_map.mp z
        exact nd2.1 (List.mem_map.mpr ⟨x, hx, by injection e⟩)
    · rw [if_neg c, putK_neg fun z => c (by injection z)]
      exact .cons h1 (ih nd2.2)
theorem pput_new : ∀ {l : List (Str × Nat)} {n : Str} {u : Nat}, sget l n = none → pput l n u = l ++ [(n, u)]
  | [], n, u, _ => rfl
  | (m, v) :: r, n, u, h => by
    rw [sget] at h
    by_cases c : m = n
    · rw [if_pos c] at h
      cases h
    · rw [if_neg c] at h
      rw [pput, if_neg c, pput_new h]
      rfl
end
theorem putK_le {κ : Type} [DecidableEq κ] (l : List (κ × V)) (a : κ) (v : V) : (putK l a v).length ≤ l.length + 1 := by
  unfold putK
  split
  · rw [List.length_map]
    exact Nat.le_succ _
  · rw [List.length_append]
    exact Nat.le_refl _
/-! ### cells -/
inductive Lab where
  | root
  | h
  | pp
  | sp
  | gd
  | vd
  | gn
  | sh (x : Str)
  deriving DecidableEq
def Act (B : Str → Prop) : Lab → Prop
  | .sh x => B x
  | _ => True
def foot (c : Lab → Addr) (B : Str → Prop) : Addr → Prop := fun a => ∃ l, Act B l ∧ c l = a
/-- which of the two it is: the root's form, a share's units, an entry's form -/
structure Kn where
  ro : (Lab → Addr) → HO
  U : Hp → V → Nat → Prop
  E : Hp → V → Ent → Prop
  mU : Mo U
  mE : Mo E
def vdS : Vd → Str
  | .spoiled _ => "spoiled"
  | .never => "never"
  | .clash _ => "clash"
def vdV : Vd → V
  | .spoiled n => .int (n : Nat)
  | .never => .non
  | .clash n => .int (n : Nat)
def VdAt : Hp → V → Nat × Vd → Prop := fun H v x => ∃ t, v = .ref t ∧ H t = some (.tup [.int (x.1 : Nat), .str (vdS x.2), vdV x.2])
theorem mo_vd : Mo VdAt := fun H H' v x e h => by
  obtain ⟨t, rfl, h⟩ := h
  exact ⟨t, rfl, e _ _ h⟩
def GKAt : Hp → V → GK → Prop := fun H v g => ∃ t, v = .ref t ∧ H t = some (.tup (g.key.map kV))
theorem mo_gk : Mo GKAt := fun H H' v x e h => by
  obtain ⟨t, rfl, h⟩ := h
  exact ⟨t, rfl, e _ _ h⟩
def KeysAt (H : Hp) (a : Addr) (ks : List GK) : Prop := LAt GKAt H a ks
def Cell (k : Kn) (B : Str → Prop) (w : Nat) (G : Hp) (c : Lab → Addr) (st : PS) : Lab → HO → Prop
  | .root, o => o = k.ro c
  | .h, o => ∃ kvs : List (List Key × V), o = .dT kvs ∧ kvs.length ≤ w ∧ ∀ g x, st.held g = some x → valV kvs g.key = some (.str x)
  | .pp, o => ∃ kvs : List (Key × V), o = .dK kvs ∧ kvs.length ≤ w ∧ ∀ x, B x → valV kvs (Sum.inr x) = some (.ref (c (.sh x)))
  | .sp, o => ∃ us, o = .dK us ∧ Sh UI G us st.spoilt
  | .gd, o => ∃ vs, o = .lst vs ∧ Fits k.E G vs st.good
  | .vd, o => ∃ vs, o = .lst vs ∧ Fits VdAt G vs st.voids
  | .gn, o => o = .lst (st.gone.map fun n => .int (n : Nat))
  | .sh x, o => ∃ us, o = .dK us ∧ Sh k.U G us (st.parts x)
structure Rep (k : Kn) (B : Str → Prop) (w : Nat) (H : Hp) (c : Lab → Addr) (st : PS) : Prop where
  inj : ∀ l l', Act B l → Act B l' → c l = c l' → l = l'
  at_ : ∀ l, Act B l → ∃ o, H (c l) = some o ∧ Cell k B w (cut H (foot c B)) c st l o
section
variable {k : Kn} {B B' : Str → Prop} {w w' : Nat} {G G' H H' : Hp} {c : Lab → Addr} {st st' : PS} {l l0 : Lab} {o : HO} {a : Addr}
theorem Cell.mono (e : Same G G') (h : Cell k B w G c st l o) : Cell k B w G' c st l o := by
  cases l with
  | root => exact h
  | h => exact h
  | pp => exact h
  | sp =>
    obtain ⟨us, h1, h2⟩ := h
    exact ⟨us, h1, h2.mono mo_ui e⟩
  | gd =>
    obtain ⟨vs, h1, h2⟩ := h
    exact ⟨vs, h1, h2.same k.mE e⟩
  | vd =>
    obtain ⟨vs, h1, h2⟩ := h
    exact ⟨vs, h1, h2.same mo_vd e⟩
  | gn => exact h
  | sh x =>
    obtain ⟨us, h1, h2⟩ := h
    exact ⟨us, h1, h2.mono k.mU e⟩
theorem Cell.le (h : Cell k B w G c st l o) (e : w ≤ w') : Cell k B w' G c st l o := by
  cases l with
  | h =>
    obtain ⟨us, h1, h2, h3⟩ := h
    exact ⟨us, h1, Nat.le_trans h2 e, h3⟩
  | pp =>
    obtain ⟨us, h1, h2, h3⟩ := h
    exact ⟨us, h1, Nat.le_trans h2 e, h3⟩
  | root => exact h
  | sp => exact h
  | gd => exact h
  | vd => exact h
  | gn => exact h
  | sh x => exact h
theorem foot_of (h : Act B l) : foot c B (c l) := ⟨l, h, rfl⟩
theorem Rep.dom (r : Rep k B w H c st) (h : foot c B a) : ∃ o, H a = some o := by
  obtain ⟨l, h, rfl⟩ := h
  obtain ⟨o, h, _⟩ := r.at_ l h
  exact ⟨o, h⟩
theorem Rep.fresh (r : Rep k B w H c st) (h : H a = none) : ¬ foot c B a := fun z => by
  obtain ⟨o, e⟩ := r.dom z
  rw [h] at e
  cases e
theorem Rep.same (r : Rep k B w H c st) (e : Same H H') : Rep k B w H' c st :=
  ⟨r.inj, fun l h => (r.at_ l h).elim fun o q => ⟨o, e _ _ q.1, q.2.mono (Chg.of e).cut⟩⟩
theorem Rep.le (r : Rep k B w H c st) (e : w ≤ w') : Rep k B w' H c st :=
  ⟨r.inj, fun l h => (r.at_ l h).elim fun o q => ⟨o, q.1, q.2.le e⟩⟩
/-- a write to one cell -/
theorem Rep.write (r : Rep k B w H c st) (l0 : Lab) (hl : Act B l0) (h0 : Cell k B w' (cut H (foot c B)) c st' l0 o) (hs : ∀ l o, Act B l → l ≠ l0 → Cell k B w (cut H (foot c B)) c st l o → Cell k B w' (cut H (foot c B)) c st' l o) :
    Rep k B w' (upd H (c l0) o) c st' := by
  refine ⟨r.inj, fun l h => ?_⟩
  rw [cut_write (foot_of hl)]
  by_cases e : l = l0
  · subst e
    exact ⟨o, upd_same, h0⟩
  · obtain ⟨o2, q1, q2⟩ := r.at_ l h
    exact ⟨o2, by rw [upd_ne fun z => e (r.inj _ _ h hl z)]; exact q1, hs l o2 h e q2⟩
def swp (c : Lab → Addr) (l0 : Lab) (d : Addr) : Lab → Addr := fun l => if l = l0 then d else c l
theorem swp_same {d : Addr} : swp c l0 d l0 = d := if_pos rfl
theorem swp_ne {d : Addr} (h : l ≠ l0) : swp c l0 d l = c l := if_neg h
/-- a cell is another, new one, its pointer cell lp is written -/
theorem swp_chg (r : Rep k B w H c st) {H3 : Hp} {d : Addr} {lp : Lab} {op : HO} (hl : ∀ l, Act B' l → l ≠ l0 → Act B l) (hp : Act B lp) (e : Same H H3) (hd : H d = none) :
    Chg (foot c B) (foot (swp c l0 d) B') H (upd H3 (c lp) op) := by
  refine ⟨fun a o h q => ?_, fun a h => ?_⟩
  · rw [upd_ne fun z => h (by rw [z]; exact foot_of hp)]
    exact e _ _ q
  · obtain ⟨l, h1, rfl⟩ := h
    by_cases q : l = l0
    · rw [q, swp_same]
      exact .inr hd
    · rw [swp_ne q]
      exact .inl ⟨l, hl l h1 q, rfl⟩
theorem Rep.swap (r : Rep k B w H c st) {H3 : Hp} {d : Addr} {lp : Lab} {op : HO} (hl : ∀ l, Act B' l → l ≠ l0 → Act B l) (hp : Act B lp) (hp' : Act B' lp) (hlp : lp ≠ l0) (e : Same H H3) (hd : H d = none) (h3 : H3 d = some o)
    (h0 : Cell k B' w' (cut (upd H3 (c lp) op) (foot (swp c l0 d) B')) (swp c l0 d) st' l0 o) (h1 : Cell k B' w' (cut (upd H3 (c lp) op) (foot (swp c l0 d) B')) (swp c l0 d) st' lp op)
    (hs : ∀ l o, Act B' l → l ≠ l0 → l ≠ lp → Cell k B w (cut (upd H3 (c lp) op) (foot (swp c l0 d) B')) c st l o → Cell k B' w' (cut (upd H3 (c lp) op) (foot (swp c l0 d) B')) (swp c l0 d) st' l o) :
    Rep k B' w' (upd H3 (c lp) op) (swp c l0 d) st' := by
  have g := (swp_chg (op := op) r hl hp e hd).cut
  refine ⟨fun x y hx hy q => ?_, fun l h => ?_⟩
  · by_cases ex : x = l0
    · by_cases ey : y = l0
      · rw [ex, ey]
      · rw [ex, swp_same, swp_ne ey] at q
        obtain ⟨o2, z, _⟩ := r.at_ y (hl y hy ey)
        rw [← q, hd] at z
        cases z
    · by_cases ey : y = l0
      · rw [ey, swp_same, swp_ne ex] at q
        obtain ⟨o2, z, _⟩ := r.at_ x (hl x hx ex)
        rw [q, hd] at z
        cases z
      · rw [swp_ne ex, swp_ne ey] at q
        exact r.inj _ _ (hl x hx ex) (hl y hy ey) q
  · by_cases q : l = l0
    · subst q
      refine ⟨o, ?_, h0⟩
      rw [swp_same, upd_ne]
      · exact h3
      · intro z
        obtain ⟨o2, z2, _⟩ := r.at_ lp hp
        rw [← z, hd] at z2
        cases z2
    · by_cases q2 : l = lp
      · subst q2
        exact ⟨op, by rw [swp_ne q]; exact upd_same, h1⟩
      · obtain ⟨o2, z1, z2⟩ := r.at_ l (hl l h q)
        refine ⟨o2, ?_, hs l o2 h q q2 (z2.mono g)⟩
        rw [swp_ne q, upd_ne fun z => q2 (r.inj _ _ (hl l h q) hp z)]
        exact e _ _ z1
/-! ### single writes -/
theorem Rep.put_held (r : Rep k B w H c st) {kvs : List (List Key × V)} {g : GK} {x : Str} {held : GK → Option Str} (e : H (c .h) = some (.dT kvs)) (hh : ∀ g' y, held g' = some y → (g' = g ∧ y = x) ∨ (g' ≠ g ∧ st.held g' = some y)) :
    Rep k B (w + 1) (upd H (c .h) (.dT (putK kvs g.key (.str x)))) c { st with held := held } := by
  obtain ⟨o, q, kv2, rfl, q1, q2⟩ := r.at_ .h trivial
  rw [e] at q
  injection q with q
  injection q with q
  subst q
  refine r.write .h trivial ⟨_, rfl, Nat.le_trans (putK_le _ _ _) (Nat.succ_le_succ q1), fun g' y h => ?_⟩ fun l o _ hl z => ?_
  · rw [valV_put]
    rcases hh g' y h with ⟨h1, h2⟩ | ⟨h1, h2⟩
    · rw [h1, h2, if_pos rfl]
    · rw [if_neg (fun z => h1 (GK.key_inj z))]
      exact q2 _ _ h2
  · have z := Cell.le z (Nat.le_succ w)
    cases l with
    | h => exact absurd rfl hl
    | root => exact z
    | pp => exact z
    | sp => exact z
    | gd => exact z
    | vd => exact z
    | gn => exact z
    | sh x => exact z
theorem Rep.weak (r : Rep k B w H c st) {held : GK → Option Str} (hh : ∀ g y, held g = some y → st.held g = some y) : Rep k B w H c { st with held := held } := by
  refine ⟨r.inj, fun l h => ?_⟩
  obtain ⟨o, q, z⟩ := r.at_ l h
  refine ⟨o, q, ?_⟩
  cases l with
  | h =>
    obtain ⟨kvs, z1, z2, z3⟩ := z
    exact ⟨kvs, z1, z2, fun g x e => z3 g x (hh g x e)⟩
  | root => exact z
  | pp => exact z
  | sp => exact z
  | gd => exact z
  | vd => exact z
  | gn => exact z
  | sh x => exact z
theorem Rep.put_share (r : Rep k B w H c st) {us : List (Key × V)} {x : Str} {l1 : List (Str × Nat)} (hx : B x) (h : Sh k.U (cut H (foot c B)) us l1) :
    Rep k B w (upd H (c (.sh x)) (.dK us)) c { st with parts := fun y => if y = x then l1 else st.parts y } := by
  refine r.write (.sh x) hx ⟨us, rfl, by show Sh _ _ _ (if x = x then l1 else st.parts x); rw [if_pos rfl]; exact h⟩ fun l o _ hl z => ?_
  cases l with
  | sh y =>
    obtain ⟨us2, z1, z2⟩ := z
    refine ⟨us2, z1, ?_⟩
    show Sh _ _ _ (if y = x then l1 else st.parts y)
    rw [if_neg fun q => hl (by rw [q])]
    exact z2
  | root => exact z
  | h => exact z
  | pp => exact z
  | sp => exact z
  | gd => exact z
  | vd => exact z
  | gn => exact z
theorem Rep.put_spoilt (r : Rep k B w H c st) {us : List (Key × V)} {l1 : List (Str × Nat)} (h : Sh UI (cut H (foot c B)) us l1) : Rep k B w (upd H (c .sp) (.dK us)) c { st with spoilt := l1 } := by
  refine r.write .sp trivial ⟨us, rfl, h⟩ fun l o _ hl z => ?_
  cases l with
  | sp => exact absurd rfl hl
  | root => exact z
  | h => exact z
  | pp => exact z
  | gd => exact z
  | vd => exact z
  | gn => exact z
  | sh x => exact z
theorem Rep.put_good (r : Rep k B w H c st) {vs : List V} {es : List Ent} (h : Fits k.E (cut H (foot c B)) vs es) : Rep k B w (upd H (c .gd) (.lst vs)) c { st with good := es } := by
  refine r.write .gd trivial ⟨vs, rfl, h⟩ fun l o _ hl z => ?_
  cases l with
  | gd => exact absurd rfl hl
  | root => exact z
  | h => exact z
  | pp => exact z
  | sp => exact z
  | vd => exact z
  | gn => exact z
  | sh x => exact z
theorem Rep.put_voids (r : Rep k B w H c st) {vs : List V} {es : List (Nat × Vd)} (h : Fits VdAt (cut H (foot c B)) vs es) : Rep k B w (upd H (c .vd) (.lst vs)) c { st with voids := es } := by
  refine r.write .vd trivial ⟨vs, rfl, h⟩ fun l o _ hl z => ?_
  cases l with
  | vd => exact absurd rfl hl
  | root => exact z
  | h => exact z
  | pp => exact z
  | sp => exact z
  | gd => exact z
  | gn => exact z
  | sh x => exact z
theorem Rep.put_gone (r : Rep k B w H c st) {ns : List Nat} : Rep k B w (upd H (c .gn) (.lst (ns.map fun n => .int (n : Nat)))) c { st with gone := ns } := by
  refine r.write .gn trivial rfl fun l o _ hl z => ?_
  cases l with
  | gn => exact absurd rfl hl
  | root => exact z
  | h => exact z
  | pp => exact z
  | sp => exact z
  | gd => exact z
  | vd => exact z
  | sh x => exact z
def addB (B : Str → Prop) (x : Str) : Str → Prop := fun y => y = x ∨ B y
theorem addB_eq {x : Str} (h : B x) : addB B x = B := by
  funext y
  exact propext ⟨fun z => z.elim (fun z => by rw [z]; exact h) id, .inr⟩
/-- d[x] = {..}: a new table of shares -/
theorem Rep.new_share (r : Rep k B w H c st) {H3 : Hp} {d : Addr} {kvs us : List (Key × V)} {x : Str} {l1 : List (Str × Nat)} (e : Same H H3) (hd : H d = none) (h3 : H3 d = some (.dK us)) (hk : H (c .pp) = some (.dK kvs)) (hro : ∀ c d, k.ro (swp c (.sh x) d) = k.ro c)
    (h : Sh k.U (cut (upd H3 (c .pp) (.dK (putK kvs (Sum.inr x) (.ref d)))) (foot (swp c (.sh x) d) (addB B x))) us l1) :
    Rep k (addB B x) (w + 1) (upd H3 (c .pp) (.dK (putK kvs (Sum.inr x) (.ref d)))) (swp c (.sh x) d) { st with parts := fun y => if y = x then l1 else st.parts y } := by
  obtain ⟨o, q, kv2, rfl, q1, q2⟩ := r.at_ .pp trivial
  rw [hk] at q
  injection q with q
  injection q with q
  subst q
  refine r.swap (l0 := .sh x) (lp := .pp) (fun l h1 h2 => ?_) trivial trivial (by intro z; cases z) e hd h3 ⟨us, rfl, by show Sh _ _ _ (if x = x then l1 else st.parts x); rw [if_pos rfl]; exact h⟩ ⟨_, rfl, Nat.le_trans (putK_le _ _ _) (Nat.succ_le_succ q1), fun y hy => ?_⟩ fun l o h1 h2 h4 z => ?_
  · cases l with
    | sh y => exact h1.resolve_left fun z => h2 (by rw [z])
    | root => trivial
    | h => trivial
    | pp => trivial
    | sp => trivial
    | gd => trivial
    | vd => trivial
    | gn => trivial
  · rw [valV_put]
    by_cases ey : y = x
    · rw [ey, if_pos rfl, swp_same]
    · rw [if_neg fun z => ey (by injection z), swp_ne fun z => ey (by injection z)]
      exact q2 y (hy.resolve_left ey)
  · have z := Cell.le z (Nat.le_succ w)
    cases l with
    | pp => exact absurd rfl h4
    | root => exact Eq.trans z (hro c d).symm
    | h => exact z
    | sp => exact z
    | gd => exact z
    | vd => exact z
    | gn => exact z
    | sh y =>
      obtain ⟨us2, z1, z2⟩ := z
      refine ⟨us2, z1, ?_⟩
      show Sh _ _ _ (if y = x then l1 else st.parts y)
      rw [if_neg fun q => h2 (by rw [q])]
      exact z2
/-- another list of entries, the root written -/
theorem Rep.new_good (r : Rep k B w H c st) {H3 : Hp} {d : Addr} {vs : List V} {es : List Ent} {op : HO} (e : Same H H3) (hd : H d = none) (h3 : H3 d = some (.lst vs)) (ho : op = k.ro (swp c .gd d))
    (h : Fits k.E (cut (upd H3 (c .root) op) (foot (swp c .gd d) B)) vs es) : Rep k B w (upd H3 (c .root) op) (swp c .gd d) { st with good := es } := by
  refine r.swap (l0 := .gd) (lp := .root) (fun l h1 h2 => h1) trivial trivial (by intro z; cases z) e hd h3 ⟨vs, rfl, h⟩ ho fun l o h1 h2 h4 z => ?_
  cases l with
  | gd => exact absurd rfl h2
  | root => exact absurd rfl h4
  | h => exact z
  | pp => exact z
  | sp => exact z
  | vd => exact z
  | gn => exact z
  | sh x => exact z
theorem Rep.new_gone (r : Rep k B w H c st) {H3 : Hp} {d : Addr} {ns : List Nat} {op : HO} (e : Same H H3) (hd : H d = none) (h3 : H3 d = some (.lst (ns.map fun n => .int (n : Nat)))) (ho : op = k.ro (swp c .gn d)) :
    Rep k B w (upd H3 (c .root) op) (swp c .gn d) { st with gone := ns } := by
  refine r.swap (l0 := .gn) (lp := .root) (fun l h1 h2 => h1) trivial trivial (by intro z; cases z) e hd h3 rfl ho fun l o h1 h2 h4 z => ?_
  cases l with
  | gn => exact absurd rfl h2
  | root => exact absurd rfl h4
  | h => exact z
  | pp => exact z
  | sp => exact z
  | gd => exact z
  | vd => exact z
  | sh x => exact z
end
end RP
set_option Elab.async false
set_option linter.all false
set_option maxRecDepth 100000
set_option maxHeartbeats 4000000
/-! rootpledge k80: rules of our own, 2 -/
namespace RP
open PySem PySem.Spec PyProof.Rows L2
theorem pe_rev {X : Cx} {e : Expr} {te : TE} {k : Nat} {p1 p2 p3 pos : Pos} (he : PE X e te) : PE X (.Subscript e (.Slice none none (some (.UnaryOp .USub (.Constant (.int 1) k p1) p2)) p3) pos) (tRevL X.K te) := pe_revL he
end RP
set_option Elab.async false
set_option linter.all false
set_option maxRecDepth 100000
set_option maxHeartbeats 400000
/-! rootpledge k80: the law's own standing -/
namespace RP
open PySem PySem.Spec PyProof.Rows L2
theorem Fits.cons {α : Type} {R : Hp → V → α → Prop} {H : Hp} {vs : List V} {xs : List α} {v : V} {x : α} (r : R H v x) (f : Fits R H vs xs) : Fits R H (v :: vs) (x :: xs) := by
  refine ⟨by rw [List.length_cons, List.length_cons, f.1], fun i u y h1 h2 => ?_⟩
  cases i with
  | zero =>
    simp at h1 h2
    subst h1; subst h2
    exact r
  | succ i =>
    simp at h1 h2
    exact f.2 i u y h1 h2
/-! ### reading and writing a standing's cells -/
section
variable {k : Kn} {B : Str → Prop} {w : Nat} {H : Hp} {c : Lab → Addr} {st : PS} {a t : Addr}
theorem Rep.held_get (R : Rep k B w H c st) {g : GK} {x : Str} (hk : H t = some (.tup (g.key.map kV))) (h : st.held g = some x) : DGet H (c .h) (.ref t) (some (.str x)) := by
  obtain ⟨o, q, kvs, rfl, q1, q2⟩ := R.at_ .h trivial
  have := DGet.t q hk
  rw [q2 _ _ h] at this
  exact this
theorem Rep.parts_get (R : Rep k B w H c st) {x : Str} (h : B x) : DGet H (c .pp) (.str x) (some (.ref (c (.sh x)))) := by
  obtain ⟨o, q, kvs, rfl, q1, q2⟩ := R.at_ .pp trivial
  have := DGet.k (k := Sum.inr x) q
  rw [q2 _ h] at this
  exact this
theorem Rep.spoilt_get (R : Rep k B w H c st) (x : Str) : DGet H (c .sp) (.str x) ((sget st.spoilt x).map fun n => .int (n : Nat)) := by
  obtain ⟨o, q, us, rfl, q1⟩ := R.at_ .sp trivial
  have := DGet.k (k := Sum.inr x) q
  cases e : sget st.spoilt x with
  | none =>
    rw [q1.none e] at this
    exact this
  | some n =>
    obtain ⟨v, e2, rfl⟩ := q1.get e
    rw [e2] at this
    exact this
theorem Rep.held_put (R : Rep k B w H c st) (hw : w < sizeLine) {g : GK} {x : Str} {held : GK → Option Str} (hk : H t = some (.tup (g.key.map kV))) (hh : ∀ g' y, held g' = some y → (g' = g ∧ y = x) ∨ (g' ≠ g ∧ st.held g' = some y)) :
    ∃ H2, DPut H (c .h) (.ref t) (.str x) H2 ∧ Rep k B (w + 1) H2 c { st with held := held } ∧ Chg (foot c B) (foot c B) H H2 := by
  obtain ⟨o, q, kvs, rfl, q1, q2⟩ := R.at_ .h trivial
  exact ⟨_, DPut.t q hk (Nat.lt_of_le_of_lt q1 hw), R.put_held q hh, Chg.write (foot_of (l := .h) trivial)⟩
theorem Rep.held_new (R : Rep k B w H c st) (hw : w < sizeLine) {g : GK} {x : Str} {held : GK → Option Str} (ht : H t = none) (hh : ∀ g' y, held g' = some y → (g' = g ∧ y = x) ∨ (g' ≠ g ∧ st.held g' = some y)) :
    ∃ H2, DPut (upd H t (.tup (g.key.map kV))) (c .h) (.ref t) (.str x) H2 ∧ Rep k B (w + 1) H2 c { st with held := held } ∧ Chg (foot c B) (foot c B) H H2 := by
  have e := same_upd (o := .tup (g.key.map kV)) (Same.refl H) ht
  obtain ⟨H2, h1, h2, h3⟩ := (R.same e).held_put hw (t := t) upd_same hh
  exact ⟨H2, h1, h2, (Chg.of e).trans h3⟩
theorem th_gk {K : PySem.W.Frag} {G : Hp} {th : Th} (h : ThAt K G t th) (hk : th.kd ≠ .share) : G t = some (.tup (th.gk.key.map kV)) := by
  obtain ⟨v, h1, h2⟩ := h
  have h3 := h2.num hk
  subst h3
  rw [h1]
  obtain ⟨kd, bed, n⟩ := th
  cases kd with
  | root => rfl
  | offs => rfl
  | share => exact absurd rfl hk
end
/-! ### the law's standing -/
def lawRo (c : Lab → Addr) : HO := .dK [(Sum.inr "held", .ref (c .h)), (Sum.inr "parts", .ref (c .pp)), (Sum.inr "spoilt", .ref (c .sp)), (Sum.inr "good", .ref (c .gd)), (Sum.inr "voids", .ref (c .vd)), (Sum.inr "gone", .ref (c .gn))]
def LawE : Hp → V → Ent → Prop := fun H v e => ∃ t kl, v = .ref t ∧ H t = some (.tup [.int (e.num : Nat), .str e.seller, .ref kl, .str e.bed]) ∧ KeysAt H kl e.keys
def knLaw : Kn where
  ro := lawRo
  U := UI
  E := LawE
  mU := mo_ui
  mE := fun H H' v e z h => by
    obtain ⟨t, kl, rfl, h1, h2⟩ := h
    exact ⟨t, kl, rfl, z _ _ h1, h2.same mo_gk z⟩
section
variable {B : Str → Prop} {w : Nat} {H : Hp} {c : Lab → Addr} {st : PS}
theorem Rep.law_root (R : Rep knLaw B w H c st) : H (c .root) = some (lawRo c) := by
  obtain ⟨o, q, rfl⟩ := R.at_ .root trivial
  exact q
theorem Rep.l_held (R : Rep knLaw B w H c st) : DGet H (c .root) (.str "held") (some (.ref (c .h))) := DGet.k (k := Sum.inr "held") R.law_root
theorem Rep.l_parts (R : Rep knLaw B w H c st) : DGet H (c .root) (.str "parts") (some (.ref (c .pp))) := DGet.k (k := Sum.inr "parts") R.law_root
theorem Rep.l_spoilt (R : Rep knLaw B w H c st) : DGet H (c .root) (.str "spoilt") (some (.ref (c .sp))) := DGet.k (k := Sum.inr "spoilt") R.law_root
theorem Rep.l_good (R : Rep knLaw B w H c st) : DGet H (c .root) (.str "good") (some (.ref (c .gd))) := DGet.k (k := Sum.inr "good") R.law_root
theorem Rep.l_voids (R : Rep knLaw B w H c st) : DGet H (c .root) (.str "voids") (some (.ref (c .vd))) := DGet.k (k := Sum.inr "voids") R.law_root
theorem Rep.l_gone (R : Rep knLaw B w H c st) : DGet H (c .root) (.str "gone") (some (.ref (c .gn))) := DGet.k (k := Sum.inr "gone") R.law_root
end
/-- held after i roots of b went back -/
def backI (held : GK → Option Str) (b : BedR) (i : Nat) : GK → Option Str
  | .it r x k => if x = b.name ∧ 1 ≤ k ∧ k ≤ i then some b.owner else held (.it r x k)
  | .sh x => held (.sh x)
theorem backI_end (held : GK → Option Str) (b : BedR) : backI held b b.roots = backH held b := by
  funext g
  cases g <;> rfl
theorem backI_zero {held : GK → Option Str} {b : BedR} {g : GK} {y : Str} (h : backI held b 0 g = some y) : held g = some y := by
  cases g with
  | sh x => exact h
  | it r x k =>
    unfold backI at h
    simp only at h
    rwa [if_neg (by omega)] at h
/-- .. the next root, then its offsets -/
def backJ (held : GK → Option Str) (b : BedR) (i : Nat) : GK → Option Str
  | .it r x k => if x = b.name ∧ 1 ≤ k ∧ (k ≤ i ∨ (k = i + 1 ∧ r = true)) then some b.owner else held (.it r x k)
  | .sh x => held (.sh x)
theorem backJ_of {held : GK → Option Str} {b : BedR} {i : Nat} {g : GK} {y : Str} (h : backJ held b i g = some y) : (g = .it true b.name (i + 1) ∧ y = b.owner) ∨ (g ≠ .it true b.name (i + 1) ∧ backI held b i g = some y) := by
  cases g with
  | sh x => exact .inr ⟨(by intro z; cases z), h⟩
  | it r x k =>
    unfold backJ at h
    simp only at h
    by_cases e : GK.it r x k = .it true b.name (i + 1)
    · injection e with e1 e2 e3
      subst e1 e2 e3
      rw [if_pos ⟨rfl, by omega, .inr ⟨rfl, rfl⟩⟩] at h
      exact .inl ⟨rfl, (Option.some.inj h).symm⟩
    · refine .inr ⟨e, ?_⟩
      unfold backI
      simp only
      by_cases q : x = b.name ∧ 1 ≤ k ∧ k ≤ i
      · rw [if_pos q]
        rw [if_pos ⟨q.1, q.2.1, .inl q.2.2⟩] at h
        exact h
      · rw [if_neg q]
        rw [if_neg] at h
        · exact h
        · rintro ⟨h1, h2, h3 | ⟨h3, h4⟩⟩
          · exact q ⟨h1, h2, h3⟩
          · exact e (by rw [h1, h3, h4])
theorem backI_of {held : GK → Option Str} {b : BedR} {i : Nat} {g : GK} {y : Str} (h : backI held b (i + 1) g = some y) : (g = .it false b.name (i + 1) ∧ y = b.owner) ∨ (g ≠ .it false b.name (i + 1) ∧ backJ held b i g = some y) := by
  cases g with
  | sh x => exact .inr ⟨(by intro z; cases z), h⟩
  | it r x k =>
    unfold backI at h
    simp only at h
    by_cases e : GK.it r x k = .it false b.name (i + 1)
    · injection e with e1 e2 e3
      subst e1 e2 e3
      rw [if_pos ⟨rfl, by omega, Nat.le_refl _⟩] at h
      exact .inl ⟨rfl, (Option.some.inj h).symm⟩
    · refine .inr ⟨e, ?_⟩
      unfold backJ
      simp only
      by_cases q : x = b.name ∧ 1 ≤ k ∧ (k ≤ i ∨ (k = i + 1 ∧ r = true))
      · rw [if_pos q]
        rw [if_pos ⟨q.1, q.2.1, by omega⟩] at h
        exact h
      · rw [if_neg q]
        rw [if_neg] at h
        · exact h
        · rintro ⟨h1, h2, h3⟩
          by_cases h4 : k ≤ i
          · exact q ⟨h1, h2, .inl h4⟩
          · have h5 : k = i + 1 := by omega
            cases r with
            | true => exact q ⟨h1, h2, .inr ⟨h5, rfl⟩⟩
            | false => exact e (by rw [h1, h5])
def sp_law_back (K : PySem.W.Frag) : Sp := spA 2 fun vs H Q => ∃ c B w st r b, vs = [.ref (c .root), .ref r] ∧ Rep knLaw B w H c st ∧ H r = some (.tup (bedVs b)) ∧ w ≤ 100000 ∧ b.roots ≤ 12 ∧
  ∀ c' H', Chg (foot c B) (foot c' (addB B b.name)) H H' → c' .root = c .root → Rep knLaw (addB B b.name) (w + 30) H' c' (st.back b) → Q .non H'
/-- a promise's row -/
def PRowAt (K : PySem.W.Frag) (H : Hp) (t : Addr) (p : Pr) : Prop := H t = some (.tup (.str "promise" :: prVs p)) ∧ ThAt K H p.ta p.th
theorem PRowAt.same {K : PySem.W.Frag} {H H' : Hp} {t : Addr} {p : Pr} (h : PRowAt K H t p) (e : Same H H') : PRowAt K H' t p := ⟨e _ _ h.1, h.2.same e⟩
def sp_law_keys (K : PySem.W.Frag) : Sp := spA 2 fun vs H Q => ∃ c B w st t p, vs = [.ref (c .root), .ref t] ∧ Rep knLaw B w H c st ∧ PRowAt K (cut H (foot c B)) t p ∧ (p.th.kd = .root → ∃ x, st.held (.it false p.th.bed p.th.k) = some x) ∧
  ∀ kl H', Same H H' → KeysAt (cut H' (foot c B)) kl (st.keys p) → Q (.ref kl) H'
section
variable {P : Program} {w : World} {K : PySem.W.Frag} {mg : Str → Option Value} {base : Heap}
theorem ok_law_back (T : Txt K mg) : Fx P w K mg base "_law_back" 1 [] (sp_law_back K) := by
  obtain ⟨fd, F⟩ := T.d_law_back
  refine ⟨_, fd, _, [], T.g__law_back, F.kp, fn_body F sc_law_back rfl (fun cdv A outer s H vs Q E hr h => ?_), F.bindsN (fun _ _ _ _ _ _ us hl => match us, hl with | [_, _], _ => rfl), .nil⟩
  have nd := sc_law_back.nd
  have hu := hu_of hr
  obtain ⟨c, B, n, st, r, b, rfl, R, hb, hn, hr12, k⟩ := h
  refine ⟨_, (pss_cons (ps_asg (pv 1) (pg_tup rfl (pgs_cons (pg_name (i := 2) nd rfl (.inl rfl)) (pgs_cons (pg_name (i := 3) nd rfl (.inl rfl)) (pgs_cons (pg_name (i := 4) nd rfl (.inl rfl)) (pgs_cons (pg_name (i := 5) nd rfl (.inl rfl)) (pgs_cons (pg_name (i := 6) nd rfl (.inl rfl)) (pgs_cons (pg_name (i := 7) nd rfl (.inl rfl)) (pgs_cons (pg_name (i := 8) nd rfl (.inl rfl)) pgs_nil)))))))))
      (pss_cons (ps_dput hu (pe_dget hu (pv 0) pe_str (fun _ _ => rfl)) (pv 2) (pe_disp (pps_cons (pv 4) pe_int pps_nil) (by rfl) (by rfl) (fun z => by cases z) (by decide)) rfl)
      (pss_one (ps_for PassesOwn.never rfl (pi_range2 (by rfl) T.n_range (pa_cons pe_int (pa_cons (pe_op op_add (pv 5) pe_int) pa_nil))) (pg_name (i := 9) nd rfl (.inl rfl))
      (pss_cons (ps_dput hu (pe_dget hu (pv 0) pe_str (fun _ _ => rfl)) (pe_tup (pa_cons pe_str (pa_cons (pv 2) (pa_cons (pv 9) pa_nil)))) (pv 4) rfl)
      (pss_one (ps_dput hu (pe_dget hu (pv 0) pe_str (fun _ _ => rfl)) (pe_tup (pa_cons pe_str (pa_cons (pv 2) (pa_cons (pv 9) pa_nil)))) (pv 4) rfl))))))), ?_⟩
  refine ⟨_, rfl, r, _, rfl, SqT.of hb, rfl, _, _, rfl, _, _, rfl, _, _, rfl, _, _, rfl, _, _, rfl, _, _, rfl, _, _, rfl, rfl, ?_⟩
  -- parts[name] = {owner: 27720}
  intro d hd
  refine ⟨_, rfl, upd_same, [(Sum.inr b.owner, .int 27720)], rfl, (by show 1 ≤ 15; decide), ?_⟩
  have e3 : Same H (upd (upd H d (.dK [])) d (.dK (mergeK [] [(Sum.inr b.owner, V.int 27720)]))) := by
    rw [upd_upd]
    exact same_upd (Same.refl _) hd
  have h3 : upd (upd H d (.dK [])) d (.dK (mergeK [] [(Sum.inr b.owner, V.int 27720)])) d = some (.dK [(Sum.inr b.owner, V.int 27720)]) := upd_same
  generalize upd (upd H d (.dK [])) d (.dK (mergeK [] [(Sum.inr b.owner, V.int 27720)])) = H3 at e3 h3
  have R3 := R.same e3
  obtain ⟨o, q, kvs, rfl, q1, _⟩ := R.at_ .pp trivial
  refine ⟨_, rfl, c .root, _, rfl, R3.l_parts, _, rfl, c .pp, _, rfl, DPut.k (k := Sum.inr b.name) (e3 _ _ q) (Nat.lt_of_le_of_lt q1 (Nat.lt_of_le_of_lt hn (by decide))), ?_⟩
  have R4 := R.new_share (x := b.name) (l1 := [(b.owner, 27720)]) e3 hd h3 q (fun _ _ => rfl) (.cons rfl .nil)
  have C4 := swp_chg (l0 := .sh b.name) (lp := .pp) (B' := addB B b.name) (op := .dK (putK kvs (Sum.inr b.name) (.ref d))) R (fun l h1 h2 => by
    cases l with
    | sh y => exact h1.resolve_left fun z => h2 (by rw [z])
    | root => trivial
    | h => trivial
    | pp => trivial
    | sp => trivial
    | gd => trivial
    | vd => trivial
    | gn => trivial) trivial e3 hd
  have e5 : swp c (.sh b.name) d .root = c .root := swp_ne (by intro z; cases z)
  generalize upd H3 (c .pp) (.dK (putK kvs (Sum.inr b.name) (.ref d))) = H4 at R4 C4
  generalize swp c (.sh b.name) d = c4 at R4 C4 e5
  rw [← e5]
  -- the roots
  refine ⟨_, rfl, _, _, rfl, rfl, _, _, rfl, ⟨by decide, by decide, by omega, by omega⟩, ?_⟩
  have hlen : ((b.roots : Int) + 1 - 1).toNat = b.roots := by omega
  refine for_it walk_range (fun i σ H' => ∃ u, σ = [some (.ref (c4 .root)), some (.ref r), some (.str b.name), some (.str b.breed), some (.str b.owner), some (.int b.roots), some (.int b.guess), some (.int b.offs), some (.str b.kind), u] ∧
    Rep knLaw (addB B b.name) (n + 1 + 2 * i) H' c4 { st with parts := backP st.parts b, held := backI st.held b i } ∧ Chg (foot c4 (addB B b.name)) (foot c4 (addB B b.name)) H4 H') ⟨_, rfl, R4.weak fun g y => backI_zero, Chg.of (Same.refl _)⟩ (fun _ _ _ _ _ => trivial) ?_ ?_
  · rintro i x σ H5 H6 hi ⟨u, rfl, R5, C5⟩ ⟨rfl, e⟩
    rw [hlen] at hi
    have e : x = .int ((i + 1 : Nat) : Int) := e.trans (by show V.int (1 + (i : Int)) = _; rw [show (1 : Int) + (i : Int) = ((i + 1 : Nat) : Int) by omega])
    subst e
    refine ⟨_, rfl, _, rfl, c4 .root, _, rfl, R5.l_held, _, rfl, _, rfl, (by show 3 ≤ sizeLine; decide), fun t ht => ?_⟩
    obtain ⟨H7, p7, R7, C7⟩ := R5.held_new (g := .it true b.name (i + 1)) (x := b.owner) (held := backJ st.held b i) (Nat.lt_of_lt_of_le (show n + 1 + 2 * i < 100100 by omega) (by decide)) ht fun g y h => backJ_of h
    refine ⟨c4 .h, H7, rfl, p7, ?_⟩
    refine ⟨_, rfl, _, rfl, c4 .root, _, rfl, R7.l_held, _, rfl, _, rfl, (by show 3 ≤ sizeLine; decide), fun t2 ht2 => ?_⟩
    obtain ⟨H8, p8, R8, C8⟩ := R7.held_new (g := .it false b.name (i + 1)) (x := b.owner) (held := backI st.held b (i + 1)) (Nat.lt_of_lt_of_le (show n + 1 + 2 * i + 1 < 100100 by omega) (by decide)) ht2 fun g y h => backI_of h
    exact ⟨c4 .h, H8, rfl, p8, _, rfl, R8, (C5.trans C7).trans C8⟩
  · rintro σ H5 ⟨u, rfl, R5, C5⟩
    rw [hlen] at R5
    rw [backI_end] at R5
    exact k c4 H5 (C4.trans C5) e5 (R5.le (by omega))
theorem ok_law_keys (T : Txt K mg) : Fx P w K mg base "_law_keys" 1 [] (sp_law_keys K) := by
  obtain ⟨fd, F⟩ := T.d_law_keys
  refine ⟨_, fd, _, [], T.g__law_keys, F.kp, fn_body F sc_law_keys rfl (fun cdv A outer s H vs Q E hr h => ?_), F.bindsN (fun _ _ _ _ _ _ us hl => match us, hl with | [_, _], _ => rfl), .nil⟩
  have nd := sc_law_keys.nd
  have hu := hu_of hr
  obtain ⟨c, B, n, st, t, p, rfl, R, ⟨hp, hth⟩, ho, k⟩ := h
  refine ⟨_, (pss_cons (ps_asg (pe_ix ix_tup (pv 1) pe_int (fun _ _ => rfl)) (pg_tup rfl (pgs_cons (pg_name (i := 2) nd rfl (.inl rfl)) (pgs_cons (pg_name (i := 3) nd rfl (.inl rfl)) (pgs_cons (pg_name (i := 4) nd rfl (.inl rfl)) pgs_nil)))))
      (pss_cons (ps_if (pt_cmpR op_eq (pv 2) pe_str (nomark _)) (pss_one (ps_ret (pe_lst (pa_cons (pe_tup (pa_cons pe_str (pa_cons (pv 3) pa_nil))) pa_nil)))) pss_nil)
      (pss_cons (ps_set (i := 5) nd rfl (Or.inl rfl) (pe_tup (pa_cons pe_str (pa_cons (pv 3) (pa_cons (pv 4) pa_nil)))))
      (pss_cons (ps_if (PW.pt (pw_and (pt_cmpR op_eq (pv 2) pe_str (nomark _)) (pw_and (pt_cmpR op_eq (pe_ix ix_tup (pv 1) pe_int (fun _ _ => rfl)) pe_str (nomark _)) (pw_and1 (pt_cmpR op_eq (pe_dget hu (pe_dget hu (pv 0) pe_str (fun _ _ => rfl)) (pv 5) (fun _ _ => rfl)) (pe_ix ix_tup (pv 1) pe_int (fun _ _ => rfl)) (nomark _)))))) (pss_one (ps_ret (pe_lst (pa_cons (pe_ix ix_tup (pv 1) pe_int (fun _ _ => rfl)) (pa_cons (pv 5) pa_nil))))) pss_nil)
      (pss_one (ps_ret (pe_lst (pa_cons (pe_ix ix_tup (pv 1) pe_int (fun _ _ => rfl)) pa_nil)))))))), ?_⟩
  have hp1 := cut_le _ _ hp
  have hth1 := hth.same cut_le
  obtain ⟨v, ha, hv⟩ := id hth1
  refine ⟨_, rfl, t, _, 5, _, rfl, rfl, SqT.of hp1, rfl, p.ta, _, rfl, SqT.of ha, rfl, _, _, rfl, _, _, rfl, _, _, rfl, rfl, ?_⟩
  refine ⟨_, rfl, rfl, _, rfl, ?_⟩
  rw [kd_share]
  have one : ∀ (H' : Hp) (kl : Addr), H kl = none → H' = upd H kl (.lst [.ref p.ta]) → p.th.kd ≠ .share → KeysAt (cut H' (foot c B)) kl [p.th.gk] := fun H' kl hkl e hk => by
    subst e
    exact ⟨_, cut_of (R.fresh hkl) upd_same, .cons ⟨_, rfl, (Chg.of (C := foot c B) (same_upd (Same.refl _) hkl)).cut _ _ (th_gk hth hk)⟩ .nil⟩
  cases hk : p.th.kd with
  | share =>
    rw [decide_eq_true rfl]
    refine ⟨_, rfl, (by show 2 ≤ sizeLine; decide), fun t1 ht1 => ⟨(by show 1 ≤ sizeLine; decide), fun kl hkl => ?_⟩⟩
    have e1 := same_upd (o := .tup [V.str "share", .str p.th.bed]) (Same.refl H) ht1
    have e2 := same_upd (o := .lst [.ref t1]) e1 (e1.free hkl)
    refine k kl _ e2 ?_
    have hkeys : st.keys p = [.sh p.th.bed] := by
      unfold PS.keys Th.gk
      rw [if_neg (by rw [hk]; intro z; cases z.1), hk]
    rw [hkeys]
    refine ⟨_, cut_of (R.fresh (e1.free hkl)) upd_same, .cons ⟨t1, rfl, cut_of (R.fresh ht1) ?_⟩ .nil⟩
    rw [upd_ne (ne_of_none upd_same hkl)]
    exact upd_same
  | offs =>
    rw [decide_eq_false (by intro z; cases z)]
    have hv1 := hv.num (by rw [hk]; intro z; cases z)
    subst hv1
    refine ⟨_, rfl, _, rfl, (by show 3 ≤ sizeLine; decide), fun t1 ht1 => ?_⟩
    refine ⟨_, rfl, rfl, _, rfl, ?_⟩
    rw [kd_root, decide_eq_false (by intro z; cases z)]
    have e1 := same_upd (o := .tup [V.str "offsets", .str p.th.bed, .int p.th.k]) (Same.refl H) ht1
    refine ⟨_, rfl, t, _, 5, _, rfl, rfl, SqT.of (e1 _ _ hp1), rfl, (by show 1 ≤ sizeLine; decide), fun kl hkl => ?_⟩
    refine k kl _ (same_upd e1 (e1.free hkl)) ?_
    have hkeys : st.keys p = [p.th.gk] := by
      unfold PS.keys
      rw [if_neg (by rw [hk]; intro z; cases z.1)]
    rw [hkeys]
    exact ⟨_, cut_of (R.fresh (e1.free hkl)) upd_same, .cons ⟨_, rfl, (Chg.of (C := foot c B) (same_upd e1 (e1.free hkl))).cut _ _ (th_gk hth (by rw [hk]; intro z; cases z))⟩ .nil⟩
  | root =>
    rw [decide_eq_false (by intro z; cases z)]
    have hv1 := hv.num (by rw [hk]; intro z; cases z)
    subst hv1
    obtain ⟨x, hx⟩ := ho hk
    refine ⟨_, rfl, _, rfl, (by show 3 ≤ sizeLine; decide), fun t1 ht1 => ?_⟩
    refine ⟨_, rfl, rfl, _, rfl, ?_⟩
    rw [kd_root, decide_eq_true rfl]
    have e1 := same_upd (o := .tup [V.str "offsets", .str p.th.bed, .int p.th.k]) (Same.refl H) ht1
    have one : ∀ (kl : Addr), upd H t1 (.tup [V.str "offsets", .str p.th.bed, .int p.th.k]) kl = none → st.keys p = [p.th.gk] → Q (.ref kl) (upd (upd H t1 (.tup [V.str "offsets", .str p.th.bed, .int p.th.k])) kl (.lst [.ref p.ta])) := fun kl hkl hkeys => by
      refine k kl _ (same_upd e1 (e1.free hkl)) ?_
      rw [hkeys]
      exact ⟨_, cut_of (R.fresh (e1.free hkl)) upd_same, .cons ⟨_, rfl, (Chg.of (C := foot c B) (same_upd e1 (e1.free hkl))).cut _ _ (th_gk hth (by rw [hk]; intro z; cases z))⟩ .nil⟩
    refine ⟨_, rfl, t, _, 8, _, rfl, rfl, SqT.of (e1 _ _ hp1), rfl, rfl, _, rfl, ?_⟩
    rw [(go_eq p.go).1]
    cases hg : p.go with
    | false =>
      refine ⟨_, rfl, t, _, 5, _, rfl, rfl, SqT.of (e1 _ _ hp1), rfl, (by show 1 ≤ sizeLine; decide), fun kl hkl => one kl hkl ?_⟩
      unfold PS.keys
      rw [if_neg (by rw [hg]; intro z; cases z.2.1)]
    | true =>
      refine ⟨_, rfl, c .root, _, rfl, (R.same e1).l_held, _, rfl, c .h, _, rfl, (R.same e1).held_get (g := .it false p.th.bed p.th.k) upd_same hx, ?_⟩
      refine ⟨_, rfl, t, _, 3, _, rfl, rfl, SqT.of (e1 _ _ hp1), rfl, rfl, _, rfl, ?_⟩
      by_cases hs : x = p.seller
      · rw [decide_eq_true (by rw [hs])]
        refine ⟨_, rfl, t, _, 5, _, rfl, rfl, SqT.of (e1 _ _ hp1), rfl, _, rfl, (by show 2 ≤ sizeLine; decide), fun kl hkl => ?_⟩
        refine k kl _ (same_upd e1 (e1.free hkl)) ?_
        have hkeys : st.keys p = [p.th.gk, .it false p.th.bed p.th.k] := by
          unfold PS.keys
          rw [if_pos ⟨hk, hg, by rw [hx, hs]⟩]
        rw [hkeys]
        refine ⟨_, cut_of (R.fresh (e1.free hkl)) upd_same, .cons ⟨_, rfl, (Chg.of (C := foot c B) (same_upd e1 (e1.free hkl))).cut _ _ (th_gk hth (by rw [hk]; intro z; cases z))⟩ (.cons ⟨t1, rfl, cut_of (R.fresh ht1) ?_⟩ .nil)⟩
        rw [upd_ne (ne_of_none upd_same hkl)]
        exact upd_same
      · rw [decide_eq_false (fun z => hs (by injection z))]
        refine ⟨_, rfl, t, _, 5, _, rfl, rfl, SqT.of (e1 _ _ hp1), rfl, (by show 1 ≤ sizeLine; decide), fun kl hkl => one kl hkl ?_⟩
        unfold PS.keys
        rw [if_neg (by rw [hx]; exact fun z => hs (Option.some.inj z.2.2))]
end
end RP
set_option Elab.async false
set_option linter.all false
set_option maxRecDepth 100000
set_option maxHeartbeats 400000
/-! rootpledge k80: the law's own standing, 2 -/
namespace RP
open PySem PySem.Spec PyProof.Rows L2
def Ball (bs : List BedR) : Str → Prop := fun x => ∃ b ∈ bs, b.name = x
theorem Ball_snoc (bs : List BedR) (b : BedR) : Ball (bs ++ [b]) = addB (Ball bs) b.name := by
  funext x
  refine propext ⟨?_, ?_⟩
  · rintro ⟨c, hc, e⟩
    rcases List.mem_append.mp hc with hc | hc
    · exact .inr ⟨c, hc, e⟩
    · rw [List.mem_singleton.mp hc] at e
      exact .inl e.symm
  · rintro (e | ⟨c, hc, e⟩)
    · exact ⟨b, List.mem_append.mpr (.inr List.mem_cons_self), e.symm⟩
    · exact ⟨c, List.mem_append.mpr (.inl hc), e⟩
theorem begin_snoc (bs : List BedR) (b : BedR) : PS.begin (bs ++ [b]) = (PS.begin bs).back b := by
  unfold PS.begin
  rw [List.foldl_append]
  rfl
theorem take_snoc {α : Type} {l : List α} {i : Nat} {a : α} (h : l[i]? = some a) : l.take (i + 1) = l.take i ++ [a] := by
  rw [List.take_succ, h]
  rfl
def BedRowAt : Hp → V → BedR → Prop := fun H v b => ∃ t, v = .ref t ∧ H t = some (.tup (bedVs b))
theorem mo_bedrow : Mo BedRowAt := fun H H' v x e h => by
  obtain ⟨t, rfl, h⟩ := h
  exact ⟨t, rfl, e _ _ h⟩
/-- addresses, the newest first -/
structure News (H : Hp) (as : List Addr) : Prop where
  nd : as.Nodup
  dom : ∀ a ∈ as, ∃ o, H a = some o
theorem News.nil {H : Hp} : News H [] := ⟨List.nodup_nil, fun a h => nomatch h⟩
theorem News.add {H H' : Hp} {as : List Addr} {p : Addr} {o : HO} (n : News H as) (e : Same H H') (h : H p = none) (h' : H' p = some o) : News H' (p :: as) := by
  refine ⟨List.nodup_cons.mpr ⟨fun z => ?_, n.nd⟩, fun a ha => ?_⟩
  · obtain ⟨o2, z2⟩ := n.dom p z
    rw [h] at z2
    cases z2
  · rcases List.mem_cons.mp ha with rfl | ha
    · exact ⟨o, h'⟩
    · obtain ⟨o2, z⟩ := n.dom a ha
      exact ⟨o2, e _ _ z⟩
def Lab.ix : Lab → Nat
  | .root => 6
  | .h => 5
  | .pp => 4
  | .sp => 3
  | .gd => 2
  | .vd => 1
  | .gn => 0
  | .sh _ => 7
theorem inj_of {c : Lab → Addr} {as : List Addr} (nd : as.Nodup) (h : as = [c .gn, c .vd, c .gd, c .sp, c .pp, c .h, c .root]) : ∀ l l', Act (fun _ => False) l → Act (fun _ => False) l' → c l = c l' → l = l' := by
  have g : ∀ l, Act (fun _ => False) l → as[l.ix]? = some (c l) ∧ l.ix < as.length := fun l a => by
    subst h
    cases l with
    | sh x => exact False.elim a
    | root => exact ⟨rfl, by show _ < 7; decide⟩
    | h => exact ⟨rfl, by show _ < 7; decide⟩
    | pp => exact ⟨rfl, by show _ < 7; decide⟩
    | sp => exact ⟨rfl, by show _ < 7; decide⟩
    | gd => exact ⟨rfl, by show _ < 7; decide⟩
    | vd => exact ⟨rfl, by show _ < 7; decide⟩
    | gn => exact ⟨rfl, by show _ < 7; decide⟩
  intro l l' h1 h2 e
  have q : l.ix = l'.ix := (List.getElem?_inj (g l h1).2 nd).mp (by rw [(g l h1).1, (g l' h2).1, e])
  cases l <;> cases l' <;> first
    | rfl
    | exact False.elim h1
    | exact False.elim h2
    | exact absurd q (by decide)
theorem Rep.zero {k : Kn} {H : Hp} {c : Lab → Addr} {as : List Addr} (nd : as.Nodup) (h : as = [c .gn, c .vd, c .gd, c .sp, c .pp, c .h, c .root]) (h0 : H (c .root) = some (k.ro c)) (h1 : H (c .h) = some (.dT [])) (h2 : H (c .pp) = some (.dK [])) (h3 : H (c .sp) = some (.dK []))
    (h4 : H (c .gd) = some (.lst [])) (h5 : H (c .vd) = some (.lst [])) (h6 : H (c .gn) = some (.lst [])) : Rep k (fun _ => False) 0 H c PS.zero := by
  refine ⟨inj_of nd h, fun l a => ?_⟩
  cases l with
  | sh x => exact False.elim a
  | root => exact ⟨_, h0, rfl⟩
  | h => exact ⟨_, h1, [], rfl, Nat.le_refl _, fun g x z => by cases z⟩
  | pp => exact ⟨_, h2, [], rfl, Nat.le_refl _, fun x z => False.elim z⟩
  | sp => exact ⟨_, h3, [], rfl, .nil⟩
  | gd => exact ⟨_, h4, [], rfl, .nil⟩
  | vd => exact ⟨_, h5, [], rfl, .nil⟩
  | gn => exact ⟨_, h6, rfl⟩
theorem law_merge (a1 a2 a3 a4 a5 a6 : Addr) : mergeK [] [(Sum.inr "held", V.ref a1), (Sum.inr "parts", .ref a2), (Sum.inr "spoilt", .ref a3), (Sum.inr "good", .ref a4), (Sum.inr "voids", .ref a5), (Sum.inr "gone", .ref a6)] =
    ([(Sum.inr "held", V.ref a1), (Sum.inr "parts", .ref a2), (Sum.inr "spoilt", .ref a3), (Sum.inr "good", .ref a4), (Sum.inr "voids", .ref a5), (Sum.inr "gone", .ref a6)] : List (Key × V)) := by
  refine (merge_nodup (acc := []) ?_).trans (List.nil_append _)
  show ([Sum.inr "held", Sum.inr "parts", Sum.inr "spoilt", Sum.inr "good", Sum.inr "voids", Sum.inr "gone"] : List Key).Nodup
  decide +kernel
def sp_law_begin (K : PySem.W.Frag) : Sp := spA 1 fun vs H Q => ∃ a bs, vs = [.ref a] ∧ LAt BedRowAt H a bs ∧ BedsOk bs ∧ ∀ c H', Chg (fun _ => False) (foot c (Ball bs)) H H' → Rep knLaw (Ball bs) 200 H' c (PS.begin bs) → Q (.ref (c .root)) H'
def sp_law_promised (K : PySem.W.Frag) : Sp := spA 2 fun vs H Q => ∃ c bs Nm n w st t p, vs = [.ref (c .root), .ref t] ∧ Rep knLaw (Ball bs) w H c st ∧ PRowAt K (cut H (foot c (Ball bs))) t p ∧ BedsOk bs ∧ PSok bs Nm n st ∧ PrIn bs Nm p ∧ n ≤ 1000 ∧ w ≤ 100000 ∧
  ∀ H', Chg (foot c (Ball bs)) (foot c (Ball bs)) H H' → Rep knLaw (Ball bs) (w + 3) H' c (st.prom p) → Q .non H'
def sp_law_spoiled (K : PySem.W.Frag) : Sp := spA 3 fun vs H Q => ∃ c bs Nm n w st a t b m t', vs = [.ref (c .root), .ref a, .ref t] ∧ Rep knLaw (Ball bs) w H c st ∧ LAt BedRowAt (cut H (foot c (Ball bs))) a bs ∧ cut H (foot c (Ball bs)) t = some (.tup [.str "spoil", .int (m : Nat), .int (t' : Nat), .str b.name]) ∧ b ∈ bs ∧ BedsOk bs ∧ PSok bs Nm n st ∧ n ≤ 1000 ∧ w ≤ 100000 ∧
  ∀ c' H', Chg (foot c (Ball bs)) (foot c' (Ball bs)) H H' → c' .root = c .root → Rep knLaw (Ball bs) (w + 30) H' c' (st.spoil m b) → Q .non H'
section
variable {P : Program} {w : World} {K : PySem.W.Frag} {mg : Str → Option Value} {base : Heap}
theorem ok_law_begin (T : Txt K mg) : Fx P w K mg base "_law_begin" 2 [] (sp_law_begin K) := by
  obtain ⟨fd, F⟩ := T.d_law_begin
  refine ⟨_, fd, _, [], T.g__law_begin, F.kp, fn_body F sc_law_begin rfl (fun cdv A outer s H vs Q E hr h => ?_), F.bindsN (fun _ _ _ _ _ _ us hl => match us, hl with | [_], _ => rfl), .nil⟩
  have nd := sc_law_begin.nd
  have hu := hu_of hr
  obtain ⟨a, bs, rfl, L, B, k⟩ := h
  refine ⟨_, (pss_cons (ps_set (i := 1) nd rfl (Or.inl rfl) (pe_disp (pps_cons pe_str pe_dnewT (pps_cons pe_str pe_dnewK (pps_cons pe_str pe_dnewK (pps_cons pe_str (pe_lst pa_nil) (pps_cons pe_str (pe_lst pa_nil) (pps_cons pe_str (pe_lst pa_nil) pps_nil)))))) (by rfl) (by rfl) (fun z => by cases z) (by decide)))
      (pss_cons (ps_for PassesOwn.never rfl (pi_list (pv 0)) (pg_name (i := 2) nd rfl (.inl rfl))
      (pss_one (ps_expr (pe_f (ok_law_back T) (hr.mono (by decide)) (pa_cons (pv 1) (pa_cons (pv 2) pa_nil))))))
      (pss_one (ps_ret (pv 1))))), ?_⟩
  intro a0 h0
  have e0 := same_upd (o := .dK []) (Same.refl H) h0
  have n0 : News _ [a0] := News.nil.add e0 h0 upd_same
  have q0 : upd H a0 (.dK []) a0 = some (.dK []) := upd_same
  generalize upd H a0 (.dK []) = H0 at e0 n0 q0
  intro a1 h1
  have e1 := same_upd (o := .dT []) (Same.refl H0) h1
  have n1 := n0.add e1 h1 upd_same
  have q1 : upd H0 a1 (.dT []) a1 = some (.dT []) := upd_same
  generalize upd H0 a1 (.dT []) = H1 at e1 n1 q1
  intro a2 h2
  have e2 := same_upd (o := .dK []) (Same.refl H1) h2
  have n2 := n1.add e2 h2 upd_same
  have q2 : upd H1 a2 (.dK []) a2 = some (.dK []) := upd_same
  generalize upd H1 a2 (.dK []) = H2 at e2 n2 q2
  intro a3 h3
  have e3 := same_upd (o := .dK []) (Same.refl H2) h3
  have n3 := n2.add e3 h3 upd_same
  have q3 : upd H2 a3 (.dK []) a3 = some (.dK []) := upd_same
  generalize upd H2 a3 (.dK []) = H3 at e3 n3 q3
  refine ⟨by show 0 ≤ sizeLine; decide, fun a4 h4 => ?_⟩
  have e4 := same_upd (o := .lst []) (Same.refl H3) h4
  have n4 := n3.add e4 h4 upd_same
  have q4 : upd H3 a4 (.lst []) a4 = some (.lst []) := upd_same
  generalize upd H3 a4 (.lst []) = H4 at e4 n4 q4
  refine ⟨by show 0 ≤ sizeLine; decide, fun a5 h5 => ?_⟩
  have e5 := same_upd (o := .lst []) (Same.refl H4) h5
  have n5 := n4.add e5 h5 upd_same
  have q5 : upd H4 a5 (.lst []) a5 = some (.lst []) := upd_same
  generalize upd H4 a5 (.lst []) = H5 at e5 n5 q5
  refine ⟨by show 0 ≤ sizeLine; decide, fun a6 h6 => ?_⟩
  have e6 := same_upd (o := .lst []) (Same.refl H5) h6
  have n6 := n5.add e6 h6 upd_same
  have q6 : upd H5 a6 (.lst []) a6 = some (.lst []) := upd_same
  generalize upd H5 a6 (.lst []) = H6 at e6 n6 q6
  have f5 : Same H5 H6 := e6
  have f4 : Same H4 H6 := e5.trans f5
  have f3 : Same H3 H6 := e4.trans f4
  have f2 : Same H2 H6 := e3.trans f3
  have f1 : Same H1 H6 := e2.trans f2
  have f0 : Same H0 H6 := e1.trans f1
  refine ⟨f0 _ _ q0, [(Sum.inr "held", .ref a1), (Sum.inr "parts", .ref a2), (Sum.inr "spoilt", .ref a3), (Sum.inr "good", .ref a4), (Sum.inr "voids", .ref a5), (Sum.inr "gone", .ref a6)], rfl, (by show 6 ≤ 15; decide), ?_⟩
  rw [law_merge]
  have ne0 : ∀ x ∈ [a6, a5, a4, a3, a2, a1], x ≠ a0 := fun x hx e => by
    have nd := n6.nd
    rw [show [a6, a5, a4, a3, a2, a1, a0] = [a6, a5, a4, a3, a2, a1] ++ [a0] from rfl, List.nodup_append] at nd
    exact nd.2.2 x hx a0 List.mem_cons_self e
  let c : Lab → Addr := fun l => match l with
    | .root => a0
    | .h => a1
    | .pp => a2
    | .sp => a3
    | .gd => a4
    | .vd => a5
    | .gn => a6
    | .sh _ => a0
  have R0 : Rep knLaw (fun _ => False) 0 (upd H6 a0 (lawRo c)) c PS.zero := by
    refine Rep.zero n6.nd rfl upd_same ?_ ?_ ?_ ?_ ?_ ?_
    · show upd H6 a0 _ a1 = _
      rw [upd_ne (ne0 _ (by simp))]
      exact f1 _ _ q1
    · show upd H6 a0 _ a2 = _
      rw [upd_ne (ne0 _ (by simp))]
      exact f2 _ _ q2
    · show upd H6 a0 _ a3 = _
      rw [upd_ne (ne0 _ (by simp))]
      exact f3 _ _ q3
    · show upd H6 a0 _ a4 = _
      rw [upd_ne (ne0 _ (by simp))]
      exact f4 _ _ q4
    · show upd H6 a0 _ a5 = _
      rw [upd_ne (ne0 _ (by simp))]
      exact f5 _ _ q5
    · show upd H6 a0 _ a6 = _
      rw [upd_ne (ne0 _ (by simp))]
      exact q6
  have C0 : Chg (fun _ => False) (foot c (fun _ => False)) H (upd H6 a0 (lawRo c)) := by
    refine ⟨fun x o _ e => ?_, fun x hx => .inr ?_⟩
    · rw [upd_ne (ne_of_none e h0)]
      exact f0 _ _ (e0 _ _ e)
    · obtain ⟨l, hl, rfl⟩ := hx
      cases l with
      | sh x => exact False.elim hl
      | root => exact h0
      | h => exact e0.free h1
      | pp => exact (e0.trans e1).free h2
      | sp => exact ((e0.trans e1).trans e2).free h3
      | gd => exact (((e0.trans e1).trans e2).trans e3).free h4
      | vd => exact ((((e0.trans e1).trans e2).trans e3).trans e4).free h5
      | gn => exact (((((e0.trans e1).trans e2).trans e3).trans e4).trans e5).free h6
  have ro : H6 = H6 := rfl
  obtain ⟨vs, ha, fa⟩ := L
  change tSeq _ _ _ _ (upd H6 a0 (lawRo c))
  generalize upd H6 a0 (lawRo c) = H7 at R0 C0
  have ha7 : H7 a = some (.lst vs) := C0.kp _ _ (fun z => z) ha
  refine ⟨_, rfl, a, rfl, ⟨vs, SqL.of ha7⟩, ?_⟩
  have hlen : vs.length = bs.length := fa.1
  refine for_list (K := K) (xs := vs) (fun i σ H' => ∃ u c', σ = [some (.ref a), some (.ref (c' .root)), u] ∧ Rep knLaw (Ball (bs.take i)) (30 * i) H' c' (PS.begin (bs.take i)) ∧ Chg (fun _ => False) (foot c' (Ball (bs.take i))) H H') ⟨_, c, rfl, ?_, ?_⟩ (fun i σ H' _ ⟨u, c', e, R', C'⟩ => SqL.of (C'.kp _ _ (fun z => z) ha)) ?_ ?_
  · have eb : Ball (bs.take 0) = fun _ => False := funext fun x => propext ⟨fun ⟨b, hb, _⟩ => (nomatch hb), False.elim⟩
    rw [eb]
    exact R0
  · have eb : Ball (bs.take 0) = fun _ => False := funext fun x => propext ⟨fun ⟨b, hb, _⟩ => (nomatch hb), False.elim⟩
    rw [eb]
    exact C0
  · rintro i v σ H' hv ⟨u, c', rfl, R', C'⟩
    obtain ⟨b, hb, t, rfl, ht⟩ := fa.get2 hv
    have hi : i < bs.length := (List.getElem?_eq_some_iff.mp hb).1
    have hn := B.n6
    refine ⟨_, rfl, _, rfl, rfl, c', _, _, _, t, b, rfl, R', C'.kp _ _ (fun z => z) ht, by omega, (B.ok b (List.mem_of_getElem? hb)).r12, fun c2 H2 C2 e2 R2 => ?_⟩
    rw [← Ball_snoc, ← take_snoc hb] at R2 C2
    rw [← begin_snoc, ← take_snoc hb] at R2
    exact ⟨_, c2, by rw [e2]; rfl, R2.le (by omega), C'.trans C2⟩
  · rintro σ H' ⟨u, c', rfl, R', C'⟩
    have hn := B.n6
    rw [hlen, List.take_length] at R' C'
    exact ⟨_, rfl, k c' H' C' (R'.le (by omega))⟩
end
end RP
set_option Elab.async false
set_option linter.all false
set_option maxRecDepth 100000
set_option maxHeartbeats 400000
/-! rootpledge k80: data of keys, entries; more reads and writes -/
namespace RP
open PySem PySem.Spec PyProof.Rows L2
theorem name_str {x : Str} (h : NameOk x) : PyData.strOk x = true := by
  unfold PyData.strOk
  rw [← Array.all_toList, List.all_eq_true]
  intro c hc
  have := h.az c hc
  exact decide_eq_true (by omega)
section
variable {K : PySem.W.Frag} {H : Hp}
theorem gk_dp {v : V} {g : GK} (h : GKAt H v g) : Dp K H v g.data := by
  obtain ⟨t, rfl, h⟩ := h
  cases g with
  | sh b => exact .tup (SqT.of h) (.cons (.str _) (.cons (.str _) .nil))
  | it r b k => exact .tup (SqT.of h) (.cons (.str _) (.cons (.str _) (.cons (.int _) .nil)))
theorem gk_lay {g : GK} (h : GKok g) : g.data.canLay0 = true ∧ g.data.depth = 1 := by
  cases g with
  | sh b =>
    have := name_str h
    constructor
    · simp only [GK.data, PyData.canLay0, PyData.canLayAll0, this, Bool.and_true]
      decide +kernel
    · simp [GK.data, PyData.depth, PyData.depthAll]
  | it r b k =>
    have := name_str h
    constructor
    · simp only [GK.data, PyData.canLay0, PyData.canLayAll0, this, Bool.and_true]
      cases r <;> decide +kernel
    · simp [GK.data, PyData.depth, PyData.depthAll]
theorem dp_all {α : Type} {R : Hp → V → α → Prop} {f : α → PyData} (hR : ∀ v x, R H v x → Dp K H v (f x)) : ∀ {vs : List V} {xs : List α}, Fits R H vs xs → DpAll K H vs (xs.map f)
  | [], [], _ => .nil
  | [], x :: xs, h => by
    have := h.1
    simp at this
  | v :: vs, [], h => by
    have := h.1
    simp at this
  | v :: vs, x :: xs, h => by
    refine .cons (hR v x (h.2 0 v x rfl rfl)) (dp_all hR ⟨by have := h.1; simpa using this, fun i u y h1 h2 => h.2 (i + 1) u y (by simpa using h1) (by simpa using h2)⟩)
theorem lay_all : ∀ {ds : List PyData} {n : Nat}, (∀ d ∈ ds, d.canLay0 = true ∧ d.depth ≤ n) → PyData.canLayAll0 ds = true ∧ PyData.depthAll ds ≤ n
  | [], n, _ => by simp [PyData.canLayAll0, PyData.depthAll]
  | d :: ds, n, h => by
    obtain ⟨h1, h2⟩ := lay_all (ds := ds) fun x hx => h x (List.mem_cons_of_mem _ hx)
    obtain ⟨h3, h4⟩ := h d List.mem_cons_self
    simp only [PyData.canLayAll0, PyData.depthAll, h3, h1, Bool.and_true]
    exact ⟨trivial, Nat.max_le.mpr ⟨h4, h2⟩⟩
theorem shaped_of {d : PyData} (h : d.canLay0 = true) (h2 : d.depth ≤ 64) : SeqAt.shaped d = true := by
  unfold SeqAt.shaped
  rw [h, decide_eq_true h2]
  rfl
theorem shaped_list {ds : List PyData} (h : ∀ d ∈ ds, d.canLay0 = true ∧ d.depth ≤ 10) : SeqAt.shaped (.list ds) = true := by
  obtain ⟨h1, h2⟩ := lay_all h
  exact shaped_of (by simp only [PyData.canLay0, h1]) (by simp only [PyData.depth]; omega)
theorem gk_shaped {g : GK} (h : GKok g) : SeqAt.shaped g.data = true := shaped_of (gk_lay h).1 (by rw [(gk_lay h).2]; decide)
theorem keys_dp {a : Addr} {ks : List GK} (h : KeysAt H a ks) : Dp K H (.ref a) (.list (ks.map GK.data)) := by
  obtain ⟨vs, h1, h2⟩ := h
  exact .lst (SqL.of h1) (dp_all (fun v x => gk_dp) h2)
theorem keys_shaped {ks : List GK} (h : ∀ g ∈ ks, GKok g) : SeqAt.shaped (.list (ks.map GK.data)) = true := shaped_list fun d hd => by
  obtain ⟨g, hg, rfl⟩ := List.mem_map.mp hd
  exact ⟨(gk_lay (h g hg)).1, by rw [(gk_lay (h g hg)).2]; decide⟩
theorem ints_dp {a : Addr} {ns : List Nat} (h : SqL K H a (ns.map fun n => .int (n : Nat))) : Dp K H (.ref a) (.list (ns.map fun n => .int (n : Nat))) := by
  refine .lst h ?_
  induction ns with
  | nil => exact .nil
  | cons n ns ih => exact .cons (.int _) (by
      clear h
      clear ih
      induction ns with
      | nil => exact .nil
      | cons m ns ih2 => exact .cons (.int _) ih2)
theorem ints_shaped (ns : List Nat) : SeqAt.shaped (.list (ns.map fun n => .int (n : Nat))) = true := shaped_list fun d hd => by
  obtain ⟨n, _, rfl⟩ := List.mem_map.mp hd
  simp [PyData.canLay0, PyData.depth]
theorem eqv_nil (ds : List PyData) : PyData.eqv (.list ds) (.list []) = ds.isEmpty := by
  cases ds <;> simp [PyData.eqv, PyData.eqvAll]
theorem nil_shaped : SeqAt.shaped (.list []) = true := by decide
end
section
variable {k : Kn} {B : Str → Prop} {w : Nat} {H : Hp} {c : Lab → Addr} {st : PS} {t : Addr}
theorem Rep.voids_at (R : Rep k B w H c st) : ∃ vs, H (c .vd) = some (.lst vs) ∧ Fits VdAt (cut H (foot c B)) vs st.voids := by
  obtain ⟨o, q, vs, rfl, f⟩ := R.at_ .vd trivial
  exact ⟨vs, q, f⟩
theorem Rep.good_at (R : Rep k B w H c st) : ∃ vs, H (c .gd) = some (.lst vs) ∧ Fits k.E (cut H (foot c B)) vs st.good := by
  obtain ⟨o, q, vs, rfl, f⟩ := R.at_ .gd trivial
  exact ⟨vs, q, f⟩
theorem Rep.gone_at (R : Rep k B w H c st) : H (c .gn) = some (.lst (st.gone.map fun n => .int (n : Nat))) := by
  obtain ⟨o, q, rfl⟩ := R.at_ .gn trivial
  exact q
theorem Rep.spoilt_at (R : Rep k B w H c st) : ∃ us, H (c .sp) = some (.dK us) ∧ Sh UI (cut H (foot c B)) us st.spoilt := by
  obtain ⟨o, q, vs, rfl, f⟩ := R.at_ .sp trivial
  exact ⟨vs, q, f⟩
theorem Rep.sh_at (R : Rep k B w H c st) {b : Str} (h : B b) : ∃ us, H (c (.sh b)) = some (.dK us) ∧ Sh k.U (cut H (foot c B)) us (st.parts b) := by
  obtain ⟨o, q, vs, rfl, f⟩ := R.at_ (.sh b) h
  exact ⟨vs, q, f⟩
/-- a new row of the voids -/
theorem Rep.void_app (R : Rep k B w H c st) {x : Nat × Vd} (hn : st.voids.length ≤ 100000) (ht : H t = none) : ∃ vs, upd H t (.tup [.int (x.1 : Nat), .str (vdS x.2), vdV x.2]) (c .vd) = some (.lst vs) ∧ vs.length < sizeLine ∧
    Rep k B w (upd (upd H t (.tup [.int (x.1 : Nat), .str (vdS x.2), vdV x.2])) (c .vd) (.lst (vs ++ [.ref t]))) c { st with voids := st.voids ++ [x] } ∧
    Chg (foot c B) (foot c B) H (upd (upd H t (.tup [.int (x.1 : Nat), .str (vdS x.2), vdV x.2])) (c .vd) (.lst (vs ++ [.ref t]))) := by
  have e := same_upd (o := .tup [.int (x.1 : Nat), .str (vdS x.2), vdV x.2]) (Same.refl H) ht
  have R1 := R.same e
  obtain ⟨vs, q, f⟩ := R1.voids_at
  exact ⟨vs, q, by rw [f.1]; exact Nat.lt_of_le_of_lt hn (by decide), R1.put_voids (f.snoc ⟨t, rfl, cut_of (R.fresh ht) upd_same⟩), (Chg.of e).trans (Chg.write (foot_of (l := .vd) trivial))⟩
/-- a new entry -/
theorem Rep.good_app (R : Rep k B w H c st) {x : Ent} {v : V} (hn : st.good.length ≤ 100000) (hx : k.E (cut H (foot c B)) v x) : ∃ vs, H (c .gd) = some (.lst vs) ∧ vs.length < sizeLine ∧
    Rep k B w (upd H (c .gd) (.lst (vs ++ [v]))) c { st with good := st.good ++ [x] } ∧ Chg (foot c B) (foot c B) H (upd H (c .gd) (.lst (vs ++ [v]))) := by
  obtain ⟨vs, q, f⟩ := R.good_at
  exact ⟨vs, q, by rw [f.1]; exact Nat.lt_of_le_of_lt hn (by decide), R.put_good (f.snoc hx), Chg.write (foot_of (l := .gd) trivial)⟩
theorem Rep.sh_put (R : Rep k B w H c st) {b n : Str} {v : V} {u : Nat} {parts : Str → List (Str × Nat)} (hB : B b) (hl : (st.parts b).length ≤ 100000) (nd : ((st.parts b).map (·.1)).Nodup) (hv : k.U (cut H (foot c B)) v u) (hp : parts = fun y => if y = b then pput (st.parts b) n u else st.parts y) :
    ∃ H2, DPut H (c (.sh b)) (.str n) v H2 ∧ Rep k B w H2 c { st with parts := parts } ∧ Chg (foot c B) (foot c B) H H2 := by
  obtain ⟨us, q, f⟩ := R.sh_at hB
  subst hp
  exact ⟨_, DPut.k (k := Sum.inr n) q (by rw [f.len]; exact Nat.lt_of_le_of_lt hl (by decide)), R.put_share hB (f.put nd hv), Chg.write (foot_of (l := .sh b) hB)⟩
/-- the law's units of a name -/
theorem Rep.l_sh (R : Rep knLaw B w H c st) {b : Str} (hB : B b) (n : Str) : IsD H (c (.sh b)) ∧ DGet H (c (.sh b)) (.str n) ((sget (st.parts b) n).map fun u => .int (u : Nat)) := by
  obtain ⟨us, q, f⟩ := R.sh_at hB
  refine ⟨.inl ⟨us, .inl q⟩, ?_⟩
  have := DGet.k (k := Sum.inr n) q
  cases e : sget (st.parts b) n with
  | none =>
    rw [f.none e] at this
    exact this
  | some u =>
    obtain ⟨v, e2, rfl⟩ := f.get e
    rw [e2] at this
    exact this
theorem getD_int (l : List (Str × Nat)) (n : Str) : ((sget l n).map fun u => V.int (u : Nat)).getD (.int 0) = .int (pget l n : Nat) := by
  unfold pget
  cases sget l n <;> rfl
end
theorem units_eq (u : Nat) : ((pT u : Int) * 27720).fdiv (pB u : Int) = (u : Int) := by
  have e1 := pT_eq u
  have e2 := pB_eq u
  have h : (pT u : Int) * 27720 = ((u * pB u : Nat) : Int) := by
    rw [show ((27720 : Int)) = ((27720 : Nat) : Int) from rfl, ← Int.natCast_mul]
    congr 1
    calc pT u * 27720 = pT u * (pg u * pB u) := by rw [e2]
      _ = (pg u * pT u) * pB u := by ac_rfl
      _ = u * pB u := by rw [e1]
  have hb := pB_pos u
  rw [h, Int.fdiv_eq_ediv_of_nonneg _ (by omega), ← Int.natCast_ediv, Nat.mul_div_cancel _ hb]
end RP
set_option Elab.async false
set_option linter.all false
set_option maxRecDepth 100000
set_option maxHeartbeats 400000
/-! rootpledge k80: the law's own standing, 3: a promise -/
namespace RP
open PySem PySem.Spec PyProof.Rows L2
/-- the acc of a comprehension with a test -/
theorem filt_snoc {α β : Type} {l : List α} {i : Nat} {a : α} (f : α → Bool) (g : α → β) (h : l[i]? = some a) : ((l.take (i + 1)).filter f).map g = ((l.take i).filter f).map g ++ (if f a = true then [g a] else []) := by
  rw [take_snoc h, List.filter_append, List.map_append]
  congr 1
  by_cases e : f a = true
  · rw [if_pos e, List.filter_cons, if_pos e]
    rfl
  · rw [if_neg e, List.filter_cons, if_neg e]
    rfl
theorem Ball_bed {bs : List BedR} {th : Th} (I : ThIn bs th) : Ball bs th.bed := by
  obtain ⟨b, hb, e, _⟩ := I.ex
  exact ⟨b, hb, e⟩
/-- who holds it -/
theorem held_ex {bs : List BedR} {Nm : Str → Prop} {n : Nat} {st : PS} {th : Th} (S : PSok bs Nm n st) (I : ThIn bs th) (hk : th.kd ≠ .share) (r : Bool) : ∃ x, Nm x ∧ st.held (.it r th.bed th.k) = some x := by
  obtain ⟨b, hb, e, h⟩ := I.ex
  rcases h with ⟨h, _⟩ | ⟨_, _, h⟩
  · exact absurd h hk
  · rw [← e]
    exact S.held b hb r th.k I.ok.k1 h
theorem gk_it {th : Th} (hk : th.kd ≠ .share) : ∃ r, th.gk = .it r th.bed th.k := by
  unfold Th.gk
  cases h : th.kd with
  | root => exact ⟨true, rfl⟩
  | offs => exact ⟨false, rfl⟩
  | share => exact absurd h hk
theorem gk_sh {th : Th} (hk : th.kd = .share) : th.gk = .sh th.bed := by
  unfold Th.gk
  rw [hk]
theorem lastV (ns : List Nat) : atI (V.non :: ns.map (fun n => V.int (n : Nat))) (-1) = some (match ns.getLast? with
    | none => V.non
    | some n => .int (n : Nat)) := by
  rcases List.eq_nil_or_concat ns with rfl | ⟨l, n, rfl⟩
  · exact atI_last [] V.non
  · rw [List.concat_eq_append, List.getLast?_append, List.map_append]
    exact atI_last (V.non :: l.map fun n => V.int (n : Nat)) (.int (n : Nat))
theorem vd_word (ns : List Nat) : atI [V.str "never", V.str "clash"] (if (!PyData.eqv (.list (ns.map fun n => PyData.int (n : Nat))) (.list [])) = true then 1 else 0) = some (.str (vdS (match ns.getLast? with
    | none => Vd.never
    | some n => .clash n))) := by
  rw [eqv_nil]
  rcases List.eq_nil_or_concat ns with rfl | ⟨l, n, rfl⟩
  · rfl
  · rw [List.concat_eq_append, List.getLast?_append, List.map_append, show (l.map (fun n => PyData.int (n : Nat)) ++ [n].map (fun n => PyData.int (n : Nat))).isEmpty = false by cases l <;> rfl]
    rfl
theorem vd_val (ns : List Nat) : (match ns.getLast? with
    | none => V.non
    | some n => .int (n : Nat)) = vdV (match ns.getLast? with
    | none => Vd.never
    | some n => .clash n) := by
  cases ns.getLast? <;> rfl
/-- held after i of the keys went over -/
def heldK (st : PS) (ks : List GK) (x : Str) : GK → Option Str := fun g => if g ∈ ks then some x else st.held g
section
variable {P : Program} {w : World} {K : PySem.W.Frag} {mg : Str → Option Value} {base : Heap}
theorem ok_law_promised (T : Txt K mg) : Fx P w K mg base "_law_promised" 2 [] (sp_law_promised K) := by
  obtain ⟨fd, F⟩ := T.d_law_promised
  refine ⟨_, fd, _, [], T.g__law_promised, F.kp, fn_body F sc_law_promised rfl (fun cdv A outer s H vs Q E hr h => ?_), F.bindsN (fun _ _ _ _ _ _ us hl => match us, hl with | [_, _], _ => rfl), .nil⟩
  have nd := sc_law_promised.nd
  have hu := hu_of hr
  obtain ⟨c, bs, Nm, n, ww, st, t, p, rfl, R, HP, BO, S, PI, hn, hw, k⟩ := h
  refine ⟨_, (pss_cons (ps_asg (pe_ix ix_tup (pv 1) pe_int (fun _ _ => rfl)) (pg_tup rfl (pgs_cons (pg_name (i := 2) nd rfl (.inl rfl)) (pgs_cons (pg_name (i := 3) nd rfl (.inl rfl)) (pgs_cons (pg_name (i := 4) nd rfl (.inl rfl)) pgs_nil)))))
      (pss_cons (ps_asg (pe_slice sl_tup (pv 1) (po_some pe_int) (po_some pe_int)) (pg_tup rfl (pgs_cons (pg_name (i := 5) nd rfl (.inl rfl)) (pgs_cons (pg_name (i := 6) nd rfl (.inl rfl)) (pgs_cons (pg_name (i := 7) nd rfl (.inr rfl)) (pgs_cons (pg_name (i := 8) nd rfl (.inl rfl)) pgs_nil))))))
      (pss_cons (ps_set (i := 9) nd rfl (Or.inr rfl) (pe_f (ok_law_keys T) (hr.mono (by decide)) (pa_cons (pv 0) (pa_cons (pv 1) pa_nil))))
      (pss_cons (ps_if (pt_cmp (pc_din hu (pv 3) (pe_dget hu (pv 0) pe_str (fun _ _ => rfl)))) (pss_cons (ps_expr (pe_bm PySem.F.plainAttrs_list PySem.F.slot_list_append PySem.F.type_list_append mt_append (pe_dget hu (pv 0) pe_str (fun _ _ => rfl)) (pa_cons (pe_tup (pa_cons (pv 5) (pa_cons pe_str (pa_cons (pe_dget hu (pe_dget hu (pv 0) pe_str (fun _ _ => rfl)) (pv 3) (fun _ _ => rfl)) pa_nil)))) pa_nil)))
      (pss_one ps_retN)) pss_nil)
      (pss_cons (ps_set (i := 10) nd rfl (Or.inl rfl) (pe_dget hu (pe_dget hu (pv 0) pe_str (fun _ _ => rfl)) (pv 3) (fun _ _ => rfl)))
      (pss_cons (ps_set (i := 11) nd rfl (Or.inl rfl) pe_int)
      (pss_cons (ps_if (pt_cmpR op_eq (pv 2) pe_str (nomark _)) (pss_one (ps_set (i := 11) nd rfl (Or.inl rfl) (pe_op op_fdivN (pe_op op_mul (pe_fld (pv 4) rfl) pe_int) (pe_fld (pv 4) rfl)))) pss_nil)
      (pss_cons (ps_set (i := 12) nd rfl (Or.inl rfl) (pe_and (pe_cmpR op_eq (pv 2) pe_str (nomark _)) (pe_one (pe_cmpR op_lt (pe_dget2 hu (pv 10) (pv 7) pe_int ⟨by rfl, by rfl, by rfl, by rfl⟩) (pv 11) (nomark _)))))
      (pss_cons (ps_if (PW.pt (pw_or (pt_val (pv 12)) (pw_or1 (PW.pt (pw_and (pt_cmpR op_ne (pv 2) pe_str (nomark _)) (pw_and1 (pt_cmpR op_ne (pe_dget hu (pe_dget hu (pv 0) pe_str (fun _ _ => rfl)) (pe_ix ix_tup (pv 1) pe_int (fun _ _ => rfl)) (fun _ _ => rfl)) (pv 7) (nomark _)))))))) (pss_cons (ps_setLc (own := [("_law_entry", 14)]) (i := 13) rfl nd rfl rfl (sw_true rfl rfl rfl (by decide +kernel)) (pi_list (pe_dget hu (pv 0) pe_str (fun _ _ => rfl))) (blkOk_by (own := [("_law_entry", 14)]) (N := ["_law_state", "_law_row", "_law_kind", "_law_bed", "_law_which", "_law_number", "_law_moment", "_law_seller", "_law_buyer", "_law_keys_here", "_law_shares", "_law_units", "_law_short", "_law_ahead", "_law_entry", "_law_key"]) (sc := defScope s_law_promised) (by decide +kernel)) (fun _ _ _ _ _ => (pg_name (i := 14) nd rfl (.inl rfl))) (fun _ _ _ _ _ => (pts_one (PW.pt (pw_and (pt_cmpR op_eq (pe_ix (ix_tupK (K := K) rfl) (pv 14) pe_int (fun _ _ => rfl)) (pv 7) (nomark _)) (pw_and1 (pt_cmpR (op_inDK (K := K) rfl (hr65 hr)) (pe_ix (ix_listK (K := K) rfl) (pv 9) pe_int (fun _ _ => rfl)) (pe_ix (ix_tupK (K := K) rfl) (pv 14) pe_int (fun _ _ => rfl)) rfl)))))) (fun _ _ _ _ _ => (pe_ix (ix_tupK (K := K) rfl) (pv 14) pe_int (fun _ _ => rfl))))
      (pss_cons (ps_expr (pe_bm PySem.F.plainAttrs_list PySem.F.slot_list_append PySem.F.type_list_append mt_append (pe_dget hu (pv 0) pe_str (fun _ _ => rfl)) (pa_cons (pe_tup (pa_cons (pv 5) (pa_cons (pe_ix ix_list (pe_lst (pa_cons pe_str (pa_cons pe_str pa_nil))) (pe_callTy call_int1 (by rfl) T.n_int b_int (pa_cons (pe_cmpR (op_neD hr.units) (pv 13) (pe_lst pa_nil) (nomark _)) pa_nil)) (fun _ _ => rfl)) (pa_cons (pe_ix ix_list (pe_op op_cat (pe_lst (pa_cons pe_non pa_nil)) (pv 13)) (pe_un un_neg pe_int) (fun _ _ => rfl)) pa_nil)))) pa_nil)))
      (pss_one ps_retN))) pss_nil)
      (pss_cons (ps_if (pt_cmpR op_eq (pv 2) pe_str (nomark _)) (pss_cons (ps_dput hu (pv 10) (pv 7) (pe_op op_sub (pe_dget hu (pv 10) (pv 7) (fun _ _ => rfl)) (pv 11)) rfl)
      (pss_one (ps_dput hu (pv 10) (pv 8) (pe_op op_add (pe_dget2 hu (pv 10) (pv 8) pe_int ⟨by rfl, by rfl, by rfl, by rfl⟩) (pv 11)) rfl))) (pss_one (ps_for PassesOwn.never rfl (pi_list (pv 9)) (pg_name (i := 15) nd rfl (.inl rfl))
      (pss_one (ps_dput hu (pe_dget hu (pv 0) pe_str (fun _ _ => rfl)) (pv 15) (pv 8) rfl)))))
      (pss_one (ps_expr (pe_bm PySem.F.plainAttrs_list PySem.F.slot_list_append PySem.F.type_list_append mt_append (pe_dget hu (pv 0) pe_str (fun _ _ => rfl)) (pa_cons (pe_tup (pa_cons (pv 5) (pa_cons (pv 7) (pa_cons (pv 9) (pa_cons (pv 3) pa_nil))))) pa_nil)))))))))))))), ?_⟩
  have hp1 := cut_le _ _ HP.1
  have hth1 := HP.2.same cut_le
  obtain ⟨v, ha, hv⟩ := id hth1
  have hB := Ball_bed PI.th
  refine ⟨_, rfl, t, _, 5, _, rfl, rfl, SqT.of hp1, rfl, p.ta, _, rfl, SqT.of ha, rfl, _, _, rfl, _, _, rfl, _, _, rfl, rfl, ?_⟩
  refine ⟨_, rfl, _, rfl, _, rfl, t, _, rfl, SqT.of hp1, (by show ¬ (HT.sIx 10 0 (some 1) = 0 ∧ HT.sIx 10 10 (some 5) = 10); decide), fun t1 ht1 => ?_⟩
  refine ⟨t1, _, rfl, SqT.of upd_same, rfl, _, _, rfl, _, _, rfl, _, _, rfl, _, _, rfl, rfl, ?_⟩
  have e1 := same_upd (o := .tup (cutV (V.str "promise" :: prVs p) (some 1) (some 5))) (Same.refl H) ht1
  generalize upd H t1 (.tup (cutV (V.str "promise" :: prVs p) (some 1) (some 5))) = H1 at e1
  refine ⟨_, rfl, _, rfl, rfl, c, _, _, st, t, p, rfl, R.same e1, HP.same (Chg.of e1).cut, fun hk => ?_, fun kl H2 e2 K2 => ?_⟩
  · obtain ⟨x, _, hx⟩ := held_ex S PI.th (by rw [hk]; intro z; cases z) false
    exact ⟨x, hx⟩
  have e12 := e1.trans e2
  have R2 := R.same e12
  have hp2 := e12 _ _ hp1
  have hth2 := hth1.same e12
  have C2 : Chg (foot c (Ball bs)) (foot c (Ball bs)) H H2 := Chg.of e12
  have k2 : ∀ H', Chg (foot c (Ball bs)) (foot c (Ball bs)) H2 H' → Rep knLaw (Ball bs) (ww + 3) H' c (st.prom p) → Q .non H' := fun H' C q => k H' (C2.trans C) q
  clear k
  have HP2 := HP.same C2.cut
  have hv2 := hv.same e12
  have hvl : st.voids.length ≤ 100000 := Nat.le_trans S.vl (Nat.le_trans hn (by decide))
  have hgl : st.good.length ≤ 100000 := Nat.le_trans (Nat.le_trans (Nat.le_add_right _ _) S.gl) (Nat.le_trans hn (by decide))
  show tSeq _ _ _ [some (.ref (c .root)), some (.ref t), some (.str p.th.kd.s), some (.str p.th.bed), some v, some (.int p.num), some (.int p.mom), some (.str p.seller), some (.str p.buyer), some (.ref kl), none, none, none, none, none, none] H2
  refine ⟨_, rfl, _, rfl, c .root, _, rfl, R2.l_spoilt, c .sp, _, rfl, R2.spoilt_get p.th.bed, _, rfl, ?_⟩
  cases hsp : sget st.spoilt p.th.bed with
  | some m =>
    have hsg := R2.spoilt_get p.th.bed
    rw [hsp] at hsg
    obtain ⟨vs0, hvs0, _⟩ := R2.voids_at
    refine ⟨_, rfl, c .root, _, rfl, R2.l_voids, .inl ⟨rfl, vs0, SqL.of hvs0⟩, ?_⟩
    refine ⟨_, rfl, _, rfl, c .root, _, rfl, R2.l_spoilt, _, rfl, c .sp, _, rfl, hsg, (by show 3 ≤ sizeLine; decide), fun t2 ht2 => ?_⟩
    obtain ⟨vs, h1, h2, h3, h4⟩ := R2.void_app (x := (p.num, .spoiled m)) hvl ht2
    refine ⟨c .vd, vs, _, rfl, rfl, h1, h2, ?_⟩
    refine k2 _ h4 ?_
    have := h3.le (show ww ≤ ww + 3 by omega)
    unfold PS.prom PS.void
    rw [hsp, if_neg (by intro z; cases z.1)]
    exact this
  | none =>
    refine ⟨_, rfl, c .root, _, rfl, R2.l_parts, _, rfl, c .pp, _, rfl, R2.parts_get hB, ?_⟩
    refine ⟨_, rfl, rfl, _, rfl, ?_⟩
    rw [kd_share]
    by_cases hk : p.th.kd = .share
    · rw [decide_eq_true hk]
      obtain ⟨pa, rfl, dx, hpa⟩ := hv2.share hk
      have q1 := pT_le p.th.k
      have q2 := pB_pos p.th.k
      have q3 := pB_le p.th.k
      have q4 := (PI.ok.th.sh hk).1
      refine ⟨_, rfl, pa, _, dx, _, _, rfl, hpa, T.cl_Part, T.na_Part_top, fld_top, _, _, rfl, rfl, .inl ⟨by omega, by omega⟩, _, rfl, pa, _, dx, _, _, rfl, hpa, T.cl_Part, T.na_Part_bottom, fld_bottom, _, _, rfl, rfl, ⟨by omega, by omega⟩, ?_⟩
      show tSeq _ _ _ [some (.ref (c .root)), some (.ref t), some (.str p.th.kd.s), some (.str p.th.bed), some (.ref pa), some (.int p.num), some (.int p.mom), some (.str p.seller), some (.str p.buyer), some (.ref kl), some (.ref (c (.sh p.th.bed))), some (.int (((pT p.th.k : Int) * 27720).fdiv (pB p.th.k : Int))), none, none, none, none] H2
      rw [units_eq]
      refine ⟨_, rfl, rfl, _, rfl, ?_⟩
      rw [kd_share, decide_eq_true hk]
      obtain ⟨i1, i2⟩ := R2.l_sh hB p.seller
      refine ⟨_, rfl, c (.sh p.th.bed), rfl, i1, _, rfl, _, i2, _, rfl, _, _, getD_int _ _, rfl, ?_⟩
      show tSeq _ _ _ [some (.ref (c .root)), some (.ref t), some (.str p.th.kd.s), some (.str p.th.bed), some (.ref pa), some (.int p.num), some (.int p.mom), some (.str p.seller), some (.str p.buyer), some (.ref kl), some (.ref (c (.sh p.th.bed))), some (.int p.th.k), some (.bl (decide ((pget (st.parts p.th.bed) p.seller : Int) < (p.th.k : Int)))), none, none, none] H2
      by_cases hlt : pget (st.parts p.th.bed) p.seller < p.th.k
      · rw [decide_eq_true (by omega)]
        have hnot : ¬ st.holds p = true := by
          unfold PS.holds
          rw [if_pos hk]
          exact fun z => absurd (of_decide_eq_true z) (by omega)
        refine ⟨_, rfl, _, rfl, ?_⟩
        obtain ⟨vs1, hg1, fg1⟩ := R2.good_at
        obtain ⟨vsk, hkl, fk⟩ := id K2
        obtain ⟨kr, hkr⟩ := keys_head st p
        rw [hkr] at fk
        obtain ⟨v0, hv0, hgk0⟩ := fk.get (i := 0) (x := p.th.gk) rfl
        have hat0 : atI vsk 0 = some v0 := atI_nat hv0
        refine ⟨_, rfl, c .root, _, rfl, R2.l_good, c .gd, rfl, ⟨vs1, SqL.of hg1⟩, fun D hD => ?_⟩
        refine lc_pure (walk_list (xs := vs1)) hD (fun i acc => acc = ((st.good.take i).filter fun e => decide (e.seller = p.seller) && decide (p.th.gk ∈ e.keys)).map (fun e => V.int (e.num : Nat))) rfl (by rw [fg1.1]; exact hgl) (fun H1 e => e.seq (SqL.of hg1)) ?_ ?_
        · rintro i x acc H3 H4 hi e3 rfl ⟨rfl, hvx⟩ Q1 Q0 q1 q0
          obtain ⟨x, hx, te, kle, rfl, hte, hke⟩ := fg1.get2 hvx
          have hte3 := e3 _ _ (cut_le _ _ hte)
          have hke3 : KeysAt H4 kle x.keys := (hke.same mo_gk cut_le).same mo_gk e3
          have hko := S.ko x (List.mem_of_getElem? hx)
          refine ⟨rfl, _, rfl, te, _, 1, _, rfl, rfl, SqT.of hte3, rfl, _, rfl, rfl, _, rfl, ?_⟩
          by_cases hs : x.seller = p.seller
          · rw [decide_eq_true (by rw [hs])]
            refine ⟨_, rfl, kl, _, 0, _, rfl, rfl, SqL.of (e3 _ _ (cut_le _ _ hkl)), hat0, _, rfl, te, _, 2, _, rfl, rfl, SqT.of hte3, rfl, _, _, (gk_dp (mo_gk _ _ _ _ e3 (mo_gk _ _ _ _ cut_le hgk0))), keys_dp hke3, gk_shaped (gk_ok PI.ok.th), keys_shaped hko, _, rfl, ?_⟩
            rw [any_gk]
            by_cases hm : p.th.gk ∈ x.keys
            · rw [decide_eq_true hm]
              refine ⟨_, rfl, te, _, 0, _, rfl, rfl, SqT.of hte3, rfl, q1 _ _ (Same.refl _) ?_⟩
              rw [filt_snoc _ _ hx, if_pos (by rw [decide_eq_true hs, decide_eq_true hm]; rfl)]
            · rw [decide_eq_false hm]
              refine q0 _ (Same.refl _) ?_
              rw [filt_snoc _ _ hx, if_neg (by rw [decide_eq_false hm, Bool.and_false]; exact Bool.false_ne_true), List.append_nil]
          · rw [decide_eq_false (fun z => hs (by injection z))]
            refine q0 _ (Same.refl _) ?_
            rw [filt_snoc _ _ hx, if_neg (by rw [decide_eq_false hs, Bool.false_and]; exact Bool.false_ne_true), List.append_nil]
        rintro acc H3 e3 hD3 _ rfl
        rw [fg1.1, List.take_length] at hD3
        have hD3 : H3 D = some (.lst ((st.ahead p).map fun n => .int (n : Nat))) := by
          rw [hD3]
          unfold PS.ahead
          rw [List.map_map]
          rfl
        have ahl : (st.ahead p).length ≤ 100000 := by
          unfold PS.ahead
          rw [List.length_map]
          exact Nat.le_trans (List.length_filter_le _ _) hgl
        have hvd : vdOf st p = (match (st.ahead p).getLast? with
          | none => Vd.never
          | some n => .clash n) := rfl
        generalize st.ahead p = ah at hD3 ahl hvd
        obtain ⟨vs0, hvs0, _⟩ := (R2.same e3).voids_at
        refine ⟨_, rfl, c .root, _, rfl, (R2.same e3).l_voids, .inl ⟨rfl, vs0, SqL.of hvs0⟩, ?_⟩
        refine ⟨_, rfl, (by show 2 ≤ sizeLine; decide), fun r1 hr1 => ?_⟩
        have s1 := same_upd (o := .lst [V.str "never", V.str "clash"]) (Same.refl H3) hr1
        have g1 : upd H3 r1 (.lst [V.str "never", V.str "clash"]) r1 = some (.lst [V.str "never", V.str "clash"]) := upd_same
        generalize upd H3 r1 (.lst [V.str "never", V.str "clash"]) = H4 at s1 g1
        refine ⟨_, rfl, (by show 0 ≤ sizeLine; decide), fun r2 hr2 => ?_⟩
        have s2 := same_upd (o := .lst []) (Same.refl H4) hr2
        have g2 : upd H4 r2 (.lst []) r2 = some (.lst []) := upd_same
        generalize upd H4 r2 (.lst []) = H5 at s2 g2
        refine ⟨_, _, ints_dp (SqL.of (s2 _ _ (s1 _ _ hD3))), .lst (SqL.of g2) .nil, ints_shaped ah, nil_shaped, .inr ⟨_, rfl, ?_⟩⟩
        refine ⟨r1, _, _, _, rfl, rfl, SqL.of (s2 _ _ g1), vd_word ah, ?_⟩
        rw [← hvd]
        refine ⟨(by show 1 ≤ sizeLine; decide), fun r3 hr3 => ?_⟩
        have s3 := same_upd (o := .lst [V.non]) (Same.refl H5) hr3
        have g3 : upd H5 r3 (.lst [V.non]) r3 = some (.lst [V.non]) := upd_same
        generalize upd H5 r3 (.lst [V.non]) = H6 at s3 g3
        have s6 := (s1.trans s2).trans s3
        refine ⟨_, rfl, r3, D, _, _, rfl, rfl, g3, s6 _ _ hD3, (by rw [List.length_map]; show 1 + ah.length ≤ sizeLine; exact Nat.le_trans (Nat.add_le_add_left ahl 1) (by decide)), fun r4 hr4 => ?_⟩
        have s4 := same_upd (o := .lst ([V.non] ++ ah.map fun n => .int (n : Nat))) (Same.refl H6) hr4
        have g4 : upd H6 r4 (.lst ([V.non] ++ ah.map fun n => .int (n : Nat))) r4 = some (.lst ([V.non] ++ ah.map fun n => .int (n : Nat))) := upd_same
        generalize upd H6 r4 (.lst ([V.non] ++ ah.map fun n => .int (n : Nat))) = H7 at s4 g4
        have s7 := e3.trans (s6.trans s4)
        refine ⟨_, rfl, r4, _, -1, _, rfl, rfl, SqL.of g4, lastV ah, ?_⟩
        rw [vd_val, ← hvd]
        refine ⟨(by show 3 ≤ sizeLine; decide), fun t2 ht2 => ?_⟩
        obtain ⟨vs, h1, h2, h3, h4⟩ := (R2.same s7).void_app (x := (p.num, vdOf st p)) hvl ht2
        refine ⟨c .vd, vs, _, rfl, rfl, h1, h2, ?_⟩
        refine k2 _ ((Chg.of s7).trans h4) ?_
        have hfin : st.prom p = { st with voids := st.voids ++ [(p.num, vdOf st p)] } := by
          unfold PS.prom PS.void
          rw [hsp, if_neg (fun z => hnot z.2)]
        rw [hfin]
        exact h3.le (by omega)
      · rw [decide_eq_false (by omega)]
        have hyes : st.holds p = true := by
          unfold PS.holds
          rw [if_pos hk]
          exact decide_eq_true (by omega)
        have hpos := PI.ok.th.k1
        refine ⟨_, rfl, _, rfl, _, rfl, rfl, _, rfl, ?_⟩
        rw [kd_share, decide_eq_true hk]
        refine ⟨_, rfl, rfl, _, rfl, ?_⟩
        rw [kd_share, decide_eq_true hk]
        -- shares[seller] = ..
        obtain ⟨b0, hb0, hbn, _⟩ := PI.th.ex
        have l1 := S.pl b0 hb0
        have l2 := S.nd b0 hb0
        rw [hbn] at l1 l2
        obtain ⟨u0, hu0, hu1⟩ := pget_mem (l := st.parts p.th.bed) (n := p.seller) (by omega)
        have i3 := i2
        rw [hu0] at i3
        obtain ⟨H3, p3, R3, C3⟩ := R2.sh_put (n := p.seller) (v := .int ((u0 : Int) - (p.th.k : Int))) (u := pget (st.parts p.th.bed) p.seller - p.th.k) hB (by omega) l2 (by show V.int _ = V.int _; rw [hu1]; congr 1; omega) rfl
        refine ⟨_, rfl, _, rfl, c (.sh p.th.bed), _, rfl, i3, _, rfl, _, _, rfl, rfl, _, rfl, _, rfl, c (.sh p.th.bed), H3, rfl, p3, ?_⟩
        have l3 := pput_len (st.parts p.th.bed) p.seller (pget (st.parts p.th.bed) p.seller - p.th.k)
        obtain ⟨j1, j2⟩ := R3.l_sh hB p.buyer
        have ep : (if p.th.bed = p.th.bed then pput (st.parts p.th.bed) p.seller (pget (st.parts p.th.bed) p.seller - p.th.k) else st.parts p.th.bed) = pput (st.parts p.th.bed) p.seller (pget (st.parts p.th.bed) p.seller - p.th.k) := if_pos rfl
        have j2' : DGet H3 (c (.sh p.th.bed)) (.str p.buyer) ((sget (pput (st.parts p.th.bed) p.seller (pget (st.parts p.th.bed) p.seller - p.th.k)) p.buyer).map fun u => .int (u : Nat)) := by
          rw [← ep]
          exact j2
        obtain ⟨H4, p4, R4, C4⟩ := R3.sh_put (b := p.th.bed) (n := p.buyer) (v := .int ((pget (pput (st.parts p.th.bed) p.seller (pget (st.parts p.th.bed) p.seller - p.th.k)) p.buyer : Int) + (p.th.k : Int))) (u := pget (pput (st.parts p.th.bed) p.seller (pget (st.parts p.th.bed) p.seller - p.th.k)) p.buyer + p.th.k)
          (parts := fun y => if y = p.th.bed then shift (st.parts y) p.seller p.buyer p.th.k else st.parts y) hB (by show (if p.th.bed = p.th.bed then _ else _ : List (Str × Nat)).length ≤ _; rw [if_pos rfl]; omega) (by show ((if p.th.bed = p.th.bed then _ else _ : List (Str × Nat)).map (·.1)).Nodup; rw [if_pos rfl]; exact pput_nd l2)
          (by show V.int _ = V.int _; congr 1) (by
            funext y
            by_cases hy : y = p.th.bed
            · rw [if_pos hy, if_pos hy, hy]
              show _ = pput (if p.th.bed = p.th.bed then _ else _) _ _
              rw [if_pos rfl]
              rfl
            · rw [if_neg hy, if_neg hy]
              show _ = if y = p.th.bed then _ else _
              rw [if_neg hy])
        refine ⟨_, rfl, c (.sh p.th.bed), rfl, j1, _, rfl, _, j2', _, rfl, _, _, getD_int _ _, rfl, _, rfl, _, rfl, c (.sh p.th.bed), H4, rfl, p4, ?_⟩
        -- good.append
        have C24 := C3.trans C4
        obtain ⟨vs3, hg3, _⟩ := R4.good_at
        refine ⟨_, rfl, c .root, _, rfl, R4.l_good, .inl ⟨rfl, vs3, SqL.of hg3⟩, _, rfl, _, rfl, _, rfl, _, rfl, (by show 4 ≤ sizeLine; decide), fun t2 ht2 => ?_⟩
        have e5 := same_upd (o := .tup [V.int p.num, .str p.seller, .ref kl, .str p.th.bed]) (Same.refl H4) ht2
        have R5 := R4.same e5
        obtain ⟨vs, h1, h2, h3, h4⟩ := R5.good_app (x := ⟨p.num, p.seller, st.keys p, p.th.bed⟩) (v := .ref t2) hgl ⟨t2, kl, rfl, cut_of (R4.fresh ht2) upd_same, K2.same mo_gk (C24.trans (Chg.of e5)).cut⟩
        refine ⟨c .gd, vs, _, rfl, rfl, h1, h2, ?_⟩
        refine k2 _ ((C24.trans (Chg.of e5)).trans h4) ?_
        have hfin : st.prom p = { st with parts := fun x => if x = p.th.bed then shift (st.parts x) p.seller p.buyer p.th.k else st.parts x, good := st.app p } := by
          unfold PS.prom PS.go
          rw [if_pos ⟨hsp, hyes⟩, if_pos hk]
        rw [hfin]
        exact h3.le (by omega)
    · rw [decide_eq_false hk]
      refine iteF ?_
      show tSeq _ _ _ [some (.ref (c .root)), some (.ref t), some (.str p.th.kd.s), some (.str p.th.bed), some v, some (.int p.num), some (.int p.mom), some (.str p.seller), some (.str p.buyer), some (.ref kl), some (.ref (c (.sh p.th.bed))), some (.int 0), none, none, none, none] H2
      refine ⟨_, rfl, rfl, _, rfl, ?_⟩
      rw [kd_share, decide_eq_false hk]
      refine iteF ?_
      show tSeq _ _ _ [some (.ref (c .root)), some (.ref t), some (.str p.th.kd.s), some (.str p.th.bed), some v, some (.int p.num), some (.int p.mom), some (.str p.seller), some (.str p.buyer), some (.ref kl), some (.ref (c (.sh p.th.bed))), some (.int 0), some (.bl false), none, none, none] H2
      refine ⟨_, rfl, _, rfl, _, rfl, rfl, _, rfl, ?_⟩
      rw [kd_share, decide_eq_false hk]
      obtain ⟨r0, hr0⟩ := gk_it hk
      obtain ⟨x, _, hx⟩ := held_ex S PI.th hk r0
      have hta := th_gk hth2 hk
      rw [← hr0] at hx
      refine ⟨_, rfl, c .root, _, rfl, R2.l_held, _, rfl, t, _, 5, _, rfl, rfl, SqT.of hp2, rfl, c .h, _, rfl, R2.held_get hta hx, _, rfl, rfl, _, rfl, ?_⟩
      by_cases hs : x = p.seller
      · rw [decide_eq_true (show V.str x = V.str p.seller by rw [hs])]
        have hyes : st.holds p = true := by
          unfold PS.holds
          rw [if_neg hk, hx, hs]
          exact decide_eq_true rfl
        refine ⟨_, rfl, rfl, _, rfl, ?_⟩
        rw [kd_share, decide_eq_false hk]
        -- held[key] = ..
        obtain ⟨vsk, hkl, fk⟩ := id K2
        refine ⟨_, rfl, kl, rfl, ⟨vsk, SqL.of (cut_le _ _ hkl)⟩, ?_⟩
        have hk3 : (st.keys p).length ≤ 2 := keys_len st p
        refine for_list (K := K) (xs := vsk) (fun i σ H' => (∃ u, σ = [some (.ref (c .root)), some (.ref t), some (.str p.th.kd.s), some (.str p.th.bed), some v, some (.int p.num), some (.int p.mom), some (.str p.seller), some (.str p.buyer), some (.ref kl), some (.ref (c (.sh p.th.bed))), some (.int 0), some (.bl false), none, none, u]) ∧ Rep knLaw (Ball bs) (ww + i) H' c { st with held := heldK st ((st.keys p).take i) p.buyer } ∧ Chg (foot c (Ball bs)) (foot c (Ball bs)) H2 H')
          ⟨⟨_, rfl⟩, R2.weak (fun g y z => by simpa [heldK] using z), Chg.of (Same.refl _)⟩ (fun i σ H' _ ⟨_, _, C'⟩ => SqL.of (cut_le _ _ (C'.cut _ _ hkl))) ?_ ?_
        · rintro i y σ H' hy ⟨⟨u, rfl⟩, R', C'⟩
          obtain ⟨g, hg, tg, rfl, htg⟩ := fk.get2 hy
          have hi : i < (st.keys p).length := (List.getElem?_eq_some_iff.mp hg).1
          obtain ⟨H3, p3, R3, C3⟩ := R'.held_put (Nat.lt_of_lt_of_le (show ww + i < 200000 by omega) (by decide)) (g := g) (x := p.buyer) (held := heldK st ((st.keys p).take (i + 1)) p.buyer) (cut_le _ _ (C'.cut _ _ htg)) fun g' y z => by
            unfold heldK at z ⊢
            rw [take_snoc hg] at z
            by_cases e : g' = g
            · rw [if_pos (by rw [e]; exact List.mem_append.mpr (.inr List.mem_cons_self))] at z
              exact .inl ⟨e, (Option.some.inj z).symm⟩
            · refine .inr ⟨e, ?_⟩
              show (if g' ∈ (st.keys p).take i then some p.buyer else st.held g') = some y
              by_cases q : g' ∈ (st.keys p).take i
              · rw [if_pos q]
                rw [if_pos (List.mem_append.mpr (.inl q))] at z
                exact z
              · rw [if_neg q]
                rw [if_neg (fun m => (List.mem_append.mp m).elim q fun m => e (List.mem_singleton.mp m))] at z
                exact z
          exact ⟨_, rfl, _, rfl, c .root, _, rfl, R'.l_held, _, rfl, c .h, H3, rfl, p3, ⟨_, rfl⟩, R3, C'.trans C3⟩
        · rintro σ H4 ⟨⟨u, rfl⟩, R4, C24⟩
          rw [fk.1, List.take_length] at R4
          obtain ⟨vs3, hg3, _⟩ := R4.good_at
          refine ⟨_, rfl, c .root, _, rfl, R4.l_good, .inl ⟨rfl, vs3, SqL.of hg3⟩, _, rfl, _, rfl, _, rfl, _, rfl, (by show 4 ≤ sizeLine; decide), fun t2 ht2 => ?_⟩
          have e5 := same_upd (o := .tup [V.int p.num, .str p.seller, .ref kl, .str p.th.bed]) (Same.refl H4) ht2
          have R5 := R4.same e5
          obtain ⟨vs, h1, h2, h3, h4⟩ := R5.good_app (x := ⟨p.num, p.seller, st.keys p, p.th.bed⟩) (v := .ref t2) hgl ⟨t2, kl, rfl, cut_of (R4.fresh ht2) upd_same, K2.same mo_gk (C24.trans (Chg.of e5)).cut⟩
          refine ⟨c .gd, vs, _, rfl, rfl, h1, h2, ?_⟩
          refine k2 _ ((C24.trans (Chg.of e5)).trans h4) ?_
          have hfin : st.prom p = { st with held := heldK st (st.keys p) p.buyer, good := st.app p } := by
            unfold PS.prom PS.go
            rw [if_pos ⟨hsp, hyes⟩, if_neg hk]
            rfl
          rw [hfin]
          exact h3.le (by omega)
      · rw [decide_eq_false (show ¬ V.str x = V.str p.seller from fun z => hs (by injection z))]
        have hnot : ¬ st.holds p = true := by
          unfold PS.holds
          rw [if_neg hk, hx]
          exact fun z => hs (Option.some.inj (of_decide_eq_true z))
        obtain ⟨vs1, hg1, fg1⟩ := R2.good_at
        obtain ⟨vsk, hkl, fk⟩ := id K2
        obtain ⟨kr, hkr⟩ := keys_head st p
        rw [hkr] at fk
        obtain ⟨v0, hv0, hgk0⟩ := fk.get (i := 0) (x := p.th.gk) rfl
        have hat0 : atI vsk 0 = some v0 := atI_nat hv0
        refine ⟨_, rfl, c .root, _, rfl, R2.l_good, c .gd, rfl, ⟨vs1, SqL.of hg1⟩, fun D hD => ?_⟩
        refine lc_pure (walk_list (xs := vs1)) hD (fun i acc => acc = ((st.good.take i).filter fun e => decide (e.seller = p.seller) && decide (p.th.gk ∈ e.keys)).map (fun e => V.int (e.num : Nat))) rfl (by rw [fg1.1]; exact hgl) (fun H1 e => e.seq (SqL.of hg1)) ?_ ?_
        · rintro i x acc H3 H4 hi e3 rfl ⟨rfl, hvx⟩ Q1 Q0 q1 q0
          obtain ⟨x, hx, te, kle, rfl, hte, hke⟩ := fg1.get2 hvx
          have hte3 := e3 _ _ (cut_le _ _ hte)
          have hke3 : KeysAt H4 kle x.keys := (hke.same mo_gk cut_le).same mo_gk e3
          have hko := S.ko x (List.mem_of_getElem? hx)
          refine ⟨rfl, _, rfl, te, _, 1, _, rfl, rfl, SqT.of hte3, rfl, _, rfl, rfl, _, rfl, ?_⟩
          by_cases hs : x.seller = p.seller
          · rw [decide_eq_true (by rw [hs])]
            refine ⟨_, rfl, kl, _, 0, _, rfl, rfl, SqL.of (e3 _ _ (cut_le _ _ hkl)), hat0, _, rfl, te, _, 2, _, rfl, rfl, SqT.of hte3, rfl, _, _, (gk_dp (mo_gk _ _ _ _ e3 (mo_gk _ _ _ _ cut_le hgk0))), keys_dp hke3, gk_shaped (gk_ok PI.ok.th), keys_shaped hko, _, rfl, ?_⟩
            rw [any_gk]
            by_cases hm : p.th.gk ∈ x.keys
            · rw [decide_eq_true hm]
              refine ⟨_, rfl, te, _, 0, _, rfl, rfl, SqT.of hte3, rfl, q1 _ _ (Same.refl _) ?_⟩
              rw [filt_snoc _ _ hx, if_pos (by rw [decide_eq_true hs, decide_eq_true hm]; rfl)]
            · rw [decide_eq_false hm]
              refine q0 _ (Same.refl _) ?_
              rw [filt_snoc _ _ hx, if_neg (by rw [decide_eq_false hm, Bool.and_false]; exact Bool.false_ne_true), List.append_nil]
          · rw [decide_eq_false (fun z => hs (by injection z))]
            refine q0 _ (Same.refl _) ?_
            rw [filt_snoc _ _ hx, if_neg (by rw [decide_eq_false hs, Bool.false_and]; exact Bool.false_ne_true), List.append_nil]
        rintro acc H3 e3 hD3 _ rfl
        rw [fg1.1, List.take_length] at hD3
        have hD3 : H3 D = some (.lst ((st.ahead p).map fun n => .int (n : Nat))) := by
          rw [hD3]
          unfold PS.ahead
          rw [List.map_map]
          rfl
        have ahl : (st.ahead p).length ≤ 100000 := by
          unfold PS.ahead
          rw [List.length_map]
          exact Nat.le_trans (List.length_filter_le _ _) hgl
        have hvd : vdOf st p = (match (st.ahead p).getLast? with
          | none => Vd.never
          | some n => .clash n) := rfl
        generalize st.ahead p = ah at hD3 ahl hvd
        obtain ⟨vs0, hvs0, _⟩ := (R2.same e3).voids_at
        refine ⟨_, rfl, c .root, _, rfl, (R2.same e3).l_voids, .inl ⟨rfl, vs0, SqL.of hvs0⟩, ?_⟩
        refine ⟨_, rfl, (by show 2 ≤ sizeLine; decide), fun r1 hr1 => ?_⟩
        have s1 := same_upd (o := .lst [V.str "never", V.str "clash"]) (Same.refl H3) hr1
        have g1 : upd H3 r1 (.lst [V.str "never", V.str "clash"]) r1 = some (.lst [V.str "never", V.str "clash"]) := upd_same
        generalize upd H3 r1 (.lst [V.str "never", V.str "clash"]) = H4 at s1 g1
        refine ⟨_, rfl, (by show 0 ≤ sizeLine; decide), fun r2 hr2 => ?_⟩
        have s2 := same_upd (o := .lst []) (Same.refl H4) hr2
        have g2 : upd H4 r2 (.lst []) r2 = some (.lst []) := upd_same
        generalize upd H4 r2 (.lst []) = H5 at s2 g2
        refine ⟨_, _, ints_dp (SqL.of (s2 _ _ (s1 _ _ hD3))), .lst (SqL.of g2) .nil, ints_shaped ah, nil_shaped, .inr ⟨_, rfl, ?_⟩⟩
        refine ⟨r1, _, _, _, rfl, rfl, SqL.of (s2 _ _ g1), vd_word ah, ?_⟩
        rw [← hvd]
        refine ⟨(by show 1 ≤ sizeLine; decide), fun r3 hr3 => ?_⟩
        have s3 := same_upd (o := .lst [V.non]) (Same.refl H5) hr3
        have g3 : upd H5 r3 (.lst [V.non]) r3 = some (.lst [V.non]) := upd_same
        generalize upd H5 r3 (.lst [V.non]) = H6 at s3 g3
        have s6 := (s1.trans s2).trans s3
        refine ⟨_, rfl, r3, D, _, _, rfl, rfl, g3, s6 _ _ hD3, (by rw [List.length_map]; show 1 + ah.length ≤ sizeLine; exact Nat.le_trans (Nat.add_le_add_left ahl 1) (by decide)), fun r4 hr4 => ?_⟩
        have s4 := same_upd (o := .lst ([V.non] ++ ah.map fun n => .int (n : Nat))) (Same.refl H6) hr4
        have g4 : upd H6 r4 (.lst ([V.non] ++ ah.map fun n => .int (n : Nat))) r4 = some (.lst ([V.non] ++ ah.map fun n => .int (n : Nat))) := upd_same
        generalize upd H6 r4 (.lst ([V.non] ++ ah.map fun n => .int (n : Nat))) = H7 at s4 g4
        have s7 := e3.trans (s6.trans s4)
        refine ⟨_, rfl, r4, _, -1, _, rfl, rfl, SqL.of g4, lastV ah, ?_⟩
        rw [vd_val, ← hvd]
        refine ⟨(by show 3 ≤ sizeLine; decide), fun t2 ht2 => ?_⟩
        obtain ⟨vs, h1, h2, h3, h4⟩ := (R2.same s7).void_app (x := (p.num, vdOf st p)) hvl ht2
        refine ⟨c .vd, vs, _, rfl, rfl, h1, h2, ?_⟩
        refine k2 _ ((Chg.of s7).trans h4) ?_
        have hfin : st.prom p = { st with voids := st.voids ++ [(p.num, vdOf st p)] } := by
          unfold PS.prom PS.void
          rw [hsp, if_neg (fun z => hnot z.2)]
        rw [hfin]
        exact h3.le (by omega)
end
end RP
set_option Elab.async false
set_option linter.all false
set_option maxRecDepth 100000
set_option maxHeartbeats 400000
/-! rootpledge k80: the law's own standing, 4: a spoiling -/
namespace RP
open PySem PySem.Spec PyProof.Rows L2
theorem law_put_gone (c : Lab → Addr) (d : Addr) : HO.dK (putK [(Sum.inr "held", V.ref (c .h)), (Sum.inr "parts", .ref (c .pp)), (Sum.inr "spoilt", .ref (c .sp)), (Sum.inr "good", .ref (c .gd)), (Sum.inr "voids", .ref (c .vd)), (Sum.inr "gone", .ref (c .gn))] (Sum.inr "gone") (.ref d)) = lawRo (swp c .gn d) := rfl
theorem law_put_good (c : Lab → Addr) (d : Addr) : HO.dK (putK [(Sum.inr "held", V.ref (c .h)), (Sum.inr "parts", .ref (c .pp)), (Sum.inr "spoilt", .ref (c .sp)), (Sum.inr "good", .ref (c .gd)), (Sum.inr "voids", .ref (c .vd)), (Sum.inr "gone", .ref (c .gn))] (Sum.inr "good") (.ref d)) = lawRo (swp c .gd d) := rfl
theorem filt_take {α : Type} {l : List α} {i : Nat} {a : α} (f : α → Bool) (h : l[i]? = some a) : (l.take (i + 1)).filter f = (l.take i).filter f ++ (if f a = true then [a] else []) := by
  have := filt_snoc f id h
  rw [List.map_id, List.map_id] at this
  rw [this]
  split <;> rfl
section
variable {P : Program} {w : World} {K : PySem.W.Frag} {mg : Str → Option Value} {base : Heap}
theorem ok_law_spoiled (T : Txt K mg) : Fx P w K mg base "_law_spoiled" 2 [] (sp_law_spoiled K) := by
  obtain ⟨fd, F⟩ := T.d_law_spoiled
  refine ⟨_, fd, _, [], T.g__law_spoiled, F.kp, fn_body F sc_law_spoiled rfl (fun cdv A outer s H vs Q E hr h => ?_), F.bindsN (fun _ _ _ _ _ _ us hl => match us, hl with | [_, _, _], _ => rfl), .nil⟩
  have nd := sc_law_spoiled.nd
  have hu := hu_of hr
  obtain ⟨c, bs, Nm, n, ww, st, a, t, b, m, t', rfl, R, LB, ht, hb, BO, S, hn, hw, k⟩ := h
  refine ⟨_, (pss_cons (ps_set (i := 3) nd rfl (Or.inr rfl) (pe_ix ix_tup (pv 2) pe_int (fun _ _ => rfl)))
      (pss_cons (ps_if (pt_cmp (pc_din hu (pv 3) (pe_dget hu (pv 0) pe_str (fun _ _ => rfl)))) (pss_one ps_retN) pss_nil)
      (pss_cons (ps_dput hu (pe_dget hu (pv 0) pe_str (fun _ _ => rfl)) (pv 3) (pe_ix ix_tup (pv 2) pe_int (fun _ _ => rfl)) rfl)
      (pss_cons (ps_dput hu (pv 0) pe_str (pe_op op_cat (pe_dget hu (pv 0) pe_str (fun _ _ => rfl)) (pe_rev (pe_lc (own := [("_law_entry", 4)])  rfl nd (pi_list (pe_dget hu (pv 0) pe_str (fun _ _ => rfl))) (blkOk_by (own := [("_law_entry", 4)]) (N := ["_law_state", "_law_beds", "_law_row", "_law_bed", "_law_entry", "_law_one"]) (sc := defScope s_law_spoiled) (by decide +kernel)) (fun _ _ _ _ _ => (pg_name (i := 4) nd rfl (.inl rfl))) (fun _ _ _ _ _ => (pts_one (pt_cmpR op_eq (pe_ix (ix_tupK (K := K) rfl) (pv 4) pe_int (fun _ _ => rfl)) (pv 3) (nomark _)))) (fun _ _ _ _ _ => (pe_ix (ix_tupK (K := K) rfl) (pv 4) pe_int (fun _ _ => rfl)))))) rfl)
      (pss_cons (ps_dput hu (pv 0) pe_str (pe_lc (own := [("_law_entry", 4)])  rfl nd (pi_list (pe_dget hu (pv 0) pe_str (fun _ _ => rfl))) (blkOk_by (own := [("_law_entry", 4)]) (N := ["_law_state", "_law_beds", "_law_row", "_law_bed", "_law_entry", "_law_one"]) (sc := defScope s_law_spoiled) (by decide +kernel)) (fun _ _ _ _ _ => (pg_name (i := 4) nd rfl (.inl rfl))) (fun _ _ _ _ _ => (pts_one (pt_cmpR op_ne (pe_ix (ix_tupK (K := K) rfl) (pv 4) pe_int (fun _ _ => rfl)) (pv 3) (nomark _)))) (fun _ _ _ _ _ => (pv 4))) rfl)
      (pss_one (ps_expr (pe_f (ok_law_back T) (hr.mono (by decide)) (pa_cons (pv 0) (pa_cons (pe_ix ix_list (pe_lc (own := [("_law_one", 5)])  rfl nd (pi_list (pv 1)) (blkOk_by (own := [("_law_one", 5)]) (N := ["_law_state", "_law_beds", "_law_row", "_law_bed", "_law_entry", "_law_one"]) (sc := defScope s_law_spoiled) (by decide +kernel)) (fun _ _ _ _ _ => (pg_name (i := 5) nd rfl (.inl rfl))) (fun _ _ _ _ _ => (pts_one (pt_cmpR op_eq (pe_ix (ix_tupK (K := K) rfl) (pv 5) pe_int (fun _ _ => rfl)) (pv 3) (nomark _)))) (fun _ _ _ _ _ => (pv 5))) pe_int (fun _ _ => rfl)) pa_nil)))))))))), ?_⟩
  have ht1 := cut_le _ _ ht
  have hB : Ball bs b.name := ⟨b, hb, rfl⟩
  have hgl : st.good.length + st.gone.length ≤ 100000 := Nat.le_trans S.gl (Nat.le_trans hn (by decide))
  refine ⟨_, rfl, t, _, 3, _, rfl, rfl, SqT.of ht1, rfl, ?_⟩
  refine ⟨_, rfl, _, rfl, c .root, _, rfl, R.l_spoilt, c .sp, _, rfl, R.spoilt_get b.name, _, rfl, ?_⟩
  cases hsp : sget st.spoilt b.name with
  | some x =>
    refine k c H (Chg.of (Same.refl _)) rfl ?_
    unfold PS.spoil
    rw [hsp, if_neg (by intro z; cases z)]
    exact R.le (by omega)
  | none =>
    -- spoilt[bed] = number
    obtain ⟨us, hus, fus⟩ := R.spoilt_at
    have sl := S.sl
    have R1 := R.put_spoilt (us := putK us (Sum.inr b.name) (.int (m : Nat))) (l1 := pput st.spoilt b.name m) (fus.put S.snd rfl)
    have C1 : Chg (foot c (Ball bs)) (foot c (Ball bs)) H (upd H (c .sp) (.dK (putK us (Sum.inr b.name) (.int (m : Nat))))) := Chg.write (foot_of (l := .sp) trivial)
    rw [pput_new hsp] at R1
    refine ⟨_, rfl, t, _, 1, _, rfl, rfl, SqT.of ht1, rfl, _, rfl, c .root, _, rfl, R.l_spoilt, _, rfl, c .sp, _, rfl, DPut.k (k := Sum.inr b.name) hus (by rw [fus.len]; exact Nat.lt_of_le_of_lt (show st.spoilt.length ≤ 1000 by omega) (by decide)), ?_⟩
    generalize upd H (c .sp) (.dK (putK us (Sum.inr b.name) (.int (m : Nat)))) = H1 at R1 C1
    show tSeq _ _ _ [some (.ref (c .root)), some (.ref a), some (.ref t), some (.str b.name), none, none] H1
    -- gone = gone + ..
    have hgn := R1.gone_at
    obtain ⟨vs1, hg1, fg1⟩ := R1.good_at
    have hgl1 : vs1.length ≤ 100000 := by
      rw [fg1.1]
      show st.good.length ≤ _
      omega
    refine ⟨_, rfl, c .root, _, rfl, R1.l_gone, _, rfl, c .root, _, rfl, R1.l_good, c .gd, rfl, ⟨vs1, SqL.of hg1⟩, fun D hD => ?_⟩
    refine lc_pure (walk_list (xs := vs1)) hD (fun i acc => acc = ((st.good.take i).filter fun e => decide (e.bed = b.name)).map (fun e => V.int (e.num : Nat))) rfl hgl1 (fun H1 e => e.seq (SqL.of hg1)) ?_ ?_
    · rintro i x acc H3 H4 hi e3 rfl ⟨rfl, hvx⟩ Q1 Q0 q1 q0
      obtain ⟨x, hx, te, kle, rfl, hte, hke⟩ := fg1.get2 hvx
      have hx : st.good[i]? = some x := hx
      have hte3 := e3 _ _ (cut_le _ _ hte)
      refine ⟨rfl, _, rfl, te, _, 3, _, rfl, rfl, SqT.of hte3, rfl, _, rfl, rfl, _, rfl, ?_⟩
      by_cases hs : x.bed = b.name
      · rw [decide_eq_true (by rw [hs])]
        refine ⟨_, rfl, te, _, 0, _, rfl, rfl, SqT.of hte3, rfl, q1 _ _ (Same.refl _) ?_⟩
        rw [filt_snoc _ _ hx, if_pos (decide_eq_true hs)]
      · rw [decide_eq_false (fun z => hs (by injection z))]
        refine q0 _ (Same.refl _) ?_
        rw [filt_snoc _ _ hx, if_neg (by rw [decide_eq_false hs]; exact Bool.false_ne_true), List.append_nil]
    rintro acc H3 e3 hD3 _ rfl
    rw [fg1.1] at hD3
    have hD3 : H3 D = some (.lst (((st.good.filter fun e => decide (e.bed = b.name)).map (·.num)).map fun n => .int (n : Nat))) := by
      rw [hD3, show (st.good.take st.good.length) = st.good from List.take_length, List.map_map]
      rfl
    refine ⟨D, _, rfl, SqL.of hD3, fun D2 hD2 => ?_⟩
    have s2 := same_upd (o := .lst (((st.good.filter fun e => decide (e.bed = b.name)).map (·.num)).map fun n => V.int (n : Nat)).reverse) (Same.refl H3) hD2
    have g2 : upd H3 D2 (.lst (((st.good.filter fun e => decide (e.bed = b.name)).map (·.num)).map fun n => V.int (n : Nat)).reverse) D2 = some (.lst (((st.good.filter fun e => decide (e.bed = b.name)).map (·.num)).map fun n => V.int (n : Nat)).reverse) := upd_same
    generalize upd H3 D2 (.lst (((st.good.filter fun e => decide (e.bed = b.name)).map (·.num)).map fun n => V.int (n : Nat)).reverse) = H4 at s2 g2
    have e4 := e3.trans s2
    refine ⟨c .gn, D2, _, _, rfl, rfl, e4 _ _ hgn, g2, ?_, fun D3 hD3' => ?_⟩
    · have := List.length_filter_le (fun e : Ent => decide (e.bed = b.name)) st.good
      rw [List.length_reverse, List.length_map, List.length_map, List.length_map]
      exact Nat.le_trans (show st.gone.length + _ ≤ 100000 by omega) (by decide)
    have e5 := same_upd (o := .lst ((st.gone.map fun n => V.int (n : Nat)) ++ (((st.good.filter fun e => decide (e.bed = b.name)).map (·.num)).map fun n => V.int (n : Nat)).reverse)) e4 (e4.free hD3')
    have hD3n := e4.free hD3'
    have g3 : upd H4 D3 (.lst ((st.gone.map fun n => V.int (n : Nat)) ++ (((st.good.filter fun e => decide (e.bed = b.name)).map (·.num)).map fun n => V.int (n : Nat)).reverse)) D3 = some (.lst ((st.gone ++ ((st.good.filter fun e => decide (e.bed = b.name)).map (·.num)).reverse).map fun n => V.int (n : Nat))) := by
      rw [upd_same, List.map_append, List.map_reverse]
    generalize upd H4 D3 (.lst ((st.gone.map fun n => V.int (n : Nat)) ++ (((st.good.filter fun e => decide (e.bed = b.name)).map (·.num)).map fun n => V.int (n : Nat)).reverse)) = H5 at e5 g3
    have R2 := R1.new_gone e5 hD3n g3 (law_put_gone c D3)
    have C2 := swp_chg (l0 := .gn) (lp := .root) (B' := Ball bs) (op := .dK (putK [(Sum.inr "held", V.ref (c .h)), (Sum.inr "parts", .ref (c .pp)), (Sum.inr "spoilt", .ref (c .sp)), (Sum.inr "good", .ref (c .gd)), (Sum.inr "voids", .ref (c .vd)), (Sum.inr "gone", .ref (c .gn))] (Sum.inr "gone") (.ref D3))) R1 (fun l h _ => h) trivial e5 hD3n
    refine ⟨_, rfl, c .root, _, rfl, DPut.k (k := Sum.inr "gone") (e5 _ _ R1.law_root) (by show 6 < sizeLine; decide), ?_⟩
    have ec2 : swp c .gn D3 .root = c .root := rfl
    generalize upd H5 (c .root) (.dK (putK [(Sum.inr "held", V.ref (c .h)), (Sum.inr "parts", .ref (c .pp)), (Sum.inr "spoilt", .ref (c .sp)), (Sum.inr "good", .ref (c .gd)), (Sum.inr "voids", .ref (c .vd)), (Sum.inr "gone", .ref (c .gn))] (Sum.inr "gone") (.ref D3))) = H6 at R2 C2
    generalize swp c .gn D3 = c2 at R2 C2 ec2
    show tSeq _ _ _ [some (.ref (c .root)), some (.ref a), some (.ref t), some (.str b.name), none, none] H6
    rw [← ec2]
    -- good = ..
    obtain ⟨vs2, hg2, fg2⟩ := R2.good_at
    have hgl2 : vs2.length ≤ 100000 := by
      rw [fg2.1]
      show st.good.length ≤ _
      omega
    refine ⟨_, rfl, c2 .root, _, rfl, R2.l_good, c2 .gd, rfl, ⟨vs2, SqL.of hg2⟩, fun D4 hD4 => ?_⟩
    refine lc_pure (walk_list (xs := vs2)) hD4 (fun i acc => Fits LawE (cut H6 (foot c2 (Ball bs))) acc ((st.good.take i).filter fun e => !decide (e.bed = b.name))) Fits.nil hgl2 (fun H1 e => e.seq (SqL.of hg2)) ?_ ?_
    · rintro i x acc H7 H8 hi e7 ff ⟨rfl, hvx⟩ Q1 Q0 q1 q0
      obtain ⟨y, hy, hE⟩ := fg2.get2 hvx
      obtain ⟨te, kle, rfl, hte, hke⟩ := id hE
      have hy : st.good[i]? = some y := hy
      have hte3 := e7 _ _ (cut_le _ _ hte)
      refine ⟨rfl, _, rfl, te, _, 3, _, rfl, rfl, SqT.of hte3, rfl, _, rfl, rfl, _, rfl, ?_⟩
      by_cases hs : y.bed = b.name
      · rw [decide_eq_true (by rw [hs])]
        refine q0 _ (Same.refl _) ?_
        rw [filt_take _ hy, if_neg (by rw [decide_eq_true hs]; exact Bool.false_ne_true), List.append_nil]
        exact ff
      · rw [decide_eq_false (fun z => hs (by injection z))]
        refine ⟨_, rfl, q1 _ _ (Same.refl _) ?_⟩
        rw [filt_take _ hy, if_pos (by rw [decide_eq_false hs]; rfl)]
        exact ff.snoc hE
    rintro acc H7 e7 hD7 _ ff
    rw [fg2.1, show (st.good.take _) = st.good from List.take_length] at ff
    have C3 := swp_chg (l0 := .gd) (lp := .root) (B' := Ball bs) (op := .dK (putK [(Sum.inr "held", V.ref (c2 .h)), (Sum.inr "parts", .ref (c2 .pp)), (Sum.inr "spoilt", .ref (c2 .sp)), (Sum.inr "good", .ref (c2 .gd)), (Sum.inr "voids", .ref (c2 .vd)), (Sum.inr "gone", .ref (c2 .gn))] (Sum.inr "good") (.ref D4))) R2 (fun l h _ => h) trivial e7 hD4
    have R3 := R2.new_good e7 hD4 hD7 (law_put_good c2 D4) (ff.same knLaw.mE C3.cut)
    refine ⟨_, rfl, c2 .root, _, rfl, DPut.k (k := Sum.inr "good") (e7 _ _ R2.law_root) (by show 6 < sizeLine; decide), ?_⟩
    have ec3 : swp c2 .gd D4 .root = c2 .root := rfl
    generalize upd H7 (c2 .root) (.dK (putK [(Sum.inr "held", V.ref (c2 .h)), (Sum.inr "parts", .ref (c2 .pp)), (Sum.inr "spoilt", .ref (c2 .sp)), (Sum.inr "good", .ref (c2 .gd)), (Sum.inr "voids", .ref (c2 .vd)), (Sum.inr "gone", .ref (c2 .gn))] (Sum.inr "good") (.ref D4))) = H8 at R3 C3
    generalize swp c2 .gd D4 = c3 at R3 C3 ec3
    rw [← ec3]
    -- back
    have C13 := (C1.trans C2).trans C3
    obtain ⟨vb, hvb, fb⟩ := LB.same mo_bedrow C13.cut
    have hvb1 := cut_le _ _ hvb
    have hn6 := BO.n6
    refine ⟨_, rfl, _, rfl, a, rfl, ⟨vb, SqL.of hvb1⟩, fun D5 hD5 => ?_⟩
    refine lc_pure (walk_list (xs := vb)) hD5 (fun i acc => Fits BedRowAt (cut H8 (foot c3 (Ball bs))) acc ((bs.take i).filter fun e => decide (e.name = b.name))) Fits.nil (by rw [fb.1]; omega) (fun H1 e => e.seq (SqL.of hvb1)) ?_ ?_
    · rintro i x acc H9 H10 hi e9 ff ⟨rfl, hvx⟩ Q1 Q0 q1 q0
      obtain ⟨y, hy, hE⟩ := fb.get2 hvx
      obtain ⟨te, rfl, hte⟩ := id hE
      have hte3 := e9 _ _ (cut_le _ _ hte)
      refine ⟨rfl, _, rfl, te, _, 0, _, rfl, rfl, SqT.of hte3, rfl, _, rfl, rfl, _, rfl, ?_⟩
      by_cases hs : y.name = b.name
      · rw [decide_eq_true (by rw [hs])]
        refine ⟨_, rfl, q1 _ _ (Same.refl _) ?_⟩
        rw [filt_take _ hy, if_pos (decide_eq_true hs)]
        exact ff.snoc hE
      · rw [decide_eq_false (fun z => hs (by injection z))]
        refine q0 _ (Same.refl _) ?_
        rw [filt_take _ hy, if_neg (by rw [decide_eq_false hs]; exact Bool.false_ne_true), List.append_nil]
        exact ff
    rintro acc H9 e9 hD9 _ ff
    rw [fb.1, List.take_length] at ff
    have hfb : ∃ y r, (bs.filter fun e => decide (e.name = b.name)) = y :: r := by
      cases hq : bs.filter fun e => decide (e.name = b.name) with
      | nil => exact absurd (List.mem_filter.mpr ⟨hb, decide_eq_true rfl⟩) (by rw [hq]; exact List.not_mem_nil)
      | cons y r => exact ⟨y, r, rfl⟩
    obtain ⟨y, r, hyr⟩ := hfb
    have hy : y = b := by
      have hm : y ∈ bs.filter fun e => decide (e.name = b.name) := by rw [hyr]; exact List.mem_cons_self
      exact bed_same BO (List.mem_filter.mp hm).1 hb (of_decide_eq_true (List.mem_filter.mp hm).2)
    subst hy
    obtain ⟨v0, hv0, tb, rfl, htb⟩ := ff.get (i := 0) (x := y) (by rw [hyr]; rfl)
    refine ⟨D5, acc, 0, _, rfl, rfl, SqL.of hD9, atI_nat hv0, ?_⟩
    refine ⟨rfl, c3, Ball bs, ww, _, tb, y, rfl, R3.same e9, e9 _ _ (cut_le _ _ htb), by omega, (BO.ok y hb).r12, fun c4 H10 C4 ec4 R4 => ?_⟩
    rw [addB_eq hB] at C4 R4
    refine k c4 H10 (C13.trans ((Chg.of e9).trans C4)) (by rw [ec4, ec3, ec2]) ?_
    have hfin : st.spoil m y = (st.undo m y.name).back y := by
      unfold PS.spoil
      rw [if_pos hsp]
    rw [hfin]
    exact R4
end
end RP
set_option Elab.async false
set_option linter.all false
set_option maxRecDepth 100000
set_option maxHeartbeats 400000
/-! rootpledge k80: the law's order in time, its ledger -/
namespace RP
open PySem PySem.Spec PyProof.Rows L2
/-! ### in time -/
def lnLe (a b : Ln) : Prop := a.mom < b.mom ∨ (a.mom = b.mom ∧ a.num ≤ b.num)
structure InTime (xs ys : List Ln) : Prop where
  perm : ys.Perm xs
  ord : ys.Pairwise lnLe
theorem eq_of_nodup {α β : Type} {f : α → β} : ∀ {l : List α}, (l.map f).Nodup → ∀ {x y : α}, x ∈ l → y ∈ l → f x = f y → x = y
  | [], _, x, y, hx, _, _ => nomatch hx
  | a :: l, nd, x, y, hx, hy, e => by
    have nd2 : ¬ f a ∈ l.map f ∧ (l.map f).Nodup := List.nodup_cons.mp nd
    rcases List.mem_cons.mp hx with e1 | hx1
    · rcases List.mem_cons.mp hy with e2 | hy1
      · rw [e1, e2]
      · exact absurd (List.mem_map.mpr ⟨y, hy1, by rw [← e, e1]⟩) nd2.1
    · rcases List.mem_cons.mp hy with e2 | hy1
      · exact absurd (List.mem_map.mpr ⟨x, hx1, by rw [e, e2]⟩) nd2.1
      · exact eq_of_nodup nd2.2 hx1 hy1 e
/-- of lines of unlike numbers there is one order in time -/
theorem InTime.unique {xs xs' ys ys' : List Ln} (nd : (xs.map (·.num)).Nodup) (p : xs'.Perm xs) (a : InTime xs ys) (b : InTime xs' ys') : ys = ys' := by
  have hp : ys.Perm ys' := a.perm.trans (b.perm.trans p).symm
  refine List.Perm.eq_of_pairwise (le := lnLe) (fun x y hx hy h1 h2 => ?_) a.ord b.ord hp
  have e : x.num = y.num := by
    rcases h1 with h1 | ⟨h1, h3⟩
    · rcases h2 with h2 | ⟨h2, h4⟩ <;> omega
    · rcases h2 with h2 | ⟨h2, h4⟩ <;> omega
  exact eq_of_nodup nd (a.perm.mem_iff.mp hx) (p.mem_iff.mp (b.perm.mem_iff.mp hy)) e
/-- a row of the law -/
def RowAt (K : PySem.W.Frag) (H : Hp) (v : V) (l : Ln) : Prop := ∃ t, v = .ref t ∧ match l with
  | .prom p => PRowAt K H t p
  | .spoil n m b => H t = some (.tup [.str "spoil", .int (n : Nat), .int (m : Nat), .str b])
theorem mo_row {K : PySem.W.Frag} : Mo (RowAt K) := fun H H' v l e h => by
  obtain ⟨t, rfl, h⟩ := h
  refine ⟨t, rfl, ?_⟩
  cases l with
  | prom p => exact PRowAt.same h e
  | spoil n m b => exact e _ _ h
/-- any row's tuple: word, number, moment -/
theorem row_tup {K : PySem.W.Frag} {H : Hp} {v : V} {l : Ln} (h : RowAt K H v l) : ∃ t w xs, v = .ref t ∧ H t = some (.tup (.str w :: .int (l.num : Nat) :: .int (l.mom : Nat) :: xs)) ∧ (w = "spoil" ↔ ∃ n m b, l = .spoil n m b) := by
  obtain ⟨t, rfl, h⟩ := h
  cases l with
  | prom p =>
    refine ⟨t, "promise", _, rfl, h.1, ?_⟩
    constructor
    · exact fun z => absurd z (by decide +kernel)
    · rintro ⟨_, _, _, z⟩
      cases z
  | spoil n m b => exact ⟨t, "spoil", _, rfl, h, fun _ => ⟨n, m, b, rfl⟩, fun _ => rfl⟩
def lnV (l : Ln) (i : Nat) : List V := [.int (l.mom : Nat), .int (l.num : Nat), .int (i : Nat)]
def TripAt (rs : List Ln) : Hp → V → Nat → Prop := fun H v i => ∃ t l, v = .ref t ∧ rs[i]? = some l ∧ H t = some (.tup (lnV l i))
theorem mo_trip {rs : List Ln} : Mo (TripAt rs) := fun H H' v i e h => by
  obtain ⟨t, l, rfl, h1, h2⟩ := h
  exact ⟨t, l, rfl, h1, e _ _ h2⟩
/-- which one it is -/
def decV (H : Hp) : V → Nat
  | .ref t => match H t with
    | some (.tup [_, _, .int k]) => k.toNat
    | _ => 0
  | _ => 0
theorem dec_trip {rs : List Ln} {H : Hp} {v : V} {i : Nat} (h : TripAt rs H v i) : decV H v = i := by
  obtain ⟨t, l, rfl, h1, h2⟩ := h
  unfold decV
  simp only [h2, lnV]
  omega
theorem dec_map {rs : List Ln} {H : Hp} {vs : List V} {is : List Nat} (f : Fits (TripAt rs) H vs is) : vs.map (decV H) = is := by
  apply List.ext_getElem?
  intro i
  rw [List.getElem?_map]
  cases h : is[i]? with
  | none =>
    have : is.length ≤ i := List.getElem?_eq_none_iff.mp h
    rw [List.getElem?_eq_none_iff.mpr (by rw [f.1]; exact this)]
    rfl
  | some x =>
    obtain ⟨v, hv, e⟩ := f.get h
    rw [hv]
    show some (decV H v) = some x
    rw [dec_trip e]
theorem code3 {a b c a' b' c' : Nat} (hb : b < 1000) (hc : c < 1000) (hb' : b' < 1000) (hc' : c' < 1000) (h : TS.code 1000 [(a : Int), b, c] ≤ TS.code 1000 [(a' : Int), b', c']) : a < a' ∨ (a = a' ∧ b ≤ b') := by
  have e : ∀ x y z : Int, TS.code 1000 [x, y, z] = x * 1000000 + y * 1000 + z := fun x y z => by
    show x * 1000 ^ 2 + (y * 1000 ^ 1 + (z * 1000 ^ 0 + 0)) = _
    omega
  rw [e, e] at h
  omega
def sp_law_in_time (K : PySem.W.Frag) : Sp := spA 1 fun vs H Q => ∃ a rs G, vs = [.ref a] ∧ Same G H ∧ LAt (RowAt K) G a rs ∧ rs.length < 64 ∧ (∀ l ∈ rs, l.mom < 1000 ∧ l.num < 1000) ∧
  ∀ p ys us H', H p = none → Same H H' → InTime rs ys → H' p = some (.lst us) → Fits (RowAt K) G us ys → Q (.ref p) H'
def sp_law_led (K : PySem.W.Frag) : Sp := spA 2 fun vs H Q => ∃ a r bs Nm rs, vs = [.ref a, .ref r] ∧ LAt BedRowAt H a bs ∧ LAt (RowAt K) H r rs ∧ BedsOk bs ∧ (∀ b ∈ bs, Nm b.owner) ∧ (∀ l ∈ rs, LnOk bs Nm l) ∧ rs.length ≤ 40 ∧ (∀ l ∈ rs, l.mom < 1000 ∧ l.num < 1000) ∧
  ∀ c ys H', Chg (fun _ => False) (foot c (Ball bs)) H H' → InTime rs ys → Rep knLaw (Ball bs) 5000 H' c (led bs ys) → Q (.ref (c .root)) H'
section
variable {P : Program} {w : World} {K : PySem.W.Frag} {mg : Str → Option Value} {base : Heap}
theorem ok_law_in_time (T : Txt K mg) : Fx P w K mg base "_law_in_time" 1 [] (sp_law_in_time K) := by
  obtain ⟨fd, F⟩ := T.d_law_in_time
  refine ⟨_, fd, _, [], T.g__law_in_time, F.kp, fn_body F sc_law_in_time rfl (fun cdv A outer s H vs Q E hr h => ?_), F.bindsN (fun _ _ _ _ _ _ us hl => match us, hl with | [_], _ => rfl), .nil⟩
  have nd := sc_law_in_time.nd
  have hu := hu_of hr
  obtain ⟨a, rs, G, rfl, eG, ⟨vs, ga, fG⟩, hl, hb, k⟩ := h
  have ha := eG _ _ ga
  have fa := fG.same mo_row eG
  refine ⟨_, (pss_one (ps_ret (pe_lc (own := [("_law_moment", 1), ("_law_number", 2), ("_law_k", 3)])  rfl nd (pi_list (pe_callB (cr_sortT (d := 3) (B := 1000) (by decide)) (by rfl) T.n_sorted b_sorted (pa_cons (pe_lc (own := [("_law_k", 3), ("_law_row", 4)])  rfl nd (pi_enum (by rfl) T.n_enumerate (pa_cons (pv 0) pa_nil)) (blkOk_by (own := [("_law_k", 3), ("_law_row", 4)]) (N := ["_law_rows_here", "_law_moment", "_law_number", "_law_k", "_law_row"]) (sc := defScope s_law_in_time) (by decide +kernel)) (fun _ _ _ _ _ => (pg_tupK (K := K) 2 rfl rfl (pgs_cons (pg_name (i := 3) nd rfl (.inl rfl)) (pgs_cons (pg_name (i := 4) nd rfl (.inl rfl)) pgs_nil)))) (fun _ _ _ _ _ => pts_nil) (fun _ _ _ _ _ => (pe_tup (pa_cons (pe_ix (ix_tupK (K := K) rfl) (pv 4) pe_int (fun _ _ => rfl)) (pa_cons (pe_ix (ix_tupK (K := K) rfl) (pv 4) pe_int (fun _ _ => rfl)) (pa_cons (pv 3) pa_nil)))))) pa_nil))) (blkOk_by (own := [("_law_moment", 1), ("_law_number", 2), ("_law_k", 3)]) (N := ["_law_rows_here", "_law_moment", "_law_number", "_law_k", "_law_row"]) (sc := defScope s_law_in_time) (by decide +kernel)) (fun _ _ _ _ _ => (pg_tupK (K := K) 3 rfl rfl (pgs_cons (pg_name (i := 1) nd rfl (.inl rfl)) (pgs_cons (pg_name (i := 2) nd rfl (.inl rfl)) (pgs_cons (pg_name (i := 3) nd rfl (.inl rfl)) pgs_nil))))) (fun _ _ _ _ _ => pts_nil) (fun _ _ _ _ _ => (pe_ix (ix_listK (K := K) rfl) (pv 0) (pv 3) (fun _ _ => rfl)))))), ?_⟩
  have hvl : vs.length = rs.length := fa.1
  refine ⟨_, rfl, a, vs, rfl, SqL.of ha, fun D hD => ?_⟩
  refine lc_mk walk_enum hD (fun i acc H => Fits (TripAt rs) H acc (List.range i)) Fits.nil (fun i acc H H' e f => f.same mo_trip e) (fun i acc H zs zs' hl f => f.imp fun v x _ r => ?_) (by omega) (fun H1 e => e.seq (SqL.of ha)) ?_ ?_
  · obtain ⟨t, l, rfl, h1, h2⟩ := r
    exact ⟨t, l, rfl, h1, by rw [upd_ne (ne_of h2 hl (by intro z; cases z))]; exact h2⟩
  · rintro i x acc H1 H2 hi e1 ff ⟨t0, x1, x2, rfl, ht0, rfl, hx1, hx2⟩ Q1 Q0 q1 q0
    obtain ⟨l, hlr, hr⟩ := fa.get2 hx2
    obtain ⟨t, wd, xs, rfl, ht, _⟩ := row_tup hr
    have e2 := same_upd (o := .tup [x1, .ref t]) (Same.refl H1) ht0
    have g2 : upd H1 t0 (.tup [x1, .ref t]) t0 = some (.tup [x1, .ref t]) := upd_same
    generalize upd H1 t0 (.tup [x1, .ref t]) = H2 at e2 g2
    have ht2 := e2 _ _ (e1 _ _ ht)
    cases hx1
    refine ⟨t0, _, rfl, SqT.of g2, rfl, _, _, rfl, _, _, rfl, rfl, rfl, ?_⟩
    refine ⟨_, rfl, t, _, 2, _, rfl, rfl, SqT.of ht2, atI_nat (j := 2) rfl, _, rfl, t, _, 1, _, rfl, rfl, SqT.of ht2, atI_nat (j := 1) rfl, _, rfl, (by show 3 ≤ sizeLine; decide), fun t3 ht3 => q1 _ _ (same_upd e2 (e2.free ht3)) ?_⟩
    rw [List.range_succ]
    have e4 := same_upd (o := .tup (lnV l i)) (Same.refl H2) ht3
    exact ((ff.same mo_trip e2).same mo_trip e4).snoc ⟨t3, l, rfl, hlr, upd_same⟩
  rintro acc H1 e1 hD1 _ ff
  rw [hvl] at ff
  have hal : acc.length = rs.length := by rw [ff.1, List.length_range]
  refine ⟨D, acc, rfl, SqL.of hD1, by omega, fun x hx => ?_, fun ys p hperm hpw hp => ?_⟩
  · obtain ⟨i, hi, t, l, rfl, h1, h2⟩ := ff.all2 hx
    have hm := hb l (List.mem_of_getElem? h1)
    have hi := List.mem_range.mp hi
    refine ⟨[(l.mom : Nat), (l.num : Nat), (i : Nat)], ⟨t, rfl, SqT.of h2⟩, rfl, fun m hm2 => ?_⟩
    rcases List.mem_cons.mp hm2 with rfl | hm2
    · omega
    · rcases List.mem_cons.mp hm2 with rfl | hm2
      · omega
      · rw [List.mem_singleton.mp hm2]
        omega
  have e2 : Same H1 (upd H1 p (.lst ys)) := same_upd (Same.refl _) hp
  have g2 : upd H1 p (.lst ys) p = some (.lst ys) := upd_same
  have fy : Fits (TripAt rs) H1 ys (ys.map (decV H1)) := by
    refine ⟨by rw [List.length_map], fun i v x h1 h2 => ?_⟩
    rw [List.getElem?_map, h1] at h2
    obtain ⟨j, _, hj⟩ := ff.all2 (hperm.mem_iff.mp (List.mem_of_getElem? h1))
    have h3 := Option.some.inj h2
    rw [← h3, dec_trip hj]
    exact hj
  have hdp : (ys.map (decV H1)).Perm (List.range rs.length) := by
    rw [← dec_map ff]
    exact hperm.map _
  have hdr : ∀ j ∈ ys.map (decV H1), j < rs.length := fun j hj => List.mem_range.mp (hdp.mem_iff.mp hj)
  let g : Nat → Ln := fun j => (rs[j]?).getD (.spoil 0 0 "")
  have hg : ∀ {j : Nat} {l : Ln}, rs[j]? = some l → g j = l := fun {j l} h => by
    show (rs[j]?).getD _ = _
    rw [h]
    rfl
  have hout : ((ys.map (decV H1)).map g).Perm rs := by
    refine (hdp.map g).trans (List.Perm.of_eq ?_)
    apply List.ext_getElem?
    intro i
    rw [List.getElem?_map]
    by_cases hi : i < rs.length
    · rw [List.getElem?_range hi, List.getElem?_eq_getElem hi]
      show some (g i) = _
      rw [hg (List.getElem?_eq_getElem hi)]
    · rw [List.getElem?_eq_none_iff.mpr (by rw [List.length_range]; omega), List.getElem?_eq_none_iff.mpr (by omega)]
      rfl
  have hord : ((ys.map (decV H1)).map g).Pairwise lnLe := by
    rw [List.pairwise_map, List.pairwise_map]
    refine List.Pairwise.imp_of_mem (fun {x y} hx hy h => ?_) hpw
    obtain ⟨i, _, t1, l1, rfl, h1, h2⟩ := ff.all2 (hperm.mem_iff.mp hx)
    obtain ⟨j, _, t2, l2, rfl, h3, h4⟩ := ff.all2 (hperm.mem_iff.mp hy)
    rw [dec_trip ⟨t1, l1, rfl, h1, h2⟩, dec_trip ⟨t2, l2, rfl, h3, h4⟩, hg h1, hg h3]
    have b1 := hb l1 (List.mem_of_getElem? h1)
    have b2 := hb l2 (List.mem_of_getElem? h3)
    have i1 := (List.getElem?_eq_some_iff.mp h1).1
    have i2 := (List.getElem?_eq_some_iff.mp h3).1
    exact code3 b1.2 (by omega) b2.2 (by omega) (h [(l1.mom : Int), (l1.num : Nat), (i : Nat)] [(l2.mom : Int), (l2.num : Nat), (j : Nat)] ⟨t1, rfl, SqT.of h2⟩ ⟨t2, rfl, SqT.of h4⟩)
  generalize upd H1 p (.lst ys) = H2 at e2 g2
  have e12 := e1.trans e2
  have hyl : ys.length = rs.length := by rw [hperm.length_eq, hal]
  have hD1' := e1.free hp
  refine ⟨p, rfl, ⟨ys, SqL.of g2⟩, fun D2 hD2 => ?_⟩
  refine lc_pure (walk_list (xs := ys)) hD2 (fun i acc => Fits (RowAt K) G acc (((ys.map (decV H1)).map g).take i)) Fits.nil (by omega) (fun H3 e => e.seq (SqL.of g2)) ?_ ?_
  · rintro i x acc H3 H4 hi e3 fo ⟨rfl, hx⟩ Q1 Q0 q1 q0
    obtain ⟨j, hj, t, l, rfl, h1, h2⟩ := fy.get2 hx
    obtain ⟨u, hu, hr⟩ := fG.get h1
    have ht4 := e3 _ _ (e2 _ _ h2)
    have ha4 := e3 _ _ (e12 _ _ ha)
    refine ⟨t, _, rfl, SqT.of ht4, rfl, _, _, rfl, _, _, rfl, _, _, rfl, rfl, rfl, ?_⟩
    refine ⟨_, rfl, _, rfl, a, vs, _, _, rfl, rfl, SqL.of ha4, atI_nat hu, q1 _ _ (Same.refl _) ?_⟩
    have hjo : ((ys.map (decV H1)).map g)[i]? = some l := by
      rw [List.getElem?_map, hj]
      show some (g j) = _
      rw [hg h1]
    rw [take_snoc hjo]
    exact fo.snoc hr
  rintro acc2 H3 e3 hD3 _ fo
  rw [List.take_of_length_le (by rw [List.length_map, List.length_map]; omega)] at fo
  exact k D2 _ acc2 H3 (e12.free hD2) (e12.trans e3) ⟨hout, hord⟩ hD3 fo
theorem ok_law_led (T : Txt K mg) : Fx P w K mg base "_law_led" 3 [] (sp_law_led K) := by
  obtain ⟨fd, F⟩ := T.d_law_led
  refine ⟨_, fd, _, [], T.g__law_led, F.kp, fn_body F sc_law_led rfl (fun cdv A outer s H vs Q E hr h => ?_), F.bindsN (fun _ _ _ _ _ _ us hl => match us, hl with | [_, _], _ => rfl), .nil⟩
  have nd := sc_law_led.nd
  have hu := hu_of hr
  obtain ⟨a, r, bs, Nm, rs, rfl, LB, LR, BO, hN, hok, hlen, hb, k⟩ := h
  refine ⟨_, (pss_cons (ps_set (i := 2) nd rfl (Or.inl rfl) (pe_f (ok_law_begin T) (hr.mono (by decide)) (pa_cons (pv 0) pa_nil)))
      (pss_cons (ps_for PassesOwn.never rfl (pi_list (pe_f (ok_law_in_time T) (hr.mono (by decide)) (pa_cons (pv 1) pa_nil))) (pg_name (i := 3) nd rfl (.inl rfl))
      (pss_one (ps_if (pt_cmpR op_eq (pe_ix ix_tup (pv 3) pe_int (fun _ _ => rfl)) pe_str (nomark _)) (pss_one (ps_expr (pe_f (ok_law_spoiled T) (hr.mono (by decide)) (pa_cons (pv 2) (pa_cons (pv 0) (pa_cons (pv 3) pa_nil)))))) (pss_one (ps_expr (pe_f (ok_law_promised T) (hr.mono (by decide)) (pa_cons (pv 2) (pa_cons (pv 3) pa_nil))))))))
      (pss_one (ps_ret (pv 2))))), ?_⟩
  have hn6 := BO.n6
  refine ⟨_, rfl, rfl, a, bs, rfl, LB, BO, fun c0 H1 C1 R1 => ?_⟩
  have z0 : ∀ {G : Hp}, Same G (cut G fun _ => False) := fun {G} b o e => cut_of (fun z => z) e
  have s1 := z0.trans C1.cut
  refine ⟨_, rfl, rfl, r, rs, cut H1 (foot c0 (Ball bs)), rfl, cut_le, LR.same mo_row s1, by omega, hb, fun p ys us H2 hp e2 hT hp2 fT => ?_⟩
  have C2 := C1.trans (Chg.of e2)
  have R2 := R1.same e2
  have f2 : Fits (RowAt K) (cut H2 (foot c0 (Ball bs))) us ys := fT.same mo_row (Chg.of e2).cut
  have hpc : cut H2 (foot c0 (Ball bs)) p = some (.lst us) := cut_of (R1.fresh hp) hp2
  have hoy : ∀ l ∈ ys, LnOk bs Nm l := fun l hl => hok l (hT.perm.mem_iff.mp hl)
  have hly : ys.length ≤ 40 := by rw [hT.perm.length_eq]; exact hlen
  refine ⟨p, rfl, ⟨us, SqL.of hp2⟩, ?_⟩
  refine for_list (K := K) (xs := us) (fun i σ H' => ∃ u c', σ = [some (.ref a), some (.ref r), some (.ref (c' .root)), u] ∧ Rep knLaw (Ball bs) (200 + 30 * i) H' c' ((ys.take i).foldl (PS.step bs) (PS.begin bs)) ∧ Chg (foot c0 (Ball bs)) (foot c' (Ball bs)) H2 H') ⟨_, c0, rfl, R2, Chg.of (Same.refl _)⟩
    (fun i σ H' _ ⟨u, c', e, R', C'⟩ => SqL.of (cut_le _ _ (C'.cut _ _ hpc))) ?_ ?_
  · rintro i v σ H' hv ⟨u, c', rfl, R', C'⟩
    obtain ⟨l, hl, hr⟩ := f2.get2 hv
    have hi : i < ys.length := (List.getElem?_eq_some_iff.mp hl).1
    have hr' := mo_row _ _ _ _ C'.cut hr
    have hok' := hoy l (List.mem_of_getElem? hl)
    have S : PSok bs Nm i ((ys.take i).foldl (PS.step bs) (PS.begin bs)) := by
      have := led_ok BO hN (ys.take i) 0 _ (fun x hx => hoy x (List.mem_of_mem_take hx)) (begin_ok BO hN)
      rw [List.length_take, Nat.min_eq_left (by omega), Nat.zero_add] at this
      exact this
    have nx : ∀ c2 H3, Chg (foot c' (Ball bs)) (foot c2 (Ball bs)) H' H3 → c2 .root = c' .root → Rep knLaw (Ball bs) (200 + 30 * i + 30) H3 c2 (PS.step bs ((ys.take i).foldl (PS.step bs) (PS.begin bs)) l) →
        ∃ u c3, [some (V.ref a), some (.ref r), some (.ref (c' .root)), some v] = [some (.ref a), some (.ref r), some (.ref (c3 .root)), u] ∧ Rep knLaw (Ball bs) (200 + 30 * (i + 1)) H3 c3 ((ys.take (i + 1)).foldl (PS.step bs) (PS.begin bs)) ∧ Chg (foot c0 (Ball bs)) (foot c3 (Ball bs)) H2 H3 := fun c2 H3 C3 e3 R3 => by
      refine ⟨some v, c2, by rw [e3], ?_, C'.trans C3⟩
      rw [take_snoc hl, List.foldl_append]
      exact R3.le (by omega)
    have LB' : LAt BedRowAt (cut H' (foot c' (Ball bs))) a bs := LB.same mo_bedrow (z0.trans (C2.trans C').cut)
    cases l with
    | prom q =>
      obtain ⟨t, rfl, hq⟩ := hr'
      refine ⟨_, rfl, t, _, 0, _, rfl, rfl, SqT.of (cut_le _ _ hq.1), rfl, rfl, _, rfl, ?_⟩
      rw [decide_eq_false (show ¬ V.str "promise" = V.str "spoil" from fun z => absurd z (by decide +kernel))]
      exact ⟨_, rfl, _, rfl, rfl, c', bs, Nm, i, _, _, t, q, rfl, R', hq, BO, S, hok', by omega, by omega, fun H3 C3 R3 => nx c' H3 C3 rfl (R3.le (by omega))⟩
    | spoil n m x =>
      obtain ⟨t, rfl, hq⟩ := hr'
      obtain ⟨_, b, hbb, rfl⟩ := hok'
      refine ⟨_, rfl, t, _, 0, _, rfl, rfl, SqT.of (cut_le _ _ hq), rfl, rfl, _, rfl, ?_⟩
      rw [decide_eq_true (show V.str "spoil" = V.str "spoil" from rfl)]
      refine ⟨_, rfl, _, rfl, _, rfl, rfl, c', bs, Nm, i, _, _, a, t, b, n, m, rfl, R', LB', hq, hbb, BO, S, by omega, by omega, fun c2 H3 C3 e3 R3 => nx c2 H3 C3 e3 ?_⟩
      show Rep knLaw (Ball bs) _ H3 c2 (match bedOf bs b.name with
        | some b => PS.spoil _ n b
        | none => _)
      rw [bedOf_some BO hbb]
      exact R3
  · rintro σ H' ⟨u, c', rfl, R', C'⟩
    rw [f2.1, List.take_length] at R'
    exact ⟨_, rfl, k c' ys H' (C2.trans C') hT (R'.le (by omega))⟩
end
end RP
set_option Elab.async false
set_option linter.all false
set_option maxRecDepth 100000
set_option maxHeartbeats 400000
/-! rootpledge k80: the program's Standing -/
namespace RP
open PySem PySem.Spec PyProof.Rows L2
def stdFs (f : Addr) (c : Lab → Addr) : List (Str × V) := [("field", .ref f), ("held", .ref (c .h)), ("parts", .ref (c .pp)), ("spoilt", .ref (c .sp)), ("good", .ref (c .gd)), ("void_rows", .ref (c .vd)), ("gone", .ref (c .gn))]
def StdE (K : PySem.W.Frag) : Hp → V → Ent → Prop := fun H v e => ∃ t q kl p, v = .ref t ∧ H t = some (.tup [.ref q, .ref kl]) ∧ PromAt K H q p ∧ KeysAt H kl e.keys ∧ e.num = p.num ∧ e.seller = p.seller ∧ e.bed = p.th.bed
def StdU (K : PySem.W.Frag) : Hp → V → Nat → Prop := fun H v n => ∃ p, v = .ref p ∧ PartAt K H p n
def knStd (K : PySem.W.Frag) (f dx : Addr) : Kn where
  ro := fun c => .ins (cStanding K) dx (stdFs f c)
  U := StdU K
  E := StdE K
  mU := fun H H' v e z h => by
    obtain ⟨p, rfl, h⟩ := h
    exact ⟨p, rfl, h.same z⟩
  mE := fun H H' v e z h => by
    obtain ⟨t, q, kl, p, rfl, h1, h2, h3, h4⟩ := h
    exact ⟨t, q, kl, p, rfl, z _ _ h1, h2.same z, h3.same mo_gk z, h4⟩
section
variable {K : PySem.W.Frag} {f dx : Addr} {k : Kn} {B B' : Str → Prop} {w : Nat} {H : Hp} {c : Lab → Addr} {st : PS}
theorem Rep.std_root (R : Rep (knStd K f dx) B w H c st) : H (c .root) = some (.ins (cStanding K) dx (stdFs f c)) := by
  obtain ⟨o, q, rfl⟩ := R.at_ .root trivial
  exact q
theorem Rep.parts_weak (R : Rep k B w H c st) {parts : Str → List (Str × Nat)} (h : ∀ x, B x → parts x = st.parts x) : Rep k B w H c { st with parts := parts } := by
  refine ⟨R.inj, fun l a => ?_⟩
  obtain ⟨o, q, z⟩ := R.at_ l a
  refine ⟨o, q, ?_⟩
  cases l with
  | sh x =>
    obtain ⟨us, z1, z2⟩ := z
    refine ⟨us, z1, ?_⟩
    show Sh _ _ _ (parts x)
    rw [h x a]
    exact z2
  | root => exact z
  | h => exact z
  | pp => exact z
  | sp => exact z
  | gd => exact z
  | vd => exact z
  | gn => exact z
theorem Rep.off_swp (R : Rep k B w H c st) {l0 : Lab} {d p : Addr} (hl : ∀ l, Act B' l → l ≠ l0 → Act B l) (hp : H p = none) (hd : p ≠ d) : ¬ foot (swp c l0 d) B' p := by
  rintro ⟨l, h1, e⟩
  by_cases q : l = l0
  · rw [q, swp_same] at e
    exact hd e.symm
  · rw [swp_ne q] at e
    exact R.fresh hp ⟨l, hl l h1 q, e⟩
end
theorem same_upd2 {H H2 : Hp} {d : Addr} {o o' : HO} (e : Same (upd H d o) H2) (h : H d = none) : Same H (upd H2 d o') := fun a u q => by
  have hne : a ≠ d := ne_of_none q h
  rw [upd_ne hne]
  exact e _ _ (by rw [upd_ne hne]; exact q)
theorem act_add {B : Str → Prop} {x : Str} : ∀ l, Act (addB B x) l → l ≠ .sh x → Act B l := fun l h1 h2 => by
  cases l with
  | sh y => exact h1.resolve_left fun z => h2 (by rw [z])
  | root => trivial
  | h => trivial
  | pp => trivial
  | sp => trivial
  | gd => trivial
  | vd => trivial
  | gn => trivial
/-- the beds with shares after b went back -/
def bkB (B : Str → Prop) (b : BedR) : Str → Prop := if b.shares = true then addB B b.name else B
def sp_Standing_back (K : PySem.W.Frag) : Sp := spA 2 fun vs H Q => ∃ c f dx B w st q dq b, vs = [.ref (c .root), .ref q] ∧ Rep (knStd K f dx) B w H c st ∧ cut H (foot c B) q = some (.ins (cBed K) dq (bedFs b)) ∧ w ≤ 100000 ∧ b.roots ≤ 12 ∧ (b.shares = false → ¬ B b.name) ∧
  ∀ c' H', Chg (foot c B) (foot c' (bkB B b)) H H' → c' .root = c .root → Rep (knStd K f dx) (bkB B b) (w + 30) H' c' (st.back b) → Q .non H'
def sp_Standing_holds (K : PySem.W.Frag) : Sp := spA 2 fun vs H Q => ∃ c f dx B w st q p, vs = [.ref (c .root), .ref q] ∧ Rep (knStd K f dx) B w H c st ∧ PromAt K (cut H (foot c B)) q p ∧ ThOk p.th ∧ (p.th.kd = .share → B p.th.bed ∧ psum (st.parts p.th.bed) = 27720) ∧ (p.th.kd ≠ .share → ∃ x, st.held p.th.gk = some x) ∧
  ∀ H', Same H H' → Q (.bl (st.holds p)) H'
def sp_Standing_moves (K : PySem.W.Frag) : Sp := spA 2 fun vs H Q => ∃ c f dx B w st q p, vs = [.ref (c .root), .ref q] ∧ Rep (knStd K f dx) B w H c st ∧ PromAt K (cut H (foot c B)) q p ∧ p.th.kd ≠ .share ∧ (p.th.kd = .root → ∃ x, st.held (.it false p.th.bed p.th.k) = some x) ∧
  ∀ kl H', Same H H' → KeysAt (cut H' (foot c B)) kl (st.keys p) → Q (.ref kl) H'
section
variable {P : Program} {w : World} {K : PySem.W.Frag} {mg : Str → Option Value} {base : Heap}
theorem ok_Standing_back (T : Txt K mg) : Mx P w K mg base (He.ga K "Standing") "back" 4 (sp_Standing_back K) := by
  obtain ⟨fd, F⟩ := T.d_Standing_back
  refine ⟨T.cl_Standing, _, fd, _, T.me_Standing_back, fn_body F sc_Standing_back rfl (fun cdv A outer s H vs Q E hr h => ?_), F.bindsN (fun _ _ _ _ _ _ us hl => match us, hl with | [_, _], _ => rfl)⟩
  have nd := sc_Standing_back.nd
  have hu := hu_of hr
  obtain ⟨c, f, dx, B, n, st, q, dq, b, rfl, R, hqc, hn, hr12, hBb, k⟩ := h
  refine ⟨_, (pss_cons (ps_if (pt_cmpR op_eq (pe_fld (pv 1) rfl) pe_str (nomark _)) (pss_one (ps_dput hu (pe_fld (pv 0) rfl) (pe_fld (pv 1) rfl) (pe_disp (pps_cons (pe_fld (pv 1) rfl) (pe_n (ok_Part_init1 T) (hr.mono (by decide)) (pa_cons pe_int pa_nil)) pps_nil) (by rfl) (by rfl) (fun z => by cases z) (by decide)) rfl)) pss_nil)
      (pss_one (ps_for PassesOwn.never rfl (pi_range2 (by rfl) T.n_range (pa_cons pe_int (pa_cons (pe_op op_add (pe_fld (pv 1) rfl) pe_int) pa_nil))) (pg_name (i := 2) nd rfl (.inl rfl))
      (pss_cons (ps_dput hu (pe_fld (pv 0) rfl) (pe_tup (pa_cons pe_str (pa_cons (pe_fld (pv 1) rfl) (pa_cons (pv 2) pa_nil)))) (pe_fld (pv 1) rfl) rfl)
      (pss_one (ps_dput hu (pe_fld (pv 0) rfl) (pe_tup (pa_cons pe_str (pa_cons (pe_fld (pv 1) rfl) (pa_cons (pv 2) pa_nil)))) (pe_fld (pv 1) rfl) rfl)))))), ?_⟩
  have hq := cut_le _ _ hqc
  refine ⟨_, rfl, q, _, dq, _, _, rfl, hq, T.cl_Bed, T.na_Bed_kind, rfl, rfl, _, rfl, ?_⟩
  rw [(kind_eq b).1]
  cases hs : b.shares with
  | true =>
    intro d hd
    have e0 := same_upd (o := .dK []) (Same.refl H) hd
    refine ⟨_, rfl, q, _, dq, _, _, rfl, e0 _ _ hq, T.cl_Bed, T.na_Bed_owner, rfl, ?_⟩
    intro p dp f1 g1 n1
    refine mkPartW (K := K) (a := 1) (b := 1) (u := 27720) (by decide) (by decide) (by decide) f1 g1 fun H2 e2 P2 => ⟨rfl, ?_⟩
    refine ⟨e2 _ _ upd_same, [(Sum.inr b.owner, .ref p)], rfl, (by show 1 ≤ 15; decide), ?_⟩
    have e3 : Same H (upd H2 d (.dK (mergeK [] [(Sum.inr b.owner, V.ref p)]))) := same_upd2 e2 hd
    have h3 : upd H2 d (.dK (mergeK [] [(Sum.inr b.owner, V.ref p)])) d = some (.dK [(Sum.inr b.owner, V.ref p)]) := upd_same
    have hpd : p ≠ d := fun z => by
      rw [z, upd_same] at f1
      cases f1
    have hpn : H p = none := by
      rw [upd_ne hpd] at f1
      exact f1
    have P3 : PartAt K (upd H2 d (.dK (mergeK [] [(Sum.inr b.owner, V.ref p)]))) p 27720 := by
      obtain ⟨dx, hp⟩ := P2
      exact ⟨dx, by rw [upd_ne hpd]; exact hp⟩
    generalize upd H2 d (.dK (mergeK [] [(Sum.inr b.owner, V.ref p)])) = H3 at e3 h3 P3
    have R3 := R.same e3
    obtain ⟨o, q0, kvs, rfl, q1, _⟩ := R.at_ .pp trivial
    refine ⟨_, rfl, c .root, _, dx, _, _, rfl, R3.std_root, T.cl_Standing, T.na_Standing_parts, rfl, _, rfl, q, _, dq, _, _, rfl, e3 _ _ hq, T.cl_Bed, T.na_Bed_name, rfl, c .pp, _, rfl, DPut.k (k := Sum.inr b.name) (e3 _ _ q0) (Nat.lt_of_le_of_lt q1 (Nat.lt_of_le_of_lt hn (by decide))), ?_⟩
    have R4 := R.new_share (x := b.name) (l1 := [(b.owner, 27720)]) e3 hd h3 q0 (fun _ _ => rfl) (.cons ⟨p, rfl, by
      obtain ⟨dx, hp⟩ := P3
      exact ⟨dx, cut_of (R.off_swp act_add hpn hpd) (by rw [upd_ne fun z => R.fresh hpn (by rw [z]; exact foot_of (l := .pp) trivial)]; exact hp)⟩⟩ .nil)
    have C4 := swp_chg (l0 := .sh b.name) (lp := .pp) (B' := addB B b.name) (op := .dK (putK kvs (Sum.inr b.name) (.ref d))) R act_add trivial e3 hd
    have eB : addB B b.name = bkB B b := by
      unfold bkB
      rw [if_pos hs]
    rw [eB] at R4 C4
    have e5 : swp c (.sh b.name) d .root = c .root := swp_ne (by intro z; cases z)
    generalize upd H3 (c .pp) (.dK (putK kvs (Sum.inr b.name) (.ref d))) = H4 at R4 C4
    generalize swp c (.sh b.name) d = c4 at R4 C4 e5
    rw [← e5]
    have hq4c := C4.cut _ _ hqc
    have hq4 := cut_le _ _ hq4c
    refine ⟨_, rfl, q, _, dq, _, _, rfl, hq4, T.cl_Bed, T.na_Bed_roots, rfl, _, _, rfl, rfl, _, _, rfl, ⟨by decide, by decide, by omega, by omega⟩, ?_⟩
    have hlen : ((b.roots : Int) + 1 - 1).toNat = b.roots := by omega
    refine for_it walk_range (fun i σ H' => ∃ u, σ = [some (.ref (c4 .root)), some (.ref q), u] ∧ Rep (knStd K f dx) (bkB B b) (n + 1 + 2 * i) H' c4 { st with parts := backP st.parts b, held := backI st.held b i } ∧ Chg (foot c4 (bkB B b)) (foot c4 (bkB B b)) H4 H') ⟨_, rfl, R4.weak fun g y => backI_zero, Chg.of (Same.refl _)⟩ (fun _ _ _ _ _ => trivial) ?_ ?_
    · rintro i x σ H5 H6 hi ⟨u, rfl, R5, C5⟩ ⟨rfl, e⟩
      rw [hlen] at hi
      have e : x = .int ((i + 1 : Nat) : Int) := e.trans (by show V.int (1 + (i : Int)) = _; rw [show (1 : Int) + (i : Int) = ((i + 1 : Nat) : Int) by omega])
      subst e
      have hq5 := cut_le _ _ (C5.cut _ _ hq4c)
      refine ⟨_, rfl, q, _, dq, _, _, rfl, hq5, T.cl_Bed, T.na_Bed_owner, rfl, _, rfl, c4 .root, _, dx, _, _, rfl, R5.std_root, T.cl_Standing, T.na_Standing_held, rfl, ?_⟩
      refine ⟨_, rfl, q, _, dq, _, _, rfl, hq5, T.cl_Bed, T.na_Bed_name, rfl, _, rfl, (by show 3 ≤ sizeLine; decide), fun t ht => ?_⟩
      obtain ⟨H7, p7, R7, C7⟩ := R5.held_new (g := .it true b.name (i + 1)) (x := b.owner) (held := backJ st.held b i) (Nat.lt_of_lt_of_le (show n + 1 + 2 * i < 100100 by omega) (by decide)) ht fun g y h => backJ_of h
      refine ⟨c4 .h, H7, rfl, p7, ?_⟩
      have hq7 := cut_le _ _ ((C5.trans C7).cut _ _ hq4c)
      refine ⟨_, rfl, q, _, dq, _, _, rfl, hq7, T.cl_Bed, T.na_Bed_owner, rfl, _, rfl, c4 .root, _, dx, _, _, rfl, R7.std_root, T.cl_Standing, T.na_Standing_held, rfl, ?_⟩
      refine ⟨_, rfl, q, _, dq, _, _, rfl, hq7, T.cl_Bed, T.na_Bed_name, rfl, _, rfl, (by show 3 ≤ sizeLine; decide), fun t2 ht2 => ?_⟩
      obtain ⟨H8, p8, R8, C8⟩ := R7.held_new (g := .it false b.name (i + 1)) (x := b.owner) (held := backI st.held b (i + 1)) (Nat.lt_of_lt_of_le (show n + 1 + 2 * i + 1 < 100100 by omega) (by decide)) ht2 fun g y h => backI_of h
      exact ⟨c4 .h, H8, rfl, p8, _, rfl, R8, (C5.trans C7).trans C8⟩
    · rintro σ H5 ⟨u, rfl, R5, C5⟩
      rw [hlen] at R5
      rw [backI_end] at R5
      exact k c4 H5 (C4.trans C5) e5 (R5.le (by omega))
  | false =>
    have eB : B = bkB B b := by
      unfold bkB
      rw [if_neg (by rw [hs]; exact Bool.false_ne_true)]
    have R4 : Rep (knStd K f dx) (bkB B b) (n + 1) H c { st with parts := backP st.parts b } := by
      rw [← eB]
      refine Rep.le (R.parts_weak fun x hx => ?_) (Nat.le_succ _)
      unfold backP
      rw [if_neg (fun z => hBb hs (by rw [← z]; exact hx))]
    have C4 : Chg (foot c B) (foot c (bkB B b)) H H := by
      rw [← eB]
      exact Chg.of (Same.refl _)
    have e5 : c .root = c .root := rfl
    have hq4c := C4.cut _ _ hqc
    have hq4 := hq
    obtain ⟨c4, rfl⟩ : ∃ x, x = c := ⟨c, rfl⟩
    obtain ⟨H4, rfl⟩ : ∃ x, x = H := ⟨H, rfl⟩
    refine ⟨_, rfl, q, _, dq, _, _, rfl, hq4, T.cl_Bed, T.na_Bed_roots, rfl, _, _, rfl, rfl, _, _, rfl, ⟨by decide, by decide, by omega, by omega⟩, ?_⟩
    have hlen : ((b.roots : Int) + 1 - 1).toNat = b.roots := by omega
    refine for_it walk_range (fun i σ H' => ∃ u, σ = [some (.ref (c4 .root)), some (.ref q), u] ∧ Rep (knStd K f dx) (bkB B b) (n + 1 + 2 * i) H' c4 { st with parts := backP st.parts b, held := backI st.held b i } ∧ Chg (foot c4 (bkB B b)) (foot c4 (bkB B b)) H4 H') ⟨_, rfl, R4.weak fun g y => backI_zero, Chg.of (Same.refl _)⟩ (fun _ _ _ _ _ => trivial) ?_ ?_
    · rintro i x σ H5 H6 hi ⟨u, rfl, R5, C5⟩ ⟨rfl, e⟩
      rw [hlen] at hi
      have e : x = .int ((i + 1 : Nat) : Int) := e.trans (by show V.int (1 + (i : Int)) = _; rw [show (1 : Int) + (i : Int) = ((i + 1 : Nat) : Int) by omega])
      subst e
      have hq5 := cut_le _ _ (C5.cut _ _ hq4c)
      refine ⟨_, rfl, q, _, dq, _, _, rfl, hq5, T.cl_Bed, T.na_Bed_owner, rfl, _, rfl, c4 .root, _, dx, _, _, rfl, R5.std_root, T.cl_Standing, T.na_Standing_held, rfl, ?_⟩
      refine ⟨_, rfl, q, _, dq, _, _, rfl, hq5, T.cl_Bed, T.na_Bed_name, rfl, _, rfl, (by show 3 ≤ sizeLine; decide), fun t ht => ?_⟩
      obtain ⟨H7, p7, R7, C7⟩ := R5.held_new (g := .it true b.name (i + 1)) (x := b.owner) (held := backJ st.held b i) (Nat.lt_of_lt_of_le (show n + 1 + 2 * i < 100100 by omega) (by decide)) ht fun g y h => backJ_of h
      refine ⟨c4 .h, H7, rfl, p7, ?_⟩
      have hq7 := cut_le _ _ ((C5.trans C7).cut _ _ hq4c)
      refine ⟨_, rfl, q, _, dq, _, _, rfl, hq7, T.cl_Bed, T.na_Bed_owner, rfl, _, rfl, c4 .root, _, dx, _, _, rfl, R7.std_root, T.cl_Standing, T.na_Standing_held, rfl, ?_⟩
      refine ⟨_, rfl, q, _, dq, _, _, rfl, hq7, T.cl_Bed, T.na_Bed_name, rfl, _, rfl, (by show 3 ≤ sizeLine; decide), fun t2 ht2 => ?_⟩
      obtain ⟨H8, p8, R8, C8⟩ := R7.held_new (g := .it false b.name (i + 1)) (x := b.owner) (held := backI st.held b (i + 1)) (Nat.lt_of_lt_of_le (show n + 1 + 2 * i + 1 < 100100 by omega) (by decide)) ht2 fun g y h => backI_of h
      exact ⟨c4 .h, H8, rfl, p8, _, rfl, R8, (C5.trans C7).trans C8⟩
    · rintro σ H5 ⟨u, rfl, R5, C5⟩
      rw [hlen] at R5
      rw [backI_end] at R5
      exact k c4 H5 (C4.trans C5) e5 (R5.le (by omega))
theorem ok_Standing_holds (T : Txt K mg) : Mx P w K mg base (He.ga K "Standing") "holds" 4 (sp_Standing_holds K) := by
  obtain ⟨fd, F⟩ := T.d_Standing_holds
  refine ⟨T.cl_Standing, _, fd, _, T.me_Standing_holds, fn_body F sc_Standing_holds rfl (fun cdv A outer s H vs Q E hr h => ?_), F.bindsN (fun _ _ _ _ _ _ us hl => match us, hl with | [_, _], _ => rfl)⟩
  have nd := sc_Standing_holds.nd
  have hu := hu_of hr
  obtain ⟨c, f, dx, B, n, st, q, p, rfl, R, ⟨⟨dq, hqc⟩, hthc⟩, O, h1, h2, k⟩ := h
  refine ⟨_, (pss_cons (ps_asg (pe_fld (pv 1) rfl) (pg_tup rfl (pgs_cons (pg_name (i := 2) nd rfl (.inl rfl)) (pgs_cons (pg_name (i := 3) nd rfl (.inl rfl)) (pgs_cons (pg_name (i := 4) nd rfl (.inl rfl)) pgs_nil)))))
      (pss_cons (ps_if (pt_cmpR op_ne (pv 2) pe_str (nomark _)) (pss_one (ps_ret (pe_cmpR op_eq (pe_dget hu (pe_fld (pv 0) rfl) (pe_fld (pv 1) rfl) (fun _ _ => rfl)) (pe_fld (pv 1) rfl) (nomark _)))) pss_nil)
      (pss_one (ps_ret (pe_not (pe_f (ok_less T) (hr.mono (by decide)) (pa_cons (pe_dget2 hu (pe_dget hu (pe_fld (pv 0) rfl) (pv 3) (fun _ _ => rfl)) (pe_fld (pv 1) rfl) (pe_n (ok_Part_init1 T) (hr.mono (by decide)) (pa_cons pe_int pa_nil)) ⟨by rfl, by rfl, by rfl, by rfl⟩) (pa_cons (pv 4) pa_nil)))))))), ?_⟩
  have hq := cut_le _ _ hqc
  have hth := hthc.same cut_le
  obtain ⟨v, ha, hv⟩ := id hth
  refine ⟨_, rfl, q, _, dq, _, _, rfl, hq, T.cl_Promise, T.na_Promise_thing, rfl, p.ta, _, rfl, SqT.of ha, rfl, _, _, rfl, _, _, rfl, _, _, rfl, rfl, ?_⟩
  refine ⟨_, rfl, rfl, _, rfl, ?_⟩
  rw [kd_share]
  by_cases hk : p.th.kd = .share
  · rw [decide_eq_true hk]
    obtain ⟨pa, rfl, dp, hpa⟩ := hv.share hk
    obtain ⟨hB, hsum⟩ := h1 hk
    obtain ⟨us, hus, fus⟩ := R.sh_at hB
    have hle : pget (st.parts p.th.bed) p.seller ≤ 27720 := by
      rw [← hsum]
      exact pget_le _ _
    have hle2 := (O.sh hk).1
    have hdg := DGet.k (k := Sum.inr p.seller) hus
    refine ⟨_, rfl, c .root, _, dx, _, _, rfl, R.std_root, T.cl_Standing, T.na_Standing_parts, rfl, _, rfl, c .pp, _, rfl, R.parts_get hB, c (.sh p.th.bed), rfl, .inl ⟨us, .inl hus⟩, ?_⟩
    refine ⟨_, rfl, q, _, dq, _, _, rfl, hq, T.cl_Promise, T.na_Promise_seller, rfl, ?_⟩
    intro z dz f1 g1 n1
    refine mkPartW (K := K) (a := 0) (b := 1) (u := 0) (by decide) (by decide) (by decide) f1 g1 fun H2 e2 P2 => ⟨rfl, ?_⟩
    have hdg2 := DGet.k (k := Sum.inr p.seller) (e2 _ _ hus)
    have hfin : st.holds p = !decide (pget (st.parts p.th.bed) p.seller < p.th.k) := by
      unfold PS.holds
      rw [if_pos hk, ← decide_not]
      rw [decide_eq_decide]
      omega
    cases hg : sget (st.parts p.th.bed) p.seller with
    | none =>
      rw [fus.none hg] at hdg2
      have e0 : pget (st.parts p.th.bed) p.seller = 0 := by
        unfold pget
        rw [hg]
        rfl
      rw [e0] at hfin
      refine ⟨none, hdg2, _, rfl, rfl, z, pa, 0, p.th.k, rfl, P2, ⟨dp, e2 _ _ hpa⟩, by decide, hle2, _, rfl, ?_⟩
      rw [hfin] at k
      exact k _ e2
    | some u =>
      obtain ⟨vu, hvu, pu, rfl, hpu⟩ := fus.get hg
      rw [hvu] at hdg2
      have e0 : pget (st.parts p.th.bed) p.seller = u := by
        unfold pget
        rw [hg]
        rfl
      rw [e0] at hfin hle
      refine ⟨some (.ref pu), hdg2, _, rfl, rfl, pu, pa, u, p.th.k, rfl, (hpu.same cut_le).same e2, ⟨dp, e2 _ _ hpa⟩, hle, hle2, _, rfl, ?_⟩
      rw [hfin] at k
      exact k _ e2
  · rw [decide_eq_false hk]
    obtain ⟨x, hx⟩ := h2 hk
    refine ⟨_, rfl, c .root, _, dx, _, _, rfl, R.std_root, T.cl_Standing, T.na_Standing_held, rfl, _, rfl, q, _, dq, _, _, rfl, hq, T.cl_Promise, T.na_Promise_thing, rfl, c .h, _, rfl, R.held_get (th_gk hth hk) hx, _, rfl, q, _, dq, _, _, rfl, hq, T.cl_Promise, T.na_Promise_seller, rfl, rfl, ?_⟩
    have hfin : st.holds p = decide (V.str x = V.str p.seller) := by
      unfold PS.holds
      rw [if_neg hk, hx, decide_eq_decide]
      exact ⟨fun z => by rw [Option.some.inj z], fun z => by injection z with z; rw [z]⟩
    rw [hfin] at k
    exact k H (Same.refl _)
theorem ok_Standing_moves (T : Txt K mg) : Mx P w K mg base (He.ga K "Standing") "moves" 1 (sp_Standing_moves K) := by
  obtain ⟨fd, F⟩ := T.d_Standing_moves
  refine ⟨T.cl_Standing, _, fd, _, T.me_Standing_moves, fn_body F sc_Standing_moves rfl (fun cdv A outer s H vs Q E hr h => ?_), F.bindsN (fun _ _ _ _ _ _ us hl => match us, hl with | [_, _], _ => rfl)⟩
  have nd := sc_Standing_moves.nd
  have hu := hu_of hr
  obtain ⟨c, f, dx, B, n, st, q, p, rfl, R, ⟨⟨dq, hqc⟩, hthc⟩, hk, ho, k⟩ := h
  refine ⟨_, (pss_cons (ps_asg (pe_fld (pv 1) rfl) (pg_tup rfl (pgs_cons (pg_name (i := 2) nd rfl (.inl rfl)) (pgs_cons (pg_name (i := 3) nd rfl (.inl rfl)) (pgs_cons (pg_name (i := 4) nd rfl (.inl rfl)) pgs_nil)))))
      (pss_cons (ps_set (i := 5) nd rfl (Or.inl rfl) (pe_tup (pa_cons pe_str (pa_cons (pv 3) (pa_cons (pv 4) pa_nil)))))
      (pss_cons (ps_if (PW.pt (pw_and (pt_cmpR op_eq (pv 2) pe_str (nomark _)) (pw_and (pt_cmpR op_eq (pe_fld (pv 1) rfl) pe_str (nomark _)) (pw_and1 (pt_cmpR op_eq (pe_dget hu (pe_fld (pv 0) rfl) (pv 5) (fun _ _ => rfl)) (pe_fld (pv 1) rfl) (nomark _)))))) (pss_one (ps_ret (pe_lst (pa_cons (pe_fld (pv 1) rfl) (pa_cons (pv 5) pa_nil))))) pss_nil)
      (pss_one (ps_ret (pe_lst (pa_cons (pe_fld (pv 1) rfl) pa_nil))))))), ?_⟩
  have hq := cut_le _ _ hqc
  have hth := hthc.same cut_le
  obtain ⟨v, ha, hv⟩ := id hth
  have hv1 := hv.num hk
  subst hv1
  refine ⟨_, rfl, q, _, dq, _, _, rfl, hq, T.cl_Promise, T.na_Promise_thing, rfl, p.ta, _, rfl, SqT.of ha, rfl, _, _, rfl, _, _, rfl, _, _, rfl, rfl, ?_⟩
  refine ⟨_, rfl, _, rfl, (by show 3 ≤ sizeLine; decide), fun t1 ht1 => ?_⟩
  have e1 := same_upd (o := .tup [V.str "offsets", .str p.th.bed, .int p.th.k]) (Same.refl H) ht1
  have one : ∀ (kl : Addr), upd H t1 (.tup [V.str "offsets", .str p.th.bed, .int p.th.k]) kl = none → st.keys p = [p.th.gk] → Q (.ref kl) (upd (upd H t1 (.tup [V.str "offsets", .str p.th.bed, .int p.th.k])) kl (.lst [.ref p.ta])) := fun kl hkl hkeys => by
    refine k kl _ (same_upd e1 (e1.free hkl)) ?_
    rw [hkeys]
    exact ⟨_, cut_of (R.fresh (e1.free hkl)) upd_same, .cons ⟨_, rfl, (Chg.of (C := foot c B) (same_upd e1 (e1.free hkl))).cut _ _ (th_gk hthc hk)⟩ .nil⟩
  refine ⟨_, rfl, rfl, _, rfl, ?_⟩
  rw [kd_root]
  by_cases hr0 : p.th.kd = .root
  · rw [decide_eq_true hr0]
    obtain ⟨x, hx⟩ := ho hr0
    refine ⟨_, rfl, q, _, dq, _, _, rfl, e1 _ _ hq, T.cl_Promise, T.na_Promise_offsets, rfl, rfl, _, rfl, ?_⟩
    rw [(go_eq p.go).1]
    cases hg : p.go with
    | false =>
      refine ⟨_, rfl, q, _, dq, _, _, rfl, e1 _ _ hq, T.cl_Promise, T.na_Promise_thing, rfl, (by show 1 ≤ sizeLine; decide), fun kl hkl => one kl hkl ?_⟩
      unfold PS.keys
      rw [if_neg (by rw [hg]; intro z; cases z.2.1)]
    | true =>
      refine ⟨_, rfl, c .root, _, dx, _, _, rfl, (R.same e1).std_root, T.cl_Standing, T.na_Standing_held, rfl, _, rfl, c .h, _, rfl, (R.same e1).held_get (g := .it false p.th.bed p.th.k) upd_same hx, _, rfl, q, _, dq, _, _, rfl, e1 _ _ hq, T.cl_Promise, T.na_Promise_seller, rfl, rfl, _, rfl, ?_⟩
      by_cases hs : x = p.seller
      · rw [decide_eq_true (by rw [hs])]
        refine ⟨_, rfl, q, _, dq, _, _, rfl, e1 _ _ hq, T.cl_Promise, T.na_Promise_thing, rfl, _, rfl, (by show 2 ≤ sizeLine; decide), fun kl hkl => ?_⟩
        refine k kl _ (same_upd e1 (e1.free hkl)) ?_
        have hkeys : st.keys p = [p.th.gk, .it false p.th.bed p.th.k] := by
          unfold PS.keys
          rw [if_pos ⟨hr0, hg, by rw [hx, hs]⟩]
        rw [hkeys]
        refine ⟨_, cut_of (R.fresh (e1.free hkl)) upd_same, .cons ⟨_, rfl, (Chg.of (C := foot c B) (same_upd e1 (e1.free hkl))).cut _ _ (th_gk hthc hk)⟩ (.cons ⟨t1, rfl, cut_of (R.fresh ht1) ?_⟩ .nil)⟩
        rw [upd_ne (ne_of_none upd_same hkl)]
        exact upd_same
      · rw [decide_eq_false (fun z => hs (by injection z))]
        refine ⟨_, rfl, q, _, dq, _, _, rfl, e1 _ _ hq, T.cl_Promise, T.na_Promise_thing, rfl, (by show 1 ≤ sizeLine; decide), fun kl hkl => one kl hkl ?_⟩
        unfold PS.keys
        rw [if_neg (by rw [hx]; exact fun z => hs (Option.some.inj z.2.2))]
  · rw [decide_eq_false hr0]
    refine ⟨_, rfl, q, _, dq, _, _, rfl, e1 _ _ hq, T.cl_Promise, T.na_Promise_thing, rfl, (by show 1 ≤ sizeLine; decide), fun kl hkl => one kl hkl ?_⟩
    unfold PS.keys
    rw [if_neg (fun z => hr0 z.1)]
end
end RP
set_option Elab.async false
set_option linter.all false
set_option maxRecDepth 100000
set_option maxHeartbeats 400000
/-! rootpledge k80: the program's Standing, 2: go, void -/
namespace RP
open PySem PySem.Spec PyProof.Rows L2
def Bsh (bs : List BedR) : Str → Prop := fun x => ∃ b ∈ bs, b.name = x ∧ b.shares = true
theorem Bsh_bed {bs : List BedR} {th : Th} (I : ThIn bs th) (hk : th.kd = .share) : Bsh bs th.bed := by
  obtain ⟨b, hb, e, h⟩ := I.ex
  rcases h with ⟨_, h⟩ | ⟨h, _⟩
  · exact ⟨b, hb, e, h⟩
  · exact absurd hk h
theorem keys_sh {st : PS} {p : Pr} (hk : p.th.kd = .share) : st.keys p = [.sh p.th.bed] := by
  unfold PS.keys
  rw [if_neg (by rw [hk]; intro z; cases z.1), gk_sh hk]
def sp_Standing_go (K : PySem.W.Frag) : Sp := spA 2 fun vs H Q => ∃ c f dx bs Nm n w st q p, vs = [.ref (c .root), .ref q] ∧ Rep (knStd K f dx) (Bsh bs) w H c st ∧ PromAt K (cut H (foot c (Bsh bs))) q p ∧ BedsOk bs ∧ PSok bs Nm n st ∧ PrIn bs Nm p ∧ n ≤ 1000 ∧ w ≤ 100000 ∧ st.holds p = true ∧
  ∀ H', Chg (foot c (Bsh bs)) (foot c (Bsh bs)) H H' → Rep (knStd K f dx) (Bsh bs) (w + 3) H' c (st.go p) → Q .non H'
def sp_Standing_void (K : PySem.W.Frag) : Sp := spA 2 fun vs H Q => ∃ c f dx bs Nm n w st q p, vs = [.ref (c .root), .ref q] ∧ Rep (knStd K f dx) (Bsh bs) w H c st ∧ PromAt K (cut H (foot c (Bsh bs))) q p ∧ BedsOk bs ∧ PSok bs Nm n st ∧ PrIn bs Nm p ∧ n ≤ 1000 ∧
  ∀ H', Chg (foot c (Bsh bs)) (foot c (Bsh bs)) H H' → Rep (knStd K f dx) (Bsh bs) w H' c (st.void p) → Q .non H'
/-- the row of the voids after i entries -/
def vdI (st : PS) (p : Pr) (i : Nat) : Vd := match (((st.good.take i).filter fun e => decide (e.seller = p.seller) && decide (p.th.gk ∈ e.keys)).map (·.num)).getLast? with
  | none => .never
  | some n => .clash n
theorem vdI_end (st : PS) (p : Pr) : vdI st p st.good.length = vdOf st p := by
  unfold vdI vdOf PS.ahead
  rw [List.take_length]
  all_goals rfl
theorem vdI_hit {st : PS} {p : Pr} {i : Nat} {e : Ent} (h : st.good[i]? = some e) (h1 : e.seller = p.seller) (h2 : p.th.gk ∈ e.keys) : vdI st p (i + 1) = .clash e.num := by
  unfold vdI
  rw [filt_snoc _ _ h, if_pos (by rw [decide_eq_true h1, decide_eq_true h2]; rfl), List.getLast?_append]
  rfl
theorem vdI_miss {st : PS} {p : Pr} {i : Nat} {e : Ent} (h : st.good[i]? = some e) (h1 : ¬ (e.seller = p.seller ∧ p.th.gk ∈ e.keys)) : vdI st p (i + 1) = vdI st p i := by
  unfold vdI
  rw [filt_snoc _ _ h, if_neg, List.append_nil]
  rw [← Bool.decide_and]
  exact fun z => h1 (of_decide_eq_true z)
section
variable {P : Program} {w : World} {K : PySem.W.Frag} {mg : Str → Option Value} {base : Heap}
theorem ok_Standing_go (T : Txt K mg) : Mx P w K mg base (He.ga K "Standing") "go" 5 (sp_Standing_go K) := by
  obtain ⟨fd, F⟩ := T.d_Standing_go
  refine ⟨T.cl_Standing, _, fd, _, T.me_Standing_go, fn_body F sc_Standing_go rfl (fun cdv A outer s H vs Q E hr h => ?_), F.bindsN (fun _ _ _ _ _ _ us hl => match us, hl with | [_, _], _ => rfl)⟩
  have nd := sc_Standing_go.nd
  have hu := hu_of hr
  obtain ⟨c, f, dx, bs, Nm, n, ww, st, q, p, rfl, R, HP, BO, S, PI, hn, hw, hh, k⟩ := h
  obtain ⟨⟨dq, hqc⟩, hthc⟩ := id HP
  refine ⟨_, (pss_cons (ps_asg (pe_fld (pv 1) rfl) (pg_tup rfl (pgs_cons (pg_name (i := 2) nd rfl (.inl rfl)) (pgs_cons (pg_name (i := 3) nd rfl (.inl rfl)) (pgs_cons (pg_name (i := 4) nd rfl (.inl rfl)) pgs_nil)))))
      (pss_cons (ps_if (pt_cmpR op_eq (pv 2) pe_str (nomark _)) (pss_cons (ps_set (i := 5) nd rfl (Or.inl rfl) (pe_dget hu (pe_fld (pv 0) rfl) (pv 3) (fun _ _ => rfl)))
      (pss_cons (ps_dput hu (pv 5) (pe_fld (pv 1) rfl) (pe_f (ok_minus T) (hr.mono (by decide)) (pa_cons (pe_dget hu (pv 5) (pe_fld (pv 1) rfl) (fun _ _ => rfl)) (pa_cons (pv 4) pa_nil))) rfl)
      (pss_cons (ps_dput hu (pv 5) (pe_fld (pv 1) rfl) (pe_f (ok_plus T) (hr.mono (by decide)) (pa_cons (pe_dget2 hu (pv 5) (pe_fld (pv 1) rfl) (pe_n (ok_Part_init1 T) (hr.mono (by decide)) (pa_cons pe_int pa_nil)) ⟨by rfl, by rfl, by rfl, by rfl⟩) (pa_cons (pv 4) pa_nil))) rfl)
      (pss_cons (ps_expr (pe_bm PySem.F.plainAttrs_list PySem.F.slot_list_append PySem.F.type_list_append mt_append (pe_fld (pv 0) rfl) (pa_cons (pe_tup (pa_cons (pv 1) (pa_cons (pe_lst (pa_cons (pe_tup (pa_cons pe_str (pa_cons (pv 3) pa_nil))) pa_nil)) pa_nil))) pa_nil)))
      (pss_one ps_retN))))) pss_nil)
      (pss_cons (ps_set (i := 6) nd rfl (Or.inl rfl) (pe_m (ok_Standing_moves T) (hr.mono (by decide)) (pv 0) (pa_cons (pv 1) pa_nil)))
      (pss_cons (ps_for PassesOwn.never rfl (pi_list (pv 6)) (pg_name (i := 7) nd rfl (.inl rfl))
      (pss_one (ps_dput hu (pe_fld (pv 0) rfl) (pv 7) (pe_fld (pv 1) rfl) rfl)))
      (pss_one (ps_expr (pe_bm PySem.F.plainAttrs_list PySem.F.slot_list_append PySem.F.type_list_append mt_append (pe_fld (pv 0) rfl) (pa_cons (pe_tup (pa_cons (pv 1) (pa_cons (pv 6) pa_nil))) pa_nil)))))))), ?_⟩
  have hq := cut_le _ _ hqc
  have hth := hthc.same cut_le
  have hgl : st.good.length ≤ 100000 := Nat.le_trans (Nat.le_trans (Nat.le_add_right _ _) S.gl) (Nat.le_trans hn (by decide))
  obtain ⟨v, ha, hv⟩ := id hth
  refine ⟨_, rfl, q, _, dq, _, _, rfl, hq, T.cl_Promise, T.na_Promise_thing, rfl, p.ta, _, rfl, SqT.of ha, rfl, _, _, rfl, _, _, rfl, _, _, rfl, rfl, ?_⟩
  refine ⟨_, rfl, rfl, _, rfl, ?_⟩
  rw [kd_share]
  by_cases hk : p.th.kd = .share
  · rw [decide_eq_true hk]
    obtain ⟨pa, rfl, dp, hpa⟩ := hv.share hk
    have hB := Bsh_bed PI.th hk
    obtain ⟨b0, hb0, hbn, _⟩ := PI.th.ex
    have l0 := S.sum b0 hb0
    have l1 := S.pl b0 hb0
    have l2 := S.nd b0 hb0
    rw [hbn] at l0 l1 l2
    have hku : p.th.k ≤ pget (st.parts p.th.bed) p.seller := by
      unfold PS.holds at hh
      rw [if_pos hk] at hh
      exact of_decide_eq_true hh
    have hpos := PI.ok.th.k1
    have hle2 := (PI.ok.th.sh hk).1
    have hle := pget_le (st.parts p.th.bed) p.seller
    obtain ⟨u0, hu0, hu1⟩ := pget_mem (l := st.parts p.th.bed) (n := p.seller) (by omega)
    obtain ⟨us, hus, fus⟩ := R.sh_at hB
    obtain ⟨vu, hvu, pu, rfl, hpu⟩ := fus.get hu0
    have hdg := DGet.k (k := Sum.inr p.seller) hus
    rw [hvu] at hdg
    refine ⟨_, rfl, c .root, _, dx, _, _, rfl, R.std_root, T.cl_Standing, T.na_Standing_parts, rfl, _, rfl, c .pp, _, rfl, R.parts_get hB, ?_⟩
    -- shares[seller] = minus(..)
    refine ⟨_, rfl, _, rfl, q, _, dq, _, _, rfl, hq, T.cl_Promise, T.na_Promise_seller, rfl, c (.sh p.th.bed), _, rfl, hdg, _, rfl, rfl, pu, pa, u0, p.th.k, rfl, hpu.same cut_le, ⟨dp, hpa⟩, by omega, by omega, fun p1 H1 hp1 e1 P1 => ?_⟩
    have R1 := R.same e1
    have P1c : PartAt K (cut H1 (foot c (Bsh bs))) p1 (u0 - p.th.k) := by
      obtain ⟨d1, z⟩ := P1
      exact ⟨d1, cut_of (R.fresh hp1) z⟩
    rw [hu1] at P1c
    obtain ⟨H2, p2, R2, C2⟩ := R1.sh_put (n := p.seller) (v := .ref p1) (u := pget (st.parts p.th.bed) p.seller - p.th.k) hB (by omega) l2 ⟨p1, rfl, P1c⟩ rfl
    refine ⟨_, rfl, _, rfl, q, _, dq, _, _, rfl, e1 _ _ hq, T.cl_Promise, T.na_Promise_seller, rfl, c (.sh p.th.bed), H2, rfl, p2, ?_⟩
    have C02 := (Chg.of (C := foot c (Bsh bs)) e1).trans C2
    have hq2 := cut_le _ _ (C02.cut _ _ hqc)
    -- shares[buyer] = plus(..)
    have ep : (if p.th.bed = p.th.bed then pput (st.parts p.th.bed) p.seller (pget (st.parts p.th.bed) p.seller - p.th.k) else st.parts p.th.bed) = pput (st.parts p.th.bed) p.seller (pget (st.parts p.th.bed) p.seller - p.th.k) := if_pos rfl
    obtain ⟨us2, hus2, fus2⟩ := R2.sh_at hB
    have fus2 : Sh (StdU K) (cut H2 (foot c (Bsh bs))) us2 (pput (st.parts p.th.bed) p.seller (pget (st.parts p.th.bed) p.seller - p.th.k)) := by
      rw [← ep]
      exact fus2
    have l3 := pput_len (st.parts p.th.bed) p.seller (pget (st.parts p.th.bed) p.seller - p.th.k)
    have s3 := psum_pput (st.parts p.th.bed) p.seller (pget (st.parts p.th.bed) p.seller - p.th.k)
    have hble := pget_le (pput (st.parts p.th.bed) p.seller (pget (st.parts p.th.bed) p.seller - p.th.k)) p.buyer
    have hpac : PartAt K (cut H2 (foot c (Bsh bs))) pa p.th.k := by
      obtain ⟨v2, ha2, hv2⟩ := hthc.same C02.cut
      obtain ⟨pa2, e2, hpa2⟩ := hv2.share hk
      have ha3 := cut_le _ _ ha2
      have ha4 := cut_le _ _ (C02.cut _ _ (by
        obtain ⟨v5, ha5, _⟩ := hthc
        have := cut_le _ _ ha5
        rw [ha] at this
        rw [← this] at ha5
        exact ha5))
      rw [ha4] at ha3
      injection ha3 with z
      injection z with z
      injection z with _ z
      injection z with _ z
      injection z with z _
      rw [e2] at z
      injection z with z
      rw [z]
      exact hpa2
    refine ⟨_, rfl, c (.sh p.th.bed), rfl, .inl ⟨us2, .inl hus2⟩, ?_⟩
    refine ⟨_, rfl, q, _, dq, _, _, rfl, hq2, T.cl_Promise, T.na_Promise_buyer, rfl, ?_⟩
    intro z dz f1 g1 n1
    refine mkPartW (K := K) (a := 0) (b := 1) (u := 0) (by decide) (by decide) (by decide) f1 g1 fun H3 e3 P3 => ⟨rfl, ?_⟩
    have hdg3 := DGet.k (k := Sum.inr p.buyer) (e3 _ _ hus2)
    obtain ⟨o, px, ho1, ho2, ho3⟩ : ∃ o px, DGet H3 (c (.sh p.th.bed)) (.str p.buyer) o ∧ o.getD (.ref z) = .ref px ∧ PartAt K H3 px (pget (pput (st.parts p.th.bed) p.seller (pget (st.parts p.th.bed) p.seller - p.th.k)) p.buyer) := by
      cases hg : sget (pput (st.parts p.th.bed) p.seller (pget (st.parts p.th.bed) p.seller - p.th.k)) p.buyer with
      | none =>
        rw [fus2.none hg] at hdg3
        refine ⟨none, z, hdg3, rfl, ?_⟩
        unfold pget at hg ⊢
        rw [hg]
        exact P3
      | some u =>
        obtain ⟨vu, hvu, pu, rfl, hpu⟩ := fus2.get hg
        rw [hvu] at hdg3
        refine ⟨_, pu, hdg3, rfl, ?_⟩
        unfold pget at hg ⊢
        rw [hg]
        exact (hpu.same cut_le).same e3
    refine ⟨o, ho1, _, rfl, rfl, px, pa, _, p.th.k, by rw [ho2]; rfl, ho3, (hpac.same cut_le).same e3, by omega, hle2, fun p4 H4 hp4 e4 P4 => ?_⟩
    have R4 := (R2.same e3).same e4
    have hp4' := (e3.free hp4)
    have P4c : PartAt K (cut H4 (foot c (Bsh bs))) p4 (pget (pput (st.parts p.th.bed) p.seller (pget (st.parts p.th.bed) p.seller - p.th.k)) p.buyer + p.th.k) := by
      obtain ⟨d1, z⟩ := P4
      exact ⟨d1, cut_of (R2.fresh hp4') z⟩
    obtain ⟨H5, p5, R5, C5⟩ := R4.sh_put (b := p.th.bed) (n := p.buyer) (v := .ref p4) (u := pget (pput (st.parts p.th.bed) p.seller (pget (st.parts p.th.bed) p.seller - p.th.k)) p.buyer + p.th.k)
      (parts := fun y => if y = p.th.bed then shift (st.parts y) p.seller p.buyer p.th.k else st.parts y) hB (by show (if p.th.bed = p.th.bed then _ else _ : List (Str × Nat)).length ≤ _; rw [if_pos rfl]; omega) (by show ((if p.th.bed = p.th.bed then _ else _ : List (Str × Nat)).map (·.1)).Nodup; rw [if_pos rfl]; exact pput_nd l2)
      ⟨p4, rfl, P4c⟩ (by
        funext y
        by_cases hy : y = p.th.bed
        · rw [if_pos hy, if_pos hy, hy]
          show _ = pput (if p.th.bed = p.th.bed then _ else _) _ _
          rw [if_pos rfl]
          rfl
        · rw [if_neg hy, if_neg hy]
          show _ = if y = p.th.bed then _ else _
          rw [if_neg hy])
    have hq4 := e4 _ _ (e3 _ _ hq2)
    refine ⟨_, rfl, _, rfl, q, _, dq, _, _, rfl, hq4, T.cl_Promise, T.na_Promise_buyer, rfl, c (.sh p.th.bed), H5, rfl, p5, ?_⟩
    have C05 := ((C02.trans (Chg.of e3)).trans (Chg.of e4)).trans C5
    -- good.append
    obtain ⟨vs3, hg3, _⟩ := R5.good_at
    refine ⟨_, rfl, c .root, _, dx, _, _, rfl, R5.std_root, T.cl_Standing, T.na_Standing_good, rfl, .inl ⟨rfl, vs3, SqL.of hg3⟩, _, rfl, _, rfl, (by show 2 ≤ sizeLine; decide), fun t1 ht1 => ⟨(by show 1 ≤ sizeLine; decide), fun kl hkl => ⟨(by show 2 ≤ sizeLine; decide), fun t2 ht2 => ?_⟩⟩⟩
    have s1 := same_upd (o := .tup [V.str "share", .str p.th.bed]) (Same.refl H5) ht1
    have gk1 : GKAt (cut (upd H5 t1 (.tup [V.str "share", .str p.th.bed])) (foot c (Bsh bs))) (.ref t1) (.sh p.th.bed) := ⟨t1, rfl, cut_of (R5.fresh ht1) upd_same⟩
    have Rs1 := R5.same s1
    generalize upd H5 t1 (.tup [V.str "share", .str p.th.bed]) = H6 at s1 gk1 Rs1 hkl ht2
    have s2 := same_upd (o := .lst [.ref t1]) (Same.refl H6) hkl
    have gk2 : KeysAt (cut (upd H6 kl (.lst [.ref t1])) (foot c (Bsh bs))) kl [.sh p.th.bed] := ⟨_, cut_of (Rs1.fresh hkl) upd_same, .cons (mo_gk _ _ _ _ (Chg.of (C := foot c (Bsh bs)) s2).cut gk1) .nil⟩
    have Rs2 := Rs1.same s2
    generalize upd H6 kl (.lst [.ref t1]) = H7 at s2 gk2 Rs2 ht2
    have s3' := same_upd (o := .tup [.ref q, .ref kl]) (Same.refl H7) ht2
    have Rs3 := Rs2.same s3'
    have C07 := ((C05.trans (Chg.of s1)).trans (Chg.of s2)).trans (Chg.of s3')
    obtain ⟨vs, h1, h2, h3, h4⟩ := Rs3.good_app (x := ⟨p.num, p.seller, st.keys p, p.th.bed⟩) (v := .ref t2) hgl ⟨t2, q, kl, p, rfl, cut_of (Rs2.fresh ht2) upd_same, HP.same C07.cut, by rw [keys_sh hk]; exact gk2.same mo_gk (Chg.of s3').cut, rfl, rfl, rfl⟩
    refine ⟨c .gd, vs, _, rfl, rfl, h1, h2, ?_⟩
    refine k _ (C07.trans h4) ?_
    have hfin : st.go p = { st with parts := fun x => if x = p.th.bed then shift (st.parts x) p.seller p.buyer p.th.k else st.parts x, good := st.app p } := by
      unfold PS.go
      rw [if_pos hk]
    rw [hfin]
    exact h3.le (by omega)
  · rw [decide_eq_false hk]
    have hex : p.th.kd = .root → ∃ x, st.held (.it false p.th.bed p.th.k) = some x := fun _ => by
      obtain ⟨x, _, hx⟩ := held_ex S PI.th hk false
      exact ⟨x, hx⟩
    refine ⟨_, rfl, c .root, dx, _, rfl, R.std_root, rfl, _, rfl, rfl, c, f, dx, Bsh bs, ww, st, q, p, rfl, R, HP, hk, hex, fun kl H2 e2 K2 => ?_⟩
    have R2 := R.same e2
    have C2 : Chg (foot c (Bsh bs)) (foot c (Bsh bs)) H H2 := Chg.of e2
    have hq2c := C2.cut _ _ hqc
    obtain ⟨vsk, hkl, fk⟩ := id K2
    refine ⟨_, rfl, kl, rfl, ⟨vsk, SqL.of (cut_le _ _ hkl)⟩, ?_⟩
    have hk3 : (st.keys p).length ≤ 2 := keys_len st p
    refine for_list (K := K) (xs := vsk) (fun i σ H' => (∃ u, σ = [some (.ref (c .root)), some (.ref q), some (.str p.th.kd.s), some (.str p.th.bed), some v, none, some (.ref kl), u]) ∧ Rep (knStd K f dx) (Bsh bs) (ww + i) H' c { st with held := heldK st ((st.keys p).take i) p.buyer } ∧ Chg (foot c (Bsh bs)) (foot c (Bsh bs)) H2 H')
      ⟨⟨_, rfl⟩, R2.weak (fun g y z => by simpa [heldK] using z), Chg.of (Same.refl _)⟩ (fun i σ H' _ ⟨_, _, C'⟩ => SqL.of (cut_le _ _ (C'.cut _ _ hkl))) ?_ ?_
    · rintro i y σ H' hy ⟨⟨u, rfl⟩, R', C'⟩
      obtain ⟨g, hg, tg, rfl, htg⟩ := fk.get2 hy
      have hi : i < (st.keys p).length := (List.getElem?_eq_some_iff.mp hg).1
      obtain ⟨H3, p3, R3, C3⟩ := R'.held_put (Nat.lt_of_lt_of_le (show ww + i < 200000 by omega) (by decide)) (g := g) (x := p.buyer) (held := heldK st ((st.keys p).take (i + 1)) p.buyer) (cut_le _ _ (C'.cut _ _ htg)) fun g' y z => by
        unfold heldK at z ⊢
        rw [take_snoc hg] at z
        by_cases e : g' = g
        · rw [if_pos (by rw [e]; exact List.mem_append.mpr (.inr List.mem_cons_self))] at z
          exact .inl ⟨e, (Option.some.inj z).symm⟩
        · refine .inr ⟨e, ?_⟩
          show (if g' ∈ (st.keys p).take i then some p.buyer else st.held g') = some y
          by_cases q : g' ∈ (st.keys p).take i
          · rw [if_pos q]
            rw [if_pos (List.mem_append.mpr (.inl q))] at z
            exact z
          · rw [if_neg q]
            rw [if_neg (fun m => (List.mem_append.mp m).elim q fun m => e (List.mem_singleton.mp m))] at z
            exact z
      have hq' := cut_le _ _ (C'.cut _ _ hq2c)
      exact ⟨_, rfl, q, _, dq, _, _, rfl, hq', T.cl_Promise, T.na_Promise_buyer, rfl, _, rfl, c .root, _, dx, _, _, rfl, R'.std_root, T.cl_Standing, T.na_Standing_held, rfl, _, rfl, c .h, H3, rfl, p3, ⟨_, rfl⟩, R3, C'.trans C3⟩
    · rintro σ H4 ⟨⟨u, rfl⟩, R4, C24⟩
      rw [fk.1, List.take_length] at R4
      obtain ⟨vs3, hg3, _⟩ := R4.good_at
      refine ⟨_, rfl, c .root, _, dx, _, _, rfl, R4.std_root, T.cl_Standing, T.na_Standing_good, rfl, .inl ⟨rfl, vs3, SqL.of hg3⟩, _, rfl, _, rfl, (by show 2 ≤ sizeLine; decide), fun t2 ht2 => ?_⟩
      have e5 := same_upd (o := .tup [V.ref q, .ref kl]) (Same.refl H4) ht2
      have R5 := R4.same e5
      have C05 := (C2.trans C24).trans (Chg.of e5)
      obtain ⟨vs, h1, h2, h3, h4⟩ := R5.good_app (x := ⟨p.num, p.seller, st.keys p, p.th.bed⟩) (v := .ref t2) hgl ⟨t2, q, kl, p, rfl, cut_of (R4.fresh ht2) upd_same, HP.same C05.cut, K2.same mo_gk (C24.trans (Chg.of e5)).cut, rfl, rfl, rfl⟩
      refine ⟨c .gd, vs, _, rfl, rfl, h1, h2, ?_⟩
      refine k _ (C05.trans h4) ?_
      have hfin : st.go p = { st with held := heldK st (st.keys p) p.buyer, good := st.app p } := by
        unfold PS.go
        rw [if_neg hk]
        rfl
      rw [hfin]
      exact h3.le (by omega)
end
end RP
set_option Elab.async false
set_option linter.all false
set_option maxRecDepth 100000
set_option maxHeartbeats 400000
/-! rootpledge k80: the program's Standing, 3: void, spoil, take, the beginning -/
namespace RP
open PySem PySem.Spec PyProof.Rows L2
section
variable {P : Program} {w : World} {K : PySem.W.Frag} {mg : Str → Option Value} {base : Heap}
theorem ok_Standing_void (T : Txt K mg) : Mx P w K mg base (He.ga K "Standing") "void" 1 (sp_Standing_void K) := by
  obtain ⟨fd, F⟩ := T.d_Standing_void
  refine ⟨T.cl_Standing, _, fd, _, T.me_Standing_void, fn_body F sc_Standing_void rfl (fun cdv A outer s H vs Q E hr h => ?_), F.bindsN (fun _ _ _ _ _ _ us hl => match us, hl with | [_, _], _ => rfl)⟩
  have nd := sc_Standing_void.nd
  have hu := hu_of hr
  obtain ⟨c, f, dx, bs, Nm, n, ww, st, q, p, rfl, R, HP, BO, S, PI, hn, k⟩ := h
  obtain ⟨⟨dq, hqc⟩, hthc⟩ := id HP
  refine ⟨_, (pss_cons (ps_asg (pe_fld (pv 1) rfl) (pg_tup rfl (pgs_cons (pg_name (i := 2) nd rfl (.inl rfl)) (pgs_cons (pg_name (i := 3) nd rfl (.inl rfl)) (pgs_cons (pg_name (i := 4) nd rfl (.inl rfl)) pgs_nil)))))
      (pss_cons (ps_if (pt_cmp (pc_din hu (pv 3) (pe_fld (pv 0) rfl))) (pss_cons (ps_expr (pe_bm PySem.F.plainAttrs_list PySem.F.slot_list_append PySem.F.type_list_append mt_append (pe_fld (pv 0) rfl) (pa_cons (pe_tup (pa_cons (pe_fld (pv 1) rfl) (pa_cons pe_str (pa_cons (pe_dget hu (pe_fld (pv 0) rfl) (pv 3) (fun _ _ => rfl)) pa_nil)))) pa_nil)))
      (pss_one ps_retN)) pss_nil)
      (pss_cons (ps_set (i := 5) nd rfl (Or.inl rfl) (pe_fld (pv 1) rfl))
      (pss_cons (ps_if (pt_cmpR op_eq (pv 2) pe_str (nomark _)) (pss_one (ps_set (i := 5) nd rfl (Or.inl rfl) (pe_tup (pa_cons pe_str (pa_cons (pv 3) pa_nil))))) pss_nil)
      (pss_cons (ps_set (i := 6) nd rfl (Or.inl rfl) (pe_tup (pa_cons (pe_fld (pv 1) rfl) (pa_cons pe_str (pa_cons pe_non pa_nil)))))
      (pss_cons (ps_for PassesOwn.never rfl (pi_list (pe_fld (pv 0) rfl)) (pg_tup rfl (pgs_cons (pg_name (i := 7) nd rfl (.inl rfl)) (pgs_cons (pg_name (i := 8) nd rfl (.inl rfl)) pgs_nil)))
      (pss_one (ps_if (PW.pt (pw_and (pt_cmpR op_eq (pe_fld (pv 7) rfl) (pe_fld (pv 1) rfl) (nomark _)) (pw_and1 (pt_cmpR (op_inD (hr65 hr)) (pv 5) (pv 8) rfl)))) (pss_one (ps_set (i := 6) nd rfl (Or.inl rfl) (pe_tup (pa_cons (pe_fld (pv 1) rfl) (pa_cons pe_str (pa_cons (pe_fld (pv 7) rfl) pa_nil)))))) pss_nil)))
      (pss_one (ps_expr (pe_bm PySem.F.plainAttrs_list PySem.F.slot_list_append PySem.F.type_list_append mt_append (pe_fld (pv 0) rfl) (pa_cons (pv 6) pa_nil)))))))))), ?_⟩
  have hq := cut_le _ _ hqc
  have hth := hthc.same cut_le
  have hvl : st.voids.length ≤ 100000 := Nat.le_trans S.vl (Nat.le_trans hn (by decide))
  obtain ⟨v, ha, hv⟩ := id hth
  refine ⟨_, rfl, q, _, dq, _, _, rfl, hq, T.cl_Promise, T.na_Promise_thing, rfl, p.ta, _, rfl, SqT.of ha, rfl, _, _, rfl, _, _, rfl, _, _, rfl, rfl, ?_⟩
  refine ⟨_, rfl, _, rfl, c .root, _, dx, _, _, rfl, R.std_root, T.cl_Standing, T.na_Standing_spoilt, rfl, c .sp, _, rfl, R.spoilt_get p.th.bed, _, rfl, ?_⟩
  cases hsp : sget st.spoilt p.th.bed with
  | some m =>
    have hsg := R.spoilt_get p.th.bed
    rw [hsp] at hsg
    obtain ⟨vs0, hvs0, _⟩ := R.voids_at
    refine ⟨_, rfl, c .root, _, dx, _, _, rfl, R.std_root, T.cl_Standing, T.na_Standing_void_rows, rfl, .inl ⟨rfl, vs0, SqL.of hvs0⟩, ?_⟩
    refine ⟨_, rfl, q, _, dq, _, _, rfl, hq, T.cl_Promise, T.na_Promise_number, rfl, _, rfl, c .root, _, dx, _, _, rfl, R.std_root, T.cl_Standing, T.na_Standing_spoilt, rfl, _, rfl, c .sp, _, rfl, hsg, (by show 3 ≤ sizeLine; decide), fun t2 ht2 => ?_⟩
    obtain ⟨vs, h1, h2, h3, h4⟩ := R.void_app (x := (p.num, .spoiled m)) hvl ht2
    refine ⟨c .vd, vs, _, rfl, rfl, h1, h2, ?_⟩
    refine k _ h4 ?_
    unfold PS.void
    rw [hsp]
    exact h3
  | none =>
    refine ⟨_, rfl, q, _, dq, _, _, rfl, hq, T.cl_Promise, T.na_Promise_thing, rfl, ?_⟩
    refine ⟨_, rfl, rfl, _, rfl, ?_⟩
    rw [kd_share]
    by_cases hk : p.th.kd = .share
    · rw [decide_eq_true hk]
      refine ⟨_, rfl, (by show 2 ≤ sizeLine; decide), fun t5 ht5 => ?_⟩
      have e3 := same_upd (o := .tup [V.str "share", .str p.th.bed]) (Same.refl H) ht5
      have hgk5 : GKAt (upd H t5 (.tup [V.str "share", .str p.th.bed])) (.ref t5) p.th.gk := by
        rw [gk_sh hk]
        exact ⟨t5, rfl, upd_same⟩
      generalize upd H t5 (.tup [V.str "share", .str p.th.bed]) = H3 at e3 hgk5
      have hq3 := e3 _ _ hq
      obtain ⟨v5, hv5⟩ : ∃ x, x = V.ref t5 := ⟨_, rfl⟩
      rw [← hv5] at hgk5 ⊢
      show tSeq _ _ _ [some (.ref (c .root)), some (.ref q), some (.str p.th.kd.s), some (.str p.th.bed), some v, some v5, none, none, none] H3
      -- row = (number, 'never', None)
      refine ⟨_, rfl, q, _, dq, _, _, rfl, hq3, T.cl_Promise, T.na_Promise_number, rfl, (by show 3 ≤ sizeLine; decide), fun t0 ht0 => ?_⟩
      have s0 := same_upd (o := .tup [V.int p.num, .str "never", .non]) (Same.refl H3) ht0
      have g0 : upd H3 t0 (.tup [V.int p.num, .str "never", .non]) t0 = some (.tup [V.int p.num, .str "never", .non]) := upd_same
      generalize upd H3 t0 (.tup [V.int p.num, .str "never", .non]) = H4 at s0 g0
      have e4 := e3.trans s0
      have R4 := R.same e4
      obtain ⟨vs1, hg1, fg1⟩ := R4.good_at
      have t0f : ¬ foot c (Bsh bs) t0 := R.fresh (e3.free ht0)
      refine ⟨_, rfl, c .root, _, dx, _, _, rfl, R4.std_root, T.cl_Standing, T.na_Standing_good, rfl, c .gd, rfl, ⟨vs1, SqL.of hg1⟩, ?_⟩
      refine for_list (K := K) (xs := vs1) (fun i σ H' => (∃ tr u1 u2, σ = [some (.ref (c .root)), some (.ref q), some (.str p.th.kd.s), some (.str p.th.bed), some v, some v5, some (.ref tr), u1, u2] ∧ cut H' (foot c (Bsh bs)) tr = some (.tup [.int p.num, .str (vdS (vdI st p i)), vdV (vdI st p i)])) ∧ Same H4 H') ⟨⟨t0, _, _, rfl, cut_of t0f g0⟩, Same.refl _⟩ (fun i σ H' _ ⟨_, e⟩ => SqL.of (e _ _ hg1)) ?_ ?_
      · rintro i y σ H' hy ⟨⟨tr, u1, u2, rfl, htr⟩, e⟩
        obtain ⟨x, hx, te, qo, kle, po, rfl, hte, hpo, hke, hn1, hn2, hn3⟩ := fg1.get2 hy
        have hte' := e _ _ (cut_le _ _ hte)
        obtain ⟨⟨dqo, hqo⟩, _⟩ := (hpo.same cut_le).same e
        have hke' : KeysAt H' kle x.keys := (hke.same mo_gk cut_le).same mo_gk e
        have hko := S.ko x (List.mem_of_getElem? hx)
        have hq' := e _ _ (s0 _ _ hq3)
        refine ⟨te, _, rfl, SqT.of hte', rfl, _, _, rfl, _, _, rfl, rfl, ?_⟩
        refine ⟨_, rfl, qo, _, dqo, _, _, rfl, hqo, T.cl_Promise, T.na_Promise_seller, rfl, _, rfl, q, _, dq, _, _, rfl, hq', T.cl_Promise, T.na_Promise_seller, rfl, rfl, _, rfl, ?_⟩
        rw [← hn2]
        by_cases hs : x.seller = p.seller
        · rw [decide_eq_true (show V.str x.seller = V.str p.seller by rw [hs])]
          refine ⟨_, rfl, _, rfl, _, _, gk_dp (mo_gk _ _ _ _ e (mo_gk _ _ _ _ s0 hgk5)), keys_dp hke', gk_shaped (gk_ok PI.ok.th), keys_shaped hko, _, rfl, ?_⟩
          rw [any_gk]
          by_cases hm : p.th.gk ∈ x.keys
          · rw [decide_eq_true hm]
            refine ⟨_, rfl, q, _, dq, _, _, rfl, hq', T.cl_Promise, T.na_Promise_number, rfl, _, rfl, qo, _, dqo, _, _, rfl, hqo, T.cl_Promise, T.na_Promise_number, rfl, (by show 3 ≤ sizeLine; decide), fun t6 ht6 => ?_⟩
            refine ⟨⟨t6, _, _, rfl, ?_⟩, e.trans (same_upd (Same.refl _) ht6)⟩
            rw [vdI_hit hx hs hm, cut_of ((R4.same e).fresh ht6) upd_same]
            show some (HO.tup [V.int p.num, .str "clash", .int po.num]) = some (.tup [V.int p.num, .str "clash", .int x.num])
            rw [hn1]
          · rw [decide_eq_false hm]
            exact ⟨⟨tr, _, _, rfl, by rw [vdI_miss hx fun z => hm z.2]; exact htr⟩, e⟩
        · rw [decide_eq_false (show ¬ V.str x.seller = V.str p.seller from fun z => hs (by injection z))]
          exact ⟨⟨tr, _, _, rfl, by rw [vdI_miss hx fun z => hs z.1]; exact htr⟩, e⟩
      · rintro σ H' ⟨⟨tr, u1, u2, rfl, htr⟩, e⟩
        rw [fg1.1, vdI_end] at htr
        have R5 := R4.same e
        obtain ⟨vs0, hvs0, fv⟩ := R5.voids_at
        refine ⟨_, rfl, c .root, _, dx, _, _, rfl, R5.std_root, T.cl_Standing, T.na_Standing_void_rows, rfl, .inl ⟨rfl, vs0, SqL.of hvs0⟩, _, rfl, c .vd, vs0, _, rfl, rfl, hvs0, by rw [fv.1]; exact Nat.lt_of_le_of_lt hvl (by decide), ?_⟩
        refine k _ ((Chg.of (e4.trans e)).trans (Chg.write (foot_of (l := .vd) trivial))) ?_
        have hfin : st.void p = { st with voids := st.voids ++ [(p.num, vdOf st p)] } := by
          unfold PS.void
          rw [hsp]
        rw [hfin]
        exact R5.put_voids (fv.snoc ⟨tr, rfl, htr⟩)
    · rw [decide_eq_false hk]
      refine iteF ?_
      obtain ⟨H3, rfl⟩ : ∃ x, x = H := ⟨H, rfl⟩
      have e3 := Same.refl H3
      have hq3 := hq
      have hgk5 : GKAt H3 (.ref p.ta) p.th.gk := ⟨_, rfl, th_gk hth hk⟩
      obtain ⟨v5, hv5⟩ : ∃ x, x = V.ref p.ta := ⟨_, rfl⟩
      rw [← hv5] at hgk5
      show tSeq _ _ _ [some (.ref (c .root)), some (.ref q), some (.str p.th.kd.s), some (.str p.th.bed), some v, some (.ref p.ta), none, none, none] H3
      rw [← hv5]
      -- row = (number, 'never', None)
      refine ⟨_, rfl, q, _, dq, _, _, rfl, hq3, T.cl_Promise, T.na_Promise_number, rfl, (by show 3 ≤ sizeLine; decide), fun t0 ht0 => ?_⟩
      have s0 := same_upd (o := .tup [V.int p.num, .str "never", .non]) (Same.refl H3) ht0
      have g0 : upd H3 t0 (.tup [V.int p.num, .str "never", .non]) t0 = some (.tup [V.int p.num, .str "never", .non]) := upd_same
      generalize upd H3 t0 (.tup [V.int p.num, .str "never", .non]) = H4 at s0 g0
      have e4 := e3.trans s0
      have R4 := R.same e4
      obtain ⟨vs1, hg1, fg1⟩ := R4.good_at
      have t0f : ¬ foot c (Bsh bs) t0 := R.fresh (e3.free ht0)
      refine ⟨_, rfl, c .root, _, dx, _, _, rfl, R4.std_root, T.cl_Standing, T.na_Standing_good, rfl, c .gd, rfl, ⟨vs1, SqL.of hg1⟩, ?_⟩
      refine for_list (K := K) (xs := vs1) (fun i σ H' => (∃ tr u1 u2, σ = [some (.ref (c .root)), some (.ref q), some (.str p.th.kd.s), some (.str p.th.bed), some v, some v5, some (.ref tr), u1, u2] ∧ cut H' (foot c (Bsh bs)) tr = some (.tup [.int p.num, .str (vdS (vdI st p i)), vdV (vdI st p i)])) ∧ Same H4 H') ⟨⟨t0, _, _, rfl, cut_of t0f g0⟩, Same.refl _⟩ (fun i σ H' _ ⟨_, e⟩ => SqL.of (e _ _ hg1)) ?_ ?_
      · rintro i y σ H' hy ⟨⟨tr, u1, u2, rfl, htr⟩, e⟩
        obtain ⟨x, hx, te, qo, kle, po, rfl, hte, hpo, hke, hn1, hn2, hn3⟩ := fg1.get2 hy
        have hte' := e _ _ (cut_le _ _ hte)
        obtain ⟨⟨dqo, hqo⟩, _⟩ := (hpo.same cut_le).same e
        have hke' : KeysAt H' kle x.keys := (hke.same mo_gk cut_le).same mo_gk e
        have hko := S.ko x (List.mem_of_getElem? hx)
        have hq' := e _ _ (s0 _ _ hq3)
        refine ⟨te, _, rfl, SqT.of hte', rfl, _, _, rfl, _, _, rfl, rfl, ?_⟩
        refine ⟨_, rfl, qo, _, dqo, _, _, rfl, hqo, T.cl_Promise, T.na_Promise_seller, rfl, _, rfl, q, _, dq, _, _, rfl, hq', T.cl_Promise, T.na_Promise_seller, rfl, rfl, _, rfl, ?_⟩
        rw [← hn2]
        by_cases hs : x.seller = p.seller
        · rw [decide_eq_true (show V.str x.seller = V.str p.seller by rw [hs])]
          refine ⟨_, rfl, _, rfl, _, _, gk_dp (mo_gk _ _ _ _ e (mo_gk _ _ _ _ s0 hgk5)), keys_dp hke', gk_shaped (gk_ok PI.ok.th), keys_shaped hko, _, rfl, ?_⟩
          rw [any_gk]
          by_cases hm : p.th.gk ∈ x.keys
          · rw [decide_eq_true hm]
            refine ⟨_, rfl, q, _, dq, _, _, rfl, hq', T.cl_Promise, T.na_Promise_number, rfl, _, rfl, qo, _, dqo, _, _, rfl, hqo, T.cl_Promise, T.na_Promise_number, rfl, (by show 3 ≤ sizeLine; decide), fun t6 ht6 => ?_⟩
            refine ⟨⟨t6, _, _, rfl, ?_⟩, e.trans (same_upd (Same.refl _) ht6)⟩
            rw [vdI_hit hx hs hm, cut_of ((R4.same e).fresh ht6) upd_same]
            show some (HO.tup [V.int p.num, .str "clash", .int po.num]) = some (.tup [V.int p.num, .str "clash", .int x.num])
            rw [hn1]
          · rw [decide_eq_false hm]
            exact ⟨⟨tr, _, _, rfl, by rw [vdI_miss hx fun z => hm z.2]; exact htr⟩, e⟩
        · rw [decide_eq_false (show ¬ V.str x.seller = V.str p.seller from fun z => hs (by injection z))]
          exact ⟨⟨tr, _, _, rfl, by rw [vdI_miss hx fun z => hs z.1]; exact htr⟩, e⟩
      · rintro σ H' ⟨⟨tr, u1, u2, rfl, htr⟩, e⟩
        rw [fg1.1, vdI_end] at htr
        have R5 := R4.same e
        obtain ⟨vs0, hvs0, fv⟩ := R5.voids_at
        refine ⟨_, rfl, c .root, _, dx, _, _, rfl, R5.std_root, T.cl_Standing, T.na_Standing_void_rows, rfl, .inl ⟨rfl, vs0, SqL.of hvs0⟩, _, rfl, c .vd, vs0, _, rfl, rfl, hvs0, by rw [fv.1]; exact Nat.lt_of_le_of_lt hvl (by decide), ?_⟩
        refine k _ ((Chg.of (e4.trans e)).trans (Chg.write (foot_of (l := .vd) trivial))) ?_
        have hfin : st.void p = { st with voids := st.voids ++ [(p.num, vdOf st p)] } := by
          unfold PS.void
          rw [hsp]
        rw [hfin]
        exact R5.put_voids (fv.snoc ⟨tr, rfl, htr⟩)
end
end RP
set_option Elab.async false
set_option linter.all false
set_option maxRecDepth 100000
set_option maxHeartbeats 400000
/-! rootpledge k80: the program's Standing, 4: spoil, take, the beginning -/
namespace RP
open PySem PySem.Spec PyProof.Rows L2
theorem bkB_in {bs : List BedR} {b : BedR} (hb : b ∈ bs) : bkB (Bsh bs) b = Bsh bs := by
  unfold bkB
  by_cases h : b.shares = true
  · rw [if_pos h]
    exact addB_eq ⟨b, hb, rfl, h⟩
  · rw [if_neg h]
theorem Bsh_not {bs : List BedR} (B : BedsOk bs) {b : BedR} (hb : b ∈ bs) (h : b.shares = false) : ¬ Bsh bs b.name := by
  rintro ⟨c, hc, e, h2⟩
  rw [bed_same B hc hb e, h] at h2
  cases h2
theorem Bsh_snoc (l : List BedR) (b : BedR) : Bsh (l ++ [b]) = bkB (Bsh l) b := by
  funext x
  unfold bkB
  refine propext ⟨?_, ?_⟩
  · rintro ⟨c, hc, e, h⟩
    rcases List.mem_append.mp hc with hc | hc
    · split
      · exact .inr ⟨c, hc, e, h⟩
      · exact ⟨c, hc, e, h⟩
    · rw [List.mem_singleton.mp hc] at e h
      rw [if_pos h]
      exact .inl e.symm
  · intro q
    by_cases h : b.shares = true
    · rw [if_pos h] at q
      rcases q with q | ⟨c, hc, e, h2⟩
      · exact ⟨b, List.mem_append.mpr (.inr List.mem_cons_self), q.symm, h⟩
      · exact ⟨c, List.mem_append.mpr (.inl hc), e, h2⟩
    · rw [if_neg h] at q
      obtain ⟨c, hc, e, h2⟩ := q
      exact ⟨c, List.mem_append.mpr (.inl hc), e, h2⟩
/-- an entry told of anew, the rest by a heap that stands -/
def NewE (K : PySem.W.Frag) (F : Addr → Prop) (G : Hp) : Hp → V → Ent → Prop := fun H v e => ∃ t q kl p, v = .ref t ∧ H t = some (.tup [.ref q, .ref kl]) ∧ ¬ F t ∧ PromAt K G q p ∧ KeysAt G kl e.keys ∧ e.num = p.num ∧ e.seller = p.seller ∧ e.bed = p.th.bed
theorem mo_newE {K : PySem.W.Frag} {F : Addr → Prop} {G : Hp} : Mo (NewE K F G) := fun H H' v e z h => by
  obtain ⟨t, q, kl, p, rfl, h1, h2⟩ := h
  exact ⟨t, q, kl, p, rfl, z _ _ h1, h2⟩
def sp_Standing_spoil (K : PySem.W.Frag) : Sp := spA 2 fun vs H Q => ∃ c f dx bs Nm n w st q b m t', vs = [.ref (c .root), .ref q] ∧ Rep (knStd K f dx) (Bsh bs) w H c st ∧ SpoilAt K (cut H (foot c (Bsh bs))) q m t' b.name ∧ FieldAt K (cut H (foot c (Bsh bs))) f bs ∧ b ∈ bs ∧ PSok bs Nm n st ∧ n ≤ 1000 ∧ w ≤ 100000 ∧
  ∀ c' H', Chg (foot c (Bsh bs)) (foot c' (Bsh bs)) H H' → c' .root = c .root → Rep (knStd K f dx) (Bsh bs) (w + 30) H' c' (st.spoil m b) → Q .non H'
def sp_Standing_take (K : PySem.W.Frag) : Sp := spA 2 fun vs H Q => ∃ c f dx bs Nm n w st v l, vs = [.ref (c .root), v] ∧ Rep (knStd K f dx) (Bsh bs) w H c st ∧ LnAt K (cut H (foot c (Bsh bs))) v l ∧ FieldAt K (cut H (foot c (Bsh bs))) f bs ∧ LnOk bs Nm l ∧ PSok bs Nm n st ∧ n ≤ 1000 ∧ w ≤ 100000 ∧
  ∀ c' H', Chg (foot c (Bsh bs)) (foot c' (Bsh bs)) H H' → c' .root = c .root → Rep (knStd K f dx) (Bsh bs) (w + 30) H' c' (st.step bs l) → Q .non H'
section
variable {P : Program} {w : World} {K : PySem.W.Frag} {mg : Str → Option Value} {base : Heap}
theorem ok_Standing_spoil (T : Txt K mg) : Mx P w K mg base (He.ga K "Standing") "spoil" 5 (sp_Standing_spoil K) := by
  obtain ⟨fd, F⟩ := T.d_Standing_spoil
  refine ⟨T.cl_Standing, _, fd, _, T.me_Standing_spoil, fn_body F sc_Standing_spoil rfl (fun cdv A outer s H vs Q E hr h => ?_), F.bindsN (fun _ _ _ _ _ _ us hl => match us, hl with | [_, _], _ => rfl)⟩
  have nd := sc_Standing_spoil.nd
  have hu := hu_of hr
  obtain ⟨c, f, dx, bs, Nm, n, ww, st, q, b, m, t', rfl, R, ⟨dq, hqc⟩, FF, hb, S, hn, hw, k⟩ := h
  refine ⟨_, (pss_cons (ps_set (i := 2) nd rfl (Or.inr rfl) (pe_fld (pv 1) rfl))
      (pss_cons (ps_if (pt_cmp (pc_din hu (pv 2) (pe_fld (pv 0) rfl))) (pss_one ps_retN) pss_nil)
      (pss_cons (ps_dput hu (pe_fld (pv 0) rfl) (pv 2) (pe_fld (pv 1) rfl) rfl)
      (pss_cons (ps_setLc (own := [("promise", 4), ("things", 5)]) (i := 3) rfl nd rfl rfl (sw_true rfl rfl rfl (by decide +kernel)) (pi_list (pe_fld (pv 0) rfl)) (blkOk_by (own := [("promise", 4), ("things", 5)]) (N := ["self", "spoiling", "bed", "undone", "promise", "things"]) (sc := defScope s_Standing_spoil) (by decide +kernel)) (fun _ _ _ _ _ => (pg_tupK (K := K) 2 rfl rfl (pgs_cons (pg_name (i := 4) nd rfl (.inl rfl)) (pgs_cons (pg_name (i := 5) nd rfl (.inl rfl)) pgs_nil)))) (fun _ _ _ _ _ => (pts_one (pt_cmpR op_eq (pe_ix (ix_tupK (K := K) rfl) (pe_fldK (K := K) rfl (pv 4) rfl) pe_int (fun _ _ => rfl)) (pv 2) (nomark _)))) (fun _ _ _ _ _ => (pe_fldK (K := K) rfl (pv 4) rfl)))
      (pss_cons (ps_expr (pe_bm PySem.F.plainAttrs_list PySem.F.slot_list_extend PySem.F.type_list_extend mt_extend (pe_fld (pv 0) rfl) (pa_cons (pe_rev (pv 3)) pa_nil)))
      (pss_cons (ps_fld (pv 0) (pe_lc (own := [("promise", 4), ("things", 5)])  rfl nd (pi_list (pe_fld (pv 0) rfl)) (blkOk_by (own := [("promise", 4), ("things", 5)]) (N := ["self", "spoiling", "bed", "undone", "promise", "things"]) (sc := defScope s_Standing_spoil) (by decide +kernel)) (fun _ _ _ _ _ => (pg_tupK (K := K) 2 rfl rfl (pgs_cons (pg_name (i := 4) nd rfl (.inl rfl)) (pgs_cons (pg_name (i := 5) nd rfl (.inl rfl)) pgs_nil)))) (fun _ _ _ _ _ => (pts_one (pt_cmpR op_ne (pe_ix (ix_tupK (K := K) rfl) (pe_fldK (K := K) rfl (pv 4) rfl) pe_int (fun _ _ => rfl)) (pv 2) (nomark _)))) (fun _ _ _ _ _ => (pe_tup (pa_cons (pv 4) (pa_cons (pv 5) pa_nil))))) rfl)
      (pss_one (ps_expr (pe_m (ok_Standing_back T) (hr.mono (by decide)) (pv 0) (pa_cons (pe_m (ok_Field_bed_of T) (hr.mono (by decide)) (pe_fld (pv 0) rfl) (pa_cons (pv 2) pa_nil)) pa_nil)))))))))), ?_⟩
  have BO := FF.ok
  have hq := cut_le _ _ hqc
  have hgl : st.good.length + st.gone.length ≤ 100000 := Nat.le_trans S.gl (Nat.le_trans hn (by decide))
  refine ⟨_, rfl, q, _, dq, _, _, rfl, hq, T.cl_Spoiling, T.na_Spoiling_bed, rfl, ?_⟩
  refine ⟨_, rfl, _, rfl, c .root, _, dx, _, _, rfl, R.std_root, T.cl_Standing, T.na_Standing_spoilt, rfl, c .sp, _, rfl, R.spoilt_get b.name, _, rfl, ?_⟩
  cases hsp : sget st.spoilt b.name with
  | some x =>
    refine k c H (Chg.of (Same.refl _)) rfl ?_
    unfold PS.spoil
    rw [hsp, if_neg (by intro z; cases z)]
    exact R.le (by omega)
  | none =>
    obtain ⟨us, hus, fus⟩ := R.spoilt_at
    have sl := S.sl
    have R1 := R.put_spoilt (us := putK us (Sum.inr b.name) (.int (m : Nat))) (l1 := pput st.spoilt b.name m) (fus.put S.snd rfl)
    have C1 : Chg (foot c (Bsh bs)) (foot c (Bsh bs)) H (upd H (c .sp) (.dK (putK us (Sum.inr b.name) (.int (m : Nat))))) := Chg.write (foot_of (l := .sp) trivial)
    rw [pput_new hsp] at R1
    refine ⟨_, rfl, q, _, dq, _, _, rfl, hq, T.cl_Spoiling, T.na_Spoiling_number, rfl, _, rfl, c .root, _, dx, _, _, rfl, R.std_root, T.cl_Standing, T.na_Standing_spoilt, rfl, _, rfl, c .sp, _, rfl, DPut.k (k := Sum.inr b.name) hus (by rw [fus.len]; exact Nat.lt_of_le_of_lt (show st.spoilt.length ≤ 1000 by omega) (by decide)), ?_⟩
    generalize upd H (c .sp) (.dK (putK us (Sum.inr b.name) (.int (m : Nat)))) = H1 at R1 C1
    show tSeq _ _ _ [some (.ref (c .root)), some (.ref q), some (.str b.name), none, none, none] H1
    -- undone
    have hgn := R1.gone_at
    obtain ⟨vs1, hg1, fg1⟩ := R1.good_at
    have hgl1 : vs1.length ≤ 100000 := by
      rw [fg1.1]
      show st.good.length ≤ _
      omega
    refine ⟨_, rfl, c .root, _, dx, _, _, rfl, R1.std_root, T.cl_Standing, T.na_Standing_good, rfl, c .gd, rfl, ⟨vs1, SqL.of hg1⟩, fun D hD => ?_⟩
    refine lc_pure (walk_list (xs := vs1)) hD (fun i acc => acc = ((st.good.take i).filter fun e => decide (e.bed = b.name)).map (fun e => V.int (e.num : Nat))) rfl hgl1 (fun H1 e => e.seq (SqL.of hg1)) ?_ ?_
    · rintro i x acc H3 H4 hi e3 rfl ⟨rfl, hvx⟩ Q1 Q0 q1 q0
      obtain ⟨x, hx, te, qo, kle, po, rfl, hte, hpo, hke, hn1, hn2, hn3⟩ := fg1.get2 hvx
      have hx : st.good[i]? = some x := hx
      have hte3 := e3 _ _ (cut_le _ _ hte)
      obtain ⟨⟨dqo, hqo⟩, vo, hta, _⟩ := (hpo.same cut_le).same e3
      refine ⟨te, _, rfl, SqT.of hte3, rfl, _, _, rfl, _, _, rfl, rfl, rfl, ?_⟩
      refine ⟨_, rfl, qo, _, dqo, _, _, rfl, hqo, T.cl_Promise, T.na_Promise_thing, rfl, po.ta, _, 1, _, rfl, rfl, SqT.of hta, rfl, _, rfl, rfl, _, rfl, ?_⟩
      rw [← hn3]
      by_cases hs : x.bed = b.name
      · rw [decide_eq_true (show V.str x.bed = V.str b.name by rw [hs])]
        refine ⟨_, rfl, qo, _, dqo, _, _, rfl, hqo, T.cl_Promise, T.na_Promise_number, rfl, q1 _ _ (Same.refl _) ?_⟩
        rw [filt_snoc _ _ hx, if_pos (decide_eq_true hs), hn1]
      · rw [decide_eq_false (show ¬ V.str x.bed = V.str b.name from fun z => hs (by injection z))]
        refine q0 _ (Same.refl _) ?_
        rw [filt_snoc _ _ hx, if_neg (by rw [decide_eq_false hs]; exact Bool.false_ne_true), List.append_nil]
    rintro acc H3 e3 hD3 _ rfl
    rw [fg1.1] at hD3
    have hD3 : H3 D = some (.lst (((st.good.filter fun e => decide (e.bed = b.name)).map (·.num)).map fun n => .int (n : Nat))) := by
      rw [hD3, show (st.good.take st.good.length) = st.good from List.take_length, List.map_map]
      rfl
    -- gone.extend(..)
    refine ⟨_, rfl, c .root, _, dx, _, _, rfl, (R1.same e3).std_root, T.cl_Standing, T.na_Standing_gone, rfl, .inl ⟨rfl, _, SqL.of (e3 _ _ hgn)⟩, ?_⟩
    refine ⟨_, rfl, D, _, rfl, SqL.of hD3, fun D2 hD2 => ?_⟩
    have s2 := same_upd (o := .lst (((st.good.filter fun e => decide (e.bed = b.name)).map (·.num)).map fun n => V.int (n : Nat)).reverse) (Same.refl H3) hD2
    have g2 : upd H3 D2 (.lst (((st.good.filter fun e => decide (e.bed = b.name)).map (·.num)).map fun n => V.int (n : Nat)).reverse) D2 = some (.lst (((st.good.filter fun e => decide (e.bed = b.name)).map (·.num)).map fun n => V.int (n : Nat)).reverse) := upd_same
    generalize upd H3 D2 (.lst (((st.good.filter fun e => decide (e.bed = b.name)).map (·.num)).map fun n => V.int (n : Nat)).reverse) = H4 at s2 g2
    have e4 := e3.trans s2
    have R4 := R1.same e4
    have R5 := R4.put_gone (ns := st.gone ++ ((st.good.filter fun e => decide (e.bed = b.name)).map (·.num)).reverse)
    have C5 := (Chg.of (C := foot c (Bsh bs)) e4).trans (Chg.write (o := .lst ((st.gone ++ ((st.good.filter fun e => decide (e.bed = b.name)).map (·.num)).reverse).map fun n => .int (n : Nat))) (foot_of (l := .gn) trivial))
    rw [List.map_append, List.map_reverse] at R5 C5
    refine ⟨c .gn, D2, _, _, rfl, rfl, e4 _ _ hgn, g2, ?_, ?_⟩
    · have := List.length_filter_le (fun e : Ent => decide (e.bed = b.name)) st.good
      rw [List.length_reverse, List.length_map, List.length_map, List.length_map]
      exact Nat.le_trans (show st.gone.length + _ ≤ 100000 by omega) (by decide)
    generalize upd H4 (c .gn) (.lst ((st.gone.map fun n => V.int (n : Nat)) ++ (((st.good.filter fun e => decide (e.bed = b.name)).map (·.num)).map fun n => V.int (n : Nat)).reverse)) = H6 at R5 C5
    have C16 := C1.trans C5
    show tSeq _ _ _ [some (.ref (c .root)), some (.ref q), some (.str b.name), some (.ref D), none, none] H6
    -- good = ..
    obtain ⟨vs2, hg2, fg2⟩ := R5.good_at
    have hgl2 : vs2.length ≤ 100000 := by
      rw [fg2.1]
      show st.good.length ≤ _
      omega
    refine ⟨_, rfl, c .root, _, dx, _, _, rfl, R5.std_root, T.cl_Standing, T.na_Standing_good, rfl, c .gd, rfl, ⟨vs2, SqL.of hg2⟩, fun D4 hD4 => ?_⟩
    refine lc_mk (walk_list (xs := vs2)) hD4 (fun i acc H => Fits (NewE K (foot c (Bsh bs)) (cut H6 (foot c (Bsh bs)))) H acc ((st.good.take i).filter fun e => !decide (e.bed = b.name))) Fits.nil (fun i acc H H' e f => f.same mo_newE e) (fun i acc H zs zs' hl f => f.imp fun v x _ r => ?_) hgl2 (fun H1 e => e.seq (SqL.of hg2)) ?_ ?_
    · obtain ⟨t, q, kl, p, rfl, h1, h2⟩ := r
      exact ⟨t, q, kl, p, rfl, by rw [upd_ne (ne_of h1 hl (by intro z; cases z))]; exact h1, h2⟩
    · rintro i x acc H7 H8 hi e7 ff ⟨rfl, hvx⟩ Q1 Q0 q1 q0
      obtain ⟨x, hx, te, qo, kle, po, rfl, hte, hpo, hke, hn1, hn2, hn3⟩ := fg2.get2 hvx
      have hx : st.good[i]? = some x := hx
      have hte3 := e7 _ _ (cut_le _ _ hte)
      obtain ⟨⟨dqo, hqo⟩, vo, hta, _⟩ := (hpo.same cut_le).same e7
      refine ⟨te, _, rfl, SqT.of hte3, rfl, _, _, rfl, _, _, rfl, rfl, rfl, ?_⟩
      refine ⟨_, rfl, qo, _, dqo, _, _, rfl, hqo, T.cl_Promise, T.na_Promise_thing, rfl, po.ta, _, 1, _, rfl, rfl, SqT.of hta, rfl, _, rfl, rfl, _, rfl, ?_⟩
      rw [← hn3]
      by_cases hs : x.bed = b.name
      · rw [decide_eq_true (show V.str x.bed = V.str b.name by rw [hs])]
        refine q0 _ (Same.refl _) ?_
        rw [filt_take _ hx, if_neg (by rw [decide_eq_true hs]; exact Bool.false_ne_true), List.append_nil]
        exact ff
      · rw [decide_eq_false (show ¬ V.str x.bed = V.str b.name from fun z => hs (by injection z))]
        refine ⟨_, rfl, _, rfl, (by show 2 ≤ sizeLine; decide), fun t9 ht9 => q1 _ _ (same_upd (Same.refl _) ht9) ?_⟩
        rw [filt_take _ hx, if_pos (by rw [decide_eq_false hs]; rfl)]
        exact (ff.same mo_newE (same_upd (Same.refl _) ht9)).snoc ⟨t9, qo, kle, po, rfl, upd_same, (R5.same e7).fresh ht9, hpo, hke, hn1, hn2, hn3⟩
    rintro acc H7 e7 hD7 _ ff
    rw [fg2.1, show (st.good.take _) = st.good from List.take_length] at ff
    have C3 := swp_chg (l0 := .gd) (lp := .root) (B' := Bsh bs) (op := .ins (cStanding K) dx (putF "good" (.ref D4) (stdFs f c))) R5 (fun l h _ => h) trivial e7 hD4
    have R7 := R5.new_good (op := .ins (cStanding K) dx (putF "good" (.ref D4) (stdFs f c))) e7 hD4 hD7 rfl (ff.imp fun v x _ r => by
      obtain ⟨t, q, kl, p, rfl, h1, h2, h3, h4, h5⟩ := r
      refine ⟨t, q, kl, p, rfl, cut_of ?_ ?_, h3.same C3.cut, h4.same mo_gk C3.cut, h5⟩
      · rintro ⟨l, z1, z2⟩
        by_cases ql : l = .gd
        · rw [ql, swp_same] at z2
          rw [z2, h1] at hD7
          cases hD7
        · rw [swp_ne ql] at z2
          exact h2 ⟨l, z1, z2⟩
      · rw [upd_ne fun z => h2 (by rw [z]; exact foot_of (l := .root) trivial)]
        exact h1)
    refine ⟨_, rfl, c .root, _, dx, _, rfl, e7 _ _ R5.std_root, T.cl_Standing, T.na_Standing_good, (by show 7 < 1000; decide), ?_⟩
    have ec3 : swp c .gd D4 .root = c .root := rfl
    generalize upd H7 (c .root) (.ins (cStanding K) dx (putF "good" (.ref D4) (stdFs f c))) = H8 at R7 C3
    generalize swp c .gd D4 = c3 at R7 C3 ec3
    rw [← ec3]
    -- back
    have C18 := C16.trans C3
    have FF8 := FF.same C18.cut
    obtain ⟨dxf, gf, df, hf, _⟩ := FF8.ex
    refine ⟨_, rfl, c3 .root, dx, _, rfl, R7.std_root, rfl, ?_⟩
    refine ⟨_, rfl, c3 .root, _, dx, _, _, rfl, R7.std_root, T.cl_Standing, T.na_Standing_field, rfl, f, dxf, _, rfl, cut_le _ _ hf, rfl, _, rfl, rfl, f, bs, b, _, rfl, cut_le, FF8, hb, fun v H9 e9 B9 => ?_⟩
    obtain ⟨qb, dqb, rfl, hqb⟩ := B9
    refine ⟨rfl, c3, f, dx, Bsh bs, ww, _, qb, dqb, b, rfl, R7.same e9, (Chg.of e9).cut _ _ hqb, by omega, (BO.ok b hb).r12, fun h => Bsh_not BO hb h, fun c4 H10 C4 ec4 R10 => ?_⟩
    rw [bkB_in hb] at C4 R10
    refine k c4 H10 (C18.trans ((Chg.of e9).trans C4)) (by rw [ec4, ec3]) ?_
    have hfin : st.spoil m b = (st.undo m b.name).back b := by
      unfold PS.spoil
      rw [if_pos hsp]
    rw [hfin]
    exact R10
theorem ok_Standing_take (T : Txt K mg) : Mx P w K mg base (He.ga K "Standing") "take" 6 (sp_Standing_take K) := by
  obtain ⟨fd, F⟩ := T.d_Standing_take
  refine ⟨T.cl_Standing, _, fd, _, T.me_Standing_take, fn_body F sc_Standing_take rfl (fun cdv A outer s H vs Q E hr h => ?_), F.bindsN (fun _ _ _ _ _ _ us hl => match us, hl with | [_, _], _ => rfl)⟩
  have nd := sc_Standing_take.nd
  have hu := hu_of hr
  obtain ⟨c, f, dx, bs, Nm, n, ww, st, v, l, rfl, R, hl, FF, hok, S, hn, hw, k⟩ := h
  obtain ⟨q, rfl, hl⟩ := hl
  refine ⟨_, (pss_one (ps_if (pt_not (pt_val (pe_callB call_is (by rfl) T.n_isinstance b_isinstance (pa_cons (pv 1) (pa_cons (pe_glob (v := .ref (He.ga K "Promise")) rfl T.g_Promise rfl) pa_nil))))) (pss_one (ps_expr (pe_m (ok_Standing_spoil T) (hr.mono (by decide)) (pv 0) (pa_cons (pv 1) pa_nil)))) (pss_one (ps_if (PW.pt (pw_and (pt_cmp (pc_dnotin hu (pe_ix ix_tup (pe_fld (pv 1) rfl) pe_int (fun _ _ => rfl)) (pe_fld (pv 0) rfl))) (pw_and1 (pt_val (pe_m (ok_Standing_holds T) (hr.mono (by decide)) (pv 0) (pa_cons (pv 1) pa_nil)))))) (pss_one (ps_expr (pe_m (ok_Standing_go T) (hr.mono (by decide)) (pv 0) (pa_cons (pv 1) pa_nil)))) (pss_one (ps_expr (pe_m (ok_Standing_void T) (hr.mono (by decide)) (pv 0) (pa_cons (pv 1) pa_nil)))))))), ?_⟩
  cases l with
  | spoil m t' x =>
    obtain ⟨dq, hq⟩ := id hl
    obtain ⟨hm, b, hb, rfl⟩ := hok
    refine ⟨_, rfl, _, _, _, rfl, is_SpoilingPromise T (cut_le _ _ hq), false, rfl, ?_⟩
    refine ⟨_, rfl, c .root, dx, _, rfl, R.std_root, rfl, _, rfl, rfl, c, f, dx, bs, Nm, n, ww, st, q, b, m, t', rfl, R, hl, FF, hb, S, hn, hw, fun c' H' C' e' R' => k c' H' C' e' ?_⟩
    show Rep _ _ _ H' c' (match bedOf bs b.name with
      | some b => st.spoil m b
      | none => st)
    rw [bedOf_some FF.ok hb]
    exact R'
  | prom p =>
    obtain ⟨⟨dq, hqc⟩, hthc⟩ := id hl
    have hq := cut_le _ _ hqc
    obtain ⟨v, ha, hv⟩ := hthc.same cut_le
    refine ⟨_, rfl, _, _, _, rfl, is_Promise T hq, true, rfl, ?_⟩
    refine ⟨_, rfl, q, _, dq, _, _, rfl, hq, T.cl_Promise, T.na_Promise_thing, rfl, p.ta, _, 1, _, rfl, rfl, SqT.of ha, rfl, _, rfl, c .root, _, dx, _, _, rfl, R.std_root, T.cl_Standing, T.na_Standing_spoilt, rfl, c .sp, _, rfl, R.spoilt_get p.th.bed, _, rfl, ?_⟩
    cases hsp : sget st.spoilt p.th.bed with
    | some m =>
      refine ⟨_, rfl, c .root, dx, _, rfl, R.std_root, rfl, _, rfl, rfl, c, f, dx, bs, Nm, n, ww, st, q, p, rfl, R, hl, FF.ok, S, hok, hn, fun H' C' R' => k c H' C' rfl ?_⟩
      show Rep _ _ _ H' c (st.prom p)
      unfold PS.prom
      rw [hsp, if_neg (by intro z; cases z.1)]
      exact R'.le (by omega)
    | none =>
      refine ⟨_, rfl, c .root, dx, _, rfl, R.std_root, rfl, _, rfl, rfl, c, f, dx, Bsh bs, ww, st, q, p, rfl, R, hl, hok.ok.th, fun hk => ⟨Bsh_bed hok.th hk, ?_⟩, fun hk => ?_, fun H1 e1 => ⟨_, rfl, ?_⟩⟩
      · obtain ⟨b0, hb0, hbn, _⟩ := hok.th.ex
        rw [← hbn]
        exact S.sum b0 hb0
      · obtain ⟨r0, hr0⟩ := gk_it hk
        obtain ⟨x, _, hx⟩ := held_ex S hok.th hk r0
        exact ⟨x, by rw [hr0]; exact hx⟩
      have R1 := R.same e1
      have C1 : Chg (foot c (Bsh bs)) (foot c (Bsh bs)) H H1 := Chg.of e1
      have hl1 : PromAt K (cut H1 (foot c (Bsh bs))) q p := PromAt.same hl C1.cut
      cases hh : st.holds p with
      | true =>
        refine ⟨_, rfl, c .root, dx, _, rfl, R1.std_root, rfl, _, rfl, rfl, c, f, dx, bs, Nm, n, ww, st, q, p, rfl, R1, hl1, FF.ok, S, hok, hn, hw, hh, fun H' C' R' => k c H' (C1.trans C') rfl ?_⟩
        show Rep _ _ _ H' c (st.prom p)
        unfold PS.prom
        rw [if_pos ⟨hsp, hh⟩]
        exact R'.le (by omega)
      | false =>
        refine ⟨_, rfl, c .root, dx, _, rfl, R1.std_root, rfl, _, rfl, rfl, c, f, dx, bs, Nm, n, ww, st, q, p, rfl, R1, hl1, FF.ok, S, hok, hn, fun H' C' R' => k c H' (C1.trans C') rfl ?_⟩
        show Rep _ _ _ H' c (st.prom p)
        unfold PS.prom
        rw [if_neg (fun z => by rw [hh] at z; cases z.2)]
        exact R'.le (by omega)
end
end RP
set_option Elab.async false
set_option linter.all false
set_option maxRecDepth 100000
set_option maxHeartbeats 400000
/-! rootpledge k80: the program's Standing, 5: the beginning -/
namespace RP
open PySem PySem.Spec PyProof.Rows L2
theorem News.write {H : Hp} {as : List Addr} {x : Addr} {o : HO} (n : News H as) : News (upd H x o) as := ⟨n.nd, fun a h => by
  by_cases e : a = x
  · exact ⟨o, by rw [e]; exact upd_same⟩
  · rw [upd_ne e]
    exact n.dom a h⟩
/-- a field's facts but for a bare instance at x -/
theorem FieldAt.cut1 {K : PySem.W.Frag} {H : Hp} {f x C dx : Addr} {bs : List BedR} (h : FieldAt K H f bs) (e : H x = some (.ins C dx [])) : FieldAt K (cut H fun a => a = x) f bs := by
  obtain ⟨⟨df, g, d, h1, kvs, h2, h3, h4⟩, B⟩ := h
  refine ⟨⟨df, g, d, cut_of (ne_of h1 e (by intro z; injection z with _ _ z; cases z)) h1, kvs, cut_of (ne_of h2 e (by intro z; cases z)) h2, h3, fun b hb => ?_⟩, B⟩
  obtain ⟨v, h5, p, dp, rfl, h6⟩ := h4 b hb
  exact ⟨_, h5, p, dp, rfl, cut_of (ne_of h6 e (by intro z; injection z with _ _ z; cases z)) h6⟩
/-- the beds in another order of their names -/
theorem beds_of {bs : List BedR} (B : BedsOk bs) {ys : List Str} (p : ys.Perm (bs.map (·.name))) : ∃ cs : List BedR, cs.Perm bs ∧ ys = cs.map (·.name) := by
  have key : ∀ l : List BedR, (∀ b ∈ l, b ∈ bs) → (l.map (·.name)).filterMap (bedOf bs) = l := by
    intro l
    induction l with
    | nil => exact fun _ => rfl
    | cons b l ih =>
      intro h
      rw [List.map_cons, List.filterMap_cons, bedOf_some B (h b List.mem_cons_self)]
      simp only
      rw [ih fun c hc => h c (List.mem_cons_of_mem _ hc)]
  have key2 : ∀ l : List Str, (∀ y ∈ l, y ∈ bs.map (·.name)) → (l.filterMap (bedOf bs)).map (·.name) = l := by
    intro l
    induction l with
    | nil => exact fun _ => rfl
    | cons y l ih =>
      intro h
      obtain ⟨b, hb, rfl⟩ := List.mem_map.mp (h y List.mem_cons_self)
      rw [List.filterMap_cons, bedOf_some B hb]
      simp only [List.map_cons]
      rw [ih fun c hc => h c (List.mem_cons_of_mem _ hc)]
  refine ⟨ys.filterMap (bedOf bs), ?_, (key2 ys fun y hy => p.mem_iff.mp hy).symm⟩
  have := p.filterMap (bedOf bs)
  rw [key bs fun b h => h] at this
  exact this
def sp_Standing_init (K : PySem.W.Frag) : Sp := spA 2 fun vs H Q => ∃ x f dx bs, vs = [.ref x, .ref f] ∧ H x = some (.ins (cStanding K) dx []) ∧ FieldAt K H f bs ∧
  ∀ c H', c .root = x → Chg (fun a => a = x) (foot c (Bsh bs)) H H' → Rep (knStd K f dx) (Bsh bs) 200 H' c (PS.begin bs) → Q .non H'
section
variable {P : Program} {w : World} {K : PySem.W.Frag} {mg : Str → Option Value} {base : Heap}
theorem ok_Standing_init (T : Txt K mg) : Nx P w K mg base (He.ga K "Standing") "Standing" 5 [] (sp_Standing_init K) := by
  obtain ⟨fd, F⟩ := T.d_Standing_init
  refine ⟨_, fd, _, [], T.g_Standing, T.mk_Standing, fn_body F sc_Standing_init rfl (fun cdv A outer s H vs Q E hr h => ?_), F.bindsN (fun _ _ _ _ _ _ us hl => match us, hl with | [_, _], _ => rfl), .nil⟩
  have nd := sc_Standing_init.nd
  have hu := hu_of hr
  obtain ⟨x, f, dx, bs, rfl, hx, FF, k⟩ := h
  refine ⟨_, (pss_cons (ps_fld (pv 0) (pv 1) rfl)
      (pss_cons (ps_fld (pv 0) pe_dnewT rfl)
      (pss_cons (ps_fld (pv 0) pe_dnewK rfl)
      (pss_cons (ps_fld (pv 0) pe_dnewK rfl)
      (pss_cons (ps_fld (pv 0) (pe_lst pa_nil) rfl)
      (pss_cons (ps_fld (pv 0) (pe_lst pa_nil) rfl)
      (pss_cons (ps_fld (pv 0) (pe_lst pa_nil) rfl)
      (pss_one (ps_for PassesOwn.never rfl (pi_list (pe_m0 (ok_Field_bed_names T) (hr.mono (by decide)) (pv 1))) (pg_name (i := 2) nd rfl (.inl rfl))
      (pss_one (ps_expr (pe_m (ok_Standing_back T) (hr.mono (by decide)) (pv 0) (pa_cons (pe_m (ok_Field_bed_of T) (hr.mono (by decide)) (pv 1) (pa_cons (pv 2) pa_nil)) pa_nil))))))))))))), ?_⟩
  have BO := FF.ok
  have FC := FF.cut1 hx
  -- field
  refine ⟨_, rfl, _, rfl, x, _, dx, [], rfl, hx, T.cl_Standing, T.na_Standing_field, (by show 0 < 1000; decide), ?_⟩
  have k0 : ∀ b o, b ≠ x → H b = some o → upd H x (.ins (cStanding K) dx (putF "field" (.ref f) [])) b = some o := fun b o hb e => by rw [upd_ne hb]; exact e
  have x0 : upd H x (.ins (cStanding K) dx (putF "field" (.ref f) [])) x = some (.ins (cStanding K) dx [("field", .ref f)]) := upd_same
  have n0 : News (upd H x (.ins (cStanding K) dx (putF "field" (.ref f) []))) [x] := ⟨List.nodup_cons.mpr ⟨(fun z => nomatch z), List.nodup_nil⟩, fun a ha => by rw [List.mem_singleton.mp ha]; exact ⟨_, upd_same⟩⟩
  generalize upd H x (.ins (cStanding K) dx (putF "field" (.ref f) [])) = H0 at k0 x0 n0
  have fr : ∀ {G : Hp} {a : Addr} {o : HO}, (∀ b o, b ≠ x → H b = some o → G b = some o) → G x = some o → G a = none → H a = none ∧ a ≠ x := fun {G a o} kp gx ga => by
    have hax : a ≠ x := fun z => by
      rw [z, gx] at ga
      cases ga
    refine ⟨?_, hax⟩
    cases e : H a with
    | none => rfl
    | some u =>
      rw [kp a u hax e] at ga
      cases ga
  have stp : ∀ {G : Hp} {a : Addr} {o u u' : HO} {as : List Addr}, (∀ b o, b ≠ x → H b = some o → G b = some o) → G x = some u → News G as → G a = none → (∀ b z, b ≠ x → H b = some z → upd (upd G a o) x u' b = some z) ∧ upd (upd G a o) x u' x = some u' ∧ News (upd (upd G a o) x u') (a :: as) ∧ upd (upd G a o) x u' a = some o ∧ ∀ b z, b ≠ x → G b = some z → upd (upd G a o) x u' b = some z := fun {G a o u u' as} kp gx nw ga => by
    obtain ⟨ha, hax⟩ := fr kp gx ga
    have hs := same_upd (o := o) (Same.refl G) ga
    refine ⟨fun b z hb e => ?_, upd_same, (nw.add hs ga upd_same).write, ?_, fun b z hb e => ?_⟩
    · rw [upd_ne hb]
      exact hs _ _ (kp b z hb e)
    · rw [upd_ne hax]
      exact upd_same
    · rw [upd_ne hb]
      exact hs _ _ e
  -- held
  intro a1 h1
  have m1 := fr k0 x0 h1
  refine ⟨_, rfl, x, _, dx, _, rfl, same_upd (Same.refl _) h1 _ _ x0, T.cl_Standing, T.na_Standing_held, (by show 1 < 1000; decide), ?_⟩
  obtain ⟨k1, x1, n1, q1, c1⟩ := stp (o := .dT []) (u' := .ins (cStanding K) dx (putF "held" (.ref a1) [("field", .ref f)])) k0 x0 n0 h1
  generalize upd (upd H0 a1 (.dT [])) x (.ins (cStanding K) dx (putF "held" (.ref a1) [("field", .ref f)])) = H1 at k1 x1 n1 q1 c1
  intro a2 h2
  have m2 := fr k1 x1 h2
  refine ⟨_, rfl, x, _, dx, _, rfl, same_upd (Same.refl _) h2 _ _ x1, T.cl_Standing, T.na_Standing_parts, (by show 2 < 1000; decide), ?_⟩
  obtain ⟨k2, x2, n2, q2, c2⟩ := stp (o := .dK []) (u' := .ins (cStanding K) dx (putF "parts" (.ref a2) (putF "held" (.ref a1) [("field", .ref f)]))) k1 x1 n1 h2
  generalize upd (upd H1 a2 (.dK [])) x (.ins (cStanding K) dx (putF "parts" (.ref a2) (putF "held" (.ref a1) [("field", .ref f)]))) = H2 at k2 x2 n2 q2 c2
  intro a3 h3
  have m3 := fr k2 x2 h3
  refine ⟨_, rfl, x, _, dx, _, rfl, same_upd (Same.refl _) h3 _ _ x2, T.cl_Standing, T.na_Standing_spoilt, (by show 3 < 1000; decide), ?_⟩
  obtain ⟨k3, x3, n3, q3, c3⟩ := stp (o := .dK []) (u' := .ins (cStanding K) dx (putF "spoilt" (.ref a3) (putF "parts" (.ref a2) (putF "held" (.ref a1) [("field", .ref f)])))) k2 x2 n2 h3
  generalize upd (upd H2 a3 (.dK [])) x (.ins (cStanding K) dx (putF "spoilt" (.ref a3) (putF "parts" (.ref a2) (putF "held" (.ref a1) [("field", .ref f)])))) = H3 at k3 x3 n3 q3 c3
  refine ⟨by show 0 ≤ sizeLine; decide, fun a4 h4 => ?_⟩
  have m4 := fr k3 x3 h4
  refine ⟨_, rfl, x, _, dx, _, rfl, same_upd (Same.refl _) h4 _ _ x3, T.cl_Standing, T.na_Standing_good, (by show 4 < 1000; decide), ?_⟩
  obtain ⟨k4, x4, n4, q4, c4⟩ := stp (o := .lst []) (u' := .ins (cStanding K) dx (putF "good" (.ref a4) (putF "spoilt" (.ref a3) (putF "parts" (.ref a2) (putF "held" (.ref a1) [("field", .ref f)]))))) k3 x3 n3 h4
  generalize upd (upd H3 a4 (.lst [])) x (.ins (cStanding K) dx (putF "good" (.ref a4) (putF "spoilt" (.ref a3) (putF "parts" (.ref a2) (putF "held" (.ref a1) [("field", .ref f)]))))) = H4 at k4 x4 n4 q4 c4
  refine ⟨by show 0 ≤ sizeLine; decide, fun a5 h5 => ?_⟩
  have m5 := fr k4 x4 h5
  refine ⟨_, rfl, x, _, dx, _, rfl, same_upd (Same.refl _) h5 _ _ x4, T.cl_Standing, T.na_Standing_void_rows, (by show 5 < 1000; decide), ?_⟩
  obtain ⟨k5, x5, n5, q5, c5⟩ := stp (o := .lst []) (u' := .ins (cStanding K) dx (putF "void_rows" (.ref a5) (putF "good" (.ref a4) (putF "spoilt" (.ref a3) (putF "parts" (.ref a2) (putF "held" (.ref a1) [("field", .ref f)])))))) k4 x4 n4 h5
  generalize upd (upd H4 a5 (.lst [])) x (.ins (cStanding K) dx (putF "void_rows" (.ref a5) (putF "good" (.ref a4) (putF "spoilt" (.ref a3) (putF "parts" (.ref a2) (putF "held" (.ref a1) [("field", .ref f)])))))) = H5 at k5 x5 n5 q5 c5
  refine ⟨by show 0 ≤ sizeLine; decide, fun a6 h6 => ?_⟩
  have m6 := fr k5 x5 h6
  refine ⟨_, rfl, x, _, dx, _, rfl, same_upd (Same.refl _) h6 _ _ x5, T.cl_Standing, T.na_Standing_gone, (by show 6 < 1000; decide), ?_⟩
  obtain ⟨k6, x6, n6, q6, c6⟩ := stp (o := .lst []) (u' := .ins (cStanding K) dx (putF "gone" (.ref a6) (putF "void_rows" (.ref a5) (putF "good" (.ref a4) (putF "spoilt" (.ref a3) (putF "parts" (.ref a2) (putF "held" (.ref a1) [("field", .ref f)]))))))) k5 x5 n5 h6
  generalize upd (upd H5 a6 (.lst [])) x (.ins (cStanding K) dx (putF "gone" (.ref a6) (putF "void_rows" (.ref a5) (putF "good" (.ref a4) (putF "spoilt" (.ref a3) (putF "parts" (.ref a2) (putF "held" (.ref a1) [("field", .ref f)]))))))) = H6 at k6 x6 n6 q6 c6
  obtain ⟨c, hcr, hc1, hc2, hc3, hc4, hc5, hc6⟩ : ∃ c : Lab → Addr, c .root = x ∧ c .h = a1 ∧ c .pp = a2 ∧ c .sp = a3 ∧ c .gd = a4 ∧ c .vd = a5 ∧ c .gn = a6 := ⟨fun l => match l with
    | .root => x
    | .h => a1
    | .pp => a2
    | .sp => a3
    | .gd => a4
    | .vd => a5
    | .gn => a6
    | .sh _ => x, rfl, rfl, rfl, rfl, rfl, rfl, rfl⟩
  have b5 := q5
  have b4 := c5 _ _ m4.2 q4
  have b3 := c5 _ _ m3.2 (c4 _ _ m3.2 q3)
  have b2 := c5 _ _ m2.2 (c4 _ _ m2.2 (c3 _ _ m2.2 q2))
  have b1 := c5 _ _ m1.2 (c4 _ _ m1.2 (c3 _ _ m1.2 (c2 _ _ m1.2 q1)))
  have R0 : Rep (knStd K f dx) (fun _ => False) 0 H6 c PS.zero := by
    refine Rep.zero n6.nd (by rw [hcr, hc1, hc2, hc3, hc4, hc5, hc6]) ?_ ?_ ?_ ?_ ?_ ?_ ?_
    · show H6 (c .root) = some (.ins (cStanding K) dx (stdFs f c))
      unfold stdFs
      rw [hcr, hc1, hc2, hc3, hc4, hc5, hc6]
      exact x6
    · rw [hc1]
      exact c6 _ _ m1.2 b1
    · rw [hc2]
      exact c6 _ _ m2.2 b2
    · rw [hc3]
      exact c6 _ _ m3.2 b3
    · rw [hc4]
      exact c6 _ _ m4.2 b4
    · rw [hc5]
      exact c6 _ _ m5.2 b5
    · rw [hc6]
      exact q6
  have C0 : Chg (fun a => a = x) (foot c (fun _ => False)) H H6 := by
    refine ⟨fun b o hb e => k6 b o hb e, fun b hb => ?_⟩
    obtain ⟨l, hl, rfl⟩ := hb
    cases l with
    | sh y => exact False.elim hl
    | root => exact .inl hcr
    | h => exact .inr (by rw [hc1]; exact m1.1)
    | pp => exact .inr (by rw [hc2]; exact m2.1)
    | sp => exact .inr (by rw [hc3]; exact m3.1)
    | gd => exact .inr (by rw [hc4]; exact m4.1)
    | vd => exact .inr (by rw [hc5]; exact m5.1)
    | gn => exact .inr (by rw [hc6]; exact m6.1)
  clear b1 b2 b3 b4 b5 c1 c2 c3 c4 c5 c6 q1 q2 q3 q4 q5 q6 n0 n1 n2 n3 n4 n5 n6 k1 k2 k3 k4 k5 k6 x1 x2 x3 x4 x5 x6 m1 m2 m3 m4 m5 m6 hc1 hc2 hc3 hc4 hc5 hc6 h1 h2 h3 h4 h5 h6
  have ro : H6 (c .root) = some (.ins (cStanding K) dx (stdFs f c)) := R0.std_root
  generalize putF "gone" (.ref a6) (putF "void_rows" (.ref a5) (putF "good" (.ref a4) (putF "spoilt" (.ref a3) (putF "parts" (.ref a2) (putF "held" (.ref a1) [("field", V.ref f)]))))) = fs6 at *
  have F6 := FC.same C0.cut
  obtain ⟨dxf, gf, df, hff, _⟩ := F6.ex
  refine ⟨_, rfl, f, dxf, _, rfl, cut_le _ _ hff, rfl, rfl, f, bs, rfl, F6.same cut_le, fun ys p hys hp => ?_⟩
  obtain ⟨cs, hcs, rfl⟩ := beds_of BO hys
  have e7 := same_upd (o := .lst ((cs.map (·.name)).map V.str)) (Same.refl H6) hp
  have hpl : upd H6 p (.lst ((cs.map (·.name)).map V.str)) p = some (.lst ((cs.map (·.name)).map V.str)) := upd_same
  generalize upd H6 p (.lst ((cs.map (·.name)).map V.str)) = H7 at e7 hpl
  have R7 := R0.same e7
  have C7 := C0.trans (Chg.of e7)
  have hpc : cut H7 (foot c fun _ => False) p = some (.lst ((cs.map (·.name)).map V.str)) := cut_of (R0.fresh hp) hpl
  have hclen : cs.length = bs.length := hcs.length_eq
  have hn6 := BO.n6
  have hll : ((cs.map (·.name)).map V.str).length = cs.length := by rw [List.length_map, List.length_map]
  have hcn : (cs.map (·.name)).Nodup := (hcs.map _).nodup_iff.mpr BO.nd
  have eb0 : Bsh (cs.take 0) = fun _ => False := funext fun y => propext ⟨fun ⟨b, hb, _⟩ => (nomatch hb), False.elim⟩
  rw [← hcr]
  refine ⟨p, rfl, ⟨_, SqL.of hpl⟩, ?_⟩
  refine for_list (K := K) (xs := (cs.map (·.name)).map V.str) (fun i σ H' => ∃ u c', σ = [some (.ref (c' .root)), some (.ref f), u] ∧ c' .root = x ∧ Rep (knStd K f dx) (Bsh (cs.take i)) (30 * i) H' c' (PS.begin (cs.take i)) ∧ Chg (foot c fun _ => False) (foot c' (Bsh (cs.take i))) H7 H')
    ⟨_, c, rfl, hcr, by rw [eb0]; exact R7, by rw [eb0]; exact Chg.of (Same.refl _)⟩ (fun i σ H' _ ⟨u, c', _, _, _, C'⟩ => SqL.of (cut_le _ _ (C'.cut _ _ hpc))) ?_ ?_
  · rintro i v σ H' hv ⟨u, c', rfl, hr', R', C'⟩
    rw [List.getElem?_map, List.getElem?_map] at hv
    cases hci : cs[i]? with
    | none =>
      rw [hci] at hv
      cases hv
    | some b =>
      rw [hci] at hv
      cases hv
      have hi : i < cs.length := (List.getElem?_eq_some_iff.mp hci).1
      have hbb : b ∈ bs := hcs.mem_iff.mp (List.mem_of_getElem? hci)
      have F' := FC.same (C7.trans C').cut
      obtain ⟨dxf, gf, df, hff, _⟩ := F'.ex
      have hnb : b.shares = false → ¬ Bsh (cs.take i) b.name := fun _ => by
        rintro ⟨d, hd, e, _⟩
        have hd2 := List.mem_of_mem_take hd
        have hdb := bed_same BO (hcs.mem_iff.mp hd2) hbb e
        subst hdb
        obtain ⟨j, hj, ej⟩ := List.getElem_of_mem hd
        rw [List.getElem_take] at ej
        have hji : j < i := by
          rw [List.length_take] at hj
          omega
        have h1 : (cs.map (·.name))[j]'(by rw [List.length_map]; omega) = (cs.map (·.name))[i]'(by rw [List.length_map]; omega) := by
          rw [List.getElem_map, List.getElem_map, ej]
          rw [(List.getElem?_eq_some_iff.mp hci).2]
        have := (List.getElem_inj hcn).mp h1
        omega
      refine ⟨_, rfl, c' .root, dx, _, rfl, R'.std_root, rfl, ?_⟩
      refine ⟨_, rfl, f, dxf, _, rfl, cut_le _ _ hff, rfl, _, rfl, rfl, f, bs, b, _, rfl, cut_le, F', hbb, fun v H9 e9 B9 => ?_⟩
      obtain ⟨qb, dqb, rfl, hqb⟩ := B9
      refine ⟨rfl, c', f, dx, Bsh (cs.take i), 30 * i, _, qb, dqb, b, rfl, R'.same e9, (Chg.of e9).cut _ _ hqb, by omega, (BO.ok b hbb).r12, hnb, fun c4 H10 C4 ec4 R10 => ?_⟩
      rw [← Bsh_snoc, ← take_snoc hci] at C4 R10
      rw [← begin_snoc, ← take_snoc hci] at R10
      exact ⟨_, c4, by rw [ec4]; rfl, by rw [ec4]; exact hr', R10.le (by omega), C'.trans ((Chg.of e9).trans C4)⟩
  · rintro σ H' ⟨u, c', rfl, hr', R', C'⟩
    rw [hll, List.take_length, begin_perm BO hcs] at R'
    rw [hll, List.take_length] at C'
    have eB : Bsh cs = Bsh bs := funext fun y => propext ⟨fun ⟨b, h1, h2⟩ => ⟨b, hcs.mem_iff.mp h1, h2⟩, fun ⟨b, h1, h2⟩ => ⟨b, hcs.mem_iff.mpr h1, h2⟩⟩
    rw [eB] at R' C'
    exact k c' H' hr' (C7.trans C') (R'.le (by omega))
end
end RP
set_option Elab.async false
set_option linter.all false
set_option maxRecDepth 100000
set_option maxHeartbeats 400000
/-! rootpledge k80: what survives writes to odd cells: the ledger's object, lists of ints -/
namespace RP
open PySem PySem.Spec PyProof.Rows L2
def Odd : HO → Prop
  | .ins _ _ fs => (fs.map (·.1)).head? = some "field"
  | .lst xs => ∃ i r, xs = V.int i :: r
  | _ => False
/-- all but odd cells stand alike -/
def Sm (H H' : Hp) : Prop := ∀ a o, H a = some o → ¬ Odd o → H' a = some o
theorem Sm.of {H H' : Hp} (e : Same H H') : Sm H H' := fun a o h _ => e a o h
theorem Sm.trans {H H1 H2 : Hp} (e : Sm H H1) (f : Sm H1 H2) : Sm H H2 := fun a o h n => f a o (e a o h n) n
/-- a write to an odd cell -/
theorem Sm.one {H H' : Hp} {x : Addr} {o : HO} (hx : H x = some o) (ho : Odd o) (h : ∀ a u, a ≠ x → H a = some u → H' a = some u) : Sm H H' := fun a u e n => by
  by_cases q : a = x
  · rw [q, hx] at e
    cases e
    exact absurd ho n
  · exact h a u q e
def Om {α : Type} (R : Hp → V → α → Prop) : Prop := ∀ H H' v x, Sm H H' → R H v x → R H' v x
theorem odd_tup {xs : List V} : ¬ Odd (.tup xs) := fun z => z
theorem odd_dK {xs : List (Key × V)} : ¬ Odd (.dK xs) := fun z => z
theorem odd_ins {C dx : Addr} {n : Str} {v : V} {fs : List (Str × V)} (h : n ≠ "field") : ¬ Odd (.ins C dx ((n, v) :: fs)) := fun z => h (Option.some.inj z)
theorem odd_ref {t : Addr} {vs : List V} : ¬ Odd (.lst (.ref t :: vs)) := by
  rintro ⟨i, r, z⟩
  cases z
theorem odd_nil : ¬ Odd (.lst []) := by
  rintro ⟨i, r, z⟩
  cases z
theorem odd_str {x : Str} {vs : List V} : ¬ Odd (.lst (.str x :: vs)) := by
  rintro ⟨i, r, z⟩
  cases z
section
variable {K : PySem.W.Frag} {H H' : Hp}
theorem PartAt.om {p : Addr} {u : Nat} (e : Sm H H') (h : PartAt K H p u) : PartAt K H' p u := by
  obtain ⟨dx, h⟩ := h
  exact ⟨dx, e _ _ h (odd_ins (by decide +kernel))⟩
theorem ThAt.om {t : Addr} {th : Th} (e : Sm H H') (h : ThAt K H t th) : ThAt K H' t th := by
  obtain ⟨v, h1, h2⟩ := h
  refine ⟨v, e _ _ h1 odd_tup, ?_⟩
  rcases h2 with ⟨h1, p, h2, h3⟩ | h
  · exact .inl ⟨h1, p, h2, h3.om e⟩
  · exact .inr h
theorem PromAt.om {q : Addr} {p : Pr} (e : Sm H H') (h : PromAt K H q p) : PromAt K H' q p := by
  obtain ⟨⟨dx, h1⟩, h2⟩ := h
  exact ⟨⟨dx, e _ _ h1 (odd_ins (by decide +kernel))⟩, h2.om e⟩
theorem SpoilAt.om {q : Addr} {n m : Nat} {b : Str} (e : Sm H H') (h : SpoilAt K H q n m b) : SpoilAt K H' q n m b := by
  obtain ⟨dx, h1⟩ := h
  exact ⟨dx, e _ _ h1 (odd_ins (by decide +kernel))⟩
theorem om_ln : Om (LnAt K) := fun H H' v l e h => by
  obtain ⟨q, rfl, h⟩ := h
  refine ⟨q, rfl, ?_⟩
  cases l with
  | prom p => exact PromAt.om e h
  | spoil n m b => exact SpoilAt.om e h
theorem om_row : Om (RowAt K) := fun H H' v l e h => by
  obtain ⟨t, rfl, h⟩ := h
  refine ⟨t, rfl, ?_⟩
  cases l with
  | prom p => exact ⟨e _ _ h.1 odd_tup, h.2.om e⟩
  | spoil n m b => exact e _ _ h odd_tup
theorem om_bedrow : Om BedRowAt := fun H H' v b e h => by
  obtain ⟨t, rfl, h⟩ := h
  exact ⟨t, rfl, e _ _ h odd_tup⟩
theorem om_gk : Om GKAt := fun H H' v b e h => by
  obtain ⟨t, rfl, h⟩ := h
  exact ⟨t, rfl, e _ _ h odd_tup⟩
theorem om_vd : Om VdAt := fun H H' v b e h => by
  obtain ⟨t, rfl, h⟩ := h
  exact ⟨t, rfl, e _ _ h odd_tup⟩
theorem Fits.om {α : Type} {R : Hp → V → α → Prop} {vs : List V} {xs : List α} (m : Om R) (e : Sm H H') (f : Fits R H vs xs) : Fits R H' vs xs := f.imp fun v x _ r => m _ _ _ _ e r
theorem odd_fits {α : Type} {R : Hp → V → α → Prop} {vs : List V} {xs : List α} (hr : ∀ v x, R H v x → ∀ i, v ≠ .int i) (f : Fits R H vs xs) : ¬ Odd (.lst vs) := by
  rintro ⟨i, r, rfl⟩
  obtain ⟨x, _, h⟩ := f.all2 List.mem_cons_self
  exact hr _ x h i rfl
theorem LAt.om {α : Type} {R : Hp → V → α → Prop} {a : Addr} {xs : List α} (m : Om R) (hr : ∀ v x, R H v x → ∀ i, v ≠ .int i) (e : Sm H H') (l : LAt R H a xs) : LAt R H' a xs := by
  obtain ⟨vs, h, f⟩ := l
  exact ⟨vs, e _ _ h (odd_fits hr f), f.om m e⟩
theorem KeysAt.om {a : Addr} {ks : List GK} (e : Sm H H') (h : KeysAt H a ks) : KeysAt H' a ks := LAt.om om_gk (fun v x r i z => by
  obtain ⟨t, rfl, _⟩ := r
  cases z) e h
theorem FieldAt.om {f : Addr} {bs : List BedR} (e : Sm H H') (h : FieldAt K H f bs) : FieldAt K H' f bs := by
  obtain ⟨⟨df, g, d, h1, kvs, h2, h3, h4⟩, B⟩ := h
  refine ⟨⟨df, g, d, e _ _ h1 (odd_ins (by decide +kernel)), kvs, e _ _ h2 odd_dK, h3, fun b hb => ?_⟩, B⟩
  obtain ⟨v, h5, p, dp, rfl, h6⟩ := h4 b hb
  exact ⟨_, h5, p, dp, rfl, e _ _ h6 (odd_ins (by decide +kernel))⟩
theorem rows_om {a : Addr} {rs : List Ln} (e : Sm H H') (h : LAt (RowAt K) H a rs) : LAt (RowAt K) H' a rs := LAt.om om_row (fun v x r i z => by
  obtain ⟨t, rfl, _⟩ := r
  cases z) e h
theorem beds_om {a : Addr} {bs : List BedR} (e : Sm H H') (h : LAt BedRowAt H a bs) : LAt BedRowAt H' a bs := LAt.om om_bedrow (fun v x r i z => by
  obtain ⟨t, rfl, _⟩ := r
  cases z) e h
end
structure KnOm (k : Kn) : Prop where
  U : ∀ H H' v n, Sm H H' → k.U H v n → k.U H' v n
  E : ∀ H H' v n, Sm H H' → k.E H v n → k.E H' v n
theorem law_om : KnOm knLaw := ⟨fun H H' v n _ h => h, fun H H' v n e h => by
  obtain ⟨t, kl, rfl, h1, h2⟩ := h
  exact ⟨t, kl, rfl, e _ _ h1 odd_tup, h2.om e⟩⟩
theorem std_om {K : PySem.W.Frag} {f dx : Addr} : KnOm (knStd K f dx) := ⟨fun H H' v n e h => by
  obtain ⟨p, rfl, h⟩ := h
  exact ⟨p, rfl, h.om e⟩, fun H H' v n e h => by
  obtain ⟨t, q, kl, p, rfl, h1, h2, h3, h4⟩ := h
  exact ⟨t, q, kl, p, rfl, e _ _ h1 odd_tup, h2.om e, h3.om e, h4⟩⟩
theorem Sh.om {U : Hp → V → Nat → Prop} {G G' : Hp} {kvs : List (Key × V)} {l : List (Str × Nat)} (m : ∀ H H' v n, Sm H H' → U H v n → U H' v n) (e : Sm G G') (h : Sh U G kvs l) : Sh U G' kvs l := by
  induction h with
  | nil => exact .nil
  | cons h1 _ ih => exact .cons (m _ _ _ _ e h1) ih
section
variable {k : Kn} {B : Str → Prop} {w : Nat} {H H' : Hp} {c : Lab → Addr} {st : PS}
theorem Rep.om (ko : KnOm k) (R : Rep k B w H c st) (e : ∀ a o, H a = some o → (¬ Odd o ∨ foot c B a) → H' a = some o) : Rep k B w H' c st := by
  have s : Sm (cut H (foot c B)) (cut H' (foot c B)) := fun a o h n => by
    obtain ⟨h1, h2⟩ := cut_some h
    exact cut_of h1 (e a o h2 (.inl n))
  refine ⟨R.inj, fun l a => ?_⟩
  obtain ⟨o, q, z⟩ := R.at_ l a
  refine ⟨o, e _ _ q (.inr (foot_of a)), ?_⟩
  cases l with
  | root => exact z
  | h => exact z
  | pp => exact z
  | sp =>
    obtain ⟨us, h1, h2⟩ := z
    exact ⟨us, h1, h2.om (fun _ _ _ _ _ h => h) s⟩
  | gd =>
    obtain ⟨vs, h1, h2⟩ := z
    exact ⟨vs, h1, h2.om ko.E s⟩
  | vd =>
    obtain ⟨vs, h1, h2⟩ := z
    exact ⟨vs, h1, h2.om om_vd s⟩
  | gn => exact z
  | sh x =>
    obtain ⟨us, h1, h2⟩ := z
    exact ⟨us, h1, h2.om ko.U s⟩
end
end RP
set_option Elab.async false
set_option linter.all false
set_option maxRecDepth 100000
set_option maxHeartbeats 4000000
/-! rootpledge k80: rules of our own, 5: x != y by an own __eq__ -/
namespace RP
open PySem PySem.Spec PyProof.Rows L2
section
variable {P : Program} {w : World} {A : Around} {E : Value → Shared → Prop} {s : Shared} {K : PySem.W.Frag} {x y C f : Addr} {ox oy : Obj} {od od' : Option Obj}
theorem bound_bi {M : Model} {id : String} {args : List Value} {name : Str} {Q : Option Value → Shared → Prop} (X : K.In s.heap) (I : PySem.W.InstAt s.heap x ox C od) (hs : PySem.W.findIn K (.ref C) name = some (some (.builtin id))) (hb : ∀ self, bindSpecial (.builtin id) self = pure (.builtin id, [self]))
    (h : wpAny M A (call (.builtin id) (.ref x :: args)) (fun v => Q (some v)) E s) : wpAny M A (callSpecialIfBound? (.ref x) name args) Q E s := by
  simp only [callSpecialIfBound?, bindSpecialIfBound?]
  refine wpAny_holding (wpAny_bind (wpAny_bind (wpAny_bind (I.type.here ((PySem.W.looks_findIn X hs).here ?_)))))
  simp only [hb]
  have fin : wpAny M A (call (.builtin id) ([.ref x] ++ args) >>= fun v => pure (some v)) Q E s := wpAny_bind (wpAny_mono h (fun v s' q => wpAny_pure q) fun _ _ q => q)
  refine wpAny_bind (wpAny_askSetting (wpAny_ite ?_))
  split
  · exact wpAny_bind (wpAny_pure (wpAny_pure fin))
  · exact wpAny_tryCatch (wpAny_bind (wpAny_pure (wpAny_pure fin)))
theorem obj_ne (hu : A.units < cLine) (X : K.In s.heap) (I : PySem.W.InstAt s.heap x ox C od) (hs : PySem.W.findIn K (.ref C) "__eq__" = some (some (.ref f))) (hf : PySem.W.isFn K (.ref f) = true) {Q : Fin → Shared → Prop}
    (h : wpAny (model P w) A (call (.ref f) [.ref x, .ref y]) (fun v s' => ∃ b, v = .bool b ∧ Q (.done (.ret (.bool (!b)))) s') E s) : wpAny (model P w) A (Builtin.«object.__ne__» ⟨[.ref x, .ref y], []⟩) Q E s := by
  unfold Builtin.«object.__ne__»
  repeat (first
    | with_reducible refine wpAny_cRoomFor hu ?_
    | (refine wpAny_bind (m := callSpecialIfBound? (.ref x) (Str.ofString "__eq__") [.ref y])
        (PySem.W.ifBound_K X I hs hf (wpAny_mono h (fun r s' hr => by
          obtain ⟨b, rfl, hq⟩ := hr
          repeat (first | exact hq | exact wpAny_pure hq | exact wpAny_truthy_bool hq | (refine wpAny_bind (m := truthy (.bool _)) (wpAny_truthy_bool ?_)) | wp_step)) fun _ _ e => e)))
    | wp_step)
theorem rich_ne (hu : A.units + 1 < cLine) (X : K.In s.heap) (I : PySem.W.InstAt s.heap x ox C od) (J : PySem.W.InstAt s.heap y oy C od') (hn : PySem.W.findIn K (.ref C) "__ne__" = some (some (.builtin "object.__ne__")))
    (hs : PySem.W.findIn K (.ref C) "__eq__" = some (some (.ref f))) (hf : PySem.W.isFn K (.ref f) = true) (hm : PySem.W.mroIn K C (.type "object") = some true) {Q : Value → Shared → Prop}
    (h : wpAny (model P w) A.in1 (call (.ref f) [.ref x, .ref y]) (fun v s' => ∃ b, v = .bool b ∧ Q (.bool (!b)) s') E s) : wpAny (model P w) A (richCompare .NotEq (.ref x) (.ref y)) Q E s := by
  have one : wpAny (model P w) A (tryCompare (.ref x) "__ne__" (.ref y)) (fun r s' => ∃ v, r = some v ∧ Q v s') E s := by
    unfold tryCompare
    refine wpAny_bind (bound_bi X I hn F.cmp_object.ne.bind (wpAny_call (codeAny_call_builtin F.cmp_object.ne.plain F.cmpEntry_ne (PySem.W.check_slot F.cmpKind_ne F.cmpSplit_ne (I.type.andThen (PySem.W.looks_mroIn X hm)) (F.cmpArgs_ne _ _)
      (obj_ne (A := A.in1) hu X I hs hf (wpAny_mono h (fun v s' hv => ?_) fun _ _ e => e))))))
    obtain ⟨b, rfl, hq⟩ := hv
    first | exact ⟨b, rfl, wpAny_pure ⟨_, rfl, hq⟩⟩ | exact ⟨b, rfl, wpAny_pure (wpAny_pure ⟨_, rfl, hq⟩)⟩
  unfold richCompare
  simp only [oneThing_ref]
  refine wpAny_holding (wpAny_bind (wpAny_cRoomFor (Nat.lt_of_succ_lt hu) ?_))
  rw [cmpInfo_NotEq]
  dsimp only
  refine wpAny_bind (I.type.here (wpAny_bind (J.type.here ?_)))
  rw [show (Value.ref C != Value.ref C) = false from by simp]
  simp only [Bool.false_eq_true, if_false]
  refine wpAny_bind (wpAny_pure ?_)
  simp only [Bool.false_eq_true, if_false]
  refine wpAny_bind (wpAny_mono one (fun r s' hv => ?_) fun _ _ e => e)
  obtain ⟨v, rfl, hq⟩ := hv
  first | exact wpAny_pure hq | exact wpAny_pure (wpAny_pure hq)
end
section
variable {X : Cx} {n : Nat}
/-- != gives False for what D says, and only makes objects -/
def NcG (X : Cx) (n : Nat) (D : Eqv) : Prop :=
  ∀ (A : Around) (pins : List (Addr × Obj)) (s : Shared) (σ : L2.St) (H : Hp) (x y : V) (u v : Value), Sub X n A → Inv X pins σ H s → RelV x u → RelV y v → D x y H →
    wpAny (model X.prog X.w) A (richCompare .NotEq u v) (fun r s' => r = .bool false ∧ ∃ H', Inv X pins σ H' s' ∧ Ext H H') X.xe s
theorem ncG_ins {CX : CXT} {C f : Addr} {fd : FuncData} {ps : List Str} {R : Addr → Addr → Hp → Prop} {E : XK} (F : FnOk X.prog X.w X.K X.mg X.base CX n f fd ps (spEq R)) (hn : PySem.W.findIn X.K (.ref C) "__ne__" = some (some (.builtin "object.__ne__")))
    (hs : PySem.W.findIn X.K (.ref C) "__eq__" = some (some (.ref f))) (hf : PySem.W.isFn X.K (.ref f) = true) (hm : PySem.W.mroIn X.K C (.type "object") = some true) (hb : Binds X.K fd ps []) (hx : Passes CX X E) : NcG X (n + 1) (DIns C R) := by
  intro A pins s σ H x y u v sb I rx ry d
  obtain ⟨a, b, dx, dy, fs, gs, rfl, rfl, ha, hb', hr⟩ := d
  cases rx
  cases ry
  obtain ⟨mA, J, _⟩ := ins_get I.hok ha
  obtain ⟨mB, J', _⟩ := ins_get I.hok hb'
  obtain ⟨od, J, _⟩ := J.look
  obtain ⟨od', J', _⟩ := J'.look
  refine rich_ne (by have := sb.room.un; omega) I.kIn J J' hn hs hf hm ?_
  have hsp : spEq R [.ref a, .ref b] H (fun v H' => v = .bl true ∧ Ext H H') E := ⟨a, b, rfl, hr, fun H' e => ⟨rfl, e⟩⟩
  have e0 : Env0 X.prog X.w X.K X.mg X.base A.in1 X.stack s H := by
    have e := I.env0
    exact ⟨by rw [sb.in1.fr]; exact e.frames, e.mod, e.bs, e.bsz, e.funs, e.frf, e.hok, e.bare⟩
  have bd := hb s [.ref a, .ref b] I.kIn (by simpa using F.len _ _ _ _ hsp)
  refine wpAny_call (codeAny_mono (F.run A.in1 X.stack s H ⟨[.ref a, .ref b], []⟩ [.ref a, .ref b] [.ref a, .ref b] _ E sb.in1.room e0 (by simpa using bd) (.cons rfl (.cons rfl .nil)) hsp) fun r s' hq => ?_)
  cases r with
  | error e => exact hx pins σ H s e s' I hq
  | ok fl =>
    cases fl with
    | next => exact False.elim hq
    | brk => exact False.elim hq
    | cont => exact False.elim hq
    | ret w =>
      obtain ⟨z, H', I', rz, ez, ex⟩ := I.after hq
      subst ez
      cases rz
      exact ⟨true, rfl, rfl, H', I', ex⟩
/-- x != y of what is alike -/
def rNeG (D : Eqv) : R2 := fun x y H Q => D x y H ∧ ∀ H', Same H H' → Q (.bl false) H'
theorem op_neG {D : Eqv} (h : NcG X n D) (hr : Room n X.A) : OpR X (compareOp .NotEq) (rNeG D) := by
  intro pins s σ H x y v u Q I rx ry hq
  obtain ⟨d, q⟩ := hq
  show wpAny (model X.prog X.w) X.A (richCompare .NotEq v u) (EP X pins σ Q) X.xe s
  refine wpAny_mono (h X.A pins s σ H x y v u ⟨hr, rfl⟩ I rx ry d) (fun r s' z => ?_) fun _ _ x => x
  obtain ⟨hr', H', I', e⟩ := z
  subst hr'
  exact ⟨.bl false, H', I', rfl, q H' e⟩
end
section
open PySem.SeqAt
open AutoSeq1 (wpAny_loadPart')
open MeetsSeq MeetsSeq2 MeetsSeq3 SeqRoads2
variable {prog : Program} {w : World} {A : Around} {R : Result → Shared → Prop}
/-- the loop of !=, all items equal -/
theorem ne_loop (l b : Addr) (N : Nat) (I : Nat → Shared → Prop) (hl : GQ.ListI prog w A (fun e s' => R (.error e) s') l b N I) (fin : ∀ s, I N s → R (.ok (.ret (.bool false))) s) (k : Nat) :
    ∀ i : Nat, N - i = k → i ≤ N → ∀ s, I i s → wpAny (model prog w) A.in1 (Builtin.«list.__eq__.loop» ⟨[.ref l, .ref b, rawInt i, rawInt 3], []⟩) (GQ.FinOf prog w A R) (fun e s' => R (.error e) s') s := by
  induction k with
  | zero =>
    intro i hk hi s h
    obtain ⟨us, ws, n, n2, g1, g2, z1, z2, _⟩ := hl _ _ h
    obtain rfl : i = N := by omega
    have q := fin s h
    obtain ⟨hp, g, d, tk, os⟩ := s
    wp_walk using wpAny_loadPart' g1, wpAny_loadPart' g2
    rw [show us[((i : Nat) : Int).toNat]? = none by simp; omega, show ws[((i : Nat) : Int).toNat]? = none by simp; omega]
    wp_walk using wpAny_loadPart' g1, wpAny_loadPart' g2
    show R (.ok (.ret (.bool (us.size != ws.size)))) _
    rw [z1, z2]
    simpa using q
  | succ k ih =>
    intro i hk hi s h
    obtain ⟨us, ws, n, n2, g1, g2, z1, z2, turn⟩ := hl _ _ h
    have q1 : i < us.size := by omega
    have q2 : i < ws.size := by omega
    have ht := turn q1 q2
    obtain ⟨hp, g, d, tk, os⟩ := s
    wp_walk using wpAny_loadPart' g1, wpAny_loadPart' g2
    rw [show us[((i : Nat) : Int).toNat]? = some us[i] by simp [q1], show ws[((i : Nat) : Int).toNat]? = some ws[i] by simp [q2]]
    refine wpAny_bind (wpAny_mono ht (fun r s2 h2 => ?_) fun _ _ x => x)
    obtain ⟨rfl, h2⟩ := h2
    have rec2 := ih (i + 1) (by omega) (by omega) s2 h2
    obtain ⟨hp2, g2, d2, tk2, os2⟩ := s2
    wp_walk
    rw [show ((i : Int) + 1) = ((i + 1 : Nat) : Int) by omega]
    exact ⟨plainId_quiet plain_eq_loop _, codeAny_builtin entry_eq_loop (by rw [Around.under_plainId plain_eq_loop _]; exact rec2)⟩
theorem list_ne (l b : Addr) (N : Nat) (I : Nat → Shared → Prop) (hl : GQ.ListI prog w A (fun e s' => R (.error e) s') l b N I) (fin : ∀ s, I N s → R (.ok (.ret (.bool false))) s) {s : Shared} (h : I 0 s) :
    wpAny (model prog w) A.in1 (Builtin.«list.__ne__» ⟨[.ref l, .ref b], []⟩) (GQ.FinOf prog w A R) (fun e s' => R (.error e) s') s := by
  obtain ⟨us, ws, n, n2, g1, g2, z1, z2, _⟩ := hl _ _ h
  have rec2 := ne_loop (A := A) (R := R) l b N I hl fin _ 0 rfl (Nat.zero_le _) s h
  obtain ⟨hp, g, d, tk, os⟩ := s
  have f3 := AutoSeq1.sub_list_list
  have hne : ¬ (us.size != ws.size) = true := by simp [z1, z2]
  wp_walk using wpAny_loadPart' g1, wpAny_loadPart' g2
  exact ⟨plainId_quiet plain_eq_loop _, codeAny_builtin entry_eq_loop (by rw [Around.under_plainId plain_eq_loop _]; exact rec2)⟩
theorem rn_list {E : Value → Shared → Prop} {s : Shared} {l b : Addr} {N : Nat} {Q : Value → Shared → Prop} (hu : A.units < cLine) (I : Nat → Shared → Prop) (hl : GQ.ListI prog w A E l b N I)
    (fin : ∀ s, I N s → Q (.bool false) s) (h : I 0 s) : wpAny (model prog w) A (richCompare .NotEq (.ref l) (.ref b)) Q E s := by
  obtain ⟨us, ws, n, n2, g1, g2, _, _, _⟩ := hl _ _ h
  refine wpAny_richCompare_same_room (op := .NotEq) ⟨_, g1, rfl⟩ ⟨_, g2, rfl⟩ F.slot_list_ne (GQ.call_here F.slot_list_ne ⟨_, g1, rfl⟩ F.entry_list_ne (F.args_list_ne_2 _ _) ?_) hu
  exact list_ne (R := wants (fun v s' => v ≠ .notImplemented ∧ Q v s') E) l b N I hl (fun s' q => ⟨(fun x => nomatch x), fin s' q⟩) h
end
section
variable {X : Cx} {n : Nat} {D : Eqv}
theorem ncG_list (hD : Mon D) (h : EqG X n D) : NcG X (n + 1) (DList D) := by
  intro A pins s σ H x y u v sb I rx ry d
  obtain ⟨a, b, xs, ys, rfl, rfl, ha, hb, p⟩ := d
  cases rx
  cases ry
  refine rn_list (N := xs.length) sb.room.units0 (fun _ s' => LoopI X pins σ H s') (fun i s' q => ?_) (fun s' q => ⟨rfl, q⟩) ⟨H, I, Ext.rfl'⟩
  obtain ⟨H1, I1, e1⟩ := id q
  obtain ⟨z, its, k, r, e⟩ := I1.hok a _ (e1 _ _ ha)
  obtain ⟨z2, its2, k2, r2, e2⟩ := I1.hok b _ (e1 _ _ hb)
  exact ⟨its.toArray, its2.toArray, k, k2, e, e2, by rw [List.size_toArray, ← r.length], by rw [List.size_toArray, ← r2.length, ← p.1], fun h1 h2 => turnG hD h sb p r r2 i h1 h2 s' q⟩
theorem NcG.or {D' : Eqv} (h : NcG X n D) (h' : NcG X n D') : NcG X n (fun x y H => D x y H ∨ D' x y H) := fun A pins s σ H x y u v sb I rx ry d => d.elim (fun d => h A pins s σ H x y u v sb I rx ry d) fun d => h' A pins s σ H x y u v sb I rx ry d
/-! ### lines; what is due to the holders of a bed -/
def rNeLine (K : PySem.W.Frag) : R2 := fun x y H Q => ∃ l, LnAt K H x l ∧ LnAt K H y l ∧ ∀ H', Same H H' → Q (.bl false) H'
theorem op_neLine (T : Txt X.K X.mg) (hr : Room (n + 5) X.A) : OpR X (compareOp .NotEq) (rNeLine X.K) := by
  obtain ⟨f1, F1, G1⟩ := fn_Promise_eq (P := X.prog) (w := X.w) (base := X.base) T
  obtain ⟨f2, F2, G2⟩ := fn_Spoiling_eq (P := X.prog) (w := X.w) (base := X.base) T
  have b1 := F1.bindsN (ps := ["self", "other"]) (fun _ _ _ _ _ _ us hl => match us, hl with | [_, _], _ => rfl)
  have b2 := F2.bindsN (ps := ["self", "other"]) (fun _ _ _ _ _ _ us hl => match us, hl with | [_, _], _ => rfl)
  have c1 := ncG_ins (G1.imp (sp' := spEq (REqProm X.K)) fun vs H Q E h => ⟨by obtain ⟨a, b, e, _⟩ := h; rw [e]; rfl, h⟩) T.ne_Promise T.me_Promise_eq.at_ T.me_Promise_eq.fn T.im_Promise b1 pass0
  have c2 := ncG_ins (G2.imp (sp' := spEq (REqSpoil X.K)) fun vs H Q E h => ⟨by obtain ⟨a, b, e, _⟩ := h; rw [e]; rfl, h⟩) T.ne_Spoiling T.me_Spoiling_eq.at_ T.me_Spoiling_eq.fn T.im_Spoiling b2 pass0
  have c3 := op_neG (c1.or c2) (hr.mono (by omega))
  intro pins s σ H x y v u Q I rx ry hq
  refine c3 pins s σ H x y v u Q I rx ry ?_
  obtain ⟨l, ⟨a, rfl, ha⟩, ⟨b, rfl, hb⟩, q⟩ := hq
  refine ⟨?_, q⟩
  cases l with
  | prom p =>
    obtain ⟨⟨dx, h1⟩, _⟩ := id ha
    obtain ⟨⟨dy, h2⟩, _⟩ := id hb
    exact .inl ⟨a, b, dx, dy, _, _, rfl, rfl, h1, h2, p, ha, hb⟩
  | spoil m t x =>
    obtain ⟨dx, h1⟩ := id ha
    obtain ⟨dy, h2⟩ := id hb
    exact .inr ⟨a, b, dx, dy, _, _, rfl, rfl, h1, h2, m, t, x, ha, hb⟩
end
end RP
set_option Elab.async false
set_option linter.all false
set_option maxRecDepth 100000
set_option maxHeartbeats 4000000
/-! rootpledge k80: rules of our own, 7: sorted(lines, key=when) -/
namespace RP
open PySem PySem.Spec PyProof.Rows L2
/-- sorted(lines, key=when) -/
def rSortWhen (K : PySem.W.Frag) : List V → List V → Hp → VK → Prop := fun vs zs H Q => ∃ a xs ls, vs = [.ref a] ∧ zs = [.ref (He.ga K "when")] ∧ SqL K H a xs ∧ Fits (LnAt K) H xs ls ∧ ls.length ≤ 1000 ∧
  ∀ p us ys H', H p = none → Same H H' → H' p = some (.lst us) → InTime ls ys → us.length = ys.length → (∀ R : V → Ln → Prop, (∀ (i : Nat) v l, xs[i]? = some v → ls[i]? = some l → R v l) → ∀ (i : Nat) v l, us[i]? = some v → ys[i]? = some l → R v l) → Q (.ref p) H'
/-! ### records of ours that are not tracked -/
def Ours (X : Cx) (pins : List (Addr × Obj)) (it : Addr) : Prop := X.s_0.heap.objs.size ≤ it ∧ it ≠ X.env.locals ∧ (∀ x c, X.env.cells.lookup x = some c → c ≠ it) ∧ (∀ p ∈ X.pn ++ pins, p.1 ≠ it) ∧ ¬ it ∈ X.fs
section
variable {X : Cx} {pins : List (Addr × Obj)} {σ : L2.St} {H : Hp} {s : Shared}
theorem ours_new (I : Inv X pins σ H s) {it : Addr} (h : s.heap.objs.size ≤ it) : Ours X pins it := by
  have lt : ∀ {b o}, s.heap.get? b = some o → b ≠ it := fun {b o} e => Nat.ne_of_lt (Nat.lt_of_lt_of_le (Heap.lt_size e) h)
  refine ⟨Nat.le_trans I.sz h, Nat.ne_of_gt (Nat.lt_of_lt_of_le I.lt h), fun x c e => ?_, fun p hp => lt (I.pin p hp).1, I.nofs h⟩
  obtain ⟨v, o, ho, _⟩ := I.cell x c e
  exact lt ho
theorem Ours.stk {it : Addr} (o : Ours X pins it) (I : Inv X pins σ H s) : ¬ it ∈ frs X.stack := fun z => (List.mem_cons.mp (I.stkSub it z)).elim o.2.1 o.2.2.2.2
theorem turnedL {h' : Heap} {t' : Nat} {ch : List Addr} (I : Inv X pins σ H s) (k : ∀ b o, ¬ b ∈ ch → s.heap.get? b = some o → h'.get? b = some o) (hn : ∀ b ∈ ch, H b = none ∧ Ours X pins b) : Inv X pins σ H { s with heap := h', toks := t' } := by
  have nch : ∀ b u, H b = some u → ¬ b ∈ ch := fun b u e z => by
    rw [(hn b z).1] at e
    cases e
  refine I.step (g' := s.gens) (d' := s.drawn) (ch := ch) (fun b hb => ⟨.inr (hn b hb).2.1, (hn b hb).2.2.1, (hn b hb).2.2.2.1, (hn b hb).2.2.2.2.1⟩) (fun b o _ _ hc e _ => k b o hc e) (fun b o _ _ hc e _ => ⟨o.slots, k b o hc e⟩) (fun _ _ _ _ n => n)
    (fun b o hc e => ⟨o, k b o hc e⟩) (fun _ _ e => e) (fun _ _ _ e => e) (fun b ps e => ⟨#[], by rw [e]; simp⟩) (fun m hm => ?_) (fun b u e => ?_) I.bare
  · obtain ⟨o, es, ep, ho, r⟩ := hm
    exact ⟨o, es, ep, k _ o (fun z => (hn _ z).2.2.1 rfl) ho, r⟩
  · refine (I.hok b u e).stay (fun c v hc q => k c v ?_ q) (fun _ q => q) fun _ _ q => q
    rcases hc with z | z
    · rw [z]
      exact nch b u e
    · exact nch c _ z
theorem track {a : Addr} {o : HO} (I : Inv X pins σ H s) (hn : H a = none) (oa : Ours X pins a) (new : ObjOk X.prog X.w (upd H a o) s.heap a o) : Inv X pins σ (upd H a o) s := by
  have ne0 : ∀ b u, X.s_0.heap.get? b = some u → b ≠ a := fun b u e => Nat.ne_of_lt (Nat.lt_of_lt_of_le (Heap.lt_size e) oa.1)
  have up : ∀ b u, H b = some u → upd H a o b = some u := fun b u e => by
    rw [upd_ne (ne_of_none e hn)]
    exact e
  refine ⟨I.ok, I.os, I.bare, ⟨I.base.keep, I.base.slot, fun b u e n hx => ?_, I.base.there, fun b xs e => up _ _ (I.base.tups b xs e), fun b u xs e => up _ _ (I.base.frzs b u xs e), fun b ps e => ?_⟩, I.loc, I.cell, ?_, fun x c e => ?_, fun p hp => ?_, fun b u e => ?_, I.len⟩
  · rw [upd_ne (ne0 b u e)]
    exact I.base.free b u e n hx
  · obtain ⟨m, q⟩ := I.base.tbls b ps e
    exact ⟨m, up _ _ q⟩
  · rw [upd_ne (fun z => oa.2.1 z.symm)]
    exact I.free
  · rw [upd_ne (oa.2.2.1 x c e)]
    exact I.freeC x c e
  · obtain ⟨h1, h2, h3⟩ := I.pin p hp
    refine ⟨h1, ?_, h3⟩
    rw [upd_ne (oa.2.2.2.1 p hp)]
    exact h2
  · by_cases hb : b = a
    · subst hb
      rw [upd_same] at e
      cases e
      exact new
    · rw [upd_ne hb] at e
      exact (I.hok b u e).stay (fun _ _ _ q => q) (fun c q => up _ _ q) fun c xs q => up _ _ q
end
/-! ### the loop over the keys -/
def lnD (l : Ln) : PyData := .tuple [.int (l.mom : Nat), .int (l.num : Nat)]
def WhenAt : Hp → V → Ln → Prop := fun H v l => ∃ t, v = .ref t ∧ H t = some (.tup [.int (l.mom : Nat), .int (l.num : Nat)])
theorem mo_when : Mo WhenAt := fun H H' v l e ⟨t, h1, h2⟩ => ⟨t, h1, e _ _ h2⟩
theorem lnD_alike (ls : List Ln) : PySem.W.AllAlike (ls.map lnD) := PySem.W.AllAlike.of fun a b => rfl
theorem lnD_sortable (ls : List Ln) : PySem.W.Sortable (ls.map lnD) := PySem.W.Sortable.tuples fun l => ⟨_, _, rfl⟩
theorem lnD_depth (ls : List Ln) : ∀ d ∈ ls.map lnD, d.depth = 1 := fun d hd => by
  obtain ⟨l, _, rfl⟩ := List.mem_map.mp hd
  rfl
section
variable {X : Cx} {pins : List (Addr × Obj)} {σ : L2.St}
theorem when_reads {H : Hp} {s : Shared} (I : Inv X pins σ H s) : ∀ {ks : List V} {us : List Value} {ls : List Ln}, Vals ks us → Fits WhenAt H ks ls → PySem.W.EachIs (fun v k => ∃ as, Reads s.heap v k as) us (ls.map lnD)
  | [], _, [], .nil, _ => .nil
  | [], _, l :: ls, .nil, f => by cases f.1
  | k :: ks, _, [], .cons _ _, f => by cases f.1
  | k :: ks, u :: us, l :: ls, .cons r rs, f => by
    obtain ⟨t, rfl, ht⟩ := f.2 0 k l rfl rfl
    refine .cons (Dp.reads I (lnD l) _ _ ?_ r) (when_reads I rs ⟨Nat.succ.inj f.1, fun i v x h1 h2 => f.2 (i + 1) v x (by simpa using h1) (by simpa using h2)⟩)
    exact .tup (SqT.of ht) (.cons (.int _) (.cons (.int _) .nil))
theorem when_rest {A' : Around} (hr : Room 1 A') (he : ∀ {H s}, Inv X pins σ H s → Env0 X.prog X.w X.K X.mg X.base A' X.stack s H) {f : Addr} {fd : FuncData} {ps : List Str} (F : FnOk X.prog X.w X.K X.mg X.base CX0 1 f fd ps (sp_when X.K)) (hb : Binds X.K fd ps [])
    {a kS : Addr} (oa : Ours X pins a) (ok : Ours X pins kS) (hka : kS ≠ a) {vs : List Value} {xs : List V} {ls : List Ln} {H : Hp} {s : Shared} {e1 : Nat} (I : Inv X pins σ H s) (ha : H a = none) (hk : H kS = none) (nk : s.heap.get? kS = some (seqObj "list" #[] 0)) (na : s.heap.get? a = some (seqObj "list" #[] e1))
    (rv : Vals xs vs) (ff : Fits (LnAt X.K) H xs ls) (hZ : vs.length ≤ 1000) {P : PySem.Fin → Shared → Prop} {E : Value → Shared → Prop}
    (h : ∀ s' H' out c, Inv X pins σ H' s' → Same H H' → H' a = none → s'.heap.get? a = some (seqObj "list" (List.toArray out) c) → PySem.W.KeyedOut false (ls.map lnD) vs out → P (.done (.ret .none)) s') :
    wpAny (model X.prog X.w) A' (ksk_rest a (.ref f) false vs.toArray e1 (.ref kS)) P E s := by
  have hlx : xs.length = vs.length := rv.length
  have hll : xs.length = ls.length := ff.1
  unfold ksk_rest
  refine wpAny_bind (wpAny_rule ?_)
  first
    | rw [List.forIn_toArray]
    | (rw [← Array.forIn_toList]; simp only [List.toList_toArray])
  refine wpAny_bind (ksk_fold (fun i s' => ∃ H' kA ks e, Inv X pins σ H' s' ∧ Same H H' ∧ H' a = none ∧ H' kS = none ∧ s'.heap.get? kS = some (seqObj "list" kA e) ∧ s'.heap.get? a = some (seqObj "list" #[] e1) ∧ Vals ks kA.toList ∧ Fits WhenAt H' ks (ls.take i)) vs 0 s
    ⟨H, #[], [], 0, I, Same.refl _, ha, hk, nk, na, .nil, by rw [List.take_zero]; exact Fits.nil⟩ ?step ?done)
  case step =>
    rintro j x s1 hx ⟨H1, kA, ks, e, I1, e1', ha1, hk1, nk1, na1, rk, fk⟩
    simp only [Nat.zero_add] at fk ⊢
    have hj : j < vs.length := (List.getElem?_eq_some_iff.mp hx).1
    obtain ⟨x', hx', rx⟩ := rv.get (List.getElem?_eq_getElem (show j < xs.length by omega))
    rw [hx] at hx'
    cases hx'
    obtain ⟨l, hl, hv⟩ := ff.get2 (List.getElem?_eq_getElem (show j < xs.length by omega))
    have hv1 := mo_ln _ _ _ _ e1' hv
    have hsp : sp_when X.K [xs[j]'(by omega)] H1 (fun v H2 => ∃ t, v = .ref t ∧ H1 t = none ∧ H2 = upd H1 t (.tup [.int (l.mom : Nat), .int (l.num : Nat)])) E0 := ⟨rfl, _, l, rfl, hv1, fun t ht => ⟨t, rfl, ht, rfl⟩⟩
    have bd := hb s1 [x] I1.kIn (by simpa using F.len _ _ _ _ hsp)
    have hzk : kA.size ≤ vs.length := by
      have h1 := rk.length
      have h2 := fk.1
      have h3 : kA.toList.length = kA.size := Array.length_toList
      rw [List.length_take] at h2
      omega
    refine wpAny_bind (wpAny_attempt (wpAny_call (codeAny_mono (F.run A' X.stack s1 H1 ⟨[x], []⟩ [x] _ _ E0 hr (he I1) (by simpa using bd) (.cons rx .nil) hsp) fun r s2 hq => ?_)))
    cases r with
    | error e => exact False.elim hq
    | ok fl =>
      cases fl with
      | next => exact False.elim hq
      | brk => exact False.elim hq
      | cont => exact False.elim hq
      | ret u =>
        obtain ⟨v, H2, hos, bare, un, hok, ru, t, rfl, ht, rfl⟩ := hq
        have I2 := I1.call' hos un hok bare fun b z => nomatch z
        have nk2 := un.keep kS _ nk1 hk1 (ok.stk I1) (fun z => nomatch z)
        have na2 := un.keep a _ na1 ha1 (oa.stk I1) (fun z => nomatch z)
        have hk2 := un.free kS _ nk1 hk1 (fun z => nomatch z)
        have ha2 := un.free a _ na1 ha1 (fun z => nomatch z)
        have e2 := same_upd (o := .tup [.int (l.mom : Nat), .int (l.num : Nat)]) (Same.refl H1) ht
        have g2 : upd H1 t (.tup [.int (l.mom : Nat), .int (l.num : Nat)]) t = some (.tup [.int (l.mom : Nat), .int (l.num : Nat)]) := upd_same
        generalize upd H1 t (.tup [.int (l.mom : Nat), .int (l.num : Nat)]) = H2 at *
        try dsimp only
        have sb := Heap.SameBut.update s2.heap kS (Obj.mapSeq (·.push u))
        obtain ⟨c2, hc2⟩ : ∃ c2, (s2.heap.update kS (Obj.mapSeq (·.push u))).get? kS = some (seqObj "list" (kA.push u) c2) := ⟨_, get?_update_seq nk2 (·.push u)⟩
        have sl := sizeLine_eq
        refine wpAny_bind (listUpdate_at nk2 rfl ?_ (by omega) (by rw [Array.size_push]; omega))
        refine wpAny_pure ⟨rfl, H2, kA.push u, ks ++ [.ref t], c2, ?_, e1'.trans e2, ha2, hk2, hc2, (sb.2 a hka.symm).trans na2, ?_, ?_⟩
        · refine turnedL (t' := s2.toks) I2 (ch := [kS]) (fun b o hb e => (sb.2 b (fun z => hb (by rw [z]; exact List.mem_cons_self))).trans e) fun b hb => ?_
          rw [List.mem_singleton.mp hb]
          exact ⟨hk2, ok⟩
        · rw [Array.toList_push]
          exact rk.append (.cons ru .nil)
        · rw [take_snoc hl]
          exact (fk.same mo_when e2).snoc ⟨t, rfl, g2⟩
  case done =>
    rintro s1 ⟨H1, kA, ks, e, I1, e1', ha1, hk1, nk1, na1, rk, fk⟩
    rw [Nat.zero_add, List.take_of_length_le (by omega)] at fk
    have hsz : kA.size = vs.length := by
      have h1 := rk.length
      have h2 := fk.1
      have h3 : kA.toList.length = kA.size := Array.length_toList
      omega
    have er := when_reads I1 rk fk
    try dsimp only
    refine wpAny_bind (listItems_at nk1 rfl ?_)
    obtain ⟨G, g1, g2⟩ := restrict s1.heap fun b => decide (b ≠ kS)
    have hu : ∀ d, d ∈ ls.map lnD → A'.units + d.depth < cLine := fun d hd => by
      rw [lnD_depth ls d hd]
      have := hr.un
      omega
    refine PySem.W.keyH_end (κ := PySem.W.dataKind s1.heap (ls.map lnD)) (h₁ := G) (fun b o hb q => ?_) (g2 kS (decide_eq_false fun z => z rfl)) nk1 na1 hka (PySem.W.SortsAt.data er (lnD_alike ls) (lnD_sortable ls) hu) hsz (by have := sizeLine_eq; omega) fun h' tk c kp hc => ?_
    · by_cases hbk : b = kS
      · rw [hbk, g2 kS (decide_eq_false fun z => z rfl)] at q
        cases q
      · rw [g1 b (decide_eq_true hbk)] at q
        exact q
    · refine h _ H1 _ c (turnedL (t' := tk) (ch := [kS, a]) I1 (fun b o hb e => kp b o (fun z => hb (by rw [z]; exact List.mem_cons_of_mem _ List.mem_cons_self)) (by rw [g1 b (decide_eq_true (fun z => hb (by rw [z]; exact List.mem_cons_self)))]; exact e)) fun b hb => ?_) e1' ha1 hc ⟨s1.heap, kA.toList, lnD_alike ls, rfl, er⟩
      rcases List.mem_cons.mp hb with rfl | hb
      · exact ⟨hk1, ok⟩
      · rw [List.mem_singleton.mp hb]
        exact ⟨ha1, oa⟩
end
theorem each_of {α β : Type} {R : α → β → Prop} {as : List α} {bs : List β} (hl : as.length = bs.length) (h : ∀ (i : Nat) a b, as[i]? = some a → bs[i]? = some b → R a b) : PySem.W.EachIs R as bs := by
  refine PySem.W.EachIs.of_zip hl fun p hp => ?_
  obtain ⟨i, hi⟩ := List.mem_iff_getElem?.mp hp
  obtain ⟨h1, h2⟩ := List.getElem?_zip_eq_some.mp hi
  exact h i _ _ h1 h2
theorem each_at {α β : Type} {R : α → β → Prop} {as : List α} {bs : List β} (e : PySem.W.EachIs R as bs) {i : Nat} {a : α} {b : β} (h1 : as[i]? = some a) (h2 : bs[i]? = some b) : R a b :=
  e.zip (a, b) (List.mem_of_getElem? (i := i) (List.getElem?_zip_eq_some.mpr ⟨h1, h2⟩))
theorem sort_lines (ls : List Ln) : InTime ls (ls.mergeSort (PySem.W.dataLe false lnD)) := by
  refine ⟨List.mergeSort_perm _ _, ?_⟩
  have h : (ls.mergeSort (PySem.W.dataLe false lnD)).Pairwise fun a b => PySem.W.dataLe false lnD a b = true := PySem.W.sort_pairwise (PySem.W.sortLe_total _ false _) ls
  refine h.imp fun {a b} q => ?_
  have e := PySem.W.dataLe_ii (fun l : Ln => (l.mom : Int)) (fun l : Ln => (l.num : Int))
  have q2 : PySem.W.dataLe false (fun l : Ln => PyData.tuple [.int (l.mom : Int), .int (l.num : Int)]) a b = true := q
  rw [e] at q2
  have q3 := of_decide_eq_true q2
  show a.mom < b.mom ∨ (a.mom = b.mom ∧ a.num ≤ b.num)
  omega
theorem cr_sortedWhen {X : Cx} (T : Txt X.K X.mg) (hr : Room 4 X.A) : CallRK X (.builtin "sorted") [Str.ofString "key"] (rSortWhen X.K) := by
  intro pins s σ H vs zs us ws Q I r rz h
  obtain ⟨a0, xs, ls, rfl, rfl, hs, ff, hl, q⟩ := h
  obtain rfl := Vals.ref1 r
  obtain ⟨w1, rfl, e1⟩ := vals1 rz
  obtain rfl : w1 = Value.ref (He.ga X.K "when") := e1
  obtain ⟨its, rv, pl, hz⟩ := I.list hs
  obtain ⟨f, fd, ps, ds, hm, _, F, hb, hd⟩ := (ok_when (P := X.prog) (w := X.w) (base := X.base) T).ex
  obtain rfl : f = He.ga X.K "when" := by
    have h2 := T.g_when
    rw [hm] at h2
    injection h2 with h2
    injection h2
  cases hd
  have hlen : its.length = ls.length := rv.length.symm.trans ff.1
  have hi := sizeLine_eq
  refine PySem.W.sorted_of_sort pl.isList (by omega) (ksk_s1 _ _) (fun _ => ksk_l1 _ _) fun E' => ?_
  show wpAny _ _ (Builtin.«list.sort» ⟨[.ref (s.heap.objs.size + 1)], [(Str.ofString "key", .ref (He.ga X.K "when"))]⟩) _ _ _
  rw [ksk_t1]
  have Ic : Inv X pins σ H { s with heap := PySem.W.copyHeap s.heap its } := I.kept (t' := s.toks) fun b u e => PySem.W.copyHeap_old e
  have oa : Ours X pins (s.heap.objs.size + 1) := ours_new I (Nat.le_succ _)
  have ha : H (s.heap.objs.size + 1) = none := I.hok.fresh (Nat.le_succ _)
  have ho := PySem.W.copyHeap_at s.heap its
  have hlt : s.heap.objs.size + 1 < ({ s with heap := PySem.W.copyHeap s.heap its } : Shared).heap.objs.size := Heap.lt_size ho
  have ho1 : ({ s with heap := PySem.W.copyHeap s.heap its } : Shared).heap.get? (s.heap.objs.size + 1) = some (seqObj "list" its.toArray 0) := ho
  show wpAny _ _ _ (fun f s' => f = Fin.done (Flow.ret Value.none) ∧ EP X pins σ Q (Value.ref (s.heap.objs.size + 1)) s') E' ({ s with heap := PySem.W.copyHeap s.heap its } : Shared)
  generalize s.heap.objs.size + 1 = p at oa ha ho1 hlt ⊢
  generalize ({ s with heap := PySem.W.copyHeap s.heap its } : Shared) = s1 at Ic ho1 hlt ⊢
  clear I ho hs pl
  obtain ⟨e1, ho2⟩ : ∃ e1, (s1.heap.update p (Obj.mapSeq fun _ => (#[] : Array Value))).get? p = some (seqObj "list" #[] e1) := ⟨_, get?_update_seq ho1 fun _ => #[]⟩
  have hkS : ((s1.heap.update p (Obj.mapSeq fun _ => (#[] : Array Value))).push (seqObj "tuple" its.toArray 0)).objs.size = s1.heap.objs.size + 1 := by rw [size_push', Heap.size_update]
  unfold ksk_tree
  refine wpAny_bind (listItems_at ho1 rfl ?_)
  refine wpAny_bind (listUpdate_at ho1 rfl ?_ (by rw [List.size_toArray]; omega) (Nat.zero_le _))
  refine wpAny_bind (seqEpoch_at ho2 rfl ?_)
  refine wpAny_bind (wpAny_newTuple ?_ (by show its.length ≤ _; omega))
  refine wpAny_bind (wpAny_newList ?_ (Nat.zero_le _))
  refine wpAny_holding ?_
  have okS : Ours X pins (s1.heap.objs.size + 1) := ours_new Ic (Nat.le_succ _)
  have hk : H (s1.heap.objs.size + 1) = none := Ic.hok.fresh (Nat.le_succ _)
  have I2 : Inv X pins σ H { s1 with heap := ((s1.heap.update p (Obj.mapSeq fun _ => (#[] : Array Value))).push (seqObj "tuple" its.toArray 0)).push (seqObj "list" #[] 0) } := by
    refine turnedL (t' := s1.toks) (ch := [p]) Ic (fun b o hb e => PySem.W.sortingHeap_old (vs := its) (fun z => hb (by rw [z]; exact List.mem_cons_self)) e) fun b hb => ?_
    rw [List.mem_singleton.mp hb]
    exact ⟨ha, oa⟩
  refine when_rest (hr.in1.in1.mono (by omega)) (fun I => I.env0.in1.in1) F hb oa (kS := ((s1.heap.update p (Obj.mapSeq fun _ => (#[] : Array Value))).push (seqObj "tuple" its.toArray 0)).objs.size) (by rw [hkS]; exact okS) (by rw [hkS]; exact Nat.ne_of_gt (Nat.lt_succ_of_lt hlt)) I2 ha (by rw [hkS]; exact hk)
    (Heap.get?_push_size _ rfl) (Heap.get?_push_of_some _ (Heap.get?_push_of_some _ ho2)) rv ff (by omega) fun s' H' out c I' e' ha' hc ko => ⟨rfl, ?_⟩
  have e0 : PySem.W.EachIs (fun (u : Value) (l : Ln) => ∃ (i : Nat) (q : Addr), xs[i]? = some (.ref q) ∧ ls[i]? = some l ∧ u = .ref q) its ls := by
    refine each_of hlen fun i u l h1 h2 => ?_
    obtain ⟨v, hv, a, rfl, _⟩ := ff.get h2
    obtain ⟨u', hu, ru⟩ := rv.get hv
    rw [h1] at hu
    cases hu
    exact ⟨i, a, hv, h2, ru⟩
  have e2 := PySem.W.keyedOut_each lnD ko e0
  have hT := sort_lines ls
  generalize ls.mergeSort (PySem.W.dataLe false lnD) = ys at e2 hT
  have hol : out.length = ys.length := e2.length
  have hyl := hT.perm.length_eq
  have refs : ∀ u ∈ out, ∃ a, u = Value.ref a := fun u hu => by
    obtain ⟨l, _, i, q, _, _, e⟩ := e2.left u hu
    exact ⟨q, e⟩
  have hul : (out.map backV).length = ys.length := by rw [List.length_map, hol]
  have I3 := track (o := .lst (out.map backV)) I' ha' oa ⟨by rw [hul]; omega, out, c, vals_back refs, hc⟩
  refine ⟨.ref p, _, I3, rfl, q p (out.map backV) ys _ ha (same_upd e' ha) upd_same hT hul fun R hR i v l h1 h2 => ?_⟩
  rw [List.getElem?_map] at h1
  cases ho3 : out[i]? with
  | none =>
    rw [ho3] at h1
    cases h1
  | some u =>
    rw [ho3] at h1
    obtain ⟨j, q, g1, g2, rfl⟩ := each_at e2 ho3 h2
    cases h1
    exact hR j _ l g1 g2
end RP
set_option Elab.async false
set_option linter.all false
set_option maxRecDepth 100000
set_option maxHeartbeats 4000000
/-! rootpledge k80: rules of our own, 3 -/
namespace RP
open PySem PySem.Spec PyProof.Rows L2
/-- list(d.values()) -/
def tListVals (te : TE) : TE := fun σ H Q => te σ H fun x H1 => ∃ (d : Addr) (kvs : List (Key × V)), x = .ref d ∧ H1 d = some (.dK kvs) ∧ ∀ p, H1 p = none → Q (.ref p) (upd H1 p (.lst (kvs.map (·.2))))
theorem vals_of : ∀ {ps : List (Key × V)} {us : List Value}, ps.length = us.length → (∀ (i : Nat) p u, ps[i]? = some p → us[i]? = some u → RelV p.2 u) → Vals (ps.map (·.2)) us
  | [], [], _, _ => .nil
  | [], _ :: _, h, _ => by cases h
  | _ :: _, [], h, _ => by cases h
  | p :: ps, u :: us, h, r => .cons (r 0 p u rfl rfl) (vals_of (Nat.succ.inj h) fun i p u a b => r (i + 1) p u (by simpa using a) (by simpa using b))
theorem paired_at {α β : Type} {F : α → β → Prop} : ∀ {xs : List α} {ys : List β}, Paired F xs ys → ∀ {i : Nat} {x : α} {y : β}, xs[i]? = some x → ys[i]? = some y → F x y
  | _, _, .nil, i, x, y, h, _ => by cases h
  | _, _, .cons r t, 0, x, y, h, h' => by
    have e := Option.some.inj h
    have e' := Option.some.inj h'
    subst e
    subst e'
    exact r
  | _, _, .cons r t, i + 1, x, y, h, h' => paired_at t h h'
theorem pe_listVals {X : Cx} {e : Expr} {te : TE} {p apos cpos pos : Pos} (hm : X.mg "list" = none) (he : PE X e te) (hc : X.calm = true := by rfl) (hg : Gl X "list" := by rfl) (hbase : attributeBase e "values" X.env (eval e X.env) = eval e X.env := by rfl) (hline : (apos.endLine == cpos.line) = true := by rfl)
    (hs : starEach [.Call (.Attribute e "values" apos) [] [] cpos] X.env = (false, eval (.Call (.Attribute e "values" apos) [] [] cpos) X.env) :: starEach [] X.env := by rfl) :
    PE X (.Call (.Name "list" p) [.Call (.Attribute e "values" apos) [] [] cpos] [] pos) (tListVals te) := by
  constructor
  intro pins s σ H Q I hq
  refine wpAny_Call_Name_kw (ld_blt I hg hm b_list (PyProof.Rows.callWith_type1 ?_ hs rfl))
  rw [hs]
  refine Calls.spliced_cons (wpAny_Call_method (T := "dict") (id := "dict.values") hbase rfl hline F.plainAttrs_dict F.slot_dict_values F.type_dict_values (thn (he.run pins s σ H _ I hq) ?_))
  rintro u s1 ⟨x, H1, I1, rx, d, kvs, rfl, hd, q⟩
  cases rx
  obtain ⟨hz, hsy, ws, kv, hdo⟩ := I1.hok d _ hd
  obtain ⟨es, ep, raw, hes, hat⟩ := hdo.raw
  have lk : kvs.length = ws.length := Paired.length kv
  refine ⟨hdo.typeIs, hdo.mapOf.noDict, method_meetsIn F.slot_dict_values F.entry_dict_values rfl (PySem.evalArgs_none ⟨rfl, hdo.typeIs, F.args_dict_values_1 _, _, meets_dict_values (mixKind X.prog X.w) d hsy, ⟨ws, hdo⟩, Calls.spliced_nil ?_⟩)⟩
  have vw : ({ s1 with heap := s1.heap.push { cls := .type "dict_values", data := .fields #[.ref d] } } : Shared).heap.IsValuesView s1.heap.objs.size d := ⟨_, Heap.get?_push_size _ rfl, rfl, rfl⟩
  have rw2 : ({ s1 with heap := s1.heap.push { cls := .type "dict_values", data := .fields #[.ref d] } } : Shared).heap.DictRaw d es ep := raw.at fun o z => Heap.get?_push_of_some _ z
  have I2 : Inv X pins σ H1 { s1 with heap := s1.heap.push { cls := .type "dict_values", data := .fields #[.ref d] } } := I1.kept (t' := s1.toks) fun b ob z => Heap.get?_push_of_some _ z
  refine PySem.W.kdl_call KdlSrc.rawValues (I1.ok.hd hc) ⟨vw, rw2⟩ (by omega) fun h' tk acc c hk hD hacc => ?_
  have hv : Vals (kvs.map (·.2)) acc.toList := by
    refine vals_of (by have h1 := hacc.1; have h2 : acc.toList.length = acc.size := Array.length_toList; omega) fun i p u hp hu => ?_
    have hu2 : acc[i]? = some u := by rw [← Array.getElem?_toList]; exact hu
    obtain ⟨hi, hval⟩ := hacc.2 i u hu2
    have hwi : i < ws.length := by omega
    obtain ⟨_, h2⟩ := hat i hi _ _ (List.getElem?_eq_getElem hwi)
    have h3 := paired_at kv hp (List.getElem?_eq_getElem hwi)
    rw [hval, h2]
    exact h3.2
  exact ⟨.ref _, upd H1 _ (.lst (kvs.map (·.2))), I2.laid (t' := tk) hk (Nat.le_refl _) ⟨by rw [List.length_map]; exact hz, acc.toList, c, hv, by rw [Array.toArray_toList]; exact hD⟩, rfl, q _ (I2.hok.fresh (Nat.le_refl _))⟩
end RP
set_option Elab.async false
set_option linter.all false
set_option maxRecDepth 100000
set_option maxHeartbeats 4000000
/-! rootpledge k80: rules of our own, 4 -/
namespace RP
open PySem PySem.Spec PyProof.Rows L2
/-- xs != [], [] written -/
def rNeNil : R2 := fun x y H Q => ∃ a b xs, x = .ref a ∧ y = .ref b ∧ H a = some (.lst xs) ∧ H b = some (.lst []) ∧ Q (.bl (!xs.isEmpty)) H
theorem op_neNil {X : Cx} (hu : X.A.units < cLine) : OpR X (compareOp .NotEq) rNeNil := by
  intro pins s σ H x y v u Q I rx ry h
  obtain ⟨a, b, xs, rfl, rfl, ha, hb, q⟩ := h
  cases rx
  cases ry
  obtain ⟨its, rv, hl, _⟩ := I.list (SqL.of ha)
  obtain ⟨its2, rv2, hl2, _⟩ := I.list (SqL.of hb)
  have h2 : its2 = [] := by
    have := rv2.length
    cases its2 with
    | nil => rfl
    | cons => simp at this
  subst h2
  show wpAny (model X.prog X.w) X.A (richCompare .NotEq (.ref a) (.ref b)) (EP X pins σ Q) X.xe s
  cases xs with
  | nil =>
    have h1 : its = [] := by
      have := rv.length
      cases its with
      | nil => rfl
      | cons => simp at this
    subst h1
    have := SeqAt.RcNeAt.lists (A := X.A) (s := s) (e := fun _ => true) hl.isList hl2.isList rfl hu fun j j1 _ => absurd j1 (Nat.not_lt_zero j)
    exact this X.prog X.w X.xe _ ⟨.bl false, H, I, rfl, q⟩
  | cons x xs =>
    have hne : its.toArray.size ≠ ([] : List Value).toArray.size := by
      have := rv.length
      rw [List.length_cons] at this
      rw [List.size_toArray, ← this]
      exact Nat.succ_ne_zero _
    have := SeqAt.RcNeAt.lists_lengths (A := X.A) (s := s) hl.isList hl2.isList (by simpa using hne) hu
    exact this X.prog X.w X.xe _ ⟨.bl true, H, I, rfl, q⟩
/-- len of an instance with its own __len__ -/
def rLenObj (C : Addr) (sp : Sp) : List V → Hp → VK → Prop := fun xs H Q => ∃ a dx fs, xs = [.ref a] ∧ H a = some (.ins C dx fs) ∧ sp [.ref a] H (fun v H' => ∃ n : Nat, v = .int (n : Nat) ∧ n < 1000000 ∧ Q (.int (n : Nat)) H') E0
theorem call_lenObj {X : Cx} {C : Addr} {k : Nat} {sp : Sp} (M : Mx X.prog X.w X.K X.mg X.base C "__len__" k sp) (hr : Room (k + 1) X.A) : CallR X (.builtin "len") (rLenObj C sp) := by
  intro pins s σ H xs us Q I r h
  obtain ⟨a, dx, fs, rfl, ha, hsp⟩ := h
  obtain ⟨u, rfl, rx⟩ := vals1 r
  cases rx
  obtain ⟨f, fd, ps, hm, F, hb⟩ := M.ex
  obtain ⟨mA, J, _⟩ := ins_get I.hok ha
  obtain ⟨od, J, _⟩ := J.look
  obtain ⟨m, hF⟩ := I.fr
  refine PySem.W.len_K hF I.ok.mod.kin J hm.at_ hm.fn ?_
  have hl := F.len _ _ _ _ hsp
  have bd := hb s [.ref a] I.kIn (by simpa using hl)
  refine wpAny_call (codeAny_mono (F.run X.A.in1 X.stack s H ⟨[.ref a], []⟩ [.ref a] [.ref a] _ E0 hr.in1 I.env0.in1 (by simpa using bd) (.cons rfl .nil) hsp) fun o s' hq => ?_)
  cases o with
  | error e => exact False.elim hq
  | ok fl =>
    cases fl with
    | ret w =>
      obtain ⟨z, H', I', rz, n, ez, hn, q⟩ := I.after hq
      subst ez
      obtain ⟨t, rfl⟩ := rz
      exact ⟨⟨by omega, by omega⟩, ⟨.int (n : Nat), H', I'.tok _, ⟨_, rfl⟩, q⟩⟩
    | next => exact False.elim hq
    | brk => exact False.elim hq
    | cont => exact False.elim hq
end RP
set_option Elab.async false
set_option linter.all false
set_option maxRecDepth 100000
set_option maxHeartbeats 400000
/-! rootpledge k80: the program's Ledger -/
namespace RP
open PySem PySem.Spec PyProof.Rows L2
def sp_in_time (K : PySem.W.Frag) : Sp := spA 1 fun vs H Q => ∃ a xs ls G, vs = [.ref a] ∧ Same G H ∧ H a = some (.lst xs) ∧ Fits (LnAt K) G xs ls ∧ ls.length ≤ 1000 ∧ ∀ p ys us H', H p = none → Same H H' → InTime ls ys → H' p = some (.lst us) → Fits (LnAt K) G us ys → Q (.ref p) H'
def ledFs (f kn : Addr) (cm : V) : List (Str × V) := [("field", .ref f), ("known_lines", .ref kn), ("come", cm)]
/-- the known lines -/
def KnownAt (K : PySem.W.Frag) (G : Hp) (kvs : List (Key × V)) (ls : List Ln) : Prop := kvs.map (·.1) = ls.map (fun l => Sum.inl (l.num : Int)) ∧ Fits (LnAt K) G (kvs.map (·.2)) ls
/-- a ledger at x, its cells F -/
structure LedAt (K : PySem.W.Frag) (H : Hp) (F : Addr → Prop) (x f : Addr) (bs : List BedR) (ls : List Ln) : Prop where
  ex : ∃ dx kn cm, H x = some (.ins (cLedger K) dx (ledFs f kn cm)) ∧ (∃ kvs, H kn = some (.dK kvs) ∧ KnownAt K (cut H F) kvs ls) ∧
    ((cm = .non ∧ F = fun a => a = x ∨ a = kn) ∨ ∃ c dxs ys, cm = .ref (c .root) ∧ (F = fun a => a = x ∨ a = kn ∨ foot c (Bsh bs) a) ∧ InTime ls ys ∧ Rep (knStd K f dxs) (Bsh bs) 5000 H c (led bs ys) ∧ ¬ foot c (Bsh bs) x ∧ ¬ foot c (Bsh bs) kn)
  fl : FieldAt K (cut H F) f bs
  len : ls.length ≤ 40
  nd : (ls.map (·.num)).Nodup
def sp_Ledger_init (K : PySem.W.Frag) : Sp := spA 2 fun vs H Q => ∃ x f dx, vs = [.ref x, .ref f] ∧ H x = some (.ins (cLedger K) dx []) ∧ ∀ kn H', H kn = none → (∀ a o, a ≠ x → H a = some o → H' a = some o) → H' x = some (.ins (cLedger K) dx (ledFs f kn .non)) → H' kn = some (.dK []) → Q .non H'
def sp_Ledger_len (K : PySem.W.Frag) : Sp := spA 1 fun vs H Q => ∃ x dx f kn cm kvs, vs = [.ref x] ∧ H x = some (.ins (cLedger K) dx (ledFs f kn cm)) ∧ H kn = some (.dK kvs) ∧ Q (.int (kvs.length : Nat)) H
def sp_Ledger_check (K : PySem.W.Frag) : Sp := spA 2 fun vs H Q => ∃ x dx kn cm f bs Nm v l, vs = [.ref x, v] ∧ H x = some (.ins (cLedger K) dx (ledFs f kn cm)) ∧ FieldAt K H f bs ∧ LnAt K H v l ∧ LnOk bs Nm l ∧ ∀ H', Same H H' → Q .non H'
def sp_Ledger_tell (K : PySem.W.Frag) : Sp := spA 2 fun vs H Q => ∃ x F f bs ls Nm v l, vs = [.ref x, v] ∧ LedAt K H F x f bs ls ∧ LnAt K (cut H F) v l ∧ LnOk bs Nm l ∧
  (((¬ l.num ∈ ls.map (·.num)) ∧ ls.length < 40 ∧ ∀ F' H', Chg F F' H H' → LedAt K H' F' x f bs (ls ++ [l]) → Q (.str "kept") H') ∨ (l ∈ ls ∧ ∀ H', Same H H' → Q (.str "again") H'))
def sp_Ledger_lines (K : PySem.W.Frag) : Sp := spA 1 fun vs H Q => ∃ x dx kn cm f kvs ls G, vs = [.ref x] ∧ H x = some (.ins (cLedger K) dx (ledFs f kn cm)) ∧ H kn = some (.dK kvs) ∧ Same G H ∧ KnownAt K G kvs ls ∧ ls.length ≤ 1000 ∧
  ∀ p ys us H', H p = none → Same H H' → InTime ls ys → H' p = some (.lst us) → Fits (LnAt K) G us ys → Q (.ref p) H'
section
variable {P : Program} {w : World} {K : PySem.W.Frag} {mg : Str → Option Value} {base : Heap}
theorem ok_in_time (T : Txt K mg) : Fx P w K mg base "in_time" 5 [] (sp_in_time K) := by
  obtain ⟨fd, F⟩ := T.d_in_time
  refine ⟨_, fd, _, [], T.g_in_time, F.kp, fn_body F sc_in_time rfl (fun cdv A outer s H vs Q E hr h => ?_), F.bindsN (fun _ _ _ _ _ _ us hl => match us, hl with | [_], _ => rfl), .nil⟩
  have nd := sc_in_time.nd
  have hu := hu_of hr
  obtain ⟨a, vs, ls, G, rfl, eG, ga, fa, hl, k⟩ := h
  refine ⟨_, (pss_one (ps_ret (pe_callBK (cr_sortedWhen T (hr.mono (by decide))) (by rfl) T.n_sorted b_sorted (pa_cons (pv 0) pa_nil) (pk_cons (pe_glob (v := .ref (He.ga K "when")) rfl T.g_when rfl) pk_nil)))), ?_⟩
  exact ⟨_, rfl, a, vs, ls, rfl, rfl, SqL.of ga, fa.same mo_ln eG, hl, fun p us ys H' hp e hus hT hlen hR => k p ys us H' hp e hT hus ⟨hlen, fun i v l h1 h2 => hR (fun v l => LnAt K G v l) fa.2 i v l h1 h2⟩⟩
theorem ok_Ledger_init (T : Txt K mg) : Nx P w K mg base (He.ga K "Ledger") "Ledger" 1 [] (sp_Ledger_init K) := by
  obtain ⟨fd, F⟩ := T.d_Ledger_init
  refine ⟨_, fd, _, [], T.g_Ledger, T.mk_Ledger, fn_body F sc_Ledger_init rfl (fun cdv A outer s H vs Q E hr h => ?_), F.bindsN (fun _ _ _ _ _ _ us hl => match us, hl with | [_, _], _ => rfl), .nil⟩
  have nd := sc_Ledger_init.nd
  have hu := hu_of hr
  obtain ⟨x, f, dx, rfl, hx, k⟩ := h
  refine ⟨_, (pss_cons (ps_fld (pv 0) (pv 1) rfl)
      (pss_cons (ps_fld (pv 0) pe_dnewK rfl)
      (pss_one (ps_fld (pv 0) pe_non rfl)))), ?_⟩
  refine ⟨_, rfl, _, rfl, x, _, dx, [], rfl, hx, T.cl_Ledger, T.na_Ledger_field, (by show 0 < 1000; decide), ?_⟩
  intro kn hkn
  have hnx : kn ≠ x := fun z => by
    rw [z, upd_same] at hkn
    cases hkn
  have hkn0 : H kn = none := by
    rw [upd_ne hnx] at hkn
    exact hkn
  refine ⟨_, rfl, x, _, dx, _, rfl, same_upd (Same.refl _) hkn _ _ upd_same, T.cl_Ledger, T.na_Ledger_known_lines, (by show 1 < 1000; decide), ?_⟩
  refine ⟨_, rfl, x, _, dx, _, rfl, upd_same, T.cl_Ledger, T.na_Ledger_come, (by show 2 < 1000; decide), ?_⟩
  refine k kn _ hkn0 (fun a o ha e => ?_) upd_same ?_
  · rw [upd_ne ha, upd_ne ha, upd_ne (ne_of_none e hkn0), upd_ne ha]
    exact e
  · rw [upd_ne hnx, upd_ne hnx]
    exact upd_same
theorem ok_Ledger_len (T : Txt K mg) : Mx P w K mg base (He.ga K "Ledger") "__len__" 1 (sp_Ledger_len K) := by
  obtain ⟨fd, F⟩ := T.d_Ledger_len
  refine ⟨T.cl_Ledger, _, fd, _, T.me_Ledger_len, fn_body F sc_Ledger_len rfl (fun cdv A outer s H vs Q E hr h => ?_), F.bindsN (fun _ _ _ _ _ _ us hl => match us, hl with | [_], _ => rfl)⟩
  have nd := sc_Ledger_len.nd
  have hu := hu_of hr
  obtain ⟨x, dx, f, kn, cm, kvs, rfl, hx, hk, k⟩ := h
  refine ⟨_, (pss_one (ps_ret (pe_callB call_lenD (by rfl) T.n_len b_len (pa_cons (pe_fld (pv 0) rfl) pa_nil)))), ?_⟩
  exact ⟨_, rfl, x, _, dx, _, _, rfl, hx, T.cl_Ledger, T.na_Ledger_known_lines, rfl, kn, kvs, rfl, hk, k⟩
theorem ok_Ledger_check (T : Txt K mg) : Mx P w K mg base (He.ga K "Ledger") "check" 6 (sp_Ledger_check K) := by
  obtain ⟨fd, F⟩ := T.d_Ledger_check
  refine ⟨T.cl_Ledger, _, fd, _, T.me_Ledger_check, fn_body F sc_Ledger_check rfl (fun cdv A outer s H vs Q E hr h => ?_), F.bindsN (fun _ _ _ _ _ _ us hl => match us, hl with | [_, _], _ => rfl)⟩
  have nd := sc_Ledger_check.nd
  have hu := hu_of hr
  obtain ⟨x, dx, kn, cm, f, bs, Nm, v, l, rfl, hx, FF, hl, hok, k⟩ := h
  refine ⟨_, (pss_cons (ps_if (pt_not (pt_val (pe_f (ok_is_line T) (hr.mono (by decide)) (pa_cons (pv 1) pa_nil)))) (pss_one ps_never) pss_nil)
      (pss_one (ps_if (pt_val (pe_callB call_is (by rfl) T.n_isinstance b_isinstance (pa_cons (pv 1) (pa_cons (pe_glob (v := .ref (He.ga K "Promise")) rfl T.g_Promise rfl) pa_nil)))) (pss_one (ps_if (pt_not (pt_val (pe_f (ok_has T) (hr.mono (by decide)) (pa_cons (pe_fld (pv 0) rfl) (pa_cons (pe_fld (pv 1) rfl) pa_nil))))) (pss_one ps_never) pss_nil)) (pss_one (ps_if (pt_cmpR op_notIn_seq (pe_fld (pv 1) rfl) (pe_m0 (ok_Field_bed_names T) (hr.mono (by decide)) (pe_fld (pv 0) rfl)) rfl) (pss_one ps_never) pss_nil))))), ?_⟩
  refine ⟨_, rfl, rfl, v, l, rfl, hl, true, rfl, ?_⟩
  obtain ⟨q, rfl, hl⟩ := hl
  cases l with
  | prom p =>
    obtain ⟨⟨dq, hq⟩, hth⟩ := id hl
    refine ⟨_, rfl, _, _, _, rfl, is_Promise T hq, true, rfl, ?_⟩
    exact ⟨_, rfl, x, _, dx, _, _, rfl, hx, T.cl_Ledger, T.na_Ledger_field, rfl, _, rfl, q, _, dq, _, _, rfl, hq, T.cl_Promise, T.na_Promise_thing, rfl, rfl, f, p.ta, bs, p.th, rfl, FF, hth, hok.th, fun H' e' => ⟨true, rfl, k H' e'⟩⟩
  | spoil n m b =>
    obtain ⟨dq, hq⟩ := id hl
    obtain ⟨_, b0, hb0, rfl⟩ := hok
    obtain ⟨dxf, g, d, hf, hd⟩ := FF.ex
    refine ⟨_, rfl, _, _, _, rfl, is_SpoilingPromise T hq, false, rfl, ?_⟩
    refine ⟨_, rfl, q, _, dq, _, _, rfl, hq, T.cl_Spoiling, T.na_Spoiling_bed, rfl, ?_⟩
    refine ⟨_, rfl, x, _, dx, _, _, rfl, hx, T.cl_Ledger, T.na_Ledger_field, rfl, f, dxf, _, rfl, hf, rfl, rfl, f, bs, rfl, FF, fun ys p hy hp => ?_⟩
    refine ⟨p, _, rfl, .inl (SqL.of upd_same), rfl, flat_names _, ?_⟩
    rw [if_pos rfl, in_names (hy.mem_iff.mpr (List.mem_map.mpr ⟨b0, hb0, rfl⟩))]
    exact ⟨_, rfl, k _ (same_upd (Same.refl _) hp)⟩
theorem ok_Ledger_lines (T : Txt K mg) : Mx P w K mg base (He.ga K "Ledger") "lines" 6 (sp_Ledger_lines K) := by
  obtain ⟨fd, F⟩ := T.d_Ledger_lines
  refine ⟨T.cl_Ledger, _, fd, _, T.me_Ledger_lines, fn_body F sc_Ledger_lines rfl (fun cdv A outer s H vs Q E hr h => ?_), F.bindsN (fun _ _ _ _ _ _ us hl => match us, hl with | [_], _ => rfl)⟩
  have nd := sc_Ledger_lines.nd
  have hu := hu_of hr
  obtain ⟨x, dx, kn, cm, f, kvs, ls, G, rfl, hx, hk, eG, ⟨_, fk⟩, hl, k⟩ := h
  refine ⟨_, (pss_one (ps_ret (pe_f (ok_in_time T) (hr.mono (by decide)) (pa_cons (pe_listVals T.n_list (pe_fld (pv 0) rfl)) pa_nil)))), ?_⟩
  refine ⟨_, rfl, x, _, dx, _, _, rfl, hx, T.cl_Ledger, T.na_Ledger_known_lines, rfl, kn, kvs, rfl, hk, fun p hp => ?_⟩
  have e1 := same_upd (o := .lst (kvs.map (·.2))) (Same.refl H) hp
  have g1 : upd H p (.lst (kvs.map (·.2))) p = some (.lst (kvs.map (·.2))) := upd_same
  exact ⟨rfl, p, List.map (fun kv : Key × V => kv.2) kvs, ls, G, rfl, eG.trans e1, g1, fk, hl, fun p2 ys us H' hp2 e2 hT hus fus => k p2 ys us H' (e1.free hp2) (e1.trans e2) hT hus fus⟩
theorem LedAt.same {H H' : Hp} {F : Addr → Prop} {x f : Addr} {bs : List BedR} {ls : List Ln} (L : LedAt K H F x f bs ls) (e : Same H H') : LedAt K H' F x f bs ls := by
  obtain ⟨⟨dx, kn, cm, h1, ⟨kvs, h2, h3, h4⟩, h5⟩, FF, h6, h7⟩ := L
  have ec := (Chg.of (C := F) e).cut
  refine ⟨⟨dx, kn, cm, e _ _ h1, ⟨kvs, e _ _ h2, h3, h4.same mo_ln ec⟩, ?_⟩, FF.same ec, h6, h7⟩
  rcases h5 with h5 | ⟨c, dxs, ys, z1, z2, z3, z4, z5⟩
  · exact .inl h5
  · exact .inr ⟨c, dxs, ys, z1, z2, z3, z4.same e, z5⟩
theorem ok_Ledger_tell (T : Txt K mg) : Mx P w K mg base (He.ga K "Ledger") "tell" 7 (sp_Ledger_tell K) := by
  obtain ⟨fd, F⟩ := T.d_Ledger_tell
  refine ⟨T.cl_Ledger, _, fd, _, T.me_Ledger_tell, fn_body F sc_Ledger_tell rfl (fun cdv A outer s H vs Q E hr h => ?_), F.bindsN (fun _ _ _ _ _ _ us hl => match us, hl with | [_, _], _ => rfl)⟩
  have nd := sc_Ledger_tell.nd
  have hu := hu_of hr
  obtain ⟨x, F, f, bs, ls, Nm, v, l, rfl, L, hl, hok, hcase⟩ := h
  refine ⟨_, (pss_cons (ps_expr (pe_m (ok_Ledger_check T) (hr.mono (by decide)) (pv 0) (pa_cons (pv 1) pa_nil)))
      (pss_cons (ps_if (pt_cmp (pc_din hu (pe_fld (pv 1) rfl) (pe_fld (pv 0) rfl))) (pss_cons (ps_if (pt_cmpR (op_neLine T hr) (pe_dget hu (pe_fld (pv 0) rfl) (pe_fld (pv 1) rfl) (fun _ _ => rfl)) (pv 1) (nomark _)) (pss_one ps_never) pss_nil)
      (pss_one (ps_ret pe_str))) pss_nil)
      (pss_cons (ps_if (pt_cmpR op_eq (pe_callB call_lenD (by rfl) T.n_len b_len (pa_cons (pe_fld (pv 0) rfl) pa_nil)) (C8.pe_gc rfl T.c_MOST_LINES) (nomark _)) (pss_one ps_never) pss_nil)
      (pss_cons (ps_dput hu (pe_fld (pv 0) rfl) (pe_fld (pv 1) rfl) (pv 1) rfl)
      (pss_cons (ps_fld (pv 0) pe_non rfl)
      (pss_one (ps_ret pe_str))))))), ?_⟩
  obtain ⟨dx, kn, cm, hx, ⟨kvs, hk, hk1, hk2⟩, hcm⟩ := id L.ex
  have hkl : kvs.length = ls.length := by
    have := congrArg List.length hk1
    rw [List.length_map, List.length_map] at this
    exact this
  have hFx : F x := by
    rcases hcm with ⟨_, e⟩ | ⟨c, dxs, ys, _, e, _⟩
    · rw [e]
      exact .inl rfl
    · rw [e]
      exact .inl rfl
  have hFk : F kn := by
    rcases hcm with ⟨_, e⟩ | ⟨c, dxs, ys, _, e, _⟩
    · rw [e]
      exact .inr rfl
    · rw [e]
      exact .inr (.inl rfl)
  refine ⟨_, rfl, x, dx, _, rfl, hx, rfl, _, rfl, rfl, x, dx, kn, cm, f, bs, Nm, v, l, rfl, hx, L.fl.same cut_le, mo_ln _ _ _ _ cut_le hl, hok, fun H1 e1 => ?_⟩
  have hx1 := e1 _ _ hx
  have hk1' := e1 _ _ hk
  have hl1 : LnAt K (cut H1 F) v l := mo_ln _ _ _ _ (Chg.of (C := F) e1).cut hl
  have num : ∃ q C dq fs, v = .ref q ∧ H1 q = some (.ins C dq fs) ∧ Cls K C ∧ NoAttr K C "number" ∧ fs.lookup ("number" : Str) = some (.int (l.num : Nat)) := by
    obtain ⟨q, rfl, h⟩ := hl1
    cases l with
    | prom p =>
      obtain ⟨⟨dq, hq⟩, _⟩ := h
      exact ⟨q, _, dq, _, rfl, cut_le _ _ hq, T.cl_Promise, T.na_Promise_number, rfl⟩
    | spoil n m b =>
      obtain ⟨dq, hq⟩ := h
      exact ⟨q, _, dq, _, rfl, cut_le _ _ hq, T.cl_Spoiling, T.na_Spoiling_number, rfl⟩
  obtain ⟨q, C, dq, fs, rfl, hq, hC, hna, hfs⟩ := num
  have hkn : (kvs.map (·.1)).Nodup := by
    rw [hk1]
    exact List.pairwise_map.mpr ((List.pairwise_map.mp L.nd).imp fun {a b} h e => h (by injection e with e; omega))
  refine ⟨_, rfl, q, _, dq, _, _, rfl, hq, hC, hna, hfs, _, rfl, x, _, dx, _, _, rfl, hx1, T.cl_Ledger, T.na_Ledger_known_lines, rfl, kn, _, rfl, DGet.k (k := Sum.inl (l.num : Int)) hk1', _, rfl, ?_⟩
  rcases hcase with ⟨hnew, h40, k⟩ | ⟨hin, k⟩
  · have hv : valV kvs (Sum.inl (l.num : Int)) = none := by
      cases e : valV kvs (Sum.inl (l.num : Int)) with
      | none => rfl
      | some u =>
        have hm := valV_in e
        rw [hk1] at hm
        obtain ⟨l2, h2, e2⟩ := List.mem_map.mp hm
        injection e2 with e2
        exact absurd (List.mem_map.mpr ⟨l2, h2, by show l2.num = l.num; omega⟩) hnew
    rw [hv]
    refine ⟨_, rfl, x, _, dx, _, _, rfl, hx1, T.cl_Ledger, T.na_Ledger_known_lines, rfl, kn, kvs, rfl, hk1', rfl, _, rfl, ?_⟩
    rw [decide_eq_false (show ¬ V.int (kvs.length : Nat) = V.int 120 from fun z => by injection z with z; omega)]
    refine ⟨_, rfl, _, rfl, x, _, dx, _, _, rfl, hx1, T.cl_Ledger, T.na_Ledger_known_lines, rfl, _, rfl, q, _, dq, _, _, rfl, hq, hC, hna, hfs, kn, _, rfl, DPut.k (k := Sum.inl (l.num : Int)) hk1' (Nat.lt_of_le_of_lt (show kvs.length ≤ 40 by omega) (by decide)), ?_⟩
    have hxk : x ≠ kn := ne_of hx hk (by intro z; cases z)
    refine ⟨_, rfl, x, _, dx, _, rfl, (by rw [upd_ne hxk]; exact hx1), T.cl_Ledger, T.na_Ledger_come, (by show 3 < 1000; decide), ?_⟩
    have C1 : Chg F F H1 (upd (upd H1 kn (.dK (putK kvs (Sum.inl (l.num : Int)) (.ref q)))) x (.ins (cLedger K) dx (putF "come" .non (ledFs f kn cm)))) := (Chg.write hFk).trans (Chg.write hFx)
    have C2 : Chg F (fun a => a = x ∨ a = kn) H (upd (upd H1 kn (.dK (putK kvs (Sum.inl (l.num : Int)) (.ref q)))) x (.ins (cLedger K) dx (putF "come" .non (ledFs f kn cm)))) :=
      ⟨((Chg.of e1).trans C1).kp, fun a ha => .inl (by rcases ha with rfl | rfl; exact hFx; exact hFk)⟩
    refine k _ _ C2 ⟨⟨dx, kn, .non, upd_same, ⟨putK kvs (Sum.inl (l.num : Int)) (.ref q), by rw [upd_ne hxk.symm]; exact upd_same, ?_, ?_⟩, .inl ⟨rfl, rfl⟩⟩, L.fl.same C2.cut, ?_, ?_⟩
    · rw [putK_new _ hv, List.map_append, hk1, List.map_append]
      rfl
    · have e3 : (putK kvs (Sum.inl (l.num : Int)) (V.ref q)).map (·.2) = kvs.map (·.2) ++ [.ref q] := by
        rw [putK_new _ hv, List.map_append]
        rfl
      rw [e3]
      exact (hk2.same mo_ln C2.cut).snoc (mo_ln _ _ _ _ C2.cut hl)
    · rw [List.length_append]
      show ls.length + 1 ≤ 40
      omega
    · rw [List.map_append]
      exact nd_snoc L.nd hnew
  · obtain ⟨i, hi, ei⟩ := List.getElem_of_mem hin
    obtain ⟨u, hu, hul⟩ := hk2.get (i := i) (x := l) (by rw [List.getElem?_eq_getElem hi, ei])
    rw [List.getElem?_map] at hu
    cases hki : kvs[i]? with
    | none =>
      rw [hki] at hu
      cases hu
    | some kv =>
      rw [hki] at hu
      have hu := Option.some.inj hu
      have hkey : kv.1 = Sum.inl (l.num : Int) := by
        have h1 : (kvs.map (·.1))[i]? = some kv.1 := by rw [List.getElem?_map, hki]; rfl
        rw [hk1, List.getElem?_map, List.getElem?_eq_getElem hi, ei] at h1
        exact (Option.some.inj h1).symm
      have hv : valV kvs (Sum.inl (l.num : Int)) = some u := val_at hkn (by rw [hki, ← hkey, ← hu])
      have hdg := DGet.k (k := Sum.inl (l.num : Int)) hk1'
      rw [hv] at hdg ⊢
      refine ⟨_, rfl, x, _, dx, _, _, rfl, hx1, T.cl_Ledger, T.na_Ledger_known_lines, rfl, _, rfl, q, _, dq, _, _, rfl, hq, hC, hna, hfs, kn, _, rfl, hdg, _, rfl, l, mo_ln _ _ _ _ ((cut_le (C := F)).trans e1) hul, mo_ln _ _ _ _ cut_le hl1, fun H2 e2 => ⟨_, rfl, k H2 (e1.trans e2)⟩⟩
end
end RP
set_option Elab.async false
set_option linter.all false
set_option maxRecDepth 100000
set_option maxHeartbeats 400000
/-! rootpledge k80: the program's Ledger, 2: its standing, its answers -/
namespace RP
open PySem PySem.Spec PyProof.Rows L2
/-- the standing of a ledger at x is there, at c -/
structure StOut (K : PySem.W.Frag) (H : Hp) (F : Addr → Prop) (x f : Addr) (bs : List BedR) (ls : List Ln) (H' : Hp) (F' : Addr → Prop) (c : Lab → Addr) (dxs : Addr) (ys : List Ln) : Prop where
  kp : ∀ a o, a ≠ x → H a = some o → H' a = some o
  nw : ∀ a, F' a → F a ∨ H a = none
  fx : F x
  la : LedAt K H' F' x f bs ls
  ft : ∀ a, foot c (Bsh bs) a → F' a
  tm : InTime ls ys
  rep : Rep (knStd K f dxs) (Bsh bs) 5000 H' c (led bs ys)
theorem StOut.chg {K : PySem.W.Frag} {H H' : Hp} {F F' : Addr → Prop} {x f dxs : Addr} {bs : List BedR} {ls ys : List Ln} {c : Lab → Addr} (o : StOut K H F x f bs ls H' F' c dxs ys) : Chg F F' H H' :=
  ⟨fun a u h e => o.kp a u (fun z => h (by rw [z]; exact o.fx)) e, o.nw⟩
theorem StOut.same {K : PySem.W.Frag} {H H' H2 : Hp} {F F' : Addr → Prop} {x f dxs : Addr} {bs : List BedR} {ls ys : List Ln} {c : Lab → Addr} (o : StOut K H F x f bs ls H' F' c dxs ys) (e : Same H' H2) : StOut K H F x f bs ls H2 F' c dxs ys :=
  ⟨fun a u h q => e _ _ (o.kp a u h q), o.nw, o.fx, o.la.same e, o.ft, o.tm, o.rep.same e⟩
theorem LedAt.fx {K : PySem.W.Frag} {H : Hp} {F : Addr → Prop} {x f : Addr} {bs : List BedR} {ls : List Ln} (L : LedAt K H F x f bs ls) : F x := by
  obtain ⟨dx, kn, cm, _, _, hcm⟩ := L.ex
  rcases hcm with ⟨_, e⟩ | ⟨c, dxs, ys, _, e, _⟩
  · rw [e]
    exact .inl rfl
  · rw [e]
    exact .inl rfl
def sp_Ledger_standing (K : PySem.W.Frag) : Sp := spA 1 fun vs H Q => ∃ x F f bs Nm ls, vs = [.ref x] ∧ LedAt K H F x f bs ls ∧ (∀ b ∈ bs, Nm b.owner) ∧ (∀ l ∈ ls, LnOk bs Nm l) ∧ ∀ H' F' c dxs ys, StOut K H F x f bs ls H' F' c dxs ys → Q (.ref (c .root)) H'
section
variable {P : Program} {w : World} {K : PySem.W.Frag} {mg : Str → Option Value} {base : Heap}
theorem ok_Ledger_standing (T : Txt K mg) : Mx P w K mg base (He.ga K "Ledger") "standing" 7 (sp_Ledger_standing K) := by
  obtain ⟨fd, F⟩ := T.d_Ledger_standing
  refine ⟨T.cl_Ledger, _, fd, _, T.me_Ledger_standing, fn_body F sc_Ledger_standing rfl (fun cdv A outer s H vs Q E hr h => ?_), F.bindsN (fun _ _ _ _ _ _ us hl => match us, hl with | [_], _ => rfl)⟩
  have nd := sc_Ledger_standing.nd
  have hu := hu_of hr
  obtain ⟨x, F, f, bs, Nm, ls, rfl, L, hN, hok, k⟩ := h
  refine ⟨_, (pss_cons (ps_if (pt_cmpR op_isN (pe_fld (pv 0) rfl) pe_non (nomark _)) (pss_cons (ps_set (i := 1) nd rfl (Or.inl rfl) (pe_n (ok_Standing_init T) (hr.mono (by decide)) (pa_cons (pe_fld (pv 0) rfl) pa_nil)))
      (pss_cons (ps_for PassesOwn.never rfl (pi_list (pe_m0 (ok_Ledger_lines T) (hr.mono (by decide)) (pv 0))) (pg_name (i := 2) nd rfl (.inl rfl))
      (pss_one (ps_expr (pe_m (ok_Standing_take T) (hr.mono (by decide)) (pv 1) (pa_cons (pv 2) pa_nil)))))
      (pss_one (ps_fld (pv 0) (pv 1) rfl)))) pss_nil)
      (pss_one (ps_ret (pe_fld (pv 0) rfl)))), ?_⟩
  obtain ⟨dx, kn, cm, hx, ⟨kvs, hk, hk1, hk2⟩, hcm⟩ := id L.ex
  refine ⟨_, rfl, x, _, dx, _, _, rfl, hx, T.cl_Ledger, T.na_Ledger_come, rfl, rfl, _, rfl, ?_⟩
  rcases hcm with ⟨rfl, hF⟩ | ⟨c, dxs, ys, rfl, hF, hT, R, n1, n2⟩
  · rw [decide_eq_true rfl]
    refine ⟨_, rfl, x, _, dx, _, _, rfl, hx, T.cl_Ledger, T.na_Ledger_field, rfl, ?_⟩
    intro s ds hs hds hne
    have e0 : Same H (upd (upd H ds (.own s)) s (.ins (cStanding K) ds [])) := same_upd (same_upd (Same.refl _) hds) hs
    have FF : FieldAt K H f bs := L.fl.same cut_le
    refine ⟨rfl, s, f, ds, bs, rfl, upd_same, FF.same e0, fun c H1 hcr C1 R1 => ⟨rfl, ?_⟩⟩
    have C01 : Chg (fun _ => False) (foot c (Bsh bs)) H H1 := by
      refine ⟨fun a o _ e => C1.kp a o (ne_of_none e hs) (e0 _ _ e), fun a ha => .inr ?_⟩
      rcases C1.nw a ha with q | q
      · rw [q]
        exact hs
      · cases e : H a with
        | none => rfl
        | some o =>
          exact absurd ((e0 _ _ e).symm.trans q) (by intro z; cases z)
    have s1 : Same H (cut H1 (foot c (Bsh bs))) := fun a o e => C01.cut _ _ (cut_of (fun z => z) e)
    have hx1 := C01.kp _ _ (fun z => z) hx
    have hk1' := C01.kp _ _ (fun z => z) hk
    rw [← hcr]
    have hN6 := L.fl.ok.n6
    -- the lines
    refine ⟨_, rfl, x, dx, _, rfl, hx1, rfl, rfl, x, dx, kn, .non, f, kvs, ls, cut H1 (foot c (Bsh bs)), rfl, hx1, hk1', cut_le, ⟨hk1, (hk2.same mo_ln cut_le).same mo_ln s1⟩, by have := L.len; omega, fun p ys us H2 hp e2 hT hus fus => ?_⟩
    have C02 := C01.trans (Chg.of e2)
    have R2 := R1.same e2
    have hpc : cut H2 (foot c (Bsh bs)) p = some (.lst us) := cut_of (R1.fresh hp) hus
    have fu2 : Fits (LnAt K) (cut H2 (foot c (Bsh bs))) us ys := fus.same mo_ln (Chg.of e2).cut
    have hoy : ∀ l ∈ ys, LnOk bs Nm l := fun l hl => hok l (hT.perm.mem_iff.mp hl)
    have hly : ys.length ≤ 40 := by rw [hT.perm.length_eq]; exact L.len
    have FF2 : FieldAt K (cut H2 (foot c (Bsh bs))) f bs := FF.same (s1.trans (Chg.of e2).cut)
    refine ⟨p, rfl, ⟨us, SqL.of hus⟩, ?_⟩
    refine for_list (K := K) (xs := us) (fun i σ H' => ∃ u c', σ = [some (.ref x), some (.ref (c' .root)), u] ∧ Rep (knStd K f ds) (Bsh bs) (200 + 30 * i) H' c' ((ys.take i).foldl (PS.step bs) (PS.begin bs)) ∧ Chg (foot c (Bsh bs)) (foot c' (Bsh bs)) H2 H') ⟨_, c, rfl, R2, Chg.of (Same.refl _)⟩
      (fun i σ H' _ ⟨u, c', e, R', C'⟩ => SqL.of (cut_le _ _ (C'.cut _ _ hpc))) ?_ ?_
    · rintro i v σ H' hv ⟨u, c', rfl, R', C'⟩
      obtain ⟨l, hl, hr⟩ := fu2.get2 hv
      have hi : i < ys.length := (List.getElem?_eq_some_iff.mp hl).1
      have S : PSok bs Nm i ((ys.take i).foldl (PS.step bs) (PS.begin bs)) := by
        have := led_ok L.fl.ok hN (ys.take i) 0 _ (fun x hx => hoy x (List.mem_of_mem_take hx)) (begin_ok L.fl.ok hN)
        rw [List.length_take, Nat.min_eq_left (by omega), Nat.zero_add] at this
        exact this
      refine ⟨_, rfl, c' .root, ds, _, rfl, R'.std_root, rfl, _, rfl, rfl, c', f, ds, bs, Nm, i, _, _, v, l, rfl, R', mo_ln _ _ _ _ C'.cut hr, FF2.same C'.cut, hoy l (List.mem_of_getElem? hl), S, by omega, by omega, fun c2 H3 C3 e3 R3 => ?_⟩
      refine ⟨_, c2, by rw [e3]; rfl, ?_, C'.trans C3⟩
      rw [take_snoc hl, List.foldl_append]
      exact R3.le (by omega)
    · rintro σ H' ⟨u, c', rfl, R', C'⟩
      rw [fu2.1, List.take_length] at R'
      have C03 := C02.trans C'
      have hx3 := C03.kp _ _ (fun z => z) hx
      have hk3 := C03.kp _ _ (fun z => z) hk
      have nfx : ¬ foot c' (Bsh bs) x := fun z => (C03.nw x z).elim id fun q => by rw [hx] at q; cases q
      have nfk : ¬ foot c' (Bsh bs) kn := fun z => (C03.nw kn z).elim id fun q => by rw [hk] at q; cases q
      refine ⟨_, rfl, _, rfl, x, _, dx, _, rfl, hx3, T.cl_Ledger, T.na_Ledger_come, (by show 3 < 1000; decide), ?_⟩
      have hxk : x ≠ kn := ne_of hx hk (by intro z; cases z)
      have odd : Odd (.ins (cLedger K) dx (ledFs f kn .non)) := rfl
      have sm : Sm H' (upd H' x (.ins (cLedger K) dx (putF "come" (.ref (c' .root)) (ledFs f kn .non)))) := Sm.one hx3 odd fun a u ha e => by rw [upd_ne ha]; exact e
      have R4 : Rep (knStd K f ds) (Bsh bs) 5000 (upd H' x (.ins (cLedger K) dx (putF "come" (.ref (c' .root)) (ledFs f kn .non)))) c' (led bs ys) := by
        refine (R'.om std_om fun a o e q => ?_).le (by omega)
        rw [upd_ne]
        · exact e
        · intro z
          rcases q with q | q
          · rw [z, hx3] at e
            cases e
            exact q odd
          · exact nfx (by rw [← z]; exact q)
      have k4 : ∀ a o, a ≠ x → H a = some o → upd H' x (.ins (cLedger K) dx (putF "come" (.ref (c' .root)) (ledFs f kn .non))) a = some o := fun a o ha e => by
        rw [upd_ne ha]
        exact C03.kp _ _ (fun z => z) e
      have hx4 : upd H' x (.ins (cLedger K) dx (putF "come" (.ref (c' .root)) (ledFs f kn .non))) x = some (.ins (cLedger K) dx (ledFs f kn (.ref (c' .root)))) := upd_same
      generalize upd H' x (.ins (cLedger K) dx (putF "come" (.ref (c' .root)) (ledFs f kn .non))) = H4 at sm R4 k4 hx4
      have nw : ∀ a, (a = x ∨ a = kn ∨ foot c' (Bsh bs) a) → F a ∨ H a = none := fun a ha => by
        rcases ha with rfl | rfl | ha
        · exact .inl (by rw [hF]; exact .inl rfl)
        · exact .inl (by rw [hF]; exact .inr rfl)
        · exact .inr ((C03.nw a ha).resolve_left id)
      have C04 : Chg F (fun a => a = x ∨ a = kn ∨ foot c' (Bsh bs) a) H H4 := ⟨fun a o ha e => k4 a o (fun z => ha (by rw [z, hF]; exact .inl rfl)) e, nw⟩
      refine ⟨_, rfl, x, _, dx, _, _, rfl, hx4, T.cl_Ledger, T.na_Ledger_come, rfl, k H4 (fun a => a = x ∨ a = kn ∨ foot c' (Bsh bs) a) c' ds ys ⟨k4, nw, L.fx, ?_, fun a ha => .inr (.inr ha), hT, R4⟩⟩
      exact ⟨⟨dx, kn, _, hx4, ⟨kvs, k4 _ _ hxk.symm hk, hk1, hk2.same mo_ln C04.cut⟩, .inr ⟨c', ds, ys, rfl, rfl, hT, R4, nfx, nfk⟩⟩, L.fl.same C04.cut, L.len, L.nd⟩
  · rw [decide_eq_false (by intro z; cases z)]
    refine ⟨_, rfl, x, _, dx, _, _, rfl, hx, T.cl_Ledger, T.na_Ledger_come, rfl, k H F c dxs ys ⟨fun a o _ e => e, fun a ha => .inl ha, L.fx, L, fun a ha => by rw [hF]; exact .inr (.inr ha), hT, R⟩⟩
end
end RP
set_option Elab.async false
set_option linter.all false
set_option maxRecDepth 100000
set_option maxHeartbeats 400000
/-! rootpledge k80: the program's Ledger, 3: its answers -/
namespace RP
open PySem PySem.Spec PyProof.Rows L2
theorem led_psok {bs : List BedR} {Nm : Str → Prop} {ls ys : List Ln} (B : BedsOk bs) (hN : ∀ b ∈ bs, Nm b.owner) (hok : ∀ l ∈ ls, LnOk bs Nm l) (hT : InTime ls ys) : PSok bs Nm ls.length (led bs ys) := by
  have := led_ok B hN ys 0 _ (fun l hl => hok l (hT.perm.mem_iff.mp hl)) (begin_ok B hN)
  rw [Nat.zero_add, hT.perm.length_eq] at this
  exact this
/-- a ledger of good lines is asked -/
structure Ask (K : PySem.W.Frag) (H : Hp) (F : Addr → Prop) (x f : Addr) (bs : List BedR) (Nm : Str → Prop) (ls : List Ln) : Prop where
  la : LedAt K H F x f bs ls
  own : ∀ b ∈ bs, Nm b.owner
  ok : ∀ l ∈ ls, LnOk bs Nm l
def sp_Ledger_voids (K : PySem.W.Frag) : Sp := spA 1 fun vs H Q => ∃ x F f bs Nm ls, vs = [.ref x] ∧ Ask K H F x f bs Nm ls ∧ ∀ p us H' F' c dxs ys, StOut K H F x f bs ls H' F' c dxs ys → H' p = some (.lst us) → Fits VdAt H' us (led bs ys).voids → Q (.ref p) H'
def sp_Ledger_undone (K : PySem.W.Frag) : Sp := spA 1 fun vs H Q => ∃ x F f bs Nm ls, vs = [.ref x] ∧ Ask K H F x f bs Nm ls ∧ ∀ p H' F' c dxs ys, StOut K H F x f bs ls H' F' c dxs ys → H' p = some (.lst ((led bs ys).gone.map fun n => .int (n : Nat))) → Q (.ref p) H'
def sp_Ledger_hold (K : PySem.W.Frag) : Sp := spA 1 fun vs H Q => ∃ x F f bs Nm ls, vs = [.ref x] ∧ Ask K H F x f bs Nm ls ∧ ∀ p H' F' c dxs ys, StOut K H F x f bs ls H' F' c dxs ys → H' p = some (.lst ((led bs ys).good.map fun e => .int (e.num : Nat))) → Q (.ref p) H'
def sp_Ledger_spoiled (K : PySem.W.Frag) : Sp := spA 1 fun vs H Q => ∃ x F f bs Nm ls, vs = [.ref x] ∧ Ask K H F x f bs Nm ls ∧ ∀ p zs H' F' c dxs ys, StOut K H F x f bs ls H' F' c dxs ys → zs.Perm ((led bs ys).spoilt.map (·.1)) → sortedS zs = true → H' p = some (.lst (zs.map V.str)) → Q (.ref p) H'
def sp_Ledger_check_thing (K : PySem.W.Frag) : Sp := spA 2 fun vs H Q => ∃ x dx kn cm f bs t th, vs = [.ref x, .ref t] ∧ H x = some (.ins (cLedger K) dx (ledFs f kn cm)) ∧ FieldAt K H f bs ∧ ThAt K H t th ∧ ThIn bs th ∧ th.kd ≠ .share ∧ ∀ H', Same H H' → Q .non H'
def sp_Ledger_holder (K : PySem.W.Frag) : Sp := spA 2 fun vs H Q => ∃ x F f bs Nm ls t th, vs = [.ref x, .ref t] ∧ Ask K H F x f bs Nm ls ∧ ThAt K (cut H F) t th ∧ ThIn bs th ∧ th.kd ≠ .share ∧ ∀ y H' F' c dxs ys, StOut K H F x f bs ls H' F' c dxs ys → (led bs ys).held th.gk = some y → Q (.str y) H'
def sp_Ledger_row (K : PySem.W.Frag) : Sp := spA 2 fun vs H Q => ∃ x F f bs Nm ls t th, vs = [.ref x, .ref t] ∧ Ask K H F x f bs Nm ls ∧ ThAt K (cut H F) t th ∧ ThIn bs th ∧ th.kd ≠ .share ∧ ∀ p H' F' c dxs ys, StOut K H F x f bs ls H' F' c dxs ys →
  H' p = some (.lst (((led bs ys).good.filter fun e => decide (th.gk ∈ e.keys)).map fun e => .int (e.num : Nat))) → Q (.ref p) H'
def HoldRow (K : PySem.W.Frag) (l : List (Str × Nat)) : Hp → V → Str → Prop := fun H v n => ∃ t q, v = .ref t ∧ H t = some (.tup [.str n, .ref q]) ∧ PartAt K H q (pget l n)
def sp_Ledger_holders (K : PySem.W.Frag) : Sp := spA 2 fun vs H Q => ∃ x F f bs Nm ls b, vs = [.ref x, .str b.name] ∧ Ask K H F x f bs Nm ls ∧ b ∈ bs ∧ b.shares = true ∧ ∀ p us zs H' F' c dxs ys, StOut K H F x f bs ls H' F' c dxs ys → zs.Perm (((led bs ys).parts b.name).map (·.1)) → sortedS zs = true →
  H' p = some (.lst us) → Fits (HoldRow K ((led bs ys).parts b.name)) H' us (zs.filter fun n => decide (0 < pget ((led bs ys).parts b.name) n)) → Q (.ref p) H'
theorem StOut.same0 {K : PySem.W.Frag} {H H0 H' : Hp} {F F' : Addr → Prop} {x f dxs : Addr} {bs : List BedR} {ls ys : List Ln} {c : Lab → Addr} (o : StOut K H0 F x f bs ls H' F' c dxs ys) (e : Same H H0) : StOut K H F x f bs ls H' F' c dxs ys :=
  ⟨fun a u h q => o.kp a u h (e _ _ q), fun a h => (o.nw a h).elim .inl fun q => .inr (by
    cases z : H a with
    | none => rfl
    | some u =>
      rw [e _ _ z] at q
      cases q), o.fx, o.la, o.ft, o.tm, o.rep⟩
section
variable {P : Program} {w : World} {K : PySem.W.Frag} {mg : Str → Option Value} {base : Heap}
theorem ok_Ledger_voids (T : Txt K mg) : Mx P w K mg base (He.ga K "Ledger") "voids" 8 (sp_Ledger_voids K) := by
  obtain ⟨fd, F⟩ := T.d_Ledger_voids
  refine ⟨T.cl_Ledger, _, fd, _, T.me_Ledger_voids, fn_body F sc_Ledger_voids rfl (fun cdv A outer s H vs Q E hr h => ?_), F.bindsN (fun _ _ _ _ _ _ us hl => match us, hl with | [_], _ => rfl)⟩
  have nd := sc_Ledger_voids.nd
  have hu := hu_of hr
  obtain ⟨x, F, f, bs, Nm, ls, rfl, ⟨L, hN, hok⟩, k⟩ := h
  refine ⟨_, (pss_one (ps_ret (pe_callTy call_list_of (by rfl) T.n_list b_list (pa_cons (pe_fld (pe_m0 (ok_Ledger_standing T) (hr.mono (by decide)) (pv 0)) rfl) pa_nil)))), ?_⟩
  obtain ⟨dx, kn, cm, hx, _⟩ := id L.ex
  refine ⟨_, rfl, x, dx, _, rfl, hx, rfl, rfl, x, F, f, bs, Nm, ls, rfl, L, hN, hok, fun H' F' c dxs ys O => ?_⟩
  obtain ⟨us, hus, fu⟩ := O.rep.voids_at
  refine ⟨c .root, _, dxs, _, _, rfl, O.rep.std_root, T.cl_Standing, T.na_Standing_void_rows, rfl, c .vd, us, rfl, .inl (SqL.of hus), fun p hp => ?_⟩
  have e := same_upd (o := .lst us) (Same.refl H') hp
  exact k p us _ F' c dxs ys (O.same e) upd_same ((fu.same mo_vd cut_le).same mo_vd e)
theorem ok_Ledger_undone (T : Txt K mg) : Mx P w K mg base (He.ga K "Ledger") "undone" 8 (sp_Ledger_undone K) := by
  obtain ⟨fd, F⟩ := T.d_Ledger_undone
  refine ⟨T.cl_Ledger, _, fd, _, T.me_Ledger_undone, fn_body F sc_Ledger_undone rfl (fun cdv A outer s H vs Q E hr h => ?_), F.bindsN (fun _ _ _ _ _ _ us hl => match us, hl with | [_], _ => rfl)⟩
  have nd := sc_Ledger_undone.nd
  have hu := hu_of hr
  obtain ⟨x, F, f, bs, Nm, ls, rfl, ⟨L, hN, hok⟩, k⟩ := h
  refine ⟨_, (pss_one (ps_ret (pe_callTy call_list_of (by rfl) T.n_list b_list (pa_cons (pe_fld (pe_m0 (ok_Ledger_standing T) (hr.mono (by decide)) (pv 0)) rfl) pa_nil)))), ?_⟩
  obtain ⟨dx, kn, cm, hx, _⟩ := id L.ex
  refine ⟨_, rfl, x, dx, _, rfl, hx, rfl, rfl, x, F, f, bs, Nm, ls, rfl, L, hN, hok, fun H' F' c dxs ys O => ?_⟩
  refine ⟨c .root, _, dxs, _, _, rfl, O.rep.std_root, T.cl_Standing, T.na_Standing_gone, rfl, c .gn, _, rfl, .inl (SqL.of O.rep.gone_at), fun p hp => ?_⟩
  exact k p _ F' c dxs ys (O.same (same_upd (Same.refl H') hp)) upd_same
theorem ok_Ledger_hold (T : Txt K mg) : Mx P w K mg base (He.ga K "Ledger") "hold" 8 (sp_Ledger_hold K) := by
  obtain ⟨fd, F⟩ := T.d_Ledger_hold
  refine ⟨T.cl_Ledger, _, fd, _, T.me_Ledger_hold, fn_body F sc_Ledger_hold rfl (fun cdv A outer s H vs Q E hr h => ?_), F.bindsN (fun _ _ _ _ _ _ us hl => match us, hl with | [_], _ => rfl)⟩
  have nd := sc_Ledger_hold.nd
  have hu := hu_of hr
  obtain ⟨x, F, f, bs, Nm, ls, rfl, ⟨L, hN, hok⟩, k⟩ := h
  refine ⟨_, (pss_one (ps_ret (pe_lc (own := [("promise", 1), ("things", 2)])  rfl nd (pi_list (pe_fld (pe_m0 (ok_Ledger_standing T) (hr.mono (by decide)) (pv 0)) rfl)) (blkOk_by (own := [("promise", 1), ("things", 2)]) (N := ["self", "promise", "things"]) (sc := defScope s_Ledger_hold) (by decide +kernel)) (fun _ _ _ _ _ => (pg_tupK (K := K) 2 rfl rfl (pgs_cons (pg_name (i := 1) nd rfl (.inl rfl)) (pgs_cons (pg_name (i := 2) nd rfl (.inl rfl)) pgs_nil)))) (fun _ _ _ _ _ => pts_nil) (fun _ _ _ _ _ => (pe_fldK (K := K) rfl (pv 1) rfl))))), ?_⟩
  obtain ⟨dx, kn, cm, hx, _⟩ := id L.ex
  refine ⟨_, rfl, x, dx, _, rfl, hx, rfl, rfl, x, F, f, bs, Nm, ls, rfl, L, hN, hok, fun H' F' c dxs ys O => ?_⟩
  have S := led_psok L.fl.ok hN hok O.tm
  have hgl : (led bs ys).good.length ≤ 100000 := Nat.le_trans (Nat.le_trans (Nat.le_add_right _ _) S.gl) (Nat.le_trans L.len (by decide))
  obtain ⟨vs1, hg1, fg1⟩ := O.rep.good_at
  refine ⟨c .root, _, dxs, _, _, rfl, O.rep.std_root, T.cl_Standing, T.na_Standing_good, rfl, c .gd, rfl, ⟨vs1, SqL.of hg1⟩, fun D hD => ?_⟩
  refine lc_pure (walk_list (xs := vs1)) hD (fun i acc => acc = ((led bs ys).good.take i).map (fun e => V.int (e.num : Nat))) rfl (by rw [fg1.1]; exact hgl) (fun H1 e => e.seq (SqL.of hg1)) ?_ ?_
  · rintro i y acc H3 H4 hi e3 rfl ⟨rfl, hvx⟩ Q1 Q0 q1 q0
    obtain ⟨y, hy, te, qo, kle, po, rfl, hte, hpo, hke, hn1, hn2, hn3⟩ := fg1.get2 hvx
    have hte3 := e3 _ _ (cut_le _ _ hte)
    obtain ⟨⟨dqo, hqo⟩, _⟩ := (hpo.same cut_le).same e3
    refine ⟨te, _, rfl, SqT.of hte3, rfl, _, _, rfl, _, _, rfl, rfl, rfl, _, rfl, qo, _, dqo, _, _, rfl, hqo, T.cl_Promise, T.na_Promise_number, rfl, q1 _ _ (Same.refl _) ?_⟩
    rw [take_snoc hy, List.map_append, ← hn1]
    rfl
  rintro acc H3 e3 hD3 _ rfl
  rw [fg1.1, List.take_length] at hD3
  exact k D H3 F' c dxs ys (O.same e3) hD3
theorem ok_Ledger_spoiled (T : Txt K mg) : Mx P w K mg base (He.ga K "Ledger") "spoiled" 8 (sp_Ledger_spoiled K) := by
  obtain ⟨fd, F⟩ := T.d_Ledger_spoiled
  refine ⟨T.cl_Ledger, _, fd, _, T.me_Ledger_spoiled, fn_body F sc_Ledger_spoiled rfl (fun cdv A outer s H vs Q E hr h => ?_), F.bindsN (fun _ _ _ _ _ _ us hl => match us, hl with | [_], _ => rfl)⟩
  have nd := sc_Ledger_spoiled.nd
  have hu := hu_of hr
  obtain ⟨x, F, f, bs, Nm, ls, rfl, ⟨L, hN, hok⟩, k⟩ := h
  refine ⟨_, (pss_one (ps_ret (pe_callB (call_sortedD rfl) (by rfl) T.n_sorted b_sorted (pa_cons (pe_fld (pe_m0 (ok_Ledger_standing T) (hr.mono (by decide)) (pv 0)) rfl) pa_nil)))), ?_⟩
  obtain ⟨dx, kn, cm, hx, _⟩ := id L.ex
  refine ⟨_, rfl, x, dx, _, rfl, hx, rfl, rfl, x, F, f, bs, Nm, ls, rfl, L, hN, hok, fun H' F' c dxs ys O => ?_⟩
  have S := led_psok L.fl.ok hN hok O.tm
  have sl := S.sl
  have ll := L.len
  obtain ⟨us, hus, fus⟩ := O.rep.spoilt_at
  refine ⟨c .root, _, dxs, _, _, rfl, O.rep.std_root, T.cl_Standing, T.na_Standing_spoilt, rfl, c .sp, us, (led bs ys).spoilt.map (·.1), rfl, .inl hus, ?_, by rw [List.length_map]; omega, fun zs p hz1 hz2 hp => ?_⟩
  · rw [fus.keys, List.map_map]
    rfl
  · exact k p zs _ F' c dxs ys (O.same (same_upd (Same.refl H') hp)) hz1 hz2 upd_same
theorem ok_Ledger_check_thing (T : Txt K mg) : Mx P w K mg base (He.ga K "Ledger") "check_thing" 6 (sp_Ledger_check_thing K) := by
  obtain ⟨fd, F⟩ := T.d_Ledger_check_thing
  refine ⟨T.cl_Ledger, _, fd, _, T.me_Ledger_check_thing, fn_body F sc_Ledger_check_thing rfl (fun cdv A outer s H vs Q E hr h => ?_), F.bindsN (fun _ _ _ _ _ _ us hl => match us, hl with | [_, _], _ => rfl)⟩
  have nd := sc_Ledger_check_thing.nd
  have hu := hu_of hr
  obtain ⟨x, dx, kn, cm, f, bs, t, th, rfl, hx, FF, hth, I, hk, k⟩ := h
  refine ⟨_, (pss_one (ps_if (PW.pt (pw_or (pt_not (pt_val (pe_f (ok_has T) (hr.mono (by decide)) (pa_cons (pe_fld (pv 0) rfl) (pa_cons (pv 1) pa_nil))))) (pw_or1 (pt_cmpR op_eq (pe_ix ix_tup (pv 1) pe_int (fun _ _ => rfl)) pe_str (nomark _))))) (pss_one ps_never) pss_nil)), ?_⟩
  refine ⟨_, rfl, x, _, dx, _, _, rfl, hx, T.cl_Ledger, T.na_Ledger_field, rfl, _, rfl, rfl, f, t, bs, th, rfl, FF, hth, I, fun H1 e1 => ⟨true, rfl, ?_⟩⟩
  obtain ⟨v, ht, _⟩ := hth.same e1
  refine ⟨_, rfl, t, _, 0, _, rfl, rfl, SqT.of ht, rfl, rfl, _, rfl, ?_⟩
  rw [kd_share, decide_eq_false hk]
  exact k H1 e1
theorem ok_Ledger_holder (T : Txt K mg) : Mx P w K mg base (He.ga K "Ledger") "holder" 8 (sp_Ledger_holder K) := by
  obtain ⟨fd, F⟩ := T.d_Ledger_holder
  refine ⟨T.cl_Ledger, _, fd, _, T.me_Ledger_holder, fn_body F sc_Ledger_holder rfl (fun cdv A outer s H vs Q E hr h => ?_), F.bindsN (fun _ _ _ _ _ _ us hl => match us, hl with | [_, _], _ => rfl)⟩
  have nd := sc_Ledger_holder.nd
  have hu := hu_of hr
  obtain ⟨x, F, f, bs, Nm, ls, t, th, rfl, ⟨L, hN, hok⟩, hth, I, hk, k⟩ := h
  refine ⟨_, (pss_cons (ps_expr (pe_m (ok_Ledger_check_thing T) (hr.mono (by decide)) (pv 0) (pa_cons (pv 1) pa_nil)))
      (pss_one (ps_ret (pe_dget hu (pe_fld (pe_m0 (ok_Ledger_standing T) (hr.mono (by decide)) (pv 0)) rfl) (pv 1) (fun _ _ => rfl))))), ?_⟩
  obtain ⟨dx, kn, cm, hx, _⟩ := id L.ex
  refine ⟨_, rfl, x, dx, _, rfl, hx, rfl, _, rfl, rfl, x, dx, kn, cm, f, bs, t, th, rfl, hx, L.fl.same cut_le, hth.same cut_le, I, hk, fun H1 e1 => ?_⟩
  refine ⟨_, rfl, x, dx, _, rfl, e1 _ _ hx, rfl, rfl, x, F, f, bs, Nm, ls, rfl, L.same e1, hN, hok, fun H' F' c dxs ys O => ?_⟩
  have S := led_psok L.fl.ok hN hok O.tm
  obtain ⟨r0, hr0⟩ := gk_it hk
  obtain ⟨y, _, hy⟩ := held_ex S I hk r0
  rw [← hr0] at hy
  have O2 := O.same0 e1
  have hth2 := (hth.same O2.chg.cut).same cut_le
  exact ⟨c .root, _, dxs, _, _, rfl, O.rep.std_root, T.cl_Standing, T.na_Standing_held, rfl, _, rfl, c .h, _, rfl, O.rep.held_get (th_gk hth2 hk) hy, k y H' F' c dxs ys O2 hy⟩
theorem ok_Ledger_row (T : Txt K mg) : Mx P w K mg base (He.ga K "Ledger") "row" 8 (sp_Ledger_row K) := by
  obtain ⟨fd, F⟩ := T.d_Ledger_row
  refine ⟨T.cl_Ledger, _, fd, _, T.me_Ledger_row, fn_body F sc_Ledger_row rfl (fun cdv A outer s H vs Q E hr h => ?_), F.bindsN (fun _ _ _ _ _ _ us hl => match us, hl with | [_, _], _ => rfl)⟩
  have nd := sc_Ledger_row.nd
  have hu := hu_of hr
  obtain ⟨x, F, f, bs, Nm, ls, t, th, rfl, ⟨L, hN, hok⟩, hth, I, hk, k⟩ := h
  refine ⟨_, (pss_cons (ps_expr (pe_m (ok_Ledger_check_thing T) (hr.mono (by decide)) (pv 0) (pa_cons (pv 1) pa_nil)))
      (pss_one (ps_ret (pe_lc (own := [("promise", 2), ("things", 3)])  rfl nd (pi_list (pe_fld (pe_m0 (ok_Ledger_standing T) (hr.mono (by decide)) (pv 0)) rfl)) (blkOk_by (own := [("promise", 2), ("things", 3)]) (N := ["self", "thing", "promise", "things"]) (sc := defScope s_Ledger_row) (by decide +kernel)) (fun _ _ _ _ _ => (pg_tupK (K := K) 2 rfl rfl (pgs_cons (pg_name (i := 2) nd rfl (.inl rfl)) (pgs_cons (pg_name (i := 3) nd rfl (.inl rfl)) pgs_nil)))) (fun _ _ _ _ _ => (pts_one (pt_cmpR (op_inDK (K := K) rfl (hr65 hr)) (pv 1) (pv 3) rfl))) (fun _ _ _ _ _ => (pe_fldK (K := K) rfl (pv 2) rfl)))))), ?_⟩
  obtain ⟨dx, kn, cm, hx, _⟩ := id L.ex
  refine ⟨_, rfl, x, dx, _, rfl, hx, rfl, _, rfl, rfl, x, dx, kn, cm, f, bs, t, th, rfl, hx, L.fl.same cut_le, hth.same cut_le, I, hk, fun H1 e1 => ?_⟩
  refine ⟨_, rfl, x, dx, _, rfl, e1 _ _ hx, rfl, rfl, x, F, f, bs, Nm, ls, rfl, L.same e1, hN, hok, fun H' F' c dxs ys O => ?_⟩
  have S := led_psok L.fl.ok hN hok O.tm
  have O2 := O.same0 e1
  have hgk : GKAt H' (.ref t) th.gk := ⟨t, rfl, th_gk ((hth.same O2.chg.cut).same cut_le) hk⟩
  have hgl : (led bs ys).good.length ≤ 100000 := Nat.le_trans (Nat.le_trans (Nat.le_add_right _ _) S.gl) (Nat.le_trans L.len (by decide))
  obtain ⟨vs1, hg1, fg1⟩ := O.rep.good_at
  refine ⟨c .root, _, dxs, _, _, rfl, O.rep.std_root, T.cl_Standing, T.na_Standing_good, rfl, c .gd, rfl, ⟨vs1, SqL.of hg1⟩, fun D hD => ?_⟩
  refine lc_pure (walk_list (xs := vs1)) hD (fun i acc => acc = (((led bs ys).good.take i).filter fun e => decide (th.gk ∈ e.keys)).map (fun e => V.int (e.num : Nat))) rfl (by rw [fg1.1]; exact hgl) (fun H1 e => e.seq (SqL.of hg1)) ?_ ?_
  · rintro i y acc H3 H4 hi e3 rfl ⟨rfl, hvx⟩ Q1 Q0 q1 q0
    obtain ⟨y, hy, te, qo, kle, po, rfl, hte, hpo, hke, hn1, hn2, hn3⟩ := fg1.get2 hvx
    have hte3 := e3 _ _ (cut_le _ _ hte)
    have hke3 : KeysAt H4 kle y.keys := (hke.same mo_gk cut_le).same mo_gk e3
    obtain ⟨⟨dqo, hqo⟩, _⟩ := (hpo.same cut_le).same e3
    refine ⟨te, _, rfl, SqT.of hte3, rfl, _, _, rfl, _, _, rfl, rfl, rfl, ?_⟩
    refine ⟨_, rfl, _, rfl, _, _, gk_dp (mo_gk _ _ _ _ e3 hgk), keys_dp hke3, ?_, keys_shaped (S.ko y (List.mem_of_getElem? hy)), _, rfl, ?_⟩
    · obtain ⟨r0, hr0⟩ := gk_it hk
      rw [hr0]
      exact gk_shaped (g := .it r0 th.bed th.k) I.ok.nm
    rw [any_gk]
    by_cases hm : th.gk ∈ y.keys
    · rw [decide_eq_true hm]
      refine ⟨_, rfl, qo, _, dqo, _, _, rfl, hqo, T.cl_Promise, T.na_Promise_number, rfl, q1 _ _ (Same.refl _) ?_⟩
      rw [filt_snoc _ _ hy, if_pos (decide_eq_true hm), hn1]
    · rw [decide_eq_false hm]
      refine q0 _ (Same.refl _) ?_
      rw [filt_snoc _ _ hy, if_neg (by rw [decide_eq_false hm]; exact Bool.false_ne_true), List.append_nil]
  rintro acc H3 e3 hD3 _ rfl
  rw [fg1.1, List.take_length] at hD3
  exact k D H3 F' c dxs ys (O2.same e3) hD3
end
end RP
set_option Elab.async false
set_option linter.all false
set_option maxRecDepth 100000
set_option maxHeartbeats 400000
/-! rootpledge k80: the program's Ledger, 4: holders -/
namespace RP
open PySem PySem.Spec PyProof.Rows L2
theorem mo_holdrow {K : PySem.W.Frag} {l : List (Str × Nat)} : Mo (HoldRow K l) := fun H H' v n e h => by
  obtain ⟨t, q, rfl, h1, h2⟩ := h
  exact ⟨t, q, rfl, e _ _ h1, h2.same e⟩
section
variable {P : Program} {w : World} {K : PySem.W.Frag} {mg : Str → Option Value} {base : Heap}
theorem ok_Ledger_holders (T : Txt K mg) : Mx P w K mg base (He.ga K "Ledger") "holders" 8 (sp_Ledger_holders K) := by
  obtain ⟨fd, F⟩ := T.d_Ledger_holders
  refine ⟨T.cl_Ledger, _, fd, _, T.me_Ledger_holders, fn_body F sc_Ledger_holders rfl (fun cdv A outer s H vs Q E hr h => ?_), F.bindsN (fun _ _ _ _ _ _ us hl => match us, hl with | [_, _], _ => rfl)⟩
  have nd := sc_Ledger_holders.nd
  have hu := hu_of hr
  obtain ⟨x, F, f, bs, Nm, ls, b, rfl, ⟨L, hN, hok⟩, hb, hsh, k⟩ := h
  refine ⟨_, (pss_cons (ps_if (PW.pt (pw_or (pt_cmpR op_notIn_seq (pv 1) (pe_m0 (ok_Field_bed_names T) (hr.mono (by decide)) (pe_fld (pv 0) rfl)) rfl) (pw_or1 (pt_cmpR op_ne (pe_fld (pe_m (ok_Field_bed_of T) (hr.mono (by decide)) (pe_fld (pv 0) rfl) (pa_cons (pv 1) pa_nil)) rfl) pe_str (nomark _))))) (pss_one ps_never) pss_nil)
      (pss_cons (ps_set (i := 2) nd rfl (Or.inr rfl) (pe_dget hu (pe_fld (pe_m0 (ok_Ledger_standing T) (hr.mono (by decide)) (pv 0)) rfl) (pv 1) (fun _ _ => rfl)))
      (pss_one (ps_ret (pe_lc (own := [("name", 3)])  rfl nd (pi_list (pe_callB (call_sortedD rfl) (by rfl) T.n_sorted b_sorted (pa_cons (pv 2) pa_nil))) (blkOk_by (own := [("name", 3)]) (N := ["self", "bed", "shares", "name"]) (sc := defScope s_Ledger_holders) (by decide +kernel)) (fun _ _ _ _ _ => (pg_name (i := 3) nd rfl (.inl rfl))) (fun _ _ _ _ _ => (pts_one (pt_val (pe_f (ok_less T) (hr.mono (by decide)) (pa_cons (pe_n (ok_Part_init1 T) (hr.mono (by decide)) (pa_cons pe_int pa_nil)) (pa_cons (pe_dget hu (pv 2) (pv 3) (fun _ _ => rfl)) pa_nil)))))) (fun _ _ _ _ _ => (pe_tup (pa_cons (pv 3) (pa_cons (pe_dget hu (pv 2) (pv 3) (fun _ _ => rfl)) pa_nil))))))))), ?_⟩
  obtain ⟨dx, kn, cm, hx, _⟩ := id L.ex
  have FF : FieldAt K H f bs := L.fl.same cut_le
  have BO := L.fl.ok
  obtain ⟨dxf, gf, df, hf, _⟩ := FF.ex
  refine ⟨_, rfl, _, rfl, x, _, dx, _, _, rfl, hx, T.cl_Ledger, T.na_Ledger_field, rfl, f, dxf, _, rfl, hf, rfl, rfl, f, bs, rfl, FF, fun ys p hy hp => ?_⟩
  refine ⟨p, _, rfl, .inl (SqL.of upd_same), rfl, flat_names _, ?_⟩
  rw [if_pos rfl, in_names (hy.mem_iff.mpr (List.mem_map.mpr ⟨b, hb, rfl⟩))]
  have e1 := same_upd (o := .lst (ys.map V.str)) (Same.refl H) hp
  refine ⟨_, rfl, ?_⟩
  generalize upd H p (.lst (ys.map V.str)) = H1 at e1
  refine ⟨_, rfl, x, _, dx, _, _, rfl, e1 _ _ hx, T.cl_Ledger, T.na_Ledger_field, rfl, f, dxf, _, rfl, e1 _ _ hf, rfl, _, rfl, rfl, f, bs, b, _, rfl, e1, FF, hb, fun v H2 e2 B2 => ?_⟩
  obtain ⟨q, dq, rfl, hq⟩ := B2
  have e12 := e1.trans e2
  refine ⟨q, _, dq, _, _, rfl, e12 _ _ hq, T.cl_Bed, T.na_Bed_kind, rfl, rfl, _, rfl, ?_⟩
  rw [(kind_eq b).1, hsh]
  refine ⟨_, rfl, x, dx, _, rfl, e12 _ _ hx, rfl, rfl, x, F, f, bs, Nm, ls, rfl, L.same e12, hN, hok, fun H' F' c dxs ys O => ?_⟩
  have O2 := O.same0 e12
  have S := led_psok BO hN hok O.tm
  have hB : Bsh bs b.name := ⟨b, hb, rfl, hsh⟩
  have pl := S.pl b hb
  have ps := S.sum b hb
  have ll := L.len
  have nd := S.nd b hb
  refine ⟨c .root, _, dxs, _, _, rfl, O.rep.std_root, T.cl_Standing, T.na_Standing_parts, rfl, _, rfl, c .pp, _, rfl, O.rep.parts_get hB, ?_⟩
  obtain ⟨us, hus, fus⟩ := O.rep.sh_at hB
  have fus := fus.mono (knStd K f dxs).mU cut_le
  obtain ⟨l, hl⟩ : ∃ l, l = (led bs ys).parts b.name := ⟨_, rfl⟩
  rw [← hl] at pl ps nd fus
  refine ⟨_, rfl, c (.sh b.name), us, l.map (·.1), rfl, .inl hus, by rw [fus.keys, List.map_map]; rfl, by rw [List.length_map]; omega, fun zs p hz1 hz2 hp => ?_⟩
  have e3 := same_upd (o := .lst (zs.map V.str)) (Same.refl H') hp
  have g3 : upd H' p (.lst (zs.map V.str)) p = some (.lst (zs.map V.str)) := upd_same
  generalize upd H' p (.lst (zs.map V.str)) = H3 at e3 g3
  have hzl : (zs.map V.str).length ≤ 100000 := by
    rw [List.length_map, hz1.length_eq, List.length_map]
    omega
  refine ⟨p, rfl, ⟨_, SqL.of g3⟩, fun D hD => ?_⟩
  refine lc_mk (walk_list (xs := zs.map V.str)) hD (fun i acc H => Fits (HoldRow K l) H acc ((zs.take i).filter fun n => decide (0 < pget l n))) Fits.nil (fun i acc H H' e f => f.same mo_holdrow e) (fun i acc H zs zs' hl f => f.imp fun v x _ r => ?_) hzl (fun H1 e => e.seq (SqL.of g3)) ?_ ?_
  · obtain ⟨t, q, rfl, h1, dpp, h2⟩ := r
    exact ⟨t, q, rfl, by rw [upd_ne (ne_of h1 hl (by intro z; cases z))]; exact h1, dpp, by rw [upd_ne (ne_of h2 hl (by intro z; cases z))]; exact h2⟩
  · rintro i y acc H4 H5 hi e4 ff ⟨rfl, hv⟩ Q1 Q0 q1 q0
    rw [List.getElem?_map] at hv
    cases hzi : zs[i]? with
    | none =>
      rw [hzi] at hv
      cases hv
    | some n =>
      rw [hzi] at hv
      cases hv
      have hn : n ∈ l.map (·.1) := hz1.mem_iff.mp (List.mem_of_getElem? hzi)
      obtain ⟨u, hu⟩ : ∃ u, sget l n = some u := by
        cases hg : sget l n with
        | none => exact absurd hn (sget_none.mp hg)
        | some u => exact ⟨u, rfl⟩
      have hpg : pget l n = u := by
        unfold pget
        rw [hu]
        rfl
      have hule : u ≤ 27720 := by
        rw [← ps, ← hpg]
        exact pget_le _ _
      obtain ⟨vu, hvu, pu, rfl, hpu⟩ := fus.get hu
      have hdg : ∀ {G : Hp}, Same H3 G → DGet G (c (.sh b.name)) (.str n) (some (.ref pu)) := fun {G} e => by
        have := DGet.k (k := Sum.inr n) (e _ _ (e3 _ _ hus))
        rw [hvu] at this
        exact this
      refine ⟨rfl, ?_⟩
      intro z dz f1 g1 n1
      refine mkPartW (K := K) (a := 0) (b := 1) (u := 0) (by decide) (by decide) (by decide) f1 g1 fun H6 e6 P6 => ⟨rfl, ?_⟩
      have e46 := e4.trans e6
      refine ⟨_, rfl, _, rfl, c (.sh b.name), _, rfl, hdg e46, rfl, z, pu, 0, u, rfl, P6, (hpu.same e3).same e46, by decide, hule, _, rfl, ?_⟩
      by_cases h0 : 0 < u
      · rw [decide_eq_true h0]
        refine ⟨_, rfl, _, rfl, _, rfl, c (.sh b.name), _, rfl, hdg e46, (by show 2 ≤ sizeLine; decide), fun t ht => q1 _ _ (same_upd e6 (e6.free ht)) ?_⟩
        rw [filt_take _ hzi, if_pos (decide_eq_true (by rw [hpg]; exact h0))]
        have s7 := same_upd (o := .tup [V.str n, .ref pu]) (Same.refl H6) ht
        exact ((ff.same mo_holdrow e6).same mo_holdrow s7).snoc ⟨t, pu, rfl, upd_same, by rw [hpg]; exact ((hpu.same e3).same e46).same s7⟩
      · rw [decide_eq_false h0]
        refine q0 _ e6 ?_
        rw [filt_take _ hzi, if_neg (by rw [hpg, decide_eq_false h0]; exact Bool.false_ne_true), List.append_nil]
        exact ff.same mo_holdrow e6
  rintro acc H4 e4 hD4 _ ff
  rw [List.length_map, List.take_length] at ff
  subst hl
  exact k D acc zs H4 F' c dxs ys (O2.same (e3.trans e4)) hz1 hz2 hD4 ff
end
end RP
set_option Elab.async false
set_option linter.all false
set_option maxRecDepth 100000
set_option maxHeartbeats 4000000
/-! rootpledge k80: rules of our own, 6: what is due to the holders of a bed -/
namespace RP
open PySem PySem.Spec PyProof.Rows L2
section
variable {X : Cx} {n : Nat}
/-- two lists of a name and a Part, alike -/
def rNeDue (K : PySem.W.Frag) : R2 := fun x y H Q => ∃ a b xs ys zs l, x = .ref a ∧ y = .ref b ∧ H a = some (.lst xs) ∧ H b = some (.lst ys) ∧ Fits (HoldRow K l) H xs zs ∧ Fits (HoldRow K l) H ys zs ∧ ∀ H', Same H H' → Q (.bl false) H'
theorem op_neDue (T : Txt X.K X.mg) (hr : Room (n + 5) X.A) : OpR X (compareOp .NotEq) (rNeDue X.K) := by
  obtain ⟨f1, F1, G1⟩ := fn_Part_eq (P := X.prog) (w := X.w) (base := X.base) T
  have b1 := F1.bindsN (ps := ["self", "other"]) (fun _ _ _ _ _ _ us hl => match us, hl with | [_, _], _ => rfl)
  have c1 := eqG_ins (G1.imp (sp' := spEq (REqPart X.K)) fun vs H Q E h => ⟨by obtain ⟨a, b, e, _⟩ := h; rw [e]; rfl, h⟩) T.me_Part_eq.at_ T.me_Part_eq.fn b1 pass0
  have m1 : Mon (DIns (cPart X.K) (REqPart X.K)) := mon_ins fun a b H H' e ⟨u, h1, h2⟩ => ⟨u, h1.same e, h2.same e⟩
  have m2 := mon_flat.or m1
  have c2 := eqG_tup m2 ((eqG_flat.mono (Nat.zero_le 1)).or c1)
  have c3 := op_neG (ncG_list (mon_tup m2) c2) (hr.mono (by omega))
  intro pins s σ H x y v u Q I rx ry hq
  refine c3 pins s σ H x y v u Q I rx ry ?_
  obtain ⟨a, b, xs, ys, zs, l, rfl, rfl, ha, hb, f1, f2, q⟩ := hq
  refine ⟨⟨a, b, xs, ys, rfl, rfl, ha, hb, f1.1.trans f2.1.symm, fun i x y hx hy => ?_⟩, q⟩
  obtain ⟨z, hz, t, p, rfl, ht, ⟨dx, hp⟩⟩ := f1.get2 hx
  obtain ⟨t', p', rfl, ht', ⟨dy, hp'⟩⟩ := f2.2 i y z hy hz
  refine ⟨t, t', _, _, rfl, rfl, SqT.of ht, SqT.of ht', Prs.cons (.inl ⟨rfl, rfl, ?_⟩) (Prs.cons (.inr ⟨p, p', dx, dy, _, _, rfl, rfl, hp, hp', _, ⟨dx, hp⟩, ⟨dy, hp'⟩⟩) Prs.nil)⟩
  show decide (z = z) = true
  exact decide_eq_true rfl
end
end RP
set_option Elab.async false
set_option linter.all false
set_option maxRecDepth 100000
set_option maxHeartbeats 400000
/-! rootpledge k80: the law's source of numbers -/
namespace RP
open PySem PySem.Spec PyProof.Rows L2
/-- a source that was asked n times at most -/
def SrcAt (H : Hp) (s : Addr) (n : Nat) : Prop := ∃ a b c : Int, H s = some (.lst [.int a, .int b, .int c]) ∧ 0 ≤ a ∧ 0 ≤ b ∧ b < 2147483647 ∧ 0 ≤ c ∧ c ≤ (n : Int)
theorem SrcAt.odd {H : Hp} {s : Addr} {n : Nat} (h : SrcAt H s n) : ∃ o, H s = some o ∧ Odd o := by
  obtain ⟨a, b, c, h, _⟩ := h
  exact ⟨_, h, _, _, rfl⟩
theorem SrcAt.same {H H' : Hp} {s : Addr} {n : Nat} (h : SrcAt H s n) (e : Same H H') : SrcAt H' s n := by
  obtain ⟨a, b, c, h, r⟩ := h
  exact ⟨a, b, c, e _ _ h, r⟩
theorem SrcAt.le {H : Hp} {s : Addr} {n m : Nat} (h : SrcAt H s n) (e : n ≤ m) : SrcAt H s m := by
  obtain ⟨a, b, c, h, r1, r2, r3, r4, r5⟩ := h
  exact ⟨a, b, c, h, r1, r2, r3, r4, by omega⟩
/-- all but s stands alike -/
def But (s : Addr) (H H' : Hp) : Prop := ∀ a o, a ≠ s → H a = some o → H' a = some o
theorem But.of {s : Addr} {H H' : Hp} (e : Same H H') : But s H H' := fun a o _ h => e a o h
theorem But.trans {s : Addr} {H H1 H2 : Hp} (e : But s H H1) (f : But s H1 H2) : But s H H2 := fun a o h q => f a o h (e a o h q)
theorem But.sm {s : Addr} {H H' : Hp} {n : Nat} (e : But s H H') (h : SrcAt H s n) : Sm H H' := by
  obtain ⟨o, h1, h2⟩ := h.odd
  exact Sm.one h1 h2 e
theorem fmod_nat (i : Int) {m : Nat} (h : 1 ≤ m) : ∃ r : Nat, r < m ∧ i.fmod (m : Int) = (r : Int) := by
  have h1 := Int.fmod_nonneg_of_pos i (show (0 : Int) < (m : Int) by omega)
  have h2 := Int.fmod_lt_of_pos i (show (0 : Int) < (m : Int) by omega)
  exact ⟨(i.fmod (m : Int)).toNat, by omega, by omega⟩
theorem primes {r : Nat} (h : r < 7) : ∃ q : Nat, atI [V.int 2147483647, V.int 2147483629, .int 2147483587, .int 2147483579, .int 2147483563, .int 2147483549, .int 2147483543] (r : Int) = some (.int (q : Nat)) ∧ 2 ≤ q ∧ q < 2147483648 := by
  match r, h with
  | 0, _ => exact ⟨2147483647, rfl, by decide, by decide⟩
  | 1, _ => exact ⟨2147483629, rfl, by decide, by decide⟩
  | 2, _ => exact ⟨2147483587, rfl, by decide, by decide⟩
  | 3, _ => exact ⟨2147483579, rfl, by decide, by decide⟩
  | 4, _ => exact ⟨2147483563, rfl, by decide, by decide⟩
  | 5, _ => exact ⟨2147483549, rfl, by decide, by decide⟩
  | 6, _ => exact ⟨2147483543, rfl, by decide, by decide⟩
def sp_law_cell_at (K : PySem.W.Frag) : Sp := spA 2 fun vs H Q => ∃ (a : Addr) (ns : List Int) (k : Nat), vs = [.ref a, .int (k : Nat)] ∧ SqL K H a (ns.map V.int) ∧ ns.length ≤ 100000 ∧ ∀ i : Int, Q (.int i) H
def sp_law_source : Sp := spA 1 fun vs H Q => ∃ i, vs = [.int i] ∧ ∀ p H', H p = none → Same H H' → SrcAt H' p 0 → Q (.ref p) H'
def sp_law_next (K : PySem.W.Frag) : Sp := spA 2 fun vs H Q => ∃ (s : Addr) (m n : Nat), vs = [.ref s, .int (m : Nat)] ∧ 1 ≤ m ∧ m < 100000 ∧ SrcAt H s n ∧ n ≤ 1000000 ∧ ∀ (r : Nat) H', r < m → But s H H' → SrcAt H' s (n + 1) → Q (.int (r : Nat)) H'
section
variable {P : Program} {w : World} {K : PySem.W.Frag} {mg : Str → Option Value} {base : Heap}
theorem ok_law_cell_at (T : Txt K mg) : Fx P w K mg base "_law_cell_at" 1 [] (sp_law_cell_at K) := by
  obtain ⟨fd, F⟩ := T.d_law_cell_at
  refine ⟨_, fd, _, [], T.g__law_cell_at, F.kp, fn_body F sc_law_cell_at rfl (fun cdv A outer s H vs Q E hr h => ?_), F.bindsN (fun _ _ _ _ _ _ us hl => match us, hl with | [_, _], _ => rfl), .nil⟩
  have nd := sc_law_cell_at.nd
  have hu := hu_of hr
  obtain ⟨a, ns, j, rfl, ha, hl, k⟩ := h
  refine ⟨_, (pss_cons (ps_if (pt_cmpR op_lt (pv 1) (pe_callB call_len_seq (by rfl) T.n_len b_len (pa_cons (pv 0) pa_nil)) (nomark _)) (pss_one (ps_ret (pe_ix ix_list (pv 0) (pv 1) (fun _ _ => rfl)))) pss_nil)
      (pss_one (ps_ret pe_int))), ?_⟩
  refine ⟨_, rfl, _, rfl, a, ns.map V.int, rfl, .inl ha, _, _, rfl, rfl, _, rfl, ?_⟩
  by_cases hj : j < ns.length
  · rw [decide_eq_true (by rw [List.length_map]; omega)]
    refine ⟨_, rfl, _, rfl, a, _, _, .int ns[j], rfl, rfl, ha, atI_nat ?_, k _⟩
    rw [List.getElem?_map, List.getElem?_eq_getElem hj]
    rfl
  · rw [decide_eq_false (by rw [List.length_map]; omega)]
    exact k 0
theorem ok_law_source (T : Txt K mg) : Fx P w K mg base "_law_source" 1 [] sp_law_source := by
  obtain ⟨fd, F⟩ := T.d_law_source
  refine ⟨_, fd, _, [], T.g__law_source, F.kp, fn_body F sc_law_source rfl (fun cdv A outer s H vs Q E hr h => ?_), F.bindsN (fun _ _ _ _ _ _ us hl => match us, hl with | [_], _ => rfl), .nil⟩
  have nd := sc_law_source.nd
  have hu := hu_of hr
  obtain ⟨i, rfl, k⟩ := h
  refine ⟨_, (pss_one (ps_ret (pe_lst (pa_cons (pe_op op_mul (pv 0) (pe_callTy call_int1 (by rfl) T.n_int b_int (pa_cons (pe_cmpR op_ge (pv 0) (pe_op op_pow pe_int pe_int) (nomark _)) pa_nil))) (pa_cons (pe_op op_modN (pv 0) pe_int) (pa_cons pe_int pa_nil)))))), ?_⟩
  obtain ⟨r, hr, er⟩ := fmod_nat i (m := 2147483647) (by decide)
  refine ⟨_, rfl, _, rfl, _, _, rfl, rfl, ⟨by decide, by decide, by decide⟩, _, _, rfl, rfl, .inr ⟨_, rfl, _, _, rfl, rfl, .inr ?_, _, rfl, _, _, rfl, rfl, (by show (2147483647 : Int) ≠ 0; decide), (by show 3 ≤ sizeLine; decide), fun p hp => ?_⟩⟩
  · split <;> decide
  · refine k p _ hp (same_upd (Same.refl _) hp) ⟨_, _, _, upd_same, ?_, ?_, ?_, Int.le_refl _, Int.le_refl _⟩
    · show 0 ≤ i * (if decide (i ≥ 10 ^ (18 : Int).toNat) = true then 1 else 0)
      by_cases h : i ≥ 10 ^ (18 : Int).toNat
      · rw [decide_eq_true h, if_pos rfl, Int.mul_one]
        exact Int.le_trans (by decide) h
      · rw [decide_eq_false h, if_neg Bool.false_ne_true, Int.mul_zero]
        exact Int.le_refl _
    · show 0 ≤ i.fmod 2147483647
      rw [show i.fmod 2147483647 = (r : Int) from er]
      omega
    · show i.fmod 2147483647 < 2147483647
      rw [show i.fmod 2147483647 = (r : Int) from er]
      omega
theorem ok_law_next (T : Txt K mg) : Fx P w K mg base "_law_next" 1 [] (sp_law_next K) := by
  obtain ⟨fd, F⟩ := T.d_law_next
  refine ⟨_, fd, _, [], T.g__law_next, F.kp, fn_body F sc_law_next rfl (fun cdv A outer s H vs Q E hr h => ?_), F.bindsN (fun _ _ _ _ _ _ us hl => match us, hl with | [_, _], _ => rfl), .nil⟩
  have nd := sc_law_next.nd
  have hu := hu_of hr
  obtain ⟨s, m, n, rfl, hm1, hm2, ⟨a, b, c, hs, ha, hb1, hb2, hc1, hc2⟩, hn, k⟩ := h
  refine ⟨_, (pss_cons (ps_if (pt_cmpR op_gt (pe_ix ix_list (pv 0) pe_int (fun _ _ => rfl)) pe_int (nomark _)) (pss_cons (ps_set (i := 2) nd rfl (Or.inl rfl) (pe_op op_modN (pe_ix ix_list (pv 0) pe_int (fun _ _ => rfl)) (pv 1)))
      (pss_cons (ps_asg (pe_op op_fdivN (pe_ix ix_list (pv 0) pe_int (fun _ _ => rfl)) (pv 1)) (pg_sub (pv 0) pe_int set_list))
      (pss_one (ps_ret (pv 2))))) pss_nil)
      (pss_cons (ps_asg (pe_op op_add (pe_ix ix_list (pv 0) pe_int (fun _ _ => rfl)) pe_int) (pg_sub (pv 0) pe_int set_list))
      (pss_cons (ps_set (i := 3) nd rfl (Or.inl rfl) (pe_ix ix_list (pe_lst (pa_cons pe_int (pa_cons pe_int (pa_cons pe_int (pa_cons pe_int (pa_cons pe_int (pa_cons pe_int (pa_cons pe_int pa_nil)))))))) (pe_op op_modN (pe_ix ix_list (pv 0) pe_int (fun _ _ => rfl)) pe_int) (fun _ _ => rfl)))
      (pss_cons (ps_set (i := 4) nd rfl (Or.inl rfl) (pe_op op_modN (pe_op op_pow (pe_op op_add (pe_op op_add (pe_ix ix_list (pv 0) pe_int (fun _ _ => rfl)) (pe_op op_mul pe_int (pe_ix ix_list (pv 0) pe_int (fun _ _ => rfl)))) pe_int) pe_int) (pv 3)))
      (pss_cons (ps_set (i := 4) nd rfl (Or.inl rfl) (pe_op op_modN (pe_op op_mul (pe_op op_add (pv 4) (pe_ix ix_list (pv 0) pe_int (fun _ _ => rfl))) (pe_op op_add (pe_op op_fdivN (pv 4) pe_int) pe_int)) (pv 3)))
      (pss_one (ps_ret (pe_op op_modN (pe_op op_fdivN (pv 4) pe_int) (pv 1))))))))), ?_⟩
  refine ⟨_, rfl, s, _, 0, _, rfl, rfl, SqL.of hs, rfl, _, _, rfl, rfl, _, rfl, ?_⟩
  by_cases h0 : 0 < a
  · rw [decide_eq_true h0]
    obtain ⟨r, hr, er⟩ := fmod_nat a hm1
    refine ⟨_, rfl, s, _, 0, _, rfl, rfl, SqL.of hs, rfl, _, rfl, _, _, rfl, rfl, (by omega), ?_⟩
    show tSeq _ _ _ [some (.ref s), some (.int (m : Nat)), some (.int (a.fmod m)), none, none] H
    rw [er]
    refine ⟨_, rfl, s, _, 0, _, rfl, rfl, SqL.of hs, rfl, _, rfl, _, _, rfl, rfl, ⟨by omega, by omega⟩, ?_⟩
    refine ⟨_, rfl, s, _, 0, 0, rfl, rfl, hs, rfl, ?_⟩
    refine ⟨_, rfl, k r _ hr (fun x o hx e => by rw [upd_ne hx]; exact e) ⟨a.fdiv m, b, c, upd_same, ?_, hb1, hb2, hc1, by omega⟩⟩
    rw [Int.fdiv_eq_ediv_of_nonneg _ (by omega)]
    exact Int.ediv_nonneg ha (by omega)
  · rw [decide_eq_false h0]
    refine ⟨_, rfl, s, _, 2, _, rfl, rfl, SqL.of hs, rfl, _, _, rfl, rfl, ?_⟩
    refine ⟨_, rfl, s, _, 2, 2, rfl, rfl, hs, rfl, ?_⟩
    have k1 : But s H (upd H s (.lst [.int a, .int b, .int (c + 1)])) := fun x o hx e => by rw [upd_ne hx]; exact e
    have s1 : upd H s (.lst [.int a, .int b, .int (c + 1)]) s = some (.lst [.int a, .int b, .int (c + 1)]) := upd_same
    show tSeq _ _ _ [some (.ref s), some (.int (m : Nat)), none, none, none] (upd H s (.lst [.int a, .int b, .int (c + 1)]))
    generalize upd H s (.lst [.int a, .int b, .int (c + 1)]) = H1 at k1 s1
    -- prime
    refine ⟨by show 7 ≤ sizeLine; decide, fun p hp => ?_⟩
    obtain ⟨r7, hr7, er7⟩ := fmod_nat (c + 1) (m := 7) (by decide)
    obtain ⟨q, hq1, hq2, hq3⟩ := primes hr7
    have e2 := same_upd (o := .lst [V.int 2147483647, .int 2147483629, .int 2147483587, .int 2147483579, .int 2147483563, .int 2147483549, .int 2147483543]) (Same.refl H1) hp
    have s2 := e2 _ _ s1
    refine ⟨_, rfl, s, _, 2, _, rfl, rfl, SqL.of s2, rfl, _, _, rfl, rfl, (by show (7 : Int) ≠ 0; decide), p, _, _, _, rfl, rfl, SqL.of upd_same, (by show atI _ ((c + 1).fmod 7) = _; rw [show (c + 1).fmod 7 = (r7 : Int) from er7]; exact hq1), ?_⟩
    generalize upd H1 p (.lst [V.int 2147483647, .int 2147483629, .int 2147483587, .int 2147483579, .int 2147483563, .int 2147483549, .int 2147483543]) = H2 at e2 s2
    show tSeq _ _ _ [some (.ref s), some (.int (m : Nat)), none, some (.int (q : Nat)), none] H2
    -- figure
    refine ⟨_, rfl, s, _, 1, _, rfl, rfl, SqL.of s2, rfl, _, rfl, s, _, 2, _, rfl, rfl, SqL.of s2, rfl, _, _, rfl, rfl, .inl ⟨by decide, by decide⟩, _, _, rfl, rfl, _, _, rfl, rfl, _, _, rfl, rfl, ⟨by decide, by decide, by omega⟩, _, rfl, _, _, rfl, rfl, (by omega), ?_⟩
    obtain ⟨f1, hf1, ef1⟩ := fmod_nat ((b + 7919 * (c + 1) + 1) ^ (5 : Int).toNat) (m := q) (by omega)
    show tSeq _ _ _ [some (.ref s), some (.int (m : Nat)), none, some (.int (q : Nat)), some (.int (((b + 7919 * (c + 1) + 1) ^ (5 : Int).toNat).fmod (q : Int)))] H2
    rw [ef1]
    refine ⟨_, rfl, _, rfl, s, _, 2, _, rfl, rfl, SqL.of s2, rfl, _, _, rfl, rfl, _, rfl, _, _, rfl, rfl, (by show (1009 : Int) ≠ 0 ∧ (1009 : Int).natAbs < 1073741824; decide), _, _, rfl, rfl, _, _, rfl, rfl, .inl ⟨by omega, by omega⟩, _, rfl, _, _, rfl, rfl, (by omega), ?_⟩
    obtain ⟨r, hr, er⟩ := fmod_nat (((((f1 : Int) + (c + 1)) * ((f1 : Int).fdiv 1009 + 69621)).fmod (q : Int)).fdiv 7) hm1
    refine ⟨_, rfl, _, _, rfl, rfl, (by show (7 : Int) ≠ 0 ∧ (7 : Int).natAbs < 1073741824; decide), _, rfl, _, _, rfl, rfl, (by omega), ?_⟩
    show Q (.int ((((((f1 : Int) + (c + 1)) * ((f1 : Int).fdiv 1009 + 69621)).fmod (q : Int)).fdiv 7).fmod (m : Int))) H2
    rw [er]
    exact k r H2 hr (k1.trans (But.of e2)) ⟨a, b, c + 1, s2, ha, hb1, hb2, by omega, by omega⟩
end
end RP
set_option Elab.async false
set_option linter.all false
set_option maxRecDepth 100000
set_option maxHeartbeats 400000
/-! rootpledge k80: the law's names -/
namespace RP
open PySem PySem.Spec PyProof.Rows L2
def nameB (x : Str) : Bool := decide (1 ≤ x.cps.size) && decide (x.cps.size ≤ 8) && x.cps.toList.all fun c => decide (97 ≤ c) && decide (c ≤ 122)
theorem name_of {x : Str} (h : nameB x = true) : NameOk x := by
  unfold nameB at h
  rw [Bool.and_eq_true, Bool.and_eq_true, List.all_eq_true] at h
  refine ⟨of_decide_eq_true h.1.1, of_decide_eq_true h.1.2, fun c hc => ?_⟩
  have := h.2 c hc
  rw [Bool.and_eq_true] at this
  exact ⟨of_decide_eq_true this.1, of_decide_eq_true this.2⟩
structure NamesOk (ns : List Str) : Prop where
  len : ns.length = 10
  ok : ∀ x ∈ ns, NameOk x
  nd : ns.Nodup
def some10 : List Str := ["a", "ab", "abc", "b", "ba", "price", "zzzzzzzz", "aa", "root", "abcdefgh"]
theorem some10_ok : NamesOk some10 := by
  refine ⟨rfl, fun x hx => name_of ?_, by decide +kernel⟩
  have : some10.all nameB = true := by decide +kernel
  exact List.all_eq_true.mp this x hx
theorem rot_ok {ns : List Str} (h : NamesOk ns) (r : Nat) : NamesOk (ns.drop r ++ ns.take r) := by
  have p : (ns.drop r ++ ns.take r).Perm ns := List.perm_append_comm.trans (List.Perm.of_eq (List.take_append_drop r ns))
  exact ⟨p.length_eq.trans h.len, fun x hx => h.ok x (p.mem_iff.mp hx), p.nodup_iff.mpr h.nd⟩
theorem rot_cut {r : Nat} (h : r < 10) : cutV (cutV (some10.map V.str) (some (r : Int)) none ++ cutV (some10.map V.str) none (some (r : Int))) none (some 10) = (some10.drop r ++ some10.take r).map V.str := by
  match r, h with
  | 0, _ => rfl
  | 1, _ => rfl
  | 2, _ => rfl
  | 3, _ => rfl
  | 4, _ => rfl
  | 5, _ => rfl
  | 6, _ => rfl
  | 7, _ => rfl
  | 8, _ => rfl
  | 9, _ => rfl
def lasts : Str := "kqxzjvwmbt"
theorem cps_app (a b : Str) : (a ++ b).cps.toList = a.cps.toList ++ b.cps.toList := by
  show (a.cps ++ b.cps).toList = _
  rw [Array.toList_append]
structure Wd (j : Nat) (w : Str) : Prop where
  len : w.cps.toList.length = j
  az : ∀ c ∈ w.cps.toList, 97 ≤ c ∧ c ≤ 122
structure NmI (i : Nat) (ns : List Str) : Prop where
  len : ns.length = i
  ok : ∀ x ∈ ns, NameOk x
  la : ∀ (j : Nat) x, ns[j]? = some x → x.cps.toList.getLast? = lasts.cps.toList[j]?
theorem NmI.nil : NmI 0 [] := ⟨rfl, (fun x h => nomatch h), fun j x h => by simp at h⟩
theorem NmI.snoc {i : Nat} {ns : List Str} {w : Str} {j c : Nat} (h : NmI i ns) (hw : Wd j w) (hj : j ≤ 7) (hc : lasts.cps[i]? = some c) : NmI (i + 1) (ns ++ [w ++ ⟨#[c]⟩]) := by
  have hc2 : lasts.cps.toList[i]? = some c := by rw [Array.getElem?_toList]; exact hc
  have haz : 97 ≤ c ∧ c ≤ 122 := by
    have h2 : lasts.cps.toList.all (fun c => decide (97 ≤ c) && decide (c ≤ 122)) = true := by decide +kernel
    have := List.all_eq_true.mp h2 c (List.mem_of_getElem? hc2)
    rw [Bool.and_eq_true] at this
    exact ⟨of_decide_eq_true this.1, of_decide_eq_true this.2⟩
  have e : (w ++ (⟨#[c]⟩ : Str)).cps.toList = w.cps.toList ++ [c] := cps_app w ⟨#[c]⟩
  refine ⟨by rw [List.length_append, h.len]; rfl, fun x hx => ?_, fun k x hx => ?_⟩
  · rcases List.mem_append.mp hx with hx | hx
    · exact h.ok x hx
    · rw [List.mem_singleton.mp hx]
      have hl : (w ++ (⟨#[c]⟩ : Str)).length = j + 1 := by
        show (w ++ (⟨#[c]⟩ : Str)).cps.size = _
        rw [← Array.length_toList, e, List.length_append, hw.len]
        rfl
      refine ⟨by omega, by omega, fun d hd => ?_⟩
      rw [e] at hd
      rcases List.mem_append.mp hd with hd | hd
      · exact hw.az d hd
      · rw [List.mem_singleton.mp hd]
        exact haz
  · by_cases hk : k < ns.length
    · rw [List.getElem?_append_left hk] at hx
      exact h.la k x hx
    · rw [List.getElem?_append_right (by omega)] at hx
      have hk2 : k - ns.length = 0 := by
        cases hq : k - ns.length with
        | zero => rfl
        | succ q =>
          rw [hq] at hx
          simp at hx
      rw [hk2] at hx
      have hki : k = i := by
        have := h.len
        omega
      rw [hki, hc2, ← Option.some.inj hx, e, List.getLast?_append]
      rfl
theorem NmI.done {ns : List Str} (h : NmI 10 ns) : NamesOk ns := by
  refine ⟨h.len, h.ok, ?_⟩
  have nd : lasts.cps.toList.Nodup := by decide +kernel
  have hl : lasts.cps.toList.length = 10 := by decide +kernel
  rw [List.nodup_iff_pairwise_ne, List.pairwise_iff_getElem]
  intro i j hi hj hij e
  have e1 := h.la i _ (List.getElem?_eq_getElem hi)
  have e2 := h.la j _ (List.getElem?_eq_getElem hj)
  rw [e, e2] at e1
  have := (List.getElem?_inj (by have := h.len; omega) nd).mp e1
  omega
def sp_law_names (K : PySem.W.Frag) : Sp := spA 2 fun vs H Q => ∃ (s : Addr) (n : Nat), vs = [.ref s, .int 10] ∧ SrcAt H s n ∧ n ≤ 900000 ∧ ∀ p ns H', H p = none → But s H H' → SrcAt H' s (n + 100) → H' p = some (.lst (ns.map V.str)) → NamesOk ns → Q (.ref p) H'
section
variable {P : Program} {w : World} {K : PySem.W.Frag} {mg : Str → Option Value} {base : Heap}
theorem ok_law_names (T : Txt K mg) : Fx P w K mg base "_law_names" 2 [] (sp_law_names K) := by
  obtain ⟨fd, F⟩ := T.d_law_names
  refine ⟨_, fd, _, [], T.g__law_names, F.kp, fn_body F sc_law_names rfl (fun cdv A outer s H vs Q E hr h => ?_), F.bindsN (fun _ _ _ _ _ _ us hl => match us, hl with | [_, _], _ => rfl), .nil⟩
  have nd := sc_law_names.nd
  have hu := hu_of hr
  obtain ⟨s, n, rfl, S, hn, k⟩ := h
  refine ⟨_, (pss_cons (ps_if (pt_cmpR op_eq (pe_f (ok_law_next T) (hr.mono (by decide)) (pa_cons (pv 0) (pa_cons pe_int pa_nil))) pe_int (nomark _)) (pss_cons (ps_set (i := 2) nd rfl (Or.inl rfl) (pe_lst (pa_cons pe_str (pa_cons pe_str (pa_cons pe_str (pa_cons pe_str (pa_cons pe_str (pa_cons pe_str (pa_cons pe_str (pa_cons pe_str (pa_cons pe_str (pa_cons pe_str pa_nil))))))))))))
      (pss_cons (ps_set (i := 3) nd rfl (Or.inl rfl) (pe_f (ok_law_next T) (hr.mono (by decide)) (pa_cons (pv 0) (pa_cons pe_int pa_nil))))
      (pss_one (ps_ret (pe_slice sl_list (pe_op op_cat (pe_slice sl_list (pv 2) (po_some (pv 3)) po_none) (pe_slice sl_list (pv 2) po_none (po_some (pv 3)))) po_none (po_some (pv 1))))))) pss_nil)
      (pss_cons (ps_set (i := 4) nd rfl (Or.inl rfl) (pe_lst pa_nil))
      (pss_cons (ps_for PassesOwn.never rfl (pi_str (pe_slice sl_str pe_str po_none (po_some (pv 1)))) (pg_name (i := 5) nd rfl (.inl rfl))
      (pss_cons (ps_set (i := 6) nd rfl (Or.inl rfl) pe_str)
      (pss_cons (ps_for PassesOwn.never rfl (pi_range1 (by rfl) T.n_range (pa_cons (pe_f (ok_law_next T) (hr.mono (by decide)) (pa_cons (pv 0) (pa_cons pe_int pa_nil))) pa_nil)) (pg_name (i := 7) nd rfl (.inl rfl))
      (pss_one (ps_set (i := 6) nd rfl (Or.inl rfl) (pe_op op_add_str (pv 6) (pe_ix ix_str pe_str (pe_f (ok_law_next T) (hr.mono (by decide)) (pa_cons (pv 0) (pa_cons pe_int pa_nil))) (fun _ _ => rfl))))))
      (pss_one (ps_expr (pe_bm PySem.F.plainAttrs_list PySem.F.slot_list_append PySem.F.type_list_append mt_append (pv 4) (pa_cons (pe_op op_add_str (pv 6) (pv 5)) pa_nil)))))))
      (pss_one (ps_ret (pv 4)))))), ?_⟩
  refine ⟨_, rfl, rfl, s, 3, n, rfl, by decide, by decide, S, by omega, fun r H1 hr1 e1 S1 => ⟨rfl, _, rfl, ?_⟩⟩
  by_cases h0 : r = 0
  · subst h0
    rw [decide_eq_true (by rfl)]
    refine ⟨by show 10 ≤ sizeLine; decide, fun p hp => ?_⟩
    have e2 := same_upd (o := .lst (some10.map V.str)) (Same.refl H1) hp
    have g2 : upd H1 p (.lst (some10.map V.str)) p = some (.lst (some10.map V.str)) := upd_same
    show tSeq _ _ _ [some (.ref s), some (.int 10), some (.ref p), none, none, none, none, none] (upd H1 p (.lst (some10.map V.str)))
    generalize upd H1 p (.lst (some10.map V.str)) = H2 at e2 g2
    refine ⟨_, rfl, rfl, s, 10, n + 1, rfl, by decide, by decide, S1.same e2, by omega, fun r H3 hr3 e3 S3 => ?_⟩
    have hps : p ≠ s := by
      obtain ⟨o, ho, _⟩ := S1.odd
      exact fun z => by rw [z, ho] at hp; cases hp
    have g3 := e3 _ _ hps g2
    refine ⟨_, rfl, _, rfl, _, rfl, p, _, rfl, SqL.of g3, fun p1 hp1 => ?_⟩
    have e4 := same_upd (o := .lst (cutV (some10.map V.str) (some (r : Int)) none)) (Same.refl H3) hp1
    have g4 : upd H3 p1 (.lst (cutV (some10.map V.str) (some (r : Int)) none)) p1 = some (.lst (cutV (some10.map V.str) (some (r : Int)) none)) := upd_same
    generalize upd H3 p1 (.lst (cutV (some10.map V.str) (some (r : Int)) none)) = H4 at e4 g4
    refine ⟨_, rfl, _, rfl, _, rfl, p, _, rfl, SqL.of (e4 _ _ g3), fun p2 hp2 => ?_⟩
    have e5 := same_upd (o := .lst (cutV (some10.map V.str) none (some (r : Int)))) (Same.refl H4) hp2
    have g5 : upd H4 p2 (.lst (cutV (some10.map V.str) none (some (r : Int)))) p2 = some (.lst (cutV (some10.map V.str) none (some (r : Int)))) := upd_same
    generalize upd H4 p2 (.lst (cutV (some10.map V.str) none (some (r : Int)))) = H5 at e5 g5
    refine ⟨p1, p2, _, _, rfl, rfl, e5 _ _ g4, g5, ?_, fun p3 hp3 => ?_⟩
    · have h1 := cutV_length (some10.map V.str) (some (r : Int)) none
      have h2 := cutV_length (some10.map V.str) none (some (r : Int))
      rw [show (some10.map V.str).length = 10 from rfl] at h1 h2
      exact Nat.le_trans (Nat.add_le_add h1 h2) (by decide)
    refine ⟨_, rfl, _, rfl, p3, _, rfl, SqL.of upd_same, fun p4 hp4 => ?_⟩
    have e6 := same_upd (o := .lst (cutV (some10.map V.str) (some (r : Int)) none ++ cutV (some10.map V.str) none (some (r : Int)))) (Same.refl H5) hp3
    have e7 := (e4.trans e5).trans e6
    have hp40 : H p4 = none := by
      cases z : H p4 with
      | none => rfl
      | some o =>
        by_cases q : p4 = s
        · obtain ⟨o2, ho2, _⟩ := S3.odd
          rw [q, e7 _ _ ho2] at hp4
          cases hp4
        · rw [e7 _ _ (e3 _ _ q (e2 _ _ (e1 _ _ q z)))] at hp4
          cases hp4
    refine k p4 (some10.drop r ++ some10.take r) _ hp40 (((e1.trans (But.of e2)).trans e3).trans (But.of (same_upd e7 (e7.free hp4)))) ((S3.same (same_upd e7 (e7.free hp4))).le (by omega)) ?_ (rot_ok some10_ok r)
    rw [upd_same, rot_cut hr3]
  · rw [decide_eq_false (show ¬ V.int (r : Nat) = V.int 0 from fun z => by injection z with z; omega)]
    refine ⟨by show 0 ≤ sizeLine; decide, fun p hp => ?_⟩
    have e2 := same_upd (o := .lst []) (Same.refl H1) hp
    have g2 : upd H1 p (.lst []) p = some (.lst []) := upd_same
    have hps : p ≠ s := by
      obtain ⟨o, ho, _⟩ := S1.odd
      exact fun z => by rw [z, ho] at hp; cases hp
    have hp0 : H p = none := by
      cases z : H p with
      | none => rfl
      | some o =>
        rw [e1 _ _ hps z] at hp
        cases hp
    show tSeq _ _ _ [some (.ref s), some (.int 10), none, none, some (.ref p), none, none, none] (upd H1 p (.lst []))
    generalize upd H1 p (.lst []) = H2 at e2 g2
    have hz : cutS "kqxzjvwmbt" none (some 10) = lasts := by decide +kernel
    refine ⟨_, rfl, _, rfl, _, rfl, (by show 10 ≤ sizeLine; decide), lasts, congrArg V.str hz, ?_⟩
    refine for_it walk_str (fun i σ H' => ∃ ns u5 u6 u7, σ = [some (.ref s), some (.int 10), none, none, some (.ref p), u5, u6, u7] ∧ NmI i ns ∧ H' p = some (.lst (ns.map V.str)) ∧ SrcAt H' s (n + 1 + 8 * i) ∧ ∀ a o, a ≠ s → a ≠ p → H2 a = some o → H' a = some o) ⟨[], _, _, _, rfl, .nil, g2, S1.same e2, fun _ _ _ _ h => h⟩ (fun _ _ _ _ _ => trivial) ?_ ?_
    · rintro i v σ H3 H4 hi ⟨ns, u5, u6, u7, rfl, hN, hp3, S3, k3⟩ ⟨rfl, c, hc, rfl⟩
      have hi10 : i < 10 := by
        have : lasts.cps.size = 10 := by decide +kernel
        omega
      show tSeq _ _ _ [some (.ref s), some (.int 10), none, none, some (.ref p), some (.str ⟨#[c]⟩), u6, u7] H4
      refine ⟨_, rfl, rfl, s, 8, _, rfl, by decide, by decide, S3, by omega, fun r8 H5 hr8 e5 S5 => ?_⟩
      refine ⟨_, rfl, by omega, by omega, ?_⟩
      have hs5 : ∀ a o, a ≠ s → a ≠ p → H2 a = some o → H5 a = some o := fun a o h1 h2 h3 => e5 _ _ h1 (k3 a o h1 h2 h3)
      have hp5 := e5 _ _ hps hp3
      refine for_it walk_range (fun j σ H' => ∃ w u7, σ = [some (.ref s), some (.int 10), none, none, some (.ref p), some (.str ⟨#[c]⟩), some (.str w), u7] ∧ Wd j w ∧ H' p = some (.lst (ns.map V.str)) ∧ SrcAt H' s (n + 1 + 8 * i + 1 + j) ∧ ∀ a o, a ≠ s → a ≠ p → H2 a = some o → H' a = some o)
        ⟨_, _, rfl, ⟨rfl, (fun c h => nomatch h)⟩, hp5, S5, hs5⟩ (fun _ _ _ _ _ => trivial) ?_ ?_
      · rintro j x σ H6 H7 hj ⟨wd, u7, rfl, hw, hp6, S6, k6⟩ ⟨rfl, rfl⟩
        have hj7 : j < 7 := by omega
        refine ⟨_, rfl, _, rfl, rfl, s, 26, _, rfl, by decide, by decide, S6, by omega, fun r26 H8 hr26 e8 S8 => ?_⟩
        have hl26 : ("abcdefghijklmnopqrstuvwxyz" : Str).cps.toList.length = 26 := by decide +kernel
        obtain ⟨c2, hc2⟩ : ∃ c2, ("abcdefghijklmnopqrstuvwxyz" : Str).cps.toList[r26]? = some c2 := ⟨_, List.getElem?_eq_getElem (by omega)⟩
        have haz : 97 ≤ c2 ∧ c2 ≤ 122 := by
          have h2 : ("abcdefghijklmnopqrstuvwxyz" : Str).cps.toList.all (fun c => decide (97 ≤ c) && decide (c ≤ 122)) = true := by decide +kernel
          have := List.all_eq_true.mp h2 c2 (List.mem_of_getElem? hc2)
          rw [Bool.and_eq_true] at this
          exact ⟨of_decide_eq_true this.1, of_decide_eq_true this.2⟩
        have hwl : wd.length = j := by
          show wd.cps.size = j
          rw [← Array.length_toList, hw.len]
        have hw2 : Wd (j + 1) (wd ++ ⟨#[c2]⟩) := by
          have e : (wd ++ (⟨#[c2]⟩ : Str)).cps.toList = wd.cps.toList ++ [c2] := cps_app wd ⟨#[c2]⟩
          refine ⟨by rw [e, List.length_append, hw.len]; rfl, fun d hd => ?_⟩
          rw [e] at hd
          rcases List.mem_append.mp hd with hd | hd
          · exact hw.az d hd
          · rw [List.mem_singleton.mp hd]
            exact haz
        refine ⟨_, _, c2, rfl, rfl, (by decide +kernel), atI_nat hc2, _, _, rfl, rfl, ?_, _, _, rfl, hw2, e8 _ _ hps hp6, S8, fun a o h1 h2 h3 => e8 _ _ h1 (k6 a o h1 h2 h3)⟩
        rw [hwl]
        exact Nat.le_trans (show j + 1 ≤ 8 by omega) (by decide)
      · rintro σ H6 ⟨wd, u7, rfl, hw, hp6, S6, k6⟩
        have hr8' : ((r8 : Nat) : Int).toNat = r8 := by omega
        rw [hr8'] at hw S6
        have hwl : wd.length = r8 := by
          show wd.cps.size = r8
          rw [← Array.length_toList, hw.len]
        refine ⟨_, rfl, .inl ⟨rfl, _, SqL.of hp6⟩, _, rfl, _, rfl, _, _, rfl, rfl, ?_, p, _, _, rfl, rfl, hp6, ?_, ?_⟩
        · rw [hwl]
          exact Nat.le_trans (show r8 + 1 ≤ 8 by omega) (by decide)
        · rw [List.length_map, hN.len]
          exact Nat.lt_of_lt_of_le hi10 (by decide)
        refine ⟨ns ++ [wd ++ ⟨#[c]⟩], _, _, _, rfl, hN.snoc hw (by omega) hc, ?_, ?_, fun a o h1 h2 h3 => ?_⟩
        · rw [upd_same, List.map_append]
          rfl
        · obtain ⟨a, b, cc, h1, r1, r2, r3, r4, r5⟩ := S6
          exact ⟨a, b, cc, by rw [upd_ne hps.symm]; exact h1, r1, r2, r3, r4, by omega⟩
        · rw [upd_ne h2]
          exact k6 a o h1 h2 h3
    · rintro σ H3 ⟨ns, u5, u6, u7, rfl, hN, hp3, S3, k3⟩
      have h10 : lasts.cps.size = 10 := by decide +kernel
      rw [h10] at hN S3
      refine ⟨_, rfl, k p ns H3 hp0 (fun a o h1 h2 => k3 a o h1 ?_ (e2 _ _ (e1 _ _ h1 h2))) (S3.le (by omega)) hp3 hN.done⟩
      exact ne_of_none h2 hp0
end
end RP
set_option Elab.async false
set_option linter.all false
set_option maxRecDepth 100000
set_option maxHeartbeats 400000
/-! rootpledge k80: the law's breeds and beds -/
namespace RP
open PySem PySem.Spec PyProof.Rows L2
theorem mo_grade : Mo GradeAt := fun H H' v x e h => h.same e
def g0 : Int × Str × Int := (0, "", 0)
/-- grades as they grow -/
structure GrI (j : Nat) (L : List (Int × Str × Int)) (least : Int) : Prop where
  len : L.length = j
  ok : ∀ g ∈ L, GradeOk g
  lt : ∀ g ∈ L, g.1 < least
  up : L.Pairwise fun a b => a.1 < b.1
  z : ∀ g, L[0]? = some g → g.1 = 0
  l0 : j = 0 → least = 0
  ge : 0 ≤ least
  le : least ≤ 300 * (j : Int)
theorem GrI.nil : GrI 0 [] 0 := ⟨rfl, (fun g h => nomatch h), (fun g h => nomatch h), .nil, fun g h => by simp at h, fun _ => rfl, Int.le_refl _, by decide⟩
theorem GrI.snoc {j : Nat} {L : List (Int × Str × Int)} {least : Int} {x : Str} {h r : Nat} (g : GrI j L least) (hj : j ≤ 5) (hx : NameOk x) (hh : h < 1001) (hr : r < 200) : GrI (j + 1) (L ++ [(least, x, (h : Int))]) (least + 1 + r) := by
  have g1 := g.ge
  have g2 := g.le
  refine ⟨by rw [List.length_append, g.len]; rfl, fun a ha => ?_, fun a ha => ?_, ?_, fun a ha => ?_, fun z => by omega, by omega, by omega⟩
  · rcases List.mem_append.mp ha with ha | ha
    · exact g.ok a ha
    · rw [List.mem_singleton.mp ha]
      exact ⟨g1, by show least ≤ 1000000; omega, hx, by show (0 : Int) ≤ (h : Int); omega, by show (h : Int) ≤ 1000; omega⟩
  · rcases List.mem_append.mp ha with ha | ha
    · have := g.lt a ha
      omega
    · rw [List.mem_singleton.mp ha]
      show least < _
      omega
  · rw [List.pairwise_append]
    refine ⟨g.up, List.pairwise_singleton _ _, fun a ha b hb => ?_⟩
    rw [List.mem_singleton.mp hb]
    exact g.lt a ha
  · cases L with
    | nil =>
      simp at ha
      rw [← ha]
      exact g.l0 (by rw [← g.len]; rfl)
    | cons b L =>
      exact g.z a (by simpa using ha)
theorem GrI.at_ {j : Nat} {L : List (Int × Str × Int)} {least : Int} {H : Hp} {a : Addr} (g : GrI j L least) (h1 : 1 ≤ j) (h6 : j ≤ 6) (f : LAt GradeAt H a L) : GradesAt H a j (fun i => (L[i]?).getD g0) := by
  obtain ⟨vs, hv, ff⟩ := f
  have e : ∀ {i : Nat} {x}, L[i]? = some x → (L[i]?).getD g0 = x := fun {i x} h => by rw [h]; rfl
  refine ⟨⟨vs, hv, ff.1.trans g.len, fun i v hvi => ?_⟩, fun i hi => ?_, h1, h6, ?_, fun i hi => ?_⟩
  · obtain ⟨x, hx, hg⟩ := ff.get2 hvi
    show GradeAt H v ((L[i]?).getD g0)
    rw [e hx]
    exact hg
  · have hi2 : i < L.length := by rw [g.len]; exact hi
    show GradeOk ((L[i]?).getD g0)
    rw [e (List.getElem?_eq_getElem hi2)]
    exact g.ok _ (List.getElem_mem hi2)
  · have hi2 : 0 < L.length := by rw [g.len]; exact h1
    show ((L[0]?).getD g0).1 = 0
    rw [e (List.getElem?_eq_getElem hi2)]
    exact g.z _ (List.getElem?_eq_getElem hi2)
  · have hi2 : i < L.length := by rw [g.len]; omega
    have hi3 : i + 1 < L.length := by rw [g.len]; omega
    show ((L[i]?).getD g0).1 < ((L[i + 1]?).getD g0).1
    rw [e (List.getElem?_eq_getElem hi2), e (List.getElem?_eq_getElem hi3)]
    exact List.pairwise_iff_getElem.mp g.up i (i + 1) hi2 hi3 (Nat.lt_succ_self i)
def BrRowAt : Hp → V → Str → Prop := fun H v x => ∃ t g m gs, v = .ref t ∧ H t = some (.tup [.str x, .ref g]) ∧ GradesAt H g m gs
theorem mo_brrow : Mo BrRowAt := fun H H' v x e h => by
  obtain ⟨t, g, m, gs, rfl, h1, h2⟩ := h
  exact ⟨t, g, m, gs, rfl, e _ _ h1, h2.same e⟩
theorem SrcAt.write {H : Hp} {s p : Addr} {n : Nat} {o : HO} (h : SrcAt H s n) (hp : p ≠ s) : SrcAt (upd H p o) s n := by
  obtain ⟨a, b, c, h, r⟩ := h
  exact ⟨a, b, c, by rw [upd_ne hp.symm]; exact h, r⟩
theorem But.chg {s : Addr} {C : Addr → Prop} {H H' : Hp} (e : But s H H') (h : C s) : Chg C C H H' := ⟨fun a o ha q => e a o (fun z => ha (by rw [z]; exact h)) q, fun a => .inl⟩
def sp_law_breed_rows (K : PySem.W.Frag) : Sp := spA 2 fun vs H Q => ∃ (s nm : Addr) (n : Nat) (ns : List Str), vs = [.ref s, .ref nm] ∧ SrcAt H s n ∧ n ≤ 900000 ∧ H nm = some (.lst (ns.map V.str)) ∧ ns.length = 3 ∧ (∀ x ∈ ns, NameOk x) ∧ nm ≠ s ∧
  ∀ p j H', H p = none → But s H H' → SrcAt H' s (n + 100) → 1 ≤ j → j ≤ 3 → LAt BrRowAt (cut H' fun a => a = s) p (ns.take j) → Q (.ref p) H'
section
variable {P : Program} {w : World} {K : PySem.W.Frag} {mg : Str → Option Value} {base : Heap}
theorem ok_law_breed_rows (T : Txt K mg) : Fx P w K mg base "_law_breed_rows" 2 [] (sp_law_breed_rows K) := by
  obtain ⟨fd, F⟩ := T.d_law_breed_rows
  refine ⟨_, fd, _, [], T.g__law_breed_rows, F.kp, fn_body F sc_law_breed_rows rfl (fun cdv A outer s H vs Q E hr h => ?_), F.bindsN (fun _ _ _ _ _ _ us hl => match us, hl with | [_, _], _ => rfl), .nil⟩
  have nd := sc_law_breed_rows.nd
  have hu := hu_of hr
  obtain ⟨s, nm, n, ns, rfl, S, hn, hnm, hnl, hnk, hns, k⟩ := h
  refine ⟨_, (pss_cons (ps_set (i := 2) nd rfl (Or.inl rfl) (pe_lst pa_nil))
      (pss_cons (ps_for PassesOwn.never rfl (pi_range1 (by rfl) T.n_range (pa_cons (pe_op op_add pe_int (pe_f (ok_law_next T) (hr.mono (by decide)) (pa_cons (pv 0) (pa_cons pe_int pa_nil)))) pa_nil)) (pg_name (i := 3) nd rfl (.inl rfl))
      (pss_cons (ps_set (i := 4) nd rfl (Or.inl rfl) pe_int)
      (pss_cons (ps_set (i := 5) nd rfl (Or.inl rfl) (pe_lst pa_nil))
      (pss_cons (ps_for PassesOwn.never rfl (pi_range1 (by rfl) T.n_range (pa_cons (pe_op op_add pe_int (pe_f (ok_law_next T) (hr.mono (by decide)) (pa_cons (pv 0) (pa_cons pe_int pa_nil)))) pa_nil)) (pg_name (i := 6) nd rfl (.inl rfl))
      (pss_cons (ps_expr (pe_bm PySem.F.plainAttrs_list PySem.F.slot_list_append PySem.F.type_list_append mt_append (pv 5) (pa_cons (pe_tup (pa_cons (pv 4) (pa_cons (pe_ix ix_list (pv 1) (pe_f (ok_law_next T) (hr.mono (by decide)) (pa_cons (pv 0) (pa_cons (pe_callB call_len_seq (by rfl) T.n_len b_len (pa_cons (pv 1) pa_nil)) pa_nil))) (fun _ _ => rfl)) (pa_cons (pe_f (ok_law_next T) (hr.mono (by decide)) (pa_cons (pv 0) (pa_cons pe_int pa_nil))) pa_nil)))) pa_nil)))
      (pss_one (ps_set (i := 4) nd rfl (Or.inl rfl) (pe_op op_add (pe_op op_add (pv 4) pe_int) (pe_f (ok_law_next T) (hr.mono (by decide)) (pa_cons (pv 0) (pa_cons pe_int pa_nil))))))))
      (pss_one (ps_expr (pe_bm PySem.F.plainAttrs_list PySem.F.slot_list_append PySem.F.type_list_append mt_append (pv 2) (pa_cons (pe_tup (pa_cons (pe_ix ix_list (pv 1) (pv 3) (fun _ _ => rfl)) (pa_cons (pv 5) pa_nil))) pa_nil))))))))
      (pss_one (ps_ret (pv 2))))), ?_⟩
  refine ⟨by show 0 ≤ sizeLine; decide, fun p hp => ?_⟩
  have e1 := same_upd (o := .lst []) (Same.refl H) hp
  have g1 : upd H p (.lst []) p = some (.lst []) := upd_same
  have hps : p ≠ s := by
    obtain ⟨o, ho, _⟩ := S.odd
    exact fun z => by rw [z, ho] at hp; cases hp
  have hpn : nm ≠ p := ne_of_none hnm hp
  show tSeq _ _ _ [some (.ref s), some (.ref nm), some (.ref p), none, none, none, none] (upd H p (.lst []))
  generalize upd H p (.lst []) = H1 at e1 g1
  refine ⟨_, rfl, rfl, s, 3, n, rfl, by decide, by decide, S.same e1, by omega, fun r1 H2 hr1 e2 S2 => ⟨_, _, rfl, rfl, _, rfl, by omega, by omega, ?_⟩⟩
  have hlen : ((1 : Int) + (r1 : Nat)).toNat = 1 + r1 := by omega
  have C2 : Chg (fun a => a = s ∨ a = p) (fun a => a = s ∨ a = p) H1 H2 := e2.chg (.inl rfl)
  refine for_it walk_range (fun i σ H' => ∃ u3 u4 u5 u6 vs, σ = [some (.ref s), some (.ref nm), some (.ref p), u3, u4, u5, u6] ∧ H' p = some (.lst vs) ∧ Fits BrRowAt (cut H' fun a => a = s ∨ a = p) vs (ns.take i) ∧ SrcAt H' s (n + 1 + 20 * i) ∧ Chg (fun a => a = s ∨ a = p) (fun a => a = s ∨ a = p) H1 H')
    ⟨_, _, _, _, [], rfl, e2 _ _ hps g1, Fits.nil, S2, C2⟩ (fun _ _ _ _ _ => trivial) ?_ ?_
  · rintro i x σ H3 H4 hi ⟨u3, u4, u5, u6, vs, rfl, hp3, f3, S3, C3⟩ ⟨rfl, e⟩
    rw [hlen] at hi
    have e : x = .int (i : Nat) := e.trans (by show V.int (0 + (i : Int)) = _; rw [Int.zero_add])
    subst e
    have hnm4 : H4 nm = some (.lst (ns.map V.str)) := C3.kp _ _ (fun z => z.elim hns hpn) (e1 _ _ hnm)
    show tSeq _ _ _ [some (.ref s), some (.ref nm), some (.ref p), some (.int (i : Nat)), u4, u5, u6] H4
    show tSeq _ _ _ [some (.ref s), some (.ref nm), some (.ref p), some (.int (i : Nat)), some (.int 0), u5, u6] H4
    refine ⟨by show 0 ≤ sizeLine; decide, fun g hg => ?_⟩
    have e5 := same_upd (o := .lst []) (Same.refl H4) hg
    have g5 : upd H4 g (.lst []) g = some (.lst []) := upd_same
    have hgs : g ≠ s := by
      obtain ⟨o, ho, _⟩ := S3.odd
      exact fun z => by rw [z, ho] at hg; cases hg
    have hgp : g ≠ p := fun z => by rw [z, hp3] at hg; cases hg
    have hgn : nm ≠ g := ne_of_none hnm4 hg
    show tSeq _ _ _ [some (.ref s), some (.ref nm), some (.ref p), some (.int (i : Nat)), some (.int 0), some (.ref g), u6] (upd H4 g (.lst []))
    generalize upd H4 g (.lst []) = H5 at e5 g5
    refine ⟨_, rfl, rfl, s, 3, _, rfl, by decide, by decide, S3.same e5, by omega, fun r2 H6 hr2 e6 S6 => ⟨_, _, rfl, rfl, _, rfl, by omega, by omega, ?_⟩⟩
    have hlen2 : ((1 : Int) + (r2 : Nat)).toNat = 1 + r2 := by omega
    have C6 : Chg (fun a => a = s ∨ a = g) (fun a => a = s ∨ a = g) H5 H6 := e6.chg (.inl rfl)
    refine for_it walk_range (fun j σ H' => ∃ least u6 L gv, σ = [some (.ref s), some (.ref nm), some (.ref p), some (.int (i : Nat)), some (.int least), some (.ref g), u6] ∧ H' g = some (.lst gv) ∧ Fits GradeAt (cut H' fun a => a = s ∨ a = g) gv L ∧ GrI j L least ∧ SrcAt H' s (n + 1 + 20 * i + 1 + 3 * j) ∧ Chg (fun a => a = s ∨ a = g) (fun a => a = s ∨ a = g) H5 H')
      ⟨0, _, [], [], rfl, e6 _ _ hgs g5, Fits.nil, GrI.nil, S6, C6⟩ (fun _ _ _ _ _ => trivial) ?_ ?_
    · rintro j y σ H7 H8 hj ⟨least, u6, L, gv, rfl, hg7, f7, I7, S7, C7⟩ ⟨rfl, ey⟩
      rw [hlen2] at hj
      have hnm8 : H8 nm = some (.lst (ns.map V.str)) := C7.kp _ _ (fun z => z.elim hns hgn) (e5 _ _ hnm4)
      refine ⟨_, rfl, .inl ⟨rfl, _, SqL.of hg7⟩, _, rfl, _, rfl, _, rfl, _, rfl, nm, _, rfl, .inl (SqL.of hnm8), rfl, s, 3, _, (by rw [List.length_map, hnl]; rfl), by decide, by decide, S7, by omega, fun rn H9 hrn e9 S9 => ?_⟩
      have hnm9 := e9 _ _ hns hnm8
      have hin : rn < ns.length := by omega
      refine ⟨nm, _, _, .str ns[rn], rfl, rfl, SqL.of hnm9, atI_nat (by rw [List.getElem?_map, List.getElem?_eq_getElem hin]; rfl), ?_⟩
      refine ⟨_, rfl, rfl, s, 1001, _, rfl, by decide, by decide, S9, by omega, fun rh H10 hrh e10 S10 => ⟨(by show 3 ≤ sizeLine; decide), fun t ht => ?_⟩⟩
      have hg10 := e10 _ _ hgs (e9 _ _ hgs hg7)
      have htg : t ≠ g := fun z => by rw [z, hg10] at ht; cases ht
      have hts : t ≠ s := fun z => by
        obtain ⟨o, ho, _⟩ := S10.odd
        rw [z, ho] at ht
        cases ht
      have e11 := same_upd (o := .tup [V.int least, .str ns[rn], .int (rh : Nat)]) (Same.refl H10) ht
      have g11 : upd H10 t (.tup [V.int least, .str ns[rn], .int (rh : Nat)]) t = some (.tup [V.int least, .str ns[rn], .int (rh : Nat)]) := upd_same
      refine ⟨g, gv, _, rfl, rfl, e11 _ _ hg10, by rw [f7.1, I7.len]; exact Nat.lt_of_le_of_lt (show j ≤ 10 by omega) (by decide), ?_⟩
      generalize upd H10 t (.tup [V.int least, .str ns[rn], .int (rh : Nat)]) = H11 at e11 g11
      have S12 : SrcAt (upd H11 g (.lst (gv ++ [.ref t]))) s (n + 1 + 20 * i + 1 + 3 * j + 1 + 1) := (S10.same e11).write hgs
      have C12 : Chg (fun a => a = s ∨ a = g) (fun a => a = s ∨ a = g) H8 (upd H11 g (.lst (gv ++ [.ref t]))) := ((((e9.chg (.inl rfl)).trans (e10.chg (.inl rfl))).trans (Chg.of e11)).trans (Chg.write (.inr rfl)))
      have g12 : upd H11 g (.lst (gv ++ [.ref t])) g = some (.lst (gv ++ [.ref t])) := upd_same
      have t12 : cut (upd H11 g (.lst (gv ++ [.ref t]))) (fun a => a = s ∨ a = g) t = some (.tup [V.int least, .str ns[rn], .int (rh : Nat)]) := cut_of (fun z => z.elim hts htg) (by rw [upd_ne htg]; exact g11)
      generalize upd H11 g (.lst (gv ++ [.ref t])) = H12 at S12 C12 g12 t12
      refine ⟨_, rfl, _, _, rfl, rfl, _, rfl, rfl, s, 200, _, rfl, by decide, by decide, S12, by omega, fun rl H13 hrl e13 S13 => ⟨_, _, rfl, rfl, ?_⟩⟩
      have C13 := C12.trans (e13.chg (C := fun a => a = s ∨ a = g) (.inl rfl))
      refine ⟨least + 1 + rl, _, L ++ [(least, ns[rn], (rh : Int))], gv ++ [.ref t], rfl, e13 _ _ hgs g12, (f7.same mo_grade C13.cut).snoc ⟨t, rfl, (e13.chg (C := fun a => a = s ∨ a = g) (.inl rfl)).cut _ _ t12⟩, I7.snoc (by omega) (hnk _ (List.getElem_mem hin)) hrh hrl, S13.le (by omega), C7.trans C13⟩
    · rintro σ H7 ⟨least, u6, L, gv, rfl, hg7, f7, I7, S7, C7⟩
      rw [hlen2] at I7 S7
      have hnm7 : H7 nm = some (.lst (ns.map V.str)) := C7.kp _ _ (fun z => z.elim hns hgn) (e5 _ _ hnm4)
      have hp7 : H7 p = some (.lst vs) := C7.kp _ _ (fun z => z.elim hps hgp.symm) (e5 _ _ hp3)
      have hik : i < ns.length := by omega
      refine ⟨_, rfl, .inl ⟨rfl, _, SqL.of hp7⟩, _, rfl, _, rfl, nm, _, _, .str ns[i], rfl, rfl, SqL.of hnm7, atI_nat (by rw [List.getElem?_map, List.getElem?_eq_getElem hik]; rfl), _, rfl, (by show 2 ≤ sizeLine; decide), fun t ht => ?_⟩
      have e8 := same_upd (o := .tup [V.str ns[i], .ref g]) (Same.refl H7) ht
      have g8 : upd H7 t (.tup [V.str ns[i], .ref g]) t = some (.tup [V.str ns[i], .ref g]) := upd_same
      have hts : t ≠ s := fun z => by
        obtain ⟨o, ho, _⟩ := S7.odd
        rw [z, ho] at ht
        cases ht
      have htp : t ≠ p := fun z => by rw [z, hp7] at ht; cases ht
      refine ⟨p, vs, _, rfl, rfl, e8 _ _ hp7, by rw [f3.1, List.length_take]; exact Nat.lt_of_le_of_lt (show min i ns.length ≤ 3 by omega) (by decide), ?_⟩
      generalize upd H7 t (.tup [V.str ns[i], .ref g]) = H8 at e8 g8
      have C47 : Chg (fun a => a = s ∨ a = p) (fun a => a = s ∨ a = p) H4 H7 := by
        refine ⟨fun a o ha q => C7.kp a o (fun z => z.elim (fun z => ha (.inl z)) (ne_of_none q hg)) (e5 _ _ q), fun a ha => .inl ha⟩
      have C78 := (C47.trans (Chg.of e8)).trans (Chg.write (o := .lst (vs ++ [.ref t])) (C := fun a => a = s ∨ a = p) (.inr rfl))
      have fg : GradesAt (cut (upd H8 p (.lst (vs ++ [.ref t]))) fun a => a = s ∨ a = p) g (1 + r2) _ := I7.at_ (by omega) (by omega) ⟨gv, cut_of (fun z => z.elim hgs hgp) (by rw [upd_ne hgp]; exact e8 _ _ hg7), f7.imp fun v x _ q => by
        obtain ⟨t2, rfl, h2⟩ := q
        obtain ⟨n2, h3⟩ := cut_some h2
        have h2p : t2 ≠ p := ne_of h3 hp7 (by intro z; cases z)
        exact ⟨t2, rfl, cut_of (fun z => z.elim (fun z => n2 (.inl z)) h2p) (by rw [upd_ne h2p]; exact e8 _ _ h3)⟩⟩
      refine ⟨_, _, _, _, vs ++ [.ref t], rfl, upd_same, ?_, ((S7.same e8).write hps).le (by omega), C3.trans C78⟩
      rw [take_snoc (List.getElem?_eq_getElem hik)]
      exact (f3.same mo_brrow C78.cut).snoc ⟨t, g, _, _, rfl, cut_of (fun z => z.elim hts htp) (by rw [upd_ne htp]; exact g8), fg⟩
  · rintro σ H3 ⟨u3, u4, u5, u6, vs, rfl, hp3, f3, S3, C3⟩
    rw [hlen] at f3 S3
    refine ⟨_, rfl, k p (1 + r1) H3 hp (fun a o ha q => ?_) (S3.le (by omega)) (by omega) (by omega) ⟨vs, cut_of hps hp3, f3.same mo_brrow (cut_mono fun a h => .inl h)⟩⟩
    exact C3.kp _ _ (fun z => z.elim ha (ne_of_none q hp)) (e1 _ _ q)
end
end RP
set_option Elab.async false
set_option linter.all false
set_option maxRecDepth 100000
set_option maxHeartbeats 400000
/-! rootpledge k80: the law's rows of beds -/
namespace RP
open PySem PySem.Spec PyProof.Rows L2
structure BdI (i : Nat) (ns bns os : List Str) (bs : List BedR) : Prop where
  nm : bs.map (·.name) = ns.take i
  ok : ∀ b ∈ bs, BedOk b ∧ b.breed ∈ bns ∧ b.owner ∈ os
theorem BdI.len {i : Nat} {ns bns os : List Str} {bs : List BedR} (h : BdI i ns bns os bs) (hi : i ≤ ns.length) : bs.length = i := by
  have := congrArg List.length h.nm
  rw [List.length_map, List.length_take] at this
  omega
theorem src_ne {H : Hp} {s p : Addr} {n : Nat} (S : SrcAt H s n) (h : H p = none) : p ≠ s := by
  obtain ⟨o, ho, _⟩ := S.odd
  exact fun z => by rw [z, ho] at h; cases h
def sp_law_bed_rows (K : PySem.W.Frag) : Sp := spA 5 fun vs H Q => ∃ (s nm br ow : Addr) (n : Nat) (ns bns os : List Str), vs = [.ref s, .ref nm, .ref br, .ref ow, .int 3] ∧ SrcAt H s n ∧ n ≤ 900000 ∧ H nm = some (.lst (ns.map V.str)) ∧ ns.length = 7 ∧ (∀ x ∈ ns, NameOk x) ∧ nm ≠ s ∧
  LAt BrRowAt (cut H fun a => a = s) br bns ∧ 1 ≤ bns.length ∧ bns.length ≤ 3 ∧ (∀ x ∈ bns, NameOk x) ∧ H ow = some (.lst (os.map V.str)) ∧ os.length = 3 ∧ (∀ x ∈ os, NameOk x) ∧ ow ≠ s ∧
  ∀ p j bs H', H p = none → But s H H' → SrcAt H' s (n + 100) → 1 ≤ j → j ≤ 3 → BdI j ns bns os bs → LAt BedRowAt (cut H' fun a => a = s) p bs → Q (.ref p) H'
section
variable {P : Program} {w : World} {K : PySem.W.Frag} {mg : Str → Option Value} {base : Heap}
theorem ok_law_bed_rows (T : Txt K mg) : Fx P w K mg base "_law_bed_rows" 2 [] (sp_law_bed_rows K) := by
  obtain ⟨fd, F⟩ := T.d_law_bed_rows
  refine ⟨_, fd, _, [], T.g__law_bed_rows, F.kp, fn_body F sc_law_bed_rows rfl (fun cdv A outer s H vs Q E hr h => ?_), F.bindsN (fun _ _ _ _ _ _ us hl => match us, hl with | [_, _, _, _, _], _ => rfl), .nil⟩
  have nd := sc_law_bed_rows.nd
  have hu := hu_of hr
  obtain ⟨s, nm, br, ow, n, ns, bns, os, rfl, S, hn, hnm, hnl, hnk, hns, ⟨bvs, hbr, fbr⟩, hb1, hb3, hbk, how, hol, hok, hos, k⟩ := h
  refine ⟨_, (pss_cons (ps_set (i := 5) nd rfl (Or.inl rfl) (pe_lst pa_nil))
      (pss_cons (ps_for PassesOwn.never rfl (pi_range1 (by rfl) T.n_range (pa_cons (pe_op op_add pe_int (pe_f (ok_law_next T) (hr.mono (by decide)) (pa_cons (pv 0) (pa_cons (pv 4) pa_nil)))) pa_nil)) (pg_name (i := 6) nd rfl (.inl rfl))
      (pss_cons (ps_set (i := 7) nd rfl (Or.inl rfl) (pe_ix ix_tup (pe_ix ix_list (pv 2) (pe_f (ok_law_next T) (hr.mono (by decide)) (pa_cons (pv 0) (pa_cons (pe_callB call_len_seq (by rfl) T.n_len b_len (pa_cons (pv 2) pa_nil)) pa_nil))) (fun _ _ => rfl)) pe_int (fun _ _ => rfl)))
      (pss_cons (ps_set (i := 8) nd rfl (Or.inl rfl) (pe_ix ix_list (pv 3) (pe_f (ok_law_next T) (hr.mono (by decide)) (pa_cons (pv 0) (pa_cons (pe_callB call_len_seq (by rfl) T.n_len b_len (pa_cons (pv 3) pa_nil)) pa_nil))) (fun _ _ => rfl)))
      (pss_cons (ps_set (i := 9) nd rfl (Or.inl rfl) (pe_ix ix_list (pe_lst (pa_cons pe_str (pa_cons pe_str (pa_cons pe_str pa_nil)))) (pe_f (ok_law_next T) (hr.mono (by decide)) (pa_cons (pv 0) (pa_cons pe_int pa_nil))) (fun _ _ => rfl)))
      (pss_cons (ps_set (i := 10) nd rfl (Or.inl rfl) (pe_op op_add pe_int (pe_f (ok_law_next T) (hr.mono (by decide)) (pa_cons (pv 0) (pa_cons (pe_ix ix_list (pe_lst (pa_cons pe_int (pa_cons pe_int pa_nil))) (pe_f (ok_law_next T) (hr.mono (by decide)) (pa_cons (pv 0) (pa_cons pe_int pa_nil))) (fun _ _ => rfl)) pa_nil)))))
      (pss_cons (ps_set (i := 11) nd rfl (Or.inl rfl) (pe_tup (pa_cons (pe_ix ix_list (pv 1) (pv 6) (fun _ _ => rfl)) (pa_cons (pv 7) (pa_cons (pv 8) (pa_cons (pv 10) (pa_cons (pe_op op_add pe_int (pe_f (ok_law_next T) (hr.mono (by decide)) (pa_cons (pv 0) (pa_cons pe_int pa_nil)))) pa_nil)))))))
      (pss_one (ps_expr (pe_bm PySem.F.plainAttrs_list PySem.F.slot_list_append PySem.F.type_list_append mt_append (pv 5) (pa_cons (pe_op op_catT (pv 11) (pe_tup (pa_cons (pe_f (ok_law_next T) (hr.mono (by decide)) (pa_cons (pv 0) (pa_cons pe_int pa_nil))) (pa_cons (pv 9) pa_nil)))) pa_nil))))))))))
      (pss_one (ps_ret (pv 5))))), ?_⟩
  refine ⟨by show 0 ≤ sizeLine; decide, fun p hp => ?_⟩
  have e1 := same_upd (o := .lst []) (Same.refl H) hp
  have g1 : upd H p (.lst []) p = some (.lst []) := upd_same
  have hps : p ≠ s := src_ne S hp
  have hbr0 := cut_le _ _ hbr
  have hbs : br ≠ s := fun z => (cut_some hbr).1 z
  show tSeq _ _ _ [some (.ref s), some (.ref nm), some (.ref br), some (.ref ow), some (.int 3), some (.ref p), none, none, none, none, none, none] (upd H p (.lst []))
  generalize upd H p (.lst []) = H1 at e1 g1
  refine ⟨_, rfl, _, rfl, rfl, s, 3, n, rfl, by decide, by decide, S.same e1, by omega, fun r1 H2 hr1 e2 S2 => ⟨_, _, rfl, rfl, _, rfl, by omega, by omega, ?_⟩⟩
  have hlen : ((1 : Int) + (r1 : Nat)).toNat = 1 + r1 := by omega
  have C2 : Chg (fun a => a = s ∨ a = p) (fun a => a = s ∨ a = p) H1 H2 := e2.chg (.inl rfl)
  refine for_it walk_range (fun i σ H' => ∃ u6 u7 u8 u9 u10 u11 vs bs, σ = [some (.ref s), some (.ref nm), some (.ref br), some (.ref ow), some (.int 3), some (.ref p), u6, u7, u8, u9, u10, u11] ∧ H' p = some (.lst vs) ∧ Fits BedRowAt (cut H' fun a => a = s ∨ a = p) vs bs ∧ BdI i ns bns os bs ∧ SrcAt H' s (n + 1 + 10 * i) ∧ Chg (fun a => a = s ∨ a = p) (fun a => a = s ∨ a = p) H1 H')
    ⟨_, _, _, _, _, _, [], [], rfl, e2 _ _ hps g1, Fits.nil, ⟨rfl, (fun b h => nomatch h)⟩, S2, C2⟩ (fun _ _ _ _ _ => trivial) ?_ ?_
  · rintro i x σ H3 H4 hi ⟨u6, u7, u8, u9, u10, u11, vs, bs, rfl, hp4, f4, I4, S4, C4⟩ ⟨rfl, e⟩
    rw [hlen] at hi
    have e : x = .int (i : Nat) := e.trans (by show V.int (0 + (i : Int)) = _; rw [Int.zero_add])
    subst e
    have st : ∀ a o, a ≠ s → H a = some o → H4 a = some o := fun a o ha q => C4.kp _ _ (fun z => z.elim ha (ne_of_none q hp)) (e1 _ _ q)
    have hnm4 := st _ _ hns hnm
    have how4 := st _ _ hos how
    have hbr4 := st _ _ hbs hbr0
    have hbl : bvs.length = bns.length := fbr.1
    show tSeq _ _ _ [some (.ref s), some (.ref nm), some (.ref br), some (.ref ow), some (.int 3), some (.ref p), some (.int (i : Nat)), u7, u8, u9, u10, u11] H4
    -- breed
    refine ⟨_, rfl, _, rfl, _, rfl, br, _, rfl, .inl (SqL.of hbr4), rfl, s, bns.length, _, (by rw [hbl]; rfl), hb1, by omega, S4, by omega, fun r5 H5 hr5 e5 S5 => ?_⟩
    obtain ⟨v5, hv5, t5, g5, m5, gs5, rfl, ht5, _⟩ := fbr.get (List.getElem?_eq_getElem hr5)
    obtain ⟨nt5, ht5⟩ := cut_some ht5
    refine ⟨br, _, _, _, rfl, rfl, SqL.of (e5 _ _ hbs hbr4), atI_nat hv5, t5, _, 0, _, rfl, rfl, SqT.of (e5 _ _ nt5 (st _ _ nt5 ht5)), rfl, ?_⟩
    show tSeq _ _ _ [some (.ref s), some (.ref nm), some (.ref br), some (.ref ow), some (.int 3), some (.ref p), some (.int (i : Nat)), some (.str bns[r5]), u8, u9, u10, u11] H5
    -- owner
    have how5 := e5 _ _ hos how4
    refine ⟨_, rfl, _, rfl, _, rfl, ow, _, rfl, .inl (SqL.of how5), rfl, s, 3, _, (by rw [List.length_map, hol]; rfl), by decide, by decide, S5, by omega, fun r6 H6 hr6 e6 S6 => ?_⟩
    have ho6 : r6 < os.length := by omega
    refine ⟨ow, _, _, .str os[r6], rfl, rfl, SqL.of (e6 _ _ hos how5), atI_nat (by rw [List.getElem?_map, List.getElem?_eq_getElem ho6]; rfl), ?_⟩
    show tSeq _ _ _ [some (.ref s), some (.ref nm), some (.ref br), some (.ref ow), some (.int 3), some (.ref p), some (.int (i : Nat)), some (.str bns[r5]), some (.str os[r6]), u9, u10, u11] H6
    -- kind
    refine ⟨by show 3 ≤ sizeLine; decide, fun q7 hq7 => ?_⟩
    have e7 := same_upd (o := .lst [V.str "roots", V.str "roots", V.str "shares"]) (Same.refl H6) hq7
    have g7 : upd H6 q7 (.lst [V.str "roots", V.str "roots", V.str "shares"]) q7 = some (.lst [V.str "roots", V.str "roots", V.str "shares"]) := upd_same
    have q7s : q7 ≠ s := src_ne S6 hq7
    generalize upd H6 q7 (.lst [V.str "roots", V.str "roots", V.str "shares"]) = H7 at e7 g7
    refine ⟨_, rfl, rfl, s, 3, _, rfl, by decide, by decide, S6.same e7, by omega, fun r8 H8 hr8 e8 S8 => ?_⟩
    obtain ⟨sh, hsh⟩ : ∃ sh : Bool, [V.str "roots", V.str "roots", V.str "shares"][r8]? = some (.str (if sh = true then "shares" else "roots")) := by
      match r8, hr8 with
      | 0, _ => exact ⟨false, rfl⟩
      | 1, _ => exact ⟨false, rfl⟩
      | 2, _ => exact ⟨true, rfl⟩
    refine ⟨q7, _, _, _, rfl, rfl, SqL.of (e8 _ _ q7s g7), atI_nat hsh, ?_⟩
    show tSeq _ _ _ [some (.ref s), some (.ref nm), some (.ref br), some (.ref ow), some (.int 3), some (.ref p), some (.int (i : Nat)), some (.str bns[r5]), some (.str os[r6]), some (.str (if sh = true then "shares" else "roots")), u10, u11] H8
    -- roots
    refine ⟨_, rfl, (by show 2 ≤ sizeLine; decide), fun q9 hq9 => ?_⟩
    have e9 := same_upd (o := .lst [V.int 3, V.int 12]) (Same.refl H8) hq9
    have g9 : upd H8 q9 (.lst [V.int 3, V.int 12]) q9 = some (.lst [V.int 3, V.int 12]) := upd_same
    have q9s : q9 ≠ s := src_ne S8 hq9
    generalize upd H8 q9 (.lst [V.int 3, V.int 12]) = H9 at e9 g9
    refine ⟨_, rfl, rfl, s, 2, _, rfl, by decide, by decide, S8.same e9, by omega, fun r10 H10 hr10 e10 S10 => ?_⟩
    obtain ⟨mr, hmr, hmr1, hmr2⟩ : ∃ mr : Nat, [V.int 3, V.int 12][r10]? = some (.int (mr : Nat)) ∧ 1 ≤ mr ∧ mr ≤ 12 := by
      match r10, hr10 with
      | 0, _ => exact ⟨3, rfl, by decide, by decide⟩
      | 1, _ => exact ⟨12, rfl, by decide, by decide⟩
    refine ⟨q9, _, _, _, rfl, rfl, SqL.of (e10 _ _ q9s g9), atI_nat hmr, rfl, s, mr, _, rfl, hmr1, by omega, S10, by omega, fun r11 H11 hr11 e11 S11 => ⟨_, _, rfl, rfl, ?_⟩⟩
    show tSeq _ _ _ [some (.ref s), some (.ref nm), some (.ref br), some (.ref ow), some (.int 3), some (.ref p), some (.int (i : Nat)), some (.str bns[r5]), some (.str os[r6]), some (.str (if sh = true then "shares" else "roots")), some (.int (1 + (r11 : Nat))), u11] H11
    have b47 : But s H4 H11 := ((((((e5.trans e6).trans (But.of e7)).trans e8).trans (But.of e9)).trans e10).trans e11)
    have hnm11 := b47 _ _ hns hnm4
    have hin : i < ns.length := by omega
    -- row
    refine ⟨_, rfl, _, rfl, nm, _, _, .str ns[i], rfl, rfl, SqL.of hnm11, atI_nat (by rw [List.getElem?_map, List.getElem?_eq_getElem hin]; rfl), _, rfl, _, rfl, _, rfl, _, rfl, rfl, s, 60, _, rfl, by decide, by decide, S11, by omega, fun r12 H12 hr12 e12 S12 => ⟨_, _, rfl, rfl, (by show 5 ≤ sizeLine; decide), fun t ht => ?_⟩⟩
    have e13 := same_upd (o := .tup [V.str ns[i], .str bns[r5], .str os[r6], .int (1 + (r11 : Nat)), .int (1 + (r12 : Nat))]) (Same.refl H12) ht
    have g13 : upd H12 t (.tup [V.str ns[i], .str bns[r5], .str os[r6], .int (1 + (r11 : Nat)), .int (1 + (r12 : Nat))]) t = some (.tup [V.str ns[i], .str bns[r5], .str os[r6], .int (1 + (r11 : Nat)), .int (1 + (r12 : Nat))]) := upd_same
    have ts : t ≠ s := src_ne S12 ht
    generalize upd H12 t (.tup [V.str ns[i], .str bns[r5], .str os[r6], .int (1 + (r11 : Nat)), .int (1 + (r12 : Nat))]) = H13 at e13 g13
    have b13 := (b47.trans e12).trans (But.of e13)
    have hp13 := b13 _ _ hps hp4
    refine ⟨_, rfl, .inl ⟨rfl, _, SqL.of hp13⟩, _, rfl, _, rfl, rfl, s, 61, _, rfl, by decide, by decide, S12.same e13, by omega, fun r14 H14 hr14 e14 S14 => ⟨_, rfl, (by show 2 ≤ sizeLine; decide), fun t2 ht2 => ?_⟩⟩
    have e15 := same_upd (o := .tup [V.int (r14 : Nat), .str (if sh = true then "shares" else "roots")]) (Same.refl H14) ht2
    have g15 : upd H14 t2 (.tup [V.int (r14 : Nat), .str (if sh = true then "shares" else "roots")]) t2 = some (.tup [V.int (r14 : Nat), .str (if sh = true then "shares" else "roots")]) := upd_same
    generalize upd H14 t2 (.tup [V.int (r14 : Nat), .str (if sh = true then "shares" else "roots")]) = H15 at e15 g15
    refine ⟨t, t2, _, _, rfl, rfl, SqT.of (e15 _ _ (e14 _ _ ts g13)), SqT.of g15, List.cons_ne_nil _ _, (by show 5 + 2 ≤ sizeLine; decide), fun z => (nomatch z), fun _ t3 ht3 => ?_⟩
    let b : BedR := ⟨ns[i], bns[r5], os[r6], 1 + r11, 1 + r12, r14, sh⟩
    have hbv : ([V.str ns[i], .str bns[r5], .str os[r6], .int (1 + (r11 : Nat)), .int (1 + (r12 : Nat))] ++ [V.int (r14 : Nat), .str (if sh = true then "shares" else "roots")]) = bedVs b := by
      show _ = [V.str ns[i], .str bns[r5], .str os[r6], .int ((1 + r11 : Nat) : Int), .int ((1 + r12 : Nat) : Int), .int (r14 : Nat), .str (if sh = true then "shares" else "roots")]
      rw [show ((1 + r11 : Nat) : Int) = 1 + (r11 : Int) by omega, show ((1 + r12 : Nat) : Int) = 1 + (r12 : Int) by omega]
      rfl
    rw [hbv]
    have e16 := same_upd (o := .tup (bedVs b)) (Same.refl H15) ht3
    have g16 : upd H15 t3 (.tup (bedVs b)) t3 = some (.tup (bedVs b)) := upd_same
    have S15 := S14.same e15
    have t3s : t3 ≠ s := src_ne S15 ht3
    have b15 := (b13.trans e14).trans (But.of e15)
    have hp15 := b15 _ _ hps hp4
    have t3p : t3 ≠ p := fun z => by rw [z, hp15] at ht3; cases ht3
    have S16 := S15.same e16
    have b16 := b15.trans (But.of e16)
    have hbsl := I4.len (show i ≤ ns.length by omega)
    refine ⟨p, vs, _, rfl, rfl, e16 _ _ hp15, by rw [f4.1, hbsl]; exact Nat.lt_of_le_of_lt (show i ≤ 3 by omega) (by decide), ?_⟩
    generalize upd H15 t3 (.tup (bedVs b)) = H16 at e16 g16 S16 b16
    have C16 : Chg (fun a => a = s ∨ a = p) (fun a => a = s ∨ a = p) H4 (upd H16 p (.lst (vs ++ [.ref t3]))) := (b16.chg (.inl rfl)).trans (Chg.write (.inr rfl))
    refine ⟨_, _, _, _, _, _, vs ++ [.ref t3], bs ++ [b], rfl, upd_same, (f4.same mo_bedrow C16.cut).snoc ⟨t3, rfl, cut_of (fun z => z.elim t3s t3p) (by rw [upd_ne t3p]; exact g16)⟩, ⟨?_, fun c hc => ?_⟩, (S16.write hps).le (by omega), C4.trans C16⟩
    · rw [List.map_append, I4.nm, take_snoc (List.getElem?_eq_getElem hin)]
      rfl
    · rcases List.mem_append.mp hc with hc | hc
      · exact I4.ok c hc
      · rw [List.mem_singleton.mp hc]
        exact ⟨⟨hnk _ (List.getElem_mem hin), hbk _ (List.getElem_mem hr5), hok _ (List.getElem_mem ho6), by show 1 ≤ 1 + r11; omega, by show 1 + r11 ≤ 12; omega, by show 1 ≤ 1 + r12; omega, by show 1 + r12 ≤ 60; omega, by show r14 ≤ 60; omega⟩, List.getElem_mem hr5, List.getElem_mem ho6⟩
  · rintro σ H3 ⟨u6, u7, u8, u9, u10, u11, vs, bs, rfl, hp3, f3, I3, S3, C3⟩
    rw [hlen] at I3 S3
    refine ⟨_, rfl, k p (1 + r1) bs H3 hp (fun a o ha q => ?_) (S3.le (by omega)) (by omega) (by omega) I3 ⟨vs, cut_of hps hp3, f3.same mo_bedrow (cut_mono fun a h => .inl h)⟩⟩
    exact C3.kp _ _ (fun z => z.elim ha (ne_of_none q hp)) (e1 _ _ q)
end
end RP
set_option Elab.async false
set_option linter.all false
set_option maxRecDepth 100000
set_option maxHeartbeats 400000
/-! rootpledge k80: the law's lines -/
namespace RP
open PySem PySem.Spec PyProof.Rows L2
/-- a row is good enough to be made a line -/
def MadeOk : Ln → Prop
  | .prom p => PrOk p
  | .spoil n _ b => 1 ≤ n ∧ NameOk b
def sp_law_made (K : PySem.W.Frag) : Sp := spA 1 fun vs H Q => ∃ v l G, vs = [v] ∧ Same G H ∧ RowAt K G v l ∧ MadeOk l ∧ ∀ q H', H q = none → Same H H' → (∀ G', Same G G' → (∀ o, H' q = some o → G' q = some o) → LnAt K G' (.ref q) l) → Q (.ref q) H'
def sp_law_field (K : PySem.W.Frag) : Sp := spA 2 fun vs H Q => ∃ br bd bns bs, vs = [.ref br, .ref bd] ∧ LAt BrRowAt H br bns ∧ LAt BedRowAt H bd bs ∧ BedsOk bs ∧ bns.Nodup ∧ (∀ x ∈ bns, NameOk x) ∧ 1 ≤ bns.length ∧ bns.length ≤ 6 ∧ (∀ b ∈ bs, b.breed ∈ bns) ∧
  ∀ f H', Same H H' → FieldAt K H' f bs → Q (.ref f) H'
section
variable {P : Program} {w : World} {K : PySem.W.Frag} {mg : Str → Option Value} {base : Heap}
theorem ok_law_made (T : Txt K mg) : Fx P w K mg base "_law_made" 7 [] (sp_law_made K) := by
  obtain ⟨fd, F⟩ := T.d_law_made
  refine ⟨_, fd, _, [], T.g__law_made, F.kp, fn_body F sc_law_made rfl (fun cdv A outer s H vs Q E hr h => ?_), F.bindsN (fun _ _ _ _ _ _ us hl => match us, hl with | [_], _ => rfl), .nil⟩
  have nd := sc_law_made.nd
  have hu := hu_of hr
  obtain ⟨v, l, G, rfl, eG, hw, hok, k⟩ := h
  obtain ⟨t, rfl, hw⟩ := hw
  refine ⟨_, (pss_cons (ps_if (pt_cmpR op_eq (pe_ix ix_tup (pv 0) pe_int (fun _ _ => rfl)) pe_str (nomark _)) (pss_one (ps_ret (pe_n (ok_Spoiling_init T) (hr.mono (by decide)) (pa_cons (pe_ix ix_tup (pv 0) pe_int (fun _ _ => rfl)) (pa_cons (pe_ix ix_tup (pv 0) pe_int (fun _ _ => rfl)) (pa_cons (pe_ix ix_tup (pv 0) pe_int (fun _ _ => rfl)) pa_nil)))))) pss_nil)
      (pss_one (ps_ret (pe_n (ok_Promise_init T) (hr.mono (by decide)) (pa_cons (pe_ix ix_tup (pv 0) pe_int (fun _ _ => rfl)) (pa_cons (pe_ix ix_tup (pv 0) pe_int (fun _ _ => rfl)) (pa_cons (pe_ix ix_tup (pv 0) pe_int (fun _ _ => rfl)) (pa_cons (pe_ix ix_tup (pv 0) pe_int (fun _ _ => rfl)) (pa_cons (pe_ix ix_tup (pv 0) pe_int (fun _ _ => rfl)) (pa_cons (pe_ix ix_tup (pv 0) pe_int (fun _ _ => rfl)) (pa_cons (pe_ix ix_tup (pv 0) pe_int (fun _ _ => rfl)) (pa_cons (pe_ix ix_tup (pv 0) pe_int (fun _ _ => rfl)) (pa_cons (pe_ix ix_tup (pv 0) pe_int (fun _ _ => rfl)) pa_nil))))))))))))), ?_⟩
  cases l with
  | spoil n m b =>
    have ht := eG _ _ hw
    refine ⟨_, rfl, t, _, 0, _, rfl, rfl, SqT.of ht, rfl, rfl, _, rfl, ?_⟩
    rw [decide_eq_true (show V.str "spoil" = V.str "spoil" from rfl)]
    refine ⟨_, rfl, t, _, 1, _, rfl, rfl, SqT.of ht, rfl, _, rfl, t, _, 2, _, rfl, rfl, SqT.of ht, rfl, _, rfl, t, _, 3, _, rfl, rfl, SqT.of ht, rfl, ?_⟩
    intro q dq hq hdq hne
    have e0 := same_upd (o := .ins (cSpoiling K) dq []) (same_upd (o := .own q) (Same.refl H) hdq) hq
    refine ⟨rfl, q, dq, n, m, b, rfl, hok.1, hok.2, upd_same, fun H' hk hq' => ⟨rfl, k q H' hq (fun a o e => hk a o (ne_of_none e hq) (e0 _ _ e)) fun G' _ hG => ⟨q, rfl, dq, hG _ hq'⟩⟩⟩
  | prom p =>
    have ht := eG _ _ hw.1
    have hth := hw.2.same eG
    refine ⟨_, rfl, t, _, 0, _, rfl, rfl, SqT.of ht, rfl, rfl, _, rfl, ?_⟩
    rw [decide_eq_false (show ¬ V.str "promise" = V.str "spoil" from fun z => absurd z (by decide +kernel))]
    refine ⟨_, rfl, t, _, 1, _, rfl, rfl, SqT.of ht, rfl, _, rfl, t, _, 2, _, rfl, rfl, SqT.of ht, rfl, _, rfl, t, _, 3, _, rfl, rfl, SqT.of ht, rfl, _, rfl, t, _, 4, _, rfl, rfl, SqT.of ht, rfl, _, rfl, t, _, 5, _, rfl, rfl, SqT.of ht, rfl, ?_⟩
    refine ⟨_, rfl, t, _, 6, _, rfl, rfl, SqT.of ht, rfl, _, rfl, t, _, 7, _, rfl, rfl, SqT.of ht, rfl, _, rfl, t, _, 8, _, rfl, rfl, SqT.of ht, rfl, _, rfl, t, _, 9, _, rfl, rfl, SqT.of ht, rfl, ?_⟩
    intro q dq hq hdq hne
    have e0 := same_upd (o := .ins (cPromise K) dq []) (same_upd (o := .own q) (Same.refl H) hdq) hq
    refine ⟨rfl, q, dq, p, rfl, hok, hth.same e0, upd_same, fun H' hk hq' => ⟨rfl, k q H' hq (fun a o e => hk a o (ne_of_none e hq) (e0 _ _ e)) fun G' eG' hG => ⟨q, rfl, ⟨dq, hG _ hq'⟩, hw.2.same eG'⟩⟩⟩
theorem ok_law_field (T : Txt K mg) : Fx P w K mg base "_law_field" 7 [] (sp_law_field K) := by
  obtain ⟨fd, F⟩ := T.d_law_field
  refine ⟨_, fd, _, [], T.g__law_field, F.kp, fn_body F sc_law_field rfl (fun cdv A outer s H vs Q E hr h => ?_), F.bindsN (fun _ _ _ _ _ _ us hl => match us, hl with | [_, _], _ => rfl), .nil⟩
  have nd := sc_law_field.nd
  have hu := hu_of hr
  obtain ⟨br, bd, bns, bs, rfl, ⟨bv, hbr, fbr⟩, ⟨dv, hbd, fbd⟩, BO, hnd, hnm, h1, h6, hin, k⟩ := h
  refine ⟨_, (pss_cons (ps_setLc (own := [("_law_name", 3), ("_law_grades", 4)]) (i := 2) rfl nd rfl rfl (sw_true rfl rfl rfl (by decide +kernel)) (pi_list (pv 0)) (blkOk_by (own := [("_law_name", 3), ("_law_grades", 4)]) (N := ["_law_breeds", "_law_beds", "_law_built", "_law_name", "_law_grades", "_law_dug", "_law_row"]) (sc := defScope s_law_field) (by decide +kernel)) (fun _ _ _ _ _ => (pg_tupK (K := K) 2 rfl rfl (pgs_cons (pg_name (i := 3) nd rfl (.inl rfl)) (pgs_cons (pg_name (i := 4) nd rfl (.inl rfl)) pgs_nil)))) (fun _ _ _ _ _ => pts_nil) (fun _ _ _ _ _ => (pe_n (ok_Breed_init T) (hr.mono (by decide)) (pa_cons (pv 3) (pa_cons (pv 4) pa_nil)))))
      (pss_cons (ps_setLc (own := [("_law_row", 6)]) (i := 5) rfl nd rfl rfl (sw_true rfl rfl rfl (by decide +kernel)) (pi_list (pv 1)) (blkOk_by (own := [("_law_row", 6)]) (N := ["_law_breeds", "_law_beds", "_law_built", "_law_name", "_law_grades", "_law_dug", "_law_row"]) (sc := defScope s_law_field) (by decide +kernel)) (fun _ _ _ _ _ => (pg_name (i := 6) nd rfl (.inl rfl))) (fun _ _ _ _ _ => pts_nil) (fun _ _ _ _ _ => (pe_n (ok_Bed_init T) (hr.mono (by decide)) (pa_cons (pe_ix (ix_tupK (K := K) rfl) (pv 6) pe_int (fun _ _ => rfl)) (pa_cons (pe_ix (ix_tupK (K := K) rfl) (pv 6) pe_int (fun _ _ => rfl)) (pa_cons (pe_ix (ix_tupK (K := K) rfl) (pv 6) pe_int (fun _ _ => rfl)) (pa_cons (pe_ix (ix_tupK (K := K) rfl) (pv 6) pe_int (fun _ _ => rfl)) (pa_cons (pe_ix (ix_tupK (K := K) rfl) (pv 6) pe_int (fun _ _ => rfl)) (pa_cons (pe_ix (ix_tupK (K := K) rfl) (pv 6) pe_int (fun _ _ => rfl)) (pa_cons (pe_ix (ix_tupK (K := K) rfl) (pv 6) pe_int (fun _ _ => rfl)) pa_nil))))))))))
      (pss_one (ps_ret (pe_n (ok_Field_init T) (hr.mono (by decide)) (pa_cons (pv 2) (pa_cons (pv 5) pa_nil))))))), ?_⟩
  have hn6 := BO.n6
  refine ⟨_, rfl, br, rfl, ⟨bv, SqL.of hbr⟩, fun D hD => ?_⟩
  refine lc_mk (walk_list (xs := bv)) hD (fun i acc H => Fits (BreedAt K) H acc (bns.take i)) Fits.nil (fun i acc H H' e f => f.same mo_breed e) (fun i acc H zs zs' hl f => f.imp fun v x _ r => ?_) (by rw [fbr.1]; omega) (fun H1 e => e.seq (SqL.of hbr)) ?_ ?_
  · obtain ⟨q, dq, g, rfl, h2⟩ := r
    exact ⟨q, dq, g, rfl, by rw [upd_ne (ne_of h2 hl (by intro z; cases z))]; exact h2⟩
  · rintro i y acc H3 H4 hi e3 ff ⟨rfl, hv⟩ Q1 Q0 q1 q0
    obtain ⟨x, hx, t, g, m, gs, rfl, ht, hg⟩ := fbr.get2 hv
    refine ⟨t, _, rfl, SqT.of (e3 _ _ ht), rfl, _, _, rfl, _, _, rfl, rfl, rfl, _, rfl, _, rfl, ?_⟩
    intro q dq hq hdq hne
    have e0 := same_upd (o := .ins (cBreed K) dq []) (same_upd (o := .own q) (Same.refl H4) hdq) hq
    refine ⟨rfl, q, dq, x, g, m, gs, rfl, hnm x (List.mem_of_getElem? hx), (hg.same e3).same e0, upd_same, fun g2 H' hk hq' => ⟨rfl, ?_⟩⟩
    have e5 : Same H4 H' := fun a o e => hk a o (ne_of_none e hq) (e0 _ _ e)
    refine q1 _ _ e5 ?_
    rw [take_snoc hx]
    exact (ff.same mo_breed e5).snoc ⟨q, dq, g2, rfl, hq'⟩
  rintro acc H1 e1 hD1 _ f1
  rw [fbr.1, List.take_length] at f1
  have hbd1 := e1 _ _ hbd
  show tSeq _ _ _ [some (.ref br), some (.ref bd), some (.ref D), none, none, none, none] H1
  refine ⟨_, rfl, bd, rfl, ⟨dv, SqL.of hbd1⟩, fun D2 hD2 => ?_⟩
  refine lc_mk (walk_list (xs := dv)) hD2 (fun i acc H => Fits (BedAt K) H acc (bs.take i)) Fits.nil (fun i acc H H' e f => f.same mo_bed e) (fun i acc H zs zs' hl f => f.imp fun v x _ r => ?_) (by rw [fbd.1]; omega) (fun H1 e => e.seq (SqL.of hbd1)) ?_ ?_
  · obtain ⟨q, dq, rfl, h2⟩ := r
    exact ⟨q, dq, rfl, by rw [upd_ne (ne_of h2 hl (by intro z; cases z))]; exact h2⟩
  · rintro i y acc H3 H4 hi e3 ff ⟨rfl, hv⟩ Q1 Q0 q1 q0
    obtain ⟨x, hx, t, rfl, ht⟩ := fbd.get2 hv
    have ht4 := e3 _ _ (e1 _ _ ht)
    refine ⟨rfl, _, rfl, t, _, 0, _, rfl, rfl, SqT.of ht4, rfl, _, rfl, t, _, 1, _, rfl, rfl, SqT.of ht4, rfl, _, rfl, t, _, 2, _, rfl, rfl, SqT.of ht4, rfl, _, rfl, t, _, 3, _, rfl, rfl, SqT.of ht4, rfl, ?_⟩
    refine ⟨_, rfl, t, _, 4, _, rfl, rfl, SqT.of ht4, rfl, _, rfl, t, _, 5, _, rfl, rfl, SqT.of ht4, rfl, _, rfl, t, _, 6, _, rfl, rfl, SqT.of ht4, rfl, ?_⟩
    intro q dq hq hdq hne
    have e0 := same_upd (o := .ins (cBed K) dq []) (same_upd (o := .own q) (Same.refl H4) hdq) hq
    refine ⟨rfl, q, dq, x, rfl, BO.ok x (List.mem_of_getElem? hx), upd_same, fun H' hk hq' => ⟨rfl, ?_⟩⟩
    have e5 : Same H4 H' := fun a o e => hk a o (ne_of_none e hq) (e0 _ _ e)
    refine q1 _ _ e5 ?_
    rw [take_snoc hx]
    exact (ff.same mo_bed e5).snoc ⟨q, dq, rfl, hq'⟩
  rintro acc2 H2 e2 hD2 _ f2
  rw [fbd.1, List.take_length] at f2
  refine ⟨_, rfl, _, rfl, ?_⟩
  intro q dq hq hdq hne
  have e0 := same_upd (o := .ins (cField K) dq []) (same_upd (o := .own q) (Same.refl H2) hdq) hq
  refine ⟨rfl, q, dq, D, D2, bns, bs, rfl, ⟨acc, e0 _ _ (e2 _ _ hD1), (f1.same mo_breed e2).same mo_breed e0⟩, hnd, h1, h6, ⟨acc2, e0 _ _ hD2, f2.same mo_bed e0⟩, BO, hin, upd_same, fun H' hk FF => ⟨rfl, k q H' (fun a o e => ?_) FF⟩⟩
  have e5 := e2 _ _ (e1 _ _ e)
  exact hk a o (ne_of_none e5 hq) (e0 _ _ e5)
end
end RP
set_option Elab.async false
set_option linter.all false
set_option maxRecDepth 100000
set_option maxHeartbeats 400000
/-! rootpledge k80: the law's things -/
namespace RP
open PySem PySem.Spec PyProof.Rows L2
/-- one of the things that a line may be about -/
def ThT (bs : List BedR) (H : Hp) (v : V) : Prop := ∃ t, v = .ref t ∧ ((∃ b ∈ bs, b.shares = true ∧ H t = some (.tup [.str "share", .str b.name, .non])) ∨ ∃ b ∈ bs, b.shares = false ∧ ∃ (r : Bool) (k : Nat), 1 ≤ k ∧ k ≤ b.roots ∧ H t = some (.tup [.str (itS r), .str b.name, .int (k : Nat)]))
theorem ThT.same {bs : List BedR} {H H' : Hp} {v : V} (h : ThT bs H v) (e : Same H H') : ThT bs H' v := by
  obtain ⟨t, rfl, h⟩ := h
  refine ⟨t, rfl, ?_⟩
  rcases h with ⟨b, h1, h2, h3⟩ | ⟨b, h1, h2, r, k, h3, h4, h5⟩
  · exact .inl ⟨b, h1, h2, e _ _ h3⟩
  · exact .inr ⟨b, h1, h2, r, k, h3, h4, e _ _ h5⟩
def sp_law_things (K : PySem.W.Frag) : Sp := spA 1 fun vs H Q => ∃ bd bs, vs = [.ref bd] ∧ LAt BedRowAt H bd bs ∧ BedsOk bs ∧ ∀ q vs H', H q = none → Same H H' → H' q = some (.lst vs) → vs ≠ [] → vs.length ≤ 100 → (∀ v ∈ vs, ThT bs H' v) → Q (.ref q) H'
section
variable {P : Program} {w : World} {K : PySem.W.Frag} {mg : Str → Option Value} {base : Heap}
theorem ok_law_things (T : Txt K mg) : Fx P w K mg base "_law_things" 1 [] (sp_law_things K) := by
  obtain ⟨fd, F⟩ := T.d_law_things
  refine ⟨_, fd, _, [], T.g__law_things, F.kp, fn_body F sc_law_things rfl (fun cdv A outer s H vs Q E hr h => ?_), F.bindsN (fun _ _ _ _ _ _ us hl => match us, hl with | [_], _ => rfl), .nil⟩
  have nd := sc_law_things.nd
  have hu := hu_of hr
  obtain ⟨bd, bs, rfl, ⟨dv, hbd, fbd⟩, BO, k⟩ := h
  refine ⟨_, (pss_cons (ps_set (i := 1) nd rfl (Or.inl rfl) (pe_lst pa_nil))
      (pss_cons (ps_for PassesOwn.never rfl (pi_list (pv 0)) (pg_name (i := 2) nd rfl (.inl rfl))
      (pss_one (ps_if (pt_cmpR op_eq (pe_ix ix_tup (pv 2) pe_int (fun _ _ => rfl)) pe_str (nomark _)) (pss_one (ps_set (i := 1) nd rfl (Or.inl rfl) (pe_op op_cat (pv 1) (pe_op op_rep (pe_lst (pa_cons (pe_tup (pa_cons pe_str (pa_cons (pe_ix ix_tup (pv 2) pe_int (fun _ _ => rfl)) (pa_cons pe_non pa_nil)))) pa_nil)) pe_int)))) (pss_one (ps_for PassesOwn.never rfl (pi_range1 (by rfl) T.n_range (pa_cons (pe_callB (call_min2 rfl) (by rfl) T.n_min b_min (pa_cons pe_int (pa_cons (pe_ix ix_tup (pv 2) pe_int (fun _ _ => rfl)) pa_nil))) pa_nil)) (pg_name (i := 3) nd rfl (.inl rfl))
      (pss_one (ps_set (i := 1) nd rfl (Or.inl rfl) (pe_op op_cat (pv 1) (pe_lst (pa_cons (pe_tup (pa_cons pe_str (pa_cons (pe_ix ix_tup (pv 2) pe_int (fun _ _ => rfl)) (pa_cons (pe_op op_sub (pe_ix ix_tup (pv 2) pe_int (fun _ _ => rfl)) (pv 3)) pa_nil)))) (pa_cons (pe_tup (pa_cons pe_str (pa_cons (pe_ix ix_tup (pv 2) pe_int (fun _ _ => rfl)) (pa_cons (pe_op op_sub (pe_ix ix_tup (pv 2) pe_int (fun _ _ => rfl)) (pv 3)) pa_nil)))) pa_nil)))))))))))
      (pss_one (ps_ret (pv 1))))), ?_⟩
  have hn6 := BO.n6
  have hn1 := BO.n1
  refine ⟨by show 0 ≤ sizeLine; decide, fun q0 hq0 => ?_⟩
  have e1 := same_upd (o := .lst []) (Same.refl H) hq0
  have g1 : upd H q0 (.lst []) q0 = some (.lst []) := upd_same
  show tSeq _ _ _ [some (.ref bd), some (.ref q0), none, none] (upd H q0 (.lst []))
  generalize upd H q0 (.lst []) = H1 at e1 g1
  refine ⟨_, rfl, bd, rfl, ⟨dv, SqL.of (e1 _ _ hbd)⟩, ?_⟩
  refine for_list (K := K) (xs := dv) (fun i σ H' => ∃ q vs u2 u3, σ = [some (.ref bd), some (.ref q), u2, u3] ∧ H q = none ∧ H' q = some (.lst vs) ∧ vs.length ≤ 4 * i ∧ (0 < i → vs ≠ []) ∧ (∀ v ∈ vs, ThT bs H' v) ∧ Same H H')
    ⟨q0, [], _, _, rfl, hq0, g1, Nat.le_refl _, (fun z => absurd z (Nat.lt_irrefl 0)), (fun v h => nomatch h), e1⟩ (fun i σ H' _ ⟨_, _, _, _, _, _, _, _, _, _, e⟩ => SqL.of (e _ _ hbd)) ?_ ?_
  · rintro i y σ H2 hv ⟨q, vs, u2, u3, rfl, hq, hqv, hvl, hv0, hvt, e2⟩
    obtain ⟨b, hb, t, rfl, ht⟩ := fbd.get2 hv
    have hbb := List.mem_of_getElem? hb
    have hi : i < bs.length := (List.getElem?_eq_some_iff.mp hb).1
    have ht2 := e2 _ _ ht
    have hr1 := (BO.ok b hbb).r1
    show tIfS _ _ _ _ [some (.ref bd), some (.ref q), some (.ref t), u3] H2
    refine ⟨_, rfl, t, _, 6, _, rfl, rfl, SqT.of ht2, rfl, rfl, _, rfl, ?_⟩
    rw [(kind_eq b).1]
    cases hs : b.shares with
    | true =>
      refine ⟨_, rfl, _, rfl, t, _, 0, _, rfl, rfl, SqT.of ht2, rfl, (by show 3 ≤ sizeLine; decide), fun t3 ht3 => ⟨(by show 1 ≤ sizeLine; decide), fun q4 hq4 => ?_⟩⟩
      have e3 := same_upd (o := .tup [V.str "share", .str b.name, .non]) (Same.refl H2) ht3
      have g3 : upd H2 t3 (.tup [V.str "share", .str b.name, .non]) t3 = some (.tup [V.str "share", .str b.name, .non]) := upd_same
      generalize upd H2 t3 (.tup [V.str "share", .str b.name, .non]) = H3 at e3 g3 hq4
      have e4 := same_upd (o := .lst [V.ref t3]) (Same.refl H3) hq4
      refine ⟨q4, 3, _, rfl, rfl, upd_same, by decide, by decide, (by show 1 * 3 ≤ sizeLine; decide), fun q5 hq5 => ?_⟩
      generalize upd H3 q4 (.lst [V.ref t3]) = H4 at e4 hq5
      have e5 := same_upd (o := .lst (List.replicate (3 : Int).toNat [V.ref t3]).flatten) (Same.refl H4) hq5
      have g5 : upd H4 q5 (.lst (List.replicate (3 : Int).toNat [V.ref t3]).flatten) q5 = some (.lst [V.ref t3, .ref t3, .ref t3]) := upd_same
      generalize upd H4 q5 (.lst (List.replicate (3 : Int).toNat [V.ref t3]).flatten) = H5 at e5 g5
      have e25 := (e3.trans e4).trans e5
      refine ⟨q, q5, _, _, rfl, rfl, e25 _ _ hqv, g5, Nat.le_trans (show vs.length + 3 ≤ 100 by omega) (by decide), fun q6 hq6 => ?_⟩
      have e6 := same_upd (o := .lst (vs ++ [V.ref t3, .ref t3, .ref t3])) (Same.refl H5) hq6
      have e26 := e25.trans e6
      refine ⟨q6, _, _, _, rfl, (e2.trans e25).free hq6, upd_same, by rw [List.length_append]; show vs.length + 3 ≤ _; omega, (fun _ z => by cases vs <;> cases z), fun v hv => ?_, e2.trans e26⟩
      rcases List.mem_append.mp hv with hv | hv
      · exact (hvt v hv).same e26
      · have : v = V.ref t3 := by
          rcases List.mem_cons.mp hv with h | hv
          · exact h
          · rcases List.mem_cons.mp hv with h | hv
            · exact h
            · exact List.mem_singleton.mp hv
        rw [this]
        exact ⟨t3, rfl, .inl ⟨b, hbb, hs, ((e4.trans e5).trans e6) _ _ g3⟩⟩
    | false =>
      refine ⟨_, rfl, t, _, 3, _, rfl, rfl, SqT.of ht2, rfl, _, _, rfl, _, rfl, ?_, ?_, ?_⟩
      · split <;> omega
      · split <;> omega
      obtain ⟨mn, hmn, hmn1, hmn2, hmn3⟩ : ∃ mn : Nat, (if (b.roots : Int) < 2 then (b.roots : Int) else 2).toNat = mn ∧ 1 ≤ mn ∧ mn ≤ 2 ∧ mn ≤ b.roots := by
        refine ⟨_, rfl, ?_⟩
        split <;> omega
      rw [hmn]
      refine for_it walk_range (fun j σ H' => ∃ q vs' u3, σ = [some (.ref bd), some (.ref q), some (.ref t), u3] ∧ H q = none ∧ H' q = some (.lst vs') ∧ vs'.length ≤ 4 * i + 2 * j ∧ (0 < i + j → vs' ≠ []) ∧ (∀ v ∈ vs', ThT bs H' v) ∧ Same H H')
        ⟨q, vs, _, rfl, hq, hqv, hvl, fun z => hv0 (by omega), hvt, e2⟩ (fun _ _ _ _ _ => trivial) ?_ ?_
      · rintro j x σ H3 H4 hj ⟨q, vs', u3, rfl, hq, hqv, hvl, hv0, hvt, e3⟩ ⟨rfl, ex⟩
        have ex : x = .int (j : Nat) := ex.trans (by show V.int (0 + (j : Int)) = _; rw [Int.zero_add])
        subst ex
        have ht4 := e3 _ _ ht
        refine ⟨_, rfl, _, rfl, t, _, 0, _, rfl, rfl, SqT.of ht4, rfl, _, rfl, t, _, 3, _, rfl, rfl, SqT.of ht4, rfl, _, rfl, _, _, rfl, rfl, (by show 3 ≤ sizeLine; decide), fun t5 ht5 => ?_⟩
        have e5 := same_upd (o := .tup [V.str "root", .str b.name, .int ((b.roots : Int) - (j : Nat))]) (Same.refl H4) ht5
        have g5 : upd H4 t5 (.tup [V.str "root", .str b.name, .int ((b.roots : Int) - (j : Nat))]) t5 = some (.tup [V.str "root", .str b.name, .int ((b.roots : Int) - (j : Nat))]) := upd_same
        generalize upd H4 t5 (.tup [V.str "root", .str b.name, .int ((b.roots : Int) - (j : Nat))]) = H5 at e5 g5
        have ht6 := e5 _ _ ht4
        refine ⟨_, rfl, t, _, 0, _, rfl, rfl, SqT.of ht6, rfl, _, rfl, t, _, 3, _, rfl, rfl, SqT.of ht6, rfl, _, rfl, _, _, rfl, rfl, (by show 3 ≤ sizeLine; decide), fun t6 ht6' => ⟨(by show 2 ≤ sizeLine; decide), fun q7 hq7 => ?_⟩⟩
        have e6 := same_upd (o := .tup [V.str "offsets", .str b.name, .int ((b.roots : Int) - (j : Nat))]) (Same.refl H5) ht6'
        have g6 : upd H5 t6 (.tup [V.str "offsets", .str b.name, .int ((b.roots : Int) - (j : Nat))]) t6 = some (.tup [V.str "offsets", .str b.name, .int ((b.roots : Int) - (j : Nat))]) := upd_same
        generalize upd H5 t6 (.tup [V.str "offsets", .str b.name, .int ((b.roots : Int) - (j : Nat))]) = H6 at e6 g6 hq7
        have e7 := same_upd (o := .lst [V.ref t5, .ref t6]) (Same.refl H6) hq7
        have g7 : upd H6 q7 (.lst [V.ref t5, .ref t6]) q7 = some (.lst [V.ref t5, .ref t6]) := upd_same
        generalize upd H6 q7 (.lst [V.ref t5, .ref t6]) = H7 at e7 g7
        have e47 := (e5.trans e6).trans e7
        refine ⟨q, q7, _, _, rfl, rfl, e47 _ _ hqv, g7, Nat.le_trans (show vs'.length + 2 ≤ 100 by omega) (by decide), fun q8 hq8 => ?_⟩
        have e8 := same_upd (o := .lst (vs' ++ [V.ref t5, .ref t6])) (Same.refl H7) hq8
        have e48 := e47.trans e8
        have ek : (b.roots : Int) - (j : Nat) = ((b.roots - j : Nat) : Int) := by omega
        rw [ek] at g5 g6
        refine ⟨q8, _, _, rfl, (e3.trans e47).free hq8, upd_same, by rw [List.length_append]; show vs'.length + 2 ≤ _; omega, (fun _ z => by cases vs' <;> cases z), fun v hv => ?_, e3.trans e48⟩
        rcases List.mem_append.mp hv with hv | hv
        · exact (hvt v hv).same e48
        · rcases List.mem_cons.mp hv with h | hv
          · rw [h]
            exact ⟨t5, rfl, .inr ⟨b, hbb, hs, true, b.roots - j, by omega, by omega, ((e6.trans e7).trans e8) _ _ g5⟩⟩
          · rw [List.mem_singleton.mp hv]
            exact ⟨t6, rfl, .inr ⟨b, hbb, hs, false, b.roots - j, by omega, by omega, (e7.trans e8) _ _ g6⟩⟩
      · rintro σ H3 ⟨q, vs', u3, rfl, hq, hqv, hvl, hv0, hvt, e3⟩
        exact ⟨q, vs', _, _, rfl, hq, hqv, by omega, fun _ => hv0 (by omega), hvt, e3⟩
  · rintro σ H2 ⟨q, vs, u2, u3, rfl, hq, hqv, hvl, hv0, hvt, e2⟩
    rw [fbd.1] at hvl hv0
    exact ⟨_, rfl, k q vs H2 hq e2 hqv (hv0 (by omega)) (by omega) hvt⟩
end
end RP
set_option Elab.async false
set_option linter.all false
set_option maxRecDepth 100000
set_option maxHeartbeats 400000
/-! rootpledge k80: the law's scene -/
namespace RP
open PySem PySem.Spec PyProof.Rows L2
theorem FieldAt.cutS {K : PySem.W.Frag} {H : Hp} {f s : Addr} {bs : List BedR} {n : Nat} (h : FieldAt K H f bs) (S : SrcAt H s n) : FieldAt K (cut H fun a => a = s) f bs := by
  obtain ⟨a, b, c, hs, _⟩ := S
  obtain ⟨⟨df, g, d, h1, kvs, h2, h3, h4⟩, B⟩ := h
  refine ⟨⟨df, g, d, cut_of (ne_of h1 hs (by intro z; cases z)) h1, kvs, cut_of (ne_of h2 hs (by intro z; cases z)) h2, h3, fun b hb => ?_⟩, B⟩
  obtain ⟨v, h5, p, dp, rfl, h6⟩ := h4 b hb
  exact ⟨_, h5, p, dp, rfl, cut_of (ne_of h6 hs (by intro z; cases z)) h6⟩
theorem cut_hd {ns : List Str} (h : ns.length = 10) (m : Nat) (hm : m ≤ 4) : cutV (ns.map V.str) none (some (m : Int)) = (ns.take m).map V.str := by
  unfold cutV
  rw [List.length_map, h, List.map_take]
  match m, hm with
  | 0, _ => rfl
  | 1, _ => rfl
  | 2, _ => rfl
  | 3, _ => rfl
  | 4, _ => rfl
theorem cut_tl {ns : List Str} (h : ns.length = 10) : cutV (ns.map V.str) (some 3) none = (ns.drop 3).map V.str := by
  unfold cutV
  rw [List.length_map, h, List.map_drop]
  show ((ns.map V.str).drop 3).take 7 = _
  rw [List.take_of_length_le (by rw [List.length_drop, List.length_map, h]; decide)]
def sp_law_scene (K : PySem.W.Frag) : Sp := spA 2 fun vs H Q => ∃ (s : Addr) (n : Nat), vs = [.ref s, .int 3] ∧ SrcAt H s n ∧ n ≤ 1000 ∧ ∀ (t n4 bd f : Addr) (ns : List Str) (bs : List BedR) (H' : Hp), But s H H' → SrcAt H' s (n + 300) → H' t = some (.tup [.ref n4, .ref bd, .ref f]) → H' n4 = some (.lst (ns.map V.str)) → n4 ≠ s → ns.length = 4 → (∀ x ∈ ns, NameOk x) → ns.Nodup →
  BedsOk bs → (∀ b ∈ bs, b.owner ∈ ns) → LAt BedRowAt (cut H' fun a => a = s) bd bs → FieldAt K (cut H' fun a => a = s) f bs → bs.length ≤ 3 → Q (.ref t) H'
section
variable {P : Program} {w : World} {K : PySem.W.Frag} {mg : Str → Option Value} {base : Heap}
theorem ok_law_scene (T : Txt K mg) : Fx P w K mg base "_law_scene" 8 [] (sp_law_scene K) := by
  obtain ⟨fd, F⟩ := T.d_law_scene
  refine ⟨_, fd, _, [], T.g__law_scene, F.kp, fn_body F sc_law_scene rfl (fun cdv A outer s H vs Q E hr h => ?_), F.bindsN (fun _ _ _ _ _ _ us hl => match us, hl with | [_, _], _ => rfl), .nil⟩
  have nd := sc_law_scene.nd
  have hu := hu_of hr
  obtain ⟨s, n, rfl, S, hn, k⟩ := h
  refine ⟨_, (pss_cons (ps_set (i := 2) nd rfl (Or.inl rfl) (pe_f (ok_law_names T) (hr.mono (by decide)) (pa_cons (pv 0) (pa_cons pe_int pa_nil))))
      (pss_cons (ps_set (i := 3) nd rfl (Or.inl rfl) (pe_f (ok_law_breed_rows T) (hr.mono (by decide)) (pa_cons (pv 0) (pa_cons (pe_slice sl_list (pv 2) po_none (po_some pe_int)) pa_nil))))
      (pss_cons (ps_set (i := 4) nd rfl (Or.inl rfl) (pe_f (ok_law_bed_rows T) (hr.mono (by decide)) (pa_cons (pv 0) (pa_cons (pe_slice sl_list (pv 2) (po_some pe_int) po_none) (pa_cons (pv 3) (pa_cons (pe_slice sl_list (pv 2) po_none (po_some pe_int)) (pa_cons (pv 1) pa_nil)))))))
      (pss_one (ps_ret (pe_tup (pa_cons (pe_slice sl_list (pv 2) po_none (po_some pe_int)) (pa_cons (pv 4) (pa_cons (pe_f (ok_law_field T) (hr.mono (by decide)) (pa_cons (pv 3) (pa_cons (pv 4) pa_nil))) pa_nil))))))))), ?_⟩
  refine ⟨_, rfl, rfl, s, n, rfl, S, by omega, fun p ns H1 hp e1 S1 g1 N => ?_⟩
  have hps : p ≠ s := src_ne S hp
  show tSeq _ _ _ [some (.ref s), some (.int 3), some (.ref p), none, none] H1
  -- breeds
  refine ⟨_, rfl, _, rfl, _, rfl, p, _, rfl, SqL.of g1, fun p3 hp3 => ?_⟩
  have p3s : p3 ≠ s := src_ne S1 hp3
  have e2 := same_upd (o := .lst (cutV (ns.map V.str) none (some 3))) (Same.refl H1) hp3
  have g2 : upd H1 p3 (.lst (cutV (ns.map V.str) none (some 3))) p3 = some (.lst ((ns.take 3).map V.str)) := by rw [upd_same]; exact congrArg (fun z => some (HO.lst z)) (cut_hd N.len 3 (by decide))
  generalize upd H1 p3 (.lst (cutV (ns.map V.str) none (some 3))) = H2 at e2 g2
  have l3 : (ns.take 3).length = 3 := by rw [List.length_take, N.len]; rfl
  have ok3 : ∀ x ∈ ns.take 3, NameOk x := fun x hx => N.ok x (List.mem_of_mem_take hx)
  refine ⟨rfl, s, p3, _, ns.take 3, rfl, S1.same e2, by omega, g2, l3, ok3, p3s, fun br j H3 hbr e3 S3 hj1 hj3 LB => ?_⟩
  have g3 := e3 _ _ hps (e2 _ _ g1)
  show tSeq _ _ _ [some (.ref s), some (.int 3), some (.ref p), some (.ref br), none] H3
  -- beds
  refine ⟨_, rfl, _, rfl, _, rfl, p, _, rfl, SqL.of g3, fun p7 hp7 => ?_⟩
  have p7s : p7 ≠ s := src_ne S3 hp7
  have e4 := same_upd (o := .lst (cutV (ns.map V.str) (some 3) none)) (Same.refl H3) hp7
  have g4 : upd H3 p7 (.lst (cutV (ns.map V.str) (some 3) none)) p7 = some (.lst ((ns.drop 3).map V.str)) := by rw [upd_same, cut_tl N.len]
  generalize upd H3 p7 (.lst (cutV (ns.map V.str) (some 3) none)) = H4 at e4 g4
  refine ⟨_, rfl, _, rfl, _, rfl, p, _, rfl, SqL.of (e4 _ _ g3), fun p8 hp8 => ?_⟩
  have S4 := S3.same e4
  have p8s : p8 ≠ s := src_ne S4 hp8
  have e5 := same_upd (o := .lst (cutV (ns.map V.str) none (some 3))) (Same.refl H4) hp8
  have g5 : upd H4 p8 (.lst (cutV (ns.map V.str) none (some 3))) p8 = some (.lst ((ns.take 3).map V.str)) := by rw [upd_same]; exact congrArg (fun z => some (HO.lst z)) (cut_hd N.len 3 (by decide))
  generalize upd H4 p8 (.lst (cutV (ns.map V.str) none (some 3))) = H5 at e5 g5
  have LB5 : LAt BrRowAt (cut H5 fun a => a = s) br ((ns.take 3).take j) := LB.same mo_brrow (Chg.of (e4.trans e5)).cut
  have lj : ((ns.take 3).take j).length = j := by rw [List.length_take, l3]; omega
  have okj : ∀ x ∈ (ns.take 3).take j, NameOk x := fun x hx => ok3 x (List.mem_of_mem_take hx)
  refine ⟨_, rfl, rfl, s, p7, br, p8, _, ns.drop 3, (ns.take 3).take j, ns.take 3, rfl, S4.same e5, by omega, e5 _ _ g4, by rw [List.length_drop, N.len], fun x hx => N.ok x (List.mem_of_mem_drop hx), p7s, LB5, by omega, by omega, okj, g5, l3, ok3, p8s, fun bd i bs H6 hbd e6 S6 hi1 hi3 I6 LD => ?_⟩
  have g6 := e6 _ _ hps (e5 _ _ (e4 _ _ g3))
  have hbl : bs.length = i := I6.len (by rw [List.length_drop, N.len]; omega)
  have ndd : (ns.drop 3).Nodup := N.nd.sublist (List.drop_sublist _ _)
  have BO : BedsOk bs := ⟨fun b hb => (I6.ok b hb).1, by omega, by omega, by rw [I6.nm]; exact ndd.sublist (List.take_sublist _ _)⟩
  refine ⟨_, rfl, _, rfl, p, _, rfl, SqL.of g6, fun p4 hp4 => ?_⟩
  have p4s : p4 ≠ s := src_ne S6 hp4
  have e7 := same_upd (o := .lst (cutV (ns.map V.str) none (some 4))) (Same.refl H6) hp4
  have g7 : upd H6 p4 (.lst (cutV (ns.map V.str) none (some 4))) p4 = some (.lst ((ns.take 4).map V.str)) := by rw [upd_same]; exact congrArg (fun z => some (HO.lst z)) (cut_hd N.len 4 (by decide))
  generalize upd H6 p4 (.lst (cutV (ns.map V.str) none (some 4))) = H7 at e7 g7
  have LB6 : LAt BrRowAt H7 br ((ns.take 3).take j) := ((LB5.same mo_brrow (e6.chg (C := fun a => a = s) rfl).cut).same mo_brrow cut_le).same mo_brrow e7
  have LD7 : LAt BedRowAt (cut H7 fun a => a = s) bd bs := LD.same mo_bedrow (Chg.of e7).cut
  have ndj : ((ns.take 3).take j).Nodup := (N.nd.sublist (List.take_sublist _ _)).sublist (List.take_sublist _ _)
  refine ⟨_, rfl, _, rfl, _, rfl, rfl, br, bd, _, bs, rfl, LB6, LD7.same mo_bedrow cut_le, BO, ndj, okj, by omega, by omega, fun b hb => (I6.ok b hb).2.1, fun f H8 e8 FF => ⟨(by show 3 ≤ sizeLine; decide), fun t ht => ?_⟩⟩
  have e9 := same_upd (o := .tup [.ref p4, .ref bd, .ref f]) e8 (e8.free ht)
  have e89 := same_upd (o := .tup [.ref p4, .ref bd, .ref f]) (Same.refl H8) ht
  have S9 : SrcAt (upd H8 t (.tup [.ref p4, .ref bd, .ref f])) s (n + 300) := ((S6.same e7).same e9).le (by omega)
  have bt := (((((e1.trans (But.of e2)).trans e3).trans (But.of (e4.trans e5))).trans e6).trans (But.of e7)).trans (But.of e9)
  refine k t p4 bd f (ns.take 4) bs _ bt S9 upd_same (e9 _ _ g7) p4s (by rw [List.length_take, N.len]; rfl) (fun x hx => N.ok x (List.mem_of_mem_take hx)) (N.nd.sublist (List.take_sublist _ _)) BO (fun b hb => ?_) (LD7.same mo_bedrow (Chg.of e9).cut) ((FF.same e89).cutS S9) (by omega)
  have h3 := (I6.ok b hb).2.2
  have : ns.take 3 = (ns.take 4).take 3 := by rw [List.take_take]; rfl
  rw [this] at h3
  exact List.mem_of_mem_take h3
end
end RP
set_option Elab.async false
set_option linter.all false
set_option maxRecDepth 100000
set_option maxHeartbeats 400000
/-! rootpledge k80: the law's turning -/
namespace RP
open PySem PySem.Spec PyProof.Rows L2
theorem erase_perm {α : Type} : ∀ (l : List α) (j : Nat) (h : j < l.length), (l[j] :: l.eraseIdx j).Perm l
  | [], j, h => absurd h (Nat.not_lt_zero j)
  | a :: l, 0, h => List.Perm.refl _
  | a :: l, j + 1, h => by
    have ih := erase_perm l j (Nat.lt_of_succ_lt_succ h)
    show (l[j]'(Nat.lt_of_succ_lt_succ h) :: a :: l.eraseIdx j).Perm (a :: l)
    exact (List.Perm.swap a _ _).trans (ih.cons a)
def lenAt (H : Hp) (l : Addr) : Nat := match H l with
  | some (.lst xs) => xs.length
  | _ => 0
def sp_law_turned (K : PySem.W.Frag) : Sp := spA 2 fun vs H Q => ∃ (s a : Addr) (n : Nat) (xs : List V), vs = [.ref s, .ref a] ∧ SrcAt H s n ∧ n ≤ 1000 ∧ H a = some (.lst xs) ∧ xs.length ≤ 64 ∧ ∀ p ys H', H p = none → But s H H' → SrcAt H' s (n + 64) → H' p = some (.lst ys) → ys.Perm xs → Q (.ref p) H'
section
variable {P : Program} {w : World} {K : PySem.W.Frag} {mg : Str → Option Value} {base : Heap}
theorem ok_law_turned (T : Txt K mg) : Fx P w K mg base "_law_turned" 2 [] (sp_law_turned K) := by
  obtain ⟨fd, F⟩ := T.d_law_turned
  refine ⟨_, fd, _, [], T.g__law_turned, F.kp, fn_body F sc_law_turned rfl (fun cdv A outer s H vs Q E hr h => ?_), F.bindsN (fun _ _ _ _ _ _ us hl => match us, hl with | [_, _], _ => rfl), .nil⟩
  have nd := sc_law_turned.nd
  have hu := hu_of hr
  obtain ⟨s, a, n, xs, rfl, S, hn, ha, hl, k⟩ := h
  refine ⟨_, (pss_cons (ps_set (i := 2) nd rfl (Or.inl rfl) (pe_callTy call_list_of (by rfl) T.n_list b_list (pa_cons (pv 1) pa_nil)))
      (pss_cons (ps_set (i := 3) nd rfl (Or.inl rfl) (pe_lst pa_nil))
      (pss_cons (ps_while PassesOwn.never (pt_cmpR (op_neNil hr.units0) (pv 2) (pe_lst pa_nil) (nomark _)) (pss_one (ps_expr (pe_bm PySem.F.plainAttrs_list PySem.F.slot_list_append PySem.F.type_list_append mt_append (pv 3) (pa_cons (pe_bm PySem.F.plainAttrs_list PySem.F.slot_list_pop PySem.F.type_list_pop mt_popAt (pv 2) (pa_cons (pe_f (ok_law_next T) (hr.mono (by decide)) (pa_cons (pv 0) (pa_cons (pe_callB call_len_seq (by rfl) T.n_len b_len (pa_cons (pv 2) pa_nil)) pa_nil))) pa_nil)) pa_nil)))))
      (pss_one (ps_ret (pv 3)))))), ?_⟩
  refine ⟨_, rfl, a, xs, rfl, .inl (SqL.of ha), fun l hlf => ?_⟩
  have ls : l ≠ s := src_ne S hlf
  have e1 := same_upd (o := .lst xs) (Same.refl H) hlf
  have g1 : upd H l (.lst xs) l = some (.lst xs) := upd_same
  generalize upd H l (.lst xs) = H1 at e1 g1
  refine ⟨by show 0 ≤ sizeLine; decide, fun f hf => ?_⟩
  have S1 := S.same e1
  have fs : f ≠ s := src_ne S1 hf
  have fl : f ≠ l := fun z => by rw [z, g1] at hf; cases hf
  have hf0 := e1.free hf
  have e2 := same_upd (o := .lst []) (Same.refl H1) hf
  have g2 : upd H1 f (.lst []) f = some (.lst []) := upd_same
  show tSeq _ _ _ [some (.ref s), some (.ref a), some (.ref l), some (.ref f)] (upd H1 f (.lst []))
  generalize upd H1 f (.lst []) = H2 at e2 g2
  refine while_by (fun σ H' => σ = [some (.ref s), some (.ref a), some (.ref l), some (.ref f)] ∧ ∃ us ys, H' l = some (.lst us) ∧ H' f = some (.lst ys) ∧ (ys ++ us).Perm xs ∧ SrcAt H' s (n + ys.length) ∧ ∀ b o, b ≠ s → b ≠ l → b ≠ f → H2 b = some o → H' b = some o) (fun _ H' => lenAt H' l)
    ⟨rfl, xs, [], e2 _ _ g1, g2, List.Perm.refl _, S1.same e2, fun _ _ _ _ _ h => h⟩ ?_ ?_
  · rintro σ H3 ⟨rfl, us, ys, hl3, hf3, hp, S3, k3⟩
    have hlen := hp.length_eq
    rw [List.length_append] at hlen
    refine ⟨_, rfl, (by show 0 ≤ sizeLine; decide), fun q hq => ?_⟩
    have e4 := same_upd (o := .lst []) (Same.refl H3) hq
    refine ⟨l, q, us, rfl, rfl, e4 _ _ hl3, upd_same, _, rfl, ?_⟩
    generalize upd H3 q (.lst []) = H4 at e4
    cases us with
    | nil =>
      refine ⟨_, rfl, k f ys H4 hf0 (fun b o hb h => ?_) ((S3.same e4).le (by simp at hlen; omega)) (e4 _ _ hf3) (by rw [List.append_nil] at hp; exact hp)⟩
      exact e4 _ _ (k3 b o hb (ne_of_none h hlf) (ne_of_none h hf0) (e2 _ _ (e1 _ _ h)))
    | cons u us =>
      have hl4 := e4 _ _ hl3
      have hf4 := e4 _ _ hf3
      have hul : (u :: us).length ≤ 64 := by omega
      refine ⟨_, rfl, .inl ⟨rfl, _, SqL.of hf4⟩, _, rfl, .inl ⟨rfl, _, SqL.of hl4⟩, _, rfl, _, rfl, l, _, rfl, .inl (SqL.of hl4), rfl, s, (u :: us).length, _, rfl, Nat.succ_le_succ (Nat.zero_le _), by omega, S3.same e4, by omega, fun r H5 hr5 e5 S5 => ?_⟩
      have hl5 := e5 _ _ ls hl4
      have hf5 := e5 _ _ fs hf4
      obtain ⟨j, hj1, hj2, hj3, _⟩ := atI_get (atI_nat (List.getElem?_eq_getElem hr5))
      refine ⟨l, u :: us, (r : Nat), j, _, rfl, rfl, hl5, by omega, by omega, hj1, hj2, ?_⟩
      refine ⟨f, ys, _, rfl, rfl, by rw [upd_ne fl]; exact hf5, Nat.lt_of_le_of_lt (show ys.length ≤ 64 by omega) (by decide), ?_⟩
      have hpe : ((u :: us)[j] :: (u :: us).eraseIdx j).Perm (u :: us) := erase_perm _ _ hj3
      have hje : (u :: us)[j] = (u :: us)[r] := by
        rw [List.getElem?_eq_getElem hj3] at hj2
        exact Option.some.inj hj2
      refine ⟨⟨rfl, (u :: us).eraseIdx j, ys ++ [(u :: us)[r]], ?_, upd_same, ?_, ?_, fun b o h1 h2 h3 h => ?_⟩, ?_⟩
      · rw [upd_ne fl.symm]
        exact upd_same
      · refine List.Perm.trans ?_ hp
        rw [List.append_assoc, ← hje]
        exact List.Perm.append_left ys hpe
      · rw [List.length_append]
        exact (((S5.write ls).write fs)).le (by show n + ys.length + 1 ≤ n + (ys.length + 1); omega)
      · rw [upd_ne h3, upd_ne h2]
        exact e5 _ _ h1 (e4 _ _ (k3 b o h1 h2 h3 h))
      · show lenAt (upd (upd H5 l _) f _) l < lenAt H3 l
        have a1 : lenAt (upd (upd H5 l (.lst ((u :: us).eraseIdx j))) f (.lst (ys ++ [(u :: us)[r]]))) l = ((u :: us).eraseIdx j).length := by
          unfold lenAt
          rw [upd_ne fl.symm, upd_same]
        have a2 : lenAt H3 l = (u :: us).length := by
          unfold lenAt
          rw [hl3]
        have a3 := hpe.length_eq
        rw [List.length_cons] at a3
        rw [a2]
        refine Nat.lt_of_le_of_lt (Nat.le_of_eq a1) ?_
        omega
  · intro σ H1 Q1 Q2 hq h1
    obtain ⟨v, hv, h2, h3⟩ := h1
    refine ⟨v, hv, h2, fun q hq2 => ?_⟩
    obtain ⟨a, b, xs, z1, z2, z3, z4, c, z5, z6⟩ := h3 q hq2
    exact ⟨a, b, xs, z1, z2, z3, z4, c, z5, hq _ _ z6⟩
end
end RP
set_option Elab.async false
set_option linter.all false
set_option maxRecDepth 100000
set_option maxHeartbeats 400000
/-! rootpledge k80: the law's likely rows -/
namespace RP
open PySem PySem.Spec PyProof.Rows L2
/-- what follows leans on M alone -/
theorem seq_cut {u r : TS} {D : Ends} {σ : L2.St} {H : Hp} (M : L2.St → Hp → Prop) (h2 : ∀ σ' H', M σ' H' → r D σ' H') (h1 : ∀ r' : L2.St → Hp → Prop, (∀ σ' H', M σ' H' → r' σ' H') → u { D with nx := r' } σ H) : tSeq u r D σ H := h1 _ h2
theorem asg_next {te : TE} {i : Nat} {r : TS} {D : Ends} {σ : L2.St} {H : Hp} (h : te σ H fun x H1 => r D (σ.set i (some x)) H1) : tSeq (tAsg te (gName i)) r D σ H := h
theorem But.free {s p : Addr} {H H' : Hp} {n : Nat} (e : But s H H') (S : SrcAt H' s n) (h : H' p = none) : H p = none := by
  cases z : H p with
  | none => rfl
  | some o =>
    rw [e p o (src_ne S h) z] at h
    cases h
theorem But.rep {s : Addr} {H H' : Hp} {n w : Nat} {k : Kn} {B : Str → Prop} {c : Lab → Addr} {st : PS} (e : But s H H') (S : SrcAt H s n) (ko : KnOm k) (hs : ¬ foot c B s) (R : Rep k B w H c st) : Rep k B w H' c st := by
  refine R.om ko fun a o h z => ?_
  by_cases q : a = s
  · subst q
    obtain ⟨u, hu, hod⟩ := S.odd
    rw [h] at hu
    cases hu
    exact z.elim (fun z => absurd hod z) fun z => absurd z hs
  · exact e a o q h
theorem ThT.but {bs : List BedR} {s : Addr} {H H' : Hp} {n : Nat} {v : V} (e : But s H H') (S : SrcAt H s n) (h : ThT bs H v) : ThT bs H' v := by
  have f := e.sm S
  obtain ⟨t, rfl, h⟩ := h
  refine ⟨t, rfl, ?_⟩
  rcases h with ⟨b, h1, h2, h3⟩ | ⟨b, h1, h2, r, k, h3, h4, h5⟩
  · exact .inl ⟨b, h1, h2, f _ _ h3 odd_tup⟩
  · exact .inr ⟨b, h1, h2, r, k, h3, h4, f _ _ h5 odd_tup⟩
structure NsOk (ns : List Str) : Prop where
  len : ns.length = 4
  ok : ∀ x ∈ ns, NameOk x
  nd : ns.Nodup
/-- what a teller of rows reads -/
structure LkAt (H : Hp) (s nm th : Addr) (c : Lab → Addr) (bs : List BedR) (w : Nat) (st : PS) (ns : List Str) (tvs : List V) : Prop where
  fnm : H nm = some (.lst (ns.map V.str))
  fth : H th = some (.lst tvs)
  tt : ∀ v ∈ tvs, ThT bs H v
  rep : Rep knLaw (Ball bs) w H c st
  n1 : nm ≠ s
  n2 : th ≠ s
  n3 : ¬ foot c (Ball bs) s
section
variable {H H' : Hp} {s nm th : Addr} {c : Lab → Addr} {bs : List BedR} {w n : Nat} {st : PS} {ns : List Str} {tvs : List V}
theorem LkAt.but (L : LkAt H s nm th c bs w st ns tvs) (e : But s H H') (S : SrcAt H s n) : LkAt H' s nm th c bs w st ns tvs :=
  ⟨e _ _ L.n1 L.fnm, e _ _ L.n2 L.fth, fun v hv => (L.tt v hv).but e S, e.rep S law_om L.n3 L.rep, L.n1, L.n2, L.n3⟩
theorem LkAt.same (L : LkAt H s nm th c bs w st ns tvs) (e : Same H H') : LkAt H' s nm th c bs w st ns tvs :=
  ⟨e _ _ L.fnm, e _ _ L.fth, fun v hv => (L.tt v hv).same e, L.rep.same e, L.n1, L.n2, L.n3⟩
end
theorem psum_pos : ∀ {l : List (Str × Nat)}, (l.map (·.1)).Nodup → 0 < psum l → ∃ n ∈ l.map (·.1), 0 < pget l n
  | [], _, h => absurd h (by decide)
  | (m, v) :: r, nd, h => by
    have nd2 : ¬ m ∈ r.map (·.1) ∧ (r.map (·.1)).Nodup := List.nodup_cons.mp nd
    rw [psum_cons] at h
    by_cases hv : 0 < v
    · exact ⟨m, List.mem_cons_self, by rw [pget_cons, if_pos rfl]; exact hv⟩
    · obtain ⟨n, h1, h2⟩ := psum_pos nd2.2 (by omega)
      refine ⟨n, List.mem_cons_of_mem _ h1, ?_⟩
      rw [pget_cons, if_neg (fun z => nd2.1 (by rw [z]; exact h1))]
      exact h2
theorem part_units {a b : Nat} (ha : 1 ≤ a) (hab : a ≤ b) (hb : b ≤ 12) : ∃ u, a * 27720 = u * b ∧ 1 ≤ u ∧ u ≤ 27720 ∧ pB u ≤ 12 := by
  have h : ∀ b ∈ List.range 13, ∀ a ∈ List.range 13, 1 ≤ a → a ≤ b → a * 27720 = (a * 27720 / b) * b ∧ 1 ≤ a * 27720 / b ∧ a * 27720 / b ≤ 27720 ∧ pB (a * 27720 / b) ≤ 12 := by decide +kernel
  exact ⟨_, h b (List.mem_range.mpr (by omega)) a (List.mem_range.mpr (by omega)) ha hab⟩
theorem far_ok {b : Nat} (h2 : b < 12) {r : Nat} (hr : r < 2) : ∃ f : Nat, [V.int (1 + (b : Nat)), V.int ((1 + (b : Nat) + 3 : Int).fdiv 4)][r]? = some (.int (f : Nat)) ∧ 1 ≤ f ∧ f ≤ 1 + b := by
  match r, hr with
  | 0, _ => exact ⟨1 + b, by show some (V.int (1 + (b : Nat))) = _; rw [show (1 : Int) + (b : Nat) = ((1 + b : Nat) : Int) by omega], by omega, Nat.le_refl _⟩
  | 1, _ =>
    refine ⟨(1 + b + 3) / 4, ?_, by omega, by omega⟩
    show some (V.int ((1 + (b : Nat) + 3 : Int).fdiv 4)) = _
    rw [Int.fdiv_eq_ediv_of_nonneg _ (by omega), show (((1 + b + 3) / 4 : Nat) : Int) = (1 + (b : Int) + 3) / 4 by omega]
def kdOf (r : Bool) : Kd := if r = true then .root else .offs
theorem kdOf_ne (r : Bool) : kdOf r ≠ .share := by cases r <;> decide
theorem kdOf_s (r : Bool) : (kdOf r).s = itS r := by cases r <;> rfl
def sp_law_likely (K : PySem.W.Frag) : Sp := spA 6 fun vs H Q => ∃ (s nm th : Addr) (c : Lab → Addr) (n num mom ww m : Nat) (ns : List Str) (tvs : List V) (bs : List BedR) (st : PS), vs = [.ref s, .int (num : Nat), .int (mom : Nat), .ref nm, .ref th, .ref (c .root)] ∧ SrcAt H s n ∧ n ≤ 1000 ∧ LkAt H s nm th c bs ww st ns tvs ∧
  NsOk ns ∧ tvs ≠ [] ∧ tvs.length ≤ 100 ∧ BedsOk bs ∧ PSok bs (· ∈ ns) m st ∧ m ≤ 50 ∧ 1 ≤ num ∧
  ∀ t p H', H t = none → But s H H' → SrcAt H' s (n + 20) → PRowAt K H' t p → PrIn bs (· ∈ ns) p → p.num = num → p.mom = mom → Q (.ref t) H'
section
variable {P : Program} {w : World} {K : PySem.W.Frag} {mg : Str → Option Value} {base : Heap}
theorem ok_law_likely (T : Txt K mg) : Fx P w K mg base "_law_likely" 4 [] (sp_law_likely K) := by
  obtain ⟨fd, F⟩ := T.d_law_likely
  refine ⟨_, fd, _, [], T.g__law_likely, F.kp, fn_body F sc_law_likely rfl (fun cdv A outer s H vs Q E hr h => ?_), F.bindsN (fun _ _ _ _ _ _ us hl => match us, hl with | [_, _, _, _, _, _], _ => rfl), .nil⟩
  have nd := sc_law_likely.nd
  have hu := hu_of hr
  obtain ⟨s, nm, th, c, n, num, mom, ww, m, ns, tvs, bs, st, rfl, S, hn, L, N, ht0, ht1, BO, SS, hm, hnum, k⟩ := h
  refine ⟨_, (pss_cons (ps_set (i := 6) nd rfl (Or.inr rfl) (pe_ix ix_list (pv 4) (pe_f (ok_law_next T) (hr.mono (by decide)) (pa_cons (pv 0) (pa_cons (pe_callB call_len_seq (by rfl) T.n_len b_len (pa_cons (pv 4) pa_nil)) pa_nil))) (fun _ _ => rfl)))
      (pss_cons (ps_if (pt_cmpR op_eq (pe_ix ix_tup (pv 6) pe_int (fun _ _ => rfl)) pe_str (nomark _)) (pss_cons (ps_setLc (own := [("_law_name", 8)]) (i := 7) rfl nd rfl rfl (sw_true rfl rfl rfl (by decide +kernel)) (pi_list (pe_callB (call_sortedD rfl) (by rfl) T.n_sorted b_sorted (pa_cons (pe_dget hu (pe_dget hu (pv 5) pe_str (fun _ _ => rfl)) (pe_ix ix_tup (pv 6) pe_int (fun _ _ => rfl)) (fun _ _ => rfl)) pa_nil))) (blkOk_by (own := [("_law_name", 8)]) (N := ["_law_source_here", "_law_number", "_law_moment", "_law_names_here", "_law_things_here", "_law_state", "_law_thing", "_law_some", "_law_name", "_law_bottom", "_law_far", "_law_seller", "_law_others", "_law_buyer", "_law_going", "_law_found"]) (sc := defScope s_law_likely) (by decide +kernel)) (fun _ _ _ _ _ => (pg_name (i := 8) nd rfl (.inl rfl))) (fun _ _ _ _ _ => (pts_one (pt_cmpR op_gt (pe_dget hu (pe_dget hu (pe_dget hu (pv 5) pe_str (fun _ _ => rfl)) (pe_ix (ix_tupK (K := K) rfl) (pv 6) pe_int (fun _ _ => rfl)) (fun _ _ => rfl)) (pv 8) (fun _ _ => rfl)) pe_int (nomark _)))) (fun _ _ _ _ _ => (pv 8)))
      (pss_cons (ps_set (i := 9) nd rfl (Or.inl rfl) (pe_op op_add pe_int (pe_f (ok_law_next T) (hr.mono (by decide)) (pa_cons (pv 0) (pa_cons pe_int pa_nil)))))
      (pss_cons (ps_set (i := 10) nd rfl (Or.inl rfl) (pe_ix ix_list (pe_lst (pa_cons (pv 9) (pa_cons (pe_op op_fdivN (pe_op op_add (pv 9) pe_int) pe_int) pa_nil))) (pe_f (ok_law_next T) (hr.mono (by decide)) (pa_cons (pv 0) (pa_cons pe_int pa_nil))) (fun _ _ => rfl)))
      (pss_one (ps_set (i := 6) nd rfl (Or.inr rfl) (pe_tup (pa_cons pe_str (pa_cons (pe_ix ix_tup (pv 6) pe_int (fun _ _ => rfl)) (pa_cons (pe_n (ok_Part_init T) (hr.mono (by decide)) (pa_cons (pe_op op_add pe_int (pe_f (ok_law_next T) (hr.mono (by decide)) (pa_cons (pv 0) (pa_cons (pv 10) pa_nil)))) (pa_cons (pv 9) pa_nil))) pa_nil))))))))) (pss_one (ps_set (i := 7) nd rfl (Or.inl rfl) (pe_lst (pa_cons (pe_dget hu (pe_dget hu (pv 5) pe_str (fun _ _ => rfl)) (pv 6) (fun _ _ => rfl)) pa_nil)))))
      (pss_cons (ps_set (i := 11) nd rfl (Or.inr rfl) (pe_ix ix_list (pv 7) (pe_f (ok_law_next T) (hr.mono (by decide)) (pa_cons (pv 0) (pa_cons (pe_callB call_len_seq (by rfl) T.n_len b_len (pa_cons (pv 7) pa_nil)) pa_nil))) (fun _ _ => rfl)))
      (pss_cons (ps_if (pt_cmpR op_eq (pe_f (ok_law_next T) (hr.mono (by decide)) (pa_cons (pv 0) (pa_cons pe_int pa_nil))) pe_int (nomark _)) (pss_one (ps_set (i := 11) nd rfl (Or.inr rfl) (pe_ix ix_list (pv 3) (pe_f (ok_law_next T) (hr.mono (by decide)) (pa_cons (pv 0) (pa_cons (pe_callB call_len_seq (by rfl) T.n_len b_len (pa_cons (pv 3) pa_nil)) pa_nil))) (fun _ _ => rfl)))) pss_nil)
      (pss_cons (ps_setLc (own := [("_law_name", 8)]) (i := 12) rfl nd rfl rfl (sw_true rfl rfl rfl (by decide +kernel)) (pi_list (pv 3)) (blkOk_by (own := [("_law_name", 8)]) (N := ["_law_source_here", "_law_number", "_law_moment", "_law_names_here", "_law_things_here", "_law_state", "_law_thing", "_law_some", "_law_name", "_law_bottom", "_law_far", "_law_seller", "_law_others", "_law_buyer", "_law_going", "_law_found"]) (sc := defScope s_law_likely) (by decide +kernel)) (fun _ _ _ _ _ => (pg_name (i := 8) nd rfl (.inl rfl))) (fun _ _ _ _ _ => (pts_one (pt_cmpR op_ne (pv 8) (pv 11) (nomark _)))) (fun _ _ _ _ _ => (pv 8)))
      (pss_cons (ps_set (i := 13) nd rfl (Or.inl rfl) (pe_ix ix_list (pv 12) (pe_f (ok_law_next T) (hr.mono (by decide)) (pa_cons (pv 0) (pa_cons (pe_callB call_len_seq (by rfl) T.n_len b_len (pa_cons (pv 12) pa_nil)) pa_nil))) (fun _ _ => rfl)))
      (pss_cons (ps_set (i := 14) nd rfl (Or.inl rfl) pe_str)
      (pss_cons (ps_if (PW.pt (pw_and (pt_cmpR op_eq (pe_ix ix_tup (pv 6) pe_int (fun _ _ => rfl)) pe_str (nomark _)) (pw_and1 (pt_cmpR op_eq (pe_f (ok_law_next T) (hr.mono (by decide)) (pa_cons (pv 0) (pa_cons pe_int pa_nil))) pe_int (nomark _))))) (pss_one (ps_set (i := 14) nd rfl (Or.inl rfl) pe_str)) pss_nil)
      (pss_cons (ps_set (i := 15) nd rfl (Or.inl rfl) (pe_tup (pa_cons pe_str (pa_cons (pv 1) (pa_cons (pv 2) (pa_cons (pv 11) (pa_cons (pv 13) (pa_cons (pv 6) (pa_cons (pe_f (ok_law_next T) (hr.mono (by decide)) (pa_cons (pv 0) (pa_cons pe_int pa_nil))) pa_nil)))))))))
      (pss_one (ps_ret (pe_op op_catT (pv 15) (pe_tup (pa_cons pe_str (pa_cons (pv 14) (pa_cons (pe_f (ok_law_next T) (hr.mono (by decide)) (pa_cons (pv 0) (pa_cons pe_int pa_nil))) pa_nil)))))))))))))))), ?_⟩
  have ht2 : 1 ≤ tvs.length := by
    cases tvs with
    | nil => exact absurd rfl ht0
    | cons => exact Nat.succ_le_succ (Nat.zero_le _)
  refine asg_next ?_
  refine ⟨_, rfl, _, rfl, _, rfl, th, _, rfl, .inl (SqL.of L.fth), rfl, s, tvs.length, _, rfl, ht2, by omega, S, by omega, fun r1 H1 hr1 e1 S1 => ?_⟩
  have L1 := L.but e1 S
  obtain ⟨t0, ht0e, htt⟩ := L1.tt _ (List.getElem_mem hr1)
  refine ⟨th, _, _, _, rfl, rfl, SqL.of L1.fth, atI_nat (List.getElem?_eq_getElem hr1), ?_⟩
  generalize tvs[r1] = v0 at ht0e
  subst ht0e
  -- the thing, who has it
  refine seq_cut (fun σ H' => ∃ t sm u8 u9 u10 tg fs, σ = [some (.ref s), some (.int (num : Nat)), some (.int (mom : Nat)), some (.ref nm), some (.ref th), some (.ref (c .root)), some (.ref t), some (.ref sm), u8, u9, u10, none, none, none, none, none] ∧ ThAt K H' t tg ∧ ThIn bs tg ∧ H' sm = some (.lst (fs.map V.str)) ∧ sm ≠ s ∧ fs ≠ [] ∧ fs.length ≤ 60 ∧ (∀ x ∈ fs, x ∈ ns) ∧ But s H H' ∧ SrcAt H' s (n + 4)) ?_ ?_
  · rintro σ H2 ⟨t, sm, u8, u9, u10, tg, fs, rfl, hth, hin, hsm, hss, hf0, hf60, hfn, b2, S2⟩
    have hf1 : 1 ≤ fs.length := by
      cases fs with
      | nil => exact absurd rfl hf0
      | cons => exact Nat.succ_le_succ (Nat.zero_le _)
    have L2 := L.but b2 S
    refine asg_next ?_
    refine ⟨_, rfl, _, rfl, _, rfl, sm, _, rfl, .inl (SqL.of hsm), rfl, s, fs.length, _, (by rw [List.length_map]; rfl), hf1, by omega, S2, by omega, fun r3 H3 hr3 e3 S3 => ?_⟩
    refine ⟨sm, _, _, .str fs[r3], rfl, rfl, SqL.of (e3 _ _ hss hsm), atI_nat (by rw [List.getElem?_map, List.getElem?_eq_getElem hr3]; rfl), ?_⟩
    have L3 := L2.but e3 S2
    have hth3 := hth.om (e3.sm S2)
    have b3 := b2.trans e3
    have hx3 := hfn _ (List.getElem_mem hr3)
    generalize fs[r3] = x3 at hx3
    clear hth L2 hsm e3
    -- or anybody
    refine seq_cut (fun σ H' => ∃ x, σ = [some (.ref s), some (.int (num : Nat)), some (.int (mom : Nat)), some (.ref nm), some (.ref th), some (.ref (c .root)), some (.ref t), some (.ref sm), u8, u9, u10, some (.str x), none, none, none, none] ∧ x ∈ ns ∧ But s H3 H' ∧ SrcAt H' s (n + 8)) ?_ ?_
    · rintro σ H4 ⟨x, rfl, hx, e4, S4⟩
      have L4 := L3.but e4 S3
      have hth4 := hth3.om (e4.sm S3)
      have b4 := b3.trans e4
      clear L3 hth3 b3 e4
      -- others
      refine asg_next ?_
      refine ⟨_, rfl, nm, rfl, ⟨_, SqL.of L4.fnm⟩, fun D hD => ?_⟩
      have hnl : (ns.map V.str).length ≤ 100000 := by
        rw [List.length_map, N.len]
        decide
      refine lc_pure (walk_list (xs := ns.map V.str)) hD (fun i acc => acc = (((ns.take i).filter fun y => !decide (y = x)).map V.str)) rfl hnl (fun H1 e => e.seq (SqL.of L4.fnm)) ?_ ?_
      · rintro i y acc H5 H6 hi e5 rfl ⟨rfl, hv⟩ Q1 Q0 q1 q0
        rw [List.getElem?_map] at hv
        cases hzi : ns[i]? with
        | none =>
          rw [hzi] at hv
          cases hv
        | some y0 =>
          rw [hzi] at hv
          cases hv
          refine ⟨rfl, _, rfl, _, rfl, rfl, _, rfl, ?_⟩
          by_cases hy : y0 = x
          · rw [decide_eq_true (by rw [hy])]
            refine q0 _ (Same.refl _) ?_
            rw [filt_snoc _ _ hzi, if_neg (by rw [decide_eq_true hy]; exact Bool.false_ne_true), List.append_nil]
          · rw [decide_eq_false (fun z => hy (by injection z))]
            refine ⟨_, rfl, q1 _ _ (Same.refl _) ?_⟩
            rw [filt_snoc _ _ hzi, if_pos (by rw [decide_eq_false hy]; rfl)]
      rintro acc H5 e5 hD5 _ rfl
      rw [List.length_map, List.take_length] at hD5
      have hDs : D ≠ s := src_ne S4 hD
      have L5 := L4.same e5
      have S5 := S4.same e5
      have hth5 := hth4.same e5
      have b5 := b4.trans (But.of e5)
      clear L4 hth4 b4 S4
      obtain ⟨os, hos⟩ : ∃ os, os = ns.filter fun y => !decide (y = x) := ⟨_, rfl⟩
      rw [← hos] at hD5
      have hom : ∀ y ∈ os, y ∈ ns ∧ y ≠ x := fun y hy => by
        rw [hos] at hy
        obtain ⟨h1, h2⟩ := List.mem_filter.mp hy
        refine ⟨h1, fun z => ?_⟩
        rw [decide_eq_true z] at h2
        exact Bool.false_ne_true h2
      have hol : 1 ≤ os.length ∧ os.length ≤ 4 := by
        refine ⟨?_, by rw [hos, ← N.len]; exact List.length_filter_le _ _⟩
        obtain ⟨y, hy1, hy2⟩ : ∃ y ∈ ns, y ≠ x := by
          have nd := N.nd
          have nl := N.len
          match ns, nl, nd with
          | [a, b, _, _], _, nd =>
            have nab : a ≠ b := fun z => (List.nodup_cons.mp nd).1 (by rw [z]; exact List.mem_cons_self)
            by_cases z : a = x
            · exact ⟨b, List.mem_cons_of_mem _ List.mem_cons_self, fun q => nab (z.trans q.symm)⟩
            · exact ⟨a, List.mem_cons_self, z⟩
        have : y ∈ os := by
          rw [hos]
          exact List.mem_filter.mpr ⟨hy1, by rw [decide_eq_false hy2]; rfl⟩
        exact List.length_pos_of_mem this
      -- buyer
      refine asg_next ?_
      refine ⟨_, rfl, _, rfl, _, rfl, D, _, rfl, .inl (SqL.of hD5), rfl, s, os.length, _, (by rw [List.length_map]; rfl), hol.1, by omega, S5, by omega, fun r6 H6 hr6 e6 S6 => ?_⟩
      refine ⟨D, _, _, .str os[r6], rfl, rfl, SqL.of (e6 _ _ hDs hD5), atI_nat (by rw [List.getElem?_map, List.getElem?_eq_getElem hr6]; rfl), ?_⟩
      have hth6 := hth5.om (e6.sm S5)
      have b6 := b5.trans e6
      obtain ⟨hy1, hy2⟩ := hom _ (List.getElem_mem hr6)
      generalize os[r6] = y at hy1 hy2
      clear hth5 b5 hD5 L5
      -- going
      refine asg_next ?_
      refine seq_cut (fun σ H' => ∃ g, σ = [some (.ref s), some (.int (num : Nat)), some (.int (mom : Nat)), some (.ref nm), some (.ref th), some (.ref (c .root)), some (.ref t), some (.ref sm), u8, u9, u10, some (.str x), some (.ref D), some (.str y), some (.str (goS g)), none] ∧ (g = false → tg.kd = .root) ∧ But s H6 H' ∧ SrcAt H' s (n + 12)) ?_ ?_
      · rintro σ H7 ⟨g, rfl, hg, e7, S7⟩
        have hth7 := hth6.om (e7.sm S6)
        have b7 := b6.trans e7
        refine ⟨_, rfl, _, rfl, _, rfl, _, rfl, _, rfl, _, rfl, rfl, s, 100, _, rfl, by decide, by decide, S7, by omega, fun r8 H8 hr8 e8 S8 => ⟨(by show 7 ≤ sizeLine; decide), fun tf htf => ?_⟩⟩
        have tfs := src_ne S8 htf
        have e9 := same_upd (o := .tup [V.str "promise", .int (num : Nat), .int (mom : Nat), .str x, .str y, .ref t, .int (r8 : Nat)]) (Same.refl H8) htf
        have g9 : upd H8 tf (.tup [V.str "promise", .int (num : Nat), .int (mom : Nat), .str x, .str y, .ref t, .int (r8 : Nat)]) tf = some (.tup [V.str "promise", .int (num : Nat), .int (mom : Nat), .str x, .str y, .ref t, .int (r8 : Nat)]) := upd_same
        have hth9 := (hth7.om (e8.sm S7)).same e9
        have b9 := (b7.trans e8).trans (But.of e9)
        have S9 := S8.same e9
        generalize upd H8 tf (.tup [V.str "promise", .int (num : Nat), .int (mom : Nat), .str x, .str y, .ref t, .int (r8 : Nat)]) = H9 at e9 g9 hth9 b9 S9
        refine ⟨_, rfl, _, rfl, _, rfl, rfl, s, 9, _, rfl, by decide, by decide, S9, by omega, fun r10 H10 hr10 e10 S10 => ⟨(by show 3 ≤ sizeLine; decide), fun t2 ht2 => ?_⟩⟩
        have e11 := same_upd (o := .tup [V.str "flat", .str (goS g), .int (r10 : Nat)]) (Same.refl H10) ht2
        have g11 : upd H10 t2 (.tup [V.str "flat", .str (goS g), .int (r10 : Nat)]) t2 = some (.tup [V.str "flat", .str (goS g), .int (r10 : Nat)]) := upd_same
        have hth11 := (hth9.om (e10.sm S9)).same e11
        have b11 := (b9.trans e10).trans (But.of e11)
        have S11 := S10.same e11
        have gf := e11 _ _ (e10 _ _ tfs g9)
        generalize upd H10 t2 (.tup [V.str "flat", .str (goS g), .int (r10 : Nat)]) = H11 at e11 g11 hth11 b11 S11 gf
        refine ⟨tf, t2, _, _, rfl, rfl, SqT.of gf, SqT.of g11, List.cons_ne_nil _ _, (by show 7 + 3 ≤ sizeLine; decide), fun z => (nomatch z), fun _ t3 ht3 => ?_⟩
        have e12 := same_upd (o := .tup ([V.str "promise", .int (num : Nat), .int (mom : Nat), .str x, .str y, .ref t, .int (r8 : Nat)] ++ [V.str "flat", .str (goS g), .int (r10 : Nat)])) (Same.refl H11) ht3
        refine k t3 ⟨num, mom, x, y, t, tg, r8, g, r10⟩ _ (b11.free S11 ht3) (b11.trans (But.of e12)) ((S11.same e12).le (by omega)) ⟨upd_same, hth11.same e12⟩ ⟨⟨hnum, N.ok x hx, N.ok y hy1, hy2, hin.ok, by show r8 ≤ 1000000; omega, by show r10 ≤ 1000000; omega, hg⟩, hin, hx, hy1⟩ rfl rfl
      · intro r' hr'
        obtain ⟨v, hv, _⟩ := id hth6
        refine ⟨_, rfl, t, _, 0, _, rfl, rfl, SqT.of hv, rfl, rfl, _, rfl, ?_⟩
        rw [kd_root]
        by_cases hk : tg.kd = .root
        · rw [decide_eq_true hk]
          refine ⟨_, rfl, rfl, s, 3, _, rfl, by decide, by decide, S6, by omega, fun r7 H7 hr7 e7 S7 => ⟨rfl, _, rfl, ?_⟩⟩
          by_cases h0 : r7 = 0
          · subst h0
            rw [decide_eq_true (by rfl)]
            exact hr' _ _ ⟨false, rfl, fun _ => hk, e7, S7.le (by omega)⟩
          · rw [decide_eq_false (show ¬ V.int (r7 : Nat) = V.int 0 from fun z => by injection z with z; omega)]
            exact hr' _ _ ⟨true, rfl, (fun z => nomatch z), e7, S7.le (by omega)⟩
        · rw [decide_eq_false hk]
          exact hr' _ _ ⟨true, rfl, (fun z => nomatch z), But.of (Same.refl _), S6.le (by omega)⟩
    · intro r' hr'
      refine ⟨_, rfl, rfl, s, 5, _, rfl, by decide, by decide, S3, by omega, fun r4 H4 hr4 e4 S4 => ⟨rfl, _, rfl, ?_⟩⟩
      by_cases h0 : r4 = 0
      · subst h0
        rw [decide_eq_true (by rfl)]
        have L4 := L3.but e4 S3
        refine ⟨_, rfl, _, rfl, _, rfl, nm, _, rfl, .inl (SqL.of L4.fnm), rfl, s, 4, _, (by rw [List.length_map, N.len]; rfl), by decide, by decide, S4, by omega, fun r5 H5 hr5 e5 S5 => ?_⟩
        have hr5' : r5 < ns.length := by rw [N.len]; exact hr5
        refine ⟨nm, _, _, .str ns[r5], rfl, rfl, SqL.of (L4.but e5 S4).fnm, atI_nat (by rw [List.getElem?_map, List.getElem?_eq_getElem hr5']; rfl), ?_⟩
        exact hr' _ _ ⟨ns[r5], rfl, List.getElem_mem hr5', e4.trans e5, S5.le (by omega)⟩
      · rw [decide_eq_false (show ¬ V.int (r4 : Nat) = V.int 0 from fun z => by injection z with z; omega)]
        exact hr' _ _ ⟨x3, rfl, hx3, e4, S4.le (by omega)⟩
  · intro r' hr'
    rcases htt with ⟨b, hb, hsh, ht⟩ | ⟨b, hb, hsh, rr, j, hj1, hj2, ht⟩
    · have hB : Ball bs b.name := ⟨b, hb, rfl⟩
      refine ⟨_, rfl, t0, _, 0, _, rfl, rfl, SqT.of ht, rfl, rfl, _, rfl, ?_⟩
      rw [decide_eq_true (show V.str "share" = V.str "share" from rfl)]
      have pl := SS.pl b hb
      have nd := SS.nd b hb
      have ps := SS.sum b hb
      have pn := SS.pn b hb
      obtain ⟨us, hus, fus⟩ := L1.rep.sh_at hB
      obtain ⟨l, hl⟩ : ∃ l, l = st.parts b.name := ⟨_, rfl⟩
      rw [← hl] at pl nd ps fus pn
      refine asg_next ?_
      refine ⟨_, rfl, c .root, _, rfl, L1.rep.l_parts, _, rfl, t0, _, 1, _, rfl, rfl, SqT.of ht, rfl, c .pp, _, rfl, L1.rep.parts_get hB, c (.sh b.name), us, l.map (·.1), rfl, .inl hus, by rw [fus.keys, List.map_map]; rfl, by rw [List.length_map]; omega, fun zs p hz1 hz2 hp => ?_⟩
      have e2 := same_upd (o := .lst (zs.map V.str)) (Same.refl H1) hp
      have g2 : upd H1 p (.lst (zs.map V.str)) p = some (.lst (zs.map V.str)) := upd_same
      generalize upd H1 p (.lst (zs.map V.str)) = H2 at e2 g2
      have hzl : (zs.map V.str).length ≤ 100000 := by
        rw [List.length_map, hz1.length_eq, List.length_map]
        omega
      refine ⟨p, rfl, ⟨_, SqL.of g2⟩, fun D hD => ?_⟩
      refine lc_pure (walk_list (xs := zs.map V.str)) hD (fun i acc => acc = (((zs.take i).filter fun y => decide (0 < pget l y)).map V.str)) rfl hzl (fun H1 e => e.seq (SqL.of g2)) ?_ ?_
      · rintro i y acc H4 H5 hi e4 rfl ⟨rfl, hv⟩ Q1 Q0 q1 q0
        rw [List.getElem?_map] at hv
        cases hzi : zs[i]? with
        | none =>
          rw [hzi] at hv
          cases hv
        | some y0 =>
          rw [hzi] at hv
          cases hv
          have L4 := L1.same (e2.trans e4)
          have hn0 : y0 ∈ l.map (·.1) := hz1.mem_iff.mp (List.mem_of_getElem? hzi)
          obtain ⟨u, hu⟩ : ∃ u, sget l y0 = some u := by
            cases hg : sget l y0 with
            | none => exact absurd hn0 (sget_none.mp hg)
            | some u => exact ⟨u, rfl⟩
          have hpg : pget l y0 = u := by
            unfold pget
            rw [hu]
            rfl
          have hdg := (L4.rep.l_sh hB y0).2
          rw [← hl, hu] at hdg
          refine ⟨rfl, _, rfl, c .root, _, rfl, L4.rep.l_parts, _, rfl, t0, _, 1, _, rfl, rfl, SqT.of ((e2.trans e4) _ _ ht), rfl, c .pp, _, rfl, L4.rep.parts_get hB, _, rfl, c (.sh b.name), _, rfl, hdg, _, _, rfl, rfl, _, rfl, ?_⟩
          by_cases h0 : 0 < u
          · rw [decide_eq_true (by omega)]
            refine ⟨_, rfl, q1 _ _ (Same.refl _) ?_⟩
            rw [filt_snoc _ _ hzi, if_pos (decide_eq_true (by rw [hpg]; exact h0))]
          · rw [decide_eq_false (by omega)]
            refine q0 _ (Same.refl _) ?_
            rw [filt_snoc _ _ hzi, if_neg (by rw [hpg, decide_eq_false h0]; exact Bool.false_ne_true), List.append_nil]
      rintro acc H4 e4 hD4 _ rfl
      rw [List.length_map, List.take_length] at hD4
      have hDs : D ≠ s := src_ne (S1.same e2) hD
      have e24 := e2.trans e4
      have ht4 := e24 _ _ ht
      have S4 := S1.same e24
      have b4 := e1.trans (But.of e24)
      have t0s : t0 ≠ s := by
        obtain ⟨u, hu, hod⟩ := S1.odd
        intro z
        rw [z, hu] at ht
        cases ht
        exact hod
      obtain ⟨fs, hfs⟩ : ∃ fs, fs = zs.filter fun y => decide (0 < pget l y) := ⟨_, rfl⟩
      rw [← hfs] at hD4
      have hfz : ∀ y ∈ fs, y ∈ ns := fun y hy => by
        rw [hfs] at hy
        exact pn y (hz1.mem_iff.mp (List.mem_filter.mp hy).1)
      have hf0 : fs ≠ [] := by
        obtain ⟨y, h1, h2⟩ := psum_pos nd (by rw [ps]; decide)
        have : y ∈ fs := by
          rw [hfs]
          exact List.mem_filter.mpr ⟨hz1.mem_iff.mpr h1, decide_eq_true h2⟩
        exact List.ne_nil_of_mem this
      have hf60 : fs.length ≤ 60 := by
        have h1 : fs.length ≤ zs.length := by rw [hfs]; exact List.length_filter_le _ _
        have h2 := hz1.length_eq
        rw [List.length_map] at h2
        omega
      -- bottom
      refine asg_next ?_
      refine ⟨_, rfl, rfl, s, 12, _, rfl, by decide, by decide, S4, by omega, fun r5 H5 hr5 e5 S5 => ⟨_, _, rfl, rfl, ?_⟩⟩
      have hb1 : 1 ≤ 1 + r5 := by omega
      have hb2 : 1 + r5 ≤ 12 := by omega
      -- far
      refine asg_next ?_
      refine ⟨_, rfl, _, rfl, _, _, rfl, rfl, _, _, rfl, rfl, (by show (4 : Int) ≠ 0 ∧ (4 : Int).natAbs < 1073741824; decide), (by show 2 ≤ sizeLine; decide), fun q6 hq6 => ?_⟩
      have e6 := same_upd (o := .lst [V.int (1 + (r5 : Nat)), V.int ((1 + (r5 : Nat) + 3 : Int).fdiv 4)]) (Same.refl H5) hq6
      have g6 : upd H5 q6 (.lst [V.int (1 + (r5 : Nat)), V.int ((1 + (r5 : Nat) + 3 : Int).fdiv 4)]) q6 = some (.lst [V.int (1 + (r5 : Nat)), V.int ((1 + (r5 : Nat) + 3 : Int).fdiv 4)]) := upd_same
      have q6s := src_ne S5 hq6
      generalize upd H5 q6 (.lst [V.int (1 + (r5 : Nat)), V.int ((1 + (r5 : Nat) + 3 : Int).fdiv 4)]) = H6 at e6 g6
      refine ⟨_, rfl, rfl, s, 2, _, rfl, by decide, by decide, S5.same e6, by omega, fun r7 H7 hr7 e7 S7 => ?_⟩
      obtain ⟨fr, hfr, hf1, hf2⟩ := far_ok hr5 hr7
      refine ⟨q6, _, _, _, rfl, rfl, SqL.of (e7 _ _ q6s g6), atI_nat hfr, ?_⟩
      have b47 := (e5.trans (But.of e6)).trans e7
      have ht7 := b47 _ _ t0s ht4
      refine ⟨_, rfl, t0, _, 1, _, rfl, rfl, SqT.of ht7, rfl, _, rfl, _, rfl, rfl, s, fr, _, rfl, hf1, by omega, S7, by omega, fun r8 H8 hr8 e8 S8 => ⟨_, _, rfl, rfl, _, rfl, ?_⟩⟩
      obtain ⟨u, hu1, hu2, hu3, hu4⟩ := part_units (a := 1 + r8) (b := 1 + r5) (by omega) (by omega) hb2
      intro q dq fq gq nq
      refine mkPartW (K := K) (a := 1 + r8) (b := 1 + r5) (u := u) (by omega) (by omega) hu1 fq gq fun H9 e9 P9 => ⟨rfl, (by show 3 ≤ sizeLine; decide), fun t ht' => ?_⟩
      have e10 := same_upd (o := .tup [V.str "share", .str b.name, .ref q]) (Same.refl H9) ht'
      have b8 := ((b4.trans b47).trans e8).trans (But.of (e9.trans e10))
      have hD10 := (e9.trans e10) _ _ (e8 _ _ hDs (b47 _ _ hDs hD4))
      exact hr' _ _ ⟨t, D, _, _, _, ⟨.share, b.name, u⟩, fs, rfl, ⟨.ref q, upd_same, .inl ⟨rfl, q, rfl, P9.same e10⟩⟩, ⟨⟨(BO.ok b hb).n1, hu2, fun _ => ⟨hu3, hu4⟩⟩, b, hb, rfl, .inl ⟨rfl, hsh⟩⟩, hD10, hDs, hf0, hf60, hfz, b8, (S8.same (e9.trans e10)).le (by omega)⟩
    · obtain ⟨x, hxn, hx⟩ := SS.held b hb rr j hj1 hj2
      refine ⟨_, rfl, t0, _, 0, _, rfl, rfl, SqT.of ht, rfl, rfl, _, rfl, ?_⟩
      rw [decide_eq_false (show ¬ V.str (itS rr) = V.str "share" from by cases rr <;> decide +kernel)]
      refine ⟨_, rfl, c .root, _, rfl, L1.rep.l_held, _, rfl, c .h, _, rfl, L1.rep.held_get (g := .it rr b.name j) ht hx, (by show 1 ≤ sizeLine; decide), fun D hD => ?_⟩
      have e2 := same_upd (o := .lst [V.str x]) (Same.refl H1) hD
      refine hr' _ _ ⟨t0, D, _, _, _, ⟨kdOf rr, b.name, j⟩, [x], rfl, ⟨.int (j : Nat), ?_, .inr ⟨kdOf_ne rr, rfl⟩⟩, ⟨⟨(BO.ok b hb).n1, hj1, fun z => absurd z (kdOf_ne rr)⟩, b, hb, rfl, .inr ⟨kdOf_ne rr, hsh, hj2⟩⟩, upd_same, src_ne S1 hD, List.cons_ne_nil _ _, (by show 1 ≤ 60; decide), fun y hy => ?_, e1.trans (But.of e2), (S1.same e2).le (by omega)⟩
      · show _ = some (HO.tup [V.str (kdOf rr).s, .str b.name, .int (j : Nat)])
        rw [kdOf_s]
        exact e2 _ _ ht
      · rw [List.mem_singleton.mp hy]
        exact hxn
end
end RP
set_option Elab.async false
set_option linter.all false
set_option maxRecDepth 100000
set_option maxHeartbeats 400000
/-! rootpledge k80: the law's rows -/
namespace RP
open PySem PySem.Spec PyProof.Rows L2
theorem nx_seq {r : TS} {D : Ends} {σ : L2.St} {H : Hp} (h : r D σ H) : tSeq Ends.nx r D σ H := h
theorem ThT.bed {bs : List BedR} {H : Hp} {v : V} (h : ThT bs H v) : ∃ t w b z, v = .ref t ∧ b ∈ bs ∧ H t = some (.tup [.str w, .str b.name, z]) := by
  obtain ⟨t, rfl, h⟩ := h
  rcases h with ⟨b, h1, _, h3⟩ | ⟨b, h1, _, r, k, _, _, h3⟩
  · exact ⟨t, _, b, _, rfl, h1, h3⟩
  · exact ⟨t, _, b, _, rfl, h1, h3⟩
/-- no tuple, no instance -/
def Plain1 (o : HO) : Prop := (∀ xs, o ≠ .tup xs) ∧ ∀ C dx fs, o ≠ .ins C dx fs
theorem RowAt.cutK {K : PySem.W.Frag} {H : Hp} {v : V} {l : Ln} {F : Addr → Prop} (h : RowAt K H v l) (hF : ∀ a o, F a → H a = some o → Plain1 o) : RowAt K (cut H F) v l := by
  have ct : ∀ {a xs}, H a = some (.tup xs) → cut H F a = some (.tup xs) := fun {a xs} e => cut_of (fun z => (hF a _ z e).1 _ rfl) e
  have ci : ∀ {a C dx fs}, H a = some (.ins C dx fs) → cut H F a = some (.ins C dx fs) := fun {a C dx fs} e => cut_of (fun z => (hF a _ z e).2 _ _ _ rfl) e
  obtain ⟨t, rfl, h⟩ := h
  refine ⟨t, rfl, ?_⟩
  cases l with
  | spoil n m b => exact ct h
  | prom p =>
    obtain ⟨h1, z, h2, h3⟩ := h
    refine ⟨ct h1, z, ct h2, ?_⟩
    rcases h3 with ⟨e, q, rfl, dx, h4⟩ | h3
    · exact .inl ⟨e, q, rfl, dx, ci h4⟩
    · exact .inr h3
theorem law_plain {B : Str → Prop} {w : Nat} {H : Hp} {c : Lab → Addr} {st : PS} {a : Addr} {o : HO} (R : Rep knLaw B w H c st) (h : foot c B a) (e : H a = some o) : Plain1 o := by
  obtain ⟨l, hl, rfl⟩ := h
  obtain ⟨u, hu, hc⟩ := R.at_ l hl
  rw [e] at hu
  cases hu
  cases l with
  | root =>
    have hc : o = lawRo c := hc
    subst hc
    exact ⟨fun xs z => (by cases z), fun _ _ _ z => (by cases z)⟩
  | h =>
    obtain ⟨kvs, rfl, _⟩ := hc
    exact ⟨fun xs z => (by cases z), fun _ _ _ z => (by cases z)⟩
  | pp =>
    obtain ⟨kvs, rfl, _⟩ := hc
    exact ⟨fun xs z => (by cases z), fun _ _ _ z => (by cases z)⟩
  | sp =>
    obtain ⟨kvs, rfl, _⟩ := hc
    exact ⟨fun xs z => (by cases z), fun _ _ _ z => (by cases z)⟩
  | gd =>
    obtain ⟨kvs, rfl, _⟩ := hc
    exact ⟨fun xs z => (by cases z), fun _ _ _ z => (by cases z)⟩
  | vd =>
    obtain ⟨kvs, rfl, _⟩ := hc
    exact ⟨fun xs z => (by cases z), fun _ _ _ z => (by cases z)⟩
  | gn =>
    have hc : o = .lst (st.gone.map fun n => .int (n : Nat)) := hc
    subst hc
    exact ⟨fun xs z => (by cases z), fun _ _ _ z => (by cases z)⟩
  | sh x =>
    obtain ⟨kvs, rfl, _⟩ := hc
    exact ⟨fun xs z => (by cases z), fun _ _ _ z => (by cases z)⟩
theorem cut_upd_out {H : Hp} {F : Addr → Prop} {R : Addr} {o : HO} (h : ¬ F R) : cut (upd H R o) F = upd (cut H F) R o := by
  funext a
  by_cases e : a = R
  · subst e
    rw [cut_out h, upd_same, upd_same]
  · rw [upd_ne e]
    by_cases f : F a
    · rw [cut_in f, cut_in f]
    · rw [cut_out f, cut_out f, upd_ne e]
theorem sh_ui {G G' : Hp} {kvs : List (Key × V)} {l : List (Str × Nat)} (h : Sh UI G kvs l) : Sh UI G' kvs l := by
  induction h with
  | nil => exact .nil
  | cons h1 _ ih => exact .cons h1 ih
/-- a list that is nobody's keys may change -/
theorem Rep.law_keep {B : Str → Prop} {w : Nat} {H : Hp} {c : Lab → Addr} {st : PS} {R : Addr} {us : List V} {o : HO} (Rp : Rep knLaw B w H c st) (kn : ∀ e ∈ st.good, e.keys ≠ []) (hf : ¬ foot c B R) (hR : H R = some (.lst us)) (hx : ∀ ks, ks ≠ [] → ¬ KeysAt H R ks) : Rep knLaw B w (upd H R o) c st := by
  have tp : ∀ {t xs}, cut H (foot c B) t = some (.tup xs) → upd (cut H (foot c B)) R o t = some (.tup xs) := fun {t xs} e => by
    rw [upd_ne (ne_of (cut_some e).2 hR (by intro z; cases z))]
    exact e
  refine ⟨Rp.inj, fun l a => ?_⟩
  obtain ⟨u, q, z⟩ := Rp.at_ l a
  refine ⟨u, by rw [upd_ne (fun z => hf (by rw [← z]; exact foot_of a))]; exact q, ?_⟩
  rw [cut_upd_out hf]
  cases l with
  | root => exact z
  | h => exact z
  | pp => exact z
  | sp =>
    obtain ⟨vs, h1, h2⟩ := z
    exact ⟨vs, h1, sh_ui h2⟩
  | gd =>
    obtain ⟨vs, h1, h2⟩ := z
    refine ⟨vs, h1, h2.imp fun v x hx2 hv => ?_⟩
    obtain ⟨t, kl, rfl, h3, ws, h4, h5⟩ := hv
    have hkl : kl ≠ R := fun e => by
      subst e
      exact hx _ (kn x hx2) (LAt.same ⟨ws, h4, h5⟩ mo_gk cut_le)
    refine ⟨t, kl, rfl, tp h3, ws, by rw [upd_ne hkl]; exact h4, h5.imp fun v g _ hv => ?_⟩
    obtain ⟨t, rfl, h6⟩ := hv
    exact ⟨t, rfl, tp h6⟩
  | vd =>
    obtain ⟨vs, h1, h2⟩ := z
    refine ⟨vs, h1, h2.imp fun v x _ hv => ?_⟩
    obtain ⟨t, rfl, h6⟩ := hv
    exact ⟨t, rfl, tp h6⟩
  | gn => exact z
  | sh x =>
    obtain ⟨vs, h1, h2⟩ := z
    exact ⟨vs, h1, sh_ui h2⟩
/-- entries have keys -/
def KN (st : PS) : Prop := ∀ e ∈ st.good, e.keys ≠ []
theorem begin_good (bs : List BedR) : (PS.begin bs).good = [] := by
  have h : ∀ (l : List BedR) (st : PS), (l.foldl PS.back st).good = st.good := by
    intro l
    induction l with
    | nil => exact fun st => rfl
    | cons b l ih => exact fun st => ih (st.back b)
  exact h bs PS.zero
theorem KN.prom {st : PS} (h : KN st) (p : Pr) : KN (st.prom p) := by
  have ha : ∀ e ∈ st.app p, e.keys ≠ [] := fun e he => by
    rcases List.mem_append.mp he with he | he
    · exact h e he
    · rw [List.mem_singleton.mp he]
      obtain ⟨r, hr⟩ := keys_head st p
      show st.keys p ≠ []
      rw [hr]
      exact List.cons_ne_nil _ _
  unfold PS.prom
  split
  · unfold PS.go
    split
    · exact ha
    · exact ha
  · exact h
theorem KN.spoil {st : PS} (h : KN st) (n : Nat) (b : BedR) : KN (st.spoil n b) := by
  unfold PS.spoil
  split
  · exact fun e he => h e (List.mem_filter.mp he).1
  · exact h
theorem row_no_keys {K : PySem.W.Frag} {H : Hp} {R : Addr} {us : List V} {rs : List Ln} (hR : H R = some (.lst us)) (f : Fits (RowAt K) H us rs) (ks : List GK) (h0 : ks ≠ []) : ¬ KeysAt H R ks := by
  rintro ⟨vs, hv, fk⟩
  rw [hR] at hv
  cases hv
  cases ks with
  | nil => exact h0 rfl
  | cons g ks =>
    obtain ⟨v, hv, t, rfl, ht⟩ := fk.get (i := 0) (x := g) rfl
    obtain ⟨l, _, hl⟩ := f.get2 hv
    obtain ⟨t', w, xs, e, ht', _⟩ := row_tup hl
    cases e
    rw [ht] at ht'
    cases g with
    | sh b => cases ht'
    | it r b k => cases ht'
theorem cut_2 {a b c : V} {xs : List V} : cutV (a :: b :: c :: xs) none (some 2) = [a, b] := by
  unfold cutV
  rw [HT.sIx_none, show (some (2 : Int)) = some (((2 : Nat) : Int)) from rfl, HT.sIx_nat]
  simp
theorem cut_3 {a b c : V} {xs : List V} : cutV (a :: b :: c :: xs) (some 3) none = xs := by
  unfold cutV
  rw [HT.sIx_none, show (some (3 : Int)) = some (((3 : Nat) : Int)) from rfl, HT.sIx_nat]
  simp
/-- the number of the k-th row -/
def numOf (k : Nat) : Nat := 1 + k * 37 % 101
theorem numOf_eq (k : Nat) : (1 : Int) + ((k : Int) * 37).fmod 101 = (numOf k : Nat) := by
  rw [Int.fmod_eq_emod_of_nonneg _ (by decide)]
  unfold numOf
  omega
theorem nums_nd {n : Nat} (h : n ≤ 24) : ((List.range n).map numOf).Nodup := by
  have h2 : ∀ n ∈ List.range 25, ((List.range n).map numOf).Nodup := by decide +kernel
  exact h2 n (List.mem_range.mpr (by omega))
/-- the line at another moment -/
def Ln.at_ : Ln → Nat → Ln
  | .prom p, m => .prom { p with mom := m }
  | .spoil n _ b, m => .spoil n m b
theorem Ln.at_ok {bs : List BedR} {Nm : Str → Prop} {l : Ln} {m : Nat} (h : LnOk bs Nm l) : LnOk bs Nm (l.at_ m) := by
  cases l with
  | prom p => exact ⟨⟨h.ok.n1, h.ok.s, h.ok.b, h.ok.ne, h.ok.th, h.ok.pr, h.ok.ea, h.ok.go⟩, h.th, h.s, h.b⟩
  | spoil n m b => exact h
theorem Ln.at_num (l : Ln) (m : Nat) : (l.at_ m).num = l.num := by cases l <;> rfl
theorem Ln.at_mom (l : Ln) (m : Nat) : (l.at_ m).mom = m := by cases l <;> rfl
theorem row_at {K : PySem.W.Frag} {H : Hp} {v : V} {l : Ln} (h : RowAt K H v l) : ∃ t w xs, v = .ref t ∧ H t = some (.tup (.str w :: .int (l.num : Nat) :: .int (l.mom : Nat) :: xs)) ∧ xs ≠ [] ∧ xs.length ≤ 7 ∧
    ∀ H' t' (m : Nat), Sm H H' → H' t' = some (.tup (.str w :: .int (l.num : Nat) :: .int (m : Nat) :: xs)) → RowAt K H' (.ref t') (l.at_ m) := by
  obtain ⟨t, rfl, h⟩ := h
  cases l with
  | spoil n m b => exact ⟨t, _, _, rfl, h, List.cons_ne_nil _ _, (by show 1 ≤ 7; decide), fun H' t' m' e h' => ⟨t', rfl, h'⟩⟩
  | prom p => exact ⟨t, _, _, rfl, h.1, List.cons_ne_nil _ _, (by show 7 ≤ 7; decide), fun H' t' m' e h' => ⟨t', rfl, h', h.2.om e⟩⟩
def sp_law_row_of (K : PySem.W.Frag) : Sp := spA 6 fun vs H Q => ∃ (s nm th : Addr) (c : Lab → Addr) (n j ww m : Nat) (ns : List Str) (tvs : List V) (bs : List BedR) (st : PS), vs = [.ref s, .int (j : Nat), .ref nm, .ref th, .ref (c .root), .int 8] ∧ SrcAt H s n ∧ n ≤ 900 ∧ LkAt H s nm th c bs ww st ns tvs ∧
  NsOk ns ∧ tvs ≠ [] ∧ tvs.length ≤ 100 ∧ BedsOk bs ∧ PSok bs (· ∈ ns) m st ∧ m ≤ 50 ∧ j < 24 ∧
  ∀ t l H', H t = none → But s H H' → SrcAt H' s (n + 30) → RowAt K H' (.ref t) l → LnOk bs (· ∈ ns) l → l.num = numOf j → l.mom = 3 * j → Q (.ref t) H'
def sp_law_rows (K : PySem.W.Frag) : Sp := spA 5 fun vs H Q => ∃ (s0 cl nm bd th : Addr) (cs : List Int) (ns : List Str) (tvs : List V) (bs : List BedR), vs = [.ref s0, .ref cl, .ref nm, .ref bd, .ref th] ∧ H cl = some (.lst (cs.map V.int)) ∧ cs.length ≤ 24 ∧ H nm = some (.lst (ns.map V.str)) ∧ NsOk ns ∧
  LAt BedRowAt H bd bs ∧ BedsOk bs ∧ (∀ b ∈ bs, b.owner ∈ ns) ∧ H th = some (.lst tvs) ∧ tvs ≠ [] ∧ tvs.length ≤ 100 ∧ (∀ v ∈ tvs, ThT bs H v) ∧
  ∀ p us rs H', H p = none → Same H H' → H' p = some (.lst us) → Fits (RowAt K) H' us rs → rs.length = cs.length → (∀ l ∈ rs, LnOk bs (· ∈ ns) l) → (∀ l ∈ rs, l.mom < 1000 ∧ l.num < 1000) → (rs.map (·.num)).Nodup → Q (.ref p) H'
/-- rows so far -/
structure RwI (bs : List BedR) (ns : List Str) (i : Nat) (rs : List Ln) : Prop where
  ok : ∀ l ∈ rs, LnOk bs (· ∈ ns) l
  bd : ∀ l ∈ rs, l.mom < 1000 ∧ l.num < 1000
  nm : rs.map (·.num) = (List.range i).map numOf
theorem RwI.len {bs : List BedR} {ns : List Str} {i : Nat} {rs : List Ln} (h : RwI bs ns i rs) : rs.length = i := by
  have := congrArg List.length h.nm
  rw [List.length_map, List.length_map, List.length_range] at this
  exact this
theorem RwI.snoc {bs : List BedR} {ns : List Str} {i : Nat} {rs : List Ln} {l : Ln} (h : RwI bs ns i rs) (h1 : LnOk bs (· ∈ ns) l) (h2 : l.num = numOf i) (h3 : l.mom < 1000) : RwI bs ns (i + 1) (rs ++ [l]) := by
  refine ⟨fun x hx => ?_, fun x hx => ?_, ?_⟩
  · rcases List.mem_append.mp hx with hx | hx
    · exact h.ok x hx
    · rw [List.mem_singleton.mp hx]
      exact h1
  · rcases List.mem_append.mp hx with hx | hx
    · exact h.bd x hx
    · rw [List.mem_singleton.mp hx]
      refine ⟨h3, ?_⟩
      rw [h2]
      unfold numOf
      omega
  · rw [List.map_append, h.nm, List.range_succ, List.map_append, List.map_singleton, List.map_singleton, h2]
section
variable {P : Program} {w : World} {K : PySem.W.Frag} {mg : Str → Option Value} {base : Heap}
theorem ok_law_row_of (T : Txt K mg) : Fx P w K mg base "_law_row_of" 5 [] (sp_law_row_of K) := by
  obtain ⟨fd, F⟩ := T.d_law_row_of
  refine ⟨_, fd, _, [], T.g__law_row_of, F.kp, fn_body F sc_law_row_of rfl (fun cdv A outer s H vs Q E hr h => ?_), F.bindsN (fun _ _ _ _ _ _ us hl => match us, hl with | [_, _, _, _, _, _], _ => rfl), .nil⟩
  have nd := sc_law_row_of.nd
  have hu := hu_of hr
  obtain ⟨s, nm, th, c, n, j, ww, m, ns, tvs, bs, st, rfl, S, hn, L, N, ht0, ht1, BO, SS, hm, hj, k⟩ := h
  refine ⟨_, (pss_cons (ps_set (i := 6) nd rfl (Or.inl rfl) (pe_op op_add pe_int (pe_op op_modN (pe_op op_mul (pv 1) pe_int) pe_int)))
      (pss_cons (ps_set (i := 7) nd rfl (Or.inl rfl) (pe_op op_mul pe_int (pv 1)))
      (pss_cons (ps_if (pt_cmpR op_eq (pe_f (ok_law_next T) (hr.mono (by decide)) (pa_cons (pv 0) (pa_cons (pv 5) pa_nil))) pe_int (nomark _)) (pss_one (ps_ret (pe_tup (pa_cons pe_str (pa_cons (pv 6) (pa_cons (pv 7) (pa_cons (pe_ix ix_tup (pe_ix ix_list (pv 3) (pe_f (ok_law_next T) (hr.mono (by decide)) (pa_cons (pv 0) (pa_cons (pe_callB call_len_seq (by rfl) T.n_len b_len (pa_cons (pv 3) pa_nil)) pa_nil))) (fun _ _ => rfl)) pe_int (fun _ _ => rfl)) pa_nil))))))) pss_nil)
      (pss_one (ps_ret (pe_f (ok_law_likely T) (hr.mono (by decide)) (pa_cons (pv 0) (pa_cons (pv 6) (pa_cons (pv 7) (pa_cons (pv 2) (pa_cons (pv 3) (pa_cons (pv 4) pa_nil)))))))))))), ?_⟩
  have ht2 : 1 ≤ tvs.length := by
    cases tvs with
    | nil => exact absurd rfl ht0
    | cons => exact Nat.succ_le_succ (Nat.zero_le _)
  refine ⟨_, rfl, _, _, rfl, rfl, .inl ⟨by omega, by omega⟩, _, _, rfl, rfl, (by show (101 : Int) ≠ 0; decide), _, _, rfl, rfl, ?_⟩
  show tSeq _ _ _ [some (.ref s), some (.int (j : Nat)), some (.ref nm), some (.ref th), some (.ref (c .root)), some (.int 8), some (.int ((1 : Int) + ((j : Int) * 37).fmod 101)), none] H
  rw [numOf_eq]
  refine ⟨_, rfl, _, _, rfl, rfl, .inl ⟨by omega, by omega⟩, ?_⟩
  show tSeq _ _ _ [some (.ref s), some (.int (j : Nat)), some (.ref nm), some (.ref th), some (.ref (c .root)), some (.int 8), some (.int (numOf j : Nat)), some (.int ((3 * j : Nat) : Int))] H
  refine ⟨_, rfl, _, rfl, rfl, s, 8, _, rfl, by decide, by decide, S, by omega, fun r1 H1 hr1 e1 S1 => ⟨rfl, _, rfl, ?_⟩⟩
  have L1 := L.but e1 S
  by_cases h0 : r1 = 0
  · subst h0
    rw [decide_eq_true (by rfl)]
    refine ⟨_, rfl, _, rfl, _, rfl, _, rfl, _, rfl, th, _, rfl, .inl (SqL.of L1.fth), rfl, s, tvs.length, _, rfl, ht2, by omega, S1, by omega, fun r2 H2 hr2 e2 S2 => ?_⟩
    have L2 := L1.but e2 S1
    obtain ⟨t0, wd, b, z, ht0e, hb, ht⟩ := (L2.tt _ (List.getElem_mem hr2)).bed
    refine ⟨th, _, _, _, rfl, rfl, SqL.of L2.fth, atI_nat (by rw [List.getElem?_eq_getElem hr2, ht0e]), t0, _, 1, _, rfl, rfl, SqT.of ht, rfl, (by show 4 ≤ sizeLine; decide), fun t hf => ?_⟩
    have e3 := same_upd (o := .tup [V.str "spoil", .int (numOf j : Nat), .int ((3 * j : Nat) : Int), .str b.name]) (Same.refl H2) hf
    exact k t (.spoil (numOf j) (3 * j) b.name) _ ((e1.trans e2).free S2 hf) ((e1.trans e2).trans (But.of e3)) ((S2.same e3).le (by omega)) ⟨t, rfl, upd_same⟩ ⟨by unfold numOf; omega, b, hb, rfl⟩ rfl rfl
  · rw [decide_eq_false (show ¬ V.int (r1 : Nat) = V.int 0 from fun z => by injection z with z; omega)]
    refine ⟨_, rfl, _, rfl, _, rfl, _, rfl, _, rfl, _, rfl, rfl, s, nm, th, c, n + 1, numOf j, 3 * j, ww, m, ns, tvs, bs, st, rfl, S1, by omega, L1, N, ht0, ht1, BO, SS, hm, by unfold numOf; omega, fun t p H2 hf e2 S2 hp hi h1 h2 => ?_⟩
    exact k t (.prom p) H2 (e1.free S1 hf) (e1.trans e2) (S2.le (by omega)) ⟨t, rfl, hp⟩ hi h1 h2
theorem ok_law_rows (T : Txt K mg) : Fx P w K mg base "_law_rows" 6 [] (sp_law_rows K) := by
  obtain ⟨fd, F⟩ := T.d_law_rows
  refine ⟨_, fd, _, [], T.g__law_rows, F.kp, fn_body F sc_law_rows rfl (fun cdv A outer s H vs Q E hr h => ?_), F.bindsN (fun _ _ _ _ _ _ us hl => match us, hl with | [_, _, _, _, _], _ => rfl), .nil⟩
  have nd := sc_law_rows.nd
  have hu := hu_of hr
  obtain ⟨s0, cl, nm, bd, th, cs, ns, tvs, bs, rfl, hcl, hcs, hnm, N, LB, BO, hown, hth, ht0, ht1, htt, k⟩ := h
  refine ⟨_, (pss_cons (ps_set (i := 5) nd rfl (Or.inl rfl) (pe_f (ok_law_begin T) (hr.mono (by decide)) (pa_cons (pv 3) pa_nil)))
      (pss_cons (ps_set (i := 6) nd rfl (Or.inl rfl) (pe_lst pa_nil))
      (pss_cons (ps_for PassesOwn.never rfl (pi_enum (by rfl) T.n_enumerate (pa_cons (pv 1) pa_nil)) (pg_tup rfl (pgs_cons (pg_name (i := 7) nd rfl (.inl rfl)) (pgs_cons (pg_name (i := 8) nd rfl (.inl rfl)) pgs_nil)))
      (pss_cons (ps_set (i := 9) nd rfl (Or.inl rfl) (pe_f (ok_law_source T) (hr.mono (by decide)) (pa_cons (pv 8) pa_nil)))
      (pss_cons (ps_set (i := 10) nd rfl (Or.inl rfl) (pe_f (ok_law_row_of T) (hr.mono (by decide)) (pa_cons (pv 9) (pa_cons (pv 7) (pa_cons (pv 2) (pa_cons (pv 4) (pa_cons (pv 5) (pa_cons pe_int pa_nil))))))))
      (pss_cons (ps_if (pt_cmpR op_eq (pe_f (ok_law_next T) (hr.mono (by decide)) (pa_cons (pv 9) (pa_cons pe_int pa_nil))) pe_int (nomark _)) (pss_one (ps_set (i := 10) nd rfl (Or.inl rfl) (pe_op op_catT (pe_op op_catT (pe_slice sl_tup (pv 10) po_none (po_some pe_int)) (pe_tup (pa_cons (pe_op op_mul pe_int (pe_f (ok_law_next T) (hr.mono (by decide)) (pa_cons (pv 9) (pa_cons (pe_op op_add pe_int (pe_callB call_len_seq (by rfl) T.n_len b_len (pa_cons (pv 1) pa_nil))) pa_nil)))) pa_nil))) (pe_slice sl_tup (pv 10) (po_some pe_int) po_none)))) pss_nil)
      (pss_cons (ps_if (pt_cmpR op_eq (pe_ix ix_tup (pv 10) pe_int (fun _ _ => rfl)) pe_str (nomark _)) (pss_one (ps_expr (pe_f (ok_law_spoiled T) (hr.mono (by decide)) (pa_cons (pv 5) (pa_cons (pv 3) (pa_cons (pv 10) pa_nil)))))) (pss_one (ps_expr (pe_f (ok_law_promised T) (hr.mono (by decide)) (pa_cons (pv 5) (pa_cons (pv 10) pa_nil))))))
      (pss_one (ps_expr (pe_bm PySem.F.plainAttrs_list PySem.F.slot_list_append PySem.F.type_list_append mt_append (pv 6) (pa_cons (pv 10) pa_nil)))))))))
      (pss_one (ps_ret (pv 6)))))), ?_⟩
  refine ⟨_, rfl, rfl, bd, bs, rfl, LB, BO, fun c0 H1 C1 R1 => ?_⟩
  refine ⟨by show 0 ≤ sizeLine; decide, fun R hR => ?_⟩
  have e2 := same_upd (o := .lst []) (Same.refl H1) hR
  have g2 : upd H1 R (.lst []) R = some (.lst []) := upd_same
  have hRH : H R = none := by
    cases z : H R with
    | none => rfl
    | some o =>
      rw [C1.kp R o (fun z => z) z] at hR
      cases hR
  have fR := R1.fresh hR
  have C2 : Chg (fun _ => False) (fun a => foot c0 (Ball bs) a ∨ a = R) H (upd H1 R (.lst [])) := by
    refine ⟨fun a o _ h => e2 _ _ (C1.kp a o (fun z => z) h), fun a h => .inr ?_⟩
    rcases h with h | rfl
    · exact (C1.nw a h).elim (fun z => z.elim) fun z => z
    · exact hRH
  have R2 := R1.same e2
  generalize upd H1 R (.lst []) = H2 at e2 g2 C2 R2
  show tSeq _ _ _ [some (.ref s0), some (.ref cl), some (.ref nm), some (.ref bd), some (.ref th), some (.ref (c0 .root)), some (.ref R), none, none, none, none] H2
  refine ⟨_, rfl, cl, cs.map V.int, rfl, SqL.of (C2.kp _ _ (fun z => z) hcl), ?_⟩
  refine for_it walk_enum (fun i σ H' => ∃ c st us rs u7 u8 u9 u10, σ = [some (.ref s0), some (.ref cl), some (.ref nm), some (.ref bd), some (.ref th), some (.ref (c .root)), some (.ref R), u7, u8, u9, u10] ∧ Rep knLaw (Ball bs) (200 + 33 * i) H' c st ∧ PSok bs (· ∈ ns) i st ∧ KN st ∧ (¬ foot c (Ball bs) R) ∧
    H' R = some (.lst us) ∧ Fits (RowAt K) (cut H' fun a => foot c (Ball bs) a ∨ a = R) us rs ∧ RwI bs ns i rs ∧ Chg (fun _ => False) (fun a => foot c (Ball bs) a ∨ a = R) H H')
    ⟨c0, _, [], [], _, _, _, _, rfl, R2, begin_ok BO hown, (fun e h => by rw [begin_good] at h; cases h), fR, g2, Fits.nil, ⟨fun l h => (nomatch h), fun l h => (nomatch h), rfl⟩, C2⟩ (fun i σ H' _ ⟨_, _, _, _, _, _, _, _, _, _, _, _, _, _, _, _, C⟩ => SqL.of (C.kp _ _ (fun z => z) hcl)) ?_ ?_
  · rintro i x σ H3 H4 hi ⟨c, st, us, rs, u7, u8, u9, u10, rfl, R3, S3, N3, fR3, hR3, f3, I3, C3⟩ ⟨tq, x1, x2, rfl, htq, rfl, hx1, hx2⟩
    cases hx1
    have hx2 : (cs.map V.int)[i]? = some x2 := hx2
    rw [List.getElem?_map] at hx2
    rw [List.length_map] at hi
    rw [List.getElem?_eq_getElem hi] at hx2
    cases hx2
    have hi24 : i < 24 := by omega
    generalize cs[i] = z at *
    have e4 := same_upd (o := .tup [V.int (i : Nat), .int z]) (Same.refl H3) htq
    have g4 : upd H3 tq (.tup [V.int (i : Nat), .int z]) tq = some (.tup [V.int (i : Nat), .int z]) := upd_same
    generalize upd H3 tq (.tup [V.int (i : Nat), .int z]) = H4 at e4 g4
    have sH3 : Same H H3 := fun a o h => C3.kp a o (fun z => z) h
    refine ⟨tq, _, rfl, SqT.of g4, rfl, _, _, rfl, _, _, rfl, rfl, ?_⟩
    show tSeq _ _ _ [some (.ref s0), some (.ref cl), some (.ref nm), some (.ref bd), some (.ref th), some (.ref (c .root)), some (.ref R), some (.int (i : Nat)), some (.int z), u9, u10] H4
    refine asg_next ?_
    refine ⟨_, rfl, rfl, z, rfl, fun t H5 ht e5 S5 => ?_⟩
    have e35 := e4.trans e5
    have ht3 := e4.free ht
    have sH5 := sH3.trans e35
    refine asg_next ?_
    refine ⟨_, rfl, _, rfl, _, rfl, _, rfl, _, rfl, rfl, t, nm, th, c, 0, i, 200 + 33 * i, i, ns, tvs, bs, st, rfl, S5, by omega, ⟨sH5 _ _ hnm, sH5 _ _ hth, fun v hv => (htt v hv).same sH5, R3.same e35, ne_of_none (sH3 _ _ hnm) ht3, ne_of_none (sH3 _ _ hth) ht3, R3.fresh ht3⟩, N, ht0, ht1, BO, S3, by omega, hi24, fun tr l H6 htr e6 S6 hrow hok hnum hmom => ?_⟩
    have kt : ∀ {G : Hp}, But t H5 G → Same H3 G := fun {G} e a o h => e a o (ne_of_none h ht3) (e35 a o h)
    have ftr : H3 tr = none := e35.free htr
    refine seq_cut (fun σ H' => ∃ tr l, σ = [some (.ref s0), some (.ref cl), some (.ref nm), some (.ref bd), some (.ref th), some (.ref (c .root)), some (.ref R), some (.int (i : Nat)), some (.int z), some (.ref t), some (.ref tr)] ∧ Same H3 H' ∧ RowAt K H' (.ref tr) l ∧ LnOk bs (· ∈ ns) l ∧ l.num = numOf i ∧ l.mom < 1000) ?_ ?_
    · clear hrow hok hnum hmom e6 S6 htr ftr S5 kt
      rintro σ H7 ⟨tr, l, rfl, e7, hrow, hok, hnum, hmom⟩
      have R7 := R3.same e7
      have C7 := C3.trans (Chg.of e7)
      have hR7 := e7 _ _ hR3
      have LB7 : LAt BedRowAt (cut H7 (foot c (Ball bs))) bd bs := by
        have z0 : Same H (cut H fun _ => False) := fun a o h => cut_of (fun z => z) h
        exact LB.same mo_bedrow (z0.trans (C7.cut.trans (cut_mono fun a h => .inl h)))
      have hrowc := hrow.cutK fun a o h e => law_plain R7 h e
      have hrowF : RowAt K (cut H7 fun a => foot c (Ball bs) a ∨ a = R) (.ref tr) l := hrow.cutK fun a o h e => by
        rcases h with h | rfl
        · exact law_plain R7 h e
        · rw [hR7] at e
          cases e
          exact ⟨fun xs z => (by cases z), fun _ _ _ z => (by cases z)⟩
      refine seq_cut (fun σ H' => ∃ c2 st2, σ = [some (.ref s0), some (.ref cl), some (.ref nm), some (.ref bd), some (.ref th), some (.ref (c2 .root)), some (.ref R), some (.int (i : Nat)), some (.int z), some (.ref t), some (.ref tr)] ∧ Rep knLaw (Ball bs) (200 + 33 * (i + 1)) H' c2 st2 ∧ PSok bs (· ∈ ns) (i + 1) st2 ∧ KN st2 ∧ Chg (foot c (Ball bs)) (foot c2 (Ball bs)) H7 H') ?_ ?_
      · rintro σ H8 ⟨c2, st2, rfl, R8, S8, N8, C8⟩
        have hR8 := C8.kp _ _ fR3 hR7
        have fR8 := C8.off fR3 hR7
        have F38 := (Chg.of (C := fun a => foot c (Ball bs) a ∨ a = R) e7).trans (C8.frame fun a => a = R)
        have f8 := f3.same mo_row F38.cut
        have hul : us.length < sizeLine := by
          rw [f3.1, I3.len]
          exact Nat.lt_of_lt_of_le hi24 (by decide)
        refine ⟨_, rfl, .inl ⟨rfl, _, SqL.of hR8⟩, _, rfl, R, us, _, rfl, rfl, hR8, hul, ?_⟩
        have W9 : Chg (fun a => foot c2 (Ball bs) a ∨ a = R) (fun a => foot c2 (Ball bs) a ∨ a = R) H8 (upd H8 R (.lst (us ++ [.ref tr]))) := Chg.write (.inr rfl)
        refine ⟨c2, st2, us ++ [.ref tr], rs ++ [l], _, _, _, _, rfl, R8.law_keep N8 fR8 hR8 (row_no_keys hR8 (f8.same mo_row cut_le)), S8, N8, fR8, upd_same, (f8.same mo_row W9.cut).snoc (mo_row _ _ _ _ ((C8.frame fun a => a = R).trans W9).cut hrowF), I3.snoc hok hnum hmom, (C3.trans F38).trans W9⟩
      · intro r' hr'
        obtain ⟨t1, e1, hq⟩ := hrowc
        cases e1
        cases l with
        | prom q =>
          refine ⟨_, rfl, tr, _, 0, _, rfl, rfl, SqT.of (cut_le _ _ hq.1), rfl, rfl, _, rfl, ?_⟩
          rw [decide_eq_false (show ¬ V.str "promise" = V.str "spoil" from fun z => absurd z (by decide +kernel))]
          exact ⟨_, rfl, _, rfl, rfl, c, bs, (· ∈ ns), i, _, st, tr, q, rfl, R7, hq, BO, S3, hok, by omega, by omega, fun H8 C8 R8 => hr' _ _ ⟨c, _, rfl, R8.le (by omega), prom_ok BO S3 hok, N3.prom q, C8⟩⟩
        | spoil n m x =>
          obtain ⟨_, b, hbb, rfl⟩ := hok
          refine ⟨_, rfl, tr, _, 0, _, rfl, rfl, SqT.of (cut_le _ _ hq), rfl, rfl, _, rfl, ?_⟩
          rw [decide_eq_true (show V.str "spoil" = V.str "spoil" from rfl)]
          exact ⟨_, rfl, _, rfl, _, rfl, rfl, c, bs, (· ∈ ns), i, _, st, bd, tr, b, n, m, rfl, R7, LB7, hq, hbb, BO, S3, by omega, by omega, fun c2 H8 C8 e8 R8 => hr' _ _ ⟨c2, _, by rw [e8], R8.le (by omega), spoil_ok BO hbb (hown b hbb) S3, N3.spoil n b, C8⟩⟩
    · intro r' hr'
      refine ⟨_, rfl, rfl, t, 3, _, rfl, by decide, by decide, S6, by omega, fun r1 H7 hr1 e7 S7 => ⟨rfl, _, rfl, ?_⟩⟩
      have hrow7 := om_row _ _ _ _ (e7.sm S6) hrow
      by_cases h0 : r1 = 0
      · subst h0
        rw [decide_eq_true (by rfl)]
        obtain ⟨t1, wd, xs, et, hrt, hx0, hx7, hmk⟩ := row_at hrow7
        cases et
        have hcl7 := kt (e6.trans e7) _ _ (sH3 _ _ hcl)
        refine ⟨_, rfl, _, rfl, tr, _, rfl, SqT.of hrt, ?_, fun p1 hp1 => ?_⟩
        · rintro ⟨_, z⟩
          rw [show (some (2 : Int)) = some (((2 : Nat) : Int)) from rfl, HT.sIx_nat] at z
          simp at z
        have p1t := src_ne S7 hp1
        have e8 := same_upd (o := .tup (cutV (.str wd :: .int (l.num : Nat) :: .int (l.mom : Nat) :: xs) none (some 2))) (Same.refl H7) hp1
        have g8 : upd H7 p1 (.tup (cutV (.str wd :: .int (l.num : Nat) :: .int (l.mom : Nat) :: xs) none (some 2))) p1 = some (.tup [V.str wd, .int (l.num : Nat)]) := by rw [upd_same, cut_2]
        generalize upd H7 p1 (.tup (cutV (.str wd :: .int (l.num : Nat) :: .int (l.mom : Nat) :: xs) none (some 2))) = H8 at e8 g8
        refine ⟨_, rfl, _, rfl, cl, _, rfl, .inl (SqL.of (e8 _ _ hcl7)), _, _, rfl, rfl, rfl, t, 1 + (cs.map V.int).length, _, rfl, by omega, by rw [List.length_map]; omega, S7.same e8, by omega, fun r2 H9 hr2 e9 S9 => ⟨_, _, rfl, rfl, .inl ⟨by omega, by omega⟩, (by show 1 ≤ sizeLine; decide), fun p2 hp2 => ?_⟩⟩
        rw [List.length_map] at hr2
        have trt : tr ≠ t := fun z => by
          obtain ⟨u, hu, hod⟩ := S7.odd
          rw [← z, hrt] at hu
          cases hu
          exact hod
        have e10 := same_upd (o := .tup [V.int (3 * (r2 : Nat))]) (Same.refl H9) hp2
        have g10 : upd H9 p2 (.tup [V.int (3 * (r2 : Nat))]) p2 = some (.tup [V.int (3 * (r2 : Nat))]) := upd_same
        generalize upd H9 p2 (.tup [V.int (3 * (r2 : Nat))]) = H10 at e10 g10
        refine ⟨p1, p2, _, _, rfl, rfl, SqT.of (e10 _ _ (e9 _ _ p1t g8)), SqT.of g10, List.cons_ne_nil _ _, (by show 2 + 1 ≤ sizeLine; decide), fun z => (nomatch z), fun _ p3 hp3 => ?_⟩
        have e11 := same_upd (o := .tup ([V.str wd, .int (l.num : Nat)] ++ [V.int (3 * (r2 : Nat))])) (Same.refl H10) hp3
        have g11 : upd H10 p3 (.tup ([V.str wd, .int (l.num : Nat)] ++ [V.int (3 * (r2 : Nat))])) p3 = some (.tup [V.str wd, .int (l.num : Nat), V.int (3 * (r2 : Nat))]) := upd_same
        generalize upd H10 p3 (.tup ([V.str wd, .int (l.num : Nat)] ++ [V.int (3 * (r2 : Nat))])) = H11 at e11 g11
        have e911 := e10.trans e11
        have hrt11 := e911 _ _ (e9 _ _ trt (e8 _ _ hrt))
        refine ⟨_, rfl, _, rfl, tr, _, rfl, SqT.of hrt11, ?_, fun p4 hp4 => ?_⟩
        · rintro ⟨z, _⟩
          rw [show (some (3 : Int)) = some (((3 : Nat) : Int)) from rfl, HT.sIx_nat] at z
          simp at z
        have e12 := same_upd (o := .tup (cutV (.str wd :: .int (l.num : Nat) :: .int (l.mom : Nat) :: xs) (some 3) none)) (Same.refl H11) hp4
        have g12 : upd H11 p4 (.tup (cutV (.str wd :: .int (l.num : Nat) :: .int (l.mom : Nat) :: xs) (some 3) none)) p4 = some (.tup xs) := by rw [upd_same, cut_3]
        generalize upd H11 p4 (.tup (cutV (.str wd :: .int (l.num : Nat) :: .int (l.mom : Nat) :: xs) (some 3) none)) = H12 at e12 g12
        refine ⟨p3, p4, _, _, rfl, rfl, SqT.of (e12 _ _ g11), SqT.of g12, List.cons_ne_nil _ _, Nat.le_trans (show 3 + xs.length ≤ 10 by omega) (by decide), fun z => absurd z hx0, fun _ p5 hp5 => ?_⟩
        have e13 := same_upd (o := .tup ([V.str wd, .int (l.num : Nat), V.int (3 * (r2 : Nat))] ++ xs)) (Same.refl H12) hp5
        have e9x := e911.trans (e12.trans e13)
        have b713 := ((But.of e8).trans e9).trans (But.of e9x)
        have sm := ((Sm.of e8).trans (e9.sm (S7.same e8))).trans (Sm.of e9x)
        exact hr' _ _ ⟨p5, l.at_ (3 * r2), rfl, kt ((e6.trans e7).trans b713), hmk _ p5 (3 * r2) sm upd_same, l.at_ok hok, (l.at_num _).trans hnum, by rw [l.at_mom]; omega⟩
      · rw [decide_eq_false (show ¬ V.int (r1 : Nat) = V.int 0 from fun z => by injection z with z; omega)]
        exact hr' _ _ ⟨tr, l, rfl, kt (e6.trans e7), hrow7, hok, hnum, by omega⟩
  · rintro σ H' ⟨c, st, us, rs, u7, u8, u9, u10, rfl, R3, S3, N3, fR3, hR3, f3, I3, C3⟩
    rw [List.length_map] at I3
    exact ⟨_, rfl, k R us rs H' hRH (fun a o h => C3.kp a o (fun z => z) h) hR3 (f3.same mo_row cut_le) I3.len I3.ok I3.bd (by rw [I3.nm]; exact nums_nd hcs)⟩
end
end RP
set_option Elab.async false
set_option linter.all false
set_option maxRecDepth 100000
set_option maxHeartbeats 400000
/-! rootpledge k80: the law's look whether a ledger tells what is due -/
namespace RP
open PySem PySem.Spec PyProof.Rows L2
/-! ### data of what is told -/
def vdDat : Vd → PyData
  | .spoiled n => .int (n : Nat)
  | .never => .none
  | .clash n => .int (n : Nat)
def vdD (x : Nat × Vd) : PyData := .tuple [.int (x.1 : Nat), .str (vdS x.2), vdDat x.2]
section
variable {K : PySem.W.Frag} {H : Hp}
theorem vd_dp {v : V} {x : Nat × Vd} (h : VdAt H v x) : Dp K H v (vdD x) := by
  obtain ⟨t, rfl, ht⟩ := h
  refine .tup (SqT.of ht) (.cons (.int _) (.cons (.str _) (.cons ?_ .nil)))
  cases x.2
  · exact .int _
  · exact .non
  · exact .int _
theorem vds_shaped (xs : List (Nat × Vd)) : SeqAt.shaped (.list (xs.map vdD)) = true := shaped_list fun d hd => by
  obtain ⟨⟨n, v⟩, _, rfl⟩ := List.mem_map.mp hd
  cases v <;> simp [vdD, vdDat, vdS, PyData.canLay0, PyData.canLayAll0, PyData.depth, PyData.depthAll] <;> decide +kernel
theorem strs_dp {a : Addr} {zs : List Str} (h : SqL K H a (zs.map V.str)) : Dp K H (.ref a) (.list (zs.map PyData.str)) := by
  refine .lst h ?_
  clear h
  induction zs with
  | nil => exact .nil
  | cons z zs ih => exact .cons (.str _) ih
theorem strs_shaped {zs : List Str} (h : ∀ x ∈ zs, NameOk x) : SeqAt.shaped (.list (zs.map PyData.str)) = true := shaped_list fun d hd => by
  obtain ⟨n, hn, rfl⟩ := List.mem_map.mp hd
  refine ⟨?_, by simp [PyData.depth]⟩
  simp only [PyData.canLay0]
  exact name_str (h n hn)
end
theorem eqv_self {d : PyData} (h : SeqAt.shaped d = true) : PyData.eqv d d = true := SeqAt.eqv_refl d (SeqAt.canLay_of_shaped h)
/-! ### sorted names are so in one way -/
def strLe (a b : Str) : Prop := ¬ b.cps.toList < a.cps.toList
theorem rising_pair : ∀ {l : List Str} {p : Str}, risingS p l = true → (p :: l).Pairwise strLe
  | [], p, _ => List.pairwise_singleton _ _
  | x :: r, p, h => by
    have h2 : (!ltCps x.cps.toList p.cps.toList && risingS x r) = true := h
    rw [Bool.and_eq_true, ltCps_eq] at h2
    have hx : strLe p x := by
      have := h2.1
      rw [Bool.not_eq_true'] at this
      exact of_decide_eq_false this
    have ih := rising_pair h2.2
    refine List.pairwise_cons.mpr ⟨fun y hy => ?_, ih⟩
    rcases List.mem_cons.mp hy with rfl | hy
    · exact hx
    · have h3 := (List.pairwise_cons.mp ih).1 y hy
      exact List.not_lt.mpr (List.le_trans (List.not_lt.mp hx) (List.not_lt.mp h3))
theorem sorted_pair {l : List Str} (h : sortedS l = true) : l.Pairwise strLe := by
  cases l with
  | nil => exact .nil
  | cons x r => exact rising_pair h
theorem sorted_one {l m : List Str} (p : l.Perm m) (h1 : sortedS l = true) (h2 : sortedS m = true) : l = m := by
  refine List.Perm.eq_of_pairwise (le := strLe) (fun x y _ _ a b => ?_) (sorted_pair h1) (sorted_pair h2) p
  have e : x.cps.toList = y.cps.toList := List.le_antisymm (List.not_lt.mp a) (List.not_lt.mp b)
  cases x
  cases y
  exact congrArg Str.mk (Array.toList_inj.mp e)
/-! ### what stands while one looks -/
structure Al (K : PySem.W.Frag) (H : Hp) (F : Addr → Prop) (x f : Addr) (bs : List BedR) (Nm : Str → Prop) (ls ys : List Ln) (c : Lab → Addr) (w : Nat) (bd : Addr) : Prop where
  ask : Ask K H F x f bs Nm ls
  rep : Rep knLaw (Ball bs) w (cut H F) c (led bs ys)
  beds : LAt BedRowAt (cut H F) bd bs
  tm : InTime ls ys
section
variable {K : PySem.W.Frag} {H H' : Hp} {F F' : Addr → Prop} {x f : Addr} {bs : List BedR} {Nm : Str → Prop} {ls ys : List Ln} {c : Lab → Addr} {w : Nat} {bd : Addr}
theorem Al.same (A : Al K H F x f bs Nm ls ys c w bd) (e : Same H H') : Al K H' F x f bs Nm ls ys c w bd :=
  ⟨⟨A.ask.la.same e, A.ask.own, A.ask.ok⟩, A.rep.same (Chg.of e).cut, A.beds.same mo_bedrow (Chg.of e).cut, A.tm⟩
theorem Al.step (A : Al K H F x f bs Nm ls ys c w bd) {c' : Lab → Addr} {dxs : Addr} {ys' : List Ln} (o : StOut K H F x f bs ls H' F' c' dxs ys') : Al K H' F' x f bs Nm ls ys c w bd ∧ ys' = ys :=
  ⟨⟨⟨o.la, A.ask.own, A.ask.ok⟩, A.rep.same o.chg.cut, A.beds.same mo_bedrow o.chg.cut, A.tm⟩, InTime.unique A.ask.la.nd (List.Perm.refl _) o.tm A.tm⟩
theorem Al.obj (A : Al K H F x f bs Nm ls ys c w bd) : ∃ dx kn cm, H x = some (.ins (cLedger K) dx (ledFs f kn cm)) := by
  obtain ⟨dx, kn, cm, hx, _⟩ := A.ask.la.ex
  exact ⟨dx, kn, cm, hx⟩
theorem LedAt.dom (L : LedAt K H F x f bs ls) {a : Addr} (h : F a) : ∃ o, H a = some o := by
  obtain ⟨dx, kn, cm, hx, ⟨kvs, hk, _⟩, z⟩ := L.ex
  rcases z with ⟨_, rfl⟩ | ⟨c, dxs, ys, _, rfl, _, R, _, _⟩
  · rcases h with rfl | rfl
    · exact ⟨_, hx⟩
    · exact ⟨_, hk⟩
  · rcases h with rfl | rfl | h
    · exact ⟨_, hx⟩
    · exact ⟨_, hk⟩
    · exact R.dom h
theorem LedAt.new (L : LedAt K H F x f bs ls) {a : Addr} (e : Same H H') (h : H' a = none) : ¬ F a := fun z => by
  obtain ⟨o, ho⟩ := L.dom z
  rw [e _ _ ho] at h
  cases h
theorem Al.psok (A : Al K H F x f bs Nm ls ys c w bd) : PSok bs Nm ls.length (led bs ys) := led_psok A.ask.la.fl.ok A.ask.own A.ask.ok A.tm
end
def sp_law_alike (K : PySem.W.Frag) : Sp := spA 3 fun vs H Q => ∃ F x f bs Nm ls ys c w bd, vs = [.ref x, .ref (c .root), .ref bd] ∧ Al K H F x f bs Nm ls ys c w bd ∧ ∀ F' H', Chg F F' H H' → Al K H' F' x f bs Nm ls ys c w bd → Q (.bl true) H'
section
variable {P : Program} {w : World} {K : PySem.W.Frag} {mg : Str → Option Value} {base : Heap}
theorem ok_law_alike (T : Txt K mg) : Fx P w K mg base "_law_alike" 9 [] (sp_law_alike K) := by
  obtain ⟨fd, F⟩ := T.d_law_alike
  refine ⟨_, fd, _, [], T.g__law_alike, F.kp, fn_body F sc_law_alike rfl (fun cdv A outer s H vs Q E hr h => ?_), F.bindsN (fun _ _ _ _ _ _ us hl => match us, hl with | [_, _, _], _ => rfl), .nil⟩
  have nd := sc_law_alike.nd
  have hu := hu_of hr
  obtain ⟨F, x, f, bs, Nm, ls, ys, c, ww, bd, rfl, A, k⟩ := h
  refine ⟨_, (pss_cons (ps_if (PW.pt (pw_or (pt_cmpR (op_neD hr.units) (pe_m0 (ok_Ledger_voids T) (hr.mono (by decide)) (pv 0)) (pe_dget hu (pv 1) pe_str (fun _ _ => rfl)) (nomark _)) (pw_or1 (pt_cmpR (op_neD hr.units) (pe_m0 (ok_Ledger_undone T) (hr.mono (by decide)) (pv 0)) (pe_dget hu (pv 1) pe_str (fun _ _ => rfl)) (nomark _))))) (pss_one (ps_ret pe_bl)) pss_nil)
      (pss_cons (ps_if (PW.pt (pw_or (pt_cmpR (op_neD hr.units) (pe_m0 (ok_Ledger_hold T) (hr.mono (by decide)) (pv 0)) (pe_lc (own := [("_law_entry", 3)])  rfl nd (pi_list (pe_dget hu (pv 1) pe_str (fun _ _ => rfl))) (blkOk_by (own := [("_law_entry", 3)]) (N := ["_law_ledger", "_law_state", "_law_beds", "_law_entry", "_law_row", "_law_shares", "_law_due", "_law_name", "_law_places", "_law_k", "_law_thing"]) (sc := defScope s_law_alike) (by decide +kernel)) (fun _ _ _ _ _ => (pg_name (i := 3) nd rfl (.inl rfl))) (fun _ _ _ _ _ => pts_nil) (fun _ _ _ _ _ => (pe_ix (ix_tupK (K := K) rfl) (pv 3) pe_int (fun _ _ => rfl)))) (nomark _)) (pw_or1 (pt_cmpR (op_neD hr.units) (pe_m0 (ok_Ledger_spoiled T) (hr.mono (by decide)) (pv 0)) (pe_callB (call_sortedD rfl) (by rfl) T.n_sorted b_sorted (pa_cons (pe_dget hu (pv 1) pe_str (fun _ _ => rfl)) pa_nil)) (nomark _))))) (pss_one (ps_ret pe_bl)) pss_nil)
      (pss_cons (ps_for PassesOwn.never rfl (pi_list (pv 2)) (pg_name (i := 4) nd rfl (.inl rfl))
      (pss_cons (ps_if (pt_cmpR op_eq (pe_ix ix_tup (pv 4) pe_int (fun _ _ => rfl)) pe_str (nomark _)) (pss_cons (ps_set (i := 5) nd rfl (Or.inr rfl) (pe_dget hu (pe_dget hu (pv 1) pe_str (fun _ _ => rfl)) (pe_ix ix_tup (pv 4) pe_int (fun _ _ => rfl)) (fun _ _ => rfl)))
      (pss_cons (ps_setLc (own := [("_law_name", 7)]) (i := 6) rfl nd rfl rfl (sw_true rfl rfl rfl (by decide +kernel)) (pi_list (pe_callB (call_sortedD rfl) (by rfl) T.n_sorted b_sorted (pa_cons (pv 5) pa_nil))) (blkOk_by (own := [("_law_name", 7)]) (N := ["_law_ledger", "_law_state", "_law_beds", "_law_entry", "_law_row", "_law_shares", "_law_due", "_law_name", "_law_places", "_law_k", "_law_thing"]) (sc := defScope s_law_alike) (by decide +kernel)) (fun _ _ _ _ _ => (pg_name (i := 7) nd rfl (.inl rfl))) (fun _ _ _ _ _ => (pts_one (pt_cmpR op_gt (pe_dget hu (pv 5) (pv 7) (fun _ _ => rfl)) pe_int (nomark _)))) (fun _ _ _ _ _ => (pe_tup (pa_cons (pv 7) (pa_cons (pe_n (ok_Part_init T) (hr.mono (by decide)) (pa_cons (pe_dget hu (pv 5) (pv 7) (fun _ _ => rfl)) (pa_cons pe_int pa_nil))) pa_nil)))))
      (pss_one (ps_if (pt_cmpR (op_neDue T hr) (pe_m (ok_Ledger_holders T) (hr.mono (by decide)) (pv 0) (pa_cons (pe_ix ix_tup (pv 4) pe_int (fun _ _ => rfl)) pa_nil)) (pv 6) (nomark _)) (pss_one (ps_ret pe_bl)) pss_nil)))) pss_nil)
      (pss_cons (ps_set (i := 8) nd rfl (Or.inl rfl) (pe_sortedSet3 T.n_sorted T.n_set (pe_lst (pa_cons pe_int (pa_cons (pe_callB (call_max2 rfl) (by rfl) T.n_max b_max (pa_cons pe_int (pa_cons (pe_op op_sub (pe_ix ix_tup (pv 4) pe_int (fun _ _ => rfl)) pe_int) pa_nil))) (pa_cons (pe_ix ix_tup (pv 4) pe_int (fun _ _ => rfl)) pa_nil))))))
      (pss_one (ps_for PassesOwn.never rfl (pi_list (pe_slice sl_list (pv 8) po_none (po_some (pe_op op_mul pe_int (pe_callTy call_int1 (by rfl) T.n_int b_int (pa_cons (pe_cmpR op_eq (pe_ix ix_tup (pv 4) pe_int (fun _ _ => rfl)) pe_str (nomark _)) pa_nil)))))) (pg_name (i := 9) nd rfl (.inl rfl))
      (pss_one (ps_for PassesOwn.never rfl (pi_list (pe_lst (pa_cons (pe_tup (pa_cons pe_str (pa_cons (pe_ix ix_tup (pv 4) pe_int (fun _ _ => rfl)) (pa_cons (pv 9) pa_nil)))) (pa_cons (pe_tup (pa_cons pe_str (pa_cons (pe_ix ix_tup (pv 4) pe_int (fun _ _ => rfl)) (pa_cons (pv 9) pa_nil)))) pa_nil)))) (pg_name (i := 10) nd rfl (.inr rfl))
      (pss_cons (ps_setLc (own := [("_law_entry", 3)]) (i := 6) rfl nd rfl rfl (sw_true rfl rfl rfl (by decide +kernel)) (pi_list (pe_dget hu (pv 1) pe_str (fun _ _ => rfl))) (blkOk_by (own := [("_law_entry", 3)]) (N := ["_law_ledger", "_law_state", "_law_beds", "_law_entry", "_law_row", "_law_shares", "_law_due", "_law_name", "_law_places", "_law_k", "_law_thing"]) (sc := defScope s_law_alike) (by decide +kernel)) (fun _ _ _ _ _ => (pg_name (i := 3) nd rfl (.inl rfl))) (fun _ _ _ _ _ => (pts_one (pt_cmpR (op_inDK (K := K) rfl (hr65 hr)) (pv 10) (pe_ix (ix_tupK (K := K) rfl) (pv 3) pe_int (fun _ _ => rfl)) rfl))) (fun _ _ _ _ _ => (pe_ix (ix_tupK (K := K) rfl) (pv 3) pe_int (fun _ _ => rfl))))
      (pss_one (ps_if (PW.pt (pw_or (pt_cmpR op_ne (pe_m (ok_Ledger_holder T) (hr.mono (by decide)) (pv 0) (pa_cons (pv 10) pa_nil)) (pe_dget hu (pe_dget hu (pv 1) pe_str (fun _ _ => rfl)) (pv 10) (fun _ _ => rfl)) (nomark _)) (pw_or1 (pt_cmpR (op_neD hr.units) (pe_m (ok_Ledger_row T) (hr.mono (by decide)) (pv 0) (pa_cons (pv 10) pa_nil)) (pv 6) (nomark _))))) (pss_one (ps_ret pe_bl)) pss_nil))))))))))
      (pss_one (ps_ret pe_bl))))), ?_⟩
  obtain ⟨dx, kn, cm, hx⟩ := A.obj
  -- voids
  refine seq_cut (fun σ H' => ∃ F', σ = [some (.ref x), some (.ref (c .root)), some (.ref bd), none, none, none, none, none, none, none, none] ∧ Al K H' F' x f bs Nm ls ys c ww bd ∧ Chg F F' H H') ?_ ?_
  · rintro σ H1 ⟨F1, rfl, A1, C1⟩
    clear hx A
    have S := A1.psok
    have hll := A1.ask.la.len
    have hgl : (led bs ys).good.length ≤ 100000 := Nat.le_trans (Nat.le_trans (Nat.le_add_right _ _) S.gl) (Nat.le_trans hll (by decide))
    -- hold, spoiled
    refine seq_cut (fun σ H' => ∃ F', σ = [some (.ref x), some (.ref (c .root)), some (.ref bd), none, none, none, none, none, none, none, none] ∧ Al K H' F' x f bs Nm ls ys c ww bd ∧ Chg F F' H H') ?_ ?_
    · rintro σ H2 ⟨F2, rfl, A2, C2⟩
      clear A1 C1
      obtain ⟨bvs, hbv, fbv⟩ := A2.beds
      refine ⟨_, rfl, bd, rfl, ⟨bvs, SqL.of (cut_le _ _ hbv)⟩, ?_⟩
      refine for_list (K := K) (xs := bvs) (fun i σ H' => ∃ F' u4 u5 u6 u8 u9 u10, σ = [some (.ref x), some (.ref (c .root)), some (.ref bd), none, u4, u5, u6, none, u8, u9, u10] ∧ Al K H' F' x f bs Nm ls ys c ww bd ∧ Chg F F' H H' ∧ cut H' F' bd = some (.lst bvs)) ⟨F2, _, _, _, _, _, _, rfl, A2, C2, hbv⟩
        (fun i σ H' _ ⟨_, _, _, _, _, _, _, _, _, _, q⟩ => SqL.of (cut_le _ _ q)) ?_ ?_
      · rintro i v σ H3 hv ⟨F3, u4, u5, u6, u8, u9, u10, rfl, A3, C3, hb3⟩
        obtain ⟨bvs', hb', fb'⟩ := A3.beds
        rw [hb3] at hb'
        cases hb'
        obtain ⟨b, hb, t, rfl, ht⟩ := fb'.get2 hv
        have hbb := List.mem_of_getElem? hb
        have BO := A3.ask.la.fl.ok
        have r1 := (BO.ok b hbb).r1
        clear fb' hbv fbv A2 C2
        show tSeq (tIfS _ _ _) _ _ [some (.ref x), some (.ref (c .root)), some (.ref bd), none, some (.ref t), u5, u6, none, u8, u9, u10] H3
        refine seq_cut (fun σ H' => ∃ F' u5 u6, σ = [some (.ref x), some (.ref (c .root)), some (.ref bd), none, some (.ref t), u5, u6, none, u8, u9, u10] ∧ Al K H' F' x f bs Nm ls ys c ww bd ∧ Chg F F' H H' ∧ cut H' F' bd = some (.lst bvs) ∧ cut H' F' t = some (.tup (bedVs b))) ?_ ?_
        · rintro σ H4 ⟨F4, u5, u6, rfl, A4, C4, hb4, ht4⟩
          clear A3 C3 hb3 ht
          -- places
          have htt := cut_le _ _ ht4
          refine asg_next ?_
          refine ⟨_, rfl, t, _, 3, _, rfl, rfl, SqT.of htt, rfl, _, _, rfl, rfl, _, _, rfl, _, rfl, t, _, 3, _, rfl, rfl, SqT.of htt, rfl, (by show 3 ≤ sizeLine; decide), fun l5 hl5 => ?_⟩
          obtain ⟨m, hm, hm1, hm2⟩ : ∃ m : Int, (if (b.roots : Int) - 1 > 1 then (b.roots : Int) - 1 else 1) = m ∧ 1 ≤ m ∧ m ≤ (b.roots : Int) := by
            refine ⟨_, rfl, ?_⟩
            split <;> omega
          rw [hm]
          have e5 := same_upd (o := .lst [V.int 1, V.int m, V.int (b.roots : Nat)]) (Same.refl H4) hl5
          have g5 : upd H4 l5 (.lst [V.int 1, V.int m, V.int (b.roots : Nat)]) l5 = some (.lst [V.int 1, V.int m, V.int (b.roots : Nat)]) := upd_same
          generalize upd H4 l5 (.lst [V.int 1, V.int m, V.int (b.roots : Nat)]) = H5 at e5 g5
          refine ⟨l5, [1, m, (b.roots : Nat)], rfl, SqL.of g5, (by show 3 < 64; decide), fun zs p hzp hzm hzl hp => ?_⟩
          have hzb : ∀ k ∈ zs, 1 ≤ k ∧ k ≤ (b.roots : Int) := fun k hk => by
            have h := (hzm k).mp hk
            rcases List.mem_cons.mp h with rfl | h
            · exact ⟨Int.le_refl _, by omega⟩
            · rcases List.mem_cons.mp h with rfl | h
              · exact ⟨hm1, hm2⟩
              · rw [List.mem_singleton.mp h]
                exact ⟨by omega, Int.le_refl _⟩
          have e6 := same_upd (o := .lst (zs.map V.int)) (Same.refl H5) hp
          have g6 : upd H5 p (.lst (zs.map V.int)) p = some (.lst (zs.map V.int)) := upd_same
          generalize upd H5 p (.lst (zs.map V.int)) = H6 at e6 g6
          have e46 := e5.trans e6
          refine ⟨_, rfl, _, rfl, t, _, 6, _, rfl, rfl, SqT.of (e46 _ _ htt), rfl, rfl, .inr ⟨_, rfl, _, _, rfl, rfl, .inl ⟨by decide, by decide⟩, _, rfl, p, _, rfl, SqL.of g6, fun p2 hp2 => ?_⟩⟩
          obtain ⟨ks, hks, hkb⟩ : ∃ ks : List Int, cutV (zs.map V.int) none (some (3 * (if decide (V.str b.kind = V.str "roots") = true then 1 else 0))) = ks.map V.int ∧ ∀ k ∈ ks, 1 ≤ k ∧ k ≤ (b.roots : Int) ∧ b.shares = false := by
            rw [(kind_eq b).2]
            cases hs : b.shares with
            | true => exact ⟨[], by unfold cutV; rw [HT.sIx_none, show (some (3 * (if (!true) = true then (1 : Int) else 0))) = some (((0 : Nat) : Int)) from rfl, HT.sIx_nat]; simp, fun k h => nomatch h⟩
            | false =>
              refine ⟨zs, ?_, fun k hk => ⟨(hzb k hk).1, (hzb k hk).2, rfl⟩⟩
              have hz3 : zs.length ≤ 3 := hzl
              unfold cutV
              rw [HT.sIx_none, show (some (3 * (if (!false) = true then (1 : Int) else 0))) = some (((3 : Nat) : Int)) from rfl, HT.sIx_nat, List.length_map, List.drop_zero]
              exact List.take_of_length_le (by rw [List.length_map]; omega)
          have e7 := same_upd (o := .lst (cutV (zs.map V.int) none (some (3 * (if decide (V.str b.kind = V.str "roots") = true then 1 else 0))))) (Same.refl H6) hp2
          have g7 : upd H6 p2 (.lst (cutV (zs.map V.int) none (some (3 * (if decide (V.str b.kind = V.str "roots") = true then 1 else 0))))) p2 = some (.lst (ks.map V.int)) := by rw [upd_same, hks]
          generalize upd H6 p2 (.lst (cutV (zs.map V.int) none (some (3 * (if decide (V.str b.kind = V.str "roots") = true then 1 else 0))))) = H7 at e7 g7
          have e47 := e46.trans e7
          have A7 := A4.same e47
          have C7 := C4.trans (Chg.of e47)
          have c47 := (Chg.of (C := F4) e47).cut
          have hp2F : ¬ F4 p2 := A4.ask.la.new e46 hp2
          refine ⟨p2, rfl, ⟨_, SqL.of g7⟩, ?_⟩
          refine for_list (K := K) (xs := ks.map V.int) (fun _ σ H' => ∃ F' u6 u9 u10, σ = [some (.ref x), some (.ref (c .root)), some (.ref bd), none, some (.ref t), u5, u6, none, some (.ref p), u9, u10] ∧ Al K H' F' x f bs Nm ls ys c ww bd ∧ Chg F F' H H' ∧ cut H' F' bd = some (.lst bvs) ∧ cut H' F' t = some (.tup (bedVs b)) ∧ cut H' F' p2 = some (.lst (ks.map V.int)))
            ⟨F4, _, _, _, rfl, A7, C7, c47 _ _ hb4, c47 _ _ ht4, cut_of hp2F g7⟩ (fun i σ H' _ ⟨_, _, _, _, _, _, _, _, _, q⟩ => SqL.of (cut_le _ _ q)) ?_ ?_
          · clear A7 C7 c47 g7 e47 e7 hp2F hp2 e46 g6 e6 hp g5 e5 hl5 A4 C4 hb4 ht4 htt
            rintro j v σ H8 hv8 ⟨F8, u6, u9, u10, rfl, A8, C8, hb8, ht8, hp8⟩
            rw [List.getElem?_map] at hv8
            cases hkj : ks[j]? with
            | none =>
              rw [hkj] at hv8
              cases hv8
            | some kI =>
              rw [hkj] at hv8
              cases hv8
              obtain ⟨hk1, hk2, hsh⟩ := hkb kI (List.mem_of_getElem? hkj)
              obtain ⟨kn, rfl⟩ : ∃ kn : Nat, kI = (kn : Nat) := ⟨kI.toNat, by omega⟩
              have htt := cut_le _ _ ht8
              -- things
              refine ⟨_, rfl, t, _, 0, _, rfl, rfl, SqT.of htt, rfl, _, rfl, (by show 3 ≤ sizeLine; decide), fun t1 ht1 => ?_⟩
              have e9 := same_upd (o := .tup [V.str "root", .str b.name, .int (kn : Nat)]) (Same.refl H8) ht1
              have g9 : upd H8 t1 (.tup [V.str "root", .str b.name, .int (kn : Nat)]) t1 = some (.tup [V.str (itS true), .str b.name, .int (kn : Nat)]) := upd_same
              generalize upd H8 t1 (.tup [V.str "root", .str b.name, .int (kn : Nat)]) = H9 at e9 g9
              refine ⟨_, rfl, t, _, 0, _, rfl, rfl, SqT.of (e9 _ _ htt), rfl, _, rfl, (by show 3 ≤ sizeLine; decide), fun t2 ht2 => ⟨(by show 2 ≤ sizeLine; decide), fun p3 hp3 => ?_⟩⟩
              have e10 := same_upd (o := .tup [V.str "offsets", .str b.name, .int (kn : Nat)]) (Same.refl H9) ht2
              have g10 : upd H9 t2 (.tup [V.str "offsets", .str b.name, .int (kn : Nat)]) t2 = some (.tup [V.str (itS false), .str b.name, .int (kn : Nat)]) := upd_same
              generalize upd H9 t2 (.tup [V.str "offsets", .str b.name, .int (kn : Nat)]) = H10 at e10 g10 hp3
              have e11 := same_upd (o := .lst [V.ref t1, .ref t2]) (Same.refl H10) hp3
              have g11 : upd H10 p3 (.lst [V.ref t1, .ref t2]) p3 = some (.lst [V.ref t1, .ref t2]) := upd_same
              generalize upd H10 p3 (.lst [V.ref t1, .ref t2]) = H11 at e11 g11
              have e8b := (e9.trans e10).trans e11
              have c8b := (Chg.of (C := F8) e8b).cut
              have n1 : ¬ F8 t1 := A8.ask.la.new (Same.refl _) ht1
              have n2 : ¬ F8 t2 := A8.ask.la.new e9 ht2
              have n3 : ¬ F8 p3 := A8.ask.la.new (e9.trans e10) hp3
              refine ⟨p3, rfl, ⟨_, SqL.of g11⟩, ?_⟩
              refine for_list (K := K) (xs := [V.ref t1, .ref t2]) (fun _ σ H' => ∃ F' u6 u10, σ = [some (.ref x), some (.ref (c .root)), some (.ref bd), none, some (.ref t), u5, u6, none, some (.ref p), some (.int (kn : Nat)), u10] ∧ Al K H' F' x f bs Nm ls ys c ww bd ∧ Chg F F' H H' ∧ cut H' F' bd = some (.lst bvs) ∧ cut H' F' t = some (.tup (bedVs b)) ∧ cut H' F' p2 = some (.lst (ks.map V.int)) ∧
                  cut H' F' p3 = some (.lst [V.ref t1, .ref t2]) ∧ cut H' F' t1 = some (.tup [V.str (itS true), .str b.name, .int (kn : Nat)]) ∧ cut H' F' t2 = some (.tup [V.str (itS false), .str b.name, .int (kn : Nat)]))
                ⟨F8, _, _, rfl, A8.same e8b, C8.trans (Chg.of e8b), c8b _ _ hb8, c8b _ _ ht8, c8b _ _ hp8, cut_of n3 g11, cut_of n1 ((e10.trans e11) _ _ g9), cut_of n2 (e11 _ _ g10)⟩ (fun i σ H' _ ⟨_, _, _, _, _, _, _, _, _, q, _⟩ => SqL.of (cut_le _ _ q)) ?_ ?_
              · clear A8 C8 hb8 ht8 hp8 htt ht1 e9 g9 ht2 hp3 e10 g10 e11 g11 e8b c8b n1 n2 n3
                rintro j2 v σ H8 hv8 ⟨F8, u6, u10, rfl, A8, C8, hb8, ht8, hp8, hq8, h18, h28⟩
                obtain ⟨ti, rr, rfl, hti⟩ : ∃ ti rr, v = V.ref ti ∧ cut H8 F8 ti = some (.tup [V.str (itS rr), .str b.name, .int (kn : Nat)]) := by
                  match j2, hv8 with
                  | 0, hv8 => exact ⟨t1, true, (Option.some.inj hv8).symm, h18⟩
                  | 1, hv8 => exact ⟨t2, false, (Option.some.inj hv8).symm, h28⟩
                have hgt : GKAt H8 (.ref ti) (.it rr b.name kn) := ⟨ti, rfl, cut_le _ _ hti⟩
                have R8 := A8.rep.same cut_le
                obtain ⟨vs1, hg1, fg1⟩ := R8.good_at
                have hgs : SeqAt.shaped (GK.data (.it rr b.name kn)) = true := gk_shaped (BO.ok b hbb).n1
                -- due
                refine ⟨_, rfl, c .root, _, rfl, R8.l_good, c .gd, rfl, ⟨vs1, SqL.of hg1⟩, fun D hD => ?_⟩
                have hDF : ¬ F8 D := A8.ask.la.new (Same.refl _) hD
                refine lc_pure (walk_list (xs := vs1)) hD (fun i acc => acc = (((led bs ys).good.take i).filter fun e => decide (GK.it rr b.name kn ∈ e.keys)).map (fun e => V.int (e.num : Nat))) rfl (by rw [fg1.1]; exact hgl) (fun H1 e => e.seq (SqL.of hg1)) ?_ ?_
                · rintro i y acc H3 H4 hi e3 rfl ⟨rfl, hvx⟩ Q1 Q0 q1 q0
                  obtain ⟨e, he, te, kle, rfl, hte, hke⟩ := fg1.get2 hvx
                  have hte3 := e3 _ _ (cut_le _ _ hte)
                  have hke3 : KeysAt H4 kle e.keys := (hke.same mo_gk cut_le).same mo_gk e3
                  refine ⟨rfl, _, rfl, _, rfl, te, _, 2, _, rfl, rfl, SqT.of hte3, rfl, _, _, gk_dp (mo_gk _ _ _ _ e3 hgt), keys_dp hke3, hgs, keys_shaped (S.ko e (List.mem_of_getElem? he)), _, rfl, ?_⟩
                  rw [any_gk]
                  by_cases hm : GK.it rr b.name kn ∈ e.keys
                  · rw [decide_eq_true hm]
                    refine ⟨_, rfl, te, _, 0, _, rfl, rfl, SqT.of hte3, rfl, q1 _ _ (Same.refl _) ?_⟩
                    rw [filt_snoc _ _ he, if_pos (decide_eq_true hm)]
                  · rw [decide_eq_false hm]
                    refine q0 _ (Same.refl _) ?_
                    rw [filt_snoc _ _ he, if_neg (by rw [decide_eq_false hm]; exact Bool.false_ne_true), List.append_nil]
                rintro acc H9 e9 hD9 _ rfl
                rw [fg1.1, List.take_length] at hD9
                have A9 := A8.same e9
                have c89 := (Chg.of (C := F8) e9).cut
                obtain ⟨dx9, kn9, cm9, hx9⟩ := A9.obj
                have hgk : (⟨kdOf rr, b.name, kn⟩ : Th).gk = .it rr b.name kn := by cases rr <;> rfl
                have hth : ThAt K (cut H9 F8) ti ⟨kdOf rr, b.name, kn⟩ := by
                  refine ⟨.int (kn : Nat), ?_, .inr ⟨kdOf_ne rr, rfl⟩⟩
                  show _ = some (HO.tup [V.str (kdOf rr).s, .str b.name, .int (kn : Nat)])
                  rw [kdOf_s]
                  exact c89 _ _ hti
                have hin : ThIn bs ⟨kdOf rr, b.name, kn⟩ := ⟨⟨(BO.ok b hbb).n1, by show 1 ≤ kn; omega, fun z => absurd z (kdOf_ne rr)⟩, b, hbb, rfl, .inr ⟨kdOf_ne rr, hsh, by show kn ≤ b.roots; omega⟩⟩
                -- holder
                refine ⟨_, rfl, x, dx9, _, rfl, hx9, rfl, _, rfl, rfl, x, F8, f, bs, Nm, ls, ti, _, rfl, A9.ask, hth, hin, kdOf_ne rr, fun y Ha Fa ca dxa ysa Oa hy => ?_⟩
                obtain ⟨Aa, rfl⟩ := A9.step Oa
                have Ra := Aa.rep.same cut_le
                rw [hgk] at hy
                have htia := Oa.chg.cut _ _ (c89 _ _ hti)
                refine ⟨_, rfl, c .root, _, rfl, Ra.l_held, _, rfl, c .h, _, rfl, Ra.held_get (g := .it rr b.name kn) (cut_le _ _ htia) hy, rfl, _, rfl, ?_⟩
                rw [decide_eq_true (show V.str y = V.str y from rfl)]
                obtain ⟨dxa, kna, cma, hxa⟩ := Aa.obj
                -- row
                refine ⟨_, rfl, x, dxa, _, rfl, hxa, rfl, _, rfl, rfl, x, Fa, f, bs, Nm, ls, ti, _, rfl, Aa.ask, hth.same Oa.chg.cut, hin, kdOf_ne rr, fun pr Hb Fb cb dxb ysb Ob hpr => ?_⟩
                obtain ⟨Ab, rfl⟩ := Aa.step Ob
                rw [hgk] at hpr
                have c9b := Oa.chg.cut.trans Ob.chg.cut
                have hDb := cut_le _ _ (c9b _ _ (cut_of hDF hD9))
                have hm : ∀ l : List Ent, l.map (fun e => V.int (e.num : Nat)) = (l.map (·.num)).map fun n => V.int (n : Nat) := fun l => by rw [List.map_map]; rfl
                rw [hm] at hDb hpr
                refine ⟨_, rfl, _, _, ints_dp (SqL.of hpr), ints_dp (SqL.of hDb), ints_shaped _, ints_shaped _, _, rfl, ?_⟩
                rw [eqv_self (ints_shaped _)]
                have c8b := c89.trans c9b
                exact ⟨Fb, _, _, rfl, Ab, ((C8.trans (Chg.of e9)).trans Oa.chg).trans Ob.chg, c8b _ _ hb8, c8b _ _ ht8, c8b _ _ hp8, c8b _ _ hq8, c8b _ _ h18, c8b _ _ h28⟩
              · rintro σ H8 ⟨F8, u6, u10, rfl, A8, C8, hb8, ht8, hp8, _⟩
                exact ⟨F8, _, _, _, rfl, A8, C8, hb8, ht8, hp8⟩
          · rintro σ H8 ⟨F8, u6, u9, u10, rfl, A8, C8, hb8, _⟩
            exact ⟨F8, _, _, _, _, _, _, rfl, A8, C8, hb8⟩
        · intro r' hr'
          refine ⟨_, rfl, t, _, 6, _, rfl, rfl, SqT.of (cut_le _ _ ht), rfl, rfl, _, rfl, ?_⟩
          rw [(kind_eq b).1]
          cases hs : b.shares with
          | false => exact hr' _ _ ⟨F3, _, _, rfl, A3, C3, hb3, ht⟩
          | true =>
            have R3 := A3.rep.same cut_le
            have hB : Ball bs b.name := ⟨b, hbb, rfl⟩
            have pl := S.pl b hbb
            have nd := S.nd b hbb
            obtain ⟨us, hus, fus⟩ := R3.sh_at hB
            obtain ⟨l, hl⟩ : ∃ l, l = (led bs ys).parts b.name := ⟨_, rfl⟩
            rw [← hl] at pl nd fus
            refine asg_next ?_
            refine ⟨_, rfl, c .root, _, rfl, R3.l_parts, _, rfl, t, _, 0, _, rfl, rfl, SqT.of (cut_le _ _ ht), rfl, c .pp, _, rfl, R3.parts_get hB, ?_⟩
            refine asg_next ?_
            refine ⟨_, rfl, c (.sh b.name), us, l.map (·.1), rfl, .inl hus, by rw [fus.keys, List.map_map]; rfl, by rw [List.length_map]; omega, fun zs p hz1 hz2 hp => ?_⟩
            have e4 := same_upd (o := .lst (zs.map V.str)) (Same.refl H3) hp
            have g4 : upd H3 p (.lst (zs.map V.str)) p = some (.lst (zs.map V.str)) := upd_same
            generalize upd H3 p (.lst (zs.map V.str)) = H4 at e4 g4
            have hzl : (zs.map V.str).length ≤ 100000 := by
              rw [List.length_map, hz1.length_eq, List.length_map]
              omega
            refine ⟨p, rfl, ⟨_, SqL.of g4⟩, fun D hD => ?_⟩
            have hDF : ¬ F3 D := A3.ask.la.new e4 hD
            refine lc_mk (walk_list (xs := zs.map V.str)) hD (fun i acc H => Fits (HoldRow K l) (cut H F3) acc ((zs.take i).filter fun n => decide (0 < pget l n))) Fits.nil (fun i acc H H' e f => f.same mo_holdrow (Chg.of e).cut) (fun i acc H zs zs' hl f => f.imp fun v x _ r => ?_) hzl (fun H1 e => e.seq (SqL.of g4)) ?_ ?_
            · obtain ⟨t7, q7, rfl, h1, dpp, h2⟩ := r
              rw [cut_upd_out hDF]
              exact ⟨t7, q7, rfl, by rw [upd_ne (ne_of (cut_some h1).2 hl (by intro z; cases z))]; exact h1, dpp, by rw [upd_ne (ne_of (cut_some h2).2 hl (by intro z; cases z))]; exact h2⟩
            · rintro i y acc H5 H6 hi e5 ff ⟨rfl, hv5⟩ Q1 Q0 q1 q0
              rw [List.getElem?_map] at hv5
              cases hzi : zs[i]? with
              | none =>
                rw [hzi] at hv5
                cases hv5
              | some n =>
                rw [hzi] at hv5
                cases hv5
                have hn : n ∈ l.map (·.1) := hz1.mem_iff.mp (List.mem_of_getElem? hzi)
                obtain ⟨u, hu⟩ : ∃ u, sget l n = some u := by
                  cases hg : sget l n with
                  | none => exact absurd hn (sget_none.mp hg)
                  | some u => exact ⟨u, rfl⟩
                have hpg : pget l n = u := by
                  unfold pget
                  rw [hu]
                  rfl
                have hdg := ((R3.same (e4.trans e5)).l_sh hB n).2
                rw [← hl, hu] at hdg
                refine ⟨rfl, _, rfl, _, rfl, c (.sh b.name), _, rfl, hdg, _, _, rfl, rfl, _, rfl, ?_⟩
                by_cases h0 : 0 < u
                · rw [decide_eq_true (by omega)]
                  refine ⟨_, rfl, _, rfl, _, rfl, c (.sh b.name), _, rfl, hdg, ?_⟩
                  intro q dq fq gq nq
                  have nq3 : ¬ F3 q := A3.ask.la.new (e4.trans e5) fq
                  refine mkPartW (K := K) (a := u) (b := 27720) (u := u) (by decide) (by decide) rfl fq gq fun H7 e7 P7 => ⟨rfl, (by show 2 ≤ sizeLine; decide), fun t7 ht7 => q1 _ _ (same_upd e7 (e7.free ht7)) ?_⟩
                  have s8 := same_upd (o := .tup [V.str n, .ref q]) (Same.refl H7) ht7
                  have nt7 : ¬ F3 t7 := A3.ask.la.new ((e4.trans e5).trans e7) ht7
                  rw [filt_take _ hzi, if_pos (decide_eq_true (by rw [hpg]; exact h0))]
                  obtain ⟨dp, hq⟩ := P7.same s8
                  exact (ff.same mo_holdrow (Chg.of (e7.trans s8)).cut).snoc ⟨t7, q, rfl, cut_of nt7 upd_same, by rw [hpg]; exact ⟨dp, cut_of nq3 hq⟩⟩
                · rw [decide_eq_false (by omega)]
                  refine q0 _ (Same.refl _) ?_
                  rw [filt_take _ hzi, if_neg (by rw [hpg, decide_eq_false h0]; exact Bool.false_ne_true), List.append_nil]
                  exact ff
            rintro acc H7 e7 hD7 _ ff
            rw [List.length_map, List.take_length] at ff
            have e37 := e4.trans e7
            have A7 := A3.same e37
            have c37 := (Chg.of (C := F3) e37).cut
            obtain ⟨dx7, kn7, cm7, hx7⟩ := A7.obj
            refine ⟨_, rfl, x, dx7, _, rfl, hx7, rfl, _, rfl, t, _, 0, _, rfl, rfl, SqT.of (cut_le _ _ (c37 _ _ ht)), rfl, rfl, x, F3, f, bs, Nm, ls, b, rfl, A7.ask, hbb, hs, fun p8 us8 zs8 H8 F8 c8 dxs8 ys8 O8 hz3 hz4 hp8 f8 => ?_⟩
            obtain ⟨A8, rfl⟩ := A7.step O8
            rw [← hl] at hz3 f8
            obtain rfl : zs8 = zs := sorted_one (hz3.trans hz1.symm) hz4 hz2
            have c78 := O8.chg.cut
            refine ⟨_, rfl, p8, D, us8, acc, _, l, rfl, rfl, hp8, cut_le _ _ (c78 _ _ (cut_of hDF hD7)), f8, (ff.same mo_holdrow c78).same mo_holdrow cut_le, fun H9 e9 => ⟨_, rfl, ?_⟩⟩
            have c89 := (Chg.of (C := F8) e9).cut
            have c39 := (c37.trans c78).trans c89
            exact hr' _ _ ⟨F8, _, _, rfl, A8.same e9, ((C3.trans (Chg.of e37)).trans O8.chg).trans (Chg.of e9), c39 _ _ hb3, c39 _ _ ht⟩
      · rintro σ H3 ⟨F3, u4, u5, u6, u8, u9, u10, rfl, A3, C3, _⟩
        exact k F3 H3 C3 A3
    · intro r' hr'
      obtain ⟨dx1, kn1, cm1, hx1⟩ := A1.obj
      refine ⟨_, rfl, x, dx1, _, rfl, hx1, rfl, rfl, x, F1, f, bs, Nm, ls, rfl, A1.ask, fun p2 H2 F2 c2 dxs2 ys2 O2 hp2 => ?_⟩
      obtain ⟨A2, rfl⟩ := A1.step O2
      have R2 := A2.rep.same cut_le
      obtain ⟨vs1, hg1, fg1⟩ := R2.good_at
      refine ⟨_, rfl, c .root, _, rfl, R2.l_good, c .gd, rfl, ⟨vs1, SqL.of hg1⟩, fun D hD => ?_⟩
      refine lc_pure (walk_list (xs := vs1)) hD (fun i acc => acc = ((led bs ys2).good.take i).map (fun e => V.int (e.num : Nat))) rfl (by rw [fg1.1]; exact hgl) (fun H1 e => e.seq (SqL.of hg1)) ?_ ?_
      · rintro i y acc H3 H4 hi e3 rfl ⟨rfl, hvx⟩ Q1 Q0 q1 q0
        obtain ⟨e, he, te, kle, rfl, hte, hke⟩ := fg1.get2 hvx
        refine ⟨rfl, _, rfl, te, _, 0, _, rfl, rfl, SqT.of (e3 _ _ (cut_le _ _ hte)), rfl, q1 _ _ (Same.refl _) ?_⟩
        rw [take_snoc he, List.map_append]
        rfl
      rintro acc H3 e3 hD3 _ rfl
      rw [fg1.1, List.take_length] at hD3
      have hm : ∀ l : List Ent, l.map (fun e => V.int (e.num : Nat)) = (l.map (·.num)).map fun n => V.int (n : Nat) := fun l => by rw [List.map_map]; rfl
      rw [hm] at hD3 hp2
      refine ⟨_, _, ints_dp (SqL.of (e3 _ _ hp2)), ints_dp (SqL.of hD3), ints_shaped _, ints_shaped _, _, rfl, ?_⟩
      rw [eqv_self (ints_shaped _)]
      have A3 := A2.same e3
      have C3 := O2.chg.trans (Chg.of e3)
      obtain ⟨dx3, kn3, cm3, hx3⟩ := A3.obj
      refine ⟨_, rfl, x, dx3, _, rfl, hx3, rfl, rfl, x, F2, f, bs, Nm, ls, rfl, A3.ask, fun p4 zs H4 F4 c4 dxs4 ys4 O4 hz1 hz2 hp4 => ?_⟩
      obtain ⟨A4, rfl⟩ := A3.step O4
      have R4 := A4.rep.same cut_le
      obtain ⟨us, hus, fus⟩ := R4.spoilt_at
      have sl := S.sl
      refine ⟨_, rfl, c .root, _, rfl, R4.l_spoilt, c .sp, us, (led bs ys4).spoilt.map (·.1), rfl, .inl hus, by rw [fus.keys, List.map_map]; rfl, by rw [List.length_map]; omega, fun zs2 p5 hz3 hz4 hp5 => ?_⟩
      obtain rfl : zs = zs2 := sorted_one (hz1.trans hz3.symm) hz2 hz4
      have e5 := same_upd (o := .lst (zs.map V.str)) (Same.refl H4) hp5
      have hok : ∀ y ∈ zs, NameOk y := fun y hy => S.sn y (hz1.mem_iff.mp hy)
      refine ⟨_, _, strs_dp (SqL.of (e5 _ _ hp4)), strs_dp (SqL.of upd_same), strs_shaped hok, strs_shaped hok, _, rfl, ?_⟩
      rw [eqv_self (strs_shaped hok)]
      exact hr' _ _ ⟨F4, rfl, A4.same e5, ((C1.trans C3).trans O4.chg).trans (Chg.of e5)⟩
  · intro r' hr'
    refine ⟨_, rfl, x, dx, _, rfl, hx, rfl, rfl, x, F, f, bs, Nm, ls, rfl, A.ask, fun p us H1 F1 c1 dxs ys1 O hp fv => ?_⟩
    obtain ⟨A1, rfl⟩ := A.step O
    obtain ⟨dx1, kn1, cm1, hx1⟩ := A1.obj
    have R1 := A1.rep.same cut_le
    obtain ⟨vs, hv, fvl⟩ := R1.voids_at
    refine ⟨_, rfl, c .root, _, rfl, R1.l_voids, .list ((led bs ys1).voids.map vdD), .list ((led bs ys1).voids.map vdD), .lst (SqL.of hp) (dp_all (fun v x => vd_dp) fv), .lst (SqL.of hv) (dp_all (fun v x => vd_dp) (fvl.same mo_vd cut_le)), vds_shaped _, vds_shaped _, _, rfl, ?_⟩
    rw [eqv_self (vds_shaped _)]
    refine ⟨_, rfl, x, dx1, _, rfl, hx1, rfl, rfl, x, F1, f, bs, Nm, ls, rfl, A1.ask, fun p2 H2 F2 c2 dxs2 ys2 O2 hp2 => ?_⟩
    obtain ⟨A2, rfl⟩ := A1.step O2
    have R2 := A2.rep.same cut_le
    refine ⟨_, rfl, c .root, _, rfl, R2.l_gone, _, _, ints_dp (SqL.of hp2), ints_dp (SqL.of R2.gone_at), ints_shaped _, ints_shaped _, _, rfl, ?_⟩
    rw [eqv_self (ints_shaped _)]
    exact hr' _ _ ⟨F2, rfl, A2, O.chg.trans O2.chg⟩
end
end RP
set_option Elab.async false
set_option linter.all false
set_option maxRecDepth 100000
set_option maxHeartbeats 400000
/-! rootpledge k80: the law's telling -/
namespace RP
open PySem PySem.Spec PyProof.Rows L2
theorem KN.led (bs : List BedR) (ys : List Ln) : KN (led bs ys) := by
  have h : ∀ (ys : List Ln) (st : PS), KN st → KN (ys.foldl (PS.step bs) st) := by
    intro ys
    induction ys with
    | nil => exact fun st h => h
    | cons l ys ih =>
      intro st h
      refine ih _ ?_
      cases l with
      | prom p => exact h.prom p
      | spoil n m b =>
        show KN (match bedOf bs b with
          | some b => st.spoil n b
          | none => st)
        cases bedOf bs b with
        | none => exact h
        | some b => exact h.spoil n b
  exact h ys _ fun e he => by rw [begin_good] at he; cases he
/-! ### cells that nobody leans on -/
/-- o at a is no tuple and no list of keys -/
def Idle (H : Hp) (a : Addr) (o : HO) : Prop := (∀ xs, o ≠ .tup xs) ∧ ∀ ks, ks ≠ [] → ¬ KeysAt H a ks
theorem Rep.law_cut {B : Str → Prop} {w : Nat} {H : Hp} {c : Lab → Addr} {st : PS} {F : Addr → Prop} (Rp : Rep knLaw B w H c st) (kn : KN st) (hf : ∀ a, F a → ¬ foot c B a) (hF : ∀ a o, F a → H a = some o → Idle H a o) : Rep knLaw B w (cut H F) c st := by
  have cc : ∀ {a o}, cut H (foot c B) a = some o → ¬ F a → cut (cut H F) (foot c B) a = some o := fun {a o} e n => cut_of (cut_some e).1 (cut_of n (cut_some e).2)
  have tp : ∀ {t xs}, cut H (foot c B) t = some (.tup xs) → cut (cut H F) (foot c B) t = some (.tup xs) := fun {t xs} e => cc e fun z => (hF _ _ z (cut_some e).2).1 _ rfl
  refine ⟨Rp.inj, fun l a => ?_⟩
  obtain ⟨u, q, z⟩ := Rp.at_ l a
  refine ⟨u, cut_of (fun z => hf _ z (foot_of a)) q, ?_⟩
  cases l with
  | root => exact z
  | h => exact z
  | pp => exact z
  | sp =>
    obtain ⟨vs, h1, h2⟩ := z
    exact ⟨vs, h1, sh_ui h2⟩
  | gd =>
    obtain ⟨vs, h1, h2⟩ := z
    refine ⟨vs, h1, h2.imp fun v x hx2 hv => ?_⟩
    obtain ⟨t, kl, rfl, h3, ws, h4, h5⟩ := hv
    have hkl : ¬ F kl := fun e => (hF _ _ e (cut_some h4).2).2 _ (kn x hx2) (LAt.same ⟨ws, h4, h5⟩ mo_gk cut_le)
    refine ⟨t, kl, rfl, tp h3, ws, cc h4 hkl, h5.imp fun v g _ hv => ?_⟩
    obtain ⟨t, rfl, h6⟩ := hv
    exact ⟨t, rfl, tp h6⟩
  | vd =>
    obtain ⟨vs, h1, h2⟩ := z
    refine ⟨vs, h1, h2.imp fun v x _ hv => ?_⟩
    obtain ⟨t, rfl, h6⟩ := hv
    exact ⟨t, rfl, tp h6⟩
  | gn => exact z
  | sh x =>
    obtain ⟨vs, h1, h2⟩ := z
    exact ⟨vs, h1, sh_ui h2⟩
section
variable {K : PySem.W.Frag} {H : Hp} {R : Addr} {us : List V}
/-- a list's cell taken out -/
abbrev at1 (R : Addr) : Addr → Prop := fun a => a = R
theorem cut1 (hR : H R = some (.lst us)) {a : Addr} {o : HO} (h : H a = some o) (n : ∀ xs, o ≠ .lst xs) : cut H (at1 R) a = some o := cut_of (fun z => by
  have z : a = R := z
  subst z
  rw [hR] at h
  cases h
  exact n _ rfl) h
theorem PartAt.cut1 (hR : H R = some (.lst us)) {p : Addr} {u : Nat} (h : PartAt K H p u) : PartAt K (cut H (at1 R)) p u := by
  obtain ⟨dx, h⟩ := h
  exact ⟨dx, RP.cut1 hR h fun xs z => by cases z⟩
theorem ThAt.cut1 (hR : H R = some (.lst us)) {t : Addr} {th : Th} (h : ThAt K H t th) : ThAt K (cut H (at1 R)) t th := by
  obtain ⟨v, h, hv⟩ := h
  refine ⟨v, RP.cut1 hR h fun xs z => (by cases z), ?_⟩
  rcases hv with ⟨e, p, rfl, hp⟩ | hv
  · exact .inl ⟨e, p, rfl, hp.cut1 hR⟩
  · exact .inr hv
theorem PromAt.cut1 (hR : H R = some (.lst us)) {q : Addr} {p : Pr} (h : PromAt K H q p) : PromAt K (cut H (at1 R)) q p := by
  obtain ⟨⟨dx, h1⟩, h2⟩ := h
  exact ⟨⟨dx, RP.cut1 hR h1 fun xs z => by cases z⟩, h2.cut1 hR⟩
theorem LnAt.cut1 (hR : H R = some (.lst us)) {v : V} {l : Ln} (h : LnAt K H v l) : LnAt K (cut H (at1 R)) v l := by
  obtain ⟨q, rfl, h⟩ := h
  refine ⟨q, rfl, ?_⟩
  cases l with
  | prom p => exact PromAt.cut1 hR h
  | spoil n m b =>
    obtain ⟨dx, h⟩ := h
    exact ⟨dx, RP.cut1 hR h fun xs z => by cases z⟩
theorem FieldAt.cutL (hR : H R = some (.lst us)) {f : Addr} {bs : List BedR} (h : FieldAt K H f bs) : FieldAt K (cut H (at1 R)) f bs := by
  obtain ⟨⟨df, g, d, h1, kvs, h2, h3, h4⟩, B⟩ := h
  refine ⟨⟨df, g, d, RP.cut1 hR h1 fun xs z => (by cases z), kvs, RP.cut1 hR h2 fun xs z => (by cases z), h3, fun b hb => ?_⟩, B⟩
  obtain ⟨v, h5, p, dp, rfl, h6⟩ := h4 b hb
  exact ⟨_, h5, p, dp, rfl, RP.cut1 hR h6 fun xs z => by cases z⟩
theorem cut_comm {F G : Addr → Prop} : cut (cut H F) G = cut (cut H G) F := by
  funext a
  by_cases f : F a
  · by_cases g : G a
    · rw [cut_in g, cut_in f]
    · rw [cut_out g, cut_in f, cut_in f]
  · by_cases g : G a
    · rw [cut_in g, cut_out f, cut_in g]
    · rw [cut_out g, cut_out f, cut_out f, cut_out g]
theorem Rep.std_cut {f dx : Addr} {B : Str → Prop} {w : Nat} {c : Lab → Addr} {st : PS} (Rp : Rep (knStd K f dx) B w H c st) (kn : KN st) (hf : ¬ foot c B R) (hR : H R = some (.lst us)) (hx : ∀ ks, ks ≠ [] → ¬ KeysAt H R ks) : Rep (knStd K f dx) B w (cut H (at1 R)) c st := by
  have hR2 : cut H (foot c B) R = some (.lst us) := cut_of hf hR
  have tp : ∀ {t xs}, cut H (foot c B) t = some (.tup xs) → cut (cut H (at1 R)) (foot c B) t = some (.tup xs) := fun {t xs} e => by
    rw [cut_comm]
    exact RP.cut1 hR2 e fun xs z => by cases z
  refine ⟨Rp.inj, fun l a => ?_⟩
  obtain ⟨u, q, z⟩ := Rp.at_ l a
  refine ⟨u, cut_of (fun z => hf (by rw [← show c l = R from z]; exact foot_of a)) q, ?_⟩
  have su : ∀ {kvs l}, Sh (StdU K) (cut H (foot c B)) kvs l → Sh (StdU K) (cut (cut H (at1 R)) (foot c B)) kvs l := fun {kvs l} h => by
    induction h with
    | nil => exact .nil
    | cons h1 _ ih =>
      obtain ⟨p, rfl, h1⟩ := h1
      exact .cons ⟨p, rfl, by rw [cut_comm]; exact h1.cut1 hR2⟩ ih
  cases l with
  | root => exact z
  | h => exact z
  | pp => exact z
  | sp =>
    obtain ⟨vs, h1, h2⟩ := z
    exact ⟨vs, h1, sh_ui h2⟩
  | gd =>
    obtain ⟨vs, h1, h2⟩ := z
    refine ⟨vs, h1, h2.imp fun v x hx2 hv => ?_⟩
    obtain ⟨t, q, kl, p, rfl, h3, h4, ⟨ws, h5, h6⟩, h7⟩ := hv
    have hkl : kl ≠ R := fun e => by
      subst e
      exact hx _ (kn x hx2) (LAt.same ⟨ws, h5, h6⟩ mo_gk cut_le)
    refine ⟨t, q, kl, p, rfl, tp h3, by rw [cut_comm]; exact h4.cut1 hR2, ⟨ws, cut_of (cut_some h5).1 (cut_of hkl (cut_some h5).2), h6.imp fun v g _ hv => ?_⟩, h7⟩
    obtain ⟨t, rfl, h8⟩ := hv
    exact ⟨t, rfl, tp h8⟩
  | vd =>
    obtain ⟨vs, h1, h2⟩ := z
    refine ⟨vs, h1, h2.imp fun v x _ hv => ?_⟩
    obtain ⟨t, rfl, h6⟩ := hv
    exact ⟨t, rfl, tp h6⟩
  | gn => exact z
  | sh x =>
    obtain ⟨vs, h1, h2⟩ := z
    exact ⟨vs, h1, su h2⟩
end
section
variable {K : PySem.W.Frag} {H H' : Hp} {F F' : Addr → Prop} {x f s R : Addr} {bs : List BedR} {ls : List Ln} {us : List V}
theorem LedAt.cutL (L : LedAt K H F x f bs ls) (hF : ¬ F R) (hR : H R = some (.lst us)) (hx : ∀ ks, ks ≠ [] → ¬ KeysAt H R ks) : LedAt K (cut H (at1 R)) F x f bs ls := by
  obtain ⟨⟨dx, kn, cm, h1, ⟨kvs, h2, h3, h4⟩, h5⟩, fl, len, nd⟩ := L
  have hRF : cut H F R = some (.lst us) := cut_of hF hR
  refine ⟨⟨dx, kn, cm, cut1 hR h1 fun xs z => (by cases z), ⟨kvs, cut1 hR h2 fun xs z => (by cases z), h3, h4.imp fun v l _ h => by rw [cut_comm]; exact h.cut1 hRF⟩, ?_⟩, by rw [cut_comm]; exact fl.cutL hRF, len, nd⟩
  rcases h5 with h5 | ⟨c, dxs, ys, h5, h6, h7, h8, h9, h10⟩
  · exact .inl h5
  · exact .inr ⟨c, dxs, ys, h5, h6, h7, h8.std_cut (KN.led bs ys) (fun z => hF (by rw [h6]; exact .inr (.inr z))) hR hx, h9, h10⟩
theorem src_no_keys {n : Nat} (S : SrcAt H s n) (ks : List GK) (h0 : ks ≠ []) : ¬ KeysAt H s ks := by
  obtain ⟨a, b, c, hs, _⟩ := S
  rintro ⟨vs, hv, fk⟩
  rw [hs] at hv
  cases hv
  cases ks with
  | nil => exact h0 rfl
  | cons g ks =>
    obtain ⟨t, e, _⟩ := fk.2 0 _ g rfl rfl
    cases e
theorem LedAt.but {n : Nat} (L : LedAt K H F x f bs ls) (hF : ¬ F s) (S : SrcAt H s n) (e : But s H H') : LedAt K H' F x f bs ls := by
  obtain ⟨a, b, c, hs, _⟩ := id S
  exact (L.cutL hF hs (src_no_keys S)).same fun a o h => e a o (cut_some h).1 (cut_some h).2
theorem LedAt.write {o : HO} (L : LedAt K H F x f bs ls) (hF : ¬ F R) (hR : H R = some (.lst us)) (hx : ∀ ks, ks ≠ [] → ¬ KeysAt H R ks) : LedAt K (upd H R o) F x f bs ls :=
  (L.cutL hF hR hx).same fun a u h => by
    rw [upd_ne (cut_some h).1]
    exact (cut_some h).2
theorem LedAt.idle (L : LedAt K H F x f bs ls) : ∀ a o, F a → H a = some o → Idle H a o := by
  obtain ⟨⟨dx, kn, cm, h1, ⟨kvs, h2, _⟩, h5⟩, _⟩ := L
  have kx : ∀ o, H x = some o → Idle H x o := fun o e => by
    rw [h1] at e
    cases e
    exact ⟨fun xs z => (by cases z), fun ks _ ⟨vs, hv, _⟩ => by rw [h1] at hv; cases hv⟩
  have kk : ∀ o, H kn = some o → Idle H kn o := fun o e => by
    rw [h2] at e
    cases e
    exact ⟨fun xs z => (by cases z), fun ks _ ⟨vs, hv, _⟩ => by rw [h2] at hv; cases hv⟩
  have nl : ∀ {a o}, H a = some o → (∀ xs, o ≠ .tup xs) → (∀ xs, o ≠ .lst xs) → Idle H a o := fun {a o} e n1 n2 => ⟨n1, fun ks _ ⟨vs, hv, _⟩ => by
    rw [e] at hv
    cases hv
    exact n2 _ rfl⟩
  rcases h5 with ⟨_, rfl⟩ | ⟨c, dxs, ys, _, rfl, _, Rp, _, _⟩
  · rintro a o (rfl | rfl) e
    · exact kx o e
    · exact kk o e
  · rintro a o (rfl | rfl | ⟨l, hl, rfl⟩) e
    · exact kx o e
    · exact kk o e
    · obtain ⟨u, hu, hc⟩ := Rp.at_ l hl
      rw [e] at hu
      cases hu
      cases l with
      | root =>
        have hc : o = .ins (cStanding K) dxs (stdFs f c) := hc
        subst hc
        exact nl e (fun xs z => (by cases z)) fun xs z => by cases z
      | h =>
        obtain ⟨kvs, rfl, _⟩ := hc
        exact nl e (fun xs z => (by cases z)) fun xs z => by cases z
      | pp =>
        obtain ⟨kvs, rfl, _⟩ := hc
        exact nl e (fun xs z => (by cases z)) fun xs z => by cases z
      | sp =>
        obtain ⟨kvs, rfl, _⟩ := hc
        exact nl e (fun xs z => (by cases z)) fun xs z => by cases z
      | sh b =>
        obtain ⟨kvs, rfl, _⟩ := hc
        exact nl e (fun xs z => (by cases z)) fun xs z => by cases z
      | gn =>
        have hc : o = .lst ((led bs ys).gone.map fun n => .int (n : Nat)) := hc
        subst hc
        refine ⟨fun xs z => (by cases z), ?_⟩
        rintro ks h0 ⟨vs, hv, fk⟩
        rw [e] at hv
        cases hv
        cases ks with
        | nil => exact h0 rfl
        | cons g ks =>
          obtain ⟨v, hv, t, rfl, _⟩ := fk.get (i := 0) (x := g) rfl
          rw [List.getElem?_map] at hv
          cases q : (led bs ys).gone[0]? with
          | none =>
            rw [q] at hv
            cases hv
          | some n =>
            rw [q] at hv
            cases hv
      | gd =>
        obtain ⟨ws, rfl, fw⟩ := hc
        refine ⟨fun xs z => (by cases z), ?_⟩
        rintro ks h0 ⟨vs, hv, fk⟩
        rw [e] at hv
        cases hv
        cases ks with
        | nil => exact h0 rfl
        | cons g ks =>
          obtain ⟨v, hv, t, rfl, ht⟩ := fk.get (i := 0) (x := g) rfl
          obtain ⟨en, _, t', q, kl, p, e', ht', _⟩ := fw.get2 hv
          cases e'
          have ht' := cut_le _ _ ht'
          rw [ht] at ht'
          cases g with
          | sh b => cases ht'
          | it r b k => cases ht'
      | vd =>
        obtain ⟨ws, rfl, fw⟩ := hc
        refine ⟨fun xs z => (by cases z), ?_⟩
        rintro ks h0 ⟨vs, hv, fk⟩
        rw [e] at hv
        cases hv
        cases ks with
        | nil => exact h0 rfl
        | cons g ks =>
          obtain ⟨v, hv, t, rfl, ht⟩ := fk.get (i := 0) (x := g) rfl
          obtain ⟨en, _, t', e', ht'⟩ := fw.get2 hv
          cases e'
          have ht' := cut_le _ _ ht'
          rw [ht] at ht'
          cases g with
          | sh b => cases ht'
          | it r b k => cases ht'
end
end RP
set_option Elab.async false
set_option linter.all false
set_option maxRecDepth 100000
set_option maxHeartbeats 400000
/-! rootpledge k80: the law's telling, 2 -/
namespace RP
open PySem PySem.Spec PyProof.Rows L2
/-- a ledger of lines told so far -/
structure Tl (K : PySem.W.Frag) (H0 H : Hp) (F : Addr → Prop) (s x f : Addr) (bs : List BedR) (ls : List Ln) (m : Nat) (L : Addr) (us : List V) : Prop where
  led : LedAt K H F x f bs ls
  src : SrcAt H s m
  fs : ¬ F s
  fL : ¬ F L
  Ls : L ≠ s
  L0 : H0 L = none
  lst : H L = some (.lst us)
  but : But s H0 H
  new : ∀ a, F a → H0 a = none
section
variable {K : PySem.W.Frag} {H0 H H' : Hp} {F F' : Addr → Prop} {s x f : Addr} {bs : List BedR} {ls ls' : List Ln} {m m' n0 : Nat} {L : Addr} {us us' : List V}
theorem Tl.same (T : Tl K H0 H F s x f bs ls m L us) (e : Same H H') : Tl K H0 H' F s x f bs ls m L us :=
  ⟨T.led.same e, T.src.same e, T.fs, T.fL, T.Ls, T.L0, e _ _ T.lst, T.but.trans (But.of e), T.new⟩
theorem Tl.chg (T : Tl K H0 H F s x f bs ls m L us) (C : Chg F F' H H') (N : LedAt K H' F' x f bs ls') : Tl K H0 H' F' s x f bs ls' m L us := by
  obtain ⟨a, b, c, hs, r⟩ := id T.src
  refine ⟨N, ⟨a, b, c, C.kp _ _ T.fs hs, r⟩, C.off T.fs hs, C.off T.fL T.lst, T.Ls, T.L0, C.kp _ _ T.fL T.lst, fun b o hb h => C.kp _ _ (fun z => ?_) (T.but _ _ hb h), fun b hb => ?_⟩
  · rw [T.new b z] at h
    cases h
  · rcases C.nw b hb with z | z
    · exact T.new b z
    · exact T.but.free T.src z
theorem Tl.next (T : Tl K H0 H F s x f bs ls m L us) (e : But s H H') (S : SrcAt H' s m') : Tl K H0 H' F s x f bs ls m' L us :=
  ⟨T.led.but T.fs T.src e, S, T.fs, T.fL, T.Ls, T.L0, e _ _ T.Ls T.lst, T.but.trans e, T.new⟩
theorem Tl.app (T : Tl K H0 H F s x f bs ls m L us) (hx : ∀ ks, ks ≠ [] → ¬ KeysAt H L ks) : Tl K H0 (upd H L (.lst us')) F s x f bs ls m L us' :=
  ⟨T.led.write T.fL T.lst hx, T.src.write T.Ls, T.fs, T.fL, T.Ls, T.L0, upd_same, fun a o ha h => by rw [upd_ne (ne_of_none h T.L0)]; exact T.but a o ha h, T.new⟩
theorem Tl.sm (T : Tl K H0 H F s x f bs ls m L us) (S : SrcAt H0 s n0) : Sm H0 (cut H F) := fun a o h n => by
  have ha : a ≠ s := fun z => by
    obtain ⟨u, hu, hod⟩ := S.odd
    rw [← z, h] at hu
    cases hu
    exact n hod
  refine cut_of (fun z => ?_) (T.but a o ha h)
  rw [T.new a z] at h
  cases h
end
theorem made_ok {bs : List BedR} {Nm : Str → Prop} {l : Ln} (B : BedsOk bs) (h : LnOk bs Nm l) : MadeOk l := by
  cases l with
  | prom p => exact h.ok
  | spoil n m x =>
    obtain ⟨h1, b, hb, rfl⟩ := h
    exact ⟨h1, (B.ok b hb).n1⟩
theorem nx_red {a bk ct : L2.St → Hp → Prop} {b : VK} {σ : L2.St} {H : Hp} (h : a σ H) : Ends.nx ⟨a, b, bk, ct⟩ σ H := h
def sp_law_told (K : PySem.W.Frag) : Sp := spA 4 fun vs H Q => ∃ s bd f rw n bs Nm rs, vs = [.ref s, .ref bd, .ref f, .ref rw] ∧ SrcAt H s n ∧ n ≤ 10000 ∧ LAt BedRowAt H bd bs ∧ FieldAt K H f bs ∧ LAt (RowAt K) H rw rs ∧ rs.length ≤ 24 ∧ (∀ b ∈ bs, Nm b.owner) ∧ (∀ l ∈ rs, LnOk bs Nm l) ∧ (∀ l ∈ rs, l.mom < 1000 ∧ l.num < 1000) ∧ (rs.map (·.num)).Nodup ∧
  ∀ x F H', But s H H' → SrcAt H' s (n + 100) → ¬ F s → LedAt K H' F x f bs rs → (∀ a, F a → H a = none) → Q (.ref x) H'
section
variable {P : Program} {w : World} {K : PySem.W.Frag} {mg : Str → Option Value} {base : Heap}
theorem ok_law_told (T : Txt K mg) : Fx P w K mg base "_law_told" 10 [] (sp_law_told K) := by
  obtain ⟨fd, F⟩ := T.d_law_told
  refine ⟨_, fd, _, [], T.g__law_told, F.kp, fn_body F sc_law_told rfl (fun cdv A outer s H vs Q E hr h => ?_), F.bindsN (fun _ _ _ _ _ _ us hl => match us, hl with | [_, _, _, _], _ => rfl), .nil⟩
  have nd := sc_law_told.nd
  have hu := hu_of hr
  obtain ⟨s, bd, f, rw_, n, bs, Nm, rs, rfl, S, hn, LB, FF, ⟨us, hrw, fus⟩, hlen, hown, hok, hbd, hnd, k⟩ := h
  refine ⟨_, (pss_cons (ps_set (i := 4) nd rfl (Or.inl rfl) (pe_n (ok_Ledger_init T) (hr.mono (by decide)) (pa_cons (pv 2) pa_nil)))
      (pss_cons (ps_set (i := 5) nd rfl (Or.inl rfl) (pe_lst pa_nil))
      (pss_cons (ps_for PassesOwn.never rfl (pi_list (pv 3)) (pg_name (i := 6) nd rfl (.inl rfl))
      (pss_cons (ps_if (pt_cmpR op_ne (pe_m (ok_Ledger_tell T) (hr.mono (by decide)) (pv 4) (pa_cons (pe_f (ok_law_made T) (hr.mono (by decide)) (pa_cons (pv 6) pa_nil)) pa_nil)) pe_str (nomark _)) (pss_one (ps_ret pe_non)) pss_nil)
      (pss_cons (ps_expr (pe_bm PySem.F.plainAttrs_list PySem.F.slot_list_append PySem.F.type_list_append mt_append (pv 5) (pa_cons (pv 6) pa_nil)))
      (pss_cons (ps_set (i := 7) nd rfl (Or.inl rfl) (pe_ix ix_list (pv 5) (pe_f (ok_law_next T) (hr.mono (by decide)) (pa_cons (pv 0) (pa_cons (pe_callB call_len_seq (by rfl) T.n_len b_len (pa_cons (pv 5) pa_nil)) pa_nil))) (fun _ _ => rfl)))
      (pss_cons (ps_if (PW.pt (pw_and (pt_cmpR op_eq (pe_f (ok_law_next T) (hr.mono (by decide)) (pa_cons (pv 0) (pa_cons pe_int pa_nil))) pe_int (nomark _)) (pw_and1 (pt_cmpR op_ne (pe_m (ok_Ledger_tell T) (hr.mono (by decide)) (pv 4) (pa_cons (pe_f (ok_law_made T) (hr.mono (by decide)) (pa_cons (pv 7) pa_nil)) pa_nil)) pe_str (nomark _))))) (pss_one (ps_ret pe_non)) pss_nil)
      (pss_one (ps_if (PW.pt (pw_and (pt_cmpR op_eq (pe_f (ok_law_next T) (hr.mono (by decide)) (pa_cons (pv 0) (pa_cons pe_int pa_nil))) pe_int (nomark _)) (pw_and1 (pt_not (pt_val (pe_f (ok_law_alike T) (hr.mono (by decide)) (pa_cons (pv 4) (pa_cons (pe_f (ok_law_led T) (hr.mono (by decide)) (pa_cons (pv 1) (pa_cons (pv 5) pa_nil))) (pa_cons (pv 1) pa_nil))))))))) (pss_one (ps_ret pe_non)) pss_nil)))))))
      (pss_one (ps_ret (pv 4)))))), ?_⟩
  have BO := FF.ok
  refine ⟨_, rfl, ?_⟩
  intro q dq hq hdq hne
  have e0 := same_upd (o := .ins (cLedger K) dq []) (same_upd (o := .own q) (Same.refl H) hdq) hq
  refine ⟨rfl, q, f, dq, rfl, upd_same, fun kn H1 hkn hk1 hx1 hk2 => ⟨rfl, ?_⟩⟩
  have e1 : Same H H1 := fun a o e => hk1 a o (ne_of_none e hq) (e0 _ _ e)
  have hkn0 : H kn = none := e0.free hkn
  have hF0 : ∀ a, (a = q ∨ a = kn) → H a = none := fun a h => h.elim (fun z => by rw [z]; exact hq) fun z => by rw [z]; exact hkn0
  have L1 : LedAt K H1 (fun a => a = q ∨ a = kn) q f bs [] := by
    refine ⟨⟨dq, kn, .non, hx1, ⟨[], hk2, rfl, Fits.nil⟩, .inl ⟨rfl, rfl⟩⟩, FF.same fun a o e => cut_of (fun z => ?_) (e1 _ _ e), Nat.zero_le _, List.nodup_nil⟩
    rw [hF0 a z] at e
    cases e
  refine ⟨by show 0 ≤ sizeLine; decide, fun L hL => ?_⟩
  have e2 := same_upd (o := .lst []) (Same.refl H1) hL
  have g2 : upd H1 L (.lst []) L = some (.lst []) := upd_same
  generalize upd H1 L (.lst []) = H2 at e2 g2
  have sF : ¬ (s = q ∨ s = kn) := fun z => by
    obtain ⟨o, ho, _⟩ := S.odd
    rw [hF0 s z] at ho
    cases ho
  have T2 : Tl K H H2 (fun a => a = q ∨ a = kn) s q f bs [] n L [] := ⟨L1.same e2, (S.same e1).same e2, sF, L1.new (Same.refl _) hL, src_ne (S.same e1) hL, e1.free hL, g2, But.of (e1.trans e2), hF0⟩
  have hrs : rw_ ≠ s := fun z => by
    obtain ⟨a, b, c, hs, _⟩ := S
    rw [z, hs] at hrw
    cases hrw
    obtain ⟨l, _, t, e, _⟩ := fus.get2 (i := 0) rfl
    cases e
  show tSeq _ _ _ [some (.ref s), some (.ref bd), some (.ref f), some (.ref rw_), some (.ref q), some (.ref L), none, none] H2
  refine ⟨_, rfl, rw_, rfl, ⟨us, SqL.of (T2.but _ _ hrs hrw)⟩, ?_⟩
  refine for_list (K := K) (xs := us) (fun i σ H' => ∃ F u6 u7, σ = [some (.ref s), some (.ref bd), some (.ref f), some (.ref rw_), some (.ref q), some (.ref L), u6, u7] ∧ Tl K H H' F s q f bs (rs.take i) (n + 4 * i) L (us.take i)) ⟨_, _, _, rfl, T2⟩
    (fun i σ H' _ ⟨_, _, _, _, T'⟩ => SqL.of (T'.but _ _ hrs hrw)) ?_ ?_
  · rintro i v σ H3 hv ⟨F3, u6, u7, rfl, T3⟩
    obtain ⟨l, hl, hr⟩ := fus.get2 hv
    have hi : i < rs.length := (List.getElem?_eq_some_iff.mp hl).1
    have hlm := List.mem_of_getElem? hl
    have hrl : rs.length = us.length := fus.1.symm
    have hll : (rs.take i).length = i := by rw [List.length_take]; omega
    have hul : (us.take i).length = i := by rw [List.length_take]; omega
    show tSeq (tIfS _ _ _) _ _ [some (.ref s), some (.ref bd), some (.ref f), some (.ref rw_), some (.ref q), some (.ref L), some v, u7] H3
    obtain ⟨dx3, kn3, cm3, hx3, _⟩ := id T3.led.ex
    -- kept
    refine ⟨_, rfl, q, dx3, _, rfl, hx3, rfl, _, rfl, rfl, v, l, cut H3 F3, rfl, cut_le, om_row _ _ _ _ (T3.sm S) hr, made_ok BO (hok l hlm), fun p H4 hp e4 hmk => ?_⟩
    have T4 := T3.same e4
    have hpF : ¬ F3 p := T3.led.new (Same.refl _) hp
    refine ⟨rfl, q, F3, f, bs, rs.take i, Nm, .ref p, l, rfl, T4.led, hmk _ (Chg.of e4).cut fun o h => cut_of hpF h, hok l hlm, .inl ⟨fun z => ?_, by omega, fun F5 H5 C5 L5 => ⟨rfl, _, rfl, ?_⟩⟩⟩
    · obtain ⟨l', hl', e⟩ := List.mem_map.mp z
      obtain ⟨j, hj, ej⟩ := List.getElem_of_mem hl'
      rw [hll] at hj
      rw [List.getElem_take] at ej
      have h1 : (rs.map (·.num))[j]? = (rs.map (·.num))[i]? := by
        rw [List.getElem?_map, List.getElem?_map, hl, List.getElem?_eq_getElem (show j < rs.length by omega), ej]
        exact congrArg some e
      have := (List.getElem?_inj (by rw [List.length_map]; omega) hnd).mp h1
      omega
    rw [decide_eq_true (show V.str "kept" = V.str "kept" from rfl)]
    rw [← take_snoc hl] at L5
    have T5 := T4.chg C5 L5
    clear T4 hmk hpF e4 hp hx3 C5 L5
    have nk : ∀ ks, ks ≠ [] → ¬ KeysAt H5 L ks := row_no_keys (K := K) T5.lst (rs := rs.take i) (by
      refine ⟨by rw [hul, hll], fun j v x h1 h2 => ?_⟩
      have hj : j < i := by
        have := (List.getElem?_eq_some_iff.mp h1).1
        omega
      rw [List.getElem?_take_of_lt hj] at h1 h2
      exact mo_row _ _ _ _ cut_le (om_row _ _ _ _ (T5.sm S) (fus.2 j v x h1 h2)))
    have T6 := T5.app (us' := us.take i ++ [v]) nk
    refine ⟨_, rfl, .inl ⟨rfl, _, SqL.of T5.lst⟩, _, rfl, L, us.take i, _, rfl, rfl, T5.lst, by rw [hul]; exact Nat.lt_of_lt_of_le (show i < 24 by omega) (by decide), ?_⟩
    rw [← take_snoc hv] at T6 ⊢
    generalize upd H5 L (.lst (us.take (i + 1))) = H6 at T6 ⊢
    clear T5 nk T3
    have hul1 : (us.take (i + 1)).length = i + 1 := by rw [List.length_take]; omega
    have f6 : ∀ {G : Hp}, Sm H G → Fits (RowAt K) G (us.take (i + 1)) (rs.take (i + 1)) := fun {G} sm => by
      refine ⟨by rw [hul1, List.length_take]; omega, fun j v x h1 h2 => ?_⟩
      have hj : j < i + 1 := by
        have := (List.getElem?_eq_some_iff.mp h1).1
        omega
      rw [List.getElem?_take_of_lt hj] at h1 h2
      exact om_row _ _ _ _ sm (fus.2 j v x h1 h2)
    have hok1 : ∀ l ∈ rs.take (i + 1), LnOk bs Nm l := fun l h => hok l (List.mem_of_mem_take h)
    -- again
    refine nx_red ?_
    refine asg_next ?_
    refine ⟨_, rfl, _, rfl, _, rfl, L, _, rfl, .inl (SqL.of T6.lst), rfl, s, i + 1, _, (by rw [hul1]; rfl), by omega, by omega, T6.src, by omega, fun r7 H7 hr7 e7 S7 => ?_⟩
    have T7 := T6.next e7 S7
    have hr7' : r7 < (us.take (i + 1)).length := by omega
    obtain ⟨v7, hv7⟩ : ∃ v7, (us.take (i + 1))[r7]? = some v7 := ⟨_, List.getElem?_eq_getElem hr7'⟩
    refine ⟨L, _, _, _, rfl, rfl, SqL.of T7.lst, atI_nat hv7, ?_⟩
    obtain ⟨l7, hl7, hrow7⟩ := (f6 (T7.sm S)).get2 hv7
    have hm7 := List.mem_of_getElem? hl7
    clear T6 e7 S7
    refine seq_cut (fun σ H' => σ = [some (.ref s), some (.ref bd), some (.ref f), some (.ref rw_), some (.ref q), some (.ref L), some v, some v7] ∧ Tl K H H' F5 s q f bs (rs.take (i + 1)) (n + 4 * i + 2) L (us.take (i + 1))) ?_ ?_
    · rintro σ H8 ⟨rfl, T8⟩
      clear T7 hrow7 hm7
      refine ⟨_, rfl, rfl, s, 2, _, rfl, by decide, by decide, T8.src, by omega, fun r9 H9 hr9 e9 S9 => ⟨rfl, _, rfl, ?_⟩⟩
      have T9 := T8.next e9 S9
      by_cases h0 : r9 = 0
      · subst h0
        rw [decide_eq_true (by rfl)]
        have sm9 := T9.sm S
        have LB9 : LAt BedRowAt H9 bd bs := (beds_om sm9 LB).same mo_bedrow cut_le
        refine ⟨_, rfl, _, rfl, _, rfl, rfl, bd, L, bs, Nm, rs.take (i + 1), rfl, LB9, ⟨_, T9.lst, (f6 sm9).same mo_row cut_le⟩, BO, hown, hok1, by rw [List.length_take]; omega, fun l h => hbd l (List.mem_of_mem_take h), fun c ys Ha Ca hT Ra => ?_⟩
        have e9a : Same H9 Ha := fun a o h => Ca.kp a o (fun z => z) h
        have Ta := T9.same e9a
        have Rc : Rep knLaw (Ball bs) 5000 (cut Ha F5) c (led bs ys) := Ra.law_cut (KN.led bs ys) (fun a h1 h2 => by
          obtain ⟨o, ho⟩ := T9.led.dom h1
          exact (Ca.nw a h2).elim (fun z => z.elim) fun z => by rw [z] at ho; cases ho) Ta.led.idle
        refine ⟨_, rfl, rfl, F5, q, f, bs, Nm, rs.take (i + 1), ys, c, 5000, bd, rfl, ⟨⟨Ta.led, hown, hok1⟩, Rc, beds_om (Ta.sm S) LB, hT⟩, fun Fb Hb Cb Ab => ⟨true, rfl, ?_⟩⟩
        exact ⟨Fb, _, _, rfl, by
          have Tb := Ta.chg Cb Ab.ask.la
          exact ⟨Tb.led, Tb.src.le (by omega), Tb.fs, Tb.fL, Tb.Ls, Tb.L0, Tb.lst, Tb.but, Tb.new⟩⟩
      · rw [decide_eq_false (show ¬ V.int (r9 : Nat) = V.int 0 from fun z => by injection z with z; omega)]
        exact ⟨F5, _, _, rfl, ⟨T9.led, T9.src.le (by omega), T9.fs, T9.fL, T9.Ls, T9.L0, T9.lst, T9.but, T9.new⟩⟩
    · intro r' hr'
      refine ⟨_, rfl, rfl, s, 3, _, rfl, by decide, by decide, T7.src, by omega, fun r8 H8 hr8 e8 S8 => ⟨rfl, _, rfl, ?_⟩⟩
      have T8 := T7.next e8 S8
      by_cases h0 : r8 = 0
      · subst h0
        rw [decide_eq_true (by rfl)]
        obtain ⟨dx8, kn8, cm8, hx8, _⟩ := id T8.led.ex
        have hrow8 := (f6 (T8.sm S)).2 r7 v7 l7 hv7 hl7
        refine ⟨_, rfl, q, dx8, _, rfl, hx8, rfl, _, rfl, rfl, v7, l7, cut H8 F5, rfl, cut_le, hrow8, made_ok BO (hok1 l7 hm7), fun p H9 hp e9 hmk => ?_⟩
        have T9 := T8.same e9
        have hpF : ¬ F5 p := T8.led.new (Same.refl _) hp
        refine ⟨rfl, q, F5, f, bs, rs.take (i + 1), Nm, .ref p, l7, rfl, T9.led, hmk _ (Chg.of e9).cut fun o h => cut_of hpF h, hok1 l7 hm7, .inr ⟨hm7, fun Hb eb => ⟨rfl, _, rfl, ?_⟩⟩⟩
        rw [decide_eq_true (show V.str "again" = V.str "again" from rfl)]
        exact hr' _ _ ⟨rfl, T9.same eb⟩
      · rw [decide_eq_false (show ¬ V.int (r8 : Nat) = V.int 0 from fun z => by injection z with z; omega)]
        exact hr' _ _ ⟨rfl, T8⟩
  · rintro σ H3 ⟨F3, u6, u7, rfl, T3⟩
    have e : us.length = rs.length := fus.1
    rw [e, List.take_length] at T3
    exact ⟨_, rfl, k q F3 H3 T3.but (T3.src.le (by omega)) T3.fs T3.led T3.new⟩
end
end RP
set_option Elab.async false
set_option linter.all false
set_option maxRecDepth 100000
set_option maxHeartbeats 400000
/-! rootpledge k80: the law -/
namespace RP
open PySem PySem.Spec PyProof.Rows L2
theorem sql_at {K : PySem.W.Frag} {H H' : Hp} {a : Addr} {xs : List V} (h : SqL K H a xs) (e : ∀ o, H a = some o → H' a = some o) : SqL K H' a xs :=
  h.elim (fun h => .inl (h.elim (fun h => .inl (e _ h)) fun ⟨o, h⟩ => .inr ⟨o, e _ h⟩)) fun h => .inr h
theorem But.cut1 {s : Addr} {H H' : Hp} (e : But s H H') : Same (cut H fun a => a = s) (cut H' fun a => a = s) := fun a o h => cut_of (cut_some h).1 (e a o (cut_some h).1 (cut_some h).2)
theorem fits_perm {α : Type} {R : Hp → V → α → Prop} {H : Hp} {us zs : List V} (p : zs.Perm us) : ∀ {rs : List α}, Fits R H us rs → ∃ rs', rs'.Perm rs ∧ Fits R H zs rs' := by
  induction p with
  | nil => exact fun {rs} f => ⟨rs, List.Perm.refl _, f⟩
  | @cons v l1 l2 _ ih =>
    intro rs f
    cases rs with
    | nil => cases f.1
    | cons r rs =>
      obtain ⟨rs', h1, h2⟩ := ih (rs := rs) ⟨Nat.succ.inj f.1, fun i v x h1 h2 => f.2 (i + 1) v x (by simpa using h1) (by simpa using h2)⟩
      exact ⟨r :: rs', h1.cons r, h2.cons (f.2 0 v r rfl rfl)⟩
  | @swap v w l =>
    intro rs f
    match rs, f with
    | [], f => cases f.1
    | [_], f => cases f.1
    | r1 :: r2 :: rs, f =>
      refine ⟨r2 :: r1 :: rs, List.Perm.swap _ _ _, ?_⟩
      have ft : Fits R H l rs := ⟨Nat.succ.inj (Nat.succ.inj f.1), fun i v x h1 h2 => f.2 (i + 2) v x (by simpa using h1) (by simpa using h2)⟩
      exact (ft.cons (f.2 0 _ r1 rfl rfl)).cons (f.2 1 _ r2 rfl rfl)
  | trans _ _ ih1 ih2 =>
    intro rs f
    obtain ⟨r1, h1, f1⟩ := ih2 f
    obtain ⟨r2, h2, f2⟩ := ih1 f1
    exact ⟨r2, h2.trans h1, f2⟩
theorem cells_of {ns : List Int} : ∃ cs : List Int, cutV (ns.map V.int) (some 1) (some 21) ++ [V.int 0, .int 1, .int 2, .int 3] = cs.map V.int ∧ cs.length ≤ 24 := by
  refine ⟨(ns.drop (HT.sIx ns.length 0 (some 1))).take (HT.sIx ns.length ns.length (some 21) - HT.sIx ns.length 0 (some 1)) ++ [0, 1, 2, 3], ?_, ?_⟩
  · unfold cutV
    rw [List.length_map, List.map_append, List.map_take, List.map_drop]
    rfl
  · rw [show (some (1 : Int)) = some (((1 : Nat) : Int)) from rfl, show (some (21 : Int)) = some (((21 : Nat) : Int)) from rfl, HT.sIx_nat, HT.sIx_nat, List.length_append, List.length_take, List.length_drop]
    show _ + 4 ≤ 24
    omega
def sp_law (K : PySem.W.Frag) : Sp := spA 1 fun vs H Q => ∃ (a : Addr) (ns : List Int), vs = [.ref a] ∧ SqL K H a (ns.map V.int) ∧ ns.length ≤ 63 ∧ ∀ H', Q (.bl true) H'
section
variable {P : Program} {w : World} {K : PySem.W.Frag} {mg : Str → Option Value} {base : Heap}
theorem fn_law (T : Txt K mg) {fd : FuncData} (F : FunD K "law" "law" (defArgs s_law) (defBody s_law) (defScope s_law) [] [] (He.ga K "law") fd) : FnOk P w K mg base CX0 11 (He.ga K "law") fd ["_law_script"] (sp_law K) := by
  refine fn_body F sc_law rfl (fun cdv A outer s H vs Q E hr h => ?_)
  have nd := sc_law.nd
  have hu := hu_of hr
  obtain ⟨a, sc, rfl, hsc, hsl, k⟩ := h
  refine ⟨_, (pss_cons (ps_set (i := 1) nd rfl (Or.inl rfl) (pe_f (ok_law_source T) (hr.mono (by decide)) (pa_cons (pe_f (ok_law_cell_at T) (hr.mono (by decide)) (pa_cons (pv 0) (pa_cons pe_int pa_nil))) pa_nil)))
      (pss_cons (ps_asg (pe_f (ok_law_scene T) (hr.mono (by decide)) (pa_cons (pv 1) (pa_cons pe_int pa_nil))) (pg_tup rfl (pgs_cons (pg_name (i := 2) nd rfl (.inl rfl)) (pgs_cons (pg_name (i := 3) nd rfl (.inl rfl)) (pgs_cons (pg_name (i := 4) nd rfl (.inl rfl)) pgs_nil)))))
      (pss_cons (ps_set (i := 5) nd rfl (Or.inl rfl) (pe_f (ok_law_rows T) (hr.mono (by decide)) (pa_cons (pv 1) (pa_cons (pe_op op_cat (pe_slice sl_list (pv 0) (po_some pe_int) (po_some pe_int)) (pe_lst (pa_cons pe_int (pa_cons pe_int (pa_cons pe_int (pa_cons pe_int pa_nil)))))) (pa_cons (pv 2) (pa_cons (pv 3) (pa_cons (pe_f (ok_law_things T) (hr.mono (by decide)) (pa_cons (pv 3) pa_nil)) pa_nil)))))))
      (pss_cons (ps_set (i := 6) nd rfl (Or.inl rfl) (pe_f (ok_law_led T) (hr.mono (by decide)) (pa_cons (pv 3) (pa_cons (pv 5) pa_nil))))
      (pss_cons (ps_set (i := 7) nd rfl (Or.inl rfl) (pe_f (ok_law_turned T) (hr.mono (by decide)) (pa_cons (pv 1) (pa_cons (pv 5) pa_nil))))
      (pss_cons (ps_for PassesOwn.never rfl (pi_list (pe_lst (pa_cons (pe_f (ok_law_in_time T) (hr.mono (by decide)) (pa_cons (pv 5) pa_nil)) (pa_cons (pv 7) (pa_cons (pe_rev (pv 7)) pa_nil))))) (pg_name (i := 8) nd rfl (.inl rfl))
      (pss_cons (ps_set (i := 9) nd rfl (Or.inl rfl) (pe_f (ok_law_told T) (hr.mono (by decide)) (pa_cons (pv 1) (pa_cons (pv 3) (pa_cons (pv 4) (pa_cons (pv 8) pa_nil))))))
      (pss_one (ps_if (PW.pt (pw_or (pt_cmpR op_isN (pv 9) pe_non (nomark _)) (pw_or (pt_not (pt_val (pe_f (ok_law_alike T) (hr.mono (by decide)) (pa_cons (pv 9) (pa_cons (pv 6) (pa_cons (pv 3) pa_nil)))))) (pw_or1 (pt_cmpR op_ne (pe_callB (call_lenObj (ok_Ledger_len T) (hr.mono (by decide))) (by rfl) T.n_len b_len (pa_cons (pv 9) pa_nil)) (pe_callB call_len_seq (by rfl) T.n_len b_len (pa_cons (pv 5) pa_nil)) (nomark _)))))) (pss_one (ps_ret pe_bl)) pss_nil))))
      (pss_one (ps_ret pe_bl)))))))), ?_⟩
  refine ⟨_, rfl, rfl, a, sc, 0, rfl, hsc, by omega, fun i => ⟨rfl, i, rfl, fun s H1 hs e1 S1 => ?_⟩⟩
  show tSeq _ _ _ [some (.ref a), some (.ref s), none, none, none, none, none, none, none, none] H1
  refine ⟨_, rfl, rfl, s, 0, rfl, S1, by decide, fun t n4 bd f ns bs H2 b2 S2 ht hn4 hn4s hl4 hnok hnd BO hown LB FF hb3 => ?_⟩
  refine ⟨t, _, rfl, SqT.of ht, rfl, _, _, rfl, _, _, rfl, _, _, rfl, rfl, ?_⟩
  show tSeq _ _ _ [some (.ref a), some (.ref s), some (.ref n4), some (.ref bd), some (.ref f), none, none, none, none, none] H2
  have hsc2 : SqL K H2 a (sc.map V.int) := sql_at hsc fun o e => b2 a o (ne_of_none e hs) (e1 _ _ e)
  have LB2 := LB.same mo_bedrow cut_le
  -- rows
  refine ⟨_, rfl, _, rfl, _, rfl, _, rfl, a, _, rfl, hsc2, fun p3 hp3 => ?_⟩
  have e3 := same_upd (o := .lst (cutV (sc.map V.int) (some 1) (some 21))) (Same.refl H2) hp3
  have g3 : upd H2 p3 (.lst (cutV (sc.map V.int) (some 1) (some 21))) p3 = some (.lst (cutV (sc.map V.int) (some 1) (some 21))) := upd_same
  generalize upd H2 p3 (.lst (cutV (sc.map V.int) (some 1) (some 21))) = H3 at e3 g3
  refine ⟨by show 4 ≤ sizeLine; decide, fun p4 hp4 => ?_⟩
  have e4 := same_upd (o := .lst [V.int 0, .int 1, .int 2, .int 3]) (Same.refl H3) hp4
  have g4 : upd H3 p4 (.lst [V.int 0, .int 1, .int 2, .int 3]) p4 = some (.lst [V.int 0, .int 1, .int 2, .int 3]) := upd_same
  generalize upd H3 p4 (.lst [V.int 0, .int 1, .int 2, .int 3]) = H4 at e4 g4
  obtain ⟨cs, hcs, hcl⟩ := cells_of (ns := sc)
  refine ⟨p3, p4, _, _, rfl, rfl, e4 _ _ g3, g4, ?_, fun p5 hp5 => ?_⟩
  · have h := cutV_length (sc.map V.int) (some 1) (some 21)
    rw [List.length_map] at h
    exact Nat.le_trans (Nat.add_le_add h (Nat.le_refl 4)) (Nat.le_trans (show sc.length + 4 ≤ 67 by omega) (by decide))
  have e5 := same_upd (o := .lst (cutV (sc.map V.int) (some 1) (some 21) ++ [V.int 0, .int 1, .int 2, .int 3])) (Same.refl H4) hp5
  have g5 : upd H4 p5 (.lst (cutV (sc.map V.int) (some 1) (some 21) ++ [V.int 0, .int 1, .int 2, .int 3])) p5 = some (.lst (cs.map V.int)) := by rw [upd_same, hcs]
  generalize upd H4 p5 (.lst (cutV (sc.map V.int) (some 1) (some 21) ++ [V.int 0, .int 1, .int 2, .int 3])) = H5 at e5 g5
  have e25 := (e3.trans e4).trans e5
  refine ⟨_, rfl, _, rfl, _, rfl, rfl, bd, bs, rfl, LB2.same mo_bedrow e25, BO, fun th tvs H6 hth e6 gth h0 h100 htt => ?_⟩
  have e26 := e25.trans e6
  refine ⟨rfl, s, p5, n4, bd, th, cs, ns, tvs, bs, rfl, e6 _ _ g5, hcl, e26 _ _ hn4, ⟨hl4, hnok, hnd⟩, LB2.same mo_bedrow e26, BO, hown, gth, h0, h100, htt, fun rw_ us rs H7 hrw e7 grw fr hrl hok hbd hnn => ?_⟩
  have e27 := e26.trans e7
  have S7 := S2.same e27
  have LB7 := LB2.same mo_bedrow e27
  have FF7 := (FF.same cut_le).same e27
  have rws : rw_ ≠ s := src_ne (S2.same e26) hrw
  clear e3 g3 e4 g4 e5 g5 e25 e6 e26 gth htt LB2 hsc2 hp5 hp4 hp3 hth
  show tSeq _ _ _ [some (.ref a), some (.ref s), some (.ref n4), some (.ref bd), some (.ref f), some (.ref rw_), none, none, none, none] H7
  -- state
  refine ⟨_, rfl, _, rfl, rfl, bd, rw_, bs, (· ∈ ns), rs, rfl, LB7, ⟨us, grw, fr⟩, BO, hown, hok, by omega, hbd, fun c ys H8 C8 hT R8 => ?_⟩
  have e8 : Same H7 H8 := fun a o h => C8.kp a o (fun z => z) h
  have S8 := S7.same e8
  have nc : ¬ foot c (Ball bs) s := fun z => by
    obtain ⟨o, ho, _⟩ := S7.odd
    rcases C8.nw s z with z | z
    · exact z
    · rw [ho] at z
      cases z
  show tSeq _ _ _ [some (.ref a), some (.ref s), some (.ref n4), some (.ref bd), some (.ref f), some (.ref rw_), some (.ref (c .root)), none, none, none] H8
  -- mixed
  have ul : us.length = rs.length := fr.1
  refine ⟨_, rfl, _, rfl, rfl, s, rw_, 300, us, rfl, S8.le (by omega), by decide, e8 _ _ grw, by omega, fun mx zs H9 hmx b9 S9 gmx hpz => ?_⟩
  have R9 := b9.rep S8 law_om nc R8
  have sm9 := b9.sm S8
  have LB9 := beds_om sm9 (LB7.same mo_bedrow e8)
  have FF9 := (FF7.same e8).om sm9
  have fr9 : Fits (RowAt K) H9 us rs := (fr.same mo_row e8).om om_row sm9
  have grw9 := b9 _ _ rws (e8 _ _ grw)
  obtain ⟨rz, hpr, frz⟩ := fits_perm hpz fr9
  show tSeq _ _ _ [some (.ref a), some (.ref s), some (.ref n4), some (.ref bd), some (.ref f), some (.ref rw_), some (.ref (c .root)), some (.ref mx), none, none] H9
  -- the three orders
  refine ⟨_, rfl, rfl, rw_, rs, H9, rfl, Same.refl _, ⟨us, grw9, fr9⟩, by omega, hbd, fun pt ysI usI H10 hpi e10 hTI gpi fTI => ?_⟩
  refine ⟨_, rfl, _, rfl, mx, zs, rfl, SqL.of (e10 _ _ gmx), fun p11 hp11 => ⟨(by show 3 ≤ sizeLine; decide), fun L hL => ?_⟩⟩
  have e11 := same_upd (o := .lst zs.reverse) (Same.refl H10) hp11
  have g11 : upd H10 p11 (.lst zs.reverse) p11 = some (.lst zs.reverse) := upd_same
  generalize upd H10 p11 (.lst zs.reverse) = H11 at e11 g11 hL
  have e12 := same_upd (o := .lst [V.ref pt, .ref mx, .ref p11]) (Same.refl H11) hL
  have g12 : upd H11 L (.lst [V.ref pt, .ref mx, .ref p11]) L = some (.lst [V.ref pt, .ref mx, .ref p11]) := upd_same
  generalize upd H11 L (.lst [V.ref pt, .ref mx, .ref p11]) = H12 at e12 g12
  have e912 := (e10.trans e11).trans e12
  have S12 := S9.same e912
  have Ls : L ≠ s := src_ne (S9.same (e10.trans e11)) hL
  have R12 := R9.same e912
  have LB12 := LB9.same mo_bedrow e912
  have FF12 := FF9.same e912
  have grw12 := e912 _ _ grw9
  obtain ⟨rv, hrv, frv⟩ := fits_perm (List.reverse_perm zs) frz
  have three : ∀ (i : Nat) v, [V.ref pt, V.ref mx, .ref p11][i]? = some v → ∃ q rq, v = V.ref q ∧ LAt (RowAt K) H12 q rq ∧ rq.Perm rs := by
    intro i v h
    match i, h with
    | 0, h => exact ⟨pt, ysI, (Option.some.inj h).symm, ⟨usI, (e11.trans e12) _ _ gpi, fTI.same mo_row e912⟩, hTI.perm⟩
    | 1, h => exact ⟨mx, rz, (Option.some.inj h).symm, ⟨zs, e912 _ _ gmx, frz.same mo_row e912⟩, hpr⟩
    | 2, h => exact ⟨p11, rv, (Option.some.inj h).symm, ⟨zs.reverse, e12 _ _ g11, frv.same mo_row e912⟩, hrv.trans hpr⟩
  clear R9 LB9 FF9 fr9 grw9 frz frv fTI gpi gmx g11 e11 hp11 hpi e10 e912 hL e12
  refine ⟨L, rfl, ⟨_, SqL.of g12⟩, ?_⟩
  refine for_list (K := K) (xs := [V.ref pt, .ref mx, .ref p11]) (fun i σ H' => ∃ u8 u9, σ = [some (.ref a), some (.ref s), some (.ref n4), some (.ref bd), some (.ref f), some (.ref rw_), some (.ref (c .root)), some (.ref mx), u8, u9] ∧ SrcAt H' s (700 + 100 * i) ∧ But s H12 H') ⟨_, _, rfl, S12.le (by omega), But.of (Same.refl _)⟩
    (fun i σ H' _ ⟨_, _, _, _, b⟩ => SqL.of (b _ _ Ls g12)) ?_ ?_
  · rintro i v σ H13 hv ⟨u8, u9, rfl, S13, b13⟩
    have hi : i < 3 := (List.getElem?_eq_some_iff.mp hv).1
    obtain ⟨q, rq, rfl, LR, hperm⟩ := three i v hv
    have sm13 := b13.sm S12
    have hql : rq.length = rs.length := hperm.length_eq
    have hok' : ∀ l ∈ rq, LnOk bs (· ∈ ns) l := fun l h => hok l (hperm.mem_iff.mp h)
    have hbd' : ∀ l ∈ rq, l.mom < 1000 ∧ l.num < 1000 := fun l h => hbd l (hperm.mem_iff.mp h)
    have hnn' : (rq.map (·.num)).Nodup := ((hperm.map _).nodup_iff).mpr hnn
    have hT' : InTime rq ys := ⟨hT.perm.trans hperm.symm, hT.ord⟩
    refine ⟨_, rfl, _, rfl, _, rfl, _, rfl, rfl, s, bd, f, q, _, bs, (· ∈ ns), rq, rfl, S13, by omega, beds_om sm13 LB12, FF12.om sm13, rows_om sm13 LR, by omega, hown, hok', hbd', hnn', fun x F H14 b14 S14 nF L14 hnew => ?_⟩
    have old : ∀ b o, b ≠ s → H12 b = some o → cut H14 F b = some o := fun b o hb h => cut_of (fun z => by
      have := hnew b z
      rw [b13 _ _ hb h] at this
      cases this) (b14 _ _ hb (b13 _ _ hb h))
    have sm14 : Sm H12 (cut H14 F) := fun b o h n => old b o (fun z => by
      obtain ⟨u, hu, hod⟩ := S12.odd
      rw [← z, h] at hu
      cases hu
      exact n hod) h
    have Rc : Rep knLaw (Ball bs) 5000 (cut H14 F) c (led bs ys) := R12.om law_om fun b o h z => old b o (fun e => by
      subst e
      obtain ⟨u, hu, hod⟩ := S12.odd
      rw [h] at hu
      cases hu
      exact z.elim (fun z => z hod) nc) h
    refine ⟨_, rfl, rfl, _, rfl, ?_⟩
    rw [decide_eq_false (show ¬ V.ref x = V.non from fun z => by cases z)]
    refine ⟨_, rfl, _, rfl, _, rfl, rfl, F, x, f, bs, (· ∈ ns), rq, ys, c, 5000, bd, rfl, ⟨⟨L14, hown, hok'⟩, Rc, beds_om sm14 LB12, hT'⟩, fun F2 H15 C15 A15 => ⟨true, rfl, ?_⟩⟩
    obtain ⟨dx, kn, cm, hx, ⟨kvs, hk, hk1, hk2⟩, _⟩ := A15.ask.la.ex
    have b15 : But s H12 H15 := fun b o hb h => C15.kp _ _ (cut_some (old b o hb h)).1 (cut_some (old b o hb h)).2
    have hkl : kvs.length = us.length := by
      have h := congrArg List.length hk1
      rw [List.length_map, List.length_map] at h
      omega
    refine ⟨_, rfl, x, dx, _, rfl, hx, rfl, x, dx, f, kn, cm, kvs, rfl, hx, hk, kvs.length, rfl, by omega, _, rfl, rw_, us, rfl, .inl (SqL.of (b15 _ _ rws grw12)), rfl, _, rfl, ?_⟩
    rw [decide_eq_true (by rw [hkl])]
    obtain ⟨i1, i2, i3, hs14, r14⟩ := S14
    exact ⟨_, _, rfl, SrcAt.le ⟨i1, i2, i3, C15.kp _ _ nF hs14, r14⟩ (by omega), b15⟩
  · rintro σ H13 ⟨u8, u9, rfl, S13, b13⟩
    exact k H13
end
end RP
set_option Elab.async false
set_option linter.all false
set_option maxRecDepth 100000
set_option maxHeartbeats 0
/-! rootpledge k80: the end -/
namespace RP
open PySem PySem.Spec PyProof.Rows L2
theorem facts {P : Program} {w : World} {K : PySem.W.Frag} {h : Heap} {mg : Str → Option Value} {f : Addr} (X : K.In h) (G : h.Ns mainGlobals mg) (hfa : mg ("law" : Str) = some (.ref f)) (c : He.SaysD faL fnL K) (m : exL K = true) :
    ∃ fd : FuncData, (∀ (s : Shared) (v : Value), BindsTo s fd ⟨[v], []⟩ [("_law_script", v)]) ∧ ∀ base : Heap, K.In base → base.Ns mainGlobals mg → FnOk P w K mg base CX0 11 f fd ["_law_script"] (sp_law K) := by
  have T := txt X G c m
  obtain ⟨fd, F⟩ := T.d_law
  have e := hfa.symm.trans T.g_law
  cases e
  have b := FunD.bindsA (ps := ["_law_script"]) F fun _ _ _ _ _ _ us hl => match us, hl with | [_], _ => rfl
  exact ⟨fd, fun s v => b s [v] rfl, fun base _ _ => fn_law T F⟩
end RP
open PySem PySem.W PySem.Calls PyProof.Rows
theorem PySem.Challenge.cw_rootpledge_k80_whole_late_as_in_time_holds : PySem.Challenge.rw_rootpledge_k80_whole_late_as_in_time.Holds := by
  w_on; o_law
  refine HandSHeadRun.head_any (r := OpenLaw.row PySem.Challenge.rw_rootpledge_k80_whole_late_as_in_time) (q := view (OpenLaw.row PySem.Challenge.rw_rootpledge_k80_whole_late_as_in_time).prog [86]) (H := RP.hk) (ob := RP.ob) (M := 8000) (loose := RP.loL)
    (d := HandSHeadRun.topDef (OpenLaw.row PySem.Challenge.rw_rootpledge_k80_whole_late_as_in_time).prog 86) (kwd := []) RP.ob_eq (by kernel_rfl) (fun s => by kernel_rfl) RP.run (by kernel_rfl) (by kernel_rfl) (by kernel_rfl) (by rfl) (by first | assumption | decide +kernel) (by decide +kernel)
    ⟨rfl, rfl, rfl, rfl, rfl, by decide +kernel⟩ ?hw ?hc
  case hw => w_witness2
  case hc =>
    refine L2.walk_ofE (l := PySem.Challenge.rw_rootpledge_k80_whole_late_as_in_time) (n := 63) (k := 11) (x := "_law_script") (CX := L2.CX0) rfl (by decide) (by kernel_rfl) ⟨rfl, by decide, by decide⟩ ?F (fun _ _ _ _ z => z)
    intro w mg fa h Y G hmg0
    obtain ⟨K, KX, c, m⟩ := Y
    have hmg : mg ("law" : PySem.Str) = some (.ref fa) := by
      have e : (HandSHeadRun.topDef (OpenLaw.row PySem.Challenge.rw_rootpledge_k80_whole_late_as_in_time).prog 86).name = ("law" : PySem.Str) := by kernel_rfl
      rw [← e]
      exact hmg0
    obtain ⟨fd, hb, hF⟩ := RP.facts (P := PySem.Challenge.rw_rootpledge_k80_whole_late_as_in_time.prog) (w := w) KX G hmg c m
    exact ⟨K, fd, RP.sp_law K, KX, hb, fun H a ns hl _ hS => ⟨rfl, a, ns, rfl, hS, hl, fun _ => rfl⟩, hF⟩
