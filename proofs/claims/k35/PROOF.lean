import PyProof.Rows.All
import Wide.All
import OpenK.AllK
import Wide.FinOn
import HandS.ForMost
import PySem.Challenge.RW_bytetale_k35_whole_listings
import HandS.IsInst
import HandS.Evl
import PyProof.EqAt
import PyProof.EqKinds
import PyProof.TupleCall
import KE.GoesMore
import KE.GoesZip
import HandS.Walk
import HandS.More
import PyProof.DictTable
import KE.KFromBytes
import KE.KBytesHexOf
import HandS.ToBytes
import KE.KUnpackStar
import HandS.NoneIn
import PyProof.Rows.SortShell
import KE.KSortTup
import HandS.Sort
import HandS.SortOrd
import HandS.SortRule
import HandS.Exc
import HandS.TryOnly
import HandS.ExcOwn
import HandS.WordsExc
import HandS.ExcInit
import HandS.ExcField
import HandS.ExcIs
import PyProof.DictUpdate
import PyProof.DictWalks
import PyProof.MinMaxWalk
import HandS.DictComp
import HandS.WordsDict
import HandS.Bytes
import HandS.SortInts
import HandS.Conv
import HandS.Text
import HandS.RaiseMore
import HandS.Codes
import KE.KEqDict
import HandS.Wide
import HandS.Style
import HandS.SetFor
import HandS.ListItems
import HandS.ReplaceList
import KE.KExcIs
import HandS.Replace
import HandS.ReplaceLit
set_option Elab.async false
set_option linter.all false
set_option maxRecDepth 100000
set_option maxHeartbeats 4000000
/-! The text by places; the names of each def by slots. Printed by gen_top.py. -/
namespace BT
open PySem PySem.Spec PyProof.Rows L2
def topS (i : Nat) : Stmt := PySem.Challenge.pw_bytetale_k35_whole_listings.main.body.getD i (.Pass ⟨0, 0, 0, 0⟩)
abbrev sInit : Stmt := inClass (topS 4) 0
abbrev nInit : List Str := ["self", "row"]
theorem scInit : FnScope nInit ["self", "row"] (defScope sInit) := ⟨rfl, rfl, rfl, by decide +kernel, rfl, by decide +kernel, by decide +kernel⟩
abbrev sIsWhole : Stmt := topS 8
abbrev nIsWhole : List Str := ["thing", "low", "high"]
theorem scIsWhole : FnScope nIsWhole ["thing", "low", "high"] (defScope sIsWhole) := ⟨rfl, rfl, rfl, by decide +kernel, rfl, by decide +kernel, by decide +kernel⟩
abbrev sIsByte : Stmt := topS 9
abbrev nIsByte : List Str := ["thing"]
theorem scIsByte : FnScope nIsByte ["thing"] (defScope sIsByte) := ⟨rfl, rfl, rfl, by decide +kernel, rfl, by decide +kernel, by decide +kernel⟩
abbrev sIsPlace : Stmt := topS 10
abbrev nIsPlace : List Str := ["thing"]
theorem scIsPlace : FnScope nIsPlace ["thing"] (defScope sIsPlace) := ⟨rfl, rfl, rfl, by decide +kernel, rfl, by decide +kernel, by decide +kernel⟩
abbrev sCheckImage : Stmt := topS 18
abbrev nCheckImage : List Str := ["image"]
theorem scCheckImage : FnScope nCheckImage ["image"] (defScope sCheckImage) := ⟨rfl, rfl, rfl, by decide +kernel, rfl, by decide +kernel, by decide +kernel⟩
abbrev sCheckPlace : Stmt := topS 19
abbrev nCheckPlace : List Str := ["place"]
theorem scCheckPlace : FnScope nCheckPlace ["place"] (defScope sCheckPlace) := ⟨rfl, rfl, rfl, by decide +kernel, rfl, by decide +kernel, by decide +kernel⟩
abbrev sSignsOf : Stmt := topS 20
abbrev nSignsOf : List Str := ["word"]
theorem scSignsOf : FnScope nSignsOf ["word"] (defScope sSignsOf) := ⟨rfl, rfl, rfl, by decide +kernel, rfl, by decide +kernel, by decide +kernel⟩
abbrev sNeedOf : Stmt := topS 21
abbrev nNeedOf : List Str := ["word", "image", "place", "many", "sign"]
theorem scNeedOf : FnScope nNeedOf ["word", "image", "place"] (defScope sNeedOf) := ⟨rfl, rfl, rfl, by decide +kernel, rfl, by decide +kernel, by decide +kernel⟩
abbrev sPlacesIn : Stmt := topS 22
abbrev nPlacesIn : List Str := ["image", "begin", "many", "at"]
theorem scPlacesIn : FnScope nPlacesIn ["image", "begin", "many"] (defScope sPlacesIn) := ⟨rfl, rfl, rfl, by decide +kernel, rfl, by decide +kernel, by decide +kernel⟩
abbrev sRowIn : Stmt := topS 23
abbrev nRowIn : List Str := ["image", "place", "word", "many", "things", "at", "sign"]
theorem scRowIn : FnScope nRowIn ["image", "place"] (defScope sRowIn) := ⟨rfl, rfl, rfl, by decide +kernel, rfl, by decide +kernel, by decide +kernel⟩
abbrev sIsThing : Stmt := topS 24
abbrev nIsThing : List Str := ["sign", "thing", "one"]
theorem scIsThing : FnScope nIsThing ["sign", "thing"] (defScope sIsThing) := ⟨rfl, rfl, rfl, by decide +kernel, rfl, by decide +kernel, by decide +kernel⟩
abbrev sAreThings : Stmt := topS 25
abbrev nAreThings : List Str := ["word", "things", "signs", "sign", "thing"]
theorem scAreThings : FnScope nAreThings ["word", "things"] (defScope sAreThings) := ⟨rfl, rfl, rfl, by decide +kernel, rfl, by decide +kernel, by decide +kernel⟩
abbrev sRowAt : Stmt := topS 26
abbrev nRowAt : List Str := ["image", "place"]
theorem scRowAt : FnScope nRowAt ["image", "place"] (defScope sRowAt) := ⟨rfl, rfl, rfl, by decide +kernel, rfl, by decide +kernel, by decide +kernel⟩
abbrev sTargetsOf : Stmt := topS 27
abbrev nTargetsOf : List Str := ["row"]
theorem scTargetsOf : FnScope nTargetsOf ["row"] (defScope sTargetsOf) := ⟨rfl, rfl, rfl, by decide +kernel, rfl, by decide +kernel, by decide +kernel⟩
abbrev sGoesOn : Stmt := topS 28
abbrev nGoesOn : List Str := ["row"]
theorem scGoesOn : FnScope nGoesOn ["row"] (defScope sGoesOn) := ⟨rfl, rfl, rfl, by decide +kernel, rfl, by decide +kernel, by decide +kernel⟩
abbrev sWaysAt : Stmt := topS 30
abbrev nWaysAt : List Str := ["image", "place", "is_body", "row", "many", "found"]
theorem scWaysAt : FnScope nWaysAt ["image", "place", "is_body"] (defScope sWaysAt) := ⟨rfl, rfl, rfl, by decide +kernel, rfl, by decide +kernel, by decide +kernel⟩
abbrev sComeTo : Stmt := topS 31
abbrev nComeTo : List Str := ["image", "begin", "is_body", "found", "waiting", "place"]
theorem scComeTo : FnScope nComeTo ["image", "begin", "is_body"] (defScope sComeTo) := ⟨rfl, rfl, rfl, by decide +kernel, rfl, by decide +kernel, by decide +kernel⟩
abbrev sReached : Stmt := topS 32
abbrev nReached : List Str := ["image", "place"]
theorem scReached : FnScope nReached ["image"] (defScope sReached) := ⟨rfl, rfl, rfl, by decide +kernel, rfl, by decide +kernel, by decide +kernel⟩
abbrev sNever : Stmt := topS 33
abbrev nNever : List Str := ["image", "used", "place", "at", "found"]
theorem scNever : FnScope nNever ["image"] (defScope sNever) := ⟨rfl, rfl, rfl, by decide +kernel, rfl, by decide +kernel, by decide +kernel⟩
abbrev sHexed : Stmt := topS 36
abbrev nHexed : List Str := ["image"]
theorem scHexed : FnScope nHexed ["image"] (defScope sHexed) := ⟨rfl, rfl, rfl, by decide +kernel, rfl, by decide +kernel, by decide +kernel⟩
abbrev sOfHex : Stmt := topS 37
abbrev nOfHex : List Str := ["text", "found", "sign"]
theorem scOfHex : FnScope nOfHex ["text"] (defScope sOfHex) := ⟨rfl, rfl, rfl, by decide +kernel, rfl, by decide +kernel, by decide +kernel⟩
abbrev sPairsText : Stmt := topS 38
abbrev nPairsText : List Str := ["some", "one"]
theorem scPairsText : FnScope nPairsText ["some"] (defScope sPairsText) := ⟨rfl, rfl, rfl, by decide +kernel, rfl, by decide +kernel, by decide +kernel⟩
abbrev sWordsText : Stmt := topS 39
abbrev nWordsText : List Str := ["row", "found", "thing", "one"]
theorem scWordsText : FnScope nWordsText ["row"] (defScope sWordsText) := ⟨rfl, rfl, rfl, by decide +kernel, rfl, by decide +kernel, by decide +kernel⟩
abbrev sListingRows : Stmt := topS 40
abbrev nListingRows : List Str := ["image", "found", "place", "row", "many", "middle", "first", "last", "kind"]
theorem scListingRows : FnScope nListingRows ["image"] (defScope sListingRows) := ⟨rfl, rfl, rfl, by decide +kernel, rfl, by decide +kernel, by decide +kernel⟩
abbrev sListing : Stmt := topS 41
abbrev nListing : List Str := ["image", "row"]
theorem scListing : FnScope nListing ["image"] (defScope sListing) := ⟨rfl, rfl, rfl, by decide +kernel, rfl, by decide +kernel, by decide +kernel⟩
abbrev sBytesOf : Stmt := topS 42
abbrev nBytesOf : List Str := ["row", "parts", "words", "sign", "word"]
theorem scBytesOf : FnScope nBytesOf ["row"] (defScope sBytesOf) := ⟨rfl, rfl, rfl, by decide +kernel, rfl, by decide +kernel, by decide +kernel⟩
abbrev sReadListing : Stmt := topS 43
abbrev nReadListing : List Str := ["text", "rows", "behind", "found", "at", "row", "told", "image", "due", "spot", "byte"]
theorem scReadListing : FnScope nReadListing ["text"] (defScope sReadListing) := ⟨rfl, rfl, rfl, by decide +kernel, rfl, by decide +kernel, by decide +kernel⟩
abbrev sLCellAt : Stmt := topS 45
abbrev nLCellAt : List Str := ["_law_script", "_law_k"]
theorem scLCellAt : FnScope nLCellAt ["_law_script", "_law_k"] (defScope sLCellAt) := ⟨rfl, rfl, rfl, by decide +kernel, rfl, by decide +kernel, by decide +kernel⟩
abbrev sLDraw : Stmt := topS 46
abbrev nLDraw : List Str := ["_law_cell", "_law_k", "_law_below", "_law_primes"]
theorem scLDraw : FnScope nLDraw ["_law_cell", "_law_k", "_law_below"] (defScope sLDraw) := ⟨rfl, rfl, rfl, by decide +kernel, rfl, by decide +kernel, by decide +kernel⟩
abbrev sLNumber : Stmt := topS 47
abbrev nLNumber : List Str := ["_law_cell", "_law_k", "_law_below", "_law_power", "_law_times", "_law_rest", "_law_small"]
theorem scLNumber : FnScope nLNumber ["_law_cell", "_law_k", "_law_below"] (defScope sLNumber) := ⟨rfl, rfl, rfl, by decide +kernel, rfl, by decide +kernel, by decide +kernel⟩
abbrev sLNext : Stmt := topS 48
abbrev nLNext : List Str := ["_law_state", "_law_below", "_law_at", "_law_cell"]
theorem scLNext : FnScope nLNext ["_law_state", "_law_below"] (defScope sLNext) := ⟨rfl, rfl, rfl, by decide +kernel, rfl, by decide +kernel, by decide +kernel⟩
abbrev sLRow : Stmt := topS 49
abbrev nLRow : List Str := ["_law_state", "_law_many", "_law_sort", "_law_one", "_law_other"]
theorem scLRow : FnScope nLRow ["_law_state", "_law_many"] (defScope sLRow) := ⟨rfl, rfl, rfl, by decide +kernel, rfl, by decide +kernel, by decide +kernel⟩
abbrev sLTarget : Stmt := topS 50
abbrev nLTarget : List Str := ["_law_state", "_law_many"]
theorem scLTarget : FnScope nLTarget ["_law_state", "_law_many"] (defScope sLTarget) := ⟨rfl, rfl, rfl, by decide +kernel, rfl, by decide +kernel, by decide +kernel⟩
abbrev sLNumbers : Stmt := topS 51
abbrev nLNumbers : List Str := ["_law_state", "_law_more", "_law_many", "_law_rows_here", "_law_at", "_law_row_here", "_law_targets", "_law_begins", "_law_place", "_law_one", "_law_found", "_law_there", "_law_part"]
theorem scLNumbers : FnScope nLNumbers ["_law_state", "_law_more"] (defScope sLNumbers) := ⟨rfl, rfl, rfl, by decide +kernel, rfl, by decide +kernel, by decide +kernel⟩
abbrev sLIsSmall : Stmt := topS 52
abbrev nLIsSmall : List Str := ["_law_numbers_here", "_law_at"]
theorem scLIsSmall : FnScope nLIsSmall ["_law_numbers_here"] (defScope sLIsSmall) := ⟨rfl, rfl, rfl, by decide +kernel, rfl, by decide +kernel, by decide +kernel⟩
abbrev sLHex : Stmt := topS 53
abbrev nLHex : List Str := ["_law_numbers_here", "_law_signs", "_law_number_here"]
theorem scLHex : FnScope nLHex ["_law_numbers_here"] (defScope sLHex) := ⟨rfl, rfl, rfl, by decide +kernel, rfl, by decide +kernel, by decide +kernel⟩
abbrev sLRows : Stmt := topS 54
abbrev nLRows : List Str := ["_law_image", "_law_numbers_here", "_law_found", "_law_place", "_law_row_here", "_law_words", "_law_thing", "_law_some", "_law_middle", "_law_first", "_law_last", "_law_one", "_law_sort"]
theorem scLRows : FnScope nLRows ["_law_image", "_law_numbers_here"] (defScope sLRows) := ⟨rfl, rfl, rfl, by decide +kernel, rfl, by decide +kernel, by decide +kernel⟩
abbrev sLTold : Stmt := topS 55
abbrev nLTold : List Str := ["_law_text", "error"]
theorem scLTold : FnScope nLTold ["_law_text"] (defScope sLTold) := ⟨rfl, rfl, rfl, by decide +kernel, rfl, by decide +kernel, by decide +kernel⟩
abbrev sLBentRight : Stmt := topS 56
abbrev nLBentRight : List Str := ["_law_state", "_law_rows_here", "_law_at", "_law_odds", "_law_odd", "_law_late", "_law_found", "_law_text", "_law_some", "_law_row_here"]
theorem scLBentRight : FnScope nLBentRight ["_law_state", "_law_rows_here"] (defScope sLBentRight) := ⟨rfl, rfl, rfl, by decide +kernel, rfl, by decide +kernel, by decide +kernel⟩
abbrev sLaw : Stmt := topS 57
abbrev nLaw : List Str := ["_law_script", "_law_by", "_law_state", "_law_part", "_law_numbers_here", "_law_image", "_law_rows_here", "_law_text", "_law_bad", "_law_row_here"]
theorem scLaw : FnScope nLaw ["_law_script"] (defScope sLaw) := ⟨rfl, rfl, rfl, by decide +kernel, rfl, by decide +kernel, by decide +kernel⟩
end BT
/-! Own words: a def of the text (Dn), its promise (Own), its call (pe_own), the facts of the top (Txt). -/
namespace BT
open PySem PySem.Spec PyProof.Rows L2
/-- a def of the top -/
def Dn (K : PySem.W.Frag) (mg : Str → Option Value) (x : Str) (st : Stmt) (ps : List Str) : Prop :=
  ∃ f fd, Fun K x x st f fd ∧ mg x = some (.ref f) ∧ Binds K fd ps []
/-- a def of the top that keeps a promise -/
def Own (P : Program) (w : World) (K : PySem.W.Frag) (mg : Str → Option Value) (base : Heap) (CX : CXT) (k : Nat) (x : Str) (ps : List Str) (sp : Sp) : Prop :=
  ∃ f fd, FnOk P w K mg base CX k f fd ps sp ∧ mg x = some (.ref f) ∧ PySem.W.keepIn K (.ref f) = true ∧ Binds K fd ps []
section
variable {P : Program} {w : World} {K : PySem.W.Frag} {mg : Str → Option Value} {base : Heap} {CX : CXT} {k : Nat} {x : Str} {st : Stmt} {ps : List Str} {sp : Sp}
theorem own_of (D : Dn K mg x st ps) (h : ∀ f fd, Fun K x x st f fd → FnOk P w K mg base CX k f fd ps sp) : Own P w K mg base CX k x ps sp := by
  obtain ⟨f, fd, F, m, b⟩ := D
  exact ⟨f, fd, h f fd F, m, F.kp, b⟩
end
section
variable {X : Cx} {CX : CXT} {k : Nat} {ps : List Str} {sp : Sp} {E : XK} {x : Str} {p pos : Pos} {e : Expr} {es : List Expr} {t : TA}
theorem pe_own (O : Own X.prog X.w X.K X.mg X.base CX k x ps sp) (hr : Room k X.A) (hx : Passes CX X E) (ha : PA X (e :: es) t) (hg : Gl X x := by rfl) (hdb : (x == ("__debug__" : Str)) = false := by decide)
    (he : starEach (e :: es) X.env = (false, eval e X.env) :: starEach es X.env := by rfl) (hpl : (backTo pos (starEach es X.env)).any (·.1) = false := by rfl) :
    PE X (.Call (.Name x p) (e :: es) [] pos) (tCall sp [] E t) := by
  obtain ⟨f, fd, F, m, kp, b⟩ := O
  exact pe_call F hr hg m kp b .nil hx ha hdb he hpl
end
/-- a reading up to what follows -/
def upE (te : TE) : TE := fun σ H Q => ∃ Q' : VK, te σ H Q' ∧ ∀ v H', Q' v H' → Q v H'
theorem up_i {te : TE} {σ : L2.St} {H : Hp} {Q : VK} (h : te σ H Q) : upE te σ H Q := ⟨Q, h, fun _ _ z => z⟩
theorem PE_up {X : Cx} {e : Expr} {te : TE} (h : PE X e te) : PE X e (upE te) := ⟨fun pins s σ H Q I hw => by
  obtain ⟨Q', hw, im⟩ := hw
  exact thn (h.run pins s σ H Q' I hw) fun u s' ⟨v, H', I', r, q⟩ => ⟨v, H', I', r, im v H' q⟩⟩
theorem PE_imp {X : Cx} {e : Expr} {t t' : TE} (h : PE X e t) (im : ∀ σ H Q, t' σ H Q → t σ H Q) : PE X e t' := ⟨fun pins s σ H Q I hw => h.run pins s σ H Q I (im σ H Q hw)⟩
theorem PT_imp {X : Cx} {e : Expr} {t t' : TT} (h : PT X e t) (im : ∀ σ H Q, t' σ H Q → t σ H Q) : PT X e t' := ⟨fun pins s σ H Q I hw => h.run pins s σ H Q I (im σ H Q hw)⟩
theorem PS_imp {X : Cx} {st : Stmt} {t t' : TS} (h : PS X st t) (im : ∀ D σ H, t' D σ H → t D σ H) : PS X st t' := ⟨fun pins s σ H D I hw => h.run pins s σ H D I (im D σ H hw)⟩
/-- what the top has left -/
structure Txt (K : PySem.W.Frag) (mg : Str → Option Value) : Prop where
  isWhole : Dn K mg "is_whole" sIsWhole ["thing", "low", "high"]
  isByte : Dn K mg "is_byte" sIsByte ["thing"]
  isPlace : Dn K mg "is_place" sIsPlace ["thing"]
  checkImage : Dn K mg "check_image" sCheckImage ["image"]
  checkPlace : Dn K mg "check_place" sCheckPlace ["place"]
  signsOf : Dn K mg "signs_of" sSignsOf ["word"]
  needOf : Dn K mg "need_of" sNeedOf ["word", "image", "place"]
  placesIn : Dn K mg "places_in" sPlacesIn ["image", "begin", "many"]
  rowIn : Dn K mg "row_in" sRowIn ["image", "place"]
  isThing : Dn K mg "is_thing" sIsThing ["sign", "thing"]
  areThings : Dn K mg "are_things" sAreThings ["word", "things"]
  rowAt : Dn K mg "row_at" sRowAt ["image", "place"]
  targetsOf : Dn K mg "targets_of" sTargetsOf ["row"]
  goesOn : Dn K mg "goes_on" sGoesOn ["row"]
  waysAt : Dn K mg "ways_at" sWaysAt ["image", "place", "is_body"]
  comeTo : Dn K mg "come_to" sComeTo ["image", "begin", "is_body"]
  reached : Dn K mg "reached" sReached ["image"]
  never : Dn K mg "never" sNever ["image"]
  hexed : Dn K mg "hexed" sHexed ["image"]
  ofHex : Dn K mg "of_hex" sOfHex ["text"]
  pairsText : Dn K mg "pairs_text" sPairsText ["some"]
  wordsText : Dn K mg "words_text" sWordsText ["row"]
  listingRows : Dn K mg "listing_rows" sListingRows ["image"]
  listing : Dn K mg "listing" sListing ["image"]
  bytesOf : Dn K mg "bytes_of" sBytesOf ["row"]
  readListing : Dn K mg "read_listing" sReadListing ["text"]
  lCellAt : Dn K mg "_law_cell_at" sLCellAt ["_law_script", "_law_k"]
  lDraw : Dn K mg "_law_draw" sLDraw ["_law_cell", "_law_k", "_law_below"]
  lNumber : Dn K mg "_law_number" sLNumber ["_law_cell", "_law_k", "_law_below"]
  lNext : Dn K mg "_law_next" sLNext ["_law_state", "_law_below"]
  lRow : Dn K mg "_law_row" sLRow ["_law_state", "_law_many"]
  lTarget : Dn K mg "_law_target" sLTarget ["_law_state", "_law_many"]
  lNumbers : Dn K mg "_law_numbers" sLNumbers ["_law_state", "_law_more"]
  lIsSmall : Dn K mg "_law_is_small" sLIsSmall ["_law_numbers_here"]
  lHex : Dn K mg "_law_hex" sLHex ["_law_numbers_here"]
  lRows : Dn K mg "_law_rows" sLRows ["_law_image", "_law_numbers_here"]
  lTold : Dn K mg "_law_told" sLTold ["_law_text"]
  lBentRight : Dn K mg "_law_bent_right" sLBentRight ["_law_state", "_law_rows_here"]
  -- built-ins
  isinstance : mg "isinstance" = none
  int : mg "int" = none
  bool : mg "bool" = none
  str : mg "str" = none
  bytes : mg "bytes" = none
  list : mg "list" = none
  tuple : mg "tuple" = none
  len : mg "len" = none
  sum : mg "sum" = none
  range : mg "range" = none
  all : mg "all" = none
  any : mg "any" = none
  zip : mg "zip" = none
  sorted : mg "sorted" = none
  enumerate : mg "enumerate" = none
  min : mg "min" = none
  max : mg "max" = none
  -- constants
  mostByte : ∃ t, mg "MOST_BYTE" = some (.int 255 t)
  mostPlace : ∃ t, mg "MOST_PLACE" = some (.int 65535 t)
  mostRegister : ∃ t, mg "MOST_REGISTER" = some (.int 3 t)
  mostImage : ∃ t, mg "MOST_IMAGE" = some (.int 2000 t)
  figures : ∃ t, mg "FIGURES" = some (.str "0123456789" t)
section
variable {X : Cx} {p : Pos}
/-- a built-in class as a value -/
theorem pe_ty {n : String} {x : Str} (hm : X.mg x = none) (hv : bootBuiltins x = some (.type n)) (hg : Gl X x := by rfl) (hn : x ≠ "__name__" := by decide) (hd : (x == ("__debug__" : Str)) = false := by decide) : PE X (.Name x p) (tC (.ty n)) :=
  pe_bltn hg hm hv rfl hn hd
/-- a module's int -/
theorem pe_cint {x : Str} {i : Int} (hm : ∃ t, X.mg x = some (.int i t)) (hg : Gl X x := by rfl) (hd : (x == ("__debug__" : Str)) = false := by decide) : PE X (.Name x p) (tC (.int i)) := by
  obtain ⟨t, hm⟩ := hm
  exact pe_glob hg hm ⟨t, rfl⟩ hd
theorem pe_cstr {x : Str} {i : Str} (hm : ∃ t, X.mg x = some (.str i t)) (hg : Gl X x := by rfl) (hd : (x == ("__debug__" : Str)) = false := by decide) : PE X (.Name x p) (tC (.str i)) := by
  obtain ⟨t, hm⟩ := hm
  exact pe_glob hg hm ⟨t, rfl⟩ hd
end
section
variable {P : Program} {w : World} {K : PySem.W.Frag} {mg : Str → Option Value} {base : Heap}
/-- is_whole of an int -/
def spIsWhole : Sp := fun vs H Q _ => ∃ i lo hi : Int, vs = [.int i, .int lo, .int hi] ∧ Q (.bl (decide (lo ≤ i) && decide (i ≤ hi))) H
theorem ok_is_whole (T : Txt K mg) : Own P w K mg base CX0 1 "is_whole" ["thing", "low", "high"] spIsWhole := own_of T.isWhole fun f fd F => by
  refine F.ok scIsWhole (fun vs H Q E h => ?_) (fun cdv A outer s H vs Q E hr h => ?_)
  · obtain ⟨i, lo, hi, rfl, _⟩ := h
    rfl
  · obtain ⟨i, lo, hi, rfl, q⟩ := h
    refine ⟨_, pss_one (ps_ret (pe_and (pe_callB call_isi (by rfl) T.isinstance (by decide +kernel) (pa_cons (pv 0) (pa_cons (pe_ty (n := "int") T.int (by decide +kernel)) pa_nil)))
      (pe_and (pe_not (pe_callB call_isi (by rfl) T.isinstance (by decide +kernel) (pa_cons (pv 0) (pa_cons (pe_ty (n := "bool") T.bool (by decide +kernel)) pa_nil))))
      (pe_one (pe_chain op_le op_le (pv 1) (pv 0) (pv 2)))))), ?_⟩
    refine ⟨_, rfl, _, _, _, _, true, rfl, .ty "int", .base (.int i), kit_ty (by decide +kernel), true, rfl, iteT ?_⟩
    refine ⟨_, rfl, _, _, _, _, false, rfl, .ty "bool", .base (.int i), kit_ty (by decide +kernel), false, rfl, true, rfl, iteT ?_⟩
    refine ⟨_, rfl, _, rfl, _, _, rfl, rfl, _, rfl, ?_⟩
    by_cases h1 : lo ≤ i
    · rw [decide_eq_true h1] at q ⊢
      refine iteT ?_
      exact ⟨_, rfl, _, _, rfl, rfl, q⟩
    · rw [decide_eq_false h1] at q ⊢
      exact iteF q
end
end BT
/-! Own rules, 7: zip of a text and a list. -/
namespace BT
open PySem PySem.Spec PyProof.Rows L2
def ItzS (K : PySem.W.Frag) (x : Str) (b : Addr) : It :=
  ⟨fun i H => ∃ (ys : List V) (c : Nat) (y : V), SqL K H b ys ∧ x.cps[i]? = some c ∧ ys[i]? = some y,
    fun i H v H' => ∃ T c y, v = .ref T ∧ H T = none ∧ H' = upd H T (.tup [.str ⟨#[c]⟩, y]) ∧ x.cps[i]? = some c ∧ ∀ ys, SqL K H b ys → ys[i]? = some y,
    fun i H => ∃ ys : List V, SqL K H b ys ∧ i ≤ x.cps.size ∧ i ≤ ys.length ∧ (i = x.cps.size ∨ i = ys.length)⟩
theorem turn_zipS {P : Program} {w : World} {K : PySem.W.Frag} {elts : List Expr} {kk : Nat} {tpos : Pos} {x : Str} {t : Tok} {b z TI TO i1 i2 : Addr} (D : ZipSep2 z TI TO i1 i2 [i1] [i2, b]) (hb2 : b ≠ i2) :
    Turn P w K (.Tuple elts kk tpos) (ItzS K x b) [z, TI, TO, i1, i2] z (fun i h => IsZip h z TI TO .none ∧ IsTupOf2 h TI (.ref i1) (.ref i2) ∧ (∃ x y, IsTupOf2 h TO x y) ∧ h.IsStrIter i1 (strIterType x) x t i ∧ h.IsListIter i2 b i) where
  mem := by simp
  obj := fun i h st c hc => by
    obtain ⟨hz, hTI, ⟨x, y, hTO⟩, ⟨o1, e1, _, d1⟩, ⟨o2, e2, _, d2⟩⟩ := st
    have e' : c = z ∨ c = TI ∨ c = TO ∨ c = i1 ∨ c = i2 := by simpa using hc
    rcases e' with q | q | q | q | q
    · rw [q]; exact ⟨_, hz, fun v q => nomatch q⟩
    · rw [q]; exact ⟨_, hTI, fun v q => nomatch q⟩
    · rw [q]; exact ⟨_, hTO, fun v q => nomatch q⟩
    · rw [q]; exact ⟨o1, e1, fun v q => by rw [d1] at q; cases q⟩
    · rw [q]; exact ⟨o2, e2, fun v q => by rw [d2] at q; cases q⟩
  keep := fun i h h' st k => by
    obtain ⟨hz, hTI, ⟨x, y, hTO⟩, ⟨o1, e1, r1⟩, h2⟩ := st
    exact ⟨k z (by simp) _ hz, k TI (by simp) _ hTI, ⟨x, y, k TO (by simp) _ hTO⟩, ⟨o1, k i1 (by simp) _ e1, r1⟩, h2.at fun o q => k i2 (by simp) o q⟩
  item := by
    intro X hP hw hK hc i pins s σ H E I hf st hg
    subst hP hw hK
    obtain ⟨hz, hTI, ⟨x0, y0, hTO⟩, h1, h2⟩ := st
    obtain ⟨ys, c, y, hqy, hx, hy⟩ := hg
    obtain ⟨its2, rv2, p2, _⟩ := I.list hqy
    obtain ⟨u2, hu2, ru2⟩ := rv2.get hy
    have hzl : z < s.heap.objs.size := Heap.lt_size hz
    have hi1 : i < x.cps.size := (Array.getElem?_eq_some_iff.mp hx).1
    have hi2 : i < its2.toArray.size := by
      have := (List.getElem?_eq_some_iff.mp hu2).1
      simpa using this
    refine wpAny_pyNext_zipD2_item D (Draws.text (A := X.A.in1) (show X.A.in1.handled = none from I.ok.hd hc) i1 x t) (Draws.list (A := X.A.in1) (show X.A.in1.handled = none from I.ok.hd hc) i2 b hb2 its2.toArray) hz hTI hTO h1 ⟨h2, p2.isList⟩ hi1 hi2 fun x1 x2 h' tk y1 y2 z' TO' h1' h2' hT hsz hk => ?_
    obtain ⟨c', tc, hc', rfl⟩ := y1
    obtain rfl : c = c' := Option.some.inj (hx.symm.trans hc')
    obtain rfl : u2 = x2 := by
      have q : its2.toArray[i]? = some x2 := y2
      rw [List.getElem?_toArray] at q
      exact Option.some.inj (hu2.symm.trans q)
    refine ⟨_, rfl, wpAny_letOwnedTupleGo_zip (s := { s with heap := h', toks := tk }) z' fun h'' z'' sb => ?_⟩
    have hT2 : h''.get? s.heap.objs.size = some { cls := .type "tuple", data := .seq #[.str ⟨#[c]⟩ tc, u2] } := (sb.2 _ (Nat.ne_of_gt hzl)).trans hT
    have new : ObjOk X.prog X.w (upd H s.heap.objs.size (.tup [.str ⟨#[c]⟩, y])) h'' s.heap.objs.size (.tup [.str ⟨#[c]⟩, y]) :=
      ⟨by show 2 ≤ sizeLine; decide, [.str ⟨#[c]⟩ tc, u2], .cons ⟨tc, rfl⟩ (.cons ru2 .nil), ⟨_, hT2, rfl, _, rfl⟩⟩
    have I1 : Inv X pins σ (upd H s.heap.objs.size (.tup [.str ⟨#[c]⟩, y])) { s with heap := h'', toks := tk } :=
      I.turnedNew (t' := tk) (ch := [z, TI, TO, i1, i2]) (fun c o hb q => (sb.2 c (fun q' => hb (by simp [q']))).trans (hk c o (fun q' => hb (by simp [q'])) (fun q' => hb (by simp [q'])) (fun q' => hb (by simp [q'])) (fun q' => hb (by simp [q'])) q)) hf (Nat.le_refl _) new
    refine ⟨.ref s.heap.objs.size, _, I1, rfl, ⟨_, c, y, rfl, I.hok.fresh (Nat.le_refl _), rfl, hx, fun l hl => by rw [I.list_inj hl hqy]; exact hy⟩, ⟨z'', ?_, ⟨.str ⟨#[c]⟩ tc, u2, ?_⟩, ?_, ?_⟩, fun c hcm => ?_⟩
    · exact (sb.2 _ D.TIz).trans (hk _ _ D.TIz D.TITO D.TIi1 D.TIi2 hTI)
    · exact (sb.2 _ D.TOz).trans TO'
    · obtain ⟨o1, e1, r1⟩ := h1'
      exact ⟨o1, (sb.2 _ D.zi1.symm).trans e1, r1⟩
    · exact h2'.1.at fun o q => (sb.2 _ D.zi2.symm).trans q
    · have hlt : c < s.heap.objs.size := by
        have e' : c = z ∨ c = TI ∨ c = TO ∨ c = i1 ∨ c = i2 := by simpa using hcm
        rcases e' with q | q | q | q | q
        · rw [q]; exact hzl
        · rw [q]; exact Heap.lt_size hTI
        · rw [q]; exact Heap.lt_size hTO
        · rw [q]; obtain ⟨_, e1, _⟩ := h1; exact Heap.lt_size e1
        · rw [q]; obtain ⟨_, e2, _⟩ := h2; exact Heap.lt_size e2
      rw [upd_ne (Nat.ne_of_lt hlt)]
      exact (hf c hcm).1
  done := by
    intro X hP hw hK hc i pins s σ H E I hf st hg
    subst hP hw hK
    obtain ⟨hz, hTI, ⟨x0, y0, hTO⟩, h1, h2⟩ := st
    obtain ⟨ys, hqy, hl1, hl2, hend⟩ := hg
    obtain ⟨its2, rv2, p2, _⟩ := I.list hqy
    have l2 := rv2.length
    refine wpAny_pyNext_zipD2_end D (Draws.text (A := X.A.in1) (show X.A.in1.handled = none from I.ok.hd hc) i1 x t) (Draws.list (A := X.A.in1) (show X.A.in1.handled = none from I.ok.hd hc) i2 b hb2 its2.toArray) hz hTI hTO h1 ⟨h2, p2.isList⟩ hl1 (by simp; omega) (by
        rcases hend with q | q
        · exact .inl q
        · exact .inr (by simp; omega)) fun h' tk hk => ⟨rfl, I.turnedL (t' := tk) (ch := [z, TI, TO, i1, i2]) (fun c o hb q =>
      hk c o (fun q' => hb (by simp [q'])) (fun q' => hb (by simp [q'])) (fun q' => hb (by simp [q'])) (fun q' => hb (by simp [q'])) q) hf⟩
  self := fun A i s Q E st h => wpAny_pyIter_zip st.1 h
theorem zs_ne (n b : Nat) (h : b < n) : b ≠ n + 1 := by omega
theorem zs_n1 (n b : Nat) (h : b < n) : n + 4 ∉ [n + 1, b] := by simp; omega
theorem zs_n2 (n b : Nat) (h : b < n) : n + 3 ∉ [n + 1, b] := by simp; omega
theorem zs_n3 (n b : Nat) (h : b < n) : n ∉ [n + 1, b] := by simp; omega
theorem zs_f (n a b : Nat) (h : a ≠ b) : n + a ≠ n + b := by omega
theorem zs_g (n a : Nat) (h : a ≠ 0) : n + a ≠ n := by omega
theorem zs_h (n a : Nat) (h : a ≠ 0) : n + a ∉ [n] := by simp; omega
theorem zs_apart (n b : Nat) (h : b < n) : ZipSep2 (n + 4) (n + 2) (n + 3) n (n + 1) [n] [n + 1, b] where
  TIz := zs_f n 2 4 (by decide)
  TOz := zs_f n 3 4 (by decide)
  TITO := zs_f n 2 3 (by decide)
  TIi1 := zs_g n 2 (by decide)
  mem1 := List.mem_cons_self
  zf1 := zs_h n 4 (by decide)
  Tf1 := zs_h n 3 (by decide)
  TIi2 := zs_f n 2 1 (by decide)
  mem2 := List.mem_cons_self
  zf2 := zs_n1 n b h
  Tf2 := zs_n2 n b h
  sep1_2 := zs_n3 n b h
  sep2_1 := zs_h n 1 (by decide)
def iZipS (K : PySem.W.Frag) (ta : TA) : TI := fun σ H R => ta σ H fun vs H1 => ∃ x b ys, vs = [.str x, .ref b] ∧ SqL K H1 b ys ∧ R (ItzS K x b) H1
theorem pi_zipS {X : Cx} {e e2 : Expr} {ta : TA} {p pos tpos : Pos} {elts : List Expr} {kk : Nat} (hg : Gl X "zip") (hm : X.mg "zip" = none) (ha : PA X [e, e2] ta)
    (hs : starEach [e, e2] X.env = (false, eval e X.env) :: starEach [e2] X.env := by rfl) (hpl : (backTo pos (starEach [e2] X.env)).any (·.1) = false := by rfl) :
    PI X (.Tuple elts kk tpos) (.Call (.Name "zip" p) [e, e2] [] pos) (iZipS X.K ta) := by
  refine ⟨fun pins s σ H R I h => ?_⟩
  refine Call_ (ld_blt I hg hm PyProof.Rows.boot_zip (PyProof.Rows.callWith_type1 (thn (ha.run pos pins s σ H _ I h) fun us s1 ⟨vs, H1, I1, r1, q1⟩ => ?_) hs hpl))
  obtain ⟨x, b, ys, ex, hqy, q⟩ := q1
  subst ex
  cases r1 with
  | cons r rr =>
    cases rr with
    | cons r' rr =>
      cases rr
      obtain ⟨t, rfl⟩ := r
      cases r'
      obtain ⟨its2, rv2, p2, _⟩ := I1.list hqy
      have lb : b < s1.heap.objs.size := p2.lt
      refine zip_begins2 (begins_text x t) (begins_list b its2.toArray) True.intro p2.isList fun h' hz hTI hTO h1 h2 hsz hk => wpAny_pyIter_zip hz ?_
      have I2 : Inv X pins σ H1 { s1 with heap := h' } := I1.kept (t' := s1.toks) hk
      have D := zs_apart s1.heap.objs.size b lb
      refine ⟨s1.heap.objs.size + 4, [s1.heap.objs.size + 4, s1.heap.objs.size + 2, s1.heap.objs.size + 3, s1.heap.objs.size, s1.heap.objs.size + 1], _, _, H1, rfl, I2, turn_zipS (t := t) D (zs_ne _ _ lb), ⟨hz, hTI, ⟨_, _, hTO⟩, ⟨_, h1, rfl, rfl⟩, ⟨_, h2, rfl, rfl⟩⟩, fun c hcm => ?_, q⟩
      have e' : c = s1.heap.objs.size + 4 ∨ c = s1.heap.objs.size + 2 ∨ c = s1.heap.objs.size + 3 ∨ c = s1.heap.objs.size ∨ c = s1.heap.objs.size + 1 := by simpa using hcm
      have hle : s1.heap.objs.size ≤ c := by
        rcases e' with z | z | z | z | z
        · rw [z]; exact Nat.le_add_right _ _
        · rw [z]; exact Nat.le_add_right _ _
        · rw [z]; exact Nat.le_add_right _ _
        · rw [z]; exact Nat.le_refl _
        · rw [z]; exact Nat.le_add_right _ _
      exact I1.fpOk hle (I1.hok.fresh hle)
theorem walk_zipS {K : PySem.W.Frag} {x : Str} {b : Addr} {ys : List V} {n : Nat} (hn : n = min x.cps.size ys.length) : Walk (ItzS K x b) n (fun H => SqL K H b ys) (YPair (fun i => x.cps[i]?.map fun c => V.str ⟨#[c]⟩) (fun i => ys[i]?)) := by
  subst hn
  refine ⟨fun i _ hi q => ?_, fun _ q => ⟨ys, q, by omega, by omega, by omega⟩, fun i H v H' _ q y => ?_⟩
  · have h1 : i < x.cps.size := by omega
    have h2 : i < ys.length := by omega
    exact ⟨ys, x.cps[i], ys[i], q, by simp [h1], by simp [h2]⟩
  · obtain ⟨T, c, y, h1, h2, h3, h4, h5⟩ := y
    exact ⟨T, _, y, h1, h2, h3, by show x.cps[i]?.map _ = _; rw [h4] <;> rfl, h5 ys q⟩
end BT
/-! Comprehensions whose values are known, turn by turn. -/
namespace BT
open PySem PySem.Spec PyProof.Rows L2 Evl
/-- te gives v here, the heap being longer behind it -/
def Eh (te : TE) (σ : L2.St) (H : Hp) (v : V) : Prop := ∀ Q : VK, (∀ H', Ex H H' → Q v H') → te σ H Q
section
variable {J : It} {n : Nat} {G : Hp → Prop} {Y : Nat → Hp → V → Hp → Prop}
theorem lc_name (w : Walk J n G Y) (xf vf : Nat → V) {j : Nat} {te : TE} {vs : List Nat} {σ : L2.St} {H1 : Hp} {D : Addr} {Qd : Hp → Prop} (hy : ∀ i H x H', i < n → Y i H x H' → H' = H ∧ x = xf i) (hw : ∀ x, wipe ((wipe σ vs).set j (some x)) vs = wipe σ vs)
    (hz : n ≤ sizeLine) (hD : H1 D = none) (hG : ∀ H, Ex H1 H → G H) (turn : ∀ i H, i < n → Ex H1 H → Eh te ((wipe σ vs).set j (some (xf i))) H (vf i))
    (hd : ∀ H, Ex H1 H → H D = some (.lst ((List.range n).map vf)) → Qd H) :
    ∃ W : Nat → Nat → Hp → Prop, (∃ m, W 0 m (upd H1 D (.lst []))) ∧ ∀ i m H, W i m H →
      (J.stop i H ∧ Qd H) ∨ (J.go i H ∧ ∃ Nx : Hp → Prop, (∀ H', Nx H' → ∃ m', m' < m ∧ W (i + 1) m' H') ∧ ∀ x H', J.yld i H x H' → gName j x (wipe σ vs) H' fun σ2 H2 => wipe σ2 vs = wipe σ vs ∧ tYes σ2 H2 fun b H3 =>
        if b = true then te σ2 H3 fun y H4 => ∃ acc, H4 D = some (.lst acc) ∧ acc.length < sizeLine ∧ Nx (upd H4 D (.lst (acc ++ [y]))) else Nx H3) := by
  refine lc_it w (fun i H => Ex H1 H ∧ H D = some (.lst ((List.range i).map vf))) ⟨Ex.new hD, upd_same⟩ (fun i H _ p => hG H p.1) (fun i x H H' hi p y => ?_) fun H p => hd H p.1 p.2
  obtain ⟨rfl, rfl⟩ := hy i H x H' hi y
  refine ⟨hw _, ?_⟩
  unfold tYes
  dsimp only
  rw [if_pos rfl]
  refine turn i H' hi p.1 _ fun H4 e4 => ⟨_, e4 D _ p.2, ?_, Ex.mut (p.1.trans e4) hD, ?_⟩
  · rw [List.length_map, List.length_range]
    omega
  · rw [upd_same, List.range_succ, List.map_append]
    rfl
theorem lc_pair {K : PySem.W.Frag} {xf yf : Nat → Option V} (w : Walk J n G (YPair xf yf)) (xv yv vf : Nat → V) (hx : ∀ i, i < n → xf i = some (xv i)) (hy : ∀ i, i < n → yf i = some (yv i)) {i1 i2 : Nat} {te : TE} {vs : List Nat} {σ : L2.St} {H1 : Hp} {D : Addr} {Qd : Hp → Prop}
    (hw : ∀ x y, wipe (((wipe σ vs).set i1 (some x)).set i2 (some y)) vs = wipe σ vs) (hz : n ≤ sizeLine) (hD : H1 D = none) (hG : ∀ H, Ex H1 H → G H)
    (turn : ∀ i H, i < n → Ex H1 H → Eh te (((wipe σ vs).set i1 (some (xv i))).set i2 (some (yv i))) H (vf i)) (hd : ∀ H, Ex H1 H → H D = some (.lst ((List.range n).map vf)) → Qd H) :
    ∃ W : Nat → Nat → Hp → Prop, (∃ m, W 0 m (upd H1 D (.lst []))) ∧ ∀ i m H, W i m H →
      (J.stop i H ∧ Qd H) ∨ (J.go i H ∧ ∃ Nx : Hp → Prop, (∀ H', Nx H' → ∃ m', m' < m ∧ W (i + 1) m' H') ∧ ∀ x H', J.yld i H x H' → gTup K 2 (gCons (gName i1) (gCons (gName i2) gNil)) x (wipe σ vs) H' fun σ2 H2 => wipe σ2 vs = wipe σ vs ∧ tYes σ2 H2 fun b H3 =>
        if b = true then te σ2 H3 fun y H4 => ∃ acc, H4 D = some (.lst acc) ∧ acc.length < sizeLine ∧ Nx (upd H4 D (.lst (acc ++ [y]))) else Nx H3) := by
  refine lc_it w (fun i H => Ex H1 H ∧ H D = some (.lst ((List.range i).map vf))) ⟨Ex.new hD, upd_same⟩ (fun i H _ p => hG H p.1) (fun i x H H' hi p y => ?_) fun H p => hd H p.1 p.2
  obtain ⟨T, x0, y0, rfl, nT, rfl, e1, e2⟩ := y
  obtain rfl : xv i = x0 := Option.some.inj ((hx i hi).symm.trans e1)
  obtain rfl : yv i = y0 := Option.some.inj ((hy i hi).symm.trans e2)
  refine ⟨T, _, rfl, SqT.of upd_same, rfl, _, _, rfl, _, _, rfl, rfl, hw _ _, ?_⟩
  unfold tYes
  dsimp only
  rw [if_pos rfl]
  have eT : Ex H (upd H T (.tup [xv i, yv i])) := Ex.new nT
  refine turn i _ hi (p.1.trans eT) _ fun H4 e4 => ⟨_, e4 D _ (eT D _ p.2), ?_, Ex.mut ((p.1.trans eT).trans e4) hD, ?_⟩
  · rw [List.length_map, List.length_range]
    omega
  · rw [upd_same, List.range_succ, List.map_append]
    rfl
theorem y_fn {f : Nat → V} : ∀ i H x H', i < n → YFn f i H x H' → H' = H ∧ x = f i := fun _ _ _ _ _ y => y
theorem y_at {xs : List V} : ∀ i H x H', i < xs.length → YAt xs i H x H' → H' = H ∧ x = xs.getD i .non := fun i H x H' _ y => ⟨y.1, by rw [List.getD_eq_getElem?_getD, y.2] <;> rfl⟩
theorem y_str {z : Str} : ∀ (i : Nat) (H : Hp) (x : V) (H' : Hp), i < z.cps.size → (H' = H ∧ ∃ c, z.cps[i]? = some c ∧ x = .str ⟨#[c]⟩) → H' = H ∧ x = .str ⟨#[z.cps.toList.getD i 0]⟩ := fun i H x H' _ y => by
  obtain ⟨e, c, hc, rfl⟩ := y
  refine ⟨e, ?_⟩
  have : z.cps.toList[i]? = some c := by rw [Array.getElem?_toList]; exact hc
  rw [List.getD_eq_getElem?_getD, this] <;> rfl
end
theorem map_range_getD {α β : Type} (f : α → β) (d : α) : ∀ (l : List α), (List.range l.length).map (fun i => f (l.getD i d)) = l.map f := fun l => by
  refine List.ext_getElem (by simp) fun i h1 h2 => ?_
  simp at h1 h2
  simp [h2]
end BT
/-! The mathematics: what the program computes, over plain lists. An image is a list of ints from 0 to 255. -/
namespace BT
open PySem L2 TL
/-- the words, what stands behind a word (r 114, n 110, p 112, t 116) -/
def wdL : List Str := ["halt", "set", "move", "add", "sub", "mul", "div", "read", "write", "ask", "say", "less", "same", "jump", "yes", "no", "table", "call", "back", "push", "pull"]
def sgL : List Str := ["", "rn", "rr", "rr", "rr", "rr", "rr", "rr", "rr", "r", "r", "rr", "rr", "p", "p", "p", "rt", "p", "", "r", "r"]
def wd (k : Nat) : Str := wdL.getD k ""
def sg (k : Nat) : Str := sgL.getD k ""
def sgc (k : Nat) : List Nat := tl (sg k)
/-- an item of a row: a word, a number, places -/
inductive It where
  | s (x : Str) | n (i : Int) | t (l : List Int)
def g (ns : List Int) (p : Nat) : Int := ns.getD p 0
def width (c : Nat) : Nat := if c = 112 then 2 else 1
def widths (cs : List Nat) : Nat := (cs.map width).sum
def need (k : Nat) (ns : List Int) (p : Nat) : Nat :=
  if k = 16 then 3 + (if p + 2 < ns.length then 2 * (g ns (p + 2)).toNat else 0) else 1 + widths (sgc k)
def places (ns : List Int) (b m : Nat) : List Int := (List.range m).map fun a => 256 * g ns (b + 2 * a) + g ns (b + 2 * a + 1)
def thing (ns : List Int) (c at_ : Nat) : It :=
  if c = 116 then .t (places ns (at_ + 1) (g ns at_).toNat) else .n (if c = 112 then 256 * g ns at_ + g ns (at_ + 1) else g ns at_)
def things (ns : List Int) : List Nat → Nat → List It
  | [], _ => []
  | c :: r, a => thing ns c a :: things ns r (a + width c)
def isW (i lo hi : Int) : Bool := decide (lo ≤ i) && decide (i ≤ hi)
def isThing (c : Nat) : It → Bool
  | .n i => if c = 114 then isW i 0 3 else if c = 110 then isW i 0 255 else isW i 0 65535
  | .t l => decide (1 ≤ l.length) && decide (l.length ≤ 255) && l.all fun i => isW i 0 65535
  | .s _ => false
def areThings (cs : List Nat) (ts : List It) : Bool := (cs.zip ts).all fun p => isThing p.1 p.2
/-- what stands at a place -/
inductive Dec where
  | out0 | out1 | bad | op (k : Nat) (ts : List It)
def opc (ns : List Int) (p : Nat) : Nat := (g ns p).toNat
def dec (ns : List Int) (p : Nat) : Dec :=
  if ns.length ≤ p then .out0 else
  if 21 ≤ opc ns p then .bad else
  if ns.length < p + need (opc ns p) ns p then .out1 else
  if areThings (sgc (opc ns p)) (things ns (sgc (opc ns p)) (p + 1)) then .op (opc ns p) (things ns (sgc (opc ns p)) (p + 1)) else .bad
def rowOf : Dec → List It
  | .out0 => [.s "fall", .s "out"]
  | .out1 => [.s "fall", .s "out"]
  | .bad => [.s "fall", .s "bad"]
  | .op k ts => .s (wd k) :: ts
def manyOf (ns : List Int) (p : Nat) : Nat := match dec ns p with
  | .out0 => 0
  | .out1 => 1
  | .bad => 1
  | .op k _ => need k ns p
def targets : Dec → List Int
  | .op k [.n i] => if k = 13 ∨ k = 14 ∨ k = 15 ∨ k = 17 then [i] else []
  | .op k [_, .t l] => if k = 16 then l else []
  | _ => []
def goesOn : Dec → Bool
  | .op k _ => !(decide (k = 13) || decide (k = 16) || decide (k = 18) || decide (k = 0))
  | _ => false
def ways (ns : List Int) (p : Nat) : List Int := targets (dec ns p) ++ (if goesOn (dec ns p) then [((p + manyOf ns p : Nat) : Int)] else [])
inductive Reach (ns : List Int) : Nat → Prop
  | z : Reach ns 0
  | s {p q : Nat} : Reach ns p → ((q : Nat) : Int) ∈ ways ns p → Reach ns q
/-- an image -/
structure Img (ns : List Int) : Prop where
  b8 : B8 ns
  lo : 1 ≤ ns.length
  hi : ns.length ≤ 2000
open Classical in
noncomputable def reachL (ns : List Int) : List Nat := (List.range 70000).filter fun p => decide (Reach ns p)
/-- a byte of a reached instruction -/
noncomputable def used (ns : List Int) (a : Nat) : Bool := (reachL ns).any fun p => decide (p ≤ a) && decide (a < p + manyOf ns p)
def stretch (u : Nat → Bool) (acc : List (Nat × Nat)) (a : Nat) : List (Nat × Nat) :=
  if u a then acc else match acc.getLast? with
  | some (b, e) => if e = a then acc.dropLast ++ [(b, a + 1)] else acc ++ [(a, a + 1)]
  | none => acc ++ [(a, a + 1)]
noncomputable def neverL (ns : List Int) : List (Nat × Nat) := (List.range ns.length).foldl (stretch (used ns)) []
/-! ### texts -/
def hd (n : Nat) : Nat := if n < 10 then 48 + n else 87 + n
def hx (n : Int) : Str := ⟨#[hd (n.toNat / 16), hd (n.toNat % 16)]⟩
def pairsT (l : List Int) : Str := Txt.join " " (l.map hx)
def numT (i : Int) : Str := Str.ofString (toString i)
def itT : It → List Str
  | .s x => [x]
  | .n i => [numT i]
  | .t l => l.map numT
def wordsT (r : List It) : Str := Txt.join " " (r.flatMap itT)
def sub (ns : List Int) (a b : Nat) : List Int := (ns.drop a).take (b - a)
def midT (ns : List Int) (p : Nat) : Str := if 0 < manyOf ns p then " : " ++ pairsT (sub ns p (p + manyOf ns p)) ++ " : " else " : : "
def insT (ns : List Int) (p : Nat) : Str := numT (p : Int) ++ midT ns p ++ wordsT (rowOf (dec ns p))
def nevT (ns : List Int) (q : Nat × Nat) : Str := numT (q.1 : Int) ++ " : " ++ pairsT (sub ns q.1 q.2)
/-- the rows with their places -/
noncomputable def ents (ns : List Int) : List (Nat × Nat × Str) := (reachL ns).map (fun p => (p, 1, insT ns p)) ++ (neverL ns).map (fun q => (q.1, 0, nevT ns q))
noncomputable def rowsL (ns : List Int) : List Str := ((ents ns).mergeSort fun a b => decide (a.1 ≤ b.1)).map fun e => e.2.2
def textOf (rows : List Str) : Str := Txt.join "" (rows.map fun r => r ++ "\n")
/-! ### reading -/
def isDg (c : Nat) : Bool := decide (48 ≤ c) && decide (c ≤ 57)
def isHx (c : Nat) : Bool := isDg c || (decide (97 ≤ c) && decide (c ≤ 102))
def hv (c : Nat) : Nat := if c ≤ 57 then c - 48 else c - 87
def hexV (w : List Nat) : Int := ((16 * hv (w.getD 0 0) + hv (w.getD 1 0) : Nat) : Int)
def numV (w : List Nat) : Nat := w.foldl (fun a c => 10 * a + (c - 48)) 0
def isWord (w : Str) : Bool := decide ((tl w).length = 2) && (tl w).all isHx
def wordsOf (x : Str) : List Str := if x = "" then [] else Txt.split x " "
def bytesOf (row : Str) : Option (Nat × List Int) :=
  let ps := Txt.split row " : "
  if (ps.length = 2 ∨ ps.length = 3) ∧ (1 ≤ (tl (ps.getD 0 "")).length ∧ (tl (ps.getD 0 "")).length ≤ 5) ∧ (tl (ps.getD 0 "")).all isDg = true ∧ (wordsOf (ps.getD 1 "")).all isWord = true then
    some (numV (tl (ps.getD 0 "")), (wordsOf (ps.getD 1 "")).map fun w => hexV (tl w))
  else none
def hasCC (row : Str) : Bool := !(Builtin.Str.occurrences row " : : " 0 row.length 1).isEmpty
def told (row : Str) : Option (Nat × List Int) := if hasCC row then some (0, []) else bytesOf row
/-- the bytes that the rows tell, in turn: place and byte -/
def cells (q : Nat × List Int) : List (Nat × Int) := q.2.mapIdx fun i b => (q.1 + i, b)
def firstBad : List Str → Nat → Option Nat
  | [], _ => none
  | r :: rs, i => match told r with
    | none => some i
    | some _ => firstBad rs (i + 1)
def allCells : List Str → List (Nat × Int)
  | [] => []
  | r :: rs => (match told r with | none => [] | some q => cells q) ++ allCells rs
/-- the last byte that is told for a place -/
def cellAt (cs : List (Nat × Int)) (a : Nat) : Option Int := (cs.reverse.find? fun c => decide (c.1 = a)).map (·.2)
def maxAt (cs : List (Nat × Int)) : Nat := cs.foldl (fun m c => max m c.1) 0
def imgOf (cs : List (Nat × Int)) : List Int := (List.range (min 2000 (maxAt cs + 1))).map fun a => (cellAt cs a).getD 0
def firstDiff : List Str → List Str → Nat → Option Nat
  | [], _, _ => none
  | _ :: _, [], i => some i
  | r :: rs, d :: ds, i => if r = d then firstDiff rs ds (i + 1) else some i
noncomputable def readL (t : Str) : Except Nat (List Int) :=
  let ps := Txt.split t "\n"
  let rows := ps.dropLast
  match firstBad rows 0 with
  | some i => .error i
  | none =>
    if ps.getLastD "" ≠ "" ∨ allCells rows = [] then .error rows.length else
    match firstDiff rows (rowsL (imgOf (allCells rows))) 0 with
    | some i => .error i
    | none => if rows.length < (rowsL (imgOf (allCells rows))).length then .error rows.length else .ok (imgOf (allCells rows))
end BT
/-! Own rules, 1: d.get(k, x) of a written dict. -/
namespace BT
open PySem PySem.Spec PyProof.Rows L2
/-- a written dict with text keys -/
def KDc (K : PySem.W.Frag) (w : World) (a : Addr) : Prop := ∃ es n, K.lookup a = some ⟨.type "dict", none, .dict es n, #[]⟩ ∧ PySem.W.KeysLit w.params es.toList ∧ (a == sysModules) = false
def KHas (K : PySem.W.Frag) (a : Addr) (k : Str) (o : Option V) : Prop := ∃ u, PySem.W.nsIn K a k = some u ∧ RelO o u
def tKGet (K : PySem.W.Frag) (w : World) (td ty tx : TE) : TE := fun σ H Q => td σ H fun x H1 => ∃ a, x = .ref a ∧ KDc K w a ∧ ty σ H1 fun y H2 => tx σ H2 fun z H3 => ∃ (k : Str) (o : Option V), y = .str k ∧ KHas K a k o ∧ Q (o.getD z) H3
section
variable {X : Cx} {o e f : Expr} {td ty tx : TE} {apos cpos : Pos}
theorem pe_kget2 (ho : PE X o td) (he : PE X e ty) (hf : PE X f tx) (m : M2 X o "get" apos e f cpos) : PE X (.Call (.Attribute o "get" apos) [e, f] [] cpos) (tKGet X.K X.w td ty tx) := by
  refine ⟨fun pins s σ H Q I h => ?_⟩
  refine wpAny_Call_method m.base m.few m.line PySem.F.plainAttrs_dict PySem.F.slot_dict_get PySem.F.type_dict_get (thn (ho.run pins s σ H _ I h) fun u s1 ⟨x, H1, I1, rx, a, ex, d, q1⟩ => ?_)
  subst ex
  obtain rfl : u = Value.ref a := rx
  obtain ⟨es, n, hl, hk, low⟩ := d
  have hm1 := PySem.W.mapOf_K (prog := X.prog) (w := X.w) I1.kIn hl hk
  refine ⟨hm1.typeIs, fun b q => ?_, ?_⟩
  · cases q
    exact ⟨_, I1.kIn _ _ hl, rfl⟩
  rw [m.trees]
  refine Calls.callWith_builtin rfl (Calls.evalArgs_plain (Calls.spliced_cons (thn (he.run pins s1 σ H1 _ I1 q1) fun iv s2 ⟨y, H2, I2, ry, q2⟩ =>
    Calls.spliced_cons (thn (hf.run pins s2 σ H2 _ I2 q2) fun fv s3 ⟨z, H3, I3, rz, k, ov, ey, g, q3⟩ => Calls.spliced_nil ?_))))
  subst ey
  obtain ⟨t, rfl⟩ := ry
  obtain ⟨u, hu, ru⟩ := g
  have hm := PySem.W.mapOf_K (prog := X.prog) (w := X.w) I3.kIn hl hk
  have hf := PySem.W.find_K hl hu
  refine call_meetsIn PySem.F.slot_dict_get hm.typeIs PySem.F.entry_dict_get (PySem.F.args_dict_get_3 _ _ _) (meets_dict_get_default (strKind X.prog X.w) a (strKind_is X.prog X.w k t) low fv) ⟨_, hm, ?_⟩
  rw [hf]
  exact ⟨_, H3, I3.tok _, RelO.getD ru rz, q3⟩
end
end BT
/-! Own rules, 2: bytes.fromhex(text), b.hex(). -/
namespace BT
open PySem PySem.Spec PyProof.Rows L2
/-! ### the digits -/
def hxL : List Int → List Nat
  | [] => []
  | n :: r => hd (n.toNat / 16) :: hd (n.toNat % 16) :: hxL r
def hxS (ks : List Int) : Str := ⟨(hxL ks).toArray⟩
theorem hxL_len : ∀ ks : List Int, (hxL ks).length = 2 * ks.length
  | [] => rfl
  | n :: r => by
    show (hxL r).length + 1 + 1 = 2 * (r.length + 1)
    rw [hxL_len r]
    omega
theorem hd_lt {n : Nat} (h : n < 16) : hd n < 128 := by
  unfold hd
  split <;> omega
theorem hxL_lt : ∀ {ks : List Int}, B8 ks → ∀ c ∈ hxL ks, c < 128
  | [], _, c, hc => by cases hc
  | n :: r, h, c, hc => by
    have hn := h n List.mem_cons_self
    have hc : c = hd (n.toNat / 16) ∨ c = hd (n.toNat % 16) ∨ c ∈ hxL r := by
      rcases List.mem_cons.mp hc with e | hc
      · exact .inl e
      · rcases List.mem_cons.mp hc with e | hc
        · exact .inr (.inl e)
        · exact .inr (.inr hc)
    rcases hc with e | e | hc
    · rw [e]
      exact hd_lt (by omega)
    · rw [e]
      exact hd_lt (by omega)
    · exact hxL_lt (fun m hm => h m (List.mem_cons_of_mem _ hm)) c hc
abbrev Rdr := Nat → Nat → List Nat → Array UInt8 → Except Nat (Array UInt8)
/-- what is asked of a reader of digits: a pair of digits is a byte -/
def RdrOk (f : Rdr) : Prop := (∀ fuel i out, f fuel i [] out = .ok out) ∧ (∀ fuel i (a b : _root_.Fin 16) rest out, f (fuel + 1) i (hd a.val :: hd b.val :: rest) out = f fuel (i + 2) rest (out.push (a.val * 16 + b.val).toUInt8))
theorem rdr_run {f : Rdr} (hf : RdrOk f) : ∀ (ks : List Int) (fuel i : Nat) (out : Array UInt8), B8 ks → ks.length ≤ fuel → f fuel i (hxL ks) out = .ok (out ++ (ks.map fun n : Int => n.toNat.toUInt8).toArray)
  | [], fuel, i, out, _, _ => by
    rw [show hxL [] = [] from rfl, hf.1]
    simp
  | n :: r, 0, i, out, _, h => by cases h
  | n :: r, fuel + 1, i, out, h8, h => by
    have hn := h8 n List.mem_cons_self
    have e := hf.2 fuel i ⟨n.toNat / 16, by omega⟩ ⟨n.toNat % 16, by omega⟩ (hxL r) out
    have e2 : n.toNat / 16 * 16 + n.toNat % 16 = n.toNat := by omega
    show f (fuel + 1) i (hd (n.toNat / 16) :: hd (n.toNat % 16) :: hxL r) out = _
    rw [e, rdr_run hf r fuel (i + 2) _ (fun m hm => h8 m (List.mem_cons_of_mem _ hm)) (by rw [List.length_cons] at h; omega)]
    show Except.ok ((out.push (n.toNat / 16 * 16 + n.toNat % 16).toUInt8) ++ _) = _
    rw [e2]
    congr 1
    simp
theorem rdr_no {f : Rdr} (hf : RdrOk f) {ks : List Int} {n i j : Nat} {out : Array UInt8} (h8 : B8 ks) (hl : ks.length ≤ n) (h : f n i (hxL ks) out = .error j) : False := by
  rw [rdr_run hf ks n i out h8 hl] at h
  cases h
theorem rdr_yes {f : Rdr} (hf : RdrOk f) {ks : List Int} {n i : Nat} {b : Array UInt8} (h8 : B8 ks) (hl : ks.length ≤ n) (h : f n i (hxL ks) #[] = .ok b) : b = byteArr ks := by
  rw [rdr_run hf ks n i #[] h8 hl] at h
  have e := Except.ok.inj h
  rw [← e]
  simp [byteArr]
theorem wp_rdr {f : Rdr} {M : Model} {A : Around} {E : Value → Shared → Prop} {s : Shared} {α : Type} {Q : α → Shared → Prop} {ks : List Int} {n : Nat} {a : Nat → Sem α} {k : Array UInt8 → Sem α} (hf : RdrOk f) (h8 : B8 ks) (hl : ks.length ≤ n)
    (h : wpAny M A (k (byteArr ks)) Q E s) : wpAny M A (match f n 0 (hxL ks) #[] with | .error i => a i | .ok b => k b) Q E s := by
  have e := rdr_run hf ks n 0 #[] h8 hl
  rw [e]
  have e2 : (#[] ++ (ks.map fun n : Int => n.toNat.toUInt8).toArray : Array UInt8) = byteArr ks := by simp [byteArr]
  rw [e2]
  exact h
/-! ### the library's part -/
namespace FH
open PySem.W PySem.Calls
def bound : Obj := { cls := .type "builtin_function_or_method", data := .fields #[.builtin "bytes.fromhex", .type "bytes"] }
theorem type_fh : typeOf (.builtin "bytes.fromhex") = pure (.type "classmethod_descriptor") := by show builtinType _ = _; rw [builtinType_eq_fast]; kernel_rfl
theorem entry_fh : entryFor table "bytes.fromhex" = some Builtin.«bytes.fromhex» := entryFor_of_tree (by kernel_rfl)
theorem quiet_fh {as : Args} : (Code.builtin "bytes.fromhex" as).quiet = true := Code.quiet_builtin _ (by decide +kernel)
theorem plain_fh : plainId "bytes.fromhex" = true := by decide +kernel
theorem type_bytes : isType (.type "bytes") = pure true := by first | rfl | kernel_rfl | (unfold isType; rw [isSubtype_type]; kernel_rfl)
theorem sub_bytes : isSubtype (.type "bytes") (.type "bytes") = pure true := by first | rfl | kernel_rfl | (rw [isSubtype_type]; kernel_rfl)
theorem owner_fh : (kfb_private% "ownerAndName") "bytes.fromhex" = ("bytes", "fromhex") := by first | decide +kernel | kernel_rfl
theorem check_fh {v : Value} : checkBoundCall "bytes.fromhex" ⟨[.type "bytes", v], []⟩ = pure () := by first | kernel_rfl | rfl
theorem cls_fh (K : Frag) : findCls K (.type "bytes") (.type "type") (Str.ofString "fromhex") = some (.get (.builtin "classmethod_descriptor.__get__") (.builtin "bytes.fromhex") .none (.type "bytes")) := by
  first
    | kernel_rfl
    | rfl
section
variable {prog : Program} {w : World} {A : Around} {E : Value → Shared → Prop} {s : Shared}
theorem run_get {M : Model} {P : Fin → Shared → Prop} (h : P (.done (.ret (.ref s.heap.objs.size))) { s with heap := s.heap.push bound }) :
    wpAny M A (Builtin.«classmethod_descriptor.__get__» ⟨[.builtin "bytes.fromhex", .none, .type "bytes"], []⟩) P E s := by
  unfold Builtin.«classmethod_descriptor.__get__»
  refine wpAny_bind (wpAny_of_eq (a := (.builtin "bytes.fromhex", none, some (.type "bytes"))) (by first | rfl | kernel_rfl) ?_)
  simp only [owner_fh]
  refine wpAny_bind (wpAny_of_eq (a := .type "bytes") rfl ?_)
  refine wpAny_bind (wpAny_of_eq (a := true) type_bytes ?_)
  refine KFB.if_not rfl ?_
  refine wpAny_bind (wpAny_of_eq (a := true) sub_bytes ?_)
  refine KFB.if_not rfl ?_
  exact wpAny_bind (wpAny_newObj_type (wpAny_pure h))
theorem getm {K : Frag} {pl : Sem Bool} {Q : Value × List Value → Shared → Prop} (X : K.In s.heap) (h : Q (.ref s.heap.objs.size, []) { s with heap := s.heap.push bound, toks := s.toks + 1 }) :
    wpAny (model prog w) A (getMethod (.type "bytes") (Str.ofString "fromhex") pl) Q E s := by
  have hstub : opaqueClassAbove (.type "bytes") = pure none := by unfold opaqueClassAbove; dsimp only; rw [show Manifest.isStub "bytes" = false by decide +kernel]; all_goals rfl
  have ht : typeOf (.type "bytes") = pure (.type "type") := by first | rfl | kernel_rfl
  have L0 : Looks (model prog w) s.heap (typeOf (.type "bytes")) (.type "type") := Looks.of_pure ht
  have hg : findIn K (.type "type") "__getattribute__" = some (some (.builtin "type.__getattribute__")) := type_tga
  unfold getMethod specialOf
  refine wpAny_bind (wpAny_bind (L0.here ((looks_findIn X hg).here ?_)))
  dsimp only
  rw [if_pos canon_tga]
  refine wpAny_bind (wpAny_mono (Q := fun v => Q (v, [])) (E := E) ?_ (fun _ _ z => wpAny_pure z) fun _ _ z => z)
  have LO : Looks (model prog w) s.heap (opaqueClassAbove (.type "bytes")) none := Looks.of_pure hstub
  refine cls_open X LO L0 hg (looks_hook X (r := none) (by rfl)) (by show subIn K _ _ = _; rfl) (cls_fh K) ?_
  show wpAny _ _ (holding [.builtin "bytes.fromhex"] (call (.builtin "classmethod_descriptor.__get__") [.builtin "bytes.fromhex", .none, .type "bytes"]) >>= fun v => ret v) _ _ _
  exact wpAny_bind (wpAny_holding (wpAny_call_entry KFB.slot_get type_fh KFB.entry_get (run_get ⟨_, rfl, wpAny_pure (wpAny_pure h)⟩) (KFB.args_get _ _ _)))
theorem callWith_fields {M : Model} {pos : Pos} {u : Addr} {args : List (Bool × Sem Value)} {Q : Value → Shared → Prop} (hplain : args.any (·.1) = false)
    (h : wpAny M A (evalArgs (.ref u) true args []) (fun x s₁ => s₁.heap.get? u = some bound ∧ wpAny M A (call (.ref u) ([] ++ x.pos) x.kw) Q E s₁) E s) : wpAny M A (callWith pos (.ref u) [] args []) Q E s := by
  unfold callWith
  refine wpAny_bind (wpAny_holding (wpAny_mono h (fun x s₁ h₁ => wpAny_bind (wpAny_standAt ?_)) fun _ _ x => x))
  obtain ⟨ho, hcall⟩ := h₁
  simp only [hplain, List.any_nil, Bool.or_false]
  refine wpAny_bind (m := keeperOf (.ref u)) ?_
  unfold keeperOf
  refine wpAny_bind (wpAny_load ho ?_)
  simp only [bound, show (Value.type "builtin_function_or_method" != Value.type "method") = true by decide, show (Value.type "builtin_function_or_method" == Value.type "builtin_function_or_method" || Value.type "builtin_function_or_method" == Value.type "method-wrapper") = true by decide, if_true]
  refine wpAny_pure ?_
  exact wpAny_bind (wpAny_mono hcall (fun r s₂ hr => wpAny_bind (wpAny_holding (wpAny_point (wpAny_pure hr)))) fun _ _ x => x)
theorem run_fh {M : Model} {t : Tok} {ks : List Int} {P : Fin → Shared → Prop} (h8 : B8 ks) (hz : ks.length ≤ 1000000) (h : P (.done (.ret (.bytes (byteArr ks) s.toks))) { s with toks := s.toks + 1 }) :
    wpAny M A (Builtin.«bytes.fromhex» ⟨[.type "bytes", .str (hxS ks) t], []⟩) P E s := by
  unfold Builtin.«bytes.fromhex» Builtin.Bytes.fromhexM
  refine wpAny_bind (wpAny_of_eq (a := "bytes") (by first | rfl | kernel_rfl) ?_)
  refine KFB.if_not rfl ?_
  refine wpAny_bind (wpAny_of_eq (a := some (hxS ks)) (by first | rfl | kernel_rfl) ?_)
  have hn : (hxS ks).cps.findIdx? (fun x => decide (x ≥ 128)) = none := by
    refine Array.findIdx?_eq_none_iff.mpr fun c hc => ?_
    have hc : c ∈ hxL ks := by simpa [hxS] using hc
    have h1 := hxL_lt h8 c hc
    exact decide_eq_false (by omega)
  dsimp only
  rw [hn]
  dsimp only
  refine wp_rdr (ks := ks) (n := (hxS ks).cps.size) ?_ h8 (by show ks.length ≤ (hxL ks).toArray.size; rw [List.size_toArray, hxL_len]; omega) ?_
  · refine ⟨fun fuel i out => by cases fuel <;> rfl, fun fuel i a b rest out => ?_⟩
    obtain ⟨a, ha⟩ := a
    obtain ⟨b, hb⟩ := b
    have e1 : a = 0 ∨ a = 1 ∨ a = 2 ∨ a = 3 ∨ a = 4 ∨ a = 5 ∨ a = 6 ∨ a = 7 ∨ a = 8 ∨ a = 9 ∨ a = 10 ∨ a = 11 ∨ a = 12 ∨ a = 13 ∨ a = 14 ∨ a = 15 := by omega
    have e2 : b = 0 ∨ b = 1 ∨ b = 2 ∨ b = 3 ∨ b = 4 ∨ b = 5 ∨ b = 6 ∨ b = 7 ∨ b = 8 ∨ b = 9 ∨ b = 10 ∨ b = 11 ∨ b = 12 ∨ b = 13 ∨ b = 14 ∨ b = 15 := by omega
    rcases e1 with rfl | rfl | rfl | rfl | rfl | rfl | rfl | rfl | rfl | rfl | rfl | rfl | rfl | rfl | rfl | rfl <;>
      rcases e2 with rfl | rfl | rfl | rfl | rfl | rfl | rfl | rfl | rfl | rfl | rfl | rfl | rfl | rfl | rfl | rfl <;> rfl
  refine KFB.if_so rfl ?_
  show wpAny M A (mkBytes (byteArr ks) >>= fun r => ret r) _ _ _
  refine wpAny_bind (wpAny_mkBytes (wpAny_pure h) ?_)
  rw [byteArr_size, sizeLine_eq]
  omega
/-- the bound method is called -/
theorem call_of {x : Addr} {t : Tok} {ks : List Int} {Q : Value → Shared → Prop} (ho : s.heap.get? x = some bound) (h8 : B8 ks) (hz : ks.length ≤ 1000000)
    (h : Q (.bytes (byteArr ks) s.toks) { s with toks := s.toks + 1 }) : wpAny (model prog w) A (call (.ref x) [.str (hxS ks) t]) Q E s := by
  refine wpAny_call (codeAny_of_tree ?_)
  show wpAny _ A.in1 (callAny (.ref x) ⟨[.str (hxS ks) t], []⟩) _ _ s
  simp only [callAny]
  refine wpAny_bind (wpAny_load ho ?_)
  simp only [bound, show (Value.type "builtin_function_or_method" == Value.type "method" || Value.type "builtin_function_or_method" == Value.type "builtin_function_or_method" || Value.type "builtin_function_or_method" == Value.type "method-wrapper") = true by decide, if_true]
  refine KFB.if_so (by decide) ?_
  refine wpAny_bind (wpAny_of_eq (a := ()) check_fh ?_)
  refine wpAny_bind (wpAny_pure (wpAny_pure ?_))
  exact ⟨quiet_fh, codeAny_builtin entry_fh (run_fh h8 hz h)⟩
end
end FH
/-- bytes.fromhex(text) -/
def tFh (te : TE) : TE := fun σ H Q => te σ H fun x H1 => ∃ ks : List Int, B8 ks ∧ ks.length ≤ 1000000 ∧ [x] = [.str (hxS ks)] ∧ Q (.byt (byteArr ks)) H1
theorem pe_fromhex {X : Cx} {e : Expr} {te : TE} {p apos pos : Pos} {pl : Sem Bool} (hm : X.mg "bytes" = none) (he1 : PE X e te) (hg : Gl X "bytes" := by rfl)
    (he : eval (.Call (.Attribute (.Name "bytes" p) "fromhex" apos) [e] [] pos) X.env = (do
      let ov ← eval (.Name "bytes" p) X.env
      standAt apos.atName
      let (f, first) ← holding [ov] (getMethod ov "fromhex" pl)
      callWith pos f first (backTo pos (starEach [e] X.env)) (backToKw pos (keywordEach [] X.env))) := by rfl)
    (hst : starEach [e] X.env = (false, eval e X.env) :: starEach [] X.env := by rfl)
    (hpl : (backTo pos (starEach [e] X.env)).any (·.1) = false := by rfl) : PE X (.Call (.Attribute (.Name "bytes" p) "fromhex" apos) [e] [] pos) (tFh te) := by
  refine ⟨fun pins s σ H Q I h => ?_⟩
  refine PySem.W.methodCall_KW (ld_blt I hg hm (u := .type "bytes") (by decide +kernel) ?_ (by decide) (by decide)) he
  refine FH.getm I.kIn ?_
  have I1 : Inv X pins σ H { s with heap := s.heap.push FH.bound, toks := s.toks + 1 } := I.kept (t' := s.toks + 1) fun b ob z => Heap.get?_push_of_some _ z
  have hx : (s.heap.push FH.bound).get? s.heap.objs.size = some FH.bound := Heap.get?_push_size _ rfl
  have I2 : Inv X ((s.heap.objs.size, FH.bound) :: pins) σ H { s with heap := s.heap.push FH.bound, toks := s.toks + 1 } := I1.pins_of fun q hq => by
    rcases List.mem_cons.mp hq with e | e
    · subst e
      exact ⟨hx, I.hok.fresh (Nat.le_refl _), Nat.ne_of_gt I.lt, I.nofs (Nat.le_refl _), fun v z => nomatch z⟩
    · exact I1.pin q (List.mem_append_right _ e)
  show wpAny _ _ (callWith pos (.ref s.heap.objs.size) [] (backTo pos (starEach [e] X.env)) []) _ _ _
  have ha : PA X [e] (tCons te tNil) := pa_cons he1 pa_nil hst
  refine FH.callWith_fields hpl (FK.evalArgs_any hpl (thn (ha.run pos _ _ σ H (fun vs H1 => ∃ ks : List Int, B8 ks ∧ ks.length ≤ 1000000 ∧ vs = [.str (hxS ks)] ∧ Q (.byt (byteArr ks)) H1) I2 h) fun us s3 ⟨vs, H1, I3, rv, ks, h8, hz, ev, q⟩ => ?_))
  subst ev
  obtain ⟨u, rfl, ru⟩ := rv.one
  obtain ⟨t, rfl⟩ := ru
  have I4 : Inv X pins σ H1 s3 := I3.pins_of fun q hq => I3.pin q (List.mem_append_right _ (List.mem_cons_of_mem _ hq))
  have hb : s3.heap.get? s.heap.objs.size = some FH.bound := (I3.pin (s.heap.objs.size, FH.bound) (List.mem_append_right _ List.mem_cons_self)).1
  exact ⟨hb, FH.call_of hb h8 hz ⟨.byt (byteArr ks), H1, I4.tok _, ⟨_, rfl⟩, q⟩⟩
/-- b.hex() -/
theorem hexDigit_eq (n : Nat) : Builtin.Bytes.hexDigit n = hd n := rfl
theorem hex_text : ∀ ks : List Int, PySem.W.KBhx.signs ks = hxL ks
  | [] => rfl
  | n :: r => by
    show [Builtin.Bytes.hexDigit (n.toNat / 16), Builtin.Bytes.hexDigit (n.toNat % 16)] ++ PySem.W.KBhx.signs r = _
    rw [hex_text r]
    rfl
theorem mt_hex {X : Cx} : MtR X "bytes.hex" (fun x xs H Q => ∃ ks : List Int, B8 ks ∧ ks.length ≤ 1000000 ∧ x = .byt (byteArr ks) ∧ xs = [] ∧ Q (.str (hxS ks)) H) := by
  intro pins s σ H x vs v us Q I rx rv h
  obtain ⟨ks, h8, hz, rfl, rfl, q⟩ := h
  obtain ⟨t, rfl⟩ := rx
  cases rv
  refine PySem.W.KBhx.hex_K (ks := ks) (bInts_of h8) (by omega) fun t' k _ => ⟨.str (hxS ks), H, I.tok _, ⟨t', ?_⟩, q⟩
  show Value.str (PySem.W.KBhx.text ks) t' = Value.str (hxS ks) t'
  unfold PySem.W.KBhx.text hxS
  rw [hex_text]
end BT
/-! Own rules, 3: *a, b = a list. -/
namespace BT
open PySem PySem.Spec PyProof.Rows L2
section
open PySem.W PySem.Calls
variable {prog : Program} {w : World} {A : Around} {E : Value → Shared → Prop} {s : Shared}
theorem star_items {l : Addr} {items : Array Value} {Q : List Value → Shared → Prop} (hl : s.heap.IsList l items) (hh : A.handled = none) (hn : 1 ≤ items.size) (hz : items.size ≤ sizeLine)
    (h : ∀ (h' : Heap) (tk : Nat), (∀ b o, s.heap.get? b = some o → h'.get? b = some o) → Q ([.ref h'.objs.size] ++ items.toList.drop (items.size - 1)) { s with heap := h'.push { cls := .type "list", data := .seq (items.toList.take (items.size - 1)).toArray }, toks := tk }) :
    wpAny (model prog w) A (unpackItems (.ref l) 2 (some 0)) Q E s := by
  have hlt : l ≠ s.heap.objs.size := by obtain ⟨o, ho, _⟩ := hl; exact Nat.ne_of_lt (Heap.lt_size ho)
  unfold unpackItems
  refine wpAny_bind ?_
  unfold notIterableAtAll
  refine wpAny_bind (wpAny_specialOf hl.typeIs slot_list_iter.lookup ?_)
  refine wpAny_pure ?_
  simp only [Bool.false_eq_true, if_false]
  refine wpAny_bind (wpAny_holding (wpAny_pyIter_list hl ?_))
  refine wpAny_bind (wpAny_holding (kun_draw hlt 0 0 _ _ ⟨_, Heap.get?_push_size _ rfl, rfl, rfl⟩ (hl.push _) (by omega) fun h₁ hit₁ hs₁ => ?_))
  have hl₁ : h₁.IsList l items := (hl.push _).extBut hs₁.extBut hlt
  rw [Nat.zero_add] at hit₁
  have hit₁' := hit₁
  obtain ⟨oi, hoi, _⟩ := hit₁'
  have hl₁' := hl₁
  obtain ⟨ol, hol, _⟩ := hl₁'
  rw [List.drop_zero, List.take_zero]
  rw [if_neg (show ¬ (([] : List Value).length < 0) by simp)]
  refine wpAny_bind (wpAny_holding (kun_collect (s := { s with heap := h₁ }) (T := "list_iterator") (.inr (.inr (.inl rfl))) (Walks.list (A := A.in1) hh s.heap.objs.size l hlt items) (fun j u st => st.1.typeIs) (k := 0) (by omega) ⟨hit₁, hl₁⟩ (Heap.lt_size hoi) (Heap.lt_size hol) (fun h₂ tk hk => ?_) hz))
  rw [List.drop_zero]
  have hrl : items.toList.length = items.size := Array.length_toList
  show wpAny _ _ (if items.toList.length < 1 then _ else _) _ _ _
  rw [if_neg (by rw [hrl]; omega)]
  show wpAny _ _ (newList (items.toList.take (items.toList.length - 1)) >>= fun d => pure ([] ++ [d] ++ items.toList.drop (items.toList.length - 1))) _ _ _
  rw [hrl]
  have kp : ∀ b o, s.heap.get? b = some o → h₂.get? b = some o := fun b o e =>
    hk b o (Nat.ne_of_lt (Heap.lt_size e)) (hs₁.extBut b o (Nat.ne_of_lt (Heap.lt_size e)) (Heap.get?_push_of_some _ e))
  refine wpAny_bind (wpAny_newList (wpAny_pure ?_) (by rw [List.length_take, hrl]; omega))
  exact h h₂ tk kp
end
/-- (*a, b) = a list: a new list, the last one -/
def gStar (K : PySem.W.Frag) (t : TGs) : TG := fun v σ H Q => ∃ a xs, v = .ref a ∧ SqL K H a xs ∧ 1 ≤ xs.length ∧ ∀ p, H p = none → t (.ref p :: xs.drop (xs.length - 1)) σ (upd H p (.lst (xs.take (xs.length - 1)))) Q
theorem pg_star {X : Cx} {t1 t2 : Expr} {sp pos : Pos} {k : Nat} {t : TGs} (hc : X.calm = true) (h : PGs X [t1, t2] t) (hn : (assignEach [.Starred t1 sp, t2] X.env) = [(true, assign t1 X.env), (false, assign t2 X.env)] := by rfl)
    (hn2 : (assignEach [t1, t2] X.env) = [(false, assign t1 X.env), (false, assign t2 X.env)] := by rfl) :
    PG X (.Tuple [.Starred t1 sp, t2] k pos) (gStar X.K t) := by
  refine ⟨fun pins s σ H v u Q I r hw => ?_⟩
  obtain ⟨a, xs, e1, hq, hl, hw⟩ := hw
  subst e1
  cases r
  obtain ⟨its, rv, pl, hz⟩ := I.list hq
  have hl' : s.heap.IsList a its.toArray := by
    obtain ⟨o, m, e, c, d, q⟩ := pl
    exact ⟨o, e, c, m, q⟩
  have hlen : xs.length = its.length := rv.length
  rw [PyProof.Rows.assign_Tuple]
  refine wpAny_bind (wpAny_standAt ?_)
  unfold unpack
  rw [hn]
  refine wpAny_bind (wpAny_holding ?_)
  show wpAny _ _ (unpackItems (.ref a) 2 (some 0)) _ _ _
  refine star_items hl' (I.ok.hd hc) (by simp; omega) (by simp; omega) fun h' tk kp => ?_
  have e2 : its.toArray.size = xs.length := by simp [hlen]
  rw [e2]
  have I0 : Inv X pins σ H { s with heap := h', toks := tk } := I.kept kp
  have hfr : H h'.objs.size = none := I0.hok.fresh (Nat.le_refl _)
  have I1 := I0.laid (t' := tk) (a := h'.objs.size) (o := .lst (xs.take (xs.length - 1))) (h' := h'.push { cls := .type "list", data := .seq (its.take (xs.length - 1)).toArray }) (fun b o e => Heap.get?_push_of_some _ e) (Nat.le_refl _)
    ⟨by rw [List.length_take]; omega, its.take (xs.length - 1), 0, rv.take _, Heap.get?_push_size _ rfl⟩
  have r2 : Vals (V.ref h'.objs.size :: xs.drop (xs.length - 1)) ([Value.ref h'.objs.size] ++ its.toArray.toList.drop (xs.length - 1)) := .cons rfl (rv.drop _)
  have := h.run pins _ σ _ _ _ Q I1 r2 (hw h'.objs.size hfr)
  rw [hn2] at this
  exact this
end BT
/-! Own rules, 4: sorted of triples (int, int, text) whose first ints differ, of any length. -/
namespace BT
namespace Tri
open PySem PyProof.Rows Srt SrtO
section
variable {prog : Program} {w : World} {A : Around} {E : Value → Shared → Prop} {s : Shared}
def IsTri (h : Heap) (v : Value) (x : Int) : Prop := ∃ a o t y u z tz n, v = .ref a ∧ h.get? a = some o ∧ o.cls = .type "tuple" ∧ o.data = .seq #[.int x t, .int y u, .str z tz] n
theorem IsTri.keeps {h h' : Heap} {v : Value} {x : Int} (p : IsTri h v x) (k : ∀ b o, h.get? b = some o → o.cls = .type "tuple" → h'.get? b = some o) : IsTri h' v x := by
  obtain ⟨a, o, t, y, u, z, tz, n, e, ho, hc, hd⟩ := p
  exact ⟨a, o, t, y, u, z, tz, n, e, k _ _ ho hc, hc, hd⟩
theorem firsts_of {h : Heap} {k : Value → Int} : ∀ {vs : List Value}, (∀ v ∈ vs, IsTri h v (k v)) → ∃ fs : List Value, PySem.W.KatTups h vs fs ∧ fs.length = vs.length ∧ ∀ f ∈ fs, ∃ x t, f = Value.int x t
  | [], _ => ⟨[], PySem.W.KatTups.nil, rfl, fun _ hm => by simp at hm⟩
  | v :: vs, hp => by
    obtain ⟨fs, h1, h2, h3⟩ := firsts_of (vs := vs) fun v' hm => hp v' (List.mem_cons_of_mem _ hm)
    obtain ⟨a, o, t, y, u, z, tz, n, e, ho, hc, hd⟩ := hp v (List.mem_cons_self ..)
    generalize k v = x at hd
    subst e
    refine ⟨.int x t :: fs, PySem.W.KatTups.cons ho hc hd rfl h1, by rw [List.length_cons, List.length_cons, h2], fun f hm => ?_⟩
    rcases List.mem_cons.mp hm with rfl | hm
    · exact ⟨x, t, rfl⟩
    · exact h3 f hm
theorem swo_k (k : Value → Int) : Swo fun v u => decide (k v < k u) := by
  refine ⟨fun x y h => ?_, fun x y z h1 h2 => ?_⟩
  · have a := of_decide_eq_true h
    exact decide_eq_false (by omega)
  · have a := of_decide_eq_false h1
    have b := of_decide_eq_false h2
    exact decide_eq_false (by omega)
theorem tri_cmp {vs : List Value} {k : Value → Int} (hp : ∀ v ∈ vs, IsTri s.heap v (k v)) (hu : ∀ v ∈ vs, ∀ u ∈ vs, k v = k u → v = u) : Cmp prog w A s (tuples' true) (fun p => p.1 ∈ vs) (lt2 fun v u => decide (k v < k u)) := by
  intro p q hm hm'
  have h1 := hp _ hm
  have h2 := hp _ hm'
  have h3 := hu _ hm _ hm'
  show wpAny (model prog w) A (keyLt' (tuples' true) p.1 q.1) (fun r s' => s' = s ∧ r = decide (k p.1 < k q.1)) (fun _ _ => False) s
  generalize k p.1 = x at h1 h3 ⊢
  generalize k q.1 = x' at h2 h3 ⊢
  obtain ⟨a, o, t, y, u, z, tz, n, e, ho, hc, hd⟩ := h1
  obtain ⟨a', o', t', y', u', z', tz', n', e', ho', hc', hd'⟩ := h2
  rw [e, e'] at h3 ⊢
  refine PySem.W.kat_lt ho hd ho' hd' ?_
  show PySem.W.KatLex prog w A true (decide (3 < 3)) _ [(.int x t, .int x' t'), (.int y u, .int y' u'), (.str z tz, .str z' tz')] 0 s
  refine PySem.W.kat_cons (SeqAt.EqAt.int_int x t x' t' prog w _ _ ?_)
  refine PySem.W.kat_go (fun e1 => ?_) (fun e1 => ?_)
  · have ex : x = x' := by simpa using e1
    have ea := h3 ex
    injection ea with ea
    subst ea
    rw [ho] at ho'
    cases ho'
    rw [hd] at hd'
    injection hd' with hd1 hd2
    have hl : [Value.int x t, Value.int y u, Value.str z tz] = [Value.int x' t', Value.int y' u', Value.str z' tz'] := by simpa using hd1
    injection hl with q1 hl
    injection hl with q2 hl
    injection hl with q3 hl
    injection q2 with q2 q2'
    injection q3 with q3 q3'
    subst q2
    subst q3
    have e3 : decide (x < x') = false := decide_eq_false (by omega)
    refine PySem.W.kat_yes (PySem.W.kat_cons (wpAny_eqBool_int ?_))
    refine PySem.W.kat_go (fun e2 => ?_) (fun e2 => by simp at e2)
    refine PySem.W.kat_yes (PySem.W.kat_cons (wpAny_eqBool_str ?_))
    refine PySem.W.kat_go (fun e2 => ?_) (fun e2 => by simp at e2)
    exact PySem.W.kat_yes (PySem.W.kat_nil ⟨rfl, e3.symm⟩)
  · exact PySem.W.kat_no (oneLt_int ⟨rfl, rfl⟩)
theorem tri_sortable {a : Addr} {vs : List Value} {k : Value → Int} (h0 : 0 < vs.length) (hp : ∀ v ∈ vs, IsTri s.heap v (k v)) (hu : ∀ v ∈ vs, ∀ u ∈ vs, k v = k u → v = u) (ha : ∀ o, s.heap.get? a = some o → o.cls ≠ .type "tuple") : SortableO prog w A s a vs fun v u => decide (k v < k u) := by
  intro h' keep
  have hp' : ∀ v ∈ vs, IsTri h' v (k v) := fun v hm => (hp v hm).keeps fun b o e c => keep b o (fun z => by subst z; exact ha o e c) e
  obtain ⟨fs, h1, h2, h3⟩ := firsts_of hp'
  refine ⟨tuples' true, fun Q E hq => ?_, tri_cmp (s := { s with heap := h' }) hp' hu⟩
  refine PySem.W.kat_kind (T := .type "int") h1 (by omega) (fun f hm => ?_) (by rfl) ?_
  · obtain ⟨x, t, rfl⟩ := h3 f hm
    exact PySem.W.Looks.now
  · have e : (Value.type "int" != Value.type "tuple") = true := by first | decide +kernel | rfl | decide
    rw [e]
    exact hq
end
end Tri
open PySem PySem.Spec PyProof.Rows L2
/-- sorted(xs), xs a list of triples (int, int, text) whose first ints differ: a new list by the first ints -/
def rSorted3 (K : PySem.W.Frag) : List V → Hp → VK → Prop := fun vs H Q => ∃ (a : Addr) (xs : List V) (k : V → Int), vs = [V.ref a] ∧ SqL K H a xs ∧ (∀ x ∈ xs, ∃ t y z, x = V.ref t ∧ H t = some (.tup [.int (k x), .int y, .str z])) ∧
  (∀ x ∈ xs, ∀ y ∈ xs, k x = k y → x = y) ∧ ∀ ys p, ys.Perm xs → ys.Pairwise (fun x y => k x ≤ k y) → H p = none → Q (.ref p) (upd H p (.lst ys))
theorem back_inj {u v : Value} (hu : ∃ a, u = Value.ref a) (hv : ∃ a, v = Value.ref a) (e : backV u = backV v) : u = v := by
  obtain ⟨a, rfl⟩ := hu
  obtain ⟨b, rfl⟩ := hv
  have e : V.ref a = V.ref b := e
  cases e
  rfl
theorem vals_three : ∀ {a b c : V} {us : List Value}, Vals [a, b, c] us → ∃ u v w, us = [u, v, w] ∧ RelV a u ∧ RelV b v ∧ RelV c w
  | _, _, _, _, .cons r1 (.cons r2 (.cons r3 .nil)) => ⟨_, _, _, rfl, r1, r2, r3⟩
section
variable {X : Cx}
theorem cr_sorted3 : CallR X (.builtin "sorted") (rSorted3 X.K) := by
  intro pins s σ H vs us Q I r h
  obtain ⟨a, xs, k, rfl, hs, hx, hinj, q⟩ := h
  obtain ⟨its, rv, hl, hz⟩ := I.list hs
  obtain ⟨u, rfl, ru⟩ := vals1 r
  obtain rfl : u = Value.ref a := ru
  obtain ⟨e1, e2⟩ := refs_back rv fun x m => by
    obtain ⟨t, _, _, e, _⟩ := hx x m
    exact ⟨t, e⟩
  have hp : ∀ v ∈ its, Tri.IsTri s.heap v (k (backV v)) := fun v hv => by
    obtain ⟨t, rfl⟩ := e2 v hv
    have hm : V.ref t ∈ xs := by rw [e1]; exact List.mem_map.mpr ⟨_, hv, rfl⟩
    obtain ⟨t', y, z, e, ht⟩ := hx _ hm
    cases e
    obtain ⟨_, its2, r2, o, ho, hc, n, hd⟩ := I.hok _ _ ht
    obtain ⟨u1, u2, u3, rfl, ri, rj, rk⟩ := vals_three r2
    obtain ⟨t1, rfl⟩ := ri
    obtain ⟨t2, rfl⟩ := rj
    obtain ⟨t3, rfl⟩ := rk
    exact ⟨t, o, t1, y, t2, z, t3, n, rfl, ho, hc, hd⟩
  have hu : ∀ v ∈ its, ∀ u ∈ its, k (backV v) = k (backV u) → v = u := fun v hv u hu e => by
    have m1 : backV v ∈ xs := by rw [e1]; exact List.mem_map.mpr ⟨_, hv, rfl⟩
    have m2 : backV u ∈ xs := by rw [e1]; exact List.mem_map.mpr ⟨_, hu, rfl⟩
    exact back_inj (e2 v hv) (e2 u hu) (hinj _ m1 _ m2 e)
  refine SrtO.sorted_ord (Tri.swo_k fun u => k (backV u)) hl.isList (by rw [← rv.length]; exact hz) (fun h2 h₁ a' ha kk => ?_) fun out hs' hb => ?_
  · refine Tri.tri_sortable (s := { s with heap := h₁ }) (by omega) (fun v hm => (hp v hm).keeps fun b o e _ => (kk b o e).2) hu fun o e => ?_
    have e' : some o = some (seqObj "list" its.toArray 0) := e.symm.trans ha
    cases e'
    intro c
    exact absurd (Value.type.inj c) (by decide)
  · have h3 : ∀ u ∈ out, ∃ a, u = Value.ref a := fun u hu => e2 u (hb.perm.mem_iff.mp hu)
    obtain ⟨n, hn⟩ := PyProof.Rows.sortedAll_at s.heap its out.toArray
    have hpm : (out.map backV).Perm xs := by
      rw [e1]
      exact hb.perm.map _
    have hso : (out.map backV).Pairwise (fun x y => k x ≤ k y) := List.pairwise_map.mpr (hs'.imp fun {x y} h => by
      have := of_decide_eq_false (p := k (backV y) < k (backV x)) h
      omega)
    refine ⟨.ref (s.heap.objs.size + 1), upd H (s.heap.objs.size + 1) (.lst (out.map backV)), I.laid (t' := s.toks) (fun _ _ => PyProof.Rows.sortedAll_old) (Nat.le_succ _) ⟨?_, out, n, vals_back h3, hn⟩, rfl, q _ _ hpm hso (I.hok.fresh (Nat.le_succ _))⟩
    rw [hpm.length_eq]
    exact hz
end
end BT
/-! Own rules, 5: the class BadText: its __init__, its raise. -/
namespace BT
open PySem PySem.Spec PyProof.Rows L2
/-- what the top has left of TaleError (at D) and BadText (at C; its __init__ at fI) -/
structure BTx (K : PySem.W.Frag) (mg : Str → Option Value) (D C fI : Addr) : Prop where
  gD : mg "TaleError" = some (.ref D)
  sD : PySem.W.specialIn K (.ref D) "__getattribute__" = some (some (.builtin "type.__getattribute__"))
  rD : PySem.W.readsIn K D (.type "type") = true
  fD : PySem.W.findCls K (.ref D) (.type "type") "__init__" = some (.val (.builtin "ValueError.__init__"))
  gC : mg "BadText" = some (.ref C)
  oex : OexC K C
  iC : PySem.W.findIn K (.ref C) "__init__" = some (some (.ref fI))
  tI : PySem.W.typeIn K (.ref fI) = some (.type "function")
  no : PySem.W.findIn K (.ref C) "row" = some none
section
variable {X : Cx} {D C fI : Addr} {e : Expr} {es : List Expr} {ta : TA} {p1 p2 pos : Pos}
/-- TaleError.__init__(self, ..): nothing of it is told -/
theorem pe_tinit {pl : Sem Bool} (T : BTx X.K X.mg D C fI) (ha : PA X (e :: es) ta) (hg : Gl X "TaleError" := by rfl)
    (hc : eval (.Call (.Attribute (.Name "TaleError" p1) "__init__" p2) (e :: es) [] pos) X.env = (do
      let ov ← eval (.Name "TaleError" p1) X.env
      standAt p2.atName
      let (f, first) ← holding [ov] (getMethod ov "__init__" pl)
      callWith pos f first (backTo pos (starEach (e :: es) X.env)) (backToKw pos (keywordEach [] X.env))) := by rfl)
    (he : starEach (e :: es) X.env = (false, eval e X.env) :: starEach es X.env := by rfl) (hpl : (backTo pos (starEach es X.env)).any (·.1) = false := by rfl) :
    PE X (.Call (.Attribute (.Name "TaleError" p1) "__init__" p2) (e :: es) [] pos) (tVeI X.K ta) := by
  refine ⟨fun pins s σ H Q I h => ?_⟩
  refine PySem.W.methodCall_KW (ld_glob I hg T.gD ?_) hc
  refine PySem.W.method_cls I.kIn T.sD (PySem.W.cls_value I.kIn T.rD T.fD (by decide +kernel) ?_)
  show wpAny _ _ (callWith pos (Value.builtin "ValueError.__init__") [] (backTo pos (starEach (e :: es) X.env)) []) _ _ _
  refine PyProof.Rows.callWith_method1 (thn (ha.run pos pins _ σ H _ (I.tok _) h) fun us s1 ⟨vs, H1, I1, r1, a, C, ws, ev, hl, T, ea, q⟩ => ?_) he hpl
  subst ev
  cases r1 with
  | @cons _ u0 _ ur ra rw' =>
    obtain rfl : u0 = Value.ref a := ra
    have hlen : ur.length ≤ sizeLine := by
      rw [← Paired.length rw', sizeLine_eq]
      omega
    exact oinit_ok T I1 ea hlen fun s' J => ⟨.non, H1, J, rfl, q⟩
end
section
variable {P : Program} {w : World} {K : PySem.W.Frag} {mg : Str → Option Value} {base : Heap} {D C fI : Addr} {fd : FuncData}
def spInit (K : PySem.W.Frag) (C : Addr) : Sp := fun vs H Q _ => ∃ (a : Addr) (y : V), vs = [.ref a, y] ∧ H a = some (exo a C none) ∧ ∀ dx, H dx = none → dx ≠ a → Q .non (upd (upd H dx (exd dx [("row", y)])) a (exo a C (some dx)))
theorem ok_init (F : Fun K "__init__" "BadText.__init__" sInit fI fd) (T : BTx K mg D C fI) : FnOk P w K mg base CX0 1 fI fd ["self", "row"] (spInit K C) := by
  refine F.ok scInit (fun vs H Q E h => ?_) (fun cdv A outer s H vs Q E hr h => ?_)
  · obtain ⟨a, y, rfl, _⟩ := h
    rfl
  · obtain ⟨a, y, rfl, ha, q⟩ := h
    refine ⟨_, pss_cons (ps_expr (pe_tinit T (pa_cons (pv 0) (pa_cons pe_str pa_nil)))) (pss_one (ps_ost (pv 0) (pv 1))), ?_⟩
    refine ⟨_, rfl, a, C, _, rfl, by decide, T.oex, ha, ?_⟩
    exact ⟨_, rfl, _, rfl, a, C, rfl, T.oex, T.no, .inl ⟨ha, q⟩⟩
end
/-- raise BadText(e): the error's own dict, new, has the row -/
def tRaiseBT (C : Addr) (W : WX) (te : TE) : TS := fun _ σ H => te σ H fun y H1 => ∀ d, H1 d = none → W (.ref C) (some d) σ (upd H1 d (.xd [("row", y)]))
section
variable {X : Cx} {D C fI : Addr} {fd : FuncData} {W : WX} {e : Expr} {te : TE} {p pos pos2 : Pos}
theorem ps_raiseBT (hc : X.calm = true) (T : BTx X.K X.mg D C fI) (F : FnOk X.prog X.w X.K X.mg X.base CX0 1 fI fd ["self", "row"] (spInit X.K C)) (b : Binds X.K fd ["self", "row"] []) (hr : Room 2 X.A) (tk : Takes X W) (he : PE X e te) (hg : Gl X "BadText" := by rfl)
    (hst : starEach [e] X.env = (false, eval e X.env) :: starEach [] X.env := by rfl) (hpl : (backTo pos (starEach ([] : List Expr) X.env)).any (·.1) = false := by rfl) :
    PS X (.Raise (some (.Call (.Name "BadText" p) [e] [] pos)) none pos2) (tRaiseBT C W te) := by
  refine PS_imp (ps_raise hc tk (pmk_oex T.oex T.iC T.tI F hr b .nil (fun _ _ _ _ _ _ _ h => h.elim) hg T.gC (pa_cons (PE_up he) pa_nil hst) (by decide) hst hpl)) fun D' σ H h => ?_
  refine ⟨_, h, fun v H1 q => ⟨(by show 1 ≤ 1000; decide), fun a ha => ⟨a, v, rfl, upd_same, fun dx hdx hne => ⟨rfl, dx, [("row", v)], upd_same, ?_, ?_, ?_⟩⟩⟩⟩
  · rw [upd_ne hne, upd_same]
  · rw [upd_ne hne] at hdx
    exact hdx
  · rw [upd_ne hne] at hdx
    have e1 : upd (del (upd (upd (upd H1 a (exo a C none)) dx (exd dx [("row", v)])) a (exo a C (some dx))) a) dx (.xd [("row", v)]) = upd H1 dx (.xd [("row", v)]) := by
      funext b
      by_cases hb : b = dx
      · rw [hb, upd_same, upd_same]
      · rw [upd_ne hb, upd_ne hb]
        by_cases hba : b = a
        · rw [hba, del_same, ha]
        · rw [del_ne hba, upd_ne hba, upd_ne hb, upd_ne hba]
    rw [e1]
    exact q dx hdx
end
end BT
/-! Own rules, 6: d.update(e), max(d) of a dict with int keys. -/
namespace BT
open PySem PySem.Spec PyProof.Rows L2
section
variable {X : Cx}
def rUpd : V → List V → Hp → VK → Prop := fun x xs H Q => ∃ (a b : Addr) (kvs more : List (Key × V)), x = .ref a ∧ xs = [.ref b] ∧ a ≠ b ∧ H a = some (.dK kvs) ∧ H b = some (.dK more) ∧ kvs.length + more.length ≤ sizeLine ∧ Q .non (upd H a (.dK (mergeK kvs more)))
theorem mt_dupdate : MtR X "dict.update" rUpd := by
  intro pins s σ H x xs v us Q I rx rv h
  obtain ⟨a, b, kvs, more, rfl, rfl, hne, ha, hb, hz, q⟩ := h
  obtain rfl : v = Value.ref a := rx
  obtain ⟨u, rfl, ru⟩ := vals1 rv
  obtain rfl : u = Value.ref b := ru
  obtain ⟨z1, hd1, vs1, rel1, dd1⟩ := dk_of I.hok ha
  obtain ⟨z2, hd2, vs2, rel2, dd2⟩ := dk_of I.hok hb
  refine call_meetsIn PySem.F.slot_dict_update dd1.typeIs PySem.F.entry_dict_update (PySem.F.args_dict_update_2 _ _) (meets_dict_update (mixKind X.prog X.w) a b hne hd2) ⟨vs1, vs2, dd1, dd2, by rw [← rel1.length, ← rel2.length]; exact hz, fun h' h1 h2 sb => ?_⟩
  have hlen : (mergeK kvs more).length ≤ sizeLine := Nat.le_trans (length_mergeK more kvs) hz
  have hx : ∃ o, h'.get? a = some o := by
    obtain ⟨o, _, _, e, _⟩ := h1
    exact ⟨o, e⟩
  exact ⟨.non, _, I.write (t' := s.toks) (x := a) (e := a) (o := .dK (mergeK kvs more)) (by rw [ha]; exact True.intro) (.inl rfl) (fun c u hc e => (sb.2 c hc).trans e) hx (dk_new hlen hd1 (rel2.merge rel1) h1), rfl, q⟩
theorem KV_keys : ∀ {kvs : List (Key × V)} {vs : List (Key × Value)}, KV kvs vs → kvs.map (·.1) = vs.map (·.1)
  | _, _, .nil => rfl
  | _, _, .cons h t => by
    rw [List.map_cons, List.map_cons, h.1, KV_keys t]
/-- max(d), int keys -/
def rMaxDk : List V → Hp → VK → Prop := fun xs H Q => ∃ (a : Addr) (kvs : List (Key × V)) (ns : List Int), xs = [.ref a] ∧ H a = some (.dK kvs) ∧ kvs.map (·.1) = ns.map Sum.inl ∧ 0 < ns.length ∧ ∀ m, m ∈ ns → (∀ y, y ∈ ns → y ≤ m) → Q (.int m) H
theorem cr_maxDk (hc : X.calm = true) : CallR X (.builtin "max") rMaxDk := by
  intro pins s σ H xs us Q I rx h
  obtain ⟨a, kvs, ns, rfl, ha, hns, hne, q⟩ := h
  rw [Vals.ref1 rx]
  obtain ⟨z, hd, vs, rel, dd⟩ := dk_of I.hok ha
  obtain ⟨ep, hat⟩ := dd.dictAt
  have hlt : a < s.heap.objs.size := hat.lt_size
  have hkn : vs.length = ns.length := by
    have e := congrArg List.length hns
    rw [List.length_map, List.length_map] at e
    rw [← rel.length]
    exact e
  have key : ∀ (i : Nat) (k : Key) (x : Value) (v : Value), vs[i]? = some (k, x) → keyIs k v = true → ∃ t, v = .int (ns.getD i 0) t := fun i k x v hx hi => by
    have e1 : (vs.map (·.1))[i]? = some k := by rw [List.getElem?_map, hx] <;> rfl
    rw [← KV_keys rel, hns, List.getElem?_map] at e1
    cases e2 : ns[i]? with
    | none =>
      rw [e2] at e1
      cases e1
    | some n =>
      rw [e2] at e1
      have e3 : Sum.inl n = k := Option.some.inj e1
      subst e3
      obtain ⟨t, e⟩ := Value.isInt_shape (k := n) (v := v) hi
      refine ⟨t, ?_⟩
      rw [List.getD_eq_getElem?_getD, e2]
      exact e
  refine call_max_walk ?_
  refine wpAny_pyIter_dict hd hat ?_
  refine ⟨s.heap.objs.size, _, _, vs.length, _, _, fun i j => decide (ns.getD i 0 > ns.getD j 0), rfl, Walks.dictKeys (knd := mixKind X.prog X.w) (A := X.A.in1) (show X.A.in1.handled = none from I.ok.hd hc) s.heap.objs.size a (Nat.ne_of_lt hlt) vs ep,
    ⟨⟨_, Heap.get?_push_size _ rfl, rfl, rfl⟩, hat.push _⟩, fun b hb => ?_, by omega, CmpOf.ints_gt (fun i => ns.getD i 0) (fun i v hv => ?_), fun v h' tk hv' hk => ?_⟩
  · show b < (s.heap.push _).objs.size
    rw [size_push']
    rcases List.mem_cons.mp hb with z | z
    · rw [z]
      exact Nat.lt_succ_self _
    · rw [List.mem_singleton.mp z]
      exact Nat.lt_succ_of_lt hlt
  · obtain ⟨k, x, hk, hi⟩ := hv
    exact key i k x v hk hi
  · obtain ⟨k, x, hx, hi⟩ := hv'
    obtain ⟨t, rfl⟩ := key _ k x v hx hi
    obtain ⟨m1', m2'⟩ := argBest_gt (fun i => ns.getD i 0) (vs.length - 1)
    have m1 : argBest (fun i j => decide (ns.getD i 0 > ns.getD j 0)) (vs.length - 1) ≤ vs.length - 1 := m1'
    have m2 : ∀ j, j ≤ vs.length - 1 → ns.getD j 0 ≤ ns.getD (argBest (fun i j => decide (ns.getD i 0 > ns.getD j 0)) (vs.length - 1)) 0 := m2'
    have hk2 : ∀ b o, s.heap.get? b = some o → h'.get? b = some o := fun b o e => hk b o (fun z => by rw [List.mem_singleton.mp z] at e; exact absurd (Heap.lt_size e) (Nat.lt_irrefl _)) (Heap.get?_push_of_some _ e)
    refine ⟨.int _, H, I.kept (t' := tk) hk2, ⟨t, rfl⟩, q _ (PySem.getD_mem (by omega)) fun y hy => ?_⟩
    obtain ⟨j, hj, e⟩ := List.mem_iff_getElem.mp hy
    have z := m2 j (by omega)
    have e3 : ns.getD j 0 = y := by rw [List.getD_eq_getElem?_getD, List.getElem?_eq_getElem hj, ← e] <;> rfl
    rw [e3] at z
    exact z
end
end BT
/-! The promises. -/
namespace BT
open PySem PySem.Spec PyProof.Rows L2 Evl
/-! ### the top's tuples and its dict -/
def KT (K : PySem.W.Frag) (a : Addr) (xs : List V) : Prop := ∃ (o : Obj) (its : Array Value) (n : Nat), K.lookup a = some o ∧ o.cls = .type "tuple" ∧ o.data = .seq its n ∧ its.size ≤ sizeLine ∧ Vals xs its.toList
theorem KT.sq {K : PySem.W.Frag} {a : Addr} {xs : List V} (h : KT K a xs) (H : Hp) : SqT K H a xs := .inr h
structure Txc (K : PySem.W.Frag) (w : World) (mg : Str → Option Value) : Prop where
  words : ∃ a, mg "WORDS" = some (.ref a) ∧ KT K a (wdL.map V.str)
  out : ∃ a, mg "OUT" = some (.ref a) ∧ KT K a [.str "fall", .str "out"]
  bad : ∃ a, mg "BAD" = some (.ref a) ∧ KT K a [.str "fall", .str "bad"]
  have_ : ∃ a, mg "HAVE" = some (.ref a) ∧ KDc K w a ∧ ∀ k, k < 21 → ∃ o, KHas K a (wd k) o ∧ o.getD (.str "") = .str (sg k)
/-! ### rows in the heap -/
def ItAt (K : PySem.W.Frag) (H : Hp) : It → V → Prop
  | .s x, v => v = .str x
  | .n i, v => v = .int i
  | .t l, v => ∃ a, v = .ref a ∧ SqT K H a (l.map V.int)
abbrev ItsAt (K : PySem.W.Frag) (H : Hp) : List It → List V → Prop := Paired (ItAt K H)
def RowAt (K : PySem.W.Frag) (H : Hp) (r : List It) (v : V) : Prop := ∃ a vs, v = .ref a ∧ SqT K H a vs ∧ ItsAt K H r vs
section
variable {K : PySem.W.Frag} {H H' : Hp}
theorem ItAt.ex (e : Ex H H') : ∀ {it : It} {v : V}, ItAt K H it v → ItAt K H' it v
  | .s _, _, h => h
  | .n _, _, h => h
  | .t _, _, ⟨a, h1, h2⟩ => ⟨a, h1, ex_t e h2⟩
theorem ItsAt.ex (e : Ex H H') : ∀ {ts : List It} {vs : List V}, ItsAt K H ts vs → ItsAt K H' ts vs
  | _, _, .nil => .nil
  | _, _, .cons h t => .cons (h.ex e) (ItsAt.ex e t)
theorem RowAt.ex (e : Ex H H') {r : List It} {v : V} (h : RowAt K H r v) : RowAt K H' r v := by
  obtain ⟨a, vs, h1, h2, h3⟩ := h
  exact ⟨a, vs, h1, ex_t e h2, h3.ex e⟩
end
/-- an item fits a sign -/
def FitI (c : Nat) : It → Prop
  | .n _ => c = 114 ∨ c = 110 ∨ c = 112
  | .t l => c = 116 ∧ l.length ≤ 255
  | .s _ => False
abbrev Fits : List Nat → List It → Prop := Paired FitI
/-- what dec gives is so -/
def DecOk : Dec → Prop
  | .op k ts => k < 21 ∧ Fits (sgc k) ts ∧ areThings (sgc k) ts = true
  | _ => True
/-! ### the promises -/
def spSignsOf : Sp := fun vs H Q _ => ∃ k, vs = [.str (wd k)] ∧ k < 21 ∧ Q (.str (sg k)) H
def spNeedOf : Sp := fun vs H Q _ => ∃ (k p : Nat) (ns : List Int), vs = [.str (wd k), .byt (byteArr ns), .int (p : Int)] ∧ k < 21 ∧ Img ns ∧ ∀ H', Ex H H' → Q (.int ((need k ns p : Nat) : Int)) H'
def spPlacesIn : Sp := fun vs H Q _ => ∃ (ns : List Int) (b m : Nat), vs = [.byt (byteArr ns), .int (b : Int), .int (m : Int)] ∧ Img ns ∧ b + 2 * m ≤ ns.length ∧
  ∀ H' p, Ex H H' → H' p = some (.tup ((places ns b m).map V.int)) → Q (.ref p) H'
def spRowIn (K : PySem.W.Frag) : Sp := fun vs H Q _ => ∃ (ns : List Int) (p : Nat), vs = [.byt (byteArr ns), .int (p : Int)] ∧ Img ns ∧
  ∀ H' t r, Ex H H' → H t = none → H' t = some (.tup [r, .int ((manyOf ns p : Nat) : Int)]) → RowAt K H' (rowOf (dec ns p)) r → Q (.ref t) H'
def spIsThing (K : PySem.W.Frag) : Sp := fun vs H Q _ => ∃ (c : Nat) (it : It) (v : V), vs = [.str ⟨#[c]⟩, v] ∧ ItAt K H it v ∧ FitI c it ∧ ∀ H', Ex H H' → Q (.bl (isThing c it)) H'
def spAreThings (K : PySem.W.Frag) : Sp := fun vs H Q _ => ∃ (k : Nat) (a : Addr) (ts : List It) (xs : List V), vs = [.str (wd k), .ref a] ∧ k < 21 ∧ SqL K H a xs ∧ ItsAt K H ts xs ∧ Fits (sgc k) ts ∧
  ∀ H', Ex H H' → Q (.bl (areThings (sgc k) ts)) H'
def spRowAt (K : PySem.W.Frag) : Sp := fun vs H Q _ => ∃ (ns : List Int) (p : Nat), vs = [.byt (byteArr ns), .int (p : Int)] ∧ Img ns ∧ p ≤ 65535 ∧
  ∀ H' t r, Ex H H' → H t = none → H' t = some (.tup [r, .int ((manyOf ns p : Nat) : Int)]) → RowAt K H' (rowOf (dec ns p)) r → Q (.ref t) H'
def spTargetsOf (K : PySem.W.Frag) : Sp := fun vs H Q _ => ∃ (d : Dec) (v : V), vs = [v] ∧ RowAt K H (rowOf d) v ∧ DecOk d ∧ ∀ H' l, Ex H H' → H l = none → H' l = some (.lst ((targets d).map V.int)) → Q (.ref l) H'
def spGoesOn (K : PySem.W.Frag) : Sp := fun vs H Q _ => ∃ (d : Dec) (v : V), vs = [v] ∧ RowAt K H (rowOf d) v ∧ DecOk d ∧ ∀ H', Ex H H' → Q (.bl (goesOn d)) H'
def spWaysAt : Sp := fun vs H Q _ => ∃ (ns : List Int) (p : Nat), vs = [.byt (byteArr ns), .int (p : Int), .bl false] ∧ Img ns ∧ ∀ H' l, Ex H H' → H l = none → H' l = some (.lst ((ways ns p).map V.int)) → Q (.ref l) H'
def spComeTo : Sp := fun vs H Q _ => ∃ (ns : List Int), vs = [.byt (byteArr ns), .int 0, .bl false] ∧ Img ns ∧ ∀ H' l, Ex H H' → H l = none → H' l = some (.lst ((reachL ns).map fun (p : Nat) => V.int (p : Int))) → Q (.ref l) H'
/-- a dict of the reached places and their rows -/
def DicAt (K : PySem.W.Frag) (H : Hp) (ns : List Int) (ps : List Nat) (kvs : List (Key × V)) : Prop := Paired (fun (p : Nat) (kv : Key × V) => kv.1 = Sum.inl (p : Int) ∧ RowAt K H (rowOf (dec ns p)) kv.2) ps kvs
def spReached (K : PySem.W.Frag) : Sp := fun vs H Q _ => ∃ (ns : List Int), vs = [.byt (byteArr ns)] ∧ Img ns ∧ ∀ H' d kvs, Ex H H' → H d = none → H' d = some (.dK kvs) → DicAt K H' ns (reachL ns) kvs → Q (.ref d) H'
def NevAt (H : Hp) (qs : List (Nat × Nat)) (vs : List V) : Prop := Paired (fun (q : Nat × Nat) (v : V) => ∃ t, v = .ref t ∧ H t = some (.tup [.int (q.1 : Int), .int (q.2 : Int)])) qs vs
def spNever : Sp := fun vs H Q _ => ∃ (ns : List Int), vs = [.byt (byteArr ns)] ∧ Img ns ∧ ∀ H' l xs, Ex H H' → H l = none → H' l = some (.lst xs) → NevAt H' (neverL ns) xs → Q (.ref l) H'
def spHexed : Sp := fun vs H Q _ => ∃ (ns : List Int), vs = [.byt (byteArr ns)] ∧ Img ns ∧ ∀ H', Ex H H' → Q (.str (hxS ns)) H'
def spPairsText : Sp := fun vs H Q _ => ∃ (l : List Int), vs = [.byt (byteArr l)] ∧ B8 l ∧ l.length ≤ 2000 ∧ ∀ H', Ex H H' → Q (.str (pairsT l)) H'
def spWordsText (K : PySem.W.Frag) : Sp := fun vs H Q _ => ∃ (d : Dec) (v : V), vs = [v] ∧ RowAt K H (rowOf d) v ∧ DecOk d ∧ ∀ H', Ex H H' → Q (.str (wordsT (rowOf d))) H'
def spListingRows : Sp := fun vs H Q _ => ∃ (ns : List Int), vs = [.byt (byteArr ns)] ∧ Img ns ∧ ∀ H' l, Ex H H' → H l = none → H' l = some (.lst ((rowsL ns).map V.str)) → Q (.ref l) H'
def spListing : Sp := fun vs H Q _ => ∃ (ns : List Int), vs = [.byt (byteArr ns)] ∧ Img ns ∧ ∀ H', Ex H H' → Q (.str (textOf (rowsL ns))) H'
def spBytesOf : Sp := fun vs H Q _ => ∃ (row : Str), vs = [.str row] ∧ row.length ≤ 16000000 ∧ (bytesOf row = none → ∀ H', Ex H H' → Q .non H') ∧
  (∀ n bs, bytesOf row = some (n, bs) → ∀ H' t l, Ex H H' → H' t = some (.tup [.int ((n : Nat) : Int), .ref l]) → H' l = some (.lst (bs.map V.int)) → Q (.ref t) H')
/-- of_hex: of the hex of an image -/
def spOfHex : Sp := fun vs H Q _ => ∃ (ns : List Int), vs = [.str (hxS ns)] ∧ Img ns ∧ ∀ H', Ex H H' → Q (.byt (byteArr ns)) H'
/-- read_listing: of a text; of what is no text -/
def spReadListing (C : Addr) (K : PySem.W.Frag) : Sp := fun vs H Q E => ∃ v : V, vs = [v] ∧
  ((∃ t, v = .str t ∧ t.length ≤ 16000000 ∧ (∀ ns, readL t = .ok ns → ∀ H', Ex H H' → Q (.byt (byteArr ns)) H') ∧
    (∀ i, readL t = .error i → ∀ H' d, Ex H H' → H' d = some (.xd [("row", .int ((i : Nat) : Int))]) → E (.ref C) (some d) H')) ∨
   (∃ ty, TyX K H v (.type ty) ∧ PySem.W.kitOne K (.type ty) (.type "str") = some false ∧ ∀ H' d, Ex H H' → H' d = some (.xd [("row", .int 0)]) → E (.ref C) (some d) H'))
end BT
/-! Dict comprehensions whose keys and values are known; a dict that stands still from now on. -/
namespace BT
open PySem PySem.Spec PyProof.Rows L2 Evl
/-- the value stands still from here on -/
def tFrz (te : TE) : TE := fun σ H Q => te σ H fun x H1 => ∃ d u, x = .ref d ∧ H1 d = some u ∧ Mut (some u) ∧ ∀ od, Q (.ref d) (upd H1 d (.frz od u))
theorem pe_frz {X : Cx} {e : Expr} {te : TE} (h : PE X e te) : PE X e (tFrz te) := ⟨fun pins s σ H Q I hw =>
  thn (h.run pins s σ H _ I hw) fun v s1 ⟨x, H1, I1, r, d, u, ex, hd, mu, q⟩ => by
    subst ex
    obtain ⟨od, I2⟩ := I1.lock hd mu
    exact ⟨_, _, I2, r, q od⟩⟩
/-- what stands beside an object that changes -/
theorem t_keepO {K : PySem.W.Frag} {H : Hp} {l a : Addr} {o : HO} {xs : List V} {o0 : HO} (h0 : H l = some o0) (n1 : ∀ ys, o0 ≠ .tup ys) (n2 : ∀ od ys, o0 ≠ .frz od (.tup ys)) (h : SqT K H a xs) : SqT K (upd H l o) a xs := by
  rcases h with (h | ⟨od, h⟩) | h
  · exact .inl (.inl (by rw [upd_ne (ne_of h h0 (fun z => n1 _ (by cases z; rfl)))]; exact h))
  · exact .inl (.inr ⟨od, by rw [upd_ne (ne_of h h0 (fun z => n2 _ _ (by cases z; rfl)))]; exact h⟩)
  · exact .inr h
section
variable {K : PySem.W.Frag} {H : Hp} {l : Addr} {o o0 : HO}
theorem it_keepO (h0 : H l = some o0) (n1 : ∀ ys, o0 ≠ .tup ys) (n2 : ∀ od ys, o0 ≠ .frz od (.tup ys)) : ∀ {it : It} {v : V}, ItAt K H it v → ItAt K (upd H l o) it v
  | .s _, _, h => h
  | .n _, _, h => h
  | .t _, _, ⟨a, h1, h2⟩ => ⟨a, h1, t_keepO h0 n1 n2 h2⟩
theorem its_keepO (h0 : H l = some o0) (n1 : ∀ ys, o0 ≠ .tup ys) (n2 : ∀ od ys, o0 ≠ .frz od (.tup ys)) : ∀ {ts : List It} {vs : List V}, ItsAt K H ts vs → ItsAt K (upd H l o) ts vs
  | _, _, .nil => .nil
  | _, _, .cons h t => .cons (it_keepO h0 n1 n2 h) (its_keepO h0 n1 n2 t)
theorem row_keepO (h0 : H l = some o0) (n1 : ∀ ys, o0 ≠ .tup ys) (n2 : ∀ od ys, o0 ≠ .frz od (.tup ys)) {r : List It} {v : V} (h : RowAt K H r v) : RowAt K (upd H l o) r v := by
  obtain ⟨a, vs, rfl, h1, h2⟩ := h
  exact ⟨a, vs, rfl, t_keepO h0 n1 n2 h1, its_keepO h0 n1 n2 h2⟩
theorem dic_keepO (h0 : H l = some o0) (n1 : ∀ ys, o0 ≠ .tup ys) (n2 : ∀ od ys, o0 ≠ .frz od (.tup ys)) {ns : List Int} : ∀ {ps : List Nat} {kvs : List (Key × V)}, DicAt K H ns ps kvs → DicAt K (upd H l o) ns ps kvs
  | _, _, .nil => .nil
  | _, _, .cons h t => .cons ⟨h.1, row_keepO h0 n1 n2 h.2⟩ (dic_keepO h0 n1 n2 t)
theorem DicAt.ex {H' : Hp} (e : Ex H H') {ns : List Int} : ∀ {ps : List Nat} {kvs : List (Key × V)}, DicAt K H ns ps kvs → DicAt K H' ns ps kvs
  | _, _, .nil => .nil
  | _, _, .cons h t => .cons ⟨h.1, h.2.ex e⟩ (DicAt.ex e t)
end
section
variable {J : L2.It} {n : Nat} {G : Hp → Prop} {Y : Nat → Hp → V → Hp → Prop}
theorem dc_it (w : Walk J n G Y) {g : TG} {tt : TT} {tk tv : TE} {vs : List Nat} {σ : L2.St} {H1 : Hp} {D : Addr} {Qd : Hp → Prop} (Pv : Nat → Hp → Prop) (h0 : Pv 0 (upd H1 D (.dK []))) (hG : ∀ i H, i ≤ n → Pv i H → G H)
    (hs : ∀ i x H H', i < n → Pv i H → Y i H x H' → g x (wipe σ vs) H' fun σ2 H2 => wipe σ2 vs = wipe σ vs ∧ tt σ2 H2 fun b H3 =>
      if b = true then tk σ2 H3 fun y H4 => tv σ2 H4 fun z H5 => ∃ kvs k, y = kV k ∧ H5 D = some (.dK kvs) ∧ kvs.length < sizeLine ∧ Pv (i + 1) (upd H5 D (.dK (putK kvs k z))) else Pv (i + 1) H3) (hd : ∀ H, Pv n H → Qd H) :
    ∃ W : Nat → Nat → Hp → Prop, (∃ m, W 0 m (upd H1 D (.dK []))) ∧ ∀ i m H, W i m H →
      (J.stop i H ∧ Qd H) ∨ (J.go i H ∧ ∃ Nx : Hp → Prop, (∀ H', Nx H' → ∃ m', m' < m ∧ W (i + 1) m' H') ∧ ∀ x H', J.yld i H x H' → g x (wipe σ vs) H' fun σ2 H2 => wipe σ2 vs = wipe σ vs ∧ tt σ2 H2 fun b H3 =>
        if b = true then tk σ2 H3 fun y H4 => tv σ2 H4 fun z H5 => ∃ kvs k, y = kV k ∧ H5 D = some (.dK kvs) ∧ kvs.length < sizeLine ∧ Nx (upd H5 D (.dK (putK kvs k z))) else Nx H3) := by
  refine ⟨fun i m H => m = n - i ∧ i ≤ n ∧ Pv i H, ⟨n, by simp, Nat.zero_le _, h0⟩, ?_⟩
  rintro i m H ⟨rfl, hi, p⟩
  have q := hG i H hi p
  by_cases hlt : i < n
  · exact .inr ⟨w.goes i H hlt q, Pv (i + 1), fun H' p' => ⟨n - (i + 1), by omega, rfl, hlt, p'⟩, fun x H' y => hs i x H H' hlt p (w.yields i H x H' hlt q y)⟩
  · have e : i = n := by omega
    subst e
    exact .inl ⟨w.stops H q, hd H p⟩
/-- a dict of ints -/
def dkF (kf : Nat → Int) (vf : Nat → V) (n : Nat) : List (Key × V) := (List.range n).map fun i => (Sum.inl (kf i), vf i)
theorem valV_none {κ : Type} [DecidableEq κ] {k : κ} : ∀ {kvs : List (κ × V)}, (∀ p ∈ kvs, p.1 ≠ k) → valV kvs k = none
  | [], _ => rfl
  | p :: r, h => by
    rw [valV_neg (h p (List.mem_cons_self ..))]
    exact valV_none fun q hq => h q (List.mem_cons_of_mem _ hq)
theorem dkF_put {kf : Nat → Int} {vf : Nat → V} {i : Nat} (hi : ∀ j, j < i → kf j ≠ kf i) : putK (dkF kf vf i) (Sum.inl (kf i)) (vf i) = dkF kf vf (i + 1) := by
  rw [putK_new _ (valV_none fun p hp => ?_)]
  · unfold dkF
    rw [List.range_succ, List.map_append]
    rfl
  · obtain ⟨j, hj, rfl⟩ := List.mem_map.mp hp
    intro z
    injection z with z
    exact hi j (List.mem_range.mp hj) z
theorem dc_name (w : Walk J n G Y) (xf vf : Nat → V) (kf : Nat → Int) {j : Nat} {tk tv : TE} {vs : List Nat} {σ : L2.St} {H1 : Hp} {D : Addr} {Qd : Hp → Prop} (hy : ∀ i H x H', i < n → Y i H x H' → H' = H ∧ x = xf i) (hw : ∀ x, wipe ((wipe σ vs).set j (some x)) vs = wipe σ vs)
    (hz : n ≤ sizeLine) (hk : ∀ a b, a < b → b < n → kf a ≠ kf b) (hD : H1 D = none) (hG : ∀ H, Ex H1 H → G H) (tk_ : ∀ i H, i < n → Ex H1 H → Eh tk ((wipe σ vs).set j (some (xf i))) H (.int (kf i))) (tv_ : ∀ i H, i < n → Ex H1 H → Eh tv ((wipe σ vs).set j (some (xf i))) H (vf i))
    (hd : ∀ H, Ex H1 H → H D = some (.dK (dkF kf vf n)) → Qd H) :
    ∃ W : Nat → Nat → Hp → Prop, (∃ m, W 0 m (upd H1 D (.dK []))) ∧ ∀ i m H, W i m H →
      (J.stop i H ∧ Qd H) ∨ (J.go i H ∧ ∃ Nx : Hp → Prop, (∀ H', Nx H' → ∃ m', m' < m ∧ W (i + 1) m' H') ∧ ∀ x H', J.yld i H x H' → gName j x (wipe σ vs) H' fun σ2 H2 => wipe σ2 vs = wipe σ vs ∧ tYes σ2 H2 fun b H3 =>
        if b = true then tk σ2 H3 fun y H4 => tv σ2 H4 fun z H5 => ∃ kvs k, y = kV k ∧ H5 D = some (.dK kvs) ∧ kvs.length < sizeLine ∧ Nx (upd H5 D (.dK (putK kvs k z))) else Nx H3) := by
  refine dc_it w (fun i H => Ex H1 H ∧ H D = some (.dK (dkF kf vf i))) ⟨Ex.new hD, upd_same⟩ (fun i H _ p => hG H p.1) (fun i x H H' hi p y => ?_) fun H p => hd H p.1 p.2
  obtain ⟨rfl, rfl⟩ := hy i H x H' hi y
  refine ⟨hw _, ?_⟩
  unfold tYes
  dsimp only
  rw [if_pos rfl]
  refine tk_ i H' hi p.1 _ fun H3 e3 => tv_ i H3 hi (p.1.trans e3) _ fun H4 e4 => ⟨dkF kf vf i, Sum.inl (kf i), rfl, e4 D _ (e3 D _ p.2), ?_, Ex.mut ((p.1.trans e3).trans e4) hD, ?_⟩
  · unfold dkF
    rw [List.length_map, List.length_range]
    omega
  · rw [upd_same, dkF_put fun j hj => hk j i hj hi]
theorem dc_pair {K : PySem.W.Frag} {xf yf : Nat → Option V} (w : Walk J n G (YPair xf yf)) (xv yv vf : Nat → V) (kf : Nat → Int) (hx : ∀ i, i < n → xf i = some (xv i)) (hy : ∀ i, i < n → yf i = some (yv i)) {i1 i2 : Nat} {tk tv : TE} {vs : List Nat} {σ : L2.St} {H1 : Hp} {D : Addr} {Qd : Hp → Prop}
    (hw : ∀ x y, wipe (((wipe σ vs).set i1 (some x)).set i2 (some y)) vs = wipe σ vs) (hz : n ≤ sizeLine) (hk : ∀ a b, a < b → b < n → kf a ≠ kf b) (hD : H1 D = none) (hG : ∀ H, Ex H1 H → G H)
    (tk_ : ∀ i H, i < n → Ex H1 H → Eh tk (((wipe σ vs).set i1 (some (xv i))).set i2 (some (yv i))) H (.int (kf i))) (tv_ : ∀ i H, i < n → Ex H1 H → Eh tv (((wipe σ vs).set i1 (some (xv i))).set i2 (some (yv i))) H (vf i)) (hd : ∀ H, Ex H1 H → H D = some (.dK (dkF kf vf n)) → Qd H) :
    ∃ W : Nat → Nat → Hp → Prop, (∃ m, W 0 m (upd H1 D (.dK []))) ∧ ∀ i m H, W i m H →
      (J.stop i H ∧ Qd H) ∨ (J.go i H ∧ ∃ Nx : Hp → Prop, (∀ H', Nx H' → ∃ m', m' < m ∧ W (i + 1) m' H') ∧ ∀ x H', J.yld i H x H' → gTup K 2 (gCons (gName i1) (gCons (gName i2) gNil)) x (wipe σ vs) H' fun σ2 H2 => wipe σ2 vs = wipe σ vs ∧ tYes σ2 H2 fun b H3 =>
        if b = true then tk σ2 H3 fun y H4 => tv σ2 H4 fun z H5 => ∃ kvs k, y = kV k ∧ H5 D = some (.dK kvs) ∧ kvs.length < sizeLine ∧ Nx (upd H5 D (.dK (putK kvs k z))) else Nx H3) := by
  refine dc_it w (fun i H => Ex H1 H ∧ H D = some (.dK (dkF kf vf i))) ⟨Ex.new hD, upd_same⟩ (fun i H _ p => hG H p.1) (fun i x H H' hi p y => ?_) fun H p => hd H p.1 p.2
  obtain ⟨T, x0, y0, rfl, nT, rfl, e1, e2⟩ := y
  obtain rfl : xv i = x0 := Option.some.inj ((hx i hi).symm.trans e1)
  obtain rfl : yv i = y0 := Option.some.inj ((hy i hi).symm.trans e2)
  refine ⟨T, _, rfl, SqT.of upd_same, rfl, _, _, rfl, _, _, rfl, rfl, hw _ _, ?_⟩
  unfold tYes
  dsimp only
  rw [if_pos rfl]
  have eT : Ex H (upd H T (.tup [xv i, yv i])) := Ex.new nT
  refine tk_ i _ hi (p.1.trans eT) _ fun H3 e3 => tv_ i H3 hi ((p.1.trans eT).trans e3) _ fun H4 e4 => ⟨dkF kf vf i, Sum.inl (kf i), rfl, e4 D _ (e3 D _ (eT D _ p.2)), ?_, Ex.mut (((p.1.trans eT).trans e3).trans e4) hD, ?_⟩
  · unfold dkF
    rw [List.length_map, List.length_range]
    omega
  · rw [upd_same, dkF_put fun j hj => hk j i hj hi]
end
end BT
/-! Dicts: merged, their keys. -/
namespace BT
open PySem PySem.Spec PyProof.Rows L2 Evl
theorem putK_keys_old {kvs : List (Key × V)} {k : Key} {v : V} (h : (valV kvs k).isSome = true) : (putK kvs k v).map (·.1) = kvs.map (·.1) := by
  unfold putK
  rw [valV_any, if_pos h, List.map_map]
  refine List.map_congr_left fun p _ => ?_
  show (if p.1 = k then (p.1, v) else p).1 = p.1
  split <;> rfl
theorem nd_put {kvs : List (Key × V)} {k : Key} {v : V} (hn : (kvs.map (·.1)).Nodup) : ((putK kvs k v).map (·.1)).Nodup := by
  cases h : valV kvs k with
  | none => exact nd_putK v hn h
  | some x =>
    rw [putK_keys_old (by rw [h]; rfl)]
    exact hn
theorem nd_merge : ∀ {more kvs : List (Key × V)}, (kvs.map (·.1)).Nodup → ((mergeK kvs more).map (·.1)).Nodup
  | [], _, h => h
  | x :: r, kvs, h => nd_merge (more := r) (kvs := putK kvs x.1 x.2) (nd_put h)
theorem putK_keys {kvs : List (Key × V)} {k : Key} {v : V} {p : Key × V} (h : p ∈ putK kvs k v) : p.1 = k ∨ p.1 ∈ kvs.map (·.1) := by
  have h' : p.1 ∈ (putK kvs k v).map (·.1) := List.mem_map.mpr ⟨p, h, rfl⟩
  cases e : valV kvs k with
  | none =>
    rw [putK_new _ e, List.map_append] at h'
    rcases List.mem_append.mp h' with z | z
    · exact .inr z
    · exact .inl (List.mem_singleton.mp z)
  | some x =>
    rw [putK_keys_old (by rw [e]; rfl)] at h'
    exact .inr h'
theorem merge_keys : ∀ {more kvs : List (Key × V)} {p : Key × V}, p ∈ mergeK kvs more → p.1 ∈ more.map (·.1) ∨ p.1 ∈ kvs.map (·.1)
  | [], _, p, h => .inr (List.mem_map.mpr ⟨p, h, rfl⟩)
  | x :: r, kvs, p, h => by
    have h : p ∈ mergeK (putK kvs x.1 x.2) r := h
    rcases merge_keys h with z | z
    · exact .inl (List.mem_cons_of_mem _ z)
    · obtain ⟨p', h1, h2⟩ := List.mem_map.mp z
      rcases putK_keys h1 with y | y
      · left
        rw [← h2, y]
        exact List.mem_cons_self ..
      · right
        rw [← h2]
        exact y
theorem merge_app (kvs a b : List (Key × V)) : mergeK (mergeK kvs a) b = mergeK kvs (a ++ b) := by
  unfold mergeK
  rw [List.foldl_append]
theorem valV_merge (k : Key) : ∀ (more kvs : List (Key × V)), valV (mergeK kvs more) k = ((more.reverse.find? fun p => decide (p.1 = k)).map (·.2)).or (valV kvs k)
  | [], kvs => rfl
  | x :: r, kvs => by
    show valV (mergeK (putK kvs x.1 x.2) r) k = _
    rw [valV_merge k r, valV_put, List.reverse_cons, List.find?_append]
    cases r.reverse.find? fun p => decide (p.1 = k) with
    | some y => rfl
    | none =>
      by_cases h : k = x.1
      · subst h
        simp
      · have h' : ¬ x.1 = k := fun z => h z.symm
        simp [h, h']
theorem some_merge (k : Key) (more kvs : List (Key × V)) : (valV (mergeK kvs more) k).isSome = ((valV kvs k).isSome || more.any fun p => decide (p.1 = k)) := by
  rw [valV_merge]
  cases e : more.reverse.find? fun p => decide (p.1 = k) with
  | some y =>
    have h1 := List.mem_of_find?_eq_some e
    have h2 := List.find?_some e
    have : (more.any fun p => decide (p.1 = k)) = true := List.any_eq_true.mpr ⟨y, List.mem_reverse.mp h1, h2⟩
    rw [this]
    simp
  | none =>
    have : (more.any fun p => decide (p.1 = k)) = false := by
      rw [List.any_eq_false]
      intro x hx
      have := List.find?_eq_none.mp e x (List.mem_reverse.mpr hx)
      simpa using this
    rw [this]
    simp
end BT
/-! The walk, 1: is_byte, is_place, check_image, check_place, signs_of, need_of. -/
namespace BT
open PySem PySem.Spec PyProof.Rows L2
/-! ### bytes by their numbers -/
theorem g_at {ns : List Int} {p : Nat} (h : p < ns.length) : ns[p]? = some (g ns p) := by
  unfold g
  rw [List.getD_eq_getElem?_getD, List.getElem?_eq_getElem h] <;> rfl
theorem g_b8 {ns : List Int} {p : Nat} (h8 : B8 ns) (h : p < ns.length) : 0 ≤ g ns p ∧ g ns p < 256 := h8 _ (List.mem_of_getElem? (g_at h))
/-- b[i] -/
def rIxB : R2 := fun x y H Q => ∃ (ns : List Int) (i : Int) (p : Nat), x = .byt (byteArr ns) ∧ y = .int i ∧ i = (p : Int) ∧ B8 ns ∧ ns.length ≤ 2000 ∧ p < ns.length ∧ Q (.int (g ns p)) H
section
variable {X : Cx} {a b : Expr} {ta tb : TE} {pos : Pos}
theorem pe_ixB (ha : PE X a ta) (hb : PE X b tb) (hs : PlainIxT b := by exact fun _ _ => rfl) : PE X (.Subscript a b pos) (tOp rIxB (upE ta) (upE tb)) := by
  refine PE_imp (pe_item_byt (PE_up ha) (PE_up hb) hs) fun σ H Q h => ?_
  obtain ⟨Q1, h1, im1⟩ := h
  refine ⟨Q1, h1, fun v H1 q1 => ?_⟩
  obtain ⟨Q2, h2, im2⟩ := im1 v H1 q1
  refine ⟨Q2, h2, fun u H2 q2 => ?_⟩
  obtain ⟨ns, i, p, e1, e2, ei, h8, hl, hp, q⟩ := im2 u H2 q2
  refine ⟨ns.map (fun n : Int => n.toNat.toUInt8), i, e1, e2, ?_, by omega, ?_, ?_⟩
  · rw [List.length_map, sizeLine_eq]
    omega
  · rw [List.length_map]
    omega
  · have e3 : i.toNat = p := by omega
    rw [e3, byte_at h8 (g_at hp)]
    exact q
end
/-- an operator's reading weakened -/
theorem pe_opW {X : Cx} {a b : Expr} {ta tb : TE} {pos : Pos} {op : Operator} {r r' : R2} (ho : OpR X (binaryOp op) r) (im : ∀ x y H Q, r' x y H Q → r x y H Q) : OpR X (binaryOp op) r' :=
  fun pins s σ H x y v u Q I rx ry h => ho pins s σ H x y v u Q I rx ry (im x y H Q h)
/-- len(b) -/
def rLenB : List V → Hp → VK → Prop := fun vs H Q => ∃ ns : List Int, vs = [.byt (byteArr ns)] ∧ ns.length ≤ 1000000 ∧ Q (.int (ns.length : Int)) H
theorem call_lenB {X : Cx} : CallR X (.builtin "len") rLenB := fun pins s σ H xs us Q I r h => by
  obtain ⟨ns, e, hl, q⟩ := h
  refine call_len pins s σ H xs us Q I r ⟨_, _, e, ⟨?_, rfl⟩, ?_⟩
  · rw [byteArr_size, sizeLine_eq]
    omega
  · rw [byteArr_size]
    exact q
section
variable {P : Program} {w : World} {K : PySem.W.Frag} {mg : Str → Option Value} {base : Heap}
/-! ### numbers.py -/
def spIsW1 (hi : Int) : Sp := fun vs H Q _ => ∃ i : Int, vs = [.int i] ∧ Q (.bl (isW i 0 hi)) H
theorem ok_is_byte (T : Txt K mg) : Own P w K mg base CX0 2 "is_byte" ["thing"] (spIsW1 255) := own_of T.isByte fun f fd F => by
  have G := ok_is_whole (P := P) (w := w) (base := base) T
  refine F.ok scIsByte (fun vs H Q E h => ?_) (fun cdv A outer s H vs Q E hr h => ?_)
  · obtain ⟨i, rfl, _⟩ := h
    rfl
  · obtain ⟨i, rfl, q⟩ := h
    refine ⟨_, pss_one (ps_ret (pe_own G hr pass0 (pa_cons (pv 0) (pa_cons pe_int (pa_cons (pe_cint T.mostByte) pa_nil))))), ?_⟩
    exact ⟨_, rfl, i, 0, 255, rfl, q⟩
theorem ok_is_place (T : Txt K mg) : Own P w K mg base CX0 2 "is_place" ["thing"] (spIsW1 65535) := own_of T.isPlace fun f fd F => by
  have G := ok_is_whole (P := P) (w := w) (base := base) T
  refine F.ok scIsPlace (fun vs H Q E h => ?_) (fun cdv A outer s H vs Q E hr h => ?_)
  · obtain ⟨i, rfl, _⟩ := h
    rfl
  · obtain ⟨i, rfl, q⟩ := h
    refine ⟨_, pss_one (ps_ret (pe_own G hr pass0 (pa_cons (pv 0) (pa_cons pe_int (pa_cons (pe_cint T.mostPlace) pa_nil))))), ?_⟩
    exact ⟨_, rfl, i, 0, 65535, rfl, q⟩
/-! ### codes.py -/
def spCheckImage : Sp := fun vs H Q _ => ∃ ns : List Int, vs = [.byt (byteArr ns)] ∧ Img ns ∧ Q .non H
theorem ok_check_image (T : Txt K mg) : Own P w K mg base CX0 1 "check_image" ["image"] spCheckImage := own_of T.checkImage fun f fd F => by
  refine F.ok scCheckImage (fun vs H Q E h => ?_) (fun cdv A outer s H vs Q E hr h => ?_)
  · obtain ⟨ns, rfl, _⟩ := h
    rfl
  · obtain ⟨ns, rfl, hI, q⟩ := h
    have h1 := hI.lo
    have h2 := hI.hi
    refine ⟨_, pss_one (ps_if (PW.pt (pw_or (pt_not (pt_val (pe_callB call_isi (by rfl) T.isinstance (by decide +kernel) (pa_cons (pv 0) (pa_cons (pe_ty (n := "bytes") T.bytes (by decide +kernel)) pa_nil)))))
      (pw_or1 (pt_not (pt_chain op_le op_le pe_int (pe_callB call_lenB (by rfl) T.len PySem.boot_len (pa_cons (pv 0) pa_nil)) (pe_cint T.mostImage)))))) (pss_one ps_never) pss_nil), ?_⟩
    refine ⟨_, rfl, _, _, _, _, true, rfl, .ty "bytes", .byt _, kit_ty (by decide +kernel), true, rfl, iteF ?_⟩
    refine ⟨_, rfl, ns, rfl, by omega, _, _, rfl, rfl, _, rfl, ?_⟩
    rw [decide_eq_true (show (1 : Int) ≤ (ns.length : Int) by omega)]
    exact iteT ⟨_, _, rfl, rfl, true, congrArg V.bl (decide_eq_true (show (ns.length : Int) ≤ 2000 by omega)), iteF q⟩
def spCheckPlace : Sp := fun vs H Q _ => ∃ i : Int, vs = [.int i] ∧ 0 ≤ i ∧ i ≤ 65535 ∧ Q .non H
theorem isW_yes {i lo hi : Int} (h1 : lo ≤ i) (h2 : i ≤ hi) : isW i lo hi = true := by
  unfold isW
  rw [decide_eq_true h1, decide_eq_true h2] <;> rfl
theorem ok_check_place (T : Txt K mg) : Own P w K mg base CX0 3 "check_place" ["place"] spCheckPlace := own_of T.checkPlace fun f fd F => by
  have G := ok_is_place (P := P) (w := w) (base := base) T
  refine F.ok scCheckPlace (fun vs H Q E h => ?_) (fun cdv A outer s H vs Q E hr h => ?_)
  · obtain ⟨i, rfl, _⟩ := h
    rfl
  · obtain ⟨i, rfl, h1, h2, q⟩ := h
    refine ⟨_, pss_one (ps_if (pt_not (pt_val (pe_own G hr pass0 (pa_cons (pv 0) pa_nil)))) (pss_one ps_never) pss_nil), ?_⟩
    refine ⟨_, rfl, i, rfl, true, ?_, iteF q⟩
    rw [isW_yes h1 h2]
end
end BT
/-! The walk, 2: signs_of, need_of, places_in. -/
namespace BT
open PySem PySem.Spec PyProof.Rows L2 Evl
section
variable {P : Program} {w : World} {K : PySem.W.Frag} {mg : Str → Option Value} {base : Heap}
theorem ok_signs_of (T : Txt K mg) (C : Txc K w mg) : Own P w K mg base CX0 1 "signs_of" ["word"] spSignsOf := own_of T.signsOf fun f fd F => by
  obtain ⟨a, ma, kd, hs⟩ := C.have_
  refine F.ok scSignsOf (fun vs H Q E h => ?_) (fun cdv A outer s H vs Q E hr h => ?_)
  · obtain ⟨k, rfl, _⟩ := h
    rfl
  · obtain ⟨k, rfl, hk, q⟩ := h
    obtain ⟨o, ho, eo⟩ := hs k hk
    refine ⟨_, pss_one (ps_ret (pe_kget2 (pe_glob (v := .ref a) (by rfl) ma rfl) (pv 0) pe_str (by constructor <;> rfl))), ?_⟩
    refine ⟨a, rfl, kd, _, rfl, wd k, o, rfl, ho, ?_⟩
    rw [eo]
    exact q
theorem sg_size : ∀ k, k < 21 → (sg k).cps.size ≤ 2 := by decide +kernel
/-! ### need_of -/
def widthI (c : Nat) : Int := ((width c : Nat) : Int)
theorem sum_map_nat : ∀ (l : List Nat) (f : Nat → Nat), (l.map fun c => ((f c : Nat) : Int)).sum = (((l.map f).sum : Nat) : Int)
  | [], _ => rfl
  | a :: r, f => by
    rw [List.map_cons, List.sum_cons, List.map_cons, List.sum_cons, sum_map_nat r f]
    omega
theorem one_eq {a b : Nat} : ((V.str ⟨#[a]⟩ : V) = .str ⟨#[b]⟩) ↔ a = b := by
  constructor
  · intro h
    injection h with h
    injection h with h
    simpa using h
  · intro h
    rw [h]
theorem wd_table : ∀ k, k < 21 → ((wd k = "table") ↔ k = 16) := by decide +kernel
theorem ok_need_of (T : Txt K mg) (C : Txc K w mg) : Own P w K mg base CX0 2 "need_of" ["word", "image", "place"] spNeedOf := own_of T.needOf fun f fd F => by
  have G1 := ok_signs_of (P := P) (base := base) T C
  refine F.ok scNeedOf (fun vs H Q E h => ?_) (fun cdv A outer s H vs Q E hr h => ?_)
  · obtain ⟨k, p, ns, rfl, _⟩ := h
    rfl
  · obtain ⟨k, p, ns, rfl, hk, hI, q⟩ := h
    refine ⟨_, pss_cons (ps_set (i := 3) scNeedOf.nd rfl (.inl rfl) (pe_op op_add pe_int (pe_callB (cr_sum rfl) (by rfl) T.sum (by decide +kernel) (pa_cons
        (pe_lc (own := [("sign", 4)]) (g := gName 4) (tt := tYes) rfl scNeedOf.nd (pi_str (pe_own G1 hr pass0 (pa_cons (pv 0) pa_nil))) (blkOk_by (N := nNeedOf) (sc := defScope sNeedOf) (by decide +kernel))
          (fun _ _ _ _ _ => pg_name (i := 4) scNeedOf.nd rfl (Or.inl rfl)) (fun _ _ _ _ _ => pts_nil) (fun _ _ _ _ _ => pe_ifExp (pt_cmpR op_eq (pv 4) pe_str (nomark _)) pe_int pe_int)) pa_nil))))
      (pss_cons (ps_if (pt_cmpR op_ne (pv 0) pe_str (nomark _)) (pss_one (ps_ret (pv 3))) pss_nil)
      (pss_one (ps_ret (pe_op op_add pe_int (pe_ifExp (pt_cmpR op_lt (pe_op op_add (pv 2) pe_int) (pe_callB call_lenB (by rfl) T.len PySem.boot_len (pa_cons (pv 1) pa_nil)) (nomark _))
        (pe_op op_mul pe_int (pe_ixB (pv 1) (pe_op op_add (pv 2) pe_int))) pe_int))))), ?_⟩
    refine ⟨_, rfl, k, rfl, hk, _, rfl, fun D hD => lc_name walk_str _ (fun i => .int (widthI ((sgc k).getD i 0))) y_str (fun _ => rfl) ?_ hD (fun _ _ => True.intro) ?_ ?_⟩
    · have := sg_size k hk
      rw [sizeLine_eq]
      omega
    · intro i H' hi e Q q
      refine ⟨_, rfl, rfl, _, rfl, ?_⟩
      show if decide (V.str ⟨#[(sgc k).getD i 0]⟩ = V.str "p") = true then Q (.int 2) H' else Q (.int 1) H'
      have e1 : (V.str ⟨#[(sgc k).getD i 0]⟩ = V.str "p") ↔ (sgc k).getD i 0 = 112 := by
        rw [show ("p" : Str) = ⟨#[112]⟩ from by decide +kernel]
        exact one_eq
      have q := q H' (Ex.refl H')
      unfold widthI width at q
      by_cases h : (sgc k).getD i 0 = 112
      · rw [decide_eq_true (e1.mpr h)]
        rw [if_pos h] at q
        exact iteT q
      · rw [decide_eq_false fun z => h (e1.mp z)]
        rw [if_neg h] at q
        exact iteF q
    · intro H1 e1 hl
      have e2 : (List.range (sg k).cps.size).map (fun i => V.int (widthI ((sgc k).getD i 0))) = ((sgc k).map widthI).map V.int := by
        have := map_range_getD (fun c => V.int (widthI c)) 0 (sgc k)
        rw [show (sgc k).length = (sg k).cps.size from Array.length_toList] at this
        rw [this, List.map_map]
        rfl
      rw [e2] at hl
      refine ⟨D, _, rfl, SqL.of hl, 1, _, rfl, rfl, ?_⟩
      have e3 : (1 : Int) + ((sgc k).map widthI).sum = ((1 + widths (sgc k) : Nat) : Int) := by
        have := sum_map_nat (sgc k) width
        show 1 + ((sgc k).map fun c => ((width c : Nat) : Int)).sum = _
        rw [this]
        unfold widths
        omega
      have e4 : (fun i j : Int => V.int (i + j)) 1 ((sgc k).map widthI).sum = V.int ((1 + widths (sgc k) : Nat) : Int) := congrArg V.int e3
      rw [e4]
      have w1 := wd_table k hk
      have hl2 := hI.hi
      refine ⟨_, rfl, rfl, _, rfl, ?_⟩
      unfold need at q
      by_cases h16 : k = 16
      · rw [if_pos h16] at q
        rw [decide_eq_true (show V.str (wd k) = V.str "table" by rw [w1.mpr h16])]
        refine iteF ⟨_, rfl, _, _, rfl, rfl, _, rfl, ns, rfl, by omega, _, _, rfl, rfl, _, rfl, ?_⟩
        by_cases hp : p + 2 < ns.length
        · rw [if_pos hp] at q
          have g8 := g_b8 hI.b8 hp
          rw [decide_eq_true (show (p : Int) + 2 < (ns.length : Int) by omega)]
          refine iteT (up_i ⟨_, rfl, up_i ⟨_, rfl, _, _, rfl, rfl, ns, _, p + 2, rfl, rfl, rfl, hI.b8, hl2, hp, _, _, rfl, rfl, .inl ⟨by decide, by decide⟩, _, _, rfl, rfl, ?_⟩⟩)
          have e5 : (3 : Int) + 2 * g ns (p + 2) = ((3 + 2 * (g ns (p + 2)).toNat : Nat) : Int) := by omega
          show Q (V.int (3 + 2 * g ns (p + 2))) H1
          rw [e5]
          exact q _ e1
        · rw [if_neg hp] at q
          rw [decide_eq_false (show ¬ (p : Int) + 2 < (ns.length : Int) by omega)]
          refine iteF ⟨_, _, rfl, rfl, ?_⟩
          exact q _ e1
      · rw [if_neg h16] at q
        rw [decide_eq_false (show ¬ V.str (wd k) = V.str "table" by intro z; injection z with z; exact h16 (w1.mp z))]
        exact iteT ⟨_, rfl, q _ e1⟩
end
end BT
/-! The walk, 3: places_in, is_thing, are_things. -/
namespace BT
open PySem PySem.Spec PyProof.Rows L2 Evl
theorem ty_tup {K : PySem.W.Frag} {H : Hp} {a : Addr} {xs : List V} (h : SqT K H a xs) : TyX K H (.ref a) (.type "tuple") := by
  rcases h with (h | ⟨o, h⟩) | ⟨o, its, n, hk, hc, _⟩
  · exact .base (.tup h)
  · exact .fTuple h
  · exact .kTuple hk hc
section
variable {P : Program} {w : World} {K : PySem.W.Frag} {mg : Str → Option Value} {base : Heap}
theorem ok_places_in (T : Txt K mg) : Own P w K mg base CX0 1 "places_in" ["image", "begin", "many"] spPlacesIn := own_of T.placesIn fun f fd F => by
  refine F.ok scPlacesIn (fun vs H Q E h => ?_) (fun cdv A outer s H vs Q E hr h => ?_)
  · obtain ⟨ns, b, m, rfl, _⟩ := h
    rfl
  · obtain ⟨ns, b, m, rfl, hI, hbm, q⟩ := h
    have hl2 := hI.hi
    refine ⟨_, pss_one (ps_ret (pe_callTy call_tuple_of (by rfl) T.tuple (by decide +kernel) (pa_cons (pe_lc (own := [("at", 3)]) (g := gName 3) (tt := tYes) rfl scPlacesIn.nd
      (pi_range1 rfl T.range (pa_cons (pv 2) pa_nil)) (blkOk_by (N := nPlacesIn) (sc := defScope sPlacesIn) (by decide +kernel)) (fun _ _ _ _ _ => pg_name (i := 3) scPlacesIn.nd rfl (Or.inl rfl)) (fun _ _ _ _ _ => pts_nil)
      (fun _ _ _ _ _ => pe_op op_add (pe_op op_mul pe_int (pe_ixB (pv 0) (pe_op op_add (pv 1) (pe_op op_mul pe_int (pv 3))))) (pe_ixB (pv 0) (pe_op op_add (pe_op op_add (pv 1) (pe_op op_mul pe_int (pv 3))) pe_int)))) pa_nil))), ?_⟩
    refine ⟨_, rfl, _, rfl, by omega, by omega, fun D hD => ?_⟩
    refine lc_name (walk_range (lo := 0)) _ (fun i => .int (256 * g ns (b + 2 * i) + g ns (b + 2 * i + 1))) y_fn (fun _ => rfl) (by rw [sizeLine_eq]; omega) hD (fun _ _ => True.intro) ?_ ?_
    · intro i H' hi e Q q
      have h1 : b + 2 * i + 1 < ns.length := by omega
      have h2 : b + 2 * i < ns.length := by omega
      refine up_i ⟨_, rfl, up_i ⟨_, rfl, _, rfl, _, _, rfl, rfl, .inl ⟨by decide, by decide⟩, _, _, rfl, rfl, ns, _, b + 2 * i, rfl, rfl, by omega, hI.b8, hl2, h2, ?_⟩⟩
      refine ⟨_, _, rfl, rfl, .inl ⟨by decide, by decide⟩, ?_⟩
      refine up_i ⟨_, rfl, up_i ⟨_, rfl, _, rfl, _, _, rfl, rfl, .inl ⟨by decide, by decide⟩, _, _, rfl, rfl, _, _, rfl, rfl, ns, _, b + 2 * i + 1, rfl, rfl, by omega, hI.b8, hl2, h1, ?_⟩⟩
      exact ⟨_, _, rfl, rfl, q _ (Ex.refl _)⟩
    · intro H' e hl
      have e2 : (List.range m).map (fun i => V.int (256 * g ns (b + 2 * i) + g ns (b + 2 * i + 1))) = (places ns b m).map V.int := by
        unfold places
        rw [List.map_map]
        rfl
      rw [show (((m : Nat) : Int)).toNat = m from Int.toNat_natCast m, e2] at hl
      exact ⟨D, _, rfl, .inl ⟨SqL.of hl, fun l hl2 => q _ l (e.trans (Ex.new hl2)) upd_same⟩⟩
/-! ### is_thing -/
theorem one_dec {a b : Nat} (x : Str) (hx : x = ⟨#[b]⟩) : decide ((V.str ⟨#[a]⟩ : V) = .str x) = decide (a = b) := by
  subst hx
  by_cases h : a = b
  · rw [decide_eq_true h, decide_eq_true (one_eq.mpr h)]
  · rw [decide_eq_false h, decide_eq_false fun z => h (one_eq.mp z)]
theorem all_bl {α : Type} (f : α → Bool) : ∀ l : List α, (l.map f).all id = l.all f
  | [] => rfl
  | a :: r => by
    rw [List.map_cons, List.all_cons, List.all_cons, all_bl f r]
    rfl
theorem ok_is_thing (T : Txt K mg) : Own P w K mg base CX0 3 "is_thing" ["sign", "thing"] (spIsThing K) := own_of T.isThing fun f fd F => by
  have G1 := ok_is_whole (P := P) (w := w) (base := base) T
  have G2 := ok_is_byte (P := P) (w := w) (base := base) T
  have G3 := ok_is_place (P := P) (w := w) (base := base) T
  refine F.ok scIsThing (fun vs H Q E h => ?_) (fun cdv A outer s H vs Q E hr h => ?_)
  · obtain ⟨c, it, v, rfl, _⟩ := h
    rfl
  · obtain ⟨c, it, v, rfl, hit, hfit, q⟩ := h
    have hr1 : Room 1 _ := hr.mono (by decide)
    refine ⟨_, pss_cons (ps_if (pt_cmpR op_eq (pv 0) pe_str (nomark _)) (pss_one (ps_ret (pe_own G1 hr1 pass0 (pa_cons (pv 1) (pa_cons pe_int (pa_cons (pe_cint T.mostRegister) pa_nil)))))) pss_nil)
      (pss_cons (ps_if (pt_cmpR op_eq (pv 0) pe_str (nomark _)) (pss_one (ps_ret (pe_own G2 hr pass0 (pa_cons (pv 1) pa_nil)))) pss_nil)
      (pss_cons (ps_if (pt_cmpR op_eq (pv 0) pe_str (nomark _)) (pss_one (ps_ret (pe_own G3 hr pass0 (pa_cons (pv 1) pa_nil)))) pss_nil)
      (pss_one (ps_ret (pe_and (pe_callB call_isi (by rfl) T.isinstance (by decide +kernel) (pa_cons (pv 1) (pa_cons (pe_ty (n := "tuple") T.tuple (by decide +kernel)) pa_nil)))
        (pe_and (pe_chain op_le op_le pe_int (pe_callB call_len_seq (by rfl) T.len PySem.boot_len (pa_cons (pv 1) pa_nil)) pe_int)
        (pe_one (pe_callB (cr_all rfl) (by rfl) T.all (by decide +kernel) (pa_cons (pe_lc (own := [("one", 2)]) (g := gName 2) (tt := tYes) rfl scIsThing.nd (pi_tup (pv 1)) (blkOk_by (N := nIsThing) (sc := defScope sIsThing) (by decide +kernel))
          (fun _ _ _ _ _ => pg_name (i := 2) scIsThing.nd rfl (Or.inl rfl)) (fun _ _ _ _ _ => pts_nil) (fun _ _ _ _ _ => pe_own G3 hr pass0 (pa_cons (pv 2) pa_nil))) pa_nil))))))))), ?_⟩
    have q0 := q H (Ex.refl H)
    cases it with
    | s x => exact hfit.elim
    | n i =>
      obtain rfl : v = .int i := hit
      have hc : c = 114 ∨ c = 110 ∨ c = 112 := hfit
      refine ⟨_, rfl, rfl, _, rfl, ?_⟩
      rw [one_dec (b := 114) "r" (by decide +kernel)]
      dsimp only [isThing] at q0
      by_cases h1 : c = 114
      · rw [decide_eq_true h1]
        rw [if_pos h1] at q0
        exact iteT ⟨_, rfl, i, 0, 3, rfl, q0⟩
      rw [decide_eq_false h1]
      rw [if_neg h1] at q0
      refine iteF ⟨_, rfl, rfl, _, rfl, ?_⟩
      rw [one_dec (b := 110) "n" (by decide +kernel)]
      by_cases h2 : c = 110
      · rw [decide_eq_true h2]
        rw [if_pos h2] at q0
        exact iteT ⟨_, rfl, i, rfl, q0⟩
      rw [decide_eq_false h2]
      rw [if_neg h2] at q0
      refine iteF ⟨_, rfl, rfl, _, rfl, ?_⟩
      rw [one_dec (b := 112) "p" (by decide +kernel), decide_eq_true (show c = 112 by omega)]
      exact iteT ⟨_, rfl, i, rfl, q0⟩
    | t l =>
      obtain ⟨a, rfl, hS⟩ := hit
      obtain ⟨rfl, hl⟩ := hfit
      refine ⟨_, rfl, rfl, _, rfl, ?_⟩
      rw [one_dec (b := 114) "r" (by decide +kernel)]
      refine iteF ⟨_, rfl, rfl, _, rfl, ?_⟩
      rw [one_dec (b := 110) "n" (by decide +kernel)]
      refine iteF ⟨_, rfl, rfl, _, rfl, ?_⟩
      rw [one_dec (b := 112) "p" (by decide +kernel)]
      refine iteF ⟨_, rfl, _, _, _, _, true, rfl, .ty "tuple", ty_tup hS, kit_ty (by decide +kernel), true, rfl, iteT ?_⟩
      dsimp only [isThing] at q q0
      refine ⟨_, rfl, a, _, rfl, .inr hS, _, _, rfl, rfl, _, rfl, ?_⟩
      rw [List.length_map]
      by_cases h1 : 1 ≤ l.length
      · rw [decide_eq_true (show (1 : Int) ≤ (l.length : Int) by omega)]
        refine iteT ⟨_, _, rfl, rfl, true, congrArg V.bl (decide_eq_true (show (l.length : Int) ≤ 255 by omega)), iteT ?_⟩
        refine ⟨_, rfl, a, rfl, ⟨_, hS⟩, fun D hD => ?_⟩
        refine lc_name walk_tup _ (fun i => .bl (isW (l.getD i 0) 0 65535)) y_at (fun _ => rfl) (by rw [List.length_map, sizeLine_eq]; omega) hD (fun H' e => ex_t e hS) ?_ ?_
        · intro i H' hi e Q q
          rw [List.length_map] at hi
          have e1 : (l.map V.int).getD i .non = .int (l.getD i 0) := by
            rw [List.getD_eq_getElem?_getD, List.getElem?_map, List.getD_eq_getElem?_getD, List.getElem?_eq_getElem hi]
            rfl
          rw [e1]
          exact ⟨_, rfl, l.getD i 0, rfl, q _ (Ex.refl _)⟩
        · intro H' e hD
          have e2 : (List.range (l.map V.int).length).map (fun i => V.bl (isW (l.getD i 0) 0 65535)) = (l.map fun i => isW i 0 65535).map V.bl := by
            rw [List.length_map, List.map_map]
            exact map_range_getD (fun i => V.bl (isW i 0 65535)) 0 l
          rw [e2] at hD
          refine ⟨D, _, rfl, SqL.of hD, ?_⟩
          have q := q H' e
          rw [decide_eq_true h1, decide_eq_true hl] at q
          rw [all_bl]
          exact q
      · rw [decide_eq_false (show ¬ (1 : Int) ≤ (l.length : Int) by omega)]
        rw [decide_eq_false h1] at q0
        exact iteF ⟨false, rfl, iteF q0⟩
end
end BT
/-! The walk, 4: are_things. -/
namespace BT
open PySem PySem.Spec PyProof.Rows L2 Evl
theorem paired_at {α β : Type} {F : α → β → Prop} : ∀ {l : List α} {m : List β}, Paired F l m → ∀ {i : Nat} {x : α}, l[i]? = some x → ∃ y, m[i]? = some y ∧ F x y
  | _, _, .nil, _, _, h => by simp at h
  | _, _, .cons r t, 0, x, h => by
    have e := Option.some.inj h
    subst e
    exact ⟨_, rfl, r⟩
  | _, _, .cons r t, i + 1, x, h => paired_at t (i := i) h
section
variable {P : Program} {w : World} {K : PySem.W.Frag} {mg : Str → Option Value} {base : Heap}
theorem ok_are_things (T : Txt K mg) (C : Txc K w mg) : Own P w K mg base CX0 4 "are_things" ["word", "things"] (spAreThings K) := own_of T.areThings fun f fd F => by
  have G1 := ok_signs_of (P := P) (base := base) T C
  have G2 := ok_is_thing (P := P) (w := w) (base := base) T
  refine F.ok scAreThings (fun vs H Q E h => ?_) (fun cdv A outer s H vs Q E hr h => ?_)
  · obtain ⟨k, a, ts, xs, rfl, _⟩ := h
    rfl
  · obtain ⟨k, a, ts, xs, rfl, hk, hS, hts, hfit, q⟩ := h
    have hr1 : Room 1 _ := hr.mono (by decide)
    have l1 : (sgc k).length = ts.length := hfit.length
    have l2 : ts.length = xs.length := hts.length
    have l3 : (sgc k).length = (sg k).cps.size := Array.length_toList
    have l4 := sg_size k hk
    refine ⟨_, pss_cons (ps_set (i := 2) scAreThings.nd rfl (.inl rfl) (pe_own G1 hr1 pass0 (pa_cons (pv 0) pa_nil)))
      (pss_one (ps_ret (pe_and (pe_cmpR op_eq (pe_callB call_len_seq (by rfl) T.len PySem.boot_len (pa_cons (pv 1) pa_nil)) (pe_callB call_len_str (by rfl) T.len PySem.boot_len (pa_cons (pv 2) pa_nil)) (nomark _))
        (pe_one (pe_callB (cr_all rfl) (by rfl) T.all (by decide +kernel) (pa_cons (pe_lc (own := [("sign", 3), ("thing", 4)]) (g := gTup K 2 (gCons (gName 3) (gCons (gName 4) gNil))) (tt := tYes) rfl scAreThings.nd
          (pi_zipS (by rfl) T.zip (pa_cons (pv 2) (pa_cons (pv 1) pa_nil))) (blkOk_by (N := nAreThings) (sc := defScope sAreThings) (by decide +kernel))
          (fun _ _ _ _ _ => pg_tup rfl (pgs_cons (pg_name (i := 3) scAreThings.nd rfl (Or.inl rfl)) (pgs_cons (pg_name (i := 4) scAreThings.nd rfl (Or.inl rfl)) pgs_nil))) (fun _ _ _ _ _ => pts_nil)
          (fun _ _ _ _ _ => pe_own G2 hr pass0 (pa_cons (pv 3) (pa_cons (pv 4) pa_nil)))) pa_nil)))))), ?_⟩
    refine ⟨_, rfl, k, rfl, hk, ?_⟩
    refine ⟨_, rfl, a, _, rfl, .inl hS, _, rfl, _, rfl, by rw [sizeLine_eq]; show (sg k).cps.size ≤ _; omega, rfl, true, ?_, iteT ?_⟩
    · refine congrArg V.bl (decide_eq_true ?_)
      show V.int (xs.length : Int) = V.int ((sg k).length : Int)
      rw [show (sg k).length = (sg k).cps.size from rfl]
      congr 1
      omega
    refine ⟨_, rfl, _, rfl, sg k, a, xs, rfl, hS, fun D hD => ?_⟩
    refine lc_pair (walk_zipS (n := (sgc k).length) (by omega)) (fun i => .str ⟨#[(sgc k).getD i 0]⟩) (fun i => xs.getD i .non) (fun i => .bl (isThing ((sgc k).getD i 0) (ts.getD i (.n 0)))) ?_ ?_ (fun _ _ => rfl) (by rw [sizeLine_eq]; omega) hD (fun H' e => ex_l e hS) ?_ ?_
    · intro i hi
      have e : (sgc k)[i]? = (sg k).cps[i]? := Array.getElem?_toList
      show (sg k).cps[i]?.map _ = _
      rw [← e, List.getD_eq_getElem?_getD, List.getElem?_eq_getElem hi]
      rfl
    · intro i hi
      rw [List.getD_eq_getElem?_getD, List.getElem?_eq_getElem (by omega)]
      rfl
    · intro i H' hi e Q q
      have h1 : (sgc k)[i]? = some ((sgc k).getD i 0) := by
        rw [List.getD_eq_getElem?_getD, List.getElem?_eq_getElem hi]
        rfl
      obtain ⟨it, h2, hf⟩ := paired_at hfit h1
      obtain ⟨x, h3, hi2⟩ := paired_at hts h2
      have e2 : ts.getD i (.n 0) = it := by rw [List.getD_eq_getElem?_getD, h2] <;> rfl
      have e3 : xs.getD i .non = x := by rw [List.getD_eq_getElem?_getD, h3] <;> rfl
      rw [e2] at q
      refine ⟨_, rfl, _, rfl, _, it, _, rfl, ?_, hf, q⟩
      rw [e3]
      exact hi2.ex e
    · intro H' e hl
      have e2 : (List.range (sgc k).length).map (fun i => V.bl (isThing ((sgc k).getD i 0) (ts.getD i (.n 0)))) = (((sgc k).zip ts).map fun p => isThing p.1 p.2).map V.bl := by
        refine List.ext_getElem (by simp; omega) fun i h1 h2 => ?_
        have h3 : i < (sgc k).length := by simpa using h1
        have h4 : i < ts.length := by omega
        simp [h3, h4]
      rw [e2] at hl
      refine ⟨D, _, rfl, SqL.of hl, ?_⟩
      rw [all_bl]
      exact q H' e
end
end BT
/-! The walk, 5: row_in, row_at. -/
namespace BT
open PySem PySem.Spec PyProof.Rows L2 Evl
/-! ### things, one more -/
theorem things_snoc (ns : List Int) (c : Nat) : ∀ (cs : List Nat) (a : Nat), things ns (cs ++ [c]) a = things ns cs a ++ [thing ns c (a + widths cs)]
  | [], a => rfl
  | d :: r, a => by
    show thing ns d a :: things ns (r ++ [c]) (a + width d) = _
    rw [things_snoc ns c r]
    have : a + width d + widths r = a + widths (d :: r) := by
      show _ = a + (width d + widths r)
      omega
    rw [this]
    rfl
theorem widths_snoc (c : Nat) (cs : List Nat) : widths (cs ++ [c]) = widths cs + width c := by
  unfold widths
  simp
theorem take_snoc {α : Type} {l : List α} {i : Nat} (d : α) (h : i < l.length) : l.take (i + 1) = l.take i ++ [l.getD i d] := by
  rw [List.take_add_one, List.getElem?_eq_getElem h, List.getD_eq_getElem?_getD, List.getElem?_eq_getElem h]
  rfl
theorem sg_table : ∀ k, k < 21 → ∀ i, i < (sgc k).length → (((sgc k).getD i 0 = 116 ∧ k = 16 ∧ widths ((sgc k).take i) = 1) ∨ (((sgc k).getD i 0 = 114 ∨ (sgc k).getD i 0 = 110 ∨ (sgc k).getD i 0 = 112) ∧ widths ((sgc k).take i) + width ((sgc k).getD i 0) ≤ widths (sgc k) ∧ (k = 16 → widths ((sgc k).take i) + width ((sgc k).getD i 0) = 1))) := by decide +kernel
theorem sg_signs : ∀ k, k < 21 → ∀ c ∈ sgc k, c = 114 ∨ c = 110 ∨ c = 112 ∨ c = 116 := by decide +kernel
theorem g_b8' {ns : List Int} (h8 : B8 ns) (p : Nat) : 0 ≤ g ns p ∧ g ns p < 256 := by
  by_cases h : p < ns.length
  · exact g_b8 h8 h
  · unfold g
    rw [List.getD_eq_getElem?_getD, List.getElem?_eq_none (by omega)]
    exact ⟨by decide, by decide⟩
theorem fit_thing {ns : List Int} (h8 : B8 ns) {c a : Nat} (hc : c = 114 ∨ c = 110 ∨ c = 112 ∨ c = 116) : FitI c (thing ns c a) := by
  unfold thing
  by_cases h : c = 116
  · rw [if_pos h]
    refine ⟨h, ?_⟩
    unfold places
    rw [List.length_map, List.length_range]
    have := g_b8' h8 a
    omega
  · rw [if_neg h]
    show c = 114 ∨ c = 110 ∨ c = 112
    omega
theorem fits_things {ns : List Int} (h8 : B8 ns) : ∀ {cs : List Nat} (a : Nat), (∀ c ∈ cs, c = 114 ∨ c = 110 ∨ c = 112 ∨ c = 116) → Fits cs (things ns cs a)
  | [], _, _ => .nil
  | c :: r, a, h => .cons (fit_thing h8 (h c (List.mem_cons_self ..))) (fits_things h8 _ fun d hd => h d (List.mem_cons_of_mem _ hd))
theorem dec_ok {ns : List Int} (h8 : B8 ns) (p : Nat) : DecOk (dec ns p) := by
  unfold dec
  by_cases h1 : ns.length ≤ p
  · rw [if_pos h1]
    exact True.intro
  rw [if_neg h1]
  by_cases h2 : 21 ≤ opc ns p
  · rw [if_pos h2]
    exact True.intro
  rw [if_neg h2]
  by_cases h3 : ns.length < p + need (opc ns p) ns p
  · rw [if_pos h3]
    exact True.intro
  rw [if_neg h3]
  by_cases h4 : areThings (sgc (opc ns p)) (things ns (sgc (opc ns p)) (p + 1)) = true
  · rw [if_pos h4]
    exact ⟨by omega, fits_things h8 _ (sg_signs _ (by omega)), h4⟩
  · rw [if_neg h4]
    exact True.intro
/-! ### what stands beside a list that grows -/
theorem t_keep {K : PySem.W.Frag} {H : Hp} {l a : Addr} {ys : List V} {xs zs : List V} (hl : H l = some (.lst zs)) (h : SqT K H a ys) : SqT K (upd H l (.lst xs)) a ys := by
  rcases h with (h | ⟨o, h⟩) | h
  · exact .inl (.inl (by rw [upd_ne (ne_of h hl (by intro z; cases z))]; exact h))
  · exact .inl (.inr ⟨o, by rw [upd_ne (ne_of h hl (by intro z; cases z))]; exact h⟩)
  · exact .inr h
theorem it_keep {K : PySem.W.Frag} {H : Hp} {l : Addr} {xs zs : List V} (hl : H l = some (.lst zs)) : ∀ {it : It} {v : V}, ItAt K H it v → ItAt K (upd H l (.lst xs)) it v
  | .s _, _, h => h
  | .n _, _, h => h
  | .t _, _, ⟨a, h1, h2⟩ => ⟨a, h1, t_keep hl h2⟩
theorem its_keep {K : PySem.W.Frag} {H : Hp} {l : Addr} {xs zs : List V} (hl : H l = some (.lst zs)) : ∀ {ts : List It} {vs : List V}, ItsAt K H ts vs → ItsAt K (upd H l (.lst xs)) ts vs
  | _, _, .nil => .nil
  | _, _, .cons h t => .cons (it_keep hl h) (its_keep hl t)
theorem paired_snoc {α β : Type} {F : α → β → Prop} {x : α} {y : β} (r : F x y) : ∀ {l : List α} {m : List β}, Paired F l m → Paired F (l ++ [x]) (m ++ [y])
  | _, _, .nil => .cons r .nil
  | _, _, .cons h t => .cons h (paired_snoc r t)
theorem wd_at {k : Nat} (h : k < 21) : (wdL.map V.str)[k]? = some (.str (wd k)) := by
  have h1 : k < wdL.length := h
  rw [List.getElem?_map, List.getElem?_eq_getElem h1]
  unfold wd
  rw [List.getD_eq_getElem?_getD, List.getElem?_eq_getElem h1]
  rfl
section
variable {P : Program} {w : World} {K : PySem.W.Frag} {mg : Str → Option Value} {base : Heap}
theorem ok_row_in (T : Txt K mg) (C : Txc K w mg) : Own P w K mg base CX0 5 "row_in" ["image", "place"] (spRowIn K) := own_of T.rowIn fun f fd F => by
  have G1 := ok_signs_of (P := P) (base := base) T C
  have G2 := ok_need_of (P := P) (base := base) T C
  have G3 := ok_places_in (P := P) (w := w) (base := base) T
  have G4 := ok_are_things (P := P) (base := base) T C
  obtain ⟨aw, mw, kw⟩ := C.words
  obtain ⟨ao, mo, ko⟩ := C.out
  obtain ⟨ab, mb, kb⟩ := C.bad
  refine F.ok scRowIn (fun vs H Q E h => ?_) (fun cdv A outer s H vs Q E hr h => ?_)
  · obtain ⟨ns, p, rfl, _⟩ := h
    rfl
  · obtain ⟨ns, p, rfl, hI, q⟩ := h
    have hr1 : Room 1 _ := hr.mono (by decide)
    have hr2 : Room 2 _ := hr.mono (by decide)
    have hl2 := hI.hi
    refine ⟨_, pss_cons (ps_if (pt_cmpR op_ge (pv 1) (pe_callB call_lenB (by rfl) T.len PySem.boot_len (pa_cons (pv 0) pa_nil)) (nomark _)) (pss_one (ps_ret (pe_tup (pa_cons (pe_glob (v := .ref ao) (by rfl) mo rfl) (pa_cons pe_int pa_nil))))) pss_nil)
      (pss_cons (ps_if (pt_cmpR op_ge (pe_ixB (pv 0) (pv 1)) (pe_callB call_len_seq (by rfl) T.len PySem.boot_len (pa_cons (pe_glob (v := .ref aw) (by rfl) mw rfl) pa_nil)) (nomark _)) (pss_one (ps_ret (pe_tup (pa_cons (pe_glob (v := .ref ab) (by rfl) mb rfl) (pa_cons pe_int pa_nil))))) pss_nil)
      (pss_cons (ps_set (i := 2) scRowIn.nd rfl (.inl rfl) (pe_ix ix_tup (pe_glob (v := .ref aw) (by rfl) mw rfl) (pe_ixB (pv 0) (pv 1)) (fun _ _ => rfl)))
      (pss_cons (ps_set (i := 3) scRowIn.nd rfl (.inl rfl) (pe_own G2 hr2 pass0 (pa_cons (pv 2) (pa_cons (pv 0) (pa_cons (pv 1) pa_nil)))))
      (pss_cons (ps_if (pt_cmpR op_gt (pe_op op_add (pv 1) (pv 3)) (pe_callB call_lenB (by rfl) T.len PySem.boot_len (pa_cons (pv 0) pa_nil)) (nomark _)) (pss_one (ps_ret (pe_tup (pa_cons (pe_glob (v := .ref ao) (by rfl) mo rfl) (pa_cons pe_int pa_nil))))) pss_nil)
      (pss_cons (ps_par (i := 4) (j := 5) (by rfl) scRowIn.nd rfl rfl (by decide) rfl rfl (pa_cons (pe_lst pa_nil) (pa_cons (pe_op op_add (pv 1) pe_int) pa_nil)) (by rfl))
      (pss_cons (ps_for PassesOwn.never rfl (pi_str (pe_own G1 hr1 pass0 (pa_cons (pv 2) pa_nil))) (pg_name (i := 6) scRowIn.nd rfl (Or.inl rfl))
        (pss_cons (ps_if (pt_cmpR op_eq (pv 6) pe_str (nomark _))
          (pss_one (ps_expr (pe_bm PySem.F.plainAttrs_list PySem.F.slot_list_append PySem.F.type_list_append mt_append (pv 4) (pa_cons (pe_own G3 hr1 pass0 (pa_cons (pv 0) (pa_cons (pe_op op_add (pv 5) pe_int) (pa_cons (pe_ixB (pv 0) (pv 5)) pa_nil)))) pa_nil))))
          (pss_one (ps_expr (pe_bm PySem.F.plainAttrs_list PySem.F.slot_list_append PySem.F.type_list_append mt_append (pv 4) (pa_cons (pe_ifExp (pt_cmpR op_eq (pv 6) pe_str (nomark _)) (pe_op op_add (pe_op op_mul pe_int (pe_ixB (pv 0) (pv 5))) (pe_ixB (pv 0) (pe_op op_add (pv 5) pe_int))) (pe_ixB (pv 0) (pv 5))) pa_nil)))))
        (pss_one (ps_aug (i := 5) scRowIn.nd rfl (.inl rfl) (pe_ifExp (pt_cmpR op_eq (pv 6) pe_str (nomark _)) pe_int pe_int) ip_add))))
      (pss_cons (ps_if (pt_not (pt_val (pe_own G4 hr pass0 (pa_cons (pv 2) (pa_cons (pv 4) pa_nil))))) (pss_one (ps_ret (pe_tup (pa_cons (pe_glob (v := .ref ab) (by rfl) mb rfl) (pa_cons pe_int pa_nil))))) pss_nil)
      (pss_one (ps_ret (pe_tup (pa_cons (pe_op op_catT (pe_tup (pa_cons (pv 2) pa_nil)) (pe_callTy call_tuple_of (by rfl) T.tuple (by decide +kernel) (pa_cons (pv 4) pa_nil))) (pa_cons (pv 3) pa_nil)))))))))))), ?_⟩
    have hz2 : 2 ≤ sizeLine := by decide
    have hz1 : 1 ≤ sizeLine := by decide
    unfold manyOf at q
    unfold dec at q
    refine ⟨_, rfl, _, rfl, ns, rfl, by omega, _, _, rfl, rfl, _, rfl, ?_⟩
    by_cases h1 : ns.length ≤ p
    · rw [decide_eq_true (show (ns.length : Int) ≤ (p : Int) by omega)]
      rw [if_pos h1] at q
      refine iteT ⟨hz2, fun t ht => ?_⟩
      exact q _ t _ (Ex.new ht) ht upd_same ⟨ao, _, rfl, ko.sq _, .cons rfl (.cons rfl .nil)⟩
    rw [decide_eq_false (show ¬ (ns.length : Int) ≤ (p : Int) by omega)]
    rw [if_neg h1] at q
    have hp : p < ns.length := by omega
    have g8 := g_b8 hI.b8 hp
    refine iteF (up_i ⟨_, rfl, up_i ⟨_, rfl, ns, _, p, rfl, rfl, rfl, hI.b8, hl2, hp, aw, _, rfl, .inr (kw.sq _), _, _, rfl, rfl, _, rfl, ?_⟩⟩)
    rw [show ((wdL.map V.str).length : Int) = 21 from by decide +kernel]
    by_cases h2 : 21 ≤ opc ns p
    · rw [decide_eq_true (show (21 : Int) ≤ g ns p by unfold opc at h2; omega)]
      rw [if_pos h2] at q
      refine iteT ⟨hz2, fun t ht => ?_⟩
      exact q _ t _ (Ex.new ht) ht upd_same ⟨ab, _, rfl, kb.sq _, .cons rfl (.cons rfl .nil)⟩
    rw [decide_eq_false (show ¬ (21 : Int) ≤ g ns p by unfold opc at h2; omega)]
    rw [if_neg h2] at q
    have hk : opc ns p < 21 := by omega
    have ek : g ns p = ((opc ns p : Nat) : Int) := by unfold opc; omega
    generalize opc ns p = k at q hk ek
    refine iteF (up_i ⟨_, rfl, up_i ⟨_, rfl, ns, _, p, rfl, rfl, rfl, hI.b8, hl2, hp, ?_⟩⟩)
    refine ⟨aw, _, _, _, rfl, rfl, kw.sq _, by rw [ek]; exact atI_nat (wd_at hk), ?_⟩
    refine ⟨_, rfl, _, rfl, _, rfl, k, p, ns, rfl, hk, hI, fun H1 e1 => ?_⟩
    refine ⟨_, rfl, _, rfl, _, _, rfl, rfl, _, rfl, ns, rfl, by omega, _, _, rfl, rfl, _, rfl, ?_⟩
    by_cases h3 : ns.length < p + need k ns p
    · rw [decide_eq_true (show (ns.length : Int) < (p : Int) + (need k ns p : Nat) by omega)]
      rw [if_pos h3] at q
      refine iteT ⟨hz2, fun t ht => ?_⟩
      exact q _ t _ (e1.trans (Ex.new ht)) (fresh_back e1 ht) upd_same ⟨ao, _, rfl, ko.sq _, .cons rfl (.cons rfl .nil)⟩
    rw [decide_eq_false (show ¬ (ns.length : Int) < (p : Int) + (need k ns p : Nat) by omega)]
    rw [if_neg h3] at q
    refine iteF ⟨by decide, fun l hl => ?_⟩
    refine ⟨_, rfl, _, _, rfl, rfl, _, _, rfl, ?_⟩
    refine ⟨_, rfl, k, rfl, hk, _, rfl, ?_⟩
    have hc3 : (sgc k).length = (sg k).cps.size := Array.length_toList
    refine for_it walk_str (fun i σ H => Ex H1 H ∧ ∃ xs o6, H l = some (.lst xs) ∧ xs.length = i ∧ ItsAt K H (things ns ((sgc k).take i) (p + 1)) xs ∧
        σ = [some (.byt (byteArr ns)), some (.int (p : Int)), some (.str (wd k)), some (.int ((need k ns p : Nat) : Int)), some (.ref l), some (.int ((p + 1 + widths ((sgc k).take i) : Nat) : Int)), o6])
      ⟨Ex.new hl, [], none, upd_same, rfl, .nil, ?_⟩ (fun _ _ _ _ _ => True.intro) ?_ ?_
    · show [_, _, _, _, _, _, _] = _
      rw [show ((p + 1 + widths ((sgc k).take 0) : Nat) : Int) = (p : Int) + 1 from by
        rw [show widths ((sgc k).take 0) = 0 from rfl]; omega]
    · intro i x σ H H' hi inv y
      obtain ⟨e2, xs, o6, hx, hxl, his, rfl⟩ := inv
      obtain ⟨rfl, rfl⟩ := y_str i H x H' hi y
      have hi' : i < (sgc k).length := by omega
      have hl4 := sg_size k hk
      have tb := sg_table k hk i hi'
      have hsz : xs.length < sizeLine := by rw [sizeLine_eq]; omega
      have hw : widths ((sgc k).take (i + 1)) = widths ((sgc k).take i) + width ((sgc k).getD i 0) := by rw [take_snoc 0 hi', widths_snoc]
      have ht : things ns ((sgc k).take (i + 1)) (p + 1) = things ns ((sgc k).take i) (p + 1) ++ [thing ns ((sgc k).getD i 0) (p + 1 + widths ((sgc k).take i))] := by rw [take_snoc 0 hi', things_snoc]
      rw [show (sg k).cps.toList.getD i 0 = (sgc k).getD i 0 from rfl]
      generalize (sgc k).getD i 0 = c at tb hw ht
      refine ⟨_, rfl, rfl, _, rfl, ?_⟩
      rw [one_dec (b := 116) "t" (by decide +kernel)]
      unfold need at h3
      by_cases hc : c = 116
      · rcases tb with tb | tb
        · obtain ⟨_, h16, hw1⟩ := tb
          rw [if_pos h16] at h3
          rw [decide_eq_true hc]
          have hp2 : p + 2 < ns.length := by omega
          rw [if_pos hp2] at h3
          have gp := g_b8 hI.b8 hp2
          have e5 : p + 1 + widths ((sgc k).take i) = p + 2 := by omega
          rw [e5] at ht ⊢
          have et : thing ns c (p + 2) = .t (places ns (p + 3) (g ns (p + 2)).toNat) := by
            unfold thing
            rw [if_pos hc]
          rw [et] at ht
          refine iteT ⟨_, rfl, .inl ⟨rfl, _, SqL.of hx⟩, ?_⟩
          refine ⟨_, rfl, _, rfl, _, _, rfl, rfl, up_i ⟨_, rfl, up_i ⟨_, rfl, ns, _, p + 2, rfl, rfl, rfl, hI.b8, hl2, hp2, ?_⟩⟩⟩
          refine ⟨ns, p + 3, (g ns (p + 2)).toNat, ?_, hI, by omega, fun H2 t e3 ht2 => ?_⟩
          · rw [show ((p + 3 : Nat) : Int) = ((p + 2 : Nat) : Int) + 1 from by omega, show (((g ns (p + 2)).toNat : Nat) : Int) = g ns (p + 2) from by omega]
            rfl
          have hx2 := e3 l _ hx
          refine ⟨l, _, _, rfl, rfl, hx2, hsz, ?_⟩
          refine ⟨_, rfl, _, rfl, rfl, _, rfl, ?_⟩
          rw [one_dec (b := 112) "p" (by decide +kernel), decide_eq_false (show ¬ c = 112 by omega)]
          refine iteF ⟨_, _, rfl, rfl, ?_⟩
          refine ⟨Ex.mut (e2.trans e3) (fresh_back (Ex.refl _) hl), xs ++ [.ref t], some (.str ⟨#[c]⟩), upd_same, by rw [List.length_append, hxl]; rfl, ?_, ?_⟩
          · rw [ht]
            refine paired_snoc ?_ (its_keep hx2 (his.ex e3))
            exact ⟨t, rfl, t_keep hx2 (st_of ht2)⟩
          · have e6 : ((p + 1 + widths ((sgc k).take (i + 1)) : Nat) : Int) = ((p + 2 : Nat) : Int) + 1 := by
              rw [hw]
              unfold width
              rw [if_neg (show ¬ c = 112 by omega)]
              omega
            rw [e6]
            rfl
        · omega
      · rcases tb with tb | tb
        · omega
        obtain ⟨tb1, tb2, tb3⟩ := tb
        rw [decide_eq_false hc]
        have hb : p + 1 + widths ((sgc k).take i) + width c ≤ ns.length := by
          by_cases h16 : k = 16
          · have := tb3 h16
            rw [if_pos h16] at h3
            omega
          · rw [if_neg h16] at h3
            omega
        have et : thing ns c (p + 1 + widths ((sgc k).take i)) = .n (if c = 112 then 256 * g ns (p + 1 + widths ((sgc k).take i)) + g ns (p + 1 + widths ((sgc k).take i) + 1) else g ns (p + 1 + widths ((sgc k).take i))) := by
          unfold thing
          rw [if_neg hc]
        rw [et] at ht
        unfold width at hb hw
        generalize hA : p + 1 + widths ((sgc k).take i) = at_ at hb ht ⊢
        refine iteF ⟨_, rfl, .inl ⟨rfl, _, SqL.of hx⟩, ?_⟩
        refine ⟨_, rfl, rfl, _, rfl, ?_⟩
        rw [one_dec (b := 112) "p" (by decide +kernel)]
        by_cases h112 : c = 112
        · rw [if_pos h112] at hb hw ht
          rw [decide_eq_true h112]
          refine iteT (up_i ⟨_, rfl, up_i ⟨_, rfl, _, _, at_, rfl, rfl, rfl, hI.b8, hl2, by omega, ?_⟩⟩)
          refine ⟨_, _, rfl, rfl, .inl ⟨by decide, by decide⟩, up_i ⟨_, rfl, up_i ⟨_, rfl, _, _, rfl, rfl, _, _, at_ + 1, rfl, rfl, rfl, hI.b8, hl2, by omega, ?_⟩⟩⟩
          refine ⟨_, _, rfl, rfl, l, _, _, rfl, rfl, hx, hsz, ?_⟩
          refine ⟨_, rfl, _, rfl, rfl, _, rfl, ?_⟩
          rw [one_dec (b := 112) "p" (by decide +kernel), decide_eq_true h112]
          refine iteT ⟨_, _, rfl, rfl, ?_⟩
          refine ⟨Ex.mut e2 (fresh_back (Ex.refl _) hl), xs ++ [_], some (.str ⟨#[c]⟩), upd_same, by rw [List.length_append, hxl]; rfl, ?_, ?_⟩
          · rw [ht]
            exact paired_snoc (F := ItAt K _) (show ItAt K _ (.n _) _ from rfl) (its_keep hx his)
          · have e6 : ((p + 1 + widths ((sgc k).take (i + 1)) : Nat) : Int) = ((at_ : Nat) : Int) + 2 := by
              rw [hw]
              omega
            rw [e6]
            rfl
        · rw [if_neg h112] at hb hw ht
          rw [decide_eq_false h112]
          refine iteF (up_i ⟨_, rfl, up_i ⟨_, rfl, _, _, at_, rfl, rfl, rfl, hI.b8, hl2, by omega, ?_⟩⟩)
          refine ⟨l, _, _, rfl, rfl, hx, hsz, ?_⟩
          refine ⟨_, rfl, _, rfl, rfl, _, rfl, ?_⟩
          rw [one_dec (b := 112) "p" (by decide +kernel), decide_eq_false h112]
          refine iteF ⟨_, _, rfl, rfl, ?_⟩
          refine ⟨Ex.mut e2 (fresh_back (Ex.refl _) hl), xs ++ [_], some (.str ⟨#[c]⟩), upd_same, by rw [List.length_append, hxl]; rfl, ?_, ?_⟩
          · rw [ht]
            exact paired_snoc (F := ItAt K _) (show ItAt K _ (.n _) _ from rfl) (its_keep hx his)
          · have e6 : ((p + 1 + widths ((sgc k).take (i + 1)) : Nat) : Int) = ((at_ : Nat) : Int) + 1 := by
              rw [hw]
              omega
            rw [e6]
            rfl
    · intro σ H2 inv
      obtain ⟨e2, xs, o6, hx, hxl, his, rfl⟩ := inv
      rw [← hc3, List.take_length] at his
      have hl4 := sg_size k hk
      have hfit := fits_things hI.b8 (p + 1) (sg_signs k hk)
      refine ⟨_, rfl, _, rfl, k, l, _, xs, rfl, hk, SqL.of hx, his, hfit, fun H3 e3 => ?_⟩
      refine ⟨_, rfl, ?_⟩
      by_cases h4 : areThings (sgc k) (things ns (sgc k) (p + 1)) = true
      · rw [h4]
        rw [if_pos h4] at q
        refine iteF ⟨_, rfl, hz1, fun u hu => ?_⟩
        have e4 : Ex H3 (upd H3 u (.tup [.str (wd k)])) := Ex.new hu
        have hx3 := e3 l _ hx
        refine ⟨_, rfl, l, _, rfl, .inl ⟨SqL.of (e4 l _ hx3), fun v hv => ?_⟩⟩
        have e5 := e4.trans (Ex.new (o := .tup xs) hv)
        have hu5 : upd (upd H3 u (.tup [.str (wd k)])) v (.tup xs) u = some (.tup [.str (wd k)]) := Ex.new hv u _ upd_same
        refine ⟨u, v, _, xs, rfl, rfl, st_of hu5, st_of upd_same, (by intro z; cases z), ?_, ?_, ?_⟩
        · rw [sizeLine_eq, List.length_singleton]
          omega
        · intro hn
          subst hn
          have hnil : things ns (sgc k) (p + 1) = [] := by
            cases hh : things ns (sgc k) (p + 1) with
            | nil => rfl
            | cons a b => rw [hh] at his; cases his
          refine ⟨_, rfl, hz2, fun t ht => ?_⟩
          have e6 := e5.trans (Ex.new (o := .tup [.ref u, .int ((need k ns p : Nat) : Int)]) ht)
          refine q _ t _ (e1.trans ((e2.trans e3).trans e6)) (fresh_back (e1.trans ((e2.trans e3).trans e5)) ht) upd_same ⟨u, [.str (wd k)], rfl, st_of ?_, ?_⟩
          · exact Ex.new ht u _ hu5
          · rw [hnil]
            exact .cons rfl .nil
        · intro hn p2 hp2
          refine ⟨_, rfl, hz2, fun t ht => ?_⟩
          have e55 := e5.trans (Ex.new (o := .tup ([.str (wd k)] ++ xs)) hp2)
          have e6 := e55.trans (Ex.new (o := .tup [.ref p2, .int ((need k ns p : Nat) : Int)]) ht)
          refine q _ t _ (e1.trans ((e2.trans e3).trans e6)) (fresh_back (e1.trans ((e2.trans e3).trans e55)) ht) upd_same ⟨p2, .str (wd k) :: xs, rfl, st_of ?_, ?_⟩
          · exact Ex.new ht p2 _ upd_same
          · exact .cons rfl (his.ex (e3.trans e6))
      · have h4' : areThings (sgc k) (things ns (sgc k) (p + 1)) = false := by
          cases hh : areThings (sgc k) (things ns (sgc k) (p + 1)) with
          | true => exact absurd hh h4
          | false => rfl
        rw [h4']
        rw [if_neg h4] at q
        refine iteT ⟨hz2, fun t ht => ?_⟩
        have e6 := (e2.trans e3).trans (Ex.new (o := .tup [.ref ab, .int 1]) ht)
        exact q _ t _ (e1.trans e6) (fresh_back (e1.trans (e2.trans e3)) ht) upd_same ⟨ab, _, rfl, kb.sq _, .cons rfl (.cons rfl .nil)⟩
theorem ok_row_at (T : Txt K mg) (C : Txc K w mg) : Own P w K mg base CX0 6 "row_at" ["image", "place"] (spRowAt K) := own_of T.rowAt fun f fd F => by
  have G1 := ok_check_image (P := P) (w := w) (base := base) T
  have G2 := ok_check_place (P := P) (w := w) (base := base) T
  have G3 := ok_row_in (P := P) (base := base) T C
  refine F.ok scRowAt (fun vs H Q E h => ?_) (fun cdv A outer s H vs Q E hr h => ?_)
  · obtain ⟨ns, p, rfl, _⟩ := h
    rfl
  · obtain ⟨ns, p, rfl, hI, hp, q⟩ := h
    have hr1 : Room 1 _ := hr.mono (by decide)
    have hr3 : Room 3 _ := hr.mono (by decide)
    refine ⟨_, pss_cons (ps_expr (pe_own G1 hr1 pass0 (pa_cons (pv 0) pa_nil))) (pss_cons (ps_expr (pe_own G2 hr3 pass0 (pa_cons (pv 1) pa_nil))) (pss_one (ps_ret (pe_own G3 hr pass0 (pa_cons (pv 0) (pa_cons (pv 1) pa_nil)))))), ?_⟩
    exact ⟨_, rfl, ns, rfl, hI, _, rfl, (p : Int), rfl, by omega, by omega, _, rfl, _, rfl, ns, p, rfl, hI, q⟩
end
end BT
/-! The walk, 6: targets_of, goes_on, ways_at. -/
namespace BT
open PySem PySem.Spec PyProof.Rows L2 Evl
def headW : Dec → Str
  | .op k _ => wd k
  | _ => "fall"
theorem in4 : ∀ k, k < 21 → inV (.str (wd k)) [.str "jump", .str "yes", .str "no", .str "call"] = decide (k = 13 ∨ k = 14 ∨ k = 15 ∨ k = 17) := by decide +kernel
theorem in5 : ∀ k, k < 21 → inV (.str (wd k)) [.str "jump", .str "table", .str "back", .str "halt", .str "fall"] = decide (k = 13 ∨ k = 16 ∨ k = 18 ∨ k = 0) := by decide +kernel
theorem wd_call : ∀ k, k < 21 → ((wd k = "call") ↔ k = 17) := by decide +kernel
theorem sg_p : ∀ k, k < 21 → (k = 13 ∨ k = 14 ∨ k = 15 ∨ k = 17) → sgc k = [112] := by decide +kernel
theorem sg_16 : sgc 16 = [114, 116] := by decide +kernel
section
variable {K : PySem.W.Frag} {H : Hp}
theorem row_head {d : Dec} {v : V} (h : RowAt K H (rowOf d) v) : ∃ a xs, v = .ref a ∧ SqT K H a (.str (headW d) :: xs) := by
  obtain ⟨a, vs, rfl, hS, hi⟩ := h
  cases d with
  | op k ts =>
    cases hi with
    | cons h t =>
      obtain rfl := h
      exact ⟨a, _, rfl, hS⟩
  | out0 =>
    cases hi with
    | cons h t =>
      obtain rfl := h
      exact ⟨a, _, rfl, hS⟩
  | out1 =>
    cases hi with
    | cons h t =>
      obtain rfl := h
      exact ⟨a, _, rfl, hS⟩
  | bad =>
    cases hi with
    | cons h t =>
      obtain rfl := h
      exact ⟨a, _, rfl, hS⟩
theorem row_p {k : Nat} {ts : List It} {v : V} (hk : k < 21) (hp : k = 13 ∨ k = 14 ∨ k = 15 ∨ k = 17) (hf : Fits (sgc k) ts) (h : RowAt K H (rowOf (.op k ts)) v) : ∃ a i, v = .ref a ∧ ts = [.n i] ∧ SqT K H a [.str (wd k), .int i] := by
  rw [sg_p k hk hp] at hf
  obtain ⟨a, vs, rfl, hS, hi⟩ := h
  cases hf with
  | cons r rr =>
    cases rr
    rename_i it
    cases it with
    | s x => exact r.elim
    | t l => exact absurd r.1 (by decide)
    | n i =>
      cases hi with
      | cons h t =>
        obtain rfl := h
        cases t with
        | cons h2 t2 =>
          cases t2
          obtain rfl := h2
          exact ⟨a, i, rfl, rfl, hS⟩
theorem row_t {ts : List It} {v : V} (hf : Fits (sgc 16) ts) (h : RowAt K H (rowOf (.op 16 ts)) v) : ∃ a i l b, v = .ref a ∧ ts = [.n i, .t l] ∧ SqT K H a [.str (wd 16), .int i, .ref b] ∧ SqT K H b (l.map V.int) := by
  rw [sg_16] at hf
  obtain ⟨a, vs, rfl, hS, hi⟩ := h
  cases hf with
  | cons r rr =>
    rename_i it ts'
    cases it with
    | s x => exact r.elim
    | t l => exact absurd r.1 (by decide)
    | n i =>
      cases rr with
      | cons r2 rr2 =>
        cases rr2
        rename_i it2
        cases it2 with
        | s x => exact r2.elim
        | n i => exact absurd r2 (by show ¬ (116 = 114 ∨ 116 = 110 ∨ 116 = 112); decide)
        | t l =>
          cases hi with
          | cons h t =>
            obtain rfl := h
            cases t with
            | cons h2 t2 =>
              obtain rfl := h2
              cases t2 with
              | cons h3 t3 =>
                cases t3
                obtain ⟨b, rfl, hb⟩ := h3
                exact ⟨a, i, l, b, rfl, rfl, hS, hb⟩
end
theorem targets_p {k : Nat} {i : Int} (hp : k = 13 ∨ k = 14 ∨ k = 15 ∨ k = 17) : targets (.op k [.n i]) = [i] := by
  show (if k = 13 ∨ k = 14 ∨ k = 15 ∨ k = 17 then [i] else []) = _
  rw [if_pos hp]
theorem targets_o {k : Nat} {ts : List It} (h1 : ¬ (k = 13 ∨ k = 14 ∨ k = 15 ∨ k = 17)) (h2 : k ≠ 16) : targets (.op k ts) = [] := by
  unfold targets
  split
  · rename_i h
    cases h
    rw [if_neg h1]
  · rename_i h
    cases h
    rw [if_neg h2]
  · rfl
section
variable {P : Program} {w : World} {K : PySem.W.Frag} {mg : Str → Option Value} {base : Heap}
theorem ok_targets_of (T : Txt K mg) : Own P w K mg base CX0 1 "targets_of" ["row"] (spTargetsOf K) := own_of T.targetsOf fun f fd F => by
  refine F.ok scTargetsOf (fun vs H Q E h => ?_) (fun cdv A outer s H vs Q E hr h => ?_)
  · obtain ⟨d, v, rfl, _⟩ := h
    rfl
  · obtain ⟨d, v, rfl, hR, hD, q⟩ := h
    refine ⟨_, pss_cons (ps_if (pt_cmpR op_in_seq (pe_ix ix_tup (pv 0) pe_int (fun _ _ => rfl)) (pe_tup (pa_cons pe_str (pa_cons pe_str (pa_cons pe_str (pa_cons pe_str pa_nil))))) (by rfl))
        (pss_one (ps_ret (pe_lst (pa_cons (pe_ix ix_tup (pv 0) pe_int (fun _ _ => rfl)) pa_nil)))) pss_nil)
      (pss_one (ps_ret (pe_ifExp (pt_cmpR op_eq (pe_ix ix_tup (pv 0) pe_int (fun _ _ => rfl)) pe_str (nomark _)) (pe_callTy call_list_of (by rfl) T.list (by decide +kernel) (pa_cons (pe_ix ix_tup (pv 0) pe_int (fun _ _ => rfl)) pa_nil)) (pe_lst pa_nil)))), ?_⟩
    obtain ⟨a, xs, rfl, hS⟩ := row_head hR
    have hz4 : 4 ≤ sizeLine := by decide
    have hz1 : 1 ≤ sizeLine := by decide
    have hz0 : 0 ≤ sizeLine := by decide
    refine ⟨_, rfl, a, _, _, _, rfl, rfl, hS, atI_nat (j := 0) rfl, hz4, fun u hu => ?_⟩
    have e1 : Ex H (upd H u (.tup [.str "jump", .str "yes", .str "no", .str "call"])) := Ex.new hu
    refine ⟨u, _, rfl, .inr (st_of upd_same), rfl, rfl, _, rfl, ?_⟩
    show if inV (.str (headW d)) [.str "jump", .str "yes", .str "no", .str "call"] = true then _ else _
    generalize upd H u (.tup [.str "jump", .str "yes", .str "no", .str "call"]) = H1 at e1 ⊢
    have hS1 := ex_t e1 hS
    have hR1 := hR.ex e1
    have none_ : ∀ {x : Str}, x = headW d → x ≠ "table" → targets d = [] → tIf (tTest (tOp rEq (tOp (rIxT K) (tVar 0) (tC (.int 0))) (tC (.str "table")))) (tCB (fun xs H Q => ∃ p ys, xs = [.ref p] ∧ (SqL K H p ys ∨ SqT K H p ys) ∧ ∀ l, H l = none → Q (.ref l) (upd H l (.lst ys))) (tCons (tOp (rIxT K) (tVar 0) (tC (.int 2))) tNil)) (tLst tNil) [some (.ref a)] H1 Q := fun {x} hx hne ht => by
      refine ⟨_, rfl, a, _, _, _, rfl, rfl, hS1, atI_nat (j := 0) rfl, rfl, _, rfl, ?_⟩
      rw [decide_eq_false (by rw [← hx]; intro z; injection z with z; exact hne z)]
      refine iteF ⟨hz0, fun l hl => ?_⟩
      refine q _ l (e1.trans (Ex.new hl)) (fresh_back e1 hl) ?_
      rw [ht]
      exact upd_same
    cases d with
    | out0 =>
      rw [show inV (.str (headW .out0)) [.str "jump", .str "yes", .str "no", .str "call"] = false from by decide +kernel]
      exact iteF (none_ (x := "fall") rfl (by decide +kernel) rfl)
    | out1 =>
      rw [show inV (.str (headW .out1)) [.str "jump", .str "yes", .str "no", .str "call"] = false from by decide +kernel]
      exact iteF (none_ (x := "fall") rfl (by decide +kernel) rfl)
    | bad =>
      rw [show inV (.str (headW .bad)) [.str "jump", .str "yes", .str "no", .str "call"] = false from by decide +kernel]
      exact iteF (none_ (x := "fall") rfl (by decide +kernel) rfl)
    | op k ts =>
      obtain ⟨hk, hf, _⟩ := hD
      rw [show headW (.op k ts) = wd k from rfl, in4 k hk]
      by_cases hp : k = 13 ∨ k = 14 ∨ k = 15 ∨ k = 17
      · rw [decide_eq_true hp]
        obtain ⟨a', i, ea, rfl, hS2⟩ := row_p hk hp hf hR1
        cases ea
        refine iteT ⟨_, rfl, a, _, _, _, rfl, rfl, hS2, atI_nat (j := 1) rfl, hz1, fun l hl => ?_⟩
        refine q _ l (e1.trans (Ex.new hl)) (fresh_back e1 hl) ?_
        rw [targets_p hp]
        exact upd_same
      · rw [decide_eq_false hp]
        refine iteF ?_
        by_cases h16 : k = 16
        · subst h16
          obtain ⟨a', i, l, b, ea, rfl, hS2, hb⟩ := row_t hf hR1
          cases ea
          refine ⟨_, rfl, a, _, _, _, rfl, rfl, hS2, atI_nat (j := 0) rfl, rfl, _, rfl, ?_⟩
          rw [decide_eq_true (show V.str (wd 16) = V.str "table" by decide +kernel)]
          refine iteT ⟨_, rfl, a, _, _, _, rfl, rfl, hS2, atI_nat (j := 2) rfl, b, _, rfl, .inr hb, fun m hm => ?_⟩
          exact q _ m (e1.trans (Ex.new hm)) (fresh_back e1 hm) upd_same
        · exact none_ (x := wd k) rfl (fun z => h16 ((wd_table k hk).mp z)) (targets_o hp h16)
theorem goesOn_op {k : Nat} {ts : List It} : goesOn (.op k ts) = !(decide (k = 13 ∨ k = 16 ∨ k = 18 ∨ k = 0)) := by
  show (!(decide (k = 13) || decide (k = 16) || decide (k = 18) || decide (k = 0))) = _
  by_cases h1 : k = 13 <;> by_cases h2 : k = 16 <;> by_cases h3 : k = 18 <;> by_cases h4 : k = 0 <;> simp [h1, h2, h3, h4]
theorem ok_goes_on (T : Txt K mg) : Own P w K mg base CX0 1 "goes_on" ["row"] (spGoesOn K) := own_of T.goesOn fun f fd F => by
  refine F.ok scGoesOn (fun vs H Q E h => ?_) (fun cdv A outer s H vs Q E hr h => ?_)
  · obtain ⟨d, v, rfl, _⟩ := h
    rfl
  · obtain ⟨d, v, rfl, hR, hD, q⟩ := h
    refine ⟨_, pss_one (ps_ret (pe_cmpR op_notIn_seq (pe_ix ix_tup (pv 0) pe_int (fun _ _ => rfl)) (pe_tup (pa_cons pe_str (pa_cons pe_str (pa_cons pe_str (pa_cons pe_str (pa_cons pe_str pa_nil)))))) (by rfl))), ?_⟩
    obtain ⟨a, xs, rfl, hS⟩ := row_head hR
    have hz5 : 5 ≤ sizeLine := by decide
    refine ⟨_, rfl, a, _, _, _, rfl, rfl, hS, atI_nat (j := 0) rfl, hz5, fun u hu => ?_⟩
    refine ⟨u, _, rfl, .inr (st_of upd_same), rfl, rfl, ?_⟩
    have q0 := q _ (Ex.new (o := .tup [.str "jump", .str "table", .str "back", .str "halt", .str "fall"]) hu)
    show Q (.bl (!inV (.str (headW d)) [.str "jump", .str "table", .str "back", .str "halt", .str "fall"])) _
    have e : goesOn d = !inV (.str (headW d)) [.str "jump", .str "table", .str "back", .str "halt", .str "fall"] := by
      cases d with
      | out0 => decide +kernel
      | out1 => decide +kernel
      | bad => decide +kernel
      | op k ts =>
        rw [show headW (.op k ts) = wd k from rfl, in5 k hD.1, goesOn_op]
    rw [← e]
    exact q0
theorem targets_len {ns : List Int} (h8 : B8 ns) (p : Nat) : (targets (dec ns p)).length ≤ 255 := by
  have hD := dec_ok h8 p
  cases hd : dec ns p with
  | out0 => decide
  | out1 => decide
  | bad => decide
  | op k ts =>
    rw [hd] at hD
    obtain ⟨hk, hf, hA⟩ := hD
    clear hA
    by_cases hp : k = 13 ∨ k = 14 ∨ k = 15 ∨ k = 17
    · unfold targets
      split
      · rename_i h
        cases h
        rw [if_pos hp]
        show 1 ≤ 255
        decide
      · rename_i h
        cases h
        rw [if_neg (by omega)]
        decide
      · decide
    · by_cases h16 : k = 16
      · subst h16
        rw [sg_16] at hf
        cases hf with
        | cons r rr =>
          rename_i it ts'
          cases rr with
          | cons r2 rr2 =>
            cases rr2
            rename_i it2
            cases it2 with
            | s x => exact r2.elim
            | n i => exact absurd r2 (by show ¬ (116 = 114 ∨ 116 = 110 ∨ 116 = 112); decide)
            | t l =>
              cases it with
              | s x => exact r.elim
              | t l => exact absurd r.1 (by decide)
              | n i => exact r2.2
      · rw [targets_o hp h16]
        decide
theorem ok_ways_at (T : Txt K mg) (C : Txc K w mg) : Own P w K mg base CX0 6 "ways_at" ["image", "place", "is_body"] spWaysAt := own_of T.waysAt fun f fd F => by
  have G1 := ok_row_in (P := P) (base := base) T C
  have G2 := ok_targets_of (P := P) (w := w) (base := base) T
  have G3 := ok_goes_on (P := P) (w := w) (base := base) T
  refine F.ok scWaysAt (fun vs H Q E h => ?_) (fun cdv A outer s H vs Q E hr h => ?_)
  · obtain ⟨ns, p, rfl, _⟩ := h
    rfl
  · obtain ⟨ns, p, rfl, hI, q⟩ := h
    have hr1 : Room 1 _ := hr.mono (by decide)
    refine ⟨_, pss_cons (ps_asg (pe_own G1 hr pass0 (pa_cons (pv 0) (pa_cons (pv 1) pa_nil))) (pg_tup rfl (pgs_cons (pg_name (i := 3) scWaysAt.nd rfl (Or.inl rfl)) (pgs_cons (pg_name (i := 4) scWaysAt.nd rfl (Or.inl rfl)) pgs_nil))))
      (pss_cons (ps_set (i := 5) scWaysAt.nd rfl (.inl rfl) (pe_ifExp (PW.pt (pw_or (pt_cmpR op_ne (pe_ix ix_tup (pv 3) pe_int (fun _ _ => rfl)) pe_str (nomark _)) (pw_or1 (pt_not (pt_val (pv 2)))))) (pe_own G2 hr1 pass0 (pa_cons (pv 3) pa_nil)) (pe_lst pa_nil)))
      (pss_one (ps_ret (pe_op op_cat (pv 5) (pe_ifExp (pt_val (pe_own G3 hr1 pass0 (pa_cons (pv 3) pa_nil))) (pe_lst (pa_cons (pe_op op_add (pv 1) (pv 4)) pa_nil)) (pe_lst pa_nil)))))), ?_⟩
    have hz1 : 1 ≤ sizeLine := by decide
    have hz0 : 0 ≤ sizeLine := by decide
    have hD := dec_ok hI.b8 p
    have hL := targets_len hI.b8 p
    refine ⟨_, rfl, _, rfl, ns, p, rfl, hI, fun H1 t r e1 ht0 ht hR => ?_⟩
    refine ⟨t, _, rfl, st_of ht, rfl, _, _, rfl, _, _, rfl, rfl, ?_⟩
    unfold ways at q
    generalize dec ns p = d at q hR hD hL
    have main : ∀ H2, Ex H H2 → RowAt K H2 (rowOf d) r → tCall (spTargetsOf K) [] E0 (tCons (tVar 3) tNil) [some (.byt (byteArr ns)), some (.int (p : Int)), some (.bl false), some r, some (.int ((manyOf ns p : Nat) : Int)), none] H2 fun v H3 =>
        gName 5 v [some (.byt (byteArr ns)), some (.int (p : Int)), some (.bl false), some r, some (.int ((manyOf ns p : Nat) : Int)), none] H3 fun σ H4 => tOp rCat (tVar 5) (tIf (tB (tCall (spGoesOn K) [] E0 (tCons (tVar 3) tNil))) (tLst (tCons (tOp (rI0 fun i j => V.int (i + j)) (tVar 1) (tVar 4)) tNil)) (tLst tNil)) σ H4 Q := fun H2 e2 hR2 => by
      refine ⟨_, rfl, d, _, rfl, hR2, hD, fun H3 l e3 hl0 hl => ?_⟩
      refine ⟨_, rfl, _, rfl, d, _, rfl, hR2.ex e3, hD, fun H4 e4 => ?_⟩
      have e24 := e2.trans (e3.trans e4)
      have hl4 := e4 l _ hl
      refine ⟨_, rfl, ?_⟩
      by_cases hg : goesOn d = true
      · rw [hg]
        rw [hg, if_pos rfl] at q
        refine iteT ⟨_, rfl, _, rfl, _, _, rfl, rfl, hz1, fun m hm => ?_⟩
        refine ⟨l, m, _, _, rfl, rfl, Ex.new hm l _ hl4, upd_same, ?_, fun z hz => ?_⟩
        · rw [List.length_map, List.length_singleton, sizeLine_eq]
          omega
        · have e5 := e24.trans (Ex.new (o := .lst [.int ((p : Int) + (manyOf ns p : Nat))]) hm)
          refine q _ z (e5.trans (Ex.new hz)) (fresh_back e5 hz) ?_
          rw [List.map_append]
          have e6 : ((p + manyOf ns p : Nat) : Int) = (p : Int) + (manyOf ns p : Nat) := by omega
          show _ = some (HO.lst ((targets d).map V.int ++ [V.int ((p + manyOf ns p : Nat) : Int)]))
          rw [e6]
          exact upd_same
      · have hg' : goesOn d = false := by
          cases hh : goesOn d with
          | true => exact absurd hh hg
          | false => rfl
        rw [hg']
        rw [hg', if_neg (by decide)] at q
        refine iteF ⟨hz0, fun m hm => ?_⟩
        refine ⟨l, m, _, _, rfl, rfl, Ex.new hm l _ hl4, upd_same, ?_, fun z hz => ?_⟩
        · rw [List.length_map, List.length_nil, sizeLine_eq]
          omega
        · have e5 := e24.trans (Ex.new (o := .lst []) hm)
          refine q _ z (e5.trans (Ex.new hz)) (fresh_back e5 hz) ?_
          rw [List.append_nil, List.append_nil]
          exact upd_same
    obtain ⟨a, xs, rfl, hS⟩ := row_head hR
    refine ⟨_, rfl, a, _, _, _, rfl, rfl, hS, atI_nat (j := 0) rfl, rfl, _, rfl, ?_⟩
    by_cases hc : (V.str (headW d)) = .str "call"
    · rw [decide_eq_true hc]
      refine iteF ⟨_, rfl, false, rfl, iteT (main H1 e1 hR)⟩
    · rw [decide_eq_false hc]
      exact iteT (iteT (main H1 e1 hR))
end
end BT
/-! The walk, 7: come_to. -/
namespace BT
open PySem PySem.Spec PyProof.Rows L2 Evl
/-! ### the ways are places -/
theorem isW_le {i lo hi : Int} (h : isW i lo hi = true) : lo ≤ i ∧ i ≤ hi := by
  unfold isW at h
  simp at h
  exact h
theorem dec_op {ns : List Int} {p k : Nat} {ts : List It} (h : dec ns p = .op k ts) : p < ns.length ∧ p + need k ns p ≤ ns.length ∧ manyOf ns p = need k ns p := by
  have h' := h
  unfold dec at h
  by_cases h1 : ns.length ≤ p
  · rw [if_pos h1] at h
    cases h
  rw [if_neg h1] at h
  by_cases h2 : 21 ≤ opc ns p
  · rw [if_pos h2] at h
    cases h
  rw [if_neg h2] at h
  by_cases h3 : ns.length < p + need (opc ns p) ns p
  · rw [if_pos h3] at h
    cases h
  rw [if_neg h3] at h
  by_cases h4 : areThings (sgc (opc ns p)) (things ns (sgc (opc ns p)) (p + 1)) = true
  · rw [if_pos h4] at h
    injection h with h5 h6
    subst h5
    refine ⟨by omega, by omega, ?_⟩
    unfold manyOf
    rw [h']
  · rw [if_neg h4] at h
    cases h
theorem targets_le {d : Dec} (hD : DecOk d) {i : Int} (hi : i ∈ targets d) : 0 ≤ i ∧ i ≤ 65535 := by
  cases d with
  | out0 => cases hi
  | out1 => cases hi
  | bad => cases hi
  | op k ts =>
    obtain ⟨hk, hf, hA⟩ := hD
    by_cases hp : k = 13 ∨ k = 14 ∨ k = 15 ∨ k = 17
    · rw [sg_p k hk hp] at hf hA
      have hts : ∃ j, ts = [.n j] := by
        clear hA
        cases hf with
        | cons r rr =>
          cases rr
          rename_i it
          cases it with
          | s x => exact r.elim
          | t l => exact absurd r.1 (by decide)
          | n j => exact ⟨j, rfl⟩
      obtain ⟨j, rfl⟩ := hts
      rw [targets_p hp] at hi
      rw [List.mem_singleton.mp hi]
      refine isW_le (lo := 0) (hi := 65535) ?_
      unfold areThings at hA
      simpa [isThing] using hA
    · by_cases h16 : k = 16
      · subst h16
        rw [sg_16] at hf hA
        have hts : ∃ j l, ts = [.n j, .t l] := by
          clear hA
          cases hf with
          | cons r rr =>
            rename_i it ts'
            cases rr with
            | cons r2 rr2 =>
              cases rr2
              rename_i it2
              cases it2 with
              | s x => exact r2.elim
              | n i => exact absurd r2 (by show ¬ (116 = 114 ∨ 116 = 110 ∨ 116 = 112); decide)
              | t l =>
                cases it with
                | s x => exact r.elim
                | t l => exact absurd r.1 (by decide)
                | n j => exact ⟨j, l, rfl⟩
        obtain ⟨j, l, rfl⟩ := hts
        have hi : i ∈ l := hi
        refine isW_le (lo := 0) (hi := 65535) ?_
        unfold areThings at hA
        simp [isThing] at hA
        exact hA.2.2 i hi
      · rw [targets_o hp h16] at hi
        cases hi
theorem ways_le {ns : List Int} (hI : Img ns) {p : Nat} {i : Int} (hi : i ∈ ways ns p) : ∃ q : Nat, i = (q : Int) ∧ q ≤ 65535 := by
  unfold ways at hi
  rcases List.mem_append.mp hi with h | h
  · obtain ⟨a, b⟩ := targets_le (dec_ok hI.b8 p) h
    exact ⟨i.toNat, by omega, by omega⟩
  · by_cases hg : goesOn (dec ns p) = true
    · rw [if_pos hg] at h
      rw [List.mem_singleton.mp h]
      refine ⟨_, rfl, ?_⟩
      cases hd : dec ns p with
      | out0 => rw [hd] at hg; cases hg
      | out1 => rw [hd] at hg; cases hg
      | bad => rw [hd] at hg; cases hg
      | op k ts =>
        obtain ⟨h1, h2, h3⟩ := dec_op hd
        have := hI.hi
        omega
    · rw [if_neg hg] at h
      cases h
theorem reach_lt {ns : List Int} (hI : Img ns) {p : Nat} (h : Reach ns p) : p < 70000 := by
  induction h with
  | z => decide
  | s hp hq ih =>
    obtain ⟨q, e, hl⟩ := ways_le hI hq
    omega
/-! ### what is found -/
def dkOf (F : List Nat) : List (Key × V) := F.map fun (n : Nat) => (Sum.inl (n : Int), V.bl true)
def natsV (W : List Nat) : List V := W.map fun (n : Nat) => V.int (n : Int)
theorem valV_dk (n : Nat) : ∀ F : List Nat, valV (dkOf F) (Sum.inl (n : Int)) = if n ∈ F then some (.bl true) else none
  | [] => rfl
  | m :: r => by
    show valV ((Sum.inl (m : Int), V.bl true) :: dkOf r) _ = _
    by_cases h : m = n
    · subst h
      rw [valV_pos rfl, if_pos (List.mem_cons_self ..)]
    · rw [valV_neg (by intro z; injection z with z; omega), valV_dk n r]
      by_cases h2 : n ∈ r
      · rw [if_pos h2, if_pos (List.mem_cons_of_mem _ h2)]
      · rw [if_neg h2, if_neg (by intro z; rcases List.mem_cons.mp z with z | z; exact h z.symm; exact h2 z)]
structure Fnd (ns : List Int) (F W : List Nat) : Prop where
  z : 0 ∈ F
  nd : F.Nodup
  re : ∀ p ∈ F, Reach ns p
  sub : ∀ p ∈ W, p ∈ F
  le : W.length ≤ F.length
  cl : ∀ p ∈ F, p ∈ W ∨ ∀ q : Nat, (q : Int) ∈ ways ns p → q ∈ F
theorem nodup_lt_length {F : List Nat} {n : Nat} (hn : F.Nodup) (hl : ∀ p ∈ F, p < n) : F.length ≤ n := by
  have h : F ⊆ List.range n := fun p hp => List.mem_range.mpr (hl p hp)
  have := hn.length_le_of_subset h
  rwa [List.length_range] at this
theorem Fnd.len {ns : List Int} (hI : Img ns) {F W : List Nat} (h : Fnd ns F W) : F.length ≤ 70000 :=
  nodup_lt_length h.nd fun p hp => reach_lt hI (h.re p hp)
theorem mem_reachL {ns : List Int} (hI : Img ns) {p : Nat} : p ∈ reachL ns ↔ Reach ns p := by
  classical
  unfold reachL
  rw [List.mem_filter]
  constructor
  · intro h
    have := h.2
    simpa using this
  · intro h
    exact ⟨List.mem_range.mpr (reach_lt hI h), by simpa using h⟩
theorem reachL_sorted (ns : List Int) : (reachL ns).Pairwise (· < ·) := by
  unfold reachL
  exact List.Pairwise.filter _ List.pairwise_lt_range
theorem reachL_nodup (ns : List Int) : (reachL ns).Nodup := (reachL_sorted ns).imp fun h => Nat.ne_of_lt h
theorem Fnd.all {ns : List Int} {F : List Nat} (h : Fnd ns F []) {p : Nat} (hp : Reach ns p) : p ∈ F := by
  induction hp with
  | z => exact h.z
  | s hp hq ih =>
    rcases h.cl _ ih with z | z
    · cases z
    · exact z _ hq
theorem Fnd.perm {ns : List Int} (hI : Img ns) {F : List Nat} (h : Fnd ns F []) : F.Perm (reachL ns) := by
  refine (List.perm_ext_iff_of_nodup h.nd (reachL_nodup ns)).mpr fun p => ?_
  rw [mem_reachL hI]
  exact ⟨h.re p, h.all⟩
theorem Fnd.sorted {ns : List Int} (hI : Img ns) {F : List Nat} (h : Fnd ns F []) {ms : List Int} (hp : ms.Perm (F.map fun (n : Nat) => (n : Int))) (hs : ms.Pairwise (· ≤ ·)) : ms = (reachL ns).map fun (n : Nat) => (n : Int) := by
  refine List.Perm.eq_of_pairwise (fun _ _ _ _ a b => Int.le_antisymm a b) hs ?_ (hp.trans ((h.perm hI).map _))
  exact List.pairwise_map.mpr ((reachL_sorted ns).imp fun h => by omega)
theorem pe_opW' {X : Cx} {f : Value → Value → Sem Value} {r r' : R2} (ho : OpR X f r) (im : ∀ x y H Q, r' x y H Q → r x y H Q) : OpR X f r' :=
  fun pins s σ H x y v u Q I rx ry h => ho pins s σ H x y v u Q I rx ry (im x y H Q h)
section
variable {P : Program} {w : World} {K : PySem.W.Frag} {mg : Str → Option Value} {base : Heap}
theorem dp_ints {K : PySem.W.Frag} {H : Hp} : ∀ l : List Int, DpAll K H (l.map V.int) (l.map PyData.int)
  | [] => .nil
  | i :: r => .cons (.int i) (dp_ints r)
theorem eqv_ints : ∀ a b : List Int, PyData.eqvAll (a.map PyData.int) (b.map PyData.int) = decide (a = b)
  | [], [] => by simp [PyData.eqvAll]
  | [], _ :: _ => by simp [PyData.eqvAll]
  | _ :: _, [] => by simp [PyData.eqvAll]
  | n :: r, k :: q => by
    simp only [List.map_cons, PyData.eqvAll, PyData.eqv, eqv_ints r q]
    by_cases h : n = k <;> simp [h]
/-- lists of ints: a == b, a != b -/
def rEqLI (K : PySem.W.Frag) : R2 := fun x y H Q => ∃ (a b : Addr) (ns ms : List Int), x = .ref a ∧ y = .ref b ∧ SqL K H a (ns.map V.int) ∧ SqL K H b (ms.map V.int) ∧ Q (.bl (decide (ns = ms))) H
def rNeLI (K : PySem.W.Frag) : R2 := fun x y H Q => ∃ (a b : Addr) (ns ms : List Int), x = .ref a ∧ y = .ref b ∧ SqL K H a (ns.map V.int) ∧ SqL K H b (ms.map V.int) ∧ Q (.bl (!decide (ns = ms))) H
theorem op_eqLI {X : Cx} (hu : X.A.units + 64 < cLine) : OpR X (compareOp .Eq) (rEqLI X.K) := pe_opW' (op_eqD hu) fun x y H Q h => by
  obtain ⟨a, b, ns, ms, rfl, rfl, h1, h2, q⟩ := h
  refine ⟨_, _, .lst h1 (dp_ints ns), .lst h2 (dp_ints ms), PySem.W.shaped_ints ns, PySem.W.shaped_ints ms, ?_⟩
  rw [PyData.eqv, eqv_ints]
  exact q
theorem op_neLI {X : Cx} (hu : X.A.units + 64 < cLine) : OpR X (compareOp .NotEq) (rNeLI X.K) := pe_opW' (op_neD hu) fun x y H Q h => by
  obtain ⟨a, b, ns, ms, rfl, rfl, h1, h2, q⟩ := h
  refine ⟨_, _, .lst h1 (dp_ints ns), .lst h2 (dp_ints ms), PySem.W.shaped_ints ns, PySem.W.shaped_ints ms, ?_⟩
  rw [PyData.eqv, eqv_ints]
  exact q
theorem natsV_ints (W : List Nat) : natsV W = (W.map fun (n : Nat) => (n : Int)).map V.int := by
  unfold natsV
  rw [List.map_map]
  rfl
theorem ok_come_to (T : Txt K mg) (C : Txc K w mg) : Own P w K mg base CX0 7 "come_to" ["image", "begin", "is_body"] spComeTo := own_of T.comeTo fun f fd F => by
  have G1 := ok_ways_at (P := P) (base := base) T C
  refine F.ok scComeTo (fun vs H Q E h => ?_) (fun cdv A outer s H vs Q E hr h => ?_)
  · obtain ⟨ns, rfl, _⟩ := h
    rfl
  · obtain ⟨ns, rfl, hI, q⟩ := h
    have hu := hu_of hr
    refine ⟨_, pss_cons (ps_par (i := 3) (j := 4) (by rfl) scComeTo.nd rfl rfl (by decide) rfl rfl (pa_cons (pe_disp (pps_cons (pv 1) pe_bl pps_nil) (by rfl) (by rfl) (fun z => by cases z) (by decide)) (pa_cons (pe_lst (pa_cons (pv 1) pa_nil)) pa_nil)) (by rfl))
      (pss_cons (ps_while PassesOwn.never (pt_cmpR (op_neLI hr.units) (pv 4) (pe_lst pa_nil) (nomark _))
        (pss_one (ps_for PassesOwn.never rfl (pi_list (pe_own G1 hr pass0 (pa_cons (pv 0) (pa_cons (pe_bm0 PySem.F.plainAttrs_list PySem.F.slot_list_pop PySem.F.type_list_pop mt_pop (pv 4)) (pa_cons (pv 2) pa_nil))))) (pg_name (i := 5) scComeTo.nd rfl (Or.inl rfl))
          (pss_one (ps_if (pt_cmp (pc_dnotin hu (pv 5) (pv 3))) (pss_cons (ps_dput hu (pv 3) (pv 5) pe_bl rfl) (pss_one (ps_expr (pe_bm PySem.F.plainAttrs_list PySem.F.slot_list_append PySem.F.type_list_append mt_append (pv 4) (pa_cons (pv 5) pa_nil))))) pss_nil)))))
      (pss_one (ps_ret (pe_callB cr_sortedI (by rfl) T.sorted (by decide +kernel) (pa_cons (pe_callTy (call_list_dK rfl) (by rfl) T.list (by decide +kernel) (pa_cons (pv 3) pa_nil)) pa_nil))))), ?_⟩
    have hz1 : 1 ≤ sizeLine := by decide
    have hz0 : 0 ≤ sizeLine := by decide
    intro d hd
    refine ⟨_, rfl, upd_same, [(Sum.inl 0, .bl true)], rfl, by decide, ?_⟩
    refine ⟨_, rfl, hz1, fun wl hwl => ?_⟩
    refine ⟨_, _, rfl, ?_⟩
    generalize e00 : upd (upd (upd H d (.dK [])) d (.dK (mergeK [] [(Sum.inl 0, V.bl true)]))) wl (.lst [.int 0]) = H0
    have hdw : d ≠ wl := by
      intro z
      subst z
      rw [upd_same] at hwl
      cases hwl
    have hd0 : H0 d = some (.dK (dkOf [0])) := by
      rw [← e00, upd_ne hdw, upd_same]
      rfl
    have hw0 : H0 wl = some (.lst (natsV [0])) := by
      rw [← e00, upd_same]
      rfl
    have hwlH : H wl = none := by
      rw [upd_ne hdw.symm, upd_ne hdw.symm] at hwl
      exact hwl
    have e0 : Ex H H0 := by
      rw [← e00]
      exact Ex.mut (Ex.mut (Ex.new hd) hd) hwlH
    clear e00
    have fin : ∀ σ2 H2 F, Ex H H2 → H2 d = some (.dK (dkOf F)) → Fnd ns F [] → σ2[3]? = some (some (.ref d)) → tRet (tCB (rSortedI K) (tCons (tCB rListD (tCons (tVar 3) tNil)) tNil)) { nx := fun x H' => Q .non H', rt := Q } σ2 H2 := fun σ2 H2 F e2 h2 hF hσ => by
      refine ⟨_, hσ, d, _, rfl, h2, fun m hm => ?_⟩
      refine ⟨m, F.map fun (n : Nat) => (n : Int), rfl, SqL.of ?_, fun ms z hp hs hz => ?_⟩
      · rw [upd_same]
        unfold dkOf
        rw [List.map_map, List.map_map]
        rfl
      · rw [hF.sorted hI hp hs]
        have e3 := e2.trans (Ex.new (o := .lst ((dkOf F).map fun kv => kV kv.1)) hm)
        refine q _ z (e3.trans (Ex.new hz)) (fresh_back e3 hz) ?_
        rw [upd_same, List.map_map]
        rfl
    refine ⟨fun m σ H2 => ∃ F W o5, m = 2 * (70000 - F.length) + W.length ∧ Ex H H2 ∧ H2 d = some (.dK (dkOf F)) ∧ H2 wl = some (.lst (natsV W)) ∧ Fnd ns F W ∧
      σ = [some (.byt (byteArr ns)), some (.int 0), some (.bl false), some (.ref d), some (.ref wl), o5], ⟨_, [0], [0], none, rfl, e0, hd0, hw0, ⟨by decide, by decide, ?_, fun p h => h, by decide, fun p h => .inl h⟩, rfl⟩, ?_⟩
    · intro p hp
      rw [List.mem_singleton.mp hp]
      exact .z
    rintro m σ H2 ⟨F, W, o5, hm, e2, hd2, hw2, hF, rfl⟩
    refine ⟨_, rfl, hz0, fun t ht => ?_⟩
    have et : Ex H2 (upd H2 t (.lst [])) := Ex.new ht
    refine ⟨wl, t, W.map (fun (n : Nat) => (n : Int)), [], rfl, rfl, ?_, SqL.of upd_same, _, rfl, ?_⟩
    · rw [← natsV_ints]
      exact SqL.of (et _ _ hw2)
    have e2t := e2.trans et
    have hd2t := et _ _ hd2
    have hw2t := et _ _ hw2
    clear hd2 hw2 et
    generalize upd H2 t (.lst []) = H3 at e2t hd2t hw2t ⊢
    by_cases hW : W = []
    · subst hW
      exact iteF (fin _ H3 F e2t hd2t hF rfl)
    rw [decide_eq_false (show ¬ W.map (fun (n : Nat) => (n : Int)) = [] by simpa using hW)]
    refine iteT ⟨fun σ' H' => ∃ m', m' < m ∧ ∃ F W o5, m' = 2 * (70000 - F.length) + W.length ∧ Ex H H' ∧ H' d = some (.dK (dkOf F)) ∧ H' wl = some (.lst (natsV W)) ∧ Fnd ns F W ∧
      σ' = [some (.byt (byteArr ns)), some (.int 0), some (.bl false), some (.ref d), some (.ref wl), o5], fun σ' H' h => h, ?_⟩
    obtain ⟨W', x, rfl⟩ : ∃ W' x, W = W' ++ [x] := ⟨W.dropLast, W.getLast hW, (List.dropLast_concat_getLast hW).symm⟩
    have en : natsV (W' ++ [x]) = natsV W' ++ [.int (x : Int)] := by
      unfold natsV
      rw [List.map_append]
      rfl
    rw [en] at hw2t
    have hFl := hF.len hI
    refine ⟨_, rfl, _, rfl, .inl ⟨rfl, _, SqL.of hw2t⟩, wl, _, .int (x : Int), rfl, rfl, hw2t, ?_, ?_⟩
    · rw [List.length_append, List.length_singleton, Nat.add_sub_cancel, List.getElem?_append_right (Nat.le_refl _), Nat.sub_self]
      rfl
    rw [List.dropLast_concat]
    have e4 : Ex H (upd H3 wl (.lst (natsV W'))) := Ex.mut e2t hwlH
    have hd4 : upd H3 wl (.lst (natsV W')) d = some (.dK (dkOf F)) := by
      rw [upd_ne hdw]
      exact hd2t
    have hw4 : upd H3 wl (.lst (natsV W')) wl = some (.lst (natsV W')) := upd_same
    generalize upd H3 wl (.lst (natsV W')) = H4 at e4 hd4 hw4 ⊢
    refine ⟨_, rfl, ns, x, rfl, hI, fun H5 l e5 hl4 hl5 => ?_⟩
    refine ⟨l, rfl, ⟨_, SqL.of hl5⟩, ?_⟩
    have hld : l ≠ d := fun z => by rw [z, hd4] at hl4; cases hl4
    have hlw : l ≠ wl := fun z => by rw [z, hw4] at hl4; cases hl4
    refine for_it (walk_list (xs := (ways ns x).map V.int)) (fun i σ H' => ∃ F2 W2 o5 k, F2.length = F.length + k ∧ W2.length = W'.length + k ∧ Ex H H' ∧ H' d = some (.dK (dkOf F2)) ∧ H' wl = some (.lst (natsV W2)) ∧ H' l = some (.lst ((ways ns x).map V.int)) ∧
        (0 ∈ F2 ∧ F2.Nodup ∧ (∀ p ∈ F2, Reach ns p) ∧ (∀ p ∈ W2, p ∈ F2) ∧ (∀ p ∈ F2, p ∈ W2 ∨ p = x ∨ ∀ q : Nat, (q : Int) ∈ ways ns p → q ∈ F2)) ∧ (x ∈ F2) ∧
        (∀ q : Nat, (q : Int) ∈ (ways ns x).take i → q ∈ F2) ∧ σ = [some (.byt (byteArr ns)), some (.int 0), some (.bl false), some (.ref d), some (.ref wl), o5])
      ⟨F, W', o5, 0, rfl, rfl, e4.trans e5, e5 _ _ hd4, e5 _ _ hw4, hl5, ⟨hF.z, hF.nd, hF.re, fun p h => hF.sub p (List.mem_append_left _ h), fun p h => ?_⟩, hF.sub x (by simp), (fun q h => by cases h), rfl⟩ ?_ ?_ ?_
    · rcases hF.cl p h with z | z
      · rcases List.mem_append.mp z with z | z
        · exact .inl z
        · exact .inr (.inl (List.mem_singleton.mp z))
      · exact .inr (.inr z)
    · intro i σ H' _ h
      obtain ⟨F2, W2, o5', k, h1, h2, h3, h4, h5, h6, h7⟩ := h
      exact SqL.of h6
    · intro i v σ H6 H7 hi h y
      obtain ⟨F2, W2, o5', k, hk1, hk2, e6, hd6, hw6, hl6, ⟨z1, z2, z3, z4, z5⟩, zx, zt, rfl⟩ := h
      obtain ⟨rfl, rfl⟩ := y_at i H6 v H7 hi y
      rw [List.length_map] at hi
      have hgi : (ways ns x)[i]? = some ((ways ns x).getD i 0) := by
        rw [List.getD_eq_getElem?_getD, List.getElem?_eq_getElem hi]
        rfl
      have hmem : (ways ns x).getD i 0 ∈ ways ns x := List.mem_of_getElem? hgi
      obtain ⟨qn, eq, hql⟩ := ways_le hI hmem
      have ev : ((ways ns x).map V.int).getD i .non = .int (qn : Int) := by
        rw [List.getD_eq_getElem?_getD, List.getElem?_map, hgi, eq]
        rfl
      rw [ev]
      have htake : (ways ns x).take (i + 1) = (ways ns x).take i ++ [(qn : Int)] := by rw [take_snoc 0 hi, eq]
      have hRq : Reach ns qn := .s (z3 x zx) (by rw [← eq]; exact hmem)
      refine ⟨_, rfl, _, rfl, d, _, rfl, DGet.k (k := Sum.inl (qn : Int)) hd6, _, rfl, ?_⟩
      rw [valV_dk]
      by_cases hq : qn ∈ F2
      · rw [if_pos hq]
        refine iteF ⟨F2, W2, some (.int (qn : Int)), k, hk1, hk2, e6, hd6, hw6, hl6, ⟨z1, z2, z3, z4, z5⟩, zx, fun q hq2 => ?_, rfl⟩
        rw [htake] at hq2
        rcases List.mem_append.mp hq2 with z | z
        · exact zt q z
        · have := List.mem_singleton.mp z
          have e : q = qn := by omega
          rw [e]
          exact hq
      · rw [if_neg hq]
        have hlen : (F2 ++ [qn]).length ≤ 70000 := by
          refine nodup_lt_length ?_ fun p hp => ?_
          · exact List.nodup_append.mpr ⟨z2, by simp, fun a ha b hb => by rw [List.mem_singleton.mp hb]; intro z; rw [z] at ha; exact hq ha⟩
          · rcases List.mem_append.mp hp with z | z
            · exact reach_lt hI (z3 p z)
            · rw [List.mem_singleton.mp z]
              exact reach_lt hI hRq
        rw [List.length_append, List.length_singleton] at hlen
        have hdl : (dkOf F2).length < sizeLine := by
          unfold dkOf
          rw [List.length_map, sizeLine_eq]
          omega
        refine iteT ⟨_, rfl, _, rfl, d, _, rfl, DPut.k (k := Sum.inl (qn : Int)) hd6 hdl, ?_⟩
        have ep : putK (dkOf F2) (Sum.inl (qn : Int)) (V.bl true) = dkOf (F2 ++ [qn]) := by
          rw [putK_new _ (by rw [valV_dk, if_neg hq])]
          unfold dkOf
          rw [List.map_append]
          rfl
        rw [ep]
        have hw7 : upd H7 d (.dK (dkOf (F2 ++ [qn]))) wl = some (.lst (natsV W2)) := by
          rw [upd_ne hdw.symm]
          exact hw6
        have hWl : (natsV W2).length < sizeLine := by
          unfold natsV
          rw [List.length_map, sizeLine_eq]
          have hle := hF.le
          rw [List.length_append, List.length_singleton] at hle
          omega
        refine ⟨_, rfl, .inl ⟨rfl, _, SqL.of hw7⟩, _, rfl, wl, _, _, rfl, rfl, hw7, hWl, ?_⟩
        refine ⟨F2 ++ [qn], W2 ++ [qn], some (.int (qn : Int)), k + 1, by simp; omega, by simp; omega, ?_, ?_, ?_, ?_, ⟨?_, ?_, ?_, ?_, ?_⟩, List.mem_append_left _ zx, fun q hq2 => ?_, rfl⟩
        · exact Ex.mut (Ex.mut e6 hd) hwlH
        · rw [upd_ne hdw, upd_same]
        · rw [upd_same]
          unfold natsV
          rw [List.map_append]
          rfl
        · rw [upd_ne hlw, upd_ne hld]
          exact hl6
        · exact List.mem_append_left _ z1
        · exact List.nodup_append.mpr ⟨z2, by simp, fun a ha b hb => by rw [List.mem_singleton.mp hb]; intro z; rw [z] at ha; exact hq ha⟩
        · intro p hp
          rcases List.mem_append.mp hp with z | z
          · exact z3 p z
          · rw [List.mem_singleton.mp z]
            exact hRq
        · intro p hp
          rcases List.mem_append.mp hp with z | z
          · exact List.mem_append_left _ (z4 p z)
          · exact List.mem_append_right _ z
        · intro p hp
          rcases List.mem_append.mp hp with z | z
          · rcases z5 p z with z | z | z
            · exact .inl (List.mem_append_left _ z)
            · exact .inr (.inl z)
            · exact .inr (.inr fun q hq => List.mem_append_left _ (z q hq))
          · exact .inl (List.mem_append_right _ z)
        · rw [htake] at hq2
          rcases List.mem_append.mp hq2 with z | z
          · exact List.mem_append_left _ (zt q z)
          · have := List.mem_singleton.mp z
            have e : q = qn := by omega
            rw [e]
            exact List.mem_append_right _ (List.mem_singleton.mpr rfl)
    · intro σ H6 h
      obtain ⟨F2, W2, o5', k, hk1, hk2, e6, hd6, hw6, hl6, ⟨z1, z2, z3, z4, z5⟩, zx, zt, rfl⟩ := h
      rw [List.length_map, List.take_length] at zt
      have hle := hF.le
      rw [List.length_append, List.length_singleton] at hle
      have hF2 : Fnd ns F2 W2 := ⟨z1, z2, z3, z4, by omega, fun p hp => by
        rcases z5 p hp with z | z | z
        · exact .inl z
        · rw [z]; exact .inr zt
        · exact .inr z⟩
      refine ⟨_, ?_, F2, W2, o5', rfl, e6, hd6, hw6, hF2, rfl⟩
      have := hF2.len hI
      rw [hm, List.length_append, List.length_singleton]
      omega
end
end BT
/-! The walk, 8: reached. -/
namespace BT
open PySem PySem.Spec PyProof.Rows L2 Evl
theorem reachL_len {ns : List Int} (hI : Img ns) : (reachL ns).length ≤ 70000 :=
  nodup_lt_length (reachL_nodup ns) fun p hp => reach_lt hI ((mem_reachL hI).mp hp)
theorem dicAt_snoc {K : PySem.W.Frag} {H : Hp} {ns : List Int} {ps : List Nat} {kvs : List (Key × V)} {p : Nat} {v : V} (h : DicAt K H ns ps kvs) (hv : RowAt K H (rowOf (dec ns p)) v) : DicAt K H ns (ps ++ [p]) (kvs ++ [(Sum.inl (p : Int), v)]) :=
  paired_snoc (F := fun (p : Nat) (kv : Key × V) => kv.1 = Sum.inl (p : Int) ∧ RowAt K H (rowOf (dec ns p)) kv.2) ⟨rfl, hv⟩ h
theorem dicAt_keys {K : PySem.W.Frag} {H : Hp} {ns : List Int} : ∀ {ps : List Nat} {kvs : List (Key × V)}, DicAt K H ns ps kvs → kvs.map (·.1) = ps.map fun (p : Nat) => (Sum.inl (p : Int) : Key)
  | _, _, .nil => rfl
  | _, _, .cons h t => by
    rw [List.map_cons, List.map_cons, dicAt_keys t, h.1]
section
variable {P : Program} {w : World} {K : PySem.W.Frag} {mg : Str → Option Value} {base : Heap}
theorem ok_reached (T : Txt K mg) (C : Txc K w mg) : Own P w K mg base CX0 8 "reached" ["image"] (spReached K) := own_of T.reached fun f fd F => by
  have G1 := ok_check_image (P := P) (w := w) (base := base) T
  have G2 := ok_come_to (P := P) (base := base) T C
  have G3 := ok_row_in (P := P) (base := base) T C
  refine F.ok scReached (fun vs H Q E h => ?_) (fun cdv A outer s H vs Q E hr h => ?_)
  · obtain ⟨ns, rfl, _⟩ := h
    rfl
  · obtain ⟨ns, rfl, hI, q⟩ := h
    have hr1 : Room 1 _ := hr.mono (by decide)
    have hr5 : Room 5 _ := hr.mono (by decide)
    refine ⟨_, pss_cons (ps_expr (pe_own G1 hr1 pass0 (pa_cons (pv 0) pa_nil)))
      (pss_one (ps_ret (pe_dc (own := [("place", 1)]) (g := gName 1) (tt := tYes) rfl scReached.nd (pi_list (pe_own G2 hr pass0 (pa_cons (pv 0) (pa_cons pe_int (pa_cons pe_bl pa_nil))))) (blkOk_by (N := nReached) (sc := defScope sReached) (by decide +kernel))
        (fun _ _ _ _ _ => pg_name (i := 1) scReached.nd rfl (Or.inl rfl)) (fun _ _ _ _ _ => pts_nil) (fun _ _ _ _ _ => pv 1) (fun _ _ _ _ _ => pe_ix (r := rIxT K) ix_tup (pe_own G3 hr5 pass0 (pa_cons (pv 0) (pa_cons (pv 1) pa_nil))) pe_int (fun _ _ => rfl))))), ?_⟩
    refine ⟨_, rfl, ns, rfl, hI, _, rfl, ns, rfl, hI, fun H1 l e1 hl0 hl => ?_⟩
    refine ⟨l, rfl, ⟨_, SqL.of hl⟩, fun D hD => ?_⟩
    have hlen := reachL_len hI
    refine dc_it (walk_list (xs := (reachL ns).map fun (p : Nat) => V.int (p : Int))) (fun i H' => Ex H1 H' ∧ ∃ kvs, H' D = some (.dK kvs) ∧ DicAt K H' ns ((reachL ns).take i) kvs) ⟨Ex.new hD, [], upd_same, .nil⟩ (fun i H' _ h => SqL.of (h.1 _ _ hl)) ?_ ?_
    · intro i x H2 H3 hi h y
      obtain ⟨e2, kvs, hk, hdic⟩ := h
      obtain ⟨rfl, rfl⟩ := y_at i H2 x H3 hi y
      rw [List.length_map] at hi
      have hx : ((reachL ns).map fun (p : Nat) => V.int (p : Int)).getD i .non = .int (((reachL ns).getD i 0 : Nat) : Int) := by
        rw [List.getD_eq_getElem?_getD, List.getElem?_map, List.getD_eq_getElem?_getD, List.getElem?_eq_getElem hi]
        rfl
      rw [hx]
      have htake := take_snoc (0 : Nat) hi
      have hlt : ∀ z ∈ (reachL ns).take i, z < (reachL ns).getD i 0 := by
        have hs := reachL_sorted ns
        have h2 : (reachL ns).take (i + 1) = (reachL ns).take i ++ [(reachL ns).getD i 0] := htake
        have h3 : ((reachL ns).take (i + 1)).Pairwise (· < ·) := hs.sublist (List.take_sublist _ _)
        rw [h2] at h3
        exact fun z hz => (List.pairwise_append.mp h3).2.2 z hz _ (List.mem_singleton.mpr rfl)
      generalize (reachL ns).getD i 0 = p at htake hlt
      refine ⟨rfl, ?_⟩
      unfold tYes
      dsimp only
      rw [if_pos rfl]
      refine ⟨_, rfl, _, rfl, _, rfl, ns, p, rfl, hI, fun H4 t r e4 ht0 ht hR => ?_⟩
      refine ⟨t, _, _, r, rfl, rfl, st_of ht, atI_nat (j := 0) rfl, ?_⟩
      have hk4 := e4 _ _ hk
      refine ⟨kvs, Sum.inl (p : Int), rfl, hk4, ?_, ?_⟩
      · have := hdic.length
        rw [List.length_take] at this
        rw [sizeLine_eq]
        omega
      · have hnone : valV kvs (Sum.inl (p : Int)) = none := valV_none fun kv hkv z => by
          have h1 : kv.1 ∈ kvs.map (·.1) := List.mem_map.mpr ⟨kv, hkv, rfl⟩
          rw [dicAt_keys hdic] at h1
          obtain ⟨a, ha, ea⟩ := List.mem_map.mp h1
          rw [z] at ea
          injection ea with ea
          have := hlt a ha
          omega
        rw [putK_new _ hnone]
        refine ⟨Ex.mut (e2.trans e4) hD, _, upd_same, ?_⟩
        rw [htake]
        refine dicAt_snoc (dic_keepO hk4 (fun _ z => by cases z) (fun _ _ z => by cases z) (hdic.ex e4)) ?_
        exact row_keepO hk4 (fun _ z => by cases z) (fun _ _ z => by cases z) hR
    · intro H2 h
      obtain ⟨e2, kvs, hk, hdic⟩ := h
      rw [List.length_map, List.take_length] at hdic
      exact q _ D kvs (e1.trans e2) (fresh_back e1 hD) hk hdic
end
end BT
/-! The walk, 9: never. -/
namespace BT
open PySem PySem.Spec PyProof.Rows L2 Evl
section
variable {P : Program} {w : World} {K : PySem.W.Frag} {mg : Str → Option Value} {base : Heap}
/-! ### never -/
theorem many_le (ns : List Int) (p : Nat) : p + manyOf ns p ≤ ns.length ∨ manyOf ns p = 0 := by
  by_cases h : ns.length ≤ p
  · right
    unfold manyOf dec
    rw [if_pos h]
  · cases hd : dec ns p with
    | out0 =>
      right
      unfold manyOf
      rw [hd]
    | out1 =>
      left
      unfold manyOf
      rw [hd]
      show p + 1 ≤ _
      omega
    | bad =>
      left
      unfold manyOf
      rw [hd]
      show p + 1 ≤ _
      omega
    | op k ts =>
      obtain ⟨h1, h2, h3⟩ := dec_op hd
      left
      omega
def usedN (ns : List Int) (ps : List Nat) (a : Nat) : Bool := ps.any fun p => decide (p ≤ a) && decide (a < p + manyOf ns p)
structure UsedD (ns : List Int) (ps : List Nat) (kvs : List (Key × V)) : Prop where
  nd : (kvs.map (·.1)).Nodup
  keys : ∀ p ∈ kvs, ∃ a : Nat, p.1 = Sum.inl (a : Int) ∧ a < 2000
  mem : ∀ a : Nat, (valV kvs (Sum.inl (a : Int))).isSome = usedN ns ps a
theorem UsedD.len {ns : List Int} {ps : List Nat} {kvs : List (Key × V)} (h : UsedD ns ps kvs) : kvs.length ≤ 2000 := by
  have hs : kvs.map (·.1) ⊆ (List.range 2000).map fun (a : Nat) => (Sum.inl (a : Int) : Key) := fun x hx => by
    obtain ⟨p, hp, rfl⟩ := List.mem_map.mp hx
    obtain ⟨a, ea, hl⟩ := h.keys p hp
    exact List.mem_map.mpr ⟨a, List.mem_range.mpr hl, ea.symm⟩
  have := h.nd.length_le_of_subset hs
  rw [List.length_map, List.length_map, List.length_range] at this
  exact this
theorem UsedD.step {ns : List Int} (hI : Img ns) {ps : List Nat} {kvs : List (Key × V)} (h : UsedD ns ps kvs) (p : Nat) : UsedD ns (ps ++ [p]) (mergeK kvs (dkF (fun i => (p : Int) + (i : Int)) (fun _ => .bl true) (manyOf ns p))) := by
  have hm := many_le ns p
  have hl := hI.hi
  refine ⟨nd_merge h.nd, fun x hx => ?_, fun a => ?_⟩
  · rcases merge_keys hx with z | z
    · obtain ⟨y, hy, e⟩ := List.mem_map.mp z
      obtain ⟨j, hj, rfl⟩ := List.mem_map.mp hy
      have := List.mem_range.mp hj
      refine ⟨p + j, ?_, by omega⟩
      rw [← e]
      show (Sum.inl ((p : Int) + (j : Int)) : Key) = _
      congr 1
    · obtain ⟨y, hy, e⟩ := List.mem_map.mp z
      obtain ⟨a, ea, hl2⟩ := h.keys y hy
      exact ⟨a, by rw [← e]; exact ea, hl2⟩
  · rw [some_merge, h.mem a]
    unfold usedN
    rw [List.any_append]
    congr 1
    unfold dkF
    rw [List.any_map]
    show ((List.range (manyOf ns p)).any fun j => decide ((Sum.inl ((p : Int) + (j : Int)) : Key) = Sum.inl (a : Int))) = ((decide (p ≤ a) && decide (a < p + manyOf ns p)) || false)
    rw [Bool.or_false]
    by_cases h1 : p ≤ a ∧ a < p + manyOf ns p
    · rw [decide_eq_true h1.1, decide_eq_true h1.2]
      refine List.any_eq_true.mpr ⟨a - p, List.mem_range.mpr (by omega), decide_eq_true ?_⟩
      congr 1
      omega
    · have e : (decide (p ≤ a) && decide (a < p + manyOf ns p)) = false := by
        by_cases h2 : p ≤ a
        · rw [decide_eq_false (show ¬ a < p + manyOf ns p by omega)]
          simp
        · rw [decide_eq_false h2]
          rfl
      rw [e, List.any_eq_false]
      intro j hj
      have := List.mem_range.mp hj
      rw [decide_eq_true_iff]
      intro z
      injection z with z
      omega
/-! the list of pairs -/
def prP (q : Nat × Nat) : PyData := .tuple [.int (q.1 : Int), .int (q.2 : Int)]
theorem prP_lay (z : Nat × Nat) : (prP z).canLay0 = true := by simp [prP, PyData.canLay0, PyData.canLayAll0]
theorem prP_depth (z : Nat × Nat) : (prP z).depth = 1 := by simp [prP, PyData.depth, PyData.depthAll]
theorem prPs_lay : ∀ zs : List (Nat × Nat), PyData.canLayAll0 (zs.map prP) = true
  | [] => by simp [PyData.canLayAll0]
  | z :: zs => by simp [PyData.canLayAll0, prP_lay z, prPs_lay zs]
theorem prPs_depth : ∀ zs : List (Nat × Nat), PyData.depthAll (zs.map prP) ≤ 1
  | [] => by simp [PyData.depthAll]
  | z :: zs => by
    have h1 := prPs_depth zs
    have h2 := prP_depth z
    simp only [List.map_cons, PyData.depthAll]
    omega
theorem prPs_shaped (zs : List (Nat × Nat)) : SeqAt.shaped (.list (zs.map prP)) = true := by
  have h1 := prPs_depth zs
  have h2 : PyData.depth (.list (zs.map prP)) ≤ 64 := by
    simp only [PyData.depth]
    omega
  show (PyData.canLay0 (.list (zs.map prP)) && decide (PyData.depth (.list (zs.map prP)) ≤ 64)) = true
  rw [Bool.and_eq_true]
  exact ⟨by simp only [PyData.canLay0]; exact prPs_lay zs, decide_eq_true h2⟩
theorem nevAt_dp {K : PySem.W.Frag} {H : Hp} : ∀ {qs : List (Nat × Nat)} {xs : List V}, NevAt H qs xs → DpAll K H xs (qs.map prP)
  | _, _, .nil => .nil
  | _, _, .cons h t => by
    obtain ⟨a, rfl, ha⟩ := h
    exact .cons (.tup (st_of ha) (.cons (.int _) (.cons (.int _) .nil))) (nevAt_dp t)
theorem nev_keep {H : Hp} {l : Addr} {o0 o : HO} (h0 : H l = some o0) (n1 : ∀ ys, o0 ≠ .tup ys) : ∀ {qs : List (Nat × Nat)} {xs : List V}, NevAt H qs xs → NevAt (upd H l o) qs xs
  | _, _, .nil => .nil
  | _, _, .cons h t => by
    obtain ⟨a, rfl, ha⟩ := h
    exact .cons ⟨a, rfl, by rw [upd_ne (ne_of ha h0 (fun z => n1 _ (by cases z; rfl)))]; exact ha⟩ (nev_keep h0 n1 t)
theorem NevAt.ex {H H' : Hp} (e : Ex H H') : ∀ {qs : List (Nat × Nat)} {xs : List V}, NevAt H qs xs → NevAt H' qs xs
  | _, _, .nil => .nil
  | _, _, .cons h t => by
    obtain ⟨a, rfl, ha⟩ := h
    exact .cons ⟨a, rfl, e _ _ ha⟩ (NevAt.ex e t)
theorem paired_unsnoc {α β : Type} {F : α → β → Prop} {x : α} : ∀ {l : List α} {m : List β}, Paired F (l ++ [x]) m → ∃ m' y, m = m' ++ [y] ∧ Paired F l m' ∧ F x y
  | [], _, .cons h t => by
    cases t
    exact ⟨[], _, rfl, .nil, h⟩
  | a :: r, _, .cons h t => by
    obtain ⟨m', y, rfl, h1, h2⟩ := paired_unsnoc (l := r) t
    exact ⟨_ :: m', y, rfl, .cons h h1, h2⟩
theorem stretch_u {u : Nat → Bool} {acc : List (Nat × Nat)} {a : Nat} (h : u a = true) : stretch u acc a = acc := by
  unfold stretch
  rw [if_pos h]
theorem stretch_nil {u : Nat → Bool} {a : Nat} (h : u a = false) : stretch u [] a = [(a, a + 1)] := by
  unfold stretch
  rw [if_neg (by rw [h]; decide)]
  rfl
theorem stretch_join {u : Nat → Bool} {acc : List (Nat × Nat)} {a b : Nat} (h : u a = false) : stretch u (acc ++ [(b, a)]) a = acc ++ [(b, a + 1)] := by
  unfold stretch
  rw [if_neg (by rw [h]; decide), List.getLast?_concat]
  dsimp only
  rw [if_pos rfl, List.dropLast_concat]
theorem stretch_new {u : Nat → Bool} {acc : List (Nat × Nat)} {a b e : Nat} (h : u a = false) (he : e ≠ a) : stretch u (acc ++ [(b, e)]) a = acc ++ [(b, e)] ++ [(a, a + 1)] := by
  unfold stretch
  rw [if_neg (by rw [h]; decide), List.getLast?_concat]
  dsimp only
  rw [if_neg he]
theorem stretch_len (u : Nat → Bool) (acc : List (Nat × Nat)) (a : Nat) : (stretch u acc a).length ≤ acc.length + 1 := by
  unfold stretch
  split
  · omega
  · split
    · split
      · simp
      · simp
    · simp
noncomputable def nevTo (ns : List Int) (i : Nat) : List (Nat × Nat) := (List.range i).foldl (stretch (used ns)) []
theorem nevTo_succ (ns : List Int) (i : Nat) : nevTo ns (i + 1) = stretch (used ns) (nevTo ns i) i := by
  unfold nevTo
  rw [List.range_succ, List.foldl_append, List.foldl_cons, List.foldl_nil]
theorem nevTo_len (ns : List Int) : ∀ i, (nevTo ns i).length ≤ i
  | 0 => Nat.le_refl _
  | i + 1 => by
    rw [nevTo_succ]
    have := stretch_len (used ns) (nevTo ns i) i
    have := nevTo_len ns i
    omega
theorem mergeK_len_le {ns : List Int} {ps : List Nat} {kvs : List (Key × V)} (h : UsedD ns ps kvs) {m : Nat} (hm : m ≤ 2000) (kf : Nat → Int) : kvs.length + (dkF kf (fun _ => V.bl true) m).length ≤ sizeLine := by
  have := h.len
  unfold dkF
  rw [List.length_map, List.length_range, sizeLine_eq]
  omega
theorem ok_never (T : Txt K mg) (C : Txc K w mg) : Own P w K mg base CX0 9 "never" ["image"] spNever := own_of T.never fun f fd F => by
  have G1 := ok_reached (P := P) (base := base) T C
  have G2 := ok_row_in (P := P) (base := base) T C
  refine F.ok scNever (fun vs H Q E h => ?_) (fun cdv A outer s H vs Q E hr h => ?_)
  · obtain ⟨ns, rfl, _⟩ := h
    rfl
  · obtain ⟨ns, rfl, hI, q⟩ := h
    have hr5 : Room 5 _ := hr.mono (by decide)
    have hu := hu_of hr
    have hl2 := hI.hi
    refine ⟨_, pss_cons (ps_set (i := 1) scNever.nd rfl (.inl rfl) pe_dnewK)
      (pss_cons (ps_for PassesOwn.never rfl (pi_keys (pe_frz (pe_own G1 hr pass0 (pa_cons (pv 0) pa_nil)))) (pg_name (i := 2) scNever.nd rfl (Or.inr rfl))
        (pss_one (ps_expr (pe_bm PySem.F.plainAttrs_dict PySem.F.slot_dict_update PySem.F.type_dict_update mt_dupdate (pv 1) (pa_cons
          (pe_dc (own := [("at", 3)]) (g := gName 3) (tt := tYes) rfl scNever.nd (pi_range1 rfl T.range (pa_cons (pe_ix ix_tup (pe_own G2 hr5 pass0 (pa_cons (pv 0) (pa_cons (pv 2) pa_nil))) pe_int (fun _ _ => rfl)) pa_nil)) (blkOk_by (N := nNever) (sc := defScope sNever) (by decide +kernel))
            (fun _ _ _ _ _ => pg_name (i := 3) scNever.nd rfl (Or.inl rfl)) (fun _ _ _ _ _ => pts_nil) (fun _ _ _ _ _ => pe_op op_add (pv 2) (pv 3)) (fun _ _ _ _ _ => pe_bl)) pa_nil)))))
      (pss_cons (ps_set (i := 4) scNever.nd rfl (.inl rfl) (pe_lst pa_nil))
      (pss_cons (ps_for PassesOwn.never rfl (pi_range1 rfl T.range (pa_cons (pe_callB call_lenB (by rfl) T.len PySem.boot_len (pa_cons (pv 0) pa_nil)) pa_nil)) (pg_name (i := 3) scNever.nd rfl (Or.inl rfl))
        (pss_cons (ps_if (pt_cmp (pc_din hu (pv 3) (pv 1))) (pss_one ps_continue) pss_nil)
        (pss_one (ps_if (PW.pt (pw_and (pt_cmpR (op_neD hr.units) (pv 4) (pe_lst pa_nil) (nomark _)) (pw_and1 (pt_cmpR op_eq (pe_ix ix_tup (pe_ix ix_list (pv 4) (pe_un un_neg pe_int) (fun _ _ => rfl)) pe_int (fun _ _ => rfl)) (pv 3) (nomark _)))))
          (pss_one (ps_asg (pe_tup (pa_cons (pe_ix ix_tup (pe_ix ix_list (pv 4) (pe_un un_neg pe_int) (fun _ _ => rfl)) pe_int (fun _ _ => rfl)) (pa_cons (pe_op op_add (pv 3) pe_int) pa_nil))) (pg_sub (pv 4) (pe_un un_neg pe_int) set_list)))
          (pss_one (ps_expr (pe_bm PySem.F.plainAttrs_list PySem.F.slot_list_append PySem.F.type_list_append mt_append (pv 4) (pa_cons (pe_tup (pa_cons (pv 3) (pa_cons (pe_op op_add (pv 3) pe_int) pa_nil))) pa_nil))))))))
      (pss_one (ps_ret (pv 4)))))), ?_⟩
    have hz0 : 0 ≤ sizeLine := by decide
    have hz2 : 2 ≤ sizeLine := by decide
    intro d hd
    refine ⟨_, rfl, ns, rfl, hI, fun H1 d' kvs e1 hd0 hk hdic => ?_⟩
    refine ⟨d', _, rfl, hk, True.intro, fun od => ⟨d', od, rfl, .inl ⟨kvs, upd_same, ?_⟩⟩⟩
    have hdd : d ≠ d' := fun z => by
      rw [← z, upd_same] at hd0
      cases hd0
    have hd1 : H1 d = some (.dK []) := e1 d _ upd_same
    have hd'H : H d' = none := by
      rw [upd_ne hdd.symm] at hd0
      exact hd0
    have e2 : Ex H (upd H1 d' (.frz od (.dK kvs))) := Ex.mut ((Ex.new hd).trans e1) hd'H
    have hd2 : upd H1 d' (.frz od (.dK kvs)) d = some (.dK []) := by
      rw [upd_ne hdd]
      exact hd1
    have hk2 : upd H1 d' (.frz od (.dK kvs)) d' = some (.frz od (.dK kvs)) := upd_same
    have hkeys := dicAt_keys hdic
    generalize upd H1 d' (.frz od (.dK kvs)) = H2 at e2 hd2 hk2 ⊢
    clear hk hdic hd1 e1 hd0
    have hkl : kvs.length = (reachL ns).length := by
      have := congrArg List.length hkeys
      rw [List.length_map, List.length_map] at this
      exact this
    refine for_it (walk_keys (d := d') (o := od) (kvs := kvs)) (fun i σ H' => ∃ uk o2, Ex H H' ∧ H' d' = some (.frz od (.dK kvs)) ∧ H' d = some (.dK uk) ∧ UsedD ns ((reachL ns).take i) uk ∧ σ = [some (.byt (byteArr ns)), some (.ref d), o2, none, none])
      ⟨[], none, e2, hk2, hd2, ⟨List.nodup_nil, (fun p h => by cases h), fun a => rfl⟩, rfl⟩ (fun i σ H' _ h => by obtain ⟨uk, o2, h1, h2, h3⟩ := h; exact h2) ?_ ?_
    · intro i x σ H3 H4 hi h y
      obtain ⟨uk, o2, e3, hk3, hd3, hU, rfl⟩ := h
      obtain ⟨rfl, k, v, hkv, rfl⟩ := y
      have hi' : i < (reachL ns).length := by omega
      have hp : k = Sum.inl (((reachL ns).getD i 0 : Nat) : Int) := by
        have h1 : (kvs.map (·.1))[i]? = some k := by rw [List.getElem?_map, hkv]; rfl
        rw [hkeys, List.getElem?_map, List.getElem?_eq_getElem hi'] at h1
        rw [List.getD_eq_getElem?_getD, List.getElem?_eq_getElem hi']
        exact (Option.some.inj h1).symm
      subst hp
      have htake := take_snoc (0 : Nat) hi'
      generalize (reachL ns).getD i 0 = p at htake ⊢
      refine ⟨_, rfl, .inr (.inr (.inl ⟨rfl, .inl ⟨_, hd3⟩⟩)), ?_⟩
      refine ⟨_, rfl, _, rfl, ns, p, rfl, hI, fun H5 t r e5 ht0 ht hR => ?_⟩
      have hm := many_le ns p
      have hml : manyOf ns p ≤ 2000 := by omega
      refine ⟨t, _, _, _, rfl, rfl, st_of ht, atI_nat (j := 1) rfl, _, rfl, by omega, by omega, fun D hD => ?_⟩
      refine dc_name (walk_range (lo := 0)) _ (fun _ => .bl true) (fun j => (p : Int) + (j : Int)) y_fn (fun _ => rfl) (by rw [Int.toNat_natCast, sizeLine_eq]; omega) (fun a b h1 h2 => by omega) hD (fun _ _ => True.intro) ?_ (fun i H' _ _ Q q => q _ (Ex.refl _)) ?_
      · intro j H' hj e Q q
        refine ⟨_, rfl, _, rfl, _, _, rfl, rfl, ?_⟩
        have := q _ (Ex.refl H')
        show Q (.int ((p : Int) + (0 + (j : Int)))) H'
        rw [Int.zero_add]
        exact this
      · intro H6 e6 hD6
        rw [Int.toNat_natCast] at hD6
        have hd6 : H6 d = some (.dK uk) := e6 _ _ (e5 _ _ hd3)
        have hne : d ≠ D := fun z => by
          rw [← z, e5 _ _ hd3] at hD
          cases hD
        refine ⟨d, D, uk, _, rfl, rfl, hne, hd6, hD6, mergeK_len_le hU hml _, ?_⟩
        refine ⟨_, some (.int (p : Int)), Ex.mut ((e3.trans e5).trans e6) hd, ?_, upd_same, ?_, rfl⟩
        · rw [upd_ne hdd.symm]
          exact e6 _ _ (e5 _ _ hk3)
        · rw [htake]
          exact hU.step hI p
    · intro σ H3 h
      obtain ⟨uk, o2, e3, hk3, hd3, hU, rfl⟩ := h
      rw [hkl, List.take_length] at hU
      have hused : ∀ a : Nat, (valV uk (Sum.inl (a : Int))).isSome = used ns a := fun a => hU.mem a
      clear hk3 hkeys hU hkl hdd
      refine ⟨hz0, fun l hl => ?_⟩
      have e4 : Ex H3 (upd H3 l (.lst [])) := Ex.new hl
      refine ⟨_, rfl, ns, rfl, by omega, _, rfl, by omega, by omega, ?_⟩
      refine for_it (walk_range (lo := 0)) (fun i σ H' => ∃ xs o3, Ex H H' ∧ H' d = some (.dK uk) ∧ H' l = some (.lst xs) ∧ NevAt H' (nevTo ns i) xs ∧ σ = [some (.byt (byteArr ns)), some (.ref d), o2, o3, some (.ref l)])
        ⟨[], none, e3.trans e4, e4 _ _ hd3, upd_same, .nil, rfl⟩ (fun _ _ _ _ _ => True.intro) ?_ ?_
      · intro i x σ H5 H6 hi h y
        obtain ⟨xs, o3, e5, hd5, hl5, hN, rfl⟩ := h
        obtain ⟨rfl, rfl⟩ := y
        rw [Int.toNat_natCast] at hi
        show gName 3 (.int (0 + (i : Int))) _ _ _
        rw [Int.zero_add]
        have hlH : H l = none := fresh_back e3 hl
        have hdl : d ≠ l := fun z => by
          rw [← z, hd3] at hl
          cases hl
        refine ⟨_, rfl, _, rfl, d, _, rfl, DGet.k (k := Sum.inl (i : Int)) hd5, _, rfl, ?_⟩
        rw [hused]
        have hsucc := nevTo_succ ns i
        have hlen := nevTo_len ns i
        have hxl : (nevTo ns i).length = xs.length := hN.length
        by_cases hus : used ns i = true
        · rw [hus]
          rw [stretch_u hus] at hsucc
          refine iteT ⟨xs, some (.int (i : Int)), e5, hd5, hl5, ?_, rfl⟩
          rw [hsucc]
          exact hN
        have hus : used ns i = false := by
          cases hh : used ns i with
          | true => exact absurd hh hus
          | false => rfl
        rw [hus]
        refine iteF ⟨_, rfl, hz0, fun t ht => ?_⟩
        have e7 : Ex H6 (upd H6 t (.lst [])) := Ex.new ht
        refine ⟨_, _, .lst (SqL.of (e7 _ _ hl5)) (nevAt_dp (hN.ex e7)), .lst (SqL.of upd_same) .nil, prPs_shaped _, PySem.W.shaped_ints [], _, rfl, ?_⟩
        have hl7 := e7 _ _ hl5
        have hd7 := e7 _ _ hd5
        have hN7 := hN.ex e7
        have e57 := e5.trans e7
        clear hN hl5 hd5
        generalize upd H6 t (.lst []) = H7 at e57 hl7 hd7 hN7 ⊢
        clear e7
        -- a new stretch
        have app : ∀ (De : Ends) H8, Ex H7 H8 → stretch (used ns) (nevTo ns i) i = nevTo ns i ++ [(i, i + 1)] → (∀ H9 xs, Ex H H9 → H9 d = some (.dK uk) → H9 l = some (.lst xs) → NevAt H9 (nevTo ns (i + 1)) xs → De.nx [some (.byt (byteArr ns)), some (.ref d), o2, some (.int (i : Int)), some (.ref l)] H9) →
            tDrop (tBM K "list" rAppend (tVar 4) (tCons (tTup (tCons (tVar 3) (tCons (tOp (rI0 fun i j => V.int (i + j)) (tVar 3) (tC (V.int 1))) tNil))) tNil)) De [some (.byt (byteArr ns)), some (.ref d), o2, some (.int (i : Int)), some (.ref l)] H8 := fun De H8 e8 hst hD => by
          have hl8 := e8 _ _ hl7
          refine ⟨_, rfl, .inl ⟨rfl, _, SqL.of hl8⟩, _, rfl, _, rfl, _, _, rfl, rfl, hz2, fun t2 ht2 => ?_⟩
          have e9 : Ex H8 (upd H8 t2 (.tup [.int (i : Int), .int ((i : Int) + 1)])) := Ex.new ht2
          have hl9 := e9 _ _ hl8
          refine ⟨l, _, _, rfl, rfl, hl9, by rw [sizeLine_eq]; omega, ?_⟩
          refine hD _ _ (Ex.mut ((e57.trans e8).trans e9) hlH) ?_ upd_same ?_
          · rw [upd_ne hdl]
            exact e9 _ _ (e8 _ _ hd7)
          · rw [hsucc, hst]
            refine paired_snoc ?_ (nev_keep hl9 (fun _ z => by cases z) ((hN7.ex e8).ex e9))
            refine ⟨t2, rfl, ?_⟩
            rw [upd_ne (ne_of upd_same hl9 (by intro z; cases z)), upd_same]
            show some (HO.tup [V.int (i : Int), V.int ((i : Int) + 1)]) = some (HO.tup [V.int ((i : Nat) : Int), V.int ((i + 1 : Nat) : Int)])
            rw [Int.natCast_add]
            rfl
        have hx : nevTo ns i = [] ∨ ∃ acc b e, nevTo ns i = acc ++ [(b, e)] := by
          by_cases h : nevTo ns i = []
          · exact .inl h
          · exact .inr ⟨(nevTo ns i).dropLast, ((nevTo ns i).getLast h).1, ((nevTo ns i).getLast h).2, (List.dropLast_concat_getLast h).symm⟩
        rcases hx with hx | ⟨acc, b, e, hx⟩
        · rw [hx]
          refine iteF (iteF (app _ _ (Ex.refl _) (by rw [hx, stretch_nil hus]; rfl) fun H9 xs h1 h2 h3 h4 => ⟨xs, _, h1, h2, h3, h4, rfl⟩))
        · have hne : (!PyData.eqv (.list ((nevTo ns i).map prP)) (.list [])) = true := by
            rw [hx, List.map_append]
            cases acc with
            | nil => simp [PyData.eqv, PyData.eqvAll]
            | cons a r => simp [PyData.eqv, PyData.eqvAll]
          rw [hne]
          rw [hx] at hN7
          obtain ⟨xs', y, rfl, hNa, t0, rfl, ht0⟩ := paired_unsnoc hN7
          refine iteT ⟨_, rfl, _, rfl, l, _, _, _, rfl, rfl, SqL.of hl7, atI_last _ _, ?_⟩
          refine ⟨t0, _, _, _, rfl, rfl, st_of ht0, atI_nat (j := 1) rfl, _, rfl, rfl, _, rfl, ?_⟩
          by_cases he : e = i
          · subst he
            rw [decide_eq_true rfl]
            refine iteT ?_
            refine ⟨_, rfl, _, rfl, l, _, _, _, rfl, rfl, SqL.of hl7, atI_last _ _, ?_⟩
            refine ⟨t0, _, _, _, rfl, rfl, st_of ht0, atI_nat (j := 0) rfl, _, rfl, _, _, rfl, rfl, hz2, fun t2 ht2 => ?_⟩
            have e9 : Ex H7 (upd H7 t2 (.tup [.int (b : Int), .int ((e : Int) + 1)])) := Ex.new ht2
            have hl9 := e9 _ _ hl7
            refine ⟨_, rfl, _, rfl, l, _, _, xs'.length, rfl, rfl, hl9, ?_, ?_⟩
            · unfold ixN
              rw [if_neg (by decide), List.length_append, List.length_singleton]
              rw [if_pos (by omega)]
              congr 1
              omega
            · rw [List.set_append_right _ _ (Nat.le_refl _), Nat.sub_self]
              refine ⟨xs' ++ [.ref t2], _, Ex.mut (e57.trans e9) hlH, ?_, upd_same, ?_, rfl⟩
              · rw [upd_ne hdl]
                exact e9 _ _ hd7
              · rw [hsucc, hx, stretch_join hus]
                refine paired_snoc ?_ (nev_keep hl9 (fun _ z => by cases z) (NevAt.ex e9 hNa))
                refine ⟨t2, rfl, ?_⟩
                rw [upd_ne (ne_of upd_same hl9 (by intro z; cases z)), upd_same]
                show some (HO.tup [V.int (b : Int), V.int ((e : Int) + 1)]) = some (HO.tup [V.int ((b : Nat) : Int), V.int ((e + 1 : Nat) : Int)])
                rw [Int.natCast_add]
                rfl
          · rw [decide_eq_false (by intro z; injection z with z; omega)]
            refine iteF (app _ _ (Ex.refl _) (by rw [hx, stretch_new hus he]) fun H9 xs h1 h2 h3 h4 => ⟨xs, _, h1, h2, h3, h4, rfl⟩)
      · intro σ H5 h
        obtain ⟨xs, o3, e5, hd5, hl5, hN, rfl⟩ := h
        rw [Int.toNat_natCast] at hN
        exact ⟨_, rfl, q _ l xs e5 (fresh_back e3 hl) hl5 hN⟩
end
end BT
/-! The walk, 10: hexed, of_hex, pairs_text, words_text. -/
namespace BT
open PySem PySem.Spec PyProof.Rows L2 Evl TL
/-! ### rules -/
def tHexB (to : TE) : TE := fun σ H Q => to σ H fun x H1 => ∃ ks : List Int, x = .byt (byteArr ks) ∧ B8 ks ∧ ks.length ≤ 1000000 ∧ Q (.str (hxS ks)) H1
theorem pe_hexB {X : Cx} {o : Expr} {to : TE} {apos cpos : Pos} (ho : PE X o to) (hbase : attributeBase o "hex" X.env (eval o X.env) = eval o X.env := by rfl) (hline : (apos.endLine == cpos.line) = true := by rfl) :
    PE X (.Call (.Attribute o "hex" apos) [] [] cpos) (tHexB to) := by
  refine ⟨fun pins s σ H Q I h => ?_⟩
  refine wpAny_Call_method0_late hbase hline (thn (ho.run pins s σ H _ I h) fun v s1 ⟨x, H1, I1, r1, ks, ex, h8, hz, q1⟩ => ?_)
  subst ex
  have r1' := r1
  obtain ⟨t, rfl⟩ := r1
  exact ⟨"bytes", "bytes.hex", PySem.W.FB.plainAttrs_bytes, PySem.W.FB.slot_bytes_hex, PySem.W.FB.type_bytes_hex, PySem.W.typeIs_bytes _ _ _, (fun a z => by cases z),
    Calls.callWith_builtin rfl (PySem.evalArgs_none (mt_hex pins s1 σ H1 _ [] _ [] Q I1 r1' .nil ⟨ks, h8, hz, rfl, rfl, q1⟩))⟩
theorem walk_byt {ks : List Int} (h8 : B8 ks) : Walk (Itb (byteArr ks)) ks.length (fun _ => True) (fun i H v H' => H' = H ∧ v = .int (ks.getD i 0)) := by
  refine ⟨fun i _ hi _ => ?_, fun _ _ => ?_, fun i H v H' hi _ y => ?_⟩
  · show i < (byteArr ks).size
    rw [byteArr_size]
    exact hi
  · show (byteArr ks).size ≤ ks.length
    rw [byteArr_size]
    exact Nat.le_refl _
  · obtain ⟨e, c, hc, rfl⟩ := y
    refine ⟨e, ?_⟩
    have hg : ks[i]? = some (ks.getD i 0) := by
      rw [List.getD_eq_getElem?_getD, List.getElem?_eq_getElem hi]
      rfl
    have h2 : (ks.map fun n : Int => n.toNat.toUInt8)[i]? = some c := by
      have : (byteArr ks)[i]? = (ks.map fun n : Int => n.toNat.toUInt8)[i]? := List.getElem?_toArray
      rw [← this]
      exact hc
    have h3 := byte_at h8 hg
    rw [List.getD_eq_getElem?_getD, h2] at h3
    exact congrArg V.int h3
theorem y_int {n : Nat} {f : Nat → V} : ∀ i H x H', i < n → (fun (i : Nat) (H : Hp) (v : V) (H' : Hp) => H' = H ∧ v = f i) i H x H' → H' = H ∧ x = f i := fun _ _ _ _ _ y => y
/-- str(x) of a number, of a text -/
theorem call_str2 {X : Cx} : CallR X (.type "str") (fun xs H Q => (∃ i, xs = [.int i] ∧ i.natAbs.log2 < 1920 ∧ Q (.str (toString i)) H) ∨ ∃ a, xs = [.str a] ∧ Q (.str a) H) := by
  intro pins s σ H xs us Q I r h
  rcases h with h | h
  · exact call_str_int pins s σ H xs us Q I r h
  · exact SkE.call_str_str pins s σ H xs us Q I r h
def rBytesL (K : PySem.W.Frag) : List V → Hp → VK → Prop := fun xs H Q => ∃ (p : Addr) (ns : List Int), xs = [.ref p] ∧ SqL K H p (ns.map V.int) ∧ B8 ns ∧ Q (.byt (byteArr ns)) H
/-! ### what a row may hold -/
def okIt : It → Prop
  | .s x => x.length ≤ 10
  | .n i => 0 ≤ i ∧ i ≤ 65535
  | .t l => l.length ≤ 255 ∧ ∀ i ∈ l, 0 ≤ i ∧ i ≤ 65535
theorem ok_of_thing {c : Nat} {it : It} (hf : FitI c it) (h : isThing c it = true) : okIt it := by
  cases it with
  | s x => exact hf.elim
  | n i =>
    dsimp only [isThing] at h
    by_cases h1 : c = 114
    · rw [if_pos h1] at h
      have := isW_le h
      exact ⟨this.1, by omega⟩
    rw [if_neg h1] at h
    by_cases h2 : c = 110
    · rw [if_pos h2] at h
      have := isW_le h
      exact ⟨this.1, by omega⟩
    rw [if_neg h2] at h
    exact isW_le h
  | t l =>
    dsimp only [isThing] at h
    refine ⟨hf.2, fun i hi => ?_⟩
    rw [Bool.and_eq_true, Bool.and_eq_true] at h
    exact isW_le (List.all_eq_true.mp h.2 i hi)
theorem ok_of_things : ∀ {cs : List Nat} {ts : List It}, Fits cs ts → areThings cs ts = true → ∀ it ∈ ts, okIt it
  | _, _, .nil, _, _, h => by cases h
  | _, _, .cons hf t, hA, it, h => by
    unfold areThings at hA
    rw [List.zip_cons_cons, List.all_cons, Bool.and_eq_true] at hA
    rcases List.mem_cons.mp h with z | z
    · rw [z]
      exact ok_of_thing hf hA.1
    · exact ok_of_things t hA.2 it z
theorem wd_len : ∀ k, k < 21 → (wd k).length ≤ 10 := by decide +kernel
theorem sg_len : ∀ k, k < 21 → (sgc k).length ≤ 2 := by decide +kernel
theorem row_ok {d : Dec} (hD : DecOk d) : (∀ it ∈ rowOf d, okIt it) ∧ (rowOf d).length ≤ 3 := by
  have fall : ∀ (x y : Str), x.length ≤ 10 → y.length ≤ 10 → (∀ it ∈ [It.s x, It.s y], okIt it) ∧ [It.s x, It.s y].length ≤ 3 := fun x y h1 h2 => by
    refine ⟨fun it h => ?_, by show 2 ≤ 3; decide⟩
    rcases List.mem_cons.mp h with z | z
    · rw [z]
      exact h1
    · rw [List.mem_singleton.mp z]
      exact h2
  cases d with
  | out0 => exact fall _ _ (by decide +kernel) (by decide +kernel)
  | out1 => exact fall _ _ (by decide +kernel) (by decide +kernel)
  | bad => exact fall _ _ (by decide +kernel) (by decide +kernel)
  | op k ts =>
    obtain ⟨hk, hf, hA⟩ := hD
    refine ⟨fun it h => ?_, ?_⟩
    · rcases List.mem_cons.mp h with z | z
      · rw [z]
        exact wd_len k hk
      · exact ok_of_things hf hA it z
    · have := hf.length
      have := sg_len k hk
      show ts.length + 1 ≤ 3
      omega
theorem log_ok {i : Int} (h : i.natAbs ≤ 1000000) : i.natAbs.log2 < 1920 := by
  by_cases h0 : i.natAbs = 0
  · rw [h0]
    decide
  · refine (Nat.log2_lt h0).mpr (Nat.lt_of_le_of_lt h ?_)
    exact Nat.lt_of_lt_of_le (show 1000000 < 2 ^ 20 by decide) (Nat.pow_le_pow_right (by decide) (by decide))
theorem num_len {i : Int} (h0 : 0 ≤ i) (h1 : i ≤ 99999) : (numT i).length ≤ 5 ∧ 1 ≤ (numT i).length := by
  have e : i = ((i.toNat : Nat) : Int) := by omega
  rw [e]
  unfold numT
  rw [len_tl, tl_num]
  refine ⟨numL_len (by decide) (by omega), ?_⟩
  have := numL_ne i.toNat
  cases h : numL i.toNat with
  | nil => exact absurd h this
  | cons a b => simp
theorem itT_ok {it : It} (h : okIt it) : (itT it).length ≤ 255 ∧ ∀ x ∈ itT it, x.length ≤ 10 := by
  cases it with
  | s x =>
    refine ⟨by show 1 ≤ 255; decide, fun y hy => ?_⟩
    rw [List.mem_singleton.mp hy]
    exact h
  | n i =>
    refine ⟨by show 1 ≤ 255; decide, fun y hy => ?_⟩
    rw [List.mem_singleton.mp hy]
    have := num_len h.1 (by have := h.2; omega)
    omega
  | t l =>
    refine ⟨by show (l.map numT).length ≤ 255; rw [List.length_map]; exact h.1, fun y hy => ?_⟩
    obtain ⟨i, hi, rfl⟩ := List.mem_map.mp hy
    have h2 := h.2 i hi
    have := num_len h2.1 (by omega)
    omega
theorem sum_le {l : List Str} {m : Nat} (h : ∀ x ∈ l, x.length ≤ m) : (l.map (·.length)).sum ≤ m * l.length := by
  induction l with
  | nil => simp
  | cons a r ih =>
    have h1 := h a (List.mem_cons_self ..)
    have h2 := ih fun x hx => h x (List.mem_cons_of_mem _ hx)
    rw [List.map_cons, List.sum_cons, List.length_cons, Nat.mul_succ]
    omega
theorem flat_ok {r : List It} (h : ∀ it ∈ r, okIt it) : (r.flatMap itT).length ≤ 255 * r.length ∧ ∀ x ∈ r.flatMap itT, x.length ≤ 10 := by
  refine ⟨?_, fun x hx => ?_⟩
  · induction r with
    | nil => simp
    | cons a r ih =>
      have h1 := (itT_ok (h a (List.mem_cons_self ..))).1
      have h2 := ih fun x hx => h x (List.mem_cons_of_mem _ hx)
      rw [List.flatMap_cons, List.length_append, List.length_cons, Nat.mul_succ]
      omega
  · obtain ⟨it, h1, h2⟩ := List.mem_flatMap.mp hx
    exact (itT_ok (h it h1)).2 x h2
theorem hx_S (i : Int) : hxS [i] = hx i := rfl
theorem hx_len (i : Int) : (hx i).length = 2 := rfl
theorem hxL_digit : ∀ {ks : List Int}, B8 ks → ∀ c ∈ hxL ks, isHx c = true := by
  intro ks
  induction ks with
  | nil => intro _ c h; cases h
  | cons k r ih =>
    intro h8 c h
    have hk := h8 k (List.mem_cons_self ..)
    have hd_ok : ∀ n, n < 16 → isHx (hd n) = true := by decide +kernel
    have h : c ∈ hd (k.toNat / 16) :: hd (k.toNat % 16) :: hxL r := h
    rcases List.mem_cons.mp h with z | z
    · rw [z]
      exact hd_ok _ (by omega)
    rcases List.mem_cons.mp z with z | z
    · rw [z]
      exact hd_ok _ (by omega)
    · exact ih (fun n hn => h8 n (List.mem_cons_of_mem _ hn)) c z
theorem hx_in : ∀ c : Nat, isHx c = true → c ∈ (("0123456789" : Str) ++ "abcdef").cps.toList := by
  intro c h
  have hc : c < 103 := by
    unfold isHx isDg at h
    simp at h
    omega
  have all : ∀ c, c < 103 → isHx c = true → c ∈ (("0123456789" : Str) ++ "abcdef").cps.toList := by decide +kernel
  exact all c hc h
section
variable {P : Program} {w : World} {K : PySem.W.Frag} {mg : Str → Option Value} {base : Heap}
theorem ok_hexed (T : Txt K mg) : Own P w K mg base CX0 2 "hexed" ["image"] spHexed := own_of T.hexed fun f fd F => by
  have G1 := ok_check_image (P := P) (w := w) (base := base) T
  refine F.ok scHexed (fun vs H Q E h => ?_) (fun cdv A outer s H vs Q E hr h => ?_)
  · obtain ⟨ns, rfl, _⟩ := h
    rfl
  · obtain ⟨ns, rfl, hI, q⟩ := h
    refine ⟨_, pss_cons (ps_expr (pe_own G1 hr pass0 (pa_cons (pv 0) pa_nil))) (pss_one (ps_ret (pe_hexB (pv 0)))), ?_⟩
    have := hI.hi
    exact ⟨_, rfl, ns, rfl, hI, _, rfl, ns, rfl, hI.b8, by omega, q _ (Ex.refl _)⟩
theorem ok_of_hex (T : Txt K mg) : Own P w K mg base CX0 1 "of_hex" ["text"] spOfHex := own_of T.ofHex fun f fd F => by
  refine F.ok scOfHex (fun vs H Q E h => ?_) (fun cdv A outer s H vs Q E hr h => ?_)
  · obtain ⟨ns, rfl, _⟩ := h
    rfl
  · obtain ⟨ns, rfl, hI, q⟩ := h
    have h1 := hI.lo
    have h2 := hI.hi
    have hl : (hxS ns).length = 2 * ns.length := by
      show (hxL ns).toArray.size = _
      rw [List.size_toArray, hxL_len]
    have hl' : (hxS ns).cps.size = 2 * ns.length := hl
    refine ⟨_, pss_cons (ps_if (PW.pt (pw_or (pt_not (pt_val (pe_callB call_isi (by rfl) T.isinstance (by decide +kernel) (pa_cons (pv 0) (pa_cons (pe_ty (n := "str") T.str (by decide +kernel)) pa_nil)))))
        (pw_or (pt_cmpR op_ne (pe_op op_mod (pe_callB call_len_str (by rfl) T.len PySem.boot_len (pa_cons (pv 0) pa_nil)) pe_int) pe_int (nomark _))
        (pw_or1 (pt_not (pt_val (pe_callB (cr_all rfl) (by rfl) T.all (by decide +kernel) (pa_cons (pe_lc (own := [("sign", 2)]) (g := gName 2) (tt := tYes) rfl scOfHex.nd (pi_str (pv 0)) (blkOk_by (N := nOfHex) (sc := defScope sOfHex) (by decide +kernel))
          (fun _ _ _ _ _ => pg_name (i := 2) scOfHex.nd rfl (Or.inl rfl)) (fun _ _ _ _ _ => pts_nil) (fun _ _ _ _ _ => pe_cmpR op_in_sign (pv 2) (pe_op op_add_str (pe_cstr T.figures) pe_str) (by rfl))) pa_nil))))))))
        (pss_one ps_never) pss_nil)
      (pss_cons (ps_set (i := 1) scOfHex.nd rfl (.inl rfl) (pe_fromhex T.bytes (pv 0)))
      (pss_cons (ps_if (pt_not (pt_chain op_le op_le pe_int (pe_callB call_lenB (by rfl) T.len PySem.boot_len (pa_cons (pv 1) pa_nil)) pe_int)) (pss_one ps_never) pss_nil)
      (pss_one (ps_ret (pv 1))))), ?_⟩
    refine ⟨_, rfl, _, _, _, _, true, rfl, .ty "str", .base (.str _), kit_ty (by decide +kernel), true, rfl, iteF ?_⟩
    refine ⟨_, rfl, _, rfl, by rw [hl, sizeLine_eq]; omega, _, _, rfl, rfl, (by show (0 : Int) < 2; decide), rfl, _, rfl, ?_⟩
    rw [decide_eq_true (show V.int (((hxS ns).length : Nat) % 2 : Int) = V.int 0 by rw [hl]; congr 1; omega)]
    refine iteF ⟨_, rfl, _, rfl, fun D hD => ?_⟩
    refine lc_name walk_str _ (fun i => .bl true) y_str (fun _ => rfl) (by rw [hl', sizeLine_eq]; omega) hD (fun _ _ => True.intro) ?_ ?_
    · intro i H' hi e Q q
      refine ⟨_, rfl, "0123456789", "abcdef", rfl, rfl, by decide, _, _, rfl, rfl, ?_⟩
      have hc : (hxS ns).cps.toList.getD i 0 ∈ (("0123456789" : Str) ++ "abcdef").cps.toList := by
        refine hx_in _ (hxL_digit hI.b8 _ ?_)
        show (hxL ns).getD i 0 ∈ hxL ns
        have hi' : i < (hxL ns).length := by rw [hxL_len]; omega
        rw [List.getD_eq_getElem?_getD, List.getElem?_eq_getElem hi']
        exact List.getElem_mem hi'
      rw [decide_eq_true hc]
      exact q _ (Ex.refl _)
    · intro H1 e1 hl1
      refine ⟨D, (List.range (hxS ns).cps.size).map fun _ => true, rfl, SqL.of ?_, true, ?_, iteF ?_⟩
      · rw [hl1, List.map_map]
        rfl
      · congr 1
        rw [List.all_map, List.all_eq_true]
        intro x _
        rfl
      refine ⟨_, rfl, ns, hI.b8, by omega, rfl, ?_⟩
      refine ⟨_, rfl, ns, rfl, by omega, _, _, rfl, rfl, _, rfl, ?_⟩
      rw [decide_eq_true (show (1 : Int) ≤ (ns.length : Int) by omega)]
      exact iteT ⟨_, _, rfl, rfl, true, congrArg V.bl (decide_eq_true (show (ns.length : Int) ≤ 2000 by omega)), iteF ⟨_, rfl, q _ e1⟩⟩
theorem ok_pairs_text (T : Txt K mg) : Own P w K mg base CX0 1 "pairs_text" ["some"] spPairsText := own_of T.pairsText fun f fd F => by
  refine F.ok scPairsText (fun vs H Q E h => ?_) (fun cdv A outer s H vs Q E hr h => ?_)
  · obtain ⟨l, rfl, _⟩ := h
    rfl
  · obtain ⟨l, rfl, h8, hl, q⟩ := h
    refine ⟨_, pss_one (ps_ret (pe_join pe_str (pe_lc (own := [("one", 1)]) (g := gName 1) (tt := tYes) rfl scPairsText.nd (pi_byt (pv 0)) (blkOk_by (N := nPairsText) (sc := defScope sPairsText) (by decide +kernel))
          (fun _ _ _ _ _ => pg_name (i := 1) scPairsText.nd rfl (Or.inl rfl)) (fun _ _ _ _ _ => pts_nil) (fun _ _ _ _ _ => pe_hexB (pe_callTy (r := rBytesL K) (call_bytes_list rfl) (by rfl) T.bytes (by decide +kernel) (pa_cons (pe_lst (pa_cons (pv 1) pa_nil)) pa_nil)))))), ?_⟩
    have hz1 : 1 ≤ sizeLine := by decide
    refine ⟨⟨_, rfl⟩, _, rfl, _, rfl, fun D hD => ?_⟩
    refine lc_name (walk_byt h8) _ (fun i => .str (hx (l.getD i 0))) y_int (fun _ => rfl) (by rw [sizeLine_eq]; omega) hD (fun _ _ => True.intro) ?_ ?_
    · intro i H' hi e Q q
      have hg : l[i]? = some (l.getD i 0) := by
        rw [List.getD_eq_getElem?_getD, List.getElem?_eq_getElem hi]
        rfl
      have hb := h8 _ (List.mem_of_getElem? hg)
      refine ⟨_, rfl, hz1, fun p hp => ?_⟩
      have b1 : B8 [l.getD i 0] := fun n hn => by
        rw [List.mem_singleton.mp hn]
        exact hb
      refine ⟨p, [l.getD i 0], rfl, SqL.of upd_same, b1, [l.getD i 0], rfl, b1, by show 1 ≤ 1000000; decide, ?_⟩
      exact q _ (Ex.new hp)
    · intro H' e hl'
      refine ⟨_, D, l.map hx, rfl, rfl, .inl (SqL.of ?_), ?_, q _ e⟩
      · rw [hl', map_range_getD (fun i => V.str (hx i)) 0 l, List.map_map]
        rfl
      · have h1 : ((l.map hx).map (·.length)).sum ≤ 2 * (l.map hx).length := sum_le fun x hx' => by
          obtain ⟨i, hi, rfl⟩ := List.mem_map.mp hx'
          exact Nat.le_of_eq (hx_len i)
        rw [List.length_map] at h1
        rw [List.length_map]
        have : (" " : Str).length = 1 := by decide +kernel
        rw [this]
        omega
theorem wordsT_take {r : List It} {i : Nat} (h : i < r.length) : (r.take (i + 1)).flatMap itT = (r.take i).flatMap itT ++ itT (r.getD i (.n 0)) := by
  rw [take_snoc (.n 0) h, List.flatMap_append]
  simp
theorem ok_words_text (T : Txt K mg) : Own P w K mg base CX0 1 "words_text" ["row"] (spWordsText K) := own_of T.wordsText fun f fd F => by
  refine F.ok scWordsText (fun vs H Q E h => ?_) (fun cdv A outer s H vs Q E hr h => ?_)
  · obtain ⟨d, v, rfl, _⟩ := h
    rfl
  · obtain ⟨d, v, rfl, hR, hD, q⟩ := h
    obtain ⟨a, vs, rfl, hS, hits⟩ := hR
    obtain ⟨hok, hlen⟩ := row_ok hD
    refine ⟨_, pss_cons (ps_set (i := 1) scWordsText.nd rfl (.inl rfl) (pe_lst pa_nil))
      (pss_cons (ps_for PassesOwn.never rfl (pi_tup (pv 0)) (pg_name (i := 2) scWordsText.nd rfl (Or.inl rfl))
        (pss_one (ps_expr (pe_bm PySem.F.plainAttrs_list PySem.F.slot_list_extend PySem.F.type_list_extend mt_extend (pv 1) (pa_cons (pe_ifExp (pt_val (pe_callB call_isi (by rfl) T.isinstance (by decide +kernel) (pa_cons (pv 2) (pa_cons (pe_ty (n := "tuple") T.tuple (by decide +kernel)) pa_nil))))
          (pe_lc (own := [("one", 3)]) (g := gName 3) (tt := tYes) rfl scWordsText.nd (pi_tup (pv 2)) (blkOk_by (N := nWordsText) (sc := defScope sWordsText) (by decide +kernel))
            (fun _ _ _ _ _ => pg_name (i := 3) scWordsText.nd rfl (Or.inl rfl)) (fun _ _ _ _ _ => pts_nil) (fun _ _ _ _ _ => pe_callTy call_str2 (by rfl) T.str (by decide +kernel) (pa_cons (pv 3) pa_nil)))
          (pe_lst (pa_cons (pe_callTy call_str2 (by rfl) T.str (by decide +kernel) (pa_cons (pv 2) pa_nil)) pa_nil))) pa_nil)))))
      (pss_one (ps_ret (pe_join pe_str (pv 1))))), ?_⟩
    have hz0 : 0 ≤ sizeLine := by decide
    have hz1 : 1 ≤ sizeLine := by decide
    refine ⟨hz0, fun l hl => ?_⟩
    refine ⟨_, rfl, a, rfl, ⟨_, ex_t (Ex.new hl) hS⟩, ?_⟩
    have hvl : (rowOf d).length = vs.length := hits.length
    refine for_it (walk_tup (xs := vs)) (fun i σ H' => Ex H H' ∧ ∃ o2, H' l = some (.lst ((((rowOf d).take i).flatMap itT).map V.str)) ∧ σ = [some (.ref a), some (.ref l), o2, none])
      ⟨Ex.new hl, none, upd_same, rfl⟩ (fun i σ H' _ h => ex_t h.1 hS) ?_ ?_
    · intro i x σ H1 H2 hi h y
      obtain ⟨e1, o2, hl1, rfl⟩ := h
      obtain ⟨rfl, hx⟩ := y
      have hi' : i < (rowOf d).length := by omega
      have hg : (rowOf d)[i]? = some ((rowOf d).getD i (.n 0)) := by
        rw [List.getD_eq_getElem?_getD, List.getElem?_eq_getElem hi']
        rfl
      obtain ⟨x', hx', hit⟩ := paired_at hits hg
      rw [hx] at hx'
      obtain rfl := Option.some.inj hx'
      have hoki := hok _ (List.mem_of_getElem? hg)
      have htk := wordsT_take hi'
      have hfl := (flat_ok (r := (rowOf d).take i) fun it h => hok it (List.mem_of_mem_take h)).1
      have htl : ((rowOf d).take i).length ≤ 3 := by rw [List.length_take]; omega
      have hlH : H l = none := hl
      generalize (rowOf d).getD i (.n 0) = it at htk hit hoki
      refine ⟨_, rfl, .inl ⟨rfl, _, SqL.of hl1⟩, ?_⟩
      -- behind the new list
      have fin : ∀ H3 p, Ex H2 H3 → H3 p = some (.lst ((itT it).map V.str)) → rExtend (.ref l) [.ref p] H3 fun _ H4 => Ex H H4 ∧ ∃ o2, H4 l = some (.lst ((((rowOf d).take (i + 1)).flatMap itT).map V.str)) ∧ [some (.ref a), some (.ref l), some x, none] = [some (.ref a), some (.ref l), o2, none] := fun H3 p e3 hp => by
        refine ⟨l, p, _, _, rfl, rfl, e3 _ _ hl1, hp, ?_, Ex.mut (e1.trans e3) hlH, some x, ?_, rfl⟩
        · rw [List.length_map, List.length_map, sizeLine_eq]
          have := (itT_ok hoki).1
          omega
        · rw [upd_same, htk, List.map_append]
      cases it with
      | s z =>
        obtain rfl : x = .str z := hit
        refine ⟨_, rfl, _, _, _, _, false, rfl, .ty "tuple", .base (.str z), kit_ty (by decide +kernel), false, rfl, iteF ?_⟩
        refine ⟨_, rfl, .inr ⟨z, rfl, hz1, fun p hp => fin _ p (Ex.new hp) upd_same⟩⟩
      | n j =>
        obtain rfl : x = .int j := hit
        refine ⟨_, rfl, _, _, _, _, false, rfl, .ty "tuple", .base (.int j), kit_ty (by decide +kernel), false, rfl, iteF ?_⟩
        refine ⟨_, rfl, .inl ⟨j, rfl, ?_, hz1, fun p hp => fin _ p (Ex.new hp) upd_same⟩⟩
        have h1 := hoki.1
        have h2 := hoki.2
        exact log_ok (by omega)
      | t js =>
        obtain ⟨b, rfl, hb⟩ := hit
        have hb2 := ex_t e1 hb
        refine ⟨_, rfl, _, _, _, _, true, rfl, .ty "tuple", ty_tup hb2, kit_ty (by decide +kernel), true, rfl, iteT ?_⟩
        refine ⟨_, rfl, b, rfl, ⟨_, hb2⟩, fun D hD => ?_⟩
        have hjl := hoki.1
        refine lc_name (walk_tup (xs := js.map V.int)) _ (fun m => .str (numT (js.getD m 0))) y_at (fun _ => rfl) (by rw [List.length_map, sizeLine_eq]; omega) hD (fun H' e => ex_t e hb2) ?_ ?_
        · intro m H' hm e Q q
          rw [List.length_map] at hm
          have hgm : js[m]? = some (js.getD m 0) := by
            rw [List.getD_eq_getElem?_getD, List.getElem?_eq_getElem hm]
            rfl
          have e1 : (js.map V.int).getD m .non = .int (js.getD m 0) := by
            rw [List.getD_eq_getElem?_getD, List.getElem?_map, hgm]
            rfl
          rw [e1]
          have hb3 := hoki.2 _ (List.mem_of_getElem? hgm)
          exact ⟨_, rfl, .inl ⟨_, rfl, log_ok (by omega), q _ (Ex.refl _)⟩⟩
        · intro H' e hl'
          refine fin H' D e ?_
          rw [hl', List.length_map, map_range_getD (fun i => V.str (numT i)) 0 js]
          show _ = some (HO.lst ((js.map numT).map V.str))
          rw [List.map_map]
          rfl
    · intro σ H1 h
      obtain ⟨e1, o2, hl1, rfl⟩ := h
      rw [← hvl, List.take_length] at hl1
      obtain ⟨f1, f2⟩ := flat_ok hok
      refine ⟨⟨_, rfl⟩, _, rfl, _, l, _, rfl, rfl, .inl (SqL.of hl1), ?_, q _ e1⟩
      have h1 := sum_le f2
      have : (" " : Str).length = 1 := by decide +kernel
      rw [this]
      omega
end
end BT
/-! The plain law, 1: the stretches, the rows, their lengths. -/
namespace BT
open PySem L2 TL
/-! ### stretches -/
structure NevOk (u : Nat → Bool) (i : Nat) (l : List (Nat × Nat)) : Prop where
  pw : l.Pairwise fun q r => q.2 < r.1
  ok : ∀ q ∈ l, q.1 < q.2 ∧ q.2 ≤ i ∧ ∀ a, q.1 ≤ a → a < q.2 → u a = false
  cov : ∀ a, a < i → u a = false → ∃ q ∈ l, q.1 ≤ a ∧ a < q.2
  sum : (l.map fun q => q.2 - q.1).sum ≤ i
theorem snoc_cases {α : Type} (l : List α) : l = [] ∨ ∃ l' x, l = l' ++ [x] := by
  by_cases h : l = []
  · exact .inl h
  · exact .inr ⟨l.dropLast, l.getLast h, (List.dropLast_concat_getLast h).symm⟩
theorem NevOk.step {u : Nat → Bool} {i : Nat} {l : List (Nat × Nat)} (h : NevOk u i l) : NevOk u (i + 1) (stretch u l i) := by
  by_cases hu : u i = true
  · rw [stretch_u hu]
    refine ⟨h.pw, fun q hq => ?_, fun a ha hna => ?_, by have := h.sum; omega⟩
    · obtain ⟨h1, h2, h3⟩ := h.ok q hq
      exact ⟨h1, by omega, h3⟩
    · by_cases e : a = i
      · rw [e, hu] at hna
        cases hna
      · exact h.cov a (by omega) hna
  have hu : u i = false := by
    cases hh : u i with
    | true => exact absurd hh hu
    | false => rfl
  -- a new one at the end
  have app : (∀ q ∈ l, q.2 < i) → NevOk u (i + 1) (l ++ [(i, i + 1)]) := fun hl => by
    refine ⟨List.pairwise_append.mpr ⟨h.pw, List.pairwise_singleton .., fun q hq r hr => ?_⟩, fun q hq => ?_, fun a ha hna => ?_, ?_⟩
    · rw [List.mem_singleton.mp hr]
      exact hl q hq
    · rcases List.mem_append.mp hq with z | z
      · obtain ⟨h1, h2, h3⟩ := h.ok q z
        exact ⟨h1, by omega, h3⟩
      · rw [List.mem_singleton.mp z]
        refine ⟨Nat.lt_succ_self i, Nat.le_refl _, fun a h1 h2 => ?_⟩
        have : a = i := by
          have h1 : i ≤ a := h1
          have h2 : a < i + 1 := h2
          omega
        rw [this]
        exact hu
    · by_cases e : a = i
      · exact ⟨(i, i + 1), List.mem_append_right _ (List.mem_singleton.mpr rfl), by rw [e]; exact Nat.le_refl i, by rw [e]; exact Nat.lt_succ_self i⟩
      · obtain ⟨q, hq, h1⟩ := h.cov a (by omega) hna
        exact ⟨q, List.mem_append_left _ hq, h1⟩
    · rw [List.map_append, List.sum_append]
      have := h.sum
      show _ + ((i + 1 - i) + 0) ≤ i + 1
      omega
  rcases snoc_cases l with rfl | ⟨acc, ⟨b, e⟩, rfl⟩
  · rw [stretch_nil hu]
    exact app fun q hq => by cases hq
  · obtain ⟨o1, o2, o3⟩ := h.ok (b, e) (List.mem_append_right _ (List.mem_singleton.mpr rfl))
    have o1 : b < e := o1
    have o2 : e ≤ i := o2
    have hpw := List.pairwise_append.mp h.pw
    by_cases he : e = i
    · subst he
      rw [stretch_join hu]
      refine ⟨List.pairwise_append.mpr ⟨hpw.1, List.pairwise_singleton .., fun q hq r hr => ?_⟩, fun q hq => ?_, fun a ha hna => ?_, ?_⟩
      · rw [List.mem_singleton.mp hr]
        exact hpw.2.2 q hq (b, e) (List.mem_singleton.mpr rfl)
      · rcases List.mem_append.mp hq with z | z
        · obtain ⟨h1, h2, h3⟩ := h.ok q (List.mem_append_left _ z)
          exact ⟨h1, by omega, h3⟩
        · rw [List.mem_singleton.mp z]
          refine ⟨by show b < e + 1; omega, Nat.le_refl _, fun a h1 h2 => ?_⟩
          by_cases ea : a = e
          · rw [ea]
            exact hu
          · exact o3 a h1 (by have h2 : a < e + 1 := h2; show a < e; omega)
      · by_cases ea : a = e
        · exact ⟨(b, e + 1), List.mem_append_right _ (List.mem_singleton.mpr rfl), by show b ≤ a; omega, by show a < e + 1; omega⟩
        · obtain ⟨q, hq, h1, h2⟩ := h.cov a (by omega) hna
          rcases List.mem_append.mp hq with z | z
          · exact ⟨q, List.mem_append_left _ z, h1, h2⟩
          · rw [List.mem_singleton.mp z] at h1 h2
            exact ⟨(b, e + 1), List.mem_append_right _ (List.mem_singleton.mpr rfl), h1, by have h2 : a < e := h2; show a < e + 1; omega⟩
      · have := h.sum
        rw [List.map_append, List.sum_append] at this
        have this : (acc.map fun q => q.2 - q.1).sum + ((e - b) + 0) ≤ e := this
        rw [List.map_append, List.sum_append]
        show (acc.map fun q => q.2 - q.1).sum + ((e + 1 - b) + 0) ≤ e + 1
        omega
    · rw [stretch_new hu he]
      refine app fun q hq => ?_
      rcases List.mem_append.mp hq with z | z
      · have h1 : q.2 < b := hpw.2.2 q z (b, e) (List.mem_singleton.mpr rfl)
        omega
      · rw [List.mem_singleton.mp z]
        show e < i
        omega
theorem nevTo_ok (ns : List Int) : ∀ i, NevOk (used ns) i (nevTo ns i)
  | 0 => ⟨List.Pairwise.nil, (fun q h => by cases h), (fun a h => by omega), Nat.le_refl _⟩
  | i + 1 => by
    rw [nevTo_succ]
    exact (nevTo_ok ns i).step
theorem never_ok (ns : List Int) : NevOk (used ns) ns.length (neverL ns) := nevTo_ok ns ns.length
theorem never_len (ns : List Int) : (neverL ns).length ≤ ns.length := nevTo_len ns ns.length
/-! ### a place is told once -/
theorem many_pos {ns : List Int} {p : Nat} (h : p < ns.length) : 0 < manyOf ns p := by
  unfold manyOf
  cases hd : dec ns p with
  | out0 =>
    unfold dec at hd
    rw [if_neg (by omega)] at hd
    split at hd
    · cases hd
    · split at hd
      · cases hd
      · split at hd <;> cases hd
  | out1 => exact Nat.one_pos
  | bad => exact Nat.one_pos
  | op k ts =>
    show 0 < need k ns p
    unfold need
    split <;> omega
theorem used_of {ns : List Int} {p a : Nat} (h : p ∈ reachL ns) (h1 : p ≤ a) (h2 : a < p + manyOf ns p) : used ns a = true := by
  unfold used
  refine List.any_eq_true.mpr ⟨p, h, ?_⟩
  rw [decide_eq_true h1, decide_eq_true h2]
  rfl
theorem never_firsts (ns : List Int) : ((neverL ns).map (·.1)).Nodup := by
  have h := never_ok ns
  have h2 : (neverL ns).Pairwise fun q r => q.1 < r.1 := by
    refine h.pw.imp_of_mem ?_
    intro q r hq _ hqr
    have := (h.ok q hq).1
    omega
  exact List.pairwise_map.mpr (h2.imp fun z => Nat.ne_of_lt z)
theorem ents_nodup (ns : List Int) : ((ents ns).map (·.1)).Nodup := by
  unfold ents
  rw [List.map_append, List.map_map, List.map_map]
  have e1 : (reachL ns).map ((fun e : Nat × Nat × Str => e.1) ∘ fun p => (p, 1, insT ns p)) = reachL ns := by
    show (reachL ns).map (fun p => p) = _
    exact List.map_id' _
  have e2 : (neverL ns).map ((fun e : Nat × Nat × Str => e.1) ∘ fun q => (q.1, 0, nevT ns q)) = (neverL ns).map (·.1) := rfl
  rw [e1, e2]
  refine List.nodup_append.mpr ⟨reachL_nodup ns, never_firsts ns, fun a ha b hb => ?_⟩
  obtain ⟨q, hq, rfl⟩ := List.mem_map.mp hb
  obtain ⟨h1, h2, h3⟩ := (never_ok ns).ok q hq
  intro e
  subst e
  have h4 := used_of ha (Nat.le_refl _) (by have := many_pos (ns := ns) (p := q.1) (by omega); omega)
  rw [h3 q.1 (Nat.le_refl _) h1] at h4
  cases h4
/-! ### sorted by the place -/
theorem sort_uniq {α : Type} {es fs : List (Nat × α)} (hn : (es.map (·.1)).Nodup) (hp : fs.Perm es) (hs : fs.Pairwise fun a b => a.1 ≤ b.1) : fs = es.mergeSort fun a b => decide (a.1 ≤ b.1) := by
  have hp2 : (es.mergeSort fun a b => decide (a.1 ≤ b.1)).Perm es := List.mergeSort_perm ..
  have hs2 : (es.mergeSort fun a b => decide (a.1 ≤ b.1)).Pairwise fun a b => decide (a.1 ≤ b.1) = true := List.pairwise_mergeSort (fun a b c h1 h2 => by simp at *; omega) (fun a b => by simp; omega) es
  refine List.Perm.eq_of_pairwise (le := fun a b => a.1 ≤ b.1) (fun a b ha hb h1 h2 => ?_) hs (hs2.imp fun h => of_decide_eq_true h) (hp.trans hp2.symm)
  have ha' : a ∈ es := hp.mem_iff.mp ha
  have hb' : b ∈ es := hp2.mem_iff.mp hb
  have e : a.1 = b.1 := Nat.le_antisymm h1 h2
  obtain ⟨i, hi, ei⟩ := List.getElem_of_mem ha'
  obtain ⟨j, hj, ej⟩ := List.getElem_of_mem hb'
  have hn2 : es.Pairwise fun a b => a.1 ≠ b.1 := List.pairwise_map.mp hn
  have hn3 := List.pairwise_iff_getElem.mp hn2
  rcases Nat.lt_trichotomy i j with h | h | h
  · have := hn3 i j hi hj h
    rw [ei, ej] at this
    exact absurd e this
  · subst h
    rw [← ei, ← ej]
  · have := hn3 j i hj hi h
    rw [ei, ej] at this
    exact absurd e.symm this
/-! ### lengths -/
theorem joinL_len (S : List Nat) : ∀ ps : List (List Nat), (joinL S ps).length ≤ (ps.map (·.length)).sum + ps.length * S.length
  | [] => by simp [joinL]
  | [a] => by simp [joinL]
  | a :: b :: r => by
    have ih := joinL_len S (b :: r)
    show (a ++ (S ++ joinL S (b :: r))).length ≤ _
    rw [List.length_append, List.length_append, List.map_cons, List.sum_cons, List.length_cons, Nat.succ_mul]
    omega
theorem join_len (y : Str) (l : List Str) : (Txt.join y l).length ≤ (l.map (·.length)).sum + l.length * y.length := by
  rw [len_tl, join_eq, tl_join]
  refine Nat.le_trans (joinL_len _ _) ?_
  rw [List.map_map, List.length_map, len_tl y]
  have : (l.map ((fun x => x.length) ∘ tl)) = l.map (·.length) := List.map_congr_left fun x _ => (len_tl x).symm
  rw [this]
  exact Nat.le_refl _
theorem pairsT_len (l : List Int) : (pairsT l).length ≤ 3 * l.length := by
  unfold pairsT
  have h1 := join_len " " (l.map hx)
  have h2 : ((l.map hx).map (·.length)).sum ≤ 2 * (l.map hx).length := sum_le fun x hx' => by
    obtain ⟨i, hi, rfl⟩ := List.mem_map.mp hx'
    exact Nat.le_of_eq (hx_len i)
  rw [List.length_map] at h1 h2
  have h3 : (" " : Str).length = 1 := by decide +kernel
  rw [h3] at h1
  omega
def wid (c : Nat) : Nat := if c = 116 then 255 else 1
theorem fits_words : ∀ {cs : List Nat} {ts : List It}, Fits cs ts → (ts.flatMap itT).length ≤ (cs.map wid).sum
  | _, _, .nil => Nat.le_refl _
  | _, _, .cons (a := c) (b := it) hf t => by
    have ih := fits_words t
    rw [List.flatMap_cons, List.length_append, List.map_cons, List.sum_cons]
    have : (itT it).length ≤ wid c := by
      unfold wid
      cases it with
      | s x => exact hf.elim
      | n i =>
        show 1 ≤ _
        split <;> omega
      | t l =>
        rw [if_pos hf.1]
        show (l.map numT).length ≤ 255
        rw [List.length_map]
        exact hf.2
    omega
theorem sg_wid : ∀ k, k < 21 → ((sgc k).map wid).sum ≤ 256 := by decide +kernel
theorem words_count {d : Dec} (hD : DecOk d) : ((rowOf d).flatMap itT).length ≤ 257 := by
  cases d with
  | out0 => decide
  | out1 => decide
  | bad => decide
  | op k ts =>
    have h1 := fits_words hD.2.1
    have h2 := sg_wid k hD.1
    show (wd k :: ts.flatMap itT).length ≤ 257
    rw [List.length_cons]
    omega
theorem wordsT_len {d : Dec} (hD : DecOk d) : (wordsT (rowOf d)).length ≤ 2827 := by
  obtain ⟨hok, hlen⟩ := row_ok hD
  obtain ⟨f1, f2⟩ := flat_ok hok
  have f3 := words_count hD
  unfold wordsT
  have h1 := join_len " " ((rowOf d).flatMap itT)
  have h2 := sum_le f2
  have h3 : (" " : Str).length = 1 := by decide +kernel
  rw [h3] at h1
  omega
theorem sub_len (ns : List Int) (a b : Nat) : (sub ns a b).length ≤ b - a := by
  unfold sub
  rw [List.length_take]
  omega
theorem str_app_len (x y : Str) : (x ++ y).length = x.length + y.length := by
  rw [len_tl, tl_append, List.length_append, ← len_tl, ← len_tl]
theorem need_le {ns : List Int} (h8 : B8 ns) {k p : Nat} (hk : k < 21) : need k ns p ≤ 513 := by
  have hw : ∀ k, k < 21 → widths (sgc k) ≤ 4 := by decide +kernel
  have := hw k hk
  have g8 := g_b8' h8 (p + 2)
  unfold need
  split
  · split <;> omega
  · omega
theorem many_513 {ns : List Int} (h8 : B8 ns) (p : Nat) : manyOf ns p ≤ 513 := by
  have hD := dec_ok h8 p
  unfold manyOf
  cases hd : dec ns p with
  | out0 => show 0 ≤ 513; decide
  | out1 => show 1 ≤ 513; decide
  | bad => show 1 ≤ 513; decide
  | op k ts =>
    rw [hd] at hD
    exact need_le h8 hD.1
theorem colon_len : (" : " : Str).length = 3 ∧ (" : : " : Str).length = 5 ∧ ("\n" : Str).length = 1 := by decide +kernel
theorem insT_len {ns : List Int} (hI : Img ns) {p : Nat} (hp : p ≤ 70000) : (insT ns p).length ≤ 4377 := by
  have h1 := num_len (i := (p : Int)) (by omega) (by omega)
  have h2 := wordsT_len (dec_ok hI.b8 p)
  have h3 := many_513 hI.b8 p
  have h4 := pairsT_len (sub ns p (p + manyOf ns p))
  have h5 := sub_len ns p (p + manyOf ns p)
  obtain ⟨c1, c2, c3⟩ := colon_len
  unfold insT
  rw [str_app_len, str_app_len]
  have : (midT ns p).length ≤ 1545 := by
    unfold midT
    split
    · rw [str_app_len, str_app_len, c1]
      omega
    · rw [c2]
      omega
  omega
theorem fall_len : (wordsT (rowOf .out0)).length = 8 := by decide +kernel
theorem insT_out {ns : List Int} {p : Nat} (h : ns.length ≤ p) (hp : p ≤ 70000) : (insT ns p).length ≤ 18 := by
  have h1 := num_len (i := (p : Int)) (by omega) (by omega)
  have e : dec ns p = .out0 := by
    unfold dec
    rw [if_pos h]
  have e2 : manyOf ns p = 0 := by
    unfold manyOf
    rw [e]
  obtain ⟨c1, c2, c3⟩ := colon_len
  unfold insT midT
  rw [e2, if_neg (by omega), str_app_len, str_app_len, c2, e, fall_len]
  omega
theorem sum_two {ns : List Int} (hI : Img ns) : ∀ l : List Nat, (∀ p ∈ l, p ≤ 70000) → (l.map fun p => (insT ns p).length).sum ≤ 18 * l.length + 4377 * (l.filter fun p => decide (p < ns.length)).length
  | [], _ => Nat.le_refl _
  | p :: r, h => by
    have ih := sum_two hI r fun q hq => h q (List.mem_cons_of_mem _ hq)
    have hp := h p (List.mem_cons_self ..)
    rw [List.map_cons, List.sum_cons, List.length_cons, List.filter_cons, Nat.mul_succ]
    by_cases hl : p < ns.length
    · rw [if_pos (decide_eq_true hl), List.length_cons, Nat.mul_succ]
      have := insT_len hI hp
      omega
    · rw [if_neg (by simpa using hl)]
      have := insT_out (ns := ns) (p := p) (by omega) hp
      omega
theorem reach_sum {ns : List Int} (hI : Img ns) : ((reachL ns).map fun p => (insT ns p).length).sum ≤ 10014000 := by
  have h1 := sum_two hI (reachL ns) fun p hp => Nat.le_of_lt (reach_lt hI ((mem_reachL hI).mp hp))
  have h2 := reachL_len hI
  have h3 : ((reachL ns).filter fun p => decide (p < ns.length)).length ≤ ns.length := by
    refine nodup_lt_length ((reachL_nodup ns).filter _) fun p hp => ?_
    simpa using (List.mem_filter.mp hp).2
  have h4 := hI.hi
  have h5 : 4377 * ((reachL ns).filter fun p => decide (p < ns.length)).length ≤ 4377 * 2000 := Nat.mul_le_mul_left _ (by omega)
  omega
theorem nevT_len {ns : List Int} (hI : Img ns) {q : Nat × Nat} (h : q.2 ≤ ns.length) (h1 : q.1 < q.2) : (nevT ns q).length ≤ 8 + 3 * (q.2 - q.1) := by
  have hl := hI.hi
  have h1 := num_len (i := (q.1 : Int)) (by omega) (by omega)
  have h4 := pairsT_len (sub ns q.1 q.2)
  have h5 := sub_len ns q.1 q.2
  obtain ⟨c1, c2, c3⟩ := colon_len
  unfold nevT
  rw [str_app_len, str_app_len, c1]
  omega
theorem sum_nev {ns : List Int} (hI : Img ns) : ∀ l : List (Nat × Nat), (∀ q ∈ l, q.1 < q.2 ∧ q.2 ≤ ns.length) → (l.map fun q => (nevT ns q).length).sum ≤ 8 * l.length + 3 * (l.map fun q => q.2 - q.1).sum
  | [], _ => Nat.le_refl _
  | q :: r, h => by
    have ih := sum_nev hI r fun q hq => h q (List.mem_cons_of_mem _ hq)
    have hq := h q (List.mem_cons_self ..)
    have := nevT_len hI hq.2 hq.1
    rw [List.map_cons, List.sum_cons, List.length_cons, List.map_cons, List.sum_cons, Nat.mul_succ, Nat.mul_add]
    omega
theorem never_sum {ns : List Int} (hI : Img ns) : ((neverL ns).map fun q => (nevT ns q).length).sum ≤ 22000 := by
  have h := never_ok ns
  have h1 := sum_nev hI (neverL ns) fun q hq => ⟨(h.ok q hq).1, (h.ok q hq).2.1⟩
  have h2 := h.sum
  have h3 := never_len ns
  have h4 := hI.hi
  omega
theorem perm_sum : ∀ {l m : List Nat}, l.Perm m → l.sum = m.sum := fun h => h.sum_nat
theorem rows_sum {ns : List Int} (hI : Img ns) : ((rowsL ns).map (·.length)).sum ≤ 10036000 ∧ (rowsL ns).length ≤ 72000 := by
  have hp : ((ents ns).mergeSort fun a b => decide (a.1 ≤ b.1)).Perm (ents ns) := List.mergeSort_perm ..
  constructor
  · unfold rowsL
    rw [List.map_map]
    rw [((hp.map ((fun x : Str => x.length) ∘ fun e : Nat × Nat × Str => e.2.2))).sum_nat]
    unfold ents
    rw [List.map_append, List.sum_append, List.map_map, List.map_map]
    have h1 := reach_sum hI
    have h2 := never_sum hI
    show ((reachL ns).map fun p => (insT ns p).length).sum + ((neverL ns).map fun q => (nevT ns q).length).sum ≤ _
    omega
  · unfold rowsL
    rw [List.length_map, hp.length_eq]
    unfold ents
    rw [List.length_append, List.length_map, List.length_map]
    have h1 := reachL_len hI
    have h2 := never_len ns
    have := hI.hi
    omega
theorem lines_sum : ∀ rows : List Str, ((rows.map fun r => r ++ ("\n" : Str)).map (·.length)).sum = (rows.map (·.length)).sum + rows.length
  | [] => rfl
  | r :: rs => by
    obtain ⟨c1, c2, c3⟩ := colon_len
    rw [List.map_cons, List.map_cons, List.sum_cons, lines_sum rs, str_app_len, c3, List.map_cons, List.sum_cons, List.length_cons]
    omega
theorem textOf_len (rows : List Str) : (textOf rows).length ≤ (rows.map (·.length)).sum + rows.length := by
  unfold textOf
  have h := join_len "" (rows.map fun r => r ++ ("\n" : Str))
  have h3 : ("" : Str).length = 0 := by decide +kernel
  rw [lines_sum, h3] at h
  omega
end BT
/-! The walk, 11: listing_rows, listing. -/
namespace BT
open PySem PySem.Spec PyProof.Rows L2 Evl TL
/-- b[a:b] -/
theorem byteArr_sub {ns : List Int} {a b : Nat} (h1 : a ≤ ns.length) (h2 : b ≤ ns.length) : PySem.W.KBy.picked (byteArr ns) (some (a : Int)) (some (b : Int)) = byteArr (sub ns a b) := by
  rw [PySem.W.KBc.picked_eq]
  show (((byteArr ns).toList.drop (clipAt (byteArr ns).size (a : Int))).take (clipAt (byteArr ns).size (b : Int) - clipAt (byteArr ns).size (a : Int))).toArray = _
  rw [clipAt_nat, clipAt_nat, byteArr_size, Nat.min_eq_left h1, Nat.min_eq_left h2]
  unfold byteArr sub
  show (((ns.map _).drop a).take (b - a)).toArray = (((ns.drop a).take (b - a)).map _).toArray
  rw [List.map_take, List.map_drop]
theorem sub_b8 {ns : List Int} (h : B8 ns) (a b : Nat) : B8 (sub ns a b) := fun n hn => h n (List.mem_of_mem_drop (List.mem_of_mem_take hn))
/-! ### the rows in the heap -/
def EntAt (H : Hp) (es : List (Nat × Nat × Str)) (xs : List V) : Prop := Paired (fun (e : Nat × Nat × Str) (v : V) => ∃ t, v = .ref t ∧ H t = some (.tup [.int (e.1 : Int), .int (e.2.1 : Int), .str e.2.2])) es xs
theorem EntAt.ex {H H' : Hp} (e : Ex H H') : ∀ {es : List (Nat × Nat × Str)} {xs : List V}, EntAt H es xs → EntAt H' es xs
  | _, _, .nil => .nil
  | _, _, .cons h t => by
    obtain ⟨a, rfl, ha⟩ := h
    exact .cons ⟨a, rfl, e _ _ ha⟩ (EntAt.ex e t)
theorem ent_keep {H : Hp} {l : Addr} {o0 o : HO} (h0 : H l = some o0) (n1 : ∀ ys, o0 ≠ .tup ys) : ∀ {es : List (Nat × Nat × Str)} {xs : List V}, EntAt H es xs → EntAt (upd H l o) es xs
  | _, _, .nil => .nil
  | _, _, .cons h t => by
    obtain ⟨a, rfl, ha⟩ := h
    exact .cons ⟨a, rfl, by rw [upd_ne (ne_of ha h0 (fun z => n1 _ (by cases z; rfl)))]; exact ha⟩ (ent_keep h0 n1 t)
def trOf (H : Hp) (v : V) : Nat × Nat × Str := match v with
  | .ref t => (match H t with
    | some (.tup [.int i, .int j, .str z]) => (i.toNat, j.toNat, z)
    | _ => (0, 0, ""))
  | _ => (0, 0, "")
theorem trOf_at {H : Hp} {t : Addr} {e : Nat × Nat × Str} (h : H t = some (.tup [.int (e.1 : Int), .int (e.2.1 : Int), .str e.2.2])) : trOf H (.ref t) = e := by
  simp only [trOf, h, Int.toNat_natCast]
theorem ent_map {H : Hp} : ∀ {es : List (Nat × Nat × Str)} {xs : List V}, EntAt H es xs → xs.map (trOf H) = es
  | _, _, .nil => rfl
  | _, _, .cons h t => by
    obtain ⟨a, rfl, ha⟩ := h
    rw [List.map_cons, trOf_at ha, ent_map t]
theorem ent_mem {H : Hp} : ∀ {es : List (Nat × Nat × Str)} {xs : List V}, EntAt H es xs → ∀ v ∈ xs, ∃ t e, v = .ref t ∧ H t = some (.tup [.int (e.1 : Int), .int (e.2.1 : Int), .str e.2.2]) ∧ trOf H v = e
  | _, _, .nil, _, h => by cases h
  | _, _, .cons h t, v, hv => by
    rcases List.mem_cons.mp hv with z | z
    · obtain ⟨a, e, ha⟩ := h
      subst z
      subst e
      exact ⟨a, _, rfl, ha, trOf_at ha⟩
    · exact ent_mem t v z
theorem mem_sum : ∀ {l : List Str} {x : Str}, x ∈ l → x.length ≤ (l.map (·.length)).sum
  | a :: r, x, h => by
    rw [List.map_cons, List.sum_cons]
    rcases List.mem_cons.mp h with z | z
    · rw [z]
      omega
    · have := mem_sum z
      omega
theorem inj_nodup {α β : Type} {f : α → β} {l : List α} (h : (l.map f).Nodup) {x y : α} (hx : x ∈ l) (hy : y ∈ l) (e : f x = f y) : x = y := by
  obtain ⟨i, hi, ei⟩ := List.getElem_of_mem hx
  obtain ⟨j, hj, ej⟩ := List.getElem_of_mem hy
  have hn3 := List.pairwise_iff_getElem.mp (List.pairwise_map.mp h)
  rcases Nat.lt_trichotomy i j with h | h | h
  · have := hn3 i j hi hj h
    rw [ei, ej] at this
    exact absurd e this
  · subst h
    rw [← ei, ← ej]
  · have := hn3 j i hj hi h
    rw [ei, ej] at this
    exact absurd e.symm this
theorem rows_of {H : Hp} {ns : List Int} {xs ys : List V} (h : EntAt H (ents ns) xs) (hp : ys.Perm xs) (hs : ys.Pairwise fun x y => ((trOf H x).1 : Int) ≤ ((trOf H y).1 : Int)) : ys.map (fun v => (trOf H v).2.2) = rowsL ns := by
  have h1 : (ys.map (trOf H)).Perm (ents ns) := by
    rw [← ent_map h]
    exact hp.map _
  have h2 := sort_uniq (ents_nodup ns) h1 (List.pairwise_map.mpr (hs.imp fun z => by omega))
  unfold rowsL
  rw [← h2, List.map_map]
  rfl
section
variable {P : Program} {w : World} {K : PySem.W.Frag} {mg : Str → Option Value} {base : Heap}
theorem ok_listing_rows (T : Txt K mg) (C : Txc K w mg) : Own P w K mg base CX0 10 "listing_rows" ["image"] spListingRows := own_of T.listingRows fun f fd F => by
  have G1 := ok_reached (P := P) (base := base) T C
  have G2 := ok_row_in (P := P) (base := base) T C
  have G3 := ok_pairs_text (P := P) (w := w) (base := base) T
  have G4 := ok_words_text (P := P) (w := w) (base := base) T
  have G5 := ok_never (P := P) (base := base) T C
  refine F.ok scListingRows (fun vs H Q E h => ?_) (fun cdv A outer s H vs Q E hr h => ?_)
  · obtain ⟨ns, rfl, _⟩ := h
    rfl
  · obtain ⟨ns, rfl, hI, q⟩ := h
    have hr1 : Room 1 _ := hr.mono (by decide)
    have hr5 : Room 5 _ := hr.mono (by decide)
    have hr8 : Room 8 _ := hr.mono (by decide)
    have hns := hI.hi
    refine ⟨_, pss_cons (ps_set (i := 1) scListingRows.nd rfl (.inl rfl) (pe_lst pa_nil))
      (pss_cons (ps_for PassesOwn.never rfl (pi_items (pe_frz (pe_own G1 hr8 pass0 (pa_cons (pv 0) pa_nil)))) (pg_tup rfl (pgs_cons (pg_name (i := 2) scListingRows.nd rfl (Or.inl rfl)) (pgs_cons (pg_name (i := 3) scListingRows.nd rfl (Or.inl rfl)) pgs_nil)))
        (pss_cons (ps_set (i := 4) scListingRows.nd rfl (.inl rfl) (pe_ix ix_tup (pe_own G2 hr5 pass0 (pa_cons (pv 0) (pa_cons (pv 2) pa_nil))) pe_int (fun _ _ => rfl)))
        (pss_cons (ps_set (i := 5) scListingRows.nd rfl (.inl rfl) (pe_ifExp (pt_cmpR op_gt (pv 4) pe_int (nomark _)) (pe_op op_add_str (pe_op op_add_str pe_str (pe_own G3 hr1 pass0 (pa_cons (pe_slice sl_byt (pv 0) (po_some (pv 2)) (po_some (pe_op op_add (pv 2) (pv 4)))) pa_nil))) pe_str) pe_str))
        (pss_one (ps_expr (pe_bm PySem.F.plainAttrs_list PySem.F.slot_list_append PySem.F.type_list_append mt_append (pv 1) (pa_cons (pe_tup (pa_cons (pv 2) (pa_cons pe_int (pa_cons (pe_op op_add_str (pe_op op_add_str (pe_callTy call_str_int (by rfl) T.str (by decide +kernel) (pa_cons (pv 2) pa_nil)) (pv 5)) (pe_own G4 hr1 pass0 (pa_cons (pv 3) pa_nil))) pa_nil)))) pa_nil)))))))
      (pss_cons (ps_for PassesOwn.never rfl (pi_list (pe_own G5 hr pass0 (pa_cons (pv 0) pa_nil))) (pg_tup rfl (pgs_cons (pg_name (i := 6) scListingRows.nd rfl (Or.inl rfl)) (pgs_cons (pg_name (i := 7) scListingRows.nd rfl (Or.inl rfl)) pgs_nil)))
        (pss_one (ps_expr (pe_bm PySem.F.plainAttrs_list PySem.F.slot_list_append PySem.F.type_list_append mt_append (pv 1) (pa_cons (pe_tup (pa_cons (pv 6) (pa_cons pe_int (pa_cons (pe_op op_add_str (pe_op op_add_str (pe_callTy call_str_int (by rfl) T.str (by decide +kernel) (pa_cons (pv 6) pa_nil)) pe_str) (pe_own G3 hr1 pass0 (pa_cons (pe_slice sl_byt (pv 0) (po_some (pv 6)) (po_some (pv 7))) pa_nil))) pa_nil)))) pa_nil)))))
      (pss_one (ps_ret (pe_lc (own := [("place", 2), ("kind", 8), ("row", 3)]) (g := gTup K 3 (gCons (gName 2) (gCons (gName 8) (gCons (gName 3) gNil)))) (tt := tYes) rfl scListingRows.nd (pi_list (pe_callB cr_sorted3 (by rfl) T.sorted (by decide +kernel) (pa_cons (pv 1) pa_nil))) (blkOk_by (N := nListingRows) (sc := defScope sListingRows) (by decide +kernel))
          (fun _ _ _ _ _ => pg_tup rfl (pgs_cons (pg_name (i := 2) scListingRows.nd rfl (Or.inl rfl)) (pgs_cons (pg_name (i := 8) scListingRows.nd rfl (Or.inl rfl)) (pgs_cons (pg_name (i := 3) scListingRows.nd rfl (Or.inl rfl)) pgs_nil)))) (fun _ _ _ _ _ => pts_nil)
          (fun _ _ _ _ _ => pv 3)))))), ?_⟩
    have hz0 : 0 ≤ sizeLine := by decide
    have hz3 : 3 ≤ sizeLine := by decide
    obtain ⟨c1, c2, c3⟩ := colon_len
    refine ⟨hz0, fun l hl => ?_⟩
    have el : Ex H (upd H l (.lst [])) := Ex.new hl
    refine ⟨_, rfl, ns, rfl, hI, fun H1 d kvs e1 hd0 hk hdic => ?_⟩
    refine ⟨d, _, rfl, hk, True.intro, fun od => ⟨d, od, kvs, rfl, upd_same, ?_⟩⟩
    have hdl : l ≠ d := fun z => by
      rw [← z, upd_same] at hd0
      cases hd0
    have hdH : H d = none := by
      rw [upd_ne hdl.symm] at hd0
      exact hd0
    have e2 : Ex H (upd H1 d (.frz od (.dK kvs))) := Ex.mut (el.trans e1) hdH
    have hl2 : upd H1 d (.frz od (.dK kvs)) l = some (.lst []) := by
      rw [upd_ne hdl]
      exact e1 _ _ upd_same
    have hk2 : upd H1 d (.frz od (.dK kvs)) d = some (.frz od (.dK kvs)) := upd_same
    have hdic2 : DicAt K (upd H1 d (.frz od (.dK kvs))) ns (reachL ns) kvs := dic_keepO hk (fun _ z => by cases z) (fun _ _ z => by cases z) hdic
    generalize upd H1 d (.frz od (.dK kvs)) = H2 at e2 hl2 hk2 hdic2 ⊢
    clear hk hdic e1 hd0 el
    have hkl : (reachL ns).length = kvs.length := hdic2.length
    have hrl := reachL_len hI
    refine for_it (walk_items (d := d) (o := od) (kvs := kvs)) (fun i σ H' => ∃ xs o2 o3 o4 o5, Ex H H' ∧ H' d = some (.frz od (.dK kvs)) ∧ DicAt K H' ns (reachL ns) kvs ∧ H' l = some (.lst xs) ∧ EntAt H' (((reachL ns).take i).map fun p => (p, 1, insT ns p)) xs ∧
        σ = [some (.byt (byteArr ns)), some (.ref l), o2, o3, o4, o5, none, none, none])
      ⟨[], none, none, none, none, e2, hk2, hdic2, hl2, .nil, rfl⟩ (fun i σ H' _ h => by obtain ⟨xs, o2, o3, o4, o5, h1, h2, h3⟩ := h; exact h2) ?_ ?_
    · intro i x σ H3 H4 hi h y
      obtain ⟨xs, o2, o3, o4, o5, e3, hk3, hdic3, hl3, hE, rfl⟩ := h
      obtain ⟨T1, kx, vx, rfl, nT, rfl, ex, ey⟩ := y
      have hi' : i < (reachL ns).length := by omega
      have hg : (reachL ns)[i]? = some ((reachL ns).getD i 0) := by
        rw [List.getD_eq_getElem?_getD, List.getElem?_eq_getElem hi']
        rfl
      obtain ⟨⟨ky, vy⟩, hkv, hky, hR⟩ := paired_at hdic3 hg
      dsimp only at ex ey
      rw [hkv] at ex ey
      have ey : vy = vx := Option.some.inj ey
      subst ey
      have hky : ky = Sum.inl (((reachL ns).getD i 0 : Nat) : Int) := hky
      subst hky
      have ex : kV (Sum.inl (((reachL ns).getD i 0 : Nat) : Int)) = kx := Option.some.inj ex
      subst ex
      have hpm := List.mem_of_getElem? hg
      have htake := take_snoc (0 : Nat) hi'
      generalize (reachL ns).getD i 0 = p at htake hpm hR ⊢
      have hpl := reach_lt hI ((mem_reachL hI).mp hpm)
      have eT : Ex H3 (upd H3 T1 (.tup [kV (Sum.inl (p : Int)), vy])) := Ex.new nT
      refine ⟨T1, _, rfl, st_of upd_same, rfl, _, _, rfl, _, _, rfl, rfl, ?_⟩
      have hl4 := eT _ _ hl3
      have hk4 := eT _ _ hk3
      have hdic4 := DicAt.ex eT hdic3
      have hE4 := hE.ex eT
      have hR4 : RowAt K _ (rowOf (dec ns p)) vy := hR.ex eT
      have e4 := e3.trans eT
      generalize upd H3 T1 (.tup [kV (Sum.inl (p : Int)), vy]) = H4 at hl4 hk4 hdic4 hE4 hR4 e4 ⊢
      clear hl3 hk3 hdic3 hE hR eT hkv
      refine ⟨_, rfl, _, rfl, ns, p, rfl, hI, fun H5 t r e5 ht0 ht hR5 => ?_⟩
      refine ⟨t, _, _, _, rfl, rfl, st_of ht, atI_nat (j := 1) rfl, ?_⟩
      have hmany := many_le ns p
      have h513 := many_513 hI.b8 p
      have hnum := num_len (i := (p : Int)) (by omega) (by omega)
      have hwl := wordsT_len (dec_ok hI.b8 p)
      have hpt := pairsT_len (sub ns p (p + manyOf ns p))
      have hsl := sub_len ns p (p + manyOf ns p)
      -- behind the middle
      have fin : ∀ (De : Ends) H6 (mid : Str) (σ' : L2.St), σ' = [some (.byt (byteArr ns)), some (.ref l), some (.int (p : Int)), some vy, some (.int ((manyOf ns p : Nat) : Int)), some (.str mid), none, none, none] → Ex H5 H6 → mid = midT ns p →
          (∀ H7 xs, Ex H H7 → H7 d = some (.frz od (.dK kvs)) → DicAt K H7 ns (reachL ns) kvs → H7 l = some (.lst xs) → EntAt H7 (((reachL ns).take (i + 1)).map fun p => (p, 1, insT ns p)) xs → De.nx σ' H7) →
          tDrop (tBM K "list" rAppend (tVar 1) (tCons (tTup (tCons (tVar 2) (tCons (tC (.int 1)) (tCons (tOp (fun x y H Q => ∃ i j, x = .str i ∧ y = .str j ∧ i.length + j.length ≤ sizeLine ∧ Q (.str (i ++ j)) H) (tOp (fun x y H Q => ∃ i j, x = .str i ∧ y = .str j ∧ i.length + j.length ≤ sizeLine ∧ Q (.str (i ++ j)) H) (tCB (fun xs H Q => ∃ i, xs = [.int i] ∧ i.natAbs.log2 < 1920 ∧ Q (.str (toString i)) H) (tCons (tVar 2) tNil)) (tVar 5)) (tCall (spWordsText K) [] E0 (tCons (tVar 3) tNil))) tNil)))) tNil)) De σ' H6 := fun De H6 mid σ' hσ e6 hmid hD => by
        subst hσ
        have hl6 := e6 _ _ (e5 _ _ hl4)
        have hR6 := (hR4.ex e5).ex e6
        have hmidl : mid.length ≤ 1545 := by
          rw [hmid]
          unfold midT
          split
          · rw [str_app_len, str_app_len, c1]
            omega
          · rw [c2]
            omega
        refine ⟨_, rfl, .inl ⟨rfl, _, SqL.of hl6⟩, _, rfl, _, rfl, _, rfl, log_ok (by omega), _, rfl, _, _, rfl, rfl, ?_, ?_⟩
        · show (numT (p : Int)).length + mid.length ≤ sizeLine
          rw [sizeLine_eq]
          omega
        refine ⟨_, rfl, dec ns p, _, rfl, hR6, dec_ok hI.b8 p, fun H7 e7 => ⟨_, _, rfl, rfl, ?_, ?_⟩⟩
        · show (numT (p : Int) ++ mid).length + _ ≤ sizeLine
          rw [sizeLine_eq, str_app_len]
          omega
        refine ⟨hz3, fun t2 ht2 => ?_⟩
        have hl7 := e7 _ _ hl6
        have e8 : Ex H7 (upd H7 t2 (.tup [.int (p : Int), .int 1, .str (Str.ofString (toString (p : Int)) ++ mid ++ wordsT (rowOf (dec ns p)))])) := Ex.new ht2
        have hl8 := e8 _ _ hl7
        have ee := ((e5.trans e6).trans e7).trans e8
        refine ⟨l, _, _, rfl, rfl, hl8, ?_, ?_⟩
        · have := hE4.length
          rw [List.length_map, List.length_take] at this
          rw [sizeLine_eq]
          omega
        refine hD _ _ (Ex.mut (e4.trans ee) hl) ?_ ?_ upd_same ?_
        · rw [upd_ne hdl.symm]
          exact ee _ _ hk4
        · exact dic_keepO hl8 (fun _ z => by cases z) (fun _ _ z => by cases z) (DicAt.ex ee hdic4)
        · rw [htake, List.map_append]
          refine paired_snoc ?_ (ent_keep hl8 (fun _ z => by cases z) (EntAt.ex ee hE4))
          refine ⟨t2, rfl, ?_⟩
          rw [upd_ne (ne_of upd_same hl8 (by intro z; cases z)), upd_same, hmid]
          rfl
      refine ⟨_, rfl, _, _, rfl, rfl, _, rfl, ?_⟩
      by_cases hm : 0 < manyOf ns p
      · rw [decide_eq_true (show (0 : Int) < (manyOf ns p : Nat) by omega)]
        refine iteT ⟨_, rfl, _, rfl, _, rfl, _, rfl, _, rfl, _, _, rfl, rfl, _, rfl, _, rfl, by rw [byteArr_size]; omega, ?_⟩
        have hpk : PySem.W.KBy.picked (byteArr ns) (some (p : Int)) (some ((p : Int) + (manyOf ns p : Nat))) = byteArr (sub ns p (p + manyOf ns p)) := by
          rw [← byteArr_sub (by omega) (by omega), Int.natCast_add]
        refine ⟨sub ns p (p + manyOf ns p), by rw [hpk]; rfl, sub_b8 hI.b8 _ _, by omega, fun H6 e6 => ?_⟩
        refine ⟨_, _, rfl, rfl, by rw [c1, sizeLine_eq]; omega, _, _, rfl, rfl, ?_, ?_⟩
        · rw [str_app_len, c1, sizeLine_eq]
          omega
        refine fin _ _ _ _ rfl e6 ?_ fun H7 xs h1 h2 h3 h4 h5 => ⟨xs, _, _, _, _, h1, h2, h3, h4, h5, rfl⟩
        unfold midT
        rw [if_pos hm]
      · rw [decide_eq_false (show ¬ (0 : Int) < (manyOf ns p : Nat) by omega)]
        refine iteF (fin _ _ _ _ rfl (Ex.refl _) ?_ fun H7 xs h1 h2 h3 h4 h5 => ⟨xs, _, _, _, _, h1, h2, h3, h4, h5, rfl⟩)
        unfold midT
        rw [if_neg hm]
    · intro σ H3 h
      obtain ⟨xs, o2, o3, o4, o5, e3, hk3, hdic3, hl3, hE, rfl⟩ := h
      rw [← hkl, List.take_length] at hE
      clear hk3 hdic3
      refine ⟨_, rfl, ns, rfl, hI, fun H4 nl vs e4 hnl0 hnl hN => ?_⟩
      have hnll : nl ≠ l := fun z => by
        rw [z, hl3] at hnl0
        cases hnl0
      have hl4 := e4 _ _ hl3
      have hE4 := hE.ex e4
      have e34 := e3.trans e4
      clear hl3 hE
      have hvl : (neverL ns).length = vs.length := hN.length
      have hnlen := never_len ns
      have hok := never_ok ns
      have hxl : ((reachL ns).map fun p => (p, 1, insT ns p)).length = xs.length := hE4.length
      rw [List.length_map] at hxl
      refine ⟨nl, rfl, ⟨_, SqL.of hnl⟩, ?_⟩
      refine for_it (walk_list (xs := vs)) (fun i σ H' => ∃ xs o6 o7, Ex H H' ∧ H' nl = some (.lst vs) ∧ NevAt H' (neverL ns) vs ∧ H' l = some (.lst xs) ∧ xs.length = (reachL ns).length + i ∧ EntAt H' ((reachL ns).map (fun p => (p, 1, insT ns p)) ++ ((neverL ns).take i).map fun q => (q.1, 0, nevT ns q)) xs ∧
          σ = [some (.byt (byteArr ns)), some (.ref l), o2, o3, o4, o5, o6, o7, none])
        ⟨xs, none, none, e34, hnl, hN, hl4, hxl.symm, by rw [List.take_zero, List.map_nil, List.append_nil]; exact hE4, rfl⟩ (fun i σ H' _ h => by obtain ⟨xs, o6, o7, h1, h2, h3⟩ := h; exact SqL.of h2) ?_ ?_
      · intro i x σ H5 H6 hi h y
        obtain ⟨xs, o6, o7, e5, hn5, hN5, hl5, hxl5, hE5, rfl⟩ := h
        obtain ⟨rfl, hx⟩ := y
        have hi' : i < (neverL ns).length := by omega
        have hg : (neverL ns)[i]? = some ((neverL ns).getD i (0, 0)) := by
          rw [List.getD_eq_getElem?_getD, List.getElem?_eq_getElem hi']
          rfl
        obtain ⟨x', hx', t, rfl, ht⟩ := paired_at hN5 hg
        rw [hx] at hx'
        obtain rfl := Option.some.inj hx'
        have hqm := List.mem_of_getElem? hg
        have htake := take_snoc ((0, 0) : Nat × Nat) hi'
        generalize (neverL ns).getD i (0, 0) = qq at htake hqm ht
        obtain ⟨b, e⟩ := qq
        obtain ⟨o1, o2', _⟩ := hok.ok (b, e) hqm
        have o1 : b < e := o1
        have o2' : e ≤ ns.length := o2'
        refine ⟨t, _, rfl, st_of ht, rfl, _, _, rfl, _, _, rfl, rfl, ?_⟩
        have hnum := num_len (i := (b : Int)) (by omega) (by omega)
        have hpt := pairsT_len (sub ns b e)
        have hsl := sub_len ns b e
        refine ⟨_, rfl, .inl ⟨rfl, _, SqL.of hl5⟩, _, rfl, _, rfl, _, rfl, log_ok (by omega), _, _, rfl, rfl, ?_, ?_⟩
        · show (numT (b : Int)).length + (" : " : Str).length ≤ sizeLine
          rw [c1, sizeLine_eq]
          omega
        have hpk : PySem.W.KBy.picked (byteArr ns) (some (b : Int)) (some (e : Int)) = byteArr (sub ns b e) := byteArr_sub (by omega) (by omega)
        refine ⟨_, rfl, _, rfl, _, rfl, _, rfl, _, rfl, _, rfl, by rw [byteArr_size]; omega, ?_⟩
        refine ⟨sub ns b e, by rw [hpk]; rfl, sub_b8 hI.b8 _ _, by omega, fun H7 e7 => ⟨_, _, rfl, rfl, ?_, ?_⟩⟩
        · show (numT (b : Int) ++ (" : " : Str)).length + _ ≤ sizeLine
          rw [str_app_len, c1, sizeLine_eq]
          omega
        refine ⟨hz3, fun t2 ht2 => ?_⟩
        have hl7 := e7 _ _ hl5
        have e8 : Ex H7 (upd H7 t2 (.tup [.int (b : Int), .int 0, .str (Str.ofString (toString (b : Int)) ++ " : " ++ pairsT (sub ns b e))])) := Ex.new ht2
        have hl8 := e8 _ _ hl7
        have ee := e7.trans e8
        refine ⟨l, _, _, rfl, rfl, hl8, by rw [sizeLine_eq]; omega, ?_⟩
        refine ⟨xs ++ [.ref t2], _, _, Ex.mut (e5.trans ee) hl, ?_, nev_keep hl8 (fun _ z => by cases z) (NevAt.ex ee hN5), upd_same, by rw [List.length_append, hxl5]; rfl, ?_, rfl⟩
        · rw [upd_ne hnll]
          exact ee _ _ hn5
        · rw [htake, List.map_append, ← List.append_assoc]
          refine paired_snoc ?_ (ent_keep hl8 (fun _ z => by cases z) (EntAt.ex ee hE5))
          refine ⟨t2, rfl, ?_⟩
          rw [upd_ne (ne_of upd_same hl8 (by intro z; cases z)), upd_same]
          rfl
      · intro σ H5 h
        obtain ⟨xs, o6, o7, e5, hn5, hN5, hl5, hxl5, hE5, rfl⟩ := h
        rw [← hvl, List.take_length] at hE5
        have hE5 : EntAt H5 (ents ns) xs := hE5
        refine ⟨_, rfl, l, xs, fun v => ((trOf H5 v).1 : Int), rfl, SqL.of hl5, fun x hx => ?_, fun x hx y hy he => ?_, fun ys p hperm hsort hp => ?_⟩
        · obtain ⟨t, e, h1, h2, h3⟩ := ent_mem hE5 x hx
          exact ⟨t, _, _, h1, by dsimp only; rw [h3]; exact h2⟩
        · have he : ((trOf H5 x).1 : Int) = ((trOf H5 y).1 : Int) := he
          refine inj_nodup (f := fun v => (trOf H5 v).1) ?_ hx hy (by show (trOf H5 x).1 = (trOf H5 y).1; omega)
          have := ents_nodup ns
          rw [← ent_map hE5, List.map_map] at this
          exact this
        · refine ⟨p, rfl, ⟨_, SqL.of upd_same⟩, fun D hD => ?_⟩
          have e6 : Ex H5 (upd H5 p (.lst ys)) := Ex.new hp
          have hyl : ys.length ≤ 72000 := by
            rw [hperm.length_eq, hxl5, ← hvl]
            omega
          refine lc_it (walk_list (xs := ys)) (fun i H' => Ex (upd H5 p (.lst ys)) H' ∧ H' D = some (.lst ((ys.take i).map fun v => .str (trOf H5 v).2.2))) ⟨Ex.new hD, upd_same⟩ (fun i H' _ h => SqL.of (h.1 _ _ upd_same)) ?_ ?_
          · intro i x H6 H7 hi h y
            obtain ⟨e7, hD7⟩ := h
            obtain ⟨rfl, hx⟩ := y
            obtain ⟨t, e, h1, h2, h3⟩ := ent_mem hE5 x (hperm.mem_iff.mp (List.mem_of_getElem? hx))
            subst h1
            have ht := e7 _ _ (e6 _ _ h2)
            refine ⟨t, _, rfl, st_of ht, rfl, _, _, rfl, _, _, rfl, _, _, rfl, rfl, rfl, ?_⟩
            unfold tYes
            dsimp only
            rw [if_pos rfl]
            refine ⟨_, rfl, _, hD7, ?_, Ex.mut e7 hD, ?_⟩
            · rw [List.length_map, List.length_take, sizeLine_eq]
              omega
            · rw [upd_same, List.take_add_one, hx, List.map_append]
              show some (HO.lst (_ ++ [V.str e.2.2])) = some (HO.lst (_ ++ [V.str (trOf H5 (.ref t)).2.2]))
              rw [h3]
          · intro H6 h
            obtain ⟨e7, hD7⟩ := h
            rw [List.take_length] at hD7
            refine q _ D ((e5.trans e6).trans e7) (fresh_back (e5.trans e6) hD) ?_
            rw [hD7, ← rows_of hE5 hperm hsort, List.map_map]
            rfl
theorem ok_listing (T : Txt K mg) (C : Txc K w mg) : Own P w K mg base CX0 11 "listing" ["image"] spListing := own_of T.listing fun f fd F => by
  have G1 := ok_check_image (P := P) (w := w) (base := base) T
  have G2 := ok_listing_rows (P := P) (base := base) T C
  refine F.ok scListing (fun vs H Q E h => ?_) (fun cdv A outer s H vs Q E hr h => ?_)
  · obtain ⟨ns, rfl, _⟩ := h
    rfl
  · obtain ⟨ns, rfl, hI, q⟩ := h
    have hr1 : Room 1 _ := hr.mono (by decide)
    refine ⟨_, pss_cons (ps_expr (pe_own G1 hr1 pass0 (pa_cons (pv 0) pa_nil)))
      (pss_one (ps_ret (pe_join pe_str (pe_lc (own := [("row", 1)]) (g := gName 1) (tt := tYes) rfl scListing.nd (pi_list (pe_own G2 hr pass0 (pa_cons (pv 0) pa_nil))) (blkOk_by (N := nListing) (sc := defScope sListing) (by decide +kernel))
          (fun _ _ _ _ _ => pg_name (i := 1) scListing.nd rfl (Or.inl rfl)) (fun _ _ _ _ _ => pts_nil) (fun _ _ _ _ _ => pe_op op_add_str (pv 1) pe_str))))), ?_⟩
    obtain ⟨r1, r2⟩ := rows_sum hI
    obtain ⟨c1, c2, c3⟩ := colon_len
    refine ⟨_, rfl, ns, rfl, hI, ⟨_, rfl⟩, _, rfl, ns, rfl, hI, fun H1 l e1 hl0 hl => ?_⟩
    refine ⟨l, rfl, ⟨_, SqL.of hl⟩, fun D hD => ?_⟩
    refine lc_name (walk_list (xs := (rowsL ns).map V.str)) _ (fun i => .str ((rowsL ns).getD i "" ++ "\n")) y_at (fun _ => rfl) (by rw [List.length_map, sizeLine_eq]; omega) hD (fun H' e => SqL.of (e _ _ hl)) ?_ ?_
    · intro i H' hi e Q q
      rw [List.length_map] at hi
      have hg : (rowsL ns)[i]? = some ((rowsL ns).getD i "") := by
        rw [List.getD_eq_getElem?_getD, List.getElem?_eq_getElem hi]
        rfl
      have e1 : ((rowsL ns).map V.str).getD i .non = .str ((rowsL ns).getD i "") := by
        rw [List.getD_eq_getElem?_getD, List.getElem?_map, hg]
        rfl
      rw [e1]
      refine ⟨_, rfl, _, _, rfl, rfl, ?_, q _ (Ex.refl _)⟩
      have hm : ((rowsL ns).getD i "").length ≤ ((rowsL ns).map (·.length)).sum := mem_sum (List.mem_of_getElem? hg)
      rw [c3, sizeLine_eq]
      omega
    · intro H' e hl'
      refine ⟨_, D, (rowsL ns).map fun r => r ++ "\n", rfl, rfl, .inl (SqL.of ?_), ?_, q _ (e1.trans e)⟩
      · rw [hl', List.length_map, map_range_getD (fun r => V.str (r ++ "\n")) "" (rowsL ns), List.map_map]
        rfl
      · rw [lines_sum]
        have h3 : ("" : Str).length = 0 := by decide +kernel
        rw [h3]
        omega
end
end BT
/-! The walk, 12: bytes_of. -/
namespace BT
open PySem PySem.Spec PyProof.Rows L2 Evl TL
/-! ### what is cut -/
theorem spl_count (S : List Nat) : ∀ (l : List Nat) (k : Nat) (acc : List Nat), (spl S k acc l).length ≤ l.length + 1
  | [], k, acc => by rw [spl_nil]; exact Nat.le_refl _
  | c :: r, 0, acc => by
    by_cases h : pre S (c :: r) = true
    · rw [spl_hit h, List.length_cons, List.length_cons]
      have := spl_count S r (S.length - 1) []
      omega
    · have h : pre S (c :: r) = false := by
        cases hh : pre S (c :: r) with
        | true => exact absurd hh h
        | false => rfl
      rw [spl_miss h, List.length_cons]
      have := spl_count S r 0 (acc ++ [c])
      omega
  | c :: r, k + 1, acc => by
    show (spl S k acc r).length ≤ _
    have := spl_count S r k acc
    rw [List.length_cons]
    omega
theorem spl_ne (S : List Nat) : ∀ (l : List Nat) (k : Nat) (acc : List Nat), spl S k acc l ≠ []
  | [], k, acc => by rw [spl_nil]; simp
  | c :: r, 0, acc => by
    by_cases h : pre S (c :: r) = true
    · rw [spl_hit h]
      simp
    · have h : pre S (c :: r) = false := by
        cases hh : pre S (c :: r) with
        | true => exact absurd hh h
        | false => rfl
      rw [spl_miss h]
      exact spl_ne S r 0 (acc ++ [c])
  | c :: r, k + 1, acc => spl_ne S r k acc
theorem spl_piece (S : List Nat) : ∀ (l : List Nat) (k : Nat) (acc : List Nat), ∀ p ∈ spl S k acc l, p.length ≤ acc.length + l.length
  | [], k, acc => fun p hp => by
    rw [spl_nil] at hp
    rw [List.mem_singleton.mp hp]
    omega
  | c :: r, 0, acc => fun p hp => by
    by_cases h : pre S (c :: r) = true
    · rw [spl_hit h] at hp
      rw [List.length_cons]
      rcases List.mem_cons.mp hp with z | z
      · rw [z]
        omega
      · have := spl_piece S r (S.length - 1) [] p z
        rw [List.length_nil] at this
        omega
    · have h : pre S (c :: r) = false := by
        cases hh : pre S (c :: r) with
        | true => exact absurd hh h
        | false => rfl
      rw [spl_miss h] at hp
      have := spl_piece S r 0 (acc ++ [c]) p hp
      rw [List.length_append, List.length_singleton] at this
      rw [List.length_cons]
      omega
  | c :: r, k + 1, acc => fun p hp => by
    have := spl_piece S r k acc p hp
    rw [List.length_cons]
    omega
/-- a separator in use -/
structure Sep (y : Str) : Prop where
  ne : tl y ≠ []
  lo : y.cps.all (· < 256) = true
theorem sep_c : Sep " : " := ⟨by decide +kernel, by decide +kernel⟩
theorem sep_s : Sep " " := ⟨by decide +kernel, by decide +kernel⟩
theorem sep_n : Sep "\n" := ⟨by decide +kernel, by decide +kernel⟩
theorem split_eq {y : Str} (s : Sep y) (x : Str) : (Txt.split x y).map tl = spl (tl y) 0 [] (tl x) := split_spl x y s.ne (kind_ok s.lo)
theorem split_count {y : Str} (s : Sep y) (x : Str) : (Txt.split x y).length ≤ x.length + 1 := by
  have h := congrArg List.length (split_eq s x)
  rw [List.length_map] at h
  rw [h, len_tl]
  exact spl_count _ _ _ _
theorem split_pos {y : Str} (s : Sep y) (x : Str) : 0 < (Txt.split x y).length := by
  have h := congrArg List.length (split_eq s x)
  rw [List.length_map] at h
  rw [h]
  exact List.length_pos_iff.mpr (spl_ne _ _ _ _)
theorem split_piece {y : Str} (s : Sep y) {x p : Str} (h : p ∈ Txt.split x y) : p.length ≤ x.length := by
  have h2 : tl p ∈ (Txt.split x y).map tl := List.mem_map.mpr ⟨p, h, rfl⟩
  rw [split_eq s] at h2
  have := spl_piece _ _ _ _ _ h2
  rw [len_tl, len_tl x]
  simpa using this
/-! ### figures -/
theorem dg_in : ∀ c : Nat, decide (c ∈ ("0123456789" : Str).cps.toList) = isDg c := by
  intro c
  by_cases hc : c < 128
  · have all : ∀ c, c < 128 → decide (c ∈ ("0123456789" : Str).cps.toList) = isDg c := by decide +kernel
    exact all c hc
  · have h1 : isDg c = false := by
      unfold isDg
      rw [decide_eq_false (show ¬ c ≤ 57 by omega)]
      simp
    rw [h1]
    refine decide_eq_false fun h => ?_
    have all : ∀ c ∈ ("0123456789" : Str).cps.toList, c < 128 := by decide +kernel
    exact hc (all c h)
theorem hx_in2 : ∀ c : Nat, decide (c ∈ (("0123456789" : Str) ++ "abcdef").cps.toList) = isHx c := by
  intro c
  by_cases hc : c < 128
  · have all : ∀ c, c < 128 → decide (c ∈ (("0123456789" : Str) ++ "abcdef").cps.toList) = isHx c := by decide +kernel
    exact all c hc
  · have h1 : isHx c = false := by
      unfold isHx isDg
      rw [decide_eq_false (show ¬ c ≤ 57 by omega), decide_eq_false (show ¬ c ≤ 102 by omega)]
      simp
    rw [h1]
    refine decide_eq_false fun h => ?_
    have all : ∀ c ∈ (("0123456789" : Str) ++ "abcdef").cps.toList, c < 128 := by decide +kernel
    exact hc (all c h)
theorem in23 (n : Nat) : inV (.int (n : Int)) [.int 2, .int 3] = decide (n = 2 ∨ n = 3) := by
  have h2 : ((2 : Int) == (n : Int)) = decide (n = 2) := by
    by_cases h : n = 2
    · subst h
      rfl
    · rw [decide_eq_false h]
      exact beq_eq_false_iff_ne.mpr (by omega)
  have h3 : ((3 : Int) == (n : Int)) = decide (n = 3) := by
    by_cases h : n = 3
    · subst h
      rfl
    · rw [decide_eq_false h]
      exact beq_eq_false_iff_ne.mpr (by omega)
  show (((2 : Int) == (n : Int)) || (((3 : Int) == (n : Int)) || false)) = _
  rw [h2, h3, Bool.or_false, ← Bool.decide_or]
theorem word_hx {x : Str} (h : isWord x = true) : x = hx (hexV (tl x)) ∧ 0 ≤ hexV (tl x) ∧ hexV (tl x) < 256 := by
  unfold isWord at h
  rw [Bool.and_eq_true, decide_eq_true_eq] at h
  obtain ⟨h1, h2⟩ := h
  have hv_ok : ∀ c, c < 128 → isHx c = true → hv c < 16 ∧ hd (hv c) = c := by decide +kernel
  have hlt : ∀ c, isHx c = true → c < 128 := fun c h => by
    unfold isHx isDg at h
    simp at h
    omega
  match e : tl x, h1, h2 with
  | [a, b], _, h2 =>
    simp only [List.all_cons, List.all_nil, Bool.and_true, Bool.and_eq_true] at h2
    obtain ⟨a1, a2⟩ := hv_ok a (hlt a h2.1) h2.1
    obtain ⟨b1, b2⟩ := hv_ok b (hlt b h2.2) h2.2
    have ev : hexV [a, b] = ((16 * hv a + hv b : Nat) : Int) := rfl
    refine ⟨?_, by rw [ev]; omega, by rw [ev]; omega⟩
    refine ext_tl ?_
    rw [e]
    show _ = [hd ((hexV [a, b]).toNat / 16), hd ((hexV [a, b]).toNat % 16)]
    rw [ev, Int.toNat_natCast, show (16 * hv a + hv b) / 16 = hv a by omega, show (16 * hv a + hv b) % 16 = hv b by omega, a2, b2]
theorem numV_val (l : List Nat) : numV l = PySem.NumText.digitsVal l := by
  have : ∀ (l : List Nat) (a : Nat), l.foldl (fun a c => 10 * a + (c - 48)) a = l.foldl (fun acc c => acc * 10 + (c - 48)) a := by
    intro l
    induction l with
    | nil => intro a; rfl
    | cons c r ih =>
      intro a
      rw [List.foldl_cons, List.foldl_cons, Nat.mul_comm 10 a]
      exact ih _
  exact this l 0
/-! ### bytes_of -/
def wSc : Scope := match (defBody sBytesOf).getD 3 (.Pass ⟨0, 0, 0, 0⟩) with
  | .If (.UnaryOp _ (.Call _ [.ListComp _ _ s _] _ _) _) _ _ _ => s
  | _ => ⟨.function, [], false, false, []⟩
section
variable {P : Program} {w : World} {K : PySem.W.Frag} {mg : Str → Option Value} {base : Heap}
theorem ok_bytes_of (T : Txt K mg) : Own P w K mg base CX0 1 "bytes_of" ["row"] spBytesOf := own_of T.bytesOf fun f fd F => by
  refine F.ok scBytesOf (fun vs H Q E h => ?_) (fun cdv A outer s H vs Q E hr h => ?_)
  · obtain ⟨row, rfl, _⟩ := h
    rfl
  · obtain ⟨row, rfl, hl, qn, qs⟩ := h
    refine ⟨_, pss_cons (ps_set (i := 1) scBytesOf.nd rfl (.inl rfl) (pe_split (pv 0) pe_str))
      (pss_cons (ps_if (PW.pt (pw_or (pt_cmpR op_notIn_seq (pe_callB call_len_seq (by rfl) T.len PySem.boot_len (pa_cons (pv 1) pa_nil)) (pe_tup (pa_cons pe_int (pa_cons pe_int pa_nil))) (by rfl))
          (pw_or (pt_not (pt_chain op_le op_le pe_int (pe_callB call_len_str (by rfl) T.len PySem.boot_len (pa_cons (pe_ix ix_list (pv 1) pe_int (fun _ _ => rfl)) pa_nil)) pe_int))
          (pw_or1 (pt_not (pt_val (pe_callB (cr_all rfl) (by rfl) T.all (by decide +kernel) (pa_cons (pe_lc (own := [("sign", 3)]) (g := gName 3) (tt := tYes) rfl scBytesOf.nd (pi_str (pe_ix ix_list (pv 1) pe_int (fun _ _ => rfl))) (blkOk_by (N := nBytesOf) (sc := defScope sBytesOf) (by decide +kernel))
            (fun _ _ _ _ _ => pg_name (i := 3) scBytesOf.nd rfl (Or.inl rfl)) (fun _ _ _ _ _ => pts_nil) (fun _ _ _ _ _ => pe_cmpR op_in_sign (pv 3) (pe_cstr T.figures) (by rfl))) pa_nil))))))))
        (pss_one (ps_ret pe_non)) pss_nil)
      (pss_cons (ps_set (i := 2) scBytesOf.nd rfl (.inl rfl) (PE_up (pe_ifExp (pt_cmpR op_ne (pe_ix ix_list (pv 1) pe_int (fun _ _ => rfl)) pe_str (nomark _)) (pe_split (pe_ix ix_list (pv 1) pe_int (fun _ _ => rfl)) pe_str) (pe_lst pa_nil))))
      (pss_cons (ps_if (pt_not (pt_val (pe_callB (cr_all rfl) (by rfl) T.all (by decide +kernel) (pa_cons (pe_lc (own := [("word", 4)]) (g := gName 4) (tt := tYes) rfl scBytesOf.nd (pi_list (pv 2)) (blkOk_by (N := nBytesOf) (sc := defScope sBytesOf) (by decide +kernel))
            (fun _ _ _ _ _ => pg_name (i := 4) scBytesOf.nd rfl (Or.inl rfl)) (fun _ _ _ _ _ => pts_nil)
            (fun _ _ _ _ _ => pe_and (pe_cmpR op_eq (pe_callB call_len_str (by rfl) T.len PySem.boot_len (pa_cons (pv 4) pa_nil)) pe_int (nomark _))
              (pe_one (pe_callB (r := rAll K) (cr_all rfl) (by rfl) T.all (by decide +kernel) (pa_cons (pe_lc (own := [("sign", 3)]) (g := gName 3) (tt := tYes) rfl scBytesOf.nd (pi_str (pv 4)) (blkOk_by (N := nBytesOf) (sc := wSc) (by decide +kernel))
                (fun _ _ _ _ _ => pg_name (i := 3) scBytesOf.nd rfl (Or.inl rfl)) (fun _ _ _ _ _ => pts_nil) (fun _ _ _ _ _ => pe_cmpR op_in_sign (pv 3) (pe_op op_add_str (pe_cstr T.figures) pe_str) (by rfl))) pa_nil))))) pa_nil))))
        (pss_one (ps_ret pe_non)) pss_nil)
      (pss_one (ps_ret (pe_tup (pa_cons (pe_callTy call_int_str (by rfl) T.int (by decide +kernel) (pa_cons (pe_ix ix_list (pv 1) pe_int (fun _ _ => rfl)) pa_nil))
        (pa_cons (pe_lc (own := [("word", 4)]) (g := gName 4) (tt := tYes) rfl scBytesOf.nd (pi_list (pv 2)) (blkOk_by (N := nBytesOf) (sc := defScope sBytesOf) (by decide +kernel))
            (fun _ _ _ _ _ => pg_name (i := 4) scBytesOf.nd rfl (Or.inl rfl)) (fun _ _ _ _ _ => pts_nil) (fun _ _ _ _ _ => pe_ixB (pe_fromhex T.bytes (pv 4)) pe_int)) pa_nil)))))))), ?_⟩
    have hz0 : 0 ≤ sizeLine := by decide
    have hz2 : 2 ≤ sizeLine := by decide
    have hcnt := split_count sep_c row
    have hpos := split_pos sep_c row
    have hpie : ∀ p ∈ Txt.split row " : ", p.length ≤ row.length := fun p hp => split_piece sep_c hp
    unfold bytesOf at qn qs
    dsimp only at qn qs
    refine ⟨_, rfl, ⟨_, rfl⟩, row, " : ", rfl, rfl, by decide +kernel, by rw [sizeLine_eq]; omega, fun p hp => ?_⟩
    have e1 : Ex H (upd H p (.lst ((Txt.split row " : ").map V.str))) := Ex.new hp
    have hp1 : upd H p (.lst ((Txt.split row " : ").map V.str)) p = some (.lst ((Txt.split row " : ").map V.str)) := upd_same
    generalize upd H p (.lst ((Txt.split row " : ").map V.str)) = H1 at e1 hp1 ⊢
    generalize Txt.split row " : " = ps at *
    have gt : ∀ i, i < ps.length → (ps.map V.str)[i]? = some (.str (ps.getD i "")) := fun i hi => by
      rw [List.getElem?_map, List.getD_eq_getElem?_getD, List.getElem?_eq_getElem hi]
      rfl
    have gm : ∀ i, i < ps.length → ps.getD i "" ∈ ps := fun i hi => by
      rw [List.getD_eq_getElem?_getD, List.getElem?_eq_getElem hi]
      exact List.getElem_mem hi
    have hp0 := hpie _ (gm 0 hpos)
    refine ⟨_, rfl, p, _, rfl, .inl (SqL.of hp1), hz2, fun u hu => ?_⟩
    have eu : Ex H1 (upd H1 u (.tup [.int 2, .int 3])) := Ex.new hu
    refine ⟨u, _, rfl, .inr (st_of upd_same), rfl, rfl, _, rfl, ?_⟩
    rw [if_pos rfl, List.length_map, in23]
    have e2 := e1.trans eu
    have hp2 := eu _ _ hp1
    generalize upd H1 u (.tup [.int 2, .int 3]) = H2 at e2 hp2 ⊢
    clear hp1 e1 eu
    by_cases c1 : ¬ (ps.length = 2 ∨ ps.length = 3)
    · rw [decide_eq_false c1]
      rw [if_neg (fun z => c1 z.1)] at qn
      exact iteT (iteT (qn rfl _ e2))
    have c1 := Decidable.not_not.mp c1
    rw [decide_eq_true c1]
    have hp1l := hpie _ (gm 1 (by omega))
    generalize hx0 : ps.getD 0 "" = p0 at *
    generalize hx1 : ps.getD 1 "" = p1 at *
    have at0 := gt 0 hpos
    have at1 := gt 1 (by omega)
    rw [hx0] at at0
    rw [hx1] at at1
    have l0 : p0.length = (tl p0).length := len_tl p0
    refine iteF ⟨_, rfl, p, _, _, _, rfl, rfl, SqL.of hp2, atI_nat (j := 0) at0, p0, rfl, by rw [sizeLine_eq]; omega, _, _, rfl, rfl, _, rfl, ?_⟩
    by_cases c2 : ¬ (1 ≤ (tl p0).length)
    · rw [decide_eq_false (show ¬ (1 : Int) ≤ (p0.length : Int) by omega)]
      rw [if_neg (fun z => c2 z.2.1.1)] at qn
      exact iteF ⟨false, rfl, iteT (iteT (qn rfl _ e2))⟩
    have c2 := Decidable.not_not.mp c2
    rw [decide_eq_true (show (1 : Int) ≤ (p0.length : Int) by omega)]
    refine iteT ⟨_, _, rfl, rfl, _, rfl, ?_⟩
    by_cases c3 : ¬ ((tl p0).length ≤ 5)
    · rw [decide_eq_false (show ¬ (p0.length : Int) ≤ 5 by omega)]
      rw [if_neg (fun z => c3 z.2.1.2)] at qn
      exact iteT (iteT (qn rfl _ e2))
    have c3 := Decidable.not_not.mp c3
    rw [decide_eq_true (show (p0.length : Int) ≤ 5 by omega)]
    refine iteF ⟨_, rfl, p, _, _, _, rfl, rfl, SqL.of hp2, atI_nat (j := 0) at0, _, rfl, fun D hD => ?_⟩
    have hsz0 : p0.cps.size = (tl p0).length := Array.length_toList.symm
    refine lc_name walk_str _ (fun i => .bl (isDg ((tl p0).getD i 0))) y_str (fun _ => rfl) (by rw [sizeLine_eq]; omega) hD (fun _ _ => True.intro) ?_ ?_
    · intro i H' hi e Q q
      refine ⟨_, rfl, _, _, rfl, rfl, ?_⟩
      rw [dg_in]
      exact q _ (Ex.refl _)
    intro H3 e3 hD3
    rw [hsz0, map_range_getD (fun c => V.bl (isDg c)) 0 (tl p0)] at hD3
    have e23 := e2.trans e3
    have hp3 := e3 _ _ hp2
    refine ⟨D, (tl p0).map isDg, rfl, SqL.of (by rw [hD3, List.map_map]; rfl), _, rfl, ?_⟩
    rw [all_bl]
    show if (!(tl p0).all isDg) = true then _ else _
    by_cases c4 : ¬ ((tl p0).all isDg = true)
    · have c4' : (tl p0).all isDg = false := by
        cases hh : (tl p0).all isDg with
        | true => exact absurd hh c4
        | false => rfl
      rw [c4']
      rw [if_neg (fun z => c4 z.2.2.1)] at qn
      exact iteT (qn rfl _ e23)
    have c4 := Decidable.not_not.mp c4
    rw [c4]
    refine iteF ?_
    clear hD3 hD e3 hp2 e2
    -- the words
    refine ⟨fun v H4 => ∃ wl, v = .ref wl ∧ Ex H3 H4 ∧ H4 wl = some (.lst ((wordsOf p1).map V.str)) ∧ (wordsOf p1).length ≤ 16000001 ∧ ∀ x ∈ wordsOf p1, x.length ≤ 16000000, ?_, ?_⟩
    · refine ⟨_, rfl, p, _, _, _, rfl, rfl, SqL.of hp3, atI_nat (j := 1) at1, rfl, _, rfl, ?_⟩
      by_cases c5 : p1 = ""
      · subst c5
        rw [decide_eq_true rfl]
        refine iteF ⟨hz0, fun wl hwl => ⟨wl, rfl, Ex.new hwl, ?_, ?_⟩⟩
        · unfold wordsOf
          rw [if_pos rfl]
          exact upd_same
        · unfold wordsOf
          rw [if_pos rfl]
          exact ⟨by decide, fun x h => by cases h⟩
      · rw [decide_eq_false (by intro z; injection z with z; exact c5 z)]
        refine iteT ⟨_, rfl, p, _, _, _, rfl, rfl, SqL.of hp3, atI_nat (j := 1) at1, ⟨_, rfl⟩, p1, " ", rfl, rfl, by decide +kernel, by rw [sizeLine_eq]; omega, fun wl hwl => ⟨wl, rfl, Ex.new hwl, ?_, ?_⟩⟩
        · unfold wordsOf
          rw [if_neg c5]
          exact upd_same
        · unfold wordsOf
          rw [if_neg c5]
          have := split_count sep_s p1
          refine ⟨by omega, fun x hx => ?_⟩
          have := split_piece sep_s hx
          omega
    rintro v H4 ⟨wl, rfl, e4, hwl, hwn, hwx⟩
    have hp4 := e4 _ _ hp3
    have e24 := e23.trans e4
    clear e4 hp3 e23
    generalize wordsOf p1 = ws at *
    have wt : ∀ i, i < ws.length → (ws.map V.str).getD i .non = .str (ws.getD i "") ∧ ws.getD i "" ∈ ws := fun i hi => by
      rw [List.getD_eq_getElem?_getD, List.getElem?_map, List.getD_eq_getElem?_getD, List.getElem?_eq_getElem hi]
      exact ⟨rfl, List.getElem_mem hi⟩
    refine ⟨_, rfl, wl, rfl, ⟨_, SqL.of hwl⟩, fun D hD => ?_⟩
    refine lc_name (walk_list (xs := ws.map V.str)) _ (fun i => .bl (isWord (ws.getD i ""))) y_at (fun _ => rfl) (by rw [List.length_map, sizeLine_eq]; omega) hD (fun H' e => SqL.of (e _ _ hwl)) ?_ ?_
    · intro i H5 hi e5 Q q
      rw [List.length_map] at hi
      obtain ⟨ev, hm⟩ := wt i hi
      rw [ev]
      have hxl := hwx _ hm
      generalize ws.getD i "" = x at hxl q ⊢
      have lx : x.length = (tl x).length := len_tl x
      have hsz : x.cps.size = (tl x).length := Array.length_toList.symm
      refine ⟨_, rfl, x, rfl, by rw [sizeLine_eq]; omega, rfl, _, rfl, ?_⟩
      by_cases c6 : (tl x).length = 2
      · rw [decide_eq_true (show V.int (x.length : Int) = V.int 2 by rw [lx, c6]; rfl)]
        refine iteT ⟨_, rfl, x, rfl, fun D2 hD2 => ?_⟩
        refine lc_name walk_str _ (fun i => .bl (isHx ((tl x).getD i 0))) y_str (fun _ => rfl) (by rw [sizeLine_eq]; omega) hD2 (fun _ _ => True.intro) ?_ ?_
        · intro j H' hj e Q q
          refine ⟨_, rfl, _, _, rfl, rfl, by decide, _, _, rfl, rfl, ?_⟩
          rw [hx_in2]
          exact q _ (Ex.refl _)
        · intro H6 e6 hD6
          rw [hsz, map_range_getD (fun c => V.bl (isHx c)) 0 (tl x)] at hD6
          refine ⟨D2, (tl x).map isHx, rfl, SqL.of (by rw [hD6, List.map_map]; rfl), ?_⟩
          rw [all_bl]
          have := q _ e6
          unfold isWord at this
          rw [decide_eq_true c6] at this
          exact this
      · rw [decide_eq_false (show ¬ V.int (x.length : Int) = V.int 2 by intro z; injection z with z; omega)]
        have := q _ (Ex.refl _)
        unfold isWord at this
        rw [decide_eq_false c6] at this
        exact iteF this
    intro H5 e5 hD5
    rw [List.length_map, map_range_getD (fun x => V.bl (isWord x)) "" ws] at hD5
    refine ⟨D, ws.map isWord, rfl, SqL.of (by rw [hD5, List.map_map]; rfl), _, rfl, ?_⟩
    rw [all_bl]
    show if (!ws.all isWord) = true then _ else _
    have e25 := e24.trans e5
    have hp5 := e5 _ _ hp4
    have hwl5 := e5 _ _ hwl
    by_cases c7 : ¬ (ws.all isWord = true)
    · have c7' : ws.all isWord = false := by
        cases hh : ws.all isWord with
        | true => exact absurd hh c7
        | false => rfl
      rw [c7']
      rw [if_neg (fun z => c7 z.2.2.2)] at qn
      exact iteT (qn rfl _ e25)
    have c7 := Decidable.not_not.mp c7
    rw [c7]
    rw [if_pos ⟨c1, ⟨c2, c3⟩, c4, c7⟩] at qs
    have qs := qs _ _ rfl
    have hint : PySem.intText? p0 = some ((numV (tl p0) : Nat) : Int) := by
      rw [numV_val]
      have h := SX.int_S (a := tl p0) (by rw [← c4]; rfl) (by intro z; rw [z] at c2; exact absurd c2 (by decide)) (by omega)
      rw [show SX.S (tl p0) = p0 from mk_tl p0] at h
      exact h
    refine iteF ⟨_, rfl, p, _, _, _, rfl, rfl, SqL.of hp5, atI_nat (j := 0) at0, p0, _, rfl, hint, by omega, ?_⟩
    clear hD5 hD e5
    refine ⟨_, rfl, wl, rfl, ⟨_, SqL.of hwl5⟩, fun D hD => ?_⟩
    refine lc_name (walk_list (xs := ws.map V.str)) _ (fun i => .int (hexV (tl (ws.getD i "")))) y_at (fun _ => rfl) (by rw [List.length_map, sizeLine_eq]; omega) hD (fun H' e => SqL.of (e _ _ hwl5)) ?_ ?_
    · intro i H6 hi e6 Q q
      rw [List.length_map] at hi
      obtain ⟨ev, hm⟩ := wt i hi
      rw [ev]
      have hw := word_hx (List.all_eq_true.mp c7 _ hm)
      generalize ws.getD i "" = x at hw q ⊢
      obtain ⟨h1, h2, h3⟩ := hw
      have b1 : B8 [hexV (tl x)] := fun n hn => by
        rw [List.mem_singleton.mp hn]
        exact ⟨h2, h3⟩
      refine up_i ⟨_, rfl, [hexV (tl x)], b1, by show 1 ≤ 1000000; decide, by rw [hx_S, ← h1], up_i ⟨[hexV (tl x)], 0, 0, rfl, rfl, rfl, b1, by show 1 ≤ 2000; decide, by show 0 < 1; decide, q _ (Ex.refl _)⟩⟩
    · intro H6 e6 hD6
      rw [List.length_map, map_range_getD (fun x => V.int (hexV (tl x))) "" ws] at hD6
      refine ⟨hz2, fun t ht => ?_⟩
      refine qs _ t D ((e25.trans e6).trans (Ex.new ht)) upd_same ?_
      rw [Ex.new ht D _ hD6, List.map_map]
      rfl
end
end BT
/-! The walk, 13: read_listing. -/
namespace BT
open PySem PySem.Spec PyProof.Rows L2 Evl TL
/-! ### a dict compared with an empty one -/
def rEqD0 : R2 := fun x y H Q => ∃ a b ks, x = .ref a ∧ y = .ref b ∧ H a = some (.dK ks) ∧ H b = some (.dK []) ∧ Q (.bl ks.isEmpty) H
theorem op_eqD0 {X : Cx} (hu : X.A.units < cLine) : OpR X (compareOp .Eq) rEqD0 := by
  intro pins s σ H x y v u Q I rx ry h
  obtain ⟨a, b, ks, rfl, rfl, ea, eb, q⟩ := h
  obtain rfl : v = Value.ref a := rx
  obtain rfl : u = Value.ref b := ry
  obtain ⟨_, ya, va, ra, da⟩ := (show ObjOk X.prog X.w H s.heap a (.dK ks) from I.hok a _ ea)
  obtain ⟨_, yb, vb, rb, db⟩ := (show ObjOk X.prog X.w H s.heap b (.dK []) from I.hok b _ eb)
  have hl : ks.length = va.length := ra.length
  cases rb
  refine PySem.W.keq_eq (knd := mixKind X.prog X.w) (r := true) ya yb da db hu (fun h => ?_) ⟨.bl _, H, I, rfl, ?_⟩
  · have : va = [] := List.length_eq_zero_iff.mp h
    subst this
    exact .nil
  · have e : (va.length == ([] : List (Key × Value)).length && true) = ks.isEmpty := by
      rw [← hl]
      cases ks with
      | nil => rfl
      | cons x r => rfl
    rw [e]
    exact q
/-! ### the cells -/
def kvsOf (cs : List (Nat × Int)) : List (Key × V) := cs.map fun c => (Sum.inl (c.1 : Int), V.int c.2)
theorem kvsOf_app (a b : List (Nat × Int)) : kvsOf (a ++ b) = kvsOf a ++ kvsOf b := List.map_append ..
theorem kvsOf_cells (n : Nat) (bs : List Int) : kvsOf (cells (n, bs)) = dkF (fun j => (n : Int) + (j : Int)) (fun j => .int (bs.getD j 0)) bs.length := by
  unfold kvsOf cells dkF
  refine List.ext_getElem (by simp) fun i h1 h2 => ?_
  simp at h1
  simp [h1]
def cellsO : Option (Nat × List Int) → List (Nat × Int)
  | none => []
  | some q => cells q
theorem allCells_cons (r : Str) (rs : List Str) : allCells (r :: rs) = cellsO (told r) ++ allCells rs := by
  cases h : told r <;> simp only [allCells, h, cellsO]
theorem allCells_snoc : ∀ (a : List Str) (r : Str), allCells (a ++ [r]) = allCells a ++ cellsO (told r)
  | [], r => by
    rw [List.nil_append, allCells_cons]
    show cellsO (told r) ++ [] = [] ++ _
    rw [List.append_nil, List.nil_append]
  | x :: xs, r => by rw [List.cons_append, allCells_cons, allCells_cons, allCells_snoc xs r, List.append_assoc]
theorem allCells_take {rows : List Str} {i : Nat} (h : i < rows.length) : allCells (rows.take (i + 1)) = allCells (rows.take i) ++ cellsO (told (rows.getD i "")) := by
  rw [take_snoc ("" : Str) h, allCells_snoc]
theorem cellAt_get (cs : List (Nat × Int)) (a : Nat) : valV (mergeK [] (kvsOf cs)) (Sum.inl (a : Int)) = (cellAt cs a).map V.int := by
  rw [valV_merge, valV_nil]
  unfold cellAt kvsOf
  rw [← List.map_reverse, List.find?_map]
  have e : ((fun p : Key × V => decide (p.1 = Sum.inl (a : Int))) ∘ fun c : Nat × Int => (Sum.inl (c.1 : Int), V.int c.2)) = fun c => decide (c.1 = a) := by
    funext c
    show decide ((Sum.inl (c.1 : Int) : Key) = Sum.inl (a : Int)) = decide (c.1 = a)
    by_cases h : c.1 = a
    · rw [decide_eq_true h, h, decide_eq_true rfl]
    · rw [decide_eq_false h]
      refine decide_eq_false fun z => ?_
      injection z with z
      exact h (by omega)
  rw [e]
  cases cs.reverse.find? fun c => decide (c.1 = a) with
  | none => rfl
  | some c => rfl
theorem merge_empty (cs : List (Nat × Int)) : (mergeK [] (kvsOf cs)).isEmpty = decide (cs = []) := by
  cases cs with
  | nil => rfl
  | cons c r =>
    rw [decide_eq_false (by simp)]
    cases h : mergeK [] (kvsOf (c :: r)) with
    | cons x y => rfl
    | nil =>
      have h1 : (valV (mergeK [] (kvsOf (c :: r))) (Sum.inl (c.1 : Int))).isSome = true := by
        rw [some_merge]
        refine Bool.or_eq_true_iff.mpr (.inr ?_)
        unfold kvsOf
        rw [List.map_cons, List.any_cons, decide_eq_true rfl]
        rfl
      rw [h] at h1
      cases h1
theorem maxAt_ge {cs : List (Nat × Int)} {c : Nat × Int} (h : c ∈ cs) : c.1 ≤ maxAt cs := by
  have gen : ∀ (cs : List (Nat × Int)) (m : Nat), m ≤ cs.foldl (fun m c => max m c.1) m ∧ ∀ c ∈ cs, c.1 ≤ cs.foldl (fun m c => max m c.1) m := by
    intro cs
    induction cs with
    | nil => intro m; exact ⟨Nat.le_refl _, fun c h => by cases h⟩
    | cons x r ih =>
      intro m
      obtain ⟨h1, h2⟩ := ih (max m x.1)
      rw [List.foldl_cons]
      refine ⟨by omega, fun c hc => ?_⟩
      rcases List.mem_cons.mp hc with z | z
      · rw [z]
        omega
      · exact h2 c z
  exact (gen cs 0).2 c h
theorem maxAt_at {cs : List (Nat × Int)} (h : cs ≠ []) : ∃ c ∈ cs, c.1 = maxAt cs := by
  have gen : ∀ (cs : List (Nat × Int)) (m : Nat), cs.foldl (fun m c => max m c.1) m = m ∨ ∃ c ∈ cs, c.1 = cs.foldl (fun m c => max m c.1) m := by
    intro cs
    induction cs with
    | nil => intro m; exact .inl rfl
    | cons x r ih =>
      intro m
      rw [List.foldl_cons]
      rcases ih (max m x.1) with z | ⟨c, hc, z⟩
      · rw [z]
        by_cases hm : x.1 ≤ m
        · left
          omega
        · right
          exact ⟨x, List.mem_cons_self .., by omega⟩
      · exact .inr ⟨c, List.mem_cons_of_mem _ hc, z⟩
  rcases gen cs 0 with z | z
  · cases cs with
    | nil => exact absurd rfl h
    | cons c r =>
      refine ⟨c, List.mem_cons_self .., ?_⟩
      have := maxAt_ge (cs := c :: r) (List.mem_cons_self ..)
      have z : maxAt (c :: r) = 0 := z
      omega
  · exact z
theorem max_keys {cs : List (Nat × Int)} (hne : cs ≠ []) : ∃ ns : List Int, (mergeK [] (kvsOf cs)).map (·.1) = ns.map Sum.inl ∧ 0 < ns.length ∧ ∀ m, m ∈ ns → (∀ y, y ∈ ns → y ≤ m) → m = ((maxAt cs : Nat) : Int) := by
  have hk : ∀ p ∈ mergeK [] (kvsOf cs), ∃ c ∈ cs, p.1 = Sum.inl (c.1 : Int) := fun p hp => by
    rcases merge_keys hp with z | z
    · obtain ⟨x, hx, e⟩ := List.mem_map.mp z
      obtain ⟨c, hc, rfl⟩ := List.mem_map.mp hx
      exact ⟨c, hc, e.symm⟩
    · cases z
  have hks : ∀ c ∈ cs, (Sum.inl (c.1 : Int) : Key) ∈ (mergeK [] (kvsOf cs)).map (·.1) := fun c hc => by
    have h1 : (valV (mergeK [] (kvsOf cs)) (Sum.inl (c.1 : Int))).isSome = true := by
      rw [some_merge]
      refine Bool.or_eq_true_iff.mpr (.inr (List.any_eq_true.mpr ⟨(Sum.inl (c.1 : Int), V.int c.2), List.mem_map.mpr ⟨c, hc, rfl⟩, decide_eq_true rfl⟩))
    obtain ⟨v, hv⟩ := Option.isSome_iff_exists.mp h1
    exact valV_in hv
  generalize hM : mergeK [] (kvsOf cs) = kvs at hk hks
  refine ⟨kvs.map fun p => (match p.1 with | .inl i => i | .inr _ => 0), ?_, ?_, fun m hm hmax => ?_⟩
  · rw [List.map_map]
    refine List.map_congr_left fun p hp => ?_
    obtain ⟨c, hc, e⟩ := hk p hp
    show p.1 = Sum.inl (match p.1 with | .inl i => i | .inr _ => 0)
    rw [e]
  · rw [List.length_map]
    obtain ⟨c, hc⟩ := List.exists_mem_of_ne_nil cs hne
    have := hks c hc
    rw [← List.length_map]
    exact List.length_pos_of_mem this
  · obtain ⟨c0, hc0, e0⟩ := maxAt_at hne
    obtain ⟨p, hp, ep⟩ := List.mem_map.mp hm
    obtain ⟨c, hc, e⟩ := hk p hp
    rw [e] at ep
    have ep : (c.1 : Int) = m := ep
    have h1 := maxAt_ge hc
    obtain ⟨p0, hp0, ep0⟩ := List.mem_map.mp (hks c0 hc0)
    have h2 := hmax ((c0.1 : Nat) : Int) (List.mem_map.mpr ⟨p0, hp0, by rw [ep0]⟩)
    omega
/-! ### how many -/
theorem spl_sum {S : List Nat} : ∀ (l : List Nat) (k : Nat) (acc : List Nat), ((spl S k acc l).map fun p => p.length + 1).sum ≤ acc.length + l.length + 1
  | [], k, acc => by rw [spl_nil]; simp
  | c :: r, 0, acc => by
    by_cases h : pre S (c :: r) = true
    · rw [spl_hit h, List.map_cons, List.sum_cons, List.length_cons]
      have := spl_sum (S := S) r (S.length - 1) []
      rw [List.length_nil] at this
      omega
    · have h : pre S (c :: r) = false := by
        cases hh : pre S (c :: r) with
        | true => exact absurd hh h
        | false => rfl
      rw [spl_miss h, List.length_cons]
      have := spl_sum (S := S) r 0 (acc ++ [c])
      rw [List.length_append, List.length_singleton] at this
      omega
  | c :: r, k + 1, acc => by
    have := spl_sum (S := S) r k acc
    show ((spl S k acc r).map fun p => p.length + 1).sum ≤ _
    rw [List.length_cons]
    omega
theorem split_sum {y : Str} (s : Sep y) (x : Str) : ((Txt.split x y).map fun p => p.length + 1).sum ≤ x.length + 1 := by
  have h := spl_sum (S := tl y) (tl x) 0 []
  rw [← split_eq s, List.map_map, List.length_nil, ← len_tl] at h
  have e : ((fun p : List Nat => p.length + 1) ∘ tl) = fun p : Str => p.length + 1 := by
    funext p
    show (tl p).length + 1 = _
    rw [len_tl]
  rw [e] at h
  omega
theorem bytesOf_some {row : Str} {n : Nat} {bs : List Int} (h : bytesOf row = some (n, bs)) : bs.length ≤ row.length + 1 ∧ B8 bs ∧ n ≤ 99999 := by
  unfold bytesOf at h
  dsimp only at h
  by_cases c : (((Txt.split row " : ").length = 2 ∨ (Txt.split row " : ").length = 3) ∧ (1 ≤ (tl ((Txt.split row " : ").getD 0 "")).length ∧ (tl ((Txt.split row " : ").getD 0 "")).length ≤ 5) ∧ (tl ((Txt.split row " : ").getD 0 "")).all isDg = true ∧ (wordsOf ((Txt.split row " : ").getD 1 "")).all isWord = true)
  · rw [if_pos c] at h
    have h := Option.some.inj h
    injection h with h1 h2
    obtain ⟨c1, c2, c3, c4⟩ := c
    have hl1 : (1 : Nat) < (Txt.split row " : ").length := by omega
    have hm1 : (Txt.split row " : ").getD 1 "" ∈ Txt.split row " : " := by
      rw [List.getD_eq_getElem?_getD, List.getElem?_eq_getElem hl1]
      exact List.getElem_mem hl1
    have hp1 := split_piece sep_c hm1
    refine ⟨?_, fun x hx => ?_, ?_⟩
    · rw [← h2, List.length_map]
      unfold wordsOf
      split
      · exact Nat.zero_le _
      · have := split_count sep_s ((Txt.split row " : ").getD 1 "")
        omega
    · rw [← h2] at hx
      obtain ⟨w, hw, rfl⟩ := List.mem_map.mp hx
      have := word_hx (List.all_eq_true.mp c4 w hw)
      exact ⟨this.2.1, this.2.2⟩
    · rw [← h1]
      have val : ∀ (l : List Nat) (a : Nat), l.all isDg = true → l.foldl (fun a c => 10 * a + (c - 48)) a ≤ (a + 1) * 10 ^ l.length - 1 := by
        intro l
        induction l with
        | nil => intro a _; simp
        | cons c r ih =>
          intro a hd
          rw [List.all_cons, Bool.and_eq_true] at hd
          have hc := hd.1
          unfold isDg at hc
          simp at hc
          rw [List.foldl_cons, List.length_cons]
          refine Nat.le_trans (ih _ hd.2) ?_
          have : (10 * a + (c - 48) + 1) * 10 ^ r.length ≤ (a + 1) * 10 ^ (r.length + 1) := by
            rw [Nat.pow_succ, Nat.mul_comm (10 ^ r.length) 10, ← Nat.mul_assoc]
            exact Nat.mul_le_mul_right _ (by omega)
          omega
      have hv := val (tl ((Txt.split row " : ").getD 0 "")) 0 c3
      have hpow : 10 ^ (tl ((Txt.split row " : ").getD 0 "")).length ≤ 10 ^ 5 := Nat.pow_le_pow_right (by decide) c2.2
      unfold numV
      have : (10 : Nat) ^ 5 = 100000 := by decide
      omega
  · rw [if_neg c] at h
    cases h
theorem told_some {row : Str} {n : Nat} {bs : List Int} (h : told row = some (n, bs)) : bs.length ≤ row.length + 1 ∧ B8 bs ∧ n ≤ 99999 := by
  unfold told at h
  by_cases c : hasCC row = true
  · rw [if_pos c] at h
    have h := Option.some.inj h
    injection h with h1 h2
    subst h1
    subst h2
    exact ⟨Nat.zero_le _, (fun x hx => by cases hx), by decide⟩
  · rw [if_neg c] at h
    exact bytesOf_some h
theorem cells_len (q : Nat × List Int) : (cells q).length = q.2.length := by
  unfold cells
  simp
theorem cellsO_len (r : Str) : (cellsO (told r)).length ≤ r.length + 1 := by
  cases h : told r with
  | none => exact Nat.zero_le _
  | some q =>
    have := (told_some (n := q.1) (bs := q.2) h).1
    show (cells q).length ≤ _
    rw [cells_len]
    exact this
theorem allCells_len : ∀ rows : List Str, (allCells rows).length ≤ (rows.map fun p => p.length + 1).sum
  | [] => Nat.le_refl _
  | r :: rs => by
    have ih := allCells_len rs
    have := cellsO_len r
    rw [allCells_cons, List.length_append, List.map_cons, List.sum_cons]
    omega
theorem allCells_b8 : ∀ (rows : List Str) (c : Nat × Int), c ∈ allCells rows → (0 ≤ c.2 ∧ c.2 < 256)
  | [], c, h => by cases h
  | r :: rs, c, h => by
    rw [allCells_cons] at h
    rcases List.mem_append.mp h with z | z
    · cases ht : told r with
      | none => rw [ht] at z; cases z
      | some q =>
        rw [ht] at z
        have h2 := (told_some (n := q.1) (bs := q.2) ht).2.1
        have z : c ∈ cells q := z
        unfold cells at z
        obtain ⟨i, hi, e⟩ := List.mem_mapIdx.mp z
        rw [← e]
        exact h2 _ (List.getElem_mem hi)
    · exact allCells_b8 rs c z
theorem cellAt_b8 {rows : List Str} {a : Nat} : 0 ≤ ((cellAt (allCells rows) a).getD 0) ∧ ((cellAt (allCells rows) a).getD 0) < 256 := by
  unfold cellAt
  cases h : (allCells rows).reverse.find? fun c => decide (c.1 = a) with
  | none => exact ⟨by decide, by decide⟩
  | some c => exact allCells_b8 rows c (List.mem_reverse.mp (List.mem_of_find?_eq_some h))
theorem imgOf_img {rows : List Str} : Img (imgOf (allCells rows)) := by
  refine ⟨fun x hx => ?_, ?_, ?_⟩
  · obtain ⟨a, ha, rfl⟩ := List.mem_map.mp hx
    exact cellAt_b8
  · unfold imgOf
    rw [List.length_map, List.length_range]
    omega
  · unfold imgOf
    rw [List.length_map, List.length_range]
    omega
/-! ### what readL answers -/
section
variable {t : Str} {i : Nat}
theorem readL_1 (h : firstBad (Txt.split t "\n").dropLast 0 = some i) : readL t = .error i := by
  unfold readL
  dsimp only
  rw [h]
theorem readL_2 (h : firstBad (Txt.split t "\n").dropLast 0 = none) (h2 : (Txt.split t "\n").getLastD "" ≠ "" ∨ allCells (Txt.split t "\n").dropLast = []) : readL t = .error (Txt.split t "\n").dropLast.length := by
  unfold readL
  dsimp only
  rw [h]
  exact if_pos h2
theorem readL_3 (h : firstBad (Txt.split t "\n").dropLast 0 = none) (h2 : ¬ ((Txt.split t "\n").getLastD "" ≠ "" ∨ allCells (Txt.split t "\n").dropLast = [])) (h3 : firstDiff (Txt.split t "\n").dropLast (rowsL (imgOf (allCells (Txt.split t "\n").dropLast))) 0 = some i) : readL t = .error i := by
  unfold readL
  dsimp only
  rw [h]
  dsimp only
  rw [if_neg h2, h3]
theorem readL_4 (h : firstBad (Txt.split t "\n").dropLast 0 = none) (h2 : ¬ ((Txt.split t "\n").getLastD "" ≠ "" ∨ allCells (Txt.split t "\n").dropLast = [])) (h3 : firstDiff (Txt.split t "\n").dropLast (rowsL (imgOf (allCells (Txt.split t "\n").dropLast))) 0 = none)
    (h4 : (Txt.split t "\n").dropLast.length < (rowsL (imgOf (allCells (Txt.split t "\n").dropLast))).length) : readL t = .error (Txt.split t "\n").dropLast.length := by
  unfold readL
  dsimp only
  rw [h]
  dsimp only
  rw [if_neg h2, h3]
  exact if_pos h4
theorem readL_5 (h : firstBad (Txt.split t "\n").dropLast 0 = none) (h2 : ¬ ((Txt.split t "\n").getLastD "" ≠ "" ∨ allCells (Txt.split t "\n").dropLast = [])) (h3 : firstDiff (Txt.split t "\n").dropLast (rowsL (imgOf (allCells (Txt.split t "\n").dropLast))) 0 = none)
    (h4 : ¬ (Txt.split t "\n").dropLast.length < (rowsL (imgOf (allCells (Txt.split t "\n").dropLast))).length) : readL t = .ok (imgOf (allCells (Txt.split t "\n").dropLast)) := by
  unfold readL
  dsimp only
  rw [h]
  dsimp only
  rw [if_neg h2, h3]
  exact if_neg h4
end
theorem firstBad_at : ∀ {rows : List Str} {i k : Nat}, (∀ j, j < i → told (rows.getD j "") ≠ none) → i < rows.length → told (rows.getD i "") = none → firstBad rows k = some (k + i)
  | r :: rs, 0, k, _, _, h => by
    have h : told r = none := h
    unfold firstBad
    rw [h]
    rfl
  | r :: rs, i + 1, k, ha, hi, h => by
    have h0 : told r ≠ none := ha 0 (Nat.succ_pos _)
    have ih := firstBad_at (rows := rs) (i := i) (k := k + 1) (fun j hj => ha (j + 1) (Nat.succ_lt_succ hj)) (Nat.lt_of_succ_lt_succ hi) h
    unfold firstBad
    cases e : told r with
    | none => exact absurd e h0
    | some q =>
      show firstBad rs (k + 1) = _
      rw [ih]
      congr 1
      omega
theorem firstBad_none : ∀ {rows : List Str} {k : Nat}, (∀ j, j < rows.length → told (rows.getD j "") ≠ none) → firstBad rows k = none
  | [], _, _ => rfl
  | r :: rs, k, ha => by
    have h0 : told r ≠ none := ha 0 (Nat.succ_pos _)
    unfold firstBad
    cases e : told r with
    | none => exact absurd e h0
    | some q => exact firstBad_none fun j hj => ha (j + 1) (Nat.succ_lt_succ hj)
theorem firstDiff_at : ∀ {rows due : List Str} {i k : Nat}, (∀ j, j < i → j < due.length ∧ rows.getD j "" = due.getD j "") → i < rows.length → (due.length = i ∨ (i < due.length ∧ rows.getD i "" ≠ due.getD i "")) → firstDiff rows due k = some (k + i)
  | r :: rs, [], 0, k, _, _, _ => rfl
  | r :: rs, [], i + 1, k, ha, _, _ => absurd (ha 0 (Nat.succ_pos _)).1 (by decide)
  | r :: rs, d :: ds, 0, k, _, _, h => by
    rcases h with h | h
    · cases h
    · have h2 : r ≠ d := h.2
      unfold firstDiff
      rw [if_neg h2]
      rfl
  | r :: rs, d :: ds, i + 1, k, ha, hi, h => by
    have h0 : r = d := (ha 0 (Nat.succ_pos _)).2
    have ih := firstDiff_at (rows := rs) (due := ds) (i := i) (k := k + 1) (fun j hj => by
      have := ha (j + 1) (Nat.succ_lt_succ hj)
      exact ⟨Nat.lt_of_succ_lt_succ this.1, this.2⟩) (Nat.lt_of_succ_lt_succ hi) (by
      rcases h with h | h
      · exact .inl (Nat.succ.inj h)
      · exact .inr ⟨Nat.lt_of_succ_lt_succ h.1, h.2⟩)
    unfold firstDiff
    rw [if_pos h0, ih]
    congr 1
    omega
theorem firstDiff_none : ∀ {rows due : List Str} {k : Nat}, (∀ j, j < rows.length → j < due.length ∧ rows.getD j "" = due.getD j "") → firstDiff rows due k = none
  | [], _, _, _ => rfl
  | r :: rs, [], k, ha => absurd (ha 0 (Nat.succ_pos _)).1 (by decide)
  | r :: rs, d :: ds, k, ha => by
    have h0 : r = d := (ha 0 (Nat.succ_pos _)).2
    unfold firstDiff
    rw [if_pos h0]
    exact firstDiff_none fun j hj => by
      have := ha (j + 1) (Nat.succ_lt_succ hj)
      exact ⟨Nat.lt_of_succ_lt_succ this.1, this.2⟩
end BT
/-! The walk, 14: read_listing. -/
namespace BT
open PySem PySem.Spec PyProof.Rows L2 Evl TL
/-- BadText, as the top has left it -/
def Btx (K : PySem.W.Frag) (mg : Str → Option Value) (C : Addr) : Prop := ∃ D fI fd, BTx K mg D C fI ∧ Fun K "__init__" "BadText.__init__" sInit fI fd ∧ Binds K fd ["self", "row"] []
section
variable {P : Program} {w : World} {K : PySem.W.Frag} {mg : Str → Option Value} {base : Heap} {C : Addr}
theorem ok_read_listing (T : Txt K mg) (Cc : Txc K w mg) (B : Btx K mg C) : Own P w K mg base (L2.CX P w) 12 "read_listing" ["text"] (spReadListing C K) := own_of T.readListing fun f fd F => by
  obtain ⟨D0, fI, fdI, BT, FI, bI⟩ := B
  have GI := ok_init (P := P) (w := w) (base := base) FI BT
  have G1 := ok_bytes_of (P := P) (w := w) (base := base) T
  have G2 := ok_listing_rows (P := P) (base := base) T Cc
  refine F.okX scReadListing (fun vs H Q E h => ?_) (fun cdv A outer s H vs Q E hr h => ?_)
  · obtain ⟨v, rfl, _⟩ := h
    rfl
  · obtain ⟨v, rfl, h⟩ := h
    have hr1 : Room 1 _ := hr.mono (by decide)
    have hr2 : Room 2 _ := hr.mono (by decide)
    have hr10 : Room 10 _ := hr.mono (by decide)
    have hu := hu_of hr
    refine ⟨_, pss_cons (ps_if (pt_not (pt_val (pe_callB call_isi (by rfl) T.isinstance (by decide +kernel) (pa_cons (pv 0) (pa_cons (pe_ty (n := "str") T.str (by decide +kernel)) pa_nil))))) (pss_one (ps_raiseBT rfl BT GI bI hr2 (takes_of rfl rfl rfl rfl) pe_int)) pss_nil)
      (pss_cons (ps_asg (pe_split (pv 0) pe_str) (pg_star rfl (pgs_cons (pg_name (i := 1) scReadListing.nd rfl (Or.inl rfl)) (pgs_cons (pg_name (i := 2) scReadListing.nd rfl (Or.inl rfl)) pgs_nil))))
      (pss_cons (ps_set (i := 3) scReadListing.nd rfl (.inr rfl) pe_dnewK)
      (pss_cons (ps_for (passes_of rfl) rfl (pi_enum (by rfl) T.enumerate (pa_cons (pv 1) pa_nil)) (pg_tup rfl (pgs_cons (pg_name (i := 4) scReadListing.nd rfl (Or.inl rfl)) (pgs_cons (pg_name (i := 5) scReadListing.nd rfl (Or.inl rfl)) pgs_nil)))
        (pss_cons (ps_set (i := 6) scReadListing.nd rfl (.inr rfl) (PE_up (pe_ifExp (pt_cmpR op_notin_str pe_str (pv 5) (by rfl)) (pe_own G1 hr1 pass0 (pa_cons (pv 5) pa_nil)) (pe_tup (pa_cons pe_int (pa_cons (pe_lst pa_nil) pa_nil))))))
        (pss_cons (ps_if (pt_cmpR op_isN (pv 6) pe_non (nomark _)) (pss_one (ps_raiseBT rfl BT GI bI hr2 (takes_of rfl rfl rfl rfl) (pv 4))) pss_nil)
        (pss_one (ps_expr (pe_bm PySem.F.plainAttrs_dict PySem.F.slot_dict_update PySem.F.type_dict_update mt_dupdate (pv 3) (pa_cons
          (pe_dc (own := [("spot", 9), ("byte", 10)]) (g := gTup K 2 (gCons (gName 9) (gCons (gName 10) gNil))) (tt := tYes) rfl scReadListing.nd (pi_enum (by rfl) T.enumerate (pa_cons (pe_ix ix_tup (pv 6) pe_int (fun _ _ => rfl)) pa_nil)) (blkOk_by (N := nReadListing) (sc := defScope sReadListing) (by decide +kernel))
            (fun _ _ _ _ _ => pg_tup rfl (pgs_cons (pg_name (i := 9) scReadListing.nd rfl (Or.inl rfl)) (pgs_cons (pg_name (i := 10) scReadListing.nd rfl (Or.inl rfl)) pgs_nil))) (fun _ _ _ _ _ => pts_nil)
            (fun _ _ _ _ _ => pe_op op_add (pe_ix (r := rIxT K) ix_tup (pv 6) pe_int (fun _ _ => rfl)) (pv 9)) (fun _ _ _ _ _ => pv 10)) pa_nil)))))))
      (pss_cons (ps_if (PW.pt (pw_or (pt_cmpR op_ne (pv 2) pe_str (nomark _)) (pw_or1 (pt_cmpR (op_eqD0 (Nat.lt_of_le_of_lt (Nat.le_add_right _ 64) hr.units)) (pv 3) pe_dnewK (nomark _))))) (pss_one (ps_raiseBT rfl BT GI bI hr2 (takes_of rfl rfl rfl rfl) (pe_callB call_len_seq (by rfl) T.len PySem.boot_len (pa_cons (pv 1) pa_nil)))) pss_nil)
      (pss_cons (ps_set (i := 7) scReadListing.nd rfl (.inl rfl) (pe_callTy (r := rBytesL K) (call_bytes_list rfl) (by rfl) T.bytes (by decide +kernel) (pa_cons
          (pe_lc (own := [("at", 4)]) (g := gName 4) (tt := tYes) rfl scReadListing.nd (pi_range1 rfl T.range (pa_cons (pe_callB (call_min2 rfl) (by rfl) T.min (by decide +kernel) (pa_cons pe_int (pa_cons (pe_op op_add (pe_callB (cr_maxDk rfl) (by rfl) T.max (by decide +kernel) (pa_cons (pv 3) pa_nil)) pe_int) pa_nil))) pa_nil)) (blkOk_by (N := nReadListing) (sc := defScope sReadListing) (by decide +kernel))
            (fun _ _ _ _ _ => pg_name (i := 4) scReadListing.nd rfl (Or.inl rfl)) (fun _ _ _ _ _ => pts_nil) (fun _ _ _ _ _ => pe_dget2 hu (pv 3) (pv 4) pe_int (by constructor <;> rfl))) pa_nil)))
      (pss_cons (ps_set (i := 8) scReadListing.nd rfl (.inl rfl) (pe_own G2 hr10 pass0 (pa_cons (pv 7) pa_nil)))
      (pss_cons (ps_for (passes_of rfl) rfl (pi_enum (by rfl) T.enumerate (pa_cons (pv 1) pa_nil)) (pg_tup rfl (pgs_cons (pg_name (i := 4) scReadListing.nd rfl (Or.inl rfl)) (pgs_cons (pg_name (i := 5) scReadListing.nd rfl (Or.inl rfl)) pgs_nil)))
        (pss_one (ps_if (PW.pt (pw_or (pt_cmpR op_eq (pv 4) (pe_callB call_len_seq (by rfl) T.len PySem.boot_len (pa_cons (pv 8) pa_nil)) (nomark _)) (pw_or1 (pt_cmpR op_ne (pv 5) (pe_ix ix_list (pv 8) (pv 4) (fun _ _ => rfl)) (nomark _)))))
          (pss_one (ps_raiseBT rfl BT GI bI hr2 (takes_of rfl rfl rfl rfl) (pv 4))) pss_nil)))
      (pss_cons (ps_if (pt_cmpR op_gt (pe_callB call_len_seq (by rfl) T.len PySem.boot_len (pa_cons (pv 8) pa_nil)) (pe_callB call_len_seq (by rfl) T.len PySem.boot_len (pa_cons (pv 1) pa_nil)) (nomark _)) (pss_one (ps_raiseBT rfl BT GI bI hr2 (takes_of rfl rfl rfl rfl) (pe_callB call_len_seq (by rfl) T.len PySem.boot_len (pa_cons (pv 1) pa_nil)))) pss_nil)
      (pss_one (ps_ret (pv 7))))))))))), ?_⟩
    have hz0 : 0 ≤ sizeLine := by decide
    have hz2 : 2 ≤ sizeLine := by decide
    refine Or.elim h.symm (fun ⟨ty, hty, hk, hE⟩ => ⟨_, rfl, _, _, _, _, false, rfl, .ty "str", hty, hk, false, rfl, iteT fun d hd => hE _ d (Ex.new hd) upd_same⟩) fun ⟨t, et, hl, q1, q2⟩ => ?_
    subst et
    refine ⟨_, rfl, _, _, _, _, true, rfl, .ty "str", .base (.str _), kit_ty (by decide +kernel), true, rfl, iteF ?_⟩
    obtain ⟨rows, last, hps⟩ : ∃ rows last, Txt.split t "\n" = rows ++ [last] := by
      rcases snoc_cases (Txt.split t "\n") with z | ⟨a, b, z⟩
      · have := split_pos sep_n t
        rw [z] at this
        exact absurd this (by decide)
      · exact ⟨a, b, z⟩
    have hcnt := split_count sep_n t
    have hsum := split_sum sep_n t
    have hpie : ∀ p ∈ Txt.split t "\n", p.length ≤ t.length := fun p hp => split_piece sep_n hp
    have R1 := @readL_1 t
    have R2 := @readL_2 t
    have R3 := @readL_3 t
    have R4 := @readL_4 t
    have R5 := @readL_5 t
    have hgl : (rows ++ [last]).getLastD "" = last := by simp
    rw [hps, List.dropLast_concat] at R1 R2 R3 R4 R5
    rw [hgl] at R2 R3 R4 R5
    rw [hps] at hcnt hsum hpie
    rw [List.length_append, List.length_singleton] at hcnt
    rw [List.map_append, List.sum_append] at hsum
    have hcl := allCells_len rows
    have hcl2 : (allCells rows).length ≤ 16000001 := by omega
    refine ⟨_, rfl, ⟨_, rfl⟩, t, "\n", rfl, rfl, by decide +kernel, by rw [sizeLine_eq]; omega, fun p hp => ?_⟩
    rw [hps]
    have hdr : ((rows ++ [last]).map V.str).drop (((rows ++ [last]).map V.str).length - 1) = [.str last] := by simp
    have htk : ((rows ++ [last]).map V.str).take (((rows ++ [last]).map V.str).length - 1) = rows.map V.str := by simp
    refine ⟨p, _, rfl, SqL.of upd_same, by simp, fun rp hrp => ?_⟩
    rw [hdr, htk]
    refine ⟨_, _, rfl, _, _, rfl, rfl, ?_⟩
    have e0 := (Ex.new (o := .lst ((rows ++ [last]).map V.str)) hp).trans (Ex.new (o := .lst (rows.map V.str)) hrp)
    have hr0 : upd (upd H p (.lst ((rows ++ [last]).map V.str))) rp (.lst (rows.map V.str)) rp = some (.lst (rows.map V.str)) := upd_same
    generalize upd (upd H p (.lst ((rows ++ [last]).map V.str))) rp (.lst (rows.map V.str)) = H0 at e0 hr0 ⊢
    clear hrp hp hdr htk
    intro d hd
    have hdH : H d = none := fresh_back e0 hd
    have hdr : d ≠ rp := fun z => by
      rw [z, hr0] at hd
      cases hd
    have rt : ∀ i, i < rows.length → (rows.map V.str)[i]? = some (.str (rows.getD i "")) ∧ (rows.getD i "").length ≤ 16000000 := fun i hi => by
      rw [List.getElem?_map, List.getD_eq_getElem?_getD, List.getElem?_eq_getElem hi]
      refine ⟨rfl, ?_⟩
      have := hpie rows[i] (List.mem_append_left _ (List.getElem_mem hi))
      show (rows[i]).length ≤ _
      omega
    refine ⟨_, rfl, rp, _, rfl, SqL.of ((Ex.new hd) _ _ hr0), ?_⟩
    have e1 : Ex H (upd H0 d (.dK [])) := e0.trans (Ex.new hd)
    refine for_it (walk_enum (xs := rows.map V.str)) (fun i σ H' => ∃ o4 o5 o6, Ex H H' ∧ H' rp = some (.lst (rows.map V.str)) ∧ H' d = some (.dK (mergeK [] (kvsOf (allCells (rows.take i))))) ∧ (∀ j, j < i → told (rows.getD j "") ≠ none) ∧
        σ = [some (.str t), some (.ref rp), some (.str last), some (.ref d), o4, o5, o6, none, none, none, none])
      ⟨none, none, none, e1, (Ex.new hd) _ _ hr0, upd_same, (fun j hj => by omega), rfl⟩ (fun i σ H' _ h => by obtain ⟨o4, o5, o6, h1, h2, h3⟩ := h; exact SqL.of h2) ?_ ?_
    · intro i x σ H2 H3 hi h y
      obtain ⟨o4, o5, o6, e2, hr2, hd2, hall, rfl⟩ := h
      obtain ⟨T1, kx, vx, rfl, nT, rfl, ex, ey⟩ := y
      rw [List.length_map] at hi
      obtain ⟨hrt, hrl⟩ := rt i hi
      have ex : V.int (i : Int) = kx := Option.some.inj ex
      subst ex
      have ey : V.str (rows.getD i "") = vx := Option.some.inj (hrt.symm.trans ey)
      subst ey
      have htake := allCells_take hi
      have hbad : told (rows.getD i "") = none → readL t = .error i := fun h => by
        have := R1 (firstBad_at (k := 0) hall hi h)
        rwa [Nat.zero_add] at this
      have hpre : (allCells (rows.take i)).length + (cellsO (told (rows.getD i ""))).length ≤ 16000001 := by
        have h1 := allCells_len (rows.take (i + 1))
        rw [htake, List.length_append] at h1
        have h2 : ((rows.take (i + 1)).map fun p => p.length + 1).sum ≤ (rows.map fun p => p.length + 1).sum := by
          conv => rhs; rw [← List.take_append_drop (i + 1) rows, List.map_append, List.sum_append]
          omega
        omega
      have eT : Ex H2 (upd H2 T1 (.tup [.int (i : Int), .str (rows.getD i "")])) := Ex.new nT
      refine ⟨T1, _, rfl, st_of upd_same, rfl, _, _, rfl, _, _, rfl, rfl, ?_⟩
      have hr3 := eT _ _ hr2
      have hd3 := eT _ _ hd2
      have e3 := e2.trans eT
      generalize upd H2 T1 (.tup [.int (i : Int), .str (rows.getD i "")]) = H3 at hr3 hd3 e3 ⊢
      clear eT hr2 hd2 e2 hrt
      have hsnoc : ∀ j, j < i + 1 → told (rows.getD i "") ≠ none → told (rows.getD j "") ≠ none := fun j hj h => by
        by_cases e : j = i
        · rw [e]
          exact h
        · exact hall j (by omega)
      generalize rows.getD i "" = row at hrl htake hbad hpre hsnoc ⊢
      refine ⟨fun v H4 => Ex H3 H4 ∧ ((told row = none ∧ v = .non) ∨ ∃ n bs tt ll, told row = some (n, bs) ∧ v = .ref tt ∧ H4 tt = some (.tup [.int ((n : Nat) : Int), .ref ll]) ∧ H4 ll = some (.lst (bs.map V.int))), ?_, ?_⟩
      · refine ⟨_, rfl, _, _, rfl, rfl, _, rfl, ?_⟩
        show if (!hasCC row) = true then _ else _
        cases hc : hasCC row with
        | false =>
          have ht : told row = bytesOf row := by
            unfold told
            rw [hc]
            rfl
          refine iteT ⟨_, rfl, row, rfl, hrl, fun hn H4 e4 => ⟨e4, .inl ⟨by rw [ht]; exact hn, rfl⟩⟩, fun n bs hs H4 tt ll e4 h1 h2 => ⟨e4, .inr ⟨n, bs, tt, ll, by rw [ht]; exact hs, rfl, h1, h2⟩⟩⟩
        | true =>
          have ht : told row = some (0, []) := by
            unfold told
            rw [hc]
            rfl
          refine iteF ⟨hz0, fun ll hll => ⟨hz2, fun tt htt => ⟨(Ex.new hll).trans (Ex.new htt), .inr ⟨0, [], tt, ll, ht, rfl, upd_same, ?_⟩⟩⟩⟩
          exact Ex.new htt _ _ upd_same
      · rintro v H4 ⟨e4, hv⟩
        have hr4 := e4 _ _ hr3
        have hd4 := e4 _ _ hd3
        have e34 := e3.trans e4
        refine ⟨_, rfl, rfl, _, rfl, ?_⟩
        rcases hv with ⟨hn, rfl⟩ | ⟨n, bs, tt, ll, hs, rfl, htt, hll⟩
        · rw [decide_eq_true rfl]
          exact iteT ⟨_, rfl, fun dd hdd => q2 _ (hbad hn) _ dd (e34.trans (Ex.new hdd)) upd_same⟩
        · rw [decide_eq_false (by intro z; cases z)]
          refine iteF ⟨_, rfl, .inr (.inr (.inl ⟨rfl, .inl ⟨_, hd4⟩⟩)), ?_⟩
          rw [hs] at htake hpre
          have hco : cellsO (some (n, bs)) = cells (n, bs) := rfl
          rw [hco, cells_len] at hpre
          rw [hco] at htake
          have hpre : (allCells (rows.take i)).length + bs.length ≤ 16000001 := hpre
          refine ⟨_, rfl, tt, _, _, _, rfl, rfl, st_of htt, atI_nat (j := 1) rfl, ll, _, rfl, SqL.of hll, fun D hD => ?_⟩
          refine dc_pair (walk_enum (xs := bs.map V.int)) (fun j => .int (j : Int)) (fun j => .int (bs.getD j 0)) (fun j => .int (bs.getD j 0)) (fun j => (n : Int) + (j : Int)) (fun _ _ => rfl) (fun j hj => ?_) (fun _ _ => rfl) (by rw [List.length_map, sizeLine_eq]; omega) (fun a b h1 h2 => by omega) hD (fun H' e => SqL.of (e _ _ hll)) ?_ (fun j H' _ _ Q q => ⟨_, rfl, q _ (Ex.refl _)⟩) ?_
          · rw [List.length_map] at hj
            rw [List.getElem?_map, List.getD_eq_getElem?_getD, List.getElem?_eq_getElem hj]
            rfl
          · intro j H' hj e Q q
            exact ⟨_, rfl, tt, _, _, _, rfl, rfl, st_of (e _ _ htt), atI_nat (j := 0) rfl, _, rfl, _, _, rfl, rfl, q _ (Ex.refl _)⟩
          · intro H5 e5 hD5
            rw [List.length_map, ← kvsOf_cells] at hD5
            have hd5 := e5 _ _ hd4
            have hne : d ≠ D := fun z => by
              rw [← z, hd4] at hD
              cases hD
            refine ⟨d, D, _, _, rfl, rfl, hne, hd5, hD5, ?_, ?_⟩
            · have h1 := length_mergeK (kvsOf (allCells (rows.take i))) []
              have h2 : (kvsOf (allCells (rows.take i))).length = (allCells (rows.take i)).length := List.length_map ..
              have h3 : (kvsOf (cells (n, bs))).length = bs.length := by
                unfold kvsOf
                rw [List.length_map, cells_len]
              rw [h3, sizeLine_eq]
              have h1 : (mergeK [] (kvsOf (allCells (rows.take i)))).length ≤ 0 + (kvsOf (allCells (rows.take i))).length := h1
              omega
            · refine ⟨_, _, _, Ex.mut (e34.trans e5) hdH, ?_, ?_, (fun j hj => hsnoc j hj (by rw [hs]; intro z; cases z)), rfl⟩
              · rw [upd_ne hdr.symm]
                exact e5 _ _ hr4
              · rw [upd_same, merge_app, ← kvsOf_app, htake]
    · intro σ H2 h
      obtain ⟨o4, o5, o6, e2, hr2, hd2, hall, rfl⟩ := h
      rw [List.length_map] at hd2 hall
      rw [List.take_length] at hd2
      have hfb : firstBad rows 0 = none := firstBad_none hall
      clear hall
      generalize hcs : allCells rows = cs at R2 R3 R4 R5 hd2 hcl hcl2
      have himg : Img (imgOf cs) := by
        rw [← hcs]
        exact imgOf_img
      refine ⟨_, rfl, rfl, _, rfl, ?_⟩
      by_cases hlast : ¬ (last = "")
      · rw [decide_eq_false (by intro z; injection z with z; exact hlast z)]
        refine iteT (iteT ⟨_, rfl, rp, _, rfl, .inl (SqL.of hr2), fun dd hdd => ?_⟩)
        rw [List.length_map]
        exact q2 _ (R2 hfb (.inl hlast)) _ dd (e2.trans (Ex.new hdd)) upd_same
      have hlast := Decidable.not_not.mp hlast
      rw [decide_eq_true (by rw [hlast])]
      refine iteF ⟨_, rfl, fun d2 hd2' => ⟨d, d2, _, rfl, rfl, (Ex.new hd2') _ _ hd2, upd_same, _, rfl, ?_⟩⟩
      rw [merge_empty]
      have e3 := e2.trans (Ex.new (o := .dK []) hd2')
      have hd3 := (Ex.new (o := .dK []) hd2') _ _ hd2
      have hr3 := (Ex.new (o := .dK []) hd2') _ _ hr2
      generalize upd H2 d2 (.dK []) = H3 at e3 hd3 hr3 ⊢
      clear hd2' hd2 hr2 e2
      by_cases hne : cs = []
      · rw [decide_eq_true hne]
        refine iteT ⟨_, rfl, rp, _, rfl, .inl (SqL.of hr3), fun dd hdd => ?_⟩
        rw [List.length_map]
        exact q2 _ (R2 hfb (.inr hne)) _ dd (e3.trans (Ex.new hdd)) upd_same
      rw [decide_eq_false hne]
      have R2' : ¬ (last ≠ "" ∨ cs = []) := by
        rintro (z | z)
        · exact z hlast
        · exact hne z
      refine iteF ?_
      obtain ⟨mk, hk1, hk2, hk3⟩ := max_keys hne
      refine ⟨_, rfl, d, _, mk, rfl, hd3, hk1, hk2, fun m hm hmax => ?_⟩
      have hm := hk3 m hm hmax
      subst hm
      refine ⟨_, _, rfl, rfl, _, _, rfl, ?_⟩
      have hmin : (if ((maxAt cs : Nat) : Int) + 1 < 2000 then ((maxAt cs : Nat) : Int) + 1 else 2000) = ((min 2000 (maxAt cs + 1) : Nat) : Int) := by
        split <;> omega
      rw [hmin]
      refine ⟨_, rfl, by omega, by omega, fun D hD => ?_⟩
      refine lc_name (walk_range (lo := 0)) _ (fun i => .int ((cellAt cs i).getD 0)) y_fn (fun _ => rfl) (by rw [Int.toNat_natCast, sizeLine_eq]; omega) hD (fun _ _ => True.intro) ?_ ?_
      · intro i H' hi e Q q
        refine ⟨_, rfl, d, rfl, .inl ⟨_, .inl (e _ _ hd3)⟩, _, rfl, _, DGet.k (k := Sum.inl (0 + (i : Int))) (e _ _ hd3), ?_⟩
        rw [Int.zero_add, cellAt_get]
        have := q _ (Ex.refl H')
        cases hcell : cellAt cs i with
        | none => rw [hcell] at this; exact this
        | some b => rw [hcell] at this; exact this
      intro H4 e4 hD4
      rw [Int.toNat_natCast] at hD4
      refine ⟨D, imgOf cs, rfl, SqL.of (by rw [hD4]; unfold imgOf; rw [List.map_map]; rfl), himg.b8, ?_⟩
      refine ⟨_, rfl, imgOf cs, rfl, himg, fun H5 dl e5 hdl0 hdl => ?_⟩
      have e35 := (e3.trans e4).trans e5
      have hr5 := e5 _ _ (e4 _ _ hr3)
      clear hD4 hD hdl0 hd3 hk1 hk2 hk3 hmax
      generalize hdue : rowsL (imgOf cs) = due at R3 R4 R5 hdl
      have dt : ∀ i, i < due.length → (due.map V.str)[i]? = some (.str (due.getD i "")) := fun i hi => by
        rw [List.getElem?_map, List.getD_eq_getElem?_getD, List.getElem?_eq_getElem hi]
        rfl
      refine ⟨_, rfl, rp, _, rfl, SqL.of hr5, ?_⟩
      refine for_it (walk_enum (xs := rows.map V.str)) (fun i σ H' => ∃ o4 o5, Ex H H' ∧ H' rp = some (.lst (rows.map V.str)) ∧ H' dl = some (.lst (due.map V.str)) ∧ (∀ j, j < i → j < due.length ∧ rows.getD j "" = due.getD j "") ∧
          σ = [some (.str t), some (.ref rp), some (.str last), some (.ref d), o4, o5, o6, some (.byt (byteArr (imgOf cs))), some (.ref dl), none, none])
        ⟨_, _, e35, hr5, hdl, (fun j hj => by omega), rfl⟩ (fun i σ H' _ h => by obtain ⟨o4, o5, h1, h2, h3⟩ := h; exact SqL.of h2) ?_ ?_
      · intro i x σ H6 H7 hi h y
        obtain ⟨o4, o5, e6, hr6, hdl6, hall, rfl⟩ := h
        obtain ⟨T1, kx, vx, rfl, nT, rfl, ex, ey⟩ := y
        rw [List.length_map] at hi
        obtain ⟨hrt, hrl⟩ := rt i hi
        have ex : V.int (i : Int) = kx := Option.some.inj ex
        subst ex
        have ey : V.str (rows.getD i "") = vx := Option.some.inj (hrt.symm.trans ey)
        subst ey
        have hdiff : (due.length = i ∨ (i < due.length ∧ rows.getD i "" ≠ due.getD i "")) → readL t = .error i := fun h => by
          have := R3 hfb R2' (firstDiff_at (k := 0) hall hi h)
          rwa [Nat.zero_add] at this
        have eT : Ex H6 (upd H6 T1 (.tup [.int (i : Int), .str (rows.getD i "")])) := Ex.new nT
        refine ⟨T1, _, rfl, st_of upd_same, rfl, _, _, rfl, _, _, rfl, rfl, ?_⟩
        have hr7 := eT _ _ hr6
        have hdl7 := eT _ _ hdl6
        have e7 := e6.trans eT
        generalize upd H6 T1 (.tup [.int (i : Int), .str (rows.getD i "")]) = H7 at hr7 hdl7 e7 ⊢
        clear eT hr6 hdl6 e6
        refine ⟨_, rfl, _, rfl, dl, _, rfl, .inl (SqL.of hdl7), rfl, _, rfl, ?_⟩
        rw [List.length_map]
        by_cases c1 : due.length = i
        · rw [decide_eq_true (by rw [c1])]
          exact iteT (iteT ⟨_, rfl, fun dd hdd => q2 _ (hdiff (.inl c1)) _ dd (e7.trans (Ex.new hdd)) upd_same⟩)
        rw [decide_eq_false (by intro z; injection z with z; omega)]
        have hil : i < due.length := by
          by_cases c2 : i < due.length
          · exact c2
          · exfalso
            by_cases c3 : i = 0
            · omega
            · have := (hall (i - 1) (by omega)).1
              omega
        refine iteF ⟨_, rfl, _, rfl, _, rfl, dl, _, _, _, rfl, rfl, SqL.of hdl7, atI_nat (dt i hil), rfl, _, rfl, ?_⟩
        by_cases c2 : rows.getD i "" = due.getD i ""
        · rw [decide_eq_true (by rw [c2])]
          refine iteF ⟨_, _, e7, hr7, hdl7, fun j hj => ?_, rfl⟩
          by_cases e : j = i
          · rw [e]
            exact ⟨hil, c2⟩
          · exact hall j (by omega)
        · rw [decide_eq_false (by intro z; injection z with z; exact c2 z)]
          exact iteT ⟨_, rfl, fun dd hdd => q2 _ (hdiff (.inr ⟨hil, c2⟩)) _ dd (e7.trans (Ex.new hdd)) upd_same⟩
      · intro σ H6 h
        obtain ⟨o4, o5, e6, hr6, hdl6, hall, rfl⟩ := h
        rw [List.length_map] at hall
        have hfd : firstDiff rows due 0 = none := firstDiff_none hall
        refine ⟨_, rfl, dl, _, rfl, .inl (SqL.of hdl6), _, rfl, rp, _, rfl, .inl (SqL.of hr6), _, _, rfl, rfl, _, rfl, ?_⟩
        rw [List.length_map, List.length_map]
        by_cases c : rows.length < due.length
        · rw [decide_eq_true (show (rows.length : Int) < (due.length : Int) by omega)]
          refine iteT ⟨_, rfl, rp, _, rfl, .inl (SqL.of hr6), fun dd hdd => ?_⟩
          rw [List.length_map]
          exact q2 _ (R4 hfb R2' hfd c) _ dd (e6.trans (Ex.new hdd)) upd_same
        · rw [decide_eq_false (show ¬ (rows.length : Int) < (due.length : Int) by omega)]
          exact iteF ⟨_, rfl, q1 _ (R5 hfb R2' hfd c) _ e6⟩
end
end BT
/-! The law's own defs, 1: cell_at, draw, number, next. -/
namespace BT
open PySem PySem.Spec PyProof.Rows L2 Evl
/-! ### a heap that keeps all but some -/
def Kp (M : List Addr) (H H' : Hp) : Prop := ∀ a o, a ∉ M → H a = some o → H' a = some o
section
variable {M M' : List Addr} {H H1 H2 : Hp} {p : Addr} {o : HO}
theorem Kp.refl : Kp M H H := fun _ _ _ h => h
theorem Kp.trans (a : Kp M H H1) (b : Kp M H1 H2) : Kp M H H2 := fun x o hx h => b x o hx (a x o hx h)
theorem Kp.of (e : Ex H H1) : Kp M H H1 := fun a o _ h => e a o h
theorem Kp.mono (h : ∀ a ∈ M, a ∈ M') (e : Kp M H H1) : Kp M' H H1 := fun a o ha hh => e a o (fun z => ha (h a z)) hh
theorem Kp.put (e : Kp M H H1) (h : p ∈ M) : Kp M H (upd H1 p o) := fun a u ha hh => by
  rw [upd_ne (fun z => ha (by rw [z]; exact h))]
  exact e a u ha hh
theorem Kp.new (e : Kp M H H1) (h : H p = none) : Kp M H (upd H1 p o) := fun a u ha hh => by
  rw [upd_ne (ne_of_none hh h)]
  exact e a u ha hh
theorem Kp.ex (e : Kp [] H H1) : Ex H H1 := fun a o h => e a o (by simp) h
/-- new behind is new before, but for M -/
theorem Kp.back (e : Kp M H H1) (hm : p ∉ M) (h : H1 p = none) : H p = none := by
  cases h1 : H p with
  | none => rfl
  | some u =>
    rw [e p u hm h1] at h
    cases h
theorem rd_kp {K : PySem.W.Frag} (e : Kp M H H1) (hm : p ∉ M) {u : HO} (h : Rd H p u) : Rd H1 p u := by
  rcases h with h | ⟨o, h⟩
  · exact .inl (e p _ hm h)
  · exact .inr ⟨o, e p _ hm h⟩
end
/-! ### the script, the state -/
/-- a list of ints that does not stand in M -/
def Scr (K : PySem.W.Frag) (H : Hp) (a : Addr) (ns : List Int) : Prop := SqL K H a (ns.map V.int)
theorem scr_put {K : PySem.W.Frag} {H : Hp} {a st sa : Addr} {ns : List Int} {by_ n n' : Int} (h : Scr K H a ns) (hs : H st = some (.lst [.ref sa, .int by_, .int n])) : Scr K (upd H st (.lst [.ref sa, .int by_, .int n'])) a ns := by
  rcases h with (h | ⟨od, h⟩) | h
  · refine .inl (.inl ?_)
    rw [upd_ne (ne_of h hs (fun z => ?_))]
    · exact h
    · injection z with z
      cases ns with
      | nil => cases z
      | cons x r => injection z with z _; cases z
  · refine .inl (.inr ⟨od, ?_⟩)
    rw [upd_ne (ne_of h hs (fun z => by cases z))]
    exact h
  · exact .inr h
/-- the state: the script, the place, the count -/
def Stt (K : PySem.W.Frag) (H : Hp) (st : Addr) (z : Addr × List Int) : Prop := ∃ (b n : Int), Scr K H z.1 z.2 ∧ H st = some (.lst [.ref z.1, .int b, .int n]) ∧ 0 ≤ b ∧ 0 ≤ n
theorem Stt.ex {K : PySem.W.Frag} {H H' : Hp} {st : Addr} {z : Addr × List Int} (e : Ex H H') (h : Stt K H st z) : Stt K H' st z := by
  obtain ⟨b, n, h1, h2, h3, h4⟩ := h
  exact ⟨b, n, ex_l e h1, e _ _ h2, h3, h4⟩
theorem Stt.new {K : PySem.W.Frag} {H : Hp} {st p : Addr} {z : Addr × List Int} {o : HO} (h : H p = none) (s : Stt K H st z) : Stt K (upd H p o) st z := s.ex (Ex.new h)
theorem Stt.ne {K : PySem.W.Frag} {H : Hp} {st p : Addr} {z : Addr × List Int} (h : H p = none) (s : Stt K H st z) : p ≠ st := fun e => by
  obtain ⟨b, n, h1, h2, _⟩ := s
  rw [e, h2] at h
  cases h
/-- an object that was new once changes -/
theorem Stt.put {K : PySem.W.Frag} {H0 H : Hp} {st p : Addr} {z : Addr × List Int} {o : HO} (h0 : Stt K H0 st z) (hp : H0 p = none) (s : Stt K H st z) : Stt K (upd H p o) st z := by
  have hne := h0.ne hp
  obtain ⟨b0, n0, k1, _⟩ := h0
  obtain ⟨b, n, h1, h2, h3, h4⟩ := s
  refine ⟨b, n, ?_, by rw [upd_ne hne.symm]; exact h2, h3, h4⟩
  have off : (∃ u, H0 z.1 = some u) → z.1 ≠ p := fun ⟨u, hu⟩ e => by
    rw [e, hp] at hu
    cases hu
  rcases k1 with (k1 | ⟨od, k1⟩) | k1
  · have hz := off ⟨_, k1⟩
    rcases h1 with (h1 | ⟨od, h1⟩) | h1
    · exact .inl (.inl (by rw [upd_ne hz]; exact h1))
    · exact .inl (.inr ⟨od, by rw [upd_ne hz]; exact h1⟩)
    · exact .inr h1
  · have hz := off ⟨_, k1⟩
    rcases h1 with (h1 | ⟨od, h1⟩) | h1
    · exact .inl (.inl (by rw [upd_ne hz]; exact h1))
    · exact .inl (.inr ⟨od, by rw [upd_ne hz]; exact h1⟩)
    · exact .inr h1
  · exact .inr k1
/-! ### promises -/
def spLCellAt (K : PySem.W.Frag) : Sp := fun vs H Q _ => ∃ (a : Addr) (ns : List Int) (k : Int), vs = [.ref a, .int k] ∧ Scr K H a ns ∧ 0 ≤ k ∧ ∀ v : Int, Q (.int v) H
def spLDraw : Sp := fun vs H Q _ => ∃ c k b : Int, vs = [.int c, .int k, .int b] ∧ 0 < b ∧ ∀ v H', 0 ≤ v → v < b → Ex H H' → Q (.int v) H'
def spLNumber : Sp := fun vs H Q _ => ∃ c k b : Int, vs = [.int c, .int k, .int b] ∧ 0 < b ∧ 0 ≤ k ∧ k ≤ 12 ∧ ∀ v H', 0 ≤ v → v < b → Ex H H' → Q (.int v) H'
def spLNext (K : PySem.W.Frag) : Sp := fun vs H Q _ => ∃ (st : Addr) (b : Int) (z : Addr × List Int), vs = [.ref st, .int b] ∧ 0 < b ∧ Stt K H st z ∧ ∀ v H', 0 ≤ v → v < b → Kp [st] H H' → Stt K H' st z → Q (.int v) H'
section
variable {P : Program} {w : World} {K : PySem.W.Frag} {mg : Str → Option Value} {base : Heap}
theorem ok_l_cell (T : Txt K mg) : Own P w K mg base CX0 1 "_law_cell_at" ["_law_script", "_law_k"] (spLCellAt K) := own_of T.lCellAt fun f fd F => by
  refine F.ok scLCellAt (fun vs H Q E h => ?_) (fun cdv A outer s H vs Q E hr h => ?_)
  · obtain ⟨a, ns, k, rfl, _⟩ := h
    rfl
  · obtain ⟨a, ns, k, rfl, hS, hk, q⟩ := h
    refine ⟨_, pss_cons (ps_if (pt_cmpR op_lt (pv 1) (pe_callB call_len_seq (by rfl) T.len PySem.boot_len (pa_cons (pv 0) pa_nil)) (nomark _)) (pss_one (ps_ret (pe_ix ix_list (pv 0) (pv 1) (fun _ _ => rfl)))) pss_nil)
      (pss_one (ps_ret pe_int)), ?_⟩
    refine ⟨_, rfl, _, rfl, a, _, rfl, .inl hS, _, _, rfl, rfl, _, rfl, ?_⟩
    rw [List.length_map]
    by_cases hlt : k < (ns.length : Int)
    · rw [decide_eq_true hlt]
      have hlt2 : k.toNat < ns.length := by omega
      have hat : atI (ns.map V.int) k = some (.int (ns.getD k.toNat 0)) := by
        have h2 : (ns.map V.int)[k.toNat]? = some (.int (ns.getD k.toNat 0)) := by
          rw [List.getElem?_map, List.getD_eq_getElem?_getD, List.getElem?_eq_getElem hlt2]
          rfl
        have := atI_nat h2
        rwa [show ((k.toNat : Nat) : Int) = k by omega] at this
      exact iteT ⟨_, rfl, _, rfl, a, _, _, _, rfl, rfl, hS, hat, q _⟩
    · rw [decide_eq_false hlt]
      exact iteF (q 0)
theorem ok_l_draw (T : Txt K mg) : Own P w K mg base CX0 1 "_law_draw" ["_law_cell", "_law_k", "_law_below"] spLDraw := own_of T.lDraw fun f fd F => by
  refine F.ok scLDraw (fun vs H Q E h => ?_) (fun cdv A outer s H vs Q E hr h => ?_)
  · obtain ⟨c, k, b, rfl, _⟩ := h
    rfl
  · obtain ⟨c, k, b, rfl, hb, q⟩ := h
    refine ⟨_, pss_cons (ps_set (i := 3) scLDraw.nd rfl (.inl rfl) (pe_tup (pa_cons pe_int (pa_cons pe_int (pa_cons pe_int (pa_cons pe_int (pa_cons pe_int (pa_cons pe_int (pa_cons pe_int (pa_cons pe_int (pa_cons pe_int (pa_cons pe_int (pa_cons pe_int (pa_cons pe_int (pa_cons pe_int (pa_cons pe_int (pa_cons pe_int (pa_cons pe_int pa_nil))))))))))))))))))
      (pss_one (ps_ret (pe_op op_mod (pe_callTy call_int1 (by rfl) T.int (by decide +kernel) (pa_cons (pe_op op_mod (pe_callTy call_int1 (by rfl) T.int (by decide +kernel) (pa_cons (pe_op op_add (pe_op op_mul (pv 0) pe_int) (pe_op op_mul (pv 1) pe_int)) pa_nil))
          (pe_ix ix_tup (pv 3) (pe_op op_mod (pe_callTy call_int1 (by rfl) T.int (by decide +kernel) (pa_cons (pv 1) pa_nil)) pe_int) (fun _ _ => rfl))) pa_nil)) (pv 2)))), ?_⟩
    have hz : 16 ≤ sizeLine := by decide
    refine ⟨hz, fun t ht => ?_⟩
    have hm1 : 0 ≤ k % 16 := Int.emod_nonneg _ (by decide)
    have hm2 : k % 16 < 16 := Int.emod_lt_of_pos _ (by decide)
    have hl : (k % 16).toNat < 16 := by omega
    have hpr : ∀ j, j < 16 → ∃ m : Int, ([.int 1000003, .int 1000033, .int 1000037, .int 1000039, .int 1000081, .int 1000099, .int 1000117, .int 1000121, .int 1000133, .int 1000151, .int 1000159, .int 1000171, .int 1000183, .int 1000187, .int 1000193, .int 1000199] : List V)[j]? = some (.int m) ∧ 0 < m := by
      intro j hj
      have : j = 0 ∨ j = 1 ∨ j = 2 ∨ j = 3 ∨ j = 4 ∨ j = 5 ∨ j = 6 ∨ j = 7 ∨ j = 8 ∨ j = 9 ∨ j = 10 ∨ j = 11 ∨ j = 12 ∨ j = 13 ∨ j = 14 ∨ j = 15 := by omega
      rcases this with h | h | h | h | h | h | h | h | h | h | h | h | h | h | h | h <;> subst h <;> exact ⟨_, rfl, by decide⟩
    obtain ⟨m, hm, hm0⟩ := hpr _ hl
    have hat := atI_nat hm
    rw [show (((k % 16).toNat : Nat) : Int) = k % 16 by omega] at hat
    refine ⟨_, rfl, _, _, rfl, rfl, .inr ⟨by decide, by decide⟩, _, rfl, _, _, rfl, rfl, .inr ⟨by decide, by decide⟩, _, _, rfl, rfl, .inl ⟨_, rfl, ?_⟩⟩
    refine ⟨_, rfl, _, rfl, .inl ⟨_, rfl, _, _, rfl, rfl, (by show (0 : Int) < 16; decide), t, _, _, _, rfl, rfl, st_of upd_same, hat, ?_⟩⟩
    refine ⟨_, _, rfl, rfl, hm0, .inl ⟨_, rfl, _, rfl, _, _, rfl, rfl, hb, ?_⟩⟩
    exact q _ _ (Int.emod_nonneg _ (by omega)) (Int.emod_lt_of_pos _ hb) (Ex.new ht)
theorem ok_l_number (T : Txt K mg) : Own P w K mg base CX0 2 "_law_number" ["_law_cell", "_law_k", "_law_below"] spLNumber := own_of T.lNumber fun f fd F => by
  have G1 := ok_l_draw (P := P) (w := w) (base := base) T
  refine F.ok scLNumber (fun vs H Q E h => ?_) (fun cdv A outer s H vs Q E hr h => ?_)
  · obtain ⟨c, k, b, rfl, _⟩ := h
    rfl
  · obtain ⟨c, k, b, rfl, hb, hk0, hk1, q⟩ := h
    refine ⟨_, pss_cons (ps_set (i := 3) scLNumber.nd rfl (.inl rfl) pe_int)
      (pss_cons (ps_for PassesOwn.never rfl (pi_range1 rfl T.range (pa_cons (pe_op op_mod (pv 1) pe_int) pa_nil)) (pg_name (i := 4) scLNumber.nd rfl (Or.inl rfl))
        (pss_one (ps_set (i := 3) scLNumber.nd rfl (.inl rfl) (pe_op op_mul (pv 3) pe_int))))
      (pss_cons (ps_set (i := 5) scLNumber.nd rfl (.inl rfl) (pe_op op_fdivW (pe_op op_sub (pv 0) (pe_op op_pow pe_int pe_int)) (pv 3)))
      (pss_cons (ps_if (pt_cmpR op_gt (pv 5) pe_int (nomark _)) (pss_one (ps_ret (pe_op op_mod (pe_op op_mod (pv 5) pe_int) (pv 2)))) pss_nil)
      (pss_cons (ps_set (i := 6) scLNumber.nd rfl (.inl rfl) (pe_op op_mod (pe_callTy call_int1 (by rfl) T.int (by decide +kernel) (pa_cons (pv 0) pa_nil)) pe_int))
      (pss_one (ps_ret (pe_op op_mod (pe_callTy call_int1 (by rfl) T.int (by decide +kernel) (pa_cons (pe_own G1 hr pass0 (pa_cons (pe_op op_mul (pe_op op_add (pv 6) (pe_op op_mul pe_int (pv 1))) (pe_op op_add (pe_op op_add (pv 6) (pe_op op_mul pe_int (pv 1))) pe_int))
          (pa_cons (pe_op op_add (pe_op op_mod (pe_callTy call_int1 (by rfl) T.int (by decide +kernel) (pa_cons (pv 1) pa_nil)) pe_int) pe_int) (pa_cons pe_int pa_nil)))) pa_nil)) (pv 2)))))))), ?_⟩
    refine ⟨_, rfl, _, _, rfl, rfl, (by show (0 : Int) < 24; decide), _, rfl, by omega, by omega, ?_⟩
    refine for_it (walk_range (lo := 0)) (fun i σ H' => H' = H ∧ ∃ o4 : Option V, σ = [some (.int c), some (.int k), some (.int b), some (.int (1009 ^ i)), o4, none, none])
      ⟨rfl, none, rfl⟩ (fun _ _ _ _ _ => True.intro) ?_ ?_
    · intro i x σ H1 H2 hi h y
      obtain ⟨rfl, o4, rfl⟩ := h
      obtain ⟨rfl, rfl⟩ := y
      refine ⟨_, rfl, _, _, rfl, rfl, .inr ⟨by decide, by decide⟩, rfl, some (.int (0 + (i : Int))), ?_⟩
      rfl
    · intro σ H1 h
      obtain ⟨rfl, o4, rfl⟩ := h
      generalize hn : (k % 24).toNat = n
      have hn24 : n ≤ 24 := by omega
      have hp0 : (0 : Int) < 1009 ^ n := Int.pow_pos (by decide)
      have hp1 : ((1009 : Int) ^ n).natAbs < 2 ^ 250 := by
        rw [Int.natAbs_pow]
        exact Nat.lt_of_le_of_lt (Nat.pow_le_pow_right (by decide) hn24) (by decide)
      refine ⟨_, rfl, _, _, rfl, rfl, ⟨by decide, by decide, by decide⟩, _, _, rfl, rfl, _, rfl, _, _, rfl, rfl, wide_div hp0 hp1 (by decide) (by decide), ?_⟩
      refine ⟨_, rfl, _, _, rfl, rfl, _, rfl, ?_⟩
      show if decide ((0 : Int) < (c - 10 ^ (18 : Int).toNat) / 1009 ^ n) = true then _ else _
      generalize hrest : (c - 10 ^ (18 : Int).toNat) / 1009 ^ n = rest
      by_cases h0 : 0 < rest
      · rw [decide_eq_true h0]
        exact iteT ⟨_, rfl, _, _, rfl, rfl, (by show (0 : Int) < 1009; decide), _, rfl, _, _, rfl, rfl, hb, q _ _ (Int.emod_nonneg _ (by omega)) (Int.emod_lt_of_pos _ hb) (Ex.refl _)⟩
      · rw [decide_eq_false h0]
        have hs1 : 0 ≤ c % 1000003 := Int.emod_nonneg _ (by decide)
        have hs2 : c % 1000003 < 1000003 := Int.emod_lt_of_pos _ (by decide)
        refine iteF ⟨_, rfl, .inl ⟨_, rfl, _, _, rfl, rfl, (by show (0 : Int) < 1000003; decide), ?_⟩⟩
        generalize c % 1000003 = s0 at hs1 hs2 ⊢
        refine ⟨_, rfl, _, rfl, _, _, rfl, rfl, .inl ⟨by decide, by decide⟩, _, _, rfl, rfl, ?_⟩
        refine ⟨_, rfl, _, rfl, _, _, rfl, rfl, .inl ⟨by decide, by decide⟩, _, _, rfl, rfl, _, _, rfl, rfl, ?_⟩
        refine ⟨_, _, rfl, rfl, .inl ⟨by omega, by omega⟩, ?_⟩
        refine ⟨_, rfl, .inl ⟨_, rfl, _, _, rfl, rfl, (by show (0 : Int) < 9; decide), _, _, rfl, rfl, ?_⟩⟩
        refine ⟨_, _, 999983, rfl, by decide, fun v H' h1 h2 e => ?_⟩
        exact .inl ⟨_, rfl, _, rfl, _, _, rfl, rfl, hb, q _ _ (Int.emod_nonneg _ (by omega)) (Int.emod_lt_of_pos _ hb) e⟩
theorem ok_l_next (T : Txt K mg) : Own P w K mg base CX0 3 "_law_next" ["_law_state", "_law_below"] (spLNext K) := own_of T.lNext fun f fd F => by
  have G1 := ok_l_cell (P := P) (w := w) (base := base) T
  have G2 := ok_l_number (P := P) (w := w) (base := base) T
  refine F.ok scLNext (fun vs H Q E h => ?_) (fun cdv A outer s H vs Q E hr h => ?_)
  · obtain ⟨st, b, z, rfl, _⟩ := h
    rfl
  · obtain ⟨st, b, ⟨sa, ns⟩, rfl, hb, ⟨pl, n, hS, hst, hp, hn⟩, q⟩ := h
    have hr1 : Room 1 _ := hr.mono (by decide)
    refine ⟨_, pss_cons (ps_asg (pe_op op_add (pe_ix ix_list (pv 0) pe_int (fun _ _ => rfl)) pe_int) (pg_sub (pv 0) pe_int set_list))
      (pss_cons (ps_set (i := 2) scLNext.nd rfl (.inl rfl) (pe_op op_fdiv (pe_ix ix_list (pv 0) pe_int (fun _ _ => rfl)) pe_int))
      (pss_cons (ps_set (i := 3) scLNext.nd rfl (.inl rfl) (pe_op op_add (pe_own G1 hr1 pass0 (pa_cons (pe_ix ix_list (pv 0) pe_int (fun _ _ => rfl)) (pa_cons (pe_op op_add (pe_ix ix_list (pv 0) pe_int (fun _ _ => rfl)) (pv 2)) pa_nil))) (pe_op op_mul pe_int (pv 2))))
      (pss_one (ps_ret (pe_own G2 hr pass0 (pa_cons (pv 3) (pa_cons (pe_op op_add (pe_op op_mod (pe_callTy call_int1 (by rfl) T.int (by decide +kernel) (pa_cons (pe_ix ix_list (pv 0) pe_int (fun _ _ => rfl)) pa_nil)) pe_int) pe_int) (pa_cons (pv 1) pa_nil)))))))), ?_⟩
    refine ⟨_, rfl, st, _, _, _, rfl, rfl, SqL.of hst, atI_nat (j := 2) rfl, _, _, rfl, rfl, ?_⟩
    refine ⟨_, rfl, st, _, _, 2, rfl, rfl, hst, rfl, ?_⟩
    show _
    have hst2 : upd H st (.lst ([V.ref sa, .int pl, .int n].set 2 (.int (n + 1)))) st = some (.lst [.ref sa, .int pl, .int (n + 1)]) := upd_same
    have hS2 : Scr K (upd H st (.lst ([V.ref sa, .int pl, .int n].set 2 (.int (n + 1))))) sa ns := scr_put hS hst
    have e1 : Kp [st] H (upd H st (.lst ([V.ref sa, .int pl, .int n].set 2 (.int (n + 1))))) := Kp.refl.put (List.mem_singleton.mpr rfl)
    generalize upd H st (.lst ([V.ref sa, .int pl, .int n].set 2 (.int (n + 1)))) = H1 at hst2 hS2 e1 ⊢
    refine ⟨_, rfl, st, _, _, _, rfl, rfl, SqL.of hst2, atI_nat (j := 2) rfl, _, _, rfl, rfl, ⟨by decide, by decide⟩, ?_⟩
    have hd : 0 ≤ (n + 1) / 12 := Int.ediv_nonneg (by omega) (by decide)
    generalize (n + 1) / 12 = at_ at hd ⊢
    refine ⟨_, rfl, st, _, _, _, rfl, rfl, SqL.of hst2, atI_nat (j := 0) rfl, _, rfl, st, _, _, _, rfl, rfl, SqL.of hst2, atI_nat (j := 1) rfl, _, rfl, _, _, rfl, rfl, ?_⟩
    refine ⟨sa, ns, _, rfl, hS2, by omega, fun v => ?_⟩
    refine ⟨_, rfl, _, _, rfl, rfl, .inl ⟨by decide, by decide⟩, _, _, rfl, rfl, ?_⟩
    refine ⟨_, rfl, _, rfl, st, _, _, _, rfl, rfl, SqL.of hst2, atI_nat (j := 2) rfl, .inl ⟨_, rfl, _, _, rfl, rfl, (by show (0 : Int) < 12; decide), _, _, rfl, rfl, _, rfl, ?_⟩⟩
    have hm1 : 0 ≤ (n + 1) % 12 := Int.emod_nonneg _ (by decide)
    have hm2 : (n + 1) % 12 < 12 := Int.emod_lt_of_pos _ (by decide)
    refine ⟨_, _, b, rfl, hb, by omega, by omega, fun v2 H2 h1 h2 e2 => ?_⟩
    exact q v2 H2 h1 h2 (e1.trans (Kp.of e2)) ⟨pl, n + 1, ex_l e2 hS2, e2 _ _ hst2, hp, by omega⟩
end
end BT
/-! The law's own defs, 2: row, target, is_small, hex. -/
namespace BT
open PySem PySem.Spec PyProof.Rows L2 Evl
theorem at_ints {ks : List Int} {i : Int} (h0 : 0 ≤ i) (h1 : i < (ks.length : Int)) : atI (ks.map V.int) i = some (.int (ks.getD i.toNat 0)) ∧ ks.getD i.toNat 0 ∈ ks := by
  have hl : i.toNat < ks.length := by omega
  have h2 : (ks.map V.int)[i.toNat]? = some (.int (ks.getD i.toNat 0)) := by
    rw [List.getElem?_map, List.getD_eq_getElem?_getD, List.getElem?_eq_getElem hl]
    rfl
  have := atI_nat h2
  rw [show ((i.toNat : Nat) : Int) = i by omega] at this
  refine ⟨this, ?_⟩
  rw [List.getD_eq_getElem?_getD, List.getElem?_eq_getElem hl]
  exact List.getElem_mem hl
structure RowNs (xs : List Int) : Prop where
  lo : 1 ≤ xs.length
  hi : xs.length ≤ 3
  b8 : ∀ x ∈ xs, 0 ≤ x ∧ x < 256
  tb : xs.getD 0 0 = 16 → xs.length = 3 ∧ 1 ≤ xs.getD 2 0 ∧ xs.getD 2 0 ≤ 3
theorem rowNs1 {a : Int} (h : 0 ≤ a ∧ a < 256) (h16 : a ≠ 16) : RowNs [a] := ⟨by show 1 ≤ 1; decide, by show 1 ≤ 3; decide, (fun x hx => by rw [List.mem_singleton.mp hx]; exact h), fun z => absurd z h16⟩
theorem rowNs2 {a b : Int} (h : 0 ≤ a ∧ a < 256) (hb : 0 ≤ b ∧ b < 256) (h16 : a ≠ 16) : RowNs [a, b] := ⟨by show 1 ≤ 2; decide, by show 2 ≤ 3; decide, (fun x hx => by
  rcases List.mem_cons.mp hx with z | z
  · rw [z]; exact h
  · rw [List.mem_singleton.mp z]; exact hb), fun z => absurd z h16⟩
theorem rowNs3 {a b c : Int} (h : 0 ≤ a ∧ a < 256) (hb : 0 ≤ b ∧ b < 256) (hc : 0 ≤ c ∧ c < 256) (h16 : a = 16 → 1 ≤ c ∧ c ≤ 3) : RowNs [a, b, c] := ⟨by show 1 ≤ 3; decide, by show 3 ≤ 3; decide, (fun x hx => by
  rcases List.mem_cons.mp hx with z | z
  · rw [z]; exact h
  rcases List.mem_cons.mp z with z | z
  · rw [z]; exact hb
  · rw [List.mem_singleton.mp z]; exact hc), fun z => ⟨rfl, h16 z⟩⟩
def spLRow (K : PySem.W.Frag) : Sp := fun vs H Q _ => ∃ (st : Addr) (m : V) (z : Addr × List Int), vs = [.ref st, m] ∧ Stt K H st z ∧ ∀ H' l xs, Kp [st] H H' → Stt K H' st z → H l = none → H' l = some (.lst (xs.map V.int)) → RowNs xs → Q (.ref l) H'
def TgtAt (m : Int) (H : Hp) (l : Addr) : Prop := (∃ v : Int, H l = some (.lst [.non, .int v]) ∧ 0 ≤ v ∧ v < 70) ∨ ∃ v : Int, H l = some (.lst [.int v, .int 0]) ∧ 0 ≤ v ∧ v ≤ m
def spLTarget (K : PySem.W.Frag) : Sp := fun vs H Q _ => ∃ (st : Addr) (m : Int) (z : Addr × List Int), vs = [.ref st, .int m] ∧ Stt K H st z ∧ 0 ≤ m ∧ ∀ H' l, Kp [st] H H' → Stt K H' st z → H l = none → TgtAt m H' l → Q (.ref l) H'
def spLIsSmall (K : PySem.W.Frag) : Sp := fun vs H Q _ => ∃ (a : Addr) (ns : List Int), vs = [.ref a] ∧ SqL K H a (ns.map V.int) ∧ ns.length ≤ 2000 ∧ ∀ b H', Ex H H' → Q (.bl b) H'
section
variable {P : Program} {w : World} {K : PySem.W.Frag} {mg : Str → Option Value} {base : Heap}
theorem ok_l_row (T : Txt K mg) : Own P w K mg base CX0 4 "_law_row" ["_law_state", "_law_many"] (spLRow K) := own_of T.lRow fun f fd F => by
  have G1 := ok_l_next (P := P) (w := w) (base := base) T
  refine F.ok scLRow (fun vs H Q E h => ?_) (fun cdv A outer s H vs Q E hr h => ?_)
  · obtain ⟨st, m, z, rfl, _⟩ := h
    rfl
  · obtain ⟨st, m, z, rfl, hS, q⟩ := h
    refine ⟨_, pss_cons (ps_par3 (i := 2) (j := 3) (l := 4) (by rfl) scLRow.nd rfl rfl rfl (by decide) (by decide) (by decide) rfl rfl rfl (pa_cons (pe_own G1 hr pass0 (pa_cons (pv 0) (pa_cons pe_int pa_nil))) (pa_cons (pe_own G1 hr pass0 (pa_cons (pv 0) (pa_cons pe_int pa_nil))) (pa_cons (pe_own G1 hr pass0 (pa_cons (pv 0) (pa_cons pe_int pa_nil))) pa_nil))) (by rfl))
      (pss_cons (ps_if (pt_cmpR op_lt (pv 2) pe_int (nomark _)) (pss_one (ps_ret (pe_lst (pa_cons pe_int (pa_cons (pv 3) (pa_cons (pe_ix ix_tup (pe_tup (pa_cons pe_int (pa_cons pe_int (pa_cons pe_int (pa_cons pe_int (pa_cons pe_int (pa_cons pe_int (pa_cons (pe_own G1 hr pass0 (pa_cons (pv 0) (pa_cons pe_int pa_nil))) pa_nil)))))))) (pe_own G1 hr pass0 (pa_cons (pv 0) (pa_cons pe_int pa_nil))) (fun _ _ => rfl)) pa_nil)))))) pss_nil)
      (pss_cons (ps_if (pt_cmpR op_lt (pv 2) pe_int (nomark _)) (pss_one (ps_ret (pe_lst (pa_cons (pe_ix ix_tup (pe_tup (pa_cons pe_int (pa_cons pe_int (pa_cons pe_int (pa_cons pe_int (pa_cons pe_int (pa_cons pe_int pa_nil))))))) (pe_op op_sub (pv 2) pe_int) (fun _ _ => rfl)) (pa_cons (pv 3) (pa_cons (pv 4) pa_nil)))))) pss_nil)
      (pss_cons (ps_if (pt_cmpR op_lt (pv 2) pe_int (nomark _)) (pss_one (ps_ret (pe_lst (pa_cons (pe_ix ix_tup (pe_tup (pa_cons pe_int (pa_cons pe_int (pa_cons pe_int (pa_cons pe_int (pa_cons pe_int (pa_cons pe_int pa_nil))))))) (pe_op op_sub (pv 2) pe_int) (fun _ _ => rfl)) (pa_cons (pv 3) (pa_cons (pv 4) pa_nil)))))) pss_nil)
      (pss_cons (ps_if (pt_cmpR op_lt (pv 2) pe_int (nomark _)) (pss_one (ps_ret (pe_lst (pa_cons (pe_ix ix_tup (pe_tup (pa_cons pe_int (pa_cons pe_int (pa_cons pe_int (pa_cons pe_int (pa_cons pe_int pa_nil)))))) (pe_op op_sub (pv 2) pe_int) (fun _ _ => rfl)) (pa_cons (pv 3) pa_nil))))) pss_nil)
      (pss_cons (ps_if (pt_cmpR op_eq (pv 2) pe_int (nomark _)) (pss_one (ps_ret (pe_lst (pa_cons (pe_ix ix_tup (pe_tup (pa_cons pe_int (pa_cons pe_int (pa_cons pe_int (pa_cons pe_int (pa_cons (pe_op op_add pe_int (pe_own G1 hr pass0 (pa_cons (pv 0) (pa_cons pe_int pa_nil)))) pa_nil)))))) (pe_own G1 hr pass0 (pa_cons (pv 0) (pa_cons pe_int pa_nil))) (fun _ _ => rfl)) pa_nil)))) pss_nil)
      (pss_cons (ps_if (pt_cmpR op_eq (pv 2) pe_int (nomark _)) (pss_one (ps_ret (pe_lst (pa_cons pe_int (pa_cons (pv 3) (pa_cons (pe_op op_add pe_int (pe_own G1 hr pass0 (pa_cons (pv 0) (pa_cons pe_int pa_nil)))) pa_nil)))))) pss_nil)
      (pss_one (ps_ret (pe_lst (pa_cons (pe_ix ix_tup (pe_tup (pa_cons pe_int (pa_cons pe_int (pa_cons pe_int (pa_cons pe_int pa_nil))))) (pe_op op_sub (pv 2) pe_int) (fun _ _ => rfl)) pa_nil)))))))))), ?_⟩
    have hz1 : 1 ≤ sizeLine := by decide
    have hz2 : 2 ≤ sizeLine := by decide
    have hz3 : 3 ≤ sizeLine := by decide
    have hz4 : 4 ≤ sizeLine := by decide
    have hz5 : 5 ≤ sizeLine := by decide
    have hz6 : 6 ≤ sizeLine := by decide
    have hz7 : 7 ≤ sizeLine := by decide
    refine ⟨_, rfl, st, 26, _, rfl, by decide, hS, fun so H1 s0 s1 e1 S1 => ?_⟩
    refine ⟨_, rfl, st, 4, _, rfl, by decide, S1, fun on H2 n0 n1 e2 S2 => ?_⟩
    refine ⟨_, rfl, st, 4, _, rfl, by decide, S2, fun ot H3 t0 t1 e3 S3 => ?_⟩
    have e := (e1.trans e2).trans e3
    clear e1 e2 e3 S1 S2 hS
    refine ⟨_, _, _, rfl, ?_⟩
    have ret : ∀ H4 l xs, Kp [st] H H4 → Stt K H4 st z → H4 l = none → RowNs xs → Q (.ref l) (upd H4 l (.lst (xs.map V.int))) := fun H4 l xs e4 S4 hl hx =>
      q _ l xs (e4.trans (Kp.of (Ex.new hl))) (S4.new hl) (e4.back (fun z => S4.ne hl (List.mem_singleton.mp z)) hl) upd_same hx
    refine ⟨_, rfl, _, _, rfl, rfl, _, rfl, ?_⟩
    by_cases c1 : so < 3
    · rw [decide_eq_true c1]
      refine iteT ⟨_, rfl, _, rfl, st, 256, _, rfl, by decide, S3, fun v7 H4 v0 v1 e4 S4 => ?_⟩
      refine ⟨hz7, fun t ht => ?_⟩
      refine ⟨_, rfl, st, 7, _, rfl, by decide, S4.new ht, fun i H5 i0 i1 e5 S5 => ?_⟩
      have htt : H5 t = some (.tup ([0, 1, 2, 3, 7, 255, v7].map V.int)) := e5 _ _ (fun z => S4.ne ht (List.mem_singleton.mp z)) upd_same
      obtain ⟨a1, a2⟩ := at_ints (ks := [0, 1, 2, 3, 7, 255, v7]) i0 i1
      refine ⟨t, _, _, _, rfl, rfl, st_of htt, a1, hz3, fun l hl => ?_⟩
      refine ret H5 l [1, on, _] (((e.trans e4).trans (Kp.of (Ex.new ht))).trans e5) S5 hl (rowNs3 ⟨by decide, by decide⟩ ⟨n0, by omega⟩ ?_ (fun z => absurd z (by decide)))
      generalize ([0, 1, 2, 3, 7, 255, v7] : List Int).getD i.toNat 0 = y at a2
      simp only [List.mem_cons, List.not_mem_nil, or_false] at a2
      omega
    rw [decide_eq_false c1]
    refine iteF ⟨_, rfl, _, _, rfl, rfl, _, rfl, ?_⟩
    by_cases c2 : so < 9
    · rw [decide_eq_true c2]
      refine iteT ⟨hz6, fun t ht => ?_⟩
      obtain ⟨a1, a2⟩ := at_ints (ks := [2, 3, 4, 5, 6, 3]) (i := so - 3) (by omega) (by show so - 3 < 6; omega)
      refine ⟨_, rfl, _, _, rfl, rfl, t, _, _, _, rfl, rfl, st_of upd_same, a1, _, rfl, _, rfl, hz3, fun l hl => ?_⟩
      refine ret _ l [_, on, ot] (e.trans (Kp.of (Ex.new ht))) (S3.new ht) hl (rowNs3 ?_ ⟨n0, by omega⟩ ⟨t0, by omega⟩ ?_)
      all_goals
        generalize ([2, 3, 4, 5, 6, 3] : List Int).getD (so - 3).toNat 0 = y at a2
        simp only [List.mem_cons, List.not_mem_nil, or_false] at a2
        omega
    rw [decide_eq_false c2]
    refine iteF ⟨_, rfl, _, _, rfl, rfl, _, rfl, ?_⟩
    by_cases c3 : so < 15
    · rw [decide_eq_true c3]
      refine iteT ⟨hz6, fun t ht => ?_⟩
      obtain ⟨a1, a2⟩ := at_ints (ks := [7, 8, 11, 12, 11, 12]) (i := so - 9) (by omega) (by show so - 9 < 6; omega)
      refine ⟨_, rfl, _, _, rfl, rfl, t, _, _, _, rfl, rfl, st_of upd_same, a1, _, rfl, _, rfl, hz3, fun l hl => ?_⟩
      refine ret _ l [_, on, ot] (e.trans (Kp.of (Ex.new ht))) (S3.new ht) hl (rowNs3 ?_ ⟨n0, by omega⟩ ⟨t0, by omega⟩ ?_)
      all_goals
        generalize ([7, 8, 11, 12, 11, 12] : List Int).getD (so - 9).toNat 0 = y at a2
        simp only [List.mem_cons, List.not_mem_nil, or_false] at a2
        omega
    rw [decide_eq_false c3]
    refine iteF ⟨_, rfl, _, _, rfl, rfl, _, rfl, ?_⟩
    by_cases c4 : so < 20
    · rw [decide_eq_true c4]
      refine iteT ⟨hz5, fun t ht => ?_⟩
      obtain ⟨a1, a2⟩ := at_ints (ks := [9, 10, 10, 19, 20]) (i := so - 15) (by omega) (by show so - 15 < 5; omega)
      refine ⟨_, rfl, _, _, rfl, rfl, t, _, _, _, rfl, rfl, st_of upd_same, a1, _, rfl, hz2, fun l hl => ?_⟩
      refine ret _ l [_, on] (e.trans (Kp.of (Ex.new ht))) (S3.new ht) hl (rowNs2 ?_ ⟨n0, by omega⟩ ?_)
      all_goals
        generalize ([9, 10, 10, 19, 20] : List Int).getD (so - 15).toNat 0 = y at a2
        simp only [List.mem_cons, List.not_mem_nil, or_false] at a2
        omega
    rw [decide_eq_false c4]
    refine iteF ⟨_, rfl, rfl, _, rfl, ?_⟩
    by_cases c5 : so = 20
    · rw [decide_eq_true (by rw [c5])]
      refine iteT ⟨_, rfl, st, 235, _, rfl, by decide, S3, fun v5 H4 v0 v1 e4 S4 => ?_⟩
      refine ⟨_, _, rfl, rfl, hz5, fun t ht => ?_⟩
      refine ⟨_, rfl, st, 5, _, rfl, by decide, S4.new ht, fun i H5 i0 i1 e5 S5 => ?_⟩
      have htt : H5 t = some (.tup ([0, 18, 18, 18, 21 + v5].map V.int)) := e5 _ _ (fun z => S4.ne ht (List.mem_singleton.mp z)) upd_same
      obtain ⟨a1, a2⟩ := at_ints (ks := [0, 18, 18, 18, 21 + v5]) i0 i1
      refine ⟨t, _, _, _, rfl, rfl, st_of htt, a1, hz1, fun l hl => ?_⟩
      refine ret H5 l [_] (((e.trans e4).trans (Kp.of (Ex.new ht))).trans e5) S5 hl (rowNs1 ?_ ?_)
      all_goals
        generalize ([0, 18, 18, 18, 21 + v5] : List Int).getD i.toNat 0 = y at a2
        simp only [List.mem_cons, List.not_mem_nil, or_false] at a2
        omega
    rw [decide_eq_false (by intro z; injection z with z; exact c5 z)]
    refine iteF ⟨_, rfl, rfl, _, rfl, ?_⟩
    by_cases c6 : so = 21
    · rw [decide_eq_true (by rw [c6])]
      refine iteT ⟨_, rfl, _, rfl, st, 3, _, rfl, by decide, S3, fun v5 H4 v0 v1 e4 S4 => ?_⟩
      refine ⟨_, _, rfl, rfl, hz3, fun l hl => ?_⟩
      exact ret H4 l [16, on, 1 + v5] (e.trans e4) S4 hl (rowNs3 ⟨by decide, by decide⟩ ⟨n0, by omega⟩ ⟨by omega, by omega⟩ fun _ => ⟨by omega, by omega⟩)
    rw [decide_eq_false (by intro z; injection z with z; exact c6 z)]
    refine iteF ⟨hz4, fun t ht => ?_⟩
    obtain ⟨a1, a2⟩ := at_ints (ks := [13, 14, 15, 17]) (i := so - 22) (by omega) (by show so - 22 < 4; omega)
    refine ⟨_, rfl, _, _, rfl, rfl, t, _, _, _, rfl, rfl, st_of upd_same, a1, hz1, fun l hl => ?_⟩
    refine ret _ l [_] (e.trans (Kp.of (Ex.new ht))) (S3.new ht) hl (rowNs1 ?_ ?_)
    all_goals
      generalize ([13, 14, 15, 17] : List Int).getD (so - 22).toNat 0 = y at a2
      simp only [List.mem_cons, List.not_mem_nil, or_false] at a2
      omega
theorem ok_l_target (T : Txt K mg) : Own P w K mg base CX0 4 "_law_target" ["_law_state", "_law_many"] (spLTarget K) := own_of T.lTarget fun f fd F => by
  have G1 := ok_l_next (P := P) (w := w) (base := base) T
  refine F.ok scLTarget (fun vs H Q E h => ?_) (fun cdv A outer s H vs Q E hr h => ?_)
  · obtain ⟨st, m, z, rfl, _⟩ := h
    rfl
  · obtain ⟨st, m, z, rfl, hS, hm, q⟩ := h
    refine ⟨_, pss_one (ps_ret (pe_ifExp (pt_cmpR op_eq (pe_own G1 hr pass0 (pa_cons (pv 0) (pa_cons pe_int pa_nil))) pe_int (nomark _)) (pe_lst (pa_cons pe_non (pa_cons (pe_own G1 hr pass0 (pa_cons (pv 0) (pa_cons pe_int pa_nil))) pa_nil)))
      (pe_lst (pa_cons (pe_own G1 hr pass0 (pa_cons (pv 0) (pa_cons (pe_op op_add (pv 1) pe_int) pa_nil))) (pa_cons pe_int pa_nil))))), ?_⟩
    have hz2 : 2 ≤ sizeLine := by decide
    refine ⟨_, rfl, st, 14, _, rfl, by decide, hS, fun v H1 _ _ e1 S1 => ?_⟩
    refine ⟨rfl, _, rfl, ?_⟩
    by_cases c : v = 0
    · rw [decide_eq_true (by rw [c])]
      refine iteT ⟨_, rfl, st, 70, _, rfl, by decide, S1, fun v2 H2 h1 h2 e2 S2 => ⟨hz2, fun l hl => ?_⟩⟩
      refine q _ l ((e1.trans e2).trans (Kp.of (Ex.new hl))) (S2.new hl) ((e1.trans e2).back (fun z => S2.ne hl (List.mem_singleton.mp z)) hl) (.inl ⟨v2, upd_same, h1, h2⟩)
    · rw [decide_eq_false (by intro z; injection z with z; exact c z)]
      refine iteF ⟨_, rfl, _, rfl, _, _, rfl, rfl, st, m + 1, _, rfl, by omega, S1, fun v2 H2 h1 h2 e2 S2 => ⟨hz2, fun l hl => ?_⟩⟩
      refine q _ l ((e1.trans e2).trans (Kp.of (Ex.new hl))) (S2.new hl) ((e1.trans e2).back (fun z => S2.ne hl (List.mem_singleton.mp z)) hl) (.inr ⟨v2, upd_same, h1, by omega⟩)
theorem ok_l_small (T : Txt K mg) : Own P w K mg base CX0 1 "_law_is_small" ["_law_numbers_here"] (spLIsSmall K) := own_of T.lIsSmall fun f fd F => by
  refine F.ok scLIsSmall (fun vs H Q E h => ?_) (fun cdv A outer s H vs Q E hr h => ?_)
  · obtain ⟨a, ns, rfl, _⟩ := h
    rfl
  · obtain ⟨a, ns, rfl, hS, hl, q⟩ := h
    refine ⟨_, pss_cons (ps_if (PW.pt (pw_or (pt_cmpR op_gt (pe_bm PySem.F.plainAttrs_list PySem.F.slot_list_count PySem.F.type_list_count mt_lcount (pv 0) (pa_cons pe_int pa_nil)) pe_int (nomark _)) (pw_or1 (pt_cmpR op_gt (pe_bm PySem.F.plainAttrs_list PySem.F.slot_list_count PySem.F.type_list_count mt_lcount (pv 0) (pa_cons pe_int pa_nil)) pe_int (nomark _))))) (pss_one (ps_ret pe_bl)) pss_nil)
      (pss_one (ps_ret (pe_not (pe_callB (cr_any rfl) (by rfl) T.any (by decide +kernel) (pa_cons (pe_lc (own := [("_law_at", 1)]) (g := gName 1) (tt := tYes) rfl scLIsSmall.nd (pi_range1 rfl T.range (pa_cons (pe_op op_sub (pe_callB call_len_seq (by rfl) T.len PySem.boot_len (pa_cons (pv 0) pa_nil)) pe_int) pa_nil)) (blkOk_by (N := nLIsSmall) (sc := defScope sLIsSmall) (by decide +kernel))
          (fun _ _ _ _ _ => pg_name (i := 1) scLIsSmall.nd rfl (Or.inl rfl)) (fun _ _ _ _ _ => pts_nil)
          (fun _ _ _ _ _ => pe_and (pe_cmpR op_eq (pe_ix (r := rIxL K) ix_list (pv 0) (pv 1) (fun _ _ => rfl)) pe_int (nomark _)) (pe_one (pe_cmpR op_gt (pe_ix (r := rIxL K) ix_list (pv 0) (pe_op op_add (pv 1) pe_int) (fun _ _ => rfl)) pe_int (nomark _))))) pa_nil))))), ?_⟩
    have lst : ∃ xs, SqL K H a xs := ⟨_, hS⟩
    refine ⟨_, rfl, .inl ⟨rfl, lst⟩, a, ns, 17, rfl, rfl, hS, _, _, rfl, rfl, _, rfl, ?_⟩
    have rest : tRet (tNotV (tCB (rAny K) (tCons (tLc (iRng1 (tCons (tOp (rI0 fun i j => V.int (i - j)) (tCB (fun xs H Q => ∃ p ys, xs = [.ref p] ∧ (SqL K H p ys ∨ SqT K H p ys) ∧ Q (.int ys.length) H) (tCons (tVar 0) tNil)) (tC (.int 2))) tNil)) (gName 1) tYes (tAndV (tOp rEq (tOp (rIxL K) (tVar 0) (tVar 1)) (tC (.int 16))) (tOp (rI0 fun i j => V.bl (decide (i > j))) (tOp (rIxL K) (tVar 0) (tOp (rI0 fun i j => V.int (i + j)) (tVar 1) (tC (.int 2)))) (tC (.int 4)))) [1]) tNil)))
        { nx := fun x H' => Q .non H', rt := Q } [some (.ref a), none] H := by
      refine ⟨_, rfl, a, _, rfl, .inl hS, _, _, rfl, rfl, ((ns.map V.int).length : Int) - 2, rfl, by omega, ?_, fun D hD => ?_⟩
      · rw [List.length_map]
        omega
      rw [List.length_map]
      refine lc_name (walk_range (lo := 0)) _ (fun i => .bl (decide (V.int (ns.getD i 0) = .int 16) && decide (ns.getD (i + 2) 0 > 4))) y_fn (fun _ => rfl) (by rw [sizeLine_eq]; omega) hD (fun _ _ => True.intro) ?_ ?_
      · intro i H' hi e Q q
        have hS' := ex_l e hS
        have g1 : (ns.map V.int)[i]? = some (.int (ns.getD i 0)) := by
          rw [List.getElem?_map, List.getD_eq_getElem?_getD, List.getElem?_eq_getElem (by omega)]
          rfl
        have g2 : (ns.map V.int)[i + 2]? = some (.int (ns.getD (i + 2) 0)) := by
          rw [List.getElem?_map, List.getD_eq_getElem?_getD, List.getElem?_eq_getElem (by omega)]
          rfl
        have a1 := atI_nat g1
        have a2 := atI_nat g2
        refine ⟨_, rfl, _, rfl, a, _, _, _, rfl, rfl, hS', by rw [Int.zero_add]; exact a1, rfl, _, rfl, ?_⟩
        have q := q _ (Ex.refl H')
        cases hc : decide (V.int (ns.getD i 0) = .int 16) with
        | true =>
          rw [hc] at q
          exact iteT ⟨_, rfl, _, rfl, _, _, rfl, rfl, a, _, _, _, rfl, rfl, hS', by rw [Int.zero_add]; exact a2, _, _, rfl, rfl, q⟩
        | false =>
          rw [hc] at q
          exact iteF q
      · intro H1 e1 h1
        refine ⟨D, (List.range ((ns.length : Int) - 2).toNat).map fun i => decide (V.int (ns.getD i 0) = .int 16) && decide (ns.getD (i + 2) 0 > 4), rfl, SqL.of (by rw [h1, List.map_map]; rfl), _, rfl, q _ _ e1⟩
    by_cases c1 : 2 < ((ns.count 17 : Nat) : Int)
    · rw [decide_eq_true c1]
      exact iteT (iteT (q _ _ (Ex.refl H)))
    rw [decide_eq_false c1]
    refine iteF ⟨_, rfl, .inl ⟨rfl, lst⟩, a, ns, 16, rfl, rfl, hS, _, _, rfl, rfl, _, rfl, ?_⟩
    by_cases c2 : 5 < ((ns.count 16 : Nat) : Int)
    · rw [decide_eq_true c2]
      exact iteT (q _ _ (Ex.refl H))
    rw [decide_eq_false c2]
    exact iteF rest
end
end BT
/-! The law's own defs, 3: hex, numbers. -/
namespace BT
open PySem PySem.Spec PyProof.Rows L2 Evl TL
theorem joinL_nil : ∀ ps : List (List Nat), joinL [] ps = ps.flatten
  | [] => rfl
  | [a] => by simp [joinL]
  | a :: b :: r => by
    show a ++ ([] ++ joinL [] (b :: r)) = _
    rw [List.nil_append, joinL_nil (b :: r), List.flatten_cons, List.flatten_cons, List.flatten_cons]
theorem tl_empty : tl ("" : Str) = [] := by decide +kernel
theorem join_hx (ns : List Int) : Txt.join "" (ns.map hx) = hxS ns := by
  refine ext_tl ?_
  rw [join_eq, tl_join, tl_empty, joinL_nil]
  show _ = hxL ns
  induction ns with
  | nil => rfl
  | cons n r ih =>
    rw [List.map_cons, List.map_cons, List.flatten_cons, ih]
    rfl
def spLHex (K : PySem.W.Frag) : Sp := fun vs H Q _ => ∃ (a : Addr) (ns : List Int), vs = [.ref a] ∧ SqL K H a (ns.map V.int) ∧ B8 ns ∧ ns.length ≤ 2000 ∧ ∀ H', Ex H H' → Q (.str (hxS ns)) H'
theorem signs_at : ∀ k, k < 16 → (("0123456789abcdef" : Str).cps.toList)[k]? = some (hd k) := by decide +kernel
section
variable {P : Program} {w : World} {K : PySem.W.Frag} {mg : Str → Option Value} {base : Heap}
theorem ok_l_hex (T : Txt K mg) : Own P w K mg base CX0 1 "_law_hex" ["_law_numbers_here"] (spLHex K) := own_of T.lHex fun f fd F => by
  refine F.ok scLHex (fun vs H Q E h => ?_) (fun cdv A outer s H vs Q E hr h => ?_)
  · obtain ⟨a, ns, rfl, _⟩ := h
    rfl
  · obtain ⟨a, ns, rfl, hS, h8, hl, q⟩ := h
    refine ⟨_, pss_cons (ps_set (i := 1) scLHex.nd rfl (.inr rfl) pe_str)
      (pss_one (ps_ret (pe_join pe_str (pe_lc (own := [("_law_number_here", 2)]) (g := gName 2) (tt := tYes) rfl scLHex.nd (pi_list (pv 0)) (blkOk_by (N := nLHex) (sc := defScope sLHex) (by decide +kernel))
          (fun _ _ _ _ _ => pg_name (i := 2) scLHex.nd rfl (Or.inl rfl)) (fun _ _ _ _ _ => pts_nil)
          (fun _ _ _ _ _ => pe_op op_add_str (pe_ix ix_str (pv 1) (pe_op op_fdiv (pv 2) pe_int) (fun _ _ => rfl)) (pe_ix ix_str (pv 1) (pe_op op_mod (pe_callTy call_int1 (by rfl) T.int (by decide +kernel) (pa_cons (pv 2) pa_nil)) pe_int) (fun _ _ => rfl))))))), ?_⟩
    refine ⟨⟨_, rfl⟩, _, rfl, a, rfl, ⟨_, hS⟩, fun D hD => ?_⟩
    refine lc_name (walk_list (xs := ns.map V.int)) _ (fun i => .str (hx (ns.getD i 0))) y_at (fun _ => rfl) (by rw [List.length_map, sizeLine_eq]; omega) hD (fun H' e => ex_l e hS) ?_ ?_
    · intro i H' hi e Q q
      rw [List.length_map] at hi
      have hg : ns[i]? = some (ns.getD i 0) := by
        rw [List.getD_eq_getElem?_getD, List.getElem?_eq_getElem hi]
        rfl
      have ev : (ns.map V.int).getD i .non = .int (ns.getD i 0) := by
        rw [List.getD_eq_getElem?_getD, List.getElem?_map, hg]
        rfl
      rw [ev]
      have hb := h8 _ (List.mem_of_getElem? hg)
      generalize ns.getD i 0 = n at hb q ⊢
      have a1 := atI_nat (signs_at (n.toNat / 16) (by omega))
      have a2 := atI_nat (signs_at (n.toNat % 16) (by omega))
      rw [show ((n.toNat / 16 : Nat) : Int) = n / 16 by omega] at a1
      rw [show ((n.toNat % 16 : Nat) : Int) = n % 16 by omega] at a2
      refine ⟨_, rfl, _, rfl, _, _, rfl, rfl, ⟨by decide, by decide⟩, _, _, _, rfl, rfl, by decide, a1, ?_⟩
      refine ⟨_, rfl, _, rfl, .inl ⟨_, rfl, _, _, rfl, rfl, (by show (0 : Int) < 16; decide), _, _, _, rfl, rfl, by decide, a2, ?_⟩⟩
      exact ⟨_, _, rfl, rfl, by show 2 ≤ sizeLine; decide, q _ (Ex.refl _)⟩
    · intro H' e hl'
      refine ⟨_, D, ns.map hx, rfl, rfl, .inl (SqL.of ?_), ?_, ?_⟩
      · rw [hl', List.length_map, map_range_getD (fun i => V.str (hx i)) 0 ns, List.map_map]
        rfl
      · have h1 : ((ns.map hx).map (·.length)).sum ≤ 2 * (ns.map hx).length := sum_le fun x hx' => by
          obtain ⟨i, hi, rfl⟩ := List.mem_map.mp hx'
          exact Nat.le_of_eq (hx_len i)
        rw [List.length_map] at h1
        rw [List.length_map]
        have : ("" : Str).length = 0 := by decide +kernel
        rw [this]
        omega
      · rw [join_hx]
        exact q _ e
/-! ### numbers -/
/-- a row's item: a byte, or a target -/
def ItmOk (M : List Addr) (m : Int) (H : Hp) (v : V) : Prop := (∃ i : Int, v = .int i ∧ 0 ≤ i ∧ i < 256) ∨ ∃ t, v = .ref t ∧ t ∉ M ∧ TgtAt m H t
def RwOk (M : List Addr) (m : Int) (H : Hp) (v : V) : Prop := ∃ r its, v = .ref r ∧ r ∉ M ∧ H r = some (.lst its) ∧ 1 ≤ its.length ∧ its.length ≤ 6 ∧ ∀ x ∈ its, ItmOk M m H x
theorem TgtAt.kp {M : List Addr} {m : Int} {H H' : Hp} {t : Addr} (e : Kp M H H') (ht : t ∉ M) (h : TgtAt m H t) : TgtAt m H' t := by
  rcases h with ⟨v, h1, h2⟩ | ⟨v, h1, h2⟩
  · exact .inl ⟨v, e t _ ht h1, h2⟩
  · exact .inr ⟨v, e t _ ht h1, h2⟩
theorem ItmOk.kp {M : List Addr} {m : Int} {H H' : Hp} {v : V} (e : Kp M H H') (h : ItmOk M m H v) : ItmOk M m H' v := by
  rcases h with h | ⟨t, h1, h2, h3⟩
  · exact .inl h
  · exact .inr ⟨t, h1, h2, h3.kp e h2⟩
theorem RwOk.kp {M : List Addr} {m : Int} {H H' : Hp} {v : V} (e : Kp M H H') (h : RwOk M m H v) : RwOk M m H' v := by
  obtain ⟨r, its, h1, h2, h3, h4, h5, h6⟩ := h
  exact ⟨r, its, h1, h2, e r _ h2 h3, h4, h5, fun x hx => (h6 x hx).kp e⟩
theorem ItmOk.less {M M' : List Addr} {m : Int} {H : Hp} {v : V} (hm : ∀ a ∈ M', a ∈ M) (h : ItmOk M m H v) : ItmOk M' m H v := by
  rcases h with h | ⟨t, a, b, c⟩
  · exact .inl h
  · exact .inr ⟨t, a, fun z => b (hm t z), c⟩
theorem RwOk.less {M : List Addr} {m : Int} {H : Hp} {v : V} (h : RwOk M m H v) : RwOk [] m H v := by
  obtain ⟨r, its, h1, h2, h3, h4, h5, h6⟩ := h
  refine ⟨r, its, h1, by simp, h3, h4, h5, fun x hx => ?_⟩
  rcases h6 x hx with h | ⟨t, a, b, c⟩
  · exact .inl h
  · exact .inr ⟨t, a, by simp, c⟩
theorem in_jump (n : Int) : inV (.int n) [.int 13, .int 14, .int 15, .int 17] = true ∨ inV (.int n) [.int 13, .int 14, .int 15, .int 17] = false := by
  cases inV (.int n) [.int 13, .int 14, .int 15, .int 17]
  · exact .inr rfl
  · exact .inl rfl
theorem b01 (b : Bool) : (0 : Int) ≤ (if b = true then 1 else 0) ∧ (if b = true then 1 else 0 : Int) ≤ 3 := by
  cases b <;> exact ⟨by decide, by decide⟩
def wv : V → Int
  | .ref _ => 2
  | _ => 1
theorem wv_sum : ∀ l : List V, 0 ≤ (l.map wv).sum ∧ (l.map wv).sum ≤ 2 * (l.length : Int)
  | [] => ⟨by decide, by decide⟩
  | a :: r => by
    obtain ⟨h1, h2⟩ := wv_sum r
    rw [List.map_cons, List.sum_cons, List.length_cons]
    have : 1 ≤ wv a ∧ wv a ≤ 2 := by
      unfold wv
      split <;> omega
    omega
def spLNumbers (K : PySem.W.Frag) : Sp := fun vs H Q _ => ∃ (st : Addr) (z : Addr × List Int), vs = [.ref st, .int 16] ∧ Stt K H st z ∧ ∀ H' l ns, Kp [st] H H' → Stt K H' st z → H l = none → H' l = some (.lst (ns.map V.int)) → Img ns → Q (.ref l) H'
theorem TgtAt.ty {m : Int} {H : Hp} {t : Addr} (h : TgtAt m H t) : ∃ xs, H t = some (.lst xs) := by
  rcases h with ⟨v, h1, _⟩ | ⟨v, h1, _⟩
  · exact ⟨_, h1⟩
  · exact ⟨_, h1⟩
theorem ok_l_numbers (T : Txt K mg) : Own P w K mg base CX0 5 "_law_numbers" ["_law_state", "_law_more"] (spLNumbers K) := own_of T.lNumbers fun f fd F => by
  have G1 := ok_l_next (P := P) (w := w) (base := base) T
  have G2 := ok_l_row (P := P) (w := w) (base := base) T
  have G3 := ok_l_target (P := P) (w := w) (base := base) T
  have G4 := ok_l_small (P := P) (w := w) (base := base) T
  refine F.ok scLNumbers (fun vs H Q E h => ?_) (fun cdv A outer s H vs Q E hr h => ?_)
  · obtain ⟨st, z, rfl, _⟩ := h
    rfl
  · obtain ⟨st, z, rfl, hS, q⟩ := h
    have hr3 : Room 3 _ := hr.mono (by decide)
    have hr1 : Room 1 _ := hr.mono (by decide)
    refine ⟨_, pss_cons (ps_asg (pe_tup (pa_cons (pe_op op_add pe_int (pe_own G1 hr3 pass0 (pa_cons (pv 0) (pa_cons (pv 1) pa_nil)))) (pa_cons (pe_lst pa_nil) pa_nil))) (pg_tup rfl (pgs_cons (pg_name (i := 2) scLNumbers.nd rfl (Or.inr rfl)) (pgs_cons (pg_name (i := 3) scLNumbers.nd rfl (Or.inl rfl)) pgs_nil))))
      (pss_cons (ps_for PassesOwn.never rfl (pi_range1 rfl T.range (pa_cons (pv 2) pa_nil)) (pg_name (i := 4) scLNumbers.nd rfl (Or.inl rfl))
        (pss_cons (ps_set (i := 5) scLNumbers.nd rfl (.inl rfl) (pe_own G2 hr pass0 (pa_cons (pv 0) (pa_cons (pv 2) pa_nil))))
        (pss_cons (ps_set (i := 6) scLNumbers.nd rfl (.inl rfl) (PE_up (pe_ifExp (pt_cmpR op_eq (pe_ix ix_list (pv 5) pe_int (fun _ _ => rfl)) pe_int (nomark _)) (pe_ix ix_list (pv 5) pe_int (fun _ _ => rfl))
            (pe_callTy call_int1 (by rfl) T.int (by decide +kernel) (pa_cons (pe_cmpR op_in_seq (pe_ix ix_list (pv 5) pe_int (fun _ _ => rfl)) (pe_tup (pa_cons pe_int (pa_cons pe_int (pa_cons pe_int (pa_cons pe_int pa_nil))))) (by rfl)) pa_nil)))))
        (pss_one (ps_expr (pe_bm PySem.F.plainAttrs_list PySem.F.slot_list_append PySem.F.type_list_append mt_append (pv 3) (pa_cons (pe_op op_cat (pv 5)
          (pe_lc (own := [("_law_part", 12)]) (g := gName 12) (tt := tYes) rfl scLNumbers.nd (pi_range1 rfl T.range (pa_cons (pv 6) pa_nil)) (blkOk_by (N := nLNumbers) (sc := defScope sLNumbers) (by decide +kernel))
            (fun _ _ _ _ _ => pg_name (i := 12) scLNumbers.nd rfl (Or.inl rfl)) (fun _ _ _ _ _ => pts_nil) (fun _ _ _ _ _ => pe_own G3 hr pass0 (pa_cons (pv 0) (pa_cons (pv 2) pa_nil))))) pa_nil)))))))
      (pss_cons (ps_par (i := 7) (j := 8) (by rfl) scLNumbers.nd rfl rfl (by decide) rfl rfl (pa_cons (pe_lst pa_nil) (pa_cons pe_int pa_nil)) (by rfl))
      (pss_cons (ps_for PassesOwn.never rfl (pi_list (pv 3)) (pg_name (i := 5) scLNumbers.nd rfl (Or.inl rfl))
        (pss_cons (ps_expr (pe_bm PySem.F.plainAttrs_list PySem.F.slot_list_append PySem.F.type_list_append mt_append (pv 7) (pa_cons (pv 8) pa_nil)))
        (pss_one (ps_set (i := 8) scLNumbers.nd rfl (.inl rfl) (pe_op op_add (pv 8) (pe_callB (cr_sum rfl) (by rfl) T.sum (by decide +kernel) (pa_cons
          (pe_lc (own := [("_law_one", 9)]) (g := gName 9) (tt := tYes) rfl scLNumbers.nd (pi_list (pv 5)) (blkOk_by (N := nLNumbers) (sc := defScope sLNumbers) (by decide +kernel))
            (fun _ _ _ _ _ => pg_name (i := 9) scLNumbers.nd rfl (Or.inl rfl)) (fun _ _ _ _ _ => pts_nil) (fun _ _ _ _ _ => pe_ifExp (pt_val (pe_callB (r := rIsi K) call_isi (by rfl) T.isinstance (by decide +kernel) (pa_cons (pv 9) (pa_cons (pe_ty (n := "list") T.list (by decide +kernel)) pa_nil)))) pe_int pe_int)) pa_nil)))))))
      (pss_cons (ps_expr (pe_bm PySem.F.plainAttrs_list PySem.F.slot_list_append PySem.F.type_list_append mt_append (pv 7) (pa_cons (pv 8) pa_nil)))
      (pss_cons (ps_set (i := 10) scLNumbers.nd rfl (.inl rfl) (pe_lst pa_nil))
      (pss_cons (ps_for PassesOwn.never rfl (pi_list (pv 3)) (pg_name (i := 5) scLNumbers.nd rfl (Or.inl rfl))
        (pss_one (ps_for PassesOwn.never rfl (pi_list (pv 5)) (pg_name (i := 9) scLNumbers.nd rfl (Or.inl rfl))
          (pss_one (ps_if (pt_val (pe_callB call_isi (by rfl) T.isinstance (by decide +kernel) (pa_cons (pv 9) (pa_cons (pe_ty (n := "list") T.list (by decide +kernel)) pa_nil))))
            (pss_cons (ps_set (i := 11) scLNumbers.nd rfl (.inl rfl) (PE_up (pe_ifExp (pt_cmpR op_isN (pe_ix ix_list (pv 9) pe_int (fun _ _ => rfl)) pe_non (nomark _)) (pe_ix ix_list (pv 9) pe_int (fun _ _ => rfl)) (pe_ix ix_list (pv 7) (pe_ix ix_list (pv 9) pe_int (fun _ _ => rfl)) (fun _ _ => rfl)))))
            (pss_one (ps_set (i := 10) scLNumbers.nd rfl (.inl rfl) (pe_op op_cat (pv 10) (pe_lst (pa_cons (pe_op op_fdiv (pv 11) pe_int) (pa_cons (pe_op op_mod (pe_callTy call_int1 (by rfl) T.int (by decide +kernel) (pa_cons (pv 11) pa_nil)) pe_int) pa_nil)))))))
            (pss_one (ps_expr (pe_bm PySem.F.plainAttrs_list PySem.F.slot_list_append PySem.F.type_list_append mt_append (pv 10) (pa_cons (pv 9) pa_nil)))))))))
      (pss_one (ps_ret (pe_ifExp (pt_val (pe_own G4 hr1 pass0 (pa_cons (pv 10) pa_nil))) (pv 10) (pe_lst (pa_cons pe_int pa_nil))))))))))), ?_⟩
    have hz0 : 0 ≤ sizeLine := by decide
    have hz1 : 1 ≤ sizeLine := by decide
    have hz2 : 2 ≤ sizeLine := by decide
    have hz4 : 4 ≤ sizeLine := by decide
    refine ⟨_, rfl, _, rfl, st, 16, _, rfl, by decide, hS, fun v0 H1 v1 v2 e1 S1 => ?_⟩
    refine ⟨_, _, rfl, rfl, hz0, fun R hR => ⟨hz2, fun t ht => ?_⟩⟩
    have hRst : R ≠ st := S1.ne hR
    have hRH : H R = none := e1.back (fun z => hRst (List.mem_singleton.mp z)) hR
    refine ⟨t, _, rfl, st_of upd_same, rfl, _, _, rfl, _, _, rfl, rfl, ?_⟩
    have e2 : Kp [st] H (upd (upd H1 R (.lst [])) t (.tup [.int (3 + v0), .ref R])) := (e1.trans (Kp.of (Ex.new hR))).trans (Kp.of (Ex.new ht))
    have S2 : Stt K (upd (upd H1 R (.lst [])) t (.tup [.int (3 + v0), .ref R])) st z := (S1.new hR).new ht
    have hR2 : upd (upd H1 R (.lst [])) t (.tup [.int (3 + v0), .ref R]) R = some (.lst []) := Ex.new ht _ _ upd_same
    generalize upd (upd H1 R (.lst [])) t (.tup [.int (3 + v0), .ref R]) = H2 at e2 S2 hR2 ⊢
    clear ht e1 hS
    have hm3 : 3 ≤ 3 + v0 := by omega
    have hm18 : 3 + v0 ≤ 18 := by omega
    refine ⟨_, rfl, 3 + v0, rfl, by omega, by omega, ?_⟩
    obtain ⟨m, em⟩ : ∃ m, m = 3 + v0 := ⟨_, rfl⟩
    rw [← em] at hm3 hm18 ⊢
    rw [show (fun i j : Int => V.int (i + j)) 3 v0 = V.int m from by rw [em]]
    refine for_it (walk_range (lo := 0)) (fun i σ H' => ∃ o4 o5 o6 xs, Kp [st] H H' ∧ Stt K H' st z ∧ H' R = some (.lst xs) ∧ xs.length = i ∧ (∀ x ∈ xs, RwOk [st, R] m H' x) ∧
        σ = [some (.ref st), some (.int 16), some (.int m), some (.ref R), o4, o5, o6, none, none, none, none, none, none])
      ⟨none, none, none, [], e2, S2, hR2, rfl, (fun x hx => by cases hx), rfl⟩ (fun _ _ _ _ _ => True.intro) ?_ ?_
    · intro i x σ H3 H3' hi h y
      obtain ⟨o4, o5, o6, xs, e3, S3, hR3, hxl, hrw, rfl⟩ := h
      obtain ⟨rfl, rfl⟩ := y
      refine ⟨_, rfl, _, rfl, st, _, _, rfl, S3, fun H4 l ks e4 S4 hl3 hl4 hk => ?_⟩
      have hlst : l ≠ st := S3.ne hl3
      have hlR : l ≠ R := fun z => by
        rw [z, hR3] at hl3
        cases hl3
      have hR4 : H4 R = some (.lst xs) := e4 _ _ (fun z => hRst (List.mem_singleton.mp z)) hR3
      have hrw4 : ∀ x ∈ xs, RwOk [st, R] m H4 x := fun x hx => (hrw x hx).kp (e4.mono (fun a ha => by simp at ha; simp [ha]))
      have e34 := e3.trans e4
      have k0 : (ks.map V.int)[0]? = some (.int (ks.getD 0 0)) := by
        rw [List.getElem?_map, List.getD_eq_getElem?_getD, List.getElem?_eq_getElem hk.lo]
        rfl
      clear hl3 e4 S3 hrw hR3
      refine ⟨fun v H5 => Ex H4 H5 ∧ ∃ tn : Int, v = .int tn ∧ 0 ≤ tn ∧ tn ≤ 3, ?_, ?_⟩
      · refine ⟨_, rfl, l, _, _, _, rfl, rfl, SqL.of hl4, atI_nat (j := 0) k0, rfl, _, rfl, ?_⟩
        by_cases c : ks.getD 0 0 = 16
        · rw [decide_eq_true (by rw [c])]
          obtain ⟨h1, h2, h3⟩ := hk.tb c
          have k2 : (ks.map V.int)[2]? = some (.int (ks.getD 2 0)) := by
            rw [List.getElem?_map, List.getD_eq_getElem?_getD, List.getElem?_eq_getElem (by omega)]
            rfl
          exact iteT ⟨_, rfl, l, _, _, _, rfl, rfl, SqL.of hl4, atI_nat (j := 2) k2, Ex.refl _, _, rfl, by omega, h3⟩
        · rw [decide_eq_false (by intro z; injection z with z; exact c z)]
          refine iteF ⟨_, rfl, l, _, _, _, rfl, rfl, SqL.of hl4, atI_nat (j := 0) k0, hz4, fun u hu => ?_⟩
          refine ⟨u, _, rfl, .inr (st_of upd_same), rfl, rfl, .inr ⟨_, rfl, Ex.new hu, _, rfl, ?_, ?_⟩⟩
          · exact (b01 _).1
          · exact (b01 _).2
      rintro v5 H5 ⟨e5, tn, rfl, t0, t3⟩
      have hl5 := e5 _ _ hl4
      have hR5 := e5 _ _ hR4
      have S5 := S4.ex e5
      have hrw5 : ∀ x ∈ xs, RwOk [st, R] m H5 x := fun x hx => (hrw4 x hx).kp (Kp.of e5)
      have e35 := e34.trans (Kp.of e5)
      clear hl4 hR4 S4 hrw4 e34 e5
      refine ⟨_, rfl, .inl ⟨rfl, _, SqL.of hR5⟩, _, rfl, _, rfl, tn, rfl, by omega, by omega, fun D hD => ?_⟩
      have hDst : D ≠ st := S5.ne hD
      have hDR : D ≠ R := fun z => by
        rw [z, hR5] at hD
        cases hD
      refine lc_it (walk_range (lo := 0)) (fun j H' => Kp [st] H5 H' ∧ Stt K H' st z ∧ ∃ ts, H' D = some (.lst ts) ∧ ts.length = j ∧ ∀ x ∈ ts, ItmOk [st, R, D] m H' x) ⟨Kp.of (Ex.new hD), S5.new hD, [], upd_same, rfl, fun x hx => by cases hx⟩ (fun _ _ _ _ => True.intro) ?_ ?_
      · intro j x H6 H7 hj h y
        obtain ⟨e6, S6, ts, hD6, htl, hts⟩ := h
        obtain ⟨rfl, rfl⟩ := y
        refine ⟨rfl, ?_⟩
        unfold tYes
        dsimp only
        rw [if_pos rfl]
        refine ⟨_, rfl, _, rfl, st, m, _, rfl, S6, by omega, fun H8 l2 e8 S8 hl6 hT => ?_⟩
        have hl2st : l2 ≠ st := S6.ne hl6
        have hl2D : l2 ≠ D := fun z => by
          rw [z, hD6] at hl6
          cases hl6
        have hl2R : l2 ≠ R := fun z => by
          rw [z, e6 _ _ (fun z => hRst (List.mem_singleton.mp z)) hR5] at hl6
          cases hl6
        have hD8 := e8 D _ (fun z => hDst (List.mem_singleton.mp z)) hD6
        have kD : Kp [st, R, D] H8 (upd H8 D (.lst (ts ++ [.ref l2]))) := Kp.refl.put (by simp)
        have e68 : Kp [st, R, D] H7 H8 := e8.mono fun a ha => by simp at ha; simp [ha]
        refine ⟨ts, hD8, by rw [sizeLine_eq]; omega, (e6.trans e8).new hD, ?_, ts ++ [.ref l2], upd_same, by rw [List.length_append, htl]; rfl, fun x hx => ?_⟩
        · exact S5.put hD S8
        · rcases List.mem_append.mp hx with z | z
          · exact ((hts x z).kp e68).kp kD
          · rw [List.mem_singleton.mp z]
            exact .inr ⟨l2, rfl, by simp [hl2st, hl2R, hl2D], hT.kp kD (by simp [hl2st, hl2R, hl2D])⟩
      · intro H6 h
        obtain ⟨e6, S6, ts, hD6, htl, hts⟩ := h
        have hl6 := e6 l _ (fun z => hlst (List.mem_singleton.mp z)) hl5
        have hR6 := e6 R _ (fun z => hRst (List.mem_singleton.mp z)) hR5
        have hklo := hk.lo
        have hkhi := hk.hi
        refine ⟨l, D, _, _, rfl, rfl, hl6, hD6, ?_, fun p hp => ?_⟩
        · rw [List.length_map, sizeLine_eq]
          omega
        have hpst : p ≠ st := S6.ne hp
        have hpR : p ≠ R := fun z => by
          rw [z, hR6] at hp
          cases hp
        have ep : Ex H6 (upd H6 p (.lst (ks.map V.int ++ ts))) := Ex.new hp
        refine ⟨R, _, _, rfl, rfl, ep _ _ hR6, by rw [sizeLine_eq]; omega, ?_⟩
        have kR : Kp [st, R] (upd H6 p (.lst (ks.map V.int ++ ts))) (upd (upd H6 p (.lst (ks.map V.int ++ ts))) R (.lst (xs ++ [.ref p]))) := Kp.refl.put (by simp)
        have e6' : Kp [st, R] H5 H6 := e6.mono fun a ha => by simp at ha; simp [ha]
        refine ⟨_, _, _, xs ++ [.ref p], ((e35.trans e6).trans (Kp.of ep)).new hRH, ?_, upd_same, by rw [List.length_append, hxl]; rfl, fun x hx => ?_, rfl⟩
        · exact S1.put hR (S6.ex ep)
        · rcases List.mem_append.mp hx with z | z
          · exact (((hrw5 x z).kp e6').kp (Kp.of ep)).kp kR
          · rw [List.mem_singleton.mp z]
            refine ⟨p, ks.map V.int ++ ts, rfl, by simp [hpst, hpR], by rw [upd_ne hpR]; exact upd_same, ?_, ?_, fun y hy => ?_⟩
            · rw [List.length_append, List.length_map]
              omega
            · rw [List.length_append, List.length_map]
              omega
            · rcases List.mem_append.mp hy with z | z
              · obtain ⟨n, hn, rfl⟩ := List.mem_map.mp z
                exact .inl ⟨n, rfl, hk.b8 n hn⟩
              · have h2 := ((hts y z).less (M' := [st, R]) (fun a ha => by simp at ha ⊢; rcases ha with h | h <;> simp [h])).kp (Kp.of ep)
                exact h2.kp kR
    · intro σ H3 h
      obtain ⟨o4, o5, o6, xs, e3, S3, hR3, hxl, hrw, rfl⟩ := h
      have hrw3 : ∀ x ∈ xs, RwOk [] m H3 x := fun x hx => (hrw x hx).less
      have hnl : xs.length = m.toNat := hxl
      clear hrw hxl
      have hxs18 : xs.length ≤ 18 := by omega
      refine ⟨hz0, fun bl hbl => ?_⟩
      have eb : Ex H3 (upd H3 bl (.lst [])) := Ex.new hbl
      refine ⟨_, _, rfl, ?_⟩
      refine ⟨_, rfl, R, rfl, ⟨_, SqL.of (eb _ _ hR3)⟩, ?_⟩
      refine for_it (walk_list (xs := xs)) (fun i σ H' => ∃ o5 pl bs, Ex H3 H' ∧ H' bl = some (.lst (bs.map V.int)) ∧ bs.length = i ∧ (∀ b ∈ bs, 0 ≤ b ∧ b ≤ 216) ∧ 0 ≤ pl ∧ pl ≤ 12 * (i : Int) ∧
          σ = [some (.ref st), some (.int 16), some (.int m), some (.ref R), o4, o5, o6, some (.ref bl), some (.int pl), none, none, none, none])
        ⟨o5, 0, [], eb, upd_same, rfl, (fun b hb => by cases hb), by decide, by decide, rfl⟩ (fun i σ H' _ h => by obtain ⟨_, _, _, h1, _⟩ := h; exact SqL.of (h1 _ _ hR3)) ?_ ?_
      · intro i x σ H4 H5 hi h y
        obtain ⟨o5', pl, bs, e4, hb4, hbl4, hbb, p0, p1, rfl⟩ := h
        obtain ⟨rfl, hx⟩ := y
        obtain ⟨r, its, rfl, _, hr3, hi1, hi6, hits⟩ := hrw3 x (List.mem_of_getElem? hx)
        refine ⟨_, rfl, .inl ⟨rfl, _, SqL.of hb4⟩, _, rfl, bl, _, _, rfl, rfl, hb4, by rw [List.length_map, sizeLine_eq]; omega, ?_⟩
        have e5 : Ex H3 (upd H5 bl (.lst (bs.map V.int ++ [.int pl]))) := Ex.mut e4 hbl
        have hb5 : upd H5 bl (.lst (bs.map V.int ++ [.int pl])) bl = some (.lst ((bs ++ [pl]).map V.int)) := by
          rw [upd_same, List.map_append]
          rfl
        generalize upd H5 bl (.lst (bs.map V.int ++ [.int pl])) = H6 at e5 hb5 ⊢
        refine ⟨_, rfl, _, rfl, r, rfl, ⟨_, SqL.of (e5 _ _ hr3)⟩, fun D hD => ?_⟩
        refine lc_name (walk_list (xs := its)) _ (fun j => .int (wv (its.getD j .non))) y_at (fun _ => rfl) (by rw [sizeLine_eq]; omega) hD (fun H' e => SqL.of (e _ _ (e5 _ _ hr3))) ?_ ?_
        · intro j H' hj e Q q
          have hm := List.getElem_mem hj
          have hj2 : its.getD j .non = its[j] := by
            rw [List.getD_eq_getElem?_getD, List.getElem?_eq_getElem hj]
            rfl
          rw [← hj2] at hm
          have hok := hits _ hm
          have q := q _ (Ex.refl H')
          generalize its.getD j .non = y at hok q ⊢
          rcases hok with ⟨n, rfl, _⟩ | ⟨tt, rfl, _, ht⟩
          · exact ⟨_, rfl, _, _, _, _, false, rfl, .ty "list", .base (.int n), kit_ty (by decide +kernel), false, rfl, iteF q⟩
          · obtain ⟨zs, hz⟩ := ht.ty
            exact ⟨_, rfl, _, _, _, _, true, rfl, .ty "list", .base (.lst (e _ _ (e5 _ _ hz))), kit_ty (by decide +kernel), true, rfl, iteT q⟩
        · intro H' e hD'
          rw [map_range_getD (fun x => V.int (wv x)) .non its] at hD'
          obtain ⟨w1, w2⟩ := wv_sum its
          refine ⟨D, its.map wv, rfl, SqL.of (by rw [hD', List.map_map]; rfl), _, _, rfl, rfl, ?_⟩
          refine ⟨some (.ref r), pl + (its.map wv).sum, bs ++ [pl], e5.trans e, e _ _ hb5, by rw [List.length_append, hbl4]; rfl, fun b hb => ?_, by omega, by rw [Int.natCast_add]; omega, rfl⟩
          rcases List.mem_append.mp hb with z | z
          · exact hbb b z
          · rw [List.mem_singleton.mp z]
            omega
      · intro σ H4 h
        obtain ⟨o5', pl, bs, e4, hb4, hbl4, hbb, p0, p1, rfl⟩ := h
        refine ⟨_, rfl, .inl ⟨rfl, _, SqL.of hb4⟩, _, rfl, bl, _, _, rfl, rfl, hb4, by rw [List.length_map, sizeLine_eq]; omega, ?_⟩
        have e5 : Ex H3 (upd H4 bl (.lst (bs.map V.int ++ [.int pl]))) := Ex.mut e4 hbl
        have hb5 : upd H4 bl (.lst (bs.map V.int ++ [.int pl])) bl = some (.lst ((bs ++ [pl]).map V.int)) := by
          rw [upd_same, List.map_append]
          rfl
        have hbs : ∀ b ∈ bs ++ [pl], 0 ≤ b ∧ b ≤ 216 := fun b hb => by
          rcases List.mem_append.mp hb with z | z
          · exact hbb b z
          · rw [List.mem_singleton.mp z]
            omega
        have hbsl : ((bs ++ [pl]).length : Int) = m + 1 := by
          rw [List.length_append, hbl4, hnl]
          show ((m.toNat + 1 : Nat) : Int) = _
          omega
        generalize bs ++ [pl] = bg at hb5 hbs hbsl
        generalize upd H4 bl (.lst (bs.map V.int ++ [.int pl])) = H5 at e5 hb5 ⊢
        clear hb4 hbl4 hbb e4 eb hbl
        have hrw5 : ∀ x ∈ xs, RwOk [] m H5 x := fun x hx => (hrw3 x hx).kp (Kp.of e5)
        have hR5 := e5 _ _ hR3
        have S5 := S3.ex e5
        have e35 : Kp [st] H H5 := e3.trans (Kp.of e5)
        refine ⟨hz0, fun f0 hf0 => ?_⟩
        have ef : Ex H5 (upd H5 f0 (.lst [])) := Ex.new hf0
        refine ⟨_, rfl, R, rfl, ⟨_, SqL.of (ef _ _ hR5)⟩, ?_⟩
        refine for_it (walk_list (xs := xs)) (fun i σ H' => ∃ o5 o9 o11 fl ns, Ex H5 H' ∧ H5 fl = none ∧ H' fl = some (.lst (ns.map V.int)) ∧ B8 ns ∧ i ≤ ns.length ∧ ns.length ≤ 12 * i ∧
            σ = [some (.ref st), some (.int 16), some (.int m), some (.ref R), o4, o5, o6, some (.ref bl), some (.int pl), o9, some (.ref fl), o11, none])
          ⟨_, none, none, f0, [], ef, hf0, upd_same, (fun b hb => by cases hb), Nat.le_refl _, Nat.le_refl _, rfl⟩ (fun i σ H' _ h => by obtain ⟨_, _, _, _, _, h1, _⟩ := h; exact SqL.of (h1 _ _ hR5)) ?_ ?_
        · intro i x σ H6 H7 hi h y
          obtain ⟨o5'', o9, o11, fl, ns, e6, hfl0, hfl, h8, n1, n2, rfl⟩ := h
          obtain ⟨rfl, hx⟩ := y
          obtain ⟨r, its, rfl, _, hr5, hi1, hi6, hits⟩ := hrw5 x (List.mem_of_getElem? hx)
          refine ⟨_, rfl, r, rfl, ⟨_, SqL.of (e6 _ _ hr5)⟩, ?_⟩
          refine for_it (walk_list (xs := its)) (fun j σ H' => ∃ o9 o11 fl ns, Ex H5 H' ∧ H5 fl = none ∧ H' fl = some (.lst (ns.map V.int)) ∧ B8 ns ∧ i + j ≤ ns.length ∧ ns.length ≤ 12 * i + 2 * j ∧
              σ = [some (.ref st), some (.int 16), some (.int m), some (.ref R), o4, some (.ref r), o6, some (.ref bl), some (.int pl), o9, some (.ref fl), o11, none])
            ⟨o9, o11, fl, ns, e6, hfl0, hfl, h8, n1, n2, rfl⟩ (fun i σ H' _ h => by obtain ⟨_, _, _, _, h1, _⟩ := h; exact SqL.of (h1 _ _ hr5)) ?_ ?_
          · intro j y σ H8 H9 hj h yy
            obtain ⟨o9', o11', fl, ns, e8, hfl0, hfl, h8, n1, n2, rfl⟩ := h
            obtain ⟨rfl, hy⟩ := yy
            rcases hits y (List.mem_of_getElem? hy) with ⟨n, rfl, n3⟩ | ⟨tt, rfl, _, ht⟩
            · refine ⟨_, rfl, _, _, _, _, false, rfl, .ty "list", .base (.int n), kit_ty (by decide +kernel), false, rfl, iteF ?_⟩
              refine ⟨_, rfl, .inl ⟨rfl, _, SqL.of hfl⟩, _, rfl, fl, _, _, rfl, rfl, hfl, by rw [List.length_map, sizeLine_eq]; omega, ?_⟩
              refine ⟨_, _, fl, ns ++ [n], Ex.mut e8 hfl0, hfl0, by rw [upd_same, List.map_append]; rfl, fun b hb => ?_, by rw [List.length_append]; show i + (j + 1) ≤ ns.length + 1; omega, by rw [List.length_append]; show ns.length + 1 ≤ _; omega, rfl⟩
              rcases List.mem_append.mp hb with z | z
              · exact h8 b z
              · rw [List.mem_singleton.mp z]
                exact n3
            · have ht8 := ht.kp (M := []) (Kp.of e8) (by simp)
              obtain ⟨zs, hz⟩ := ht8.ty
              refine ⟨_, rfl, _, _, _, _, true, rfl, .ty "list", .base (.lst hz), kit_ty (by decide +kernel), true, rfl, iteT ?_⟩
              refine ⟨fun v H' => H' = H9 ∧ ∃ th : Int, v = .int th ∧ 0 ≤ th ∧ th < 65536, ?_, ?_⟩
              · rcases ht8 with ⟨v, hv, v1, v2⟩ | ⟨v, hv, v1, v2⟩
                · refine ⟨_, rfl, tt, _, _, _, rfl, rfl, SqL.of hv, atI_nat (j := 0) rfl, rfl, _, rfl, ?_⟩
                  rw [decide_eq_true rfl]
                  exact iteT ⟨_, rfl, tt, _, _, _, rfl, rfl, SqL.of hv, atI_nat (j := 1) rfl, rfl, v, rfl, v1, by omega⟩
                · refine ⟨_, rfl, tt, _, _, _, rfl, rfl, SqL.of hv, atI_nat (j := 0) rfl, rfl, _, rfl, ?_⟩
                  rw [decide_eq_false (by intro z; cases z)]
                  obtain ⟨a1, a2⟩ := at_ints (ks := bg) v1 (by omega)
                  have := hbs _ a2
                  exact iteF ⟨_, rfl, _, rfl, tt, _, _, _, rfl, rfl, SqL.of hv, atI_nat (j := 0) rfl, bl, _, _, _, rfl, rfl, SqL.of (e8 _ _ hb5), a1, rfl, _, rfl, this.1, by omega⟩
              rintro v H10 ⟨rfl, th, rfl, t0, t1⟩
              refine ⟨_, rfl, _, rfl, _, _, rfl, rfl, ⟨by decide, by decide⟩, _, rfl, .inl ⟨_, rfl, _, _, rfl, rfl, (by show (0 : Int) < 256; decide), hz2, fun l hl => ?_⟩⟩
              have hfl' := (Ex.new (o := .lst [.int (th / 256), .int (th % 256)]) hl) _ _ hfl
              refine ⟨fl, l, _, [.int (th / 256), .int (th % 256)], rfl, rfl, hfl', upd_same, by rw [List.length_map, sizeLine_eq]; show ns.length + 2 ≤ _; omega, fun p hp => ?_⟩
              have e10 := (e8.trans (Ex.new (o := .lst [.int (th / 256), .int (th % 256)]) hl))
              refine ⟨_, _, p, ns ++ [th / 256, th % 256], e10.trans (Ex.new hp), fresh_back e10 hp, by rw [upd_same, List.map_append]; rfl, fun b hb => ?_, by rw [List.length_append]; show i + (j + 1) ≤ ns.length + 2; omega, by rw [List.length_append]; show ns.length + 2 ≤ _; omega, rfl⟩
              rcases List.mem_append.mp hb with z | z
              · exact h8 b z
              rcases List.mem_cons.mp z with z | z
              · rw [z]
                exact ⟨by omega, by omega⟩
              · rw [List.mem_singleton.mp z]
                exact ⟨by omega, by omega⟩
          · intro σ H8 h
            obtain ⟨o9', o11', fl, ns, e8, hfl0, hfl, h8, n1, n2, rfl⟩ := h
            exact ⟨_, _, _, fl, ns, e8, hfl0, hfl, h8, by omega, by omega, rfl⟩
        · intro σ H6 h
          obtain ⟨o5'', o9, o11, fl, ns, e6, hfl0, hfl, h8, n1, n2, rfl⟩ := h
          have hflH : H fl = none := e35.back (fun z => (S5.ne hfl0) (List.mem_singleton.mp z)) hfl0
          have e36 := e35.trans (Kp.of e6)
          have S6 := S5.ex e6
          refine ⟨_, rfl, fl, ns, rfl, SqL.of hfl, by omega, fun b H7 e7 => ⟨b, rfl, ?_⟩⟩
          have e37 := e36.trans (Kp.of e7)
          cases b with
          | true => exact iteT ⟨_, rfl, q _ fl ns e37 (S6.ex e7) hflH (e7 _ _ hfl) ⟨h8, by omega, by omega⟩⟩
          | false =>
            refine iteF ⟨hz1, fun l hl => ?_⟩
            refine q _ l [0] (e37.trans (Kp.of (Ex.new hl))) ((S6.ex e7).new hl) (e37.back (fun z => ((S6.ex e7).ne hl) (List.mem_singleton.mp z)) hl) upd_same ⟨fun b hb => ?_, by show 1 ≤ 1; decide, by show 1 ≤ 2000; decide⟩
            rw [List.mem_singleton.mp hb]
            exact ⟨by decide, by decide⟩
end
end BT
/-! The law's own defs, 4: rows. -/
namespace BT
open PySem PySem.Spec PyProof.Rows L2 Evl TL
theorem cutV_sub (ns : List Int) (a b : Nat) : cutV (ns.map V.int) (some (a : Int)) (some (b : Int)) = (sub ns a b).map V.int := by
  unfold cutV sub
  rw [HT.sIx_nat, HT.sIx_nat, List.length_map, List.map_take, List.map_drop]
  by_cases h1 : a ≤ ns.length
  · rw [Nat.min_eq_left h1]
    by_cases h2 : b ≤ ns.length
    · rw [Nat.min_eq_left h2]
    · rw [Nat.min_eq_right (by omega), List.take_of_length_le (by simp), List.take_of_length_le (by simp; omega)]
  · have e1 : min a ns.length = ns.length := Nat.min_eq_right (by omega)
    rw [e1, List.drop_of_length_le (Nat.le_of_eq (List.length_map ..)), List.drop_of_length_le (by rw [List.length_map]; omega), List.take_nil, List.take_nil]
theorem reach_le {ns : List Int} (hI : Img ns) {p : Nat} (h : Reach ns p) : p ≤ 65535 := by
  cases h with
  | z => decide
  | s hp hq =>
    obtain ⟨q, e, hl⟩ := ways_le hI hq
    omega
/-- the values of an item -/
def itV : It → List V
  | .s x => [.str x]
  | .n i => [.int i]
  | .t l => l.map V.int
theorem itV_len (it : It) : (itV it).length = (itT it).length := by
  cases it with
  | s x => rfl
  | n i => rfl
  | t l => simp [itV, itT]
theorem strs_shaped : ∀ l : List Str, (∀ x ∈ l, PyData.strOk x = true) → SeqAt.shaped (.list (l.map PyData.str)) = true := by
  have lay : ∀ l : List Str, (∀ x ∈ l, PyData.strOk x = true) → PyData.canLayAll0 (l.map PyData.str) = true := by
    intro l
    induction l with
    | nil => intro _; simp [PyData.canLayAll0]
    | cons a r ih =>
      intro h
      simp [PyData.canLayAll0, PyData.canLay0, ih fun x hx => h x (List.mem_cons_of_mem _ hx), h a (List.mem_cons_self ..)]
  have dep : ∀ l : List Str, PyData.depthAll (l.map PyData.str) ≤ 1 := by
    intro l
    induction l with
    | nil => simp [PyData.depthAll]
    | cons a r ih =>
      simp only [List.map_cons, PyData.depthAll, PyData.depth]
      omega
  intro l hok
  have h1 := dep l
  have h2 : PyData.depth (.list (l.map PyData.str)) ≤ 64 := by
    simp only [PyData.depth]
    omega
  show (PyData.canLay0 (.list (l.map PyData.str)) && decide (PyData.depth (.list (l.map PyData.str)) ≤ 64)) = true
  rw [Bool.and_eq_true]
  exact ⟨by simp only [PyData.canLay0]; exact lay l hok, decide_eq_true h2⟩
theorem hx_ok {n : Int} (h : 0 ≤ n ∧ n < 256) : PyData.strOk (hx n) = true := by
  unfold PyData.strOk hx
  have h1 := hd_lt (n := n.toNat / 16) (by omega)
  have h2 := hd_lt (n := n.toNat % 16) (by omega)
  simp only [List.all_toArray, List.all_cons, List.all_nil, Bool.and_true, Bool.and_eq_true, decide_eq_true_eq]
  omega
theorem dp_strs {K : PySem.W.Frag} {H : Hp} : ∀ l : List Str, DpAll K H (l.map V.str) (l.map PyData.str)
  | [] => .nil
  | i :: r => .cons (.str i) (dp_strs r)
theorem eqv_nilS (l : List Str) : PyData.eqv (.list (l.map PyData.str)) (.list []) = l.isEmpty := by
  cases l with
  | nil => simp [PyData.eqv, PyData.eqvAll]
  | cons a r => simp [PyData.eqv, PyData.eqvAll]
theorem sub_size {ns : List Int} {a b : Nat} (h1 : a ≤ b) (h2 : b ≤ ns.length) : (sub ns a b).length = b - a := by
  unfold sub
  rw [List.length_take, List.length_drop]
  omega
theorem paired_imp {α β : Type} {F G : α → β → Prop} (h : ∀ a b, F a b → G a b) : ∀ {l : List α} {m : List β}, Paired F l m → Paired G l m
  | _, _, .nil => .nil
  | _, _, .cons r t => .cons (h _ _ r) (paired_imp h t)
def spLRows (K : PySem.W.Frag) : Sp := fun vs H Q _ => ∃ (ns : List Int) (a : Addr), vs = [.byt (byteArr ns), .ref a] ∧ Img ns ∧ SqL K H a (ns.map V.int) ∧ ∀ H' l, Ex H H' → H l = none → H' l = some (.lst ((rowsL ns).map V.str)) → Q (.ref l) H'
section
variable {P : Program} {w : World} {K : PySem.W.Frag} {mg : Str → Option Value} {base : Heap}
theorem ok_l_rows (T : Txt K mg) (C : Txc K w mg) : Own P w K mg base CX0 10 "_law_rows" ["_law_image", "_law_numbers_here"] (spLRows K) := own_of T.lRows fun f fd F => by
  have G1 := ok_reached (P := P) (base := base) T C
  have G2 := ok_row_at (P := P) (base := base) T C
  have G3 := ok_l_hex (P := P) (w := w) (base := base) T
  have G5 := ok_never (P := P) (base := base) T C
  refine F.ok scLRows (fun vs H Q E h => ?_) (fun cdv A outer s H vs Q E hr h => ?_)
  · obtain ⟨ns, a, rfl, _⟩ := h
    rfl
  · obtain ⟨ns, a, rfl, hI, hA, q⟩ := h
    have hr1 : Room 1 _ := hr.mono (by decide)
    have hr6 : Room 6 _ := hr.mono (by decide)
    have hr8 : Room 8 _ := hr.mono (by decide)
    have hns := hI.hi
    refine ⟨_, pss_cons (ps_set (i := 2) scLRows.nd rfl (.inl rfl) (pe_lst pa_nil))
      (pss_cons (ps_for PassesOwn.never rfl (pi_list (LiI.pe_listItems rfl (pe_own G1 hr8 pass0 (pa_cons (pv 0) pa_nil)) rfl T.list (by decide +kernel))) (pg_tup rfl (pgs_cons (pg_name (i := 3) scLRows.nd rfl (Or.inl rfl)) (pgs_cons (pg_name (i := 4) scLRows.nd rfl (Or.inl rfl)) pgs_nil)))
        (pss_cons (ps_set (i := 5) scLRows.nd rfl (.inl rfl) (pe_lst pa_nil))
        (pss_cons (ps_for PassesOwn.never rfl (pi_tup (pv 4)) (pg_name (i := 6) scLRows.nd rfl (Or.inl rfl))
          (pss_cons (ps_set (i := 7) scLRows.nd rfl (.inl rfl) (PE_up (pe_ifExp (pt_val (pe_callB call_isi (by rfl) T.isinstance (by decide +kernel) (pa_cons (pv 6) (pa_cons (pe_ty (n := "tuple") T.tuple (by decide +kernel)) pa_nil))))
              (pe_callTy call_list_of (by rfl) T.list (by decide +kernel) (pa_cons (pv 6) pa_nil)) (pe_lst (pa_cons (pv 6) pa_nil)))))
          (pss_one (ps_set (i := 5) scLRows.nd rfl (.inl rfl) (pe_op op_cat (pv 5) (pe_lc (own := [("_law_one", 11)]) (g := gName 11) (tt := tYes) rfl scLRows.nd (pi_list (pv 7)) (blkOk_by (N := nLRows) (sc := defScope sLRows) (by decide +kernel))
              (fun _ _ _ _ _ => pg_name (i := 11) scLRows.nd rfl (Or.inl rfl)) (fun _ _ _ _ _ => pts_nil) (fun _ _ _ _ _ => pe_callTy call_str2 (by rfl) T.str (by decide +kernel) (pa_cons (pv 11) pa_nil))))))))
        (pss_cons (ps_setLc (i := 7) (own := [("_law_one", 11)]) (g := gName 11) (tt := tYes) (by rfl) scLRows.nd rfl rfl (sw_true rfl rfl rfl (by decide +kernel)) (pi_list (pe_slice sl_list (pv 1) (po_some (pv 3)) (po_some (pe_op op_add (pv 3) (pe_ix ix_tup (pe_own G2 hr6 pass0 (pa_cons (pv 0) (pa_cons (pv 3) pa_nil))) pe_int (fun _ _ => rfl)))))) (blkOk_by (N := nLRows) (sc := defScope sLRows) (by decide +kernel))
              (fun _ _ _ _ _ => pg_name (i := 11) scLRows.nd rfl (Or.inl rfl)) (fun _ _ _ _ _ => pts_nil) (fun _ _ _ _ _ => pe_own G3 hr1 pass0 (pa_cons (pe_lst (pa_cons (pv 11) pa_nil)) pa_nil)))
        (pss_cons (ps_set (i := 8) scLRows.nd rfl (.inl rfl) (PE_up (pe_ifExp (pt_cmpR (op_neD hr.units) (pv 7) (pe_lst pa_nil) (nomark _)) (pe_op op_add_str (pe_op op_add_str pe_str (pe_join pe_str (pv 7))) pe_str) pe_str)))
        (pss_one (ps_expr (pe_bm PySem.F.plainAttrs_list PySem.F.slot_list_append PySem.F.type_list_append mt_append (pv 2) (pa_cons (pe_tup (pa_cons (pv 3) (pa_cons pe_int (pa_cons (pe_op op_add_str (pe_op op_add_str (pe_callTy call_str_int (by rfl) T.str (by decide +kernel) (pa_cons (pv 3) pa_nil)) (pv 8)) (pe_join pe_str (pv 5))) pa_nil)))) pa_nil)))))))))
      (pss_cons (ps_for PassesOwn.never rfl (pi_list (pe_own G5 hr pass0 (pa_cons (pv 0) pa_nil))) (pg_tup rfl (pgs_cons (pg_name (i := 9) scLRows.nd rfl (Or.inl rfl)) (pgs_cons (pg_name (i := 10) scLRows.nd rfl (Or.inl rfl)) pgs_nil)))
        (pss_one (ps_expr (pe_bm PySem.F.plainAttrs_list PySem.F.slot_list_append PySem.F.type_list_append mt_append (pv 2) (pa_cons (pe_tup (pa_cons (pv 9) (pa_cons pe_int (pa_cons (pe_op op_add_str (pe_op op_add_str (pe_callTy call_str_int (by rfl) T.str (by decide +kernel) (pa_cons (pv 9) pa_nil)) pe_str)
            (pe_join pe_str (pe_lc (own := [("_law_one", 11)]) (g := gName 11) (tt := tYes) rfl scLRows.nd (pi_list (pe_slice sl_list (pv 1) (po_some (pv 9)) (po_some (pv 10)))) (blkOk_by (N := nLRows) (sc := defScope sLRows) (by decide +kernel))
              (fun _ _ _ _ _ => pg_name (i := 11) scLRows.nd rfl (Or.inl rfl)) (fun _ _ _ _ _ => pts_nil) (fun _ _ _ _ _ => pe_own G3 hr1 pass0 (pa_cons (pe_lst (pa_cons (pv 11) pa_nil)) pa_nil))))) pa_nil)))) pa_nil)))))
      (pss_one (ps_ret (pe_lc (own := [("_law_place", 3), ("_law_sort", 12), ("_law_row_here", 4)]) (g := gTup K 3 (gCons (gName 3) (gCons (gName 12) (gCons (gName 4) gNil)))) (tt := tYes) rfl scLRows.nd (pi_list (pe_callB cr_sorted3 (by rfl) T.sorted (by decide +kernel) (pa_cons (pv 2) pa_nil))) (blkOk_by (N := nLRows) (sc := defScope sLRows) (by decide +kernel))
          (fun _ _ _ _ _ => pg_tup rfl (pgs_cons (pg_name (i := 3) scLRows.nd rfl (Or.inl rfl)) (pgs_cons (pg_name (i := 12) scLRows.nd rfl (Or.inl rfl)) (pgs_cons (pg_name (i := 4) scLRows.nd rfl (Or.inl rfl)) pgs_nil)))) (fun _ _ _ _ _ => pts_nil)
          (fun _ _ _ _ _ => pv 4)))))), ?_⟩
    have hz0 : 0 ≤ sizeLine := by decide
    have hz1 : 1 ≤ sizeLine := by decide
    have hz3 : 3 ≤ sizeLine := by decide
    obtain ⟨c1, c2, c3⟩ := colon_len
    have csp : (" " : Str).length = 1 := by decide +kernel
    refine ⟨hz0, fun l hl => ?_⟩
    have el : Ex H (upd H l (.lst [])) := Ex.new hl
    refine ⟨_, rfl, ns, rfl, hI, fun H1 d kvs e1 hd0 hk hdic => ?_⟩
    refine ⟨d, kvs, rfl, hk, fun H2 p ts e2 hp hts hpt hp2 hpair => ?_⟩
    have hl1 : H1 l = some (.lst []) := e1 _ _ upd_same
    have hl2 := e2 _ _ hl1
    have eb := (el.trans e1).trans e2
    have hpl : p ≠ l := fun z => by
      rw [z, hl1] at hp
      cases hp
    have hdic2 : DicAt K H2 ns (reachL ns) kvs := DicAt.ex e2 hdic
    clear e2 hk hdic e1 hd0 el hl1 hts hpt
    have hkl : (reachL ns).length = kvs.length := hdic2.length
    have htl : ts.length = kvs.length := hpair.length
    have hrl := reachL_len hI
    refine ⟨p, rfl, ⟨_, SqL.of hp2⟩, ?_⟩
    have hxs : (ts.map V.ref).length = (reachL ns).length := by rw [List.length_map, htl, hkl]
    refine for_it (walk_list (xs := ts.map V.ref)) (fun i σ H' => ∃ xs o3 o4 o5 o6 o7 o8, Ex H H' ∧ H' p = some (.lst (ts.map V.ref)) ∧ Paired (fun (t : Addr) (q : Key × V) => H' t = some (.tup [kV q.1, q.2])) ts kvs ∧ DicAt K H' ns (reachL ns) kvs ∧ H' l = some (.lst xs) ∧ EntAt H' (((reachL ns).take i).map fun p => (p, 1, insT ns p)) xs ∧
        σ = [some (.byt (byteArr ns)), some (.ref a), some (.ref l), o3, o4, o5, o6, o7, o8, none, none, none, none])
      ⟨[], none, none, none, none, none, none, eb, hp2, hpair, hdic2, hl2, .nil, rfl⟩ (fun i σ H' _ h => by obtain ⟨_, _, _, _, _, _, _, h1, h2, h3⟩ := h; exact SqL.of h2) ?_ ?_
    · intro i x σ H3 H4 hi h y
      obtain ⟨xs, o3, o4, o5, o6, o7, o8, e3, hp3, hpair3, hdic3, hl3, hE, rfl⟩ := h
      obtain ⟨rfl, hx0⟩ := y
      rw [hxs] at hi
      have hg : (reachL ns)[i]? = some ((reachL ns).getD i 0) := by
        rw [List.getD_eq_getElem?_getD, List.getElem?_eq_getElem hi]
        rfl
      obtain ⟨⟨ky, vy⟩, hkv, hky, hR⟩ := paired_at hdic3 hg
      have hky : ky = Sum.inl (((reachL ns).getD i 0 : Nat) : Int) := hky
      subst hky
      have hti : ts[i]? = some (ts.getD i 0) := by
        rw [List.getD_eq_getElem?_getD, List.getElem?_eq_getElem (by omega)]
        rfl
      rw [List.getElem?_map, hti] at hx0
      have hx0 : V.ref (ts.getD i 0) = x := Option.some.inj hx0
      subst hx0
      obtain ⟨q', hq', htt⟩ := paired_at hpair3 hti
      rw [hkv] at hq'
      obtain rfl := Option.some.inj hq'
      have hpm := List.mem_of_getElem? hg
      have htake := take_snoc (0 : Nat) hi
      generalize (reachL ns).getD i 0 = pp at htake hpm hR htt
      have hre := (mem_reachL hI).mp hpm
      have hpl2 := reach_le hI hre
      refine ⟨_, _, rfl, st_of htt, rfl, _, _, rfl, _, _, rfl, rfl, ?_⟩
      have hDok := dec_ok hI.b8 pp
      obtain ⟨hok, hlen⟩ := row_ok hDok
      obtain ⟨f1, f2⟩ := flat_ok hok
      have f3 := words_count hDok
      obtain ⟨ra, vs, rfl, hRS, hits⟩ := hR
      have hvl : (rowOf (dec ns pp)).length = vs.length := hits.length
      refine ⟨hz0, fun w0 hw0 => ?_⟩
      have ew : Ex H4 (upd H4 w0 (.lst [])) := Ex.new hw0
      refine ⟨_, rfl, ra, rfl, ⟨_, ex_t ew hRS⟩, ?_⟩
      refine for_it (walk_tup (xs := vs)) (fun j σ H' => Ex H4 H' ∧ ∃ wl o6 o7, H' wl = some (.lst ((((rowOf (dec ns pp)).take j).flatMap itT).map V.str)) ∧
          σ = [some (.byt (byteArr ns)), some (.ref a), some (.ref l), some (.int (pp : Int)), some (.ref ra), some (.ref wl), o6, o7, o8, none, none, none, none])
        ⟨ew, w0, _, _, upd_same, rfl⟩ (fun j σ H' _ h => ex_t h.1 hRS) ?_ ?_
      · intro j y σ H5 H6 hj h yy
        obtain ⟨e5, wl, o6', o7', hwl, rfl⟩ := h
        obtain ⟨rfl, hy⟩ := yy
        have hj' : j < (rowOf (dec ns pp)).length := by omega
        have hgj : (rowOf (dec ns pp))[j]? = some ((rowOf (dec ns pp)).getD j (.n 0)) := by
          rw [List.getD_eq_getElem?_getD, List.getElem?_eq_getElem hj']
          rfl
        obtain ⟨y', hy', hit⟩ := paired_at hits hgj
        rw [hy] at hy'
        obtain rfl := Option.some.inj hy'
        have hoki := hok _ (List.mem_of_getElem? hgj)
        have htk := wordsT_take hj'
        have hfl := (flat_ok (r := (rowOf (dec ns pp)).take j) fun it h => hok it (List.mem_of_mem_take h)).1
        have htl3 : ((rowOf (dec ns pp)).take j).length ≤ 3 := by rw [List.length_take]; omega
        generalize (rowOf (dec ns pp)).getD j (.n 0) = it at htk hit hoki
        have hitl := (itT_ok hoki).1
        refine ⟨fun v H7 => Ex H6 H7 ∧ ∃ sl, v = .ref sl ∧ H7 sl = some (.lst (itV it)), ?_, ?_⟩
        · cases it with
          | s z =>
            obtain rfl : y = .str z := hit
            refine ⟨_, rfl, _, _, _, _, false, rfl, .ty "tuple", .base (.str z), kit_ty (by decide +kernel), false, rfl, iteF ?_⟩
            exact ⟨_, rfl, hz1, fun sl hsl => ⟨Ex.new hsl, sl, rfl, upd_same⟩⟩
          | n m =>
            obtain rfl : y = .int m := hit
            refine ⟨_, rfl, _, _, _, _, false, rfl, .ty "tuple", .base (.int m), kit_ty (by decide +kernel), false, rfl, iteF ?_⟩
            exact ⟨_, rfl, hz1, fun sl hsl => ⟨Ex.new hsl, sl, rfl, upd_same⟩⟩
          | t js =>
            obtain ⟨b, rfl, hb⟩ := hit
            have hb2 := ex_t e5 hb
            refine ⟨_, rfl, _, _, _, _, true, rfl, .ty "tuple", ty_tup hb2, kit_ty (by decide +kernel), true, rfl, iteT ?_⟩
            exact ⟨_, rfl, b, _, rfl, .inr hb2, fun sl hsl => ⟨Ex.new hsl, sl, rfl, upd_same⟩⟩
        · rintro v H7 ⟨e7, sl, rfl, hsl⟩
          have hwl7 := e7 _ _ hwl
          have e57 := e5.trans e7
          refine ⟨_, rfl, _, rfl, sl, rfl, ⟨_, SqL.of hsl⟩, fun D hD => ?_⟩
          refine lc_name (walk_list (xs := itV it)) _ (fun m => .str ((itT it).getD m "")) y_at (fun _ => rfl) (by rw [itV_len, sizeLine_eq]; omega) hD (fun H' e => SqL.of (e _ _ hsl)) ?_ ?_
          · intro m H' hm e Q q
            have q := q _ (Ex.refl H')
            cases it with
            | s z =>
              have hm : m < 1 := hm
              have : m = 0 := by omega
              subst this
              exact ⟨_, rfl, .inr ⟨z, rfl, q⟩⟩
            | n n0 =>
              have hm : m < 1 := hm
              have : m = 0 := by omega
              subst this
              have h1 := hoki.1
              have h2 := hoki.2
              exact ⟨_, rfl, .inl ⟨n0, rfl, log_ok (by omega), q⟩⟩
            | t js =>
              have hm : m < (js.map V.int).length := hm
              rw [List.length_map] at hm
              have hgm : js[m]? = some (js.getD m 0) := by
                rw [List.getD_eq_getElem?_getD, List.getElem?_eq_getElem hm]
                rfl
              have h3 := hoki.2 _ (List.mem_of_getElem? hgm)
              have e1 : (itV (.t js)).getD m .non = .int (js.getD m 0) := by
                show (js.map V.int).getD m .non = _
                rw [List.getD_eq_getElem?_getD, List.getElem?_map, hgm]
                rfl
              have e2 : (itT (.t js)).getD m "" = numT (js.getD m 0) := by
                show (js.map numT).getD m "" = _
                rw [List.getD_eq_getElem?_getD, List.getElem?_map, hgm]
                rfl
              rw [e1]
              rw [e2] at q
              exact ⟨_, rfl, .inl ⟨_, rfl, log_ok (by omega), q⟩⟩
          · intro H' e hl'
            rw [itV_len, map_range_getD V.str "" (itT it)] at hl'
            refine ⟨wl, D, _, _, rfl, rfl, e _ _ hwl7, hl', by rw [List.length_map, List.length_map, sizeLine_eq]; omega, fun wn hwn => ?_⟩
            refine ⟨(e57.trans e).trans (Ex.new hwn), wn, _, _, ?_, rfl⟩
            rw [upd_same, htk, List.map_append]
      · intro σ H5 h
        obtain ⟨e5, wl, o6', o7', hwl, rfl⟩ := h
        rw [← hvl, List.take_length] at hwl
        have hA5 := ex_l (e3.trans e5) hA
        refine ⟨_, rfl, _, rfl, _, rfl, _, rfl, _, rfl, _, rfl, ns, pp, rfl, hI, hpl2, fun H6 t r e6 ht0 ht hR6 => ?_⟩
        refine ⟨t, _, _, _, rfl, rfl, st_of ht, atI_nat (j := 1) rfl, _, _, rfl, rfl, _, rfl, ?_⟩
        have hA6 := ex_l e6 hA5
        refine ⟨a, _, rfl, hA6, fun sp hsp => ?_⟩
        have hcut : cutV (ns.map V.int) (some (pp : Int)) (some ((pp : Int) + (manyOf ns pp : Nat))) = (sub ns pp (pp + manyOf ns pp)).map V.int := by
          rw [← cutV_sub, Int.natCast_add]
        have e7 : Ex H4 (upd H6 sp (.lst (cutV (ns.map V.int) (some (pp : Int)) (some ((pp : Int) + (manyOf ns pp : Nat)))))) := (e5.trans e6).trans (Ex.new hsp)
        have hwl7 := (Ex.new hsp (o := .lst (cutV (ns.map V.int) (some (pp : Int)) (some ((pp : Int) + (manyOf ns pp : Nat)))))) _ _ (e6 _ _ hwl)
        have hsp7 : upd H6 sp (.lst (cutV (ns.map V.int) (some (pp : Int)) (some ((pp : Int) + (manyOf ns pp : Nat))))) sp = some (.lst ((sub ns pp (pp + manyOf ns pp)).map V.int)) := by rw [upd_same, hcut]
        generalize upd H6 sp (.lst (cutV (ns.map V.int) (some (pp : Int)) (some ((pp : Int) + (manyOf ns pp : Nat))))) = H7 at e7 hwl7 hsp7 ⊢
        have hs8 := sub_b8 hI.b8 pp (pp + manyOf ns pp)
        have hsl := sub_len ns pp (pp + manyOf ns pp)
        have h513 := many_513 hI.b8 pp
        have hml := many_le ns pp
        have hse : (sub ns pp (pp + manyOf ns pp)).isEmpty = decide (manyOf ns pp = 0) := by
          rcases hml with h | h
          · have := sub_size (ns := ns) (a := pp) (b := pp + manyOf ns pp) (by omega) h
            cases hh : sub ns pp (pp + manyOf ns pp) with
            | nil =>
              rw [hh] at this
              have this : 0 = pp + manyOf ns pp - pp := this
              rw [decide_eq_true (by omega)]
              rfl
            | cons x r =>
              rw [hh] at this
              have this : r.length + 1 = pp + manyOf ns pp - pp := this
              rw [decide_eq_false (by omega)]
              rfl
          · rw [h, decide_eq_true rfl]
            unfold sub
            simp
        have hmid : midT ns pp = if 0 < manyOf ns pp then " : " ++ pairsT (sub ns pp (pp + manyOf ns pp)) ++ " : " else " : : " := rfl
        generalize sub ns pp (pp + manyOf ns pp) = sb at hsp7 hs8 hsl hse hmid
        refine ⟨sp, rfl, ⟨_, SqL.of hsp7⟩, fun D hD => ?_⟩
        refine lc_name (walk_list (xs := sb.map V.int)) _ (fun m => .str (hx (sb.getD m 0))) y_at (fun _ => rfl) (by rw [List.length_map, sizeLine_eq]; omega) hD (fun H' e => SqL.of (e _ _ hsp7)) ?_ ?_
        · intro m H' hm e Q q
          rw [List.length_map] at hm
          have hgm : sb[m]? = some (sb.getD m 0) := by
            rw [List.getD_eq_getElem?_getD, List.getElem?_eq_getElem hm]
            rfl
          have ev : (sb.map V.int).getD m .non = .int (sb.getD m 0) := by
            rw [List.getD_eq_getElem?_getD, List.getElem?_map, hgm]
            rfl
          rw [ev]
          refine ⟨_, rfl, hz1, fun u hu => ⟨u, [sb.getD m 0], rfl, SqL.of upd_same, ?_, by show 1 ≤ 2000; decide, fun H'' e'' => q _ ((Ex.new hu).trans e'')⟩⟩
          intro n hn
          rw [List.mem_singleton.mp hn]
          exact hs8 _ (List.mem_of_getElem? hgm)
        intro H8 e8 hD8
        rw [List.length_map, map_range_getD (fun n => V.str (hx n)) 0 sb] at hD8
        have hD8 : H8 D = some (.lst ((sb.map hx).map V.str)) := by
          rw [hD8, List.map_map]
          rfl
        have e48 := e7.trans e8
        have hwl8 := e8 _ _ hwl7
        have hplen : (pairsT sb).length ≤ 3 * sb.length := pairsT_len sb
        refine ⟨fun v H9 => Ex H8 H9 ∧ v = .str (midT ns pp), ?_, ?_⟩
        · refine ⟨_, rfl, hz0, fun u hu => ?_⟩
          have hok2 : ∀ x ∈ sb.map hx, PyData.strOk x = true := fun x hx' => by
            obtain ⟨n, hn, rfl⟩ := List.mem_map.mp hx'
            exact hx_ok (hs8 n hn)
          refine ⟨_, _, .lst (SqL.of ((Ex.new hu) _ _ hD8)) (dp_strs _), .lst (SqL.of upd_same) .nil, strs_shaped _ hok2, PySem.W.shaped_ints [], _, rfl, ?_⟩
          rw [eqv_nilS, List.isEmpty_map, hse]
          by_cases hm0 : manyOf ns pp = 0
          · rw [decide_eq_true hm0]
            refine iteF ⟨Ex.new hu, ?_⟩
            rw [hmid, if_neg (by omega)]
          · rw [decide_eq_false hm0]
            refine iteT ⟨⟨_, rfl⟩, _, rfl, _, D, sb.map hx, rfl, rfl, .inl (SqL.of ((Ex.new hu) _ _ hD8)), ?_, _, _, rfl, rfl, ?_, _, _, rfl, rfl, ?_, Ex.new hu, ?_⟩
            · have h1 : ((sb.map hx).map (·.length)).sum ≤ 2 * (sb.map hx).length := sum_le fun x hx' => by
                obtain ⟨i, hi, rfl⟩ := List.mem_map.mp hx'
                exact Nat.le_of_eq (hx_len i)
              rw [List.length_map] at h1
              rw [List.length_map, csp]
              omega
            · show (" : " : Str).length + (pairsT sb).length ≤ _
              rw [c1, sizeLine_eq]
              omega
            · show ((" : " : Str) ++ pairsT sb).length + (" : " : Str).length ≤ _
              rw [str_app_len, c1, sizeLine_eq]
              omega
            · rw [hmid, if_pos (by omega)]
              rfl
        rintro v H9 ⟨e9, rfl⟩
        have hmidl : (midT ns pp).length ≤ 1545 := by
          rw [hmid]
          split
          · rw [str_app_len, str_app_len, c1]
            omega
          · rw [c2]
            omega
        have e49 := e48.trans e9
        have hl9 := e49 _ _ hl3
        have hwl9 := e9 _ _ hwl8
        have hnum := num_len (i := (pp : Int)) (by omega) (by omega)
        have hwtl := wordsT_len hDok
        refine ⟨_, rfl, .inl ⟨rfl, _, SqL.of hl9⟩, _, rfl, _, rfl, _, rfl, log_ok (by omega), _, rfl, _, _, rfl, rfl, ?_, ?_⟩
        · show (numT (pp : Int)).length + (midT ns pp).length ≤ sizeLine
          rw [sizeLine_eq]
          omega
        refine ⟨⟨_, rfl⟩, _, rfl, _, wl, (rowOf (dec ns pp)).flatMap itT, rfl, rfl, .inl (SqL.of hwl9), ?_, _, _, rfl, rfl, ?_, hz3, fun t2 ht2 => ?_⟩
        · have h2 := sum_le f2
          rw [csp]
          omega
        · show (numT (pp : Int) ++ midT ns pp).length + (wordsT (rowOf (dec ns pp))).length ≤ sizeLine
          rw [sizeLine_eq, str_app_len]
          omega
        have e10 : Ex H9 (upd H9 t2 (.tup [.int (pp : Int), .int 1, .str (Str.ofString (toString (pp : Int)) ++ midT ns pp ++ Txt.join " " ((rowOf (dec ns pp)).flatMap itT))])) := Ex.new ht2
        have hl10 := e10 _ _ hl9
        have ee := e49.trans e10
        have hxl := hE.length
        rw [List.length_map, List.length_take] at hxl
        refine ⟨l, _, _, rfl, rfl, hl10, by rw [sizeLine_eq]; omega, ?_⟩
        refine ⟨_, _, _, _, _, _, _, Ex.mut (e3.trans ee) hl, ?_, ?_, ?_, upd_same, ?_, rfl⟩
        · rw [upd_ne hpl]
          exact ee _ _ hp3
        · refine paired_imp (fun t q h => ?_) hpair3
          rw [upd_ne (ne_of (ee _ _ h) hl10 (by intro z; cases z))]
          exact ee _ _ h
        · exact dic_keepO hl10 (fun _ z => by cases z) (fun _ _ z => by cases z) (DicAt.ex ee hdic3)
        · rw [htake, List.map_append]
          refine paired_snoc ?_ (ent_keep hl10 (fun _ z => by cases z) (EntAt.ex ee hE))
          refine ⟨t2, rfl, ?_⟩
          rw [upd_ne (ne_of upd_same hl10 (by intro z; cases z)), upd_same]
          rfl
    · intro σ H3 h
      obtain ⟨xs, o3, o4, o5, o6, o7, o8, e3, hp3, hpair3, hdic3, hl3, hE, rfl⟩ := h
      rw [hxs, List.take_length] at hE
      clear hp3 hpair3 hdic3
      refine ⟨_, rfl, ns, rfl, hI, fun H4 nl vs e4 hnl0 hnl hN => ?_⟩
      have hnll : nl ≠ l := fun z => by
        rw [z, hl3] at hnl0
        cases hnl0
      have hl4 := e4 _ _ hl3
      have hE4 := hE.ex e4
      have e34 := e3.trans e4
      clear hl3 hE
      have hvl : (neverL ns).length = vs.length := hN.length
      have hnlen := never_len ns
      have hok := never_ok ns
      have hxl : ((reachL ns).map fun p => (p, 1, insT ns p)).length = xs.length := hE4.length
      rw [List.length_map] at hxl
      refine ⟨nl, rfl, ⟨_, SqL.of hnl⟩, ?_⟩
      refine for_it (walk_list (xs := vs)) (fun i σ H' => ∃ xs o9 o10, Ex H H' ∧ H' nl = some (.lst vs) ∧ NevAt H' (neverL ns) vs ∧ H' l = some (.lst xs) ∧ xs.length = (reachL ns).length + i ∧ EntAt H' ((reachL ns).map (fun p => (p, 1, insT ns p)) ++ ((neverL ns).take i).map fun q => (q.1, 0, nevT ns q)) xs ∧
          σ = [some (.byt (byteArr ns)), some (.ref a), some (.ref l), o3, o4, o5, o6, o7, o8, o9, o10, none, none])
        ⟨xs, none, none, e34, hnl, hN, hl4, hxl.symm, by rw [List.take_zero, List.map_nil, List.append_nil]; exact hE4, rfl⟩ (fun i σ H' _ h => by obtain ⟨xs, o6, o7, h1, h2, h3⟩ := h; exact SqL.of h2) ?_ ?_
      · intro i x σ H5 H6 hi h y
        obtain ⟨xs, o9, o10, e5, hn5, hN5, hl5, hxl5, hE5, rfl⟩ := h
        obtain ⟨rfl, hx0⟩ := y
        have hi' : i < (neverL ns).length := by omega
        have hg : (neverL ns)[i]? = some ((neverL ns).getD i (0, 0)) := by
          rw [List.getD_eq_getElem?_getD, List.getElem?_eq_getElem hi']
          rfl
        obtain ⟨x', hx', t, rfl, ht⟩ := paired_at hN5 hg
        rw [hx0] at hx'
        obtain rfl := Option.some.inj hx'
        have hqm := List.mem_of_getElem? hg
        have htake := take_snoc ((0, 0) : Nat × Nat) hi'
        generalize (neverL ns).getD i (0, 0) = qq at htake hqm ht
        obtain ⟨b, e⟩ := qq
        obtain ⟨o1, o2', _⟩ := hok.ok (b, e) hqm
        have o1 : b < e := o1
        have o2' : e ≤ ns.length := o2'
        refine ⟨t, _, rfl, st_of ht, rfl, _, _, rfl, _, _, rfl, rfl, ?_⟩
        have hnum := num_len (i := (b : Int)) (by omega) (by omega)
        have hpt := pairsT_len (sub ns b e)
        have hsl := sub_len ns b e
        have hs8 := sub_b8 hI.b8 b e
        refine ⟨_, rfl, .inl ⟨rfl, _, SqL.of hl5⟩, _, rfl, _, rfl, _, rfl, log_ok (by omega), _, _, rfl, rfl, ?_, ?_⟩
        · show (numT (b : Int)).length + (" : " : Str).length ≤ sizeLine
          rw [c1, sizeLine_eq]
          omega
        refine ⟨⟨_, rfl⟩, _, rfl, _, rfl, _, rfl, _, rfl, _, rfl, a, _, rfl, ex_l e5 hA, fun sp hsp => ?_⟩
        have hsp7 : upd H6 sp (.lst (cutV (ns.map V.int) (some (b : Int)) (some (e : Int)))) sp = some (.lst ((sub ns b e).map V.int)) := by rw [upd_same, cutV_sub]
        have e7 : Ex H6 (upd H6 sp (.lst (cutV (ns.map V.int) (some (b : Int)) (some (e : Int))))) := Ex.new hsp
        generalize upd H6 sp (.lst (cutV (ns.map V.int) (some (b : Int)) (some (e : Int)))) = H7 at hsp7 e7 ⊢
        have hnt : nevT ns (b, e) = numT (b : Int) ++ " : " ++ pairsT (sub ns b e) := rfl
        generalize sub ns b e = sb at hsp7 hs8 hsl hpt hnt
        refine ⟨sp, rfl, ⟨_, SqL.of hsp7⟩, fun D hD => ?_⟩
        refine lc_name (walk_list (xs := sb.map V.int)) _ (fun m => .str (hx (sb.getD m 0))) y_at (fun _ => rfl) (by rw [List.length_map, sizeLine_eq]; omega) hD (fun H' e => SqL.of (e _ _ hsp7)) ?_ ?_
        · intro m H' hm e Q q
          rw [List.length_map] at hm
          have hgm : sb[m]? = some (sb.getD m 0) := by
            rw [List.getD_eq_getElem?_getD, List.getElem?_eq_getElem hm]
            rfl
          have ev : (sb.map V.int).getD m .non = .int (sb.getD m 0) := by
            rw [List.getD_eq_getElem?_getD, List.getElem?_map, hgm]
            rfl
          rw [ev]
          refine ⟨_, rfl, hz1, fun u hu => ⟨u, [sb.getD m 0], rfl, SqL.of upd_same, ?_, by show 1 ≤ 2000; decide, fun H'' e'' => q _ ((Ex.new hu).trans e'')⟩⟩
          intro n hn
          rw [List.mem_singleton.mp hn]
          exact hs8 _ (List.mem_of_getElem? hgm)
        intro H8 e8 hD8
        rw [List.length_map, map_range_getD (fun n => V.str (hx n)) 0 sb] at hD8
        have hD8 : H8 D = some (.lst ((sb.map hx).map V.str)) := by
          rw [hD8, List.map_map]
          rfl
        have e78 := e7.trans e8
        refine ⟨_, D, sb.map hx, rfl, rfl, .inl (SqL.of hD8), ?_, _, _, rfl, rfl, ?_, hz3, fun t2 ht2 => ?_⟩
        · have h1 : ((sb.map hx).map (·.length)).sum ≤ 2 * (sb.map hx).length := sum_le fun x hx' => by
            obtain ⟨i, hi, rfl⟩ := List.mem_map.mp hx'
            exact Nat.le_of_eq (hx_len i)
          rw [List.length_map] at h1
          rw [List.length_map, csp]
          omega
        · show (numT (b : Int) ++ (" : " : Str)).length + (pairsT sb).length ≤ sizeLine
          rw [str_app_len, c1, sizeLine_eq]
          omega
        have hl8 := e78 _ _ hl5
        have e9 : Ex H8 (upd H8 t2 (.tup [.int (b : Int), .int 0, .str (Str.ofString (toString (b : Int)) ++ " : " ++ Txt.join " " (sb.map hx))])) := Ex.new ht2
        have hl9 := e9 _ _ hl8
        have ee := e78.trans e9
        refine ⟨l, _, _, rfl, rfl, hl9, by rw [sizeLine_eq]; omega, ?_⟩
        refine ⟨xs ++ [.ref t2], _, _, Ex.mut (e5.trans ee) hl, ?_, nev_keep hl9 (fun _ z => by cases z) (NevAt.ex ee hN5), upd_same, by rw [List.length_append, hxl5]; rfl, ?_, rfl⟩
        · rw [upd_ne hnll]
          exact ee _ _ hn5
        · rw [htake, List.map_append, ← List.append_assoc]
          refine paired_snoc ?_ (ent_keep hl9 (fun _ z => by cases z) (EntAt.ex ee hE5))
          refine ⟨t2, rfl, ?_⟩
          rw [upd_ne (ne_of upd_same hl9 (by intro z; cases z)), upd_same]
          dsimp only
          rw [hnt]
          rfl
      · intro σ H5 h
        obtain ⟨xs, o9, o10, e5, hn5, hN5, hl5, hxl5, hE5, rfl⟩ := h
        rw [← hvl, List.take_length] at hE5
        have hE5 : EntAt H5 (ents ns) xs := hE5
        refine ⟨_, rfl, l, xs, fun v => ((trOf H5 v).1 : Int), rfl, SqL.of hl5, fun x hx => ?_, fun x hx y hy he => ?_, fun ys p hperm hsort hp => ?_⟩
        · obtain ⟨t, e, h1, h2, h3⟩ := ent_mem hE5 x hx
          exact ⟨t, _, _, h1, by dsimp only; rw [h3]; exact h2⟩
        · have he : ((trOf H5 x).1 : Int) = ((trOf H5 y).1 : Int) := he
          refine inj_nodup (f := fun v => (trOf H5 v).1) ?_ hx hy (by show (trOf H5 x).1 = (trOf H5 y).1; omega)
          have := ents_nodup ns
          rw [← ent_map hE5, List.map_map] at this
          exact this
        · refine ⟨p, rfl, ⟨_, SqL.of upd_same⟩, fun D hD => ?_⟩
          have e6 : Ex H5 (upd H5 p (.lst ys)) := Ex.new hp
          have hyl : ys.length ≤ 72000 := by
            rw [hperm.length_eq, hxl5, ← hvl]
            omega
          refine lc_it (walk_list (xs := ys)) (fun i H' => Ex (upd H5 p (.lst ys)) H' ∧ H' D = some (.lst ((ys.take i).map fun v => .str (trOf H5 v).2.2))) ⟨Ex.new hD, upd_same⟩ (fun i H' _ h => SqL.of (h.1 _ _ upd_same)) ?_ ?_
          · intro i x H6 H7 hi h y
            obtain ⟨e7, hD7⟩ := h
            obtain ⟨rfl, hx⟩ := y
            obtain ⟨t, e, h1, h2, h3⟩ := ent_mem hE5 x (hperm.mem_iff.mp (List.mem_of_getElem? hx))
            subst h1
            have ht := e7 _ _ (e6 _ _ h2)
            refine ⟨t, _, rfl, st_of ht, rfl, _, _, rfl, _, _, rfl, _, _, rfl, rfl, rfl, ?_⟩
            unfold tYes
            dsimp only
            rw [if_pos rfl]
            refine ⟨_, rfl, _, hD7, ?_, Ex.mut e7 hD, ?_⟩
            · rw [List.length_map, List.length_take, sizeLine_eq]
              omega
            · rw [upd_same, List.take_add_one, hx, List.map_append]
              show some (HO.lst (_ ++ [V.str e.2.2])) = some (HO.lst (_ ++ [V.str (trOf H5 (.ref t)).2.2]))
              rw [h3]
          · intro H6 h
            obtain ⟨e7, hD7⟩ := h
            rw [List.take_length] at hD7
            refine q _ D ((e5.trans e6).trans e7) (fresh_back (e5.trans e6) hD) ?_
            rw [hD7, ← rows_of hE5 hperm hsort, List.map_map]
            rfl
end
end BT
/-! The plain law, 2: lines and texts; what is read is its own listing. -/
namespace BT
open PySem L2 TL
theorem tl_nl : tl ("\n" : Str) = [10] := by decide +kernel
theorem tl_textOf (rows : List Str) : tl (textOf rows) = (rows.map fun r => tl r ++ [10]).flatten := by
  unfold textOf
  rw [join_eq, tl_join, tl_empty, joinL_nil, List.map_map]
  congr 1
  refine List.map_congr_left fun r _ => ?_
  show tl (r ++ ("\n" : Str)) = _
  rw [tl_append, tl_nl]
theorem joinL_lines : ∀ (rows : List (List Nat)) (last : List Nat), joinL [10] (rows ++ [last]) = (rows.map fun r => r ++ [10]).flatten ++ last
  | [], last => rfl
  | [a], last => by
    show a ++ ([10] ++ last) = (a ++ [10]) ++ [] ++ last
    simp
  | a :: b :: r, last => by
    have ih := joinL_lines (b :: r) last
    show a ++ ([10] ++ joinL [10] ((b :: r) ++ [last])) = _
    rw [ih]
    simp
/-- a text of lines, the last one not ended -/
theorem text_lines (rows : List Str) (last : Str) : Txt.join "\n" (rows ++ [last]) = textOf rows ++ last := by
  refine ext_tl ?_
  rw [join_eq, tl_join, tl_nl, List.map_append, tl_append, tl_textOf]
  show joinL [10] (rows.map tl ++ [tl last]) = _
  rw [joinL_lines, List.map_map]
  rfl
theorem split_lines {rows : List Str} {last : Str} (h : ∀ r ∈ rows, 10 ∉ tl r) (hl : 10 ∉ tl last) : Txt.split (textOf rows ++ last) "\n" = rows ++ [last] := by
  rw [← text_lines]
  refine split_join (s := 10) (S := []) tl_nl (by decide +kernel) (by simp) fun p hp => ?_
  rcases List.mem_append.mp hp with z | z
  · exact h p z
  · rw [List.mem_singleton.mp z]
    exact hl
theorem str_nil_app (x : Str) : x ++ ("" : Str) = x := ext_tl (by rw [tl_append, tl_empty, List.append_nil])
theorem split_text {rows : List Str} (h : ∀ r ∈ rows, 10 ∉ tl r) : Txt.split (textOf rows) "\n" = rows ++ [("" : Str)] := by
  have := split_lines (last := "") h (by rw [tl_empty]; simp)
  rwa [str_nil_app] at this
theorem firstDiff_eq : ∀ {rows due : List Str} {k : Nat}, firstDiff rows due k = none → ∃ rest, due = rows ++ rest
  | [], due, _, _ => ⟨due, rfl⟩
  | r :: rs, [], k, h => by cases h
  | r :: rs, d :: ds, k, h => by
    unfold firstDiff at h
    by_cases e : r = d
    · rw [if_pos e] at h
      obtain ⟨rest, hr⟩ := firstDiff_eq h
      exact ⟨rest, by rw [e, hr]; rfl⟩
    · rw [if_neg e] at h
      cases h
/-- what is read is an image, and its listing is the text -/
theorem readL_text {t : Str} {ns : List Int} (h : readL t = .ok ns) : Img ns ∧ textOf (rowsL ns) = t := by
  obtain ⟨rows, last, hps⟩ : ∃ rows last, Txt.split t "\n" = rows ++ [last] := by
    rcases snoc_cases (Txt.split t "\n") with z | ⟨a, b, z⟩
    · have := split_pos sep_n t
      rw [z] at this
      exact absurd this (by decide)
    · exact ⟨a, b, z⟩
  have R1 := @readL_1 t
  have R2 := @readL_2 t
  have R3 := @readL_3 t
  have R4 := @readL_4 t
  have R5 := @readL_5 t
  have hgl : (rows ++ [last]).getLastD "" = last := by simp
  rw [hps, List.dropLast_concat] at R1 R2 R3 R4 R5
  rw [hgl] at R2 R3 R4 R5
  cases hb : firstBad rows 0 with
  | some i =>
    rw [R1 hb] at h
    cases h
  | none =>
    by_cases c : last ≠ "" ∨ allCells rows = []
    · rw [R2 hb c] at h
      cases h
    · cases hd : firstDiff rows (rowsL (imgOf (allCells rows))) 0 with
      | some i =>
        rw [R3 hb c hd] at h
        cases h
      | none =>
        by_cases hl : rows.length < (rowsL (imgOf (allCells rows))).length
        · rw [R4 hb c hd hl] at h
          cases h
        · rw [R5 hb c hd hl] at h
          have h := Except.ok.inj h
          subst h
          refine ⟨imgOf_img, ?_⟩
          obtain ⟨rest, hr⟩ := firstDiff_eq hd
          have hrest : rest = [] := by
            rw [hr, List.length_append] at hl
            exact List.length_eq_zero_iff.mp (by omega)
          rw [hrest, List.append_nil] at hr
          rw [hr]
          have hlast : last = "" := Decidable.not_not.mp fun z => c (.inl z)
          have h1 := PySem.StrLaws.join_split t "\n"
          rw [hps, hlast, ← join_eq, text_lines, str_nil_app] at h1
          exact h1
end BT
/-! The plain law, 3: what a row tells. -/
namespace BT
open PySem L2 TL PySem.StrLaws
abbrev cC : List Nat := [32, 58, 32]
abbrev cS : List Nat := [32, 58, 32, 58, 32]
theorem tl_cC : tl (" : " : Str) = cC := by decide +kernel
theorem tl_cS : tl (" : : " : Str) = cS := by decide +kernel
theorem pre_eq {S l : List Nat} (h : pre S l = true) : l.take S.length = S := eq_of_beq h
theorem pre_ne {S l : List Nat} (h : l.take S.length ≠ S) : pre S l = false := by
  cases hh : pre S l with
  | false => rfl
  | true => exact absurd (pre_eq hh) h
/-- where the second sign is no colon, no separator begins -/
theorem pre_no2 {S l : List Nat} (hS : S = cC ∨ S = cS) (h : l[1]? ≠ some 58) : pre S l = false := by
  refine pre_ne fun z => ?_
  have e : (l.take S.length)[1]? = some 58 := by
    rw [z]
    rcases hS with rfl | rfl <;> rfl
  have hl : 1 < S.length := by rcases hS with rfl | rfl <;> decide
  rw [List.getElem?_take_of_lt hl] at e
  exact h e
theorem nc_at {p : List Nat} (h : 58 ∉ p) {i : Nat} : p[i]? ≠ some 58 := fun z => h (List.mem_of_getElem? z)
theorem drop_one {p q : List Nat} {i : Nat} (hi : i < p.length) : ((p ++ q).drop i)[1]? = if i + 1 < p.length then p[i + 1]? else q[0]? := by
  rw [List.getElem?_drop]
  by_cases h : i + 1 < p.length
  · rw [if_pos h, List.getElem?_append_left (by omega)]
  · rw [if_neg h, List.getElem?_append_right (by omega), show i + 1 - p.length = 0 by omega]
theorem nc_free {S p q : List Nat} (hS : S = cC ∨ S = cS) (h : 58 ∉ p) (hq : q[0]? ≠ some 58) {i : Nat} (hi : i < p.length) : pre S ((p ++ q).drop i) = false := by
  refine pre_no2 hS ?_
  rw [drop_one hi]
  split
  · exact nc_at h
  · exact hq
theorem splC_join : ∀ {parts : List (List Nat)}, parts ≠ [] → (∀ p ∈ parts, 58 ∉ p) → spl cC 0 [] (joinL cC parts) = parts
  | [], h, _ => absurd rfl h
  | [p], _, h => by
    show spl cC 0 [] p = [p]
    refine (spl_last fun i hi => ?_).trans rfl
    have := nc_free (S := cC) (q := []) (.inl rfl) (h p (List.mem_cons_self ..)) (by simp) hi
    rwa [List.append_nil] at this
  | p :: q :: r, _, h => by
    show spl cC 0 [] (p ++ (cC ++ joinL cC (q :: r))) = _
    rw [spl_part (by simp) fun i hi => nc_free (.inl rfl) (h p (List.mem_cons_self ..)) (by intro z; cases z) hi]
    rw [splC_join (by simp) fun z hz => h z (List.mem_cons_of_mem _ hz)]
    rfl
theorem split_parts {parts : List Str} (h0 : parts ≠ []) (h : ∀ p ∈ parts, 58 ∉ tl p) : Txt.split (Txt.join " : " parts) " : " = parts := by
  refine map_tl_inj ?_
  rw [split_eq sep_c, tl_cC, join_eq, tl_join, tl_cC]
  refine splC_join (fun z => h0 (List.map_eq_nil_iff.mp z)) fun p hp => ?_
  obtain ⟨q, hq, rfl⟩ := List.mem_map.mp hp
  exact h q hq
/-! ### " : : " -/
theorem hasCC_iff (x : Str) : hasCC x = true ↔ ∃ i, pre cS ((tl x).drop i) = true := by
  unfold hasCC
  rw [PySem.StrLaws.found_iff]
  constructor
  · rintro ⟨i, h1, h2⟩
    refine ⟨i, ?_⟩
    rw [← tl_cS]
    exact (at_iff (x := x) (y := " : : ") (by rw [tl_cS]; simp) i).mp ⟨h1, h2⟩
  · rintro ⟨i, h⟩
    rw [← tl_cS] at h
    obtain ⟨h1, h2⟩ := (at_iff (x := x) (y := " : : ") (by rw [tl_cS]; simp) i).mpr h
    exact ⟨i, h1, h2⟩
theorem hasCC_no {x : Str} (h : ∀ i, pre cS ((tl x).drop i) = false) : hasCC x = false := by
  cases hh : hasCC x with
  | false => rfl
  | true =>
    obtain ⟨i, hi⟩ := (hasCC_iff x).mp hh
    rw [h i] at hi
    cases hi
theorem hasCC_mid (a b : Str) : hasCC (a ++ " : : " ++ b) = true := by
  refine (hasCC_iff _).mpr ⟨(tl a).length, ?_⟩
  rw [tl_append, tl_append, tl_cS, List.append_assoc, List.drop_append_of_le_length (Nat.le_refl _), List.drop_length, List.nil_append]
  exact pre_self cS (tl b)
/-- parts without a colon, none but the first and the last empty: no " : : " -/
theorem noS_join : ∀ {parts : List (List Nat)}, (∀ p ∈ parts, 58 ∉ p) → (∀ i, 0 < i → i + 1 < parts.length → parts.getD i [] ≠ []) → ∀ i, pre cS ((joinL cC parts).drop i) = false
  | [], _, _, i => by
    show pre cS (([] : List Nat).drop i) = false
    rw [List.drop_nil]
    rfl
  | [p], h, _, i => by
    show pre cS (p.drop i) = false
    refine pre_no2 (.inr rfl) ?_
    rw [List.getElem?_drop]
    exact nc_at (h p (List.mem_cons_self ..))
  | p :: q :: r, h, hm, i => by
    show pre cS ((p ++ (cC ++ joinL cC (q :: r))).drop i) = false
    have hp := h p (List.mem_cons_self ..)
    have hq := h q (List.mem_cons_of_mem _ (List.mem_cons_self ..))
    -- the sign that stands first behind the separator is no colon
    have hX : (joinL cC (q :: r))[0]? ≠ some 58 := by
      cases r with
      | nil =>
        show q[0]? ≠ some 58
        exact nc_at hq
      | cons q2 r2 =>
        have hne : q ≠ [] := hm 1 (by decide) (by simp)
        show (q ++ _)[0]? ≠ some 58
        rw [List.getElem?_append_left (List.length_pos_iff.mpr hne)]
        exact nc_at hq
    by_cases c1 : i < p.length
    · exact nc_free (.inr rfl) hp (by intro z; cases z) c1
    have e1 : (p ++ (cC ++ joinL cC (q :: r))).drop i = (cC ++ joinL cC (q :: r)).drop (i - p.length) := by
      rw [List.drop_append, List.drop_of_length_le (by omega), List.nil_append]
    rw [e1]
    generalize i - p.length = k
    match k with
    | 0 =>
      refine pre_ne fun z => ?_
      have e2 : ((cC ++ joinL cC (q :: r)).take cS.length)[3]? = some 58 := by
        rw [show (cC ++ joinL cC (q :: r)).take cS.length = cS from z]
        rfl
      rw [List.getElem?_take_of_lt (by decide), List.getElem?_append_right (by decide)] at e2
      exact hX e2
    | 1 => exact pre_of_head _ _ (by decide)
    | 2 =>
      refine pre_no2 (.inr rfl) ?_
      show (32 :: joinL cC (q :: r))[1]? ≠ some 58
      exact hX
    | k + 3 =>
      show pre cS ((joinL cC (q :: r)).drop k) = false
      refine noS_join (fun z hz => h z (List.mem_cons_of_mem _ hz)) (fun j h1 h2 => ?_) k
      exact hm (j + 1) (Nat.succ_pos _) (by rw [List.length_cons]; omega)
theorem hasCC_parts {parts : List Str} (h : ∀ p ∈ parts, 58 ∉ tl p) (hm : ∀ i, 0 < i → i + 1 < parts.length → tl (parts.getD i "") ≠ []) : hasCC (Txt.join " : " parts) = false := by
  refine hasCC_no fun i => ?_
  rw [join_eq, tl_join, tl_cC]
  refine noS_join (fun p hp => ?_) (fun j h1 h2 => ?_) i
  · obtain ⟨q, hq, rfl⟩ := List.mem_map.mp hp
    exact h q hq
  · rw [List.length_map] at h2
    have := hm j h1 h2
    rw [List.getD_eq_getElem?_getD, List.getElem?_map, List.getElem?_eq_getElem (by omega)]
    rw [List.getD_eq_getElem?_getD, List.getElem?_eq_getElem (by omega)] at this
    exact this
def bytesP (ps : List Str) : Option (Nat × List Int) :=
  if (ps.length = 2 ∨ ps.length = 3) ∧ (1 ≤ (tl (ps.getD 0 "")).length ∧ (tl (ps.getD 0 "")).length ≤ 5) ∧ (tl (ps.getD 0 "")).all isDg = true ∧ (wordsOf (ps.getD 1 "")).all isWord = true then
    some (numV (tl (ps.getD 0 "")), (wordsOf (ps.getD 1 "")).map fun w => hexV (tl w))
  else none
theorem told_parts {parts : List Str} (h0 : parts ≠ []) (h : ∀ p ∈ parts, 58 ∉ tl p) (hm : ∀ i, 0 < i → i + 1 < parts.length → tl (parts.getD i "") ≠ []) : told (Txt.join " : " parts) = bytesP parts := by
  unfold told
  rw [hasCC_parts h hm, if_neg (by decide)]
  unfold bytesOf
  rw [split_parts h0 h]
  rfl
theorem told_cc (a b : Str) : told (a ++ " : : " ++ b) = some (0, []) := by
  unfold told
  rw [if_pos (hasCC_mid a b)]
/-! ### replace -/
theorem replC_hit {Z rest : List Nat} : ∀ {a : List Nat}, 58 ∉ a → replL cC Z (a ++ (cC ++ rest)) = a ++ (Z ++ replL cC Z rest)
  | [], _ => by
    show replL cC Z (32 :: 58 :: 32 :: rest) = _
    rw [replL_hit (by simp) rfl]
    rfl
  | c :: r, h => by
    have ih := replC_hit (Z := Z) (rest := rest) (a := r) fun z => h (List.mem_cons_of_mem _ z)
    show replL cC Z (c :: (r ++ (cC ++ rest))) = _
    rw [replL_miss, ih]
    · rfl
    · intro z
      have e : ((c :: (r ++ (cC ++ rest))).take cC.length)[1]? = some 58 := by rw [z]; rfl
      rw [List.getElem?_take_of_lt (by decide)] at e
      cases r with
      | nil => cases e
      | cons d r2 => exact nc_at (fun hz => h (List.mem_cons_of_mem _ hz)) (i := 0) e
theorem replC_none {Z : List Nat} : ∀ {a : List Nat}, 58 ∉ a → replL cC Z a = a
  | [], _ => replL_nil
  | c :: r, h => by
    rw [replL_miss, replC_none fun z => h (List.mem_cons_of_mem _ z)]
    intro z
    have e : ((c :: r).take cC.length)[1]? = some 58 := by rw [z]; rfl
    rw [List.getElem?_take_of_lt (by decide)] at e
    exact nc_at (fun hz => h (List.mem_cons_of_mem _ hz)) (i := 0) e
theorem replC_join {Z : List Nat} : ∀ {parts : List (List Nat)}, (∀ p ∈ parts, 58 ∉ p) → replL cC Z (joinL cC parts) = joinL Z parts
  | [], _ => replL_nil
  | [p], h => replC_none (h p (List.mem_cons_self ..))
  | p :: q :: r, h => by
    show replL cC Z (p ++ (cC ++ joinL cC (q :: r))) = p ++ (Z ++ joinL Z (q :: r))
    rw [replC_hit (h p (List.mem_cons_self ..)), replC_join fun z hz => h z (List.mem_cons_of_mem _ hz)]
theorem tl_replace (x : Str) : tl (Txt.replace x " : " " ; ") = replL cC [32, 59, 32] (tl x) := by
  have h := replace_list (x := x) (y := " : ") (z := " ; ") (by rw [colon_len.1]; decide)
  show (Txt.replace x " : " " ; ").cps.toList = _
  rw [h]
  show replL (tl " : ") (tl " ; ") (tl x) = _
  rw [tl_cC, show tl (" ; " : Str) = [32, 59, 32] from by decide +kernel]
theorem mem_joinL {S : List Nat} {c : Nat} : ∀ {parts : List (List Nat)}, c ∈ joinL S parts → c ∈ S ∨ ∃ p ∈ parts, c ∈ p
  | [], h => by cases h
  | [p], h => .inr ⟨p, List.mem_cons_self .., h⟩
  | p :: q :: r, h => by
    have h : c ∈ p ++ (S ++ joinL S (q :: r)) := h
    rcases List.mem_append.mp h with z | z
    · exact .inr ⟨p, List.mem_cons_self .., z⟩
    rcases List.mem_append.mp z with z | z
    · exact .inl z
    · rcases mem_joinL z with z | ⟨p', hp', hc⟩
      · exact .inl z
      · exact .inr ⟨p', List.mem_cons_of_mem _ hp', hc⟩
end BT
/-! The plain law, 4: rows told, rows bent. -/
namespace BT
open PySem L2 TL PySem.StrLaws
def Pl (x : Str) : Prop := 58 ∉ tl x ∧ 10 ∉ tl x
theorem pl_of {x : Str} {P : Nat → Bool} (h : (tl x).all P = true) (h1 : P 58 = false) (h2 : P 10 = false) : Pl x :=
  ⟨(fun z => by rw [List.all_eq_true.mp h _ z] at h1; cases h1), (fun z => by rw [List.all_eq_true.mp h _ z] at h2; cases h2)⟩
theorem Pl.app {x y : Str} (h : Pl x) (k : Pl y) : Pl (x ++ y) := by
  constructor
  · rw [tl_append]
    intro z
    rcases List.mem_append.mp z with z | z
    · exact h.1 z
    · exact k.1 z
  · rw [tl_append]
    intro z
    rcases List.mem_append.mp z with z | z
    · exact h.2 z
    · exact k.2 z
theorem pl_join {l : List Str} (h : ∀ x ∈ l, Pl x) : Pl (Txt.join " " l) := by
  have tl_sp : tl (" " : Str) = [32] := by decide +kernel
  constructor
  · rw [join_eq, tl_join, tl_sp]
    intro z
    rcases mem_joinL z with z | ⟨p, hp, hc⟩
    · exact absurd z (by decide)
    · obtain ⟨x, hx, rfl⟩ := List.mem_map.mp hp
      exact (h x hx).1 hc
  · rw [join_eq, tl_join, tl_sp]
    intro z
    rcases mem_joinL z with z | ⟨p, hp, hc⟩
    · exact absurd z (by decide)
    · obtain ⟨x, hx, rfl⟩ := List.mem_map.mp hp
      exact (h x hx).2 hc
theorem joinL_ne {S p : List Nat} (hp : p ≠ []) : ∀ r : List (List Nat), joinL S (p :: r) ≠ []
  | [] => hp
  | q :: r => by
    show p ++ (S ++ joinL S (q :: r)) ≠ []
    intro z
    exact hp (List.append_eq_nil_iff.mp z).1
/-! ### numbers, pairs, words -/
theorem num_tl (n : Nat) : tl (numT (n : Int)) = numL n := tl_num n
theorem num_dg (n : Nat) : (tl (numT (n : Int))).all isDg = true := by
  rw [num_tl]
  refine List.all_eq_true.mpr fun c hc => ?_
  have := numL_digits n c hc
  unfold isDg
  rw [decide_eq_true this.1, decide_eq_true this.2]
  rfl
theorem num_val (n : Nat) : numV (tl (numT (n : Int))) = n := by
  rw [numV_val, num_tl, numL_val]
theorem num_ln {n : Nat} (h : n ≤ 99999) : 1 ≤ (tl (numT (n : Int))).length ∧ (tl (numT (n : Int))).length ≤ 5 := by
  have := num_len (i := (n : Int)) (by omega) (by omega)
  rw [len_tl] at this
  exact ⟨this.2, this.1⟩
theorem dg_pl {x : Str} (h : (tl x).all isDg = true) : Pl x := pl_of h (by decide) (by decide)
theorem hx_word {n : Int} (h : 0 ≤ n ∧ n < 256) : isWord (hx n) = true ∧ hexV (tl (hx n)) = n := by
  have hd_ok : ∀ k, k < 16 → isHx (hd k) = true ∧ hv (hd k) = k := by decide +kernel
  obtain ⟨a1, a2⟩ := hd_ok (n.toNat / 16) (by omega)
  obtain ⟨b1, b2⟩ := hd_ok (n.toNat % 16) (by omega)
  constructor
  · show (decide ([hd (n.toNat / 16), hd (n.toNat % 16)].length = 2) && [hd (n.toNat / 16), hd (n.toNat % 16)].all isHx) = true
    rw [List.all_cons, List.all_cons, List.all_nil, a1, b1]
    rfl
  · show ((16 * hv (hd (n.toNat / 16)) + hv (hd (n.toNat % 16)) : Nat) : Int) = n
    rw [a2, b2]
    omega
theorem hx_pl {n : Int} (h : 0 ≤ n ∧ n < 256) : Pl (hx n) := by
  have := (hx_word h).1
  unfold isWord at this
  rw [Bool.and_eq_true] at this
  exact pl_of this.2 (by decide) (by decide)
theorem hx_nosp {n : Int} (h : 0 ≤ n ∧ n < 256) : 32 ∉ tl (hx n) := fun z => by
  have := (hx_word h).1
  unfold isWord at this
  rw [Bool.and_eq_true] at this
  have h2 := List.all_eq_true.mp this.2 _ z
  exact absurd h2 (by decide)
theorem tl_sp : tl (" " : Str) = [32] := by decide +kernel
theorem pairs_split {sb : List Int} (h8 : B8 sb) (hne : sb ≠ []) : Txt.split (pairsT sb) " " = sb.map hx := by
  unfold pairsT
  refine split_join (s := 32) (S := []) tl_sp (by decide +kernel) (by simpa using hne) fun p hp => ?_
  obtain ⟨n, hn, rfl⟩ := List.mem_map.mp hp
  exact hx_nosp (h8 n hn)
theorem pairs_ne {sb : List Int} (hne : sb ≠ []) : tl (pairsT sb) ≠ [] := by
  unfold pairsT
  rw [join_eq, tl_join, tl_sp]
  cases sb with
  | nil => exact absurd rfl hne
  | cons n r =>
    rw [List.map_cons, List.map_cons]
    exact joinL_ne (by show [_, _] ≠ []; simp) _
theorem ne_empty {x : Str} (h : tl x ≠ []) : x ≠ "" := fun z => h (by rw [z, tl_empty])
theorem pairs_words {sb : List Int} (h8 : B8 sb) (hne : sb ≠ []) : wordsOf (pairsT sb) = sb.map hx := by
  unfold wordsOf
  rw [if_neg (ne_empty (pairs_ne hne)), pairs_split h8 hne]
theorem pairs_pl {sb : List Int} (h8 : B8 sb) : Pl (pairsT sb) := pl_join fun x hx' => by
  obtain ⟨n, hn, rfl⟩ := List.mem_map.mp hx'
  exact hx_pl (h8 n hn)
theorem words_ok {sb : List Int} (h8 : B8 sb) : (sb.map hx).all isWord = true ∧ (sb.map hx).map (fun w => hexV (tl w)) = sb := by
  constructor
  · refine List.all_eq_true.mpr fun x hx' => ?_
    obtain ⟨n, hn, rfl⟩ := List.mem_map.mp hx'
    exact (hx_word (h8 n hn)).1
  · rw [List.map_map]
    refine (List.map_congr_left fun n hn => (hx_word (h8 n hn)).2).trans (List.map_id'' (fun _ => rfl) sb)
theorem wd_pl : ∀ k, k < 21 → (tl (wd k)).all (fun c => decide (97 ≤ c)) = true ∧ tl (wd k) ≠ [] := by decide +kernel
theorem let_pl {x : Str} (h : (tl x).all (fun c => decide (97 ≤ c)) = true) : Pl x := pl_of h (by decide) (by decide)
theorem it_pl {c : Nat} {it : It} (hf : FitI c it) (hok : okIt it) : ∀ x ∈ itT it, Pl x := by
  cases it with
  | s x => exact hf.elim
  | n i =>
    intro x hx'
    rw [List.mem_singleton.mp hx']
    have : i = ((i.toNat : Nat) : Int) := by have := hok.1; omega
    rw [this]
    exact dg_pl (num_dg _)
  | t l =>
    intro x hx'
    obtain ⟨i, hi, rfl⟩ := List.mem_map.mp hx'
    have := hok.2 i hi
    rw [show i = ((i.toNat : Nat) : Int) by omega]
    exact dg_pl (num_dg _)
theorem its_pl : ∀ {cs : List Nat} {ts : List It}, Fits cs ts → (∀ it ∈ ts, okIt it) → ∀ x ∈ ts.flatMap itT, Pl x
  | _, _, .nil, _, x, h => by cases h
  | _, _, .cons hf t, hok, x, h => by
    rw [List.flatMap_cons] at h
    rcases List.mem_append.mp h with z | z
    · exact it_pl hf (hok _ (List.mem_cons_self ..)) x z
    · exact its_pl t (fun it hit => hok it (List.mem_cons_of_mem _ hit)) x z
theorem wordsT_pl {d : Dec} (hD : DecOk d) : Pl (wordsT (rowOf d)) ∧ tl (wordsT (rowOf d)) ≠ [] := by
  have fall : ∀ x y : Str, (tl x).all (fun c => decide (97 ≤ c)) = true → (tl y).all (fun c => decide (97 ≤ c)) = true → tl x ≠ [] → Pl (wordsT [It.s x, It.s y]) ∧ tl (wordsT [It.s x, It.s y]) ≠ [] := fun x y h1 h2 h3 => by
    refine ⟨pl_join fun z hz => ?_, ?_⟩
    · have hz : z ∈ [x, y] := hz
      rcases List.mem_cons.mp hz with e | e
      · rw [e]
        exact let_pl h1
      · rw [List.mem_singleton.mp e]
        exact let_pl h2
    · unfold wordsT
      rw [join_eq, tl_join, tl_sp]
      exact joinL_ne (p := tl x) h3 _
  cases d with
  | out0 => exact fall _ _ (by decide +kernel) (by decide +kernel) (by decide +kernel)
  | out1 => exact fall _ _ (by decide +kernel) (by decide +kernel) (by decide +kernel)
  | bad => exact fall _ _ (by decide +kernel) (by decide +kernel) (by decide +kernel)
  | op k ts =>
    obtain ⟨hk, hf, hA⟩ := hD
    obtain ⟨w1, w2⟩ := wd_pl k hk
    have hok := ok_of_things hf hA
    refine ⟨pl_join fun z hz => ?_, ?_⟩
    · have hz : z ∈ wd k :: ts.flatMap itT := hz
      rcases List.mem_cons.mp hz with e | e
      · rw [e]
        exact let_pl w1
      · exact its_pl hf hok z e
    · unfold wordsT
      rw [join_eq, tl_join, tl_sp]
      exact joinL_ne (p := tl (wd k)) w2 _
/-! ### shapes -/
inductive RowSh (row : Str) (q : Nat × List Int) : Prop
  | cc (n w : Str) (e : row = n ++ " : : " ++ w) (hn : (tl n).all isDg = true) (pw : Pl w) (nw : tl w ≠ []) (eq : q = (0, []))
  | three (n p w : Str) (e : row = Txt.join " : " [n, p, w]) (hn : (tl n).all isDg = true) (pp : Pl p) (np : tl p ≠ []) (pw : Pl w) (nw : tl w ≠ []) (eq : bytesP [n, p, w] = some q)
  | two (n p : Str) (e : row = Txt.join " : " [n, p]) (hn : (tl n).all isDg = true) (pp : Pl p) (np : tl p ≠ []) (eq : bytesP [n, p] = some q)
theorem join3 (n p w : Str) : Txt.join " : " [n, p, w] = n ++ (" : " ++ p ++ " : ") ++ w := by
  refine ext_tl ?_
  rw [join_eq, tl_join]
  show tl n ++ (tl " : " ++ (tl p ++ (tl " : " ++ tl w))) = _
  simp only [tl_append, List.append_assoc]
theorem join2 (n p : Str) : Txt.join " : " [n, p] = n ++ " : " ++ p := by
  refine ext_tl ?_
  rw [join_eq, tl_join]
  show tl n ++ (tl " : " ++ tl p) = _
  simp only [tl_append, List.append_assoc]
theorem insT_sh {ns : List Int} (hI : Img ns) {p : Nat} (hp : p ≤ 65535) : RowSh (insT ns p) (if 0 < manyOf ns p then (p, sub ns p (p + manyOf ns p)) else (0, [])) := by
  obtain ⟨pw, nw⟩ := wordsT_pl (dec_ok hI.b8 p)
  by_cases hm : 0 < manyOf ns p
  · rw [if_pos hm]
    have hml := many_le ns p
    have h8 := sub_b8 hI.b8 p (p + manyOf ns p)
    have hne : sub ns p (p + manyOf ns p) ≠ [] := fun z => by
      have := sub_size (ns := ns) (a := p) (b := p + manyOf ns p) (by omega) (by omega)
      rw [z] at this
      have : 0 = p + manyOf ns p - p := this
      omega
    refine .three (numT (p : Int)) (pairsT (sub ns p (p + manyOf ns p))) (wordsT (rowOf (dec ns p))) ?_ (num_dg p) (pairs_pl h8) (pairs_ne hne) pw nw ?_
    · rw [join3]
      unfold insT midT
      rw [if_pos hm]
    · obtain ⟨w1, w2⟩ := words_ok h8
      unfold bytesP
      have e1 : wordsOf (([numT (p : Int), pairsT (sub ns p (p + manyOf ns p)), wordsT (rowOf (dec ns p))] : List Str).getD 1 "") = (sub ns p (p + manyOf ns p)).map hx := pairs_words h8 hne
      have e0 : ([numT (p : Int), pairsT (sub ns p (p + manyOf ns p)), wordsT (rowOf (dec ns p))] : List Str).getD 0 "" = numT (p : Int) := rfl
      rw [e1, e0, if_pos ⟨.inr rfl, num_ln (by omega), num_dg p, w1⟩, num_val, w2]
  · rw [if_neg hm]
    refine .cc (numT (p : Int)) (wordsT (rowOf (dec ns p))) ?_ (num_dg p) pw nw rfl
    unfold insT midT
    rw [if_neg hm]
theorem nevT_sh {ns : List Int} (hI : Img ns) {q : Nat × Nat} (h1 : q.1 < q.2) (h2 : q.2 ≤ ns.length) : RowSh (nevT ns q) (q.1, sub ns q.1 q.2) := by
  have hl := hI.hi
  have h8 := sub_b8 hI.b8 q.1 q.2
  have hne : sub ns q.1 q.2 ≠ [] := fun z => by
    have := sub_size (ns := ns) (a := q.1) (b := q.2) (by omega) h2
    rw [z] at this
    have : 0 = q.2 - q.1 := this
    omega
  refine .two (numT (q.1 : Int)) (pairsT (sub ns q.1 q.2)) ?_ (num_dg q.1) (pairs_pl h8) (pairs_ne hne) ?_
  · rw [join2]
    rfl
  · obtain ⟨w1, w2⟩ := words_ok h8
    unfold bytesP
    have e1 : wordsOf (([numT (q.1 : Int), pairsT (sub ns q.1 q.2)] : List Str).getD 1 "") = (sub ns q.1 q.2).map hx := pairs_words h8 hne
    have e0 : ([numT (q.1 : Int), pairsT (sub ns q.1 q.2)] : List Str).getD 0 "" = numT (q.1 : Int) := rfl
    rw [e1, e0, if_pos ⟨.inl rfl, num_ln (by omega), num_dg q.1, w1⟩, num_val, w2]
section
variable {row : Str} {q : Nat × List Int}
theorem three_mid {a b c : Str} (h : tl b ≠ []) : ∀ i, 0 < i → i + 1 < ([a, b, c] : List Str).length → tl (([a, b, c] : List Str).getD i "") ≠ [] := fun i h1 h2 => by
  have h2 : i + 1 < 3 := h2
  have : i = 1 := by omega
  subst this
  exact h
theorem two_mid {a b : Str} : ∀ i, 0 < i → i + 1 < ([a, b] : List Str).length → tl (([a, b] : List Str).getD i "") ≠ [] := fun i h1 h2 => by
  have h2 : i + 1 < 2 := h2
  omega
theorem one_mid {a : Str} : ∀ i, 0 < i → i + 1 < ([a] : List Str).length → tl (([a] : List Str).getD i "") ≠ [] := fun i h1 h2 => by
  have h2 : i + 1 < 1 := h2
  omega
theorem told3 {a b c : Str} (h1 : 58 ∉ tl a) (h2 : 58 ∉ tl b) (h3 : 58 ∉ tl c) (hb : tl b ≠ []) : told (Txt.join " : " [a, b, c]) = bytesP [a, b, c] :=
  told_parts (by simp) (fun p hp => by
    rcases List.mem_cons.mp hp with z | z
    · rw [z]; exact h1
    rcases List.mem_cons.mp z with z | z
    · rw [z]; exact h2
    · rw [List.mem_singleton.mp z]; exact h3) (three_mid hb)
theorem told2 {a b : Str} (h1 : 58 ∉ tl a) (h2 : 58 ∉ tl b) : told (Txt.join " : " [a, b]) = bytesP [a, b] :=
  told_parts (by simp) (fun p hp => by
    rcases List.mem_cons.mp hp with z | z
    · rw [z]; exact h1
    · rw [List.mem_singleton.mp z]; exact h2) two_mid
theorem told1 {a : Str} (h1 : 58 ∉ tl a) : told a = none := by
  have e : a = Txt.join " : " [a] := by
    refine ext_tl ?_
    rw [join_eq, tl_join]
    rfl
  rw [e, told_parts (by simp) (fun p hp => by rw [List.mem_singleton.mp hp]; exact h1) one_mid]
  unfold bytesP
  exact if_neg fun z => by
    rcases z.1 with z | z
    · exact absurd z (by show ¬ (1 = 2); decide)
    · exact absurd z (by show ¬ (1 = 3); decide)
theorem RowSh.told (h : RowSh row q) : told row = some q := by
  cases h with
  | cc n w e hn pw nw eq => rw [e, told_cc, eq]
  | three n p w e hn pp np pw nw eq => rw [e, told3 (dg_pl hn).1 pp.1 pw.1 np, eq]
  | two n p e hn pp np eq => rw [e, told2 (dg_pl hn).1 pp.1, eq]
theorem RowSh.line (h : RowSh row q) : 10 ∉ tl row := by
  have ct : 10 ∉ tl (" : " : Str) := by decide +kernel
  have cc : 10 ∉ tl (" : : " : Str) := by decide +kernel
  cases h with
  | cc n w e hn pw nw eq =>
    rw [e]
    simp only [tl_append, List.mem_append, not_or]
    exact ⟨⟨(dg_pl hn).2, cc⟩, pw.2⟩
  | three n p w e hn pp np pw nw eq =>
    rw [e, join3]
    simp only [tl_append, List.mem_append, not_or]
    exact ⟨⟨(dg_pl hn).2, ⟨ct, pp.2⟩, ct⟩, pw.2⟩
  | two n p e hn pp np eq =>
    rw [e, join2]
    simp only [tl_append, List.mem_append, not_or]
    exact ⟨⟨(dg_pl hn).2, ct⟩, pp.2⟩
theorem RowSh.full (h : RowSh row q) : row ≠ "" := by
  refine ne_empty ?_
  cases h with
  | cc n w e hn pw nw eq =>
    rw [e, tl_append]
    exact fun z => nw (List.append_eq_nil_iff.mp z).2
  | three n p w e hn pp np pw nw eq =>
    rw [e, join3, tl_append]
    exact fun z => nw (List.append_eq_nil_iff.mp z).2
  | two n p e hn pp np eq =>
    rw [e, join2, tl_append]
    exact fun z => np (List.append_eq_nil_iff.mp z).2
end
end BT
/-! The plain law, 5: odd rows; what is read. -/
namespace BT
open PySem L2 TL PySem.StrLaws
/-- the rows that are put in a row's stead -/
def odds (row : Str) : List Str := ["", "x", row ++ " ", ("x" : Str) ++ row, Txt.replace row " : " " ; ", "1 : 0", "1 : 0g : halt", "-1 : 00", row ++ " : 00 : 1"]
def OddOk (row z : Str) : Prop := (told z = none ∨ (z ≠ row ∧ told z = told row)) ∧ 10 ∉ tl z
theorem x_pl : Pl "x" := by
  refine pl_of (P := fun c => decide (97 ≤ c)) ?_ (by decide) (by decide)
  decide +kernel
theorem sp_pl : Pl " " := by
  refine pl_of (P := fun c => decide (c = 32)) ?_ (by decide) (by decide)
  decide +kernel
theorem len_ne {x y : Str} (h : x.length ≠ y.length) : x ≠ y := fun z => h (by rw [z])
theorem bytesP_dg {a : Str} {r : List Str} (h : (tl a).all isDg = false) : bytesP (a :: r) = none := by
  unfold bytesP
  refine if_neg fun z => ?_
  have z2 : (tl a).all isDg = true := z.2.2.1
  rw [h] at z2
  cases z2
theorem bytesP_word {a b : Str} {r : List Str} (h : (wordsOf b).all isWord = false) : bytesP (a :: b :: r) = none := by
  unfold bytesP
  refine if_neg fun z => ?_
  have z2 : (wordsOf b).all isWord = true := z.2.2.2
  rw [h] at z2
  cases z2
theorem bytesP_long {ps : List Str} (h : 3 < ps.length) : bytesP ps = none := by
  unfold bytesP
  exact if_neg fun z => by
    rcases z.1 with z | z
    · omega
    · omega
theorem bytesP3 {a b c c' : Str} : bytesP [a, b, c] = bytesP [a, b, c'] := rfl
theorem xdg (n : Str) : (tl (("x" : Str) ++ n)).all isDg = false := by
  rw [tl_append, show tl ("x" : Str) = [120] from by decide +kernel]
  rfl
theorem sd_false : ∀ l : List Nat, (l ++ [32, 59]).all isDg = false := fun l => by
  rw [List.all_append]
  show (l.all isDg && false) = false
  exact Bool.and_false _
/-- a space behind the pairs: the last word is empty -/
theorem spl_end : ∀ (l acc : List Nat), ∃ ps, spl [32] 0 acc (l ++ [32]) = ps ++ [[]]
  | [], acc => ⟨[acc], by
    show spl [32] 0 acc [32] = _
    rw [spl_hit (by rfl)]
    rfl⟩
  | c :: r, acc => by
    by_cases h : pre [32] (c :: (r ++ [32])) = true
    · obtain ⟨ps, e⟩ := spl_end r []
      refine ⟨acc :: ps, ?_⟩
      show spl [32] 0 acc (c :: (r ++ [32])) = _
      rw [spl_hit h]
      show acc :: spl [32] 0 [] (r ++ [32]) = _
      rw [e]
      rfl
    · have h : pre [32] (c :: (r ++ [32])) = false := by
        cases hh : pre [32] (c :: (r ++ [32])) with
        | true => exact absurd hh h
        | false => rfl
      obtain ⟨ps, e⟩ := spl_end r (acc ++ [c])
      refine ⟨ps, ?_⟩
      show spl [32] 0 acc (c :: (r ++ [32])) = _
      rw [spl_miss h, e]
theorem words_sp (p : Str) : (wordsOf (p ++ " ")).all isWord = false := by
  have hne : p ++ " " ≠ "" := ne_empty (by
    rw [tl_append, tl_sp]
    exact fun z => absurd (List.append_eq_nil_iff.mp z).2 (by simp))
  unfold wordsOf
  rw [if_neg hne]
  have h1 := split_eq sep_s (p ++ " ")
  obtain ⟨ps, e⟩ := spl_end (tl p) []
  rw [tl_append, tl_sp, e] at h1
  have h2 : [] ∈ (Txt.split (p ++ " ") " ").map tl := by
    rw [h1]
    exact List.mem_append_right _ (List.mem_singleton.mpr rfl)
  obtain ⟨w, hw, ew⟩ := List.mem_map.mp h2
  rw [List.all_eq_false]
  refine ⟨w, hw, ?_⟩
  unfold isWord
  rw [ew]
  decide
theorem one_ : ("x" : Str).length = 1 ∧ (" " : Str).length = 1 ∧ (" : 00 : 1" : Str).length = 9 := by decide +kernel
section
variable {row : Str} {q : Nat × List Int}
/-- a row of parts with something put before, something put behind -/
theorem join3_pre (x n p w : Str) : x ++ Txt.join " : " [n, p, w] = Txt.join " : " [x ++ n, p, w] := by
  rw [join3, join3]
  exact ext_tl (by simp only [tl_append, List.append_assoc])
theorem join3_post (x n p w : Str) : Txt.join " : " [n, p, w] ++ x = Txt.join " : " [n, p, w ++ x] := by
  rw [join3, join3]
  exact ext_tl (by simp only [tl_append, List.append_assoc])
theorem join2_pre (x n p : Str) : x ++ Txt.join " : " [n, p] = Txt.join " : " [x ++ n, p] := by
  rw [join2, join2]
  exact ext_tl (by simp only [tl_append, List.append_assoc])
theorem join2_post (x n p : Str) : Txt.join " : " [n, p] ++ x = Txt.join " : " [n, p ++ x] := by
  rw [join2, join2]
  exact ext_tl (by simp only [tl_append, List.append_assoc])
theorem join3_more (n p w : Str) : Txt.join " : " [n, p, w] ++ " : 00 : 1" = Txt.join " : " [n, p, w, "00", "1"] := by
  refine ext_tl ?_
  rw [join3, join_eq, tl_join]
  show _ = tl n ++ (tl " : " ++ (tl p ++ (tl " : " ++ (tl w ++ (tl " : " ++ (tl "00" ++ (tl " : " ++ tl "1")))))))
  simp only [tl_append, List.append_assoc]
  rw [show tl (" : 00 : 1" : Str) = tl " : " ++ (tl "00" ++ (tl " : " ++ tl "1")) from by decide +kernel]
theorem join2_more (n p : Str) : Txt.join " : " [n, p] ++ " : 00 : 1" = Txt.join " : " [n, p, "00", "1"] := by
  refine ext_tl ?_
  rw [join2, join_eq, tl_join]
  show _ = tl n ++ (tl " : " ++ (tl p ++ (tl " : " ++ (tl "00" ++ (tl " : " ++ tl "1")))))
  simp only [tl_append, List.append_assoc]
  rw [show tl (" : 00 : 1" : Str) = tl " : " ++ (tl "00" ++ (tl " : " ++ tl "1")) from by decide +kernel]
theorem nl_more (row : Str) (h : 10 ∉ tl row) : 10 ∉ tl (row ++ " : 00 : 1") ∧ 10 ∉ tl (row ++ " ") ∧ 10 ∉ tl (("x" : Str) ++ row) := by
  have h1 : 10 ∉ tl (" : 00 : 1" : Str) := by decide +kernel
  have h2 : 10 ∉ tl ("x" : Str) := by decide +kernel
  have h3 : 10 ∉ tl (" " : Str) := by decide +kernel
  simp only [tl_append, List.mem_append, not_or]
  exact ⟨⟨h, h1⟩, ⟨h, h3⟩, ⟨h2, h⟩⟩
theorem more_ne (row : Str) : row ++ " : 00 : 1" ≠ row ∧ row ++ " " ≠ row ∧ ("x" : Str) ++ row ≠ row := by
  obtain ⟨o1, o2, o3⟩ := one_
  refine ⟨len_ne ?_, len_ne ?_, len_ne ?_⟩
  · rw [str_app_len, o3]
    omega
  · rw [str_app_len, o2]
    omega
  · rw [str_app_len, o1]
    omega
theorem odd_ok (h : RowSh row q) : ∀ z ∈ odds row, OddOk row z := by
  have ht := h.told
  have hl := h.line
  obtain ⟨l1, l2, l3⟩ := nl_more row hl
  obtain ⟨n1, n2, n3⟩ := more_ne row
  have c1 : 58 ∉ tl ("00" : Str) := by decide +kernel
  have c2 : 58 ∉ tl ("1" : Str) := by decide +kernel
  have fixed : OddOk row "" ∧ OddOk row "x" ∧ OddOk row "1 : 0" ∧ OddOk row "1 : 0g : halt" ∧ OddOk row "-1 : 00" :=
    ⟨⟨.inl (by decide +kernel), by decide +kernel⟩, ⟨.inl (by decide +kernel), by decide +kernel⟩, ⟨.inl (by decide +kernel), by decide +kernel⟩, ⟨.inl (by decide +kernel), by decide +kernel⟩, ⟨.inl (by decide +kernel), by decide +kernel⟩⟩
  have four : OddOk row (row ++ " ") ∧ OddOk row (("x" : Str) ++ row) ∧ OddOk row (Txt.replace row " : " " ; ") ∧ OddOk row (row ++ " : 00 : 1") := by
    cases h with
    | cc n w e hn pw nw eq =>
      have pn := dg_pl hn
      refine ⟨⟨.inr ⟨n2, ?_⟩, l2⟩, ⟨.inr ⟨n3, ?_⟩, l3⟩, ⟨.inl ?_, ?_⟩, ⟨.inr ⟨n1, ?_⟩, l1⟩⟩
      · rw [ht, e, show n ++ " : : " ++ w ++ " " = n ++ " : : " ++ (w ++ " ") from ext_tl (by simp only [tl_append, List.append_assoc]), told_cc, eq]
      · rw [ht, e, show ("x" : Str) ++ (n ++ " : : " ++ w) = ("x" ++ n) ++ " : : " ++ w from ext_tl (by simp only [tl_append, List.append_assoc]), told_cc, eq]
      · have er : Txt.replace row " : " " ; " = Txt.join " : " [n ++ " ;", w] := by
          refine ext_tl ?_
          rw [tl_replace, e, join2]
          simp only [tl_append, List.append_assoc]
          rw [tl_cS, tl_cC, show tl (" ;" : Str) = [32, 59] from by decide +kernel]
          show replL cC [32, 59, 32] (tl n ++ (cC ++ (58 :: 32 :: tl w))) = _
          rw [replC_hit pn.1]
          have e1 : replL cC [32, 59, 32] (58 :: 32 :: tl w) = 58 :: 32 :: tl w := by
            rw [replL_miss (by intro z; cases z)]
            rw [replL_miss, replC_none pw.1]
            intro z
            have e : ((32 :: tl w).take cC.length)[1]? = some 58 := by rw [z]; rfl
            rw [List.getElem?_take_of_lt (by decide)] at e
            exact nc_at pw.1 (i := 0) e
          rw [e1]
          rfl
        rw [er, told2 ?_ pw.1, bytesP_dg]
        · rw [tl_append, show tl (" ;" : Str) = [32, 59] from by decide +kernel]
          exact sd_false _
        · rw [tl_append]
          intro z
          rcases List.mem_append.mp z with z | z
          · exact pn.1 z
          · exact absurd z (by decide +kernel)
      · rw [tl_replace, e]
        simp only [tl_append, List.append_assoc]
        rw [tl_cS]
        show 10 ∉ replL cC [32, 59, 32] (tl n ++ (cC ++ (58 :: 32 :: tl w)))
        rw [replC_hit pn.1]
        have e1 : replL cC [32, 59, 32] (58 :: 32 :: tl w) = 58 :: 32 :: tl w := by
          rw [replL_miss (by intro z; cases z)]
          rw [replL_miss, replC_none pw.1]
          intro z
          have e : ((32 :: tl w).take cC.length)[1]? = some 58 := by rw [z]; rfl
          rw [List.getElem?_take_of_lt (by decide)] at e
          exact nc_at pw.1 (i := 0) e
        rw [e1]
        simp only [List.mem_append, List.mem_cons, not_or]
        exact ⟨pn.2, ⟨by decide, by decide, by decide, by simp⟩, by decide, by decide, pw.2⟩
      · rw [ht, e, show n ++ " : : " ++ w ++ " : 00 : 1" = n ++ " : : " ++ (w ++ " : 00 : 1") from ext_tl (by simp only [tl_append, List.append_assoc]), told_cc, eq]
    | three n p w e hn pp np pw nw eq =>
      have pn := dg_pl hn
      have er : tl (Txt.replace row " : " " ; ") = tl n ++ ([32, 59, 32] ++ (tl p ++ ([32, 59, 32] ++ tl w))) := by
        rw [tl_replace, e, join_eq, tl_join, tl_cC]
        show replL cC [32, 59, 32] (joinL cC [tl n, tl p, tl w]) = _
        rw [replC_join (by
          intro z hz
          rcases List.mem_cons.mp hz with k | k
          · rw [k]; exact pn.1
          rcases List.mem_cons.mp k with k | k
          · rw [k]; exact pp.1
          · rw [List.mem_singleton.mp k]; exact pw.1)]
        rfl
      refine ⟨⟨.inr ⟨n2, ?_⟩, l2⟩, ⟨.inl ?_, l3⟩, ⟨.inl (told1 ?_), ?_⟩, ⟨.inl ?_, l1⟩⟩
      · rw [ht, e, join3_post, told3 pn.1 pp.1 (pw.app sp_pl).1 np, bytesP3 (c' := w), eq]
      · rw [e, join3_pre, told3 (x_pl.app pn).1 pp.1 pw.1 np, bytesP_dg (xdg n)]
      · rw [er]
        simp only [List.mem_append, List.mem_cons, not_or]
        exact ⟨pn.1, ⟨by decide, by decide, by decide, by simp⟩, pp.1, ⟨by decide, by decide, by decide, by simp⟩, pw.1⟩
      · rw [er]
        simp only [List.mem_append, List.mem_cons, not_or]
        exact ⟨pn.2, ⟨by decide, by decide, by decide, by simp⟩, pp.2, ⟨by decide, by decide, by decide, by simp⟩, pw.2⟩
      · rw [e, join3_more, told_parts (by simp) ?_ ?_, bytesP_long (by show 3 < 5; decide)]
        · intro z hz
          simp only [List.mem_cons, List.not_mem_nil, or_false] at hz
          rcases hz with k | k | k | k | k
          · rw [k]; exact pn.1
          · rw [k]; exact pp.1
          · rw [k]; exact pw.1
          · rw [k]; exact c1
          · rw [k]; exact c2
        · intro i h1 h2
          have h2 : i + 1 < 5 := h2
          have : i = 1 ∨ i = 2 ∨ i = 3 := by omega
          rcases this with k | k | k <;> subst k
          · exact np
          · exact nw
          · show tl ("00" : Str) ≠ []
            decide +kernel
    | two n p e hn pp np eq =>
      have pn := dg_pl hn
      have er : tl (Txt.replace row " : " " ; ") = tl n ++ ([32, 59, 32] ++ tl p) := by
        rw [tl_replace, e, join_eq, tl_join, tl_cC]
        show replL cC [32, 59, 32] (joinL cC [tl n, tl p]) = _
        rw [replC_join (by
          intro z hz
          rcases List.mem_cons.mp hz with k | k
          · rw [k]; exact pn.1
          · rw [List.mem_singleton.mp k]; exact pp.1)]
        rfl
      refine ⟨⟨.inl ?_, l2⟩, ⟨.inl ?_, l3⟩, ⟨.inl (told1 ?_), ?_⟩, ⟨.inl ?_, l1⟩⟩
      · rw [e, join2_post, told2 pn.1 (pp.app sp_pl).1, bytesP_word (words_sp p)]
      · rw [e, join2_pre, told2 (x_pl.app pn).1 pp.1, bytesP_dg (xdg n)]
      · rw [er]
        simp only [List.mem_append, List.mem_cons, not_or]
        exact ⟨pn.1, ⟨by decide, by decide, by decide, by simp⟩, pp.1⟩
      · rw [er]
        simp only [List.mem_append, List.mem_cons, not_or]
        exact ⟨pn.2, ⟨by decide, by decide, by decide, by simp⟩, pp.2⟩
      · rw [e, join2_more, told_parts (by simp) ?_ ?_, bytesP_long (by show 3 < 4; decide)]
        · intro z hz
          simp only [List.mem_cons, List.not_mem_nil, or_false] at hz
          rcases hz with k | k | k | k
          · rw [k]; exact pn.1
          · rw [k]; exact pp.1
          · rw [k]; exact c1
          · rw [k]; exact c2
        · intro i h1 h2
          have h2 : i + 1 < 4 := h2
          have : i = 1 ∨ i = 2 := by omega
          rcases this with k | k <;> subst k
          · exact np
          · show tl ("00" : Str) ≠ []
            decide +kernel
  obtain ⟨f1, f2, f3, f4, f5⟩ := fixed
  obtain ⟨g1, g2, g3, g4⟩ := four
  intro z hz
  unfold odds at hz
  simp only [List.mem_cons, List.not_mem_nil, or_false] at hz
  rcases hz with k | k | k | k | k | k | k | k | k <;> rw [k] <;> assumption
end
end BT
/-! The plain law, 6: the listing read; a bent listing read. -/
namespace BT
open PySem L2 TL PySem.StrLaws
/-! ### all cells -/
theorem allCells_map : ∀ rows : List Str, allCells rows = (rows.map fun r => cellsO (told r)).flatten
  | [] => rfl
  | r :: rs => by rw [allCells_cons, allCells_map rs, List.map_cons, List.flatten_cons]
theorem allCells_told {l m : List Str} (h : l.map told = m.map told) : allCells l = allCells m := by
  rw [allCells_map, allCells_map]
  have e : ∀ l : List Str, (l.map fun r => cellsO (told r)) = (l.map told).map cellsO := fun l => by rw [List.map_map]; rfl
  rw [e, e, h]
theorem mem_allCells {c : Nat × Int} {rows : List Str} : c ∈ allCells rows ↔ ∃ r ∈ rows, c ∈ cellsO (told r) := by
  rw [allCells_map, List.mem_flatten]
  constructor
  · rintro ⟨l, hl, hc⟩
    obtain ⟨r, hr, rfl⟩ := List.mem_map.mp hl
    exact ⟨r, hr, hc⟩
  · rintro ⟨r, hr, hc⟩
    exact ⟨_, List.mem_map.mpr ⟨r, hr, rfl⟩, hc⟩
theorem mem_cells {c : Nat × Int} {p : Nat} {bs : List Int} : c ∈ cells (p, bs) ↔ ∃ i, i < bs.length ∧ c = (p + i, bs.getD i 0) := by
  unfold cells
  rw [List.mem_mapIdx]
  constructor
  · rintro ⟨i, hi, e⟩
    refine ⟨i, hi, ?_⟩
    rw [← e, List.getD_eq_getElem?_getD, List.getElem?_eq_getElem hi]
    rfl
  · rintro ⟨i, hi, e⟩
    refine ⟨i, hi, ?_⟩
    rw [e, List.getD_eq_getElem?_getD, List.getElem?_eq_getElem hi]
    rfl
theorem sub_get {ns : List Int} {a b i : Nat} (h : i < (sub ns a b).length) : (sub ns a b).getD i 0 = g ns (a + i) := by
  unfold sub at h ⊢
  rw [List.length_take, List.length_drop] at h
  unfold g
  rw [List.getD_eq_getElem?_getD, List.getElem?_take_of_lt (by omega), List.getElem?_drop, List.getD_eq_getElem?_getD]
/-! ### the rows of a listing -/
theorem mem_rows {ns : List Int} {r : Str} : r ∈ rowsL ns ↔ (∃ p ∈ reachL ns, r = insT ns p) ∨ ∃ q ∈ neverL ns, r = nevT ns q := by
  have hp : ((ents ns).mergeSort fun a b => decide (a.1 ≤ b.1)).Perm (ents ns) := List.mergeSort_perm ..
  unfold rowsL
  rw [(hp.map fun e => e.2.2).mem_iff]
  unfold ents
  rw [List.map_append, List.mem_append, List.map_map, List.map_map, List.mem_map, List.mem_map]
  constructor
  · rintro (⟨p, h1, h2⟩ | ⟨q, h1, h2⟩)
    · exact .inl ⟨p, h1, h2.symm⟩
    · exact .inr ⟨q, h1, h2.symm⟩
  · rintro (⟨p, h1, h2⟩ | ⟨q, h1, h2⟩)
    · exact .inl ⟨p, h1, h2.symm⟩
    · exact .inr ⟨q, h1, h2.symm⟩
theorem row_sh {ns : List Int} (hI : Img ns) {r : Str} (h : r ∈ rowsL ns) : ∃ q, RowSh r q ∧ ∀ c ∈ cells q, c.1 < ns.length ∧ c.2 = g ns c.1 := by
  rcases mem_rows.mp h with ⟨p, hp, rfl⟩ | ⟨q, hq, rfl⟩
  · refine ⟨_, insT_sh hI (reach_le hI ((mem_reachL hI).mp hp)), fun c hc => ?_⟩
    have hml := many_le ns p
    by_cases hm : 0 < manyOf ns p
    · rw [if_pos hm] at hc
      obtain ⟨i, hi, rfl⟩ := mem_cells.mp hc
      have hs := sub_size (ns := ns) (a := p) (b := p + manyOf ns p) (by omega) (by omega)
      exact ⟨by show p + i < _; omega, sub_get hi⟩
    · rw [if_neg hm] at hc
      cases hc
  · obtain ⟨h1, h2, h3⟩ := (never_ok ns).ok q hq
    refine ⟨_, nevT_sh hI h1 h2, fun c hc => ?_⟩
    obtain ⟨i, hi, rfl⟩ := mem_cells.mp hc
    have hs := sub_size (ns := ns) (a := q.1) (b := q.2) (by omega) h2
    exact ⟨by show q.1 + i < _; omega, sub_get hi⟩
theorem rows_cover {ns : List Int} (hI : Img ns) {a : Nat} (ha : a < ns.length) : (a, g ns a) ∈ allCells (rowsL ns) := by
  rw [mem_allCells]
  by_cases hu : used ns a = true
  · unfold used at hu
    obtain ⟨p, hp, hc⟩ := List.any_eq_true.mp hu
    rw [Bool.and_eq_true, decide_eq_true_eq, decide_eq_true_eq] at hc
    refine ⟨insT ns p, mem_rows.mpr (.inl ⟨p, hp, rfl⟩), ?_⟩
    have hml := many_le ns p
    have ht := (insT_sh hI (reach_le hI ((mem_reachL hI).mp hp))).told
    rw [ht, if_pos (by omega)]
    show (a, g ns a) ∈ cells (p, sub ns p (p + manyOf ns p))
    have hs := sub_size (ns := ns) (a := p) (b := p + manyOf ns p) (by omega) (by omega)
    refine mem_cells.mpr ⟨a - p, by omega, ?_⟩
    rw [sub_get (by omega), show p + (a - p) = a by omega]
  · have hu : used ns a = false := by
      cases hh : used ns a with
      | true => exact absurd hh hu
      | false => rfl
    obtain ⟨q, hq, h1, h2⟩ := (never_ok ns).cov a ha hu
    obtain ⟨k1, k2, k3⟩ := (never_ok ns).ok q hq
    refine ⟨nevT ns q, mem_rows.mpr (.inr ⟨q, hq, rfl⟩), ?_⟩
    rw [(nevT_sh hI k1 k2).told]
    show (a, g ns a) ∈ cells (q.1, sub ns q.1 q.2)
    have hs := sub_size (ns := ns) (a := q.1) (b := q.2) (by omega) k2
    refine mem_cells.mpr ⟨a - q.1, by omega, ?_⟩
    rw [sub_get (by omega), show q.1 + (a - q.1) = a by omega]
theorem cells_ok {ns : List Int} (hI : Img ns) {c : Nat × Int} (h : c ∈ allCells (rowsL ns)) : c.1 < ns.length ∧ c.2 = g ns c.1 := by
  obtain ⟨r, hr, hc⟩ := mem_allCells.mp h
  obtain ⟨q, hq, hok⟩ := row_sh hI hr
  rw [hq.told] at hc
  exact hok c hc
theorem cells_ne {ns : List Int} (hI : Img ns) : allCells (rowsL ns) ≠ [] := fun z => by
  have := rows_cover hI (a := 0) hI.lo
  rw [z] at this
  cases this
/-- the image that the rows tell -/
theorem img_rows {ns : List Int} (hI : Img ns) : imgOf (allCells (rowsL ns)) = ns := by
  have hlo := hI.lo
  have hhi := hI.hi
  have hmax : maxAt (allCells (rowsL ns)) = ns.length - 1 := by
    have h1 := maxAt_ge (rows_cover hI (a := ns.length - 1) (by omega))
    obtain ⟨c, hc, e⟩ := maxAt_at (cells_ne hI)
    have := (cells_ok hI hc).1
    have h1 : ns.length - 1 ≤ maxAt (allCells (rowsL ns)) := h1
    omega
  unfold imgOf
  rw [hmax, show min 2000 (ns.length - 1 + 1) = ns.length by omega]
  have hcell : ∀ a, a < ns.length → cellAt (allCells (rowsL ns)) a = some (g ns a) := fun a ha => by
    unfold cellAt
    cases h : (allCells (rowsL ns)).reverse.find? fun c => decide (c.1 = a) with
    | none =>
      have := List.find?_eq_none.mp h (a, g ns a) (List.mem_reverse.mpr (rows_cover hI ha))
      simp at this
    | some c =>
      have h1 := List.mem_reverse.mp (List.mem_of_find?_eq_some h)
      have h2 := List.find?_some h
      have h3 := cells_ok hI h1
      have h2 : c.1 = a := of_decide_eq_true h2
      show some c.2 = _
      rw [h3.2, h2]
  refine List.ext_getElem (by simp) fun i h1 h2 => ?_
  rw [List.getElem_map, List.getElem_range, hcell i h2]
  show g ns i = _
  unfold g
  rw [List.getD_eq_getElem?_getD, List.getElem?_eq_getElem h2]
  rfl
theorem rows_line {ns : List Int} (hI : Img ns) : ∀ r ∈ rowsL ns, 10 ∉ tl r := fun r hr => by
  obtain ⟨q, hq, _⟩ := row_sh hI hr
  exact hq.line
theorem rows_told {ns : List Int} (hI : Img ns) : ∀ r ∈ rowsL ns, told r ≠ none := fun r hr => by
  obtain ⟨q, hq, _⟩ := row_sh hI hr
  rw [hq.told]
  intro z
  cases z
theorem getD_mem {l : List Str} {i : Nat} (h : i < l.length) : l.getD i "" ∈ l := by
  rw [List.getD_eq_getElem?_getD, List.getElem?_eq_getElem h]
  exact List.getElem_mem h
/-- readL of lines, by what is split -/
theorem split_last {t : Str} {rows : List Str} {last : Str} (h : Txt.split t "\n" = rows ++ [last]) : (Txt.split t "\n").dropLast = rows ∧ (Txt.split t "\n").getLastD "" = last := by
  rw [h, List.dropLast_concat]
  exact ⟨rfl, by simp⟩
/-- A: the listing is read -/
theorem read_rows {ns : List Int} (hI : Img ns) : readL (textOf (rowsL ns)) = .ok ns := by
  obtain ⟨e1, e2⟩ := split_last (split_text (rows_line hI))
  have R := @readL_5 (textOf (rowsL ns))
  rw [e1, e2, img_rows hI] at R
  refine R ?_ ?_ ?_ (Nat.lt_irrefl _)
  · exact firstBad_none fun j hj => rows_told hI _ (getD_mem hj)
  · rintro (z | z)
    · exact z rfl
    · exact cells_ne hI z
  · exact firstDiff_none fun j hj => ⟨hj, rfl⟩
/-- a row of another kind in the at-th one's stead -/
def bend (rows : List Str) (at_ : Nat) (z : Str) : List Str := rows.take at_ ++ [z] ++ rows.drop (at_ + 1)
theorem bend_len {rows : List Str} {at_ : Nat} (h : at_ < rows.length) (z : Str) : (bend rows at_ z).length = rows.length := by
  unfold bend
  rw [List.length_append, List.length_append, List.length_take, List.length_drop, List.length_singleton]
  omega
theorem bend_at {rows : List Str} {at_ : Nat} (h : at_ < rows.length) (z : Str) (j : Nat) : (bend rows at_ z).getD j "" = if j = at_ then z else rows.getD j "" := by
  unfold bend
  rw [List.getD_eq_getElem?_getD, List.getD_eq_getElem?_getD]
  have hl : (rows.take at_).length = at_ := by rw [List.length_take]; omega
  by_cases h1 : j < at_
  · rw [if_neg (by omega), List.append_assoc, List.getElem?_append_left (by omega), List.getElem?_take_of_lt h1]
  · by_cases h2 : j = at_
    · subst h2
      rw [if_pos rfl, List.append_assoc, List.getElem?_append_right (by omega), hl, Nat.sub_self]
      rfl
    · rw [if_neg h2, List.append_assoc, List.getElem?_append_right (by omega), hl, List.getElem?_append_right (by show 1 ≤ j - at_; omega), List.getElem?_drop]
      show (rows[at_ + 1 + (j - at_ - 1)]?).getD "" = _
      rw [show at_ + 1 + (j - at_ - 1) = j by omega]
theorem bend_line {rows : List Str} {at_ : Nat} {z : Str} (h : ∀ r ∈ rows, 10 ∉ tl r) (hz : 10 ∉ tl z) : ∀ r ∈ bend rows at_ z, 10 ∉ tl r := fun r hr => by
  unfold bend at hr
  rcases List.mem_append.mp hr with k | k
  · rcases List.mem_append.mp k with k | k
    · exact h r (List.mem_of_mem_take k)
    · rw [List.mem_singleton.mp k]
      exact hz
  · exact h r (List.mem_of_mem_drop k)
theorem map_told_bend {rows : List Str} {at_ : Nat} {z : Str} (h : at_ < rows.length) (hz : told z = told (rows.getD at_ "")) : (bend rows at_ z).map told = rows.map told := by
  refine List.ext_getElem (by rw [List.length_map, List.length_map, bend_len h]) fun j h1 h2 => ?_
  rw [List.getElem_map, List.getElem_map]
  rw [List.length_map] at h1 h2
  have e1 : (bend rows at_ z)[j] = (bend rows at_ z).getD j "" := by
    rw [List.getD_eq_getElem?_getD, List.getElem?_eq_getElem h1]
    rfl
  have e2 : rows[j] = rows.getD j "" := by
    rw [List.getD_eq_getElem?_getD, List.getElem?_eq_getElem h2]
    rfl
  rw [e1, e2, bend_at h]
  by_cases c : j = at_
  · rw [if_pos c, hz, c]
  · rw [if_neg c]
/-- B: a bent listing is refused at the bent row -/
theorem read_bent {ns : List Int} (hI : Img ns) {at_ : Nat} (h : at_ < (rowsL ns).length) {z : Str} (hz : OddOk ((rowsL ns).getD at_ "") z) : readL (textOf (bend (rowsL ns) at_ z)) = .error at_ := by
  obtain ⟨hz, hnl⟩ := hz
  obtain ⟨e1, e2⟩ := split_last (split_text (bend_line (at_ := at_) (rows_line hI) hnl))
  have hj : ∀ j, j < (rowsL ns).length → told ((rowsL ns).getD j "") ≠ none := fun j hj => rows_told hI _ (getD_mem hj)
  by_cases c : told z = none
  · have R := @readL_1 (textOf (bend (rowsL ns) at_ z)) at_
    rw [e1] at R
    refine R ?_
    have := firstBad_at (rows := bend (rowsL ns) at_ z) (i := at_) (k := 0) (fun j hj' => by
      rw [bend_at h, if_neg (by omega)]
      exact hj j (by omega)) (by rw [bend_len h]; exact h) (by rw [bend_at h, if_pos rfl]; exact c)
    rwa [Nat.zero_add] at this
  · obtain ⟨hne, ht⟩ := hz.resolve_left c
    have R := @readL_3 (textOf (bend (rowsL ns) at_ z)) at_
    rw [e1, e2, allCells_told (map_told_bend h ht), img_rows hI] at R
    refine R ?_ ?_ ?_
    · refine firstBad_none fun j hj' => ?_
      rw [bend_len h] at hj'
      rw [bend_at h]
      by_cases e : j = at_
      · rw [if_pos e]
        exact c
      · rw [if_neg e]
        exact hj j hj'
    · rintro (k | k)
      · exact k rfl
      · exact cells_ne hI k
    · have := firstDiff_at (rows := bend (rowsL ns) at_ z) (due := rowsL ns) (i := at_) (k := 0) (fun j hj' => ⟨by omega, by rw [bend_at h, if_neg (by omega)]⟩) (by rw [bend_len h]; exact h)
        (.inr ⟨h, by rw [bend_at h, if_pos rfl]; exact hne⟩)
      rwa [Nat.zero_add] at this
/-- C, D: what stands behind the last line's end is refused there -/
theorem read_behind {rows : List Str} {last : Str} (h : ∀ r ∈ rows, 10 ∉ tl r) (hl : 10 ∉ tl last) (ht : ∀ r ∈ rows, told r ≠ none) (hne : last ≠ "") : readL (textOf rows ++ last) = .error rows.length := by
  obtain ⟨e1, e2⟩ := split_last (split_lines h hl)
  have R := @readL_2 (textOf rows ++ last)
  rw [e1, e2] at R
  exact R (firstBad_none fun j hj => ht _ (getD_mem hj)) (.inl hne)
theorem rows_ne {ns : List Int} (hI : Img ns) : 0 < (rowsL ns).length := by
  cases h : rowsL ns with
  | nil =>
    have := cells_ne hI
    rw [h] at this
    exact absurd rfl this
  | cons r rs => exact Nat.succ_pos _
/-- the text but its last sign -/
theorem text_snoc (rows : List Str) (r : Str) : textOf (rows ++ [r]) = textOf rows ++ r ++ "\n" := by
  refine ext_tl ?_
  rw [tl_append, tl_append, tl_textOf, tl_textOf, List.map_append, List.flatten_append, tl_nl, List.append_assoc]
  simp
theorem read_cut {ns : List Int} (hI : Img ns) {t : Str} (h : t ++ "\n" = textOf (rowsL ns)) : readL t = .error ((rowsL ns).length - 1) := by
  rcases snoc_cases (rowsL ns) with e | ⟨rows, r, e⟩
  · have := rows_ne hI
    rw [e] at this
    exact absurd this (by decide)
  · have hr : r ∈ rowsL ns := by
      rw [e]
      exact List.mem_append_right _ (List.mem_singleton.mpr rfl)
    have hin : ∀ x ∈ rows, x ∈ rowsL ns := fun x hx => by
      rw [e]
      exact List.mem_append_left _ hx
    obtain ⟨q, hq, _⟩ := row_sh hI hr
    rw [e, text_snoc] at h
    have ht : t = textOf rows ++ r := by
      refine ext_tl ?_
      have := congrArg tl h
      rw [tl_append, tl_append (textOf rows ++ r)] at this
      exact List.append_cancel_right this
    rw [ht, e, List.length_append, List.length_singleton, Nat.add_sub_cancel]
    exact read_behind (fun x hx => rows_line hI x (hin x hx)) hq.line (fun x hx => rows_told hI x (hin x hx)) hq.full
theorem read_more {ns : List Int} (hI : Img ns) {r : Str} (hr : r ∈ rowsL ns) : readL (textOf (rowsL ns) ++ r) = .error (rowsL ns).length := by
  obtain ⟨q, hq, _⟩ := row_sh hI hr
  exact read_behind (rows_line hI) hq.line (rows_told hI) hq.full
/-! ### the last three -/
theorem read_nil : readL "" = .error 0 := by
  have h := @readL_2 ""
  have e : Txt.split "" "\n" = ([] : List Str) ++ [("" : Str)] := split_text (rows := []) (fun r hr => by cases hr)
  obtain ⟨e1, e2⟩ := split_last e
  rw [e1, e2] at h
  exact h rfl (.inr rfl)
theorem img0 : Img [0] := ⟨fun n hn => by rw [List.mem_singleton.mp hn]; exact ⟨by decide, by decide⟩, by decide, by decide⟩
theorem ways0 : ways [0] 0 = [] := by decide +kernel
theorem reach0 {p : Nat} (h : Reach [0] p) : p = 0 := by
  induction h with
  | z => rfl
  | s hp hq ih =>
    subst ih
    rw [ways0] at hq
    cases hq
theorem reachL0 : reachL [0] = [0] := by
  have h1 : (reachL [0]).Perm [0] := by
    refine (List.perm_ext_iff_of_nodup (reachL_nodup _) (by simp)).mpr fun p => ?_
    rw [mem_reachL img0, List.mem_singleton]
    exact ⟨reach0, fun e => by rw [e]; exact .z⟩
  exact List.perm_singleton.mp h1
theorem neverL0 : neverL [0] = [] := by
  cases h : neverL [0] with
  | nil => rfl
  | cons q r =>
    obtain ⟨h1, h2, h3⟩ := (never_ok [0]).ok q (by rw [h]; exact List.mem_cons_self ..)
    have h2 : q.2 ≤ 1 := h2
    have hq : q.1 = 0 := by omega
    have hu : used [0] 0 = true := by
      refine used_of (p := 0) (by rw [reachL0]; simp) (Nat.le_refl _) ?_
      decide +kernel
    rw [h3 0 (by omega) (by omega)] at hu
    cases hu
theorem rowsL0 : rowsL [0] = [("0 : 00 : halt" : Str)] := by
  unfold rowsL ents
  rw [reachL0, neverL0]
  show ((([(0, 1, insT [0] 0)] : List (Nat × Nat × Str)) ++ []).mergeSort _).map _ = _
  rw [List.append_nil, List.mergeSort_singleton]
  show [insT [0] 0] = _
  congr 1
theorem read_one : readL "0 : 00 : halt\n" = .ok [0] := by
  have h := read_rows img0
  rw [rowsL0] at h
  rw [show ("0 : 00 : halt\n" : Str) = textOf [("0 : 00 : halt" : Str)] from by decide +kernel]
  exact h
theorem read_open : readL "0 : 00 : halt" = .error 0 := by
  have h := @read_behind [] "0 : 00 : halt" (fun r hr => by cases hr) (by decide +kernel) (fun r hr => by cases hr) (by decide +kernel)
  rw [show textOf [] ++ ("0 : 00 : halt" : Str) = "0 : 00 : halt" from by decide +kernel] at h
  exact h
end BT
/-! The law's own defs, 5: told. -/
namespace BT
open PySem PySem.Spec PyProof.Rows L2 Evl TL
/-! ### isinstance(error, C) within the suite -/
def rIsEx (K : PySem.W.Frag) (a : Addr) (cls : Value) (d : Option Addr) (C : Addr) : List V → Hp → VK → Prop := fun xs H Q => cls = .ref C ∧ ∃ (dd : Addr) (fs : List (Str × V)) (c : V) (cv : Value) (b : Bool), d = some dd ∧ xs = [.ref a, c] ∧ H dd = some (.xd fs) ∧ (∀ u, RelV c u → u = cv) ∧ PySem.W.kitOne K (.ref C) cv = some b ∧ Q (.bl b) H
theorem call_isEx {X : Cx} {a C : Addr} {oe : Obj} {cls : Value} {d : Option Addr} {pn : List (Addr × Obj)} (E : ExcC X.K C) (hz : Zc cls d oe) (hf : ∃ vs, oe.data = .fields vs) : CallR (X.suite a ((a, oe) :: pn)) (.builtin "isinstance") (rIsEx X.K a cls d C) := by
  intro pins s σ H xs us Q I r h
  obtain ⟨ec, dd, fs, c, cv, b, ed, rfl, ea, hcv, e, q⟩ := h
  subst ec
  subst ed
  cases r with
  | cons rx rr =>
    cases rr with
    | cons rt rr =>
      cases rr
      cases rx
      have ec := hcv _ rt
      subst ec
      obtain ⟨hget, _⟩ := I.pin (a, oe) (List.mem_append.mpr (.inl List.mem_cons_self))
      obtain ⟨vs, hv⟩ := hf
      have hx : ObjOk X.prog X.w H s.heap dd (.xd fs) := I.hok dd _ ea
      obtain ⟨mA, hns, hr⟩ := hx
      obtain ⟨od, ho, hl⟩ := lookIn_ns hns
      have J : PySem.W.InstAt s.heap a oe C (some od) := ⟨hget, hz.1, by unfold PySem.W.notCls; rw [hv] <;> rfl, by rw [hz.2]; exact ho⟩
      have hcl : (PySem.W.clsIn X.K C).isSome = true := by
        obtain ⟨cd, hc, _⟩ := PySem.W.any_some E.hd
        rw [hc]
        rfl
      exact PySem.W.kia_one (PySem.W.kitx_exc (od := some od) hcl E.hg E.hk E.hs E.ha E.hn E.ht E.hm) I.kIn J e (fun z => nomatch z) fun tk => ⟨.bl b, H, I.kept (t' := tk) fun _ _ z => z, rfl, q⟩
/-- a call of an own def that may raise -/
theorem pe_ownS {X : Cx} {CX : CXT} {k : Nat} {ps : List Str} {sp : Sp} {E : L2.St → XK} {x : Str} {p pos : Pos} {e : Expr} {es : List Expr} {t : TA} (O : Own X.prog X.w X.K X.mg X.base CX k x ps sp) (hr : Room k X.A) (hx : ∀ σ, PassesAt CX X σ (E σ)) (ha : PA X (e :: es) t) (hg : Gl X x := by rfl) (hdb : (x == ("__debug__" : Str)) = false := by decide)
    (he : starEach (e :: es) X.env = (false, eval e X.env) :: starEach es X.env := by rfl) (hpl : (backTo pos (starEach es X.env)).any (·.1) = false := by rfl) :
    PE X (.Call (.Name x p) (e :: es) [] pos) (tCallS sp E t) := by
  obtain ⟨f, fd, F, m, kp, b⟩ := O
  exact pe_callS F hr hg m kp b hx ha hdb he hpl
/-! ### told -/
/-- the error's class, as the top has left it -/
structure Bex (K : PySem.W.Frag) (mg : Str → Option Value) (C : Addr) : Prop where
  bt : Btx K mg C
  te : ∃ D, mg "TaleError" = some (.ref D) ∧ PySem.W.exmOne K (.ref C) (.ref D) = some true
  gC : mg "BadText" = some (.ref C)
  xf : XfC K C
  ec : ExcC K C
  no : PySem.W.findIn K (.ref C) "row" = some none
  is : PySem.W.kitOne K (.ref C) (.ref C) = some true
def spLTold (K : PySem.W.Frag) : Sp := fun vs H Q _ => ∃ v : V, vs = [v] ∧
  ((∃ t, v = .str t ∧ t.length ≤ 16000000 ∧ (∀ ns, readL t = .ok ns → ∀ H', Ex H H' → Q (.int (-1)) H') ∧ (∀ i, readL t = .error i → ∀ H', Ex H H' → Q (.int ((i : Nat) : Int)) H')) ∨
   (∃ ty, TyX K H v (.type ty) ∧ PySem.W.kitOne K (.type ty) (.type "str") = some false ∧ ∀ H', Ex H H' → Q (.int 0) H'))
section
variable {P : Program} {w : World} {K : PySem.W.Frag} {mg : Str → Option Value} {base : Heap} {C : Addr}
def t_tb (K : PySem.W.Frag) (C : Addr) : WX → TS := fun W => tRet (tIf (tTest (tOp rEq (tCall spListing [] E0 (tCons (tCallS (spReadListing C K) (WE W) (tCons (tVar 0) tNil)) tNil)) (tVar 0))) (tUn (rU fun i => .int (-i)) (tC (.int 1))) (tC (.str "other")))
def t_ts (K : PySem.W.Frag) (C : Addr) : Addr → Value → Option Addr → TS := fun a cls d => tRet (tIf (tB (tCB (rIsEx K a cls d C) (tCons (tVar 1) (tCons (tC (.ref C)) tNil)))) (tXf a cls d C "row" (tVar 1)) (tC (.str "other")))
theorem ok_l_told (T : Txt K mg) (Cc : Txc K w mg) (B : Bex K mg C) : Own P w K mg base CX0 13 "_law_told" ["_law_text"] (spLTold K) := own_of T.lTold fun f fd F => by
  have G1 := ok_listing (P := P) (base := base) T Cc
  have G2 := ok_read_listing (P := P) (base := base) T Cc B.bt
  obtain ⟨D, gD, te⟩ := B.te
  refine F.ok scLTold (fun vs H Q E h => ?_) (fun cdv A outer s H vs Q E hr h => ?_)
  · obtain ⟨v, rfl, _⟩ := h
    rfl
  · obtain ⟨v, rfl, h⟩ := h
    have hr11 : Room 11 _ := hr.mono (by decide)
    have hr12 : Room 12 _ := hr.mono (by decide)
    refine ⟨_, pss_one (ps_try_as (i := 1) (tb := t_tb K C) (ts := t_ts K C) (Wout := fun _ _ _ _ => False) rfl rfl scLTold.nd rfl rfl ⟨rfl, by decide, .inl gD⟩ takes0
      (fun W pn xe tk _ => pss_one (ps_ret (by exact (pe_ifExp (pt_cmpR op_eq (pe_own G1 hr11 pass0 (pa_cons (pe_ownS G2 hr12 (fun σ => passAt tk σ) (pa_cons (pv 0) pa_nil)) pa_nil)) (pv 0) (nomark _)) (pe_un un_neg pe_int) pe_str))))
      (fun a oe cls d pn hz hf => pss_one (ps_ret (by exact (pe_ifExp (pt_val (pe_callB (call_isEx B.ec hz hf) (by rfl) T.isinstance (by decide +kernel) (pa_cons (pv 1) (pa_cons (pe_glob (v := .ref C) (by rfl) B.gC rfl) pa_nil)))) (pe_xf B.xf B.no hz hf (pv 1)) pe_str))))), ?_⟩
    have suite : ∀ (i : Int) H1 d, H1 d = some (.xd [("row", .int i)]) → Q (.int i) H1 → WE (wAs K (.ref D) 1 (t_ts K C) (fun _ _ _ _ => False) { nx := fun _ H' => Q .non H', rt := Q }) [some v, none] (.ref C) (some d) H1 := fun i H1 d hd q =>
      ⟨true, te, fun _ a ha => ⟨_, rfl, rfl, d, _, _, _, true, rfl, rfl, hd, (fun u r => r), B.is, true, rfl, iteT ⟨_, rfl, rfl, rfl, d, _, _, rfl, hd, rfl, q⟩⟩, fun q => Bool.noConfusion q⟩
    refine ⟨_, rfl, v, rfl, ?_⟩
    rcases h with ⟨t, rfl, hl, q1, q2⟩ | ⟨ty, hty, hk, q⟩
    · refine .inl ⟨t, rfl, hl, fun ns hok H1 e1 => ?_, fun i herr H1 d e1 hd => suite _ H1 d hd (q2 i herr H1 e1)⟩
      obtain ⟨hI, htx⟩ := readL_text hok
      refine ⟨ns, rfl, hI, fun H2 e2 => ⟨_, rfl, rfl, _, rfl, ?_⟩⟩
      rw [decide_eq_true (by rw [htx])]
      exact iteT ⟨_, rfl, q1 ns hok H2 (e1.trans e2)⟩
    · exact .inr ⟨ty, hty, hk, fun H1 d e1 hd => suite 0 H1 d hd (q H1 e1)⟩
end
end BT
/-! The law's own defs, 6: bent_right. -/
namespace BT
open PySem PySem.Spec PyProof.Rows L2 Evl TL
/-- a written text ahead: a token is out for what follows -/
theorem pa_lead {X : Cx} {c : Str} {j : Nat} {cp : Pos} {es : List Expr} {ta : TA} (hr : PAT X es ta) (hs : starEach (.Constant (.str c) j cp :: es) X.env = (false, eval (.Constant (.str c) j cp) X.env) :: starEach es X.env := by rfl) :
    PA X (.Constant (.str c) j cp :: es) (tCons (tC (.str c)) ta) := by
  refine ⟨fun pos pins s σ H Q I h => ?_⟩
  rw [hs]
  show wpAny _ _ (spliced ((false, eval (.Constant (.str c) j cp) X.env) :: backTo pos (starEach es X.env))) _ _ s
  refine Calls.spliced_cons (Calls.Constant_str ?_)
  exact thn (hr pos pins { s with toks := s.toks + 1 } σ H _ (by show 1 ≤ s.toks + 1; omega) (I.tok _) h) fun us s2 ⟨xs, H2, I2, r2, q2⟩ => ⟨.str c :: xs, H2, I2, .cons ⟨_, rfl⟩ r2, q2⟩
/-! ### "".join([row + "\n" for row in rows]) -/
theorem lines_ev {K : PySem.W.Frag} {σ : L2.St} {H : Hp} {a : Addr} {ls : List Str} {j : Nat} {Q : VK} (hσ : σ[j]? = some (some (.ref a))) (h9 : 9 < σ.length) (hS : SqL K H a (ls.map V.str)) (hsum : (ls.map (·.length)).sum + ls.length ≤ 16000000) (q : ∀ H', Ex H H' → Q (.str (textOf ls)) H') :
    tM1 (fun x xs H Q => ∃ a p, ∃ ys : List Str, x = .str a ∧ xs = [.ref p] ∧ (SqL K H p (ys.map V.str) ∨ SqT K H p (ys.map V.str)) ∧ (ys.map (·.length)).sum + ys.length * a.length ≤ 16777216 ∧ Q (.str (Txt.join a ys)) H) (tC (.str ""))
      (tLc (iList K (tVar j)) (gName 9) tYes (tOp (fun x y H Q => ∃ i j, x = .str i ∧ y = .str j ∧ i.length + j.length ≤ sizeLine ∧ Q (.str (i ++ j)) H) (tVar 9) (tC (.str "\n"))) [9]) σ H Q := by
  obtain ⟨c1, c2, c3⟩ := colon_len
  refine ⟨⟨_, rfl⟩, _, hσ, a, rfl, ⟨_, hS⟩, fun D hD => ?_⟩
  have hw : ∀ x : V, wipe ((wipe σ [9]).set 9 (some x)) [9] = wipe σ [9] := fun x => by
    show ((σ.set 9 none).set 9 (some x)).set 9 none = σ.set 9 none
    rw [List.set_set, List.set_set]
  refine lc_name (walk_list (xs := ls.map V.str)) _ (fun i => .str (ls.getD i "" ++ "\n")) y_at hw (by rw [List.length_map, sizeLine_eq]; omega) hD (fun H' e => ex_l e hS) ?_ ?_
  · intro i H' hi e Q q
    rw [List.length_map] at hi
    have hg : ls[i]? = some (ls.getD i "") := by
      rw [List.getD_eq_getElem?_getD, List.getElem?_eq_getElem hi]
      rfl
    have e1 : (ls.map V.str).getD i .non = .str (ls.getD i "") := by
      rw [List.getD_eq_getElem?_getD, List.getElem?_map, hg]
      rfl
    rw [e1]
    refine ⟨_, ?_, _, _, rfl, rfl, ?_, q _ (Ex.refl _)⟩
    · show ((σ.set 9 none).set 9 (some (.str (ls.getD i ""))))[9]? = _
      rw [List.getElem?_set_self (by rw [List.length_set]; exact h9)]
    · have hm : (ls.getD i "").length ≤ (ls.map (·.length)).sum := mem_sum (List.mem_of_getElem? hg)
      rw [c3, sizeLine_eq]
      omega
  · intro H' e hl'
    refine ⟨_, D, ls.map fun r => r ++ "\n", rfl, rfl, .inl (SqL.of ?_), ?_, q _ e⟩
    · rw [hl', List.length_map, map_range_getD (fun r => V.str (r ++ "\n")) "" ls, List.map_map]
      rfl
    · rw [lines_sum]
      have h3 : ("" : Str).length = 0 := by decide +kernel
      rw [h3]
      omega
/-! ### bent_right -/
def oddsA (row : Str) : List Str := ["", "x", row ++ " ", ("x" : Str) ++ row, Txt.replace row " : " " ; "]
def oddsB (row : Str) : List Str := ["1 : 0", "1 : 0g : halt", "-1 : 00", row ++ " : 00 : 1"]
def spLBent (K : PySem.W.Frag) : Sp := fun vs H Q _ => ∃ (st r : Addr) (ns : List Int) (z : Addr × List Int), vs = [.ref st, .ref r] ∧ Img ns ∧ Stt K H st z ∧ H r = some (.lst ((rowsL ns).map V.str)) ∧ ∀ H', Kp [st] H H' → Stt K H' st z → Q (.bl true) H'
theorem row_len {ns : List Int} (hI : Img ns) {r : Str} (h : r ∈ rowsL ns) : r.length ≤ 6008 := by
  have hl := hI.hi
  rcases mem_rows.mp h with ⟨p, hp, rfl⟩ | ⟨q, hq, rfl⟩
  · have := insT_len hI (p := p) (by have := reach_lt hI ((mem_reachL hI).mp hp); omega)
    omega
  · obtain ⟨h1, h2, h3⟩ := (never_ok ns).ok q hq
    have := nevT_len hI h2 h1
    omega
theorem odd_len {row z : Str} (hr : row.length ≤ 6008) (h : z ∈ odds row) : z.length ≤ 30000 := by
  have f : ("" : Str).length = 0 ∧ ("x" : Str).length = 1 ∧ (" " : Str).length = 1 ∧ (" ; " : Str).length = 3 ∧ ("1 : 0" : Str).length = 5 ∧ ("1 : 0g : halt" : Str).length = 13 ∧ ("-1 : 00" : Str).length = 7 ∧ (" : 00 : 1" : Str).length = 9 := by decide +kernel
  obtain ⟨f1, f2, f3, f4, f5, f6, f7, f8⟩ := f
  have hrep := TK.replace_len row " : " " ; "
  rw [f4] at hrep
  unfold odds at h
  simp only [List.mem_cons, List.not_mem_nil, or_false] at h
  rcases h with k | k | k | k | k | k | k | k | k <;> rw [k]
  · omega
  · omega
  · rw [str_app_len, f3]; omega
  · rw [str_app_len, f2]; omega
  · omega
  · omega
  · omega
  · omega
  · rw [str_app_len, f8]; omega
theorem bend_sum {rows : List Str} {at_ : Nat} {z : Str} (h : at_ < rows.length) : ((bend rows at_ z).map (·.length)).sum ≤ (rows.map (·.length)).sum + z.length := by
  have e : rows = rows.take at_ ++ rows.drop at_ := (List.take_append_drop at_ rows).symm
  have e2 : ((rows.drop (at_ + 1)).map (·.length)).sum ≤ ((rows.drop at_).map (·.length)).sum := by
    rw [List.drop_eq_getElem_cons h, List.map_cons, List.sum_cons]
    omega
  have e3 : (rows.map (·.length)).sum = ((rows.take at_).map (·.length)).sum + ((rows.drop at_).map (·.length)).sum := by
    conv => lhs; rw [e]
    rw [List.map_append, List.sum_append]
  unfold bend
  rw [List.map_append, List.map_append, List.sum_append, List.sum_append, e3]
  show _ + (z.length + 0) + _ ≤ _
  omega
theorem drop_sum {rows : List Str} {at_ : Nat} : ((rows.take at_ ++ rows.drop (at_ + 1)).map (·.length)).sum ≤ (rows.map (·.length)).sum := by
  have e : rows = rows.take at_ ++ rows.drop at_ := (List.take_append_drop at_ rows).symm
  have e2 : ((rows.drop (at_ + 1)).map (·.length)).sum ≤ ((rows.drop at_).map (·.length)).sum := by
    by_cases h : at_ < rows.length
    · rw [List.drop_eq_getElem_cons h, List.map_cons, List.sum_cons]
      omega
    · rw [List.drop_of_length_le (by omega)]
      exact Nat.zero_le _
  have e3 : (rows.map (·.length)).sum = ((rows.take at_).map (·.length)).sum + ((rows.drop at_).map (·.length)).sum := by
    conv => lhs; rw [e]
    rw [List.map_append, List.sum_append]
  rw [List.map_append, List.sum_append, e3]
  omega
theorem cut_last {t u : Str} (h : u = t ++ "\n") : cutS u none (some (-1)) = t := by
  subst h
  refine ext_tl ?_
  have hl : (t ++ ("\n" : Str)).length = t.length + 1 := by rw [str_app_len, colon_len.2.2]
  show ((tl (t ++ ("\n" : Str))).drop (HT.sIx (t ++ ("\n" : Str)).length 0 none)).take (HT.sIx (t ++ ("\n" : Str)).length (t ++ ("\n" : Str)).length (some (-1)) - HT.sIx (t ++ ("\n" : Str)).length 0 none) = tl t
  rw [HT.sIx_none, List.drop_zero, Nat.sub_zero, hl]
  have e : HT.sIx (t.length + 1) (t.length + 1) (some (-1)) = t.length := by
    show (if (-1 : Int) < 0 then ((-1 : Int) + ((t.length + 1 : Nat) : Int)).toNat else min (-1 : Int).toNat (t.length + 1)) = t.length
    rw [if_pos (by decide)]
    omega
  rw [e, tl_append, List.take_append_of_le_length (by rw [← len_tl]; exact Nat.le_refl _), List.take_of_length_le (by rw [← len_tl]; exact Nat.le_refl _)]
theorem cutV_to (xs : List V) (k : Nat) : cutV xs none (some (k : Int)) = xs.take k := by
  unfold cutV
  rw [HT.sIx_none, HT.sIx_nat, List.drop_zero, Nat.sub_zero]
  by_cases h : k ≤ xs.length
  · rw [Nat.min_eq_left h]
  · rw [Nat.min_eq_right (by omega), List.take_of_length_le (Nat.le_refl _), List.take_of_length_le (by omega)]
theorem cutV_from (xs : List V) (k : Nat) : cutV xs (some (k : Int)) none = xs.drop k := by
  unfold cutV
  rw [HT.sIx_none, HT.sIx_nat]
  by_cases h : k ≤ xs.length
  · rw [Nat.min_eq_left h, List.take_of_length_le (by rw [List.length_drop]; exact Nat.le_refl _)]
  · rw [Nat.min_eq_right (by omega), List.drop_of_length_le (Nat.le_refl _), List.drop_of_length_le (by omega), List.take_nil]
section
variable {P : Program} {w : World} {K : PySem.W.Frag} {mg : Str → Option Value} {base : Heap} {C : Addr}
theorem ok_l_bent (T : Txt K mg) (Cc : Txc K w mg) (B : Bex K mg C) : Own P w K mg base CX0 14 "_law_bent_right" ["_law_state", "_law_rows_here"] (spLBent K) := own_of T.lBentRight fun f fd F => by
  have G1 := ok_l_next (P := P) (w := w) (base := base) T
  have G2 := ok_l_told (P := P) (base := base) T Cc B
  refine F.ok scLBentRight (fun vs H Q E h => ?_) (fun cdv A outer s H vs Q E hr h => ?_)
  · obtain ⟨st, r, ns, z, rfl, _⟩ := h
    rfl
  · obtain ⟨st, r, ns, z, rfl, hI, hS, hr0, q⟩ := h
    have hr3 : Room 3 _ := hr.mono (by decide)
    refine ⟨_, pss_cons (ps_set (i := 2) scLBentRight.nd rfl (.inl rfl) (pe_own G1 hr3 pass0 (pa_cons (pv 0) (pa_cons (pe_callB call_len_seq (by rfl) T.len PySem.boot_len (pa_cons (pv 1) pa_nil)) pa_nil))))
      (pss_cons (ps_set (i := 3) scLBentRight.nd rfl (.inl rfl) (pe_lst (pa_lead (pat_cons (CwR.PET.of pe_str) (pat_cons (CwR.PET.of (pe_op op_add_str (pe_ix ix_list (pv 1) (pv 2) (fun _ _ => rfl)) pe_str)) (pat_cons (CwR.PET.of (pe_op op_add_str pe_str (pe_ix ix_list (pv 1) (pv 2) (fun _ _ => rfl))))
          (pat_cons (CwR.pet_replC (pe_ix ix_list (pv 1) (pv 2) (fun _ _ => rfl)) (by decide +kernel)) pat_nil)))))))
      (pss_cons (ps_set (i := 3) scLBentRight.nd rfl (.inl rfl) (pe_op op_cat (pv 3) (pe_lst (pa_cons pe_str (pa_cons pe_str (pa_cons pe_str (pa_cons (pe_op op_add_str (pe_ix ix_list (pv 1) (pv 2) (fun _ _ => rfl)) pe_str) pa_nil)))))))
      (pss_cons (ps_set (i := 4) scLBentRight.nd rfl (.inl rfl) (pe_ix ix_list (pv 3) (pe_own G1 hr3 pass0 (pa_cons (pv 0) (pa_cons pe_int pa_nil))) (fun _ _ => rfl)))
      (pss_cons (ps_set (i := 5) scLBentRight.nd rfl (.inl rfl) (pe_op op_cat (pe_op op_cat (pe_slice sl_list (pv 1) po_none (po_some (pv 2))) (pe_lst (pa_cons (pv 4) pa_nil))) (pe_slice sl_list (pv 1) (po_some (pe_op op_add (pv 2) pe_int)) po_none)))
      (pss_cons (ps_set (i := 6) scLBentRight.nd rfl (.inl rfl) (pe_own G2 hr pass0 (pa_cons (PE_up (pe_join pe_str (pe_lc (own := [("_law_row_here", 9)]) (g := gName 9) (tt := tYes) rfl scLBentRight.nd (pi_list (pv 5)) (blkOk_by (N := nLBentRight) (sc := defScope sLBentRight) (by decide +kernel))
          (fun _ _ _ _ _ => pg_name (i := 9) scLBentRight.nd rfl (Or.inl rfl)) (fun _ _ _ _ _ => pts_nil) (fun _ _ _ _ _ => pe_op op_add_str (pv 9) pe_str)))) pa_nil)))
      (pss_cons (ps_if (pt_cmpR op_eq (pv 4) (pe_op op_add_str (pe_ix ix_list (pv 1) (pv 2) (fun _ _ => rfl)) pe_str) (nomark _)) (pss_one (ps_ret (pe_and (pe_cmpR op_ne (pv 6) (pe_un un_neg pe_int) (nomark _)) (pe_one (pe_cmpR op_ne (pv 6) pe_str (nomark _)))))) pss_nil)
      (pss_cons (ps_if (pt_cmpR op_ne (pv 6) (pv 2) (nomark _)) (pss_one (ps_ret pe_bl)) pss_nil)
      (pss_cons (ps_set (i := 7) scLBentRight.nd rfl (.inl rfl) (PE_up (pe_join pe_str (pe_lc (own := [("_law_row_here", 9)]) (g := gName 9) (tt := tYes) rfl scLBentRight.nd (pi_list (pv 1)) (blkOk_by (N := nLBentRight) (sc := defScope sLBentRight) (by decide +kernel))
          (fun _ _ _ _ _ => pg_name (i := 9) scLBentRight.nd rfl (Or.inl rfl)) (fun _ _ _ _ _ => pts_nil) (fun _ _ _ _ _ => pe_op op_add_str (pv 9) pe_str)))))
      (pss_cons (ps_if (PW.pt (pw_or (pt_cmpR op_ne (pe_own G2 hr pass0 (pa_cons (pe_slice sl_str (pv 7) po_none (po_some (pe_un un_neg pe_int))) pa_nil)) (pe_op op_sub (pe_callB call_len_seq (by rfl) T.len PySem.boot_len (pa_cons (pv 1) pa_nil)) pe_int) (nomark _))
          (pw_or1 (pt_cmpR op_ne (pe_own G2 hr pass0 (pa_cons (pe_op op_add_str (pv 7) (pe_ix ix_list (pv 1) (pv 2) (fun _ _ => rfl))) pa_nil)) (pe_callB call_len_seq (by rfl) T.len PySem.boot_len (pa_cons (pv 1) pa_nil)) (nomark _))))) (pss_one (ps_ret pe_bl)) pss_nil)
      (pss_cons (ps_set (i := 8) scLBentRight.nd rfl (.inl rfl) (pe_op op_cat (pe_slice sl_list (pv 1) po_none (po_some (pv 2))) (pe_slice sl_list (pv 1) (po_some (pe_op op_add (pv 2) pe_int)) po_none)))
      (pss_cons (ps_set (i := 6) scLBentRight.nd rfl (.inl rfl) (pe_own G2 hr pass0 (pa_cons (PE_up (pe_join pe_str (pe_lc (own := [("_law_row_here", 9)]) (g := gName 9) (tt := tYes) rfl scLBentRight.nd (pi_list (pv 8)) (blkOk_by (N := nLBentRight) (sc := defScope sLBentRight) (by decide +kernel))
          (fun _ _ _ _ _ => pg_name (i := 9) scLBentRight.nd rfl (Or.inl rfl)) (fun _ _ _ _ _ => pts_nil) (fun _ _ _ _ _ => pe_op op_add_str (pv 9) pe_str)))) pa_nil)))
      (pss_one (ps_ret (pe_cmpR op_ne (pv 6) pe_str (nomark _))))))))))))))), ?_⟩
    have hz1 : 1 ≤ sizeLine := by decide
    have hz4 : 4 ≤ sizeLine := by decide
    have hz5 : 5 ≤ sizeLine := by decide
    obtain ⟨hsum, hcnt⟩ := rows_sum hI
    have hpos := rows_ne hI
    have hodd := fun (i : Nat) (hi : i < (rowsL ns).length) => (row_sh hI (getD_mem hi))
    have hlen6 := fun (i : Nat) (hi : i < (rowsL ns).length) => row_len hI (getD_mem hi)
    have hbent := fun (i : Nat) (hi : i < (rowsL ns).length) (x : Str) => @read_bent ns hI i hi x
    have hcut := fun (t : Str) => @read_cut ns hI t
    have hmore := fun (x : Str) => @read_more ns hI x
    generalize rowsL ns = rows at *
    have hrst : r ≠ st := fun e => by
      obtain ⟨b, n, h1, h2, _⟩ := hS
      rw [← e, hr0] at h2
      have h2 := Option.some.inj h2
      injection h2 with h2
      cases rows with
      | nil => cases h2
      | cons x y => injection h2 with h2 _; cases h2
    have hrM : r ∉ [st] := fun z => hrst (List.mem_singleton.mp z)
    refine ⟨_, rfl, _, rfl, r, _, rfl, .inl (SqL.of hr0), ?_⟩
    rw [List.length_map]
    refine ⟨st, _, z, rfl, by omega, hS, fun v H1 v0 v1 e1 S1 => ?_⟩
    obtain ⟨at_, rfl⟩ : ∃ at_ : Nat, v = (at_ : Int) := ⟨v.toNat, by omega⟩
    have hat : at_ < rows.length := by omega
    have hr1 := e1 _ _ hrM hr0
    have hrow6 := hlen6 at_ hat
    obtain ⟨qq, hsh, _⟩ := hodd at_ hat
    have hoks := odd_ok hsh
    have hods := fun (x : Str) (hx : x ∈ odds (rows.getD at_ "")) => odd_len hrow6 hx
    have hb := hbent at_ hat
    have hmo := hmore (rows.getD at_ "") (getD_mem hat)
    have rat : (rows.map V.str)[at_]? = some (.str (rows.getD at_ "")) := by
      rw [List.getElem?_map, List.getD_eq_getElem?_getD, List.getElem?_eq_getElem hat]
      rfl
    have aat := atI_nat rat
    generalize hrow : rows.getD at_ "" = row at *
    have f1 : ("x" : Str).length = 1 ∧ (" " : Str).length = 1 ∧ (" ; " : Str).length = 3 ∧ (" : 00 : 1" : Str).length = 9 := by decide +kernel
    obtain ⟨f1, f2, f3, f4⟩ := f1
    refine ⟨_, rfl, _, rfl, r, _, _, _, rfl, rfl, SqL.of hr1, aat, _, _, rfl, rfl, by rw [f2, sizeLine_eq]; omega, ?_⟩
    refine ⟨_, rfl, _, rfl, r, _, _, _, rfl, rfl, SqL.of hr1, aat, _, _, rfl, rfl, by rw [f1, sizeLine_eq]; omega, ?_⟩
    refine ⟨_, rfl, _, rfl, r, _, _, _, rfl, rfl, SqL.of hr1, aat, row, rfl, by rw [f3]; omega, hz5, fun o1 ho1 => ?_⟩
    have e2 : Ex H1 (upd H1 o1 (.lst ((oddsA row).map V.str))) := Ex.new ho1
    have ho1' : upd H1 o1 (.lst ((oddsA row).map V.str)) o1 = some (.lst ((oddsA row).map V.str)) := upd_same
    change gName 3 (.ref o1) _ (upd H1 o1 (.lst ((oddsA row).map V.str))) _
    generalize upd H1 o1 (.lst ((oddsA row).map V.str)) = H2 at e2 ho1' ⊢
    have hr2 := e2 _ _ hr1
    refine ⟨_, rfl, _, rfl, _, rfl, r, _, _, _, rfl, rfl, SqL.of hr2, aat, _, _, rfl, rfl, by rw [f4, sizeLine_eq]; omega, hz4, fun o2 ho2 => ?_⟩
    have e3 : Ex H2 (upd H2 o2 (.lst ((oddsB row).map V.str))) := Ex.new ho2
    refine ⟨o1, o2, _, (oddsB row).map V.str, rfl, rfl, e3 _ _ ho1', upd_same, by rw [List.length_map, List.length_map, sizeLine_eq]; show 5 + 4 ≤ 16777216; decide, fun o3 ho3 => ?_⟩
    rw [← List.map_append]
    have ha : oddsA row ++ oddsB row = odds row := rfl
    rw [ha]
    change gName 3 (.ref o3) _ (upd (upd H2 o2 (.lst ((oddsB row).map V.str))) o3 (.lst ((odds row).map V.str))) _
    have e4 := (e2.trans e3).trans (Ex.new (o := .lst ((odds row).map V.str)) ho3)
    have S4 := S1.ex e4
    have hr4 := e4 _ _ hr1
    have ho4 : upd (upd H2 o2 (.lst ((oddsB row).map V.str))) o3 (.lst ((odds row).map V.str)) o3 = some (.lst ((odds row).map V.str)) := upd_same
    have ho3st : o3 ≠ st := (S1.ex (e2.trans e3)).ne ho3
    generalize upd (upd H2 o2 (.lst ((oddsB row).map V.str))) o3 (.lst ((odds row).map V.str)) = H4 at e4 S4 hr4 ho4 ⊢
    refine ⟨_, rfl, _, rfl, st, 9, z, rfl, by decide, S4, fun i H5 i0 i1 e5 S5 => ?_⟩
    have hr5 := e5 _ _ hrM hr4
    have ho5 := e5 o3 _ (fun z => ho3st (List.mem_singleton.mp z)) ho4
    have e15 : Kp [st] H H5 := (e1.trans (Kp.of e4)).trans e5
    have hol : (odds row).length = 9 := rfl
    have hi9 : i.toNat < (odds row).length := by omega
    have oat : ((odds row).map V.str)[i.toNat]? = some (.str ((odds row).getD i.toNat "")) := by
      rw [List.getElem?_map, List.getD_eq_getElem?_getD, List.getElem?_eq_getElem hi9]
      rfl
    have oat := atI_nat oat
    rw [show ((i.toNat : Nat) : Int) = i by omega] at oat
    have hom : (odds row).getD i.toNat "" ∈ odds row := getD_mem hi9
    refine ⟨o3, _, _, _, rfl, rfl, SqL.of ho5, oat, ?_⟩
    generalize (odds row).getD i.toNat "" = odd at hom oat ⊢
    have hoz := hods odd hom
    have hread := hb odd (hoks odd hom)
    -- the bent rows
    refine ⟨_, rfl, _, rfl, _, rfl, r, _, rfl, SqL.of hr5, fun s1 hs1 => ?_⟩
    rw [cutV_to]
    have x1 : Ex H5 (upd H5 s1 (.lst ((rows.map V.str).take at_))) := Ex.new hs1
    have y1 : upd H5 s1 (.lst ((rows.map V.str).take at_)) s1 = some (.lst ((rows.map V.str).take at_)) := upd_same
    generalize upd H5 s1 (.lst ((rows.map V.str).take at_)) = H6 at x1 y1 ⊢
    refine ⟨_, rfl, hz1, fun s2 hs2 => ?_⟩
    have x2 : Ex H6 (upd H6 s2 (.lst [.str odd])) := Ex.new hs2
    refine ⟨s1, s2, _, _, rfl, rfl, x2 _ _ y1, upd_same, by rw [List.length_take, List.length_map, sizeLine_eq]; show min at_ rows.length + 1 ≤ _; omega, fun s3 hs3 => ?_⟩
    have x3 := (x1.trans x2).trans (Ex.new (o := .lst ((rows.map V.str).take at_ ++ [.str odd])) hs3)
    have y3 : upd (upd H6 s2 (.lst [.str odd])) s3 (.lst ((rows.map V.str).take at_ ++ [.str odd])) s3 = some (.lst ((rows.map V.str).take at_ ++ [.str odd])) := upd_same
    generalize upd (upd H6 s2 (.lst [.str odd])) s3 (.lst ((rows.map V.str).take at_ ++ [.str odd])) = H7 at x3 y3 ⊢
    refine ⟨_, rfl, _, rfl, _, _, rfl, rfl, _, rfl, r, _, rfl, SqL.of (x3 _ _ hr5), fun s4 hs4 => ?_⟩
    have hcf : cutV (rows.map V.str) (some ((at_ : Int) + 1)) none = (rows.map V.str).drop (at_ + 1) := by
      rw [← cutV_from, Int.natCast_add]
      rfl
    rw [hcf]
    have x4 := x3.trans (Ex.new (o := .lst ((rows.map V.str).drop (at_ + 1))) hs4)
    have y4 := (Ex.new (o := .lst ((rows.map V.str).drop (at_ + 1))) hs4) _ _ y3
    refine ⟨s3, s4, _, _, rfl, rfl, y4, upd_same, ?_, fun s5 hs5 => ?_⟩
    · rw [List.length_append, List.length_take, List.length_drop, List.length_map, sizeLine_eq]
      show min at_ rows.length + 1 + (rows.length - (at_ + 1)) ≤ _
      omega
    have hbe : (rows.map V.str).take at_ ++ [.str odd] ++ (rows.map V.str).drop (at_ + 1) = (bend rows at_ odd).map V.str := by
      unfold bend
      rw [List.map_append, List.map_append, List.map_take, List.map_drop]
      rfl
    rw [hbe]
    have x5 := x4.trans (Ex.new (o := .lst ((bend rows at_ odd).map V.str)) hs5)
    have y5 : upd (upd H7 s4 (.lst ((rows.map V.str).drop (at_ + 1)))) s5 (.lst ((bend rows at_ odd).map V.str)) s5 = some (.lst ((bend rows at_ odd).map V.str)) := upd_same
    generalize upd (upd H7 s4 (.lst ((rows.map V.str).drop (at_ + 1)))) s5 (.lst ((bend rows at_ odd).map V.str)) = H8 at x5 y5 ⊢
    have hbs := bend_sum (z := odd) hat
    have hbl := bend_len hat odd
    have htl := textOf_len (bend rows at_ odd)
    refine ⟨fun v H9 => Ex H8 H9 ∧ v = .str (textOf (bend rows at_ odd)), lines_ev (K := K) (j := 5) rfl (by show 9 < 10; decide) (SqL.of y5) (by omega) fun H9 e9 => ⟨e9, rfl⟩, ?_⟩
    rintro v H9 ⟨e9, rfl⟩
    refine ⟨_, rfl, .inl ⟨_, rfl, by omega, (fun ns' h => by rw [hread] at h; cases h), fun i' h H10 e10 => ?_⟩⟩
    rw [hread] at h
    have h := Except.error.inj h
    subst h
    have x10 := (x5.trans e9).trans e10
    have hr10 := x10 _ _ hr5
    have S10 := S5.ex x10
    have e110 : Kp [st] H H10 := e15.trans (Kp.of x10)
    clear x10 x5 x4 y4 y5 x3 y3 x2 x1 y1 e9 e10 hbe
    refine ⟨_, rfl, _, rfl, _, rfl, r, _, _, _, rfl, rfl, SqL.of hr10, aat, _, _, rfl, rfl, by rw [f2, sizeLine_eq]; omega, rfl, _, rfl, ?_⟩
    cases hce : decide (V.str odd = V.str (row ++ " ")) with
    | true =>
      refine iteT ⟨_, rfl, _, rfl, rfl, true, ?_, iteT ⟨_, rfl, rfl, ?_⟩⟩
      · congr 1
      · exact q H10 e110 S10
    | false =>
      refine iteF ⟨_, rfl, _, rfl, rfl, _, rfl, ?_⟩
      rw [decide_eq_true rfl]
      refine iteF ?_
      refine ⟨fun v H11 => Ex H10 H11 ∧ v = .str (textOf (rows)), lines_ev (K := K) (j := 1) rfl (by show 9 < 10; decide) (SqL.of hr10) (by omega) fun H11 e11 => ⟨e11, rfl⟩, ?_⟩
      rintro v H11 ⟨e11, rfl⟩
      have hr11 := e11 _ _ hr10
      have hrl := textOf_len rows
      obtain ⟨rs, rl, hrs⟩ : ∃ rs rl, rows = rs ++ [rl] := by
        rcases snoc_cases rows with e | ⟨a, b, e⟩
        · rw [e] at hpos
          exact absurd hpos (by decide)
        · exact ⟨a, b, e⟩
      have htx : textOf rows = textOf rs ++ rl ++ "\n" := by
        rw [hrs, text_snoc]
      have hre := hcut (textOf rs ++ rl) htx.symm
      refine ⟨_, rfl, _, rfl, _, rfl, _, rfl, by rw [sizeLine_eq]; omega, ?_⟩
      rw [cut_last htx]
      have hcl : (textOf rs ++ rl).length ≤ 16000000 := by
        have := congrArg Str.length htx
        rw [str_app_len (textOf rs ++ rl), colon_len.2.2] at this
        omega
      refine ⟨_, rfl, .inl ⟨_, rfl, hcl, (fun ns' h => by rw [hre] at h; cases h), fun i' h H12 e12 => ?_⟩⟩
      rw [hre] at h
      have h := Except.error.inj h
      subst h
      have hr12 := e12 _ _ hr11
      refine ⟨_, rfl, r, _, rfl, .inl (SqL.of hr12), _, _, rfl, rfl, rfl, _, rfl, ?_⟩
      rw [List.length_map, decide_eq_true (show V.int ((rows.length - 1 : Nat) : Int) = V.int ((rows.length : Int) - 1) by congr 1; omega)]
      refine iteF ?_
      refine ⟨_, rfl, _, rfl, _, rfl, r, _, _, _, rfl, rfl, SqL.of hr12, aat, _, _, rfl, rfl, by rw [sizeLine_eq]; omega, ?_⟩
      refine ⟨_, rfl, .inl ⟨_, rfl, by rw [str_app_len]; omega, (fun ns' h => by rw [hmo] at h; cases h), fun i' h H13 e13 => ?_⟩⟩
      rw [hmo] at h
      have h := Except.error.inj h
      subst h
      have hr13 := e13 _ _ hr12
      refine ⟨_, rfl, r, _, rfl, .inl (SqL.of hr13), rfl, _, rfl, ?_⟩
      rw [List.length_map, decide_eq_true rfl]
      refine iteF ?_
      have e1013 := (e11.trans e12).trans e13
      -- a row left out
      refine ⟨_, rfl, _, rfl, _, rfl, r, _, rfl, SqL.of hr13, fun s1 hs1 => ?_⟩
      rw [cutV_to]
      have x1 : Ex H13 (upd H13 s1 (.lst ((rows.map V.str).take at_))) := Ex.new hs1
      have y1 : upd H13 s1 (.lst ((rows.map V.str).take at_)) s1 = some (.lst ((rows.map V.str).take at_)) := upd_same
      generalize upd H13 s1 (.lst ((rows.map V.str).take at_)) = H14 at x1 y1 ⊢
      refine ⟨_, rfl, _, rfl, _, _, rfl, rfl, _, rfl, r, _, rfl, SqL.of (x1 _ _ hr13), fun s4 hs4 => ?_⟩
      rw [hcf]
      have x4 := x1.trans (Ex.new (o := .lst ((rows.map V.str).drop (at_ + 1))) hs4)
      have y4 := (Ex.new (o := .lst ((rows.map V.str).drop (at_ + 1))) hs4) _ _ y1
      refine ⟨s1, s4, _, _, rfl, rfl, y4, upd_same, ?_, fun s9 hs9 => ?_⟩
      · rw [List.length_take, List.length_drop, List.length_map, sizeLine_eq]
        omega
      have hde : (rows.map V.str).take at_ ++ (rows.map V.str).drop (at_ + 1) = (rows.take at_ ++ rows.drop (at_ + 1)).map V.str := by
        rw [List.map_append, List.map_take, List.map_drop]
      rw [hde]
      have x5 := x4.trans (Ex.new (o := .lst ((rows.take at_ ++ rows.drop (at_ + 1)).map V.str)) hs9)
      have y5 : upd (upd H14 s4 (.lst ((rows.map V.str).drop (at_ + 1)))) s9 (.lst ((rows.take at_ ++ rows.drop (at_ + 1)).map V.str)) s9 = some (.lst ((rows.take at_ ++ rows.drop (at_ + 1)).map V.str)) := upd_same
      generalize upd (upd H14 s4 (.lst ((rows.map V.str).drop (at_ + 1)))) s9 (.lst ((rows.take at_ ++ rows.drop (at_ + 1)).map V.str)) = H15 at x5 y5 ⊢
      have hds := drop_sum (rows := rows) (at_ := at_)
      have hdl : (rows.take at_ ++ rows.drop (at_ + 1)).length ≤ rows.length := by
        rw [List.length_append, List.length_take, List.length_drop]
        omega
      have htd := textOf_len (rows.take at_ ++ rows.drop (at_ + 1))
      refine ⟨fun v H16 => Ex H15 H16 ∧ v = .str (textOf (rows.take at_ ++ rows.drop (at_ + 1))), lines_ev (K := K) (j := 8) rfl (by show 9 < 10; decide) (SqL.of y5) (by omega) fun H16 e16 => ⟨e16, rfl⟩, ?_⟩
      rintro v H16 ⟨e16, rfl⟩
      have fin : ∀ H17, Ex H16 H17 → Q (.bl true) H17 := fun H17 e17 => by
        have xx := ((e1013.trans x5).trans e16).trans e17
        exact q H17 (e110.trans (Kp.of xx)) (S10.ex xx)
      exact ⟨_, rfl, .inl ⟨_, rfl, by omega, fun ns' h H17 e17 => ⟨_, rfl, rfl, fin H17 e17⟩, fun i' h H17 e17 => ⟨_, rfl, rfl, fin H17 e17⟩⟩⟩
end
end BT
/-! The law. -/
namespace BT
open PySem PySem.Spec PyProof.Rows L2 Evl TL
theorem small12 : ∀ m : Nat, m < 49 → Builtin.Range.small 0 (m : Int) 12 = true := by decide +kernel
theorem size12 : ∀ m : Nat, m < 49 → 0 ≤ Builtin.Range.rangeSize 0 (m : Int) 12 := by decide +kernel
def spLaw (K : PySem.W.Frag) : Sp := fun vs H Q _ => ∃ (a : Addr) (ns : List Int), vs = [.ref a] ∧ SqL K H a (ns.map V.int) ∧ ns.length ≤ 63 ∧ ∀ H', Q (.bl true) H'
section
variable {P : Program} {w : World} {K : PySem.W.Frag} {mg : Str → Option Value} {base : Heap} {C : Addr} {f : Addr} {fd : FuncData}
theorem ok_law {name qual : Str} (F : Fun K name qual sLaw f fd) (T : Txt K mg) (Cc : Txc K w mg) (B : Bex K mg C) : FnOk P w K mg base CX0 15 f fd ["_law_script"] (spLaw K) := by
  have G1 := ok_l_numbers (P := P) (w := w) (base := base) T
  have G2 := ok_l_hex (P := P) (w := w) (base := base) T
  have G3 := ok_of_hex (P := P) (w := w) (base := base) T
  have G4 := ok_l_rows (P := P) (base := base) T Cc
  have G5 := ok_hexed (P := P) (w := w) (base := base) T
  have G6 := ok_listing (P := P) (base := base) T Cc
  have G7 := ok_read_listing (P := P) (base := base) T Cc B.bt
  have G8 := ok_l_bent (P := P) (base := base) T Cc B
  have G9 := ok_l_told (P := P) (base := base) T Cc B
  refine F.ok scLaw (fun vs H Q E h => ?_) (fun cdv A outer s H vs Q E hr h => ?_)
  · obtain ⟨a, ns, rfl, _⟩ := h
    rfl
  · obtain ⟨a, ns, rfl, hA, h63, q⟩ := h
    have hr1 : Room 1 _ := hr.mono (by decide)
    have hr2 : Room 2 _ := hr.mono (by decide)
    have hr5 : Room 5 _ := hr.mono (by decide)
    have hr10 : Room 10 _ := hr.mono (by decide)
    have hr11 : Room 11 _ := hr.mono (by decide)
    have hr12 : Room 12 _ := hr.mono (by decide)
    have hr13 : Room 13 _ := hr.mono (by decide)
    refine ⟨_, pss_cons (ps_for PassesOwn.never rfl (pi_range3 (by rfl) T.range (pa_cons pe_int (pa_cons (pe_callB (call_max2 rfl) (by rfl) T.max (by decide +kernel) (pa_cons pe_int (pa_cons (pe_callB (call_min2 rfl) (by rfl) T.min (by decide +kernel) (pa_cons pe_int (pa_cons (pe_callB call_len_seq (by rfl) T.len PySem.boot_len (pa_cons (pv 0) pa_nil)) pa_nil))) pa_nil))) (pa_cons pe_int pa_nil)))) (pg_name (i := 1) scLaw.nd rfl (Or.inl rfl))
        (pss_cons (ps_set (i := 2) scLaw.nd rfl (.inl rfl) (pe_lst (pa_cons (pv 0) (pa_cons (pv 1) (pa_cons pe_int pa_nil)))))
        (pss_one (ps_for PassesOwn.never rfl (pi_range1 rfl T.range (pa_cons pe_int pa_nil)) (pg_name (i := 3) scLaw.nd rfl (Or.inl rfl))
          (pss_cons (ps_set (i := 4) scLaw.nd rfl (.inl rfl) (pe_own G1 hr5 pass0 (pa_cons (pv 2) (pa_cons pe_int pa_nil))))
          (pss_cons (ps_set (i := 5) scLaw.nd rfl (.inl rfl) (pe_own G3 hr1 pass0 (pa_cons (pe_own G2 hr1 pass0 (pa_cons (pv 4) pa_nil)) pa_nil)))
          (pss_cons (ps_set (i := 6) scLaw.nd rfl (.inl rfl) (pe_own G4 hr10 pass0 (pa_cons (pv 5) (pa_cons (pv 4) pa_nil))))
          (pss_cons (ps_set (i := 7) scLaw.nd rfl (.inl rfl) (PE_up (pe_join pe_str (pe_lc (own := [("_law_row_here", 9)]) (g := gName 9) (tt := tYes) rfl scLaw.nd (pi_list (pv 6)) (blkOk_by (N := nLaw) (sc := defScope sLaw) (by decide +kernel))
              (fun _ _ _ _ _ => pg_name (i := 9) scLaw.nd rfl (Or.inl rfl)) (fun _ _ _ _ _ => pts_nil) (fun _ _ _ _ _ => pe_op op_add_str (pv 9) pe_str)))))
          (pss_cons (ps_if (PW.pt (pw_or (pt_cmpR (op_neLI hr.units) (pe_listOfB rfl (by rfl) T.list (pv 5)) (pv 4) (nomark _)) (pw_or (pt_cmpR op_ne (pe_own G5 hr2 pass0 (pa_cons (pv 5) pa_nil)) (pe_own G2 hr1 pass0 (pa_cons (pv 4) pa_nil)) (nomark _))
              (pw_or1 (pt_cmpR op_ne (pe_own G6 hr11 pass0 (pa_cons (pv 5) pa_nil)) (pv 7) (nomark _)))))) (pss_one (ps_ret pe_bl)) pss_nil)
          (pss_cons (ps_if (pt_cmpR (op_neLI hr.units) (pe_listOfB rfl (by rfl) T.list (pe_own G7 hr12 passL (pa_cons (pv 7) pa_nil))) (pv 4) (nomark _)) (pss_one (ps_ret pe_bl)) pss_nil)
          (pss_cons (ps_if (pt_not (pt_val (pe_own G8 hr pass0 (pa_cons (pv 2) (pa_cons (pv 6) pa_nil))))) (pss_one (ps_ret pe_bl)) pss_nil)
          (pss_one (ps_if (pt_not (pt_val (pe_own G8 hr pass0 (pa_cons (pv 2) (pa_cons (pv 6) pa_nil))))) (pss_one (ps_ret pe_bl)) pss_nil)))))))))))))
      (pss_cons (ps_for PassesOwn.never rfl (pi_tup (pe_tup (pa_cons pe_non (pa_cons pe_int (pa_cons (pe_lst (pa_cons pe_str pa_nil)) (pa_cons pe_bl pa_nil)))))) (pg_name (i := 8) scLaw.nd rfl (Or.inl rfl))
        (pss_one (ps_if (pt_cmpR op_ne (pe_own G9 hr13 pass0 (pa_cons (pv 8) pa_nil)) pe_int (nomark _)) (pss_one (ps_ret pe_bl)) pss_nil)))
      (pss_one (ps_ret (pe_and (pe_cmpR op_eq (pe_own G9 hr13 pass0 (pa_cons pe_str pa_nil)) pe_int (nomark _)) (pe_and (pe_cmpR op_eq (pe_own G9 hr13 pass0 (pa_cons pe_str pa_nil)) (pe_un un_neg pe_int) (nomark _)) (pe_one (pe_cmpR op_eq (pe_own G9 hr13 pass0 (pa_cons pe_str pa_nil)) pe_int (nomark _)))))))), ?_⟩
    have hz1 : 1 ≤ sizeLine := by decide
    have hz3 : 3 ≤ sizeLine := by decide
    have hz4 : 4 ≤ sizeLine := by decide
    -- the last line
    have last : ∀ σ H', tRet (tAndV (tOp rEq (tCall (spLTold K) [] E0 (tCons (tC (.str "")) tNil)) (tC (.int 0))) (tAndV (tOp rEq (tCall (spLTold K) [] E0 (tCons (tC (.str "0 : 00 : halt\n")) tNil)) (tUn (rU fun i => .int (-i)) (tC (.int 1)))) (tOp rEq (tCall (spLTold K) [] E0 (tCons (tC (.str "0 : 00 : halt")) tNil)) (tC (.int 0)))))
        { nx := fun x H' => Q .non H', rt := Q } σ H' := fun σ H' => by
      refine ⟨_, rfl, .inl ⟨_, rfl, by decide, (fun ns' h => by rw [read_nil] at h; cases h), fun i h H1 _ => ?_⟩⟩
      rw [read_nil] at h
      have h := Except.error.inj h
      subst h
      refine ⟨rfl, true, rfl, iteT ?_⟩
      refine ⟨_, rfl, .inl ⟨_, rfl, by decide, fun ns' h H2 _ => ?_, (fun i h => by rw [read_one] at h; cases h)⟩⟩
      refine ⟨_, rfl, rfl, true, rfl, iteT ?_⟩
      refine ⟨_, rfl, .inl ⟨_, rfl, by decide, (fun ns' h => by rw [read_open] at h; cases h), fun i h H3 _ => ?_⟩⟩
      rw [read_open] at h
      have h := Except.error.inj h
      subst h
      exact ⟨rfl, q H3⟩
    have hj : (if (if ((ns.length : Nat) : Int) < 48 then ((ns.length : Nat) : Int) else 48) > 1 then (if ((ns.length : Nat) : Int) < 48 then ((ns.length : Nat) : Int) else 48) else 1) = ((max 1 (min 48 ns.length) : Nat) : Int) := by
      split <;> split <;> omega
    obtain ⟨n0, hn0⟩ : ∃ n0 : Nat, Builtin.Range.rangeSize 0 ((max 1 (min 48 ns.length) : Nat) : Int) 12 = (n0 : Int) := ⟨(Builtin.Range.rangeSize 0 ((max 1 (min 48 ns.length) : Nat) : Int) 12).toNat, by have := size12 (max 1 (min 48 ns.length)) (by omega); omega⟩
    refine ⟨_, rfl, a, _, rfl, .inl hA, _, _, rfl, _, _, rfl, 0, _, 12, n0, rfl, ?_, ?_⟩
    · rw [List.length_map, hj]
      exact ⟨by decide, by decide, small12 _ (by omega), hn0⟩
    refine for_it (walk_rangeC (lo := 0) (c := 12) (n := n0)) (fun i σ H' => SqL K H' a (ns.map V.int) ∧ ∃ o1 o2 o3 o4 o5 o6 o7 : Option V, σ = [some (.ref a), o1, o2, o3, o4, o5, o6, o7, none, none])
      ⟨hA, _, _, _, _, _, _, _, rfl⟩ (fun _ _ _ _ _ => True.intro) ?_ ?_
    · intro i x σ H1 H2 hi h y
      obtain ⟨hA1, o1, o2, o3, o4, o5, o6, o7, rfl⟩ := h
      obtain ⟨rfl, rfl⟩ := y
      refine ⟨_, rfl, _, rfl, hz3, fun st hst => ?_⟩
      have e2 : Ex H2 (upd H2 st (.lst [.ref a, .int (0 + (i : Nat) * 12), .int 0])) := Ex.new hst
      have S2 : Stt K (upd H2 st (.lst [.ref a, .int (0 + (i : Nat) * 12), .int 0])) st (a, ns) := ⟨_, _, ex_l e2 hA1, upd_same, by omega, by decide⟩
      refine ⟨3, rfl, by decide, by decide, ?_⟩
      refine for_it (walk_range (lo := 0) (n := 3)) (fun j σ H' => Stt K H' st (a, ns) ∧ ∃ o3 o4 o5 o6 o7 : Option V, σ = [some (.ref a), some (.int (0 + (i : Nat) * 12)), some (.ref st), o3, o4, o5, o6, o7, none, none])
        ⟨S2, _, _, _, _, _, rfl⟩ (fun _ _ _ _ _ => True.intro) ?_ ?_
      · intro j x σ H3 H4 hj3 h y
        obtain ⟨S3, o3, o4, o5, o6, o7, rfl⟩ := h
        obtain ⟨rfl, rfl⟩ := y
        refine ⟨_, rfl, st, _, rfl, S3, fun H5 l ks e5 S5 hl0 hl hI => ?_⟩
        have hns := hI.hi
        obtain ⟨hsum, hcnt⟩ := rows_sum hI
        refine ⟨_, rfl, l, ks, rfl, SqL.of hl, hI.b8, hns, fun H6 e6 => ?_⟩
        refine ⟨ks, rfl, hI, fun H7 e7 => ?_⟩
        have hl7 := e7 _ _ (e6 _ _ hl)
        refine ⟨_, rfl, _, rfl, ks, l, rfl, hI, SqL.of hl7, fun H8 rl e8 hrl0 hrl => ?_⟩
        refine ⟨fun v H9 => Ex H8 H9 ∧ v = .str (textOf (rowsL ks)), lines_ev (K := K) (j := 6) rfl (by show 9 < 10; decide) (SqL.of hrl) (by omega) fun H9 e9 => ⟨e9, rfl⟩, ?_⟩
        rintro v H9 ⟨e9, rfl⟩
        have hl9 := e9 _ _ (e8 _ _ hl7)
        have hrl9 := e9 _ _ hrl
        have S9 := S5.ex (((e6.trans e7).trans e8).trans e9)
        have htl := textOf_len (rowsL ks)
        refine ⟨_, rfl, _, rfl, by rw [byteArr_size, sizeLine_eq]; omega, fun q0 hq0 => ?_⟩
        rw [bi_make hI.b8]
        have e10 : Ex H9 (upd H9 q0 (.lst (ks.map V.int))) := Ex.new hq0
        refine ⟨_, rfl, q0, l, ks, ks, rfl, rfl, SqL.of upd_same, SqL.of (e10 _ _ hl9), _, rfl, ?_⟩
        rw [decide_eq_true rfl]
        have hl10 := e10 _ _ hl9
        have hrl10 := e10 _ _ hrl9
        have S10 := S9.ex e10
        generalize upd H9 q0 (.lst (ks.map V.int)) = H10 at hl10 hrl10 S10 ⊢
        refine iteF ⟨_, rfl, ks, rfl, hI, fun H11 e11 => ⟨_, rfl, l, ks, rfl, SqL.of (e11 _ _ hl10), hI.b8, hns, fun H12 e12 => ⟨rfl, _, rfl, ?_⟩⟩⟩
        rw [decide_eq_true rfl]
        refine iteF ⟨_, rfl, ks, rfl, hI, fun H13 e13 => ⟨_, rfl, rfl, _, rfl, ?_⟩⟩
        rw [decide_eq_true rfl]
        refine iteF ?_
        have e1013 := (e11.trans e12).trans e13
        have hrd := read_rows hI
        refine ⟨_, rfl, _, rfl, .inl ⟨_, rfl, by omega, fun ms h H14 e14 => ?_, (fun i h => by rw [hrd] at h; cases h)⟩⟩
        rw [hrd] at h
        have h := Except.ok.inj h
        subst h
        refine ⟨_, rfl, by rw [byteArr_size, sizeLine_eq]; omega, fun q1 hq1 => ?_⟩
        rw [bi_make hI.b8]
        have e15 : Ex H14 (upd H14 q1 (.lst (ks.map V.int))) := Ex.new hq1
        have e1015 := (e1013.trans e14).trans e15
        refine ⟨_, rfl, q1, l, ks, ks, rfl, rfl, SqL.of upd_same, SqL.of (e1015 _ _ hl10), _, rfl, ?_⟩
        rw [decide_eq_true rfl]
        have hrl15 := e1015 _ _ hrl10
        have S15 := S10.ex e1015
        generalize upd H14 q1 (.lst (ks.map V.int)) = H15 at hrl15 S15 ⊢
        have hne : rl ≠ st := (S5.ex (e6.trans e7)).ne hrl0
        have hnm : rl ∉ [st] := fun z => hne (List.mem_singleton.mp z)
        refine iteF ⟨_, rfl, _, rfl, st, rl, ks, _, rfl, hI, S15, hrl15, fun H16 e16 S16 => ⟨true, rfl, iteF ?_⟩⟩
        have hrl16 := e16 _ _ hnm hrl15
        refine ⟨_, rfl, _, rfl, st, rl, ks, _, rfl, hI, S16, hrl16, fun H17 e17 S17 => ⟨true, rfl, iteF ?_⟩⟩
        exact ⟨S17, _, _, _, _, _, rfl⟩
      · intro σ H3 h
        obtain ⟨S3, o3, o4, o5, o6, o7, rfl⟩ := h
        obtain ⟨b, n, h1, h2, _⟩ := S3
        exact ⟨h1, _, _, _, _, _, _, _, rfl⟩
    · intro σ H1 h
      obtain ⟨hA1, o1, o2, o3, o4, o5, o6, o7, rfl⟩ := h
      refine ⟨hz1, fun bl hbl => ⟨hz4, fun t ht => ?_⟩⟩
      have htt : upd (upd H1 bl (.lst [.str "1 : 00"])) t (.tup [.non, .int 5, .ref bl, .bl true]) t = some (.tup [.non, .int 5, .ref bl, .bl true]) := upd_same
      have hbb : upd (upd H1 bl (.lst [.str "1 : 00"])) t (.tup [.non, .int 5, .ref bl, .bl true]) bl = some (.lst [.str "1 : 00"]) := Ex.new ht _ _ upd_same
      generalize upd (upd H1 bl (.lst [.str "1 : 00"])) t (.tup [.non, .int 5, .ref bl, .bl true]) = H2 at htt hbb ⊢
      refine ⟨t, rfl, ⟨_, st_of htt⟩, ?_⟩
      refine for_it (walk_tup (xs := [.non, .int 5, .ref bl, .bl true])) (fun i σ H' => Ex H2 H' ∧ ∃ o1 o2 o3 o4 o5 o6 o7 o8 : Option V, σ = [some (.ref a), o1, o2, o3, o4, o5, o6, o7, o8, none])
        ⟨Ex.refl _, _, _, _, _, _, _, _, _, rfl⟩ (fun i σ H' _ h => st_of (h.1 _ _ htt)) ?_ ?_
      · intro i x σ H3 H4 hi h y
        obtain ⟨e3, p1, p2, p3, p4, p5, p6, p7, p8, rfl⟩ := h
        obtain ⟨rfl, hx⟩ := y
        have hty : ∃ ty, TyX K H4 x (.type ty) ∧ PySem.W.kitOne K (.type ty) (.type "str") = some false := by
          have hi : i < 4 := hi
          have : i = 0 ∨ i = 1 ∨ i = 2 ∨ i = 3 := by omega
          rcases this with k | k | k | k <;> subst k <;> have hx := Option.some.inj hx <;> subst hx
          · exact ⟨_, .base .non, kit_ty (by decide +kernel)⟩
          · exact ⟨_, .base (.int 5), kit_ty (by decide +kernel)⟩
          · exact ⟨_, .base (.lst (e3 _ _ hbb)), kit_ty (by decide +kernel)⟩
          · exact ⟨_, .base (.bl true), kit_ty (by decide +kernel)⟩
        obtain ⟨ty, h1, h2⟩ := hty
        refine ⟨_, rfl, x, rfl, .inr ⟨ty, h1, h2, fun H5 e5 => ⟨rfl, _, rfl, ?_⟩⟩⟩
        rw [decide_eq_true rfl]
        exact iteF ⟨e3.trans e5, _, _, _, _, _, _, _, _, rfl⟩
      · intro σ H3 h
        exact last σ H3
end
end BT
/-! What the top has left, collected. -/
namespace BT
open PySem PySem.Spec PyProof.Rows L2
theorem hb_isWhole : ∀ (kV doc pm : Value) (an : Option Addr) (cdv ct : Value) (us : List Value), us.length = (["thing", "low", "high"] : List Str).length → bindArgs (PySem.W.fnOf "is_whole" "is_whole" (defArgs sIsWhole) (defBody sIsWhole) (defScope sIsWhole) .none kV doc pm an cdv ct) ⟨us, []⟩ = pure ((["thing", "low", "high"] : List Str).zip us) := fun _ _ _ _ _ _ us hl => match us, hl with | [_, _, _], _ => rfl
theorem hb_isByte : ∀ (kV doc pm : Value) (an : Option Addr) (cdv ct : Value) (us : List Value), us.length = (["thing"] : List Str).length → bindArgs (PySem.W.fnOf "is_byte" "is_byte" (defArgs sIsByte) (defBody sIsByte) (defScope sIsByte) .none kV doc pm an cdv ct) ⟨us, []⟩ = pure ((["thing"] : List Str).zip us) := fun _ _ _ _ _ _ us hl => match us, hl with | [_], _ => rfl
theorem hb_isPlace : ∀ (kV doc pm : Value) (an : Option Addr) (cdv ct : Value) (us : List Value), us.length = (["thing"] : List Str).length → bindArgs (PySem.W.fnOf "is_place" "is_place" (defArgs sIsPlace) (defBody sIsPlace) (defScope sIsPlace) .none kV doc pm an cdv ct) ⟨us, []⟩ = pure ((["thing"] : List Str).zip us) := fun _ _ _ _ _ _ us hl => match us, hl with | [_], _ => rfl
theorem hb_checkImage : ∀ (kV doc pm : Value) (an : Option Addr) (cdv ct : Value) (us : List Value), us.length = (["image"] : List Str).length → bindArgs (PySem.W.fnOf "check_image" "check_image" (defArgs sCheckImage) (defBody sCheckImage) (defScope sCheckImage) .none kV doc pm an cdv ct) ⟨us, []⟩ = pure ((["image"] : List Str).zip us) := fun _ _ _ _ _ _ us hl => match us, hl with | [_], _ => rfl
theorem hb_checkPlace : ∀ (kV doc pm : Value) (an : Option Addr) (cdv ct : Value) (us : List Value), us.length = (["place"] : List Str).length → bindArgs (PySem.W.fnOf "check_place" "check_place" (defArgs sCheckPlace) (defBody sCheckPlace) (defScope sCheckPlace) .none kV doc pm an cdv ct) ⟨us, []⟩ = pure ((["place"] : List Str).zip us) := fun _ _ _ _ _ _ us hl => match us, hl with | [_], _ => rfl
theorem hb_signsOf : ∀ (kV doc pm : Value) (an : Option Addr) (cdv ct : Value) (us : List Value), us.length = (["word"] : List Str).length → bindArgs (PySem.W.fnOf "signs_of" "signs_of" (defArgs sSignsOf) (defBody sSignsOf) (defScope sSignsOf) .none kV doc pm an cdv ct) ⟨us, []⟩ = pure ((["word"] : List Str).zip us) := fun _ _ _ _ _ _ us hl => match us, hl with | [_], _ => rfl
theorem hb_needOf : ∀ (kV doc pm : Value) (an : Option Addr) (cdv ct : Value) (us : List Value), us.length = (["word", "image", "place"] : List Str).length → bindArgs (PySem.W.fnOf "need_of" "need_of" (defArgs sNeedOf) (defBody sNeedOf) (defScope sNeedOf) .none kV doc pm an cdv ct) ⟨us, []⟩ = pure ((["word", "image", "place"] : List Str).zip us) := fun _ _ _ _ _ _ us hl => match us, hl with | [_, _, _], _ => rfl
theorem hb_placesIn : ∀ (kV doc pm : Value) (an : Option Addr) (cdv ct : Value) (us : List Value), us.length = (["image", "begin", "many"] : List Str).length → bindArgs (PySem.W.fnOf "places_in" "places_in" (defArgs sPlacesIn) (defBody sPlacesIn) (defScope sPlacesIn) .none kV doc pm an cdv ct) ⟨us, []⟩ = pure ((["image", "begin", "many"] : List Str).zip us) := fun _ _ _ _ _ _ us hl => match us, hl with | [_, _, _], _ => rfl
theorem hb_rowIn : ∀ (kV doc pm : Value) (an : Option Addr) (cdv ct : Value) (us : List Value), us.length = (["image", "place"] : List Str).length → bindArgs (PySem.W.fnOf "row_in" "row_in" (defArgs sRowIn) (defBody sRowIn) (defScope sRowIn) .none kV doc pm an cdv ct) ⟨us, []⟩ = pure ((["image", "place"] : List Str).zip us) := fun _ _ _ _ _ _ us hl => match us, hl with | [_, _], _ => rfl
theorem hb_isThing : ∀ (kV doc pm : Value) (an : Option Addr) (cdv ct : Value) (us : List Value), us.length = (["sign", "thing"] : List Str).length → bindArgs (PySem.W.fnOf "is_thing" "is_thing" (defArgs sIsThing) (defBody sIsThing) (defScope sIsThing) .none kV doc pm an cdv ct) ⟨us, []⟩ = pure ((["sign", "thing"] : List Str).zip us) := fun _ _ _ _ _ _ us hl => match us, hl with | [_, _], _ => rfl
theorem hb_areThings : ∀ (kV doc pm : Value) (an : Option Addr) (cdv ct : Value) (us : List Value), us.length = (["word", "things"] : List Str).length → bindArgs (PySem.W.fnOf "are_things" "are_things" (defArgs sAreThings) (defBody sAreThings) (defScope sAreThings) .none kV doc pm an cdv ct) ⟨us, []⟩ = pure ((["word", "things"] : List Str).zip us) := fun _ _ _ _ _ _ us hl => match us, hl with | [_, _], _ => rfl
theorem hb_rowAt : ∀ (kV doc pm : Value) (an : Option Addr) (cdv ct : Value) (us : List Value), us.length = (["image", "place"] : List Str).length → bindArgs (PySem.W.fnOf "row_at" "row_at" (defArgs sRowAt) (defBody sRowAt) (defScope sRowAt) .none kV doc pm an cdv ct) ⟨us, []⟩ = pure ((["image", "place"] : List Str).zip us) := fun _ _ _ _ _ _ us hl => match us, hl with | [_, _], _ => rfl
theorem hb_targetsOf : ∀ (kV doc pm : Value) (an : Option Addr) (cdv ct : Value) (us : List Value), us.length = (["row"] : List Str).length → bindArgs (PySem.W.fnOf "targets_of" "targets_of" (defArgs sTargetsOf) (defBody sTargetsOf) (defScope sTargetsOf) .none kV doc pm an cdv ct) ⟨us, []⟩ = pure ((["row"] : List Str).zip us) := fun _ _ _ _ _ _ us hl => match us, hl with | [_], _ => rfl
theorem hb_goesOn : ∀ (kV doc pm : Value) (an : Option Addr) (cdv ct : Value) (us : List Value), us.length = (["row"] : List Str).length → bindArgs (PySem.W.fnOf "goes_on" "goes_on" (defArgs sGoesOn) (defBody sGoesOn) (defScope sGoesOn) .none kV doc pm an cdv ct) ⟨us, []⟩ = pure ((["row"] : List Str).zip us) := fun _ _ _ _ _ _ us hl => match us, hl with | [_], _ => rfl
theorem hb_waysAt : ∀ (kV doc pm : Value) (an : Option Addr) (cdv ct : Value) (us : List Value), us.length = (["image", "place", "is_body"] : List Str).length → bindArgs (PySem.W.fnOf "ways_at" "ways_at" (defArgs sWaysAt) (defBody sWaysAt) (defScope sWaysAt) .none kV doc pm an cdv ct) ⟨us, []⟩ = pure ((["image", "place", "is_body"] : List Str).zip us) := fun _ _ _ _ _ _ us hl => match us, hl with | [_, _, _], _ => rfl
theorem hb_comeTo : ∀ (kV doc pm : Value) (an : Option Addr) (cdv ct : Value) (us : List Value), us.length = (["image", "begin", "is_body"] : List Str).length → bindArgs (PySem.W.fnOf "come_to" "come_to" (defArgs sComeTo) (defBody sComeTo) (defScope sComeTo) .none kV doc pm an cdv ct) ⟨us, []⟩ = pure ((["image", "begin", "is_body"] : List Str).zip us) := fun _ _ _ _ _ _ us hl => match us, hl with | [_, _, _], _ => rfl
theorem hb_reached : ∀ (kV doc pm : Value) (an : Option Addr) (cdv ct : Value) (us : List Value), us.length = (["image"] : List Str).length → bindArgs (PySem.W.fnOf "reached" "reached" (defArgs sReached) (defBody sReached) (defScope sReached) .none kV doc pm an cdv ct) ⟨us, []⟩ = pure ((["image"] : List Str).zip us) := fun _ _ _ _ _ _ us hl => match us, hl with | [_], _ => rfl
theorem hb_never : ∀ (kV doc pm : Value) (an : Option Addr) (cdv ct : Value) (us : List Value), us.length = (["image"] : List Str).length → bindArgs (PySem.W.fnOf "never" "never" (defArgs sNever) (defBody sNever) (defScope sNever) .none kV doc pm an cdv ct) ⟨us, []⟩ = pure ((["image"] : List Str).zip us) := fun _ _ _ _ _ _ us hl => match us, hl with | [_], _ => rfl
theorem hb_hexed : ∀ (kV doc pm : Value) (an : Option Addr) (cdv ct : Value) (us : List Value), us.length = (["image"] : List Str).length → bindArgs (PySem.W.fnOf "hexed" "hexed" (defArgs sHexed) (defBody sHexed) (defScope sHexed) .none kV doc pm an cdv ct) ⟨us, []⟩ = pure ((["image"] : List Str).zip us) := fun _ _ _ _ _ _ us hl => match us, hl with | [_], _ => rfl
theorem hb_ofHex : ∀ (kV doc pm : Value) (an : Option Addr) (cdv ct : Value) (us : List Value), us.length = (["text"] : List Str).length → bindArgs (PySem.W.fnOf "of_hex" "of_hex" (defArgs sOfHex) (defBody sOfHex) (defScope sOfHex) .none kV doc pm an cdv ct) ⟨us, []⟩ = pure ((["text"] : List Str).zip us) := fun _ _ _ _ _ _ us hl => match us, hl with | [_], _ => rfl
theorem hb_pairsText : ∀ (kV doc pm : Value) (an : Option Addr) (cdv ct : Value) (us : List Value), us.length = (["some"] : List Str).length → bindArgs (PySem.W.fnOf "pairs_text" "pairs_text" (defArgs sPairsText) (defBody sPairsText) (defScope sPairsText) .none kV doc pm an cdv ct) ⟨us, []⟩ = pure ((["some"] : List Str).zip us) := fun _ _ _ _ _ _ us hl => match us, hl with | [_], _ => rfl
theorem hb_wordsText : ∀ (kV doc pm : Value) (an : Option Addr) (cdv ct : Value) (us : List Value), us.length = (["row"] : List Str).length → bindArgs (PySem.W.fnOf "words_text" "words_text" (defArgs sWordsText) (defBody sWordsText) (defScope sWordsText) .none kV doc pm an cdv ct) ⟨us, []⟩ = pure ((["row"] : List Str).zip us) := fun _ _ _ _ _ _ us hl => match us, hl with | [_], _ => rfl
theorem hb_listingRows : ∀ (kV doc pm : Value) (an : Option Addr) (cdv ct : Value) (us : List Value), us.length = (["image"] : List Str).length → bindArgs (PySem.W.fnOf "listing_rows" "listing_rows" (defArgs sListingRows) (defBody sListingRows) (defScope sListingRows) .none kV doc pm an cdv ct) ⟨us, []⟩ = pure ((["image"] : List Str).zip us) := fun _ _ _ _ _ _ us hl => match us, hl with | [_], _ => rfl
theorem hb_listing : ∀ (kV doc pm : Value) (an : Option Addr) (cdv ct : Value) (us : List Value), us.length = (["image"] : List Str).length → bindArgs (PySem.W.fnOf "listing" "listing" (defArgs sListing) (defBody sListing) (defScope sListing) .none kV doc pm an cdv ct) ⟨us, []⟩ = pure ((["image"] : List Str).zip us) := fun _ _ _ _ _ _ us hl => match us, hl with | [_], _ => rfl
theorem hb_bytesOf : ∀ (kV doc pm : Value) (an : Option Addr) (cdv ct : Value) (us : List Value), us.length = (["row"] : List Str).length → bindArgs (PySem.W.fnOf "bytes_of" "bytes_of" (defArgs sBytesOf) (defBody sBytesOf) (defScope sBytesOf) .none kV doc pm an cdv ct) ⟨us, []⟩ = pure ((["row"] : List Str).zip us) := fun _ _ _ _ _ _ us hl => match us, hl with | [_], _ => rfl
theorem hb_readListing : ∀ (kV doc pm : Value) (an : Option Addr) (cdv ct : Value) (us : List Value), us.length = (["text"] : List Str).length → bindArgs (PySem.W.fnOf "read_listing" "read_listing" (defArgs sReadListing) (defBody sReadListing) (defScope sReadListing) .none kV doc pm an cdv ct) ⟨us, []⟩ = pure ((["text"] : List Str).zip us) := fun _ _ _ _ _ _ us hl => match us, hl with | [_], _ => rfl
theorem hb_lCellAt : ∀ (kV doc pm : Value) (an : Option Addr) (cdv ct : Value) (us : List Value), us.length = (["_law_script", "_law_k"] : List Str).length → bindArgs (PySem.W.fnOf "_law_cell_at" "_law_cell_at" (defArgs sLCellAt) (defBody sLCellAt) (defScope sLCellAt) .none kV doc pm an cdv ct) ⟨us, []⟩ = pure ((["_law_script", "_law_k"] : List Str).zip us) := fun _ _ _ _ _ _ us hl => match us, hl with | [_, _], _ => rfl
theorem hb_lDraw : ∀ (kV doc pm : Value) (an : Option Addr) (cdv ct : Value) (us : List Value), us.length = (["_law_cell", "_law_k", "_law_below"] : List Str).length → bindArgs (PySem.W.fnOf "_law_draw" "_law_draw" (defArgs sLDraw) (defBody sLDraw) (defScope sLDraw) .none kV doc pm an cdv ct) ⟨us, []⟩ = pure ((["_law_cell", "_law_k", "_law_below"] : List Str).zip us) := fun _ _ _ _ _ _ us hl => match us, hl with | [_, _, _], _ => rfl
theorem hb_lNumber : ∀ (kV doc pm : Value) (an : Option Addr) (cdv ct : Value) (us : List Value), us.length = (["_law_cell", "_law_k", "_law_below"] : List Str).length → bindArgs (PySem.W.fnOf "_law_number" "_law_number" (defArgs sLNumber) (defBody sLNumber) (defScope sLNumber) .none kV doc pm an cdv ct) ⟨us, []⟩ = pure ((["_law_cell", "_law_k", "_law_below"] : List Str).zip us) := fun _ _ _ _ _ _ us hl => match us, hl with | [_, _, _], _ => rfl
theorem hb_lNext : ∀ (kV doc pm : Value) (an : Option Addr) (cdv ct : Value) (us : List Value), us.length = (["_law_state", "_law_below"] : List Str).length → bindArgs (PySem.W.fnOf "_law_next" "_law_next" (defArgs sLNext) (defBody sLNext) (defScope sLNext) .none kV doc pm an cdv ct) ⟨us, []⟩ = pure ((["_law_state", "_law_below"] : List Str).zip us) := fun _ _ _ _ _ _ us hl => match us, hl with | [_, _], _ => rfl
theorem hb_lRow : ∀ (kV doc pm : Value) (an : Option Addr) (cdv ct : Value) (us : List Value), us.length = (["_law_state", "_law_many"] : List Str).length → bindArgs (PySem.W.fnOf "_law_row" "_law_row" (defArgs sLRow) (defBody sLRow) (defScope sLRow) .none kV doc pm an cdv ct) ⟨us, []⟩ = pure ((["_law_state", "_law_many"] : List Str).zip us) := fun _ _ _ _ _ _ us hl => match us, hl with | [_, _], _ => rfl
theorem hb_lTarget : ∀ (kV doc pm : Value) (an : Option Addr) (cdv ct : Value) (us : List Value), us.length = (["_law_state", "_law_many"] : List Str).length → bindArgs (PySem.W.fnOf "_law_target" "_law_target" (defArgs sLTarget) (defBody sLTarget) (defScope sLTarget) .none kV doc pm an cdv ct) ⟨us, []⟩ = pure ((["_law_state", "_law_many"] : List Str).zip us) := fun _ _ _ _ _ _ us hl => match us, hl with | [_, _], _ => rfl
theorem hb_lNumbers : ∀ (kV doc pm : Value) (an : Option Addr) (cdv ct : Value) (us : List Value), us.length = (["_law_state", "_law_more"] : List Str).length → bindArgs (PySem.W.fnOf "_law_numbers" "_law_numbers" (defArgs sLNumbers) (defBody sLNumbers) (defScope sLNumbers) .none kV doc pm an cdv ct) ⟨us, []⟩ = pure ((["_law_state", "_law_more"] : List Str).zip us) := fun _ _ _ _ _ _ us hl => match us, hl with | [_, _], _ => rfl
theorem hb_lIsSmall : ∀ (kV doc pm : Value) (an : Option Addr) (cdv ct : Value) (us : List Value), us.length = (["_law_numbers_here"] : List Str).length → bindArgs (PySem.W.fnOf "_law_is_small" "_law_is_small" (defArgs sLIsSmall) (defBody sLIsSmall) (defScope sLIsSmall) .none kV doc pm an cdv ct) ⟨us, []⟩ = pure ((["_law_numbers_here"] : List Str).zip us) := fun _ _ _ _ _ _ us hl => match us, hl with | [_], _ => rfl
theorem hb_lHex : ∀ (kV doc pm : Value) (an : Option Addr) (cdv ct : Value) (us : List Value), us.length = (["_law_numbers_here"] : List Str).length → bindArgs (PySem.W.fnOf "_law_hex" "_law_hex" (defArgs sLHex) (defBody sLHex) (defScope sLHex) .none kV doc pm an cdv ct) ⟨us, []⟩ = pure ((["_law_numbers_here"] : List Str).zip us) := fun _ _ _ _ _ _ us hl => match us, hl with | [_], _ => rfl
theorem hb_lRows : ∀ (kV doc pm : Value) (an : Option Addr) (cdv ct : Value) (us : List Value), us.length = (["_law_image", "_law_numbers_here"] : List Str).length → bindArgs (PySem.W.fnOf "_law_rows" "_law_rows" (defArgs sLRows) (defBody sLRows) (defScope sLRows) .none kV doc pm an cdv ct) ⟨us, []⟩ = pure ((["_law_image", "_law_numbers_here"] : List Str).zip us) := fun _ _ _ _ _ _ us hl => match us, hl with | [_, _], _ => rfl
theorem hb_lTold : ∀ (kV doc pm : Value) (an : Option Addr) (cdv ct : Value) (us : List Value), us.length = (["_law_text"] : List Str).length → bindArgs (PySem.W.fnOf "_law_told" "_law_told" (defArgs sLTold) (defBody sLTold) (defScope sLTold) .none kV doc pm an cdv ct) ⟨us, []⟩ = pure ((["_law_text"] : List Str).zip us) := fun _ _ _ _ _ _ us hl => match us, hl with | [_], _ => rfl
theorem hb_lBentRight : ∀ (kV doc pm : Value) (an : Option Addr) (cdv ct : Value) (us : List Value), us.length = (["_law_state", "_law_rows_here"] : List Str).length → bindArgs (PySem.W.fnOf "_law_bent_right" "_law_bent_right" (defArgs sLBentRight) (defBody sLBentRight) (defScope sLBentRight) .none kV doc pm an cdv ct) ⟨us, []⟩ = pure ((["_law_state", "_law_rows_here"] : List Str).zip us) := fun _ _ _ _ _ _ us hl => match us, hl with | [_, _], _ => rfl
theorem hb_init : ∀ (kV doc pm : Value) (an : Option Addr) (cdv ct : Value) (us : List Value), us.length = (["self", "row"] : List Str).length → bindArgs (PySem.W.fnOf "__init__" "BadText.__init__" (defArgs sInit) (defBody sInit) (defScope sInit) .none kV doc pm an cdv ct) ⟨us, []⟩ = pure ((["self", "row"] : List Str).zip us) := fun _ _ _ _ _ _ us hl => match us, hl with | [_, _], _ => rfl
section
variable {P : Program} {w : World} {K : PySem.W.Frag} {mg : Str → Option Value} {h : Heap}
theorem dn_mk {x : Str} {st : Stmt} {ps : List Str} {f : Addr} {oc : Value} {od an : Option Addr} {osl : Array (Option Value)} {kV doc pm cdv ct : Value} (X : K.In h) (G : h.Ns mainGlobals mg) (a : PySem.W.nsIn K mainGlobals x = some (some (.ref f)))
    (l : K.lookup f = some ⟨oc, od, .func (PySem.W.fnOf x x (defArgs st) (defBody st) (defScope st) .none kV doc pm an cdv ct), osl⟩) (c : PySem.W.codeIn K cdv x = true) (k : PySem.W.keepIn K (.ref f) = true)
    (hb : ∀ (kV doc pm : Value) (an : Option Addr) (cdv ct : Value) (us : List Value), us.length = ps.length → bindArgs (PySem.W.fnOf x x (defArgs st) (defBody st) (defScope st) .none kV doc pm an cdv ct) ⟨us, []⟩ = pure (ps.zip us)) : Dn K mg x st ps :=
  ⟨f, _, fun_mk l c k, PySem.W.mg_of X G a, (fun_mk l c k).binds hb⟩
theorem int_mk {x : Str} {i : Int} {t : Tok} (X : K.In h) (G : h.Ns mainGlobals mg) (a : PySem.W.nsIn K mainGlobals x = some (some (.int i t))) : ∃ t, mg x = some (.int i t) := ⟨t, PySem.W.mg_of X G a⟩
theorem str_mk {x : Str} {i : Str} {t : Tok} (X : K.In h) (G : h.Ns mainGlobals mg) (a : PySem.W.nsIn K mainGlobals x = some (some (.str i t))) : ∃ t, mg x = some (.str i t) := ⟨t, PySem.W.mg_of X G a⟩
theorem kt_mk {x : Str} {a : Addr} {xs : List V} {dd : Option Addr} {its : List Value} {n : Nat} {sl : Array (Option Value)} (X : K.In h) (G : h.Ns mainGlobals mg) (g : PySem.W.nsIn K mainGlobals x = some (some (.ref a))) (l : K.lookup a = some ⟨.type "tuple", dd, .seq its.toArray n, sl⟩)
    (v : Vals xs its) (z : its.length ≤ sizeLine) : ∃ a, mg x = some (.ref a) ∧ KT K a xs := ⟨a, PySem.W.mg_of X G g, _, its.toArray, n, l, rfl, rfl, by simpa using z, by simpa using v⟩
/-- what the dict has for a word -/
def HvAt (K : PySem.W.Frag) (a : Addr) (k : Nat) : Prop := ∃ o, KHas K a (wd k) o ∧ o.getD (.str "") = .str (sg k)
theorem hv_some {a : Addr} {k : Nat} {x s : Str} {t : Tok} (e : wd k = x) (e2 : sg k = s) (h : PySem.W.nsIn K a x = some (some (.str s t))) : HvAt K a k := ⟨some (.str s), ⟨some (.str s t), by rw [e]; exact h, (show RelV (.str s) (.str s t) from ⟨t, rfl⟩)⟩, by rw [e2] <;> rfl⟩
theorem hv_none {a : Addr} {k : Nat} {x : Str} (e : wd k = x) (e2 : sg k = "") (h : PySem.W.nsIn K a x = some none) : HvAt K a k := ⟨none, ⟨none, by rw [e]; exact h, (show RelO none none from True.intro)⟩, by rw [e2] <;> rfl⟩
theorem have_mk {a : Addr} {es : Array DictEntry} {n : Nat} (X : K.In h) (G : h.Ns mainGlobals mg) (g : PySem.W.nsIn K mainGlobals "HAVE" = some (some (.ref a))) (l : K.lookup a = some ⟨.type "dict", none, .dict es n, #[]⟩) (kl : PySem.W.KeysLit w.params es.toList) (low : (a == sysModules) = false)
    (h0 : HvAt K a 0) (h1 : HvAt K a 1) (h2 : HvAt K a 2) (h3 : HvAt K a 3) (h4 : HvAt K a 4) (h5 : HvAt K a 5) (h6 : HvAt K a 6) (h7 : HvAt K a 7) (h8 : HvAt K a 8) (h9 : HvAt K a 9) (h10 : HvAt K a 10) (h11 : HvAt K a 11) (h12 : HvAt K a 12) (h13 : HvAt K a 13) (h14 : HvAt K a 14) (h15 : HvAt K a 15) (h16 : HvAt K a 16) (h17 : HvAt K a 17) (h18 : HvAt K a 18) (h19 : HvAt K a 19) (h20 : HvAt K a 20)
    : ∃ a, mg "HAVE" = some (.ref a) ∧ KDc K w a ∧ ∀ k, k < 21 → ∃ o, KHas K a (wd k) o ∧ o.getD (.str "") = .str (sg k) := by
  refine ⟨a, PySem.W.mg_of X G g, ⟨es, n, l, kl, low⟩, fun k hk => ?_⟩
  have : k = 0 ∨ k = 1 ∨ k = 2 ∨ k = 3 ∨ k = 4 ∨ k = 5 ∨ k = 6 ∨ k = 7 ∨ k = 8 ∨ k = 9 ∨ k = 10 ∨ k = 11 ∨ k = 12 ∨ k = 13 ∨ k = 14 ∨ k = 15 ∨ k = 16 ∨ k = 17 ∨ k = 18 ∨ k = 19 ∨ k = 20 := by omega
  rcases this with e | e | e | e | e | e | e | e | e | e | e | e | e | e | e | e | e | e | e | e | e <;> subst e
  · exact h0
  · exact h1
  · exact h2
  · exact h3
  · exact h4
  · exact h5
  · exact h6
  · exact h7
  · exact h8
  · exact h9
  · exact h10
  · exact h11
  · exact h12
  · exact h13
  · exact h14
  · exact h15
  · exact h16
  · exact h17
  · exact h18
  · exact h19
  · exact h20
theorem btx_mk {D C fI : Addr} {nm q : Str} {N : Addr} {bs bm : List Value} {sn : List Str} {sub : List Value} {ab : Bool} {col : Option Bool} {dd : Option Addr} {m0 m1 m2 m3 m5 : Option Value}
    {oc : Value} {od an : Option Addr} {osl : Array (Option Value)} {kV doc pm cdv ct : Value} (X : K.In h) (G : h.Ns mainGlobals mg)
    (gD : PySem.W.nsIn K mainGlobals "TaleError" = some (some (.ref D))) (sD : PySem.W.specialIn K (.ref D) "__getattribute__" = some (some (.builtin "type.__getattribute__"))) (rD : PySem.W.readsIn K D (.type "type") = true)
    (fD : PySem.W.findCls K (.ref D) (.type "type") "__init__" = some (.val (.builtin "ValueError.__init__"))) (gC : PySem.W.nsIn K mainGlobals "BadText" = some (some (.ref C)))
    (xL : K.lookup C = some (excClassObj nm q C N bs bm true sn sub ab col dd m0 m1 m2 m3 m5 "ValueError.__new__")) (vE : PySem.HandSPX.refsVE bm = true) (sa : PySem.W.findIn K (.ref C) "__setattr__" = some (some (.builtin "object.__setattr__"))) (exC : PySem.W.subIn K (.ref C) (.type "BaseException") = some true)
    (tyC : PySem.W.typeIn K (.ref C) = some (.type "type")) (kC : PySem.W.keepIn K (.ref C) = true) (iC : PySem.W.findIn K (.ref C) "__init__" = some (some (.ref fI))) (tI : PySem.W.typeIn K (.ref fI) = some (.type "function")) (no : PySem.W.findIn K (.ref C) "row" = some none)
    (l : K.lookup fI = some ⟨oc, od, .func (PySem.W.fnOf "__init__" "BadText.__init__" (defArgs sInit) (defBody sInit) (defScope sInit) .none kV doc pm an cdv ct), osl⟩) (c : PySem.W.codeIn K cdv "BadText.__init__" = true) (kI : PySem.W.keepIn K (.ref fI) = true)
    (eD : PySem.W.subIn K (.ref D) (.type "BaseException") = some true) (hD : PySem.W.hasDictIn K D = true) (tD : PySem.W.typeIn K (.ref D) = some (.type "type")) (sCD : PySem.W.subIn K (.ref C) (.ref D) = some true)
    (ga : PySem.W.findIn K (.ref C) "__getattribute__" = some (some (.builtin "BaseException.__getattribute__"))) (gg : PySem.W.findIn K (.ref C) "__getattr__" = some none) (hC : PySem.W.hasDictIn K C = true)
    (cl : PySem.W.findIn K (.ref C) "__class__" = some (some (.builtin "object.__class__"))) (hn : PySem.W.specialIn K (.builtin "object.__class__") "__get__" = some (some (.builtin "getset_descriptor.__get__"))) (ht : PySem.W.takesIn K (.builtin "object.__class__") = some true)
    (hm : PySem.W.mroIn K C (.type "object") = some true) (is : PySem.W.kitOne K (.ref C) (.ref C) = some true) : ∃ C, Bex K mg C :=
  ⟨C, ⟨D, fI, _, ⟨PySem.W.mg_of X G gD, sD, rD, fD, PySem.W.mg_of X G gC, ⟨⟨nm, q, N, bs, bm, sn, sub, ab, col, dd, m0, m1, m2, m3, m5, xL, vE⟩, sa, exC, tyC, kC⟩, iC, tI, no⟩, fun_mk l c kI, (fun_mk l c kI).binds hb_init⟩,
    ⟨D, PySem.W.mg_of X G gD, PySem.W.exm_ref eD hD tD sCD⟩, PySem.W.mg_of X G gC, ⟨ga, gg, exC, hC⟩, ⟨ga, gg, exC, hC, cl, hn, ht, hm⟩, no, is⟩
theorem all_mk {fa f0 : Addr} {oc : Value} {od an : Option Addr} {osl : Array (Option Value)} {kV doc pm cdv ct : Value} (X : K.In h) (G : h.Ns mainGlobals mg) (hfa : mg "law" = some (.ref fa))
    (a0 : PySem.W.nsIn K mainGlobals "law" = some (some (.ref f0))) (l0 : K.lookup f0 = some ⟨oc, od, .func (PySem.W.fnOf "law" "law" (defArgs sLaw) (defBody sLaw) (defScope sLaw) .none kV doc pm an cdv ct), osl⟩) (c0 : PySem.W.codeIn K cdv "law" = true) (k0 : PySem.W.keepIn K (.ref f0) = true)
    (d_isWhole : Dn K mg "is_whole" sIsWhole ["thing", "low", "high"])
    (d_isByte : Dn K mg "is_byte" sIsByte ["thing"])
    (d_isPlace : Dn K mg "is_place" sIsPlace ["thing"])
    (d_checkImage : Dn K mg "check_image" sCheckImage ["image"])
    (d_checkPlace : Dn K mg "check_place" sCheckPlace ["place"])
    (d_signsOf : Dn K mg "signs_of" sSignsOf ["word"])
    (d_needOf : Dn K mg "need_of" sNeedOf ["word", "image", "place"])
    (d_placesIn : Dn K mg "places_in" sPlacesIn ["image", "begin", "many"])
    (d_rowIn : Dn K mg "row_in" sRowIn ["image", "place"])
    (d_isThing : Dn K mg "is_thing" sIsThing ["sign", "thing"])
    (d_areThings : Dn K mg "are_things" sAreThings ["word", "things"])
    (d_rowAt : Dn K mg "row_at" sRowAt ["image", "place"])
    (d_targetsOf : Dn K mg "targets_of" sTargetsOf ["row"])
    (d_goesOn : Dn K mg "goes_on" sGoesOn ["row"])
    (d_waysAt : Dn K mg "ways_at" sWaysAt ["image", "place", "is_body"])
    (d_comeTo : Dn K mg "come_to" sComeTo ["image", "begin", "is_body"])
    (d_reached : Dn K mg "reached" sReached ["image"])
    (d_never : Dn K mg "never" sNever ["image"])
    (d_hexed : Dn K mg "hexed" sHexed ["image"])
    (d_ofHex : Dn K mg "of_hex" sOfHex ["text"])
    (d_pairsText : Dn K mg "pairs_text" sPairsText ["some"])
    (d_wordsText : Dn K mg "words_text" sWordsText ["row"])
    (d_listingRows : Dn K mg "listing_rows" sListingRows ["image"])
    (d_listing : Dn K mg "listing" sListing ["image"])
    (d_bytesOf : Dn K mg "bytes_of" sBytesOf ["row"])
    (d_readListing : Dn K mg "read_listing" sReadListing ["text"])
    (d_lCellAt : Dn K mg "_law_cell_at" sLCellAt ["_law_script", "_law_k"])
    (d_lDraw : Dn K mg "_law_draw" sLDraw ["_law_cell", "_law_k", "_law_below"])
    (d_lNumber : Dn K mg "_law_number" sLNumber ["_law_cell", "_law_k", "_law_below"])
    (d_lNext : Dn K mg "_law_next" sLNext ["_law_state", "_law_below"])
    (d_lRow : Dn K mg "_law_row" sLRow ["_law_state", "_law_many"])
    (d_lTarget : Dn K mg "_law_target" sLTarget ["_law_state", "_law_many"])
    (d_lNumbers : Dn K mg "_law_numbers" sLNumbers ["_law_state", "_law_more"])
    (d_lIsSmall : Dn K mg "_law_is_small" sLIsSmall ["_law_numbers_here"])
    (d_lHex : Dn K mg "_law_hex" sLHex ["_law_numbers_here"])
    (d_lRows : Dn K mg "_law_rows" sLRows ["_law_image", "_law_numbers_here"])
    (d_lTold : Dn K mg "_law_told" sLTold ["_law_text"])
    (d_lBentRight : Dn K mg "_law_bent_right" sLBentRight ["_law_state", "_law_rows_here"])
    (b_isinstance : PySem.W.nsIn K mainGlobals "isinstance" = some none) (b_int : PySem.W.nsIn K mainGlobals "int" = some none) (b_bool : PySem.W.nsIn K mainGlobals "bool" = some none) (b_str : PySem.W.nsIn K mainGlobals "str" = some none) (b_bytes : PySem.W.nsIn K mainGlobals "bytes" = some none) (b_list : PySem.W.nsIn K mainGlobals "list" = some none) (b_tuple : PySem.W.nsIn K mainGlobals "tuple" = some none) (b_len : PySem.W.nsIn K mainGlobals "len" = some none) (b_sum : PySem.W.nsIn K mainGlobals "sum" = some none) (b_range : PySem.W.nsIn K mainGlobals "range" = some none) (b_all : PySem.W.nsIn K mainGlobals "all" = some none) (b_any : PySem.W.nsIn K mainGlobals "any" = some none) (b_zip : PySem.W.nsIn K mainGlobals "zip" = some none) (b_sorted : PySem.W.nsIn K mainGlobals "sorted" = some none) (b_enumerate : PySem.W.nsIn K mainGlobals "enumerate" = some none) (b_min : PySem.W.nsIn K mainGlobals "min" = some none) (b_max : PySem.W.nsIn K mainGlobals "max" = some none)
    (c_mostByte : ∃ t, mg "MOST_BYTE" = some (.int 255 t)) (c_mostPlace : ∃ t, mg "MOST_PLACE" = some (.int 65535 t)) (c_mostRegister : ∃ t, mg "MOST_REGISTER" = some (.int 3 t)) (c_mostImage : ∃ t, mg "MOST_IMAGE" = some (.int 2000 t)) (c_figures : ∃ t, mg "FIGURES" = some (.str "0123456789" t))
    (t_words : ∃ a, mg "WORDS" = some (.ref a) ∧ KT K a (wdL.map V.str)) (t_out : ∃ a, mg "OUT" = some (.ref a) ∧ KT K a [.str "fall", .str "out"]) (t_bad : ∃ a, mg "BAD" = some (.ref a) ∧ KT K a [.str "fall", .str "bad"])
    (t_have : ∃ a, mg "HAVE" = some (.ref a) ∧ KDc K w a ∧ ∀ k, k < 21 → ∃ o, KHas K a (wd k) o ∧ o.getD (.str "") = .str (sg k)) (bex : ∃ C, Bex K mg C) :
    ∃ fd : FuncData, (∀ (s : Shared) (u : Value), BindsTo s fd ⟨[u], []⟩ [("_law_script", u)]) ∧ ∀ base : Heap, K.In base → base.Ns mainGlobals mg → FnOk P w K mg base CX0 15 fa fd ["_law_script"] (spLaw K) := by
  have e := hfa.symm.trans (PySem.W.mg_of X G a0)
  cases e
  obtain ⟨C, B⟩ := bex
  have T : Txt K mg := { isWhole := d_isWhole, isByte := d_isByte, isPlace := d_isPlace, checkImage := d_checkImage, checkPlace := d_checkPlace, signsOf := d_signsOf, needOf := d_needOf, placesIn := d_placesIn, rowIn := d_rowIn, isThing := d_isThing, areThings := d_areThings, rowAt := d_rowAt, targetsOf := d_targetsOf, goesOn := d_goesOn, waysAt := d_waysAt, comeTo := d_comeTo, reached := d_reached, never := d_never, hexed := d_hexed, ofHex := d_ofHex, pairsText := d_pairsText, wordsText := d_wordsText, listingRows := d_listingRows, listing := d_listing, bytesOf := d_bytesOf, readListing := d_readListing, lCellAt := d_lCellAt, lDraw := d_lDraw, lNumber := d_lNumber, lNext := d_lNext, lRow := d_lRow, lTarget := d_lTarget, lNumbers := d_lNumbers, lIsSmall := d_lIsSmall, lHex := d_lHex, lRows := d_lRows, lTold := d_lTold, lBentRight := d_lBentRight, isinstance := PySem.W.mg_none_of X G b_isinstance, int := PySem.W.mg_none_of X G b_int, bool := PySem.W.mg_none_of X G b_bool, str := PySem.W.mg_none_of X G b_str, bytes := PySem.W.mg_none_of X G b_bytes, list := PySem.W.mg_none_of X G b_list, tuple := PySem.W.mg_none_of X G b_tuple, len := PySem.W.mg_none_of X G b_len, sum := PySem.W.mg_none_of X G b_sum, range := PySem.W.mg_none_of X G b_range, all := PySem.W.mg_none_of X G b_all, any := PySem.W.mg_none_of X G b_any, zip := PySem.W.mg_none_of X G b_zip, sorted := PySem.W.mg_none_of X G b_sorted, enumerate := PySem.W.mg_none_of X G b_enumerate, min := PySem.W.mg_none_of X G b_min, max := PySem.W.mg_none_of X G b_max, mostByte := c_mostByte, mostPlace := c_mostPlace, mostRegister := c_mostRegister, mostImage := c_mostImage, figures := c_figures }
  exact ⟨PySem.W.fnOf "law" "law" (defArgs sLaw) (defBody sLaw) (defScope sLaw) .none kV doc pm an cdv ct, fun s v => .of_eq rfl, fun base _ _ => ok_law (fun_mk l0 c0 k0) T ⟨t_words, t_out, t_bad, t_have⟩ B⟩
end
end BT
open PySem PySem.W PyProof.Rows
set_option maxRecDepth 100000 in
set_option maxHeartbeats 0 in
theorem PySem.Challenge.cw_bytetale_k35_whole_listings_holds : PySem.Challenge.rw_bytetale_k35_whole_listings.Holds := by
  w_on; o_law; k_head; (case hw => w_witness2)
  k_fill
  refine L2.walk_of (l := PySem.Challenge.rw_bytetale_k35_whole_listings) (n := 63) (k := 15) (x := "_law_script") (CX := fun _ => L2.CX0) (sp := fun w => BT.spLaw _) rfl (by decide) rfl ⟨rfl, by decide, by decide⟩ (fun w h Y => PySem.W.kIn_of Y) ?F (fun _ _ a ns hl _ hS => ⟨a, ns, rfl, hS, hl, fun _ => rfl⟩) (fun _ _ _ _ _ h => h)
  case F =>
    intro w mg fa h KX G hmg
    refine' BT.all_mk KX G hmg ?a0 ?l0 ?c0 ?k0 ?d_isWhole ?d_isByte ?d_isPlace ?d_checkImage ?d_checkPlace ?d_signsOf ?d_needOf ?d_placesIn ?d_rowIn ?d_isThing ?d_areThings ?d_rowAt ?d_targetsOf ?d_goesOn ?d_waysAt ?d_comeTo ?d_reached ?d_never ?d_hexed ?d_ofHex ?d_pairsText ?d_wordsText ?d_listingRows ?d_listing ?d_bytesOf ?d_readListing ?d_lCellAt ?d_lDraw ?d_lNumber ?d_lNext ?d_lRow ?d_lTarget ?d_lNumbers ?d_lIsSmall ?d_lHex ?d_lRows ?d_lTold ?d_lBentRight ?b_isinstance ?b_int ?b_bool ?b_str ?b_bytes ?b_list ?b_tuple ?b_len ?b_sum ?b_range ?b_all ?b_any ?b_zip ?b_sorted ?b_enumerate ?b_min ?b_max ?c_mostByte ?c_mostPlace ?c_mostRegister ?c_mostImage ?c_figures ?t_words ?t_out ?t_bad ?t_have ?bex
    (case a0 => k_is)
    (case l0 => k_is)
    (case c0 => k_is)
    (case k0 => k_is)
    (case d_isWhole => (refine' BT.dn_mk KX G ?a ?l ?c ?k BT.hb_isWhole); (case a => k_is); (case l => k_is); (case c => k_is); (case k => k_is))
    (case d_isByte => (refine' BT.dn_mk KX G ?a ?l ?c ?k BT.hb_isByte); (case a => k_is); (case l => k_is); (case c => k_is); (case k => k_is))
    (case d_isPlace => (refine' BT.dn_mk KX G ?a ?l ?c ?k BT.hb_isPlace); (case a => k_is); (case l => k_is); (case c => k_is); (case k => k_is))
    (case d_checkImage => (refine' BT.dn_mk KX G ?a ?l ?c ?k BT.hb_checkImage); (case a => k_is); (case l => k_is); (case c => k_is); (case k => k_is))
    (case d_checkPlace => (refine' BT.dn_mk KX G ?a ?l ?c ?k BT.hb_checkPlace); (case a => k_is); (case l => k_is); (case c => k_is); (case k => k_is))
    (case d_signsOf => (refine' BT.dn_mk KX G ?a ?l ?c ?k BT.hb_signsOf); (case a => k_is); (case l => k_is); (case c => k_is); (case k => k_is))
    (case d_needOf => (refine' BT.dn_mk KX G ?a ?l ?c ?k BT.hb_needOf); (case a => k_is); (case l => k_is); (case c => k_is); (case k => k_is))
    (case d_placesIn => (refine' BT.dn_mk KX G ?a ?l ?c ?k BT.hb_placesIn); (case a => k_is); (case l => k_is); (case c => k_is); (case k => k_is))
    (case d_rowIn => (refine' BT.dn_mk KX G ?a ?l ?c ?k BT.hb_rowIn); (case a => k_is); (case l => k_is); (case c => k_is); (case k => k_is))
    (case d_isThing => (refine' BT.dn_mk KX G ?a ?l ?c ?k BT.hb_isThing); (case a => k_is); (case l => k_is); (case c => k_is); (case k => k_is))
    (case d_areThings => (refine' BT.dn_mk KX G ?a ?l ?c ?k BT.hb_areThings); (case a => k_is); (case l => k_is); (case c => k_is); (case k => k_is))
    (case d_rowAt => (refine' BT.dn_mk KX G ?a ?l ?c ?k BT.hb_rowAt); (case a => k_is); (case l => k_is); (case c => k_is); (case k => k_is))
    (case d_targetsOf => (refine' BT.dn_mk KX G ?a ?l ?c ?k BT.hb_targetsOf); (case a => k_is); (case l => k_is); (case c => k_is); (case k => k_is))
    (case d_goesOn => (refine' BT.dn_mk KX G ?a ?l ?c ?k BT.hb_goesOn); (case a => k_is); (case l => k_is); (case c => k_is); (case k => k_is))
    (case d_waysAt => (refine' BT.dn_mk KX G ?a ?l ?c ?k BT.hb_waysAt); (case a => k_is); (case l => k_is); (case c => k_is); (case k => k_is))
    (case d_comeTo => (refine' BT.dn_mk KX G ?a ?l ?c ?k BT.hb_comeTo); (case a => k_is); (case l => k_is); (case c => k_is); (case k => k_is))
    (case d_reached => (refine' BT.dn_mk KX G ?a ?l ?c ?k BT.hb_reached); (case a => k_is); (case l => k_is); (case c => k_is); (case k => k_is))
    (case d_never => (refine' BT.dn_mk KX G ?a ?l ?c ?k BT.hb_never); (case a => k_is); (case l => k_is); (case c => k_is); (case k => k_is))
    (case d_hexed => (refine' BT.dn_mk KX G ?a ?l ?c ?k BT.hb_hexed); (case a => k_is); (case l => k_is); (case c => k_is); (case k => k_is))
    (case d_ofHex => (refine' BT.dn_mk KX G ?a ?l ?c ?k BT.hb_ofHex); (case a => k_is); (case l => k_is); (case c => k_is); (case k => k_is))
    (case d_pairsText => (refine' BT.dn_mk KX G ?a ?l ?c ?k BT.hb_pairsText); (case a => k_is); (case l => k_is); (case c => k_is); (case k => k_is))
    (case d_wordsText => (refine' BT.dn_mk KX G ?a ?l ?c ?k BT.hb_wordsText); (case a => k_is); (case l => k_is); (case c => k_is); (case k => k_is))
    (case d_listingRows => (refine' BT.dn_mk KX G ?a ?l ?c ?k BT.hb_listingRows); (case a => k_is); (case l => k_is); (case c => k_is); (case k => k_is))
    (case d_listing => (refine' BT.dn_mk KX G ?a ?l ?c ?k BT.hb_listing); (case a => k_is); (case l => k_is); (case c => k_is); (case k => k_is))
    (case d_bytesOf => (refine' BT.dn_mk KX G ?a ?l ?c ?k BT.hb_bytesOf); (case a => k_is); (case l => k_is); (case c => k_is); (case k => k_is))
    (case d_readListing => (refine' BT.dn_mk KX G ?a ?l ?c ?k BT.hb_readListing); (case a => k_is); (case l => k_is); (case c => k_is); (case k => k_is))
    (case d_lCellAt => (refine' BT.dn_mk KX G ?a ?l ?c ?k BT.hb_lCellAt); (case a => k_is); (case l => k_is); (case c => k_is); (case k => k_is))
    (case d_lDraw => (refine' BT.dn_mk KX G ?a ?l ?c ?k BT.hb_lDraw); (case a => k_is); (case l => k_is); (case c => k_is); (case k => k_is))
    (case d_lNumber => (refine' BT.dn_mk KX G ?a ?l ?c ?k BT.hb_lNumber); (case a => k_is); (case l => k_is); (case c => k_is); (case k => k_is))
    (case d_lNext => (refine' BT.dn_mk KX G ?a ?l ?c ?k BT.hb_lNext); (case a => k_is); (case l => k_is); (case c => k_is); (case k => k_is))
    (case d_lRow => (refine' BT.dn_mk KX G ?a ?l ?c ?k BT.hb_lRow); (case a => k_is); (case l => k_is); (case c => k_is); (case k => k_is))
    (case d_lTarget => (refine' BT.dn_mk KX G ?a ?l ?c ?k BT.hb_lTarget); (case a => k_is); (case l => k_is); (case c => k_is); (case k => k_is))
    (case d_lNumbers => (refine' BT.dn_mk KX G ?a ?l ?c ?k BT.hb_lNumbers); (case a => k_is); (case l => k_is); (case c => k_is); (case k => k_is))
    (case d_lIsSmall => (refine' BT.dn_mk KX G ?a ?l ?c ?k BT.hb_lIsSmall); (case a => k_is); (case l => k_is); (case c => k_is); (case k => k_is))
    (case d_lHex => (refine' BT.dn_mk KX G ?a ?l ?c ?k BT.hb_lHex); (case a => k_is); (case l => k_is); (case c => k_is); (case k => k_is))
    (case d_lRows => (refine' BT.dn_mk KX G ?a ?l ?c ?k BT.hb_lRows); (case a => k_is); (case l => k_is); (case c => k_is); (case k => k_is))
    (case d_lTold => (refine' BT.dn_mk KX G ?a ?l ?c ?k BT.hb_lTold); (case a => k_is); (case l => k_is); (case c => k_is); (case k => k_is))
    (case d_lBentRight => (refine' BT.dn_mk KX G ?a ?l ?c ?k BT.hb_lBentRight); (case a => k_is); (case l => k_is); (case c => k_is); (case k => k_is))
    (case b_isinstance => k_is)
    (case b_int => k_is)
    (case b_bool => k_is)
    (case b_str => k_is)
    (case b_bytes => k_is)
    (case b_list => k_is)
    (case b_tuple => k_is)
    (case b_len => k_is)
    (case b_sum => k_is)
    (case b_range => k_is)
    (case b_all => k_is)
    (case b_any => k_is)
    (case b_zip => k_is)
    (case b_sorted => k_is)
    (case b_enumerate => k_is)
    (case b_min => k_is)
    (case b_max => k_is)
    (case c_mostByte => (refine' BT.int_mk KX G ?a); (case a => k_is))
    (case c_mostPlace => (refine' BT.int_mk KX G ?a); (case a => k_is))
    (case c_mostRegister => (refine' BT.int_mk KX G ?a); (case a => k_is))
    (case c_mostImage => (refine' BT.int_mk KX G ?a); (case a => k_is))
    (case c_figures => (refine' BT.str_mk KX G ?a); (case a => k_is))
    (case t_words => (refine' BT.kt_mk KX G ?g ?l ?v ?z); (case g => k_is); (case l => k_is); (case v => (repeat first | exact .nil | refine .cons ⟨_, rfl⟩ ?_)); (case z => decide))
    (case t_out => (refine' BT.kt_mk KX G ?g ?l ?v ?z); (case g => k_is); (case l => k_is); (case v => (repeat first | exact .nil | refine .cons ⟨_, rfl⟩ ?_)); (case z => decide))
    (case t_bad => (refine' BT.kt_mk KX G ?g ?l ?v ?z); (case g => k_is); (case l => k_is); (case v => (repeat first | exact .nil | refine .cons ⟨_, rfl⟩ ?_)); (case z => decide))
    (case t_have => (refine' BT.have_mk KX G ?g ?l ?kl ?low ?h0 ?h1 ?h2 ?h3 ?h4 ?h5 ?h6 ?h7 ?h8 ?h9 ?h10 ?h11 ?h12 ?h13 ?h14 ?h15 ?h16 ?h17 ?h18 ?h19 ?h20); (case g => k_is); (case l => k_is); (case kl => k_keys); (case low => decide); (case h0 => (refine' BT.hv_none (x := "halt") (by decide +kernel) (by decide +kernel) ?e); (case e => k_is)); (case h1 => (refine' BT.hv_some (x := "set") (s := "rn") (by decide +kernel) (by decide +kernel) ?e); (case e => k_is)); (case h2 => (refine' BT.hv_some (x := "move") (s := "rr") (by decide +kernel) (by decide +kernel) ?e); (case e => k_is)); (case h3 => (refine' BT.hv_some (x := "add") (s := "rr") (by decide +kernel) (by decide +kernel) ?e); (case e => k_is)); (case h4 => (refine' BT.hv_some (x := "sub") (s := "rr") (by decide +kernel) (by decide +kernel) ?e); (case e => k_is)); (case h5 => (refine' BT.hv_some (x := "mul") (s := "rr") (by decide +kernel) (by decide +kernel) ?e); (case e => k_is)); (case h6 => (refine' BT.hv_some (x := "div") (s := "rr") (by decide +kernel) (by decide +kernel) ?e); (case e => k_is)); (case h7 => (refine' BT.hv_some (x := "read") (s := "rr") (by decide +kernel) (by decide +kernel) ?e); (case e => k_is)); (case h8 => (refine' BT.hv_some (x := "write") (s := "rr") (by decide +kernel) (by decide +kernel) ?e); (case e => k_is)); (case h9 => (refine' BT.hv_some (x := "ask") (s := "r") (by decide +kernel) (by decide +kernel) ?e); (case e => k_is)); (case h10 => (refine' BT.hv_some (x := "say") (s := "r") (by decide +kernel) (by decide +kernel) ?e); (case e => k_is)); (case h11 => (refine' BT.hv_some (x := "less") (s := "rr") (by decide +kernel) (by decide +kernel) ?e); (case e => k_is)); (case h12 => (refine' BT.hv_some (x := "same") (s := "rr") (by decide +kernel) (by decide +kernel) ?e); (case e => k_is)); (case h13 => (refine' BT.hv_some (x := "jump") (s := "p") (by decide +kernel) (by decide +kernel) ?e); (case e => k_is)); (case h14 => (refine' BT.hv_some (x := "yes") (s := "p") (by decide +kernel) (by decide +kernel) ?e); (case e => k_is)); (case h15 => (refine' BT.hv_some (x := "no") (s := "p") (by decide +kernel) (by decide +kernel) ?e); (case e => k_is)); (case h16 => (refine' BT.hv_some (x := "table") (s := "rt") (by decide +kernel) (by decide +kernel) ?e); (case e => k_is)); (case h17 => (refine' BT.hv_some (x := "call") (s := "p") (by decide +kernel) (by decide +kernel) ?e); (case e => k_is)); (case h18 => (refine' BT.hv_none (x := "back") (by decide +kernel) (by decide +kernel) ?e); (case e => k_is)); (case h19 => (refine' BT.hv_some (x := "push") (s := "r") (by decide +kernel) (by decide +kernel) ?e); (case e => k_is)); (case h20 => (refine' BT.hv_some (x := "pull") (s := "r") (by decide +kernel) (by decide +kernel) ?e); (case e => k_is)))
    (case bex => (refine' BT.btx_mk KX G ?gD ?sD ?rD ?fD ?gC ?xL ?vE ?sa ?exC ?tyC ?kC ?iC ?tI ?no ?l ?c ?kI ?eD ?hD ?tD ?sCD ?ga ?gg ?hC ?cl ?hn ?ht ?hm ?is); (case gD => first | k_is | rfl | kit_is); (case sD => first | k_is | rfl | kit_is); (case rD => first | k_is | rfl | kit_is); (case fD => first | k_is | rfl | kit_is); (case gC => first | k_is | rfl | kit_is); (case xL => first | k_is | rfl | kit_is); (case vE => decide +kernel); (case sa => first | k_is | rfl | kit_is); (case exC => first | k_is | rfl | kit_is); (case tyC => first | k_is | rfl | kit_is); (case kC => first | k_is | rfl | kit_is); (case iC => first | k_is | rfl | kit_is); (case tI => first | k_is | rfl | kit_is); (case no => first | k_is | rfl | kit_is); (case l => first | k_is | rfl | kit_is); (case c => first | k_is | rfl | kit_is); (case kI => first | k_is | rfl | kit_is); (case eD => first | k_is | rfl | kit_is); (case hD => first | k_is | rfl | kit_is); (case tD => first | k_is | rfl | kit_is); (case sCD => first | k_is | rfl | kit_is); (case ga => first | k_is | rfl | kit_is); (case gg => first | k_is | rfl | kit_is); (case hC => first | k_is | rfl | kit_is); (case cl => first | k_is | rfl | kit_is); (case hn => first | k_is | rfl | kit_is); (case ht => first | k_is | rfl | kit_is); (case hm => first | k_is | rfl | kit_is); (case is => first | k_is | rfl | kit_is))
