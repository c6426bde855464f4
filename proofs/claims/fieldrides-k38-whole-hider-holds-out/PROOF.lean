import PyProof.Rows.All
import Wide.All
import OpenK.AllK
import Wide.FinOn
import HandS.ForMost
import HandS.Exc
import HandS.Star
import HandS.Style
import HandS.Conv
import HandS.SetFor
import HandS.Wide
import HandS.Remove
import KE.SortKeyHeap
import HandS.SortKw
import KE.DataFind
import PyProof.ReprRoads
import PyProof.ReprLen
import PyProof.Rows.RegStrFacts
import HandS.Small
import HandS.SortInts
import HandS.IsInst
import KE.KExcIs
import KE.KExcSuper
import HandS.ExcInit
import HandS.ExcField
import HandS.ExcOwn
import HandS.Nested
import HandS.WordsExc
import HandS.ExcIs
import HandS.TupAny
import PySem.Challenge.RW_fieldrides_k38_whole_hider_holds_out
set_option Elab.async false
set_option maxRecDepth 100000
set_option maxHeartbeats 4000000
/-! The law held for every script: the walk of each def by hand (layer HandS, namespace K38), the plain law apart, the head by k_head and k_is. -/
namespace K38
/-- a chain: its fields from the root on; for each field, is it of kind up -/
abbrev Ch := List Nat × List Bool
def parsI (n : Nat) (t : List Nat) : Nat → List (Option Nat)
  | 0 => List.replicate n none
  | i + 1 => (parsI n t i).set (t.getD (i + 1) 0) (some (t.getD i 0))
def pars (n : Nat) (t : List Nat) : List (Option Nat) := parsI n t (n - 1)
def heldOf (left : List Nat) (ps : List (Option Nat)) : List (Option Nat) := left.map fun f => ps.getD f none
def freeOf (left : List Nat) (ps : List (Option Nat)) : List Nat := left.filter fun f => !(heldOf left ps).contains (some f)
def entryOf : Option Nat → Nat
  | none => 0
  | some p => 1 + p
def wordI (ps : List (Option Nat)) : Nat → List Nat × List Nat
  | 0 => (List.range ps.length, [])
  | i + 1 => ((wordI ps i).1.erase ((freeOf (wordI ps i).1 ps).getLast?.getD 0), (wordI ps i).2 ++ [entryOf (ps.getD ((freeOf (wordI ps i).1 ps).getLast?.getD 0) none)])
def wordOf (ps : List (Option Nat)) : List Nat := (wordI ps (ps.length - 1)).2
def okWord (ps : List (Option Nat)) : Bool := (List.range (ps.length - 1)).all fun i => (freeOf (wordI ps i).1 ps).getLast?.isSome
def baseNum (n : Nat) (w : List Nat) : Nat := w.foldl (fun a e => a * (n + 1) + e) 0
def bitOf (b : Bool) : Nat := if b then 0 else 1
def num (n : Nat) (c : Ch) : Nat := c.2.reverse.foldl (fun a b => a * 2 + bitOf b) (baseNum n (wordOf (pars n c.1)))
def turnsI (n : Nat) : Nat → List (List Nat)
  | 0 => [[]]
  | i + 1 => (turnsI n i).flatMap fun r => ((List.range n).filter fun f => !r.contains f).map fun f => r ++ [f]
def turns (n : Nat) : List (List Nat) := turnsI n n
def kindsP : Nat → List (List Bool)
  | 0 => [[]]
  | i + 1 => (kindsP i).flatMap fun r => [r ++ [true], r ++ [false]]
def kindsL : Nat → List (List Bool)
  | 0 => [[]]
  | i + 1 => (kindsL i).map (fun r => r ++ [true]) ++ (kindsL i).map (fun r => r ++ [false])
def rawP (n : Nat) : List Ch := (turns n).flatMap fun t => (kindsP n).map fun k => (t, k)
def rawL (n : Nat) : List Ch := (turns n).flatMap fun t => (kindsL n).map fun k => (t, k)
def goodT (n : Nat) (t : List Nat) : Bool :=
  t.length == n && t.Nodup && t.all (· < n) && okWord (pars n t) && (pars n t).length == n &&
  ((List.range n).all fun j => (pars n t)[t.getD j 0]? == some (if j = 0 then none else some (t.getD (j - 1) 0))) &&
  (List.range n).all fun f => t.contains f
/-- what is used of a chain's fields -/
structure Good (n : Nat) (t : List Nat) : Prop where
  len : t.length = n
  nd : t.Nodup
  lt : ∀ f ∈ t, f < n
  okw : okWord (pars n t) = true
  plen : (pars n t).length = n
  par : ∀ j, j < n → (pars n t)[t.getD j 0]? = some (if j = 0 then none else some (t.getD (j - 1) 0))
  all : ∀ f, f < n → f ∈ t
theorem good_of {n : Nat} {t : List Nat} (h : goodT n t = true) : Good n t := by
  unfold goodT at h
  simp only [Bool.and_eq_true, beq_iff_eq, decide_eq_true_eq, List.all_eq_true, List.mem_range, List.contains_iff_mem] at h
  obtain ⟨⟨⟨⟨⟨⟨h1, h2⟩, h3⟩, h4⟩, h5⟩, h6⟩, h7⟩ := h
  exact ⟨h1, h2, h3, h4, h5, h6, h7⟩
theorem good_all : ∀ n ∈ [1, 2, 3, 4], (turns n).all (goodT n) = true := by decide +kernel
theorem nums_nodup : ∀ n ∈ [1, 2, 3, 4], ((rawL n).map (num n)).Nodup := by decide +kernel
theorem kinds_len : ∀ n ∈ [1, 2, 3, 4], (kindsP n).all (fun k => k.length == n) = true := by decide +kernel
theorem kinds_perm : ∀ n ∈ [1, 2, 3, 4], (kindsP n).Perm (kindsL n) := by decide +kernel
theorem raw_len : ∀ n ∈ [1, 2, 3, 4], (rawL n).length ≤ 384 ∧ 0 < (rawL n).length := by decide +kernel
end K38

namespace K38
def firstUn (path : List Nat) (xs ys : List Int) : Option Nat := path.find? fun f => decide (xs.getD f 0 ≠ ys.getD f 0)
theorem firstUn_snoc {l : List Nat} {f : Nat} {xs ys : List Int} (hn : firstUn l xs ys = none) : firstUn (l ++ [f]) xs ys = if xs.getD f 0 ≠ ys.getD f 0 then some f else none := by
  unfold firstUn at hn ⊢
  rw [List.find?_append, hn, List.find?_singleton]
  by_cases hq : xs.getD f 0 = ys.getD f 0
  · rw [if_neg (by rw [hq]; simp), if_neg (by rw [hq]; simp)]
    rfl
  · rw [if_pos (decide_eq_true hq), if_pos hq]
    rfl
theorem firstUn_pre {l : List Nat} {i : Nat} {xs ys : List Int} {g : Nat} (h : firstUn (l.take i) xs ys = some g) : firstUn l xs ys = some g := by
  have e : l = l.take i ++ l.drop i := (List.take_append_drop _ _).symm
  unfold firstUn at h ⊢
  rw [e, List.find?_append, h]
  rfl
theorem firstUn_some {l : List Nat} {xs ys : List Int} {g : Nat} (h : firstUn l xs ys = some g) : g ∈ l ∧ xs.getD g 0 ≠ ys.getD g 0 :=
  ⟨List.mem_of_find?_eq_some h, by
    have q := List.find?_some (p := fun f => decide (xs.getD f 0 ≠ ys.getD f 0)) (a := g) h
    exact of_decide_eq_true q⟩
theorem firstUn_none {l : List Nat} {xs ys : List Int} (h : firstUn l xs ys = none) : ∀ f ∈ l, xs.getD f 0 = ys.getD f 0 := fun f hf => by
  have := List.find?_eq_none.mp h f hf
  simpa using this
/-- does the chain take the newer record -/
def side (c : Ch) (xs ys : List Int) : Bool :=
  match firstUn c.1 xs ys with
  | none => false
  | some g => decide (ys.getD g 0 < xs.getD g 0) != c.2.getD g true
def bet (b : Bool) (x y : Int) : Bool := if b then decide (y < x) else decide (x < y)
def mergeC (c : Ch) (xs ys : List Int) : List Int := if side c xs ys then ys else xs
theorem merge_none {c : Ch} {xs ys : List Int} {k : Nat} (hk : k < c.1.length) (h : firstUn (c.1.take (k + 1)) xs ys = none) : xs.getD (c.1.getD k 0) 0 = (mergeC c xs ys).getD (c.1.getD k 0) 0 := by
  have e : xs.getD (c.1.getD k 0) 0 = ys.getD (c.1.getD k 0) 0 := firstUn_none h _ (by
    rw [List.getD_eq_getElem?_getD, List.getElem?_eq_getElem hk]
    exact List.mem_of_getElem? (i := k) (by rw [List.getElem?_take_of_lt (Nat.lt_succ_self _), List.getElem?_eq_getElem hk]; rfl))
  unfold mergeC
  split
  · exact e
  · rfl
theorem merge_some {c : Ch} {xs ys : List Int} {k g : Nat} (h : firstUn (c.1.take (k + 1)) xs ys = some g) (f : Nat) :
    (if bet (c.2.getD g true) (xs.getD g 0) (ys.getD g 0) then xs.getD f 0 else ys.getD f 0) = (mergeC c xs ys).getD f 0 := by
  have e := firstUn_pre h
  have ne := (firstUn_some h).2
  unfold mergeC side
  rw [e]
  show _ = (if (decide (ys.getD g 0 < xs.getD g 0) != c.2.getD g true) = true then ys else xs).getD f 0
  clear h e
  unfold bet
  generalize xs.getD g 0 = a at *
  generalize ys.getD g 0 = b at *
  cases c.2.getD g true with
  | true => by_cases h1 : b < a <;> simp [h1]
  | false =>
    by_cases h1 : a < b
    · have h2 : ¬ b < a := by omega
      simp [h1, h2]
    · have h2 : b < a := by omega
      simp [h1, h2]
theorem mergeC_len {c : Ch} {xs ys : List Int} {n : Nat} (hx : xs.length = n) (hy : ys.length = n) : (mergeC c xs ys).length = n := by
  unfold mergeC
  split <;> assumption
theorem Good.at_ {n : Nat} {t : List Nat} (g : Good n t) {f : Nat} (hf : f < n) : ∃ k, k < t.length ∧ t.getD k 0 = f := by
  obtain ⟨k, hk, e⟩ := List.getElem_of_mem (g.all f hf)
  exact ⟨k, hk, by rw [List.getD_eq_getElem?_getD, List.getElem?_eq_getElem hk, e]; rfl⟩
end K38

namespace K38
theorem last_max {l : List Nat} {m : Nat} (hs : l.Pairwise (· < ·)) (h : l.getLast? = some m) : m ∈ l ∧ ∀ y ∈ l, y ≤ m := by
  obtain ⟨ys, rfl⟩ := List.getLast?_eq_some_iff.mp h
  refine ⟨by simp, fun y hy => ?_⟩
  rcases List.mem_append.mp hy with q | q
  · exact Nat.le_of_lt ((List.pairwise_append.mp hs).2.2 y q m (by simp))
  · rw [List.mem_singleton.mp q]
    exact Nat.le_refl _
theorem left_sorted (ps : List (Option Nat)) : ∀ i, (wordI ps i).1.Pairwise (· < ·)
  | 0 => List.pairwise_lt_range
  | i + 1 => (left_sorted ps i).sublist List.erase_sublist
theorem left_lt (ps : List (Option Nat)) : ∀ i, ∀ f ∈ (wordI ps i).1, f < ps.length
  | 0 => fun f hf => List.mem_range.mp hf
  | i + 1 => fun f hf => left_lt ps i f (List.mem_of_mem_erase hf)
theorem free_sorted {ls : List Nat} {ps : List (Option Nat)} (h : ls.Pairwise (· < ·)) : (freeOf ls ps).Pairwise (· < ·) := h.sublist List.filter_sublist
theorem free_last {ps : List (Option Nat)} (h : okWord ps = true) {i : Nat} (hi : i < ps.length - 1) : ∃ m, (freeOf (wordI ps i).1 ps).getLast? = some m ∧ m ∈ (wordI ps i).1 := by
  have q := List.all_eq_true.mp h i (List.mem_range.mpr hi)
  obtain ⟨m, hm⟩ := Option.isSome_iff_exists.mp q
  refine ⟨m, hm, ?_⟩
  have := List.mem_of_getLast? hm
  exact (List.mem_filter.mp this).1
theorem wordI_len (ps : List (Option Nat)) : ∀ i, (wordI ps i).2.length = i
  | 0 => rfl
  | i + 1 => by
    show ((wordI ps i).2 ++ [_]).length = i + 1
    rw [List.length_append, wordI_len ps i]
    rfl
theorem wordI_left_len (ps : List (Option Nat)) : ∀ i, (wordI ps i).1.length ≤ ps.length
  | 0 => by show (List.range ps.length).length ≤ _; rw [List.length_range]; exact Nat.le_refl _
  | i + 1 => Nat.le_trans List.length_erase_le (wordI_left_len ps i)
theorem foldl_snoc {α β : Type} {f : α → β → α} {a : α} {l : List β} {i : Nat} {b : β} (h : l[i]? = some b) : (l.take (i + 1)).foldl f a = f ((l.take i).foldl f a) b := by
  rw [List.take_add_one, h, List.foldl_append]
  rfl
end K38

namespace K38
open PySem L2
def topAt (i : Nat) : Stmt := PySem.Challenge.pw_fieldrides_k38_whole_hider_holds_out.main.body.getD i (.Pass ⟨0, 0, 0, 0⟩)
abbrev sBetter : Stmt := topAt 9
abbrev sPathOf : Stmt := topAt 10
abbrev sFirstUn : Stmt := topAt 11
abbrev sMerged : Stmt := topAt 12
abbrev sChkRec : Stmt := topAt 13
abbrev sChkFair : Stmt := topAt 14
abbrev sNevEnd : Stmt := topAt 17
abbrev sChkShape : Stmt := topAt 18
abbrev sLastFree : Stmt := topAt 21
abbrev sShapeW : Stmt := topAt 22
abbrev sNumOf : Stmt := topAt 23
abbrev sTurns : Stmt := topAt 25
abbrev sKinds : Stmt := topAt 26
abbrev sChains : Stmt := topAt 27
abbrev sLTape : Stmt := topAt 30
abbrev sLTake : Stmt := topAt 31
abbrev sLValue : Stmt := topAt 32
abbrev sLRecord : Stmt := topAt 33
abbrev sLWord : Stmt := topAt 34
abbrev sLNumber : Stmt := topAt 35
abbrev sLTurns : Stmt := topAt 36
abbrev sLKinds : Stmt := topAt 37
abbrev sLChains : Stmt := topAt 38
abbrev sLSide : Stmt := topAt 39
abbrev sLAsked : Stmt := topAt 40
abbrev sLRem : Stmt := topAt 41
abbrev sLRefuses : Stmt := topAt 42
abbrev sLRefused : Stmt := topAt 43
abbrev sLReply : Stmt := topAt 44
abbrev sLaw : Stmt := topAt 45
abbrev sForInit : Stmt := inClass (topAt 19) 0
abbrev sForCall : Stmt := inClass (topAt 19) 1
abbrev sForPath : Stmt := inClass (topAt 19) 5
abbrev sHidInit : Stmt := inClass (topAt 28) 0
abbrev sHidReply : Stmt := inClass (topAt 28) 1
abbrev sHidRem : Stmt := inClass (topAt 28) 2
/-- what the top has left: where each def stands, what the classes are, which names are still the built-in ones -/
structure Defs (K : PySem.W.Frag) (mg : Str → Option Value) where
  fBetter : Addr
  dBetter : FuncData
  FBetter : Fun K "better" "better" sBetter fBetter dBetter
  mBetter : mg "better" = some (.ref fBetter)
  fPathOf : Addr
  dPathOf : FuncData
  FPathOf : Fun K "path_of" "path_of" sPathOf fPathOf dPathOf
  mPathOf : mg "path_of" = some (.ref fPathOf)
  fFirstUn : Addr
  dFirstUn : FuncData
  FFirstUn : Fun K "first_unlike_on" "first_unlike_on" sFirstUn fFirstUn dFirstUn
  mFirstUn : mg "first_unlike_on" = some (.ref fFirstUn)
  fMerged : Addr
  dMerged : FuncData
  FMerged : Fun K "merged_record" "merged_record" sMerged fMerged dMerged
  mMerged : mg "merged_record" = some (.ref fMerged)
  fChkRec : Addr
  dChkRec : FuncData
  FChkRec : Fun K "check_record" "check_record" sChkRec fChkRec dChkRec
  mChkRec : mg "check_record" = some (.ref fChkRec)
  fChkFair : Addr
  dChkFair : FuncData
  FChkFair : Fun K "check_fair" "check_fair" sChkFair fChkFair dChkFair
  mChkFair : mg "check_fair" = some (.ref fChkFair)
  fNevEnd : Addr
  dNevEnd : FuncData
  FNevEnd : Fun K "never_ends" "never_ends" sNevEnd fNevEnd dNevEnd
  mNevEnd : mg "never_ends" = some (.ref fNevEnd)
  fChkShape : Addr
  dChkShape : FuncData
  FChkShape : Fun K "check_shape" "check_shape" sChkShape fChkShape dChkShape
  mChkShape : mg "check_shape" = some (.ref fChkShape)
  fLastFree : Addr
  dLastFree : FuncData
  FLastFree : Fun K "last_free" "last_free" sLastFree fLastFree dLastFree
  mLastFree : mg "last_free" = some (.ref fLastFree)
  fShapeW : Addr
  dShapeW : FuncData
  FShapeW : Fun K "shape_word" "shape_word" sShapeW fShapeW dShapeW
  mShapeW : mg "shape_word" = some (.ref fShapeW)
  fNumOf : Addr
  dNumOf : FuncData
  FNumOf : Fun K "number_of" "number_of" sNumOf fNumOf dNumOf
  mNumOf : mg "number_of" = some (.ref fNumOf)
  fTurns : Addr
  dTurns : FuncData
  FTurns : Fun K "all_turns" "all_turns" sTurns fTurns dTurns
  mTurns : mg "all_turns" = some (.ref fTurns)
  fKinds : Addr
  dKinds : FuncData
  FKinds : Fun K "all_kinds" "all_kinds" sKinds fKinds dKinds
  mKinds : mg "all_kinds" = some (.ref fKinds)
  fChains : Addr
  dChains : FuncData
  FChains : Fun K "all_chains" "all_chains" sChains fChains dChains
  mChains : mg "all_chains" = some (.ref fChains)
  fLTape : Addr
  dLTape : FuncData
  FLTape : Fun K "_law_tape" "_law_tape" sLTape fLTape dLTape
  mLTape : mg "_law_tape" = some (.ref fLTape)
  fLTake : Addr
  dLTake : FuncData
  FLTake : Fun K "_law_take" "_law_take" sLTake fLTake dLTake
  mLTake : mg "_law_take" = some (.ref fLTake)
  fLValue : Addr
  dLValue : FuncData
  FLValue : Fun K "_law_value" "_law_value" sLValue fLValue dLValue
  mLValue : mg "_law_value" = some (.ref fLValue)
  fLRecord : Addr
  dLRecord : FuncData
  FLRecord : Fun K "_law_record" "_law_record" sLRecord fLRecord dLRecord
  mLRecord : mg "_law_record" = some (.ref fLRecord)
  fLWord : Addr
  dLWord : FuncData
  FLWord : Fun K "_law_word" "_law_word" sLWord fLWord dLWord
  mLWord : mg "_law_word" = some (.ref fLWord)
  fLNumber : Addr
  dLNumber : FuncData
  FLNumber : Fun K "_law_number" "_law_number" sLNumber fLNumber dLNumber
  mLNumber : mg "_law_number" = some (.ref fLNumber)
  fLTurns : Addr
  dLTurns : FuncData
  FLTurns : Fun K "_law_all_turns" "_law_all_turns" sLTurns fLTurns dLTurns
  mLTurns : mg "_law_all_turns" = some (.ref fLTurns)
  fLKinds : Addr
  dLKinds : FuncData
  FLKinds : Fun K "_law_kind_rows" "_law_kind_rows" sLKinds fLKinds dLKinds
  mLKinds : mg "_law_kind_rows" = some (.ref fLKinds)
  fLChains : Addr
  dLChains : FuncData
  FLChains : Fun K "_law_chains" "_law_chains" sLChains fLChains dLChains
  mLChains : mg "_law_chains" = some (.ref fLChains)
  fLSide : Addr
  dLSide : FuncData
  FLSide : Fun K "_law_chain_side" "_law_chain_side" sLSide fLSide dLSide
  mLSide : mg "_law_chain_side" = some (.ref fLSide)
  fLAsked : Addr
  dLAsked : FuncData
  FLAsked : Fun K "_law_asked" "_law_asked" sLAsked fLAsked dLAsked
  mLAsked : mg "_law_asked" = some (.ref fLAsked)
  fLRem : Addr
  dLRem : FuncData
  FLRem : Fun K "_law_remaining" "_law_remaining" sLRem fLRem dLRem
  mLRem : mg "_law_remaining" = some (.ref fLRem)
  fLRefuses : Addr
  dLRefuses : FuncData
  FLRefuses : Fun K "_law_refuses" "_law_refuses" sLRefuses fLRefuses dLRefuses
  mLRefuses : mg "_law_refuses" = some (.ref fLRefuses)
  fLRefused : Addr
  dLRefused : FuncData
  FLRefused : Fun K "_law_refused" "_law_refused" sLRefused fLRefused dLRefused
  mLRefused : mg "_law_refused" = some (.ref fLRefused)
  fLReply : Addr
  dLReply : FuncData
  FLReply : Fun K "_law_reply" "_law_reply" sLReply fLReply dLReply
  mLReply : mg "_law_reply" = some (.ref fLReply)
  fLaw : Addr
  dLaw : FuncData
  FLaw : Fun K "law" "law" sLaw fLaw dLaw
  mLaw : mg "law" = some (.ref fLaw)
  cFor : Addr
  kFor : Cls K cFor
  mFor : mg "Forest" = some (.ref cFor)
  nFor_fields : NoAttr K cFor "fields"
  nFor_parents : NoAttr K cFor "parents"
  nFor_kinds : NoAttr K cFor "kinds"
  cHid : Addr
  kHid : Cls K cHid
  mHid : mg "Hider" = some (.ref cHid)
  nHid_fields : NoAttr K cHid "fields"
  nHid_chains : NoAttr K cHid "chains"
  fForInit : Addr
  dForInit : FuncData
  FForInit : Fun K "__init__" "Forest.__init__" sForInit fForInit dForInit
  MForInit : Mk K cFor fForInit
  fForCall : Addr
  dForCall : FuncData
  FForCall : Fun K "__call__" "Forest.__call__" sForCall fForCall dForCall
  MForCall : StX.CallO K cFor fForCall
  fForPath : Addr
  dForPath : FuncData
  FForPath : Fun K "path" "Forest.path" sForPath fForPath dForPath
  MForPath : Meth K cFor "path" fForPath
  fHidInit : Addr
  dHidInit : FuncData
  FHidInit : Fun K "__init__" "Hider.__init__" sHidInit fHidInit dHidInit
  MHidInit : Mk K cHid fHidInit
  fHidReply : Addr
  dHidReply : FuncData
  FHidReply : Fun K "reply" "Hider.reply" sHidReply fHidReply dHidReply
  MHidReply : Meth K cHid "reply" fHidReply
  fHidRem : Addr
  dHidRem : FuncData
  FHidRem : Fun K "remaining" "Hider.remaining" sHidRem fHidRem dHidRem
  MHidRem : Meth K cHid "remaining" fHidRem
  tMost : Tok
  mMost : mg "MOST_FIELDS" = some (.int 16 tMost)
  b_abs : mg "abs" = none
  b_len : mg "len" = none
  b_int : mg "int" = none
  b_tuple : mg "tuple" = none
  b_list : mg "list" = none
  b_range : mg "range" = none
  b_sorted : mg "sorted" = none
  b_max : mg "max" = none
  b_repr : mg "repr" = none
  b_isinstance : mg "isinstance" = none
  b_enumerate : mg "enumerate" = none
end K38

namespace K38
open PySem L2
/-! ### the data as values -/
def iV (k : Nat) : V := .int (k : Int)
def oV : Option Nat → V
  | none => .non
  | some k => .int (k : Int)
def kdS (b : Bool) : Str := if b then "up" else "down"
def kdV (b : Bool) : V := .str (kdS b)
abbrev nums (l : List Nat) : List V := l.map iV
/-- a chain's forest stands at a -/
def ForestAt (F : Addr) (H : Hp) (a : Addr) (n : Nat) (ps : List (Option Nat)) (ks : List Bool) : Prop :=
  ∃ dx p q, H a = some (.ins F dx [("fields", .int (n : Int)), ("parents", .ref p), ("kinds", .ref q)]) ∧ H p = some (.tup (ps.map oV)) ∧ H q = some (.tup (ks.map kdV))
theorem ForestAt.mono {F : Addr} {H H' : Hp} {a : Addr} {n : Nat} {ps : List (Option Nat)} {ks : List Bool} (h : ForestAt F H a n ps ks) (s : Same H H') : ForestAt F H' a n ps ks := by
  obtain ⟨dx, p, q, h1, h2, h3⟩ := h
  exact ⟨dx, p, q, s _ _ h1, s _ _ h2, s _ _ h3⟩
theorem _root_.L2.Same.tup {K : PySem.W.Frag} {H H' : Hp} {a : Addr} {xs : List V} (e : Same H H') (h : SqT K H a xs) : SqT K H' a xs := by
  rcases h with (h | ⟨o, h⟩) | h
  · exact .inl (.inl (e _ _ h))
  · exact .inl (.inr ⟨o, e _ _ h⟩)
  · exact .inr h
theorem _root_.L2.Same.new {H : Hp} {p : Addr} {o : HO} (n : H p = none) : Same H (upd H p o) := fun b u e => by rw [upd_ne (ne_of_none e n)]; exact e
theorem _root_.L2.Same.set {H H' : Hp} {p : Addr} {o : HO} (s : Same H H') (n : H p = none) : Same H (upd H' p o) := fun b u e => by rw [upd_ne (ne_of_none e n)]; exact s b u e
theorem ifT {c : Bool} {A B : Prop} (hc : c = true) (h : A) : if c = true then A else B := by rw [if_pos hc]; exact h
theorem ifF {c : Bool} {A B : Prop} (hc : c = false) (h : B) : if c = true then A else B := by rw [hc, if_neg Bool.false_ne_true]; exact h
/-! ### better -/
def spBetter : Sp := fun vs H Q _ => ∃ (b : Bool) (x y : Int), vs = [kdV b, .int x, .int y] ∧ Q (.bl (if b then decide (y < x) else decide (x < y))) H
theorem scBetter : FnScope ["kind", "value", "other"] ["kind", "value", "other"] (defScope sBetter) := ⟨rfl, rfl, rfl, by decide +kernel, rfl, by decide +kernel, by decide +kernel⟩
section
variable {P : Program} {w : World} {K : PySem.W.Frag} {mg : Str → Option Value} {base : Heap}
theorem ok_better (T : Defs K mg) : FnOk P w K mg base CX0 1 T.fBetter T.dBetter ["kind", "value", "other"] spBetter := by
  refine T.FBetter.ok scBetter (fun vs H Q E h => ?_) (fun cdv A outer s H vs Q E hr h => ?_)
  · obtain ⟨b, x, y, rfl, _⟩ := h
    rfl
  · obtain ⟨b, x, y, rfl, k⟩ := h
    refine ⟨_, pss_cons (ps_if (pt_cmpR op_eq (pv 0) pe_str (nomark _)) (pss_one (ps_ret (pe_cmpR op_gt (pv 1) (pv 2) (nomark _)))) pss_nil)
      (pss_cons (ps_if (pt_cmpR op_eq (pv 0) pe_str (nomark _)) (pss_one (ps_ret (pe_cmpR op_lt (pv 1) (pv 2) (nomark _)))) pss_nil) (pss_one (ps_ret pe_bl))), ?_⟩
    refine ⟨_, rfl, rfl, _, rfl, ?_⟩
    cases b with
    | true =>
      refine ifT (by decide +kernel) ?_
      exact ⟨_, rfl, _, rfl, _, _, rfl, rfl, k⟩
    | false =>
      refine ifF (by decide +kernel) ⟨_, rfl, rfl, _, rfl, ?_⟩
      refine ifT (by decide +kernel) ?_
      exact ⟨_, rfl, _, rfl, _, _, rfl, rfl, k⟩
/-! ### first_unlike_on -/
def spFirstUn (K : PySem.W.Frag) : Sp := fun vs H Q _ => ∃ (p a b : Addr) (path : List Nat) (xs ys : List Int), vs = [.ref p, .ref a, .ref b] ∧ SqT K H p (nums path) ∧ SqT K H a (xs.map V.int) ∧ SqT K H b (ys.map V.int) ∧
  (∀ f ∈ path, f < xs.length ∧ f < ys.length) ∧ Q (oV (firstUn path xs ys)) H
theorem scFirstUn : FnScope ["path", "first", "second", "field"] ["path", "first", "second"] (defScope sFirstUn) := ⟨rfl, rfl, rfl, by decide +kernel, rfl, by decide +kernel, by decide +kernel⟩
theorem int_at {xs : List Int} {f : Nat} (h : f < xs.length) : atI (xs.map V.int) (f : Int) = some (.int (xs.getD f 0)) :=
  atI_nat (by rw [List.getElem?_map, List.getElem?_eq_getElem h, List.getD_eq_getElem?_getD, List.getElem?_eq_getElem h]; rfl)
theorem nums_get {l : List Nat} {i : Nat} {x : V} (h : (nums l)[i]? = some x) : ∃ f, l[i]? = some f ∧ x = .int (f : Int) := by
  rw [List.getElem?_map] at h
  cases e : l[i]? with
  | none => rw [e] at h; cases h
  | some f => rw [e] at h; exact ⟨f, rfl, (Option.some.inj h).symm⟩
theorem ok_firstUn (T : Defs K mg) : FnOk P w K mg base CX0 1 T.fFirstUn T.dFirstUn ["path", "first", "second"] (spFirstUn K) := by
  refine T.FFirstUn.ok scFirstUn (fun vs H Q E h => ?_) (fun cdv A outer s H vs Q E hr h => ?_)
  · obtain ⟨p, a, b, path, xs, ys, rfl, _⟩ := h
    rfl
  · obtain ⟨p, a, b, path, xs, ys, rfl, hp, ha, hb, hl, k⟩ := h
    refine ⟨_, pss_cons (ps_for PassesOwn.never rfl (pi_tup (pv 0)) (pg_name (i := 3) scFirstUn.nd rfl (Or.inl rfl))
      (pss_one (ps_if (pt_cmpR op_ne (pe_ix ix_tup (pv 1) (pv 3) (fun _ _ => rfl)) (pe_ix ix_tup (pv 2) (pv 3) (fun _ _ => rfl)) (nomark _)) (pss_one (ps_ret (pv 3))) pss_nil))) (pss_one (ps_ret pe_non)), ?_⟩
    refine ⟨_, rfl, p, rfl, ⟨_, hp⟩, for_tup (K := K) (a := p) (xs := nums path) (fun i σ H1 => ∃ v : Option V, σ = [some (.ref p), some (.ref a), some (.ref b), v] ∧ H1 = H ∧ firstUn (path.take i) xs ys = none)
      ⟨none, rfl, rfl, rfl⟩ (fun i σ H1 _ ⟨_, _, e, _⟩ => by rw [e]; exact hp) ?_ ?_⟩
    · rintro i x σ H1 hi ⟨v, rfl, rfl, hn⟩
      obtain ⟨f, hf, rfl⟩ := nums_get hi
      obtain ⟨h1, h2⟩ := hl f (List.mem_of_getElem? hf)
      refine ⟨_, rfl, _, rfl, a, _, _, _, rfl, rfl, ha, int_at h1, _, rfl, _, rfl, b, _, _, _, rfl, rfl, hb, int_at h2, rfl, _, rfl, ?_⟩
      have eU : firstUn (path.take (i + 1)) xs ys = if xs.getD f 0 ≠ ys.getD f 0 then some f else none := by
        have e1 : path.take (i + 1) = path.take i ++ [f] := by rw [List.take_add_one, hf]; rfl
        rw [e1]
        exact firstUn_snoc hn
      by_cases hq : xs.getD f 0 = ys.getD f 0
      · refine ifF (by rw [hq]; simp) ⟨_, rfl, rfl, ?_⟩
        rw [eU, if_neg (by simpa using hq)]
      · refine ifT (by simpa using hq) ⟨_, rfl, ?_⟩
        have e2 : firstUn path xs ys = some f := by
          have e3 : path = path.take (i + 1) ++ path.drop (i + 1) := (List.take_append_drop _ _).symm
          have e4 : firstUn (path.take (i + 1)) xs ys = some f := by rw [eU, if_pos hq]
          unfold firstUn at e4 ⊢
          rw [e3, List.find?_append, e4]
          rfl
        rw [e2] at k
        exact k
    · rintro σ H1 ⟨v, rfl, rfl, hn⟩
      have e5 : path.take (nums path).length = path := List.take_of_length_le (by simp)
      rw [e5] at hn
      rw [hn] at k
      exact k
end
end K38

namespace K38
open PySem L2
/-! ### path_of -/
/-- the parents lead from the k-th field of t down to its first -/
def ChainAt (ps : List (Option Nat)) (t : List Nat) (k : Nat) : Prop := ∀ j, j ≤ k → ps[t.getD j 0]? = some (if j = 0 then none else some (t.getD (j - 1) 0))
def seg (t : List Nat) (k j : Nat) : List Nat := ((t.take (k + 1)).drop j).reverse
theorem seg_step {t : List Nat} {k j : Nat} (hj : j ≤ k) (hk : k < t.length) : seg t k j = seg t k (j + 1) ++ [t.getD j 0] := by
  have hl : j < (t.take (k + 1)).length := by rw [List.length_take]; omega
  unfold seg
  rw [List.drop_eq_getElem_cons hl, List.reverse_cons, List.getElem_take, List.getD_eq_getElem?_getD, List.getElem?_eq_getElem (by omega)]
  rfl
theorem seg_top {t : List Nat} {k : Nat} (hk : k < t.length) : seg t k k = [t.getD k 0] := by
  rw [seg_step (Nat.le_refl _) hk]
  unfold seg
  rw [List.drop_of_length_le (by rw [List.length_take]; omega)]
  rfl
theorem seg_all (t : List Nat) (k : Nat) : (seg t k 0).reverse = t.take (k + 1) := by
  unfold seg
  rw [List.reverse_reverse, List.drop_zero]
theorem par_at {ps : List (Option Nat)} {f : Nat} {o : Option Nat} (h : ps[f]? = some o) : atI (ps.map oV) (f : Int) = some (oV o) :=
  atI_nat (by rw [List.getElem?_map, h]; rfl)
theorem last_nums (l : List Nat) (f : Nat) : atI (nums (l ++ [f])) (-1) = some (.int (f : Int)) := by
  rw [show nums (l ++ [f]) = nums l ++ [iV f] from List.map_append]
  exact atI_last _ _
def spPathOf (K : PySem.W.Frag) : Sp := fun vs H Q _ => ∃ (p : Addr) (ps : List (Option Nat)) (t : List Nat) (k : Nat), vs = [.ref p, .int ((t.getD k 0 : Nat) : Int)] ∧ SqT K H p (ps.map oV) ∧ k < t.length ∧ t.length ≤ 100 ∧ ChainAt ps t k ∧
  ∀ H' q, Same H H' → H q = none → H' q = some (.tup (nums (t.take (k + 1)))) → Q (.ref q) H'
theorem scPathOf : FnScope ["parents", "field", "path"] ["parents", "field"] (defScope sPathOf) := ⟨rfl, rfl, rfl, by decide +kernel, rfl, by decide +kernel, by decide +kernel⟩
section
variable {P : Program} {w : World} {K : PySem.W.Frag} {mg : Str → Option Value} {base : Heap}
theorem ok_pathOf (T : Defs K mg) : FnOk P w K mg base CX0 1 T.fPathOf T.dPathOf ["parents", "field"] (spPathOf K) := by
  refine T.FPathOf.ok scPathOf (fun vs H Q E h => ?_) (fun cdv A outer s H vs Q E hr h => ?_)
  · obtain ⟨p, ps, t, k, rfl, _⟩ := h
    rfl
  · obtain ⟨p, ps, t, k, rfl, hp, hk, hlen, hc, kq⟩ := h
    refine ⟨_, pss_cons (ps_set (i := 2) scPathOf.nd rfl (Or.inl rfl) (pe_lst (pa_cons (pv 1) pa_nil)))
      (pss_cons (ps_while PassesOwn.never (pt_cmp (pc_notN (pe_ix ix_tup (pv 0) (pe_ix ix_list (pv 2) (pe_un un_neg pe_int) (fun _ _ => rfl)) (fun _ _ => rfl))))
        (pss_one (ps_expr (pe_bm PySem.F.plainAttrs_list PySem.F.slot_list_append PySem.F.type_list_append mt_append (pv 2) (pa_cons (pe_ix ix_tup (pv 0) (pe_ix ix_list (pv 2) (pe_un un_neg pe_int) (fun _ _ => rfl)) (fun _ _ => rfl)) pa_nil)))))
      (pss_one (ps_ret (pe_callTy call_tuple_of rfl T.b_tuple (by decide +kernel) (pa_cons (pe_revL (pv 2)) pa_nil))))), ?_⟩
    refine ⟨_, rfl, (by show 1 ≤ sizeLine; decide), fun l nl => ?_⟩
    refine ⟨fun j σ H1 => j ≤ k ∧ σ = [some (.ref p), some (.int ((t.getD k 0 : Nat) : Int)), some (.ref l)] ∧ Same H H1 ∧ H1 l = some (.lst (nums (seg t k j))), ⟨k, Nat.le_refl _, rfl, Same.new nl, ?_⟩, ?_⟩
    · rw [upd_same, seg_top hk]
      rfl
    · rintro j σ H1 ⟨hj, rfl, s1, h1⟩
      have e1 := seg_step hj hk
      have at1 : atI (nums (seg t k j)) (-1) = some (.int ((t.getD j 0 : Nat) : Int)) := by rw [e1]; exact last_nums _ _
      have at2 := par_at (hc j hj)
      refine ⟨_, rfl, _, rfl, _, rfl, l, _, _, _, rfl, rfl, SqL.of h1, at1, p, _, _, _, rfl, rfl, s1.tup hp, at2, _, rfl, ?_⟩
      cases j with
      | zero =>
        refine ifF rfl ⟨_, rfl, l, _, rfl, SqL.of h1, fun r nr => ?_⟩
        refine ⟨r, _, rfl, .inl ⟨SqL.of upd_same, fun q nq => ?_⟩⟩
        have s2 : Same H (upd H1 r (.lst (nums (seg t k 0)).reverse)) := s1.set (s1.free nr)
        refine kq _ q (s2.set (s2.free nq)) (s2.free nq) ?_
        rw [upd_same, ← List.map_reverse, seg_all]
      | succ j =>
        refine ifT rfl ⟨fun σ H2 => j ≤ k ∧ σ = [some (.ref p), some (.int ((t.getD k 0 : Nat) : Int)), some (.ref l)] ∧ Same H H2 ∧ H2 l = some (.lst (nums (seg t k j))), fun σ' H' z => ⟨j, Nat.lt_succ_self _, z⟩, ?_⟩
        refine ⟨_, rfl, .inl ⟨rfl, _, SqL.of h1⟩, _, rfl, _, rfl, _, rfl, l, _, _, _, rfl, rfl, SqL.of h1, at1, p, _, _, _, rfl, rfl, s1.tup hp, at2, l, _, _, rfl, rfl, h1, ?_, ?_⟩
        · unfold seg
          rw [List.length_map, List.length_reverse, List.length_drop, List.length_take]
          have : (100 : Nat) < sizeLine := by decide
          omega
        · refine ⟨Nat.le_of_succ_le hj, rfl, s1.set nl, ?_⟩
          rw [upd_same, seg_step (Nat.le_of_succ_le hj) hk]
          show _ = some (HO.lst (List.map iV _))
          rw [List.map_append]
          rfl
end
end K38

namespace K38
open PySem L2
section
variable {P : Program} {w : World} {K : PySem.W.Frag} {mg : Str → Option Value} {base : Heap}
theorem b_better (T : Defs K mg) : Binds K T.dBetter ["kind", "value", "other"] [] := T.FBetter.binds fun _ _ _ _ _ _ us hl => match us, hl with | [_, _, _], _ => rfl
theorem b_firstUn (T : Defs K mg) : Binds K T.dFirstUn ["path", "first", "second"] [] := T.FFirstUn.binds fun _ _ _ _ _ _ us hl => match us, hl with | [_, _, _], _ => rfl
theorem b_pathOf (T : Defs K mg) : Binds K T.dPathOf ["parents", "field"] [] := T.FPathOf.binds fun _ _ _ _ _ _ us hl => match us, hl with | [_, _], _ => rfl
/-! ### merged_record -/
def spMerged (K : PySem.W.Frag) : Sp := fun vs H Q _ => ∃ (p q a b : Addr) (n : Nat) (c : Ch) (xs ys : List Int), vs = [.ref p, .ref q, .ref a, .ref b] ∧ SqT K H p ((pars n c.1).map oV) ∧ SqT K H q (c.2.map kdV) ∧ SqT K H a (xs.map V.int) ∧ SqT K H b (ys.map V.int) ∧
  Good n c.1 ∧ n ≤ 100 ∧ c.2.length = n ∧ xs.length = n ∧ ys.length = n ∧ ∀ H' r, Same H H' → H r = none → H' r = some (.tup ((mergeC c xs ys).map V.int)) → Q (.ref r) H'
theorem scMerged : FnScope ["parents", "kinds", "older", "newer", "result", "field", "place"] ["parents", "kinds", "older", "newer"] (defScope sMerged) := ⟨rfl, rfl, rfl, by decide +kernel, rfl, by decide +kernel, by decide +kernel⟩
theorem kd_at {ks : List Bool} {g : Nat} (h : g < ks.length) : atI (ks.map kdV) (g : Int) = some (kdV (ks.getD g true)) :=
  atI_nat (by rw [List.getElem?_map, List.getElem?_eq_getElem h, List.getD_eq_getElem?_getD, List.getElem?_eq_getElem h]; rfl)
theorem take_snoc {zs : List Int} {i : Nat} (h : i < zs.length) : (zs.take (i + 1)).map V.int = (zs.take i).map V.int ++ [V.int (zs.getD i 0)] := by
  rw [List.take_add_one, List.getElem?_eq_getElem h, List.getD_eq_getElem?_getD, List.getElem?_eq_getElem h, List.map_append]
  rfl
theorem line100 {n : Nat} (h : n ≤ 100) : n < sizeLine := Nat.lt_of_le_of_lt h (by decide)
theorem ok_merged (T : Defs K mg) : FnOk P w K mg base CX0 2 T.fMerged T.dMerged ["parents", "kinds", "older", "newer"] (spMerged K) := by
  have GB := ok_better (P := P) (w := w) (base := base) T
  have GF := ok_firstUn (P := P) (w := w) (base := base) T
  have GP := ok_pathOf (P := P) (w := w) (base := base) T
  refine T.FMerged.ok scMerged (fun vs H Q E h => ?_) (fun cdv A outer s H vs Q E hr h => ?_)
  · obtain ⟨p, q, a, b, n, c, xs, ys, rfl, _⟩ := h
    rfl
  · obtain ⟨p, q, a, b, n, c, xs, ys, rfl, hp, hq, ha, hb, g, hn, hk, hx, hy, kq⟩ := h
    refine ⟨_, pss_cons (ps_set (i := 4) scMerged.nd rfl (Or.inl rfl) (pe_lst pa_nil))
      (pss_cons (ps_for PassesOwn.never rfl (pi_range1 rfl T.b_range (pa_cons (pe_callB call_len_seq rfl T.b_len PySem.boot_len (pa_cons (pv 0) pa_nil)) pa_nil)) (pg_name (i := 5) scMerged.nd rfl (Or.inl rfl))
        (pss_cons (ps_set (i := 6) scMerged.nd rfl (Or.inl rfl) (pe_call GF hr rfl T.mFirstUn T.FFirstUn.kp (b_firstUn T) .nil pass0
            (pa_cons (pe_call GP hr rfl T.mPathOf T.FPathOf.kp (b_pathOf T) .nil pass0 (pa_cons (pv 0) (pa_cons (pv 5) pa_nil))) (pa_cons (pv 2) (pa_cons (pv 3) pa_nil)))))
        (pss_one (ps_if (PW.pt (pw_or (pt_cmp (pc_isN (pv 6))) (pw_or (pt_cmpR op_eq (pe_ix ix_tup (pv 1) (pv 6) (fun _ _ => rfl)) pe_str (nomark _)) (pw_or1 (pt_val (pe_call GB hr rfl T.mBetter T.FBetter.kp (b_better T) .nil pass0
              (pa_cons (pe_ix ix_tup (pv 1) (pv 6) (fun _ _ => rfl)) (pa_cons (pe_ix ix_tup (pv 2) (pv 6) (fun _ _ => rfl)) (pa_cons (pe_ix ix_tup (pv 3) (pv 6) (fun _ _ => rfl)) pa_nil)))))))))
          (pss_one (ps_expr (pe_bm PySem.F.plainAttrs_list PySem.F.slot_list_append PySem.F.type_list_append mt_append (pv 4) (pa_cons (pe_ix ix_tup (pv 2) (pv 5) (fun _ _ => rfl)) pa_nil))))
          (pss_one (ps_expr (pe_bm PySem.F.plainAttrs_list PySem.F.slot_list_append PySem.F.type_list_append mt_append (pv 4) (pa_cons (pe_ix ix_tup (pv 3) (pv 5) (fun _ _ => rfl)) pa_nil))))))))
      (pss_one (ps_ret (pe_callTy call_tuple_of rfl T.b_tuple (by decide +kernel) (pa_cons (pv 4) pa_nil))))), ?_⟩
    refine ⟨(by show 0 ≤ sizeLine; decide), fun l nl => ?_⟩
    have s0 : Same H (upd H l (.lst [])) := Same.new nl
    have zl : (mergeC c xs ys).length = n := mergeC_len hx hy
    refine ⟨_, rfl, p, _, rfl, .inr (s0.tup hp), _, rfl, (by omega), (by rw [List.length_map, g.plen]; omega), ?_⟩
    refine for_range (lo := 0) (n := _) (fun i σ H1 => ∃ v5 v6 : Option V, σ = [some (.ref p), some (.ref q), some (.ref a), some (.ref b), some (.ref l), v5, v6] ∧ Same H H1 ∧ H1 l = some (.lst (((mergeC c xs ys).take i).map V.int)))
      ⟨none, none, rfl, s0, upd_same⟩ ?_ ?_
    · rintro i σ H1 hi ⟨v5, v6, rfl, s1, h1⟩
      rw [Int.zero_add]
      have hi' : i < n := by
        rw [List.length_map, g.plen] at hi
        omega
      obtain ⟨k, hk', ek⟩ := g.at_ hi'
      have hkn : k < n := by rw [← g.len]; exact hk'
      refine ⟨_, rfl, _, rfl, p, _, c.1, k, (by rw [ek]; rfl), s1.tup hp, hk', (by rw [g.len]; exact hn), fun j hj => g.par j (by omega), fun H2 r s2 nr h2 => ?_⟩
      have s12 := s1.trans s2
      have lt_of : ∀ f ∈ c.1.take (k + 1), f < n := fun f hf => g.lt f (List.mem_of_mem_take hf)
      refine ⟨_, rfl, _, rfl, r, a, b, c.1.take (k + 1), xs, ys, rfl, SqT.of h2, s12.tup ha, s12.tup hb, fun f hf => by rw [hx, hy]; exact ⟨lt_of f hf, lt_of f hf⟩, ?_⟩
      have h2l := s2 _ _ h1
      have done : ∀ z : Int, z = (mergeC c xs ys).getD i 0 → ∀ v6', ∃ v5 v6 : Option V, [some (V.ref p), some (V.ref q), some (V.ref a), some (V.ref b), some (V.ref l), some (V.int (i : Int)), v6'] = [some (V.ref p), some (V.ref q), some (V.ref a), some (V.ref b), some (V.ref l), v5, v6] ∧
          Same H (upd H2 l (.lst (((mergeC c xs ys).take i).map V.int ++ [V.int z]))) ∧ (upd H2 l (.lst (((mergeC c xs ys).take i).map V.int ++ [V.int z]))) l = some (.lst (((mergeC c xs ys).take (i + 1)).map V.int)) := fun z ez v6' => by
        refine ⟨_, _, rfl, s12.set nl, ?_⟩
        rw [upd_same, ez, take_snoc (by omega)]
      have sz : (((mergeC c xs ys).take i).map V.int).length < sizeLine := by
        rw [List.length_map, List.length_take]
        exact line100 (by omega)
      have pre : firstUn (c.1.take (k + 1)) xs ys = none → xs.getD i 0 = (mergeC c xs ys).getD i 0 := fun z => by
        have := merge_none hk' z
        rwa [ek] at this
      cases hu : firstUn (c.1.take (k + 1)) xs ys with
      | none =>
        refine ⟨_, rfl, _, rfl, ifT rfl (ifT rfl ?_)⟩
        refine ⟨_, rfl, .inl ⟨rfl, _, SqL.of h2l⟩, _, rfl, _, rfl, a, _, _, _, rfl, rfl, s12.tup ha, int_at (by omega), l, _, _, rfl, rfl, h2l, sz, ?_⟩
        exact done _ (pre hu) _
      | some f =>
        have hf := lt_of f (firstUn_some hu).1
        refine ⟨_, rfl, _, rfl, ifF rfl ?_⟩
        refine ⟨_, rfl, _, rfl, q, _, _, _, rfl, rfl, s12.tup hq, kd_at (by omega), rfl, _, rfl, ifF (by cases c.2.getD f true <;> decide +kernel) ?_⟩
        refine ⟨_, rfl, _, rfl, q, _, _, _, rfl, rfl, s12.tup hq, kd_at (by omega), _, rfl, _, rfl, a, _, _, _, rfl, rfl, s12.tup ha, int_at (by omega), _, rfl, _, rfl, b, _, _, _, rfl, rfl, s12.tup hb, int_at (by omega), _, _, _, rfl, _, rfl, ?_⟩
        have e := merge_some hu i
        unfold bet at e
        refine ite2 (fun t => ?_) (fun t => ?_)
        · rw [if_pos t] at e
          refine ⟨_, rfl, .inl ⟨rfl, _, SqL.of h2l⟩, _, rfl, _, rfl, a, _, _, _, rfl, rfl, s12.tup ha, int_at (by omega), l, _, _, rfl, rfl, h2l, sz, ?_⟩
          exact done _ e _
        · rw [if_neg t] at e
          refine ⟨_, rfl, .inl ⟨rfl, _, SqL.of h2l⟩, _, rfl, _, rfl, b, _, _, _, rfl, rfl, s12.tup hb, int_at (by omega), l, _, _, rfl, rfl, h2l, sz, ?_⟩
          exact done _ e _
    · rintro σ H1 ⟨v5, v6, rfl, s1, h1⟩
      refine ⟨_, rfl, l, _, rfl, .inl ⟨SqL.of h1, fun r nr => ?_⟩⟩
      refine kq _ r (s1.set (s1.free nr)) (s1.free nr) ?_
      rw [upd_same, List.take_of_length_le (by rw [List.length_map, g.plen, zl]; omega)]
end
end K38

namespace K38
open PySem L2
theorem Good.parent {n : Nat} {t : List Nat} (g : Good n t) {f : Nat} (hf : f < n) : ∃ o, (pars n t)[f]? = some o ∧ ∀ p, o = some p → p < n := by
  obtain ⟨k, hk, e⟩ := g.at_ hf
  have hk' : k < n := by rw [← g.len]; exact hk
  refine ⟨_, by rw [← e]; exact g.par k hk', fun p hp => ?_⟩
  split at hp
  · cases hp
  · cases hp
    refine g.lt _ ?_
    rw [List.getD_eq_getElem?_getD, List.getElem?_eq_getElem (by omega)]
    exact List.getElem_mem _
/-! ### never_ends -/
def plc (t : List Nat) (k i : Nat) : V := if i ≤ k then .int ((t.getD (k - i) 0 : Nat) : Int) else .non
def spNevEnd (K : PySem.W.Frag) : Sp := fun vs H Q _ => ∃ (p : Addr) (ps : List (Option Nat)) (t : List Nat) (k : Nat), vs = [.ref p, .int ((t.getD k 0 : Nat) : Int)] ∧ SqL K H p (ps.map oV) ∧ ChainAt ps t k ∧ k < ps.length ∧ ps.length ≤ 100 ∧ Q (.bl false) H
theorem scNevEnd : FnScope ["parents", "field", "place", "_"] ["parents", "field"] (defScope sNevEnd) := ⟨rfl, rfl, rfl, by decide +kernel, rfl, by decide +kernel, by decide +kernel⟩
section
variable {P : Program} {w : World} {K : PySem.W.Frag} {mg : Str → Option Value} {base : Heap}
theorem ok_nevEnd (T : Defs K mg) : FnOk P w K mg base CX0 1 T.fNevEnd T.dNevEnd ["parents", "field"] (spNevEnd K) := by
  refine T.FNevEnd.ok scNevEnd (fun vs H Q E h => ?_) (fun cdv A outer s H vs Q E hr h => ?_)
  · obtain ⟨p, ps, t, k, rfl, _⟩ := h
    rfl
  · obtain ⟨p, ps, t, k, rfl, hp, hc, hk, hl, kq⟩ := h
    refine ⟨_, pss_cons (ps_set (i := 2) scNevEnd.nd rfl (Or.inl rfl) (pv 1))
      (pss_cons (ps_for PassesOwn.never rfl (pi_range1 rfl T.b_range (pa_cons (pe_callB call_len_seq rfl T.b_len PySem.boot_len (pa_cons (pv 0) pa_nil)) pa_nil)) (pg_name (i := 3) scNevEnd.nd rfl (Or.inl rfl))
        (pss_cons (ps_if (pt_cmp (pc_isN (pv 2))) (pss_one (ps_ret pe_bl)) pss_nil)
        (pss_one (ps_set (i := 2) scNevEnd.nd rfl (Or.inl rfl) (pe_ix ix_list (pv 0) (pv 2) (fun _ _ => rfl))))))
      (pss_one (ps_ret (pe_cmp (pc_notN (pv 2)))))), ?_⟩
    refine ⟨_, rfl, _, rfl, p, _, rfl, .inl hp, _, rfl, (by omega), (by rw [List.length_map]; omega), ?_⟩
    refine for_range (lo := 0) (n := _) (fun i σ H1 => i ≤ k + 1 ∧ H1 = H ∧ ∃ v3 : Option V, σ = [some (.ref p), some (.int ((t.getD k 0 : Nat) : Int)), some (plc t k i), v3]) ⟨Nat.zero_le _, rfl, none, rfl⟩ ?_ ?_
    · rintro i σ H1 hi ⟨hik, rfl, v3, rfl⟩
      by_cases h1 : i ≤ k
      · have e : plc t k i = .int ((t.getD (k - i) 0 : Nat) : Int) := if_pos h1
        rw [e]
        have at1 := par_at (hc (k - i) (by omega))
        refine ⟨_, rfl, _, rfl, ifF rfl ⟨_, rfl, _, rfl, p, _, _, _, rfl, rfl, hp, at1, ?_⟩⟩
        refine ⟨by omega, rfl, some (.int (0 + (i : Int))), ?_⟩
        have e2 : plc t k (i + 1) = oV (if k - i = 0 then none else some (t.getD (k - i - 1) 0)) := by
          unfold plc
          by_cases h2 : k - i = 0
          · rw [if_neg (by omega), if_pos h2]
            rfl
          · rw [if_pos (by omega), if_neg h2, Nat.sub_sub]
            rfl
        rw [e2]
        rfl
      · have e : plc t k i = .non := if_neg h1
        rw [e]
        exact ⟨_, rfl, _, rfl, ifT rfl kq⟩
    · rintro σ H1 ⟨hik, rfl, v3, rfl⟩
      have e : plc t k ((ps.map oV).length : Int).toNat = .non := if_neg (by rw [List.length_map]; omega)
      rw [e]
      exact ⟨_, rfl, kq⟩
theorem b_nevEnd (T : Defs K mg) : Binds K T.dNevEnd ["parents", "field"] [] := T.FNevEnd.binds fun _ _ _ _ _ _ us hl => match us, hl with | [_, _], _ => rfl
/-! ### check_shape -/
def spChkShape (K : PySem.W.Frag) : Sp := fun vs H Q _ => ∃ (p q : Addr) (n : Nat) (c : Ch), vs = [.ref p, .ref q] ∧ SqL K H p ((pars n c.1).map oV) ∧ SqL K H q (c.2.map kdV) ∧ Good n c.1 ∧ 1 ≤ n ∧ n ≤ 16 ∧ c.2.length = n ∧ ∀ H', Same H H' → Q .non H'
theorem scChkShape : FnScope ["parents", "kinds", "fields", "field"] ["parents", "kinds"] (defScope sChkShape) := ⟨rfl, rfl, rfl, by decide +kernel, rfl, by decide +kernel, by decide +kernel⟩
theorem ok_chkShape (T : Defs K mg) : FnOk P w K mg base CX0 2 T.fChkShape T.dChkShape ["parents", "kinds"] (spChkShape K) := by
  have GN := ok_nevEnd (P := P) (w := w) (base := base) T
  refine T.FChkShape.ok scChkShape (fun vs H Q E h => ?_) (fun cdv A outer s H vs Q E hr h => ?_)
  · obtain ⟨p, q, n, c, rfl, _⟩ := h
    rfl
  · obtain ⟨p, q, n, c, rfl, hp, hq, g, h1, h16, hk, kq⟩ := h
    refine ⟨_, pss_cons (ps_set (i := 2) scChkShape.nd rfl (Or.inl rfl) (pe_callB call_len_seq rfl T.b_len PySem.boot_len (pa_cons (pv 0) pa_nil)))
      (pss_cons (ps_if (PW.pt (pw_or (pt_cmpR op_ne (pv 2) (pe_callB call_len_seq rfl T.b_len PySem.boot_len (pa_cons (pv 1) pa_nil)) (nomark _)) (pw_or1 (pt_not (pt_chain op_le op_le pe_int (pv 2) (pe_glob (v := .int 16) rfl T.mMost ⟨_, rfl⟩)))))) pss_never pss_nil)
      (pss_cons (ps_for PassesOwn.never rfl (pi_range1 rfl T.b_range (pa_cons (pv 2) pa_nil)) (pg_name (i := 3) scChkShape.nd rfl (Or.inl rfl))
        (pss_one (ps_if (PW.pt (pw_and (pt_cmp (pc_notN (pe_ix ix_list (pv 0) (pv 3) (fun _ _ => rfl)))) (pw_and1 (pt_not (pt_chain op_le op_lt pe_int (pe_ix ix_list (pv 0) (pv 3) (fun _ _ => rfl)) (pv 2)))))) pss_never pss_nil)))
      (pss_cons (ps_for PassesOwn.never rfl (pi_range1 rfl T.b_range (pa_cons (pv 2) pa_nil)) (pg_name (i := 3) scChkShape.nd rfl (Or.inl rfl))
        (pss_one (ps_if (pt_val (pe_call GN hr rfl T.mNevEnd T.FNevEnd.kp (b_nevEnd T) .nil pass0 (pa_cons (pv 0) (pa_cons (pv 3) pa_nil)))) pss_never pss_nil)))
      (pss_one (ps_for PassesOwn.never rfl (pi_range1 rfl T.b_range (pa_cons (pv 2) pa_nil)) (pg_name (i := 3) scChkShape.nd rfl (Or.inl rfl))
        (pss_one (ps_if (PW.pt (pw_and (pt_cmpR op_in_seq (pe_ix ix_list (pv 1) (pv 3) (fun _ _ => rfl)) (pe_tup (pa_cons pe_str (pa_cons pe_str pa_nil))) (by rfl)) (pw_and1 (pt_cmpR op_in_seq (pv 3) (pv 0) (by rfl))))) pss_never pss_nil))))))), ?_⟩
    have el : (((pars n c.1).map oV).length : Int) = (n : Int) := by rw [List.length_map, g.plen]
    refine ⟨_, rfl, p, _, rfl, .inl hp, ?_⟩
    rw [el]
    refine ⟨_, rfl, _, rfl, q, _, rfl, .inl hq, rfl, _, rfl, ifF (by rw [List.length_map, hk]; simp) ?_⟩
    refine ⟨_, rfl, _, _, rfl, rfl, _, rfl, ifT (decide_eq_true (by omega)) ⟨_, _, rfl, rfl, _, rfl, ifF ?_ ?_⟩⟩
    · rw [Bool.not_eq_false']
      exact decide_eq_true (by omega)
    -- the parents are fields
    refine ⟨_, rfl, _, rfl, (by omega), (by omega), ?_⟩
    refine for_range (lo := 0) (n := _) (fun i σ H1 => H1 = H ∧ ∃ v3 : Option V, σ = [some (.ref p), some (.ref q), some (.int (n : Int)), v3]) ⟨rfl, none, rfl⟩ ?_ ?_
    · rintro i σ H1 hi ⟨rfl, v3, rfl⟩
      rw [Int.zero_add]
      obtain ⟨o, ho, hlt⟩ := g.parent (f := i) (by omega)
      refine ⟨_, rfl, _, rfl, p, _, _, _, rfl, rfl, hp, par_at ho, _, rfl, ?_⟩
      cases o with
      | none => exact ifF rfl (ifF rfl ⟨rfl, _, rfl⟩)
      | some f =>
        have hf := hlt f rfl
        refine ifT rfl ⟨_, rfl, _, rfl, p, _, _, _, rfl, rfl, hp, par_at ho, _, _, rfl, rfl, _, rfl, ifT (decide_eq_true (by omega)) ⟨_, rfl, _, _, rfl, rfl, _, rfl, ifF ?_ ⟨rfl, _, rfl⟩⟩⟩
        rw [Bool.not_eq_false']
        exact decide_eq_true (by omega)
    rintro σ H1 ⟨rfl, v3, rfl⟩
    -- the ways end
    refine ⟨_, rfl, _, rfl, (by omega), (by omega), ?_⟩
    refine for_range (lo := 0) (n := _) (fun i σ H2 => H2 = H1 ∧ ∃ v3 : Option V, σ = [some (.ref p), some (.ref q), some (.int (n : Int)), v3]) ⟨rfl, v3, rfl⟩ ?_ ?_
    · rintro i σ H2 hi ⟨rfl, v4, rfl⟩
      rw [Int.zero_add]
      obtain ⟨k, hk', ek⟩ := g.at_ (f := i) (by omega)
      have hkn : k < n := by rw [← g.len]; exact hk'
      exact ⟨_, rfl, _, rfl, p, _, c.1, k, (by rw [ek]; rfl), hp, fun j hj => g.par j (by omega), by rw [g.plen]; exact hkn, by rw [g.plen]; omega, _, rfl, ifF rfl ⟨rfl, _, rfl⟩⟩
    rintro σ H2 ⟨rfl, v4, rfl⟩
    -- the kinds are fair
    refine ⟨_, rfl, _, rfl, (by omega), (by omega), ?_⟩
    refine for_range (lo := 0) (n := _) (fun i σ H3 => Same H2 H3 ∧ ∃ v3 : Option V, σ = [some (.ref p), some (.ref q), some (.int (n : Int)), v3]) ⟨Same.refl _, v4, rfl⟩ ?_ ?_
    · rintro i σ H3 hi ⟨s3, v5, rfl⟩
      rw [Int.zero_add]
      refine ⟨_, rfl, _, rfl, q, _, _, _, rfl, rfl, s3.seq hq, kd_at (by omega), (by show 2 ≤ sizeLine; decide), fun r nr => ⟨r, _, rfl, .inr (SqT.of upd_same), rfl, rfl, _, rfl, ?_⟩⟩
      exact ifF (by cases c.2.getD i true <;> decide +kernel) (ifF rfl ⟨s3.set (s3.free nr), _, rfl⟩)
    rintro σ H3 ⟨s3, v5, rfl⟩
    exact kq H3 s3
theorem b_chkShape (T : Defs K mg) : Binds K T.dChkShape ["parents", "kinds"] [] := T.FChkShape.binds fun _ _ _ _ _ _ us hl => match us, hl with | [_, _], _ => rfl
end
end K38

/-! R1: t[::-1] of a tuple -/
namespace K38
open PySem PySem.Spec PyProof.Rows L2
section
variable {prog : Program} {w : World} {A : Around} {E : Value → Shared → Prop} {s : Shared}
theorem places_back (n : Nat) : Builtin.Slice.slicePlaces ((n : Int) - 1) (-1) (-1) = n := by
  unfold Builtin.Slice.slicePlaces
  rw [if_neg (show ¬ ((-1 : Int) > 0) by decide), show (- -1 : Int) = 1 by decide, Int.ediv_one]
  by_cases h : (n : Int) - 1 > -1
  · rw [if_pos h]
    omega
  · rw [if_neg h]
    omega
theorem applied_back {sl : Addr} {vs : Value} {n : Nat} {Q : Int × Int × Nat → Shared → Prop} (hs : s.heap.IsSliceOf sl .none .none vs) (ps : IsPart vs (some (-1)))
    (h : Q ((n : Int) - 1, -1, n) s) : wpAny (model prog w) A (Builtin.Slice.sliceApplied (.ref sl) (pure (n : Int))) Q E s := by
  obtain ⟨os, hos, hcs, hds⟩ := id hs
  unfold Builtin.Slice.sliceApplied Builtin.Slice.sliceFields
  refine wpAny_bind (wpAny_bind (wpAny_field hos hds (x := .none) rfl (wpAny_bind (wpAny_field hos hds (x := .none) rfl (wpAny_bind (wpAny_field hos hds (x := vs) rfl (wpAny_pure ?_)))))))
  refine wpAny_bind (HT.slicePart_ ps ?_)
  show wpAny _ _ (if ((-1 : Int) == 0) = true then _ else _) _ _ s
  rw [if_neg (by decide)]
  refine wpAny_bind (HT.slicePart_ .none (wpAny_bind (HT.slicePart_ .none (wpAny_bind (wpAny_pure ?_)))))
  show wpAny _ _ (pure ((n : Int) - 1, (-1 : Int), Builtin.Slice.slicePlaces ((n : Int) - 1) (-1) (-1))) _ _ s
  rw [places_back]
  exact wpAny_pure h
theorem fm_some {α β : Type} {f : α → Option β} {g : α → β} : ∀ l : List α, (∀ k ∈ l, f k = some (g k)) → l.filterMap f = l.map g
  | [], _ => rfl
  | a :: l, h => by rw [List.filterMap_cons_some (h a (by simp)), List.map_cons, fm_some l fun k hk => h k (List.mem_cons_of_mem _ hk)]
theorem pick_back (l : List Value) : ((List.range l.length).filterMap fun (k : Nat) => l.toArray[((l.length : Int) - 1 + (k : Int) * (-1)).toNat]?) = l.reverse := by
  apply List.ext_getElem?
  intro i
  have e : (fun (k : Nat) => l.toArray[((l.length : Int) - 1 + (k : Int) * (-1)).toNat]?) = fun k => l[l.length - 1 - k]? := by
    funext k
    have : ((l.length : Int) - 1 + (k : Int) * (-1)).toNat = l.length - 1 - k := by omega
    rw [this]
    simp
  rw [e]
  have e2 : (List.range l.length).filterMap (fun k => l[l.length - 1 - k]?) = (List.range l.length).map fun k => l.getD (l.length - 1 - k) default := by
    refine fm_some _ fun k hk => ?_
    have := List.mem_range.mp hk
    rw [List.getD_eq_getElem?_getD, List.getElem?_eq_getElem (by omega)]
    rfl
  rw [e2, List.getElem?_map]
  by_cases h : i < l.length
  · rw [List.getElem?_range h, List.getElem?_reverse h]
    rw [List.getElem?_eq_getElem (by omega), Option.map_some, List.getD_eq_getElem?_getD, List.getElem?_eq_getElem (by omega)]
    rfl
  · rw [List.getElem?_eq_none (by simpa using h), List.getElem?_eq_none (by simpa using h)]
    rfl
theorem getItem_back {t sl : Addr} {its : List Value} {vs : Value} {Q : Value → Shared → Prop} (ht : IsTup s.heap t its.toArray) (hs : s.heap.IsSliceOf sl .none .none vs) (ps : IsPart vs (some (-1)))
    (h : Q (.ref s.heap.objs.size) { s with heap := s.heap.push { cls := .type "tuple", data := .seq its.reverse.toArray } }) (hz : its.length ≤ sizeLine) : wpAny (model prog w) A (getItem (.ref t) (.ref sl)) Q E s := by
  obtain ⟨os, hos, hcs, hds⟩ := id hs
  have hTs : s.TypeIs (.ref sl) "slice" := ⟨os, hos, hcs⟩
  have hr : sizeOk (.seq its.reverse.toArray) := by
    show its.reverse.toArray.size ≤ sizeLine
    rw [List.size_toArray, List.length_reverse]
    exact hz
  unfold getItem
  try with_reducible refine wpAny_holding ?_
  first | refine wpAny_bind (wpAny_pure ?_) | skip
  refine wpAny_bind (wpAny_sequenceKey ht.typeIs (by decide) ?_)
  refine wpAny_bind (wpAny_callSpecial?_slot (name := Str.ofString "__getitem__") ht.typeIs PyProof.Rows.slot_tuple_getitem
    (wpAny_call_entry PyProof.Rows.slot_tuple_getitem ht.typeIs entry_tuple_getitem ?_ (args_tuple_getitem _ _)))
  show wpAny _ _ (Builtin.Tuple.tupleItemsOf (.ref t) >>= _) _ _ s
  refine wpAny_bind (tupleItemsOf_ ht ?_)
  refine wpAny_bind (wpAny_typeOf hTs ?_)
  rw [if_pos (by decide)]
  refine wpAny_bind (applied_back hs ps ?_)
  have hno : ¬ ((((its.toArray.size : Int) - 1) == 0 && (-1 : Int) == 1 && its.toArray.size == its.toArray.size) = true) := by
    rw [show ((-1 : Int) == 1) = false by decide]
    simp
  show wpAny _ _ (if (((its.toArray.size : Int) - 1) == 0 && (-1 : Int) == 1 && its.toArray.size == its.toArray.size) = true then _ else _) _ _ s
  rw [if_neg hno]
  have ep := pick_back its
  show wpAny _ _ (Builtin.Tuple.tupleExact ((List.range its.toArray.size).filterMap fun (k : Nat) => its.toArray[((its.toArray.size : Int) - 1 + (k : Int) * (-1)).toNat]?).toArray >>= _) _ _ s
  rw [List.size_toArray, ep]
  first
    | exact wpAny_bind (m := Builtin.Tuple.tupleExact _) (wpAny_newObj_type (wpAny_pure ⟨_, rfl, wpAny_pure h⟩) hr)
    | exact wpAny_bind (m := Builtin.Tuple.tupleExact _) (wpAny_newObj_type (wpAny_bind (wpAny_pure (wpAny_pure ⟨_, rfl, wpAny_pure h⟩))) hr)
end
def tRevT (K : PySem.W.Frag) (te : TE) : TE := fun σ H Q => te σ H fun x H1 => ∃ a xs, x = .ref a ∧ SqT K H1 a xs ∧ ∀ p, H1 p = none → Q (.ref p) (upd H1 p (.tup xs.reverse))
theorem pe_revT {X : Cx} {e : Expr} {te : TE} {k : Nat} {p1 p2 p3 pos : Pos} (he : PE X e te) : PE X (.Subscript e (.Slice none none (some (.UnaryOp .USub (.Constant (.int 1) k p1) p2)) p3) pos) (tRevT X.K te) := by
  refine ⟨fun pins s σ H Q I h => ?_⟩
  refine Subscript_ (thn (he.run pins s σ H _ I h) fun v s1 ⟨x, H1, I1, r1, a, xs, ex, hx, q⟩ => ?_)
  subst ex
  cases r1
  have minus : PO X (some (.UnaryOp .USub (.Constant (.int 1) k p1) p2)) (tPart (tUn (rU fun i => .int (-i)) (tC (.int 1)))) := po_some (pe_un un_neg pe_int)
  refine wpAny_Slice (thn (po_none.run pins s1 σ H1 (fun o H2 => o = none ∧ H2 = H1) I1 ⟨rfl, rfl⟩) fun vl s2 ⟨l, H2, I2, pl, el, e2⟩ => ?_)
  subst el e2
  refine thn (po_none.run pins s2 σ H2 (fun o H3 => o = none ∧ H3 = H2) I2 ⟨rfl, rfl⟩) fun vu s3 ⟨u, H3, I3, pu, eu, e3⟩ => ?_
  subst eu e3
  refine thn (minus.run pins s3 σ H3 (fun o H4 => o = some (-1) ∧ H4 = H3) I3 ⟨1, rfl, -1, rfl, rfl, rfl⟩) fun vs s4 ⟨o, H4, I4, ps, eo, e4⟩ => ?_
  subst eo e4
  have I5 : Inv X pins σ H4 { s4 with heap := s4.heap.push { cls := .type "slice", data := .fields #[vl, vu, vs] } } := I4.kept (t' := s4.toks) fun b ob q => Heap.get?_push_of_some _ q
  obtain ⟨its, r, ht, hz⟩ := I5.tuple hx
  cases pl
  cases pu
  show wpAny (model X.prog X.w) X.A (subscriptTail e (.Slice none none (some (.UnaryOp .USub (.Constant (.int 1) k p1) p2)) p3) (.ref a) (.ref s4.heap.objs.size)) (EP X pins σ Q) X.xe { s4 with heap := s4.heap.push { cls := .type "slice", data := .fields #[.none, .none, vs] } }
  refine tail_any (ops := [.ref a, .ref s4.heap.objs.size]) ht.typeIs (PyProof.Rows.slot_tuple_getitem.lookup) ?_ (by with_unfolding_all rfl)
  refine getItem_back ht (Heap.IsSliceOf.new _ .none .none vs) ps ?_ (by rw [← r.length]; exact hz)
  refine ⟨.ref _, _, I5.laid (t' := s4.toks) (o := .tup xs.reverse) (fun b ob q => Heap.get?_push_of_some _ q) (Nat.le_refl _) ?_, rfl, q _ (I5.hok.fresh (Nat.le_refl _))⟩
  exact ⟨by rw [List.length_reverse]; exact hz, _, r.reverse, IsTup.new _ _⟩
end K38

namespace K38
open PySem L2
/-! ### a forest's attributes -/
section
variable {a b c : V}
theorem lk_fields : List.lookup ("fields" : Str) [("fields", a), ("parents", b), ("kinds", c)] = some a := by
  rw [List.lookup_cons, show (("fields" : Str) == "fields") = true by decide +kernel]
theorem lk_parents : List.lookup ("parents" : Str) [("fields", a), ("parents", b), ("kinds", c)] = some b := by
  rw [List.lookup_cons, show (("parents" : Str) == "fields") = false by decide +kernel, List.lookup_cons, show (("parents" : Str) == "parents") = true by decide +kernel]
theorem lk_kinds : List.lookup ("kinds" : Str) [("fields", a), ("parents", b), ("kinds", c)] = some c := by
  rw [List.lookup_cons, show (("kinds" : Str) == "fields") = false by decide +kernel, List.lookup_cons, show (("kinds" : Str) == "parents") = false by decide +kernel, List.lookup_cons, show (("kinds" : Str) == "kinds") = true by decide +kernel]
theorem lk_path : List.lookup ("path" : Str) [("fields", a), ("parents", b), ("kinds", c)] = none := by
  rw [List.lookup_cons, show (("path" : Str) == "fields") = false by decide +kernel, List.lookup_cons, show (("path" : Str) == "parents") = false by decide +kernel, List.lookup_cons, show (("path" : Str) == "kinds") = false by decide +kernel]
  rfl
theorem put_fields : putF "fields" a [] = ([("fields", a)] : List (Str × V)) := rfl
theorem put_parents : putF "parents" b [("fields", a)] = ([("fields", a), ("parents", b)] : List (Str × V)) := by
  show (if ("fields" : Str) = "parents" then [(("parents" : Str), b)] else (("fields" : Str), a) :: putF "parents" b []) = _
  rw [if_neg (by decide +kernel)]
  rfl
theorem put_kinds : putF "kinds" c [("fields", a), ("parents", b)] = ([("fields", a), ("parents", b), ("kinds", c)] : List (Str × V)) := by
  show (if ("fields" : Str) = "kinds" then _ else (("fields" : Str), a) :: (if ("parents" : Str) = "kinds" then _ else (("parents" : Str), b) :: putF "kinds" c [])) = _
  rw [if_neg (by decide +kernel), if_neg (by decide +kernel)]
  rfl
end
def Keep (x : Addr) (H H' : Hp) : Prop := ∀ b o, H b = some o → b ≠ x → H' b = some o
theorem Keep.upd_ {x : Addr} {H H' : Hp} {o : HO} (k : Keep x H H') : Keep x H (upd H' x o) := fun b u e hb => by rw [upd_ne hb]; exact k b u e hb
theorem Keep.new {x p : Addr} {H H' : Hp} {o : HO} (k : Keep x H H') (hn : H' p = none) : Keep x H (upd H' p o) := fun b u e hb => by
  have := k b u e hb
  rw [upd_ne (ne_of_none this hn)]
  exact this
theorem Keep.of {x : Addr} {H H' : Hp} (s : Same H H') : Keep x H H' := fun b o e _ => s b o e
theorem Keep.same {x : Addr} {H H1 H2 : Hp} (s : Same H H1) (k : Keep x H1 H2) : Keep x H H2 := fun b o e hb => k b o (s b o e) hb
theorem Keep.trans {x : Addr} {H H1 H2 : Hp} (k : Keep x H H1) (l : Keep x H1 H2) : Keep x H H2 := fun b o e hb => l b o (k b o e hb) hb
theorem Keep.then_ {x : Addr} {H H1 H2 : Hp} (k : Keep x H H1) (s : Same H1 H2) : Keep x H H2 := fun b o e hb => s b o (k b o e hb)
/-! ### Forest.__init__ -/
def spForInit (F : Addr) : Sp := fun vs H Q _ => ∃ (x dx p q : Addr) (n : Nat) (c : Ch), vs = [.ref x, .ref p, .ref q] ∧ H x = some (.ins F dx []) ∧ H p = some (.lst ((pars n c.1).map oV)) ∧ H q = some (.lst (c.2.map kdV)) ∧ Good n c.1 ∧ 1 ≤ n ∧ n ≤ 16 ∧ c.2.length = n ∧
  ∀ H', Keep x H H' → ForestAt F H' x n (pars n c.1) c.2 → Q .non H'
theorem scForInit : FnScope ["self", "parents", "kinds"] ["self", "parents", "kinds"] (defScope sForInit) := ⟨rfl, rfl, rfl, by decide +kernel, rfl, by decide +kernel, by decide +kernel⟩
section
variable {P : Program} {w : World} {K : PySem.W.Frag} {mg : Str → Option Value} {base : Heap}
theorem ok_forInit (T : Defs K mg) : FnOk P w K mg base CX0 3 T.fForInit T.dForInit ["self", "parents", "kinds"] (spForInit T.cFor) := by
  have GS := ok_chkShape (P := P) (w := w) (base := base) T
  refine T.FForInit.ok scForInit (fun vs H Q E h => ?_) (fun cdv A outer s H vs Q E hr h => ?_)
  · obtain ⟨x, dx, p, q, n, c, rfl, _⟩ := h
    rfl
  · obtain ⟨x, dx, p, q, n, c, rfl, hx, hp, hq, g, h1, h16, hk, kq⟩ := h
    refine ⟨_, pss_cons (ps_expr (pe_call GS hr rfl T.mChkShape T.FChkShape.kp (b_chkShape T) .nil pass0 (pa_cons (pv 1) (pa_cons (pv 2) pa_nil))))
      (pss_cons (ps_fld (pv 0) (pe_callB call_len_seq rfl T.b_len PySem.boot_len (pa_cons (pv 1) pa_nil)) rfl)
      (pss_cons (ps_fld (pv 0) (pe_callTy call_tuple_of rfl T.b_tuple (by decide +kernel) (pa_cons (pv 1) pa_nil)) rfl)
      (pss_one (ps_fld (pv 0) (pe_callTy call_tuple_of rfl T.b_tuple (by decide +kernel) (pa_cons (pv 2) pa_nil)) rfl)))), ?_⟩
    refine ⟨_, rfl, _, rfl, p, q, n, c, rfl, SqL.of hp, SqL.of hq, g, h1, h16, hk, fun H1 s1 => ?_⟩
    have px : p ≠ x := ne_of hp hx (fun z => by cases z)
    have qx : q ≠ x := ne_of hq hx (fun z => by cases z)
    have hx1 := s1 _ _ hx
    refine ⟨_, rfl, p, _, rfl, .inl (SqL.of (s1 _ _ hp)), _, rfl, x, T.cFor, dx, _, rfl, hx1, T.kFor, T.nFor_fields, (by show 0 < 1000; decide), ?_⟩
    rw [show (((pars n c.1).map oV).length : Int) = (n : Int) by rw [List.length_map, g.plen]]
    have k1 : Keep x H (upd H1 x (.ins T.cFor dx (putF "fields" (.int (n : Int)) []))) := (Keep.of s1).upd_
    refine ⟨_, rfl, p, _, rfl, .inl ⟨SqL.of (k1 _ _ hp px), fun r nr => ?_⟩⟩
    have xr : x ≠ r := ne_of_none upd_same nr
    refine ⟨_, rfl, x, T.cFor, dx, _, rfl, (by rw [upd_ne xr]; exact upd_same), T.kFor, T.nFor_parents, (by show 1 < 1000; decide), ?_⟩
    have k2 := (k1.new (o := .tup ((pars n c.1).map oV)) nr).upd_ (o := .ins T.cFor dx (putF "parents" (.ref r) (putF "fields" (.int (n : Int)) [])))
    refine ⟨_, rfl, q, _, rfl, .inl ⟨SqL.of (k2 _ _ hq qx), fun u nu => ?_⟩⟩
    have xu : x ≠ u := ne_of_none upd_same nu
    have rx : r ≠ x := fun z => xr z.symm
    have ru : r ≠ u := fun z => by
      rw [← z, upd_ne rx, upd_same] at nu
      cases nu
    refine ⟨_, rfl, x, T.cFor, dx, _, rfl, (by rw [upd_ne xu]; exact upd_same), T.kFor, T.nFor_kinds, (by rw [put_fields, put_parents]; show 2 < 1000; decide), ?_⟩
    refine kq _ (k2.new (o := .tup (c.2.map kdV)) nu).upd_ ⟨dx, r, u, ?_, ?_, ?_⟩
    · rw [upd_same, put_fields, put_parents, put_kinds]
    · rw [upd_ne rx, upd_ne ru, upd_ne rx, upd_same]
    · rw [upd_ne (Ne.symm xu), upd_same]
theorem b_forInit (T : Defs K mg) : Binds K T.dForInit ["self", "parents", "kinds"] [] := T.FForInit.binds fun _ _ _ _ _ _ us hl => match us, hl with | [_, _, _], _ => rfl
/-! ### Forest.path -/
def spForPath (F : Addr) : Sp := fun vs H Q _ => ∃ (a : Addr) (n k : Nat) (c : Ch), vs = [.ref a, .int ((c.1.getD k 0 : Nat) : Int)] ∧ ForestAt F H a n (pars n c.1) c.2 ∧ Good n c.1 ∧ k < n ∧ n ≤ 100 ∧
  ∀ H' q, Same H H' → H q = none → H' q = some (.tup (nums (c.1.take (k + 1)))) → Q (.ref q) H'
theorem scForPath : FnScope ["self", "field"] ["self", "field"] (defScope sForPath) := ⟨rfl, rfl, rfl, by decide +kernel, rfl, by decide +kernel, by decide +kernel⟩
theorem ok_forPath (T : Defs K mg) : FnOk P w K mg base CX0 2 T.fForPath T.dForPath ["self", "field"] (spForPath T.cFor) := by
  have GP := ok_pathOf (P := P) (w := w) (base := base) T
  refine T.FForPath.ok scForPath (fun vs H Q E h => ?_) (fun cdv A outer s H vs Q E hr h => ?_)
  · obtain ⟨a, n, k, c, rfl, _⟩ := h
    rfl
  · obtain ⟨a, n, k, c, rfl, ⟨dx, p, q, h1, h2, h3⟩, g, hk, hn, kq⟩ := h
    refine ⟨_, pss_one (ps_ret (pe_call GP hr rfl T.mPathOf T.FPathOf.kp (b_pathOf T) .nil pass0 (pa_cons (pe_fld (pv 0) rfl) (pa_cons (pv 1) pa_nil)))), ?_⟩
    exact ⟨_, rfl, a, T.cFor, dx, _, _, rfl, h1, T.kFor, T.nFor_parents, lk_parents, _, rfl, p, _, c.1, k, rfl, SqT.of h2, by rw [g.len]; exact hk, by rw [g.len]; exact hn, fun j hj => g.par j (by omega), kq⟩
theorem b_forPath (T : Defs K mg) : Binds K T.dForPath ["self", "field"] [] := T.FForPath.binds fun _ _ _ _ _ _ us hl => match us, hl with | [_, _], _ => rfl
/-! ### check_fair -/
def spChkFair (F : Addr) : Sp := fun vs H Q _ => ∃ (a : Addr) (n : Nat) (ps : List (Option Nat)) (ks : List Bool), vs = [.ref a] ∧ ForestAt F H a n ps ks ∧ n ≤ 100 ∧ ks.length = n ∧ ∀ H', Same H H' → Q .non H'
theorem scChkFair : FnScope ["forest", "field"] ["forest"] (defScope sChkFair) := ⟨rfl, rfl, rfl, by decide +kernel, rfl, by decide +kernel, by decide +kernel⟩
theorem ok_chkFair (T : Defs K mg) : FnOk P w K mg base CX0 1 T.fChkFair T.dChkFair ["forest"] (spChkFair T.cFor) := by
  refine T.FChkFair.ok scChkFair (fun vs H Q E h => ?_) (fun cdv A outer s H vs Q E hr h => ?_)
  · obtain ⟨a, n, ps, ks, rfl, _⟩ := h
    rfl
  · obtain ⟨a, n, ps, ks, rfl, ⟨dx, p, q, h1, h2, h3⟩, hn, hk, kq⟩ := h
    refine ⟨_, pss_one (ps_for PassesOwn.never rfl (pi_range1 rfl T.b_range (pa_cons (pe_fld (pv 0) rfl) pa_nil)) (pg_name (i := 1) scChkFair.nd rfl (Or.inl rfl))
      (pss_one (ps_if (pt_cmpR op_in_seq (pe_ix ix_tup (pe_fld (pv 0) rfl) (pv 1) (fun _ _ => rfl)) (pe_tup (pa_cons pe_str (pa_cons pe_str pa_nil))) (by rfl)) pss_never pss_nil))), ?_⟩
    refine ⟨_, rfl, a, T.cFor, dx, _, _, rfl, h1, T.kFor, T.nFor_fields, lk_fields, _, rfl, (by omega), (by omega), ?_⟩
    refine for_range (lo := 0) (n := _) (fun i σ H1 => Same H H1 ∧ ∃ v1 : Option V, σ = [some (.ref a), v1]) ⟨Same.refl _, none, rfl⟩ ?_ ?_
    · rintro i σ H1 hi ⟨s1, v1, rfl⟩
      rw [Int.zero_add]
      refine ⟨_, rfl, a, T.cFor, dx, _, _, rfl, s1 _ _ h1, T.kFor, T.nFor_kinds, lk_kinds, _, rfl, q, _, _, _, rfl, rfl, SqT.of (s1 _ _ h3), kd_at (by omega), (by show 2 ≤ sizeLine; decide), fun r nr => ⟨r, _, rfl, .inr (SqT.of upd_same), rfl, rfl, _, rfl, ?_⟩⟩
      exact ifF (by cases ks.getD i true <;> decide +kernel) ⟨s1.set (s1.free nr), _, rfl⟩
    · rintro σ H1 ⟨s1, v1, rfl⟩
      exact kq H1 s1
theorem b_chkFair (T : Defs K mg) : Binds K T.dChkFair ["forest"] [] := T.FChkFair.binds fun _ _ _ _ _ _ us hl => match us, hl with | [_], _ => rfl
end
end K38

namespace K38
open PySem L2
theorem nums_int (l : List Nat) : nums l = (l.map fun k : Nat => (k : Int)).map V.int := by rw [List.map_map]; rfl
theorem nums_snoc (l : List Nat) (f : Nat) : nums (l ++ [f]) = nums l ++ [V.int (f : Int)] := by
  rw [nums, nums, List.map_append]
  rfl
/-- x not in held, held as values -/
theorem not_held (f : Nat) (os : List (Option Nat)) : inV (.int (f : Int)) (os.map oV) = os.contains (some f) := by
  induction os with
  | nil => rfl
  | cons o os ih =>
    show (eqV (oV o) (.int (f : Int)) || inV (.int (f : Int)) (os.map oV)) = _
    rw [ih, List.contains_cons]
    congr 1
    cases o with
    | none => rfl
    | some g =>
      show ((g : Int) == (f : Int)) = (some f == some g)
      by_cases e : f = g
      · subst e
        simp
      · have e1 : ((g : Int) == (f : Int)) = false := beq_eq_false_iff_ne.mpr (by omega)
        have e2 : (some f == some g) = false := beq_eq_false_iff_ne.mpr fun z => e (Option.some.inj z)
        rw [e1, e2]
theorem flat_os (os : List (Option Nat)) : (os.map oV).all flatV = true := by
  rw [List.all_eq_true]
  intro x hx
  obtain ⟨o, _, rfl⟩ := List.mem_map.mp hx
  cases o <;> rfl
theorem erase_int (l : List Nat) (f : Nat) : (l.map fun k : Nat => (k : Int)).erase (f : Int) = (l.erase f).map fun k : Nat => (k : Int) := by
  induction l with
  | nil => rfl
  | cons a l ih =>
    rw [List.map_cons, List.erase_cons, List.erase_cons, ih]
    by_cases e : a = f
    · subst e
      simp
    · have e1 : ¬ (a : Int) = (f : Int) := by omega
      simp [e, e1]
/-! ### last_free -/
def spLastFree (K : PySem.W.Frag) : Sp := fun vs H Q _ => ∃ (l p : Addr) (ls : List Nat) (ps : List (Option Nat)) (m : Nat), vs = [.ref l, .ref p] ∧ SqL K H l (nums ls) ∧ SqT K H p (ps.map oV) ∧ (∀ f ∈ ls, f < ps.length) ∧ ls.length ≤ 100 ∧ ls.Pairwise (· < ·) ∧
  (freeOf ls ps).getLast? = some m ∧ ∀ H', Same H H' → Q (.int (m : Int)) H'
abbrev nLastFree : List Str := ["left", "parents", "held", "field"]
theorem scLastFree : FnScope nLastFree ["left", "parents"] (defScope sLastFree) := ⟨rfl, rfl, rfl, by decide +kernel, rfl, by decide +kernel, by decide +kernel⟩
section
variable {P : Program} {w : World} {K : PySem.W.Frag} {mg : Str → Option Value} {base : Heap}
theorem ok_lastFree (T : Defs K mg) : FnOk P w K mg base CX0 1 T.fLastFree T.dLastFree ["left", "parents"] (spLastFree K) := by
  refine T.FLastFree.ok scLastFree (fun vs H Q E h => ?_) (fun cdv A outer s H vs Q E hr h => ?_)
  · obtain ⟨l, p, ls, ps, m, rfl, _⟩ := h
    rfl
  · obtain ⟨l, p, ls, ps, m, rfl, hl, hp, hlt, hlen, hs, hm, kq⟩ := h
    refine ⟨_, pss_cons (ps_set (i := 2) scLastFree.nd rfl (Or.inr rfl) (pe_lc (own := [("field", 3)]) (g := gName 3) (tt := tYes) (te := tOp (rIxT K) (tVar 1) (tVar 3)) rfl scLastFree.nd (pi_list (pv 0)) (blkOk_by (N := nLastFree) (sc := defScope sLastFree) (by decide +kernel))
        (fun _ _ _ _ _ => pg_name (i := 3) scLastFree.nd rfl (Or.inl rfl)) (fun _ _ _ _ _ => pts_nil) (fun _ _ _ _ _ => pe_ix ix_tup (pv 1) (pv 3) (fun _ _ => rfl))))
      (pss_one (ps_ret (pe_callB (cr_max rfl) rfl T.b_max (by decide +kernel) (pa_cons (pe_lc (own := [("field", 3)]) (g := gName 3) (tt := tTest (tOp (rIn K true) (tVar 3) (tVar 2))) rfl scLastFree.nd (pi_list (pv 0)) (blkOk_by (N := nLastFree) (sc := defScope sLastFree) (by decide +kernel))
        (fun _ _ _ _ _ => pg_name (i := 3) scLastFree.nd rfl (Or.inl rfl)) (fun _ _ _ _ _ => pts_one (pt_cmpR op_notIn_seq (pv 3) (pv 2) rfl)) (fun _ _ _ _ _ => pv 3)) pa_nil)))), ?_⟩
    refine ⟨_, rfl, l, rfl, ⟨_, hl⟩, fun D nD => lc_list (K := K) (a := l) (xs := nums ls) (fun i H1 => Same H H1 ∧ H1 D = some (.lst ((heldOf (ls.take i) ps).map oV))) ⟨Same.new nD, upd_same⟩ (fun i H1 _ z => z.1.seq hl) ?_ ?_⟩
    · rintro i x H1 hi ⟨s1, h1⟩
      obtain ⟨f, hf, rfl⟩ := nums_get hi
      have hfl := hlt f (List.mem_of_getElem? hf)
      refine ⟨rfl, _, rfl, _, rfl, p, _, _, _, rfl, rfl, s1.tup hp, par_at (o := ps.getD f none) ?_, _, h1, ?_, s1.set nD, ?_⟩
      · rw [List.getD_eq_getElem?_getD, List.getElem?_eq_getElem hfl]
        rfl
      · rw [List.length_map, heldOf, List.length_map, List.length_take]
        exact line100 (by omega)
      · rw [upd_same, heldOf, heldOf, List.take_add_one, hf, List.map_append, List.map_append]
        rfl
    rintro H1 ⟨s1, h1⟩
    rw [List.take_of_length_le (by simp)] at h1
    refine ⟨_, rfl, l, rfl, ⟨_, s1.seq hl⟩, fun D2 nD2 => lc_list (K := K) (a := l) (xs := nums ls) (fun i H2 => Same H1 H2 ∧ H2 D2 = some (.lst (nums ((ls.take i).filter fun f => !(heldOf ls ps).contains (some f))))) ⟨Same.new nD2, upd_same⟩ (fun i H2 _ z => (s1.trans z.1).seq hl) ?_ ?_⟩
    · rintro i x H2 hi ⟨s2, h2⟩
      obtain ⟨f, hf, rfl⟩ := nums_get hi
      have et : ls.take (i + 1) = ls.take i ++ [f] := by rw [List.take_add_one, hf]; rfl
      refine ⟨rfl, _, rfl, _, rfl, D, _, rfl, .inl (SqL.of (s2 _ _ h1)), rfl, flat_os _, _, rfl, ?_⟩
      rw [not_held]
      refine ite2 (fun c => ⟨_, rfl, _, h2, ?_, s2.set nD2, ?_⟩) (fun c => ⟨s2, ?_⟩)
      · rw [List.length_map]
        exact line100 (Nat.le_trans (List.length_filter_le _ _) (by rw [List.length_take]; omega))
      · have c' : (!(heldOf ls ps).contains (some f)) = true := c
        rw [upd_same, et, List.filter_append, List.filter_cons_of_pos (by simpa using c'), List.filter_nil, nums_snoc]
      · have c' : ¬ (!(heldOf ls ps).contains (some f)) = true := c
        rw [h2, et, List.filter_append, List.filter_cons_of_neg (by simpa using c'), List.filter_nil, List.append_nil]
    rintro H2 ⟨s2, h2⟩
    rw [List.take_of_length_le (by simp)] at h2
    obtain ⟨m1, m2⟩ := last_max (free_sorted hs) hm
    refine ⟨D2, (freeOf ls ps).map fun k : Nat => (k : Int), rfl, SqL.of (by rw [h2, nums_int]; rfl), ?_, fun y hy hle => ?_⟩
    · rw [List.length_map]
      exact List.length_pos_of_mem m1
    · obtain ⟨k, hk, rfl⟩ := List.mem_map.mp hy
      have a1 := m2 k hk
      have a2 := hle (m : Int) (List.mem_map.mpr ⟨m, m1, rfl⟩)
      have e : k = m := by omega
      rw [e]
      exact kq H2 (s1.trans s2)
theorem b_lastFree (T : Defs K mg) : Binds K T.dLastFree ["left", "parents"] [] := T.FLastFree.binds fun _ _ _ _ _ _ us hl => match us, hl with | [_, _], _ => rfl
/-! ### shape_word -/
def spShapeW (K : PySem.W.Frag) : Sp := fun vs H Q _ => ∃ (p : Addr) (ps : List (Option Nat)), vs = [.ref p] ∧ SqT K H p (ps.map oV) ∧ okWord ps = true ∧ 1 ≤ ps.length ∧ ps.length ≤ 100 ∧
  ∀ H' q, Same H H' → H q = none → H' q = some (.tup (nums (wordOf ps))) → Q (.ref q) H'
theorem scShapeW : FnScope ["parents", "left", "word", "_", "field"] ["parents"] (defScope sShapeW) := ⟨rfl, rfl, rfl, by decide +kernel, rfl, by decide +kernel, by decide +kernel⟩
theorem rg_nums (n : Nat) : rgV 0 (n : Int) = nums (List.range n) := by
  unfold rgV
  rw [show ((n : Int) - 0).toNat = n by omega]
  refine List.map_congr_left fun k _ => ?_
  show V.int (0 + (k : Int)) = V.int (k : Int)
  rw [Int.zero_add]
theorem ok_shapeW (T : Defs K mg) : FnOk P w K mg base CX0 2 T.fShapeW T.dShapeW ["parents"] (spShapeW K) := by
  have GL := ok_lastFree (P := P) (w := w) (base := base) T
  refine T.FShapeW.ok scShapeW (fun vs H Q E h => ?_) (fun cdv A outer s H vs Q E hr h => ?_)
  · obtain ⟨p, ps, rfl, _⟩ := h
    rfl
  · obtain ⟨p, ps, rfl, hp, hok, h1, h100, kq⟩ := h
    refine ⟨_, pss_cons (ps_set (i := 1) scShapeW.nd rfl (Or.inl rfl) (pe_listRg rfl rfl T.b_list (prg_1 rfl T.b_range (pe_callB call_len_seq rfl T.b_len PySem.boot_len (pa_cons (pv 0) pa_nil)))))
      (pss_cons (ps_set (i := 2) scShapeW.nd rfl (Or.inl rfl) (pe_lst pa_nil))
      (pss_cons (ps_for PassesOwn.never rfl (pi_range1 rfl T.b_range (pa_cons (pe_op op_sub (pe_callB call_len_seq rfl T.b_len PySem.boot_len (pa_cons (pv 0) pa_nil)) pe_int) pa_nil)) (pg_name (i := 3) scShapeW.nd rfl (Or.inl rfl))
        (pss_cons (ps_set (i := 4) scShapeW.nd rfl (Or.inl rfl) (pe_call GL hr rfl T.mLastFree T.FLastFree.kp (b_lastFree T) .nil pass0 (pa_cons (pv 1) (pa_cons (pv 0) pa_nil))))
        (pss_cons (ps_expr (pe_bm PySem.F.plainAttrs_list PySem.F.slot_list_remove PySem.F.type_list_remove mt_remove (pv 1) (pa_cons (pv 4) pa_nil)))
        (pss_one (ps_if (pt_cmp (pc_isN (pe_ix ix_tup (pv 0) (pv 4) (fun _ _ => rfl))))
          (pss_one (ps_expr (pe_bm PySem.F.plainAttrs_list PySem.F.slot_list_append PySem.F.type_list_append mt_append (pv 2) (pa_cons pe_int pa_nil))))
          (pss_one (ps_expr (pe_bm PySem.F.plainAttrs_list PySem.F.slot_list_append PySem.F.type_list_append mt_append (pv 2) (pa_cons (pe_op op_add pe_int (pe_ix ix_tup (pv 0) (pv 4) (fun _ _ => rfl))) pa_nil)))))))))
      (pss_one (ps_ret (pe_callTy call_tuple_of rfl T.b_tuple (by decide +kernel) (pa_cons (pv 2) pa_nil)))))), ?_⟩
    refine ⟨_, rfl, p, _, rfl, .inr hp, _, rfl, RgOk.of_le (by omega) (by rw [List.length_map]; omega) (by omega) (by omega), fun l nl => ?_⟩
    rw [List.length_map, rg_nums]
    refine ⟨(by show 0 ≤ sizeLine; decide), fun u nu => ?_⟩
    have lu : l ≠ u := ne_of_none upd_same nu
    have nu0 : H u = none := (Same.new nl).free nu
    have sz : ((ps.map oV).length : Int) - 1 = ((ps.length - 1 : Nat) : Int) := by rw [List.length_map]; omega
    refine ⟨_, rfl, p, _, rfl, .inr (((Same.new nl).set nu0).tup hp), _, _, rfl, rfl, _, rfl, (by rw [List.length_map]; omega), (by rw [List.length_map]; omega), ?_⟩
    rw [sz]
    refine for_range (lo := 0) (n := _) (fun i σ H1 => ∃ v3 v4 : Option V, σ = [some (.ref p), some (.ref l), some (.ref u), v3, v4] ∧ Same H H1 ∧ H1 l = some (.lst (nums (wordI ps i).1)) ∧ H1 u = some (.lst (nums (wordI ps i).2)))
      ⟨none, none, rfl, (Same.new nl).set nu0, by rw [upd_ne lu, upd_same]; rfl, upd_same⟩ ?_ ?_
    · rintro i σ H1 hi ⟨v3, v4, rfl, s1, hl1, hu1⟩
      rw [Int.toNat_natCast] at hi
      obtain ⟨m, hm, mem⟩ := free_last hok hi
      have eL : (wordI ps (i + 1)).1 = (wordI ps i).1.erase m := by
        show (wordI ps i).1.erase ((freeOf (wordI ps i).1 ps).getLast?.getD 0) = _
        rw [hm]
        rfl
      have eW : (wordI ps (i + 1)).2 = (wordI ps i).2 ++ [entryOf (ps.getD m none)] := by
        show (wordI ps i).2 ++ [entryOf (ps.getD ((freeOf (wordI ps i).1 ps).getLast?.getD 0) none)] = _
        rw [hm]
        rfl
      have ml : m < ps.length := left_lt ps i m mem
      refine ⟨_, rfl, _, rfl, l, p, (wordI ps i).1, ps, m, rfl, SqL.of hl1, s1.tup hp, left_lt ps i, Nat.le_trans (wordI_left_len ps i) h100, left_sorted ps i, hm, fun H2 s2 => ?_⟩
      obtain ⟨j, hj, hj1, hj2, hj3⟩ := first_at (k := (m : Int)) (ns := (wordI ps i).1.map fun k : Nat => (k : Int)) (List.mem_map.mpr ⟨m, mem, rfl⟩)
      have hl2 := s2 _ _ hl1
      have hu2 := s2 _ _ hu1
      refine ⟨_, rfl, .inl ⟨rfl, _, SqL.of hl2⟩, _, rfl, l, _, (m : Int), j, rfl, rfl, (by rw [hl2, nums_int]), hj1, hj2, ?_⟩
      rw [hj3, erase_int, ← nums_int, ← eL]
      have s3 : Same H (upd H2 l (.lst (nums (wordI ps (i + 1)).1))) := (s1.trans s2).set nl
      have hu3 : (upd H2 l (.lst (nums (wordI ps (i + 1)).1))) u = some (.lst (nums (wordI ps i).2)) := by rw [upd_ne (Ne.symm lu)]; exact hu2
      have atm : ps[m]? = some (ps.getD m none) := by
        rw [List.getD_eq_getElem?_getD, List.getElem?_eq_getElem ml]
        rfl
      have szw : (nums (wordI ps i).2).length < sizeLine := by
        rw [List.length_map, wordI_len]
        exact line100 (by omega)
      refine ⟨_, rfl, _, rfl, p, _, _, _, rfl, rfl, s3.tup hp, par_at atm, _, rfl, ?_⟩
      have fin : ∀ v : V, v = iV (entryOf (ps.getD m none)) → (upd (upd H2 l (.lst (nums (wordI ps (i + 1)).1))) u (.lst (nums (wordI ps i).2 ++ [v]))) u = some (.lst (nums (wordI ps (i + 1)).2)) := fun v hv => by
        rw [upd_same, hv, eW, nums_snoc]
        rfl
      have fin2 : ∀ v : V, (upd (upd H2 l (.lst (nums (wordI ps (i + 1)).1))) u (.lst (nums (wordI ps i).2 ++ [v]))) l = some (.lst (nums (wordI ps (i + 1)).1)) := fun v => by
        rw [upd_ne lu, upd_same]
      cases ho : ps.getD m none with
      | none =>
        refine ifT rfl ⟨_, rfl, .inl ⟨rfl, _, SqL.of hu3⟩, u, _, _, rfl, rfl, hu3, szw, ?_⟩
        exact ⟨_, _, rfl, s3.set nu0, fin2 _, fin _ (by rw [ho]; rfl)⟩
      | some f =>
        rw [ho] at atm
        refine ifF rfl ⟨_, rfl, .inl ⟨rfl, _, SqL.of hu3⟩, _, rfl, _, rfl, p, _, _, _, rfl, rfl, s3.tup hp, par_at atm, _, _, rfl, rfl, u, _, _, rfl, rfl, hu3, szw, ?_⟩
        refine ⟨_, _, rfl, s3.set nu0, fin2 _, fin _ ?_⟩
        rw [ho]
        show V.int (1 + (f : Int)) = V.int ((1 + f : Nat) : Int)
        rw [Int.natCast_add]
        rfl
    · rintro σ H1 ⟨v3, v4, rfl, s1, hl1, hu1⟩
      refine ⟨_, rfl, u, _, rfl, .inl ⟨SqL.of hu1, fun q nq => ?_⟩⟩
      refine kq _ q (s1.set (s1.free nq)) (s1.free nq) ?_
      rw [upd_same]
      rfl
theorem b_shapeW (T : Defs K mg) : Binds K T.dShapeW ["parents"] [] := T.FShapeW.binds fun _ _ _ _ _ _ us hl => match us, hl with | [_], _ => rfl
end
end K38

namespace K38
open PySem L2
/-! ### number_of -/
def spNumOf (F : Addr) : Sp := fun vs H Q _ => ∃ (a : Addr) (n : Nat) (c : Ch), vs = [.ref a] ∧ ForestAt F H a n (pars n c.1) c.2 ∧ Good n c.1 ∧ 1 ≤ n ∧ n ≤ 100 ∧ c.2.length = n ∧ ∀ H', Same H H' → Q (.int (num n c : Nat)) H'
theorem scNumOf : FnScope ["forest", "number", "entry", "kind"] ["forest"] (defScope sNumOf) := ⟨rfl, rfl, rfl, by decide +kernel, rfl, by decide +kernel, by decide +kernel⟩
theorem kds_get {l : List Bool} {i : Nat} {x : V} (h : (l.map kdV)[i]? = some x) : ∃ b, l[i]? = some b ∧ x = kdV b := by
  rw [List.getElem?_map] at h
  cases e : l[i]? with
  | none => rw [e] at h; cases h
  | some f => rw [e] at h; exact ⟨f, rfl, (Option.some.inj h).symm⟩
theorem bit_down (b : Bool) : (if decide (kdV b = .str "down") = true then (1 : Int) else 0) = ((bitOf b : Nat) : Int) := by
  cases b with
  | true => rw [if_neg (by decide +kernel)]; rfl
  | false => rw [if_pos (by decide +kernel)]; rfl
section
variable {P : Program} {w : World} {K : PySem.W.Frag} {mg : Str → Option Value} {base : Heap}
theorem ok_numOf (T : Defs K mg) : FnOk P w K mg base CX0 3 T.fNumOf T.dNumOf ["forest"] (spNumOf T.cFor) := by
  have GC := ok_chkFair (P := P) (w := w) (base := base) T
  have GS := ok_shapeW (P := P) (w := w) (base := base) T
  refine T.FNumOf.ok scNumOf (fun vs H Q E h => ?_) (fun cdv A outer s H vs Q E hr h => ?_)
  · obtain ⟨a, n, c, rfl, _⟩ := h
    rfl
  · obtain ⟨a, n, c, rfl, hF, g, h1, hn, hk, kq⟩ := h
    have hr1 : Room 1 _ := hr.mono (by decide)
    refine ⟨_, pss_cons (ps_expr (pe_call GC hr1 rfl T.mChkFair T.FChkFair.kp (b_chkFair T) .nil pass0 (pa_cons (pv 0) pa_nil)))
      (pss_cons (ps_set (i := 1) scNumOf.nd rfl (Or.inl rfl) pe_int)
      (pss_cons (ps_for PassesOwn.never rfl (pi_tup (pe_call GS hr rfl T.mShapeW T.FShapeW.kp (b_shapeW T) .nil pass0 (pa_cons (pe_fld (pv 0) rfl) pa_nil))) (pg_name (i := 2) scNumOf.nd rfl (Or.inl rfl))
        (pss_one (ps_set (i := 1) scNumOf.nd rfl (Or.inl rfl) (pe_op op_add (pe_op op_mul (pv 1) (pe_op op_add (pe_fld (pv 0) rfl) pe_int)) (pv 2)))))
      (pss_cons (ps_for PassesOwn.never rfl (pi_tup (pe_revT (pe_fld (pv 0) rfl))) (pg_name (i := 3) scNumOf.nd rfl (Or.inl rfl))
        (pss_one (ps_set (i := 1) scNumOf.nd rfl (Or.inl rfl) (pe_op op_add (pe_op op_mul (pv 1) pe_int) (pe_callTy call_int1 rfl T.b_int (by decide +kernel) (pa_cons (pe_cmpR op_eq (pv 3) pe_str (nomark _)) pa_nil))))))
      (pss_one (ps_ret (pv 1)))))), ?_⟩
    refine ⟨_, rfl, a, n, _, c.2, rfl, hF, hn, hk, fun H1 s1 => ?_⟩
    obtain ⟨dx, p, q, f1, f2, f3⟩ := hF.mono s1
    refine ⟨_, rfl, a, T.cFor, dx, _, _, rfl, f1, T.kFor, T.nFor_parents, lk_parents, p, _, rfl, SqT.of f2, g.okw, by rw [g.plen]; exact h1, by rw [g.plen]; exact hn, fun H2 r s2 nr hr2 => ?_⟩
    refine ⟨r, rfl, ⟨_, SqT.of hr2⟩, for_tup (K := K) (a := r) (xs := nums (wordOf (pars n c.1))) (fun i σ H3 => H3 = H2 ∧ ∃ v2 v3 : Option V, σ = [some (.ref a), some (.int ((((wordOf (pars n c.1)).take i).foldl (fun a e => a * (n + 1) + e) 0 : Nat) : Int)), v2, v3])
      ⟨rfl, none, none, rfl⟩ (fun i σ H3 _ z => by rw [z.1]; exact SqT.of hr2) ?_ ?_⟩
    · rintro i x σ H3 hi ⟨rfl, v2, v3, rfl⟩
      obtain ⟨e, he, rfl⟩ := nums_get hi
      refine ⟨_, rfl, _, rfl, a, T.cFor, dx, _, _, rfl, s2 _ _ f1, T.kFor, T.nFor_fields, lk_fields, _, _, rfl, rfl, _, _, rfl, rfl, .inr ⟨by omega, by omega⟩, _, rfl, _, _, rfl, rfl, rfl, some (.int (e : Int)), v3, ?_⟩
      rw [foldl_snoc he, Int.natCast_add, Int.natCast_mul, Int.natCast_add]
      rfl
    rintro σ H3 ⟨rfl, v2, v3, rfl⟩
    rw [List.take_of_length_le (by simp)]
    refine ⟨_, rfl, a, T.cFor, dx, _, _, rfl, s2 _ _ f1, T.kFor, T.nFor_kinds, lk_kinds, q, _, rfl, SqT.of (s2 _ _ f3), fun u nu => ?_⟩
    refine ⟨u, rfl, ⟨_, SqT.of upd_same⟩, for_tup (K := K) (a := u) (xs := (c.2.map kdV).reverse) (fun i σ H4 => H4 = upd H3 u (.tup (c.2.map kdV).reverse) ∧ ∃ v2 v3 : Option V, σ = [some (.ref a), some (.int (((c.2.reverse.take i).foldl (fun a b => a * 2 + bitOf b) (baseNum n (wordOf (pars n c.1))) : Nat) : Int)), v2, v3])
      ⟨rfl, v2, v3, rfl⟩ (fun i σ H4 _ z => by rw [z.1]; exact SqT.of upd_same) ?_ ?_⟩
    · rintro i x σ H4 hi ⟨rfl, v2, v3, rfl⟩
      rw [← List.map_reverse] at hi
      obtain ⟨b, hb, rfl⟩ := kds_get hi
      refine ⟨_, rfl, _, _, rfl, rfl, .inr ⟨by decide, by decide⟩, _, rfl, rfl, .inr ⟨_, rfl, ?_⟩⟩
      rw [bit_down]
      refine ⟨_, _, rfl, rfl, rfl, v2, some (kdV b), ?_⟩
      rw [foldl_snoc hb, Int.natCast_add, Int.natCast_mul]
      rfl
    rintro σ H4 ⟨rfl, v2, v3, rfl⟩
    rw [List.take_of_length_le (by simp)]
    exact ⟨_, rfl, kq _ (((s1.trans s2).set ((s1.trans s2).free nu)))⟩
theorem b_numOf (T : Defs K mg) : Binds K T.dNumOf ["forest"] [] := T.FNumOf.binds fun _ _ _ _ _ _ us hl => match us, hl with | [_], _ => rfl
end
end K38

/-! R2: sorted(xs, key=f), f a def of the program that leaves what was there and gives an int -/
namespace K38
open PySem PySem.Spec PyProof.Rows L2
section
variable {X : Cx} {pins : List (Addr × Obj)} {σ : L2.St} {H : Hp} {s : Shared}
/-- a record of ours is tracked from now on -/
theorem track {a : Addr} {o : HO} (I : Inv X pins σ H s) (f : FpOk X pins H a) (new : ObjOk X.prog X.w (upd H a o) s.heap a o) : Inv X pins σ (upd H a o) s := by
  obtain ⟨f0, f1, f2, f3, f4, f5⟩ := f
  have ne : ∀ {b : Addr} {u : HO}, H b = some u → b ≠ a := fun e => ne_of_none e f0
  refine ⟨I.ok, I.os, I.bare, ⟨I.base.keep, I.base.slot, fun b u e n hx => ?_, I.base.there, fun b xs e => ?_, fun b u v e => ?_, fun b ps e => ?_⟩, I.loc, I.cell, ?_, fun x c e => ?_, fun p hp => ?_, fun b u e => ?_, I.len⟩
  · have hb : b ≠ a := fun z => by
      rcases f3 with q | q
      · exact hx (z ▸ q)
      · exact absurd (Nat.lt_of_lt_of_le (Heap.lt_size e) q) (by rw [z]; exact Nat.lt_irrefl _)
    rw [upd_ne hb]
    exact I.base.free b u e n hx
  · have q := I.base.tups b xs e
    rw [upd_ne (ne q)]
    exact q
  · have q := I.base.frzs b u v e
    rw [upd_ne (ne q)]
    exact q
  · obtain ⟨more, q⟩ := I.base.tbls b ps e
    exact ⟨more, by rw [upd_ne (ne q)]; exact q⟩
  · rw [upd_ne (Ne.symm f1)]
    exact I.free
  · rw [upd_ne (f4 x c e)]
    exact I.freeC x c e
  · obtain ⟨p1, p2, p3⟩ := I.pin p hp
    exact ⟨p1, by rw [upd_ne (f5 p hp)]; exact p2, p3⟩
  · by_cases hb : b = a
    · subst hb
      rw [upd_same] at e
      cases e
      exact new
    · rw [upd_ne hb] at e
      exact (I.hok b u e).stay (fun c v _ q => q) (fun c q => by rw [upd_ne (ne q)]; exact q) fun c xs q => by rw [upd_ne (ne q)]; exact q
theorem refs_vals : ∀ {as : List Addr} {us : List Value}, Vals (as.map V.ref) us → us = as.map Value.ref
  | [], _, .nil => rfl
  | a :: as, _, .cons r t => by
    rw [refs_vals t]
    cases r
    rfl
theorem vals_refs : ∀ as : List Addr, Vals (as.map V.ref) (as.map Value.ref)
  | [] => .nil
  | _ :: as => .cons rfl (vals_refs as)
theorem each_of {β : Type} {R : Addr → β → Prop} : ∀ {as : List Addr} {cs : List β}, Paired R as cs → PySem.W.EachIs (fun v c => ∃ a, v = Value.ref a ∧ R a c) (as.map Value.ref) cs
  | _, _, .nil => .nil
  | _, _, .cons r t => .cons ⟨_, rfl, r⟩ (each_of t)
theorem of_each {β : Type} {R : Addr → β → Prop} : ∀ {vs : List Value} {cs : List β}, PySem.W.EachIs (fun v c => ∃ a, v = Value.ref a ∧ R a c) vs cs → ∃ as, vs = as.map Value.ref ∧ Paired R as cs
  | _, _, .nil => ⟨[], rfl, .nil⟩
  | _, _, .cons ⟨a, e, r⟩ t => by
    obtain ⟨as, e2, p⟩ := of_each t
    exact ⟨a :: as, by rw [e, e2]; rfl, .cons r p⟩
theorem each_ints {β : Type} {k : β → Int} {h : Heap} : ∀ {us : List Value} {cs : List β}, IntsAre us (cs.map k) → PySem.W.EachIs (fun v d => ∃ as, Reads h v d as) us (cs.map fun c => PyData.int (k c))
  | [], [], _ => .nil
  | u :: us, c :: cs, h => by
    have h2 : IntsAre (u :: us) (k c :: cs.map k) := h
    cases h2 with
    | cons n t r => exact .cons ⟨[], .int _ t⟩ (each_ints r)
  | [], c :: cs, h => by
    have h2 : IntsAre [] (k c :: cs.map k) := h
    cases h2
  | u :: us, [], h => by
    have h2 : IntsAre (u :: us) [] := h
    cases h2
theorem paired_mono {α β : Type} {F G : α → β → Prop} : ∀ {l1 : List α} {l2 : List β}, Paired F l1 l2 → (∀ a b, F a b → G a b) → Paired G l1 l2
  | _, _, .nil, _ => .nil
  | _, _, .cons r t, f => .cons (f _ _ r) (paired_mono t f)
theorem paired_at {α β : Type} {F : α → β → Prop} : ∀ {l1 : List α} {l2 : List β} {i : Nat} {a : α}, Paired F l1 l2 → l1[i]? = some a → ∃ b, l2[i]? = some b ∧ F a b
  | _, _, _, _, .nil, e => by simp at e
  | _, _, 0, _, .cons r _, e => by simp at e; subst e; exact ⟨_, rfl, r⟩
  | _, _, i + 1, a, .cons _ t, e => by
    obtain ⟨b, h1, h2⟩ := paired_at (i := i) (a := a) t (by simpa using e)
    exact ⟨b, by simpa using h1, h2⟩
end
def rSortF {β : Type} (K : PySem.W.Frag) (f : Addr) (Rel : Hp → Addr → β → Prop) (k : β → Int) : List V → List V → Hp → VK → Prop := fun vs zs H Q => ∃ (a : Addr) (as : List Addr) (cs : List β), vs = [.ref a] ∧ zs = [.ref f] ∧ SqL K H a (as.map V.ref) ∧ Paired (Rel H) as cs ∧
  ∀ H' p as', Same H H' → H p = none → H' p = some (.lst (as'.map V.ref)) → Paired (Rel H') as' (cs.mergeSort fun x y => decide (k x ≤ k y)) → Q (.ref p) H'
theorem cr_sortedF {X : Cx} {β : Type} {Rel : Hp → Addr → β → Prop} {k : β → Int} {kk : Nat} {f : Addr} {fd : FuncData} {x : Str} {sp : Sp} (hmono : ∀ H H' a c, Rel H a c → Same H H' → Rel H' a c)
    (F : FnOk X.prog X.w X.K X.mg X.base CX0 kk f fd [x] sp) (hr : Room (kk + 2) X.A) (hb : Binds X.K fd [x] []) (hsp : ∀ (H1 : Hp) (a : Addr) (c : β) (Q : VK), Rel H1 a c → (∀ H2, Same H1 H2 → Q (.int (k c)) H2) → sp [.ref a] H1 Q E0) :
    CallRK X (.builtin "sorted") [Str.ofString "key"] (rSortF X.K f Rel k) := by
  intro pins s σ H xs zs us ws Q I r rz h
  obtain ⟨a, as, cs, rfl, rfl, hs, hp, q⟩ := h
  obtain rfl := Vals.ref1 r
  obtain rfl := Vals.ref1 rz
  obtain ⟨its, rv, hl, hz⟩ := I.list hs
  obtain rfl := refs_vals rv
  rw [List.length_map] at hz
  have hlen : as.length = cs.length := Paired.length hp
  have hz2 : (as.map Value.ref).length ≤ sizeLine := by rw [List.length_map]; exact hz
  show wpAny _ _ (call (.builtin "sorted") [.ref a] [(Str.ofString "key", .ref f)]) _ _ s
  refine PySem.W.sorted_of_sort hl.isList hz2 (ksk_s1 _ _) (fun _ => ksk_l1 _ _) fun E' => ?_
  rw [ksk_t1]
  generalize hvs : as.map Value.ref = vs at *
  have hvl : vs.length = as.length := by rw [← hvs, List.length_map]
  have ho := PySem.W.copyHeap_at s.heap vs
  obtain ⟨e1, ho1⟩ : ∃ e1, ((PySem.W.copyHeap s.heap vs).update (s.heap.objs.size + 1) (Obj.mapSeq fun _ => (#[] : Array Value))).get? (s.heap.objs.size + 1) = some (seqObj "list" #[] e1) := ⟨_, get?_update_seq ho fun _ => #[]⟩
  have szA : s.heap.objs.size + 1 < (PySem.W.copyHeap s.heap vs).objs.size := Heap.lt_size ho
  have szK : (((PySem.W.copyHeap s.heap vs).update (s.heap.objs.size + 1) (Obj.mapSeq fun _ => (#[] : Array Value))).push (seqObj "tuple" vs.toArray 0)).objs.size = (PySem.W.copyHeap s.heap vs).objs.size + 1 := by rw [size_push', Heap.size_update]
  unfold ksk_tree
  refine wpAny_bind (listItems_at ho rfl ?_)
  refine wpAny_bind (listUpdate_at ho rfl ?_ (by rw [List.size_toArray]; exact hz2) (Nat.zero_le _))
  refine wpAny_bind (seqEpoch_at ho1 rfl ?_)
  refine wpAny_bind (wpAny_newTuple ?_ (by show vs.length ≤ _; exact hz2))
  refine wpAny_bind (wpAny_newList ?_ (Nat.zero_le _))
  refine wpAny_holding ?_
  generalize hkS : (((PySem.W.copyHeap s.heap vs).update (s.heap.objs.size + 1) (Obj.mapSeq fun _ => (#[] : Array Value))).push (seqObj "tuple" vs.toArray 0)).objs.size = kS at *
  generalize haS : s.heap.objs.size + 1 = aS at *
  have hka : kS ≠ aS := by omega
  have I0 : Inv X pins σ H { s with heap := PySem.W.sortingHeap (PySem.W.copyHeap s.heap vs) aS vs } := I.kept (t' := s.toks) fun b o e => by
    rw [← haS]
    exact PySem.W.sorting_copy_old e
  have fK : FpOk X pins H kS := I.fpOk (by omega) (I.hok.fresh (by omega))
  have fA : FpOk X pins H aS := I.fpOk (by omega) (I.hok.fresh (by omega))
  have nk0 : (PySem.W.sortingHeap (PySem.W.copyHeap s.heap vs) aS vs).get? kS = some (seqObj "list" #[] 0) := by
    rw [← hkS]
    exact Heap.get?_push_size _ rfl
  have na0 : (PySem.W.sortingHeap (PySem.W.copyHeap s.heap vs) aS vs).get? aS = some (seqObj "list" #[] e1) := Heap.get?_push_of_some _ (Heap.get?_push_of_some _ ho1)
  show wpAny _ _ (ksk_rest aS (.ref f) false vs.toArray e1 (.ref kS)) _ _ { s with heap := PySem.W.sortingHeap (PySem.W.copyHeap s.heap vs) aS vs }
  -- the keys, one by one
  have nocell : ∀ (ar : Array Value) (e : Nat) (v : Option Value), (seqObj "list" ar e).data ≠ .cell v := fun ar e v z => by cases z
  have pin2 : ∀ {H' : Hp} {s' : Shared} {kA : Array Value} {e : Nat}, Inv X pins σ H' s' → s'.heap.get? kS = some (seqObj "list" kA e) → H' kS = none → s'.heap.get? aS = some (seqObj "list" #[] e1) → H' aS = none →
      Inv X (pins ++ [(kS, seqObj "list" kA e), (aS, seqObj "list" #[] e1)]) σ H' s' := fun {H' s' kA e} J hk nk ha na => J.pins_of fun p hp => by
    rcases List.mem_append.mp hp with z | z
    · exact J.pin p (List.mem_append_right _ z)
    · rcases List.mem_cons.mp z with z | z
      · subst z
        exact ⟨hk, nk, fK.2.1, fK.2.2.1, nocell _ _⟩
      · rw [List.mem_singleton.mp z]
        exact ⟨ha, na, fA.2.1, fA.2.2.1, nocell _ _⟩
  unfold ksk_rest
  refine wpAny_bind (wpAny_rule ?_)
  first
    | rw [List.forIn_toArray]
    | (rw [← Array.forIn_toList]; simp only [List.toList_toArray])
  refine wpAny_bind (ksk_fold (fun i s' => ∃ (H' : Hp) (kA : Array Value) (e : Nat), Inv X pins σ H' s' ∧ Same H H' ∧ s'.heap.get? kS = some (seqObj "list" kA e) ∧ H' kS = none ∧ s'.heap.get? aS = some (seqObj "list" #[] e1) ∧ H' aS = none ∧ IntsAre kA.toList ((cs.take i).map k)) vs 0 _
    ⟨H, #[], 0, I0, Same.refl _, nk0, fK.1, na0, fA.1, by rw [List.take_zero]; exact .nil⟩ ?step ?done)
  case step =>
    rintro j y s' hy ⟨H', kA, e, J, sm, hk, nk, ha, na, hi⟩
    simp only [Nat.zero_add] at hi ⊢
    rw [← hvs, List.getElem?_map] at hy
    obtain ⟨b, hb1, rfl⟩ := Option.map_eq_some_iff.mp hy
    obtain ⟨c, hc, rc⟩ := paired_at hp hb1
    have J2 := pin2 J hk nk ha na
    have hjl : j < cs.length := (List.getElem?_eq_some_iff.mp hc).1
    have hq := hsp H' b c (fun v H2 => v = .int (k c) ∧ Same H' H2) (hmono _ _ _ _ rc sm) fun H2 s2 => ⟨rfl, s2⟩
    have room : Room kk X.A.in1.in1 := (Room.in1 (k := kk + 1) hr).in1
    refine wpAny_bind (wpAny_attempt (wpAny_call (codeAny_mono (F.run X.A.in1.in1 X.stack s' H' ⟨[.ref b], []⟩ [.ref b] [.ref b] _ _ room J2.env0.in1.in1 (hb s' [.ref b] J2.kIn rfl) (.cons rfl .nil) hq) fun res s'' hr2 => ?_)))
    cases res with
    | error er => exact hr2.elim
    | ok fl =>
      cases fl with
      | next => exact False.elim hr2
      | brk => exact False.elim hr2
      | cont => exact False.elim hr2
      | ret u =>
        obtain ⟨v, H2, J3, rvv, ev, s2⟩ := J2.after hr2
        subst ev
        obtain ⟨t, rfl⟩ := rvv
        obtain ⟨k1, k2, _⟩ := J3.pin (kS, seqObj "list" kA e) (by simp)
        obtain ⟨a1, a2, _⟩ := J3.pin (aS, seqObj "list" #[] e1) (by simp)
        have J4 : Inv X pins σ H2 s'' := J3.unpinned
        have szz : kA.size ≤ sizeLine := by
          have l1 := hi.length
          rw [Array.length_toList, List.length_map, List.length_take] at l1
          omega
        obtain ⟨e2, k3⟩ : ∃ e2, (s''.heap.update kS (Obj.mapSeq (·.push (Value.int (k c) t)))).get? kS = some (seqObj "list" (kA.push (Value.int (k c) t)) e2) := ⟨_, get?_update_seq k1 (·.push (Value.int (k c) t))⟩
        have sb := Heap.SameBut.update s''.heap kS (Obj.mapSeq (·.push (Value.int (k c) t)))
        refine wpAny_bind (listUpdate_at k1 rfl ?_ szz (by rw [Array.size_push]; omega))
        refine wpAny_pure ⟨rfl, H2, _, e2, J4.turnedL (t' := s''.toks) (ch := [kS]) (fun b o hb ho => (sb.2 b (fun z => hb (by simp [z]))).trans ho) (fun b hb => by rw [List.mem_singleton.mp hb]; exact ⟨k2, fK.2⟩), sm.trans s2, k3, k2, (sb.2 aS (Ne.symm hka)).trans a1, a2, ?_⟩
        rw [Array.toList_push, List.take_add_one, hc, List.map_append]
        exact ksk_snoc hi
  case done =>
    rintro s' ⟨H', kA, e, J, sm, hk, nk, ha, na, hi⟩
    rw [Nat.zero_add, List.take_of_length_le (by omega)] at hi
    have hi2 := each_ints (h := s'.heap) hi
    have hal : PySem.W.AllAlike (cs.map fun c => PyData.int (k c)) := PySem.W.AllAlike.of (enc := fun c => PyData.int (k c)) fun b b' => by simp [PySem.W.alike]
    have hso : PySem.W.Sortable (cs.map fun c => PyData.int (k c)) := PySem.W.Sortable.others (enc := fun c => PyData.int (k c)) fun b => ⟨fun z => (nomatch z), fun xs z => (nomatch z)⟩
    have hkn : kA.size = vs.length := by
      have l1 := hi.length
      rw [Array.length_toList, List.length_map] at l1
      omega
    have room : X.A.in1.in1.units < cLine := (Room.in1 (k := kk + 1) hr).in1.units0
    refine wpAny_bind (listItems_at hk rfl ?_)
    obtain ⟨G, g1, g2⟩ := restrict s'.heap fun b => decide (b ≠ kS)
    have gk : ∀ b, b ≠ kS → G.get? b = s'.heap.get? b := fun b hb => g1 b (decide_eq_true hb)
    have ge : G.get? kS = none := g2 kS (by simp)
    refine PySem.W.keyH_end (κ := PySem.W.dataKind s'.heap (cs.map fun c => PyData.int (k c))) (b := false) (h₁ := G) (fun b o _ ho => ?_) ge hk ha hka (PySem.W.SortsAt.data hi2 hal hso fun d hd => ?_) hkn hz2 fun h' tk c kp hD => ⟨rfl, ?_⟩
    · by_cases hb : b = kS
      · rw [hb, ge] at ho
        cases ho
      · exact (gk b hb).symm.trans ho
    · obtain ⟨c, _, rfl⟩ := List.mem_map.mp hd
      show X.A.in1.in1.units + 0 < cLine
      omega
    · have ko : PySem.W.KeyedOut false (cs.map fun c => PyData.int (k c)) vs (PySem.W.sortVals (PySem.W.dataKind s'.heap (cs.map fun c => PyData.int (k c))) false kA.toList vs) := ⟨s'.heap, kA.toList, hal, rfl, hi2⟩
      have out := PySem.W.keyedOut_each (fun c => PyData.int (k c)) ko (by rw [← hvs]; exact each_of (paired_mono hp fun a c r => hmono H H' a c r sm))
      rw [PySem.W.dataLe_int] at out
      obtain ⟨as', eo, pr⟩ := of_each out
      rw [eo] at hD
      have J2 : Inv X pins σ H' { s' with heap := h', toks := tk } := J.turnedL (ch := [kS, aS]) (fun b o hb ho => kp b o (fun z => hb (by simp [z])) ((gk b (fun z => hb (by simp [z]))).trans ho))
        (fun b hb => by
          rcases List.mem_cons.mp hb with z | z
          · rw [z]; exact ⟨nk, fK.2⟩
          · rw [List.mem_singleton.mp z]; exact ⟨na, fA.2⟩)
      have hla : (as'.map V.ref).length ≤ sizeLine := by
        have l1 := Paired.length pr
        rw [List.length_mergeSort] at l1
        rw [List.length_map]
        omega
      have J3 := track (o := .lst (as'.map V.ref)) J2 ⟨na, fA.2⟩ ⟨hla, _, c, vals_refs as', hD⟩
      have s3 : Same H' (upd H' aS (.lst (as'.map V.ref))) := fun b o e => by rw [upd_ne (ne_of_none e na)]; exact e
      exact ⟨.ref aS, _, J3, rfl, q _ aS as' (sm.trans s3) fA.1 upd_same (paired_mono pr fun a c r => hmono _ _ _ _ r s3)⟩
end K38

namespace K38
open PySem L2
/-! ### loops and comprehensions, whatever the body -/
theorem loop_list {K : PySem.W.Frag} {a : Addr} {xs : List V} {B : (Hp → Prop) → V → Hp → Prop} {H0 : Hp} {Qd : Hp → Prop} (Pv : Nat → Hp → Prop) (h0 : Pv 0 H0) (hl : ∀ i H, i ≤ xs.length → Pv i H → SqL K H a xs)
    (hs : ∀ i x H, xs[i]? = some x → Pv i H → B (Pv (i + 1)) x H) (hd : ∀ H, Pv xs.length H → Qd H) :
    ∃ W : Nat → Nat → Hp → Prop, (∃ m, W 0 m H0) ∧ ∀ i m H, W i m H → ((Itl K a).stop i H ∧ Qd H) ∨ ((Itl K a).go i H ∧ ∃ Nx : Hp → Prop, (∀ H', Nx H' → ∃ m', m' < m ∧ W (i + 1) m' H') ∧ ∀ x H', (Itl K a).yld i H x H' → B Nx x H') := by
  refine ⟨fun i m H => m = xs.length - i ∧ i ≤ xs.length ∧ Pv i H, ⟨xs.length, by simp, Nat.zero_le _, h0⟩, ?_⟩
  rintro i m H ⟨rfl, hi, p⟩
  have q := hl i H hi p
  by_cases c : i < xs.length
  · refine .inr ⟨⟨xs, xs[i], q, by simp [c]⟩, Pv (i + 1), fun H' p' => ⟨_, by omega, rfl, c, p'⟩, fun x H' y => ?_⟩
    obtain ⟨rfl, y⟩ := y
    exact hs i x _ (y xs q) p
  · obtain rfl : i = xs.length := by omega
    exact .inl ⟨⟨xs, q, Nat.le_refl _⟩, hd H p⟩
theorem loop_tup {K : PySem.W.Frag} {a : Addr} {xs : List V} {B : (Hp → Prop) → V → Hp → Prop} {H0 : Hp} {Qd : Hp → Prop} (Pv : Nat → Hp → Prop) (h0 : Pv 0 H0) (hl : ∀ i H, i ≤ xs.length → Pv i H → SqT K H a xs)
    (hs : ∀ i x H, xs[i]? = some x → Pv i H → B (Pv (i + 1)) x H) (hd : ∀ H, Pv xs.length H → Qd H) :
    ∃ W : Nat → Nat → Hp → Prop, (∃ m, W 0 m H0) ∧ ∀ i m H, W i m H → ((Itt K a).stop i H ∧ Qd H) ∨ ((Itt K a).go i H ∧ ∃ Nx : Hp → Prop, (∀ H', Nx H' → ∃ m', m' < m ∧ W (i + 1) m' H') ∧ ∀ x H', (Itt K a).yld i H x H' → B Nx x H') := by
  refine ⟨fun i m H => m = xs.length - i ∧ i ≤ xs.length ∧ Pv i H, ⟨xs.length, by simp, Nat.zero_le _, h0⟩, ?_⟩
  rintro i m H ⟨rfl, hi, p⟩
  have q := hl i H hi p
  by_cases c : i < xs.length
  · refine .inr ⟨⟨xs, xs[i], q, by simp [c]⟩, Pv (i + 1), fun H' p' => ⟨_, by omega, rfl, c, p'⟩, fun x H' y => ?_⟩
    obtain ⟨rfl, y⟩ := y
    exact hs i x _ (y xs q) p
  · obtain rfl : i = xs.length := by omega
    exact .inl ⟨⟨xs, q, Nat.le_refl _⟩, hd H p⟩
theorem loop_range {lo : Int} {n : Nat} {B : (Hp → Prop) → V → Hp → Prop} {H0 : Hp} {Qd : Hp → Prop} (Pv : Nat → Hp → Prop) (h0 : Pv 0 H0)
    (hs : ∀ i H, i < n → Pv i H → B (Pv (i + 1)) (.int (lo + i)) H) (hd : ∀ H, Pv n H → Qd H) :
    ∃ W : Nat → Nat → Hp → Prop, (∃ m, W 0 m H0) ∧ ∀ i m H, W i m H → ((Itr lo n).stop i H ∧ Qd H) ∨ ((Itr lo n).go i H ∧ ∃ Nx : Hp → Prop, (∀ H', Nx H' → ∃ m', m' < m ∧ W (i + 1) m' H') ∧ ∀ x H', (Itr lo n).yld i H x H' → B Nx x H') := by
  refine ⟨fun i m H => m = n - i ∧ i ≤ n ∧ Pv i H, ⟨n, by simp, Nat.zero_le _, h0⟩, ?_⟩
  rintro i m H ⟨rfl, hi, p⟩
  by_cases c : i < n
  · refine .inr ⟨c, Pv (i + 1), fun H' p' => ⟨_, by omega, rfl, c, p'⟩, fun x H' y => ?_⟩
    obtain ⟨rfl, rfl⟩ := y
    exact hs i _ c p
  · obtain rfl : i = n := by omega
    exact .inl ⟨Nat.le_refl _, hd H p⟩
/-- the rows of L stand in the list at r, all of them new since H -/
def Rows {α : Type} (enc : α → List V) (H H' : Hp) (r : Addr) (L : List α) : Prop := ∃ as : List Addr, H r = none ∧ H' r = some (.lst (as.map V.ref)) ∧ Paired (fun a l => H a = none ∧ H' a = some (.lst (enc l))) as L
/-- rows while they are laid into the list at D -/
def RowsIn {α : Type} (enc : α → List V) (H H' : Hp) (D : Addr) (L : List α) : Prop := ∃ as : List Addr, H' D = some (.lst (as.map V.ref)) ∧ Paired (fun a l => a ≠ D ∧ H a = none ∧ H' a = some (.lst (enc l))) as L
theorem RowsIn.nil {α : Type} {enc : α → List V} {H H' : Hp} {D : Addr} (h : H' D = some (.lst [])) : RowsIn enc H H' D ([] : List α) := ⟨[], h, .nil⟩
theorem RowsIn.same {α : Type} {enc : α → List V} {H H1 H2 : Hp} {D : Addr} {L : List α} (h : RowsIn enc H H1 D L) (s : Same H1 H2) : RowsIn enc H H2 D L := by
  obtain ⟨as, h1, h2⟩ := h
  exact ⟨as, s _ _ h1, paired_mono h2 fun a l z => ⟨z.1, z.2.1, s _ _ z.2.2⟩⟩
theorem RowsIn.put {α : Type} {enc : α → List V} {H H1 : Hp} {D p : Addr} {L : List α} {l : α} {acc : List V} (h : RowsIn enc H H1 D L) (ha : H1 D = some (.lst acc)) (hp : H1 p = some (.lst (enc l))) (n : H p = none) (ne : p ≠ D) : RowsIn enc H (upd H1 D (.lst (acc ++ [.ref p]))) D (L ++ [l]) := by
  obtain ⟨as, h1, h2⟩ := h
  rw [h1] at ha
  cases ha
  refine ⟨as ++ [p], by rw [upd_same, List.map_append]; rfl, Paired.snoc (paired_mono h2 fun a l z => ⟨z.1, z.2.1, by rw [upd_ne z.1]; exact z.2.2⟩) ⟨ne, n, by rw [upd_ne ne]; exact hp⟩⟩
theorem RowsIn.len {α : Type} {enc : α → List V} {H H1 : Hp} {D : Addr} {L : List α} (h : RowsIn enc H H1 D L) : ∃ acc, H1 D = some (.lst acc) ∧ acc.length = L.length := by
  obtain ⟨as, h1, h2⟩ := h
  exact ⟨_, h1, by rw [List.length_map]; exact Paired.length h2⟩
theorem RowsIn.rows {α : Type} {enc : α → List V} {H0 H H' : Hp} {D : Addr} {L : List α} (h : RowsIn enc H H' D L) (s : Same H0 H) (n : H0 D = none) : Rows enc H0 H' D L := by
  obtain ⟨as, h1, h2⟩ := h
  exact ⟨as, n, h1, paired_mono h2 fun a l z => ⟨s.free z.2.1, z.2.2⟩⟩
theorem flat_nums (l : List Nat) : (nums l).all flatV = true := by
  rw [List.all_eq_true]
  intro x hx
  obtain ⟨o, _, rfl⟩ := List.mem_map.mp hx
  rfl
theorem in_nums (f : Nat) (l : List Nat) : inV (.int (f : Int)) (nums l) = l.contains f := by
  induction l with
  | nil => rfl
  | cons g l ih =>
    show (eqV (.int (g : Int)) (.int (f : Int)) || inV (.int (f : Int)) (nums l)) = _
    rw [ih, List.contains_cons]
    congr 1
    show ((g : Int) == (f : Int)) = (f == g)
    by_cases e : f = g
    · subst e
      simp
    · rw [beq_eq_false_iff_ne.mpr (show ¬ (g : Int) = (f : Int) by omega), beq_eq_false_iff_ne.mpr e]
/-! ### all_turns -/
theorem turns_len : ∀ n ∈ [1, 2, 3, 4], ∀ i ∈ [0, 1, 2, 3, 4], (turnsI n i).length ≤ 1000 ∧ (turnsI n i).all (fun l => decide (l.length ≤ 10)) = true := by decide +kernel
theorem four {n : Nat} (h1 : 1 ≤ n) (h4 : n ≤ 4) : n ∈ [1, 2, 3, 4] := by
  have : n = 1 ∨ n = 2 ∨ n = 3 ∨ n = 4 := by omega
  rcases this with rfl | rfl | rfl | rfl <;> simp
theorem five {n : Nat} (h4 : n ≤ 4) : n ∈ [0, 1, 2, 3, 4] := by
  have : n = 0 ∨ n = 1 ∨ n = 2 ∨ n = 3 ∨ n = 4 := by omega
  rcases this with rfl | rfl | rfl | rfl | rfl <;> simp
def spTurns : Sp := fun vs H Q _ => ∃ n : Nat, vs = [.int (n : Int)] ∧ 1 ≤ n ∧ n ≤ 4 ∧ ∀ H' r, Same H H' → Rows nums H H' r (turns n) → Q (.ref r) H'
abbrev nTurns : List Str := ["fields", "rows", "_", "row", "field"]
theorem scTurns : FnScope nTurns ["fields"] (defScope sTurns) := ⟨rfl, rfl, rfl, by decide +kernel, rfl, by decide +kernel, by decide +kernel⟩
def extT (n : Nat) (r : List Nat) (m : Nat) : List (List Nat) := ((List.range m).filter fun f => !r.contains f).map fun f => r ++ [f]
theorem extT_succ (n m : Nat) (r : List Nat) : extT n r (m + 1) = extT n r m ++ (if r.contains m then [] else [r ++ [m]]) := by
  unfold extT
  rw [List.range_succ, List.filter_append, List.map_append]
  congr 1
  by_cases c : r.contains m = true
  · rw [if_pos c, List.filter_cons_of_neg (by rw [c]; simp)]
    rfl
  · rw [if_neg c, List.filter_cons_of_pos (by simpa using c)]
    rfl
theorem turnsI_succ (n i : Nat) : turnsI n (i + 1) = (turnsI n i).flatMap fun r => extT n r n := rfl
theorem flat_take {α β : Type} {f : α → List β} {l : List α} {i : Nat} {a : α} (h : l[i]? = some a) : (l.take (i + 1)).flatMap f = (l.take i).flatMap f ++ f a := by
  rw [List.take_add_one, h, List.flatMap_append]
  simp
theorem flat_le {α β : Type} {f : α → List β} {l : List α} {i : Nat} {a : α} (h : l[i]? = some a) : ((l.take i).flatMap f).length + (f a).length ≤ (l.flatMap f).length := by
  have e : l = l.take (i + 1) ++ l.drop (i + 1) := (List.take_append_drop _ _).symm
  have e2 : (l.flatMap f).length = ((l.take (i + 1)).flatMap f).length + ((l.drop (i + 1)).flatMap f).length := by
    conv => lhs; rw [e]
    rw [List.flatMap_append, List.length_append]
  rw [e2, flat_take h, List.length_append]
  omega
theorem line1000 {n : Nat} (h : n ≤ 1000) : n < sizeLine := Nat.lt_of_le_of_lt h (by decide)
section
variable {P : Program} {w : World} {K : PySem.W.Frag} {mg : Str → Option Value} {base : Heap}
theorem ok_turns (T : Defs K mg) : FnOk P w K mg base CX0 1 T.fTurns T.dTurns ["fields"] spTurns := by
  refine T.FTurns.ok scTurns (fun vs H Q E h => ?_) (fun cdv A outer s H vs Q E hr h => ?_)
  · obtain ⟨n, rfl, _⟩ := h
    rfl
  · obtain ⟨n, rfl, h1, h4, kq⟩ := h
    refine ⟨_, pss_cons (ps_set (i := 1) scTurns.nd rfl (Or.inl rfl) (pe_lst (pa_cons (pe_lst pa_nil) pa_nil)))
      (pss_cons (ps_for PassesOwn.never rfl (pi_range1 rfl T.b_range (pa_cons (pv 0) pa_nil)) (pg_name (i := 2) scTurns.nd rfl (Or.inl rfl))
        (pss_one (ps_setLc2 (i := 1) (own := [("row", 3), ("field", 4)]) (vs1 := [4]) (g := gName 3) (tt := tYes) (wi1 := iRng1 (tCons (tVar 0) tNil)) (g1 := gName 4) (tt1 := tTest (tOp (rIn K true) (tVar 4) (tVar 3))) (te := tOp rCat (tVar 3) (tLst (tCons (tVar 4) tNil)))
          rfl scTurns.nd rfl rfl (sw_true rfl rfl rfl (by decide +kernel)) (pi_list (pv 1)) (blkOk_by (N := nTurns) (sc := defScope sTurns) (by decide +kernel)) (by decide)
          (fun _ _ _ _ _ => pg_name (i := 3) scTurns.nd rfl (Or.inl rfl)) (fun _ _ _ _ _ => pts_nil) (fun _ _ _ _ _ => pi_range1 rfl T.b_range (pa_cons (pv 0) pa_nil))
          (fun _ _ _ _ _ => pg_name (i := 4) scTurns.nd rfl (Or.inl rfl)) (fun _ _ _ _ _ => pts_one (pt_cmpR op_notIn_seq (pv 4) (pv 3) rfl)) (fun _ _ _ _ _ => pe_op op_cat (pv 3) (pe_lst (pa_cons (pv 4) pa_nil))))))
      (pss_one (ps_ret (pv 1)))), ?_⟩
    refine ⟨(by show 0 ≤ sizeLine; decide), fun e ne => ⟨(by show 1 ≤ sizeLine; decide), fun r nr => ?_⟩⟩
    have er : e ≠ r := ne_of_none upd_same nr
    have nr0 : H r = none := (Same.new ne).free nr
    refine ⟨_, rfl, _, rfl, (by omega), (by omega), ?_⟩
    refine for_range (lo := 0) (n := _) (fun i σ H1 => ∃ (r : Addr) (v2 : Option V), σ = [some (.int (n : Int)), some (.ref r), v2, none, none] ∧ Same H H1 ∧ Rows nums H H1 r (turnsI n i))
      ⟨r, none, rfl, (Same.new ne).set nr0, [e], nr0, upd_same, .cons ⟨ne, by rw [upd_ne er, upd_same]; rfl⟩ .nil⟩ ?_ ?_
    · rintro i σ H1 hi ⟨r, v2, rfl, s1, as, nr0, hr1, hp⟩
      rw [Int.toNat_natCast] at hi
      have hlen := turns_len n (four h1 h4) (i + 1) (five (by omega))
      refine ⟨_, rfl, r, rfl, ⟨_, SqL.of hr1⟩, fun D nD => loop_list (K := K) (a := r) (xs := as.map V.ref) (fun j H2 => Same H1 H2 ∧ RowsIn nums H1 H2 D (((turnsI n i).take j).flatMap fun r => extT n r n))
        ⟨Same.new nD, .nil upd_same⟩ (fun j H2 _ z => SqL.of (z.1 _ _ hr1)) ?_ ?_⟩
      · rintro j x H2 hj ⟨s2, hR⟩
        rw [List.getElem?_map] at hj
        obtain ⟨a, ha, rfl⟩ := Option.map_eq_some_iff.mp hj
        obtain ⟨row, hrow, na, hrw⟩ := paired_at hp ha
        have tot : ((turnsI n (i + 1)).length) ≤ 1000 := hlen.1
        have rl : row.length ≤ 10 := of_decide_eq_true (List.all_eq_true.mp (turns_len n (four h1 h4) i (five (by omega))).2 row (List.mem_of_getElem? hrow))
        refine ⟨rfl, _, rfl, _, rfl, (by omega), (by omega), ?_⟩
        refine loop_range (lo := 0) (n := _) (fun f H3 => Same H1 H3 ∧ RowsIn nums H1 H3 D (((turnsI n i).take j).flatMap (fun r => extT n r n) ++ extT n row f)) ⟨s2, by rw [show extT n row 0 = [] from rfl, List.append_nil]; exact hR⟩ ?_ ?_
        · rintro f H3 hf ⟨s3, hR3⟩
          rw [Int.toNat_natCast] at hf
          rw [Int.zero_add]
          refine ⟨rfl, _, rfl, _, rfl, a, _, rfl, .inl (SqL.of (s3 _ _ hrw)), rfl, flat_nums _, _, rfl, ?_⟩
          rw [in_nums, extT_succ, ← List.append_assoc]
          refine ite2 (fun c => ?_) (fun c => ?_)
          · have c' : ¬ row.contains f = true := by simpa using c
            rw [if_neg c']
            refine ⟨_, rfl, _, rfl, (by show 1 ≤ sizeLine; decide), fun b nb => ?_⟩
            refine ⟨a, b, _, _, rfl, rfl, by rw [upd_ne (ne_of_none (s3 _ _ hrw) nb)]; exact s3 _ _ hrw, upd_same, ?_, fun p np => ?_⟩
            · rw [List.length_map]
              have : (20 : Nat) ≤ sizeLine := by decide
              show row.length + 1 ≤ sizeLine
              omega
            · have s4 : Same H3 (upd (upd H3 b (.lst [.int (f : Int)])) p (.lst (nums row ++ [.int (f : Int)]))) := (Same.new nb).set ((Same.new nb).free np)
              obtain ⟨acc, ac1, ac2⟩ := hR3.len
              have neD : p ≠ D := fun z => by
                have q := (Same.new (o := .lst [.int (f : Int)]) nb) _ _ ac1
                rw [← z, np] at q
                cases q
              refine ⟨acc, s4 _ _ ac1, ?_, fun b' o' e' => ?_, ?_⟩
              · rw [ac2]
                refine line1000 (Nat.le_trans ?_ tot)
                rw [turnsI_succ]
                refine Nat.le_trans ?_ (flat_le hrow)
                rw [List.length_append]
                have : (extT n row f).length ≤ (extT n row n).length := by
                  unfold extT
                  rw [List.length_map, List.length_map]
                  exact ((List.range_sublist.mpr (Nat.le_of_lt hf)).filter _).length_le
                omega
              · rw [upd_ne (ne_of_none e' nD)]
                exact s4 _ _ (s3 _ _ e')
              · refine (hR3.same s4).put (s4 _ _ ac1) ?_ (s3.free ((Same.new nb).free np)) neD
                rw [upd_same, nums_snoc]
          · have c' : row.contains f = true := by simpa using c
            rw [if_pos c', List.append_nil]
            exact ⟨s3, hR3⟩
        · rintro H3 ⟨s3, hR3⟩
          refine ⟨s3, ?_⟩
          rw [flat_take hrow]
          exact hR3
      · rintro H2 ⟨s2, hR⟩
        rw [List.length_map, Paired.length hp, List.take_of_length_le (Nat.le_refl _)] at hR
        refine ⟨D, some (.int (0 + (i : Int))), rfl, s1.trans s2, ?_⟩
        rw [turnsI_succ]
        exact hR.rows s1 (s1.free nD)
    · rintro σ H1 ⟨r, v2, rfl, s1, hR⟩
      exact ⟨_, rfl, kq _ r s1 hR⟩
theorem b_turns (T : Defs K mg) : Binds K T.dTurns ["fields"] [] := T.FTurns.binds fun _ _ _ _ _ _ us hl => match us, hl with | [_], _ => rfl
end
end K38

namespace K38
open PySem L2
/-! ### all_kinds -/
def kds (l : List Bool) : List V := l.map kdV
theorem kinds_small : ∀ n ∈ [1, 2, 3, 4], ∀ i ∈ [0, 1, 2, 3, 4], (kindsP i).length ≤ 1000 ∧ (kindsP i).all (fun l => decide (l.length ≤ 10)) = true := by decide +kernel
def spKinds : Sp := fun vs H Q _ => ∃ n : Nat, vs = [.int (n : Int)] ∧ 1 ≤ n ∧ n ≤ 4 ∧ ∀ H' r, Same H H' → Rows kds H H' r (kindsP n) → Q (.ref r) H'
abbrev nKinds : List Str := ["fields", "rows", "_", "row", "kind"]
theorem scKinds : FnScope nKinds ["fields"] (defScope sKinds) := ⟨rfl, rfl, rfl, by decide +kernel, rfl, by decide +kernel, by decide +kernel⟩
def extK (r : List Bool) : List (List Bool) := [r ++ [true], r ++ [false]]
theorem kindsP_succ (i : Nat) : kindsP (i + 1) = (kindsP i).flatMap extK := rfl
section
variable {P : Program} {w : World} {K : PySem.W.Frag} {mg : Str → Option Value} {base : Heap}
theorem ok_kinds (T : Defs K mg) : FnOk P w K mg base CX0 1 T.fKinds T.dKinds ["fields"] spKinds := by
  refine T.FKinds.ok scKinds (fun vs H Q E h => ?_) (fun cdv A outer s H vs Q E hr h => ?_)
  · obtain ⟨n, rfl, _⟩ := h
    rfl
  · obtain ⟨n, rfl, h1, h4, kq⟩ := h
    refine ⟨_, pss_cons (ps_set (i := 1) scKinds.nd rfl (Or.inl rfl) (pe_lst (pa_cons (pe_lst pa_nil) pa_nil)))
      (pss_cons (ps_for PassesOwn.never rfl (pi_range1 rfl T.b_range (pa_cons (pv 0) pa_nil)) (pg_name (i := 2) scKinds.nd rfl (Or.inl rfl))
        (pss_one (ps_setLc2 (i := 1) (own := [("row", 3), ("kind", 4)]) (vs1 := [4]) (g := gName 3) (tt := tYes) (wi1 := iTup K (tTup (tCons (tC (.str "up")) (tCons (tC (.str "down")) tNil)))) (g1 := gName 4) (tt1 := tYes) (te := tOp rCat (tVar 3) (tLst (tCons (tVar 4) tNil)))
          rfl scKinds.nd rfl rfl (sw_true rfl rfl rfl (by decide +kernel)) (pi_list (pv 1)) (blkOk_by (N := nKinds) (sc := defScope sKinds) (by decide +kernel)) (by decide)
          (fun _ _ _ _ _ => pg_name (i := 3) scKinds.nd rfl (Or.inl rfl)) (fun _ _ _ _ _ => pts_nil) (fun _ _ _ _ _ => pi_tup (pe_tup (pa_cons pe_str (pa_cons pe_str pa_nil))))
          (fun _ _ _ _ _ => pg_name (i := 4) scKinds.nd rfl (Or.inl rfl)) (fun _ _ _ _ _ => pts_nil) (fun _ _ _ _ _ => pe_op op_cat (pv 3) (pe_lst (pa_cons (pv 4) pa_nil))))))
      (pss_one (ps_ret (pv 1)))), ?_⟩
    refine ⟨(by show 0 ≤ sizeLine; decide), fun e ne => ⟨(by show 1 ≤ sizeLine; decide), fun r nr => ?_⟩⟩
    have er : e ≠ r := ne_of_none upd_same nr
    have nr0 : H r = none := (Same.new ne).free nr
    refine ⟨_, rfl, _, rfl, (by omega), (by omega), ?_⟩
    refine for_range (lo := 0) (n := _) (fun i σ H1 => ∃ (r : Addr) (v2 : Option V), σ = [some (.int (n : Int)), some (.ref r), v2, none, none] ∧ Same H H1 ∧ Rows kds H H1 r (kindsP i))
      ⟨r, none, rfl, (Same.new ne).set nr0, [e], nr0, upd_same, .cons ⟨ne, by rw [upd_ne er, upd_same]; rfl⟩ .nil⟩ ?_ ?_
    · rintro i σ H1 hi ⟨r, v2, rfl, s1, as, nr0, hr1, hp⟩
      rw [Int.toNat_natCast] at hi
      have hlen := kinds_small n (four h1 h4) (i + 1) (five (by omega))
      refine ⟨_, rfl, r, rfl, ⟨_, SqL.of hr1⟩, fun D nD => loop_list (K := K) (a := r) (xs := as.map V.ref) (fun j H2 => Same H1 H2 ∧ RowsIn kds H1 H2 D (((kindsP i).take j).flatMap extK))
        ⟨Same.new nD, .nil upd_same⟩ (fun j H2 _ z => SqL.of (z.1 _ _ hr1)) ?_ ?_⟩
      · rintro j x H2 hj ⟨s2, hR⟩
        rw [List.getElem?_map] at hj
        obtain ⟨a, ha, rfl⟩ := Option.map_eq_some_iff.mp hj
        obtain ⟨row, hrow, na, hrw⟩ := paired_at hp ha
        have tot : ((kindsP (i + 1)).length) ≤ 1000 := hlen.1
        have rl : row.length ≤ 10 := of_decide_eq_true (List.all_eq_true.mp (kinds_small n (four h1 h4) i (five (by omega))).2 row (List.mem_of_getElem? hrow))
        refine ⟨rfl, (by show 2 ≤ sizeLine; decide), fun t nt => ?_⟩
        refine ⟨t, rfl, ⟨_, SqT.of upd_same⟩, ?_⟩
        refine loop_tup (K := K) (a := t) (xs := [kdV true, kdV false]) (fun f H3 => Same H1 H3 ∧ H3 t = some (.tup [kdV true, kdV false]) ∧ RowsIn kds H1 H3 D (((kindsP i).take j).flatMap extK ++ (extK row).take f)) ⟨s2.set (s2.free nt), upd_same, by rw [List.take_zero, List.append_nil]; exact hR.same (Same.new nt)⟩ (fun f H3 _ z => SqT.of z.2.1) ?_ ?_
        · rintro f x H3 hf ⟨s3, ht3, hR3⟩
          obtain ⟨b, rfl, hb⟩ : ∃ b, x = kdV b ∧ (extK row).take (f + 1) = (extK row).take f ++ [row ++ [b]] ∧ f < 2 := by
            match f, hf with
            | 0, hf => exact ⟨true, (Option.some.inj hf).symm, rfl, by decide⟩
            | 1, hf => exact ⟨false, (Option.some.inj hf).symm, rfl, by decide⟩
            | f + 2, hf => cases hf
          refine ⟨rfl, _, rfl, _, rfl, (by show 1 ≤ sizeLine; decide), fun b' nb => ?_⟩
          refine ⟨a, b', _, _, rfl, rfl, by rw [upd_ne (ne_of_none (s3 _ _ hrw) nb)]; exact s3 _ _ hrw, upd_same, ?_, fun p np => ?_⟩
          · show (kds row).length + 1 ≤ sizeLine
            unfold kds
            rw [List.length_map]
            have : (20 : Nat) ≤ sizeLine := by decide
            omega
          · have s4 : Same H3 (upd (upd H3 b' (.lst [kdV b])) p (.lst (kds row ++ [kdV b]))) := (Same.new nb).set ((Same.new nb).free np)
            obtain ⟨acc, ac1, ac2⟩ := hR3.len
            have neD : p ≠ D := fun z => by
              have q := (Same.new (o := .lst [kdV b]) nb) _ _ ac1
              rw [← z, np] at q
              cases q
            have neT : t ≠ D := fun z => by
              obtain ⟨acc2, ac3, _⟩ := hR.len
              rw [← z, nt] at ac3
              cases ac3
            refine ⟨acc, s4 _ _ ac1, ?_, fun b' o' e' => ?_, ?_, ?_⟩
            · rw [ac2]
              refine line1000 (Nat.le_trans ?_ tot)
              rw [kindsP_succ]
              refine Nat.le_trans ?_ (flat_le hrow)
              rw [List.length_append]
              have : ((extK row).take f).length ≤ (extK row).length := List.length_take_le' _ _
              omega
            · rw [upd_ne (ne_of_none e' nD)]
              exact s4 _ _ (s3 _ _ e')
            · rw [upd_ne neT]
              exact s4 _ _ ht3
            · rw [hb.1, ← List.append_assoc]
              refine (hR3.same s4).put (s4 _ _ ac1) ?_ (s3.free ((Same.new nb).free np)) neD
              rw [upd_same]
              unfold kds
              rw [List.map_append]
              rfl
        · rintro H3 ⟨s3, _, hR3⟩
          refine ⟨s3, ?_⟩
          rw [flat_take hrow]
          exact hR3
      · rintro H2 ⟨s2, hR⟩
        rw [List.length_map, Paired.length hp, List.take_of_length_le (Nat.le_refl _)] at hR
        refine ⟨D, some (.int (0 + (i : Int))), rfl, s1.trans s2, ?_⟩
        rw [kindsP_succ]
        exact hR.rows s1 (s1.free nD)
    · rintro σ H1 ⟨r, v2, rfl, s1, hR⟩
      exact ⟨_, rfl, kq _ r s1 hR⟩
theorem b_kinds (T : Defs K mg) : Binds K T.dKinds ["fields"] [] := T.FKinds.binds fun _ _ _ _ _ _ us hl => match us, hl with | [_], _ => rfl
end
end K38

namespace K38
open PySem L2
/-! ### all_chains -/
/-- the forest of the chain c stands at a -/
def FC (F : Addr) (n : Nat) (H : Hp) (a : Addr) (c : Ch) : Prop := ForestAt F H a n (pars n c.1) c.2 ∧ Good n c.1 ∧ c.2.length = n
theorem FC.mono {F : Addr} {n : Nat} {H H' : Hp} {a : Addr} {c : Ch} (h : FC F n H a c) (s : Same H H') : FC F n H' a c := ⟨h.1.mono s, h.2.1, h.2.2⟩
theorem FC.keep {F : Addr} {n : Nat} {H H' : Hp} {x a : Addr} {xs : List V} {c : Ch} (h : FC F n H a c) (hx : H x = some (.lst xs)) (k : Keep x H H') : FC F n H' a c := by
  obtain ⟨⟨dx, p, q, h1, h2, h3⟩, g⟩ := h
  exact ⟨⟨dx, p, q, k _ _ h1 (ne_of h1 hx (fun z => by cases z)), k _ _ h2 (ne_of h2 hx (fun z => by cases z)), k _ _ h3 (ne_of h3 hx (fun z => by cases z))⟩, g⟩
def ordered (n : Nat) : List Ch := (rawP n).mergeSort fun x y => decide (((num n x : Nat) : Int) ≤ ((num n y : Nat) : Int))
def spChains (F : Addr) : Sp := fun vs H Q _ => ∃ n : Nat, vs = [.int (n : Int)] ∧ 1 ≤ n ∧ n ≤ 4 ∧ ∀ H' r as, Same H H' → H r = none → H' r = some (.lst (as.map V.ref)) → Paired (FC F n H') as (ordered n) → Q (.ref r) H'
abbrev nChains : List Str := ["fields", "chains", "row", "parents", "place", "kinds"]
theorem scChains : FnScope nChains ["fields"] (defScope sChains) := ⟨rfl, rfl, rfl, by decide +kernel, rfl, by decide +kernel, by decide +kernel⟩
theorem rawP_len : ∀ n ∈ [1, 2, 3, 4], (rawP n).length ≤ 384 := by decide +kernel
theorem parsI_len (n : Nat) (t : List Nat) : ∀ i, (parsI n t i).length = n
  | 0 => List.length_replicate ..
  | i + 1 => by
    show ((parsI n t i).set _ _).length = n
    rw [List.length_set]
    exact parsI_len n t i
theorem nat_at {l : List Nat} {k : Nat} (h : k < l.length) : atI (nums l) (k : Int) = some (.int ((l.getD k 0 : Nat) : Int)) :=
  atI_nat (by rw [List.getElem?_map, List.getElem?_eq_getElem h, List.getD_eq_getElem?_getD, List.getElem?_eq_getElem h]; rfl)
theorem Same.keep_new {x : Addr} {H H1 H' : Hp} (s : Same H H1) (k : Keep x H1 H') (n : H x = none) : Same H H' := fun b o e => k b o (s b o e) (ne_of_none e n)
theorem Keep.free {x p : Addr} {H H' : Hp} (k : Keep x H H') (n : H' p = none) (ne : p ≠ x) : H p = none := by
  cases e : H p with
  | none => rfl
  | some o =>
    rw [k _ _ e ne] at n
    cases n
theorem Keep.put {x p : Addr} {H H' : Hp} {o : HO} (k : Keep x H H') (n : H p = none) : Keep x H (upd H' p o) := fun b u e hb => by rw [upd_ne (ne_of_none e n)]; exact k b u e hb
theorem ix_of {n j : Nat} (hj : j < n) : ixN n (j : Int) = some j := by
  have h1 : (0 : Int) ≤ (j : Int) := by omega
  have h2 : ((j : Int)) < (n : Int) := by omega
  simp [ixN, h2]
theorem repl_flat {α : Type} : ∀ (n : Nat) (v : α), (List.replicate n [v]).flatten = List.replicate n v
  | 0, _ => rfl
  | n + 1, v => by
    rw [List.replicate_succ, List.flatten_cons, repl_flat n v]
    rfl
section
variable {P : Program} {w : World} {K : PySem.W.Frag} {mg : Str → Option Value} {base : Heap}
theorem ok_chains (T : Defs K mg) : FnOk P w K mg base CX0 6 T.fChains T.dChains ["fields"] (spChains T.cFor) := by
  have GT := ok_turns (P := P) (w := w) (base := base) T
  have GK := ok_kinds (P := P) (w := w) (base := base) T
  have GF := ok_forInit (P := P) (w := w) (base := base) T
  have GN := ok_numOf (P := P) (w := w) (base := base) T
  refine T.FChains.ok scChains (fun vs H Q E h => ?_) (fun cdv A outer s H vs Q E hr h => ?_)
  · obtain ⟨n, rfl, _⟩ := h
    rfl
  · obtain ⟨n, rfl, h1, h4, kq⟩ := h
    have hr1 : Room 1 _ := hr.mono (by decide)
    have hr4 : Room 4 _ := hr.mono (by decide)
    refine ⟨_, pss_cons (ps_set (i := 1) scChains.nd rfl (Or.inl rfl) (pe_lst pa_nil))
      (pss_cons (ps_for PassesOwn.never rfl (pi_list (pe_call GT hr1 rfl T.mTurns T.FTurns.kp (b_turns T) .nil pass0 (pa_cons (pv 0) pa_nil))) (pg_name (i := 2) scChains.nd rfl (Or.inl rfl))
        (pss_cons (ps_set (i := 3) scChains.nd rfl (Or.inl rfl) (pe_op op_rep (pe_lst (pa_cons pe_non pa_nil)) (pv 0)))
        (pss_cons (ps_for PassesOwn.never rfl (pi_range2 rfl T.b_range (pa_cons pe_int (pa_cons (pv 0) pa_nil))) (pg_name (i := 4) scChains.nd rfl (Or.inl rfl))
          (pss_one (ps_asg (pe_ix ix_list (pv 2) (pe_op op_sub (pv 4) pe_int) (fun _ _ => rfl)) (pg_sub (pv 3) (pe_ix ix_list (pv 2) (pv 4) (fun _ _ => rfl)) set_list))))
        (pss_one (ps_for PassesOwn.never rfl (pi_list (pe_call GK hr1 rfl T.mKinds T.FKinds.kp (b_kinds T) .nil pass0 (pa_cons (pv 0) pa_nil))) (pg_name (i := 5) scChains.nd rfl (Or.inl rfl))
          (pss_one (ps_expr (pe_bm PySem.F.plainAttrs_list PySem.F.slot_list_append PySem.F.type_list_append mt_append (pv 1) (pa_cons (pe_make T.MForInit GF hr4 rfl T.mFor (b_forInit T) .nil pass0 (pa_cons (pv 3) (pa_cons (pv 5) pa_nil))) pa_nil)))))))))
      (pss_one (ps_ret (pe_callBK (cr_sortedF (X := _) (Rel := FC T.cFor n) (k := fun c => ((num n c : Nat) : Int)) (fun H H' a c h s => h.mono s) GN hr (b_numOf T) (fun H1 a c Q h kq => ⟨a, n, c, rfl, h.1, h.2.1, h1, (by omega), h.2.2, kq⟩)) rfl T.b_sorted rfl (pa_cons (pv 1) pa_nil) (pk_cons (pe_glob (v := .ref T.fNumOf) rfl T.mNumOf rfl) pk_nil))))), ?_⟩
    refine ⟨(by show 0 ≤ sizeLine; decide), fun c nc => ?_⟩
    refine ⟨_, rfl, n, rfl, h1, h4, fun H1 r s1 hR => ?_⟩
    obtain ⟨as, nr, hr1', hp⟩ := hR
    have hc1 := s1 _ _ upd_same
    have cr : r ≠ c := fun z => by
      rw [z, upd_same] at nr
      cases nr
    refine ⟨r, rfl, ⟨_, SqL.of hr1'⟩, ?_⟩
    refine for_list (K := K) (a := r) (xs := as.map V.ref) (fun i σ H2 => ∃ (v2 v3 v4 v5 : Option V) (cs : List Addr), σ = [some (.int (n : Int)), some (.ref c), v2, v3, v4, v5] ∧ Keep c H1 H2 ∧ H2 c = some (.lst (cs.map V.ref)) ∧ Paired (FC T.cFor n H2) cs (((turns n).take i).flatMap fun t => (kindsP n).map fun k => (t, k)))
      ⟨none, none, none, none, [], rfl, Keep.of (Same.refl _), hc1, .nil⟩ (fun i σ H2 _ ⟨_, _, _, _, _, _, k, _⟩ => SqL.of (k _ _ hr1' cr)) ?_ ?_
    · rintro i x σ H2 hi ⟨v2, v3, v4, v5, cs, rfl, k2, hc2, hp2⟩
      rw [List.getElem?_map] at hi
      obtain ⟨a, ha, rfl⟩ := Option.map_eq_some_iff.mp hi
      obtain ⟨t, ht, na, hat⟩ := paired_at hp ha
      have g : Good n t := good_of (List.all_eq_true.mp (good_all n (four h1 h4)) t (List.mem_of_getElem? ht))
      have ac : a ≠ c := fun z => by
        rw [z, upd_same] at na
        cases na
      refine ⟨(by show 1 ≤ sizeLine; decide), fun u nu => ?_⟩
      have uc : c ≠ u := ne_of_none hc2 nu
      refine ⟨_, rfl, u, (n : Int), [V.non], rfl, rfl, upd_same, (by omega), (by omega), (by show 1 * n ≤ sizeLine; rw [Nat.one_mul]; exact Nat.le_of_lt (line100 (by omega))), fun d nd => ?_⟩
      have ud : u ≠ d := ne_of_none upd_same nd
      have nd2 : H2 d = none := (Same.new nu).free nd
      have cd : c ≠ d := ne_of_none hc2 nd2
      have dc : d ≠ c := fun z => cd z.symm
      have ad : a ≠ d := ne_of_none (k2 _ _ hat ac) nd2
      have e0 : (List.replicate (n : Int).toNat [V.non]).flatten = (parsI n t 0).map oV := by
        rw [Int.toNat_natCast]
        show _ = (List.replicate n none).map oV
        rw [List.map_replicate]
        exact repl_flat n V.non
      rw [e0]
      have k3 : Keep c H1 (upd (upd H2 u (.lst [V.non])) d (.lst ((parsI n t 0).map oV))) := (k2.new nu).new nd
      refine ⟨_, rfl, _, _, rfl, (by omega), ?_⟩
      refine for_range (lo := 1) (n := _) (fun i σ H3 => ∃ (v4 : Option V), σ = [some (.int (n : Int)), some (.ref c), some (.ref a), some (.ref d), v4, v5] ∧ Keep c H1 H3 ∧ Same H2 H3 ∧ H3 d = some (.lst ((parsI n t i).map oV)))
        ⟨v4, rfl, k3, (Same.new nu).set nd2, upd_same⟩ ?_ ?_
      · rintro j σ H3 hj ⟨v4, rfl, k3, s3, hd3⟩
        have hj' : j + 1 < n := by omega
        have hj2 : ((1 : Int) + (j : Int)) = ((j + 1 : Nat) : Int) := by omega
        have hj3 : ((1 : Int) + (j : Int)) - 1 = ((j : Nat) : Int) := by omega
        refine ⟨_, rfl, _, rfl, _, _, rfl, rfl, a, _, _, _, rfl, rfl, SqL.of (k3 _ _ hat ac), (by rw [hj3]; exact nat_at (by rw [g.len]; omega)), ?_⟩
        refine ⟨_, rfl, _, rfl, _, rfl, a, _, _, _, rfl, rfl, SqL.of (k3 _ _ hat ac), (by rw [hj2]; exact nat_at (by rw [g.len]; omega)), ?_⟩
        have hlt : t.getD (j + 1) 0 < n := g.lt _ (by rw [List.getD_eq_getElem?_getD, List.getElem?_eq_getElem (by rw [g.len]; omega)]; exact List.getElem_mem _)
        refine ⟨d, _, _, t.getD (j + 1) 0, rfl, rfl, hd3, ix_of (by rw [List.length_map, parsI_len]; exact hlt), ?_⟩
        refine ⟨_, rfl, k3.put (k2.free nd2 dc), s3.set nd2, ?_⟩
        · rw [upd_same]
          show some (HO.lst (((parsI n t j).map oV).set (t.getD (j + 1) 0) (.int ((t.getD j 0 : Nat) : Int)))) = some (.lst (((parsI n t j).set (t.getD (j + 1) 0) (some (t.getD j 0))).map oV))
          rw [List.map_set]
          rfl
      · rintro σ H3 ⟨v4, rfl, k3, s3, hd3⟩
        have hd4 : H3 d = some (.lst ((pars n t).map oV)) := by
          rw [hd3, show ((n : Int) - 1).toNat = n - 1 by omega]
          rfl
        refine ⟨_, rfl, n, rfl, h1, h4, fun H4 q s4 hRk => ?_⟩
        obtain ⟨bs, nq, hq4, hpk⟩ := hRk
        have hc3 : H3 c = some (.lst (cs.map V.ref)) := s3 _ _ hc2
        have hc4 := s4 _ _ hc3
        have qc : q ≠ c := fun z => by
          rw [z, hc3] at nq
          cases nq
        refine ⟨q, rfl, ⟨_, SqL.of hq4⟩, ?_⟩
        refine for_list (K := K) (a := q) (xs := bs.map V.ref) (fun j σ H5 => ∃ (v4 v5 : Option V) (cs' : List Addr), σ = [some (.int (n : Int)), some (.ref c), some (.ref a), some (.ref d), v4, v5] ∧ Keep c H4 H5 ∧ H5 c = some (.lst (cs'.map V.ref)) ∧
            Paired (FC T.cFor n H5) cs' ((((turns n).take i).flatMap fun t => (kindsP n).map fun k => (t, k)) ++ (((kindsP n).take j).map fun k => (t, k))))
          ⟨_, _, cs, rfl, Keep.of (Same.refl _), hc4, by rw [List.take_zero, List.map_nil, List.append_nil]; exact paired_mono hp2 fun a c h => h.mono (s3.trans s4)⟩ (fun i σ H2 _ ⟨_, _, _, _, k, _⟩ => SqL.of (k _ _ hq4 qc)) ?_ ?_
        · rintro j x σ H5 hj ⟨v4, v5, cs', rfl, k5, hc5, hp5⟩
          rw [List.getElem?_map] at hj
          obtain ⟨b, hb, rfl⟩ := Option.map_eq_some_iff.mp hj
          obtain ⟨k, hk, nb, hbk⟩ := paired_at hpk hb
          have kl : k.length = n := by
            have := List.all_eq_true.mp (kinds_len n (four h1 h4)) k (List.mem_of_getElem? hk)
            simpa using this
          have bc : b ≠ c := fun z => by
            rw [z, hc3] at nb
            cases nb
          refine ⟨_, rfl, .inl ⟨rfl, _, SqL.of hc5⟩, _, rfl, _, rfl, fun x dx nx ndx ne => ?_⟩
          have s5 : Same H5 (upd (upd H5 dx (.own x)) x (.ins T.cFor dx [])) := (Same.new ndx).set nx
          refine ⟨x, dx, d, b, n, (t, k), rfl, upd_same, s5 _ _ (k5 _ _ (s4 _ _ hd4) dc), s5 _ _ (k5 _ _ hbk bc), g, h1, (by omega), kl, fun H6 k6 hF => ⟨rfl, ?_⟩⟩
          have s6 : Same H5 H6 := Same.keep_new s5 k6 nx
          have hc6 := s6 _ _ hc5
          refine ⟨c, _, _, rfl, rfl, hc6, ?_, ?_⟩
          · rw [List.length_map, Paired.length hp5, List.length_append]
            have l1 := flat_le (f := fun t => (kindsP n).map fun k => (t, k)) ht
            have l2 : (turns n).flatMap (fun t => (kindsP n).map fun k => (t, k)) = rawP n := rfl
            have l3 := rawP_len n (four h1 h4)
            rw [l2] at l1
            have l4 : (((kindsP n).take j).map fun k => (t, k)).length ≤ ((kindsP n).map fun k => (t, k)).length := by
              rw [List.length_map, List.length_map]
              exact List.length_take_le' _ _
            exact line1000 (by omega)
          · have e1 : cs'.map V.ref ++ [V.ref x] = (cs' ++ [x]).map V.ref := by rw [List.map_append]; rfl
            rw [e1]
            have k7 : Keep c H6 (upd H6 c (.lst ((cs' ++ [x]).map V.ref))) := (Keep.of (Same.refl _)).upd_
            refine ⟨_, _, cs' ++ [x], rfl, k5.trans (Keep.same s6 k7), upd_same, ?_⟩
            rw [List.take_add_one, hk, List.map_append (f := fun k : List Bool => (t, k)), ← List.append_assoc]
            exact Paired.snoc (paired_mono hp5 fun a c h => (h.mono s6).keep hc6 k7) (FC.keep ⟨hF, g, kl⟩ hc6 k7)
        · rintro σ H5 ⟨v4, v5, cs', rfl, k5, hc5, hp5⟩
          rw [List.length_map, Paired.length hpk, List.take_of_length_le (Nat.le_refl _)] at hp5
          refine ⟨_, _, _, _, cs', rfl, (k3.then_ s4).trans k5, hc5, ?_⟩
          rw [flat_take ht]
          exact hp5
    · rintro σ H2 ⟨v2, v3, v4, v5, cs, rfl, k2, hc2, hp2⟩
      rw [List.length_map, Paired.length hp, List.take_of_length_le (Nat.le_refl _)] at hp2
      refine ⟨_, rfl, c, cs, rawP n, rfl, rfl, SqL.of hc2, hp2, fun H3 p as' s3 np hp3 hpr => ?_⟩
      have sH : Same H H2 := fun b o e => k2 _ _ (s1 _ _ (Same.new nc _ _ e)) (ne_of_none e nc)
      exact kq _ p as' (sH.trans s3) (sH.free np) hp3 hpr
theorem b_chains (T : Defs K mg) : Binds K T.dChains ["fields"] [] := T.FChains.binds fun _ _ _ _ _ _ us hl => match us, hl with | [_], _ => rfl
end
end K38

namespace K38
open PySem L2
/-! ### check_record, the record being right -/
def spChk (K : PySem.W.Frag) : Sp := fun vs H Q _ => ∃ (a : Addr) (n : Nat) (xs : List Int), vs = [.int (n : Int), .ref a] ∧ SqT K H a (xs.map V.int) ∧ xs.length = n ∧ n ≤ 100 ∧ Q .non H
theorem scChkRec : FnScope ["fields", "record"] ["fields", "record"] (defScope sChkRec) := ⟨rfl, rfl, rfl, by decide +kernel, rfl, by decide +kernel, by decide +kernel⟩
/-! ### a hider -/
def HidAt (C : Addr) (H : Hp) (x : Addr) (n : Nat) (r : Addr) : Prop := ∃ dx, H x = some (.ins C dx [("fields", .int (n : Int)), ("chains", .ref r)])
theorem HidAt.same {C : Addr} {H H' : Hp} {x r : Addr} {n : Nat} (h : HidAt C H x n r) (s : Same H H') : HidAt C H' x n r := by
  obtain ⟨dx, h⟩ := h
  exact ⟨dx, s _ _ h⟩
section
variable {a b : V}
theorem lh_fields : List.lookup ("fields" : Str) [("fields", a), ("chains", b)] = some a := by
  rw [List.lookup_cons, show (("fields" : Str) == "fields") = true by decide +kernel]
theorem lh_chains : List.lookup ("chains" : Str) [("fields", a), ("chains", b)] = some b := by
  rw [List.lookup_cons, show (("chains" : Str) == "fields") = false by decide +kernel, List.lookup_cons, show (("chains" : Str) == "chains") = true by decide +kernel]
theorem lh_none {m : Str} (h1 : (m == "fields") = false) (h2 : (m == "chains") = false) : List.lookup m [(("fields" : Str), a), (("chains" : Str), b)] = none := by
  rw [List.lookup_cons, h1, List.lookup_cons, h2]
  rfl
theorem put_chains {c : V} : putF "chains" c [("fields", a)] = ([("fields", a), ("chains", c)] : List (Str × V)) := by
  show (if ("fields" : Str) = "chains" then [(("chains" : Str), c)] else (("fields" : Str), a) :: putF "chains" c []) = _
  rw [if_neg (by decide +kernel)]
  rfl
theorem put_chains2 {c : V} : putF "chains" c [("fields", a), ("chains", b)] = ([("fields", a), ("chains", c)] : List (Str × V)) := by
  show (if ("fields" : Str) = "chains" then _ else (("fields" : Str), a) :: (if ("chains" : Str) = "chains" then [(("chains" : Str), c)] else _)) = _
  rw [if_neg (by decide +kernel), if_pos rfl]
end
theorem FC.ins {F C : Addr} {n : Nat} {H H' : Hp} {x a dx : Addr} {fs : List (Str × V)} {c : Ch} (h : FC F n H a c) (hx : H x = some (.ins C dx fs)) (hl : fs.length ≤ 2) (k : Keep x H H') : FC F n H' a c := by
  obtain ⟨⟨dy, p, q, h1, h2, h3⟩, g⟩ := h
  exact ⟨⟨dy, p, q, k _ _ h1 (ne_of h1 hx (fun z => by
    have z3 := (HO.ins.inj z).2.2
    rw [← z3] at hl
    have hl : 3 ≤ 2 := hl
    omega)), k _ _ h2 (ne_of h2 hx (fun z => by cases z)), k _ _ h3 (ne_of h3 hx (fun z => by cases z))⟩, g⟩
def spHidInit (F C : Addr) : Sp := fun vs H Q _ => ∃ (x dx : Addr) (n : Nat), vs = [.ref x, .int (n : Int)] ∧ H x = some (.ins C dx []) ∧ 1 ≤ n ∧ n ≤ 4 ∧
  ∀ H' r as, Keep x H H' → HidAt C H' x n r → H r = none → H' r = some (.lst (as.map V.ref)) → Paired (FC F n H') as (ordered n) → Q .non H'
theorem scHidInit : FnScope ["self", "fields"] ["self", "fields"] (defScope sHidInit) := ⟨rfl, rfl, rfl, by decide +kernel, rfl, by decide +kernel, by decide +kernel⟩
def spHidRem (C : Addr) : Sp := fun vs H Q _ => ∃ (x : Addr) (n : Nat) (r : Addr) (xs : List V), vs = [.ref x] ∧ HidAt C H x n r ∧ H r = some (.lst xs) ∧ ∀ p, H p = none → Q (.ref p) (upd H p (.lst xs))
theorem scHidRem : FnScope ["self"] ["self"] (defScope sHidRem) := ⟨rfl, rfl, rfl, by decide +kernel, rfl, by decide +kernel, by decide +kernel⟩
/-! ### Forest.__call__ -/
def spForCall (F : Addr) (K : PySem.W.Frag) : Sp := fun vs H Q _ => ∃ (f a b : Addr) (n : Nat) (c : Ch) (xs ys : List Int), vs = [.ref f, .ref a, .ref b] ∧ FC F n H f c ∧ SqT K H a (xs.map V.int) ∧ SqT K H b (ys.map V.int) ∧ n ≤ 100 ∧ xs.length = n ∧ ys.length = n ∧
  ∀ H' r, Same H H' → H r = none → H' r = some (.tup ((mergeC c xs ys).map V.int)) → Q (.ref r) H'
theorem scForCall : FnScope ["self", "older", "newer"] ["self", "older", "newer"] (defScope sForCall) := ⟨rfl, rfl, rfl, by decide +kernel, rfl, by decide +kernel, by decide +kernel⟩
section
variable {P : Program} {w : World} {K : PySem.W.Frag} {mg : Str → Option Value} {base : Heap}
theorem ok_chkRec (T : Defs K mg) : FnOk P w K mg base CX0 1 T.fChkRec T.dChkRec ["fields", "record"] (spChk K) := by
  refine T.FChkRec.ok scChkRec (fun vs H Q E h => ?_) (fun cdv A outer s H vs Q E hr h => ?_)
  · obtain ⟨a, n, xs, rfl, _⟩ := h
    rfl
  · obtain ⟨a, n, xs, rfl, ha, hl, hn, kq⟩ := h
    refine ⟨_, pss_one (ps_if (pt_cmpR op_ne (pe_callB call_len_seq rfl T.b_len PySem.boot_len (pa_cons (pv 1) pa_nil)) (pv 0) (nomark _)) pss_never pss_nil), ?_⟩
    refine ⟨_, rfl, a, _, rfl, .inr ha, _, rfl, rfl, _, rfl, ?_⟩
    exact ifF (by rw [List.length_map, hl]; simp) kq
theorem b_chkRec (T : Defs K mg) : Binds K T.dChkRec ["fields", "record"] [] := T.FChkRec.binds fun _ _ _ _ _ _ us hl => match us, hl with | [_, _], _ => rfl
theorem ok_hidInit (T : Defs K mg) : FnOk P w K mg base CX0 7 T.fHidInit T.dHidInit ["self", "fields"] (spHidInit T.cFor T.cHid) := by
  have GC := ok_chains (P := P) (w := w) (base := base) T
  refine T.FHidInit.ok scHidInit (fun vs H Q E h => ?_) (fun cdv A outer s H vs Q E hr h => ?_)
  · obtain ⟨x, dx, n, rfl, _⟩ := h
    rfl
  · obtain ⟨x, dx, n, rfl, hx, h1, h4, kq⟩ := h
    refine ⟨_, pss_cons (ps_fld (pv 0) (pv 1) rfl) (pss_one (ps_fld (pv 0) (pe_call GC hr rfl T.mChains T.FChains.kp (b_chains T) .nil pass0 (pa_cons (pv 1) pa_nil)) rfl)), ?_⟩
    refine ⟨_, rfl, _, rfl, x, T.cHid, dx, [], rfl, hx, T.kHid, T.nHid_fields, (by show 0 < 1000; decide), ?_⟩
    refine ⟨_, rfl, n, rfl, h1, h4, fun H1 r as s1 nr hr1 hp => ?_⟩
    have hx1 := s1 _ _ (upd_same (H := H) (a := x))
    refine ⟨_, rfl, x, T.cHid, dx, _, rfl, hx1, T.kHid, T.nHid_chains, (by show 1 < 1000; decide), ?_⟩
    rw [put_fields, put_chains]
    have k0 : Keep x H (upd H x (.ins T.cHid dx (putF "fields" (.int (n : Int)) []))) := (Keep.of (Same.refl _)).upd_
    have xr : r ≠ x := fun z => by
      rw [z, upd_same] at nr
      cases nr
    have kf : ∀ {H2 : Hp} {o : HO}, Keep x H2 (upd H2 x o) := fun {_ _} => (Keep.of (Same.refl _)).upd_
    refine kq _ r as ((k0.then_ s1).upd_) ⟨dx, upd_same⟩ (k0.free nr xr) (by rw [upd_ne xr]; exact hr1) (paired_mono hp fun a c h => h.ins hx1 (by rw [put_fields]; exact Nat.le_succ 1) kf)
theorem b_hidInit (T : Defs K mg) : Binds K T.dHidInit ["self", "fields"] [] := T.FHidInit.binds fun _ _ _ _ _ _ us hl => match us, hl with | [_, _], _ => rfl
theorem ok_hidRem (T : Defs K mg) : FnOk P w K mg base CX0 1 T.fHidRem T.dHidRem ["self"] (spHidRem T.cHid) := by
  refine T.FHidRem.ok scHidRem (fun vs H Q E h => ?_) (fun cdv A outer s H vs Q E hr h => ?_)
  · obtain ⟨x, n, r, xs, rfl, _⟩ := h
    rfl
  · obtain ⟨x, n, r, xs, rfl, ⟨dx, hx⟩, hr', kq⟩ := h
    refine ⟨_, pss_one (ps_ret (pe_callTy call_list_of rfl T.b_list (by decide +kernel) (pa_cons (pe_fld (pv 0) rfl) pa_nil))), ?_⟩
    exact ⟨_, rfl, x, T.cHid, dx, _, _, rfl, hx, T.kHid, T.nHid_chains, lh_chains, r, _, rfl, .inl (SqL.of hr'), kq⟩
theorem b_hidRem (T : Defs K mg) : Binds K T.dHidRem ["self"] [] := T.FHidRem.binds fun _ _ _ _ _ _ us hl => match us, hl with | [_], _ => rfl
theorem b_merged (T : Defs K mg) : Binds K T.dMerged ["parents", "kinds", "older", "newer"] [] := T.FMerged.binds fun _ _ _ _ _ _ us hl => match us, hl with | [_, _, _, _], _ => rfl
theorem ok_forCall (T : Defs K mg) : FnOk P w K mg base CX0 3 T.fForCall T.dForCall ["self", "older", "newer"] (spForCall T.cFor K) := by
  have GC := ok_chkRec (P := P) (w := w) (base := base) T
  have GM := ok_merged (P := P) (w := w) (base := base) T
  refine T.FForCall.ok scForCall (fun vs H Q E h => ?_) (fun cdv A outer s H vs Q E hr h => ?_)
  · obtain ⟨f, a, b, n, c, xs, ys, rfl, _⟩ := h
    rfl
  · obtain ⟨f, a, b, n, c, xs, ys, rfl, ⟨⟨dx, p, q, h1, h2, h3⟩, g, kl⟩, ha, hb, hn, hx, hy, kq⟩ := h
    have hr1 : Room 1 _ := hr.mono (by decide)
    refine ⟨_, pss_cons (ps_expr (pe_call GC hr1 rfl T.mChkRec T.FChkRec.kp (b_chkRec T) .nil pass0 (pa_cons (pe_fld (pv 0) rfl) (pa_cons (pv 1) pa_nil))))
      (pss_cons (ps_expr (pe_call GC hr1 rfl T.mChkRec T.FChkRec.kp (b_chkRec T) .nil pass0 (pa_cons (pe_fld (pv 0) rfl) (pa_cons (pv 2) pa_nil))))
      (pss_one (ps_ret (pe_call GM hr rfl T.mMerged T.FMerged.kp (b_merged T) .nil pass0 (pa_cons (pe_fld (pv 0) rfl) (pa_cons (pe_fld (pv 0) rfl) (pa_cons (pv 1) (pa_cons (pv 2) pa_nil)))))))), ?_⟩
    refine ⟨_, rfl, f, T.cFor, dx, _, _, rfl, h1, T.kFor, T.nFor_fields, lk_fields, _, rfl, a, n, xs, rfl, ha, hx, hn, ?_⟩
    refine ⟨_, rfl, f, T.cFor, dx, _, _, rfl, h1, T.kFor, T.nFor_fields, lk_fields, _, rfl, b, n, ys, rfl, hb, hy, hn, ?_⟩
    exact ⟨_, rfl, f, T.cFor, dx, _, _, rfl, h1, T.kFor, T.nFor_parents, lk_parents, _, rfl, f, T.cFor, dx, _, _, rfl, h1, T.kFor, T.nFor_kinds, lk_kinds, _, rfl, _, rfl, p, q, a, b, n, c, xs, ys, rfl, SqT.of h2, SqT.of h3, ha, hb, g, hn, kl, hx, hy, kq⟩
theorem b_forCall (T : Defs K mg) : Binds K T.dForCall ["self", "older", "newer"] [] := T.FForCall.binds fun _ _ _ _ _ _ us hl => match us, hl with | [_, _, _], _ => rfl
end
end K38

/-! R3: list.count of data; records as data; a comprehension over enumerate(list) -/
namespace K38
open PySem PySem.Spec PyProof.Rows L2
section
variable {X : Cx}
def rCntD (K : PySem.W.Frag) : V → List V → Hp → VK → Prop := fun x xs H Q => ∃ (p : Addr) (vs : List V) (ds : List PyData) (z : V) (d : PyData), x = .ref p ∧ xs = [z] ∧ SqL K H p vs ∧ DpAll K H vs ds ∧ Dp K H z d ∧ PyData.plainAll ds = true ∧ d.plain = true ∧ d.depth ≤ 8 ∧
  Q (.int ((ds.countP fun y => PyData.eqv y d : Nat) : Int)) H
theorem mt_countD (hu : X.A.units + 20 < cLine) : MtR X "list.count" (rCntD X.K) := by
  intro pins s σ H x xs v us Q I rx rxs h
  obtain ⟨p, vs, ds, z, d, rfl, rfl, hs, ha, hz, pa, pd, hd, q⟩ := h
  cases rx
  obtain ⟨u, rfl, ru⟩ := rxs.one
  obtain ⟨its, rv, hl, _⟩ := I.list hs
  obtain ⟨as, r1⟩ := Dp.readsAll I ds _ its ha rv
  obtain ⟨bs, r2⟩ := Dp.reads I d z u hz ru
  refine PySem.SeqAt.count_list_data (vs := its.toArray) hl.isList (by simpa using r1) r2 pa pd ?_ ⟨.int _, H, I.tok _, ⟨_, rfl⟩, q⟩
  have : min (PyData.depthAll ds) d.depth ≤ d.depth := Nat.min_le_right _ _
  omega
end
/-- a record as data -/
def recD (xs : List Int) : PyData := .tuple (xs.map PyData.int)
theorem ints_dp {K : PySem.W.Frag} {H : Hp} : ∀ xs : List Int, DpAll K H (xs.map V.int) (xs.map PyData.int)
  | [] => .nil
  | x :: xs => .cons (.int x) (ints_dp xs)
theorem rec_dp {K : PySem.W.Frag} {H : Hp} {a : Addr} {xs : List Int} (h : SqT K H a (xs.map V.int)) : Dp K H (.ref a) (recD xs) := .tup h (ints_dp xs)
theorem eqvAll_ints : ∀ xs ys : List Int, PyData.eqvAll (xs.map PyData.int) (ys.map PyData.int) = decide (xs = ys)
  | [], [] => rfl
  | [], y :: ys => rfl
  | x :: xs, [] => rfl
  | x :: xs, y :: ys => by
    show ((x == y) && PyData.eqvAll (xs.map PyData.int) (ys.map PyData.int)) = _
    rw [eqvAll_ints xs ys]
    by_cases h1 : x = y
    · by_cases h2 : xs = ys
      · simp [h1, h2]
      · simp [h1, h2]
    · simp [h1]
theorem eqv_rec (xs ys : List Int) : PyData.eqv (recD xs) (recD ys) = decide (xs = ys) := eqvAll_ints xs ys
theorem canLay_ints : ∀ xs : List Int, PyData.canLayAll0 (xs.map PyData.int) = true
  | [] => rfl
  | x :: xs => by
    show (true && PyData.canLayAll0 (xs.map PyData.int)) = true
    rw [canLay_ints xs]
    rfl
theorem depth_ints : ∀ xs : List Int, PyData.depthAll (xs.map PyData.int) = 0
  | [] => rfl
  | x :: xs => by
    show max 0 (PyData.depthAll (xs.map PyData.int)) = 0
    rw [depth_ints xs]
    rfl
theorem depth_rec (xs : List Int) : (recD xs).depth = 1 := by
  show PyData.depthAll (xs.map PyData.int) + 1 = 1
  rw [depth_ints]
theorem shaped_rec (xs : List Int) : SeqAt.shaped (recD xs) = true := by
  unfold SeqAt.shaped
  rw [depth_rec, show (recD xs).canLay0 = PyData.canLayAll0 (xs.map PyData.int) from rfl, canLay_ints]
  rfl
theorem plain_rec (xs : List Int) : (recD xs).plain = true := PyData.plain_of_canLay0 _ (canLay_ints xs)
theorem plain_recs : ∀ l : List (List Int), PyData.plainAll (l.map recD) = true
  | [] => rfl
  | x :: l => by
    show ((recD x).plain && PyData.plainAll (l.map recD)) = true
    rw [plain_rec, plain_recs l]
    rfl
theorem recs_dp {K : PySem.W.Frag} {H : Hp} : ∀ {as : List Addr} {l : List (List Int)}, Paired (fun a xs => SqT K H a (xs.map V.int)) as l → DpAll K H (as.map V.ref) (l.map recD)
  | _, _, .nil => .nil
  | _, _, .cons h t => .cons (rec_dp h) (recs_dp t)
theorem count_recs (l : List (List Int)) (z : List Int) : ((l.map recD).countP fun y => PyData.eqv y (recD z)) = l.count z := by
  rw [List.countP_map, List.count_eq_countP]
  congr 1
  funext x
  show PyData.eqv (recD x) (recD z) = (x == z)
  rw [eqv_rec]
  by_cases h : x = z
  · simp [h]
  · simp [h]
theorem loop_enum {K : PySem.W.Frag} {a : Addr} {xs : List V} {B : (Hp → Prop) → V → Hp → Prop} {H0 : Hp} {Qd : Hp → Prop} (Pv : Nat → Hp → Prop) (h0 : Pv 0 H0) (hl : ∀ i H, i ≤ xs.length → Pv i H → SqL K H a xs)
    (hs : ∀ i x T H, xs[i]? = some x → Pv i H → H T = none → B (Pv (i + 1)) (.ref T) (upd H T (.tup [.int (i : Nat), x]))) (hd : ∀ H, Pv xs.length H → Qd H) :
    ∃ W : Nat → Nat → Hp → Prop, (∃ m, W 0 m H0) ∧ ∀ i m H, W i m H → ((Ite K a).stop i H ∧ Qd H) ∨ ((Ite K a).go i H ∧ ∃ Nx : Hp → Prop, (∀ H', Nx H' → ∃ m', m' < m ∧ W (i + 1) m' H') ∧ ∀ x H', (Ite K a).yld i H x H' → B Nx x H') := by
  refine ⟨fun i m H => m = xs.length - i ∧ i ≤ xs.length ∧ Pv i H, ⟨xs.length, by simp, Nat.zero_le _, h0⟩, ?_⟩
  rintro i m H ⟨rfl, hi, p⟩
  have q := hl i H hi p
  by_cases c : i < xs.length
  · refine .inr ⟨⟨xs, xs[i], q, by simp [c]⟩, Pv (i + 1), fun H' p' => ⟨_, by omega, rfl, c, p'⟩, fun x H' y => ?_⟩
    obtain ⟨T, z, rfl, nT, rfl, e⟩ := y
    exact hs i z T _ (e xs q) p nT
  · obtain rfl : i = xs.length := by omega
    exact .inl ⟨⟨xs, q, Nat.le_refl _⟩, hd H p⟩
end K38

namespace K38
def cntF (cs : List Ch) (xs ys : List Int) : Nat := (cs.map fun c => side c xs ys).count false
def sideN (cs : List Ch) (xs ys : List Int) : Bool := decide (2 * cntF cs xs ys < cs.length)
def keptC (cs : List Ch) (xs ys : List Int) : List Ch := cs.filter fun c => side c xs ys == sideN cs xs ys
theorem side_same (c : Ch) (xs : List Int) : side c xs xs = false := by
  unfold side firstUn
  rw [List.find?_eq_none.mpr (fun f _ => by simp)]
theorem merge_xs {c : Ch} {xs ys : List Int} : (mergeC c xs ys = xs) ↔ side c xs ys = false := by
  unfold mergeC
  by_cases h : xs = ys
  · subst h
    rw [side_same]
    simp
  · cases side c xs ys with
    | false => simp
    | true => simp [Ne.symm h]
theorem count_merge (cs : List Ch) (xs ys : List Int) : (cs.map fun c => mergeC c xs ys).count xs = cntF cs xs ys := by
  unfold cntF
  rw [List.count_eq_countP, List.count_eq_countP, List.countP_map, List.countP_map]
  congr 1
  funext c
  show (mergeC c xs ys == xs) = (side c xs ys == false)
  by_cases h : side c xs ys = false
  · rw [merge_xs.mpr h, h]
    simp
  · have h2 : ¬ mergeC c xs ys = xs := fun z => h (merge_xs.mp z)
    rw [beq_eq_false_iff_ne.mpr h2, beq_eq_false_iff_ne.mpr h]
theorem cnt_le (cs : List Ch) (xs ys : List Int) : cntF cs xs ys ≤ cs.length := by
  unfold cntF
  have := List.count_le_length (a := false) (l := cs.map fun c => side c xs ys)
  rw [List.length_map] at this
  exact this
theorem cnt_same (cs : List Ch) (xs : List Int) : cntF cs xs xs = cs.length := by
  unfold cntF
  rw [show (cs.map fun c => side c xs xs) = cs.map fun _ => false from List.map_congr_left fun c _ => side_same c xs]
  rw [List.count_eq_length.mpr (by intro b hb; obtain ⟨_, _, rfl⟩ := List.mem_map.mp hb; rfl), List.length_map]
theorem kept_iff (cs : List Ch) (xs ys : List Int) (c : Ch) : decide (mergeC c xs ys = (if sideN cs xs ys then ys else xs)) = (side c xs ys == sideN cs xs ys) := by
  cases hs : sideN cs xs ys with
  | false =>
    show decide (mergeC c xs ys = xs) = _
    by_cases h : side c xs ys = false
    · rw [h, decide_eq_true (merge_xs.mpr h)]
      rfl
    · rw [decide_eq_false (fun z => h (merge_xs.mp z)), beq_eq_false_iff_ne.mpr h]
  | true =>
    show decide (mergeC c xs ys = ys) = _
    have ne : xs ≠ ys := fun z => by
      subst z
      have := of_decide_eq_true hs
      rw [cnt_same] at this
      omega
    unfold mergeC
    cases side c xs ys with
    | false => simp [ne]
    | true => simp
theorem cnt_sum : ∀ l : List Bool, l.count false + l.count true = l.length
  | [] => rfl
  | b :: l => by
    have := cnt_sum l
    rw [List.count_cons, List.count_cons, List.length_cons]
    cases b <;> simp <;> omega
theorem kept_len (cs : List Ch) (xs ys : List Int) : (cs.length + 1) / 2 ≤ (keptC cs xs ys).length := by
  have e1 : (keptC cs xs ys).length = (cs.map fun c => side c xs ys).count (sideN cs xs ys) := by
    unfold keptC
    rw [← List.countP_eq_length_filter, List.count_eq_countP, List.countP_map]
    rfl
  have e2 : (cs.map fun c => side c xs ys).count false + (cs.map fun c => side c xs ys).count true = cs.length := by
    rw [cnt_sum, List.length_map]
  rw [e1]
  have e3 : sideN cs xs ys = decide (2 * (cs.map fun c => side c xs ys).count false < cs.length) := rfl
  by_cases h : 2 * (cs.map fun c => side c xs ys).count false < cs.length
  · rw [e3, decide_eq_true h]
    omega
  · rw [e3, decide_eq_false h]
    omega
end K38

namespace K38
open PySem L2
theorem toR {P : Program} {w : World} {K : PySem.W.Frag} {mg : Str → Option Value} {base : Heap} {CX : CXT} {k : Nat} {f : Addr} {sp : Sp} {fd : FuncData} {ps : List Str} (F : FnOk P w K mg base CX k f fd ps sp) (hb : Binds K fd ps []) : FnR P w K mg base CX k f sp :=
  (F.raw hb .nil).imp fun vs H Q E h => by rw [List.append_nil]; exact h
theorem room20 {k : Nat} {A : Around} (h : Room k A) : A.units + 20 < cLine := by
  have := h.un
  omega
theorem room64 {k : Nat} {A : Around} (h : Room k A) : A.units + 64 < cLine := by
  have := h.un
  omega
/-- o(..) of an instance of the class at C, whatever the block -/
def tCallF (C : Addr) (sp : Sp) (tf : TE) (t : TA) : TE := fun σ H Q => tf σ H fun y H1 => ∃ a, y = V.ref a ∧ t σ H1 fun vs H2 => ((∃ dx vs, SlX.Slt H2 a C dx vs) ∨ ∃ dx fs, H2 a = some (.ins C dx fs)) ∧ sp (V.ref a :: vs) H2 Q E0
theorem pe_callF {X : Cx} {C g : Addr} {k : Nat} {sp : Sp} {fe e : Expr} {es : List Expr} {tf : TE} {t : TA} {pos : Pos} (hf : PE X fe tf) (c : StX.CallO X.K C g) (F : FnR X.prog X.w X.K X.mg X.base CX0 k g sp) (hr : Room k X.A) (ha : PA X (e :: es) t)
    (ht : eval (.Call fe (e :: es) [] pos) X.env = (do callWith pos (← eval fe X.env) [] (backTo pos (starEach (e :: es) X.env)) (backToKw pos (keywordEach [] X.env))) := by rfl)
    (he : starEach (e :: es) X.env = (false, eval e X.env) :: starEach es X.env := by rfl) (hpl : (backTo pos (starEach es X.env)).any (·.1) = false := by rfl) : PE X (.Call fe (e :: es) [] pos) (tCallF C sp tf t) :=
  StX.pe_callO hf c F hr pass0 ha ht he hpl
/-! ### Hider.reply, both records being right -/
def spReply (F C : Addr) (K : PySem.W.Frag) : Sp := fun vs H Q _ => ∃ (x r a b : Addr) (n : Nat) (as : List Addr) (cs : List Ch) (xs ys : List Int), vs = [.ref x, .ref a, .ref b] ∧ HidAt C H x n r ∧ H r = some (.lst (as.map V.ref)) ∧ Paired (FC F n H) as cs ∧ SqT K H a (xs.map V.int) ∧ SqT K H b (ys.map V.int) ∧
  n ≤ 100 ∧ xs.length = n ∧ ys.length = n ∧ cs.length ≤ 384 ∧
  ∀ H' r' as', Keep x H H' → HidAt C H' x n r' → H' r' = some (.lst (as'.map V.ref)) → Paired (FC F n H') as' (keptC cs xs ys) → Q (.ref (if sideN cs xs ys then b else a)) H'
abbrev nReply : List Str := ["self", "older", "newer", "ends", "result", "chain", "place"]
theorem scReply : FnScope nReply ["self", "older", "newer"] (defScope sHidReply) := ⟨rfl, rfl, rfl, by decide +kernel, rfl, by decide +kernel, by decide +kernel⟩
section
variable {P : Program} {w : World} {K : PySem.W.Frag} {mg : Str → Option Value} {base : Heap}
theorem ok_reply (T : Defs K mg) : FnOk P w K mg base CX0 4 T.fHidReply T.dHidReply ["self", "older", "newer"] (spReply T.cFor T.cHid K) := by
  have GC := ok_chkRec (P := P) (w := w) (base := base) T
  have GF := toR (ok_forCall (P := P) (w := w) (base := base) T) (b_forCall T)
  refine T.FHidReply.ok scReply (fun vs H Q E h => ?_) (fun cdv A outer s H vs Q E hr h => ?_)
  · obtain ⟨x, r, a, b, n, as, cs, xs, ys, rfl, _⟩ := h
    rfl
  · obtain ⟨x, r, a, b, n, as, cs, xs, ys, rfl, ⟨dx, hx⟩, hr', hp, ha, hb, hn, lx, ly, hc, kq⟩ := h
    have hr1 : Room 1 _ := hr.mono (by decide)
    refine ⟨_, pss_cons (ps_expr (pe_call GC hr1 rfl T.mChkRec T.FChkRec.kp (b_chkRec T) .nil pass0 (pa_cons (pe_fld (pv 0) rfl) (pa_cons (pv 1) pa_nil))))
      (pss_cons (ps_expr (pe_call GC hr1 rfl T.mChkRec T.FChkRec.kp (b_chkRec T) .nil pass0 (pa_cons (pe_fld (pv 0) rfl) (pa_cons (pv 2) pa_nil))))
      (pss_cons (ps_set (i := 3) scReply.nd rfl (Or.inr rfl) (pe_lc (own := [("chain", 5)]) (g := gName 5) (tt := tYes) (te := tCallF T.cFor (spForCall T.cFor K) (tVar 5) (tCons (tVar 1) (tCons (tVar 2) tNil))) rfl scReply.nd (pi_list (pe_fld (pv 0) rfl)) (blkOk_by (N := nReply) (sc := defScope sHidReply) (by decide +kernel))
        (fun _ _ _ _ _ => pg_name (i := 5) scReply.nd rfl (Or.inl rfl)) (fun _ _ _ _ _ => pts_nil) (fun _ _ _ _ _ => pe_callF (pv 5) T.MForCall GF hr (pa_cons (pv 1) (pa_cons (pv 2) pa_nil)))))
      (pss_cons (ps_set (i := 4) scReply.nd rfl (Or.inr rfl) (pv 1))
      (pss_cons (ps_if (pt_cmpR op_lt (pe_op op_mul pe_int (pe_bm PySem.F.plainAttrs_list PySem.F.slot_list_count PySem.F.type_list_count (mt_countD (room20 hr)) (pv 3) (pa_cons (pv 1) pa_nil))) (pe_callB call_len_seq rfl T.b_len PySem.boot_len (pa_cons (pv 3) pa_nil)) (nomark _))
        (pss_one (ps_set (i := 4) scReply.nd rfl (Or.inr rfl) (pv 2))) pss_nil)
      (pss_cons (ps_fld (pv 0) (pe_lc (own := [("place", 6), ("chain", 5)]) (g := gTup K 2 (gCons (gName 6) (gCons (gName 5) gNil))) (tt := tTest (tOp (rEqD K) (tOp (rIxL K) (tVar 3) (tVar 6)) (tVar 4))) (te := tVar 5) rfl scReply.nd (pi_enum rfl T.b_enumerate (pa_cons (pe_fld (pv 0) rfl) pa_nil)) (blkOk_by (N := nReply) (sc := defScope sHidReply) (by decide +kernel))
        (fun _ _ _ _ _ => pg_tup rfl (pgs_cons (pg_name (i := 6) scReply.nd rfl (Or.inl rfl)) (pgs_cons (pg_name (i := 5) scReply.nd rfl (Or.inl rfl)) pgs_nil))) (fun _ _ _ _ _ => pts_one (pt_cmpR (op_eqD (room64 hr)) (pe_ix ix_list (pv 3) (pv 6) (fun _ _ => rfl)) (pv 4) (nomark _))) (fun _ _ _ _ _ => pv 5)) rfl)
      (pss_one (ps_ret (pv 4)))))))), ?_⟩
    refine ⟨_, rfl, x, T.cHid, dx, _, _, rfl, hx, T.kHid, T.nHid_fields, lh_fields, _, rfl, a, n, xs, rfl, ha, lx, hn, ?_⟩
    refine ⟨_, rfl, x, T.cHid, dx, _, _, rfl, hx, T.kHid, T.nHid_fields, lh_fields, _, rfl, b, n, ys, rfl, hb, ly, hn, ?_⟩
    have hcl : cs.length ≤ 1000 := by omega
    have hl1 : as.length = cs.length := Paired.length hp
    refine ⟨_, rfl, x, T.cHid, dx, _, _, rfl, hx, T.kHid, T.nHid_chains, lh_chains, r, rfl, ⟨_, SqL.of hr'⟩, fun D nD => lc_list (K := K) (a := r) (xs := as.map V.ref) (fun i H1 => Same H H1 ∧ ∃ es : List Addr, H1 D = some (.lst (es.map V.ref)) ∧ Paired (fun a zs => H1 a = some (.tup (zs.map V.int))) es ((cs.take i).map fun c => mergeC c xs ys))
      ⟨Same.new nD, [], upd_same, .nil⟩ (fun i H1 _ z => SqL.of (z.1 _ _ hr')) ?_ ?_⟩
    · rintro i v H1 hi ⟨s1, es, h1, hp1⟩
      rw [List.getElem?_map] at hi
      obtain ⟨f, hf, rfl⟩ := Option.map_eq_some_iff.mp hi
      obtain ⟨c, hcc, fc⟩ := paired_at hp hf
      obtain ⟨df, pf, qf, f1, _⟩ := (fc.mono s1).1
      refine ⟨rfl, _, rfl, f, rfl, _, rfl, _, rfl, .inr ⟨_, _, f1⟩, f, a, b, n, c, xs, ys, rfl, fc.mono s1, s1.tup ha, s1.tup hb, hn, lx, ly, fun H2 r2 s2 nr2 hr2 => ?_⟩
      refine ⟨_, s2 _ _ h1, ?_, ?_⟩
      · rw [List.length_map, Paired.length hp1, List.length_map]
        exact line1000 (Nat.le_trans (List.length_take_le' _ _) hcl)
      · have ne2 : r2 ≠ D := fun z => by
          rw [z, h1] at nr2
          cases nr2
        refine ⟨(s1.trans s2).set nD, es ++ [r2], by rw [upd_same, List.map_append]; rfl, ?_⟩
        rw [List.take_add_one, hcc, List.map_append (f := fun c => mergeC c xs ys)]
        refine Paired.snoc (paired_mono hp1 fun a' zs z => ?_) (by rw [upd_ne ne2]; exact hr2)
        rw [upd_ne (ne_of z h1 (fun z => by cases z))]
        exact s2 _ _ z
    · rintro H1 ⟨s1, es, h1, hp1⟩
      rw [List.length_map, hl1, List.take_of_length_le (Nat.le_refl _)] at hp1
      have hd1 : Paired (fun a zs => SqT K H1 a (zs.map V.int)) es (cs.map fun c => mergeC c xs ys) := paired_mono hp1 fun a zs z => SqT.of z
      refine ⟨_, rfl, ?_⟩
      refine ⟨_, rfl, .inl ⟨rfl, _, SqL.of h1⟩, _, rfl, D, _, _, _, recD xs, rfl, rfl, SqL.of h1, recs_dp hd1, rec_dp (s1.tup ha), plain_recs _, plain_rec _, by rw [depth_rec]; decide, ?_⟩
      rw [count_recs, count_merge]
      have hcnt := cnt_le cs xs ys
      refine ⟨_, _, rfl, rfl, .inr ⟨by omega, by omega⟩, _, rfl, D, _, rfl, .inl (SqL.of h1), _, _, rfl, rfl, _, rfl, ?_⟩
      have hel : (es.map V.ref).length = cs.length := by rw [List.length_map, Paired.length hp1, List.length_map]
      rw [hel]
      refine ite2 (fun c => ?_) (fun c => ?_)
      · have hs : sideN cs xs ys = true := by
          have c2 := of_decide_eq_true c
          exact decide_eq_true (by omega)

        refine ⟨_, rfl, _, rfl, x, T.cHid, dx, _, _, rfl, s1 _ _ hx, T.kHid, T.nHid_chains, lh_chains, r, _, rfl, SqL.of (s1 _ _ hr'), fun D2 nD2 => loop_enum (K := K) (a := r) (xs := as.map V.ref) (fun i H2 => Same H1 H2 ∧ ∃ ks : List Addr, H2 D2 = some (.lst (ks.map V.ref)) ∧ Paired (FC T.cFor n H2) ks ((cs.take i).filter fun c => side c xs ys == sideN cs xs ys))
          ⟨Same.new nD2, [], upd_same, .nil⟩ (fun i H2 _ z => SqL.of (z.1 _ _ (s1 _ _ hr'))) ?_ ?_⟩
        · rintro i v T2 H2 hi ⟨s2, ks, h2, hp2⟩ nT
          rw [List.getElem?_map] at hi
          obtain ⟨f, hf, rfl⟩ := Option.map_eq_some_iff.mp hi
          obtain ⟨c, hcc, fc⟩ := paired_at hp hf
          have il : i < cs.length := (List.getElem?_eq_some_iff.mp hcc).1
          have s3 : Same H2 (upd H2 T2 (.tup [.int (i : Nat), .ref f])) := Same.new nT
          have s13 := s2.trans s3
          obtain ⟨e, he⟩ : ∃ e, es[i]? = some e := ⟨_, List.getElem?_eq_getElem (by have l1 := Paired.length hp1; rw [List.length_map] at l1; omega)⟩
          obtain ⟨zs, hz, hze⟩ := paired_at hp1 he
          obtain rfl : mergeC c xs ys = zs := by
            rw [List.getElem?_map, hcc] at hz
            exact Option.some.inj hz
          refine ⟨T2, _, rfl, SqT.of upd_same, rfl, _, _, rfl, _, _, rfl, rfl, rfl, _, rfl, _, rfl, D, _, _, _, rfl, rfl, SqL.of (s13 _ _ h1), atI_nat (by rw [List.getElem?_map, he]; rfl), _, rfl, recD (mergeC c xs ys), recD ys, rec_dp (SqT.of (s13 _ _ hze)), rec_dp ((s1.trans s13).tup hb), shaped_rec _, shaped_rec _, _, rfl, ?_⟩
          have ki := kept_iff cs xs ys c
          rw [hs] at ki
          rw [eqv_rec, show decide (mergeC c xs ys = ys) = (side c xs ys == true) from ki]
          have nT2 : T2 ≠ D2 := fun z => by
            rw [z, h2] at nT
            cases nT
          refine ite2 (fun c1 => ?_) (fun c1 => ?_)
          · refine ⟨_, rfl, _, s3 _ _ h2, ?_, fun b o e => ?_, ks ++ [f], ?_, ?_⟩
            · rw [List.length_map, Paired.length hp2]
              exact line1000 (Nat.le_trans (List.length_filter_le _ _) (Nat.le_trans (List.length_take_le' _ _) hcl))
            · rw [upd_ne (ne_of_none e nD2)]
              exact s13 _ _ e
            · rw [upd_same, List.map_append]
              rfl
            · rw [List.take_add_one, hcc, List.filter_append]
              have e1 : (some c).toList.filter (fun c => side c xs ys == sideN cs xs ys) = [c] := by
                rw [hs]
                exact List.filter_cons_of_pos c1
              rw [e1]
              have k7 : Keep D2 (upd H2 T2 (.tup [.int (i : Nat), .ref f])) (upd (upd H2 T2 (.tup [.int (i : Nat), .ref f])) D2 (.lst (ks.map V.ref ++ [V.ref f]))) := (Keep.of (Same.refl _)).upd_
              exact Paired.snoc (paired_mono hp2 fun a c z => (z.mono s3).keep (s3 _ _ h2) k7) ((fc.mono (s1.trans s13)).keep (s3 _ _ h2) k7)
          · refine ⟨s13, ks, s3 _ _ h2, ?_⟩
            rw [List.take_add_one, hcc, List.filter_append]
            have e1 : (some c).toList.filter (fun c => side c xs ys == sideN cs xs ys) = [] := by
              rw [hs]
              exact List.filter_cons_of_neg c1
            rw [e1, List.append_nil]
            exact paired_mono hp2 fun a c z => z.mono s3
        · rintro H2 ⟨s2, ks, h2, hp2⟩
          rw [List.length_map, hl1, List.take_of_length_le (Nat.le_refl _)] at hp2
          have s12 := s1.trans s2
          have hx2 := s12 _ _ hx
          refine ⟨_, rfl, x, T.cHid, dx, _, rfl, hx2, T.kHid, T.nHid_chains, (by show 2 < 1000; decide), ?_⟩
          rw [put_chains2]
          have k8 : ∀ {o : HO}, Keep x H2 (upd H2 x o) := fun {_} => (Keep.of (Same.refl _)).upd_
          have nx : D2 ≠ x := fun z => by
            rw [z, hx2] at h2
            cases h2
          have k := kq _ D2 ks (Keep.same s12 k8) ⟨dx, upd_same⟩ (by rw [upd_ne nx]; exact h2) (paired_mono hp2 fun a c z => z.ins hx2 (Nat.le_refl 2) k8)
          rw [hs] at k
          exact ⟨_, rfl, k⟩
      · have hs : sideN cs xs ys = false := by
          have c2 : ¬ _ := fun z => c (decide_eq_true z)
          exact decide_eq_false (by omega)

        refine ⟨_, rfl, x, T.cHid, dx, _, _, rfl, s1 _ _ hx, T.kHid, T.nHid_chains, lh_chains, r, _, rfl, SqL.of (s1 _ _ hr'), fun D2 nD2 => loop_enum (K := K) (a := r) (xs := as.map V.ref) (fun i H2 => Same H1 H2 ∧ ∃ ks : List Addr, H2 D2 = some (.lst (ks.map V.ref)) ∧ Paired (FC T.cFor n H2) ks ((cs.take i).filter fun c => side c xs ys == sideN cs xs ys))
          ⟨Same.new nD2, [], upd_same, .nil⟩ (fun i H2 _ z => SqL.of (z.1 _ _ (s1 _ _ hr'))) ?_ ?_⟩
        · rintro i v T2 H2 hi ⟨s2, ks, h2, hp2⟩ nT
          rw [List.getElem?_map] at hi
          obtain ⟨f, hf, rfl⟩ := Option.map_eq_some_iff.mp hi
          obtain ⟨c, hcc, fc⟩ := paired_at hp hf
          have il : i < cs.length := (List.getElem?_eq_some_iff.mp hcc).1
          have s3 : Same H2 (upd H2 T2 (.tup [.int (i : Nat), .ref f])) := Same.new nT
          have s13 := s2.trans s3
          obtain ⟨e, he⟩ : ∃ e, es[i]? = some e := ⟨_, List.getElem?_eq_getElem (by have l1 := Paired.length hp1; rw [List.length_map] at l1; omega)⟩
          obtain ⟨zs, hz, hze⟩ := paired_at hp1 he
          obtain rfl : mergeC c xs ys = zs := by
            rw [List.getElem?_map, hcc] at hz
            exact Option.some.inj hz
          refine ⟨T2, _, rfl, SqT.of upd_same, rfl, _, _, rfl, _, _, rfl, rfl, rfl, _, rfl, _, rfl, D, _, _, _, rfl, rfl, SqL.of (s13 _ _ h1), atI_nat (by rw [List.getElem?_map, he]; rfl), _, rfl, recD (mergeC c xs ys), recD xs, rec_dp (SqT.of (s13 _ _ hze)), rec_dp ((s1.trans s13).tup ha), shaped_rec _, shaped_rec _, _, rfl, ?_⟩
          have ki := kept_iff cs xs ys c
          rw [hs] at ki
          rw [eqv_rec, show decide (mergeC c xs ys = xs) = (side c xs ys == false) from ki]
          have nT2 : T2 ≠ D2 := fun z => by
            rw [z, h2] at nT
            cases nT
          refine ite2 (fun c1 => ?_) (fun c1 => ?_)
          · refine ⟨_, rfl, _, s3 _ _ h2, ?_, fun b o e => ?_, ks ++ [f], ?_, ?_⟩
            · rw [List.length_map, Paired.length hp2]
              exact line1000 (Nat.le_trans (List.length_filter_le _ _) (Nat.le_trans (List.length_take_le' _ _) hcl))
            · rw [upd_ne (ne_of_none e nD2)]
              exact s13 _ _ e
            · rw [upd_same, List.map_append]
              rfl
            · rw [List.take_add_one, hcc, List.filter_append]
              have e1 : (some c).toList.filter (fun c => side c xs ys == sideN cs xs ys) = [c] := by
                rw [hs]
                exact List.filter_cons_of_pos c1
              rw [e1]
              have k7 : Keep D2 (upd H2 T2 (.tup [.int (i : Nat), .ref f])) (upd (upd H2 T2 (.tup [.int (i : Nat), .ref f])) D2 (.lst (ks.map V.ref ++ [V.ref f]))) := (Keep.of (Same.refl _)).upd_
              exact Paired.snoc (paired_mono hp2 fun a c z => (z.mono s3).keep (s3 _ _ h2) k7) ((fc.mono (s1.trans s13)).keep (s3 _ _ h2) k7)
          · refine ⟨s13, ks, s3 _ _ h2, ?_⟩
            rw [List.take_add_one, hcc, List.filter_append]
            have e1 : (some c).toList.filter (fun c => side c xs ys == sideN cs xs ys) = [] := by
              rw [hs]
              exact List.filter_cons_of_neg c1
            rw [e1, List.append_nil]
            exact paired_mono hp2 fun a c z => z.mono s3
        · rintro H2 ⟨s2, ks, h2, hp2⟩
          rw [List.length_map, hl1, List.take_of_length_le (Nat.le_refl _)] at hp2
          have s12 := s1.trans s2
          have hx2 := s12 _ _ hx
          refine ⟨_, rfl, x, T.cHid, dx, _, rfl, hx2, T.kHid, T.nHid_chains, (by show 2 < 1000; decide), ?_⟩
          rw [put_chains2]
          have k8 : ∀ {o : HO}, Keep x H2 (upd H2 x o) := fun {_} => (Keep.of (Same.refl _)).upd_
          have nx : D2 ≠ x := fun z => by
            rw [z, hx2] at h2
            cases h2
          have k := kq _ D2 ks (Keep.same s12 k8) ⟨dx, upd_same⟩ (by rw [upd_ne nx]; exact h2) (paired_mono hp2 fun a c z => z.ins hx2 (Nat.le_refl 2) k8)
          rw [hs] at k
          exact ⟨_, rfl, k⟩
theorem b_reply (T : Defs K mg) : Binds K T.dHidReply ["self", "older", "newer"] [] := T.FHidReply.binds fun _ _ _ _ _ _ us hl => match us, hl with | [_, _, _], _ => rfl
end
end K38

namespace K38
open PySem L2
/-! ### the tape -/
def TapeAt (H : Hp) (t : Addr) : Prop := ∃ cell k : Int, H t = some (.lst [.int cell, .int k]) ∧ 0 ≤ cell
theorem TapeAt.same {H H' : Hp} {t : Addr} (h : TapeAt H t) (s : Same H H') : TapeAt H' t := by
  obtain ⟨c, k, h, p⟩ := h
  exact ⟨c, k, s _ _ h, p⟩
def spTape (K : PySem.W.Frag) : Sp := fun vs H Q _ => ∃ (a : Addr) (ns : List Int) (k : Nat), vs = [.ref a, .int (k : Int)] ∧ SqL K H a (ns.map V.int) ∧ ∀ H' t, Same H H' → H t = none → TapeAt H' t → Q (.ref t) H'
theorem scTape : FnScope ["_law_script", "_law_k"] ["_law_script", "_law_k"] (defScope sLTape) := ⟨rfl, rfl, rfl, by decide +kernel, rfl, by decide +kernel, by decide +kernel⟩
def spTake : Sp := fun vs H Q _ => ∃ (t : Addr) (z : Int), vs = [.ref t, .int z] ∧ TapeAt H t ∧ 0 < z ∧ z ≤ 1000000000 ∧ ∀ (r : Int) H', 0 ≤ r → r < z → Keep t H H' → TapeAt H' t → Q (.int r) H'
abbrev nTake : List Str := ["_law_tape_here", "_law_size", "_law_cell", "_law_k", "_law_mixed"]
theorem scTake : FnScope nTake ["_law_tape_here", "_law_size"] (defScope sLTake) := ⟨rfl, rfl, rfl, by decide +kernel, rfl, by decide +kernel, by decide +kernel⟩
section
variable {P : Program} {w : World} {K : PySem.W.Frag} {mg : Str → Option Value} {base : Heap}
theorem ok_tape (T : Defs K mg) : FnOk P w K mg base CX0 1 T.fLTape T.dLTape ["_law_script", "_law_k"] (spTape K) := by
  refine T.FLTape.ok scTape (fun vs H Q E h => ?_) (fun cdv A outer s H vs Q E hr h => ?_)
  · obtain ⟨a, ns, k, rfl, _⟩ := h
    rfl
  · obtain ⟨a, ns, k, rfl, ha, kq⟩ := h
    refine ⟨_, pss_cons (ps_if (pt_cmpR op_lt (pv 1) (pe_callB call_len_seq rfl T.b_len PySem.boot_len (pa_cons (pv 0) pa_nil)) (nomark _))
        (pss_one (ps_ret (pe_lst (pa_cons (pe_callB call_abs rfl T.b_abs (by decide +kernel) (pa_cons (pe_ix ix_list (pv 0) (pv 1) (fun _ _ => rfl)) pa_nil)) (pa_cons pe_int pa_nil))))) pss_nil)
      (pss_one (ps_ret (pe_lst (pa_cons (pv 1) (pa_cons pe_int pa_nil))))), ?_⟩
    refine ⟨_, rfl, _, rfl, a, _, rfl, .inl ha, _, _, rfl, rfl, _, rfl, ?_⟩
    refine ite2 (fun c => ?_) (fun c => ?_)
    · have c2 := of_decide_eq_true c
      rw [List.length_map] at c2
      have kl : k < ns.length := by omega
      refine ⟨_, rfl, _, rfl, a, _, _, _, rfl, rfl, ha, int_at kl, _, rfl, (by show 2 ≤ sizeLine; decide), fun t nt => ?_⟩
      refine kq _ t (Same.new nt) nt ⟨_, _, upd_same, ?_⟩
      split <;> omega
    · refine ⟨_, rfl, (by show 2 ≤ sizeLine; decide), fun t nt => ?_⟩
      exact kq _ t (Same.new nt) nt ⟨_, _, upd_same, by omega⟩
theorem b_tape (T : Defs K mg) : Binds K T.dLTape ["_law_script", "_law_k"] [] := T.FLTape.binds fun _ _ _ _ _ _ us hl => match us, hl with | [_, _], _ => rfl
theorem ok_take (T : Defs K mg) : FnOk P w K mg base CX0 1 T.fLTake T.dLTake ["_law_tape_here", "_law_size"] spTake := by
  refine T.FLTake.ok scTake (fun vs H Q E h => ?_) (fun cdv A outer s H vs Q E hr h => ?_)
  · obtain ⟨t, z, rfl, _⟩ := h
    rfl
  · obtain ⟨t, z, rfl, ⟨cell, k, ht, hc⟩, z1, z9, kq⟩ := h
    refine ⟨_, pss_cons (ps_set (i := 2) scTake.nd rfl (Or.inl rfl) (pe_ix ix_list (pv 0) pe_int (fun _ _ => rfl)))
      (pss_cons (ps_asg (pe_op op_add (pe_ix ix_list (pv 0) pe_int (fun _ _ => rfl)) pe_int) (pg_sub (pv 0) pe_int set_list))
      (pss_cons (ps_set (i := 3) scTake.nd rfl (Or.inl rfl) (pe_ix ix_list (pv 0) pe_int (fun _ _ => rfl)))
      (pss_cons (ps_if (pt_cmpR op_ge (pv 2) (pe_op op_pow pe_int pe_int) (nomark _))
        (pss_cons (ps_asg (pe_op op_fdiv (pv 2) (pv 1)) (pg_sub (pv 0) pe_int set_list))
        (pss_one (ps_ret (pe_op op_mod (pe_callTy call_int1 rfl T.b_int (by decide +kernel) (pa_cons (pv 2) pa_nil)) (pv 1))))) pss_nil)
      (pss_cons (ps_set (i := 4) scTake.nd rfl (Or.inl rfl) (pe_op op_mod (pe_callTy call_int1 rfl T.b_int (by decide +kernel) (pa_cons (pe_op op_add (pe_op op_add (pv 2) (pe_op op_mul pe_int (pv 3))) pe_int) pa_nil)) pe_int))
      (pss_cons (ps_set (i := 4) scTake.nd rfl (Or.inl rfl) (pe_op op_mod (pe_callTy call_int1 rfl T.b_int (by decide +kernel) (pa_cons (pe_op op_mul (pv 4) (pe_op op_add (pv 4) pe_int)) pa_nil)) pe_int))
      (pss_cons (ps_set (i := 4) scTake.nd rfl (Or.inl rfl) (pe_op op_mod (pe_callTy call_int1 rfl T.b_int (by decide +kernel) (pa_cons (pe_op op_add (pe_op op_mul (pv 4) (pe_op op_add (pv 4) pe_int)) (pe_op op_mul pe_int (pv 3))) pa_nil)) pe_int))
      (pss_one (ps_ret (pe_op op_mod (pe_callTy call_int1 rfl T.b_int (by decide +kernel) (pa_cons (pe_op op_fdiv (pv 4) pe_int) pa_nil)) (pv 1)))))))))), ?_⟩
    have a0 : ∀ {u v : V}, atI [u, v] 0 = some u := fun {_ _} => rfl
    have a1 : ∀ {u v : V}, atI [u, v] 1 = some v := fun {_ _} => rfl
    refine ⟨_, rfl, t, _, _, _, rfl, rfl, SqL.of ht, a0, ?_⟩
    refine ⟨_, rfl, t, _, _, _, rfl, rfl, SqL.of ht, a1, _, _, rfl, rfl, ?_⟩
    refine ⟨_, rfl, t, _, _, 1, rfl, rfl, ht, rfl, ?_⟩
    have ht1 : (upd H t (.lst [.int cell, .int (k + 1)])) t = some (.lst [.int cell, .int (k + 1)]) := upd_same
    refine ⟨_, rfl, t, _, _, _, rfl, rfl, SqL.of ht1, a1, ?_⟩
    have k1 : Keep t H (upd H t (.lst [.int cell, .int (k + 1)])) := (Keep.of (Same.refl _)).upd_
    refine ⟨_, rfl, _, _, rfl, rfl, ⟨by decide, by decide, by decide⟩, _, _, rfl, rfl, _, rfl, ?_⟩
    refine ite2 (fun c => ?_) (fun c => ?_)
    · refine ⟨_, rfl, _, rfl, _, _, rfl, rfl, ⟨z1, by omega⟩, _, rfl, t, _, _, 0, rfl, rfl, ht1, rfl, ?_⟩
      refine ⟨_, rfl, .inl ⟨_, rfl, _, rfl, _, _, rfl, rfl, z1, ?_⟩⟩
      exact kq _ _ (Int.emod_nonneg _ (by omega)) (Int.emod_lt_of_pos _ z1) k1.upd_ ⟨_, _, upd_same, Int.ediv_nonneg hc (by omega)⟩
    · have fin : ∀ m : Int, 0 ≤ m % z ∧ m % z < z := fun m => ⟨Int.emod_nonneg _ (by omega), Int.emod_lt_of_pos _ z1⟩
      have big : ∀ (m j : Int), j = 2147483647 ∨ j = 2147483629 → -(2 ^ 64) < m % j ∧ m % j < 2 ^ 64 := fun m j hj => by
        have h1 : 0 ≤ m % j := Int.emod_nonneg _ (by omega)
        have h2 : m % j < j := Int.emod_lt_of_pos _ (by omega)
        exact ⟨by omega, by omega⟩
      refine ⟨_, rfl, _, rfl, _, _, rfl, rfl, .inl ⟨by decide, by decide⟩, _, _, rfl, rfl, _, _, rfl, rfl, .inl ⟨_, rfl, _, _, rfl, rfl, (by show (0 : Int) < 2147483647; decide), ?_⟩⟩
      refine ⟨_, rfl, _, rfl, _, _, rfl, rfl, _, _, rfl, rfl, .inl (big _ _ (.inl rfl)), .inl ⟨_, rfl, _, _, rfl, rfl, (by show (0 : Int) < 2147483629; decide), ?_⟩⟩
      refine ⟨_, rfl, _, rfl, _, _, rfl, rfl, _, _, rfl, rfl, .inl (big _ _ (.inr rfl)), _, rfl, _, _, rfl, rfl, .inl ⟨by decide, by decide⟩, _, _, rfl, rfl, .inl ⟨_, rfl, _, _, rfl, rfl, (by show (0 : Int) < 2147483647; decide), ?_⟩⟩
      refine ⟨_, rfl, _, _, rfl, rfl, ⟨by decide, by decide⟩, .inl ⟨_, rfl, _, rfl, _, _, rfl, rfl, z1, ?_⟩⟩
      exact kq _ _ (fin _).1 (fin _).2 k1 ⟨_, _, ht1, hc⟩
theorem b_take (T : Defs K mg) : Binds K T.dLTake ["_law_tape_here", "_law_size"] [] := T.FLTake.binds fun _ _ _ _ _ _ us hl => match us, hl with | [_, _], _ => rfl
end
end K38

namespace K38
open PySem L2
/-! ### drawn values and records -/
def small (v : Int) : Prop := -10000000000000000000000000000000000000000 ≤ v ∧ v ≤ 10000000000000000000000000000000000000000
def spValue : Sp := fun vs H Q _ => ∃ (t : Addr) (z : Int), vs = [.ref t, .int z] ∧ TapeAt H t ∧ 0 < z ∧ z ≤ 1000 ∧ ∀ (v : Int) H', small v → Keep t H H' → TapeAt H' t → Q (.int v) H'
theorem scValue : FnScope ["_law_tape_here", "_law_span", "_law_pick"] ["_law_tape_here", "_law_span"] (defScope sLValue) := ⟨rfl, rfl, rfl, by decide +kernel, rfl, by decide +kernel, by decide +kernel⟩
def spRecord : Sp := fun vs H Q _ => ∃ (t : Addr) (n : Nat) (z : Int), vs = [.ref t, .int (n : Int), .int z] ∧ TapeAt H t ∧ n ≤ 100 ∧ 0 < z ∧ z ≤ 1000 ∧
  ∀ H' r (xs : List Int), Keep t H H' → TapeAt H' t → xs.length = n → (∀ x ∈ xs, small x) → H r = none → H' r = some (.tup (xs.map V.int)) → Q (.ref r) H'
abbrev nRecord : List Str := ["_law_tape_here", "_law_n", "_law_span", "_law_k"]
theorem scRecord : FnScope nRecord ["_law_tape_here", "_law_n", "_law_span"] (defScope sLRecord) := ⟨rfl, rfl, rfl, by decide +kernel, rfl, by decide +kernel, by decide +kernel⟩
section
variable {P : Program} {w : World} {K : PySem.W.Frag} {mg : Str → Option Value} {base : Heap}
theorem ok_value (T : Defs K mg) : FnOk P w K mg base CX0 2 T.fLValue T.dLValue ["_law_tape_here", "_law_span"] spValue := by
  have GT := ok_take (P := P) (w := w) (base := base) T
  refine T.FLValue.ok scValue (fun vs H Q E h => ?_) (fun cdv A outer s H vs Q E hr h => ?_)
  · obtain ⟨t, z, rfl, _⟩ := h
    rfl
  · obtain ⟨t, z, rfl, ht, z1, z9, kq⟩ := h
    refine ⟨_, pss_cons (ps_set (i := 2) scValue.nd rfl (Or.inl rfl) (pe_call GT hr rfl T.mLTake T.FLTake.kp (b_take T) .nil pass0 (pa_cons (pv 0) (pa_cons pe_int pa_nil))))
      (pss_cons (ps_if (pt_cmpR op_eq (pv 2) pe_int (nomark _)) (pss_one (ps_ret (pe_op op_sub (pe_op op_mul (pe_call GT hr rfl T.mLTake T.FLTake.kp (b_take T) .nil pass0 (pa_cons (pv 0) (pa_cons (pe_op op_pow pe_int pe_int) pa_nil))) (pe_op op_pow pe_int pe_int))
          (pe_call GT hr rfl T.mLTake T.FLTake.kp (b_take T) .nil pass0 (pa_cons (pv 0) (pa_cons (pe_op op_pow pe_int pe_int) pa_nil)))))) pss_nil)
      (pss_cons (ps_if (pt_cmpR op_eq (pv 2) pe_int (nomark _)) (pss_one (ps_ret (pe_op op_sub pe_int (pe_call GT hr rfl T.mLTake T.FLTake.kp (b_take T) .nil pass0 (pa_cons (pv 0) (pa_cons (pv 1) pa_nil)))))) pss_nil)
      (pss_one (ps_ret (pe_call GT hr rfl T.mLTake T.FLTake.kp (b_take T) .nil pass0 (pa_cons (pv 0) (pa_cons (pv 1) pa_nil))))))), ?_⟩
    refine ⟨_, rfl, t, 8, rfl, ht, by decide, by decide, fun r H1 r0 r1 k1 t1 => ?_⟩
    refine ⟨_, rfl, rfl, _, rfl, ?_⟩
    refine ite2 (fun c => ?_) (fun c => ?_)
    · refine ⟨_, rfl, _, _, rfl, rfl, ⟨by decide, by decide, by decide⟩, t, _, rfl, t1, by decide, by decide, fun u H2 u0 u1 k2 t2 => ?_⟩
      refine ⟨_, _, rfl, rfl, ⟨by decide, by decide, by decide⟩, _, _, rfl, rfl, .inl ⟨?_, ?_⟩, ?_⟩
      · have u1 : u < 1000000000 := u1
        omega
      · have u1 : u < 1000000000 := u1
        omega
      refine ⟨_, rfl, _, _, rfl, rfl, ⟨by decide, by decide, by decide⟩, t, _, rfl, t2, by decide, by decide, fun v H3 v0 v1 k3 t3 => ?_⟩
      refine ⟨_, _, rfl, rfl, kq _ H3 ?_ ((k1.trans k2).trans k3) t3⟩
      have u1 : u < 1000000000 := u1
      have v1 : v < 1000000000 := v1
      rw [show ((10 : Int) ^ (30 : Int).toNat) = 1000000000000000000000000000000 from by decide +kernel]
      exact ⟨by omega, by omega⟩
    refine ⟨_, rfl, rfl, _, rfl, ?_⟩
    refine ite2 (fun c => ?_) (fun c => ?_)
    · refine ⟨_, rfl, _, rfl, t, _, rfl, t1, z1, by omega, fun u H2 u0 u1 k2 t2 => ?_⟩
      exact ⟨_, _, rfl, rfl, kq _ H2 ⟨by omega, by omega⟩ (k1.trans k2) t2⟩
    · refine ⟨_, rfl, _, rfl, t, _, rfl, t1, z1, by omega, fun u H2 u0 u1 k2 t2 => ?_⟩
      exact kq _ H2 ⟨by omega, by omega⟩ (k1.trans k2) t2
theorem b_value (T : Defs K mg) : Binds K T.dLValue ["_law_tape_here", "_law_span"] [] := T.FLValue.binds fun _ _ _ _ _ _ us hl => match us, hl with | [_, _], _ => rfl
theorem ok_record (T : Defs K mg) : FnOk P w K mg base CX0 3 T.fLRecord T.dLRecord ["_law_tape_here", "_law_n", "_law_span"] spRecord := by
  have GV := ok_value (P := P) (w := w) (base := base) T
  refine T.FLRecord.ok scRecord (fun vs H Q E h => ?_) (fun cdv A outer s H vs Q E hr h => ?_)
  · obtain ⟨t, n, z, rfl, _⟩ := h
    rfl
  · obtain ⟨t, n, z, rfl, ht, hn, z1, z9, kq⟩ := h
    refine ⟨_, pss_one (ps_ret (pe_callTy call_tuple_of rfl T.b_tuple (by decide +kernel) (pa_cons (pe_lc (own := [("_law_k", 3)]) (g := gName 3) (tt := tYes) (te := tCall spValue [] E0 (tCons (tVar 0) (tCons (tVar 2) tNil))) rfl scRecord.nd (pi_range1 rfl T.b_range (pa_cons (pv 1) pa_nil)) (blkOk_by (N := nRecord) (sc := defScope sLRecord) (by decide +kernel))
        (fun _ _ _ _ _ => pg_name (i := 3) scRecord.nd rfl (Or.inl rfl)) (fun _ _ _ _ _ => pts_nil) (fun _ _ _ _ _ => pe_call GV hr rfl T.mLValue T.FLValue.kp (b_value T) .nil pass0 (pa_cons (pv 0) (pa_cons (pv 2) pa_nil)))) pa_nil))), ?_⟩
    refine ⟨_, rfl, _, rfl, (by omega), (by omega), fun D nD => ?_⟩
    have tD : t ≠ D := by
      obtain ⟨c, k, e, _⟩ := ht
      exact ne_of_none e nD
    refine loop_range (lo := 0) (n := _) (fun i H1 => ∃ xs : List Int, Keep t H H1 ∧ TapeAt H1 t ∧ xs.length = i ∧ (∀ x ∈ xs, small x) ∧ H1 D = some (.lst (xs.map V.int)))
      ⟨[], Keep.of (Same.new nD), ht.same (Same.new nD), rfl, (by intro x hx; simp at hx), upd_same⟩ ?_ ?_
    · rintro i H1 hi ⟨xs, k1, t1, l1, sm, h1⟩
      rw [Int.toNat_natCast] at hi
      refine ⟨rfl, _, rfl, _, rfl, t, z, rfl, t1, z1, z9, fun v H2 sv k2 t2 => ?_⟩
      have h2 := k2 _ _ h1 (Ne.symm tD)
      refine ⟨_, h2, by rw [List.length_map, l1]; exact line100 (by omega), xs ++ [v], (k1.trans k2).put nD, ?_, by rw [List.length_append, l1]; rfl, fun x hx => ?_, by rw [upd_same, List.map_append]; rfl⟩
      · obtain ⟨c, k, e, p⟩ := t2
        exact ⟨c, k, by rw [upd_ne tD]; exact e, p⟩
      · rcases List.mem_append.mp hx with h | h
        · exact sm x h
        · rw [List.mem_singleton.mp h]
          exact sv
    · rintro H1 ⟨xs, k1, t1, l1, sm, h1⟩
      rw [Int.toNat_natCast] at l1
      refine ⟨D, _, rfl, .inl ⟨SqL.of h1, fun r nr => ?_⟩⟩
      have rt : r ≠ t := fun z => by
        obtain ⟨c, k, e, _⟩ := t1
        rw [z, e] at nr
        cases nr
      exact kq _ r xs (k1.new nr) (t1.same (Same.new nr)) l1 sm (k1.free nr rt) upd_same
theorem b_record (T : Defs K mg) : Binds K T.dLRecord ["_law_tape_here", "_law_n", "_law_span"] [] := T.FLRecord.binds fun _ _ _ _ _ _ us hl => match us, hl with | [_, _, _], _ => rfl
end
end K38

namespace K38
open PySem L2
/-! ### _law_word -/
def spLWord (K : PySem.W.Frag) : Sp := fun vs H Q _ => ∃ (p : Addr) (ps : List (Option Nat)), vs = [.ref p] ∧ SqL K H p (ps.map oV) ∧ okWord ps = true ∧ 1 ≤ ps.length ∧ ps.length ≤ 100 ∧
  ∀ H' q, Same H H' → H q = none → H' q = some (.lst (nums (wordOf ps))) → Q (.ref q) H'
abbrev nLWord : List Str := ["_law_parents", "_law_left", "_law_word_here", "_law_k", "_law_field", "_law_held", "_law_place"]
theorem scLWord : FnScope nLWord ["_law_parents"] (defScope sLWord) := ⟨rfl, rfl, rfl, by decide +kernel, rfl, by decide +kernel, by decide +kernel⟩
theorem last_of {α : Type} {l : List α} {m : α} (h : l.getLast? = some m) : atI l (-1) = some m := by
  obtain ⟨ys, rfl⟩ := List.getLast?_eq_some_iff.mp h
  exact atI_last ys m
theorem getLast_map {α β : Type} {f : α → β} {l : List α} {m : α} (h : l.getLast? = some m) : (l.map f).getLast? = some (f m) := by
  rw [List.getLast?_map, h]
  rfl
section
variable {P : Program} {w : World} {K : PySem.W.Frag} {mg : Str → Option Value} {base : Heap}
theorem ok_lWord (T : Defs K mg) : FnOk P w K mg base CX0 1 T.fLWord T.dLWord ["_law_parents"] (spLWord K) := by
  refine T.FLWord.ok scLWord (fun vs H Q E h => ?_) (fun cdv A outer s H vs Q E hr h => ?_)
  · obtain ⟨p, ps, rfl, _⟩ := h
    rfl
  · obtain ⟨p, ps, rfl, hp, hok, h1, h100, kq⟩ := h
    refine ⟨_, pss_cons (ps_set (i := 1) scLWord.nd rfl (Or.inl rfl) (pe_listRg rfl rfl T.b_list (prg_1 rfl T.b_range (pe_callB call_len_seq rfl T.b_len PySem.boot_len (pa_cons (pv 0) pa_nil)))))
      (pss_cons (ps_set (i := 2) scLWord.nd rfl (Or.inl rfl) (pe_lst pa_nil))
      (pss_cons (ps_for PassesOwn.never rfl (pi_range1 rfl T.b_range (pa_cons (pe_op op_sub (pe_callB call_len_seq rfl T.b_len PySem.boot_len (pa_cons (pv 0) pa_nil)) pe_int) pa_nil)) (pg_name (i := 3) scLWord.nd rfl (Or.inl rfl))
        (pss_cons (ps_set (i := 5) scLWord.nd rfl (Or.inr rfl) (pe_lc (own := [("_law_field", 4)]) (g := gName 4) (tt := tYes) (te := tOp (rIxL K) (tVar 0) (tVar 4)) rfl scLWord.nd (pi_list (pv 1)) (blkOk_by (N := nLWord) (sc := defScope sLWord) (by decide +kernel))
          (fun _ _ _ _ _ => pg_name (i := 4) scLWord.nd rfl (Or.inl rfl)) (fun _ _ _ _ _ => pts_nil) (fun _ _ _ _ _ => pe_ix ix_list (pv 0) (pv 4) (fun _ _ => rfl))))
        (pss_cons (ps_set (i := 4) scLWord.nd rfl (Or.inl rfl) (pe_ix ix_list (pe_lc (own := [("_law_place", 6)]) (g := gName 6) (tt := tTest (tOp (rIn K true) (tVar 6) (tVar 5))) (te := tVar 6) rfl scLWord.nd (pi_list (pv 1)) (blkOk_by (N := nLWord) (sc := defScope sLWord) (by decide +kernel))
          (fun _ _ _ _ _ => pg_name (i := 6) scLWord.nd rfl (Or.inl rfl)) (fun _ _ _ _ _ => pts_one (pt_cmpR op_notIn_seq (pv 6) (pv 5) rfl)) (fun _ _ _ _ _ => pv 6)) (pe_un un_neg pe_int) (fun _ _ => rfl)))
        (pss_cons (ps_expr (pe_bm PySem.F.plainAttrs_list PySem.F.slot_list_remove PySem.F.type_list_remove mt_remove (pv 1) (pa_cons (pv 4) pa_nil)))
        (pss_one (ps_if (pt_cmp (pc_isN (pe_ix ix_list (pv 0) (pv 4) (fun _ _ => rfl))))
          (pss_one (ps_expr (pe_bm PySem.F.plainAttrs_list PySem.F.slot_list_append PySem.F.type_list_append mt_append (pv 2) (pa_cons pe_int pa_nil))))
          (pss_one (ps_expr (pe_bm PySem.F.plainAttrs_list PySem.F.slot_list_append PySem.F.type_list_append mt_append (pv 2) (pa_cons (pe_op op_add pe_int (pe_ix ix_list (pv 0) (pv 4) (fun _ _ => rfl))) pa_nil))))))))))
      (pss_one (ps_ret (pv 2))))), ?_⟩
    refine ⟨_, rfl, p, _, rfl, .inl hp, _, rfl, RgOk.of_le (by omega) (by rw [List.length_map]; omega) (by omega) (by omega), fun l nl => ?_⟩
    rw [List.length_map, rg_nums]
    refine ⟨(by show 0 ≤ sizeLine; decide), fun u nu => ?_⟩
    have lu : l ≠ u := ne_of_none upd_same nu
    have nu0 : H u = none := (Same.new nl).free nu
    have sz : ((ps.map oV).length : Int) - 1 = ((ps.length - 1 : Nat) : Int) := by rw [List.length_map]; omega
    refine ⟨_, rfl, p, _, rfl, .inl (((Same.new nl).set nu0).seq hp), _, _, rfl, rfl, _, rfl, (by rw [List.length_map]; omega), (by rw [List.length_map]; omega), ?_⟩
    rw [sz]
    refine for_range (lo := 0) (n := _) (fun i σ H1 => ∃ v3 v4 v5 : Option V, σ = [some (.ref p), some (.ref l), some (.ref u), v3, v4, v5, none] ∧ Same H H1 ∧ H1 l = some (.lst (nums (wordI ps i).1)) ∧ H1 u = some (.lst (nums (wordI ps i).2)))
      ⟨none, none, none, rfl, (Same.new nl).set nu0, by rw [upd_ne lu, upd_same]; rfl, upd_same⟩ ?_ ?_
    · rintro i σ H1 hi ⟨v3, v4, v5, rfl, s1, hl1, hu1⟩
      rw [Int.toNat_natCast] at hi
      obtain ⟨m, hm, mem⟩ := free_last hok hi
      have eL : (wordI ps (i + 1)).1 = (wordI ps i).1.erase m := by
        show (wordI ps i).1.erase ((freeOf (wordI ps i).1 ps).getLast?.getD 0) = _
        rw [hm]
        rfl
      have eW : (wordI ps (i + 1)).2 = (wordI ps i).2 ++ [entryOf (ps.getD m none)] := by
        show (wordI ps i).2 ++ [entryOf (ps.getD ((freeOf (wordI ps i).1 ps).getLast?.getD 0) none)] = _
        rw [hm]
        rfl
      have ml : m < ps.length := left_lt ps i m mem
      have hlen := wordI_left_len ps i
      have hlt := left_lt ps i
      generalize hls : (wordI ps i).1 = ls at *
      refine ⟨_, rfl, l, rfl, ⟨_, SqL.of hl1⟩, fun D nD => lc_list (K := K) (a := l) (xs := nums ls) (fun j H2 => Same H1 H2 ∧ H2 D = some (.lst ((heldOf (ls.take j) ps).map oV))) ⟨Same.new nD, upd_same⟩ (fun j H2 _ z => SqL.of (z.1 _ _ hl1)) ?_ ?_⟩
      · rintro j x H2 hj ⟨s2, h2⟩
        obtain ⟨f, hf, rfl⟩ := nums_get hj
        have hfl := hlt f (List.mem_of_getElem? hf)
        refine ⟨rfl, _, rfl, _, rfl, p, _, _, _, rfl, rfl, (s1.trans s2).seq hp, par_at (o := ps.getD f none) ?_, _, h2, ?_, s2.set nD, ?_⟩
        · rw [List.getD_eq_getElem?_getD, List.getElem?_eq_getElem hfl]
          rfl
        · rw [List.length_map, heldOf, List.length_map, List.length_take]
          exact line100 (by omega)
        · rw [upd_same, heldOf, heldOf, List.take_add_one, hf, List.map_append, List.map_append]
          rfl
      rintro H2 ⟨s2, h2⟩
      rw [List.take_of_length_le (by simp)] at h2
      refine ⟨_, rfl, l, rfl, ⟨_, SqL.of (s2 _ _ hl1)⟩, fun D2 nD2 => lc_list (K := K) (a := l) (xs := nums ls) (fun j H3 => Same H2 H3 ∧ H3 D2 = some (.lst (nums ((ls.take j).filter fun f => !(heldOf ls ps).contains (some f))))) ⟨Same.new nD2, upd_same⟩ (fun j H3 _ z => SqL.of (z.1 _ _ (s2 _ _ hl1))) ?_ ?_⟩
      · rintro j x H3 hj ⟨s3, h3⟩
        obtain ⟨f, hf, rfl⟩ := nums_get hj
        have et : ls.take (j + 1) = ls.take j ++ [f] := by rw [List.take_add_one, hf]; rfl
        refine ⟨rfl, _, rfl, _, rfl, D, _, rfl, .inl (SqL.of (s3 _ _ h2)), rfl, flat_os _, _, rfl, ?_⟩
        rw [not_held]
        refine ite2 (fun c => ⟨_, rfl, _, h3, ?_, s3.set nD2, ?_⟩) (fun c => ⟨s3, ?_⟩)
        · rw [List.length_map]
          exact line100 (Nat.le_trans (List.length_filter_le _ _) (by rw [List.length_take]; omega))
        · have c' : (!(heldOf ls ps).contains (some f)) = true := c
          rw [upd_same, et, List.filter_append, List.filter_cons_of_pos (by simpa using c'), List.filter_nil, nums_snoc]
        · have c' : ¬ (!(heldOf ls ps).contains (some f)) = true := c
          rw [h3, et, List.filter_append, List.filter_cons_of_neg (by simpa using c'), List.filter_nil, List.append_nil]
      rintro H3 ⟨s3, h3⟩
      rw [List.take_of_length_le (by simp)] at h3
      have s23 := s2.trans s3
      obtain ⟨j, hj, hj1, hj2, hj3⟩ := first_at (k := (m : Int)) (ns := ls.map fun k : Nat => (k : Int)) (List.mem_map.mpr ⟨m, mem, rfl⟩)
      have hl2 := s23 _ _ hl1
      have hu2 := s23 _ _ hu1
      refine ⟨_, rfl, D2, _, _, _, rfl, rfl, SqL.of h3, last_of (getLast_map (f := iV) hm), ?_⟩
      refine ⟨_, rfl, .inl ⟨rfl, _, SqL.of hl2⟩, _, rfl, l, _, (m : Int), j, rfl, rfl, (by rw [hl2, nums_int]), hj1, hj2, ?_⟩
      rw [hj3, erase_int, ← nums_int, ← eL]
      have s4 : Same H (upd H3 l (.lst (nums (wordI ps (i + 1)).1))) := (s1.trans s23).set nl
      have hu3 : (upd H3 l (.lst (nums (wordI ps (i + 1)).1))) u = some (.lst (nums (wordI ps i).2)) := by rw [upd_ne (Ne.symm lu)]; exact hu2
      have atm : ps[m]? = some (ps.getD m none) := by
        rw [List.getD_eq_getElem?_getD, List.getElem?_eq_getElem ml]
        rfl
      have szw : (nums (wordI ps i).2).length < sizeLine := by
        rw [List.length_map, wordI_len]
        exact line100 (by omega)
      refine ⟨_, rfl, _, rfl, p, _, _, _, rfl, rfl, s4.seq hp, par_at atm, _, rfl, ?_⟩
      have fin : ∀ v : V, v = iV (entryOf (ps.getD m none)) → (upd (upd H3 l (.lst (nums (wordI ps (i + 1)).1))) u (.lst (nums (wordI ps i).2 ++ [v]))) u = some (.lst (nums (wordI ps (i + 1)).2)) := fun v hv => by
        rw [upd_same, hv, eW, nums_snoc]
        rfl
      have fin2 : ∀ v : V, (upd (upd H3 l (.lst (nums (wordI ps (i + 1)).1))) u (.lst (nums (wordI ps i).2 ++ [v]))) l = some (.lst (nums (wordI ps (i + 1)).1)) := fun v => by
        rw [upd_ne lu, upd_same]
      cases ho : ps.getD m none with
      | none =>
        refine ifT rfl ⟨_, rfl, .inl ⟨rfl, _, SqL.of hu3⟩, u, _, _, rfl, rfl, hu3, szw, ?_⟩
        exact ⟨_, _, _, rfl, s4.set nu0, fin2 _, fin _ (by rw [ho]; rfl)⟩
      | some f =>
        rw [ho] at atm
        refine ifF rfl ⟨_, rfl, .inl ⟨rfl, _, SqL.of hu3⟩, _, rfl, _, rfl, p, _, _, _, rfl, rfl, s4.seq hp, par_at atm, _, _, rfl, rfl, u, _, _, rfl, rfl, hu3, szw, ?_⟩
        refine ⟨_, _, _, rfl, s4.set nu0, fin2 _, fin _ ?_⟩
        rw [ho]
        show V.int (1 + (f : Int)) = V.int ((1 + f : Nat) : Int)
        rw [Int.natCast_add]
        rfl
    · rintro σ H1 ⟨v3, v4, v5, rfl, s1, hl1, hu1⟩
      refine ⟨_, rfl, kq _ u s1 nu0 ?_⟩
      rw [hu1]
      rfl
theorem b_lWord (T : Defs K mg) : Binds K T.dLWord ["_law_parents"] [] := T.FLWord.binds fun _ _ _ _ _ _ us hl => match us, hl with | [_], _ => rfl
end
end K38

namespace K38
open PySem L2
/-! ### _law_number -/
def spLNum (K : PySem.W.Frag) : Sp := fun vs H Q _ => ∃ (p q : Addr) (n : Nat) (c : Ch), vs = [.ref p, .ref q] ∧ SqL K H p ((pars n c.1).map oV) ∧ SqL K H q (c.2.map kdV) ∧ Good n c.1 ∧ 1 ≤ n ∧ n ≤ 100 ∧ c.2.length = n ∧ ∀ H', Same H H' → Q (.int (num n c : Nat)) H'
abbrev nLNum : List Str := ["_law_parents", "_law_kinds", "_law_n", "_law_number_here", "_law_entry", "_law_k"]
theorem scLNum : FnScope nLNum ["_law_parents", "_law_kinds"] (defScope sLNumber) := ⟨rfl, rfl, rfl, by decide +kernel, rfl, by decide +kernel, by decide +kernel⟩
/-! ### _law_chain_side -/
/-- a chain of the law's: (number, turns, kinds, text) -/
def spLSide (K : PySem.W.Frag) : Sp := fun vs H Q _ => ∃ (z a b t k : Addr) (x0 x3 : V) (n : Nat) (c : Ch) (xs ys : List Int), vs = [.ref z, .ref a, .ref b] ∧ SqT K H z [x0, .ref t, .ref k, x3] ∧ SqL K H t (nums c.1) ∧ SqL K H k (c.2.map kdV) ∧ SqT K H a (xs.map V.int) ∧ SqT K H b (ys.map V.int) ∧
  (∀ f ∈ c.1, f < n) ∧ c.2.length = n ∧ xs.length = n ∧ ys.length = n ∧ Q (.int (if side c xs ys then 1 else 0)) H
abbrev nLSide : List Str := ["_law_chain", "_law_older", "_law_newer", "_law_field"]
theorem scLSide : FnScope nLSide ["_law_chain", "_law_older", "_law_newer"] (defScope sLSide) := ⟨rfl, rfl, rfl, by decide +kernel, rfl, by decide +kernel, by decide +kernel⟩
theorem firstUn_hit {l : List Nat} {i f : Nat} {xs ys : List Int} (hf : l[i]? = some f) (hn : firstUn (l.take i) xs ys = none) (hq : ¬ xs.getD f 0 = ys.getD f 0) : firstUn l xs ys = some f := by
  have e : firstUn (l.take (i + 1)) xs ys = some f := by
    have e1 : l.take (i + 1) = l.take i ++ [f] := by rw [List.take_add_one, hf]; rfl
    rw [e1, firstUn_snoc hn, if_pos (by simpa using hq)]
  exact firstUn_pre e
theorem side_kd (b d : Bool) : (b != decide (kdV d = V.str "up")) = (b != d) := by
  cases d with
  | true => rw [decide_eq_true (show kdV true = V.str "up" from rfl)]
  | false => rw [decide_eq_false (show ¬ kdV false = V.str "up" by decide +kernel)]
section
variable {P : Program} {w : World} {K : PySem.W.Frag} {mg : Str → Option Value} {base : Heap}
theorem ok_lNum (T : Defs K mg) : FnOk P w K mg base CX0 2 T.fLNumber T.dLNumber ["_law_parents", "_law_kinds"] (spLNum K) := by
  have GW := ok_lWord (P := P) (w := w) (base := base) T
  refine T.FLNumber.ok scLNum (fun vs H Q E h => ?_) (fun cdv A outer s H vs Q E hr h => ?_)
  · obtain ⟨p, q, n, c, rfl, _⟩ := h
    rfl
  · obtain ⟨p, q, n, c, rfl, hp, hq, g, h1, hn, hk, kq⟩ := h
    refine ⟨_, pss_cons (ps_set (i := 2) scLNum.nd rfl (Or.inl rfl) (pe_callB call_len_seq rfl T.b_len PySem.boot_len (pa_cons (pv 0) pa_nil)))
      (pss_cons (ps_set (i := 3) scLNum.nd rfl (Or.inl rfl) pe_int)
      (pss_cons (ps_for PassesOwn.never rfl (pi_list (pe_call GW hr rfl T.mLWord T.FLWord.kp (b_lWord T) .nil pass0 (pa_cons (pv 0) pa_nil))) (pg_name (i := 4) scLNum.nd rfl (Or.inl rfl))
        (pss_one (ps_set (i := 3) scLNum.nd rfl (Or.inl rfl) (pe_op op_add (pe_op op_mul (pv 3) (pe_op op_add (pv 2) pe_int)) (pv 4)))))
      (pss_cons (ps_for PassesOwn.never rfl (pi_range1 rfl T.b_range (pa_cons (pv 2) pa_nil)) (pg_name (i := 5) scLNum.nd rfl (Or.inl rfl))
        (pss_one (ps_set (i := 3) scLNum.nd rfl (Or.inl rfl) (pe_op op_add (pe_op op_mul (pv 3) pe_int) (pe_callTy call_int1 rfl T.b_int (by decide +kernel) (pa_cons (pe_cmpR op_eq (pe_ix ix_list (pv 1) (pe_op op_sub (pe_op op_sub (pv 2) pe_int) (pv 5)) (fun _ _ => rfl)) pe_str (nomark _)) pa_nil))))))
      (pss_one (ps_ret (pv 3)))))), ?_⟩
    refine ⟨_, rfl, p, _, rfl, .inl hp, ?_⟩
    rw [show (((pars n c.1).map oV).length : Int) = (n : Int) by rw [List.length_map, g.plen]]
    refine ⟨_, rfl, p, pars n c.1, rfl, hp, g.okw, by rw [g.plen]; exact h1, by rw [g.plen]; exact hn, fun H2 r s2 nr hr2 => ?_⟩
    refine ⟨r, rfl, ⟨_, SqL.of hr2⟩, for_list (K := K) (a := r) (xs := nums (wordOf (pars n c.1))) (fun i σ H3 => H3 = H2 ∧ ∃ v4 v5 : Option V, σ = [some (.ref p), some (.ref q), some (.int (n : Int)), some (.int ((((wordOf (pars n c.1)).take i).foldl (fun a e => a * (n + 1) + e) 0 : Nat) : Int)), v4, v5])
      ⟨rfl, none, none, rfl⟩ (fun i σ H3 _ z => by rw [z.1]; exact SqL.of hr2) ?_ ?_⟩
    · rintro i x σ H3 hi ⟨rfl, v4, v5, rfl⟩
      obtain ⟨e, he, rfl⟩ := nums_get hi
      refine ⟨_, rfl, _, rfl, _, _, rfl, rfl, _, _, rfl, rfl, .inr ⟨by omega, by omega⟩, _, rfl, _, _, rfl, rfl, rfl, some (.int (e : Int)), v5, ?_⟩
      rw [foldl_snoc he, Int.natCast_add, Int.natCast_mul, Int.natCast_add]
      rfl
    rintro σ H3 ⟨rfl, v4, v5, rfl⟩
    rw [List.take_of_length_le (by simp)]
    refine ⟨_, rfl, _, rfl, (by omega), (by omega), ?_⟩
    refine for_range (lo := 0) (n := _) (fun i σ H4 => H4 = H3 ∧ ∃ v4 v5 : Option V, σ = [some (.ref p), some (.ref q), some (.int (n : Int)), some (.int (((c.2.reverse.take i).foldl (fun a b => a * 2 + bitOf b) (baseNum n (wordOf (pars n c.1))) : Nat) : Int)), v4, v5])
      ⟨rfl, v4, v5, rfl⟩ ?_ ?_
    · rintro i σ H4 hi ⟨rfl, v4, v5, rfl⟩
      rw [Int.toNat_natCast] at hi
      rw [Int.zero_add]
      have hlt : n - 1 - i < c.2.length := by omega
      have hb : c.2.reverse[i]? = some (c.2.getD (n - 1 - i) true) := by
        rw [List.getElem?_reverse (by omega), hk, List.getD_eq_getElem?_getD, List.getElem?_eq_getElem hlt]
        rfl
      have e1 : ((n : Int) - 1 - (i : Int)) = ((n - 1 - i : Nat) : Int) := by omega
      refine ⟨_, rfl, _, _, rfl, rfl, .inr ⟨by decide, by decide⟩, _, rfl, _, rfl, _, _, rfl, rfl, _, rfl, _, _, rfl, rfl, q, _, _, _, rfl, rfl, s2.seq hq, by rw [e1]; exact kd_at hlt, rfl, .inr ⟨_, rfl, ?_⟩⟩
      rw [bit_down]
      refine ⟨_, _, rfl, rfl, rfl, v4, some (.int (i : Int)), ?_⟩
      rw [foldl_snoc hb, Int.natCast_add, Int.natCast_mul]
      rfl
    rintro σ H4 ⟨rfl, v4, v5, rfl⟩
    rw [Int.toNat_natCast, List.take_of_length_le (by rw [List.length_reverse, hk]; exact Nat.le_refl _)]
    exact ⟨_, rfl, kq _ s2⟩
theorem b_lNum (T : Defs K mg) : Binds K T.dLNumber ["_law_parents", "_law_kinds"] [] := T.FLNumber.binds fun _ _ _ _ _ _ us hl => match us, hl with | [_, _], _ => rfl
theorem ok_lSide (T : Defs K mg) : FnOk P w K mg base CX0 1 T.fLSide T.dLSide ["_law_chain", "_law_older", "_law_newer"] (spLSide K) := by
  refine T.FLSide.ok scLSide (fun vs H Q E h => ?_) (fun cdv A outer s H vs Q E hr h => ?_)
  · obtain ⟨z, a, b, t, k, x0, x3, n, c, xs, ys, rfl, _⟩ := h
    rfl
  · obtain ⟨z, a, b, t, k, x0, x3, n, c, xs, ys, rfl, hz, ht, hk, ha, hb, hlt, lk, lx, ly, kq⟩ := h
    have z1 : atI [x0, V.ref t, V.ref k, x3] 1 = some (V.ref t) := rfl
    have z2 : atI [x0, V.ref t, V.ref k, x3] 2 = some (V.ref k) := rfl
    refine ⟨_, pss_cons (ps_for PassesOwn.never rfl (pi_list (pe_ix ix_tup (pv 0) pe_int (fun _ _ => rfl))) (pg_name (i := 3) scLSide.nd rfl (Or.inl rfl))
      (pss_one (ps_if (pt_cmpR op_ne (pe_ix ix_tup (pv 1) (pv 3) (fun _ _ => rfl)) (pe_ix ix_tup (pv 2) (pv 3) (fun _ _ => rfl)) (nomark _))
        (pss_one (ps_ret (pe_callTy call_int1 rfl T.b_int (by decide +kernel) (pa_cons (pe_cmpR op_ne (pe_cmpR op_gt (pe_ix ix_tup (pv 1) (pv 3) (fun _ _ => rfl)) (pe_ix ix_tup (pv 2) (pv 3) (fun _ _ => rfl)) (nomark _)) (pe_cmpR op_eq (pe_ix ix_list (pe_ix ix_tup (pv 0) pe_int (fun _ _ => rfl)) (pv 3) (fun _ _ => rfl)) pe_str (nomark _)) (nomark _)) pa_nil)))) pss_nil)))
      (pss_one (ps_ret pe_int)), ?_⟩
    refine ⟨_, rfl, z, _, _, _, rfl, rfl, hz, z1, t, rfl, ⟨_, ht⟩, for_list (K := K) (a := t) (xs := nums c.1) (fun i σ H1 => H1 = H ∧ firstUn (c.1.take i) xs ys = none ∧ ∃ v : Option V, σ = [some (.ref z), some (.ref a), some (.ref b), v])
      ⟨rfl, rfl, none, rfl⟩ (fun i σ H1 _ q => by rw [q.1]; exact ht) ?_ ?_⟩
    · rintro i x σ H1 hi ⟨rfl, hn, v, rfl⟩
      obtain ⟨f, hf, rfl⟩ := nums_get hi
      have fn := hlt f (List.mem_of_getElem? hf)
      refine ⟨_, rfl, _, rfl, a, _, _, _, rfl, rfl, ha, int_at (by omega), _, rfl, _, rfl, b, _, _, _, rfl, rfl, hb, int_at (by omega), rfl, _, rfl, ?_⟩
      by_cases hq : xs.getD f 0 = ys.getD f 0
      · refine ifF (by rw [hq]; simp) ⟨rfl, ?_, _, rfl⟩
        rw [show c.1.take (i + 1) = c.1.take i ++ [f] by rw [List.take_add_one, hf]; rfl, firstUn_snoc hn, if_neg (by simpa using hq)]
      · refine ifT (by simpa using hq) ?_
        have e := firstUn_hit hf hn hq
        have es : side c xs ys = (decide (ys.getD f 0 < xs.getD f 0) != c.2.getD f true) := by
          unfold side
          rw [e]
        refine ⟨_, rfl, _, rfl, a, _, _, _, rfl, rfl, ha, int_at (by omega), _, rfl, _, rfl, b, _, _, _, rfl, rfl, hb, int_at (by omega), _, _, rfl, rfl, ?_⟩
        refine ⟨_, rfl, z, _, _, _, rfl, rfl, hz, z2, _, rfl, k, _, _, _, rfl, rfl, hk, kd_at (by omega), rfl, ?_⟩
        refine ⟨rfl, .inr ⟨_, rfl, ?_⟩⟩
        rw [es, ← side_kd] at kq
        show Q (V.int (if (!decide (V.bl (decide (ys.getD f 0 < xs.getD f 0)) = V.bl (decide (kdV (c.2.getD f true) = V.str (Str.ofString "up"))))) = true then 1 else 0)) _
        generalize decide (ys.getD f 0 < xs.getD f 0) = u1 at *
        generalize decide (kdV (c.2.getD f true) = V.str (Str.ofString "up")) = u2 at *
        cases u1 <;> cases u2 <;> exact kq
    · rintro σ H1 ⟨rfl, hn, v, rfl⟩
      rw [List.take_of_length_le (by simp)] at hn
      have es : side c xs ys = false := by
        unfold side
        rw [hn]
      rw [es] at kq
      exact kq
theorem b_lSide (T : Defs K mg) : Binds K T.dLSide ["_law_chain", "_law_older", "_law_newer"] [] := T.FLSide.binds fun _ _ _ _ _ _ us hl => match us, hl with | [_, _, _], _ => rfl
end
end K38

namespace K38
open PySem L2
/-! ### _law_all_turns -/
abbrev nLTurns : List Str := ["_law_n", "_law_rows", "_law_k", "_law_longer", "_law_row", "_law_field"]
theorem scLTurns : FnScope nLTurns ["_law_n"] (defScope sLTurns) := ⟨rfl, rfl, rfl, by decide +kernel, rfl, by decide +kernel, by decide +kernel⟩
section
variable {P : Program} {w : World} {K : PySem.W.Frag} {mg : Str → Option Value} {base : Heap}
theorem ok_lTurns (T : Defs K mg) : FnOk P w K mg base CX0 1 T.fLTurns T.dLTurns ["_law_n"] spTurns := by
  refine T.FLTurns.ok scLTurns (fun vs H Q E h => ?_) (fun cdv A outer s H vs Q E hr h => ?_)
  · obtain ⟨n, rfl, _⟩ := h
    rfl
  · obtain ⟨n, rfl, h1, h4, kq⟩ := h
    refine ⟨_, pss_cons (ps_set (i := 1) scLTurns.nd rfl (Or.inl rfl) (pe_lst (pa_cons (pe_lst pa_nil) pa_nil)))
      (pss_cons (ps_for PassesOwn.never rfl (pi_range1 rfl T.b_range (pa_cons (pv 0) pa_nil)) (pg_name (i := 2) scLTurns.nd rfl (Or.inl rfl))
        (pss_cons (ps_set (i := 3) scLTurns.nd rfl (Or.inl rfl) (pe_lst pa_nil))
        (pss_cons (ps_for PassesOwn.never rfl (pi_list (pe_callTy call_list_of rfl T.b_list (by decide +kernel) (pa_cons (pv 1) pa_nil))) (pg_name (i := 4) scLTurns.nd rfl (Or.inl rfl))
          (pss_one (ps_for PassesOwn.never rfl (pi_range1 rfl T.b_range (pa_cons (pv 0) pa_nil)) (pg_name (i := 5) scLTurns.nd rfl (Or.inl rfl))
            (pss_one (ps_if (pt_cmpR op_notIn_seq (pv 5) (pv 4) rfl) (pss_one (ps_expr (pe_bm PySem.F.plainAttrs_list PySem.F.slot_list_append PySem.F.type_list_append mt_append (pv 3) (pa_cons (pe_op op_cat (pv 4) (pe_lst (pa_cons (pv 5) pa_nil))) pa_nil)))) pss_nil)))))
        (pss_one (ps_set (i := 1) scLTurns.nd rfl (Or.inl rfl) (pv 3))))))
      (pss_one (ps_ret (pv 1)))), ?_⟩
    refine ⟨(by show 0 ≤ sizeLine; decide), fun e ne => ⟨(by show 1 ≤ sizeLine; decide), fun r nr => ?_⟩⟩
    have er : e ≠ r := ne_of_none upd_same nr
    have nr0 : H r = none := (Same.new ne).free nr
    refine ⟨_, rfl, _, rfl, (by omega), (by omega), ?_⟩
    refine for_range (lo := 0) (n := _) (fun i σ H1 => ∃ (r : Addr) (v2 v3 v4 v5 : Option V), σ = [some (.int (n : Int)), some (.ref r), v2, v3, v4, v5] ∧ Same H H1 ∧ Rows nums H H1 r (turnsI n i))
      ⟨r, none, none, none, none, rfl, (Same.new ne).set nr0, [e], nr0, upd_same, .cons ⟨ne, by rw [upd_ne er, upd_same]; rfl⟩ .nil⟩ ?_ ?_
    · rintro i σ H1 hi ⟨r, v2, v3, v4, v5, rfl, s1, as, nr0, hr1, hp⟩
      rw [Int.toNat_natCast] at hi
      have hlen := turns_len n (four h1 h4) (i + 1) (five (by omega))
      have tot : ((turnsI n (i + 1)).length) ≤ 1000 := hlen.1
      refine ⟨(by show 0 ≤ sizeLine; decide), fun D nD => ?_⟩
      refine ⟨_, rfl, r, _, rfl, .inl (SqL.of ((Same.new nD) _ _ hr1)), fun C nC => ?_⟩
      have CD : D ≠ C := ne_of_none upd_same nC
      have nC1 : H1 C = none := (Same.new nD).free nC
      refine ⟨C, rfl, ⟨_, SqL.of upd_same⟩, ?_⟩
      refine for_list (K := K) (a := C) (xs := as.map V.ref) (fun j σ H2 => ∃ v4 v5 : Option V, σ = [some (.int (n : Int)), some (.ref r), some (.int (0 + (i : Int))), some (.ref D), v4, v5] ∧ Same H1 H2 ∧ H2 C = some (.lst (as.map V.ref)) ∧ RowsIn nums H1 H2 D (((turnsI n i).take j).flatMap fun r => extT n r n))
        ⟨v4, v5, rfl, (Same.new nD).set nC1, upd_same, .nil (by rw [upd_ne CD, upd_same])⟩ (fun j σ H2 _ ⟨_, _, _, _, z, _⟩ => SqL.of z) ?_ ?_
      · rintro j x σ H2 hj ⟨v4, v5, rfl, s2, hC, hR⟩
        rw [List.getElem?_map] at hj
        obtain ⟨a, ha, rfl⟩ := Option.map_eq_some_iff.mp hj
        obtain ⟨row, hrow, na, hrw⟩ := paired_at hp ha
        have rl : row.length ≤ 10 := of_decide_eq_true (List.all_eq_true.mp (turns_len n (four h1 h4) i (five (by omega))).2 row (List.mem_of_getElem? hrow))
        refine ⟨_, rfl, _, rfl, (by omega), (by omega), ?_⟩
        refine for_range (lo := 0) (n := _) (fun f σ H3 => ∃ v5 : Option V, σ = [some (.int (n : Int)), some (.ref r), some (.int (0 + (i : Int))), some (.ref D), some (.ref a), v5] ∧ Same H1 H3 ∧ H3 C = some (.lst (as.map V.ref)) ∧ RowsIn nums H1 H3 D (((turnsI n i).take j).flatMap (fun r => extT n r n) ++ extT n row f))
          ⟨v5, rfl, s2, hC, by rw [show extT n row 0 = [] from rfl, List.append_nil]; exact hR⟩ ?_ ?_
        · rintro f σ H3 hf ⟨v5, rfl, s3, hC3, hR3⟩
          rw [Int.toNat_natCast] at hf
          rw [Int.zero_add]
          refine ⟨_, rfl, _, rfl, a, _, rfl, .inl (SqL.of (s3 _ _ hrw)), rfl, flat_nums _, _, rfl, ?_⟩
          rw [in_nums, extT_succ, ← List.append_assoc]
          refine ite2 (fun c => ?_) (fun c => ?_)
          · have c' : ¬ row.contains f = true := by simpa using c
            rw [if_neg c']
            obtain ⟨acc, ac1, ac2⟩ := hR3.len
            refine ⟨_, rfl, .inl ⟨rfl, _, SqL.of ac1⟩, _, rfl, _, rfl, (by show 1 ≤ sizeLine; decide), fun b nb => ?_⟩
            refine ⟨a, b, _, _, rfl, rfl, by rw [upd_ne (ne_of_none (s3 _ _ hrw) nb)]; exact s3 _ _ hrw, upd_same, ?_, fun p np => ?_⟩
            · rw [List.length_map]
              have : (20 : Nat) ≤ sizeLine := by decide
              show row.length + 1 ≤ sizeLine
              omega
            · have s4 : Same H3 (upd (upd H3 b (.lst [.int (f : Int)])) p (.lst (nums row ++ [.int (f : Int)]))) := (Same.new nb).set ((Same.new nb).free np)
              have neD : p ≠ D := fun z => by
                have q := (Same.new (o := .lst [.int (f : Int)]) nb) _ _ ac1
                rw [← z, np] at q
                cases q
              refine ⟨D, acc, _, rfl, rfl, s4 _ _ ac1, ?_, _, rfl, fun b' o' e' => ?_, ?_, ?_⟩
              · rw [ac2]
                refine line1000 (Nat.le_trans ?_ tot)
                rw [turnsI_succ]
                refine Nat.le_trans ?_ (flat_le hrow)
                rw [List.length_append]
                have : (extT n row f).length ≤ (extT n row n).length := by
                  unfold extT
                  rw [List.length_map, List.length_map]
                  exact ((List.range_sublist.mpr (Nat.le_of_lt hf)).filter _).length_le
                omega
              · rw [upd_ne (ne_of_none e' nD)]
                exact s4 _ _ (s3 _ _ e')
              · rw [upd_ne (Ne.symm CD)]
                exact s4 _ _ hC3
              · refine (hR3.same s4).put (s4 _ _ ac1) ?_ (s3.free ((Same.new nb).free np)) neD
                rw [upd_same, nums_snoc]
          · have c' : row.contains f = true := by simpa using c
            rw [if_pos c', List.append_nil]
            exact ⟨_, rfl, s3, hC3, hR3⟩
        · rintro σ H3 ⟨v5, rfl, s3, hC3, hR3⟩
          refine ⟨_, _, rfl, s3, hC3, ?_⟩
          rw [flat_take hrow]
          exact hR3
      · rintro σ H2 ⟨v4, v5, rfl, s2, hC, hR⟩
        rw [List.length_map, Paired.length hp, List.take_of_length_le (Nat.le_refl _)] at hR
        refine ⟨_, rfl, D, _, _, _, _, rfl, s1.trans s2, ?_⟩
        rw [turnsI_succ]
        exact hR.rows s1 (s1.free nD)
    · rintro σ H1 ⟨r, v2, v3, v4, v5, rfl, s1, hR⟩
      exact ⟨_, rfl, kq _ r s1 hR⟩
theorem b_lTurns (T : Defs K mg) : Binds K T.dLTurns ["_law_n"] [] := T.FLTurns.binds fun _ _ _ _ _ _ us hl => match us, hl with | [_], _ => rfl
end
end K38

namespace K38
open PySem L2
/-! ### _law_kind_rows -/
theorem kindsL_small : ∀ i ∈ [0, 1, 2, 3, 4], (kindsL i).length ≤ 500 ∧ (kindsL i).all (fun l => decide (l.length ≤ 10)) = true := by decide +kernel
def spLKinds : Sp := fun vs H Q _ => ∃ n : Nat, vs = [.int (n : Int)] ∧ 1 ≤ n ∧ n ≤ 4 ∧ ∀ H' r, Same H H' → Rows kds H H' r (kindsL n) → Q (.ref r) H'
abbrev nLKinds : List Str := ["_law_n", "_law_rows", "_law_k", "_law_row"]
theorem scLKinds : FnScope nLKinds ["_law_n"] (defScope sLKinds) := ⟨rfl, rfl, rfl, by decide +kernel, rfl, by decide +kernel, by decide +kernel⟩
theorem rows_join {α : Type} {enc : α → List V} {H H1 H2 : Hp} {as bs : List Addr} {L M : List α} (h1 : Paired (fun a l => H a = none ∧ H1 a = some (.lst (enc l))) as L) (s : Same H1 H2) (h2 : Paired (fun a l => H a = none ∧ H2 a = some (.lst (enc l))) bs M) : Paired (fun a l => H a = none ∧ H2 a = some (.lst (enc l))) (as ++ bs) (L ++ M) := by
  induction h1 with
  | nil => exact h2
  | cons r _ ih => exact .cons ⟨r.1, s _ _ r.2⟩ ih
section
variable {P : Program} {w : World} {K : PySem.W.Frag} {mg : Str → Option Value} {base : Heap}
theorem ok_lKinds (T : Defs K mg) : FnOk P w K mg base CX0 1 T.fLKinds T.dLKinds ["_law_n"] spLKinds := by
  refine T.FLKinds.ok scLKinds (fun vs H Q E h => ?_) (fun cdv A outer s H vs Q E hr h => ?_)
  · obtain ⟨n, rfl, _⟩ := h
    rfl
  · obtain ⟨n, rfl, h1, h4, kq⟩ := h
    refine ⟨_, pss_cons (ps_set (i := 1) scLKinds.nd rfl (Or.inl rfl) (pe_lst (pa_cons (pe_lst pa_nil) pa_nil)))
      (pss_cons (ps_for PassesOwn.never rfl (pi_range1 rfl T.b_range (pa_cons (pv 0) pa_nil)) (pg_name (i := 2) scLKinds.nd rfl (Or.inl rfl))
        (pss_one (ps_set (i := 1) scLKinds.nd rfl (Or.inl rfl) (pe_op op_cat
          (pe_lc (own := [("_law_row", 3)]) (g := gName 3) (tt := tYes) (te := tOp rCat (tVar 3) (tLst (tCons (tC (.str "up")) tNil))) rfl scLKinds.nd (pi_list (pv 1)) (blkOk_by (N := nLKinds) (sc := defScope sLKinds) (by decide +kernel))
            (fun _ _ _ _ _ => pg_name (i := 3) scLKinds.nd rfl (Or.inl rfl)) (fun _ _ _ _ _ => pts_nil) (fun _ _ _ _ _ => pe_op op_cat (pv 3) (pe_lst (pa_cons pe_str pa_nil))))
          (pe_lc (own := [("_law_row", 3)]) (g := gName 3) (tt := tYes) (te := tOp rCat (tVar 3) (tLst (tCons (tC (.str "down")) tNil))) rfl scLKinds.nd (pi_list (pv 1)) (blkOk_by (N := nLKinds) (sc := defScope sLKinds) (by decide +kernel))
            (fun _ _ _ _ _ => pg_name (i := 3) scLKinds.nd rfl (Or.inl rfl)) (fun _ _ _ _ _ => pts_nil) (fun _ _ _ _ _ => pe_op op_cat (pv 3) (pe_lst (pa_cons pe_str pa_nil))))))))
      (pss_one (ps_ret (pv 1)))), ?_⟩
    refine ⟨(by show 0 ≤ sizeLine; decide), fun e ne => ⟨(by show 1 ≤ sizeLine; decide), fun r nr => ?_⟩⟩
    have er : e ≠ r := ne_of_none upd_same nr
    have nr0 : H r = none := (Same.new ne).free nr
    refine ⟨_, rfl, _, rfl, (by omega), (by omega), ?_⟩
    refine for_range (lo := 0) (n := _) (fun i σ H1 => ∃ (r : Addr) (v2 : Option V), σ = [some (.int (n : Int)), some (.ref r), v2, none] ∧ Same H H1 ∧ Rows kds H H1 r (kindsL i))
      ⟨r, none, rfl, (Same.new ne).set nr0, [e], nr0, upd_same, .cons ⟨ne, by rw [upd_ne er, upd_same]; rfl⟩ .nil⟩ ?_ ?_
    · rintro i σ H1 hi ⟨r, v2, rfl, s1, as, nr0, hr1, hp⟩
      rw [Int.toNat_natCast] at hi
      obtain ⟨ln1, ln2⟩ := kindsL_small i (five (by omega))
      have hl1 : as.length = (kindsL i).length := Paired.length hp
      -- one of the two comprehensions, its word being kdV b
      have step : ∀ (b : Bool) (H2 : Hp) (D : Addr) (j : Nat) (x : V) (H3 : Hp) (R : Hp → Prop), Same H1 H2 → H2 D = none → (as.map V.ref)[j]? = some x → (Same H2 H3 ∧ RowsIn kds H2 H3 D (((kindsL i).take j).map fun l => l ++ [b])) →
          (∀ H4, (Same H2 H4 ∧ RowsIn kds H2 H4 D (((kindsL i).take (j + 1)).map fun l => l ++ [b])) → R H4) →
          ∀ σ2 : L2.St, tVar 3 σ2 H3 (fun y H4 => y = x ∧ H4 = H3) → tOp rCat (tVar 3) (tLst (tCons (tC (kdV b)) tNil)) σ2 H3 fun y H4 => ∃ acc, H4 D = some (.lst acc) ∧ acc.length < sizeLine ∧ R (upd H4 D (.lst (acc ++ [y]))) := by
        rintro b H2 D j x H3 R s12 nD hj ⟨s3, hR3⟩ fin σ2 ⟨y, hy, ey, _⟩
        subst ey
        rw [List.getElem?_map] at hj
        obtain ⟨a, ha, rfl⟩ := Option.map_eq_some_iff.mp hj
        obtain ⟨row, hrow, na, hrw⟩ := paired_at hp ha
        have rl : row.length ≤ 10 := of_decide_eq_true (List.all_eq_true.mp ln2 row (List.mem_of_getElem? hrow))
        have hrw3 := s3 _ _ (s12 _ _ hrw)
        refine ⟨_, hy, (by show 1 ≤ sizeLine; decide), fun b' nb => ?_⟩
        refine ⟨a, b', _, _, rfl, rfl, by rw [upd_ne (ne_of_none hrw3 nb)]; exact hrw3, upd_same, ?_, fun p np => ?_⟩
        · show (kds row).length + 1 ≤ sizeLine
          unfold kds
          rw [List.length_map]
          have : (20 : Nat) ≤ sizeLine := by decide
          omega
        · have s4 : Same H3 (upd (upd H3 b' (.lst [kdV b])) p (.lst (kds row ++ [kdV b]))) := (Same.new nb).set ((Same.new nb).free np)
          obtain ⟨acc, ac1, ac2⟩ := hR3.len
          have neD : p ≠ D := fun z => by
            have q := (Same.new (o := .lst [kdV b]) nb) _ _ ac1
            rw [← z, np] at q
            cases q
          refine ⟨acc, s4 _ _ ac1, ?_, fin _ ⟨fun b' o' e' => ?_, ?_⟩⟩
          · rw [ac2, List.length_map]
            exact line1000 (Nat.le_trans (List.length_take_le' _ _) (by omega))
          · rw [upd_ne (ne_of_none e' nD)]
            exact s4 _ _ (s3 _ _ e')
          · rw [List.take_add_one, hrow, List.map_append]
            refine (hR3.same s4).put (s4 _ _ ac1) ?_ (s3.free ((Same.new nb).free np)) neD
            rw [upd_same]
            unfold kds
            rw [List.map_append]
            rfl
      refine ⟨_, rfl, r, rfl, ⟨_, SqL.of hr1⟩, fun D nD => lc_list (K := K) (a := r) (xs := as.map V.ref) (fun j H2 => Same H1 H2 ∧ RowsIn kds H1 H2 D (((kindsL i).take j).map fun l => l ++ [true]))
        ⟨Same.new nD, .nil upd_same⟩ (fun j H2 _ z => SqL.of (z.1 _ _ hr1)) ?_ ?_⟩
      · rintro j x H3 hj z
        exact ⟨rfl, step true H1 D j x H3 _ (Same.refl _) nD hj z (fun H4 q => q) _ ⟨_, rfl, rfl, rfl⟩⟩
      rintro H2 ⟨s2, hR⟩
      rw [List.length_map, hl1, List.take_of_length_le (Nat.le_refl _)] at hR
      refine ⟨_, rfl, r, rfl, ⟨_, SqL.of (s2 _ _ hr1)⟩, fun D2 nD2 => lc_list (K := K) (a := r) (xs := as.map V.ref) (fun j H3 => Same H2 H3 ∧ RowsIn kds H2 H3 D2 (((kindsL i).take j).map fun l => l ++ [false]))
        ⟨Same.new nD2, .nil upd_same⟩ (fun j H3 _ z => SqL.of (z.1 _ _ (s2 _ _ hr1))) ?_ ?_⟩
      · rintro j x H3 hj z
        exact ⟨rfl, step false H2 D2 j x H3 _ s2 nD2 hj z (fun H4 q => q) _ ⟨_, rfl, rfl, rfl⟩⟩
      rintro H3 ⟨s3, hR3⟩
      rw [List.length_map, hl1, List.take_of_length_le (Nat.le_refl _)] at hR3
      obtain ⟨es, e1, e2⟩ := hR
      obtain ⟨fs, f1, f2⟩ := hR3
      refine ⟨D, D2, _, _, rfl, rfl, s3 _ _ e1, f1, ?_, fun p np => ?_⟩
      · rw [List.length_map, List.length_map, Paired.length e2, Paired.length f2, List.length_map, List.length_map]
        exact Nat.le_of_lt (line1000 (by omega))
      · have s4 : Same H3 (upd H3 p (.lst (es.map V.ref ++ fs.map V.ref))) := Same.new np
        refine ⟨p, _, rfl, ((s1.trans s2).trans s3).trans s4, es ++ fs, ((s1.trans s2).trans s3).free np, by rw [upd_same, List.map_append], ?_⟩
        exact rows_join (L := (kindsL i).map fun l => l ++ [true]) (paired_mono e2 fun a l z => ⟨s1.free z.2.1, s3 _ _ z.2.2⟩) s4 (paired_mono f2 fun a l z => ⟨(s1.trans s2).free z.2.1, s4 _ _ z.2.2⟩)
    · rintro σ H1 ⟨r, v2, rfl, s1, hR⟩
      exact ⟨_, rfl, kq _ r s1 hR⟩
theorem b_lKinds (T : Defs K mg) : Binds K T.dLKinds ["_law_n"] [] := T.FLKinds.binds fun _ _ _ _ _ _ us hl => match us, hl with | [_], _ => rfl
end
end K38

namespace K38
open PySem L2
/-! ### _law_asked -/
/-- a pair of records of n fields stands at p -/
def PairAt (n : Nat) (H : Hp) (p a b : Addr) (xs ys : List Int) : Prop := H p = some (.tup [.ref a, .ref b]) ∧ H a = some (.tup (xs.map V.int)) ∧ H b = some (.tup (ys.map V.int)) ∧ xs.length = n ∧ ys.length = n ∧ (∀ x ∈ xs, small x) ∧ ∀ y ∈ ys, small y
theorem PairAt.same {n : Nat} {H H' : Hp} {p a b : Addr} {xs ys : List Int} (h : PairAt n H p a b xs ys) (s : Same H H') : PairAt n H' p a b xs ys := ⟨s _ _ h.1, s _ _ h.2.1, s _ _ h.2.2.1, h.2.2.2⟩
theorem PairAt.keep {n : Nat} {H H' : Hp} {x p a b : Addr} {o : HO} {xs ys : List Int} (h : PairAt n H p a b xs ys) (hx : H x = some o) (ho : ∀ l, o ≠ .tup l) (s : Keep x H H') : PairAt n H' p a b xs ys :=
  ⟨s _ _ h.1 (ne_of h.1 hx (fun z => ho _ z.symm)), s _ _ h.2.1 (ne_of h.2.1 hx (fun z => ho _ z.symm)), s _ _ h.2.2.1 (ne_of h.2.2.1 hx (fun z => ho _ z.symm)), h.2.2.2⟩
theorem TapeAt.ne {H : Hp} {t p : Addr} {l : List V} (h : TapeAt H t) (hp : H p = some (.tup l)) : p ≠ t := by
  obtain ⟨c, k, e, _⟩ := h
  exact ne_of hp e (fun z => by cases z)
def spAsked : Sp := fun vs H Q _ => ∃ (t : Addr) (n : Nat) (v : V), vs = [.ref t, .int (n : Int), v] ∧ TapeAt H t ∧ n ≤ 100 ∧ (v = .non ∨ ∃ p a b xs ys, v = .ref p ∧ PairAt n H p a b xs ys) ∧
  ∀ H' p a b xs ys, Keep t H H' → TapeAt H' t → PairAt n H' p a b xs ys → Q (.ref p) H'
abbrev nAsked : List Str := ["_law_tape_here", "_law_n", "_law_before", "_law_older", "_law_other", "_law_newer", "_law_field"]
theorem scAsked : FnScope nAsked ["_law_tape_here", "_law_n", "_law_before"] (defScope sLAsked) := ⟨rfl, rfl, rfl, by decide +kernel, rfl, by decide +kernel, by decide +kernel⟩
section
variable {P : Program} {w : World} {K : PySem.W.Frag} {mg : Str → Option Value} {base : Heap}
theorem ok_asked (T : Defs K mg) : FnOk P w K mg base CX0 4 T.fLAsked T.dLAsked ["_law_tape_here", "_law_n", "_law_before"] spAsked := by
  have GT := ok_take (P := P) (w := w) (base := base) T
  have GR := ok_record (P := P) (w := w) (base := base) T
  refine T.FLAsked.ok scAsked (fun vs H Q E h => ?_) (fun cdv A outer s H vs Q E hr h => ?_)
  · obtain ⟨t, n, v, rfl, _⟩ := h
    rfl
  · obtain ⟨t, n, v, rfl, ht, hn, hv, kq⟩ := h
    have hr1 : Room 1 _ := hr.mono (by decide)
    refine ⟨_, pss_cons (ps_if (PW.pt (pw_and (pt_cmpR op_eq (pe_call GT hr1 rfl T.mLTake T.FLTake.kp (b_take T) .nil pass0 (pa_cons (pv 0) (pa_cons pe_int pa_nil))) pe_int (nomark _)) (pw_and1 (pt_cmp (pc_notN (pv 2))))))
        (pss_one (ps_ret (pe_tup (pa_cons (pe_ix ix_tup (pv 2) pe_int (fun _ _ => rfl)) (pa_cons (pe_ix ix_tup (pv 2) pe_int (fun _ _ => rfl)) pa_nil))))) pss_nil)
      (pss_cons (ps_set (i := 3) scAsked.nd rfl (Or.inl rfl) (pe_call GR hr rfl T.mLRecord T.FLRecord.kp (b_record T) .nil pass0 (pa_cons (pv 0) (pa_cons (pv 1) (pa_cons pe_int pa_nil)))))
      (pss_cons (ps_set (i := 4) scAsked.nd rfl (Or.inl rfl) (pe_call GR hr rfl T.mLRecord T.FLRecord.kp (b_record T) .nil pass0 (pa_cons (pv 0) (pa_cons (pv 1) (pa_cons pe_int pa_nil)))))
      (pss_cons (ps_set (i := 5) scAsked.nd rfl (Or.inl rfl) (pe_lst pa_nil))
      (pss_cons (ps_for PassesOwn.never rfl (pi_range1 rfl T.b_range (pa_cons (pv 1) pa_nil)) (pg_name (i := 6) scAsked.nd rfl (Or.inl rfl))
        (pss_one (ps_expr (pe_bm PySem.F.plainAttrs_list PySem.F.slot_list_append PySem.F.type_list_append mt_append (pv 5) (pa_cons (pe_ix ix_tup (pe_ix ix_list (pe_lst (pa_cons (pv 3) (pa_cons (pv 4) pa_nil))) (pe_call GT hr1 rfl T.mLTake T.FLTake.kp (b_take T) .nil pass0 (pa_cons (pv 0) (pa_cons pe_int pa_nil))) (fun _ _ => rfl)) (pv 6) (fun _ _ => rfl)) pa_nil)))))
      (pss_one (ps_ret (pe_tup (pa_cons (pv 3) (pa_cons (pe_callTy call_tuple_of rfl T.b_tuple (by decide +kernel) (pa_cons (pv 5) pa_nil)) pa_nil))))))))), ?_⟩
    refine ⟨_, rfl, t, 6, rfl, ht, by decide, by decide, fun r H1 r0 r1 k1 t1 => ?_⟩
    refine (fun g : (?G : Prop) => ?a) ?b
    case a =>
      refine ⟨rfl, _, rfl, ?_⟩
      refine ite2 (fun c => ?_) (fun c => ?_)
      · refine ⟨_, rfl, _, rfl, ?_⟩
        rcases hv with e | ⟨p, a, b, xs, ys, e, hp⟩
        · refine ifF (by rw [e]; rfl) ?_
          exact g
        · refine ifT (by rw [e]; rfl) ?_
          subst e
          obtain ⟨tc, tk, et, _⟩ := id ht
          have hp1 := hp.keep et (fun l z => by cases z) k1
          obtain ⟨p1, p2, p3, p4, p5, p6, p7⟩ := hp1
          have b0 : atI [V.ref a, V.ref b] 0 = some (V.ref a) := rfl
          have b1 : atI [V.ref a, V.ref b] 1 = some (V.ref b) := rfl
          refine ⟨_, rfl, p, _, _, _, rfl, rfl, SqT.of p1, b1, _, rfl, p, _, _, _, rfl, rfl, SqT.of p1, b0, (by show 2 ≤ sizeLine; decide), fun q nq => ?_⟩
          have s2 : Same H1 (upd H1 q (.tup [.ref b, .ref a])) := Same.new nq
          exact kq _ q b a ys xs (k1.then_ s2) (t1.same s2) ⟨upd_same, s2 _ _ p3, s2 _ _ p2, p5, p4, p7, p6⟩
      · refine ifF rfl ?_
        exact g
    refine ⟨_, rfl, _, rfl, t, n, 3, rfl, t1, hn, by decide, by decide, fun H2 a xs k2 t2 lx sx na ha => ?_⟩
    refine ⟨_, rfl, _, rfl, t, n, 3, rfl, t2, hn, by decide, by decide, fun H3 b ys k3 t3 ly sy nb hb => ?_⟩
    have ha3 := k3 _ _ ha (t2.ne ha)
    refine ⟨(by show 0 ≤ sizeLine; decide), fun l nl => ?_⟩
    have lt : l ≠ t := fun z => by
      obtain ⟨c, k, e, _⟩ := t3
      rw [z, e] at nl
      cases nl
    refine ⟨_, rfl, _, rfl, (by omega), (by omega), ?_⟩
    refine for_range (lo := 0) (n := _) (fun i σ H4 => ∃ (v6 : Option V) (zs : List Int), σ = [some (.ref t), some (.int (n : Int)), some v, some (.ref a), some (.ref b), some (.ref l), v6] ∧ Keep t H3 H4 ∧ TapeAt H4 t ∧ H4 l = some (.lst (zs.map V.int)) ∧ zs.length = i ∧ ∀ z ∈ zs, small z)
      ⟨none, [], rfl, Keep.of (Same.new nl), t3.same (Same.new nl), upd_same, rfl, (by intro x hx; simp at hx)⟩ ?_ ?_
    · rintro i σ H4 hi ⟨v6, zs, rfl, k4, t4, h4, l4, s4⟩
      rw [Int.toNat_natCast] at hi
      rw [Int.zero_add]
      refine ⟨_, rfl, .inl ⟨rfl, _, SqL.of h4⟩, _, rfl, _, rfl, (by show 2 ≤ sizeLine; decide), fun u nu => ?_⟩
      have s5 : Same H4 (upd H4 u (.lst [.ref a, .ref b])) := Same.new nu
      have tu : u ≠ t := fun z => by
        obtain ⟨c, k, e, _⟩ := t4
        rw [z, e] at nu
        cases nu
      refine ⟨_, rfl, t, 2, rfl, t4.same s5, by decide, by decide, fun r H5 r0 r2 k5 t5 => ?_⟩
      have a4 := k4 _ _ ha3 (t3.ne ha3)
      have b4 := k4 _ _ hb (t3.ne hb)
      have a5 := k5 _ _ (s5 _ _ a4) ((t4.same s5).ne (s5 _ _ a4))
      have b5 := k5 _ _ (s5 _ _ b4) ((t4.same s5).ne (s5 _ _ b4))
      have u5 := k5 _ _ (upd_same (H := H4) (a := u)) tu
      have h5 := k5 _ _ (s5 _ _ h4) lt
      obtain ⟨q, ws, hq, e5, lw, sw⟩ : ∃ (q : Addr) (ws : List Int), atI [V.ref a, V.ref b] r = some (.ref q) ∧ H5 q = some (.tup (ws.map V.int)) ∧ ws.length = n ∧ ∀ z ∈ ws, small z := by
        have r2 : r < 2 := r2
        have : r = 0 ∨ r = 1 := by omega
        rcases this with rfl | rfl
        · exact ⟨a, xs, rfl, a5, lx, sx⟩
        · exact ⟨b, ys, rfl, b5, ly, sy⟩
      refine ⟨u, _, _, _, rfl, rfl, SqL.of u5, hq, _, rfl, q, _, _, _, rfl, rfl, SqT.of e5, int_at (by omega), l, _, _, rfl, rfl, h5, by rw [List.length_map, l4]; exact line100 (by omega), ?_⟩
      refine ⟨_, zs ++ [ws.getD i 0], rfl, ?_, ?_, by rw [upd_same, List.map_append]; rfl, by rw [List.length_append, l4]; rfl, fun z hz => ?_⟩
      · exact ((k4.then_ s5).trans k5).put nl
      · obtain ⟨c, k, e, p⟩ := t5
        exact ⟨c, k, by rw [upd_ne (Ne.symm lt)]; exact e, p⟩
      · rcases List.mem_append.mp hz with h | h
        · exact s4 z h
        · rw [List.mem_singleton.mp h, List.getD_eq_getElem?_getD, List.getElem?_eq_getElem (by omega)]
          exact sw _ (List.getElem_mem _)
    · rintro σ H4 ⟨v6, zs, rfl, k4, t4, h4, l4, s4⟩
      rw [Int.toNat_natCast] at l4
      refine ⟨_, rfl, _, rfl, l, _, rfl, .inl ⟨SqL.of h4, fun q nq => ⟨(by show 2 ≤ sizeLine; decide), fun p np => ?_⟩⟩⟩
      have a4 := k4 _ _ ha3 (t3.ne ha3)
      have s5 : Same H4 (upd (upd H4 q (.tup (zs.map V.int))) p (.tup [.ref a, .ref q])) := (Same.new nq).set ((Same.new nq).free np)
      have qp : q ≠ p := ne_of_none upd_same np
      exact kq _ p a q xs zs ((((k1.trans k2).trans k3).trans k4).then_ s5) (t4.same s5) ⟨upd_same, s5 _ _ a4, by rw [upd_ne qp, upd_same], lx, l4, sx, s4⟩
theorem b_asked (T : Defs K mg) : Binds K T.dLAsked ["_law_tape_here", "_law_n", "_law_before"] [] := T.FLAsked.binds fun _ _ _ _ _ _ us hl => match us, hl with | [_, _, _], _ => rfl
end
end K38

/-! R4: repr of data, asked where no repr is under way: promises of defs that are called so -/
namespace K38
open PySem PySem.Spec PyProof.Rows L2
section
variable {X : Cx}
def rReprD (K : PySem.W.Frag) : List V → Hp → VK → Prop := fun xs H Q => ∃ (a : Addr) (d : PyData), xs = [.ref a] ∧ Dp K H (.ref a) d ∧ d.showable = true ∧ d.hasDict = false ∧ d.depth ≤ 8 ∧ d.shown.length ≤ sizeLine ∧ Q (.str d.shown) H
theorem call_reprD (hg : X.A.guards = some []) (hu : X.A.units + 20 < cLine) : CallR X (.builtin "repr") (rReprD X.K) := by
  intro pins s σ H xs us Q I r h
  obtain ⟨a, d, rfl, hd, hs, hn, hp, hz, q⟩ := h
  obtain rfl := Vals.ref1 r
  obtain ⟨as, rd⟩ := Dp.reads I d (.ref a) (.ref a) hd rfl
  exact repr_of_reads' rd hs (PyData.noDict_hsm hn) hg (by omega) (fun _ _ e => e) (fun h' u tk hk => ⟨.str d.shown, H, I.kept hk, ⟨u, rfl⟩, q⟩) hz
end
/-- a promise by positional values, asked where no repr is under way -/
def FnG (P : Program) (w : World) (K : PySem.W.Frag) (mg : Str → Option Value) (base : Heap) (CX : CXT) (k : Nat) (f : Addr) (sp : Sp) : Prop :=
  ∀ (A : Around) (outer : List Env) (s : Shared) (H : Hp) (us : List Value) (vs : List V) (Q : VK) (E : XK), A.guards = some [] → Room k A → Env0 P w K mg base A outer s H → Vals vs us → sp vs H Q E →
    codeAny (model P w) A (.call (.ref f) ⟨us, []⟩) (CR CX outer P w H s Q E) s
section
variable {P : Program} {w : World} {K : PySem.W.Frag} {mg : Str → Option Value} {base : Heap}
theorem gOf {CX : CXT} {x qual : Str} {st : Stmt} {f : Addr} {fd : FuncData} {N ps : List Str} {k : Nat} {sp : Sp} (F : Fun K x qual st f fd) (S : FnScope N ps (defScope st)) (hb : Binds K fd ps []) (len : ∀ vs H Q E, sp vs H Q E → vs.length = ps.length)
    (hbody : ∀ (cdv : Value) (A : Around) (outer : List Env) (s : Shared) (H : Hp) (vs : List V) (Q : VK) (E : XK), A.guards = some [] → Room k (A.deeper (envOfC qual (defScope st) s.heap.objs.size f cdv)) → sp vs H Q E →
      ∃ t, PSs (cxOf CX P w K mg base N qual (defScope st) f cdv A outer s H E) (defBody st) t ∧ t { nx := fun _ H' => Q .non H', rt := Q } (start N vs) H) : FnG P w K mg base CX (k + 1) f sp := by
  obtain ⟨oc, od, kV, doc, pm, an, cdv, ct, osl, rfl, lk, hcd⟩ := F.ex
  intro A outer s H us vs Q E hg hr e0 r hsp
  have hl := len _ _ _ _ hsp
  have kin : K.In s.heap := e0.mod.kin.keeps fun b o e => (e0.bs b o e).1
  refine StX.run_bnd (G := fun xs H2 => xs = vs ∧ H2 = H) lk hcd S hr e0 (fun A' Ex Q' h => ?_) (fun s2 H2 xs ⟨e1, e2⟩ hr2 => ?_)
  · have b := hb s us kin (by rw [List.append_nil, ← r.length]; exact hl)
    rw [List.append_nil] at b
    exact b _ A' Ex Q' (h s H vs us e0 (Un.refl ..) rfl (fun _ _ z => z) r hl ⟨rfl, rfl⟩)
  · subst e1 e2
    exact hbody cdv A outer s2 _ _ Q E hg hr2 hsp
theorem gOk {x qual : Str} {st : Stmt} {f : Addr} {fd : FuncData} {N ps : List Str} {k : Nat} {sp : Sp} (F : Fun K x qual st f fd) (S : FnScope N ps (defScope st)) (hb : Binds K fd ps []) (len : ∀ vs H Q E, sp vs H Q E → vs.length = ps.length)
    (hbody : ∀ (cdv : Value) (A : Around) (outer : List Env) (s : Shared) (H : Hp) (vs : List V) (Q : VK) (E : XK), A.guards = some [] → Room k (A.deeper (envOfC qual (defScope st) s.heap.objs.size f cdv)) → sp vs H Q E →
      ∃ t, PSs (cxOf CX0 P w K mg base N qual (defScope st) f cdv A outer s H E).nox (defBody st) t ∧ t { nx := fun _ H' => Q .non H', rt := Q } (start N vs) H) : FnG P w K mg base CX0 (k + 1) f sp :=
  gOf F S hb len fun cdv A outer s H vs Q E hg hr hsp => by
    obtain ⟨t, h, q⟩ := hbody cdv A outer s H vs Q E hg hr hsp
    exact ⟨t, h.nox, q⟩
end
section
variable {X : Cx} {CX : CXT} {k : Nat} {f : Addr} {sp : Sp} {E : XK}
theorem run_fnG {pins : List (Addr × Obj)} {σ : L2.St} {H : Hp} {s : Shared} {Q : VK} {us : List Value} {vs : List V} (F : FnG X.prog X.w X.K X.mg X.base CX k f sp) (hg : X.A.guards = some []) (hr : Room k X.A) (hx : Passes CX X E)
    (I : Inv X pins σ H s) (r : Vals vs us) (h : sp vs H Q E) : wpAny (model X.prog X.w) X.A (call (.ref f) us) (EP X pins σ Q) X.xe s := by
  refine wpAny_call (codeAny_mono (F X.A X.stack s H us vs Q E hg hr I.env0 r h) fun res s' hq => ?_)
  match res, hq with
  | .error e, hq => exact hx pins σ H s e s' I hq
  | .ok (.ret u), hq => exact I.after hq
  | .ok .next, hq => exact hq.elim
  | .ok .brk, hq => exact hq.elim
  | .ok .cont, hq => exact hq.elim
def tCallG (sp : Sp) (E : XK) (t : TA) : TE := fun σ H Q => t σ H fun vs H1 => sp vs H1 Q E
theorem pe_callG {x : Str} {p pos : Pos} {e : Expr} {es : List Expr} {t : TA} (F : FnG X.prog X.w X.K X.mg X.base CX k f sp) (hgd : X.A.guards = some []) (hr : Room k X.A) (hg : Gl X x) (hm : X.mg x = some (.ref f)) (hk : PySem.W.keepIn X.K (.ref f) = true) (hx : Passes CX X E)
    (ha : PA X (e :: es) t) (hdb : (x == ("__debug__" : Str)) = false := by decide) (he : starEach (e :: es) X.env = (false, eval e X.env) :: starEach es X.env := by rfl) (hpl : (backTo pos (starEach es X.env)).any (·.1) = false := by rfl) :
    PE X (.Call (.Name x p) (e :: es) [] pos) (tCallG sp E t) :=
  ⟨fun pins s σ H Q I h => wpAny_Call_Name_kw (ld_glob I hg hm (PySem.W.callWith_K (h₀ := X.base) I.ok.mod.kin hk (thn (ha.run pos pins s σ H _ I h) fun _ _ z => by
    obtain ⟨vs, H1, I1, r, q⟩ := z
    exact ⟨I1.kIn, run_fnG F hgd hr hx I1 r q⟩) he hpl) hdb)⟩
end
end K38

namespace K38
open PySem L2
def oD : Option Nat → PyData
  | none => .none
  | some k => .int (k : Int)
/-- what repr is asked of: fields, parents, kinds -/
def chD (n : Nat) (ps : List (Option Nat)) (ks : List Bool) : PyData := .tuple [.int (n : Int), .tuple (ps.map oD), .tuple (ks.map fun b => .str (kdS b))]
/-- data that may be shown, its weight at most m -/
structure Shw (d : PyData) (m : Nat) : Prop where
  sh : d.showable = true
  nd : d.hasDict = false
  le : d.leavesShort 1921 = true
  we : d.weight ≤ m
structure ShwAll (ds : List PyData) (m : Nat) : Prop where
  sh : PyData.showableAll ds = true
  nd : PyData.hasDictAll ds = false
  le : PyData.leavesShortAll 1921 ds = true
  we : PyData.weightAll ds ≤ m
theorem Shw.fits {d : PyData} {m : Nat} (h : Shw d m) (hm : m ≤ 5000) : d.shown.length ≤ sizeLine := by
  have h1 := PyData.shown_le 1921 (by decide) d h.le
  have h2 := h.we
  have h3 : (1921 + 2) * d.weight ≤ 1923 * 5000 := Nat.mul_le_mul_left _ (by omega)
  have h4 : (1923 * 5000 + 1921 : Nat) ≤ sizeLine := by decide
  omega
theorem ShwAll.nil : ShwAll [] 0 := ⟨rfl, rfl, rfl, Nat.le_refl _⟩
theorem ShwAll.cons {d : PyData} {ds : List PyData} {m k j : Nat} (h : Shw d m) (t : ShwAll ds k) (e : m + 1 + k ≤ j) : ShwAll (d :: ds) j := by
  refine ⟨?_, ?_, ?_, ?_⟩
  · show (d.showable && PyData.showableAll ds) = true
    rw [h.sh, t.sh]
    rfl
  · show (d.hasDict || PyData.hasDictAll ds) = false
    rw [h.nd, t.nd]
    rfl
  · show (d.leavesShort 1921 && PyData.leavesShortAll 1921 ds) = true
    rw [h.le, t.le]
    rfl
  · have h1 := h.we
    have h2 := t.we
    show d.weight + 1 + PyData.weightAll ds ≤ j
    omega
theorem ShwAll.map {α : Type} {f : α → PyData} {m : Nat} : ∀ l : List α, (∀ x ∈ l, Shw (f x) m) → ShwAll (l.map f) ((m + 1) * l.length)
  | [], _ => ShwAll.nil
  | x :: l, h => ShwAll.cons (h x List.mem_cons_self) (ShwAll.map l fun y hy => h y (List.mem_cons_of_mem _ hy)) (by rw [List.length_cons, Nat.mul_add]; omega)
theorem ShwAll.tup {ds : List PyData} {m : Nat} (h : ShwAll ds m) : Shw (.tuple ds) m := ⟨h.sh, h.nd, h.le, h.we⟩
theorem ShwAll.lst {ds : List PyData} {m : Nat} (h : ShwAll ds m) : Shw (.list ds) m := ⟨h.sh, h.nd, h.le, h.we⟩
theorem shw_non : Shw .none 200 := ⟨rfl, rfl, rfl, Nat.zero_le _⟩
theorem shw_bl (b : Bool) : Shw (.bool b) 200 := ⟨rfl, rfl, rfl, Nat.zero_le _⟩
theorem shw_int {i : Int} (h : small i) : Shw (.int i) 200 := by
  have h1 : i.natAbs < 2 ^ 134 := by
    have : i.natAbs ≤ 10000000000000000000000000000000000000000 := by
      obtain ⟨a, b⟩ := h
      omega
    exact Nat.lt_of_le_of_lt this (by decide)
  have h2 : i.natAbs.log2 < 134 := PySem.Flt.log2_lt_of (by decide) h1
  refine ⟨decide_eq_true (by omega), rfl, decide_eq_true (PyProof.Rows.int_text_len_1921 (by omega)), ?_⟩
  show (if i == 0 then 0 else i.natAbs.log2 + 1) ≤ 200
  split <;> omega
theorem shw_kd (b : Bool) : Shw (.str (kdS b)) 200 := by
  cases b with
  | true => exact ⟨rfl, rfl, by decide +kernel, by decide +kernel⟩
  | false => exact ⟨rfl, rfl, by decide +kernel, by decide +kernel⟩
theorem small_nat {k : Nat} (h : k ≤ 100) : small (k : Int) := ⟨by omega, by omega⟩
theorem shw_ch {n : Nat} {ps : List (Option Nat)} {ks : List Bool} (hn : n ≤ 4) (hp : ps.length = n) (hk : ks.length = n) (h : ∀ k, some k ∈ ps → k ≤ 100) : Shw (chD n ps ks) 5000 := by
  have h1 : ShwAll (ps.map oD) (201 * ps.length) := ShwAll.map ps fun o ho => by
    cases o with
    | none => exact shw_non
    | some k => exact shw_int (small_nat (h k ho))
  have h2 : ShwAll (ks.map fun b => PyData.str (kdS b)) (201 * ks.length) := ShwAll.map ks fun b _ => shw_kd b
  exact (ShwAll.cons (shw_int (small_nat (by omega))) (ShwAll.cons h1.tup (ShwAll.cons h2.tup ShwAll.nil (Nat.le_refl _)) (Nat.le_refl _)) (by omega)).tup
theorem shw_rec {xs : List Int} (h : ∀ x ∈ xs, small x) (hl : xs.length ≤ 20) : Shw (recD xs) 4500 := by
  have h1 : ShwAll (xs.map PyData.int) (201 * xs.length) := ShwAll.map xs fun x hx => shw_int (h x hx)
  exact ⟨h1.sh, h1.nd, h1.le, Nat.le_trans h1.we (by omega)⟩
theorem depth_os : ∀ ps : List (Option Nat), PyData.depthAll (ps.map oD) = 0
  | [] => rfl
  | o :: ps => by
    show max (oD o).depth (PyData.depthAll (ps.map oD)) = 0
    rw [depth_os ps]
    cases o <;> rfl
theorem depth_ks : ∀ ks : List Bool, PyData.depthAll (ks.map fun b => PyData.str (kdS b)) = 0
  | [] => rfl
  | b :: ks => by
    show max 0 (PyData.depthAll (ks.map fun b => PyData.str (kdS b))) = 0
    rw [depth_ks ks]
    rfl
theorem depth_ch (n : Nat) (ps : List (Option Nat)) (ks : List Bool) : (chD n ps ks).depth = 2 := by
  show max 0 (max (PyData.depthAll (ps.map oD) + 1) (max (PyData.depthAll (ks.map fun b => PyData.str (kdS b)) + 1) 0)) + 1 = 2
  rw [depth_os, depth_ks]
  rfl
theorem os_dp {K : PySem.W.Frag} {H : Hp} : ∀ ps : List (Option Nat), DpAll K H (ps.map oV) (ps.map oD)
  | [] => .nil
  | none :: ps => .cons .non (os_dp ps)
  | some k :: ps => .cons (.int (k : Int)) (os_dp ps)
theorem ks_dp {K : PySem.W.Frag} {H : Hp} : ∀ ks : List Bool, DpAll K H (ks.map kdV) (ks.map fun b => PyData.str (kdS b))
  | [] => .nil
  | b :: ks => .cons (.str (kdS b)) (ks_dp ks)
theorem ch_dp {K : PySem.W.Frag} {H : Hp} {p u v : Addr} {n : Nat} {ps : List (Option Nat)} {ks : List Bool} (h : SqT K H p [.int (n : Int), .ref u, .ref v]) (hu : SqT K H u (ps.map oV)) (hv : SqT K H v (ks.map kdV)) : Dp K H (.ref p) (chD n ps ks) :=
  .tup h (.cons (.int (n : Int)) (.cons (.tup hu (os_dp ps)) (.cons (.tup hv (ks_dp ks)) .nil)))
end K38

namespace K38
open PySem L2
theorem flatMap_perm {α β : Type} {f g : α → List β} (h : ∀ a, (f a).Perm (g a)) : ∀ l : List α, (l.flatMap f).Perm (l.flatMap g)
  | [] => .nil
  | a :: l => by
    rw [List.flatMap_cons, List.flatMap_cons]
    exact (h a).append (flatMap_perm h l)
theorem raw_perm {n : Nat} (h : n ∈ [1, 2, 3, 4]) : (rawP n).Perm (rawL n) := flatMap_perm (fun _ => (kinds_perm n h).map _) _
theorem ordered_perm {n : Nat} (h : n ∈ [1, 2, 3, 4]) : (ordered n).Perm (rawL n) := (List.mergeSort_perm _ _).trans (raw_perm h)
theorem ordered_sorted (n : Nat) : (ordered n).Pairwise fun x y => ((num n x : Nat) : Int) ≤ ((num n y : Nat) : Int) := by
  have h := List.pairwise_mergeSort (le := fun x y => decide (((num n x : Nat) : Int) ≤ ((num n y : Nat) : Int))) (fun a b c h1 h2 => decide_eq_true (Int.le_trans (of_decide_eq_true h1) (of_decide_eq_true h2))) (fun a b => by
    by_cases z : ((num n a : Nat) : Int) ≤ ((num n b : Nat) : Int)
    · rw [decide_eq_true z]
      rfl
    · rw [decide_eq_true (show ((num n b : Nat) : Int) ≤ ((num n a : Nat) : Int) by omega), Bool.or_true]) (rawP n)
  exact h.imp fun {a b} z => of_decide_eq_true z
def numI (n : Nat) (c : Ch) : Int := ((num n c : Nat) : Int)
theorem sorted_nums {n : Nat} (h : n ∈ [1, 2, 3, 4]) {ns : List Int} (p : ns.Perm ((rawL n).map (numI n))) (s : ns.Pairwise (· ≤ ·)) : ns = (ordered n).map (numI n) := by
  have p2 : ns.Perm ((ordered n).map (numI n)) := p.trans ((ordered_perm h).map _).symm
  have s2 : ((ordered n).map (numI n)).Pairwise (· ≤ ·) := List.pairwise_map.mpr (ordered_sorted n)
  exact p2.eq_of_pairwise (fun a b _ _ h1 h2 => Int.le_antisymm h1 h2) s s2
theorem nodup_numI {n : Nat} (h : n ∈ [1, 2, 3, 4]) : ((ordered n).map (numI n)).Nodup := by
  have h1 := nums_nodup n h
  have p : ((ordered n).map (num n)).Perm ((rawL n).map (num n)) := (ordered_perm h).map _
  have h2 : ((ordered n).map (num n)).Nodup := p.nodup_iff.mpr h1
  rw [show (ordered n).map (numI n) = ((ordered n).map (num n)).map fun k : Nat => (k : Int) by rw [List.map_map]; rfl]
  exact List.Pairwise.map _ (fun a b (z : a ≠ b) => by omega) h2
/-- where a chain stands in the order -/
theorem at_num {n : Nat} (h : n ∈ [1, 2, 3, 4]) {i j : Nat} {c d : Ch} (hi : (ordered n)[i]? = some c) (hj : (ordered n)[j]? = some d) (e : numI n c = numI n d) : i = j := by
  have hn := nodup_numI h
  have li := (List.getElem?_eq_some_iff.mp hi)
  have lj := (List.getElem?_eq_some_iff.mp hj)
  obtain ⟨l1, e1⟩ := li
  obtain ⟨l2, e2⟩ := lj
  have q := List.pairwise_iff_getElem.mp hn
  by_cases c : i = j
  · exact c
  · exfalso
    rcases Nat.lt_or_gt_of_ne c with z | z
    · refine q i j (by rw [List.length_map]; exact l1) (by rw [List.length_map]; exact l2) z ?_
      rw [List.getElem_map, List.getElem_map, e1, e2]
      exact e
    · refine q j i (by rw [List.length_map]; exact l2) (by rw [List.length_map]; exact l1) z ?_
      rw [List.getElem_map, List.getElem_map, e1, e2]
      exact e.symm
theorem ordered_len {n : Nat} (h : n ∈ [1, 2, 3, 4]) : (ordered n).length = (rawL n).length := (ordered_perm h).length_eq
theorem ordered_mem {n : Nat} (h : n ∈ [1, 2, 3, 4]) {c : Ch} (hc : c ∈ rawL n) : ∃ i : Nat, (ordered n)[i]? = some c := by
  obtain ⟨i, hi, e⟩ := List.getElem_of_mem ((ordered_perm h).mem_iff.mpr hc)
  exact ⟨i, by rw [List.getElem?_eq_getElem hi, e]⟩
/-- the list that is filled place by place -/
theorem filled {α : Type} {R : Addr → α → Prop} : ∀ {O : List α} {xs : List V}, xs.length = O.length → (∀ (i : Nat) (c : α), O[i]? = some c → ∃ a, xs[i]? = some (V.ref a) ∧ R a c) → ∃ as : List Addr, xs = as.map V.ref ∧ Paired R as O
  | [], xs, hl, _ => ⟨[], List.length_eq_zero_iff.mp hl, .nil⟩
  | c :: O, [], hl, _ => by simp at hl
  | c :: O, x :: xs, hl, h => by
    obtain ⟨a, e, r⟩ := h 0 c rfl
    obtain rfl : x = V.ref a := Option.some.inj e
    obtain ⟨as, e2, p⟩ := filled (O := O) (xs := xs) (by simpa using hl) fun i d hd => by simpa using h (i + 1) d (by simpa using hd)
    exact ⟨a :: as, by rw [e2]; rfl, .cons r p⟩
end K38

namespace K38
open PySem L2
/-! ### _law_chains -/
/-- the text of a chain -/
def textOf (n : Nat) (c : Ch) : Str := (chD n (pars n c.1) c.2).shown
/-- a chain of the law's stands at a -/
def LC (n : Nat) (H : Hp) (a : Addr) (c : Ch) : Prop := (∃ t k : Addr, H a = some (.tup [.int (numI n c), .ref t, .ref k, .str (textOf n c)]) ∧ H t = some (.lst (nums c.1)) ∧ H k = some (.lst (kds c.2))) ∧ Good n c.1 ∧ c.2.length = n
/-- the same, its lists not at D -/
def LCx (D : Addr) (n : Nat) (H : Hp) (a : Addr) (c : Ch) : Prop := (∃ t k : Addr, t ≠ D ∧ k ≠ D ∧ H a = some (.tup [.int (numI n c), .ref t, .ref k, .str (textOf n c)]) ∧ H t = some (.lst (nums c.1)) ∧ H k = some (.lst (kds c.2))) ∧ Good n c.1 ∧ c.2.length = n
theorem LC.mono {n : Nat} {H H' : Hp} {a : Addr} {c : Ch} (h : LC n H a c) (s : Same H H') : LC n H' a c := by
  obtain ⟨⟨t, k, h1, h2, h3⟩, g⟩ := h
  exact ⟨⟨t, k, s _ _ h1, s _ _ h2, s _ _ h3⟩, g⟩
theorem LC.ins {n : Nat} {H H' : Hp} {x dx C a : Addr} {fs : List (Str × V)} {c : Ch} (h : LC n H a c) (hx : H x = some (.ins C dx fs)) (s : Keep x H H') : LC n H' a c := by
  obtain ⟨⟨t, k, h1, h2, h3⟩, g⟩ := h
  exact ⟨⟨t, k, s _ _ h1 (ne_of h1 hx (fun z => by cases z)), s _ _ h2 (ne_of h2 hx (fun z => by cases z)), s _ _ h3 (ne_of h3 hx (fun z => by cases z))⟩, g⟩
theorem LCx.mono {D : Addr} {n : Nat} {H H' : Hp} {a : Addr} {c : Ch} (h : LCx D n H a c) (s : Same H H') : LCx D n H' a c := by
  obtain ⟨⟨t, k, d1, d2, h1, h2, h3⟩, g⟩ := h
  exact ⟨⟨t, k, d1, d2, s _ _ h1, s _ _ h2, s _ _ h3⟩, g⟩
theorem LCx.keep {D : Addr} {n : Nat} {H H' : Hp} {a : Addr} {l : List V} {c : Ch} (h : LCx D n H a c) (hd : H D = some (.lst l)) (s : Keep D H H') : LCx D n H' a c := by
  obtain ⟨⟨t, k, d1, d2, h1, h2, h3⟩, g⟩ := h
  exact ⟨⟨t, k, d1, d2, s _ _ h1 (ne_of h1 hd (fun z => by cases z)), s _ _ h2 d1, s _ _ h3 d2⟩, g⟩
theorem LCx.lc {D : Addr} {n : Nat} {H : Hp} {a : Addr} {c : Ch} (h : LCx D n H a c) : LC n H a c := by
  obtain ⟨⟨t, k, d1, d2, h1, h2, h3⟩, g⟩ := h
  exact ⟨⟨t, k, h1, h2, h3⟩, g⟩
def spLChains : Sp := fun vs H Q _ => ∃ n : Nat, vs = [.int (n : Int)] ∧ 1 ≤ n ∧ n ≤ 4 ∧ ∀ H' r as, Same H H' → H r = none → H' r = some (.lst (as.map V.ref)) → Paired (LC n H') as (ordered n) → Q (.ref r) H'
abbrev nLChains : List Str := ["_law_n", "_law_numbered", "_law_turns", "_law_parents", "_law_k", "_law_kinds", "_law_text", "_law_chains_here", "_law_chain", "_law_numbers", "_law_places"]
theorem scLChains : FnScope nLChains ["_law_n"] (defScope sLChains) := ⟨rfl, rfl, rfl, by decide +kernel, rfl, by decide +kernel, by decide +kernel⟩
theorem pars_lt {n : Nat} {t : List Nat} (g : Good n t) {k : Nat} (h : some k ∈ pars n t) : k < n := by
  have key : ∀ i, some k ∈ parsI n t i → i < n → k < n := fun i => by
    induction i with
    | zero =>
      intro h _
      exact absurd (List.eq_of_mem_replicate h) (by simp)
    | succ i ih =>
      intro h hi
      rcases List.mem_or_eq_of_mem_set h with z | z
      · exact ih z (by omega)
      · have : k = t.getD i 0 := Option.some.inj z
        rw [this, List.getD_eq_getElem?_getD, List.getElem?_eq_getElem (by rw [g.len]; omega)]
        exact g.lt _ (List.getElem_mem _)
  by_cases hn : n = 0
  · subst hn
    exact absurd (List.eq_of_mem_replicate (show some k ∈ List.replicate 0 none from h)) (by simp)
  · exact key (n - 1) h (by omega)
theorem putK_le {κ : Type} [DecidableEq κ] (l : List (κ × V)) (k : κ) (v : V) : (putK l k v).length ≤ l.length + 1 := by
  unfold putK
  split
  · rw [List.length_map]
    exact Nat.le_succ _
  · rw [List.length_append]
    exact Nat.le_refl _
theorem b_lChains {K : PySem.W.Frag} {mg : Str → Option Value} (T : Defs K mg) : Binds K T.dLChains ["_law_n"] [] := T.FLChains.binds fun _ _ _ _ _ _ us hl => match us, hl with | [_], _ => rfl
section
variable {P : Program} {w : World} {K : PySem.W.Frag} {mg : Str → Option Value} {base : Heap}
theorem ok_lChains (T : Defs K mg) : FnG P w K mg base CX0 3 T.fLChains spLChains := by
  have GT := ok_lTurns (P := P) (w := w) (base := base) T
  have GK := ok_lKinds (P := P) (w := w) (base := base) T
  have GN := ok_lNum (P := P) (w := w) (base := base) T
  refine gOk T.FLChains scLChains (b_lChains T) (fun vs H Q E h => ?_) (fun cdv A outer s H vs Q E hg hr h => ?_)
  · obtain ⟨n, rfl, _⟩ := h
    rfl
  · obtain ⟨n, rfl, h1, h4, kq⟩ := h
    have hr1 : Room 1 _ := hr.mono (by decide)
    have hu : A.units + 20 < cLine := by
      have := hr.un
      simp only [PySem.Around.deeper_units] at this
      omega
    refine ⟨_, pss_cons (ps_set (i := 1) scLChains.nd rfl (Or.inl rfl) (pe_lst pa_nil))
      (pss_cons (ps_for PassesOwn.never rfl (pi_list (pe_call GT hr1 rfl T.mLTurns T.FLTurns.kp (b_lTurns T) .nil pass0 (pa_cons (pv 0) pa_nil))) (pg_name (i := 2) scLChains.nd rfl (Or.inl rfl))
        (pss_cons (ps_set (i := 3) scLChains.nd rfl (Or.inl rfl) (pe_op op_rep (pe_lst (pa_cons pe_non pa_nil)) (pv 0)))
        (pss_cons (ps_for PassesOwn.never rfl (pi_range2 rfl T.b_range (pa_cons pe_int (pa_cons (pv 0) pa_nil))) (pg_name (i := 4) scLChains.nd rfl (Or.inl rfl))
          (pss_one (ps_asg (pe_ix ix_list (pv 2) (pe_op op_sub (pv 4) pe_int) (fun _ _ => rfl)) (pg_sub (pv 3) (pe_ix ix_list (pv 2) (pv 4) (fun _ _ => rfl)) set_list))))
        (pss_one (ps_for PassesOwn.never rfl (pi_list (pe_call GK hr1 rfl T.mLKinds T.FLKinds.kp (b_lKinds T) .nil pass0 (pa_cons (pv 0) pa_nil))) (pg_name (i := 5) scLChains.nd rfl (Or.inl rfl))
          (pss_cons (ps_set (i := 6) scLChains.nd rfl (Or.inl rfl) (pe_callB (call_reprD hg (room20 hr)) rfl T.b_repr (by decide +kernel) (pa_cons (pe_tup (pa_cons (pv 0) (pa_cons (pe_callTy call_tuple_of rfl T.b_tuple (by decide +kernel) (pa_cons (pv 3) pa_nil)) (pa_cons (pe_callTy call_tuple_of rfl T.b_tuple (by decide +kernel) (pa_cons (pv 5) pa_nil)) pa_nil)))) pa_nil)))
          (pss_one (ps_expr (pe_bm PySem.F.plainAttrs_list PySem.F.slot_list_append PySem.F.type_list_append mt_append (pv 1) (pa_cons (pe_tup (pa_cons (pe_call GN hr rfl T.mLNumber T.FLNumber.kp (b_lNum T) .nil pass0 (pa_cons (pv 3) (pa_cons (pv 5) pa_nil))) (pa_cons (pv 2) (pa_cons (pv 5) (pa_cons (pv 6) pa_nil))))) pa_nil))))))))))
      (pss_cons (ps_set (i := 7) scLChains.nd rfl (Or.inl rfl) (pe_op op_rep (pe_lst (pa_cons pe_non pa_nil)) (pe_callB call_len_seq rfl T.b_len PySem.boot_len (pa_cons (pv 1) pa_nil))))
      (pss_cons (ps_set (i := 9) scLChains.nd rfl (Or.inl rfl) (pe_callB cr_sortedI rfl T.b_sorted (by decide +kernel) (pa_cons (pe_lc (own := [("_law_chain", 8)]) (g := gName 8) (tt := tYes) (te := tOp (rIxT K) (tVar 8) (tC (.int 0))) rfl scLChains.nd (pi_list (pv 1)) (blkOk_by (N := nLChains) (sc := defScope sLChains) (by decide +kernel))
        (fun _ _ _ _ _ => pg_name (i := 8) scLChains.nd rfl (Or.inl rfl)) (fun _ _ _ _ _ => pts_nil) (fun _ _ _ _ _ => pe_ix ix_tup (pv 8) pe_int (fun _ _ => rfl))) pa_nil)))
      (pss_cons (ps_set (i := 10) scLChains.nd rfl (Or.inl rfl) pe_dnewK)
      (pss_cons (ps_for PassesOwn.never rfl (pi_range1 rfl T.b_range (pa_cons (pe_callB call_len_seq rfl T.b_len PySem.boot_len (pa_cons (pv 9) pa_nil)) pa_nil)) (pg_name (i := 4) scLChains.nd rfl (Or.inl rfl))
        (pss_one (ps_asg (pv 4) (pg_sub (pv 10) (pe_ix ix_list (pv 9) (pv 4) (fun _ _ => rfl)) (set_dict (hu_of hr))))))
      (pss_cons (ps_for PassesOwn.never rfl (pi_list (pv 1)) (pg_name (i := 8) scLChains.nd rfl (Or.inl rfl))
        (pss_one (ps_asg (pv 8) (pg_sub (pv 7) (pe_dget (hu_of hr) (pv 10) (pe_ix ix_tup (pv 8) pe_int (fun _ _ => rfl)) (fun _ _ => rfl)) set_list))))
      (pss_one (ps_ret (pv 7))))))))), ?_⟩
    refine ⟨(by show 0 ≤ sizeLine; decide), fun c nc => ?_⟩
    refine ⟨_, rfl, n, rfl, h1, h4, fun H1 r s1 hR => ?_⟩
    obtain ⟨as, nr, hr1', hp⟩ := hR
    have hc1 := s1 _ _ upd_same
    have cr : r ≠ c := fun z => by
      rw [z, upd_same] at nr
      cases nr
    refine ⟨r, rfl, ⟨_, SqL.of hr1'⟩, ?_⟩
    refine for_list (K := K) (a := r) (xs := as.map V.ref) (fun i σ H2 => ∃ (v2 v3 v4 v5 v6 : Option V) (cs : List Addr), σ = [some (.int (n : Int)), some (.ref c), v2, v3, v4, v5, v6, none, none, none, none] ∧ Keep c H1 H2 ∧ H2 c = some (.lst (cs.map V.ref)) ∧ Paired (LCx c n H2) cs (((turns n).take i).flatMap fun t => (kindsL n).map fun k => (t, k)))
      ⟨none, none, none, none, none, [], rfl, Keep.of (Same.refl _), hc1, .nil⟩ (fun i σ H2 _ ⟨_, _, _, _, _, _, _, k, _⟩ => SqL.of (k _ _ hr1' cr)) ?_ ?_
    · rintro i x σ H2 hi ⟨v2, v3, v4, v5, v6, cs, rfl, k2, hc2, hp2⟩
      rw [List.getElem?_map] at hi
      obtain ⟨a, ha, rfl⟩ := Option.map_eq_some_iff.mp hi
      obtain ⟨t, ht, na, hat⟩ := paired_at hp ha
      have g : Good n t := good_of (List.all_eq_true.mp (good_all n (four h1 h4)) t (List.mem_of_getElem? ht))
      have ac : a ≠ c := fun z => by
        rw [z, upd_same] at na
        cases na
      refine ⟨(by show 1 ≤ sizeLine; decide), fun u nu => ?_⟩
      refine ⟨_, rfl, u, (n : Int), [V.non], rfl, rfl, upd_same, (by omega), (by omega), (by show 1 * n ≤ sizeLine; rw [Nat.one_mul]; exact Nat.le_of_lt (line100 (by omega))), fun d nd => ?_⟩
      have ud : u ≠ d := ne_of_none upd_same nd
      have nd2 : H2 d = none := (Same.new nu).free nd
      have cd : c ≠ d := ne_of_none hc2 nd2
      have dc : d ≠ c := fun z => cd z.symm
      have e0 : (List.replicate (n : Int).toNat [V.non]).flatten = (parsI n t 0).map oV := by
        rw [Int.toNat_natCast]
        show _ = (List.replicate n none).map oV
        rw [List.map_replicate]
        exact repl_flat n V.non
      rw [e0]
      have k3 : Keep c H1 (upd (upd H2 u (.lst [V.non])) d (.lst ((parsI n t 0).map oV))) := (k2.new nu).new nd
      refine ⟨_, rfl, _, _, rfl, (by omega), ?_⟩
      refine for_range (lo := 1) (n := _) (fun i σ H3 => ∃ (v4 : Option V), σ = [some (.int (n : Int)), some (.ref c), some (.ref a), some (.ref d), v4, v5, v6, none, none, none, none] ∧ Keep c H1 H3 ∧ Same H2 H3 ∧ H3 d = some (.lst ((parsI n t i).map oV)))
        ⟨v4, rfl, k3, (Same.new nu).set nd2, upd_same⟩ ?_ ?_
      · rintro j σ H3 hj ⟨v4, rfl, k3, s3, hd3⟩
        have hj' : j + 1 < n := by omega
        have hj2 : ((1 : Int) + (j : Int)) = ((j + 1 : Nat) : Int) := by omega
        have hj3 : ((1 : Int) + (j : Int)) - 1 = ((j : Nat) : Int) := by omega
        refine ⟨_, rfl, _, rfl, _, _, rfl, rfl, a, _, _, _, rfl, rfl, SqL.of (k3 _ _ hat ac), (by rw [hj3]; exact nat_at (by rw [g.len]; omega)), ?_⟩
        refine ⟨_, rfl, _, rfl, _, rfl, a, _, _, _, rfl, rfl, SqL.of (k3 _ _ hat ac), (by rw [hj2]; exact nat_at (by rw [g.len]; omega)), ?_⟩
        have hlt : t.getD (j + 1) 0 < n := g.lt _ (by rw [List.getD_eq_getElem?_getD, List.getElem?_eq_getElem (by rw [g.len]; omega)]; exact List.getElem_mem _)
        refine ⟨d, _, _, t.getD (j + 1) 0, rfl, rfl, hd3, ix_of (by rw [List.length_map, parsI_len]; exact hlt), ?_⟩
        refine ⟨_, rfl, k3.put (k2.free nd2 dc), s3.set nd2, ?_⟩
        · rw [upd_same]
          show some (HO.lst (((parsI n t j).map oV).set (t.getD (j + 1) 0) (.int ((t.getD j 0 : Nat) : Int)))) = some (.lst (((parsI n t j).set (t.getD (j + 1) 0) (some (t.getD j 0))).map oV))
          rw [List.map_set]
          rfl
      · rintro σ H3 ⟨v4, rfl, k3, s3, hd3⟩
        have hd4 : H3 d = some (.lst ((pars n t).map oV)) := by
          rw [hd3, show ((n : Int) - 1).toNat = n - 1 by omega]
          rfl
        refine ⟨_, rfl, n, rfl, h1, h4, fun H4 q s4 hRk => ?_⟩
        obtain ⟨bs, nq, hq4, hpk⟩ := hRk
        have hc3 : H3 c = some (.lst (cs.map V.ref)) := s3 _ _ hc2
        have hc4 := s4 _ _ hc3
        have qc : q ≠ c := fun z => by
          rw [z, hc3] at nq
          cases nq
        refine ⟨q, rfl, ⟨_, SqL.of hq4⟩, ?_⟩
        refine for_list (K := K) (a := q) (xs := bs.map V.ref) (fun j σ H5 => ∃ (v4 v5 v6 : Option V) (cs' : List Addr), σ = [some (.int (n : Int)), some (.ref c), some (.ref a), some (.ref d), v4, v5, v6, none, none, none, none] ∧ Keep c H4 H5 ∧ H5 c = some (.lst (cs'.map V.ref)) ∧
            Paired (LCx c n H5) cs' ((((turns n).take i).flatMap fun t => (kindsL n).map fun k => (t, k)) ++ (((kindsL n).take j).map fun k => (t, k))))
          ⟨_, _, _, cs, rfl, Keep.of (Same.refl _), hc4, by rw [List.take_zero, List.map_nil, List.append_nil]; exact paired_mono hp2 fun a c h => h.mono (s3.trans s4)⟩ (fun i σ H2 _ ⟨_, _, _, _, _, k, _⟩ => SqL.of (k _ _ hq4 qc)) ?_ ?_
        · rintro j x σ H5 hj ⟨v4, v5, v6, cs', rfl, k5, hc5, hp5⟩
          rw [List.getElem?_map] at hj
          obtain ⟨b, hb, rfl⟩ := Option.map_eq_some_iff.mp hj
          obtain ⟨k, hk, nb, hbk⟩ := paired_at hpk hb
          have kl : k.length = n := by
            have := List.all_eq_true.mp (kinds_len n (four h1 h4)) k ((kinds_perm n (four h1 h4)).mem_iff.mpr (List.mem_of_getElem? hk))
            simpa using this
          have bc : b ≠ c := fun z => by
            rw [z, hc3] at nb
            cases nb
          have hd5 := k5 _ _ (s4 _ _ hd4) dc
          have hb5 := k5 _ _ hbk bc
          have ha5 := k5 _ _ (s4 _ _ (k3 _ _ hat ac)) ac
          refine ⟨_, rfl, _, rfl, d, _, rfl, .inl ⟨SqL.of hd5, fun u1 n1 => ?_⟩⟩
          refine ⟨_, rfl, b, _, rfl, .inl ⟨SqL.of ((Same.new n1) _ _ hb5), fun u2 n2 => ?_⟩⟩
          refine ⟨(by show 3 ≤ sizeLine; decide), fun u3 n3 => ?_⟩
          have s51 : Same H5 (upd H5 u1 (.tup ((pars n t).map oV))) := Same.new n1
          have s52 : Same H5 (upd (upd H5 u1 (.tup ((pars n t).map oV))) u2 (.tup (kds k))) := s51.trans (Same.new n2)
          have s53 : Same H5 (upd (upd (upd H5 u1 (.tup ((pars n t).map oV))) u2 (.tup (kds k))) u3 (.tup [.int (n : Int), .ref u1, .ref u2])) := s52.trans (Same.new n3)
          have ne12 : u1 ≠ u2 := ne_of_none upd_same n2
          have ne23 : u2 ≠ u3 := ne_of_none upd_same n3
          have ne13 : u1 ≠ u3 := ne_of_none (by rw [upd_ne ne12]; exact upd_same) n3
          have sw : Shw (chD n (pars n t) k) 5000 := shw_ch h4 g.plen kl fun k hk => by
            have := pars_lt g hk
            omega
          refine ⟨u3, chD n (pars n t) k, rfl, ch_dp (SqT.of upd_same) (SqT.of (by rw [upd_ne ne13, upd_ne ne12]; exact upd_same)) (SqT.of (by rw [upd_ne ne23]; exact upd_same)), sw.sh, sw.nd, by rw [depth_ch]; decide, sw.fits (Nat.le_refl _), ?_⟩
          refine ⟨_, rfl, .inl ⟨rfl, _, SqL.of (s53 _ _ hc5)⟩, _, rfl, _, rfl, d, b, n, (t, k), rfl, SqL.of (s53 _ _ hd5), SqL.of (s53 _ _ hb5), g, h1, (by omega), kl, fun H6 s6 => ?_⟩
          have s56 := s53.trans s6
          refine ⟨_, rfl, _, rfl, _, rfl, (by show 4 ≤ sizeLine; decide), fun p np => ?_⟩
          have s7 : Same H6 (upd H6 p (.tup [.int ((num n (t, k) : Nat) : Int), .ref a, .ref b, .str (chD n (pars n t) k).shown])) := Same.new np
          have s57 := s56.trans s7
          refine ⟨c, _, _, rfl, rfl, s57 _ _ hc5, ?_, ?_⟩
          · rw [List.length_map, Paired.length hp5, List.length_append]
            have l1 := flat_le (f := fun t => (kindsL n).map fun k => (t, k)) ht
            have l2 : (turns n).flatMap (fun t => (kindsL n).map fun k => (t, k)) = rawL n := rfl
            have l3 := (raw_len n (four h1 h4)).1
            rw [l2] at l1
            have l4 : (((kindsL n).take j).map fun k => (t, k)).length ≤ ((kindsL n).map fun k => (t, k)).length := by
              rw [List.length_map, List.length_map]
              exact List.length_take_le' _ _
            exact line1000 (by omega)
          · have e1 : cs'.map V.ref ++ [V.ref p] = (cs' ++ [p]).map V.ref := by rw [List.map_append]; rfl
            rw [e1]
            have k7 : Keep c (upd H6 p (.tup [.int ((num n (t, k) : Nat) : Int), .ref a, .ref b, .str (chD n (pars n t) k).shown])) (upd (upd H6 p (.tup [.int ((num n (t, k) : Nat) : Int), .ref a, .ref b, .str (chD n (pars n t) k).shown])) c (.lst ((cs' ++ [p]).map V.ref))) := (Keep.of (Same.refl _)).upd_
            refine ⟨_, _, _, cs' ++ [p], rfl, k5.trans (Keep.same s57 k7), upd_same, ?_⟩
            rw [List.take_add_one, hk, List.map_append (f := fun k : List Bool => (t, k)), ← List.append_assoc]
            refine Paired.snoc (paired_mono hp5 fun a c h => (h.mono s57).keep (s57 _ _ hc5) k7) (LCx.keep (l := cs'.map V.ref) ?_ (s57 _ _ hc5) k7)
            exact ⟨⟨a, b, ac, bc, upd_same, s57 _ _ ha5, s57 _ _ hb5⟩, g, kl⟩
        · rintro σ H5 ⟨v4, v5, v6, cs', rfl, k5, hc5, hp5⟩
          rw [List.length_map, Paired.length hpk, List.take_of_length_le (Nat.le_refl _)] at hp5
          refine ⟨_, _, _, _, _, cs', rfl, (k3.then_ s4).trans k5, hc5, ?_⟩
          rw [flat_take ht]
          exact hp5
    · rintro σ H2 ⟨v2, v3, v4, v5, v6, cs, rfl, k2, hc2, hp2⟩
      rw [List.length_map, Paired.length hp, List.take_of_length_le (Nat.le_refl _)] at hp2
      have hp2 : Paired (LCx c n H2) cs (rawL n) := hp2
      have m4 := four h1 h4
      have hL : (cs.map V.ref).length = (rawL n).length := by rw [List.length_map, Paired.length hp2]
      have hL2 := (raw_len n m4).1
      have sH2 : Same H H2 := fun b o e => k2 _ _ (s1 _ _ (Same.new nc _ _ e)) (ne_of_none e nc)
      refine ⟨(by show 1 ≤ sizeLine; decide), fun u nu => ?_⟩
      refine ⟨_, rfl, c, _, rfl, .inl (SqL.of ((Same.new nu) _ _ hc2)), ?_⟩
      rw [hL]
      refine ⟨u, _, [V.non], rfl, rfl, upd_same, (by omega), (by omega), (by show 1 * (((rawL n).length : Int)).toNat ≤ sizeLine; rw [Nat.one_mul, Int.toNat_natCast]; exact Nat.le_of_lt (line1000 (by omega))), fun x nx => ?_⟩
      rw [Int.toNat_natCast, repl_flat]
      have nx2 : H2 x = none := (Same.new nu).free nx
      have xc : x ≠ c := fun z => by
        rw [z, hc2] at nx2
        cases nx2
      have s3 : Same H2 (upd (upd H2 u (.lst [V.non])) x (.lst (List.replicate (rawL n).length V.non))) := (Same.new nu).set nx2
      have hx3 : (upd (upd H2 u (.lst [V.non])) x (.lst (List.replicate (rawL n).length V.non))) x = some (.lst (List.replicate (rawL n).length V.non)) := upd_same
      generalize upd (upd H2 u (.lst [V.non])) x (.lst (List.replicate (rawL n).length V.non)) = H3 at *
      have hc3 := s3 _ _ hc2
      refine ⟨_, rfl, c, rfl, ⟨_, SqL.of hc3⟩, fun D nD => lc_list (K := K) (a := c) (xs := cs.map V.ref) (fun i H4 => Same H3 H4 ∧ H4 D = some (.lst ((((rawL n).take i).map (numI n)).map V.int)))
        ⟨Same.new nD, upd_same⟩ (fun i H4 _ z => SqL.of (z.1 _ _ hc3)) ?_ ?_⟩
      · rintro i y H4 hi ⟨s4, hD⟩
        rw [List.getElem?_map] at hi
        obtain ⟨a, ha, rfl⟩ := Option.map_eq_some_iff.mp hi
        obtain ⟨d, hd, hl⟩ := paired_at hp2 ha
        obtain ⟨⟨t, k, _, _, h1, _⟩, _⟩ := hl
        refine ⟨rfl, _, rfl, a, _, _, _, rfl, rfl, SqT.of (s4 _ _ (s3 _ _ h1)), rfl, _, hD, ?_, s4.set nD, ?_⟩
        · rw [List.length_map, List.length_map]
          exact line1000 (Nat.le_trans (List.length_take_le' _ _) (by omega))
        · rw [upd_same, List.take_add_one, hd, List.map_append (f := numI n), List.map_append (f := V.int)]
          rfl
      rintro H4 ⟨s4, hD⟩
      rw [hL, List.take_of_length_le (Nat.le_refl _)] at hD
      refine ⟨D, _, rfl, SqL.of hD, fun ns y pm so ny => ?_⟩
      obtain rfl := sorted_nums m4 pm so
      have s5 : Same H4 (upd H4 y (.lst (((ordered n).map (numI n)).map V.int))) := Same.new ny
      intro pd npd
      have npd4 : H4 pd = none := s5.free npd
      have ypd : y ≠ pd := ne_of_none upd_same npd
      have s6 := s5.trans (Same.new (o := .dK []) npd)
      have hy6 : (upd (upd H4 y (.lst (((ordered n).map (numI n)).map V.int))) pd (.dK [])) y = some (.lst (((ordered n).map (numI n)).map V.int)) := by rw [upd_ne ypd]; exact upd_same
      have hp6 : (upd (upd H4 y (.lst (((ordered n).map (numI n)).map V.int))) pd (.dK [])) pd = some (.dK []) := upd_same
      generalize upd (upd H4 y (.lst (((ordered n).map (numI n)).map V.int))) pd (.dK []) = H6 at *
      have hOl := ordered_len m4
      refine ⟨_, rfl, y, _, rfl, .inl (SqL.of hy6), _, rfl, (by rw [List.length_map, List.length_map]; omega), (by rw [List.length_map, List.length_map]; omega), ?_⟩
      rw [List.length_map, List.length_map]
      refine for_range (lo := 0) (n := _) (fun i σ H7 => ∃ (v4 : Option V) (kvs : List (Key × V)), σ = [some (.int (n : Int)), some (.ref c), v2, v3, v4, v5, v6, some (.ref x), none, some (.ref y), some (.ref pd)] ∧ Keep pd H6 H7 ∧ H7 pd = some (.dK kvs) ∧ kvs.length ≤ i ∧
          ∀ (j : Nat) (d : Ch), j < i → (ordered n)[j]? = some d → valV kvs (.inl (numI n d)) = some (.int (j : Int)))
        ⟨v4, [], rfl, Keep.of (Same.refl _), hp6, Nat.le_refl _, fun j d hj _ => absurd hj (Nat.not_lt_zero _)⟩ ?_ ?_
      · rintro i σ H7 hi ⟨v4, kvs, rfl, k7, hd7, hl7, hv7⟩
        rw [Int.toNat_natCast] at hi
        rw [Int.zero_add]
        obtain ⟨d, hd⟩ : ∃ d, (ordered n)[i]? = some d := ⟨_, List.getElem?_eq_getElem hi⟩
        refine ⟨_, rfl, _, rfl, _, rfl, _, rfl, y, _, _, _, rfl, rfl, SqL.of (k7 _ _ hy6 ypd), atI_nat (v := V.int (numI n d)) (by rw [List.getElem?_map, List.getElem?_map, hd]; rfl), ?_⟩
        refine ⟨pd, _, rfl, DPut.k (k := .inl (numI n d)) hd7 (by have := line1000 (n := kvs.length) (by omega); exact this), ?_⟩
        refine ⟨_, putK kvs (.inl (numI n d)) (.int (i : Int)), rfl, k7.upd_, upd_same, Nat.le_trans (putK_le _ _ _) (by omega), fun j e hj he => ?_⟩
        rw [valV_put]
        by_cases z : numI n e = numI n d
        · rw [if_pos (by rw [z]), at_num m4 he hd z]
        · rw [if_neg (fun q => z (Sum.inl.inj q))]
          refine hv7 j e ?_ he
          rcases Nat.lt_or_ge j i with q | q
          · exact q
          · have : j = i := by omega
            subst this
            rw [hd] at he
            exact absurd (by rw [Option.some.inj he]) z
      · rintro σ H7 ⟨v4, kvs, rfl, k7, hd7, hl7, hv7⟩
        rw [Int.toNat_natCast] at hv7
        have s37 : Same H3 H7 := fun b o e => k7 _ _ (s6 _ _ (s4 _ _ e)) (ne_of_none (s4 _ _ e) npd4)
        have hc7 := s37 _ _ hc3
        have hx7 := s37 _ _ hx3
        have s27 := s3.trans s37
        have xpd : pd ≠ x := fun z => by
          rw [z, hx7] at hd7
          cases hd7
        refine ⟨_, rfl, c, rfl, ⟨_, SqL.of hc7⟩, ?_⟩
        refine for_list (K := K) (a := c) (xs := cs.map V.ref) (fun i σ H8 => ∃ (v8 : Option V) (xs : List V), σ = [some (.int (n : Int)), some (.ref c), v2, v3, v4, v5, v6, some (.ref x), v8, some (.ref y), some (.ref pd)] ∧ Keep x H7 H8 ∧ H8 x = some (.lst xs) ∧ xs.length = (ordered n).length ∧
            ∀ (j : Nat) (d : Ch), (ordered n)[j]? = some d → d ∈ (rawL n).take i → ∃ a, xs[j]? = some (.ref a) ∧ LC n H2 a d)
          ⟨none, _, rfl, Keep.of (Same.refl _), hx7, by rw [List.length_replicate, hOl], fun j d _ hd => by rw [List.take_zero] at hd; exact absurd hd (List.not_mem_nil)⟩ (fun i σ H8 _ ⟨_, _, _, k, _⟩ => SqL.of (k _ _ hc7 (Ne.symm xc))) ?_ ?_
        · rintro i z σ8 H8 hi ⟨v8, xs, rfl, k8, hx8, lx, hv8⟩
          rw [List.getElem?_map] at hi
          obtain ⟨a, ha, rfl⟩ := Option.map_eq_some_iff.mp hi
          obtain ⟨d, hd, hl⟩ := paired_at hp2 ha
          obtain ⟨j0, hj0⟩ := ordered_mem m4 (List.mem_of_getElem? hd)
          have hlc := hl.lc
          obtain ⟨⟨t, k, _, _, h1, _⟩, _⟩ := hl
          have h8 := k8 _ _ (s27 _ _ h1) (ne_of (s27 _ _ h1) hx7 (fun z => by cases z))
          have d8 := k8 _ _ hd7 xpd
          have jl : j0 < (ordered n).length := (List.getElem?_eq_some_iff.mp hj0).1
          have dg : DGet H8 pd (.int (numI n d)) (some (.int (j0 : Int))) := by
            have q := DGet.k (k := .inl (numI n d)) d8
            rw [hv7 j0 d jl hj0] at q
            exact q
          refine ⟨_, rfl, _, rfl, _, rfl, _, rfl, a, _, _, _, rfl, rfl, SqT.of h8, rfl, pd, _, rfl, dg, x, _, _, j0, rfl, rfl, hx8, ix_of (by rw [lx]; exact jl), ?_⟩
          refine ⟨_, _, rfl, k8.upd_, upd_same, by rw [List.length_set]; exact lx, fun j e he hm => ?_⟩
          by_cases hjj : j = j0
          · subst hjj
            rw [hj0] at he
            obtain rfl := Option.some.inj he
            exact ⟨a, by rw [List.getElem?_set_self (by rw [lx]; exact jl)], hlc⟩
          · rw [List.getElem?_set_ne (fun q => hjj q.symm)]
            refine hv8 j e he ?_
            rw [List.take_add_one, hd] at hm
            rcases List.mem_append.mp hm with q | q
            · exact q
            · have : e = d := by simpa using q
              subst this
              exact absurd (at_num m4 he hj0 rfl) hjj
        · rintro σ H8 ⟨v8, xs, rfl, k8, hx8, lx, hv8⟩
          rw [hL, List.take_of_length_le (Nat.le_refl _)] at hv8
          obtain ⟨as', e1, pr⟩ := filled (R := LC n H2) lx fun j d hj => hv8 j d hj ((ordered_perm m4).mem_iff.mp (List.mem_of_getElem? hj))
          have s28 : Same H2 H8 := fun b o e => k8 _ _ (s27 _ _ e) (ne_of_none e nx2)
          refine ⟨_, rfl, kq _ x as' (sH2.trans s28) (sH2.free nx2) (by rw [hx8, e1]) (paired_mono pr fun a c h => h.mono s28)⟩
end
end K38

namespace K38
open PySem L2
/-! ### _law_remaining -/
/-- what isinstance(o, C) looks at in the class C, o an instance of it -/
structure IsF (K : PySem.W.Frag) (C : Addr) : Prop where mk_ ::
  (ha : PySem.W.findIn K (.ref C) "__class__" = some (some (.builtin "object.__class__"))) (hn : PySem.W.specialIn K (.builtin "object.__class__") "__get__" = some (some (.builtin "getset_descriptor.__get__")))
  (htk : PySem.W.takesIn K (.builtin "object.__class__") = some true) (hm : PySem.W.mroIn K C (.type "object") = some true) (me : PySem.W.kitOne K (.ref C) (.ref C) = some true)
def spLRem (F C : Addr) : Sp := fun vs H Q _ => ∃ (x r l : Addr) (n : Nat) (as ls : List Addr) (cs : List Ch), vs = [.ref x, .ref l] ∧ HidAt C H x n r ∧ H r = some (.lst (as.map V.ref)) ∧ Paired (FC F n H) as cs ∧ H l = some (.lst (ls.map V.ref)) ∧ Paired (LC n H) ls cs ∧ 1 ≤ n ∧ n ≤ 4 ∧ 1 ≤ cs.length ∧ cs.length ≤ 384 ∧
  ∀ H', Same H H' → Q (.bl true) H'
abbrev nLRem : List Str := ["_law_hider", "_law_chains_here", "_law_other", "_law_told", "_law_k"]
theorem scLRem : FnScope nLRem ["_law_hider", "_law_chains_here"] (defScope sLRem) := ⟨rfl, rfl, rfl, by decide +kernel, rfl, by decide +kernel, by decide +kernel⟩
section
variable {P : Program} {w : World} {K : PySem.W.Frag} {mg : Str → Option Value} {base : Heap}
theorem b_lRem (T : Defs K mg) : Binds K T.dLRem ["_law_hider", "_law_chains_here"] [] := T.FLRem.binds fun _ _ _ _ _ _ us hl => match us, hl with | [_, _], _ => rfl
theorem ok_lRem (T : Defs K mg) (iF : IsF K T.cFor) : FnG P w K mg base CX0 3 T.fLRem (spLRem T.cFor T.cHid) := by
  have GR := ok_hidRem (P := P) (w := w) (base := base) T
  have GP := ok_forPath (P := P) (w := w) (base := base) T
  refine gOk T.FLRem scLRem (b_lRem T) (fun vs H Q E h => ?_) (fun cdv A outer s H vs Q E hg hr h => ?_)
  · obtain ⟨x, r, l, n, as, ls, cs, rfl, _⟩ := h
    rfl
  · obtain ⟨x, r, l, n, as, ls, cs, rfl, hx, hr0, hp, hl0, hq, h1, h4, c1, c384, kq⟩ := h
    have hr1 : Room 1 _ := hr.mono (by decide)
    refine ⟨_, pss_cons (ps_set (i := 2) scLRem.nd rfl (Or.inl rfl) (pe_meth0 (pv 0) T.kHid T.MHidRem GR hr1 (b_hidRem T) .nil pass0))
      (pss_cons (ps_set (i := 3) scLRem.nd rfl (Or.inl rfl) (pe_meth0 (pv 0) T.kHid T.MHidRem GR hr1 (b_hidRem T) .nil pass0))
      (pss_cons (ps_if (PW.pt (pw_or (pt_not (pt_val (pe_callB call_isi rfl T.b_isinstance (by decide +kernel) (pa_cons (pv 3) (pa_cons (pe_bltn (v := .ty "list") rfl T.b_list (by decide +kernel) rfl) pa_nil))))) (pw_or1 (pt_cmpR op_ne (pe_callB call_len_seq rfl T.b_len PySem.boot_len (pa_cons (pv 3) pa_nil)) (pe_callB call_len_seq rfl T.b_len PySem.boot_len (pa_cons (pv 1) pa_nil)) (nomark _)))))
        (pss_one (ps_ret pe_bl)) pss_nil)
      (pss_cons (ps_if (PW.pt (pw_or (pt_not (pt_val (pe_callB call_isi rfl T.b_isinstance (by decide +kernel) (pa_cons (pe_ix ix_list (pv 3) pe_int (fun _ _ => rfl)) (pa_cons (pe_glob (v := .ref T.cFor) rfl T.mFor rfl) pa_nil))))) (pw_or1 (pt_cmpR (op_neD (room64 hr)) (pe_meth (pe_ix ix_list (pv 3) pe_int (fun _ _ => rfl)) T.kFor T.MForPath GP hr (b_forPath T) .nil pass0 (pa_cons (pe_ix ix_list (pe_ix ix_tup (pe_ix ix_list (pv 1) pe_int (fun _ _ => rfl)) pe_int (fun _ _ => rfl)) (pe_un un_neg pe_int) (fun _ _ => rfl)) pa_nil))
          (pe_callTy call_tuple_of rfl T.b_tuple (by decide +kernel) (pa_cons (pe_ix ix_tup (pe_ix ix_list (pv 1) pe_int (fun _ _ => rfl)) pe_int (fun _ _ => rfl)) pa_nil)) (nomark _)))))
        (pss_one (ps_ret pe_bl)) pss_nil)
      (pss_cons (ps_expr (pe_bm PySem.F.plainAttrs_list PySem.F.slot_list_pop PySem.F.type_list_pop mt_popAt (pv 3) (pa_cons pe_int pa_nil)))
      (pss_cons (ps_expr (pe_bm PySem.F.plainAttrs_list PySem.F.slot_list_append PySem.F.type_list_append mt_append (pv 3) (pa_cons pe_non pa_nil)))
      (pss_cons (ps_if (PW.pt (pw_or (pt_not (pt_val (pe_callB call_isi rfl T.b_isinstance (by decide +kernel) (pa_cons (pv 2) (pa_cons (pe_bltn (v := .ty "list") rfl T.b_list (by decide +kernel) rfl) pa_nil))))) (pw_or1 (pt_cmpR op_ne (pe_callB call_len_seq rfl T.b_len PySem.boot_len (pa_cons (pv 2) pa_nil)) (pe_callB call_len_seq rfl T.b_len PySem.boot_len (pa_cons (pv 1) pa_nil)) (nomark _)))))
        (pss_one (ps_ret pe_bl)) pss_nil)
      (pss_cons (ps_for PassesOwn.never rfl (pi_range1 rfl T.b_range (pa_cons (pe_callB call_len_seq rfl T.b_len PySem.boot_len (pa_cons (pv 1) pa_nil)) pa_nil)) (pg_name (i := 4) scLRem.nd rfl (Or.inl rfl))
        (pss_one (ps_if (pt_cmpR op_ne (pe_callB (call_reprD hg (room20 hr)) rfl T.b_repr (by decide +kernel) (pa_cons (pe_tup (pa_cons (pe_fld (pe_ix ix_list (pv 2) (pv 4) (fun _ _ => rfl)) rfl) (pa_cons (pe_fld (pe_ix ix_list (pv 2) (pv 4) (fun _ _ => rfl)) rfl) (pa_cons (pe_fld (pe_ix ix_list (pv 2) (pv 4) (fun _ _ => rfl)) rfl) pa_nil)))) pa_nil))
            (pe_ix ix_tup (pe_ix ix_list (pv 1) (pv 4) (fun _ _ => rfl)) pe_int (fun _ _ => rfl)) (nomark _))
          (pss_one (ps_ret pe_bl)) pss_nil)))
      (pss_one (ps_ret pe_bl))))))))), ?_⟩
    obtain ⟨dx, hx0⟩ := id hx
    have hL : (as.map V.ref).length = cs.length := by rw [List.length_map, Paired.length hp]
    have hL2 : (ls.map V.ref).length = cs.length := by rw [List.length_map, Paired.length hq]
    refine ⟨_, rfl, x, dx, _, rfl, hx0, lh_none (by decide +kernel) (by decide +kernel), x, n, r, _, rfl, hx, hr0, fun p1 n1 => ?_⟩
    have s1 : Same H (upd H p1 (.lst (as.map V.ref))) := Same.new n1
    refine ⟨_, rfl, x, dx, _, rfl, s1 _ _ hx0, lh_none (by decide +kernel) (by decide +kernel), x, n, r, _, rfl, hx.same s1, s1 _ _ hr0, fun p2 n2 => ?_⟩
    have s2 : Same H (upd (upd H p1 (.lst (as.map V.ref))) p2 (.lst (as.map V.ref))) := s1.trans (Same.new n2)
    have h1p : (upd (upd H p1 (.lst (as.map V.ref))) p2 (.lst (as.map V.ref))) p1 = some (.lst (as.map V.ref)) := (Same.new n2) _ _ upd_same
    have h2p : (upd (upd H p1 (.lst (as.map V.ref))) p2 (.lst (as.map V.ref))) p2 = some (.lst (as.map V.ref)) := upd_same
    have ne12 : p1 ≠ p2 := ne_of_none upd_same n2
    have np2 : H p2 = none := s1.free n2
    generalize upd (upd H p1 (.lst (as.map V.ref))) p2 (.lst (as.map V.ref)) = H2 at *
    have ty : PySem.W.kitOne K (.type "list") (.type "list") = some true := kit_ty (by decide +kernel)
    refine ⟨_, rfl, _, _, _, _, true, rfl, .ty "list", .base (.lst h2p), ty, _, rfl, ?_⟩
    refine ifF rfl ⟨_, rfl, p2, _, rfl, .inl (SqL.of h2p), _, rfl, l, _, rfl, .inl (SqL.of (s2 _ _ hl0)), rfl, _, rfl, ?_⟩
    have same_len : (!decide (V.int ((as.map V.ref).length : Int) = V.int ((ls.map V.ref).length : Int))) = false := by rw [hL, hL2]; simp
    refine ifF same_len ?_
    -- the first chain
    obtain ⟨c, cs', rfl⟩ : ∃ c cs', cs = c :: cs' := by
      cases cs with
      | nil => exact absurd c1 (by decide)
      | cons c cs' => exact ⟨c, cs', rfl⟩
    obtain ⟨a, as', rfl, fa⟩ : ∃ a as', as = a :: as' ∧ FC T.cFor n H a c := by
      cases hp with
      | cons r t => exact ⟨_, _, rfl, r⟩
    obtain ⟨b, ls', rfl, lb⟩ : ∃ b ls', ls = b :: ls' ∧ LC n H b c := by
      cases hq with
      | cons r t => exact ⟨_, _, rfl, r⟩
    have a0 : ∀ {α : Type} {u : α} {l : List α}, atI (u :: l) 0 = some u := fun {α u l} => by
      have := atI_nat (xs := u :: l) (j := 0) (v := u) rfl
      exact this
    have fa2 := fa.mono s2
    have lb2 := lb.mono s2
    obtain ⟨⟨df, pf, qf, f1, f2, f3⟩, g, kl⟩ := id fa2
    obtain ⟨⟨t, k, b1, b2, b3⟩, _⟩ := id lb2
    have hl2 := s2 _ _ hl0
    refine ⟨_, rfl, p2, _, _, _, rfl, rfl, SqL.of h2p, a0, _, _, _, _, true, rfl, .own T.cFor, .base (.ins f1 T.kFor iF.ha iF.hn iF.htk iF.hm), iF.me, _, rfl, ?_⟩
    have z1 : atI [V.int (numI n c), V.ref t, V.ref k, V.str (textOf n c)] 1 = some (V.ref t) := rfl
    have z3 : atI [V.int (numI n c), V.ref t, V.ref k, V.str (textOf n c)] 3 = some (V.str (textOf n c)) := rfl
    have lst : atI (nums c.1) (-1) = some (.int ((c.1.getD (n - 1) 0 : Nat) : Int)) := last_of (getLast_map (f := iV) (by
      rw [List.getLast?_eq_getElem?, g.len, List.getD_eq_getElem?_getD, List.getElem?_eq_getElem (by rw [g.len]; omega)]
      rfl))
    refine ifF rfl ⟨_, rfl, p2, _, _, _, rfl, rfl, SqL.of h2p, a0, a, df, _, rfl, f1, lk_path, _, rfl, l, _, _, _, rfl, rfl, SqL.of hl2, a0, b, _, _, _, rfl, rfl, SqT.of b1, z1, _, rfl, t, _, _, _, rfl, rfl, SqL.of b2, lst, a, n, n - 1, c, rfl, ⟨df, pf, qf, f1, f2, f3⟩, g, by omega, by omega, fun H3 u s3 nu hu => ?_⟩
    have tk : c.1.take (n - 1 + 1) = c.1 := List.take_of_length_le (by rw [g.len]; omega)
    rw [tk] at hu
    have s23 := s2.trans s3
    refine ⟨_, rfl, l, _, _, _, rfl, rfl, SqL.of (s3 _ _ hl2), a0, b, _, _, _, rfl, rfl, SqT.of (s3 _ _ b1), z1, t, _, rfl, .inl ⟨SqL.of (s3 _ _ b2), fun v nv => ?_⟩⟩
    have s4 : Same H3 (upd H3 v (.tup (nums c.1))) := Same.new nv
    have hd : ∀ {H : Hp} {a : Addr}, H a = some (.tup (nums c.1)) → Dp K H (.ref a) (recD (c.1.map fun k : Nat => (k : Int))) := fun {H a} h => rec_dp (SqT.of (by rw [h, nums_int]))
    refine ⟨_, _, hd (s4 _ _ hu), hd upd_same, shaped_rec _, shaped_rec _, _, rfl, ?_⟩
    refine ifF (by rw [eqv_rec]; simp) ?_
    have s34 := s3.trans s4
    have s24 := s2.trans s34
    have h2p4 := s34 _ _ h2p
    generalize upd H3 v (.tup (nums c.1)) = H4 at *
    obtain ⟨j, j1, j2, _⟩ := atI_get (xs := (a :: as').map V.ref) (i := 0) (v := V.ref a) a0
    refine ⟨_, rfl, .inl ⟨rfl, _, SqL.of h2p4⟩, p2, _, _, j, _, rfl, rfl, h2p4, by decide, by decide, j1, j2, ?_⟩
    refine ⟨_, rfl, .inl ⟨rfl, _, SqL.of upd_same⟩, p2, _, _, rfl, rfl, upd_same, Nat.lt_of_le_of_lt (List.length_eraseIdx_le _ _) (line1000 (by rw [hL]; omega)), ?_⟩
    have s6 : Same H (upd (upd H4 p2 (.lst (((a :: as').map V.ref).eraseIdx j))) p2 (.lst (((a :: as').map V.ref).eraseIdx j ++ [V.non]))) := (s24.set np2).set np2
    have hp16 : (upd (upd H4 p2 (.lst (((a :: as').map V.ref).eraseIdx j))) p2 (.lst (((a :: as').map V.ref).eraseIdx j ++ [V.non]))) p1 = some (.lst ((a :: as').map V.ref)) := by
      rw [upd_ne ne12, upd_ne ne12]
      exact s34 _ _ h1p
    generalize upd (upd H4 p2 (.lst (((a :: as').map V.ref).eraseIdx j))) p2 (.lst (((a :: as').map V.ref).eraseIdx j ++ [V.non])) = H6 at *
    refine ⟨_, rfl, _, _, _, _, true, rfl, .ty "list", .base (.lst hp16), ty, _, rfl, ?_⟩
    refine ifF rfl ⟨_, rfl, p1, _, rfl, .inl (SqL.of hp16), _, rfl, l, _, rfl, .inl (SqL.of (s6 _ _ hl0)), rfl, _, rfl, ?_⟩
    refine ifF same_len ?_
    refine ⟨_, rfl, l, _, rfl, .inl (SqL.of (s6 _ _ hl0)), _, rfl, (by omega), (by omega), ?_⟩
    generalize a :: as' = as at *
    generalize b :: ls' = ls at *
    generalize c :: cs' = cs at *
    refine for_range (lo := 0) (n := _) (fun i σ H7 => ∃ v4 : Option V, σ = [some (.ref x), some (.ref l), some (.ref p1), some (.ref p2), v4] ∧ Same H H7 ∧ H7 p1 = some (.lst (as.map V.ref)))
      ⟨none, rfl, s6, hp16⟩ ?_ ?_
    · rintro i σ H7 hi ⟨v4, rfl, s7, hp17⟩
      rw [Int.toNat_natCast, hL2] at hi
      rw [Int.zero_add]
      obtain ⟨ai, hai⟩ : ∃ e, as[i]? = some e := ⟨_, List.getElem?_eq_getElem (by rw [List.length_map] at hL; omega)⟩
      obtain ⟨bi, hbi⟩ : ∃ e, ls[i]? = some e := ⟨_, List.getElem?_eq_getElem (by rw [List.length_map] at hL2; omega)⟩
      obtain ⟨ci, hci, fci⟩ := paired_at hp hai
      obtain ⟨ci', hci', lci⟩ := paired_at hq hbi
      rw [hci] at hci'
      obtain rfl := Option.some.inj hci'
      obtain ⟨⟨di, pi, qi, e1, e2, e3⟩, gi, kli⟩ := fci.mono s7
      obtain ⟨⟨ti, ki, b1, b2, b3⟩, _⟩ := lci.mono s7
      have ai7 : atI (as.map V.ref) (i : Int) = some (.ref ai) := atI_nat (by rw [List.getElem?_map, hai]; rfl)
      have bi7 : atI (ls.map V.ref) (i : Int) = some (.ref bi) := atI_nat (by rw [List.getElem?_map, hbi]; rfl)
      have w3 : atI [V.int (numI n ci), V.ref ti, V.ref ki, V.str (textOf n ci)] 3 = some (V.str (textOf n ci)) := rfl
      refine ⟨_, rfl, _, rfl, p1, _, _, _, rfl, rfl, SqL.of hp17, ai7, ai, T.cFor, di, _, _, rfl, e1, T.kFor, T.nFor_fields, lk_fields, ?_⟩
      refine ⟨_, rfl, _, rfl, p1, _, _, _, rfl, rfl, SqL.of hp17, ai7, ai, T.cFor, di, _, _, rfl, e1, T.kFor, T.nFor_parents, lk_parents, ?_⟩
      refine ⟨_, rfl, _, rfl, p1, _, _, _, rfl, rfl, SqL.of hp17, ai7, ai, T.cFor, di, _, _, rfl, e1, T.kFor, T.nFor_kinds, lk_kinds, ?_⟩
      refine ⟨(by show 3 ≤ sizeLine; decide), fun u nu => ?_⟩
      have s8 : Same H7 (upd H7 u (.tup [.int (n : Int), .ref pi, .ref qi])) := Same.new nu
      have sw : Shw (chD n (pars n ci.1) ci.2) 5000 := shw_ch h4 gi.plen kli fun k hk => by
        have := pars_lt gi hk
        omega
      refine ⟨u, chD n (pars n ci.1) ci.2, rfl, ch_dp (SqT.of upd_same) (SqT.of (s8 _ _ e2)) (SqT.of (s8 _ _ e3)), sw.sh, sw.nd, by rw [depth_ch]; decide, sw.fits (Nat.le_refl _), ?_⟩
      refine ⟨_, rfl, _, rfl, l, _, _, _, rfl, rfl, SqL.of (s8 _ _ (s7 _ _ hl0)), bi7, bi, _, _, _, rfl, rfl, SqT.of (s8 _ _ b1), w3, rfl, _, rfl, ?_⟩
      refine ifF (by unfold textOf; simp) ⟨_, rfl, s7.trans s8, s8 _ _ hp17⟩
    · rintro σ H7 ⟨v4, rfl, s7, hp17⟩
      exact kq _ s7
end
end K38

namespace K38
open PySem L2
/-! ### _law_reply -/
def sInt (b : Bool) : Int := if b then 1 else 0
theorem sInt_eq (a b : Bool) : decide (V.int (sInt a) = V.int (sInt b)) = (a == b) := by cases a <;> cases b <;> decide
theorem cnt_ints (cs : List Ch) (xs ys : List Int) : (cs.map fun c => sInt (side c xs ys)).count 0 = cntF cs xs ys := by
  unfold cntF
  rw [List.count_eq_countP, List.count_eq_countP, List.countP_map, List.countP_map]
  congr 1
  funext c
  show (sInt (side c xs ys) == 0) = (side c xs ys == false)
  cases side c xs ys <;> rfl
def spLReply (F C : Addr) : Sp := fun vs H Q _ => ∃ (x r l p a b : Addr) (n : Nat) (as ls : List Addr) (cs : List Ch) (xs ys : List Int), vs = [.ref x, .ref l, .ref p] ∧ HidAt C H x n r ∧ H r = some (.lst (as.map V.ref)) ∧ Paired (FC F n H) as cs ∧ H l = some (.lst (ls.map V.ref)) ∧ Paired (LC n H) ls cs ∧ PairAt n H p a b xs ys ∧ 1 ≤ n ∧ n ≤ 4 ∧ cs.length ≤ 384 ∧
  ∀ H' r' as' l' ls', Keep x H H' → HidAt C H' x n r' → H' r' = some (.lst (as'.map V.ref)) → Paired (FC F n H') as' (keptC cs xs ys) → H' l' = some (.lst (ls'.map V.ref)) → Paired (LC n H') ls' (keptC cs xs ys) → Q (.ref l') H'
abbrev nLReply : List Str := ["_law_hider", "_law_chains_here", "_law_pair", "_law_sides", "_law_side", "_law_chain", "_law_k"]
theorem scLReply : FnScope nLReply ["_law_hider", "_law_chains_here", "_law_pair"] (defScope sLReply) := ⟨rfl, rfl, rfl, by decide +kernel, rfl, by decide +kernel, by decide +kernel⟩
section
variable {P : Program} {w : World} {K : PySem.W.Frag} {mg : Str → Option Value} {base : Heap}
theorem b_lReply (T : Defs K mg) : Binds K T.dLReply ["_law_hider", "_law_chains_here", "_law_pair"] [] := T.FLReply.binds fun _ _ _ _ _ _ us hl => match us, hl with | [_, _, _], _ => rfl
theorem ok_lReply (T : Defs K mg) : FnG P w K mg base CX0 5 T.fLReply (spLReply T.cFor T.cHid) := by
  have GS := ok_lSide (P := P) (w := w) (base := base) T
  have GR := ok_reply (P := P) (w := w) (base := base) T
  refine gOk T.FLReply scLReply (b_lReply T) (fun vs H Q E h => ?_) (fun cdv A outer s H vs Q E hg hr h => ?_)
  · obtain ⟨x, r, l, p, a, b, n, as, ls, cs, xs, ys, rfl, _⟩ := h
    rfl
  · obtain ⟨x, r, l, p, a, b, n, as, ls, cs, xs, ys, rfl, hx, hr0, hp, hl0, hq, hpair, h1, h4, c384, kq⟩ := h
    have hr1 : Room 1 _ := hr.mono (by decide)
    refine ⟨_, pss_cons (ps_set (i := 3) scLReply.nd rfl (Or.inr rfl) (pe_lc (own := [("_law_chain", 5)]) (g := gName 5) (tt := tYes) (te := tCall (spLSide K) [] E0 (tCons (tVar 5) (tCons (tOp (rIxT K) (tVar 2) (tC (.int 0))) (tCons (tOp (rIxT K) (tVar 2) (tC (.int 1))) tNil)))) rfl scLReply.nd (pi_list (pv 1)) (blkOk_by (N := nLReply) (sc := defScope sLReply) (by decide +kernel))
        (fun _ _ _ _ _ => pg_name (i := 5) scLReply.nd rfl (Or.inl rfl)) (fun _ _ _ _ _ => pts_nil) (fun _ _ _ _ _ => pe_call GS hr1 rfl T.mLSide T.FLSide.kp (b_lSide T) .nil pass0 (pa_cons (pv 5) (pa_cons (pe_ix ix_tup (pv 2) pe_int (fun _ _ => rfl)) (pa_cons (pe_ix ix_tup (pv 2) pe_int (fun _ _ => rfl)) pa_nil))))))
      (pss_cons (ps_set (i := 4) scLReply.nd rfl (Or.inr rfl) (pe_callTy call_int1 rfl T.b_int (by decide +kernel) (pa_cons (pe_cmpR op_lt (pe_op op_mul pe_int (pe_bm PySem.F.plainAttrs_list PySem.F.slot_list_count PySem.F.type_list_count mt_lcount (pv 3) (pa_cons pe_int pa_nil))) (pe_callB call_len_seq rfl T.b_len PySem.boot_len (pa_cons (pv 3) pa_nil)) (nomark _)) pa_nil)))
      (pss_cons (ps_if (pt_cmpR op_ne (pe_callB (call_reprD hg (room20 hr)) rfl T.b_repr (by decide +kernel) (pa_cons (pe_meth (pv 0) T.kHid T.MHidReply GR hr (b_reply T) .nil pass0 (pa_cons (pe_ix ix_tup (pv 2) pe_int (fun _ _ => rfl)) (pa_cons (pe_ix ix_tup (pv 2) pe_int (fun _ _ => rfl)) pa_nil))) pa_nil))
          (pe_callB (call_reprD hg (room20 hr)) rfl T.b_repr (by decide +kernel) (pa_cons (pe_ix ix_tup (pv 2) (pv 4) (fun _ _ => rfl)) pa_nil)) (nomark _))
        (pss_one (ps_ret pe_non)) pss_nil)
      (pss_one (ps_ret (pe_lc (own := [("_law_k", 6)]) (g := gName 6) (tt := tTest (tOp rEq (tOp (rIxL K) (tVar 3) (tVar 6)) (tVar 4))) (te := tOp (rIxL K) (tVar 1) (tVar 6)) rfl scLReply.nd (pi_range1 rfl T.b_range (pa_cons (pe_callB call_len_seq rfl T.b_len PySem.boot_len (pa_cons (pv 1) pa_nil)) pa_nil)) (blkOk_by (N := nLReply) (sc := defScope sLReply) (by decide +kernel))
        (fun _ _ _ _ _ => pg_name (i := 6) scLReply.nd rfl (Or.inl rfl)) (fun _ _ _ _ _ => pts_one (pt_cmpR op_eq (pe_ix ix_list (pv 3) (pv 6) (fun _ _ => rfl)) (pv 4) (nomark _))) (fun _ _ _ _ _ => pe_ix ix_list (pv 1) (pv 6) (fun _ _ => rfl))))))), ?_⟩
    obtain ⟨p1, p2, p3, lx, ly, sx, sy⟩ := id hpair
    have hL2 : (ls.map V.ref).length = cs.length := by rw [List.length_map, Paired.length hq]
    have b0 : atI [V.ref a, V.ref b] 0 = some (V.ref a) := rfl
    have b1 : atI [V.ref a, V.ref b] 1 = some (V.ref b) := rfl
    refine ⟨_, rfl, l, rfl, ⟨_, SqL.of hl0⟩, fun D nD => lc_list (K := K) (a := l) (xs := ls.map V.ref) (fun i H1 => Same H H1 ∧ H1 D = some (.lst (((cs.take i).map fun c => sInt (side c xs ys)).map V.int)))
      ⟨Same.new nD, upd_same⟩ (fun i H1 _ z => SqL.of (z.1 _ _ hl0)) ?_ ?_⟩
    · rintro i v H1 hi ⟨s1, hD⟩
      rw [List.getElem?_map] at hi
      obtain ⟨f, hf, rfl⟩ := Option.map_eq_some_iff.mp hi
      obtain ⟨c, hcc, lc⟩ := paired_at hq hf
      obtain ⟨⟨t, k, e1, e2, e3⟩, g, kl⟩ := lc.mono s1
      refine ⟨rfl, _, rfl, _, rfl, p, _, _, _, rfl, rfl, SqT.of (s1 _ _ p1), b0, _, rfl, p, _, _, _, rfl, rfl, SqT.of (s1 _ _ p1), b1, f, a, b, t, k, _, _, n, c, xs, ys, rfl, SqT.of e1, SqL.of e2, SqL.of e3, SqT.of (s1 _ _ p2), SqT.of (s1 _ _ p3), g.lt, kl, lx, ly, ?_⟩
      refine ⟨_, hD, ?_, s1.set nD, ?_⟩
      · rw [List.length_map, List.length_map]
        exact line1000 (Nat.le_trans (List.length_take_le' _ _) (by omega))
      · rw [upd_same, List.take_add_one, hcc, List.map_append (f := fun c => sInt (side c xs ys)), List.map_append (f := V.int)]
        rfl
    rintro H1 ⟨s1, hD⟩
    rw [hL2, List.take_of_length_le (Nat.le_refl _)] at hD
    have hcnt := cnt_le cs xs ys
    have hsl : ((cs.map fun c => sInt (side c xs ys)).map V.int).length = cs.length := by rw [List.length_map, List.length_map]
    refine ⟨_, rfl, .inl ⟨rfl, _, SqL.of hD⟩, D, _, 0, rfl, rfl, SqL.of hD, ?_⟩
    rw [cnt_ints]
    refine ⟨_, _, rfl, rfl, .inr ⟨by omega, by omega⟩, _, rfl, D, _, rfl, .inl (SqL.of hD), _, _, rfl, rfl, .inr ⟨_, rfl, ?_⟩⟩
    rw [hsl]
    have hsd : (if decide ((2 : Int) * ((cntF cs xs ys : Nat) : Int) < ((cs.length : Nat) : Int)) = true then (1 : Int) else 0) = sInt (sideN cs xs ys) := by
      unfold sInt sideN
      by_cases z : 2 * cntF cs xs ys < cs.length
      · rw [decide_eq_true z, decide_eq_true (by omega)]
      · rw [decide_eq_false z, decide_eq_false (by omega)]
    rw [hsd]
    -- the pair is asked
    obtain ⟨dx, hx0⟩ := id hx
    have q1 := s1 _ _ p1
    refine ⟨_, rfl, x, dx, _, rfl, s1 _ _ hx0, lh_none (by decide +kernel) (by decide +kernel), _, rfl, p, _, _, _, rfl, rfl, SqT.of q1, b0, _, rfl, p, _, _, _, rfl, rfl, SqT.of q1, b1, x, r, a, b, n, as, cs, xs, ys, rfl, hx.same s1, s1 _ _ hr0, paired_mono hp (fun a c h => h.mono s1), SqT.of (s1 _ _ p2), SqT.of (s1 _ _ p3), (by omega), lx, ly, c384, fun H2 r' as' k2 hx2 hr2 hp2 => ?_⟩
    have hx1 := s1 _ _ hx0
    have t2 : ∀ {u : Addr} {l : List V}, H u = some (.tup l) → H2 u = some (.tup l) := fun {u l} h => k2 _ _ (s1 _ _ h) (ne_of (s1 _ _ h) hx1 (fun z => by cases z))
    have l2 : ∀ {u : Addr} {l : List V}, H1 u = some (.lst l) → H2 u = some (.lst l) := fun {u l} h => k2 _ _ h (ne_of h hx1 (fun z => by cases z))
    generalize hsn : sideN cs xs ys = sd at *
    have hrec : H2 (if sd = true then b else a) = some (.tup ((if sd = true then ys else xs).map V.int)) := by
      cases sd with
      | true => exact t2 p3
      | false => exact t2 p2
    have sw : Shw (recD (if sd = true then ys else xs)) 4500 := by
      cases sd with
      | true => exact shw_rec sy (by rw [show (if true = true then ys else xs) = ys from rfl]; omega)
      | false => exact shw_rec sx (by rw [show (if false = true then ys else xs) = xs from rfl]; omega)
    have bs : atI [V.ref a, V.ref b] (sInt sd) = some (V.ref (if sd = true then b else a)) := by
      cases sd with
      | true => exact b1
      | false => exact b0
    refine ⟨_, _, rfl, rec_dp (SqT.of hrec), sw.sh, sw.nd, by rw [depth_rec]; decide, sw.fits (by decide), ?_⟩
    refine ⟨_, rfl, _, rfl, p, _, _, _, rfl, rfl, SqT.of (t2 p1), bs, _, _, rfl, rec_dp (SqT.of hrec), sw.sh, sw.nd, by rw [depth_rec]; decide, sw.fits (by decide), rfl, _, rfl, ?_⟩
    refine ifF (by simp) ?_
    have hl2 := l2 (s1 _ _ hl0)
    have hD2 := l2 hD
    refine ⟨_, rfl, l, _, rfl, .inl (SqL.of hl2), _, rfl, (by omega), (by omega), fun D2 nD2 => ?_⟩
    rw [hL2]
    refine loop_range (lo := 0) (n := _) (fun i H3 => Same H2 H3 ∧ ∃ ks : List Addr, H3 D2 = some (.lst (ks.map V.ref)) ∧ Paired (LC n H2) ks ((cs.take i).filter fun c => side c xs ys == sd))
      ⟨Same.new nD2, [], upd_same, .nil⟩ ?_ ?_
    · rintro i H3 hi ⟨s3, ks, h3, hp3⟩
      rw [Int.toNat_natCast] at hi
      rw [Int.zero_add]
      obtain ⟨f, hf⟩ : ∃ e, ls[i]? = some e := ⟨_, List.getElem?_eq_getElem (by rw [List.length_map] at hL2; omega)⟩
      obtain ⟨c, hcc, lc⟩ := paired_at hq hf
      have lc2 : LC n H2 f c := (lc.mono s1).ins hx1 k2
      refine ⟨rfl, _, rfl, _, rfl, D, _, _, _, rfl, rfl, SqL.of (s3 _ _ hD2), atI_nat (v := V.int (sInt (side c xs ys))) (by rw [List.getElem?_map, List.getElem?_map, hcc]; rfl), _, rfl, rfl, _, rfl, ?_⟩
      rw [sInt_eq]
      refine ite2 (fun c1 => ?_) (fun c1 => ?_)
      · refine ⟨_, rfl, _, rfl, l, _, _, _, rfl, rfl, SqL.of (s3 _ _ hl2), atI_nat (v := V.ref f) (by rw [List.getElem?_map, hf]; rfl), _, h3, ?_, s3.set nD2, ks ++ [f], by rw [upd_same, List.map_append]; rfl, ?_⟩
        · rw [List.length_map, Paired.length hp3]
          exact line1000 (Nat.le_trans (List.length_filter_le _ _) (Nat.le_trans (List.length_take_le' _ _) (by omega)))
        · rw [List.take_add_one, hcc, List.filter_append]
          rw [show (some c).toList.filter (fun c => side c xs ys == sd) = [c] from List.filter_cons_of_pos c1]
          exact Paired.snoc hp3 lc2
      · refine ⟨s3, ks, h3, ?_⟩
        rw [List.take_add_one, hcc, List.filter_append]
        rw [show (some c).toList.filter (fun c => side c xs ys == sd) = [] from List.filter_cons_of_neg c1, List.append_nil]
        exact hp3
    · rintro H3 ⟨s3, ks, h3, hp3⟩
      rw [Int.toNat_natCast, List.take_of_length_le (Nat.le_refl _)] at hp3
      have ek : keptC cs xs ys = cs.filter fun c => side c xs ys == sd := by
        unfold keptC
        rw [hsn]
      refine kq _ r' as' D2 ks (Keep.then_ (Keep.same s1 k2) s3) (hx2.same s3) (s3 _ _ hr2) (paired_mono hp2 fun a c h => h.mono s3) h3 ?_
      rw [ek]
      exact paired_mono hp3 fun a c h => h.mono s3
end
end K38

/-! R5: an own error class whose __init__ says super().__init__(text), then self.f = parameter -/
namespace K38
open PySem PySem.Spec PyProof.Rows L2
section
variable {prog : Program} {w : World} {A : Around} {E : Value → Shared → Prop} {h : Heap} {g : Array GenState} {d : Drawn} {t : Nat} {os : OsState}
variable {nm q : Str} {C N : Addr} {bs bm : List Value} {hdct : Bool} {sn : List Str} {sub : List Value} {ab : Bool} {col : Option Bool} {dd : Option Addr} {k0 k1 k2 k3 k5 : Option Value}
/-- the wrapper that super().__init__ gave, called -/
theorem mw_call {u e t0 : Addr} {rest : List Value} {Q : Value → Shared → Prop} (hC : h.get? C = some (excClassObj nm q C N bs bm hdct sn sub ab col dd k0 k1 k2 k3 k5 "ValueError.__new__"))
    (he : h.get? e = some ({ cls := .ref C, dict := none, data := .fields #[.ref t0, .none, .none, .none, .bool false, .none] } : Obj)) (hu : h.get? u = some (PySem.W.kxs_mw "ValueError.__init__" e)) (hl : rest.length ≤ sizeLine)
    (hq : ∀ h' t1, (∀ b o, b ≠ e → h.get? b = some o → h'.get? b = some o) → h'.get? e = some ({ cls := .ref C, dict := none, data := .fields #[.ref t1, .none, .none, .none, .bool false, .none] } : Obj) → Q .none ⟨h', g, d, t, os⟩) :
    wpAny (model prog w) A (call (.ref u) rest) Q E ⟨h, g, d, t, os⟩ := by
  apply wpAny_call
  apply codeAny_of_tree
  change wpAny _ A.in1 (callAny (.ref u) ⟨rest, []⟩) _ _ _
  unfold callAny
  apply wpAny_bind
  apply wpAny_load hu
  change wpAny _ _ (checkBoundCall "ValueError.__init__" ⟨.ref e :: rest, []⟩ >>= fun _ => again (.builtin "ValueError.__init__" ⟨.ref e :: rest, []⟩)) _ _ _
  apply wpAny_bind
  refine PySem.W.check_bound_init (cls := "ValueError") (newId := "ValueError.__new__") (initId := "ValueError.__init__") F.excBase_ValueError.toExcCallFacts hC he rfl ?_
  refine wpAny_pure ?_
  refine ⟨plainId_quiet F.excBase_ValueError.init.plain _, codeAny_builtin F.excBase_ValueError.initEntry ?_⟩
  exact PySem.W.exc_init_tree (cls := .ref C) (t0 := t0) (dv := none) (c2 := .none) (c3 := .none) (b4 := .bool false) he hl fun h' k e' _ => hq h' _ k e'
end
abbrev sBadInit : Stmt := inClass (topAt 3) 0
def badF (cc cda : Addr) : NdefX.NF := ⟨"__init__", "BadRecord.__init__", defArgs sBadInit, defBody sBadInit, defScope sBadInit, [("__class__", cc)], cda⟩
/-- what the top has left of the class BadRecord -/
structure Bad (K : PySem.W.Frag) (mg : Str → Option Value) (P : Program) where
  c : Addr
  f : Addr
  cc : Addr
  cda : Addr
  doc : Value
  pm : Value
  ct : Value
  m : mg "BadRecord" = some (.ref c)
  lk : ∃ oc od osl, K.lookup f = some ⟨oc, od, .func ((badF cc cda).fd doc pm ct), osl⟩
  code : PySem.W.codeIn K (.ref cda) "BadRecord.__init__" = true
  cell : ∃ cl cld csl, K.lookup cc = some ⟨cl, cld, .cell (some (.ref c)), csl⟩
  cobj : ∃ ccl cdd vs ccs file tf, K.lookup cda = some ⟨ccl, cdd, .fields vs, ccs⟩ ∧ vs[2]? = some (.str file tf) ∧ ((P.main.file : Str) == file) = true
  top : (P.main.scope.names.lookup ("super" : Str)).isSome = false
  sup : PySem.W.ks_superIn K c c "__init__" = some (some (.builtin "ValueError.__init__"))
  opq : PySem.W.nsIn K cStatics "thirdparty.any" = some none
  own : PySem.W.mroIn K c (.ref c) = some true
  veB : PySem.W.subIn K (.ref c) (.type "ValueError") = some true
  oex : OexC K c
  nRec : PySem.W.findIn K (.ref c) "record" = some none
  iC : PySem.W.findIn K (.ref c) "__init__" = some (some (.ref f))
  tI : PySem.W.typeIn K (.ref f) = some (.type "function")
  bSuper : mg "super" = none
def spBadInit (c : Addr) : Sp := fun vs H Q _ => ∃ (a : Addr) (y : V), vs = [.ref a, y] ∧ H a = some (exo a c none) ∧ ∀ dx, H dx = none → dx ≠ a → Q .non (upd (upd H dx (exd dx [("record", y)])) a (exo a c (some dx)))
theorem bad_nc : ∀ x ∈ (defScope sBadInit).names, x.2 ≠ NameKind.cell := by decide +kernel
theorem bad_loc : ∀ x ∈ (["self", "record"] : List Str), (defScope sBadInit).names.lookup x = some NameKind.local := by decide +kernel
theorem nscBad : NdefX.NScope ["self", "record", "__class__"] ["self", "record"] ["__class__"] (defScope sBadInit) := NdefX.nscope_by (by decide +kernel)
section
variable {P : Program} {w : World} {K : PySem.W.Frag} {mg : Str → Option Value} {base : Heap}
theorem ok_badInit (B : Bad K mg P) : FnOk P w K mg base CX0 1 B.f ((badF B.cc B.cda).fd B.doc B.pm B.ct) ["self", "record"] (spBadInit B.c) := by
  refine ⟨fun vs H Q E h => ?_, fun A outer s H args us vs Q E hr e0 hb r hsp => ?_⟩
  · obtain ⟨a, y, rfl, _⟩ := h
    rfl
  obtain ⟨a, y, rfl, ha, kq⟩ := hsp
  obtain ⟨u1, u, rfl, r1, ru⟩ := vals2 r
  obtain rfl : u1 = Value.ref a := r1
  obtain ⟨oc, od, osl, lk⟩ := B.lk
  obtain ⟨cl, cld, csl, hcell⟩ := B.cell
  obtain ⟨ccl, cdd, vs, ccs, file, tf, hcode, hvs, hfile⟩ := B.cobj
  obtain ⟨nm, qn, N, bs, bm, sn, sub, ab, col, dd, k0, k1, k2, k3, k5, hC, hbm⟩ := B.oex.cls
  have KX : K.In s.heap := e0.mod.kin.keeps fun b o e => (e0.bs b o e).1
  have lim : s.heap.NoLimit := e0.mod.nolimit.keeps fun b o e => (e0.bs b o e).1
  have hcc : s.heap.IsCell B.cc (some (.ref B.c)) := ⟨_, KX _ _ hcell, rfl⟩
  have hccn : H B.cc = none := (e0.bs _ _ (e0.mod.kin _ _ hcell)).2
  refine PySem.ks_codeAny_call_defAt hr.depth (KX _ _ lk) rfl lim (PySem.W.codeRec_of KX B.code) rfl hb bad_nc (fun x hx => bad_loc x.1 (List.of_mem_zip hx).1) (fun h₀ hns kp => ?_)
  have cells : NdefX.CellsAt (badF B.cc B.cda).cl ["__class__"] [some (.ref B.c)] s.heap H := by
    have lk1 : ∀ {x : Str} {z : Addr}, (badF B.cc B.cda).cl.lookup x = some z → x = "__class__" ∧ z = B.cc := fun {x z} e => by
      have e : List.lookup x [(("__class__" : Str), B.cc)] = some z := e
      rw [List.lookup_cons] at e
      by_cases q : (x == ("__class__" : Str)) = true
      · rw [q] at e
        exact ⟨by simpa using q, (Option.some.inj e).symm⟩
      · rw [Bool.not_eq_true] at q
        rw [q] at e
        cases e
    refine ⟨rfl, fun x z e => ?_, fun x x' z e e' => (lk1 e).1.trans (lk1 e').1.symm, fun i x e => ?_⟩
    · obtain ⟨rfl, rfl⟩ := lk1 e
      exact ⟨hccn, _, hcc⟩
    · match i, e with
      | 0, e =>
        obtain rfl : ("__class__" : Str) = x := Option.some.inj e
        refine ⟨B.cc, ?_, fun v hv => ?_⟩
        · show List.lookup ("__class__" : Str) [(("__class__" : Str), B.cc)] = some B.cc
          rw [List.lookup_cons, show (("__class__" : Str) == "__class__") = true by decide +kernel]
        · have hv : some (some (V.ref B.c)) = some (some v) := hv
          obtain rfl := Option.some.inj (Option.some.inj hv)
          exact ⟨_, rfl, hcc⟩
      | i + 1, e => cases e
  have I : Inv (NdefX.ncx CX0 P w K mg base ["self", "record", "__class__"] (badF B.cc B.cda) B.f A outer s H E) [] (NdefX.startF ["self", "record", "__class__"] [.ref a, y] [some (.ref B.c)]) H { s with heap := h₀, toks := s.toks + 2 } :=
    NdefX.inv_startN nscBad hr.hd e0 rfl (.cons rfl (.cons ru .nil)) cells hns kp
  have hf0 := kp _ _ (KX _ _ lk)
  have hcd0 := kp _ _ (KX _ _ hcode)
  have hC0 := kp _ _ (KX _ _ hC)
  have K0 : K.In h₀ := KX.keeps kp
  obtain ⟨mb, m1, m2⟩ := I.mod.blt
  obtain ⟨t1, ho⟩ := exo_at I.hok ha
  have hclass : List.lookup ("__class__" : Str) [(("__class__" : Str), B.cc)] = some B.cc := by
    rw [List.lookup_cons, show (("__class__" : Str) == "__class__") = true by decide +kernel]
  have hself : List.lookup ("self" : Str) [(("record" : Str), u), (("self" : Str), Value.ref a)] = some (.ref a) := by
    rw [List.lookup_cons, show (("self" : Str) == "record") = false by decide +kernel, List.lookup_cons, show (("self" : Str) == "self") = true by decide +kernel]
  obtain ⟨oc0, hc0, hc1⟩ : h₀.IsCell B.cc (some (.ref B.c)) := by
    obtain ⟨o, h1, h2⟩ := hcc
    exact ⟨o, kp _ _ h1, h2⟩
  have inst : PySem.W.InstAt h₀ a ({ cls := .ref B.c, dict := none, data := .fields #[.ref t1, .none, .none, .none, .bool false, .none] } : Obj) B.c none := ⟨ho, rfl, rfl, True.intro⟩
  refine PySem.ks_wpAt_execs_cons (PySem.ks_wpAt_Expr_any (PySem.ks_wpAt_MethodCall (PySem.ks_wpAt_super_base (f := B.f) (cc := B.cda) rfl rfl (by decide +kernel) rfl hf0 rfl rfl rfl hcd0 rfl hvs hfile B.top ?_)))
  refine PySem.W.ks_loadName_global rfl rfl (Calls.loadGlobal_builtin (I.mod.glob.keeps I.bk) B.bSuper (m1.keeps I.bk) ((m2 _ (by decide)).trans (by decide +kernel : bootBuiltins "super" = some (.type "super"))) ⟨rfl, ?_⟩)
  refine wpAny_loadName_free rfl rfl hclass ⟨oc0, hc0, hc1⟩ ?_ (by decide)
  refine wpAny_loadName_local rfl rfl hns hself ?_
  refine PySem.ks_wpAny_isType_cls hC0 rfl ⟨rfl, ?_⟩
  refine PySem.ks_wpAny_call_super hC0 rfl ho rfl (fun c e => by cases e) (PySem.W.looks_mroIn K0 B.own) (fun h1 eso k1 => ?_)
  have K1 : K.In h1 := K0.keeps k1
  have inst1 : PySem.W.InstAt h1 a ({ cls := .ref B.c, dict := none, data := .fields #[.ref t1, .none, .none, .none, .bool false, .none] } : Obj) B.c none := ⟨k1 _ _ ho, rfl, rfl, True.intro⟩
  obtain ⟨cd, hcd, hal⟩ : ∃ cd, PySem.W.clsIn K B.c = some cd ∧ PySem.W.alongIn K "__init__" ((cd.mro.dropWhile (· != .ref B.c)).drop 1) = some (some (.builtin "ValueError.__init__")) := by
    have q := B.sup
    unfold PySem.W.ks_superIn at q
    obtain ⟨cd, e1, e2⟩ := Option.bind_eq_some_iff.mp q
    exact ⟨cd, e1, e2⟩
  refine PySem.W.kxs_getMethod PySem.W.kxs_ValueError eso (PySem.W.looks_opaque K1 B.opq) (l₀ := cd.mro) (fun A Q E s k q => wpAny_bind ((PySem.W.looks_clsIn K1 hcd) A _ E s k (wpAny_pure q))) rfl K1 hal (inst1.type.andThen (PySem.W.looks_subIn K1 B.veB)) (PySem.W.ks_ne K1 inst1 hcd) (by decide) ?_
  have k2 : ∀ b o, h₀.get? b = some o → (h1.push (PySem.W.kxs_mw "ValueError.__init__" a)).get? b = some o := fun b o e => Heap.get?_push_of_some _ (k1 b o e)
  have hu : (h1.push (PySem.W.kxs_mw "ValueError.__init__" a)).get? h1.objs.size = some (PySem.W.kxs_mw "ValueError.__init__" a) := Heap.get?_push_size _ rfl
  have le : h₀.objs.size ≤ h1.objs.size := Nat.le_of_lt (Heap.lt_size eso)
  have fU := I.fpOk (b := h1.objs.size) le (I.hok.fresh le)
  have I2 := I.kept (h' := h1.push (PySem.W.kxs_mw "ValueError.__init__" a)) (t' := s.toks + 2 + 1) k2
  generalize h1.push (PySem.W.kxs_mw "ValueError.__init__" a) = h2 at *
  generalize h1.objs.size = p at *
  have I3 := I2.pins_of (pins' := [(p, PySem.W.kxs_mw "ValueError.__init__" a)]) fun z hz => by
    rw [List.mem_singleton.mp hz]
    exact ⟨hu, fU.1, fU.2.1, fU.2.2.1, fun v e => by cases e⟩
  refine PySem.W.kxs_callWith (i := "ValueError.__init__") (x := a) rfl (PySem.Calls.evalArgs_plain ?_)
  refine wpAny_mono ((pa_cons (X := NdefX.ncx CX0 P w K mg base ["self", "record", "__class__"] (badF B.cc B.cda) B.f A outer s H E) pe_str pa_nil).run _ _ _ _ H (fun vs H1 => vs.length = 1 ∧ H1 = H) I3 ⟨rfl, rfl⟩) (fun us s2 z => ?_) (fun _ _ z => z)
  obtain ⟨ws, H1, I4, rw4, hl4, rfl⟩ := z
  obtain ⟨hu4, _⟩ := I4.pin (p, PySem.W.kxs_mw "ValueError.__init__" a) (by simp)
  have I5 := I4.pins_of (pins' := []) (fun z hz => by simp at hz)
  obtain ⟨h5, g5, d5, tk5, os5⟩ := s2
  obtain ⟨t5, ho5⟩ := exo_at I5.hok ha
  refine ⟨hu4, mw_call (I5.kIn _ _ hC) ho5 hu4 ?_ (fun h6 t6 k6 e6 => ?_)⟩
  · show ([] ++ us).length ≤ sizeLine
    rw [List.nil_append, ← Paired.length rw4, hl4]
    decide
  have I6 := I5.write (t' := tk5) (x := a) (e := a) (o := exo a B.c none) (by rw [ha]; exact True.intro) (.inl rfl) k6 ⟨_, e6⟩ (exo_ok e6)
  have eu : upd H1 a (exo a B.c none) = H1 := by
    funext b
    by_cases z : b = a
    · rw [z, upd_same, ha]
    · rw [upd_ne z]
  rw [eu] at I6
  have body := (pss_one (X := NdefX.ncx CX0 P w K mg base ["self", "record", "__class__"] (badF B.cc B.cda) B.f A outer s H1 E) (ps_ost (f := "record") (p' := ⟨11, 8, 11, 19⟩) (pos := ⟨11, 8, 11, 28⟩) (pv 0 (x := "self") (pos := ⟨11, 8, 11, 12⟩)) (pv 1 (x := "record") (pos := ⟨11, 22, 11, 28⟩)))).run [] _ _ H1 { nx := fun _ H' => Q .non H', rt := Q } I6
    ⟨y, rfl, .ref a, rfl, a, B.c, rfl, B.oex, B.nRec, .inl ⟨ha, fun dx n ne => kq dx n ne⟩⟩
  refine PySem.wpAt_of_wpAny (wpAny_mono body (fun fl s' hs => ?_) (fun e s' hs => hs))
  have fin : ∀ {σ' : L2.St} {H' : Hp} {v' : V} {u' : Value}, Inv (NdefX.ncx CX0 P w K mg base ["self", "record", "__class__"] (badF B.cc B.cda) B.f A outer s H1 E) [] σ' H' s' → RelV v' u' → Q v' H' → CE outer P w H1 s Q u' s' :=
    fun {σ' H' v' u'} J rv' q => ⟨v', H', J.os, J.bare, J.base, J.hok, rv', q⟩
  match fl, hs with
  | .ret u', ⟨v', σ', H', J, rv', q⟩ => exact fin J rv' q
  | .next, ⟨σ', H', J, q⟩ => exact fin (v' := V.non) (u' := Value.none) J rfl q
  | .brk, ⟨_, _, _, q⟩ => exact q.elim
  | .cont, ⟨_, _, _, q⟩ => exact q.elim
theorem b_badInit (B : Bad K mg P) : Binds K ((badF B.cc B.cda).fd B.doc B.pm B.ct) ["self", "record"] [] := .all fun us hl => match us, hl with | [_, _], _ => rfl
end
end K38

namespace K38
open PySem L2
/-! ### check_record and Hider.reply, a record being wrong -/
/-- the error that tells the record at a -/
def told (cB a : Addr) (H : Hp) (E : XK) : Prop := ∀ d H', Same H H' → H' d = some (.xd [("record", .ref a)]) → E (.ref cB) (some d) H'
def spChkX (cB : Addr) (K : PySem.W.Frag) : Sp := fun vs H Q E => ∃ (a : Addr) (n : Nat) (xs : List Int), vs = [.int (n : Int), .ref a] ∧ SqT K H a (xs.map V.int) ∧ (xs.length = n → Q .non H) ∧ (xs.length ≠ n → told cB a H E)
def spReplyX (cB C : Addr) (K : PySem.W.Frag) : Sp := fun vs H _ E => ∃ (x r a b : Addr) (n : Nat) (xs ys : List Int), vs = [.ref x, .ref a, .ref b] ∧ HidAt C H x n r ∧ SqT K H a (xs.map V.int) ∧ SqT K H b (ys.map V.int) ∧ (xs.length ≠ n ∨ ys.length ≠ n) ∧
  told cB (if xs.length = n then b else a) H E
section
variable {P : Program} {w : World} {K : PySem.W.Frag} {mg : Str → Option Value} {base : Heap}
theorem ok_chkX (T : Defs K mg) (B : Bad K mg P) : FnOk P w K mg base (L2.CX P w) 3 T.fChkRec T.dChkRec ["fields", "record"] (spChkX B.c K) := by
  have GB := ok_badInit (P := P) (w := w) (base := base) B
  refine T.FChkRec.okX scChkRec (fun vs H Q E h => ?_) (fun cdv A outer s H vs Q E hr h => ?_)
  · obtain ⟨a, n, xs, rfl, _⟩ := h
    rfl
  · obtain ⟨a, n, xs, rfl, ha, k1, k2⟩ := h
    refine ⟨_, pss_one (ps_if (pt_cmpR op_ne (pe_callB call_len_seq rfl T.b_len PySem.boot_len (pa_cons (pv 1) pa_nil)) (pv 0) (nomark _))
      (pss_one (ps_raise rfl (takes_of rfl rfl rfl rfl) (pmk_oex B.oex B.iC B.tI GB hr (b_badInit B) .nil pass0 rfl B.m (pa_cons (pv 1) pa_nil)))) pss_nil), ?_⟩
    refine ⟨_, rfl, a, _, rfl, .inr ha, _, rfl, rfl, _, rfl, ?_⟩
    refine ite2 (fun c => ?_) (fun c => ?_)
    · have hne : xs.length ≠ n := fun z => by
        rw [List.length_map, z] at c
        simp at c
      refine ⟨_, rfl, by show 1 ≤ 1000; decide, fun e ne => ?_⟩
      refine ⟨e, .ref a, rfl, upd_same, fun dx ndx de => ⟨rfl, dx, [("record", .ref a)], upd_same, by rw [upd_ne de, upd_same], ?_, ?_⟩⟩
      · rw [upd_ne de] at ndx
        exact ndx
      · rw [upd_ne de] at ndx
        refine k2 hne dx _ (fun b o eb => ?_) upd_same
        rw [upd_ne (ne_of_none eb ndx), del_ne (ne_of_none eb ne), upd_ne (ne_of_none eb ne), upd_ne (ne_of_none eb ndx), upd_ne (ne_of_none eb ne)]
        exact eb
    · refine k1 ?_
      rw [List.length_map] at c
      simp at c
      omega
theorem ok_replyX (T : Defs K mg) (B : Bad K mg P) : FnOk P w K mg base (L2.CX P w) 4 T.fHidReply T.dHidReply ["self", "older", "newer"] (spReplyX B.c T.cHid K) := by
  have GC := ok_chkX (P := P) (w := w) (base := base) T B
  refine T.FHidReply.okX scReply (fun vs H Q E h => ?_) (fun cdv A outer s H vs Q E hr h => ?_)
  · obtain ⟨x, r, a, b, n, xs, ys, rfl, _⟩ := h
    rfl
  · obtain ⟨x, r, a, b, n, xs, ys, rfl, ⟨dx, hx⟩, ha, hb, hne, kq⟩ := h
    refine ⟨_, pss_cons (ps_expr (pe_call GC hr rfl T.mChkRec T.FChkRec.kp (b_chkRec T) .nil (passes_call (takes_of (E := E) rfl rfl rfl rfl) (fun _ _ _ _ z => z)) (pa_cons (pe_fld (pv 0) rfl) (pa_cons (pv 1) pa_nil))))
      (pss_cons (ps_expr (pe_call GC hr rfl T.mChkRec T.FChkRec.kp (b_chkRec T) .nil (passes_call (takes_of (E := E) rfl rfl rfl rfl) (fun _ _ _ _ z => z)) (pa_cons (pe_fld (pv 0) rfl) (pa_cons (pv 2) pa_nil)))) pss_never), ?_⟩
    refine ⟨_, rfl, x, T.cHid, dx, _, _, rfl, hx, T.kHid, T.nHid_fields, lh_fields, _, rfl, a, n, xs, rfl, ha, fun e1 => ?_, fun e1 => ?_⟩
    · rw [if_pos e1] at kq
      have ne2 : ys.length ≠ n := hne.resolve_left (fun z => z e1)
      exact ⟨_, rfl, x, T.cHid, dx, _, _, rfl, hx, T.kHid, T.nHid_fields, lh_fields, _, rfl, b, n, ys, rfl, hb, fun e2 => absurd e2 ne2, fun _ => kq⟩
    · rw [if_neg e1] at kq
      exact kq
end
end K38

/-! R6: a method called within try; isinstance of the error that the suite holds, the error having a dict -/
namespace K38
open PySem PySem.Spec PyProof.Rows L2
section
variable {X : Cx} {CX : CXT} {k : Nat} {f C : Addr} {fd : FuncData} {ps : List Str} {sp : Sp} {E : L2.St → XK} {m : Str} {pos apos : Pos} {e o : Expr} {es : List Expr} {ta : TE} {t : TA}
/-- o.m(..), what it may let out being wished with the slots -/
def tMethE (C : Addr) (m : Str) (sp : Sp) (E : L2.St → XK) (ta : TE) (t : TA) : TE := fun σ H Q => ta σ H fun x H1 => ∃ a dx fs, x = V.ref a ∧ H1 a = some (.ins C dx fs) ∧ fs.lookup m = none ∧ t σ H1 fun vs H2 => sp (.ref a :: vs) H2 Q (E σ)
theorem pe_methE {pl : Sem Bool} (he : PE X o ta) (c : Cls X.K C) (hm : Meth X.K C m f) (F : FnOk X.prog X.w X.K X.mg X.base CX k f fd ps sp) (hr : Room k X.A) (hb : Binds X.K fd ps []) (hx : ∀ σ, PassesAt CX X σ (E σ)) (ha : PA X (e :: es) t)
    (hst : starEach (e :: es) X.env = (false, eval e X.env) :: starEach es X.env := by rfl) (hpl : (backTo pos (starEach es X.env)).any (·.1) = false := by rfl)
    (ht : eval (.Call (.Attribute o m apos) (e :: es) [] pos) X.env = (do
      let ov ← eval o X.env
      standAt apos.atName
      let (f, first) ← holding [ov] (getMethod ov m pl)
      callWith pos f first (backTo pos (starEach (e :: es) X.env)) (backToKw pos (keywordEach [] X.env))) := by rfl) :
    PE X (.Call (.Attribute o m apos) (e :: es) [] pos) (tMethE C m sp E ta t) :=
  ⟨fun pins s σ H Q I h => PySem.W.methodCall_KW (pl := pl) (thn (he.run pins s σ H _ I h) fun u s1 z => by
    obtain ⟨x, H1, I1, r1, a, dx, fs, e1, e2, e3, q⟩ := z
    subst e1
    cases (show u = Value.ref a from r1)
    exact getmeth_ok I1 e2 c hm e3 (PySem.W.callWith_K (first := [.ref a]) (h₀ := X.base) I.ok.mod.kin hm.kp (thn (ha.run pos pins s1 σ H1 _ I1 q) fun us s2 y => by
      obtain ⟨vs, H2, I2, r2, q2⟩ := y
      exact ⟨I2.kIn, run_fnS (us := .ref a :: us) (vs := .ref a :: vs) F hr hb (hx σ) I2 (.cons rfl r2) q2⟩) hst hpl)) ht⟩
end
section
variable {X : Cx} {a D : Addr} {oe : Obj} {cls : Value} {d : Option Addr} {pn : List (Addr × Obj)}
def rIsX (K : PySem.W.Frag) (D a : Addr) (cls : Value) (d : Option Addr) : List V → Hp → VK → Prop := fun xs H Q => ∃ (c : V) (cv : Value) (b : Bool) (dd : Addr) (fs : List (Str × V)), xs = [.ref a, c] ∧ cls = .ref D ∧ d = some dd ∧ H dd = some (.xd fs) ∧ ClsV c cv ∧ PySem.W.kitOne K (.ref D) cv = some b ∧ Q (.bl b) H
def rIsXT (K : PySem.W.Frag) (D a : Addr) (cls : Value) (d : Option Addr) : List V → Hp → VK → Prop := fun xs H Q => ∃ (tp : Addr) (cs : List V) (us : List Value) (b : Bool) (dd : Addr) (fs : List (Str × V)), xs = [.ref a, .ref tp] ∧ cls = .ref D ∧ d = some dd ∧ H dd = some (.xd fs) ∧ H tp = some (.tup cs) ∧ Paired ClsV cs us ∧ PySem.W.kitAny K (.ref D) us = some b ∧ Q (.bl b) H
theorem inst_x {pins : List (Addr × Obj)} {σ : L2.St} {H : Hp} {s : Shared} {dd : Addr} {fs : List (Str × V)} (I : Inv (X.suite a ((a, oe) :: pn)) pins σ H s) (hz : Zc (.ref D) (some dd) oe) (hf : ∃ vs, oe.data = .fields vs) (hd : H dd = some (.xd fs)) :
    ∃ od, PySem.W.InstAt s.heap a oe D (some od) := by
  obtain ⟨ha, _⟩ := I.pin (a, oe) (List.mem_append_left _ List.mem_cons_self)
  obtain ⟨vs, hv⟩ := hf
  obtain ⟨mA, hns, hr⟩ := (show ObjOk X.prog X.w H s.heap dd (.xd fs) from I.hok dd _ hd)
  obtain ⟨od, ho, _⟩ := lookIn_ns hns
  exact ⟨od, ha, hz.1, by unfold PySem.W.notCls; rw [hv], by rw [hz.2]; exact ho⟩
theorem cls_of {K : PySem.W.Frag} (h : PySem.W.hasDictIn K D = true) : (PySem.W.clsIn K D).isSome = true := by
  obtain ⟨cd, hc, _⟩ := PySem.W.any_some h
  rw [hc]
  rfl
theorem call_isX (C : L2.ExcC X.K D) (hz : Zc cls d oe) (hf : ∃ vs, oe.data = .fields vs) : CallR (X.suite a ((a, oe) :: pn)) (.builtin "isinstance") (rIsX X.K D a cls d) := by
  intro pins s σ H xs us Q I r h
  obtain ⟨c, cv, b, dd, fs, rfl, rfl, rfl, hd, hcv, e, q⟩ := h
  obtain ⟨u1, u2, rfl, r1, r2⟩ := vals2 r
  cases (show u1 = Value.ref a from r1)
  obtain rfl := hcv.eq r2
  obtain ⟨od, J⟩ := inst_x I hz hf hd
  exact PySem.W.kia_one (PySem.W.kitx_exc (cls_of C.hd) C.hg C.hk C.hs C.ha C.hn C.ht C.hm) I.kIn J e (fun z => nomatch z) fun tk => ⟨.bl b, H, I.tok tk, rfl, q⟩
theorem call_isXT (C : L2.ExcC X.K D) (hz : Zc cls d oe) (hf : ∃ vs, oe.data = .fields vs) : CallR (X.suite a ((a, oe) :: pn)) (.builtin "isinstance") (rIsXT X.K D a cls d) := by
  intro pins s σ H xs us Q I r h
  obtain ⟨tp, cs, ws, b, dd, fs, rfl, rfl, rfl, hd, ht, hcs, e, q⟩ := h
  obtain ⟨u1, u2, rfl, r1, r2⟩ := vals2 r
  cases (show u1 = Value.ref a from r1)
  cases (show u2 = Value.ref tp from r2)
  obtain ⟨od, J⟩ := inst_x I hz hf hd
  obtain ⟨_, its, rv, ⟨oc, od2, dt, sl⟩, h1, h2, n, h3⟩ := (show ObjOk X.prog X.w H s.heap tp (.tup cs) from I.hok tp _ ht)
  obtain rfl := ClsV.all hcs rv
  simp only at h2 h3
  subst h2 h3
  exact PySem.W.kia_tup (PySem.W.kitx_exc (cls_of C.hd) C.hg C.hk C.hs C.ha C.hn C.ht C.hm) I.kIn J h1 e (fun z => nomatch z) fun tk => ⟨.bl b, H, I.tok tk, rfl, q⟩
end
end K38

namespace K38
open PySem L2
/-! ### _law_refuses -/
/-- what else the top has left of the error classes -/
structure ErrF (K : PySem.W.Frag) (mg : Str → Option Value) (c : Addr) where
  cFE : Addr
  cNR : Addr
  cBA : Addr
  mFE : mg "FieldridesError" = some (.ref cFE)
  mNR : mg "NoRecord" = some (.ref cNR)
  mBA : mg "BadAnswer" = some (.ref cBA)
  ve : mg "ValueError" = none
  ex : L2.ExcC K c
  xf : XfC K c
  k1 : PySem.W.kitOne K (.ref c) (.ref cFE) = some true
  k2 : PySem.W.kitOne K (.ref c) (.type "ValueError") = some true
  k3 : PySem.W.kitAny K (.ref c) [.ref cNR, .ref cBA] = some false
  exm : PySem.W.exmOne K (.ref c) (.ref c) = some true
def spLRefuses (C : Addr) : Sp := fun vs H Q _ => ∃ (x r a b : Addr) (n : Nat) (xs ys : List Int), vs = [.ref x, .ref a, .ref b, .ref (if xs.length = n then b else a)] ∧ HidAt C H x n r ∧ H a = some (.tup (xs.map V.int)) ∧ H b = some (.tup (ys.map V.int)) ∧ (xs.length ≠ n ∨ ys.length ≠ n) ∧
  xs.length ≤ 20 ∧ ys.length ≤ 20 ∧ (∀ v ∈ xs, small v) ∧ (∀ v ∈ ys, small v) ∧ ∀ H', Same H H' → Q (.bl true) H'
abbrev nLRefuses : List Str := ["_law_hider", "_law_older", "_law_newer", "_law_wrong", "e", "_law_pure"]
theorem scLRefuses : FnScope nLRefuses ["_law_hider", "_law_older", "_law_newer", "_law_wrong"] (defScope sLRefuses) := ⟨rfl, rfl, rfl, by decide +kernel, rfl, by decide +kernel, by decide +kernel⟩
theorem call_reprS {X : Cx} {a : Addr} {pn : List (Addr × Obj)} (hg : X.A.guards = some []) (hu : X.A.units + 20 < cLine) : CallR (X.suite a pn) (.builtin "repr") (rReprD X.K) := call_reprD (X := X.suite a pn) hg hu
section
variable {P : Program} {w : World} {K : PySem.W.Frag} {mg : Str → Option Value} {base : Heap}
theorem b_lRefuses (T : Defs K mg) : Binds K T.dLRefuses ["_law_hider", "_law_older", "_law_newer", "_law_wrong"] [] := T.FLRefuses.binds fun _ _ _ _ _ _ us hl => match us, hl with | [_, _, _, _], _ => rfl
theorem ok_lRefuses (T : Defs K mg) (B : Bad K mg P) (Z : ErrF K mg B.c) : FnG P w K mg base CX0 5 T.fLRefuses (spLRefuses T.cHid) := by
  have GR := ok_replyX (P := P) (w := w) (base := base) T B
  refine gOk T.FLRefuses scLRefuses (b_lRefuses T) (fun vs H Q E h => ?_) (fun cdv A outer s H vs Q E hg hr h => ?_)
  · obtain ⟨x, r, a, b, n, xs, ys, rfl, _⟩ := h
    rfl
  · obtain ⟨x, r, a, b, n, xs, ys, rfl, hx, ha, hb, hne, lx, ly, sx, sy, kq⟩ := h
    refine ⟨_, pss_cons (ps_try_as (i := 4) (Wout := fun _ _ _ _ => False) rfl rfl scLRefuses.nd rfl rfl ⟨rfl, by decide, .inl B.m⟩ takes0
        (fun W pn xe tk _ => pss_one (ps_expr (pe_methE (pv 0) T.kHid T.MHidReply GR hr (b_reply T) (passAt tk) (pa_cons (pv 1) (pa_cons (pv 2) pa_nil)))))
        (fun e oe cls d pn hz hf => pss_cons (ps_set (i := 5) scLRefuses.nd rfl (Or.inl rfl) (pe_and (pe_callB (call_isX Z.ex hz hf) rfl T.b_isinstance (by decide +kernel) (pa_cons (pv 4) (pa_cons (pe_glob (v := .ref Z.cFE) rfl Z.mFE rfl) pa_nil))) (pe_one (pe_callB (call_isX Z.ex hz hf) rfl T.b_isinstance (by decide +kernel) (pa_cons (pv 4) (pa_cons (pe_bltn (v := .ty "ValueError") rfl Z.ve (by decide +kernel) rfl) pa_nil))))))
          (pss_one (ps_ret (pe_cmpR op_eq (pe_callB (call_reprS hg (room20 hr)) rfl T.b_repr (by decide +kernel) (pa_cons (pe_lst (pa_cons (pe_xf Z.xf B.nRec hz hf (pv 4)) (pa_cons (pe_and (pv 5) (pe_one (pe_not (pe_callB (call_isXT Z.ex hz hf) rfl T.b_isinstance (by decide +kernel) (pa_cons (pv 4) (pa_cons (pe_tup (pa_cons (pe_glob (v := .ref Z.cNR) rfl Z.mNR rfl) (pa_cons (pe_glob (v := .ref Z.cBA) rfl Z.mBA rfl) pa_nil))) pa_nil)))))) pa_nil))) pa_nil))
            (pe_callB (call_reprS hg (room20 hr)) rfl T.b_repr (by decide +kernel) (pa_cons (pe_lst (pa_cons (pv 3) (pa_cons pe_bl pa_nil))) pa_nil)) (nomark _))))))
      (pss_one (ps_ret pe_bl)), ?_⟩
    obtain ⟨dx, hx0⟩ := id hx
    refine ⟨_, rfl, x, dx, _, rfl, hx0, lh_none (by decide +kernel) (by decide +kernel), _, rfl, _, rfl, x, r, a, b, n, xs, ys, rfl, hx, SqT.of ha, SqT.of hb, hne, fun d H1 s1 hd => ⟨true, Z.exm, fun _ e he => ?_, fun z => by cases z⟩⟩
    have hwr : H (if xs.length = n then b else a) = some (.tup ((if xs.length = n then ys else xs).map V.int)) := by
      split
      · exact hb
      · exact ha
    have sw : ShwAll [recD (if xs.length = n then ys else xs), PyData.bool true] 4800 := by
      have h1 : Shw (recD (if xs.length = n then ys else xs)) 4500 := by
        split
        · exact shw_rec sy ly
        · exact shw_rec sx lx
      exact ShwAll.cons h1 (ShwAll.cons (shw_bl true) ShwAll.nil (Nat.le_refl _)) (by decide)
    generalize (if xs.length = n then b else a) = wr at *
    generalize (if xs.length = n then ys else xs) = zs at *
    have lkr : List.lookup ("record" : Str) [(("record" : Str), V.ref wr)] = some (V.ref wr) := by
      rw [List.lookup_cons, show (("record" : Str) == "record") = true by decide +kernel]
    have dep : (PyData.list [recD zs, PyData.bool true]).depth ≤ 8 := by
      show max (recD zs).depth (max 0 0) + 1 ≤ 8
      rw [depth_rec]
      decide
    refine ⟨_, rfl, _, _, true, d, _, rfl, rfl, rfl, hd, .own Z.cFE, Z.k1, true, rfl, ?_⟩
    refine ifT rfl ⟨_, rfl, _, _, true, d, _, rfl, rfl, rfl, hd, .ty "ValueError", Z.k2, ?_⟩
    refine ⟨_, rfl, rfl, rfl, d, _, _, rfl, hd, lkr, ?_⟩
    refine ⟨_, rfl, true, rfl, ?_⟩
    refine ifT rfl ⟨_, rfl, (by show 2 ≤ sizeLine; decide), fun tp ntp => ?_⟩
    have s2 : Same H1 (upd H1 tp (.tup [.ref Z.cNR, .ref Z.cBA])) := Same.new ntp
    refine ⟨tp, _, _, false, d, _, rfl, rfl, rfl, s2 _ _ hd, upd_same, .cons (.own Z.cNR) (.cons (.own Z.cBA) .nil), Z.k3, false, rfl, ?_⟩
    refine ⟨(by show 2 ≤ sizeLine; decide), fun l nl => ?_⟩
    have s3 := s2.trans (Same.new (o := .lst [.ref wr, .bl true]) nl)
    have s13 := s1.trans s3
    refine ⟨l, PyData.list [recD zs, PyData.bool true], rfl, .lst (SqL.of upd_same) (.cons (rec_dp (SqT.of (s13 _ _ hwr))) (.cons (.bl true) .nil)), sw.lst.sh, sw.lst.nd, dep, sw.lst.fits (by decide), ?_⟩
    refine ⟨_, rfl, (by show 2 ≤ sizeLine; decide), fun l2 nl2 => ?_⟩
    have s14 := s13.trans (Same.new (o := .lst [.ref wr, .bl true]) nl2)
    refine ⟨l2, PyData.list [recD zs, PyData.bool true], rfl, .lst (SqL.of upd_same) (.cons (rec_dp (SqT.of (s14 _ _ hwr))) (.cons (.bl true) .nil)), sw.lst.sh, sw.lst.nd, dep, sw.lst.fits (by decide), rfl, ?_⟩
    have k := kq _ s14
    rw [show decide (V.str (PyData.list [recD zs, PyData.bool true]).shown = V.str (PyData.list [recD zs, PyData.bool true]).shown) = true by simp]
    exact k
end
end K38

namespace K38
open PySem L2
/-! ### _law_refused -/
def spLRefused (C : Addr) : Sp := fun vs H Q _ => ∃ (t x r p a b : Addr) (n : Nat) (xs ys : List Int), vs = [.ref t, .ref x, .int (n : Int), .ref p] ∧ TapeAt H t ∧ HidAt C H x n r ∧ PairAt n H p a b xs ys ∧ 1 ≤ n ∧ n ≤ 4 ∧ ∀ H', Keep t H H' → TapeAt H' t → Q (.bl true) H'
abbrev nLRefused : List Str := ["_law_tape_here", "_law_hider", "_law_n", "_law_pair", "_law_pick", "_law_longer", "_law_wrong", "_law_record_here"]
theorem scLRefused : FnScope nLRefused ["_law_tape_here", "_law_hider", "_law_n", "_law_pair"] (defScope sLRefused) := ⟨rfl, rfl, rfl, by decide +kernel, rfl, by decide +kernel, by decide +kernel⟩
/-- two records on their way into the list at D -/
def Wr (H : Hp) (D : Addr) (us vs : List Int) : Nat → Prop
  | 0 => H D = some (.lst [])
  | 1 => ∃ a : Addr, H D = some (.lst [.ref a]) ∧ H a = some (.tup (us.map V.int))
  | _ => ∃ a b : Addr, H D = some (.lst [.ref a, .ref b]) ∧ H a = some (.tup (us.map V.int)) ∧ H b = some (.tup (vs.map V.int))
/-- a wrong record -/
def Wrong (n : Nat) (us : List Int) : Prop := us.length ≠ n ∧ us.length ≤ 10 ∧ ∀ z ∈ us, small z
theorem wrong_drop {n : Nat} {xs : List Int} (h : xs.length = n) (h1 : 1 ≤ n) (h4 : n ≤ 4) (s : ∀ x ∈ xs, small x) : Wrong n (xs.drop 1) :=
  ⟨by rw [List.length_drop]; omega, by rw [List.length_drop]; omega, fun z hz => s z (List.mem_of_mem_drop hz)⟩
theorem wrong_long {n : Nat} {xs : List Int} (h : xs.length = n) (h4 : n ≤ 4) (s : ∀ x ∈ xs, small x) : Wrong n (xs ++ [0]) :=
  ⟨by rw [List.length_append]; show xs.length + 1 ≠ n; omega, by rw [List.length_append]; show xs.length + 1 ≤ 10; omega, fun z hz => by
    rcases List.mem_append.mp hz with q | q
    · exact s z q
    · rw [List.mem_singleton.mp q]
      exact ⟨by decide, by decide⟩⟩
theorem cut1 (xs : List Int) : cutV (xs.map V.int) (some 1) none = (xs.drop 1).map V.int := by
  unfold cutV
  rw [HT.sIx_none, show HT.sIx (xs.map V.int).length 0 (some 1) = min 1 (xs.map V.int).length from HT.sIx_nat _ _ 1, List.length_map]
  cases xs with
  | nil => rfl
  | cons x l =>
    rw [show min 1 (x :: l).length = 1 by rw [List.length_cons]; omega, List.map_drop]
    exact List.take_of_length_le (by rw [List.length_drop, List.length_map]; exact Nat.le_refl _)
/-- one step of the list -/
theorem wr_step {H0 H1 : Hp} {D : Addr} {us vs : List Int} {i : Nat} {Qd : Hp → Prop} (hi : i < 2) (s1 : Same H0 H1) (nD : H0 D = none) (h : Wr H1 D us vs i) (hq : ∀ H', Same H0 H' ∧ Wr H' D us vs (i + 1) → Qd H') (w : Addr) (H2 : Hp) (s2 : Same H1 H2)
    (hw : H2 w = some (.tup ((if i = 0 then us else vs).map V.int))) : ∃ acc, H2 D = some (.lst acc) ∧ acc.length < sizeLine ∧ Qd (upd H2 D (.lst (acc ++ [V.ref w]))) := by
  have kp : ∀ {b : Addr} {l : List V}, H2 b = some (.tup l) → ∀ {acc o}, H2 D = some (.lst acc) → upd H2 D o b = some (.tup l) := fun {b l} e {acc o} e2 => by
    rw [upd_ne (ne_of e e2 (fun z => by cases z))]
    exact e
  match i, hi with
  | 0, _ =>
    have h : H1 D = some (.lst []) := h
    have h2 := s2 _ _ h
    exact ⟨[], h2, by show 0 < sizeLine; decide, hq _ ⟨(s1.trans s2).set nD, w, upd_same, kp hw h2⟩⟩
  | 1, _ =>
    obtain ⟨a, h, ha⟩ := h
    have h2 := s2 _ _ h
    exact ⟨_, h2, by show 1 < sizeLine; decide, hq _ ⟨(s1.trans s2).set nD, a, w, upd_same, kp (s2 _ _ ha) h2, kp hw h2⟩⟩
section
variable {P : Program} {w : World} {K : PySem.W.Frag} {mg : Str → Option Value} {base : Heap}
theorem b_lRefused (T : Defs K mg) : Binds K T.dLRefused ["_law_tape_here", "_law_hider", "_law_n", "_law_pair"] [] := T.FLRefused.binds fun _ _ _ _ _ _ us hl => match us, hl with | [_, _, _, _], _ => rfl
theorem ok_lRefused (T : Defs K mg) (B : Bad K mg P) (Z : ErrF K mg B.c) : FnG P w K mg base CX0 6 T.fLRefused (spLRefused T.cHid) := by
  have GT := ok_take (P := P) (w := w) (base := base) T
  have GR := ok_lRefuses (P := P) (w := w) (base := base) T B Z
  refine gOk T.FLRefused scLRefused (b_lRefused T) (fun vs H Q E h => ?_) (fun cdv A outer s H vs Q E hg hr h => ?_)
  · obtain ⟨t, x, r, p, a, b, n, xs, ys, rfl, _⟩ := h
    rfl
  · obtain ⟨t, x, r, p, a, b, n, xs, ys, rfl, ht, hx, hp, h1, h4, kq⟩ := h
    have hr1 : Room 1 _ := hr.mono (by decide)
    refine ⟨_, pss_cons (ps_set (i := 4) scLRefused.nd rfl (Or.inl rfl) (pe_call GT hr1 rfl T.mLTake T.FLTake.kp (b_take T) .nil pass0 (pa_cons (pv 0) (pa_cons pe_int pa_nil))))
      (pss_cons (ps_set (i := 5) scLRefused.nd rfl (Or.inl rfl) (pe_call GT hr1 rfl T.mLTake T.FLTake.kp (b_take T) .nil pass0 (pa_cons (pv 0) (pa_cons pe_int pa_nil))))
      (pss_cons (ps_setLc (i := 6) (own := [("_law_record_here", 7)]) (g := gName 7) (tt := tYes) (te := tSl (rSlA K) (tVar 7) (tPart (tC (.int 1))) tNoPart) rfl scLRefused.nd rfl rfl (sw_true rfl rfl rfl (by decide +kernel)) (pi_tup (pv 3)) (blkOk_by (N := nLRefused) (sc := defScope sLRefused) (by decide +kernel))
        (fun _ _ _ _ _ => pg_name (i := 7) scLRefused.nd rfl (Or.inl rfl)) (fun _ _ _ _ _ => pts_nil) (fun _ _ _ _ _ => pe_slice sl_tupA (pv 7) (po_some pe_int) po_none))
      (pss_cons (ps_if (pt_cmpR op_eq (pv 5) pe_int (nomark _))
        (pss_one (ps_setLc (i := 6) (own := [("_law_record_here", 7)]) (g := gName 7) (tt := tYes) (te := tOp (rCatA K) (tVar 7) (tTup (tCons (tC (.int 0)) tNil))) rfl scLRefused.nd rfl rfl (sw_true rfl rfl rfl (by decide +kernel)) (pi_tup (pv 3)) (blkOk_by (N := nLRefused) (sc := defScope sLRefused) (by decide +kernel))
          (fun _ _ _ _ _ => pg_name (i := 7) scLRefused.nd rfl (Or.inl rfl)) (fun _ _ _ _ _ => pts_nil) (fun _ _ _ _ _ => pe_op op_catA (pv 7) (pe_tup (pa_cons pe_int pa_nil))))) pss_nil)
      (pss_cons (ps_if (pt_cmpR op_eq (pv 4) pe_int (nomark _)) (pss_one (ps_ret (pe_callG GR hg hr rfl T.mLRefuses T.FLRefuses.kp pass0 (pa_cons (pv 1) (pa_cons (pe_ix ix_list (pv 6) pe_int (fun _ _ => rfl)) (pa_cons (pe_ix ix_tup (pv 3) pe_int (fun _ _ => rfl)) (pa_cons (pe_ix ix_list (pv 6) pe_int (fun _ _ => rfl)) pa_nil))))))) pss_nil)
      (pss_cons (ps_if (pt_cmpR op_eq (pv 4) pe_int (nomark _)) (pss_one (ps_ret (pe_callG GR hg hr rfl T.mLRefuses T.FLRefuses.kp pass0 (pa_cons (pv 1) (pa_cons (pe_ix ix_tup (pv 3) pe_int (fun _ _ => rfl)) (pa_cons (pe_ix ix_list (pv 6) pe_int (fun _ _ => rfl)) (pa_cons (pe_ix ix_list (pv 6) pe_int (fun _ _ => rfl)) pa_nil))))))) pss_nil)
      (pss_one (ps_ret (pe_callG GR hg hr rfl T.mLRefuses T.FLRefuses.kp pass0 (pa_cons (pv 1) (pa_cons (pe_ix ix_list (pv 6) pe_int (fun _ _ => rfl)) (pa_cons (pe_op op_catA (pe_ix ix_list (pv 6) pe_int (fun _ _ => rfl)) (pe_tup (pa_cons pe_int (pa_cons pe_int pa_nil)))) (pa_cons (pe_ix ix_list (pv 6) pe_int (fun _ _ => rfl)) pa_nil)))))))))))), ?_⟩
    refine ⟨_, rfl, t, 3, rfl, ht, by decide, by decide, fun pick H1 _ _ k1 t1 => ?_⟩
    refine ⟨_, rfl, t, 2, rfl, t1, by decide, by decide, fun lng H2 _ _ k2 t2 => ?_⟩
    obtain ⟨tc, tk, et, _⟩ := id ht
    obtain ⟨dx, hx0⟩ := id hx
    have k12 := k1.trans k2
    have hx2 : HidAt T.cHid H2 x n r := ⟨dx, k12 _ _ hx0 (ne_of hx0 et (fun z => by cases z))⟩
    have hp2 := hp.keep et (fun l z => by cases z) k12
    obtain ⟨p1, p2, p3, lx, ly, sx, sy⟩ := hp2
    have b0 : ∀ {u v : V}, atI [u, v] 0 = some u := fun {_ _} => rfl
    have b1 : ∀ {u v : V}, atI [u, v] 1 = some v := fun {_ _} => rfl
    have rec_at : ∀ (i : Nat) (v : V), ([V.ref a, V.ref b] : List V)[i]? = some v → i < 2 ∧ ∃ f zs, v = .ref f ∧ H2 f = some (.tup (zs.map V.int)) ∧ zs.length = n ∧ (∀ g : List Int → List Int, (if i = 0 then g xs else g ys) = g zs) := fun i v hv => by
      match i, hv with
      | 0, hv => exact ⟨by decide, a, xs, (Option.some.inj hv).symm, p2, lx, fun g => rfl⟩
      | 1, hv => exact ⟨by decide, b, ys, (Option.some.inj hv).symm, p3, ly, fun g => rfl⟩
      | i + 2, hv => cases hv
    refine ⟨_, rfl, p, rfl, ⟨_, SqT.of p1⟩, fun D nD => loop_tup (K := K) (a := p) (xs := [V.ref a, V.ref b]) (fun i H3 => Same H2 H3 ∧ Wr H3 D (xs.drop 1) (ys.drop 1) i) ⟨Same.new nD, upd_same⟩ (fun i H3 _ z => SqT.of (z.1 _ _ p1)) ?_ ?_⟩
    · rintro i v H3 hi ⟨s3, w3⟩
      obtain ⟨i2, f, zs, rfl, hf, lz, hg2⟩ := rec_at i v hi
      refine ⟨rfl, _, rfl, 1, rfl, f, _, rfl, SqT.of (s3 _ _ hf), fun z => ?_, fun _ u nu => ?_⟩
      · have z1 := z.1
        rw [show HT.sIx (zs.map V.int).length 0 (some 1) = min 1 (zs.map V.int).length from HT.sIx_nat _ _ 1, List.length_map, lz] at z1
        omega
      · exact wr_step i2 s3 nD w3 (fun H' q => q) u _ (Same.new nu) (by rw [upd_same, hg2 (fun l => l.drop 1), cut1])
    rintro H3 ⟨s3, wa, wb, hD, hwa, hwb⟩
    refine ⟨_, rfl, rfl, _, rfl, ?_⟩
    refine (fun (g : (∀ (l wa wb : Addr) (us vs : List Int) (H3 : Hp), (Same H2 H3 ∧ H3 l = some (.lst [.ref wa, .ref wb]) ∧ H3 wa = some (.tup (us.map V.int)) ∧ H3 wb = some (.tup (vs.map V.int)) ∧ Wrong n us ∧ Wrong n vs) → (?G : Addr → Hp → Prop) l H3)) => ?a) ?b
    case a =>
      refine ite2 (fun c => ?_) (fun c => ?_)
      · refine ⟨_, rfl, p, rfl, ⟨_, SqT.of (s3 _ _ p1)⟩, fun D2 nD2 => loop_tup (K := K) (a := p) (xs := [V.ref a, V.ref b]) (fun i H4 => Same H3 H4 ∧ Wr H4 D2 (xs ++ [0]) (ys ++ [0]) i) ⟨Same.new nD2, upd_same⟩ (fun i H4 _ z => SqT.of (z.1 _ _ (s3 _ _ p1))) ?_ ?_⟩
        · rintro i v H4 hi ⟨s4, w4⟩
          obtain ⟨i2, f, zs, rfl, hf, lz, hg2⟩ := rec_at i v hi
          refine ⟨rfl, _, rfl, (by show 1 ≤ sizeLine; decide), fun q nq => ?_⟩
          have s5 : Same H4 (upd H4 q (.tup [.int 0])) := Same.new nq
          refine ⟨f, q, _, _, rfl, rfl, SqT.of (s5 _ _ (s4 _ _ (s3 _ _ hf))), SqT.of upd_same, ?_, fun z => ?_, (fun _ z => by cases z), fun _ _ u nu => ?_⟩
          · rw [List.length_map, lz]
            exact Nat.le_of_lt (line100 (by show n + 1 ≤ 100; omega))
          · have z2 := congrArg List.length z
            rw [List.length_map, lz] at z2
            have : n = 0 := z2
            omega
          · exact wr_step i2 s4 nD2 w4 (fun H' q => q) u _ (s5.trans (Same.new nu)) (by rw [upd_same, hg2 (fun l => l ++ [0]), List.map_append]; rfl)
        · rintro H4 ⟨s4, wa, wb, hD4, hwa, hwb⟩
          exact g D2 wa wb _ _ H4 ⟨s3.trans s4, hD4, hwa, hwb, wrong_long lx h4 sx, wrong_long ly h4 sy⟩
      · exact g D wa wb _ _ H3 ⟨s3, hD, hwa, hwb, wrong_drop lx h1 h4 sx, wrong_drop ly h1 h4 sy⟩
    rintro l wa wb us vs H4 ⟨s4, hl, hwa, hwb, ⟨u1, u2, u3⟩, ⟨v1, v2, v3⟩⟩
    have hx4 := hx2.same s4
    have p14 := s4 _ _ p1
    have p24 := s4 _ _ p2
    have p34 := s4 _ _ p3
    have fin : ∀ H5, Same H4 H5 → Q (.bl true) H5 := fun H5 s5 => kq _ (k12.then_ (s4.trans s5)) (t2.same (s4.trans s5))
    have e1 : ∀ {u v : Addr}, V.ref (if us.length = n then u else v) = V.ref v := fun {u v} => by rw [if_neg u1]
    have e2 : ∀ {u v : Addr}, V.ref (if xs.length = n then u else v) = V.ref u := fun {u v} => by rw [if_pos lx]
    refine ⟨_, rfl, rfl, _, rfl, ?_⟩
    refine ite2 (fun _ => ?_) (fun _ => ⟨_, rfl, rfl, _, rfl, ?_⟩)
    · exact ⟨_, rfl, _, rfl, l, _, _, _, rfl, rfl, SqL.of hl, b0, _, rfl, p, _, _, _, rfl, rfl, SqT.of p14, b1, _, rfl, l, _, _, _, rfl, rfl, SqL.of hl, b0, x, r, wa, b, n, us, ys, by rw [e1], hx4, hwa, p34, .inl u1, by omega, by omega, u3, sy, fin⟩
    refine ite2 (fun _ => ?_) (fun _ => ?_)
    · exact ⟨_, rfl, _, rfl, p, _, _, _, rfl, rfl, SqT.of p14, b0, _, rfl, l, _, _, _, rfl, rfl, SqL.of hl, b1, _, rfl, l, _, _, _, rfl, rfl, SqL.of hl, b1, x, r, a, wb, n, xs, vs, by rw [e2], hx4, p24, hwb, .inr v1, by omega, by omega, sx, v3, fin⟩
    refine ⟨_, rfl, _, rfl, l, _, _, _, rfl, rfl, SqL.of hl, b0, _, rfl, l, _, _, _, rfl, rfl, SqL.of hl, b1, (by show 2 ≤ sizeLine; decide), fun c nc => ?_⟩
    have s5 : Same H4 (upd H4 c (.tup [.int 7, .int 7])) := Same.new nc
    have tail : ∀ (q : Addr) (H5 : Hp), Same (upd H4 c (.tup [.int 7, .int 7])) H5 → H5 q = some (.tup ((vs ++ [7, 7]).map V.int)) → spLRefuses T.cHid [.ref x, .ref wa, .ref q, .ref wa] H5 Q E0 := fun q H5 s6 hq => by
      have s46 := s5.trans s6
      refine ⟨x, r, wa, q, n, us, vs ++ [7, 7], by rw [e1], hx4.same s46, s46 _ _ hwa, hq, .inl u1, by omega, by rw [List.length_append]; show vs.length + 2 ≤ 20; omega, u3, fun z hz => ?_, fun H6 s7 => fin H6 (s46.trans s7)⟩
      rcases List.mem_append.mp hz with h | h
      · exact v3 z h
      · have : z = 7 := by simpa using h
        rw [this]
        exact ⟨by decide, by decide⟩
    refine ⟨wb, c, _, _, rfl, rfl, SqT.of (s5 _ _ hwb), SqT.of upd_same, ?_, fun z => ?_, (fun _ z => by cases z), fun _ _ q nq => ?_⟩
    · rw [List.length_map]
      exact Nat.le_of_lt (line100 (by show vs.length + 2 ≤ 100; omega))
    · have vz : vs = [] := List.map_eq_nil_iff.mp z
      refine ⟨_, rfl, l, _, _, _, rfl, rfl, SqL.of (s5 _ _ hl), b0, tail c _ (Same.refl _) ?_⟩
      rw [upd_same, vz]
      rfl
    · have s6 : Same (upd H4 c (.tup [.int 7, .int 7])) (upd (upd H4 c (.tup [.int 7, .int 7])) q (.tup (vs.map V.int ++ [.int 7, .int 7]))) := Same.new nq
      refine ⟨_, rfl, l, _, _, _, rfl, rfl, SqL.of (s6 _ _ (s5 _ _ hl)), b0, tail q _ s6 ?_⟩
      rw [upd_same, List.map_append]
      rfl
end
end K38

namespace K38
open PySem L2
/-! ### law -/
def spLaw (K : PySem.W.Frag) : Sp := fun vs H Q _ => ∃ (a : Addr) (ns : List Int), vs = [.ref a] ∧ SqL K H a (ns.map V.int) ∧ ∀ H', Q (.bl true) H'
abbrev nLaw : List Str := ["_law_script", "_law_tape_here", "_law_n", "_law_many", "_law_hider", "_law_second", "_law_chains_here", "_law_least", "_law_pair", "_law_step", "_law_others"]
theorem scLaw : FnScope nLaw ["_law_script"] (defScope sLaw) := ⟨rfl, rfl, rfl, by decide +kernel, rfl, by decide +kernel, by decide +kernel⟩
/-- what stands between two questions -/
structure LInv (F C : Addr) (K : PySem.W.Frag) (sc : Addr) (ns : List Int) (x x2 l : Addr) (n : Nat) (cs : List Ch) (least : Nat) (H : Hp) : Prop where
  sq : SqL K H sc (ns.map V.int)
  ne : x2 ≠ x
  h1 : ∃ r as, HidAt C H x n r ∧ H r = some (.lst (as.map V.ref)) ∧ Paired (FC F n H) as cs
  hl : ∃ ls, H l = some (.lst (ls.map V.ref)) ∧ Paired (LC n H) ls cs
  h2 : ∃ r as, HidAt C H x2 2 r ∧ H r = some (.lst (as.map V.ref)) ∧ Paired (FC F 2 H) as (ordered 2)
  le : cs.length ≤ 384
  lst : least ≤ cs.length
  pos : 1 ≤ least
theorem LInv.same {F C : Addr} {K : PySem.W.Frag} {sc : Addr} {ns : List Int} {x x2 l : Addr} {n : Nat} {cs : List Ch} {least : Nat} {H H' : Hp} (h : LInv F C K sc ns x x2 l n cs least H) (s : Same H H') : LInv F C K sc ns x x2 l n cs least H' := by
  obtain ⟨r, as, a1, a2, a3⟩ := h.h1
  obtain ⟨ls, b1, b2⟩ := h.hl
  obtain ⟨r2, as2, c1, c2, c3⟩ := h.h2
  exact ⟨s.seq h.sq, h.ne, ⟨r, as, a1.same s, s _ _ a2, paired_mono a3 fun _ _ z => z.mono s⟩, ⟨ls, s _ _ b1, paired_mono b2 fun _ _ z => z.mono s⟩, ⟨r2, as2, c1.same s, s _ _ c2, paired_mono c3 fun _ _ z => z.mono s⟩, h.le, h.lst, h.pos⟩
theorem seq_keep {K : PySem.W.Frag} {H H' : Hp} {x a dx C : Addr} {fs : List (Str × V)} {xs : List V} (h : SqL K H a xs) (hx : H x = some (.ins C dx fs)) (k : Keep x H H') : SqL K H' a xs := by
  rcases h with (h | ⟨o, h⟩) | h
  · exact .inl (.inl (k _ _ h (ne_of h hx (fun z => by cases z))))
  · exact .inl (.inr ⟨o, k _ _ h (ne_of h hx (fun z => by cases z))⟩)
  · exact .inr h
theorem rem_dat {F C : Addr} {K : PySem.W.Frag} {sc : Addr} {ns : List Int} {x x2 l : Addr} {n : Nat} {cs : List Ch} {least : Nat} {H : Hp} (h : LInv F C K sc ns x x2 l n cs least H) :
    ∃ (r : Addr) (as ls : List Addr), HidAt C H x n r ∧ H r = some (.lst (as.map V.ref)) ∧ Paired (FC F n H) as cs ∧ H l = some (.lst (ls.map V.ref)) ∧ Paired (LC n H) ls cs ∧ 1 ≤ cs.length := by
  obtain ⟨r, as, a1, a2, a3⟩ := h.h1
  obtain ⟨ls, b1, b2⟩ := h.hl
  have p := h.pos
  have q := h.lst
  exact ⟨r, as, ls, a1, a2, a3, b1, b2, by omega⟩
theorem b_law {K : PySem.W.Frag} {mg : Str → Option Value} (T : Defs K mg) : Binds K T.dLaw ["_law_script"] [] := T.FLaw.binds fun _ _ _ _ _ _ us hl => match us, hl with | [_], _ => rfl
section
variable {P : Program} {w : World} {K : PySem.W.Frag} {mg : Str → Option Value} {base : Heap}
theorem ok_law (T : Defs K mg) (iF : IsF K T.cFor) (B : Bad K mg P) (Z : ErrF K mg B.c) : FnG P w K mg base CX0 9 T.fLaw (spLaw K) := by
  have GT := ok_tape (P := P) (w := w) (base := base) T
  have GK := ok_take (P := P) (w := w) (base := base) T
  have GH := ok_hidInit (P := P) (w := w) (base := base) T
  have GC := ok_lChains (P := P) (w := w) (base := base) T
  have GM := ok_lRem (P := P) (w := w) (base := base) T iF
  have GA := ok_asked (P := P) (w := w) (base := base) T
  have GF := ok_lRefused (P := P) (w := w) (base := base) T B Z
  have GR := ok_lReply (P := P) (w := w) (base := base) T
  refine gOk T.FLaw scLaw (b_law T) (fun vs H Q E h => ?_) (fun cdv A outer s H vs Q E hg hr h => ?_)
  · obtain ⟨a, ns, rfl, _⟩ := h
    rfl
  · obtain ⟨a, ns, rfl, ha, kq⟩ := h
    have hr1 : Room 1 _ := hr.mono (by decide)
    have hr3 : Room 3 _ := hr.mono (by decide)
    have hr4 : Room 4 _ := hr.mono (by decide)
    have hr5 : Room 5 _ := hr.mono (by decide)
    have hr6 : Room 6 _ := hr.mono (by decide)
    refine ⟨_, pss_cons (ps_set (i := 1) scLaw.nd rfl (Or.inl rfl) (pe_call GT hr1 rfl T.mLTape T.FLTape.kp (b_tape T) .nil pass0 (pa_cons (pv 0) (pa_cons pe_int pa_nil))))
      (pss_cons (ps_set (i := 2) scLaw.nd rfl (Or.inl rfl) (pe_op op_add pe_int (pe_call GK hr1 rfl T.mLTake T.FLTake.kp (b_take T) .nil pass0 (pa_cons (pv 1) (pa_cons pe_int pa_nil)))))
      (pss_cons (ps_if (pt_cmpR op_eq (pe_call GK hr1 rfl T.mLTake T.FLTake.kp (b_take T) .nil pass0 (pa_cons (pv 1) (pa_cons pe_int pa_nil))) pe_int (nomark _)) (pss_one (ps_set (i := 2) scLaw.nd rfl (Or.inl rfl) pe_int)) pss_nil)
      (pss_cons (ps_set (i := 3) scLaw.nd rfl (Or.inl rfl) (pe_call GK hr1 rfl T.mLTake T.FLTake.kp (b_take T) .nil pass0 (pa_cons (pv 1) (pa_cons pe_int pa_nil))))
      (pss_cons (ps_if (pt_cmpR op_eq (pv 2) pe_int (nomark _)) (pss_one (ps_set (i := 3) scLaw.nd rfl (Or.inl rfl) (pe_op op_mod (pe_callTy call_int1 rfl T.b_int (by decide +kernel) (pa_cons (pv 3) pa_nil)) pe_int))) pss_nil)
      (pss_cons (ps_set (i := 4) scLaw.nd rfl (Or.inl rfl) (pe_make T.MHidInit GH hr rfl T.mHid (b_hidInit T) .nil pass0 (pa_cons (pv 2) pa_nil)))
      (pss_cons (ps_set (i := 5) scLaw.nd rfl (Or.inl rfl) (pe_make T.MHidInit GH hr rfl T.mHid (b_hidInit T) .nil pass0 (pa_cons pe_int pa_nil)))
      (pss_cons (ps_set (i := 6) scLaw.nd rfl (Or.inl rfl) (pe_callG GC hg hr3 rfl T.mLChains T.FLChains.kp pass0 (pa_cons (pv 2) pa_nil)))
      (pss_cons (ps_set (i := 7) scLaw.nd rfl (Or.inl rfl) (pe_callB call_len_seq rfl T.b_len PySem.boot_len (pa_cons (pv 6) pa_nil)))
      (pss_cons (ps_if (PW.pt (pw_or (pt_not (pt_val (pe_callG GM hg hr3 rfl T.mLRem T.FLRem.kp pass0 (pa_cons (pv 4) (pa_cons (pv 6) pa_nil))))) (pw_or1 (pt_not (pt_val (pe_callG GM hg hr3 rfl T.mLRem T.FLRem.kp pass0 (pa_cons (pv 4) (pa_cons (pv 6) pa_nil)))))))) (pss_one (ps_ret pe_bl)) pss_nil)
      (pss_cons (ps_set (i := 8) scLaw.nd rfl (Or.inl rfl) pe_non)
      (pss_cons (ps_for PassesOwn.never rfl (pi_range1 rfl T.b_range (pa_cons (pv 3) pa_nil)) (pg_name (i := 9) scLaw.nd rfl (Or.inl rfl))
        (pss_cons (ps_set (i := 1) scLaw.nd rfl (Or.inl rfl) (pe_call GT hr1 rfl T.mLTape T.FLTape.kp (b_tape T) .nil pass0 (pa_cons (pv 0) (pa_cons (pe_op op_add pe_int (pv 9)) pa_nil))))
        (pss_cons (ps_set (i := 8) scLaw.nd rfl (Or.inl rfl) (pe_call GA hr4 rfl T.mLAsked T.FLAsked.kp (b_asked T) .nil pass0 (pa_cons (pv 1) (pa_cons (pv 2) (pa_cons (pv 8) pa_nil)))))
        (pss_cons (ps_if (PW.pt (pw_and (pt_cmpR op_eq (pe_call GK hr1 rfl T.mLTake T.FLTake.kp (b_take T) .nil pass0 (pa_cons (pv 1) (pa_cons pe_int pa_nil))) pe_int (nomark _)) (pw_and1 (pt_not (pt_val (pe_callG GF hg hr6 rfl T.mLRefused T.FLRefused.kp pass0 (pa_cons (pv 1) (pa_cons (pv 4) (pa_cons (pv 2) (pa_cons (pv 8) pa_nil)))))))))) (pss_one (ps_ret pe_bl)) pss_nil)
        (pss_cons (ps_set (i := 6) scLaw.nd rfl (Or.inl rfl) (pe_callG GR hg hr5 rfl T.mLReply T.FLReply.kp pass0 (pa_cons (pv 4) (pa_cons (pv 6) (pa_cons (pv 8) pa_nil)))))
        (pss_cons (ps_if (PW.pt (pw_or (pt_cmp (pc_isN (pv 6))) (pw_or1 (pt_not (pt_val (pe_callG GM hg hr3 rfl T.mLRem T.FLRem.kp pass0 (pa_cons (pv 4) (pa_cons (pv 6) pa_nil)))))))) (pss_one (ps_ret pe_bl)) pss_nil)
        (pss_cons (ps_set (i := 7) scLaw.nd rfl (Or.inl rfl) (pe_op op_fdiv (pe_op op_add (pv 7) pe_int) pe_int))
        (pss_one (ps_if (pt_cmpR op_lt (pe_callB call_len_seq rfl T.b_len PySem.boot_len (pa_cons (pv 6) pa_nil)) (pv 7) (nomark _)) (pss_one (ps_ret pe_bl)) pss_nil)))))))))
      (pss_cons (ps_if (pt_not (pt_val (pe_callG GM hg hr3 rfl T.mLRem T.FLRem.kp pass0 (pa_cons (pv 4) (pa_cons (pv 6) pa_nil))))) (pss_one (ps_ret pe_bl)) pss_nil)
      (pss_cons (ps_set (i := 10) scLaw.nd rfl (Or.inl rfl) (pe_callG GC hg hr3 rfl T.mLChains T.FLChains.kp pass0 (pa_cons pe_int pa_nil)))
      (pss_cons (ps_if (pt_not (pt_val (pe_callG GM hg hr3 rfl T.mLRem T.FLRem.kp pass0 (pa_cons (pv 5) (pa_cons (pv 10) pa_nil))))) (pss_one (ps_ret pe_bl)) pss_nil)
      (pss_cons (ps_set (i := 10) scLaw.nd rfl (Or.inl rfl) (pe_callG GR hg hr5 rfl T.mLReply T.FLReply.kp pass0 (pa_cons (pv 5) (pa_cons (pv 10) (pa_cons (pe_call GA hr4 rfl T.mLAsked T.FLAsked.kp (b_asked T) .nil pass0 (pa_cons (pe_call GT hr1 rfl T.mLTape T.FLTape.kp (b_tape T) .nil pass0 (pa_cons (pv 0) (pa_cons pe_int pa_nil))) (pa_cons pe_int (pa_cons pe_non pa_nil)))) pa_nil)))))
      (pss_cons (ps_if (PW.pt (pw_or (pt_cmp (pc_isN (pv 10))) (pw_or1 (pt_not (pt_val (pe_callG GM hg hr3 rfl T.mLRem T.FLRem.kp pass0 (pa_cons (pv 5) (pa_cons (pv 10) pa_nil)))))))) (pss_one (ps_ret pe_bl)) pss_nil)
      (pss_one (ps_ret (pe_callG GM hg hr3 rfl T.mLRem T.FLRem.kp pass0 (pa_cons (pv 4) (pa_cons (pv 6) pa_nil))))))))))))))))))))), ?_⟩
    refine ⟨_, rfl, a, ns, 0, rfl, ha, fun H1 t0 s1 n1 t1 => ?_⟩
    refine ⟨_, rfl, t0, 3, rfl, t1, by decide, by decide, fun r H2 r0 r3 k2 t2 => ⟨_, _, rfl, rfl, ?_⟩⟩
    obtain ⟨k0, rfl⟩ := Int.eq_ofNat_of_zero_le r0
    have k3' : (k0 : Int) < 3 := r3
    refine ⟨_, rfl, t0, 5, rfl, t2, by decide, by decide, fun r' H3 _ _ k3 t3 => ⟨rfl, _, rfl, ?_⟩⟩
    refine (fun (g : (∀ k : Nat, k < 4 → (?G : Nat → Prop) k)) => ?a) ?b
    case a =>
      refine ite2 (fun c => ?t) (fun c => ?f)
      case f =>
        generalize hk1 : k0 = k1
        exact g k1 (by omega)
      case t => exact g 3 (by decide)
    intro k hk4
    have h1 : 1 ≤ 1 + k := by omega
    have h4 : 1 + k ≤ 4 := by omega
    refine ⟨_, rfl, t0, 13, rfl, t3, by decide, by decide, fun m H4 m0 m13 k4 t4 => ⟨_, rfl, rfl, _, rfl, ?_⟩⟩
    refine (fun (g : (∀ m : Int, 0 ≤ m → m ≤ 12 → (?G2 : Int → Prop) m)) => ?a2) ?b2
    case a2 =>
      refine ite2 (fun c => ?t2) (fun c => ?f2)
      case f2 =>
        have m13 : m < 13 := m13
        generalize hm1 : m = m1
        exact g m1 (by omega) (by omega)
      case t2 =>
        have z1 : 0 ≤ m % 5 := Int.emod_nonneg _ (by decide)
        have z2 : m % 5 < 5 := Int.emod_lt_of_pos _ (by decide)
        exact ⟨_, rfl, .inl ⟨_, rfl, _, _, rfl, rfl, (by show (0 : Int) < 5; decide), g _ z1 (by omega)⟩⟩
    intro m m0 m12
    have s04 : Same H H4 := fun b o e => k4 _ _ (k3 _ _ (k2 _ _ (s1 _ _ e) (ne_of_none e n1)) (ne_of_none e n1)) (ne_of_none e n1)
    -- the two hiders
    refine ⟨_, rfl, fun x dx nx ndx nxd => ?_⟩
    have s45 : Same H4 (upd (upd H4 dx (.own x)) x (.ins T.cHid dx [])) := (Same.new ndx).set nx
    refine ⟨x, dx, 1 + k, rfl, upd_same, h1, h4, fun H5 r as k5 hx5 nr5 hr5 hp5 => ⟨rfl, ?_⟩⟩
    have s5 : Same H4 H5 := Same.keep_new s45 k5 nx
    refine fun x2 dx2 nx2 ndx2 nxd2 => ?_
    have s56 : Same H5 (upd (upd H5 dx2 (.own x2)) x2 (.ins T.cHid dx2 [])) := (Same.new ndx2).set nx2
    refine ⟨x2, dx2, 2, rfl, upd_same, by decide, by decide, fun H6 r2 as2 k6 hx6 nr6 hr6 hp6 => ⟨rfl, ?_⟩⟩
    have s6 : Same H5 H6 := Same.keep_new s56 k6 nx2
    have ne2 : x2 ≠ x := by
      obtain ⟨dz, hz⟩ := hx5
      exact fun z => (ne_of_none hz nx2) z.symm
    refine ⟨_, rfl, 1 + k, rfl, h1, h4, fun H7 l ls s7 nl hl7 pl7 => ?_⟩
    have s67 := s6.trans s7
    have m4 := four h1 h4
    have hL : (ls.map V.ref).length = (ordered (1 + k)).length := by rw [List.length_map, Paired.length pl7]
    have hL2 := (raw_len _ m4)
    have hO := ordered_len m4
    refine ⟨_, rfl, l, _, rfl, .inl (SqL.of hl7), ?_⟩
    rw [hL]
    have inv7 : LInv T.cFor T.cHid K a ns x x2 l (1 + k) (ordered (1 + k)) (ordered (1 + k)).length H7 :=
      ⟨((s04.trans s5).trans s67).seq ha, ne2, ⟨r, as, hx5.same s67, s67 _ _ hr5, paired_mono hp5 fun _ _ z => z.mono s67⟩, ⟨ls, hl7, pl7⟩, ⟨r2, as2, hx6.same s7, s7 _ _ hr6, paired_mono hp6 fun _ _ z => z.mono s7⟩, by omega, Nat.le_refl _, by omega⟩
    obtain ⟨r7, as7, ls7, d1, d2, d3, d4, d5, d6⟩ := rem_dat inv7
    refine ⟨_, rfl, _, rfl, x, r7, l, 1 + k, as7, ls7, _, rfl, d1, d2, d3, d4, d5, h1, h4, d6, inv7.le, fun H8 s8 => ⟨_, rfl, ifF rfl ?_⟩⟩
    obtain ⟨r8, as8, ls8, d1, d2, d3, d4, d5, d6⟩ := rem_dat (inv7.same s8)
    refine ⟨_, rfl, _, rfl, x, r8, l, 1 + k, as8, ls8, _, rfl, d1, d2, d3, d4, d5, h1, h4, d6, inv7.le, fun H9 s9 => ⟨_, rfl, ifF rfl ?_⟩⟩
    have inv9 := (inv7.same s8).same s9
    refine ⟨_, rfl, m, rfl, by omega, by omega, ?_⟩
    refine for_range (lo := 0) (n := _) (fun i σ H => ∃ (v1 v9 : Option V) (l : Addr) (cs : List Ch) (least : Nat) (pr : V), σ = [some (.ref a), v1, some (.int ((1 + k : Nat) : Int)), some (.int m), some (.ref x), some (.ref x2), some (.ref l), some (.int (least : Int)), some pr, v9, none] ∧
        LInv T.cFor T.cHid K a ns x x2 l (1 + k) cs least H ∧ (pr = .non ∨ ∃ p a b xs ys, pr = .ref p ∧ PairAt (1 + k) H p a b xs ys))
      ⟨_, _, l, _, _, .non, rfl, inv9, .inl rfl⟩ ?_ ?_
    · rintro i σ H hi ⟨v1, v9, l, cs, least, pr, rfl, inv, hpr⟩
      refine ⟨_, rfl, _, rfl, _, _, rfl, rfl, a, ns, 1 + (0 + i), rfl, inv.sq, fun H1 t s1 n1 t1 => ?_⟩
      have hpr1 : pr = .non ∨ ∃ p a b xs ys, pr = .ref p ∧ PairAt (1 + k) H1 p a b xs ys := by
        rcases hpr with e | ⟨p, a, b, xs, ys, e, z⟩
        · exact .inl e
        · exact .inr ⟨p, a, b, xs, ys, e, z.same s1⟩
      refine ⟨_, rfl, _, rfl, _, rfl, t, 1 + k, pr, rfl, t1, by omega, hpr1, fun H2 p pa pb xs ys k2 t2 hp2 => ?_⟩
      refine ⟨_, rfl, t, 5, rfl, t2, by decide, by decide, fun rr H3 _ _ k3 t3 => ?_⟩
      obtain ⟨tc, tk, et, _⟩ := id t2
      have hp3 := hp2.keep et (fun l z => by cases z) k3
      have s03 : Same H H3 := Same.keep_new s1 (k2.trans k3) n1
      have cond : Same H H3 ∧ PairAt (1 + k) H3 p pa pb xs ys := ⟨s03, hp3⟩
      refine (fun (g : (∀ H5 : Hp, (Same H H5 ∧ PairAt (1 + k) H5 p pa pb xs ys) → (?G3 : Hp → Prop) H5)) => ?a3) ?b3
      case a3 =>
        refine ⟨rfl, _, rfl, ?_⟩
        refine ite2 (fun c => ?t3) (fun c => ?f3)
        case t3 =>
          obtain ⟨r3, as3, hx3, _⟩ := inv.h1
          obtain ⟨tc3, tk3, et3, _⟩ := id t3
          refine ⟨_, rfl, _, rfl, _, rfl, _, rfl, t, x, r3, p, pa, pb, 1 + k, xs, ys, rfl, t3, hx3.same s03, hp3, h1, h4, fun H5 k5 t5 => ⟨_, rfl, ifF rfl ?_⟩⟩
          exact g H5 ⟨Same.keep_new s1 ((k2.trans k3).trans k5) n1, hp3.keep et3 (fun l z => by cases z) k5⟩
        case f3 =>
          refine ifF rfl ?_
          exact g H3 cond
      rintro H5 ⟨s5, hp5⟩
      have inv5 := inv.same s5
      obtain ⟨r5, as5, ls5, d1, d2, d3, d4, d5, d6⟩ := rem_dat inv5
      obtain ⟨dx5, hx5'⟩ := id d1
      refine ⟨_, rfl, _, rfl, _, rfl, x, r5, l, p, pa, pb, 1 + k, as5, ls5, cs, xs, ys, rfl, d1, d2, d3, d4, d5, hp5, h1, h4, inv.le, fun H6 r6 as6 l6 ls6 k6 hx6 hr6 hp6 hl6 hq6 => ?_⟩
      have kl := kept_len cs xs ys
      have i1 := inv.lst
      have i2 := inv.pos
      have i3 := inv.le
      have i4 : (keptC cs xs ys).length ≤ cs.length := List.length_filter_le _ _
      have inv6 : LInv T.cFor T.cHid K a ns x x2 l6 (1 + k) (keptC cs xs ys) ((least + 1) / 2) H6 := by
        obtain ⟨r2', as2', ⟨dz, c1⟩, c2, c3⟩ := inv5.h2
        exact ⟨seq_keep inv5.sq hx5' k6, inv.ne, ⟨r6, as6, hx6, hr6, hp6⟩, ⟨ls6, hl6, hq6⟩, ⟨r2', as2', ⟨dz, k6 _ _ c1 inv.ne⟩, k6 _ _ c2 (ne_of c2 hx5' (fun z => by cases z)), paired_mono c3 fun _ _ z => z.ins hx5' (Nat.le_refl 2) k6⟩, by omega, by omega, by omega⟩
      have hp6' := hp5.keep hx5' (fun l z => by cases z) k6
      refine ⟨_, rfl, _, rfl, ifF rfl ?_⟩
      obtain ⟨r7', as7', ls7', d1, d2, d3, d4, d5, d6⟩ := rem_dat inv6
      refine ⟨_, rfl, _, rfl, x, r7', l6, 1 + k, as7', ls7', _, rfl, d1, d2, d3, d4, d5, h1, h4, d6, inv6.le, fun H7 s7 => ⟨_, rfl, ifF rfl ?_⟩⟩
      have inv7 := inv6.same s7
      refine ⟨_, rfl, _, _, rfl, rfl, _, _, rfl, rfl, ⟨by decide, by decide⟩, ?_⟩
      obtain ⟨ls8, e1, e2⟩ := inv7.hl
      refine ⟨_, rfl, l6, _, rfl, .inl (SqL.of e1), _, rfl, _, _, rfl, rfl, _, rfl, ?_⟩
      refine ifF (decide_eq_false ?_) ?_
      · rw [List.length_map, Paired.length e2]
        have i5 := inv7.lst
        show ¬ (((keptC cs xs ys).length : Nat) : Int) < (((least + 1) / 2 : Nat) : Int)
        omega
      · exact ⟨_, _, l6, _, (least + 1) / 2, .ref p, rfl, inv7, .inr ⟨p, pa, pb, xs, ys, rfl, hp6'.same s7⟩⟩
    · rintro σ H ⟨v1, v9, l, cs, least, pr, rfl, inv, hpr⟩
      obtain ⟨r5, as5, ls5, d1, d2, d3, d4, d5, d6⟩ := rem_dat inv
      refine ⟨_, rfl, _, rfl, x, r5, l, 1 + k, as5, ls5, _, rfl, d1, d2, d3, d4, d5, h1, h4, d6, inv.le, fun H1 s1 => ⟨_, rfl, ifF rfl ?_⟩⟩
      have inv1 := inv.same s1
      refine ⟨2, rfl, by decide, by decide, fun H2 l2 ls2 s2 n2 hl2 hq2 => ?_⟩
      have inv2 := inv1.same s2
      have two := raw_len 2 (by decide)
      have o2 := ordered_len (n := 2) (by decide)
      obtain ⟨r2, as2, c1, c2, c3⟩ := inv2.h2
      refine ⟨_, rfl, _, rfl, x2, r2, l2, 2, as2, ls2, _, rfl, c1, c2, c3, hl2, hq2, by decide, by decide, by omega, by omega, fun H3 s3 => ⟨_, rfl, ifF rfl ?_⟩⟩
      have inv3 := inv2.same s3
      refine ⟨_, rfl, _, rfl, _, rfl, a, ns, 20, rfl, inv3.sq, fun H4 t s4 n4 t4 => ?_⟩
      refine ⟨t, 2, .non, rfl, t4, by decide, .inl rfl, fun H5 p pa pb xs ys k5 t5 hp5 => ?_⟩
      have s35 : Same H3 H5 := Same.keep_new s4 k5 n4
      have s25 := s3.trans s35
      have inv5 := inv3.same s35
      obtain ⟨⟨dz, c1'⟩, _⟩ := And.intro c1 True.intro
      have hz5 := s25 _ _ c1'
      refine ⟨x2, r2, l2, p, pa, pb, 2, as2, ls2, _, xs, ys, rfl, ⟨dz, hz5⟩, s25 _ _ c2, paired_mono c3 (fun _ _ z => z.mono s25), s25 _ _ hl2, paired_mono hq2 (fun _ _ z => z.mono s25), hp5, by decide, by decide, by omega, fun H6 r6 as6 l6 ls6 k6 hx6 hr6 hp6 hl6 hq6 => ?_⟩
      have kl := kept_len (ordered 2) xs ys
      have i4 : (keptC (ordered 2) xs ys).length ≤ (ordered 2).length := List.length_filter_le _ _
      refine ⟨_, rfl, _, rfl, ifF rfl ?_⟩
      refine ⟨_, rfl, _, rfl, x2, r6, l6, 2, as6, ls6, _, rfl, hx6, hr6, hp6, hl6, hq6, by decide, by decide, by omega, by omega, fun H7 s7 => ⟨_, rfl, ifF rfl ?_⟩⟩
      -- the first hider is as it was
      obtain ⟨r8, as8, ls8, ⟨du, d1⟩, d2, d3, d4, d5, d6⟩ := rem_dat inv5
      have kx : ∀ {u : Addr} {o : HO}, H5 u = some o → u ≠ x2 → H7 u = some o := fun {u o} h ne => s7 _ _ (k6 _ _ h ne)
      refine ⟨_, rfl, _, rfl, x, r8, l, 1 + k, as8, ls8, _, rfl, ⟨du, kx d1 (Ne.symm inv.ne)⟩, kx d2 (ne_of d2 hz5 (fun z => by cases z)), paired_mono d3 (fun _ _ z => (z.ins hz5 (Nat.le_refl 2) k6).mono s7), kx d4 (ne_of d4 hz5 (fun z => by cases z)), paired_mono d5 (fun _ _ z => (z.ins hz5 k6).mono s7), h1, h4, d6, inv.le, fun H8 _ => kq H8⟩
end
end K38

namespace K38
open PySem PySem.Spec PyProof.Rows L2
/-! ### the end: law called from outside, no repr being under way -/
theorem script_at {P : Program} {w : World} {K : PySem.W.Frag} {s : Shared} {a : Addr} {vs : List Value} {ns : List Int} (KX : K.In s.heap) (ha : s.heap.get? a = some { cls := .type "list", data := .seq vs.toArray }) (hi : IntsAre vs ns) (hl : ns.length ≤ sizeLine) :
    ∃ H : Hp, SqL K H a (ns.map V.int) ∧ HOk P w H s.heap ∧ ∀ b u, H b = some u → b = a ∧ K.lookup a = none ∧ u = .frz { cls := .type "list", data := .seq vs.toArray } (.lst (ns.map V.int)) := by
  have hv : vs.length = ns.length := hi.length
  cases hk : K.lookup a with
  | some o =>
    have e := (KX a o hk).symm.trans ha
    cases e
    exact ⟨fun _ => none, .inr ⟨_, vs.toArray, _, hk, rfl, rfl, rfl, by rw [List.size_toArray, hv]; exact hl, by simpa using vals_ints hi⟩, (fun b u z => by cases z), (fun b u z => by cases z)⟩
  | none =>
    have key : ∀ b u, (if b = a then some (HO.frz { cls := .type "list", data := .seq vs.toArray } (.lst (ns.map V.int))) else none) = some u → b = a ∧ u = .frz { cls := .type "list", data := .seq vs.toArray } (.lst (ns.map V.int)) := fun b u z => by
      by_cases c : b = a
      · rw [if_pos c] at z
        exact ⟨c, (Option.some.inj z).symm⟩
      · rw [if_neg c] at z
        cases z
    refine ⟨fun b => if b = a then some (.frz { cls := .type "list", data := .seq vs.toArray } (.lst (ns.map V.int))) else none, .inl (.inr ⟨_, if_pos rfl⟩), fun b u z => ?_, fun b u z => ⟨(key b u z).1, rfl, (key b u z).2⟩⟩
    obtain ⟨rfl, rfl⟩ := key b u z
    exact ⟨ha, by rw [List.length_map]; exact hl, vs, _, vals_ints hi, ha⟩
theorem law_g {P : Program} {w : World} {K : PySem.W.Frag} {mg mb : Str → Option Value} {k : Nat} {fa a : Addr} {s : Shared} {vs : List Value} {ns : List Int}
    (KX : K.In s.heap) (hns : s.heap.Ns mainGlobals mg) (hb : s.heap.Ns builtinsNs mb) (hbb : ∀ x : Str, x ≠ "__name__" → mb x = bootBuiltins x) (hlim : s.heap.NoLimit) (hg : s.gens = #[])
    (ha : s.heap.get? a = some { cls := .type "list", data := .seq vs.toArray }) (hi : IntsAre vs ns) (hl : ns.length ≤ sizeLine) (hr : Room k callerA)
    (F : ∀ base : Heap, FnG P w K mg base CX0 k fa (spLaw K)) :
    codeAny (model P w) callerA (.call (.ref fa) ⟨[.ref a], []⟩) (fun r s' => r = .ok (.ret (.bool true)) ∧ OldK s.heap s'.heap ∧ s'.os = s.os ∧ AllBare s'.gens) s := by
  obtain ⟨H, hS, hok, hH⟩ := script_at (P := P) (w := w) KX ha hi hl
  have free : ∀ {b : Addr} {o : Obj}, s.heap.get? b = some o → (b = a → K.lookup a = none → False) → (hidT s.heap H).get? b = some o := fun {b o} e n => hidT_get e (by
    cases q : H b with
    | none => rfl
    | some u => exact (n (hH b u q).1 (hH b u q).2.1).elim)
  have ns1 : ∀ {b : Addr} {m : Str → Option Value}, s.heap.Ns b m → (hidT s.heap H).Ns b m := fun {b m} z => by
    obtain ⟨o, es, ep, e, d, r⟩ := z
    refine ⟨o, es, ep, free e (fun eb _ => ?_), d, r⟩
    subst eb
    rw [ha] at e
    cases e
    cases d
  have K1 : K.In (hidT s.heap H) := fun b o e => free (KX b o e) fun eb z => by
    rw [← eb, show K.lookup b = some o from e] at z
    cases z
  have M : Mod K mg (hidT s.heap H) := by
    obtain ⟨mc, l1, l2⟩ := hlim
    exact ⟨K1, ns1 hns, ⟨mb, ns1 hb, hbb⟩, ⟨mc, ns1 l1, l2⟩⟩
  have e0 : Env0 P w K mg (hidT s.heap H) callerA [] s H := ⟨rfl, M, fun b o e => of_hidT e, Nat.le_of_eq (hidT_size _ _), trivial, fun b hb => absurd (show b ∈ ([] : List Addr) from hb) (by simp), hok, .of_eq hg⟩
  refine codeAny_mono (F _ callerA [] s H [.ref a] [.ref a] (fun v _ => v = .bl true) E0 rfl hr e0 (.cons rfl .nil) ⟨a, ns, rfl, hS, fun _ => rfl⟩) fun r s' h => ?_
  match r, h with
  | .error e, h => exact h.elim
  | .ok .next, h => exact h.elim
  | .ok .brk, h => exact h.elim
  | .ok .cont, h => exact h.elim
  | .ok (.ret u), h =>
    obtain ⟨v, H', os, bare, un, hok', r', q⟩ := h
    obtain rfl : v = .bl true := q
    obtain rfl : u = Value.bool true := r'
    refine ⟨rfl, OldK.of_keep fun b o e => ?_, os, bare⟩
    cases q : H b with
    | none => exact un.keep b o e q (fun z => absurd (show b ∈ ([] : List Addr) from z) (by simp)) (by simp)
    | some u =>
      obtain ⟨eb, _, eu⟩ := hH b u q
      subst eb eu
      have z1 := (hok' b _ (un.frzs b _ _ q)).1
      rw [ha] at e
      cases e
      exact z1
theorem walk_g {l : PySem.W.OpenLaw} {n k : Nat} {q : Program} {loose : List Str} {XP : (Str → Option Value) → Heap → Prop} {YP : World → Heap → Prop} {d : DefRec} {K : Params → PySem.W.Frag}
    (hn : l.most = some n) (hn2 : n ≤ sizeLine) (hdf : d.params.defaults = []) (hr : Room k callerA) (hY : ∀ (w : World) (h : Heap), YP w h → (K w.params).In h)
    (F : ∀ (w : World) (mg : Str → Option Value) (fa : Addr) (h : Heap), (K w.params).In h → h.Ns mainGlobals mg → mg d.name = some (.ref fa) → ∀ base : Heap, FnG l.prog w (K w.params) mg base CX0 k fa (spLaw (K w.params))) :
    PySem.W.WalkO q loose XP YP l.row.toRowW d [] (fun f vs => PySem.call f vs) := by
  refine Att.attach_call hn hdf fun w s₀ s₁ mg mb fa o pm cd doc a vs ns G Y ho hd hcd hmg hobj hints hlen hg => ?_
  have KX := hY w _ Y
  exact law_g KX G.T.g G.T.b G.T.builtins G.T.nolimit hg hobj hints (Nat.le_trans hlen hn2) hr (F w mg fa _ KX G.T.g hmg)
end K38

namespace K38
open PySem L2
theorem kit_self {K : PySem.W.Frag} {C : Addr} : PySem.W.kitOne K (.ref C) (.ref C) = some true := by
  unfold PySem.W.kitOne
  rw [if_pos (beq_self_eq_true _)]
/-- what the top has written (each a fact that k_is finds) -/
theorem all_mk {P : Program} {w : World} {K : PySem.W.Frag} {h : Heap} {mg : Str → Option Value} {fa : Addr} {fBetter fPathOf fFirstUn fMerged fChkRec fChkFair fNevEnd fChkShape fLastFree fShapeW fNumOf fTurns fKinds fChains fLTape fLTake fLValue fLRecord fLWord fLNumber fLTurns fLKinds fLChains fLSide fLAsked fLRem fLRefuses fLRefused fLReply fLaw cFor cHid fForInit fForCall fForPath fHidInit fHidReply fHidRem cB fB ccB cdB cFE cNR cBA NB : Addr} (X : K.In h) (G : h.Ns mainGlobals mg) (hfa : mg "law" = some (.ref fa))
    {odBetter anBetter : Option Addr} {slBetter : Array (Option Value)} {ocBetter kVBetter dcBetter pmBetter cdBetter ctBetter : Value}
    {odPathOf anPathOf : Option Addr} {slPathOf : Array (Option Value)} {ocPathOf kVPathOf dcPathOf pmPathOf cdPathOf ctPathOf : Value}
    {odFirstUn anFirstUn : Option Addr} {slFirstUn : Array (Option Value)} {ocFirstUn kVFirstUn dcFirstUn pmFirstUn cdFirstUn ctFirstUn : Value}
    {odMerged anMerged : Option Addr} {slMerged : Array (Option Value)} {ocMerged kVMerged dcMerged pmMerged cdMerged ctMerged : Value}
    {odChkRec anChkRec : Option Addr} {slChkRec : Array (Option Value)} {ocChkRec kVChkRec dcChkRec pmChkRec cdChkRec ctChkRec : Value}
    {odChkFair anChkFair : Option Addr} {slChkFair : Array (Option Value)} {ocChkFair kVChkFair dcChkFair pmChkFair cdChkFair ctChkFair : Value}
    {odNevEnd anNevEnd : Option Addr} {slNevEnd : Array (Option Value)} {ocNevEnd kVNevEnd dcNevEnd pmNevEnd cdNevEnd ctNevEnd : Value}
    {odChkShape anChkShape : Option Addr} {slChkShape : Array (Option Value)} {ocChkShape kVChkShape dcChkShape pmChkShape cdChkShape ctChkShape : Value}
    {odLastFree anLastFree : Option Addr} {slLastFree : Array (Option Value)} {ocLastFree kVLastFree dcLastFree pmLastFree cdLastFree ctLastFree : Value}
    {odShapeW anShapeW : Option Addr} {slShapeW : Array (Option Value)} {ocShapeW kVShapeW dcShapeW pmShapeW cdShapeW ctShapeW : Value}
    {odNumOf anNumOf : Option Addr} {slNumOf : Array (Option Value)} {ocNumOf kVNumOf dcNumOf pmNumOf cdNumOf ctNumOf : Value}
    {odTurns anTurns : Option Addr} {slTurns : Array (Option Value)} {ocTurns kVTurns dcTurns pmTurns cdTurns ctTurns : Value}
    {odKinds anKinds : Option Addr} {slKinds : Array (Option Value)} {ocKinds kVKinds dcKinds pmKinds cdKinds ctKinds : Value}
    {odChains anChains : Option Addr} {slChains : Array (Option Value)} {ocChains kVChains dcChains pmChains cdChains ctChains : Value}
    {odLTape anLTape : Option Addr} {slLTape : Array (Option Value)} {ocLTape kVLTape dcLTape pmLTape cdLTape ctLTape : Value}
    {odLTake anLTake : Option Addr} {slLTake : Array (Option Value)} {ocLTake kVLTake dcLTake pmLTake cdLTake ctLTake : Value}
    {odLValue anLValue : Option Addr} {slLValue : Array (Option Value)} {ocLValue kVLValue dcLValue pmLValue cdLValue ctLValue : Value}
    {odLRecord anLRecord : Option Addr} {slLRecord : Array (Option Value)} {ocLRecord kVLRecord dcLRecord pmLRecord cdLRecord ctLRecord : Value}
    {odLWord anLWord : Option Addr} {slLWord : Array (Option Value)} {ocLWord kVLWord dcLWord pmLWord cdLWord ctLWord : Value}
    {odLNumber anLNumber : Option Addr} {slLNumber : Array (Option Value)} {ocLNumber kVLNumber dcLNumber pmLNumber cdLNumber ctLNumber : Value}
    {odLTurns anLTurns : Option Addr} {slLTurns : Array (Option Value)} {ocLTurns kVLTurns dcLTurns pmLTurns cdLTurns ctLTurns : Value}
    {odLKinds anLKinds : Option Addr} {slLKinds : Array (Option Value)} {ocLKinds kVLKinds dcLKinds pmLKinds cdLKinds ctLKinds : Value}
    {odLChains anLChains : Option Addr} {slLChains : Array (Option Value)} {ocLChains kVLChains dcLChains pmLChains cdLChains ctLChains : Value}
    {odLSide anLSide : Option Addr} {slLSide : Array (Option Value)} {ocLSide kVLSide dcLSide pmLSide cdLSide ctLSide : Value}
    {odLAsked anLAsked : Option Addr} {slLAsked : Array (Option Value)} {ocLAsked kVLAsked dcLAsked pmLAsked cdLAsked ctLAsked : Value}
    {odLRem anLRem : Option Addr} {slLRem : Array (Option Value)} {ocLRem kVLRem dcLRem pmLRem cdLRem ctLRem : Value}
    {odLRefuses anLRefuses : Option Addr} {slLRefuses : Array (Option Value)} {ocLRefuses kVLRefuses dcLRefuses pmLRefuses cdLRefuses ctLRefuses : Value}
    {odLRefused anLRefused : Option Addr} {slLRefused : Array (Option Value)} {ocLRefused kVLRefused dcLRefused pmLRefused cdLRefused ctLRefused : Value}
    {odLReply anLReply : Option Addr} {slLReply : Array (Option Value)} {ocLReply kVLReply dcLReply pmLReply cdLReply ctLReply : Value}
    {odLaw anLaw : Option Addr} {slLaw : Array (Option Value)} {ocLaw kVLaw dcLaw pmLaw cdLaw ctLaw : Value}
    {odForInit anForInit : Option Addr} {slForInit : Array (Option Value)} {ocForInit kVForInit dcForInit pmForInit cdForInit ctForInit : Value}
    {odForCall anForCall : Option Addr} {slForCall : Array (Option Value)} {ocForCall kVForCall dcForCall pmForCall cdForCall ctForCall : Value}
    {odForPath anForPath : Option Addr} {slForPath : Array (Option Value)} {ocForPath kVForPath dcForPath pmForPath cdForPath ctForPath : Value}
    {odHidInit anHidInit : Option Addr} {slHidInit : Array (Option Value)} {ocHidInit kVHidInit dcHidInit pmHidInit cdHidInit ctHidInit : Value}
    {odHidReply anHidReply : Option Addr} {slHidReply : Array (Option Value)} {ocHidReply kVHidReply dcHidReply pmHidReply cdHidReply ctHidReply : Value}
    {odHidRem anHidRem : Option Addr} {slHidRem : Array (Option Value)} {ocHidRem kVHidRem dcHidRem pmHidRem cdHidRem ctHidRem : Value}
    {tMost : Tok}
    {odB cldB cddB ddB : Option Addr} {slB cslB ccsB : Array (Option Value)} {ocB dcB pmB ctB clB cclB : Value} {vsB : Array Value} {fileB nmB qnB : Str} {tfB : Tok} {bsB bmB subB : List Value} {snB : List Str} {abB : Bool} {colB : Option Bool} {k0B k1B k2B k3B k5B : Option Value}
    (aBetter : PySem.W.nsIn K mainGlobals "better" = some (some (.ref fBetter)))
    (lBetter : K.lookup fBetter = some ⟨ocBetter, odBetter, .func (PySem.W.fnOf "better" "better" (defArgs sBetter) (defBody sBetter) (defScope sBetter) .none kVBetter dcBetter pmBetter anBetter cdBetter ctBetter), slBetter⟩)
    (cBetter : PySem.W.codeIn K cdBetter "better" = true)
    (kBetter : PySem.W.keepIn K (.ref fBetter) = true)
    (aPathOf : PySem.W.nsIn K mainGlobals "path_of" = some (some (.ref fPathOf)))
    (lPathOf : K.lookup fPathOf = some ⟨ocPathOf, odPathOf, .func (PySem.W.fnOf "path_of" "path_of" (defArgs sPathOf) (defBody sPathOf) (defScope sPathOf) .none kVPathOf dcPathOf pmPathOf anPathOf cdPathOf ctPathOf), slPathOf⟩)
    (cPathOf : PySem.W.codeIn K cdPathOf "path_of" = true)
    (kPathOf : PySem.W.keepIn K (.ref fPathOf) = true)
    (aFirstUn : PySem.W.nsIn K mainGlobals "first_unlike_on" = some (some (.ref fFirstUn)))
    (lFirstUn : K.lookup fFirstUn = some ⟨ocFirstUn, odFirstUn, .func (PySem.W.fnOf "first_unlike_on" "first_unlike_on" (defArgs sFirstUn) (defBody sFirstUn) (defScope sFirstUn) .none kVFirstUn dcFirstUn pmFirstUn anFirstUn cdFirstUn ctFirstUn), slFirstUn⟩)
    (cFirstUn : PySem.W.codeIn K cdFirstUn "first_unlike_on" = true)
    (kFirstUn : PySem.W.keepIn K (.ref fFirstUn) = true)
    (aMerged : PySem.W.nsIn K mainGlobals "merged_record" = some (some (.ref fMerged)))
    (lMerged : K.lookup fMerged = some ⟨ocMerged, odMerged, .func (PySem.W.fnOf "merged_record" "merged_record" (defArgs sMerged) (defBody sMerged) (defScope sMerged) .none kVMerged dcMerged pmMerged anMerged cdMerged ctMerged), slMerged⟩)
    (cMerged : PySem.W.codeIn K cdMerged "merged_record" = true)
    (kMerged : PySem.W.keepIn K (.ref fMerged) = true)
    (aChkRec : PySem.W.nsIn K mainGlobals "check_record" = some (some (.ref fChkRec)))
    (lChkRec : K.lookup fChkRec = some ⟨ocChkRec, odChkRec, .func (PySem.W.fnOf "check_record" "check_record" (defArgs sChkRec) (defBody sChkRec) (defScope sChkRec) .none kVChkRec dcChkRec pmChkRec anChkRec cdChkRec ctChkRec), slChkRec⟩)
    (cChkRec : PySem.W.codeIn K cdChkRec "check_record" = true)
    (kChkRec : PySem.W.keepIn K (.ref fChkRec) = true)
    (aChkFair : PySem.W.nsIn K mainGlobals "check_fair" = some (some (.ref fChkFair)))
    (lChkFair : K.lookup fChkFair = some ⟨ocChkFair, odChkFair, .func (PySem.W.fnOf "check_fair" "check_fair" (defArgs sChkFair) (defBody sChkFair) (defScope sChkFair) .none kVChkFair dcChkFair pmChkFair anChkFair cdChkFair ctChkFair), slChkFair⟩)
    (cChkFair : PySem.W.codeIn K cdChkFair "check_fair" = true)
    (kChkFair : PySem.W.keepIn K (.ref fChkFair) = true)
    (aNevEnd : PySem.W.nsIn K mainGlobals "never_ends" = some (some (.ref fNevEnd)))
    (lNevEnd : K.lookup fNevEnd = some ⟨ocNevEnd, odNevEnd, .func (PySem.W.fnOf "never_ends" "never_ends" (defArgs sNevEnd) (defBody sNevEnd) (defScope sNevEnd) .none kVNevEnd dcNevEnd pmNevEnd anNevEnd cdNevEnd ctNevEnd), slNevEnd⟩)
    (cNevEnd : PySem.W.codeIn K cdNevEnd "never_ends" = true)
    (kNevEnd : PySem.W.keepIn K (.ref fNevEnd) = true)
    (aChkShape : PySem.W.nsIn K mainGlobals "check_shape" = some (some (.ref fChkShape)))
    (lChkShape : K.lookup fChkShape = some ⟨ocChkShape, odChkShape, .func (PySem.W.fnOf "check_shape" "check_shape" (defArgs sChkShape) (defBody sChkShape) (defScope sChkShape) .none kVChkShape dcChkShape pmChkShape anChkShape cdChkShape ctChkShape), slChkShape⟩)
    (cChkShape : PySem.W.codeIn K cdChkShape "check_shape" = true)
    (kChkShape : PySem.W.keepIn K (.ref fChkShape) = true)
    (aLastFree : PySem.W.nsIn K mainGlobals "last_free" = some (some (.ref fLastFree)))
    (lLastFree : K.lookup fLastFree = some ⟨ocLastFree, odLastFree, .func (PySem.W.fnOf "last_free" "last_free" (defArgs sLastFree) (defBody sLastFree) (defScope sLastFree) .none kVLastFree dcLastFree pmLastFree anLastFree cdLastFree ctLastFree), slLastFree⟩)
    (cLastFree : PySem.W.codeIn K cdLastFree "last_free" = true)
    (kLastFree : PySem.W.keepIn K (.ref fLastFree) = true)
    (aShapeW : PySem.W.nsIn K mainGlobals "shape_word" = some (some (.ref fShapeW)))
    (lShapeW : K.lookup fShapeW = some ⟨ocShapeW, odShapeW, .func (PySem.W.fnOf "shape_word" "shape_word" (defArgs sShapeW) (defBody sShapeW) (defScope sShapeW) .none kVShapeW dcShapeW pmShapeW anShapeW cdShapeW ctShapeW), slShapeW⟩)
    (cShapeW : PySem.W.codeIn K cdShapeW "shape_word" = true)
    (kShapeW : PySem.W.keepIn K (.ref fShapeW) = true)
    (aNumOf : PySem.W.nsIn K mainGlobals "number_of" = some (some (.ref fNumOf)))
    (lNumOf : K.lookup fNumOf = some ⟨ocNumOf, odNumOf, .func (PySem.W.fnOf "number_of" "number_of" (defArgs sNumOf) (defBody sNumOf) (defScope sNumOf) .none kVNumOf dcNumOf pmNumOf anNumOf cdNumOf ctNumOf), slNumOf⟩)
    (cNumOf : PySem.W.codeIn K cdNumOf "number_of" = true)
    (kNumOf : PySem.W.keepIn K (.ref fNumOf) = true)
    (aTurns : PySem.W.nsIn K mainGlobals "all_turns" = some (some (.ref fTurns)))
    (lTurns : K.lookup fTurns = some ⟨ocTurns, odTurns, .func (PySem.W.fnOf "all_turns" "all_turns" (defArgs sTurns) (defBody sTurns) (defScope sTurns) .none kVTurns dcTurns pmTurns anTurns cdTurns ctTurns), slTurns⟩)
    (cTurns : PySem.W.codeIn K cdTurns "all_turns" = true)
    (kTurns : PySem.W.keepIn K (.ref fTurns) = true)
    (aKinds : PySem.W.nsIn K mainGlobals "all_kinds" = some (some (.ref fKinds)))
    (lKinds : K.lookup fKinds = some ⟨ocKinds, odKinds, .func (PySem.W.fnOf "all_kinds" "all_kinds" (defArgs sKinds) (defBody sKinds) (defScope sKinds) .none kVKinds dcKinds pmKinds anKinds cdKinds ctKinds), slKinds⟩)
    (cKinds : PySem.W.codeIn K cdKinds "all_kinds" = true)
    (kKinds : PySem.W.keepIn K (.ref fKinds) = true)
    (aChains : PySem.W.nsIn K mainGlobals "all_chains" = some (some (.ref fChains)))
    (lChains : K.lookup fChains = some ⟨ocChains, odChains, .func (PySem.W.fnOf "all_chains" "all_chains" (defArgs sChains) (defBody sChains) (defScope sChains) .none kVChains dcChains pmChains anChains cdChains ctChains), slChains⟩)
    (cChains : PySem.W.codeIn K cdChains "all_chains" = true)
    (kChains : PySem.W.keepIn K (.ref fChains) = true)
    (aLTape : PySem.W.nsIn K mainGlobals "_law_tape" = some (some (.ref fLTape)))
    (lLTape : K.lookup fLTape = some ⟨ocLTape, odLTape, .func (PySem.W.fnOf "_law_tape" "_law_tape" (defArgs sLTape) (defBody sLTape) (defScope sLTape) .none kVLTape dcLTape pmLTape anLTape cdLTape ctLTape), slLTape⟩)
    (cLTape : PySem.W.codeIn K cdLTape "_law_tape" = true)
    (kLTape : PySem.W.keepIn K (.ref fLTape) = true)
    (aLTake : PySem.W.nsIn K mainGlobals "_law_take" = some (some (.ref fLTake)))
    (lLTake : K.lookup fLTake = some ⟨ocLTake, odLTake, .func (PySem.W.fnOf "_law_take" "_law_take" (defArgs sLTake) (defBody sLTake) (defScope sLTake) .none kVLTake dcLTake pmLTake anLTake cdLTake ctLTake), slLTake⟩)
    (cLTake : PySem.W.codeIn K cdLTake "_law_take" = true)
    (kLTake : PySem.W.keepIn K (.ref fLTake) = true)
    (aLValue : PySem.W.nsIn K mainGlobals "_law_value" = some (some (.ref fLValue)))
    (lLValue : K.lookup fLValue = some ⟨ocLValue, odLValue, .func (PySem.W.fnOf "_law_value" "_law_value" (defArgs sLValue) (defBody sLValue) (defScope sLValue) .none kVLValue dcLValue pmLValue anLValue cdLValue ctLValue), slLValue⟩)
    (cLValue : PySem.W.codeIn K cdLValue "_law_value" = true)
    (kLValue : PySem.W.keepIn K (.ref fLValue) = true)
    (aLRecord : PySem.W.nsIn K mainGlobals "_law_record" = some (some (.ref fLRecord)))
    (lLRecord : K.lookup fLRecord = some ⟨ocLRecord, odLRecord, .func (PySem.W.fnOf "_law_record" "_law_record" (defArgs sLRecord) (defBody sLRecord) (defScope sLRecord) .none kVLRecord dcLRecord pmLRecord anLRecord cdLRecord ctLRecord), slLRecord⟩)
    (cLRecord : PySem.W.codeIn K cdLRecord "_law_record" = true)
    (kLRecord : PySem.W.keepIn K (.ref fLRecord) = true)
    (aLWord : PySem.W.nsIn K mainGlobals "_law_word" = some (some (.ref fLWord)))
    (lLWord : K.lookup fLWord = some ⟨ocLWord, odLWord, .func (PySem.W.fnOf "_law_word" "_law_word" (defArgs sLWord) (defBody sLWord) (defScope sLWord) .none kVLWord dcLWord pmLWord anLWord cdLWord ctLWord), slLWord⟩)
    (cLWord : PySem.W.codeIn K cdLWord "_law_word" = true)
    (kLWord : PySem.W.keepIn K (.ref fLWord) = true)
    (aLNumber : PySem.W.nsIn K mainGlobals "_law_number" = some (some (.ref fLNumber)))
    (lLNumber : K.lookup fLNumber = some ⟨ocLNumber, odLNumber, .func (PySem.W.fnOf "_law_number" "_law_number" (defArgs sLNumber) (defBody sLNumber) (defScope sLNumber) .none kVLNumber dcLNumber pmLNumber anLNumber cdLNumber ctLNumber), slLNumber⟩)
    (cLNumber : PySem.W.codeIn K cdLNumber "_law_number" = true)
    (kLNumber : PySem.W.keepIn K (.ref fLNumber) = true)
    (aLTurns : PySem.W.nsIn K mainGlobals "_law_all_turns" = some (some (.ref fLTurns)))
    (lLTurns : K.lookup fLTurns = some ⟨ocLTurns, odLTurns, .func (PySem.W.fnOf "_law_all_turns" "_law_all_turns" (defArgs sLTurns) (defBody sLTurns) (defScope sLTurns) .none kVLTurns dcLTurns pmLTurns anLTurns cdLTurns ctLTurns), slLTurns⟩)
    (cLTurns : PySem.W.codeIn K cdLTurns "_law_all_turns" = true)
    (kLTurns : PySem.W.keepIn K (.ref fLTurns) = true)
    (aLKinds : PySem.W.nsIn K mainGlobals "_law_kind_rows" = some (some (.ref fLKinds)))
    (lLKinds : K.lookup fLKinds = some ⟨ocLKinds, odLKinds, .func (PySem.W.fnOf "_law_kind_rows" "_law_kind_rows" (defArgs sLKinds) (defBody sLKinds) (defScope sLKinds) .none kVLKinds dcLKinds pmLKinds anLKinds cdLKinds ctLKinds), slLKinds⟩)
    (cLKinds : PySem.W.codeIn K cdLKinds "_law_kind_rows" = true)
    (kLKinds : PySem.W.keepIn K (.ref fLKinds) = true)
    (aLChains : PySem.W.nsIn K mainGlobals "_law_chains" = some (some (.ref fLChains)))
    (lLChains : K.lookup fLChains = some ⟨ocLChains, odLChains, .func (PySem.W.fnOf "_law_chains" "_law_chains" (defArgs sLChains) (defBody sLChains) (defScope sLChains) .none kVLChains dcLChains pmLChains anLChains cdLChains ctLChains), slLChains⟩)
    (cLChains : PySem.W.codeIn K cdLChains "_law_chains" = true)
    (kLChains : PySem.W.keepIn K (.ref fLChains) = true)
    (aLSide : PySem.W.nsIn K mainGlobals "_law_chain_side" = some (some (.ref fLSide)))
    (lLSide : K.lookup fLSide = some ⟨ocLSide, odLSide, .func (PySem.W.fnOf "_law_chain_side" "_law_chain_side" (defArgs sLSide) (defBody sLSide) (defScope sLSide) .none kVLSide dcLSide pmLSide anLSide cdLSide ctLSide), slLSide⟩)
    (cLSide : PySem.W.codeIn K cdLSide "_law_chain_side" = true)
    (kLSide : PySem.W.keepIn K (.ref fLSide) = true)
    (aLAsked : PySem.W.nsIn K mainGlobals "_law_asked" = some (some (.ref fLAsked)))
    (lLAsked : K.lookup fLAsked = some ⟨ocLAsked, odLAsked, .func (PySem.W.fnOf "_law_asked" "_law_asked" (defArgs sLAsked) (defBody sLAsked) (defScope sLAsked) .none kVLAsked dcLAsked pmLAsked anLAsked cdLAsked ctLAsked), slLAsked⟩)
    (cLAsked : PySem.W.codeIn K cdLAsked "_law_asked" = true)
    (kLAsked : PySem.W.keepIn K (.ref fLAsked) = true)
    (aLRem : PySem.W.nsIn K mainGlobals "_law_remaining" = some (some (.ref fLRem)))
    (lLRem : K.lookup fLRem = some ⟨ocLRem, odLRem, .func (PySem.W.fnOf "_law_remaining" "_law_remaining" (defArgs sLRem) (defBody sLRem) (defScope sLRem) .none kVLRem dcLRem pmLRem anLRem cdLRem ctLRem), slLRem⟩)
    (cLRem : PySem.W.codeIn K cdLRem "_law_remaining" = true)
    (kLRem : PySem.W.keepIn K (.ref fLRem) = true)
    (aLRefuses : PySem.W.nsIn K mainGlobals "_law_refuses" = some (some (.ref fLRefuses)))
    (lLRefuses : K.lookup fLRefuses = some ⟨ocLRefuses, odLRefuses, .func (PySem.W.fnOf "_law_refuses" "_law_refuses" (defArgs sLRefuses) (defBody sLRefuses) (defScope sLRefuses) .none kVLRefuses dcLRefuses pmLRefuses anLRefuses cdLRefuses ctLRefuses), slLRefuses⟩)
    (cLRefuses : PySem.W.codeIn K cdLRefuses "_law_refuses" = true)
    (kLRefuses : PySem.W.keepIn K (.ref fLRefuses) = true)
    (aLRefused : PySem.W.nsIn K mainGlobals "_law_refused" = some (some (.ref fLRefused)))
    (lLRefused : K.lookup fLRefused = some ⟨ocLRefused, odLRefused, .func (PySem.W.fnOf "_law_refused" "_law_refused" (defArgs sLRefused) (defBody sLRefused) (defScope sLRefused) .none kVLRefused dcLRefused pmLRefused anLRefused cdLRefused ctLRefused), slLRefused⟩)
    (cLRefused : PySem.W.codeIn K cdLRefused "_law_refused" = true)
    (kLRefused : PySem.W.keepIn K (.ref fLRefused) = true)
    (aLReply : PySem.W.nsIn K mainGlobals "_law_reply" = some (some (.ref fLReply)))
    (lLReply : K.lookup fLReply = some ⟨ocLReply, odLReply, .func (PySem.W.fnOf "_law_reply" "_law_reply" (defArgs sLReply) (defBody sLReply) (defScope sLReply) .none kVLReply dcLReply pmLReply anLReply cdLReply ctLReply), slLReply⟩)
    (cLReply : PySem.W.codeIn K cdLReply "_law_reply" = true)
    (kLReply : PySem.W.keepIn K (.ref fLReply) = true)
    (aLaw : PySem.W.nsIn K mainGlobals "law" = some (some (.ref fLaw)))
    (lLaw : K.lookup fLaw = some ⟨ocLaw, odLaw, .func (PySem.W.fnOf "law" "law" (defArgs sLaw) (defBody sLaw) (defScope sLaw) .none kVLaw dcLaw pmLaw anLaw cdLaw ctLaw), slLaw⟩)
    (cLaw : PySem.W.codeIn K cdLaw "law" = true)
    (kLaw : PySem.W.keepIn K (.ref fLaw) = true)
    (aFor : PySem.W.nsIn K mainGlobals "Forest" = some (some (.ref cFor)))
    (pgFor : PySem.W.plainGet K cFor Str.empty = true)
    (hdFor : PySem.W.hasDictIn K cFor = true)
    (poFor : PySem.W.plainOver K cFor = true)
    (saFor : PySem.W.findIn K (.ref cFor) "__setattr__" = some (some (.builtin "object.__setattr__")))
    (mkFor : PySem.W.makesIn K cFor = true)
    (kcFor : PySem.W.keepIn K (.ref cFor) = true)
    (nFor_fields : PySem.W.findIn K (.ref cFor) "fields" = some none)
    (nFor_parents : PySem.W.findIn K (.ref cFor) "parents" = some none)
    (nFor_kinds : PySem.W.findIn K (.ref cFor) "kinds" = some none)
    (aHid : PySem.W.nsIn K mainGlobals "Hider" = some (some (.ref cHid)))
    (pgHid : PySem.W.plainGet K cHid Str.empty = true)
    (hdHid : PySem.W.hasDictIn K cHid = true)
    (poHid : PySem.W.plainOver K cHid = true)
    (saHid : PySem.W.findIn K (.ref cHid) "__setattr__" = some (some (.builtin "object.__setattr__")))
    (mkHid : PySem.W.makesIn K cHid = true)
    (kcHid : PySem.W.keepIn K (.ref cHid) = true)
    (nHid_fields : PySem.W.findIn K (.ref cHid) "fields" = some none)
    (nHid_chains : PySem.W.findIn K (.ref cHid) "chains" = some none)
    (aForInit : PySem.W.findIn K (.ref cFor) "__init__" = some (some (.ref fForInit)))
    (iForInit : PySem.W.isFn K (.ref fForInit) = true)
    (lForInit : K.lookup fForInit = some ⟨ocForInit, odForInit, .func (PySem.W.fnOf "__init__" "Forest.__init__" (defArgs sForInit) (defBody sForInit) (defScope sForInit) .none kVForInit dcForInit pmForInit anForInit cdForInit ctForInit), slForInit⟩)
    (cForInit : PySem.W.codeIn K cdForInit "Forest.__init__" = true)
    (kForInit : PySem.W.keepIn K (.ref fForInit) = true)
    (aForCall : PySem.W.findIn K (.ref cFor) "__call__" = some (some (.ref fForCall)))
    (iForCall : PySem.W.isFn K (.ref fForCall) = true)
    (lForCall : K.lookup fForCall = some ⟨ocForCall, odForCall, .func (PySem.W.fnOf "__call__" "Forest.__call__" (defArgs sForCall) (defBody sForCall) (defScope sForCall) .none kVForCall dcForCall pmForCall anForCall cdForCall ctForCall), slForCall⟩)
    (cForCall : PySem.W.codeIn K cdForCall "Forest.__call__" = true)
    (kForCall : PySem.W.keepIn K (.ref fForCall) = true)
    (aForPath : PySem.W.findIn K (.ref cFor) "path" = some (some (.ref fForPath)))
    (iForPath : PySem.W.isFn K (.ref fForPath) = true)
    (lForPath : K.lookup fForPath = some ⟨ocForPath, odForPath, .func (PySem.W.fnOf "path" "Forest.path" (defArgs sForPath) (defBody sForPath) (defScope sForPath) .none kVForPath dcForPath pmForPath anForPath cdForPath ctForPath), slForPath⟩)
    (cForPath : PySem.W.codeIn K cdForPath "Forest.path" = true)
    (kForPath : PySem.W.keepIn K (.ref fForPath) = true)
    (aHidInit : PySem.W.findIn K (.ref cHid) "__init__" = some (some (.ref fHidInit)))
    (iHidInit : PySem.W.isFn K (.ref fHidInit) = true)
    (lHidInit : K.lookup fHidInit = some ⟨ocHidInit, odHidInit, .func (PySem.W.fnOf "__init__" "Hider.__init__" (defArgs sHidInit) (defBody sHidInit) (defScope sHidInit) .none kVHidInit dcHidInit pmHidInit anHidInit cdHidInit ctHidInit), slHidInit⟩)
    (cHidInit : PySem.W.codeIn K cdHidInit "Hider.__init__" = true)
    (kHidInit : PySem.W.keepIn K (.ref fHidInit) = true)
    (aHidReply : PySem.W.findIn K (.ref cHid) "reply" = some (some (.ref fHidReply)))
    (iHidReply : PySem.W.isFn K (.ref fHidReply) = true)
    (lHidReply : K.lookup fHidReply = some ⟨ocHidReply, odHidReply, .func (PySem.W.fnOf "reply" "Hider.reply" (defArgs sHidReply) (defBody sHidReply) (defScope sHidReply) .none kVHidReply dcHidReply pmHidReply anHidReply cdHidReply ctHidReply), slHidReply⟩)
    (cHidReply : PySem.W.codeIn K cdHidReply "Hider.reply" = true)
    (kHidReply : PySem.W.keepIn K (.ref fHidReply) = true)
    (aHidRem : PySem.W.findIn K (.ref cHid) "remaining" = some (some (.ref fHidRem)))
    (iHidRem : PySem.W.isFn K (.ref fHidRem) = true)
    (lHidRem : K.lookup fHidRem = some ⟨ocHidRem, odHidRem, .func (PySem.W.fnOf "remaining" "Hider.remaining" (defArgs sHidRem) (defBody sHidRem) (defScope sHidRem) .none kVHidRem dcHidRem pmHidRem anHidRem cdHidRem ctHidRem), slHidRem⟩)
    (cHidRem : PySem.W.codeIn K cdHidRem "Hider.remaining" = true)
    (kHidRem : PySem.W.keepIn K (.ref fHidRem) = true)
    (fiForCall : PySem.W.fnIn K fForCall = true)
    (aMost : PySem.W.nsIn K mainGlobals "MOST_FIELDS" = some (some (.int 16 tMost)))
    (z_abs : PySem.W.nsIn K mainGlobals "abs" = some none)
    (z_len : PySem.W.nsIn K mainGlobals "len" = some none)
    (z_int : PySem.W.nsIn K mainGlobals "int" = some none)
    (z_tuple : PySem.W.nsIn K mainGlobals "tuple" = some none)
    (z_list : PySem.W.nsIn K mainGlobals "list" = some none)
    (z_range : PySem.W.nsIn K mainGlobals "range" = some none)
    (z_sorted : PySem.W.nsIn K mainGlobals "sorted" = some none)
    (z_max : PySem.W.nsIn K mainGlobals "max" = some none)
    (z_repr : PySem.W.nsIn K mainGlobals "repr" = some none)
    (z_isinstance : PySem.W.nsIn K mainGlobals "isinstance" = some none)
    (z_enumerate : PySem.W.nsIn K mainGlobals "enumerate" = some none)
    (z_super : PySem.W.nsIn K mainGlobals "super" = some none)
    (z_ValueError : PySem.W.nsIn K mainGlobals "ValueError" = some none)
    (iFha : PySem.W.findIn K (.ref cFor) "__class__" = some (some (.builtin "object.__class__")))
    (iFhn : PySem.W.specialIn K (.builtin "object.__class__") "__get__" = some (some (.builtin "getset_descriptor.__get__")))
    (iFht : PySem.W.takesIn K (.builtin "object.__class__") = some true)
    (iFhm : PySem.W.mroIn K cFor (.type "object") = some true)
    (aB : PySem.W.nsIn K mainGlobals "BadRecord" = some (some (.ref cB)))
    (iB : PySem.W.findIn K (.ref cB) "__init__" = some (some (.ref fB)))
    (lB : K.lookup fB = some ⟨ocB, odB, .func (PySem.W.fnX "__init__" "BadRecord.__init__" (defArgs sBadInit) (defBody sBadInit) (defScope sBadInit) [("__class__", ccB)] .none .none dcB pmB none (.ref cdB) ctB), slB⟩)
    (coB : PySem.W.codeIn K (.ref cdB) "BadRecord.__init__" = true)
    (ceB : K.lookup ccB = some ⟨clB, cldB, .cell (some (.ref cB)), cslB⟩)
    (cdoB : K.lookup cdB = some ⟨cclB, cddB, .fields vsB, ccsB⟩)
    (vsB2 : vsB[2]? = some (.str fileB tfB))
    (fiB : ((P.main.file : Str) == fileB) = true)
    (toB : (P.main.scope.names.lookup ("super" : Str)).isSome = false)
    (suB : PySem.W.ks_superIn K cB cB "__init__" = some (some (.builtin "ValueError.__init__")))
    (opB : PySem.W.nsIn K cStatics "thirdparty.any" = some none)
    (owB : PySem.W.mroIn K cB (.ref cB) = some true)
    (veB : PySem.W.subIn K (.ref cB) (.type "ValueError") = some true)
    (exB : K.lookup cB = some (excClassObj nmB qnB cB NB bsB bmB true snB subB abB colB ddB k0B k1B k2B k3B k5B "ValueError.__new__"))
    (reB : PySem.HandSPX.refsVE bmB = true)
    (saB : PySem.W.findIn K (.ref cB) "__setattr__" = some (some (.builtin "object.__setattr__")))
    (bxB : PySem.W.subIn K (.ref cB) (.type "BaseException") = some true)
    (tyB : PySem.W.typeIn K (.ref cB) = some (.type "type"))
    (kcB : PySem.W.keepIn K (.ref cB) = true)
    (nrB : PySem.W.findIn K (.ref cB) "record" = some none)
    (tiB : PySem.W.typeIn K (.ref fB) = some (.type "function"))
    (gaB : PySem.W.findIn K (.ref cB) "__getattribute__" = some (some (.builtin "BaseException.__getattribute__")))
    (ggB : PySem.W.findIn K (.ref cB) "__getattr__" = some none)
    (hdB : PySem.W.hasDictIn K cB = true)
    (haB : PySem.W.findIn K (.ref cB) "__class__" = some (some (.builtin "object.__class__")))
    (hmB : PySem.W.mroIn K cB (.type "object") = some true)
    (sbB : PySem.W.subIn K (.ref cB) (.ref cB) = some true)
    (aFE : PySem.W.nsIn K mainGlobals "FieldridesError" = some (some (.ref cFE)))
    (aNR : PySem.W.nsIn K mainGlobals "NoRecord" = some (some (.ref cNR)))
    (aBA : PySem.W.nsIn K mainGlobals "BadAnswer" = some (some (.ref cBA)))
    (q1B : PySem.W.kitOne K (.ref cB) (.ref cFE) = some true)
    (q2B : PySem.W.kitOne K (.ref cB) (.type "ValueError") = some true)
    (q3B : PySem.W.kitAny K (.ref cB) [.ref cNR, .ref cBA] = some false)
    : ∀ base : Heap, FnG P w K mg base CX0 9 fa (spLaw K) := by
  obtain rfl : fa = fLaw := Value.ref.inj (Option.some.inj (hfa.symm.trans (PySem.W.mg_of X G aLaw)))
  have FBetter := fun_mk (st := sBetter) lBetter cBetter kBetter
  have FPathOf := fun_mk (st := sPathOf) lPathOf cPathOf kPathOf
  have FFirstUn := fun_mk (st := sFirstUn) lFirstUn cFirstUn kFirstUn
  have FMerged := fun_mk (st := sMerged) lMerged cMerged kMerged
  have FChkRec := fun_mk (st := sChkRec) lChkRec cChkRec kChkRec
  have FChkFair := fun_mk (st := sChkFair) lChkFair cChkFair kChkFair
  have FNevEnd := fun_mk (st := sNevEnd) lNevEnd cNevEnd kNevEnd
  have FChkShape := fun_mk (st := sChkShape) lChkShape cChkShape kChkShape
  have FLastFree := fun_mk (st := sLastFree) lLastFree cLastFree kLastFree
  have FShapeW := fun_mk (st := sShapeW) lShapeW cShapeW kShapeW
  have FNumOf := fun_mk (st := sNumOf) lNumOf cNumOf kNumOf
  have FTurns := fun_mk (st := sTurns) lTurns cTurns kTurns
  have FKinds := fun_mk (st := sKinds) lKinds cKinds kKinds
  have FChains := fun_mk (st := sChains) lChains cChains kChains
  have FLTape := fun_mk (st := sLTape) lLTape cLTape kLTape
  have FLTake := fun_mk (st := sLTake) lLTake cLTake kLTake
  have FLValue := fun_mk (st := sLValue) lLValue cLValue kLValue
  have FLRecord := fun_mk (st := sLRecord) lLRecord cLRecord kLRecord
  have FLWord := fun_mk (st := sLWord) lLWord cLWord kLWord
  have FLNumber := fun_mk (st := sLNumber) lLNumber cLNumber kLNumber
  have FLTurns := fun_mk (st := sLTurns) lLTurns cLTurns kLTurns
  have FLKinds := fun_mk (st := sLKinds) lLKinds cLKinds kLKinds
  have FLChains := fun_mk (st := sLChains) lLChains cLChains kLChains
  have FLSide := fun_mk (st := sLSide) lLSide cLSide kLSide
  have FLAsked := fun_mk (st := sLAsked) lLAsked cLAsked kLAsked
  have FLRem := fun_mk (st := sLRem) lLRem cLRem kLRem
  have FLRefuses := fun_mk (st := sLRefuses) lLRefuses cLRefuses kLRefuses
  have FLRefused := fun_mk (st := sLRefused) lLRefused cLRefused kLRefused
  have FLReply := fun_mk (st := sLReply) lLReply cLReply kLReply
  have FLaw := fun_mk (st := sLaw) lLaw cLaw kLaw
  have FForInit := fun_mk (st := sForInit) lForInit cForInit kForInit
  have FForCall := fun_mk (st := sForCall) lForCall cForCall kForCall
  have FForPath := fun_mk (st := sForPath) lForPath cForPath kForPath
  have FHidInit := fun_mk (st := sHidInit) lHidInit cHidInit kHidInit
  have FHidReply := fun_mk (st := sHidReply) lHidReply cHidReply kHidReply
  have FHidRem := fun_mk (st := sHidRem) lHidRem cHidRem kHidRem
  let T : Defs K mg := {
    fBetter := fBetter, dBetter := _, FBetter := FBetter, mBetter := PySem.W.mg_of X G aBetter,
    fPathOf := fPathOf, dPathOf := _, FPathOf := FPathOf, mPathOf := PySem.W.mg_of X G aPathOf,
    fFirstUn := fFirstUn, dFirstUn := _, FFirstUn := FFirstUn, mFirstUn := PySem.W.mg_of X G aFirstUn,
    fMerged := fMerged, dMerged := _, FMerged := FMerged, mMerged := PySem.W.mg_of X G aMerged,
    fChkRec := fChkRec, dChkRec := _, FChkRec := FChkRec, mChkRec := PySem.W.mg_of X G aChkRec,
    fChkFair := fChkFair, dChkFair := _, FChkFair := FChkFair, mChkFair := PySem.W.mg_of X G aChkFair,
    fNevEnd := fNevEnd, dNevEnd := _, FNevEnd := FNevEnd, mNevEnd := PySem.W.mg_of X G aNevEnd,
    fChkShape := fChkShape, dChkShape := _, FChkShape := FChkShape, mChkShape := PySem.W.mg_of X G aChkShape,
    fLastFree := fLastFree, dLastFree := _, FLastFree := FLastFree, mLastFree := PySem.W.mg_of X G aLastFree,
    fShapeW := fShapeW, dShapeW := _, FShapeW := FShapeW, mShapeW := PySem.W.mg_of X G aShapeW,
    fNumOf := fNumOf, dNumOf := _, FNumOf := FNumOf, mNumOf := PySem.W.mg_of X G aNumOf,
    fTurns := fTurns, dTurns := _, FTurns := FTurns, mTurns := PySem.W.mg_of X G aTurns,
    fKinds := fKinds, dKinds := _, FKinds := FKinds, mKinds := PySem.W.mg_of X G aKinds,
    fChains := fChains, dChains := _, FChains := FChains, mChains := PySem.W.mg_of X G aChains,
    fLTape := fLTape, dLTape := _, FLTape := FLTape, mLTape := PySem.W.mg_of X G aLTape,
    fLTake := fLTake, dLTake := _, FLTake := FLTake, mLTake := PySem.W.mg_of X G aLTake,
    fLValue := fLValue, dLValue := _, FLValue := FLValue, mLValue := PySem.W.mg_of X G aLValue,
    fLRecord := fLRecord, dLRecord := _, FLRecord := FLRecord, mLRecord := PySem.W.mg_of X G aLRecord,
    fLWord := fLWord, dLWord := _, FLWord := FLWord, mLWord := PySem.W.mg_of X G aLWord,
    fLNumber := fLNumber, dLNumber := _, FLNumber := FLNumber, mLNumber := PySem.W.mg_of X G aLNumber,
    fLTurns := fLTurns, dLTurns := _, FLTurns := FLTurns, mLTurns := PySem.W.mg_of X G aLTurns,
    fLKinds := fLKinds, dLKinds := _, FLKinds := FLKinds, mLKinds := PySem.W.mg_of X G aLKinds,
    fLChains := fLChains, dLChains := _, FLChains := FLChains, mLChains := PySem.W.mg_of X G aLChains,
    fLSide := fLSide, dLSide := _, FLSide := FLSide, mLSide := PySem.W.mg_of X G aLSide,
    fLAsked := fLAsked, dLAsked := _, FLAsked := FLAsked, mLAsked := PySem.W.mg_of X G aLAsked,
    fLRem := fLRem, dLRem := _, FLRem := FLRem, mLRem := PySem.W.mg_of X G aLRem,
    fLRefuses := fLRefuses, dLRefuses := _, FLRefuses := FLRefuses, mLRefuses := PySem.W.mg_of X G aLRefuses,
    fLRefused := fLRefused, dLRefused := _, FLRefused := FLRefused, mLRefused := PySem.W.mg_of X G aLRefused,
    fLReply := fLReply, dLReply := _, FLReply := FLReply, mLReply := PySem.W.mg_of X G aLReply,
    fLaw := fa, dLaw := _, FLaw := FLaw, mLaw := PySem.W.mg_of X G aLaw,
    cFor := cFor, kFor := ⟨pgFor, hdFor, poFor, saFor⟩, mFor := PySem.W.mg_of X G aFor,
    nFor_fields := nFor_fields,
    nFor_parents := nFor_parents,
    nFor_kinds := nFor_kinds,
    cHid := cHid, kHid := ⟨pgHid, hdHid, poHid, saHid⟩, mHid := PySem.W.mg_of X G aHid,
    nHid_fields := nHid_fields,
    nHid_chains := nHid_chains,
    fForInit := fForInit, dForInit := _, FForInit := FForInit, MForInit := ⟨mkFor, aForInit, iForInit, kcFor⟩,
    fForCall := fForCall, dForCall := _, FForCall := FForCall, MForCall := ⟨aForCall, iForCall, fiForCall⟩,
    fForPath := fForPath, dForPath := _, FForPath := FForPath, MForPath := ⟨aForPath, iForPath, kForPath⟩,
    fHidInit := fHidInit, dHidInit := _, FHidInit := FHidInit, MHidInit := ⟨mkHid, aHidInit, iHidInit, kcHid⟩,
    fHidReply := fHidReply, dHidReply := _, FHidReply := FHidReply, MHidReply := ⟨aHidReply, iHidReply, kHidReply⟩,
    fHidRem := fHidRem, dHidRem := _, FHidRem := FHidRem, MHidRem := ⟨aHidRem, iHidRem, kHidRem⟩,
    tMost := tMost, mMost := PySem.W.mg_of X G aMost,
    b_abs := PySem.W.mg_none_of X G z_abs,
    b_len := PySem.W.mg_none_of X G z_len,
    b_int := PySem.W.mg_none_of X G z_int,
    b_tuple := PySem.W.mg_none_of X G z_tuple,
    b_list := PySem.W.mg_none_of X G z_list,
    b_range := PySem.W.mg_none_of X G z_range,
    b_sorted := PySem.W.mg_none_of X G z_sorted,
    b_max := PySem.W.mg_none_of X G z_max,
    b_repr := PySem.W.mg_none_of X G z_repr,
    b_isinstance := PySem.W.mg_none_of X G z_isinstance,
    b_enumerate := PySem.W.mg_none_of X G z_enumerate }
  let Bd : Bad K mg P := { c := cB, f := fB, cc := ccB, cda := cdB, doc := dcB, pm := pmB, ct := ctB, m := PySem.W.mg_of X G aB, lk := ⟨_, _, _, lB⟩, code := coB, cell := ⟨_, _, _, ceB⟩, cobj := ⟨_, _, _, _, _, _, cdoB, vsB2, fiB⟩, top := toB, sup := suB, opq := opB, own := owB, veB := veB, oex := ⟨⟨_, _, _, _, _, _, _, _, _, _, _, _, _, _, _, exB, reB⟩, saB, bxB, tyB, kcB⟩, nRec := nrB, iC := iB, tI := tiB, bSuper := PySem.W.mg_none_of X G z_super }
  let Z : ErrF K mg cB := { cFE := cFE, cNR := cNR, cBA := cBA, mFE := PySem.W.mg_of X G aFE, mNR := PySem.W.mg_of X G aNR, mBA := PySem.W.mg_of X G aBA, ve := PySem.W.mg_none_of X G z_ValueError, ex := ⟨gaB, ggB, bxB, hdB, haB, iFhn, iFht, hmB⟩, xf := ⟨gaB, ggB, bxB, hdB⟩, k1 := q1B, k2 := q2B, k3 := q3B, exm := PySem.W.exm_ref bxB hdB tyB sbB }
  exact fun base => ok_law (base := base) T ⟨iFha, iFhn, iFht, iFhm, kit_self⟩ Bd Z
end K38
open PySem PySem.W PyProof.Rows
set_option maxRecDepth 100000 in
set_option maxHeartbeats 0 in
theorem PySem.Challenge.cw_fieldrides_k38_whole_hider_holds_out_holds : PySem.Challenge.rw_fieldrides_k38_whole_hider_holds_out.Holds := by
  w_on; o_law; k_head; (case hw => w_witness2)
  k_fill
  refine K38.walk_g (l := PySem.Challenge.rw_fieldrides_k38_whole_hider_holds_out) (n := 63) (k := 9) rfl (by decide) rfl ⟨rfl, by decide, by decide⟩ (fun w h Y => PySem.W.kIn_of Y) ?F
  case F =>
    intro w mg fa h KX G hmg
    refine' K38.all_mk KX G hmg ?aBetter ?lBetter ?cBetter ?kBetter ?aPathOf ?lPathOf ?cPathOf ?kPathOf ?aFirstUn ?lFirstUn ?cFirstUn ?kFirstUn ?aMerged ?lMerged ?cMerged ?kMerged ?aChkRec ?lChkRec ?cChkRec ?kChkRec ?aChkFair ?lChkFair ?cChkFair ?kChkFair ?aNevEnd ?lNevEnd ?cNevEnd ?kNevEnd ?aChkShape ?lChkShape ?cChkShape ?kChkShape ?aLastFree ?lLastFree ?cLastFree ?kLastFree ?aShapeW ?lShapeW ?cShapeW ?kShapeW ?aNumOf ?lNumOf ?cNumOf ?kNumOf ?aTurns ?lTurns ?cTurns ?kTurns ?aKinds ?lKinds ?cKinds ?kKinds ?aChains ?lChains ?cChains ?kChains ?aLTape ?lLTape ?cLTape ?kLTape ?aLTake ?lLTake ?cLTake ?kLTake ?aLValue ?lLValue ?cLValue ?kLValue ?aLRecord ?lLRecord ?cLRecord ?kLRecord ?aLWord ?lLWord ?cLWord ?kLWord ?aLNumber ?lLNumber ?cLNumber ?kLNumber ?aLTurns ?lLTurns ?cLTurns ?kLTurns ?aLKinds ?lLKinds ?cLKinds ?kLKinds ?aLChains ?lLChains ?cLChains ?kLChains ?aLSide ?lLSide ?cLSide ?kLSide ?aLAsked ?lLAsked ?cLAsked ?kLAsked ?aLRem ?lLRem ?cLRem ?kLRem ?aLRefuses ?lLRefuses ?cLRefuses ?kLRefuses ?aLRefused ?lLRefused ?cLRefused ?kLRefused ?aLReply ?lLReply ?cLReply ?kLReply ?aLaw ?lLaw ?cLaw ?kLaw ?aFor ?pgFor ?hdFor ?poFor ?saFor ?mkFor ?kcFor ?nFor_fields ?nFor_parents ?nFor_kinds ?aHid ?pgHid ?hdHid ?poHid ?saHid ?mkHid ?kcHid ?nHid_fields ?nHid_chains ?aForInit ?iForInit ?lForInit ?cForInit ?kForInit ?aForCall ?iForCall ?lForCall ?cForCall ?kForCall ?aForPath ?iForPath ?lForPath ?cForPath ?kForPath ?aHidInit ?iHidInit ?lHidInit ?cHidInit ?kHidInit ?aHidReply ?iHidReply ?lHidReply ?cHidReply ?kHidReply ?aHidRem ?iHidRem ?lHidRem ?cHidRem ?kHidRem ?fiForCall ?aMost ?z_abs ?z_len ?z_int ?z_tuple ?z_list ?z_range ?z_sorted ?z_max ?z_repr ?z_isinstance ?z_enumerate ?z_super ?z_ValueError ?iFha ?iFhn ?iFht ?iFhm ?aB ?iB ?lB ?coB ?ceB ?cdoB ?vsB2 ?fiB ?toB ?suB ?opB ?owB ?veB ?exB ?reB ?saB ?bxB ?tyB ?kcB ?nrB ?tiB ?gaB ?ggB ?hdB ?haB ?hmB ?sbB ?aFE ?aNR ?aBA ?q1B ?q2B ?q3B
    (case aBetter => k_is)
    (case lBetter => k_is)
    (case cBetter => k_is)
    (case kBetter => k_is)
    (case aPathOf => k_is)
    (case lPathOf => k_is)
    (case cPathOf => k_is)
    (case kPathOf => k_is)
    (case aFirstUn => k_is)
    (case lFirstUn => k_is)
    (case cFirstUn => k_is)
    (case kFirstUn => k_is)
    (case aMerged => k_is)
    (case lMerged => k_is)
    (case cMerged => k_is)
    (case kMerged => k_is)
    (case aChkRec => k_is)
    (case lChkRec => k_is)
    (case cChkRec => k_is)
    (case kChkRec => k_is)
    (case aChkFair => k_is)
    (case lChkFair => k_is)
    (case cChkFair => k_is)
    (case kChkFair => k_is)
    (case aNevEnd => k_is)
    (case lNevEnd => k_is)
    (case cNevEnd => k_is)
    (case kNevEnd => k_is)
    (case aChkShape => k_is)
    (case lChkShape => k_is)
    (case cChkShape => k_is)
    (case kChkShape => k_is)
    (case aLastFree => k_is)
    (case lLastFree => k_is)
    (case cLastFree => k_is)
    (case kLastFree => k_is)
    (case aShapeW => k_is)
    (case lShapeW => k_is)
    (case cShapeW => k_is)
    (case kShapeW => k_is)
    (case aNumOf => k_is)
    (case lNumOf => k_is)
    (case cNumOf => k_is)
    (case kNumOf => k_is)
    (case aTurns => k_is)
    (case lTurns => k_is)
    (case cTurns => k_is)
    (case kTurns => k_is)
    (case aKinds => k_is)
    (case lKinds => k_is)
    (case cKinds => k_is)
    (case kKinds => k_is)
    (case aChains => k_is)
    (case lChains => k_is)
    (case cChains => k_is)
    (case kChains => k_is)
    (case aLTape => k_is)
    (case lLTape => k_is)
    (case cLTape => k_is)
    (case kLTape => k_is)
    (case aLTake => k_is)
    (case lLTake => k_is)
    (case cLTake => k_is)
    (case kLTake => k_is)
    (case aLValue => k_is)
    (case lLValue => k_is)
    (case cLValue => k_is)
    (case kLValue => k_is)
    (case aLRecord => k_is)
    (case lLRecord => k_is)
    (case cLRecord => k_is)
    (case kLRecord => k_is)
    (case aLWord => k_is)
    (case lLWord => k_is)
    (case cLWord => k_is)
    (case kLWord => k_is)
    (case aLNumber => k_is)
    (case lLNumber => k_is)
    (case cLNumber => k_is)
    (case kLNumber => k_is)
    (case aLTurns => k_is)
    (case lLTurns => k_is)
    (case cLTurns => k_is)
    (case kLTurns => k_is)
    (case aLKinds => k_is)
    (case lLKinds => k_is)
    (case cLKinds => k_is)
    (case kLKinds => k_is)
    (case aLChains => k_is)
    (case lLChains => k_is)
    (case cLChains => k_is)
    (case kLChains => k_is)
    (case aLSide => k_is)
    (case lLSide => k_is)
    (case cLSide => k_is)
    (case kLSide => k_is)
    (case aLAsked => k_is)
    (case lLAsked => k_is)
    (case cLAsked => k_is)
    (case kLAsked => k_is)
    (case aLRem => k_is)
    (case lLRem => k_is)
    (case cLRem => k_is)
    (case kLRem => k_is)
    (case aLRefuses => k_is)
    (case lLRefuses => k_is)
    (case cLRefuses => k_is)
    (case kLRefuses => k_is)
    (case aLRefused => k_is)
    (case lLRefused => k_is)
    (case cLRefused => k_is)
    (case kLRefused => k_is)
    (case aLReply => k_is)
    (case lLReply => k_is)
    (case cLReply => k_is)
    (case kLReply => k_is)
    (case aLaw => k_is)
    (case lLaw => k_is)
    (case cLaw => k_is)
    (case kLaw => k_is)
    (case aFor => k_is)
    (case pgFor => k_is)
    (case hdFor => k_is)
    (case poFor => k_is)
    (case saFor => k_is)
    (case mkFor => k_is)
    (case kcFor => k_is)
    (case nFor_fields => k_is)
    (case nFor_parents => k_is)
    (case nFor_kinds => k_is)
    (case aHid => k_is)
    (case pgHid => k_is)
    (case hdHid => k_is)
    (case poHid => k_is)
    (case saHid => k_is)
    (case mkHid => k_is)
    (case kcHid => k_is)
    (case nHid_fields => k_is)
    (case nHid_chains => k_is)
    (case aForInit => k_is)
    (case iForInit => k_is)
    (case lForInit => k_is)
    (case cForInit => k_is)
    (case kForInit => k_is)
    (case aForCall => k_is)
    (case iForCall => k_is)
    (case lForCall => k_is)
    (case cForCall => k_is)
    (case kForCall => k_is)
    (case aForPath => k_is)
    (case iForPath => k_is)
    (case lForPath => k_is)
    (case cForPath => k_is)
    (case kForPath => k_is)
    (case aHidInit => k_is)
    (case iHidInit => k_is)
    (case lHidInit => k_is)
    (case cHidInit => k_is)
    (case kHidInit => k_is)
    (case aHidReply => k_is)
    (case iHidReply => k_is)
    (case lHidReply => k_is)
    (case cHidReply => k_is)
    (case kHidReply => k_is)
    (case aHidRem => k_is)
    (case iHidRem => k_is)
    (case lHidRem => k_is)
    (case cHidRem => k_is)
    (case kHidRem => k_is)
    (case fiForCall => k_is)
    (case aMost => k_is)
    (case z_abs => k_is)
    (case z_len => k_is)
    (case z_int => k_is)
    (case z_tuple => k_is)
    (case z_list => k_is)
    (case z_range => k_is)
    (case z_sorted => k_is)
    (case z_max => k_is)
    (case z_repr => k_is)
    (case z_isinstance => k_is)
    (case z_enumerate => k_is)
    (case z_super => k_is)
    (case z_ValueError => k_is)
    (case iFha => k_is)
    (case iFhn => k_is)
    (case iFht => k_is)
    (case iFhm => k_is)
    (case aB => k_is)
    (case iB => k_is)
    (case lB => k_is)
    (case coB => k_is)
    (case ceB => k_is)
    (case cdoB => k_is)
    (case vsB2 => rfl)
    (case fiB => (first | rfl | decide +kernel))
    (case toB => (first | rfl | decide +kernel))
    (case suB => ks_is)
    (case opB => k_is)
    (case owB => k_is)
    (case veB => k_is)
    (case exB => k_is)
    (case reB => (first | rfl | decide +kernel))
    (case saB => k_is)
    (case bxB => k_is)
    (case tyB => k_is)
    (case kcB => k_is)
    (case nrB => k_is)
    (case tiB => k_is)
    (case gaB => k_is)
    (case ggB => k_is)
    (case hdB => k_is)
    (case haB => k_is)
    (case hmB => k_is)
    (case sbB => k_is)
    (case aFE => k_is)
    (case aNR => k_is)
    (case aBA => k_is)
    (case q1B => (first | k_is | kit_is))
    (case q2B => (first | k_is | kit_is))
    (case q3B => (first | k_is | kit_is))
