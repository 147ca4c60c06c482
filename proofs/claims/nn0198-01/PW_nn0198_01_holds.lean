import PyProof.Rows.All
import Wide.All
import OpenK.AllK
import Wide.FinOn
import PySem.Challenge.RW_nn0198_01
set_option Elab.async false
set_option linter.all false

section
open PySem PySem.W PyProof.Rows
set_option Elab.async false
set_option maxHeartbeats 0
set_option maxRecDepth 100000
namespace Mine
noncomputable def lk0 : Look := { strict := false, foot := none, bare := [] }
noncomputable abbrev prg : Program := PySem.Challenge.rw_nn0198_01.row.prog
noncomputable def longText (x : Str) : Bool := Nat.ble 30 x.cps.toList.length && !(x.cps.toList.head? == some 95) && !(x.cps.toList.any fun c => Nat.beq c 123 || Nat.beq c 125 || Nat.beq c 46)
noncomputable def textRow : Stmt → Bool
  | .Assign [.Name n _] (.Constant (.str x) _ _) _ => lk0.name n && longText x
  | _ => false
theorem frame_short : frameAttrs.all (fun n => Nat.blt n.cps.toList.length 30) = true := by decide +kernel
theorem str_ok {x : Str} (h : longText x = true) : lk0.str x = true := by
  simp only [longText, Bool.and_eq_true, Bool.not_eq_true', Nat.ble_eq] at h
  obtain ⟨⟨h1, h2⟩, h3⟩ := h
  have hf : frameAttrs.contains x = false := by
    cases hc : frameAttrs.contains x with
    | false => rfl
    | true =>
      have hm := List.contains_iff_mem.mp hc
      have := List.all_eq_true.mp frame_short x hm
      have := Nat.blt_eq.mp this
      omega
  have ho : x.opensWith ("__" : Str) = false := by
    cases hc : x.opensWith ("__" : Str) with
    | false => rfl
    | true =>
      exfalso
      have e : x.cps.extract 0 2 = #[95, 95] := by
        have := beq_iff_eq.mp hc
        exact this
      have e2 : x.cps.toList.take 2 = [95, 95] := by
        have := congrArg Array.toList e
        simpa using this
      have : x.cps.toList.head? = some 95 := by
        cases hq : x.cps.toList with
        | nil => rw [hq] at e2; cases e2
        | cons a r => rw [hq] at e2; simp at e2; simp [e2.1]
      rw [this] at h2
      simp at h2
  have hr : roadStr x = false := by
    rw [List.any_eq_false] at h3
    have hn : ∀ c ∈ x.cps, c ≠ 123 ∧ c ≠ 125 ∧ c ≠ 46 := by
      intro c hc
      have := h3 c (by simpa using hc)
      simp only [Bool.or_eq_true, Nat.beq_eq, not_or] at this
      omega
    unfold roadStr
    rw [Bool.or_eq_false_iff]
    constructor
    · rw [Array.any_eq_false']
      intro c hc
      have := hn c hc
      simp [this.1, this.2.1]
    · rw [Bool.and_eq_false_iff]
      left
      rw [Array.any_eq_false']
      intro c hc
      have := hn c hc
      simp [this.2.2]
  have ha : attrL x = true := by
    unfold attrL
    rw [hf, ho]; rfl
  have hw : lk0.word x = true := by
    unfold Look.word
    rw [ha]; rfl
  unfold Look.str
  rw [hw, hr]
  simp
theorem row_ok {st : Stmt} (h : textRow st = true) : noRoadLS lk0 st = true := by
  unfold textRow at h
  split at h
  · rename_i n p x k p2 p3
    rw [Bool.and_eq_true] at h
    have h2 := str_ok h.2
    show (lk0.stores [Expr.Name n p] && (lk0.name n && true) && lk0.str x) = true
    have : lk0.stores [Expr.Name n p] = true := rfl
    rw [this, h.1, h2]
    rfl
  · cases h
theorem rows_ok : ∀ {l : List Stmt}, l.all textRow = true → noRoadLSs lk0 l = true
  | [], _ => rfl
  | st :: r, h => by
    rw [List.all_cons, Bool.and_eq_true] at h
    show (noRoadLS lk0 st && noRoadLSs lk0 r) = true
    rw [row_ok h.1, rows_ok h.2]
    rfl
theorem road_append (lk : Look) : ∀ {l r : List Stmt}, noRoadLSs lk l = true → noRoadLSs lk r = true → noRoadLSs lk (l ++ r) = true
  | [], _, _, h => h
  | st :: l, r, h, h' => by
    have h : (noRoadLS lk st && noRoadLSs lk l) = true := h
    rw [Bool.and_eq_true] at h
    show (noRoadLS lk st && noRoadLSs lk (l ++ r)) = true
    rw [h.1, road_append lk h.2 h']
    rfl
theorem bare_none : ((["vars", "dir", "locals"] : List Str).all fun n => !readsOut prg prg.main.body n) = true := by k_qdec
theorem strict_none : ((importedModules prg.main.body).all cThrough.contains) = true := by k_qdec
theorem lk_eq : ({ strict := !(importedModules prg.main.body).all cThrough.contains, foot := none, bare := (["vars", "dir", "locals"] : List Str).filter (readsOut prg prg.main.body) } : Look) = lk0 := by
  have h2 : (["vars", "dir", "locals"] : List Str).filter (readsOut prg prg.main.body) = [] := by
    rw [List.filter_eq_nil_iff]
    intro a ha hc
    have := List.all_eq_true.mp bare_none a ha
    rw [hc] at this
    cases this
  unfold lk0
  rw [h2, strict_none]
  rfl
theorem road_1 : noRoadLSs lk0 (prg.main.body.take 7) = true := by k_qdec
theorem road_2 : ((prg.main.body.drop 7).take 7).all textRow = true := by k_qdec
theorem road_3 : noRoadLSs lk0 ((prg.main.body.drop 7).drop 7) = true := by k_qdec
theorem road_all : noRoadLSs { strict := !(importedModules prg.main.body).all cThrough.contains, foot := none, bare := (["vars", "dir", "locals"] : List Str).filter (readsOut prg prg.main.body) } prg.main.body = true := by
  rw [lk_eq]
  have h := road_append lk0 road_1 (road_append lk0 (rows_ok road_2) road_3)
  rwa [List.take_append_drop, List.take_append_drop] at h
theorem said : PySem.Challenge.rw_nn0198_01.wellSaid = true := by
  unfold OpenLaw.wellSaid OpenRow.wellSaid OpenRow.partSaid looksOpen
  repeat' (with_reducible refine look_both ?_ ?_)
  all_goals first | with_reducible exact road_all | k_qdec
end Mine
end

section
open PySem PySem.W PyProof.Rows
set_option Elab.async false
set_option maxRecDepth 100000
set_option maxHeartbeats 0
namespace Mine
section
local macro_rules | `(tactic| o_head $_) => `(tactic| with_reducible assumption)
theorem fr (h : PySem.Challenge.rw_nn0198_01.row.Holds) : PySem.Challenge.rw_nn0198_01.row.Holds := by k_head
end
noncomputable def viewOf (p : Program) : Program := PySem.W.view p [0,2,3,4,6,7,8,9,10,11,12,13,14,15,16,17,18,19,20,21,22,23,24,25,26,27,29,30,31,32,33,34,35,36,37,38,39,40,41,42]
noncomputable def viewQ : Program := viewOf prg
noncomputable def addrs : List Addr := [2,3,15,17,18,20,21,22,29,30,32,33,35,36,37,39,40,42,43,44,45,46,47,50,57,58,59,62,65,66,69,70,71,74,75,76,78,79,81,82,83,86,87,88,90,91,93,94,95,97,98,100,101,102,104,105,107,108,109,111,112,114,115,116,119,120,121,124,125,126,128,129,131,132,133,135,136,138,139,140,142,143,145,146,147,149,150,152,153,154,156,157,159,160,161,163,164,166,167,168,170,171,173,174,175,178,179,180,182,183,185,186,187,189,190,192,193,194,196,197,199,200,201,203,204,206,207,208,211,212,213,215,216,218,219,220,223,224]
noncomputable def lawXt (q : Program) (s : Shared) : Bool := xlAt q [] s && recOk (RowW.records (OpenRow.toRowW PySem.Challenge.rw_nn0198_01.row)) s
theorem lit_eq (l : List Char) (ns : List Nat) (h : l.map Char.toNat = ns) : Str.ofString (String.ofList l) = ⟨ns.toArray⟩ := by
  rw [Str.ofString_eq_toList, String.toList_ofList, h]
theorem lit_cons (l : List Char) (ns : List Nat) {a b : List Str} (r : a = b) (h : l.map Char.toNat = ns) : Str.ofString (String.ofList l) :: a = ⟨ns.toArray⟩ :: b := by
  rw [lit_eq l ns h, r]
noncomputable def shortR : List Str := [Str.ofString "type.__subclasses__.Exception.0", Str.ofString "type.__subclasses__.Exception.n", Str.ofString "__name__", Str.ofString "law_nn0198_01", Str.ofString "__doc__", Str.ofString "__package__", Str.ofString "__loader__", Str.ofString "__spec__", Str.ofString "__annotations__", Str.ofString "__builtins__", Str.ofString "__file__", Str.ofString "/claim/cut.py", Str.ofString "__cached__", Str.ofString "_wall", Str.ofString "PaperError", Str.ofString "FontFault", Str.ofString "HEX_SIGNS", Str.ofString "0123456789ABCDEF", Str.ofString "FIGURES", Str.ofString "0123456789", Str.ofString "LOW_NAMES", Str.ofString "MIDDLE_NAMES", Str.ofString "HIGH_NAMES", Str.ofString "LATIN_NAMES", Str.ofString "STANDARD_WORDS", Str.ofString "WIN_WORDS", Str.ofString "MAC_WORDS", Str.ofString "OTHER_CODES", Str.ofString "SURROGATES", Str.ofString "MOST_CODE", Str.ofString "ascii_names", Str.ofString "latin_names", Str.ofString "with_words", Str.ofString "base_names", Str.ofString "hex_number", Str.ofString "hex_figures", Str.ofString "is_sign_code", Str.ofString "known_code", Str.ofString "part_text", Str.ofString "glyph_text", Str.ofString "glyph_name", Str.ofString "_law_encodings", Str.ofString "_law_standard", Str.ofString "_law_standard_far", Str.ofString "_law_win", Str.ofString "_law_mac", Str.ofString "_law_plain_names", Str.ofString "_law_pot", Str.ofString "_law_draw", Str.ofString "_law_code", Str.ofString "_law_hex", Str.ofString "_law_good", Str.ofString "_law_part", Str.ofString "_law_is_named", Str.ofString "law", Str.ofString "k", Str.ofString "self", Str.ofString "what", Str.ofString "at", Str.ofString "__init__", Str.ofString "PaperError.__init__", Str.ofString "told", Str.ofString "PaperError.told", Str.ofString "__module__", Str.ofString "paperhold.errors", Str.ofString "__firstlineno__", Str.ofString "__static_attributes__", Str.ofString "__weakref__", Str.ofString "Euro", Str.ofString "quotesinglbase", Str.ofString "florin", Str.ofString "quotedblbase", Str.ofString "ellipsis", Str.ofString "dagger", Str.ofString "daggerdbl", Str.ofString "circumflex", Str.ofString "perthousand", Str.ofString "Scaron", Str.ofString "guilsinglleft", Str.ofString "OE", Str.ofString "Zcaron", Str.ofString "quoteleft", Str.ofString "quoteright", Str.ofString "quotedblleft", Str.ofString "quotedblright", Str.ofString "bullet", Str.ofString "endash", Str.ofString "emdash", Str.ofString "tilde", Str.ofString "trademark", Str.ofString "scaron", Str.ofString "guilsinglright", Str.ofString "oe", Str.ofString "zcaron", Str.ofString "Ydieresis", Str.ofString "fraction", Str.ofString "fi", Str.ofString "fl", Str.ofString "breve", Str.ofString "dotaccent", Str.ofString "ring", Str.ofString "hungarumlaut", Str.ofString "ogonek", Str.ofString "caron", Str.ofString "Lslash", Str.ofString "lslash", Str.ofString "dotlessi", Str.ofString "names", Str.ofString "words", Str.ofString "laid", Str.ofString "code", Str.ofString "word", Str.ofString "signs", Str.ofString "worth", Str.ofString "sign", Str.ofString "count", Str.ofString "name", Str.ofString "pot", Str.ofString "limit", Str.ofString "place", Str.ofString "spot", Str.ofString "here", Str.ofString "way", Str.ofString "width", Str.ofString "figures_of", Str.ofString "text", Str.ofString "turn"]
noncomputable def shortT : List Str := [⟨([116,121,112,101,46,95,95,115,117,98,99,108,97,115,115,101,115,95,95,46,69,120,99,101,112,116,105,111,110,46,48] : List Nat).toArray⟩, ⟨([116,121,112,101,46,95,95,115,117,98,99,108,97,115,115,101,115,95,95,46,69,120,99,101,112,116,105,111,110,46,110] : List Nat).toArray⟩, ⟨([95,95,110,97,109,101,95,95] : List Nat).toArray⟩, ⟨([108,97,119,95,110,110,48,49,57,56,95,48,49] : List Nat).toArray⟩, ⟨([95,95,100,111,99,95,95] : List Nat).toArray⟩, ⟨([95,95,112,97,99,107,97,103,101,95,95] : List Nat).toArray⟩, ⟨([95,95,108,111,97,100,101,114,95,95] : List Nat).toArray⟩, ⟨([95,95,115,112,101,99,95,95] : List Nat).toArray⟩, ⟨([95,95,97,110,110,111,116,97,116,105,111,110,115,95,95] : List Nat).toArray⟩, ⟨([95,95,98,117,105,108,116,105,110,115,95,95] : List Nat).toArray⟩, ⟨([95,95,102,105,108,101,95,95] : List Nat).toArray⟩, ⟨([47,99,108,97,105,109,47,99,117,116,46,112,121] : List Nat).toArray⟩, ⟨([95,95,99,97,99,104,101,100,95,95] : List Nat).toArray⟩, ⟨([95,119,97,108,108] : List Nat).toArray⟩, ⟨([80,97,112,101,114,69,114,114,111,114] : List Nat).toArray⟩, ⟨([70,111,110,116,70,97,117,108,116] : List Nat).toArray⟩, ⟨([72,69,88,95,83,73,71,78,83] : List Nat).toArray⟩, ⟨([48,49,50,51,52,53,54,55,56,57,65,66,67,68,69,70] : List Nat).toArray⟩, ⟨([70,73,71,85,82,69,83] : List Nat).toArray⟩, ⟨([48,49,50,51,52,53,54,55,56,57] : List Nat).toArray⟩, ⟨([76,79,87,95,78,65,77,69,83] : List Nat).toArray⟩, ⟨([77,73,68,68,76,69,95,78,65,77,69,83] : List Nat).toArray⟩, ⟨([72,73,71,72,95,78,65,77,69,83] : List Nat).toArray⟩, ⟨([76,65,84,73,78,95,78,65,77,69,83] : List Nat).toArray⟩, ⟨([83,84,65,78,68,65,82,68,95,87,79,82,68,83] : List Nat).toArray⟩, ⟨([87,73,78,95,87,79,82,68,83] : List Nat).toArray⟩, ⟨([77,65,67,95,87,79,82,68,83] : List Nat).toArray⟩, ⟨([79,84,72,69,82,95,67,79,68,69,83] : List Nat).toArray⟩, ⟨([83,85,82,82,79,71,65,84,69,83] : List Nat).toArray⟩, ⟨([77,79,83,84,95,67,79,68,69] : List Nat).toArray⟩, ⟨([97,115,99,105,105,95,110,97,109,101,115] : List Nat).toArray⟩, ⟨([108,97,116,105,110,95,110,97,109,101,115] : List Nat).toArray⟩, ⟨([119,105,116,104,95,119,111,114,100,115] : List Nat).toArray⟩, ⟨([98,97,115,101,95,110,97,109,101,115] : List Nat).toArray⟩, ⟨([104,101,120,95,110,117,109,98,101,114] : List Nat).toArray⟩, ⟨([104,101,120,95,102,105,103,117,114,101,115] : List Nat).toArray⟩, ⟨([105,115,95,115,105,103,110,95,99,111,100,101] : List Nat).toArray⟩, ⟨([107,110,111,119,110,95,99,111,100,101] : List Nat).toArray⟩, ⟨([112,97,114,116,95,116,101,120,116] : List Nat).toArray⟩, ⟨([103,108,121,112,104,95,116,101,120,116] : List Nat).toArray⟩, ⟨([103,108,121,112,104,95,110,97,109,101] : List Nat).toArray⟩, ⟨([95,108,97,119,95,101,110,99,111,100,105,110,103,115] : List Nat).toArray⟩, ⟨([95,108,97,119,95,115,116,97,110,100,97,114,100] : List Nat).toArray⟩, ⟨([95,108,97,119,95,115,116,97,110,100,97,114,100,95,102,97,114] : List Nat).toArray⟩, ⟨([95,108,97,119,95,119,105,110] : List Nat).toArray⟩, ⟨([95,108,97,119,95,109,97,99] : List Nat).toArray⟩, ⟨([95,108,97,119,95,112,108,97,105,110,95,110,97,109,101,115] : List Nat).toArray⟩, ⟨([95,108,97,119,95,112,111,116] : List Nat).toArray⟩, ⟨([95,108,97,119,95,100,114,97,119] : List Nat).toArray⟩, ⟨([95,108,97,119,95,99,111,100,101] : List Nat).toArray⟩, ⟨([95,108,97,119,95,104,101,120] : List Nat).toArray⟩, ⟨([95,108,97,119,95,103,111,111,100] : List Nat).toArray⟩, ⟨([95,108,97,119,95,112,97,114,116] : List Nat).toArray⟩, ⟨([95,108,97,119,95,105,115,95,110,97,109,101,100] : List Nat).toArray⟩, ⟨([108,97,119] : List Nat).toArray⟩, ⟨([107] : List Nat).toArray⟩, ⟨([115,101,108,102] : List Nat).toArray⟩, ⟨([119,104,97,116] : List Nat).toArray⟩, ⟨([97,116] : List Nat).toArray⟩, ⟨([95,95,105,110,105,116,95,95] : List Nat).toArray⟩, ⟨([80,97,112,101,114,69,114,114,111,114,46,95,95,105,110,105,116,95,95] : List Nat).toArray⟩, ⟨([116,111,108,100] : List Nat).toArray⟩, ⟨([80,97,112,101,114,69,114,114,111,114,46,116,111,108,100] : List Nat).toArray⟩, ⟨([95,95,109,111,100,117,108,101,95,95] : List Nat).toArray⟩, ⟨([112,97,112,101,114,104,111,108,100,46,101,114,114,111,114,115] : List Nat).toArray⟩, ⟨([95,95,102,105,114,115,116,108,105,110,101,110,111,95,95] : List Nat).toArray⟩, ⟨([95,95,115,116,97,116,105,99,95,97,116,116,114,105,98,117,116,101,115,95,95] : List Nat).toArray⟩, ⟨([95,95,119,101,97,107,114,101,102,95,95] : List Nat).toArray⟩, ⟨([69,117,114,111] : List Nat).toArray⟩, ⟨([113,117,111,116,101,115,105,110,103,108,98,97,115,101] : List Nat).toArray⟩, ⟨([102,108,111,114,105,110] : List Nat).toArray⟩, ⟨([113,117,111,116,101,100,98,108,98,97,115,101] : List Nat).toArray⟩, ⟨([101,108,108,105,112,115,105,115] : List Nat).toArray⟩, ⟨([100,97,103,103,101,114] : List Nat).toArray⟩, ⟨([100,97,103,103,101,114,100,98,108] : List Nat).toArray⟩, ⟨([99,105,114,99,117,109,102,108,101,120] : List Nat).toArray⟩, ⟨([112,101,114,116,104,111,117,115,97,110,100] : List Nat).toArray⟩, ⟨([83,99,97,114,111,110] : List Nat).toArray⟩, ⟨([103,117,105,108,115,105,110,103,108,108,101,102,116] : List Nat).toArray⟩, ⟨([79,69] : List Nat).toArray⟩, ⟨([90,99,97,114,111,110] : List Nat).toArray⟩, ⟨([113,117,111,116,101,108,101,102,116] : List Nat).toArray⟩, ⟨([113,117,111,116,101,114,105,103,104,116] : List Nat).toArray⟩, ⟨([113,117,111,116,101,100,98,108,108,101,102,116] : List Nat).toArray⟩, ⟨([113,117,111,116,101,100,98,108,114,105,103,104,116] : List Nat).toArray⟩, ⟨([98,117,108,108,101,116] : List Nat).toArray⟩, ⟨([101,110,100,97,115,104] : List Nat).toArray⟩, ⟨([101,109,100,97,115,104] : List Nat).toArray⟩, ⟨([116,105,108,100,101] : List Nat).toArray⟩, ⟨([116,114,97,100,101,109,97,114,107] : List Nat).toArray⟩, ⟨([115,99,97,114,111,110] : List Nat).toArray⟩, ⟨([103,117,105,108,115,105,110,103,108,114,105,103,104,116] : List Nat).toArray⟩, ⟨([111,101] : List Nat).toArray⟩, ⟨([122,99,97,114,111,110] : List Nat).toArray⟩, ⟨([89,100,105,101,114,101,115,105,115] : List Nat).toArray⟩, ⟨([102,114,97,99,116,105,111,110] : List Nat).toArray⟩, ⟨([102,105] : List Nat).toArray⟩, ⟨([102,108] : List Nat).toArray⟩, ⟨([98,114,101,118,101] : List Nat).toArray⟩, ⟨([100,111,116,97,99,99,101,110,116] : List Nat).toArray⟩, ⟨([114,105,110,103] : List Nat).toArray⟩, ⟨([104,117,110,103,97,114,117,109,108,97,117,116] : List Nat).toArray⟩, ⟨([111,103,111,110,101,107] : List Nat).toArray⟩, ⟨([99,97,114,111,110] : List Nat).toArray⟩, ⟨([76,115,108,97,115,104] : List Nat).toArray⟩, ⟨([108,115,108,97,115,104] : List Nat).toArray⟩, ⟨([100,111,116,108,101,115,115,105] : List Nat).toArray⟩, ⟨([110,97,109,101,115] : List Nat).toArray⟩, ⟨([119,111,114,100,115] : List Nat).toArray⟩, ⟨([108,97,105,100] : List Nat).toArray⟩, ⟨([99,111,100,101] : List Nat).toArray⟩, ⟨([119,111,114,100] : List Nat).toArray⟩, ⟨([115,105,103,110,115] : List Nat).toArray⟩, ⟨([119,111,114,116,104] : List Nat).toArray⟩, ⟨([115,105,103,110] : List Nat).toArray⟩, ⟨([99,111,117,110,116] : List Nat).toArray⟩, ⟨([110,97,109,101] : List Nat).toArray⟩, ⟨([112,111,116] : List Nat).toArray⟩, ⟨([108,105,109,105,116] : List Nat).toArray⟩, ⟨([112,108,97,99,101] : List Nat).toArray⟩, ⟨([115,112,111,116] : List Nat).toArray⟩, ⟨([104,101,114,101] : List Nat).toArray⟩, ⟨([119,97,121] : List Nat).toArray⟩, ⟨([119,105,100,116,104] : List Nat).toArray⟩, ⟨([102,105,103,117,114,101,115,95,111,102] : List Nat).toArray⟩, ⟨([116,101,120,116] : List Nat).toArray⟩, ⟨([116,117,114,110] : List Nat).toArray⟩]
theorem short_eq : shortR = shortT := lit_cons ['t','y','p','e','.','_','_','s','u','b','c','l','a','s','s','e','s','_','_','.','E','x','c','e','p','t','i','o','n','.','0'] _ (h := rfl) <| lit_cons ['t','y','p','e','.','_','_','s','u','b','c','l','a','s','s','e','s','_','_','.','E','x','c','e','p','t','i','o','n','.','n'] _ (h := rfl) <| lit_cons ['_','_','n','a','m','e','_','_'] _ (h := rfl) <| lit_cons ['l','a','w','_','n','n','0','1','9','8','_','0','1'] _ (h := rfl) <| lit_cons ['_','_','d','o','c','_','_'] _ (h := rfl) <| lit_cons ['_','_','p','a','c','k','a','g','e','_','_'] _ (h := rfl) <| lit_cons ['_','_','l','o','a','d','e','r','_','_'] _ (h := rfl) <| lit_cons ['_','_','s','p','e','c','_','_'] _ (h := rfl) <| lit_cons ['_','_','a','n','n','o','t','a','t','i','o','n','s','_','_'] _ (h := rfl) <| lit_cons ['_','_','b','u','i','l','t','i','n','s','_','_'] _ (h := rfl) <| lit_cons ['_','_','f','i','l','e','_','_'] _ (h := rfl) <| lit_cons ['/','c','l','a','i','m','/','c','u','t','.','p','y'] _ (h := rfl) <| lit_cons ['_','_','c','a','c','h','e','d','_','_'] _ (h := rfl) <| lit_cons ['_','w','a','l','l'] _ (h := rfl) <| lit_cons ['P','a','p','e','r','E','r','r','o','r'] _ (h := rfl) <| lit_cons ['F','o','n','t','F','a','u','l','t'] _ (h := rfl) <| lit_cons ['H','E','X','_','S','I','G','N','S'] _ (h := rfl) <| lit_cons ['0','1','2','3','4','5','6','7','8','9','A','B','C','D','E','F'] _ (h := rfl) <| lit_cons ['F','I','G','U','R','E','S'] _ (h := rfl) <| lit_cons ['0','1','2','3','4','5','6','7','8','9'] _ (h := rfl) <| lit_cons ['L','O','W','_','N','A','M','E','S'] _ (h := rfl) <| lit_cons ['M','I','D','D','L','E','_','N','A','M','E','S'] _ (h := rfl) <| lit_cons ['H','I','G','H','_','N','A','M','E','S'] _ (h := rfl) <| lit_cons ['L','A','T','I','N','_','N','A','M','E','S'] _ (h := rfl) <| lit_cons ['S','T','A','N','D','A','R','D','_','W','O','R','D','S'] _ (h := rfl) <| lit_cons ['W','I','N','_','W','O','R','D','S'] _ (h := rfl) <| lit_cons ['M','A','C','_','W','O','R','D','S'] _ (h := rfl) <| lit_cons ['O','T','H','E','R','_','C','O','D','E','S'] _ (h := rfl) <| lit_cons ['S','U','R','R','O','G','A','T','E','S'] _ (h := rfl) <| lit_cons ['M','O','S','T','_','C','O','D','E'] _ (h := rfl) <| lit_cons ['a','s','c','i','i','_','n','a','m','e','s'] _ (h := rfl) <| lit_cons ['l','a','t','i','n','_','n','a','m','e','s'] _ (h := rfl) <| lit_cons ['w','i','t','h','_','w','o','r','d','s'] _ (h := rfl) <| lit_cons ['b','a','s','e','_','n','a','m','e','s'] _ (h := rfl) <| lit_cons ['h','e','x','_','n','u','m','b','e','r'] _ (h := rfl) <| lit_cons ['h','e','x','_','f','i','g','u','r','e','s'] _ (h := rfl) <| lit_cons ['i','s','_','s','i','g','n','_','c','o','d','e'] _ (h := rfl) <| lit_cons ['k','n','o','w','n','_','c','o','d','e'] _ (h := rfl) <| lit_cons ['p','a','r','t','_','t','e','x','t'] _ (h := rfl) <| lit_cons ['g','l','y','p','h','_','t','e','x','t'] _ (h := rfl) <| lit_cons ['g','l','y','p','h','_','n','a','m','e'] _ (h := rfl) <| lit_cons ['_','l','a','w','_','e','n','c','o','d','i','n','g','s'] _ (h := rfl) <| lit_cons ['_','l','a','w','_','s','t','a','n','d','a','r','d'] _ (h := rfl) <| lit_cons ['_','l','a','w','_','s','t','a','n','d','a','r','d','_','f','a','r'] _ (h := rfl) <| lit_cons ['_','l','a','w','_','w','i','n'] _ (h := rfl) <| lit_cons ['_','l','a','w','_','m','a','c'] _ (h := rfl) <| lit_cons ['_','l','a','w','_','p','l','a','i','n','_','n','a','m','e','s'] _ (h := rfl) <| lit_cons ['_','l','a','w','_','p','o','t'] _ (h := rfl) <| lit_cons ['_','l','a','w','_','d','r','a','w'] _ (h := rfl) <| lit_cons ['_','l','a','w','_','c','o','d','e'] _ (h := rfl) <| lit_cons ['_','l','a','w','_','h','e','x'] _ (h := rfl) <| lit_cons ['_','l','a','w','_','g','o','o','d'] _ (h := rfl) <| lit_cons ['_','l','a','w','_','p','a','r','t'] _ (h := rfl) <| lit_cons ['_','l','a','w','_','i','s','_','n','a','m','e','d'] _ (h := rfl) <| lit_cons ['l','a','w'] _ (h := rfl) <| lit_cons ['k'] _ (h := rfl) <| lit_cons ['s','e','l','f'] _ (h := rfl) <| lit_cons ['w','h','a','t'] _ (h := rfl) <| lit_cons ['a','t'] _ (h := rfl) <| lit_cons ['_','_','i','n','i','t','_','_'] _ (h := rfl) <| lit_cons ['P','a','p','e','r','E','r','r','o','r','.','_','_','i','n','i','t','_','_'] _ (h := rfl) <| lit_cons ['t','o','l','d'] _ (h := rfl) <| lit_cons ['P','a','p','e','r','E','r','r','o','r','.','t','o','l','d'] _ (h := rfl) <| lit_cons ['_','_','m','o','d','u','l','e','_','_'] _ (h := rfl) <| lit_cons ['p','a','p','e','r','h','o','l','d','.','e','r','r','o','r','s'] _ (h := rfl) <| lit_cons ['_','_','f','i','r','s','t','l','i','n','e','n','o','_','_'] _ (h := rfl) <| lit_cons ['_','_','s','t','a','t','i','c','_','a','t','t','r','i','b','u','t','e','s','_','_'] _ (h := rfl) <| lit_cons ['_','_','w','e','a','k','r','e','f','_','_'] _ (h := rfl) <| lit_cons ['E','u','r','o'] _ (h := rfl) <| lit_cons ['q','u','o','t','e','s','i','n','g','l','b','a','s','e'] _ (h := rfl) <| lit_cons ['f','l','o','r','i','n'] _ (h := rfl) <| lit_cons ['q','u','o','t','e','d','b','l','b','a','s','e'] _ (h := rfl) <| lit_cons ['e','l','l','i','p','s','i','s'] _ (h := rfl) <| lit_cons ['d','a','g','g','e','r'] _ (h := rfl) <| lit_cons ['d','a','g','g','e','r','d','b','l'] _ (h := rfl) <| lit_cons ['c','i','r','c','u','m','f','l','e','x'] _ (h := rfl) <| lit_cons ['p','e','r','t','h','o','u','s','a','n','d'] _ (h := rfl) <| lit_cons ['S','c','a','r','o','n'] _ (h := rfl) <| lit_cons ['g','u','i','l','s','i','n','g','l','l','e','f','t'] _ (h := rfl) <| lit_cons ['O','E'] _ (h := rfl) <| lit_cons ['Z','c','a','r','o','n'] _ (h := rfl) <| lit_cons ['q','u','o','t','e','l','e','f','t'] _ (h := rfl) <| lit_cons ['q','u','o','t','e','r','i','g','h','t'] _ (h := rfl) <| lit_cons ['q','u','o','t','e','d','b','l','l','e','f','t'] _ (h := rfl) <| lit_cons ['q','u','o','t','e','d','b','l','r','i','g','h','t'] _ (h := rfl) <| lit_cons ['b','u','l','l','e','t'] _ (h := rfl) <| lit_cons ['e','n','d','a','s','h'] _ (h := rfl) <| lit_cons ['e','m','d','a','s','h'] _ (h := rfl) <| lit_cons ['t','i','l','d','e'] _ (h := rfl) <| lit_cons ['t','r','a','d','e','m','a','r','k'] _ (h := rfl) <| lit_cons ['s','c','a','r','o','n'] _ (h := rfl) <| lit_cons ['g','u','i','l','s','i','n','g','l','r','i','g','h','t'] _ (h := rfl) <| lit_cons ['o','e'] _ (h := rfl) <| lit_cons ['z','c','a','r','o','n'] _ (h := rfl) <| lit_cons ['Y','d','i','e','r','e','s','i','s'] _ (h := rfl) <| lit_cons ['f','r','a','c','t','i','o','n'] _ (h := rfl) <| lit_cons ['f','i'] _ (h := rfl) <| lit_cons ['f','l'] _ (h := rfl) <| lit_cons ['b','r','e','v','e'] _ (h := rfl) <| lit_cons ['d','o','t','a','c','c','e','n','t'] _ (h := rfl) <| lit_cons ['r','i','n','g'] _ (h := rfl) <| lit_cons ['h','u','n','g','a','r','u','m','l','a','u','t'] _ (h := rfl) <| lit_cons ['o','g','o','n','e','k'] _ (h := rfl) <| lit_cons ['c','a','r','o','n'] _ (h := rfl) <| lit_cons ['L','s','l','a','s','h'] _ (h := rfl) <| lit_cons ['l','s','l','a','s','h'] _ (h := rfl) <| lit_cons ['d','o','t','l','e','s','s','i'] _ (h := rfl) <| lit_cons ['n','a','m','e','s'] _ (h := rfl) <| lit_cons ['w','o','r','d','s'] _ (h := rfl) <| lit_cons ['l','a','i','d'] _ (h := rfl) <| lit_cons ['c','o','d','e'] _ (h := rfl) <| lit_cons ['w','o','r','d'] _ (h := rfl) <| lit_cons ['s','i','g','n','s'] _ (h := rfl) <| lit_cons ['w','o','r','t','h'] _ (h := rfl) <| lit_cons ['s','i','g','n'] _ (h := rfl) <| lit_cons ['c','o','u','n','t'] _ (h := rfl) <| lit_cons ['n','a','m','e'] _ (h := rfl) <| lit_cons ['p','o','t'] _ (h := rfl) <| lit_cons ['l','i','m','i','t'] _ (h := rfl) <| lit_cons ['p','l','a','c','e'] _ (h := rfl) <| lit_cons ['s','p','o','t'] _ (h := rfl) <| lit_cons ['h','e','r','e'] _ (h := rfl) <| lit_cons ['w','a','y'] _ (h := rfl) <| lit_cons ['w','i','d','t','h'] _ (h := rfl) <| lit_cons ['f','i','g','u','r','e','s','_','o','f'] _ (h := rfl) <| lit_cons ['t','e','x','t'] _ (h := rfl) <| lit_cons ['t','u','r','n'] _ (h := rfl) rfl
noncomputable def textAt (p : Program) (i : Nat) : Str := match p.main.body[i]? with
  | some (.Assign _ (.Constant (.str x) _ _) _) => x
  | _ => Str.empty
noncomputable def strsOf (t : List Str) (p : Program) : List Str := ([0,1,2,3,4,5,6,7,8,9,10,11,12,13,14,15,16,17,18,19,20,127,21,128,22,129,23,130,24,131,25,132,26,133,27,28,29,30,31,32,33,34,35,36,37,38,39,40,41,42,43,44,45,46,47,48,49,50,51,52,53,54,55,13,13,11,11,56,57,58,59,60,11,11,56,61,62,11,11,58,57,63,64,65,59,61,66,67,4,67,63,64,65,66,4,68,69,70,71,72,73,74,75,76,77,78,79,80,81,82,83,84,85,86,87,88,89,90,91,92,93,94,95,96,97,98,99,100,101,102,103,104,105,106,30,30,11,11,31,31,11,11,107,108,109,110,111,32,32,11,11,33,33,11,11,112,113,114,34,34,11,11,113,115,112,35,35,11,11,110,36,36,11,11,116,107,37,37,11,11,38,38,11,11,39,39,11,11,110,116,40,40,11,11,41,41,11,11,42,42,11,11,43,43,11,11,44,44,11,11,45,45,11,11,46,46,11,11,47,47,11,11,117,118,119,120,121,48,48,11,11,122,110,49,49,11,11,110,123,124,125,126,50,50,11,11,110,51,51,11,11,52,52,11,11,110,116,53,53,11,11,54,54,11,11] : List Nat).map fun i => (t ++ [textAt p 7, textAt p 8, textAt p 9, textAt p 10, textAt p 11, textAt p 12, textAt p 13]).getD i Str.empty
noncomputable def reV : List Str → Value → Value × List Str
  | s :: r, .str _ t => (.str s t, r)
  | l, v => (v, l)
noncomputable def reVs : List Str → List Value → List Value × List Str
  | l, [] => ([], l)
  | l, v :: vs => ((reV l v).1 :: (reVs (reV l v).2 vs).1, (reVs (reV l v).2 vs).2)
noncomputable def reH (P : Params) (h : Int) : Value → Int
  | .str s _ => PyData.keyHash P s
  | _ => h
noncomputable def reE (P : Params) (l : List Str) (e : DictEntry) : DictEntry × List Str :=
  (⟨reH P e.hash (reV l e.key).1, (reV l e.key).1, (reV (reV l e.key).2 e.val).1⟩, (reV (reV l e.key).2 e.val).2)
noncomputable def reEs (P : Params) : List Str → List DictEntry → List DictEntry × List Str
  | l, [] => ([], l)
  | l, v :: vs => ((reE P l v).1 :: (reEs P (reE P l v).2 vs).1, (reEs P (reE P l v).2 vs).2)
noncomputable def reO (P : Params) (l : List Str) : Obj → Obj × List Str
  | ⟨c, d, .dict es n, sl⟩ => (⟨c, d, .dict (reEs P l es.toList).1.toArray n, sl⟩, (reEs P l es.toList).2)
  | ⟨c, d, .fields vs, sl⟩ => (⟨c, d, .fields (reVs l vs.toList).1.toArray, sl⟩, (reVs l vs.toList).2)
  | ⟨c, d, .seq vs n, sl⟩ => (⟨c, d, .seq (reVs l vs.toList).1.toArray n, sl⟩, (reVs l vs.toList).2)
  | o => (o, l)
noncomputable def defAddrs : List (Addr × Nat) := [(70,17),(75,18),(82,19),(87,20),(94,21),(101,22),(108,23),(115,24),(120,25),(125,26),(132,27),(139,29),(146,30),(153,31),(160,32),(167,33),(174,34),(179,35),(186,36),(193,37),(200,38),(207,39),(212,40),(219,41),(224,42)]
noncomputable def patchO (p : Program) (a : Addr) (o : Obj) : Obj := match o with
  | ⟨c, d, .func f, sl⟩ => match (defAddrs.lookup a).bind (fun i => p.main.body[i]?) with
    | some (.FunctionDef n ps b _ _ _ sc _ _ _) => ⟨c, d, .func { f with name := n, qualname := n, params := ps, body := .stmts b, scope := sc }, sl⟩
    | _ => o
  | o => o
noncomputable def reK (P : Params) (p : Program) : List Str → Frag → Frag
  | _, [] => []
  | l, (a, o) :: r => (a, patchO p a (reO P l o).1) :: reK P p (reO P l o).2 r
theorem re_same (P : Params) : reK P prg (strsOf shortR prg) (fr.heap_1 P) = fr.heap_1 P := by kernel_rfl
noncomputable def topT (sp : SharedT → Thread → Option (SharedT × Thread)) (ok : Thread → Bool) : Nat → SharedT → Thread → Option SharedT
  | 0, _, _ => none
  | n + 1, s, t => match through t with
    | true => some s
    | false => match ok t with
      | false => none
      | true => match sp s t with
        | some (s', t') => topT sp ok n s' t'
        | none => none
theorem topT_run {tb : String → Option Builtin} {p : Program} {w : World} {n₀ : Nat} {ann : Option Value} : ∀ {n : Nat} {s s' : SharedT} {t : Thread}, topT (stepT (denote tb) p w) (stepOk n₀ ann) n s t = some s' → topRun tb p w n₀ ann n s.abs t = some s'.abs
  | 0, _, _, _, h => by cases h
  | n + 1, s, s', t, h => by
    unfold topT at h
    unfold topRun
    split at h
    · rename_i e; cases h; rw [e]
    · rename_i e
      split at h
      · cases h
      · rename_i e2
        split at h
        · rename_i s2 t2 e3
          rw [e, e2, stepT_spec e3]
          exact topT_run h
        · cases h
noncomputable def bootT (P : Params) : BT := ((((((((((BT.nil.ins 0 (boot_o_0 P)).ins 1 (boot_o_1 P)).ins 2 (boot_o_2 P)).ins 3 (boot_o_3 P)).ins 4 (boot_o_4 P)).ins 5 (boot_o_5 P)).ins 6 (boot_o_6 P)).ins 7 (boot_o_7 P)).ins 8 (boot_o_8 P)).ins 9 (boot_o_9 P)).ins 10 (boot_o_10 P)
noncomputable def bootS (P : Params) (os : OsState) : SharedT := ⟨bootT P, 11, (boot_heap P).life, #[], boot_drawn, boot_toks, os⟩
theorem boot_abs (P : Params) (os : OsState) : (bootS P os).abs = ⟨boot_heap P, #[], boot_drawn, boot_toks, os⟩ := by kernel_rfl
theorem boot_ann (P : Params) : (boot_heap P).nsMap mainGlobals "__annotations__" = some (.ref 6) := by kernel_rfl
theorem boot_ns (P : Params) : (boot_heap P).isNs mainGlobals = true := by kernel_rfl
theorem boot_size (P : Params) : (boot_heap P).objs.size = 11 := by kernel_rfl
theorem open_plain : opening prg = plainProg prg.main.scope.names := by kernel_rfl
theorem fence_plain (s : Shared) : fenceModules? prg s = some s := by kernel_rfl
noncomputable def RunsTo {γ : Type} (dn : (String → Option Builtin) → Code → Sem Fin) (st : (Code → Sem Fin) → Program → World → SharedT → Thread → Option (SharedT × Thread)) (sk : Nat → Option Value → Thread → Bool) (tb : String → Option Builtin) (im : List Stmt → List Str) (os : Program → List Str → List Str → (Shared → Bool) → Bool → Shared → γ) (good : Program → List Str → γ) (t : List Str) (lo : List Str) (p : Program) (b : Bool) : Prop :=
  ∀ (w : World) (o : OsState), (topT (st (dn tb) p (w.withFollow "special-get-raises" b)) (sk 11 (some (.ref 6))) 4316 (bootS (w.withFollow "special-get-raises" b).params o) (topStub p)).map (fun s =>
      (staticsOk (im p.main.body) (boot_heap (w.withFollow "special-get-raises" b).params) s.abs.heap && namesBound p s.abs.heap && gensDone s.abs && laidKept (boot_heap (w.withFollow "special-get-raises" b).params) s.abs.heap,
        os (viewOf p) lo (im p.main.body) (lawXt (viewOf p)) true s.abs, addrs.map s.abs.heap.get?)) =
    some (true, good (viewOf p) lo, (reK (w.withFollow "special-get-raises" b).params p (strsOf t p) (fr.heap_1 (w.withFollow "special-get-raises" b).params)).map fun x => some x.2)
theorem run_false : RunsTo PySem.W.Fast.tw11892475500146522536 PySem.W.Fast.tw10156331382660048174 PySem.W.Fast.tw6613529449190102663 PySem.W.Fast.tw14364793385576792824 PySem.W.Fast.tw5923862056798008813 PySem.W.Fast.tw4187177175401517315 openGood shortT [Str.ofString "PaperError", Str.ofString "OTHER_CODES"] PySem.W.Fast.tw10109631699748808819 false := by
  unfold RunsTo
  intro w o
  kernel_rfl
theorem run_true : RunsTo PySem.W.Fast.tw11892475500146522536 PySem.W.Fast.tw10156331382660048174 PySem.W.Fast.tw6613529449190102663 PySem.W.Fast.tw14364793385576792824 PySem.W.Fast.tw5923862056798008813 PySem.W.Fast.tw4187177175401517315 openGood shortT [Str.ofString "PaperError", Str.ofString "OTHER_CODES"] PySem.W.Fast.tw10109631699748808819 true := by
  unfold RunsTo
  intro w o
  kernel_rfl
theorem ends_of {γ : Type} {os : Program → List Str → List Str → (Shared → Bool) → Bool → Shared → γ} {good : Program → List Str → γ} {lo : List Str} {b : Bool} (R : RunsTo denote stepT stepOk treeTable importedModules os good shortR lo prg b) (w : World) :
    (openEnds treeTable prg (w.withFollow "special-get-raises" b) 4316).map (fun s => (os viewQ lo (importedModules prg.main.body) (lawXt viewQ) true s, addrs.map s.heap.get?)) = some (good viewQ lo, (fr.heap_1 (w.withFollow "special-get-raises" b).params).map fun x => some x.2) := by
  generalize hW : w.withFollow "special-get-raises" b = W
  obtain ⟨⟨h, gs, d, k, o⟩, e, e'⟩ := Option.map_eq_some_iff.mp (boot_open (N := 4316) open_plain rfl fence_plain W)
  obtain ⟨rfl, rfl, rfl, rfl⟩ : h = boot_heap W.params ∧ gs = #[] ∧ d = boot_drawn ∧ k = boot_toks := by simpa using e'
  have r := R w o
  rw [hW, re_same] at r
  obtain ⟨sT, hT, eT⟩ := Option.map_eq_some_iff.mp r
  obtain ⟨c1, c2⟩ := Prod.mk.inj eT
  have q := topT_run hT
  rw [boot_abs] at q
  have t : topFrom treeTable prg W 4316 ⟨boot_heap W.params, #[], boot_drawn, boot_toks, o⟩ = some sT.abs := by
    unfold topFrom
    dsimp only
    rw [boot_ns, boot_ann, boot_size, q]
    dsimp only [Option.bind]
    rw [c1]
    rfl
  unfold openEnds
  rw [e, Option.bind_some, t, Option.map_some]
  exact congrArg some c2
theorem left_of {γ : Type} {tb : String → Option Builtin} {im : List Stmt → List Str} {os : Program → List Str → List Str → (Shared → Bool) → Bool → Shared → γ} {good : Program → List Str → γ} {t lo : List Str} {p : Program}
    {dn : (String → Option Builtin) → Code → Sem Fin} {st : (Code → Sem Fin) → Program → World → SharedT → Thread → Option (SharedT × Thread)} {sk : Nat → Option Value → Thread → Bool} (hdn : denote = dn) (hst : stepT = st) (hsk : stepOk = sk) (hp : prg = p) (ht : shortR = t) (htb : treeTable = tb) (him : importedModules = im) (f : RunsTo dn st sk tb im os good t lo p false) (g : RunsTo dn st sk tb im os good t lo p true) :
    ∀ w : World, (openEnds treeTable prg w 4316).map (fun s => (os viewQ lo (importedModules prg.main.body) (lawXt viewQ) true s, addrs.map s.heap.get?)) = some (good viewQ lo, (fr.heap_1 w.params).map fun x => some x.2) := by
  subst hp ht htb him hdn hst hsk
  intro w
  have h : ∀ b : Bool, (openEnds treeTable prg (w.withFollow "special-get-raises" b) 4316).map (fun s => (os viewQ lo (importedModules prg.main.body) (lawXt viewQ) true s, addrs.map s.heap.get?)) = some (good viewQ lo, (fr.heap_1 (w.withFollow "special-get-raises" b).params).map fun x => some x.2) := by
    intro b
    cases b
    · exact ends_of f w
    · exact ends_of g w
  have h' := h (w.params.followText "special-get-raises")
  rwa [World.withFollow_self] at h'
theorem left : LeftO PySem.Challenge.rw_nn0198_01.row.prog viewQ [Str.ofString "PaperError", Str.ofString "OTHER_CODES"] (fun s => xlAt viewQ [] s && recOk (RowW.records (OpenRow.toRowW PySem.Challenge.rw_nn0198_01.row)) s) (fun s => addrs.map s.heap.get?) (fun w => (fr.heap_1 w.params).map fun x => some x.2) 4316 := by
  have h := left_of PySem.W.Fast.te11892475500146522536 PySem.W.Fast.te10156331382660048174 PySem.W.Fast.te6613529449190102663 PySem.W.Fast.te10109631699748808819 short_eq PySem.W.Fast.te14364793385576792824 PySem.W.Fast.te5923862056798008813 run_false run_true
  rw [← PySem.W.Fast.te4187177175401517315] at h
  exact h
end Mine
end

open PySem PySem.W PyProof.Rows
local macro_rules | `(tactic| walk_at $s:str) => `(tactic| k_extra $s)

section
open PySem PySem.W PyProof.Rows PySem.Calls PySem.Spec
set_option Elab.async false
set_option maxRecDepth 100000
set_option maxHeartbeats 0
namespace Mine
noncomputable abbrev PRG : Program := PySem.Challenge.rw_nn0198_01.row.prog
noncomputable abbrev LOOSE : List Str := looseW Mine.viewQ [Str.ofString "PaperError", Str.ofString "OTHER_CODES"]
noncomputable abbrev CAround (hd : Option Value) (dp un : Nat) (gd : Option (List Code)) (cn : Str) (cs : Scope) (L a : Addr) (ccd : Value) (cl : List (Str × Addr)) (outer : List Env) : Around :=
  { handled := hd, depth := dp, frames := some (envX cn cs L a ccd cl :: outer), guards := gd, units := un }
noncomputable def Keeps (h h' : Heap) : Prop := ∀ b o, h.get? b = some o → h'.get? b = some o
noncomputable def KeepsBut (mu : List (Addr × Obj)) (h h' : Heap) : Prop := ∀ b o, h.get? b = some o → b ∉ mu.map (·.1) → h'.get? b = some o
noncomputable abbrev CallsIn (kk : Nat) (hd : Option Value) (w : World) (f : Addr) (vs : List Value) (mu : List (Addr × Obj)) (post : Heap → Value → Heap → Prop) : Prop :=
  ∀ (mean : ExcName → Option Value) (mg mb : Str → Option Value) (dp un : Nat) (gd : Option (List Code)) (cn : Str) (cs : Scope) (a : Addr) (ccd : Value) (cl : List (Str × Addr)) (outer : List Env) (A₀ : Around) (base h₀ : Heap) (L : Addr) (m : Str → Option Value) (s : Shared) (Q E : Value → Shared → Prop),
    Below A₀ base outer h₀ → Fr h₀ L s.heap m → (Mine.fr.heap_1 w.params).In h₀ → News h₀ L s.heap mu → Top Mine.viewQ LOOSE mean mg mb h₀ → cs.kind = .function → dp + kk < recursionLimit → un + 16 * kk < cLine →
    (∀ v h' tk', post s.heap v h' → Q v { s with heap := h', toks := tk' }) → wpAny (model PRG w) (CAround hd dp un gd cn cs L a ccd cl outer) (call (.ref f) vs) Q E s
noncomputable abbrev CallsTo (kk : Nat) (w : World) (f : Addr) (vs : List Value) (mu : List (Addr × Obj)) (post : Heap → Value → Heap → Prop) : Prop   := CallsIn kk none w f vs mu post
noncomputable def PVal (R : Tok → Value) (h : Heap) (v : Value) (h' : Heap) : Prop := Keeps h h' ∧ ∃ t, v = R t
noncomputable def PTexts (ys : List Str) (h : Heap) (v : Value) (h' : Heap) : Prop := Keeps h h' ∧ ∃ (a : Addr) (vs : List Value) (n : Nat), v = .ref a ∧ StrsAre vs ys ∧ h'.get? a = some (listOf vs.toArray n) ∧ h.get? a = none

section
variable {prog : Program} {w : World} {A₀ A : Around} {s : Shared} {base h₀ : Heap} {outer : List Env} {L : Addr} {m : Str → Option Value} {K : Frag} {p : Program} {loose : List Str} {mean : ExcName → Option Value} {mg mb : Str → Option Value}
theorem enter {env : Env} {R : Result → Shared → Prop} {name qual : Str} {params : Arguments} {body : List Stmt} {scope : Scope} {dV kV doc pm cdv ct oc : Value} {an od : Option Addr} {osl : Array (Option Value)} {f : Addr} {args : Args} {binds : List (Str × Value)} {mu : List (Addr × Obj)}
    (B : Below A₀ base outer h₀) (F : Fr h₀ L s.heap m) (X₀ : K.In h₀) (N : News h₀ L s.heap mu) (T : Top p loose mean mg mb h₀) (hA : A.frames = some (env :: outer)) (hf : env.frame = some L) (hke : env.scope.kind = .function)
    (ho : K.lookup f = some ⟨oc, od, .func (fnOf name qual params body scope dV kV doc pm an cdv ct), osl⟩) (hcd : codeIn K cdv qual = true) (hroom : A.depth < recursionLimit)
    (hbind : BindsTo s (fnOf name qual params body scope dV kV doc pm an cdv ct) args binds) (hloc : ∀ y ∈ binds, scope.names.lookup y.1 = some .local)
    (h : ∀ g L' h₁, KeepsBut mu s.heap g → Keeps g s.heap → Fr g L' h₁ (fun y => binds.reverse.lookup y) → News g L' h₁ mu → Below A base (env :: outer) g → K.In g → Top p loose mean mg mb g →
      wpAny (model prog w) (A.deeper (envOf qual scope L' f cdv)) (execs body (envOf qual scope L' f cdv))
        (fun fl s' => R (.ok (.ret (match fl with | .ret v => v | _ => .none))) s')
        (fun e s' => wpAny (model prog w) (A.deeper (envOf qual scope L' f cdv)) (leaving (envOf qual scope L' f cdv) e) (fun _ s'' => R (.error e) s'') (fun e' s'' => R (.error e') s'') s')
        { s with heap := h₁, toks := s.toks + binds.length })
    (hco : scope.isCoroutine = false) (hgen : scope.isGenerator = false) (hk : scope.kind = .function)
    (hcell : ∀ x ∈ scope.names, x.2 ≠ .cell) : codeAny (model prog w) A (.call (.ref f) args) R s := by
  obtain ⟨FG, BG, st, _⟩ := groundX (R := R) B F N hA hf hke
  refine codeAny_call_def (fd := fnX name qual params body scope [] dV kV doc pm an cdv ct) (body := body) (binds := binds) hroom ((X₀.keeps F.keep) _ _ ho) rfl (T.nolimit.keeps F.keep) (codeRec_of (X₀.keeps F.keep) hcd) rfl hbind hcell hloc (fun h₁ hns hk₁ => ?_) hco hgen hk
  exact h _ s.heap.objs.size h₁ (fun b o e q => hideAll_get _ e q) (fun b o e => of_hideAll _ e) ⟨hns, fun b o e => hk₁ b o (of_hideAll _ e), Nat.le_of_eq (hideAll_size _ _)⟩
    (fun p hp => ⟨hk₁ _ _ (N p hp).1, Nat.ne_of_lt (Heap.lt_size (N p hp).1), hideAll_none _ (List.mem_map_of_mem hp)⟩) BG (X₀.keeps st) (T.keeps st)
theorem enterC {env : Env} {R : Result → Shared → Prop} {name qual : Str} {params : Arguments} {body : List Stmt} {scope : Scope} {dV kV doc pm cdv ct oc : Value} {an od : Option Addr} {osl : Array (Option Value)} {f : Addr} {args : Args} {binds : List (Str × Value)} {mu : List (Addr × Obj)}
    (B : Below A₀ base outer h₀) (F : Fr h₀ L s.heap m) (X₀ : K.In h₀) (N : News h₀ L s.heap mu) (T : Top p loose mean mg mb h₀) (hA : A.frames = some (env :: outer)) (hf : env.frame = some L) (hke : env.scope.kind = .function)
    (ho : K.lookup f = some ⟨oc, od, .func (fnOf name qual params body scope dV kV doc pm an cdv ct), osl⟩) (hcd : codeIn K cdv qual = true) (hroom : A.depth < recursionLimit)
    (hbind : BindsTo s (fnOf name qual params body scope dV kV doc pm an cdv ct) args binds) (hkind : (binds.all fun y => scope.names.lookup y.1 == some .local || scope.names.lookup y.1 == some .cell) = true)
    (hnd : ((cellsFrom 0 scope.names []).map (·.1)).Nodup)
    (h : ∀ g L' h₁ tk cells, KeepsBut mu s.heap g → Keeps g s.heap → Fr g L' h₁ (bindL (envOfC qual scope L' f cdv).kindOf binds fun _ => none) → News g L' h₁ (cells ++ mu) →
      CellsAre (bindC (envOfC qual scope L' f cdv).kindOf binds fun _ => none) (cellsFrom (L' + 1) scope.names []) cells → Below A base (env :: outer) g → K.In g → Top p loose mean mg mb g → (∀ p ∈ mu, p.1 < L') →
      wpAny (model prog w) (A.deeper (envOfC qual scope L' f cdv)) (execs body (envOfC qual scope L' f cdv))
        (fun fl s' => R (.ok (.ret (match fl with | .ret v => v | _ => .none))) s')
        (fun e s' => wpAny (model prog w) (A.deeper (envOfC qual scope L' f cdv)) (leaving (envOfC qual scope L' f cdv) e) (fun _ s'' => R (.error e) s'') (fun e' s'' => R (.error e') s'') s')
        { s with heap := h₁, toks := tk })
    (hco : scope.isCoroutine = false) (hgen : scope.isGenerator = false) (hk : scope.kind = .function) : codeAny (model prog w) A (.call (.ref f) args) R s := by
  obtain ⟨FG, BG, st, _⟩ := groundX (R := R) B F N hA hf hke
  have hlim := T.nolimit
  refine codeAny_call_function (fd := fnX name qual params body scope [] dV kV doc pm an cdv ct) hroom ((X₀.keeps F.keep) _ _ ho) rfl hco hgen rfl (codeRec_of (X₀.keeps F.keep) hcd) (hbind _ _ _ _ ?_)
  refine wpAny_newFunctionEnv_cells hk (kindsX hkind _) fun env' he s' x => ?_
  subst he
  refine ⟨(hlim.keeps F.keep).keeps x.toInCall.keep, codeAny_func ?_⟩
  obtain ⟨h₁, tk, rfl, _⟩ := x.done
  have hk₁ := x.toInCall.keep
  obtain ⟨cells, NC, Y⟩ := Cl.news (h₀ := s.heap) (Nat.le_refl _) fun n c hm => ⟨x.cell n c (lookup_of_mem_nodup (cellsFrom_names scope.names 0 (s.heap.objs.size + 1) [] [] rfl ▸ hnd) hm), x.above n c hm⟩
  refine h _ s.heap.objs.size h₁ tk cells (fun b o e q => hideAll_get _ e q) (fun b o e => of_hideAll _ e) ⟨x.toInCall.ns, fun b o e => hk₁ b o (of_hideAll _ e), Nat.le_of_eq (hideAll_size _ _)⟩ (fun p hp => ?_) Y BG (X₀.keeps st) (T.keeps st) (fun p hp => Heap.lt_size (N p hp).1)
  rcases List.mem_append.mp hp with hp | hp
  · refine ⟨(NC p hp).1, (NC p hp).2.1, ?_⟩
    cases q : (hideAll s.heap (mu.map (·.1))).get? p.1 with
    | none => rfl
    | some o => have := of_hideAll _ q; rw [(NC p hp).2.2] at this; cases this
  · exact ⟨hk₁ _ _ (N p hp).1, Nat.ne_of_lt (Heap.lt_size (N p hp).1), hideAll_none _ (List.mem_map_of_mem hp)⟩
end

section
variable {s : Shared} {Q : Value → Shared → Prop} {g h' : Heap} {L' : Addr} {m' : Str → Option Value} {v : Value} {tk : Nat} {news : List (Addr × Obj)}
theorem keeps_of (G : KeepsBut [] s.heap g) (F : Fr g L' h' m') : Keeps s.heap h' := fun b o e => F.keep b o (G b o e (by simp))
theorem end_val {R : Tok → Value} (hret : ∀ v h' tk', PVal R s.heap v h' → Q v { s with heap := h', toks := tk' }) (G : KeepsBut [] s.heap g) (F : Fr g L' h' m') (t : Tok) (e : v = R t) : Q v { s with heap := h', toks := tk } :=
  hret v h' tk ⟨keeps_of G F, t, e⟩
theorem end_texts {ys : List Str} {a : Addr} {vs : List Value} {n : Nat} (hret : ∀ v h' tk', PTexts ys s.heap v h' → Q v { s with heap := h', toks := tk' }) (G : KeepsBut [] s.heap g) (F : Fr g L' h' m') (N : News g L' h' news)
    (hm : (a, listOf vs.toArray n) ∈ news) (hs : StrsAre vs ys) : Q (.ref a) { s with heap := h', toks := tk } :=
  hret _ h' tk ⟨keeps_of G F, a, vs, n, rfl, hs, N.get hm, by
    cases q : s.heap.get? a with
    | none => rfl
    | some o => have := G a o q (by simp); rw [N.fresh hm] at this; cases this⟩
theorem off1_of {a : Addr} {h : Heap} (e : h.get? a = none) {h₀ : Heap} {L : Addr} : ∀ {news : List (Addr × Obj)}, News h₀ L h news → LCg.Off1 a news
  | [], _ => trivial
  | p :: _, N => ⟨(fun q => by have := (N p (.head _)).1; rw [q, e] at this; cases this), off1_of e fun x hx => N x (.tail _ hx)⟩
end

section
variable {kk : Nat} {w : World} {hd : Option Value} {f : Addr} {vs : List Value} {mean : ExcName → Option Value} {mg mb : Str → Option Value} {dp un : Nat} {gd : Option (List Code)} {cn : Str} {cs : Scope} {a : Addr} {ccd : Value} {cl : List (Str × Addr)} {outer : List Env} {A₀ : Around} {base h₀ : Heap} {L : Addr} {m : Str → Option Value} {s : Shared} {Q E : Value → Shared → Prop} {news : List (Addr × Obj)}
theorem use_val {R : Tok → Value} (C : CallsIn kk hd w f vs [] (PVal R)) (B : Below A₀ base outer h₀) (F : Fr h₀ L s.heap m) (X : (Mine.fr.heap_1 w.params).In h₀) (N : News h₀ L s.heap news) (T : Top Mine.viewQ LOOSE mean mg mb h₀) (hk : cs.kind = .function) (hd' : dp + kk < recursionLimit) (hu : un + 16 * kk < cLine)
    (h : ∀ t h' tk', Fr h₀ L h' m → News h₀ L h' news → Q (R t) { s with heap := h', toks := tk' }) : wpAny (model PRG w) (CAround hd dp un gd cn cs L a ccd cl outer) (call (.ref f) vs) Q E s :=
  C _ _ _ _ _ _ _ _ _ _ _ _ _ _ _ _ _ _ _ _ B F X News.nil T hk hd' hu fun _ h' tk' hp => by
    obtain ⟨k, t, rfl⟩ := hp
    exact h t h' tk' (F.keeps k) (N.grown k)
theorem use_texts {ys : List Str} (C : CallsIn kk hd w f vs [] (PTexts ys)) (B : Below A₀ base outer h₀) (F : Fr h₀ L s.heap m) (X : (Mine.fr.heap_1 w.params).In h₀) (N : News h₀ L s.heap news) (T : Top Mine.viewQ LOOSE mean mg mb h₀) (hk : cs.kind = .function) (hd' : dp + kk < recursionLimit) (hu : un + 16 * kk < cLine)
    (h : ∀ D vs n h' tk', StrsAre vs ys → Fr h₀ L h' m → News h₀ L h' ((D, listOf vs.toArray n) :: news) → LCg.Off1 D news → Q (.ref D) { s with heap := h', toks := tk' }) : wpAny (model PRG w) (CAround hd dp un gd cn cs L a ccd cl outer) (call (.ref f) vs) Q E s :=
  C _ _ _ _ _ _ _ _ _ _ _ _ _ _ _ _ _ _ _ _ B F X News.nil T hk hd' hu fun _ h' tk' hp => by
    obtain ⟨k, D, vs', n, rfl, hs, hD, hn⟩ := hp
    refine h D vs' n h' tk' hs (F.keeps k) (fun p hp => ?_) (off1_of hn N)
    rcases List.mem_cons.mp hp with rfl | hp
    · refine ⟨hD, fun q => ?_, ?_⟩
      · obtain ⟨oL, _, _, hL, _⟩ := F.ns
        rw [show D = L from q, hL] at hn; cases hn
      · cases q : h₀.get? D with
        | none => rfl
        | some o => have := F.keep _ _ q; rw [hn] at this; cases this
    · exact N.grown k p hp
end
end Mine
end

section
open PySem PySem.W PyProof.Rows PySem.Calls PySem.Spec
set_option Elab.async false
set_option maxRecDepth 100000
set_option maxHeartbeats 0
namespace Mine
noncomputable def asciiN : List Str := [⟨#[115,112,97,99,101]⟩, ⟨#[101,120,99,108,97,109]⟩, ⟨#[113,117,111,116,101,100,98,108]⟩, ⟨#[110,117,109,98,101,114,115,105,103,110]⟩, ⟨#[100,111,108,108,97,114]⟩, ⟨#[112,101,114,99,101,110,116]⟩, ⟨#[97,109,112,101,114,115,97,110,100]⟩, ⟨#[113,117,111,116,101,115,105,110,103,108,101]⟩, ⟨#[112,97,114,101,110,108,101,102,116]⟩, ⟨#[112,97,114,101,110,114,105,103,104,116]⟩, ⟨#[97,115,116,101,114,105,115,107]⟩, ⟨#[112,108,117,115]⟩, ⟨#[99,111,109,109,97]⟩, ⟨#[104,121,112,104,101,110]⟩, ⟨#[112,101,114,105,111,100]⟩, ⟨#[115,108,97,115,104]⟩, ⟨#[122,101,114,111]⟩, ⟨#[111,110,101]⟩, ⟨#[116,119,111]⟩, ⟨#[116,104,114,101,101]⟩, ⟨#[102,111,117,114]⟩, ⟨#[102,105,118,101]⟩, ⟨#[115,105,120]⟩, ⟨#[115,101,118,101,110]⟩, ⟨#[101,105,103,104,116]⟩, ⟨#[110,105,110,101]⟩, ⟨#[99,111,108,111,110]⟩, ⟨#[115,101,109,105,99,111,108,111,110]⟩, ⟨#[108,101,115,115]⟩, ⟨#[101,113,117,97,108]⟩, ⟨#[103,114,101,97,116,101,114]⟩, ⟨#[113,117,101,115,116,105,111,110]⟩, ⟨#[97,116]⟩, ⟨#[65]⟩, ⟨#[66]⟩, ⟨#[67]⟩, ⟨#[68]⟩, ⟨#[69]⟩, ⟨#[70]⟩, ⟨#[71]⟩, ⟨#[72]⟩, ⟨#[73]⟩, ⟨#[74]⟩, ⟨#[75]⟩, ⟨#[76]⟩, ⟨#[77]⟩, ⟨#[78]⟩, ⟨#[79]⟩, ⟨#[80]⟩, ⟨#[81]⟩, ⟨#[82]⟩, ⟨#[83]⟩, ⟨#[84]⟩, ⟨#[85]⟩, ⟨#[86]⟩, ⟨#[87]⟩, ⟨#[88]⟩, ⟨#[89]⟩, ⟨#[90]⟩, ⟨#[98,114,97,99,107,101,116,108,101,102,116]⟩, ⟨#[98,97,99,107,115,108,97,115,104]⟩, ⟨#[98,114,97,99,107,101,116,114,105,103,104,116]⟩, ⟨#[97,115,99,105,105,99,105,114,99,117,109]⟩, ⟨#[117,110,100,101,114,115,99,111,114,101]⟩, ⟨#[103,114,97,118,101]⟩, ⟨#[97]⟩, ⟨#[98]⟩, ⟨#[99]⟩, ⟨#[100]⟩, ⟨#[101]⟩, ⟨#[102]⟩, ⟨#[103]⟩, ⟨#[104]⟩, ⟨#[105]⟩, ⟨#[106]⟩, ⟨#[107]⟩, ⟨#[108]⟩, ⟨#[109]⟩, ⟨#[110]⟩, ⟨#[111]⟩, ⟨#[112]⟩, ⟨#[113]⟩, ⟨#[114]⟩, ⟨#[115]⟩, ⟨#[116]⟩, ⟨#[117]⟩, ⟨#[118]⟩, ⟨#[119]⟩, ⟨#[120]⟩, ⟨#[121]⟩, ⟨#[122]⟩, ⟨#[98,114,97,99,101,108,101,102,116]⟩, ⟨#[98,97,114]⟩, ⟨#[98,114,97,99,101,114,105,103,104,116]⟩, ⟨#[97,115,99,105,105,116,105,108,100,101]⟩]
noncomputable def latinW : List Str := [⟨#[101,120,99,108,97,109,100,111,119,110]⟩, ⟨#[99,101,110,116]⟩, ⟨#[115,116,101,114,108,105,110,103]⟩, ⟨#[99,117,114,114,101,110,99,121]⟩, ⟨#[121,101,110]⟩, ⟨#[98,114,111,107,101,110,98,97,114]⟩, ⟨#[115,101,99,116,105,111,110]⟩, ⟨#[100,105,101,114,101,115,105,115]⟩, ⟨#[99,111,112,121,114,105,103,104,116]⟩, ⟨#[111,114,100,102,101,109,105,110,105,110,101]⟩, ⟨#[103,117,105,108,108,101,109,111,116,108,101,102,116]⟩, ⟨#[108,111,103,105,99,97,108,110,111,116]⟩, ⟨#[104,121,112,104,101,110]⟩, ⟨#[114,101,103,105,115,116,101,114,101,100]⟩, ⟨#[109,97,99,114,111,110]⟩, ⟨#[100,101,103,114,101,101]⟩, ⟨#[112,108,117,115,109,105,110,117,115]⟩, ⟨#[116,119,111,115,117,112,101,114,105,111,114]⟩, ⟨#[116,104,114,101,101,115,117,112,101,114,105,111,114]⟩, ⟨#[97,99,117,116,101]⟩, ⟨#[109,117]⟩, ⟨#[112,97,114,97,103,114,97,112,104]⟩, ⟨#[112,101,114,105,111,100,99,101,110,116,101,114,101,100]⟩, ⟨#[99,101,100,105,108,108,97]⟩, ⟨#[111,110,101,115,117,112,101,114,105,111,114]⟩, ⟨#[111,114,100,109,97,115,99,117,108,105,110,101]⟩, ⟨#[103,117,105,108,108,101,109,111,116,114,105,103,104,116]⟩, ⟨#[111,110,101,113,117,97,114,116,101,114]⟩, ⟨#[111,110,101,104,97,108,102]⟩, ⟨#[116,104,114,101,101,113,117,97,114,116,101,114,115]⟩, ⟨#[113,117,101,115,116,105,111,110,100,111,119,110]⟩, ⟨#[65,103,114,97,118,101]⟩, ⟨#[65,97,99,117,116,101]⟩, ⟨#[65,99,105,114,99,117,109,102,108,101,120]⟩, ⟨#[65,116,105,108,100,101]⟩, ⟨#[65,100,105,101,114,101,115,105,115]⟩, ⟨#[65,114,105,110,103]⟩, ⟨#[65,69]⟩, ⟨#[67,99,101,100,105,108,108,97]⟩, ⟨#[69,103,114,97,118,101]⟩, ⟨#[69,97,99,117,116,101]⟩, ⟨#[69,99,105,114,99,117,109,102,108,101,120]⟩, ⟨#[69,100,105,101,114,101,115,105,115]⟩, ⟨#[73,103,114,97,118,101]⟩, ⟨#[73,97,99,117,116,101]⟩, ⟨#[73,99,105,114,99,117,109,102,108,101,120]⟩, ⟨#[73,100,105,101,114,101,115,105,115]⟩, ⟨#[69,116,104]⟩, ⟨#[78,116,105,108,100,101]⟩, ⟨#[79,103,114,97,118,101]⟩, ⟨#[79,97,99,117,116,101]⟩, ⟨#[79,99,105,114,99,117,109,102,108,101,120]⟩, ⟨#[79,116,105,108,100,101]⟩, ⟨#[79,100,105,101,114,101,115,105,115]⟩, ⟨#[109,117,108,116,105,112,108,121]⟩, ⟨#[79,115,108,97,115,104]⟩, ⟨#[85,103,114,97,118,101]⟩, ⟨#[85,97,99,117,116,101]⟩, ⟨#[85,99,105,114,99,117,109,102,108,101,120]⟩, ⟨#[85,100,105,101,114,101,115,105,115]⟩, ⟨#[89,97,99,117,116,101]⟩, ⟨#[84,104,111,114,110]⟩, ⟨#[103,101,114,109,97,110,100,98,108,115]⟩]
noncomputable def latinN : List Str := [⟨#[101,120,99,108,97,109,100,111,119,110]⟩, ⟨#[99,101,110,116]⟩, ⟨#[115,116,101,114,108,105,110,103]⟩, ⟨#[99,117,114,114,101,110,99,121]⟩, ⟨#[121,101,110]⟩, ⟨#[98,114,111,107,101,110,98,97,114]⟩, ⟨#[115,101,99,116,105,111,110]⟩, ⟨#[100,105,101,114,101,115,105,115]⟩, ⟨#[99,111,112,121,114,105,103,104,116]⟩, ⟨#[111,114,100,102,101,109,105,110,105,110,101]⟩, ⟨#[103,117,105,108,108,101,109,111,116,108,101,102,116]⟩, ⟨#[108,111,103,105,99,97,108,110,111,116]⟩, ⟨#[104,121,112,104,101,110]⟩, ⟨#[114,101,103,105,115,116,101,114,101,100]⟩, ⟨#[109,97,99,114,111,110]⟩, ⟨#[100,101,103,114,101,101]⟩, ⟨#[112,108,117,115,109,105,110,117,115]⟩, ⟨#[116,119,111,115,117,112,101,114,105,111,114]⟩, ⟨#[116,104,114,101,101,115,117,112,101,114,105,111,114]⟩, ⟨#[97,99,117,116,101]⟩, ⟨#[109,117]⟩, ⟨#[112,97,114,97,103,114,97,112,104]⟩, ⟨#[112,101,114,105,111,100,99,101,110,116,101,114,101,100]⟩, ⟨#[99,101,100,105,108,108,97]⟩, ⟨#[111,110,101,115,117,112,101,114,105,111,114]⟩, ⟨#[111,114,100,109,97,115,99,117,108,105,110,101]⟩, ⟨#[103,117,105,108,108,101,109,111,116,114,105,103,104,116]⟩, ⟨#[111,110,101,113,117,97,114,116,101,114]⟩, ⟨#[111,110,101,104,97,108,102]⟩, ⟨#[116,104,114,101,101,113,117,97,114,116,101,114,115]⟩, ⟨#[113,117,101,115,116,105,111,110,100,111,119,110]⟩, ⟨#[65,103,114,97,118,101]⟩, ⟨#[65,97,99,117,116,101]⟩, ⟨#[65,99,105,114,99,117,109,102,108,101,120]⟩, ⟨#[65,116,105,108,100,101]⟩, ⟨#[65,100,105,101,114,101,115,105,115]⟩, ⟨#[65,114,105,110,103]⟩, ⟨#[65,69]⟩, ⟨#[67,99,101,100,105,108,108,97]⟩, ⟨#[69,103,114,97,118,101]⟩, ⟨#[69,97,99,117,116,101]⟩, ⟨#[69,99,105,114,99,117,109,102,108,101,120]⟩, ⟨#[69,100,105,101,114,101,115,105,115]⟩, ⟨#[73,103,114,97,118,101]⟩, ⟨#[73,97,99,117,116,101]⟩, ⟨#[73,99,105,114,99,117,109,102,108,101,120]⟩, ⟨#[73,100,105,101,114,101,115,105,115]⟩, ⟨#[69,116,104]⟩, ⟨#[78,116,105,108,100,101]⟩, ⟨#[79,103,114,97,118,101]⟩, ⟨#[79,97,99,117,116,101]⟩, ⟨#[79,99,105,114,99,117,109,102,108,101,120]⟩, ⟨#[79,116,105,108,100,101]⟩, ⟨#[79,100,105,101,114,101,115,105,115]⟩, ⟨#[109,117,108,116,105,112,108,121]⟩, ⟨#[79,115,108,97,115,104]⟩, ⟨#[85,103,114,97,118,101]⟩, ⟨#[85,97,99,117,116,101]⟩, ⟨#[85,99,105,114,99,117,109,102,108,101,120]⟩, ⟨#[85,100,105,101,114,101,115,105,115]⟩, ⟨#[89,97,99,117,116,101]⟩, ⟨#[84,104,111,114,110]⟩, ⟨#[103,101,114,109,97,110,100,98,108,115]⟩, ⟨#[97,103,114,97,118,101]⟩, ⟨#[97,97,99,117,116,101]⟩, ⟨#[97,99,105,114,99,117,109,102,108,101,120]⟩, ⟨#[97,116,105,108,100,101]⟩, ⟨#[97,100,105,101,114,101,115,105,115]⟩, ⟨#[97,114,105,110,103]⟩, ⟨#[97,101]⟩, ⟨#[99,99,101,100,105,108,108,97]⟩, ⟨#[101,103,114,97,118,101]⟩, ⟨#[101,97,99,117,116,101]⟩, ⟨#[101,99,105,114,99,117,109,102,108,101,120]⟩, ⟨#[101,100,105,101,114,101,115,105,115]⟩, ⟨#[105,103,114,97,118,101]⟩, ⟨#[105,97,99,117,116,101]⟩, ⟨#[105,99,105,114,99,117,109,102,108,101,120]⟩, ⟨#[105,100,105,101,114,101,115,105,115]⟩, ⟨#[101,116,104]⟩, ⟨#[110,116,105,108,100,101]⟩, ⟨#[111,103,114,97,118,101]⟩, ⟨#[111,97,99,117,116,101]⟩, ⟨#[111,99,105,114,99,117,109,102,108,101,120]⟩, ⟨#[111,116,105,108,100,101]⟩, ⟨#[111,100,105,101,114,101,115,105,115]⟩, ⟨#[100,105,118,105,100,101]⟩, ⟨#[111,115,108,97,115,104]⟩, ⟨#[117,103,114,97,118,101]⟩, ⟨#[117,97,99,117,116,101]⟩, ⟨#[117,99,105,114,99,117,109,102,108,101,120]⟩, ⟨#[117,100,105,101,114,101,115,105,115]⟩, ⟨#[121,97,99,117,116,101]⟩, ⟨#[116,104,111,114,110]⟩, ⟨#[121,100,105,101,114,101,115,105,115]⟩]
noncomputable def stdW : List Str := [⟨#[51,57]⟩, ⟨#[113,117,111,116,101,114,105,103,104,116]⟩, ⟨#[57,54]⟩, ⟨#[113,117,111,116,101,108,101,102,116]⟩, ⟨#[49,54,49]⟩, ⟨#[101,120,99,108,97,109,100,111,119,110]⟩, ⟨#[99,101,110,116]⟩, ⟨#[115,116,101,114,108,105,110,103]⟩, ⟨#[102,114,97,99,116,105,111,110]⟩, ⟨#[121,101,110]⟩, ⟨#[102,108,111,114,105,110]⟩, ⟨#[115,101,99,116,105,111,110]⟩, ⟨#[99,117,114,114,101,110,99,121]⟩, ⟨#[113,117,111,116,101,115,105,110,103,108,101]⟩, ⟨#[113,117,111,116,101,100,98,108,108,101,102,116]⟩, ⟨#[103,117,105,108,108,101,109,111,116,108,101,102,116]⟩, ⟨#[103,117,105,108,115,105,110,103,108,108,101,102,116]⟩, ⟨#[103,117,105,108,115,105,110,103,108,114,105,103,104,116]⟩, ⟨#[102,105]⟩, ⟨#[102,108]⟩, ⟨#[49,55,55]⟩, ⟨#[101,110,100,97,115,104]⟩, ⟨#[100,97,103,103,101,114]⟩, ⟨#[100,97,103,103,101,114,100,98,108]⟩, ⟨#[112,101,114,105,111,100,99,101,110,116,101,114,101,100]⟩, ⟨#[49,56,50]⟩, ⟨#[112,97,114,97,103,114,97,112,104]⟩, ⟨#[98,117,108,108,101,116]⟩, ⟨#[113,117,111,116,101,115,105,110,103,108,98,97,115,101]⟩, ⟨#[113,117,111,116,101,100,98,108,98,97,115,101]⟩, ⟨#[113,117,111,116,101,100,98,108,114,105,103,104,116]⟩, ⟨#[103,117,105,108,108,101,109,111,116,114,105,103,104,116]⟩, ⟨#[101,108,108,105,112,115,105,115]⟩, ⟨#[112,101,114,116,104,111,117,115,97,110,100]⟩, ⟨#[49,57,49]⟩, ⟨#[113,117,101,115,116,105,111,110,100,111,119,110]⟩, ⟨#[49,57,51]⟩, ⟨#[103,114,97,118,101]⟩, ⟨#[97,99,117,116,101]⟩, ⟨#[99,105,114,99,117,109,102,108,101,120]⟩, ⟨#[116,105,108,100,101]⟩, ⟨#[109,97,99,114,111,110]⟩, ⟨#[98,114,101,118,101]⟩, ⟨#[100,111,116,97,99,99,101,110,116]⟩, ⟨#[100,105,101,114,101,115,105,115]⟩, ⟨#[50,48,50]⟩, ⟨#[114,105,110,103]⟩, ⟨#[99,101,100,105,108,108,97]⟩, ⟨#[50,48,53]⟩, ⟨#[104,117,110,103,97,114,117,109,108,97,117,116]⟩, ⟨#[111,103,111,110,101,107]⟩, ⟨#[99,97,114,111,110]⟩, ⟨#[101,109,100,97,115,104]⟩, ⟨#[50,50,53]⟩, ⟨#[65,69]⟩, ⟨#[50,50,55]⟩, ⟨#[111,114,100,102,101,109,105,110,105,110,101]⟩, ⟨#[50,51,50]⟩, ⟨#[76,115,108,97,115,104]⟩, ⟨#[79,115,108,97,115,104]⟩, ⟨#[79,69]⟩, ⟨#[111,114,100,109,97,115,99,117,108,105,110,101]⟩, ⟨#[50,52,49]⟩, ⟨#[97,101]⟩, ⟨#[50,52,53]⟩, ⟨#[100,111,116,108,101,115,115,105]⟩, ⟨#[50,52,56]⟩, ⟨#[108,115,108,97,115,104]⟩, ⟨#[111,115,108,97,115,104]⟩, ⟨#[111,101]⟩, ⟨#[103,101,114,109,97,110,100,98,108,115]⟩]
noncomputable def winW : List Str := [⟨#[49,50,56]⟩, ⟨#[69,117,114,111]⟩, ⟨#[49,51,48]⟩, ⟨#[113,117,111,116,101,115,105,110,103,108,98,97,115,101]⟩, ⟨#[102,108,111,114,105,110]⟩, ⟨#[113,117,111,116,101,100,98,108,98,97,115,101]⟩, ⟨#[101,108,108,105,112,115,105,115]⟩, ⟨#[100,97,103,103,101,114]⟩, ⟨#[100,97,103,103,101,114,100,98,108]⟩, ⟨#[99,105,114,99,117,109,102,108,101,120]⟩, ⟨#[112,101,114,116,104,111,117,115,97,110,100]⟩, ⟨#[83,99,97,114,111,110]⟩, ⟨#[103,117,105,108,115,105,110,103,108,108,101,102,116]⟩, ⟨#[79,69]⟩, ⟨#[49,52,50]⟩, ⟨#[90,99,97,114,111,110]⟩, ⟨#[49,52,53]⟩, ⟨#[113,117,111,116,101,108,101,102,116]⟩, ⟨#[113,117,111,116,101,114,105,103,104,116]⟩, ⟨#[113,117,111,116,101,100,98,108,108,101,102,116]⟩, ⟨#[113,117,111,116,101,100,98,108,114,105,103,104,116]⟩, ⟨#[98,117,108,108,101,116]⟩, ⟨#[101,110,100,97,115,104]⟩, ⟨#[101,109,100,97,115,104]⟩, ⟨#[116,105,108,100,101]⟩, ⟨#[116,114,97,100,101,109,97,114,107]⟩, ⟨#[115,99,97,114,111,110]⟩, ⟨#[103,117,105,108,115,105,110,103,108,114,105,103,104,116]⟩, ⟨#[111,101]⟩, ⟨#[49,53,56]⟩, ⟨#[122,99,97,114,111,110]⟩, ⟨#[89,100,105,101,114,101,115,105,115]⟩, ⟨#[115,112,97,99,101]⟩]
noncomputable def macW : List Str := [⟨#[49,50,56]⟩, ⟨#[65,100,105,101,114,101,115,105,115]⟩, ⟨#[65,114,105,110,103]⟩, ⟨#[67,99,101,100,105,108,108,97]⟩, ⟨#[69,97,99,117,116,101]⟩, ⟨#[78,116,105,108,100,101]⟩, ⟨#[79,100,105,101,114,101,115,105,115]⟩, ⟨#[85,100,105,101,114,101,115,105,115]⟩, ⟨#[97,97,99,117,116,101]⟩, ⟨#[97,103,114,97,118,101]⟩, ⟨#[97,99,105,114,99,117,109,102,108,101,120]⟩, ⟨#[97,100,105,101,114,101,115,105,115]⟩, ⟨#[97,116,105,108,100,101]⟩, ⟨#[97,114,105,110,103]⟩, ⟨#[99,99,101,100,105,108,108,97]⟩, ⟨#[101,97,99,117,116,101]⟩, ⟨#[101,103,114,97,118,101]⟩, ⟨#[101,99,105,114,99,117,109,102,108,101,120]⟩, ⟨#[101,100,105,101,114,101,115,105,115]⟩, ⟨#[105,97,99,117,116,101]⟩, ⟨#[105,103,114,97,118,101]⟩, ⟨#[105,99,105,114,99,117,109,102,108,101,120]⟩, ⟨#[105,100,105,101,114,101,115,105,115]⟩, ⟨#[110,116,105,108,100,101]⟩, ⟨#[111,97,99,117,116,101]⟩, ⟨#[111,103,114,97,118,101]⟩, ⟨#[111,99,105,114,99,117,109,102,108,101,120]⟩, ⟨#[111,100,105,101,114,101,115,105,115]⟩, ⟨#[111,116,105,108,100,101]⟩, ⟨#[117,97,99,117,116,101]⟩, ⟨#[117,103,114,97,118,101]⟩, ⟨#[117,99,105,114,99,117,109,102,108,101,120]⟩, ⟨#[117,100,105,101,114,101,115,105,115]⟩, ⟨#[100,97,103,103,101,114]⟩, ⟨#[100,101,103,114,101,101]⟩, ⟨#[99,101,110,116]⟩, ⟨#[115,116,101,114,108,105,110,103]⟩, ⟨#[115,101,99,116,105,111,110]⟩, ⟨#[98,117,108,108,101,116]⟩, ⟨#[112,97,114,97,103,114,97,112,104]⟩, ⟨#[103,101,114,109,97,110,100,98,108,115]⟩, ⟨#[114,101,103,105,115,116,101,114,101,100]⟩, ⟨#[99,111,112,121,114,105,103,104,116]⟩, ⟨#[116,114,97,100,101,109,97,114,107]⟩, ⟨#[97,99,117,116,101]⟩, ⟨#[100,105,101,114,101,115,105,115]⟩, ⟨#[49,55,52]⟩, ⟨#[65,69]⟩, ⟨#[79,115,108,97,115,104]⟩, ⟨#[49,55,55]⟩, ⟨#[112,108,117,115,109,105,110,117,115]⟩, ⟨#[49,56,48]⟩, ⟨#[121,101,110]⟩, ⟨#[109,117]⟩, ⟨#[49,56,55]⟩, ⟨#[111,114,100,102,101,109,105,110,105,110,101]⟩, ⟨#[111,114,100,109,97,115,99,117,108,105,110,101]⟩, ⟨#[49,57,48]⟩, ⟨#[97,101]⟩, ⟨#[111,115,108,97,115,104]⟩, ⟨#[113,117,101,115,116,105,111,110,100,111,119,110]⟩, ⟨#[101,120,99,108,97,109,100,111,119,110]⟩, ⟨#[108,111,103,105,99,97,108,110,111,116]⟩, ⟨#[49,57,54]⟩, ⟨#[102,108,111,114,105,110]⟩, ⟨#[49,57,57]⟩, ⟨#[103,117,105,108,108,101,109,111,116,108,101,102,116]⟩, ⟨#[103,117,105,108,108,101,109,111,116,114,105,103,104,116]⟩, ⟨#[101,108,108,105,112,115,105,115]⟩, ⟨#[115,112,97,99,101]⟩, ⟨#[65,103,114,97,118,101]⟩, ⟨#[65,116,105,108,100,101]⟩, ⟨#[79,116,105,108,100,101]⟩, ⟨#[79,69]⟩, ⟨#[111,101]⟩, ⟨#[101,110,100,97,115,104]⟩, ⟨#[101,109,100,97,115,104]⟩, ⟨#[113,117,111,116,101,100,98,108,108,101,102,116]⟩, ⟨#[113,117,111,116,101,100,98,108,114,105,103,104,116]⟩, ⟨#[113,117,111,116,101,108,101,102,116]⟩, ⟨#[113,117,111,116,101,114,105,103,104,116]⟩, ⟨#[100,105,118,105,100,101]⟩, ⟨#[50,49,54]⟩, ⟨#[121,100,105,101,114,101,115,105,115]⟩, ⟨#[89,100,105,101,114,101,115,105,115]⟩, ⟨#[102,114,97,99,116,105,111,110]⟩, ⟨#[99,117,114,114,101,110,99,121]⟩, ⟨#[103,117,105,108,115,105,110,103,108,108,101,102,116]⟩, ⟨#[103,117,105,108,115,105,110,103,108,114,105,103,104,116]⟩, ⟨#[102,105]⟩, ⟨#[102,108]⟩, ⟨#[100,97,103,103,101,114,100,98,108]⟩, ⟨#[112,101,114,105,111,100,99,101,110,116,101,114,101,100]⟩, ⟨#[113,117,111,116,101,115,105,110,103,108,98,97,115,101]⟩, ⟨#[113,117,111,116,101,100,98,108,98,97,115,101]⟩, ⟨#[112,101,114,116,104,111,117,115,97,110,100]⟩, ⟨#[65,99,105,114,99,117,109,102,108,101,120]⟩, ⟨#[69,99,105,114,99,117,109,102,108,101,120]⟩, ⟨#[65,97,99,117,116,101]⟩, ⟨#[69,100,105,101,114,101,115,105,115]⟩, ⟨#[69,103,114,97,118,101]⟩, ⟨#[73,97,99,117,116,101]⟩, ⟨#[73,99,105,114,99,117,109,102,108,101,120]⟩, ⟨#[73,100,105,101,114,101,115,105,115]⟩, ⟨#[73,103,114,97,118,101]⟩, ⟨#[79,97,99,117,116,101]⟩, ⟨#[79,99,105,114,99,117,109,102,108,101,120]⟩, ⟨#[50,52,49]⟩, ⟨#[79,103,114,97,118,101]⟩, ⟨#[85,97,99,117,116,101]⟩, ⟨#[85,99,105,114,99,117,109,102,108,101,120]⟩, ⟨#[85,103,114,97,118,101]⟩, ⟨#[100,111,116,108,101,115,115,105]⟩, ⟨#[99,105,114,99,117,109,102,108,101,120]⟩, ⟨#[116,105,108,100,101]⟩, ⟨#[109,97,99,114,111,110]⟩, ⟨#[98,114,101,118,101]⟩, ⟨#[100,111,116,97,99,99,101,110,116]⟩, ⟨#[114,105,110,103]⟩, ⟨#[99,101,100,105,108,108,97]⟩, ⟨#[104,117,110,103,97,114,117,109,108,97,117,116]⟩, ⟨#[111,103,111,110,101,107]⟩, ⟨#[99,97,114,111,110]⟩]
noncomputable def otherN : List (Str × Int) := [(⟨#[69,117,114,111]⟩, 8364), (⟨#[113,117,111,116,101,115,105,110,103,108,98,97,115,101]⟩, 8218), (⟨#[102,108,111,114,105,110]⟩, 402), (⟨#[113,117,111,116,101,100,98,108,98,97,115,101]⟩, 8222), (⟨#[101,108,108,105,112,115,105,115]⟩, 8230), (⟨#[100,97,103,103,101,114]⟩, 8224), (⟨#[100,97,103,103,101,114,100,98,108]⟩, 8225), (⟨#[99,105,114,99,117,109,102,108,101,120]⟩, 710), (⟨#[112,101,114,116,104,111,117,115,97,110,100]⟩, 8240), (⟨#[83,99,97,114,111,110]⟩, 352), (⟨#[103,117,105,108,115,105,110,103,108,108,101,102,116]⟩, 8249), (⟨#[79,69]⟩, 338), (⟨#[90,99,97,114,111,110]⟩, 381), (⟨#[113,117,111,116,101,108,101,102,116]⟩, 8216), (⟨#[113,117,111,116,101,114,105,103,104,116]⟩, 8217), (⟨#[113,117,111,116,101,100,98,108,108,101,102,116]⟩, 8220), (⟨#[113,117,111,116,101,100,98,108,114,105,103,104,116]⟩, 8221), (⟨#[98,117,108,108,101,116]⟩, 8226), (⟨#[101,110,100,97,115,104]⟩, 8211), (⟨#[101,109,100,97,115,104]⟩, 8212), (⟨#[116,105,108,100,101]⟩, 732), (⟨#[116,114,97,100,101,109,97,114,107]⟩, 8482), (⟨#[115,99,97,114,111,110]⟩, 353), (⟨#[103,117,105,108,115,105,110,103,108,114,105,103,104,116]⟩, 8250), (⟨#[111,101]⟩, 339), (⟨#[122,99,97,114,111,110]⟩, 382), (⟨#[89,100,105,101,114,101,115,105,115]⟩, 376), (⟨#[102,114,97,99,116,105,111,110]⟩, 8260), (⟨#[102,105]⟩, 64257), (⟨#[102,108]⟩, 64258), (⟨#[98,114,101,118,101]⟩, 728), (⟨#[100,111,116,97,99,99,101,110,116]⟩, 729), (⟨#[114,105,110,103]⟩, 730), (⟨#[104,117,110,103,97,114,117,109,108,97,117,116]⟩, 733), (⟨#[111,103,111,110,101,107]⟩, 731), (⟨#[99,97,114,111,110]⟩, 711), (⟨#[76,115,108,97,115,104]⟩, 321), (⟨#[108,115,108,97,115,104]⟩, 322), (⟨#[100,111,116,108,101,115,115,105]⟩, 305)]
noncomputable def stdN : List Str := [⟨#[]⟩, ⟨#[]⟩, ⟨#[]⟩, ⟨#[]⟩, ⟨#[]⟩, ⟨#[]⟩, ⟨#[]⟩, ⟨#[]⟩, ⟨#[]⟩, ⟨#[]⟩, ⟨#[]⟩, ⟨#[]⟩, ⟨#[]⟩, ⟨#[]⟩, ⟨#[]⟩, ⟨#[]⟩, ⟨#[]⟩, ⟨#[]⟩, ⟨#[]⟩, ⟨#[]⟩, ⟨#[]⟩, ⟨#[]⟩, ⟨#[]⟩, ⟨#[]⟩, ⟨#[]⟩, ⟨#[]⟩, ⟨#[]⟩, ⟨#[]⟩, ⟨#[]⟩, ⟨#[]⟩, ⟨#[]⟩, ⟨#[]⟩, ⟨#[115,112,97,99,101]⟩, ⟨#[101,120,99,108,97,109]⟩, ⟨#[113,117,111,116,101,100,98,108]⟩, ⟨#[110,117,109,98,101,114,115,105,103,110]⟩, ⟨#[100,111,108,108,97,114]⟩, ⟨#[112,101,114,99,101,110,116]⟩, ⟨#[97,109,112,101,114,115,97,110,100]⟩, ⟨#[113,117,111,116,101,114,105,103,104,116]⟩, ⟨#[112,97,114,101,110,108,101,102,116]⟩, ⟨#[112,97,114,101,110,114,105,103,104,116]⟩, ⟨#[97,115,116,101,114,105,115,107]⟩, ⟨#[112,108,117,115]⟩, ⟨#[99,111,109,109,97]⟩, ⟨#[104,121,112,104,101,110]⟩, ⟨#[112,101,114,105,111,100]⟩, ⟨#[115,108,97,115,104]⟩, ⟨#[122,101,114,111]⟩, ⟨#[111,110,101]⟩, ⟨#[116,119,111]⟩, ⟨#[116,104,114,101,101]⟩, ⟨#[102,111,117,114]⟩, ⟨#[102,105,118,101]⟩, ⟨#[115,105,120]⟩, ⟨#[115,101,118,101,110]⟩, ⟨#[101,105,103,104,116]⟩, ⟨#[110,105,110,101]⟩, ⟨#[99,111,108,111,110]⟩, ⟨#[115,101,109,105,99,111,108,111,110]⟩, ⟨#[108,101,115,115]⟩, ⟨#[101,113,117,97,108]⟩, ⟨#[103,114,101,97,116,101,114]⟩, ⟨#[113,117,101,115,116,105,111,110]⟩, ⟨#[97,116]⟩, ⟨#[65]⟩, ⟨#[66]⟩, ⟨#[67]⟩, ⟨#[68]⟩, ⟨#[69]⟩, ⟨#[70]⟩, ⟨#[71]⟩, ⟨#[72]⟩, ⟨#[73]⟩, ⟨#[74]⟩, ⟨#[75]⟩, ⟨#[76]⟩, ⟨#[77]⟩, ⟨#[78]⟩, ⟨#[79]⟩, ⟨#[80]⟩, ⟨#[81]⟩, ⟨#[82]⟩, ⟨#[83]⟩, ⟨#[84]⟩, ⟨#[85]⟩, ⟨#[86]⟩, ⟨#[87]⟩, ⟨#[88]⟩, ⟨#[89]⟩, ⟨#[90]⟩, ⟨#[98,114,97,99,107,101,116,108,101,102,116]⟩, ⟨#[98,97,99,107,115,108,97,115,104]⟩, ⟨#[98,114,97,99,107,101,116,114,105,103,104,116]⟩, ⟨#[97,115,99,105,105,99,105,114,99,117,109]⟩, ⟨#[117,110,100,101,114,115,99,111,114,101]⟩, ⟨#[113,117,111,116,101,108,101,102,116]⟩, ⟨#[97]⟩, ⟨#[98]⟩, ⟨#[99]⟩, ⟨#[100]⟩, ⟨#[101]⟩, ⟨#[102]⟩, ⟨#[103]⟩, ⟨#[104]⟩, ⟨#[105]⟩, ⟨#[106]⟩, ⟨#[107]⟩, ⟨#[108]⟩, ⟨#[109]⟩, ⟨#[110]⟩, ⟨#[111]⟩, ⟨#[112]⟩, ⟨#[113]⟩, ⟨#[114]⟩, ⟨#[115]⟩, ⟨#[116]⟩, ⟨#[117]⟩, ⟨#[118]⟩, ⟨#[119]⟩, ⟨#[120]⟩, ⟨#[121]⟩, ⟨#[122]⟩, ⟨#[98,114,97,99,101,108,101,102,116]⟩, ⟨#[98,97,114]⟩, ⟨#[98,114,97,99,101,114,105,103,104,116]⟩, ⟨#[97,115,99,105,105,116,105,108,100,101]⟩, ⟨#[]⟩, ⟨#[]⟩, ⟨#[]⟩, ⟨#[]⟩, ⟨#[]⟩, ⟨#[]⟩, ⟨#[]⟩, ⟨#[]⟩, ⟨#[]⟩, ⟨#[]⟩, ⟨#[]⟩, ⟨#[]⟩, ⟨#[]⟩, ⟨#[]⟩, ⟨#[]⟩, ⟨#[]⟩, ⟨#[]⟩, ⟨#[]⟩, ⟨#[]⟩, ⟨#[]⟩, ⟨#[]⟩, ⟨#[]⟩, ⟨#[]⟩, ⟨#[]⟩, ⟨#[]⟩, ⟨#[]⟩, ⟨#[]⟩, ⟨#[]⟩, ⟨#[]⟩, ⟨#[]⟩, ⟨#[]⟩, ⟨#[]⟩, ⟨#[]⟩, ⟨#[]⟩, ⟨#[101,120,99,108,97,109,100,111,119,110]⟩, ⟨#[99,101,110,116]⟩, ⟨#[115,116,101,114,108,105,110,103]⟩, ⟨#[102,114,97,99,116,105,111,110]⟩, ⟨#[121,101,110]⟩, ⟨#[102,108,111,114,105,110]⟩, ⟨#[115,101,99,116,105,111,110]⟩, ⟨#[99,117,114,114,101,110,99,121]⟩, ⟨#[113,117,111,116,101,115,105,110,103,108,101]⟩, ⟨#[113,117,111,116,101,100,98,108,108,101,102,116]⟩, ⟨#[103,117,105,108,108,101,109,111,116,108,101,102,116]⟩, ⟨#[103,117,105,108,115,105,110,103,108,108,101,102,116]⟩, ⟨#[103,117,105,108,115,105,110,103,108,114,105,103,104,116]⟩, ⟨#[102,105]⟩, ⟨#[102,108]⟩, ⟨#[]⟩, ⟨#[101,110,100,97,115,104]⟩, ⟨#[100,97,103,103,101,114]⟩, ⟨#[100,97,103,103,101,114,100,98,108]⟩, ⟨#[112,101,114,105,111,100,99,101,110,116,101,114,101,100]⟩, ⟨#[]⟩, ⟨#[112,97,114,97,103,114,97,112,104]⟩, ⟨#[98,117,108,108,101,116]⟩, ⟨#[113,117,111,116,101,115,105,110,103,108,98,97,115,101]⟩, ⟨#[113,117,111,116,101,100,98,108,98,97,115,101]⟩, ⟨#[113,117,111,116,101,100,98,108,114,105,103,104,116]⟩, ⟨#[103,117,105,108,108,101,109,111,116,114,105,103,104,116]⟩, ⟨#[101,108,108,105,112,115,105,115]⟩, ⟨#[112,101,114,116,104,111,117,115,97,110,100]⟩, ⟨#[]⟩, ⟨#[113,117,101,115,116,105,111,110,100,111,119,110]⟩, ⟨#[]⟩, ⟨#[103,114,97,118,101]⟩, ⟨#[97,99,117,116,101]⟩, ⟨#[99,105,114,99,117,109,102,108,101,120]⟩, ⟨#[116,105,108,100,101]⟩, ⟨#[109,97,99,114,111,110]⟩, ⟨#[98,114,101,118,101]⟩, ⟨#[100,111,116,97,99,99,101,110,116]⟩, ⟨#[100,105,101,114,101,115,105,115]⟩, ⟨#[]⟩, ⟨#[114,105,110,103]⟩, ⟨#[99,101,100,105,108,108,97]⟩, ⟨#[]⟩, ⟨#[104,117,110,103,97,114,117,109,108,97,117,116]⟩, ⟨#[111,103,111,110,101,107]⟩, ⟨#[99,97,114,111,110]⟩, ⟨#[101,109,100,97,115,104]⟩, ⟨#[]⟩, ⟨#[]⟩, ⟨#[]⟩, ⟨#[]⟩, ⟨#[]⟩, ⟨#[]⟩, ⟨#[]⟩, ⟨#[]⟩, ⟨#[]⟩, ⟨#[]⟩, ⟨#[]⟩, ⟨#[]⟩, ⟨#[]⟩, ⟨#[]⟩, ⟨#[]⟩, ⟨#[]⟩, ⟨#[65,69]⟩, ⟨#[]⟩, ⟨#[111,114,100,102,101,109,105,110,105,110,101]⟩, ⟨#[]⟩, ⟨#[]⟩, ⟨#[]⟩, ⟨#[]⟩, ⟨#[76,115,108,97,115,104]⟩, ⟨#[79,115,108,97,115,104]⟩, ⟨#[79,69]⟩, ⟨#[111,114,100,109,97,115,99,117,108,105,110,101]⟩, ⟨#[]⟩, ⟨#[]⟩, ⟨#[]⟩, ⟨#[]⟩, ⟨#[]⟩, ⟨#[97,101]⟩, ⟨#[]⟩, ⟨#[]⟩, ⟨#[]⟩, ⟨#[100,111,116,108,101,115,115,105]⟩, ⟨#[]⟩, ⟨#[]⟩, ⟨#[108,115,108,97,115,104]⟩, ⟨#[111,115,108,97,115,104]⟩, ⟨#[111,101]⟩, ⟨#[103,101,114,109,97,110,100,98,108,115]⟩, ⟨#[]⟩, ⟨#[]⟩, ⟨#[]⟩, ⟨#[]⟩]
noncomputable def macN : List Str := [⟨#[]⟩, ⟨#[]⟩, ⟨#[]⟩, ⟨#[]⟩, ⟨#[]⟩, ⟨#[]⟩, ⟨#[]⟩, ⟨#[]⟩, ⟨#[]⟩, ⟨#[]⟩, ⟨#[]⟩, ⟨#[]⟩, ⟨#[]⟩, ⟨#[]⟩, ⟨#[]⟩, ⟨#[]⟩, ⟨#[]⟩, ⟨#[]⟩, ⟨#[]⟩, ⟨#[]⟩, ⟨#[]⟩, ⟨#[]⟩, ⟨#[]⟩, ⟨#[]⟩, ⟨#[]⟩, ⟨#[]⟩, ⟨#[]⟩, ⟨#[]⟩, ⟨#[]⟩, ⟨#[]⟩, ⟨#[]⟩, ⟨#[]⟩, ⟨#[115,112,97,99,101]⟩, ⟨#[101,120,99,108,97,109]⟩, ⟨#[113,117,111,116,101,100,98,108]⟩, ⟨#[110,117,109,98,101,114,115,105,103,110]⟩, ⟨#[100,111,108,108,97,114]⟩, ⟨#[112,101,114,99,101,110,116]⟩, ⟨#[97,109,112,101,114,115,97,110,100]⟩, ⟨#[113,117,111,116,101,115,105,110,103,108,101]⟩, ⟨#[112,97,114,101,110,108,101,102,116]⟩, ⟨#[112,97,114,101,110,114,105,103,104,116]⟩, ⟨#[97,115,116,101,114,105,115,107]⟩, ⟨#[112,108,117,115]⟩, ⟨#[99,111,109,109,97]⟩, ⟨#[104,121,112,104,101,110]⟩, ⟨#[112,101,114,105,111,100]⟩, ⟨#[115,108,97,115,104]⟩, ⟨#[122,101,114,111]⟩, ⟨#[111,110,101]⟩, ⟨#[116,119,111]⟩, ⟨#[116,104,114,101,101]⟩, ⟨#[102,111,117,114]⟩, ⟨#[102,105,118,101]⟩, ⟨#[115,105,120]⟩, ⟨#[115,101,118,101,110]⟩, ⟨#[101,105,103,104,116]⟩, ⟨#[110,105,110,101]⟩, ⟨#[99,111,108,111,110]⟩, ⟨#[115,101,109,105,99,111,108,111,110]⟩, ⟨#[108,101,115,115]⟩, ⟨#[101,113,117,97,108]⟩, ⟨#[103,114,101,97,116,101,114]⟩, ⟨#[113,117,101,115,116,105,111,110]⟩, ⟨#[97,116]⟩, ⟨#[65]⟩, ⟨#[66]⟩, ⟨#[67]⟩, ⟨#[68]⟩, ⟨#[69]⟩, ⟨#[70]⟩, ⟨#[71]⟩, ⟨#[72]⟩, ⟨#[73]⟩, ⟨#[74]⟩, ⟨#[75]⟩, ⟨#[76]⟩, ⟨#[77]⟩, ⟨#[78]⟩, ⟨#[79]⟩, ⟨#[80]⟩, ⟨#[81]⟩, ⟨#[82]⟩, ⟨#[83]⟩, ⟨#[84]⟩, ⟨#[85]⟩, ⟨#[86]⟩, ⟨#[87]⟩, ⟨#[88]⟩, ⟨#[89]⟩, ⟨#[90]⟩, ⟨#[98,114,97,99,107,101,116,108,101,102,116]⟩, ⟨#[98,97,99,107,115,108,97,115,104]⟩, ⟨#[98,114,97,99,107,101,116,114,105,103,104,116]⟩, ⟨#[97,115,99,105,105,99,105,114,99,117,109]⟩, ⟨#[117,110,100,101,114,115,99,111,114,101]⟩, ⟨#[103,114,97,118,101]⟩, ⟨#[97]⟩, ⟨#[98]⟩, ⟨#[99]⟩, ⟨#[100]⟩, ⟨#[101]⟩, ⟨#[102]⟩, ⟨#[103]⟩, ⟨#[104]⟩, ⟨#[105]⟩, ⟨#[106]⟩, ⟨#[107]⟩, ⟨#[108]⟩, ⟨#[109]⟩, ⟨#[110]⟩, ⟨#[111]⟩, ⟨#[112]⟩, ⟨#[113]⟩, ⟨#[114]⟩, ⟨#[115]⟩, ⟨#[116]⟩, ⟨#[117]⟩, ⟨#[118]⟩, ⟨#[119]⟩, ⟨#[120]⟩, ⟨#[121]⟩, ⟨#[122]⟩, ⟨#[98,114,97,99,101,108,101,102,116]⟩, ⟨#[98,97,114]⟩, ⟨#[98,114,97,99,101,114,105,103,104,116]⟩, ⟨#[97,115,99,105,105,116,105,108,100,101]⟩, ⟨#[]⟩, ⟨#[65,100,105,101,114,101,115,105,115]⟩, ⟨#[65,114,105,110,103]⟩, ⟨#[67,99,101,100,105,108,108,97]⟩, ⟨#[69,97,99,117,116,101]⟩, ⟨#[78,116,105,108,100,101]⟩, ⟨#[79,100,105,101,114,101,115,105,115]⟩, ⟨#[85,100,105,101,114,101,115,105,115]⟩, ⟨#[97,97,99,117,116,101]⟩, ⟨#[97,103,114,97,118,101]⟩, ⟨#[97,99,105,114,99,117,109,102,108,101,120]⟩, ⟨#[97,100,105,101,114,101,115,105,115]⟩, ⟨#[97,116,105,108,100,101]⟩, ⟨#[97,114,105,110,103]⟩, ⟨#[99,99,101,100,105,108,108,97]⟩, ⟨#[101,97,99,117,116,101]⟩, ⟨#[101,103,114,97,118,101]⟩, ⟨#[101,99,105,114,99,117,109,102,108,101,120]⟩, ⟨#[101,100,105,101,114,101,115,105,115]⟩, ⟨#[105,97,99,117,116,101]⟩, ⟨#[105,103,114,97,118,101]⟩, ⟨#[105,99,105,114,99,117,109,102,108,101,120]⟩, ⟨#[105,100,105,101,114,101,115,105,115]⟩, ⟨#[110,116,105,108,100,101]⟩, ⟨#[111,97,99,117,116,101]⟩, ⟨#[111,103,114,97,118,101]⟩, ⟨#[111,99,105,114,99,117,109,102,108,101,120]⟩, ⟨#[111,100,105,101,114,101,115,105,115]⟩, ⟨#[111,116,105,108,100,101]⟩, ⟨#[117,97,99,117,116,101]⟩, ⟨#[117,103,114,97,118,101]⟩, ⟨#[117,99,105,114,99,117,109,102,108,101,120]⟩, ⟨#[117,100,105,101,114,101,115,105,115]⟩, ⟨#[100,97,103,103,101,114]⟩, ⟨#[100,101,103,114,101,101]⟩, ⟨#[99,101,110,116]⟩, ⟨#[115,116,101,114,108,105,110,103]⟩, ⟨#[115,101,99,116,105,111,110]⟩, ⟨#[98,117,108,108,101,116]⟩, ⟨#[112,97,114,97,103,114,97,112,104]⟩, ⟨#[103,101,114,109,97,110,100,98,108,115]⟩, ⟨#[114,101,103,105,115,116,101,114,101,100]⟩, ⟨#[99,111,112,121,114,105,103,104,116]⟩, ⟨#[116,114,97,100,101,109,97,114,107]⟩, ⟨#[97,99,117,116,101]⟩, ⟨#[100,105,101,114,101,115,105,115]⟩, ⟨#[]⟩, ⟨#[65,69]⟩, ⟨#[79,115,108,97,115,104]⟩, ⟨#[]⟩, ⟨#[112,108,117,115,109,105,110,117,115]⟩, ⟨#[]⟩, ⟨#[]⟩, ⟨#[121,101,110]⟩, ⟨#[109,117]⟩, ⟨#[]⟩, ⟨#[]⟩, ⟨#[]⟩, ⟨#[]⟩, ⟨#[]⟩, ⟨#[111,114,100,102,101,109,105,110,105,110,101]⟩, ⟨#[111,114,100,109,97,115,99,117,108,105,110,101]⟩, ⟨#[]⟩, ⟨#[97,101]⟩, ⟨#[111,115,108,97,115,104]⟩, ⟨#[113,117,101,115,116,105,111,110,100,111,119,110]⟩, ⟨#[101,120,99,108,97,109,100,111,119,110]⟩, ⟨#[108,111,103,105,99,97,108,110,111,116]⟩, ⟨#[]⟩, ⟨#[102,108,111,114,105,110]⟩, ⟨#[]⟩, ⟨#[]⟩, ⟨#[103,117,105,108,108,101,109,111,116,108,101,102,116]⟩, ⟨#[103,117,105,108,108,101,109,111,116,114,105,103,104,116]⟩, ⟨#[101,108,108,105,112,115,105,115]⟩, ⟨#[115,112,97,99,101]⟩, ⟨#[65,103,114,97,118,101]⟩, ⟨#[65,116,105,108,100,101]⟩, ⟨#[79,116,105,108,100,101]⟩, ⟨#[79,69]⟩, ⟨#[111,101]⟩, ⟨#[101,110,100,97,115,104]⟩, ⟨#[101,109,100,97,115,104]⟩, ⟨#[113,117,111,116,101,100,98,108,108,101,102,116]⟩, ⟨#[113,117,111,116,101,100,98,108,114,105,103,104,116]⟩, ⟨#[113,117,111,116,101,108,101,102,116]⟩, ⟨#[113,117,111,116,101,114,105,103,104,116]⟩, ⟨#[100,105,118,105,100,101]⟩, ⟨#[]⟩, ⟨#[121,100,105,101,114,101,115,105,115]⟩, ⟨#[89,100,105,101,114,101,115,105,115]⟩, ⟨#[102,114,97,99,116,105,111,110]⟩, ⟨#[99,117,114,114,101,110,99,121]⟩, ⟨#[103,117,105,108,115,105,110,103,108,108,101,102,116]⟩, ⟨#[103,117,105,108,115,105,110,103,108,114,105,103,104,116]⟩, ⟨#[102,105]⟩, ⟨#[102,108]⟩, ⟨#[100,97,103,103,101,114,100,98,108]⟩, ⟨#[112,101,114,105,111,100,99,101,110,116,101,114,101,100]⟩, ⟨#[113,117,111,116,101,115,105,110,103,108,98,97,115,101]⟩, ⟨#[113,117,111,116,101,100,98,108,98,97,115,101]⟩, ⟨#[112,101,114,116,104,111,117,115,97,110,100]⟩, ⟨#[65,99,105,114,99,117,109,102,108,101,120]⟩, ⟨#[69,99,105,114,99,117,109,102,108,101,120]⟩, ⟨#[65,97,99,117,116,101]⟩, ⟨#[69,100,105,101,114,101,115,105,115]⟩, ⟨#[69,103,114,97,118,101]⟩, ⟨#[73,97,99,117,116,101]⟩, ⟨#[73,99,105,114,99,117,109,102,108,101,120]⟩, ⟨#[73,100,105,101,114,101,115,105,115]⟩, ⟨#[73,103,114,97,118,101]⟩, ⟨#[79,97,99,117,116,101]⟩, ⟨#[79,99,105,114,99,117,109,102,108,101,120]⟩, ⟨#[]⟩, ⟨#[79,103,114,97,118,101]⟩, ⟨#[85,97,99,117,116,101]⟩, ⟨#[85,99,105,114,99,117,109,102,108,101,120]⟩, ⟨#[85,103,114,97,118,101]⟩, ⟨#[100,111,116,108,101,115,115,105]⟩, ⟨#[99,105,114,99,117,109,102,108,101,120]⟩, ⟨#[116,105,108,100,101]⟩, ⟨#[109,97,99,114,111,110]⟩, ⟨#[98,114,101,118,101]⟩, ⟨#[100,111,116,97,99,99,101,110,116]⟩, ⟨#[114,105,110,103]⟩, ⟨#[99,101,100,105,108,108,97]⟩, ⟨#[104,117,110,103,97,114,117,109,108,97,117,116]⟩, ⟨#[111,103,111,110,101,107]⟩, ⟨#[99,97,114,111,110]⟩]
noncomputable def win161 : List Str := [⟨#[]⟩, ⟨#[]⟩, ⟨#[]⟩, ⟨#[]⟩, ⟨#[]⟩, ⟨#[]⟩, ⟨#[]⟩, ⟨#[]⟩, ⟨#[]⟩, ⟨#[]⟩, ⟨#[]⟩, ⟨#[]⟩, ⟨#[]⟩, ⟨#[]⟩, ⟨#[]⟩, ⟨#[]⟩, ⟨#[]⟩, ⟨#[]⟩, ⟨#[]⟩, ⟨#[]⟩, ⟨#[]⟩, ⟨#[]⟩, ⟨#[]⟩, ⟨#[]⟩, ⟨#[]⟩, ⟨#[]⟩, ⟨#[]⟩, ⟨#[]⟩, ⟨#[]⟩, ⟨#[]⟩, ⟨#[]⟩, ⟨#[]⟩, ⟨#[115,112,97,99,101]⟩, ⟨#[101,120,99,108,97,109]⟩, ⟨#[113,117,111,116,101,100,98,108]⟩, ⟨#[110,117,109,98,101,114,115,105,103,110]⟩, ⟨#[100,111,108,108,97,114]⟩, ⟨#[112,101,114,99,101,110,116]⟩, ⟨#[97,109,112,101,114,115,97,110,100]⟩, ⟨#[113,117,111,116,101,115,105,110,103,108,101]⟩, ⟨#[112,97,114,101,110,108,101,102,116]⟩, ⟨#[112,97,114,101,110,114,105,103,104,116]⟩, ⟨#[97,115,116,101,114,105,115,107]⟩, ⟨#[112,108,117,115]⟩, ⟨#[99,111,109,109,97]⟩, ⟨#[104,121,112,104,101,110]⟩, ⟨#[112,101,114,105,111,100]⟩, ⟨#[115,108,97,115,104]⟩, ⟨#[122,101,114,111]⟩, ⟨#[111,110,101]⟩, ⟨#[116,119,111]⟩, ⟨#[116,104,114,101,101]⟩, ⟨#[102,111,117,114]⟩, ⟨#[102,105,118,101]⟩, ⟨#[115,105,120]⟩, ⟨#[115,101,118,101,110]⟩, ⟨#[101,105,103,104,116]⟩, ⟨#[110,105,110,101]⟩, ⟨#[99,111,108,111,110]⟩, ⟨#[115,101,109,105,99,111,108,111,110]⟩, ⟨#[108,101,115,115]⟩, ⟨#[101,113,117,97,108]⟩, ⟨#[103,114,101,97,116,101,114]⟩, ⟨#[113,117,101,115,116,105,111,110]⟩, ⟨#[97,116]⟩, ⟨#[65]⟩, ⟨#[66]⟩, ⟨#[67]⟩, ⟨#[68]⟩, ⟨#[69]⟩, ⟨#[70]⟩, ⟨#[71]⟩, ⟨#[72]⟩, ⟨#[73]⟩, ⟨#[74]⟩, ⟨#[75]⟩, ⟨#[76]⟩, ⟨#[77]⟩, ⟨#[78]⟩, ⟨#[79]⟩, ⟨#[80]⟩, ⟨#[81]⟩, ⟨#[82]⟩, ⟨#[83]⟩, ⟨#[84]⟩, ⟨#[85]⟩, ⟨#[86]⟩, ⟨#[87]⟩, ⟨#[88]⟩, ⟨#[89]⟩, ⟨#[90]⟩, ⟨#[98,114,97,99,107,101,116,108,101,102,116]⟩, ⟨#[98,97,99,107,115,108,97,115,104]⟩, ⟨#[98,114,97,99,107,101,116,114,105,103,104,116]⟩, ⟨#[97,115,99,105,105,99,105,114,99,117,109]⟩, ⟨#[117,110,100,101,114,115,99,111,114,101]⟩, ⟨#[103,114,97,118,101]⟩, ⟨#[97]⟩, ⟨#[98]⟩, ⟨#[99]⟩, ⟨#[100]⟩, ⟨#[101]⟩, ⟨#[102]⟩, ⟨#[103]⟩, ⟨#[104]⟩, ⟨#[105]⟩, ⟨#[106]⟩, ⟨#[107]⟩, ⟨#[108]⟩, ⟨#[109]⟩, ⟨#[110]⟩, ⟨#[111]⟩, ⟨#[112]⟩, ⟨#[113]⟩, ⟨#[114]⟩, ⟨#[115]⟩, ⟨#[116]⟩, ⟨#[117]⟩, ⟨#[118]⟩, ⟨#[119]⟩, ⟨#[120]⟩, ⟨#[121]⟩, ⟨#[122]⟩, ⟨#[98,114,97,99,101,108,101,102,116]⟩, ⟨#[98,97,114]⟩, ⟨#[98,114,97,99,101,114,105,103,104,116]⟩, ⟨#[97,115,99,105,105,116,105,108,100,101]⟩, ⟨#[]⟩, ⟨#[]⟩, ⟨#[]⟩, ⟨#[]⟩, ⟨#[]⟩, ⟨#[]⟩, ⟨#[]⟩, ⟨#[]⟩, ⟨#[]⟩, ⟨#[]⟩, ⟨#[]⟩, ⟨#[]⟩, ⟨#[]⟩, ⟨#[]⟩, ⟨#[]⟩, ⟨#[]⟩, ⟨#[]⟩, ⟨#[]⟩, ⟨#[]⟩, ⟨#[]⟩, ⟨#[]⟩, ⟨#[]⟩, ⟨#[]⟩, ⟨#[]⟩, ⟨#[]⟩, ⟨#[]⟩, ⟨#[]⟩, ⟨#[]⟩, ⟨#[]⟩, ⟨#[]⟩, ⟨#[]⟩, ⟨#[]⟩, ⟨#[]⟩, ⟨#[]⟩]
noncomputable def winA : List Str := [⟨#[]⟩, ⟨#[]⟩, ⟨#[]⟩, ⟨#[]⟩, ⟨#[]⟩, ⟨#[]⟩, ⟨#[]⟩, ⟨#[]⟩, ⟨#[]⟩, ⟨#[]⟩, ⟨#[]⟩, ⟨#[]⟩, ⟨#[]⟩, ⟨#[]⟩, ⟨#[]⟩, ⟨#[]⟩, ⟨#[]⟩, ⟨#[]⟩, ⟨#[]⟩, ⟨#[]⟩, ⟨#[]⟩, ⟨#[]⟩, ⟨#[]⟩, ⟨#[]⟩, ⟨#[]⟩, ⟨#[]⟩, ⟨#[]⟩, ⟨#[]⟩, ⟨#[]⟩, ⟨#[]⟩, ⟨#[]⟩, ⟨#[]⟩, ⟨#[115,112,97,99,101]⟩, ⟨#[101,120,99,108,97,109]⟩, ⟨#[113,117,111,116,101,100,98,108]⟩, ⟨#[110,117,109,98,101,114,115,105,103,110]⟩, ⟨#[100,111,108,108,97,114]⟩, ⟨#[112,101,114,99,101,110,116]⟩, ⟨#[97,109,112,101,114,115,97,110,100]⟩, ⟨#[113,117,111,116,101,115,105,110,103,108,101]⟩, ⟨#[112,97,114,101,110,108,101,102,116]⟩, ⟨#[112,97,114,101,110,114,105,103,104,116]⟩, ⟨#[97,115,116,101,114,105,115,107]⟩, ⟨#[112,108,117,115]⟩, ⟨#[99,111,109,109,97]⟩, ⟨#[104,121,112,104,101,110]⟩, ⟨#[112,101,114,105,111,100]⟩, ⟨#[115,108,97,115,104]⟩, ⟨#[122,101,114,111]⟩, ⟨#[111,110,101]⟩, ⟨#[116,119,111]⟩, ⟨#[116,104,114,101,101]⟩, ⟨#[102,111,117,114]⟩, ⟨#[102,105,118,101]⟩, ⟨#[115,105,120]⟩, ⟨#[115,101,118,101,110]⟩, ⟨#[101,105,103,104,116]⟩, ⟨#[110,105,110,101]⟩, ⟨#[99,111,108,111,110]⟩, ⟨#[115,101,109,105,99,111,108,111,110]⟩, ⟨#[108,101,115,115]⟩, ⟨#[101,113,117,97,108]⟩, ⟨#[103,114,101,97,116,101,114]⟩, ⟨#[113,117,101,115,116,105,111,110]⟩, ⟨#[97,116]⟩, ⟨#[65]⟩, ⟨#[66]⟩, ⟨#[67]⟩, ⟨#[68]⟩, ⟨#[69]⟩, ⟨#[70]⟩, ⟨#[71]⟩, ⟨#[72]⟩, ⟨#[73]⟩, ⟨#[74]⟩, ⟨#[75]⟩, ⟨#[76]⟩, ⟨#[77]⟩, ⟨#[78]⟩, ⟨#[79]⟩, ⟨#[80]⟩, ⟨#[81]⟩, ⟨#[82]⟩, ⟨#[83]⟩, ⟨#[84]⟩, ⟨#[85]⟩, ⟨#[86]⟩, ⟨#[87]⟩, ⟨#[88]⟩, ⟨#[89]⟩, ⟨#[90]⟩, ⟨#[98,114,97,99,107,101,116,108,101,102,116]⟩, ⟨#[98,97,99,107,115,108,97,115,104]⟩, ⟨#[98,114,97,99,107,101,116,114,105,103,104,116]⟩, ⟨#[97,115,99,105,105,99,105,114,99,117,109]⟩, ⟨#[117,110,100,101,114,115,99,111,114,101]⟩, ⟨#[103,114,97,118,101]⟩, ⟨#[97]⟩, ⟨#[98]⟩, ⟨#[99]⟩, ⟨#[100]⟩, ⟨#[101]⟩, ⟨#[102]⟩, ⟨#[103]⟩, ⟨#[104]⟩, ⟨#[105]⟩, ⟨#[106]⟩, ⟨#[107]⟩, ⟨#[108]⟩, ⟨#[109]⟩, ⟨#[110]⟩, ⟨#[111]⟩, ⟨#[112]⟩, ⟨#[113]⟩, ⟨#[114]⟩, ⟨#[115]⟩, ⟨#[116]⟩, ⟨#[117]⟩, ⟨#[118]⟩, ⟨#[119]⟩, ⟨#[120]⟩, ⟨#[121]⟩, ⟨#[122]⟩, ⟨#[98,114,97,99,101,108,101,102,116]⟩, ⟨#[98,97,114]⟩, ⟨#[98,114,97,99,101,114,105,103,104,116]⟩, ⟨#[97,115,99,105,105,116,105,108,100,101]⟩, ⟨#[]⟩, ⟨#[69,117,114,111]⟩, ⟨#[]⟩, ⟨#[113,117,111,116,101,115,105,110,103,108,98,97,115,101]⟩, ⟨#[102,108,111,114,105,110]⟩, ⟨#[113,117,111,116,101,100,98,108,98,97,115,101]⟩, ⟨#[101,108,108,105,112,115,105,115]⟩, ⟨#[100,97,103,103,101,114]⟩, ⟨#[100,97,103,103,101,114,100,98,108]⟩, ⟨#[99,105,114,99,117,109,102,108,101,120]⟩, ⟨#[112,101,114,116,104,111,117,115,97,110,100]⟩, ⟨#[83,99,97,114,111,110]⟩, ⟨#[103,117,105,108,115,105,110,103,108,108,101,102,116]⟩, ⟨#[79,69]⟩, ⟨#[]⟩, ⟨#[90,99,97,114,111,110]⟩, ⟨#[]⟩, ⟨#[]⟩, ⟨#[113,117,111,116,101,108,101,102,116]⟩, ⟨#[113,117,111,116,101,114,105,103,104,116]⟩, ⟨#[113,117,111,116,101,100,98,108,108,101,102,116]⟩, ⟨#[113,117,111,116,101,100,98,108,114,105,103,104,116]⟩, ⟨#[98,117,108,108,101,116]⟩, ⟨#[101,110,100,97,115,104]⟩, ⟨#[101,109,100,97,115,104]⟩, ⟨#[116,105,108,100,101]⟩, ⟨#[116,114,97,100,101,109,97,114,107]⟩, ⟨#[115,99,97,114,111,110]⟩, ⟨#[103,117,105,108,115,105,110,103,108,114,105,103,104,116]⟩, ⟨#[111,101]⟩, ⟨#[]⟩, ⟨#[122,99,97,114,111,110]⟩, ⟨#[89,100,105,101,114,101,115,105,115]⟩, ⟨#[115,112,97,99,101]⟩]
noncomputable def winB : List Str := [⟨#[]⟩, ⟨#[]⟩, ⟨#[]⟩, ⟨#[]⟩, ⟨#[]⟩, ⟨#[]⟩, ⟨#[]⟩, ⟨#[]⟩, ⟨#[]⟩, ⟨#[]⟩, ⟨#[]⟩, ⟨#[]⟩, ⟨#[]⟩, ⟨#[]⟩, ⟨#[]⟩, ⟨#[]⟩, ⟨#[]⟩, ⟨#[]⟩, ⟨#[]⟩, ⟨#[]⟩, ⟨#[]⟩, ⟨#[]⟩, ⟨#[]⟩, ⟨#[]⟩, ⟨#[]⟩, ⟨#[]⟩, ⟨#[]⟩, ⟨#[]⟩, ⟨#[]⟩, ⟨#[]⟩, ⟨#[]⟩, ⟨#[]⟩, ⟨#[115,112,97,99,101]⟩, ⟨#[101,120,99,108,97,109]⟩, ⟨#[113,117,111,116,101,100,98,108]⟩, ⟨#[110,117,109,98,101,114,115,105,103,110]⟩, ⟨#[100,111,108,108,97,114]⟩, ⟨#[112,101,114,99,101,110,116]⟩, ⟨#[97,109,112,101,114,115,97,110,100]⟩, ⟨#[113,117,111,116,101,115,105,110,103,108,101]⟩, ⟨#[112,97,114,101,110,108,101,102,116]⟩, ⟨#[112,97,114,101,110,114,105,103,104,116]⟩, ⟨#[97,115,116,101,114,105,115,107]⟩, ⟨#[112,108,117,115]⟩, ⟨#[99,111,109,109,97]⟩, ⟨#[104,121,112,104,101,110]⟩, ⟨#[112,101,114,105,111,100]⟩, ⟨#[115,108,97,115,104]⟩, ⟨#[122,101,114,111]⟩, ⟨#[111,110,101]⟩, ⟨#[116,119,111]⟩, ⟨#[116,104,114,101,101]⟩, ⟨#[102,111,117,114]⟩, ⟨#[102,105,118,101]⟩, ⟨#[115,105,120]⟩, ⟨#[115,101,118,101,110]⟩, ⟨#[101,105,103,104,116]⟩, ⟨#[110,105,110,101]⟩, ⟨#[99,111,108,111,110]⟩, ⟨#[115,101,109,105,99,111,108,111,110]⟩, ⟨#[108,101,115,115]⟩, ⟨#[101,113,117,97,108]⟩, ⟨#[103,114,101,97,116,101,114]⟩, ⟨#[113,117,101,115,116,105,111,110]⟩, ⟨#[97,116]⟩, ⟨#[65]⟩, ⟨#[66]⟩, ⟨#[67]⟩, ⟨#[68]⟩, ⟨#[69]⟩, ⟨#[70]⟩, ⟨#[71]⟩, ⟨#[72]⟩, ⟨#[73]⟩, ⟨#[74]⟩, ⟨#[75]⟩, ⟨#[76]⟩, ⟨#[77]⟩, ⟨#[78]⟩, ⟨#[79]⟩, ⟨#[80]⟩, ⟨#[81]⟩, ⟨#[82]⟩, ⟨#[83]⟩, ⟨#[84]⟩, ⟨#[85]⟩, ⟨#[86]⟩, ⟨#[87]⟩, ⟨#[88]⟩, ⟨#[89]⟩, ⟨#[90]⟩, ⟨#[98,114,97,99,107,101,116,108,101,102,116]⟩, ⟨#[98,97,99,107,115,108,97,115,104]⟩, ⟨#[98,114,97,99,107,101,116,114,105,103,104,116]⟩, ⟨#[97,115,99,105,105,99,105,114,99,117,109]⟩, ⟨#[117,110,100,101,114,115,99,111,114,101]⟩, ⟨#[103,114,97,118,101]⟩, ⟨#[97]⟩, ⟨#[98]⟩, ⟨#[99]⟩, ⟨#[100]⟩, ⟨#[101]⟩, ⟨#[102]⟩, ⟨#[103]⟩, ⟨#[104]⟩, ⟨#[105]⟩, ⟨#[106]⟩, ⟨#[107]⟩, ⟨#[108]⟩, ⟨#[109]⟩, ⟨#[110]⟩, ⟨#[111]⟩, ⟨#[112]⟩, ⟨#[113]⟩, ⟨#[114]⟩, ⟨#[115]⟩, ⟨#[116]⟩, ⟨#[117]⟩, ⟨#[118]⟩, ⟨#[119]⟩, ⟨#[120]⟩, ⟨#[121]⟩, ⟨#[122]⟩, ⟨#[98,114,97,99,101,108,101,102,116]⟩, ⟨#[98,97,114]⟩, ⟨#[98,114,97,99,101,114,105,103,104,116]⟩, ⟨#[97,115,99,105,105,116,105,108,100,101]⟩, ⟨#[]⟩, ⟨#[69,117,114,111]⟩, ⟨#[]⟩, ⟨#[113,117,111,116,101,115,105,110,103,108,98,97,115,101]⟩, ⟨#[102,108,111,114,105,110]⟩, ⟨#[113,117,111,116,101,100,98,108,98,97,115,101]⟩, ⟨#[101,108,108,105,112,115,105,115]⟩, ⟨#[100,97,103,103,101,114]⟩, ⟨#[100,97,103,103,101,114,100,98,108]⟩, ⟨#[99,105,114,99,117,109,102,108,101,120]⟩, ⟨#[112,101,114,116,104,111,117,115,97,110,100]⟩, ⟨#[83,99,97,114,111,110]⟩, ⟨#[103,117,105,108,115,105,110,103,108,108,101,102,116]⟩, ⟨#[79,69]⟩, ⟨#[]⟩, ⟨#[90,99,97,114,111,110]⟩, ⟨#[]⟩, ⟨#[]⟩, ⟨#[113,117,111,116,101,108,101,102,116]⟩, ⟨#[113,117,111,116,101,114,105,103,104,116]⟩, ⟨#[113,117,111,116,101,100,98,108,108,101,102,116]⟩, ⟨#[113,117,111,116,101,100,98,108,114,105,103,104,116]⟩, ⟨#[98,117,108,108,101,116]⟩, ⟨#[101,110,100,97,115,104]⟩, ⟨#[101,109,100,97,115,104]⟩, ⟨#[116,105,108,100,101]⟩, ⟨#[116,114,97,100,101,109,97,114,107]⟩, ⟨#[115,99,97,114,111,110]⟩, ⟨#[103,117,105,108,115,105,110,103,108,114,105,103,104,116]⟩, ⟨#[111,101]⟩, ⟨#[]⟩, ⟨#[122,99,97,114,111,110]⟩, ⟨#[89,100,105,101,114,101,115,105,115]⟩, ⟨#[115,112,97,99,101]⟩, ⟨#[101,120,99,108,97,109,100,111,119,110]⟩, ⟨#[99,101,110,116]⟩, ⟨#[115,116,101,114,108,105,110,103]⟩, ⟨#[99,117,114,114,101,110,99,121]⟩, ⟨#[121,101,110]⟩, ⟨#[98,114,111,107,101,110,98,97,114]⟩, ⟨#[115,101,99,116,105,111,110]⟩, ⟨#[100,105,101,114,101,115,105,115]⟩, ⟨#[99,111,112,121,114,105,103,104,116]⟩, ⟨#[111,114,100,102,101,109,105,110,105,110,101]⟩, ⟨#[103,117,105,108,108,101,109,111,116,108,101,102,116]⟩, ⟨#[108,111,103,105,99,97,108,110,111,116]⟩, ⟨#[104,121,112,104,101,110]⟩, ⟨#[114,101,103,105,115,116,101,114,101,100]⟩, ⟨#[109,97,99,114,111,110]⟩, ⟨#[100,101,103,114,101,101]⟩, ⟨#[112,108,117,115,109,105,110,117,115]⟩, ⟨#[116,119,111,115,117,112,101,114,105,111,114]⟩, ⟨#[116,104,114,101,101,115,117,112,101,114,105,111,114]⟩, ⟨#[97,99,117,116,101]⟩, ⟨#[109,117]⟩, ⟨#[112,97,114,97,103,114,97,112,104]⟩, ⟨#[112,101,114,105,111,100,99,101,110,116,101,114,101,100]⟩, ⟨#[99,101,100,105,108,108,97]⟩, ⟨#[111,110,101,115,117,112,101,114,105,111,114]⟩, ⟨#[111,114,100,109,97,115,99,117,108,105,110,101]⟩, ⟨#[103,117,105,108,108,101,109,111,116,114,105,103,104,116]⟩, ⟨#[111,110,101,113,117,97,114,116,101,114]⟩, ⟨#[111,110,101,104,97,108,102]⟩, ⟨#[116,104,114,101,101,113,117,97,114,116,101,114,115]⟩, ⟨#[113,117,101,115,116,105,111,110,100,111,119,110]⟩, ⟨#[65,103,114,97,118,101]⟩, ⟨#[65,97,99,117,116,101]⟩, ⟨#[65,99,105,114,99,117,109,102,108,101,120]⟩, ⟨#[65,116,105,108,100,101]⟩, ⟨#[65,100,105,101,114,101,115,105,115]⟩, ⟨#[65,114,105,110,103]⟩, ⟨#[65,69]⟩, ⟨#[67,99,101,100,105,108,108,97]⟩, ⟨#[69,103,114,97,118,101]⟩, ⟨#[69,97,99,117,116,101]⟩, ⟨#[69,99,105,114,99,117,109,102,108,101,120]⟩, ⟨#[69,100,105,101,114,101,115,105,115]⟩, ⟨#[73,103,114,97,118,101]⟩, ⟨#[73,97,99,117,116,101]⟩, ⟨#[73,99,105,114,99,117,109,102,108,101,120]⟩, ⟨#[73,100,105,101,114,101,115,105,115]⟩, ⟨#[69,116,104]⟩, ⟨#[78,116,105,108,100,101]⟩, ⟨#[79,103,114,97,118,101]⟩, ⟨#[79,97,99,117,116,101]⟩, ⟨#[79,99,105,114,99,117,109,102,108,101,120]⟩, ⟨#[79,116,105,108,100,101]⟩, ⟨#[79,100,105,101,114,101,115,105,115]⟩, ⟨#[109,117,108,116,105,112,108,121]⟩, ⟨#[79,115,108,97,115,104]⟩, ⟨#[85,103,114,97,118,101]⟩, ⟨#[85,97,99,117,116,101]⟩, ⟨#[85,99,105,114,99,117,109,102,108,101,120]⟩, ⟨#[85,100,105,101,114,101,115,105,115]⟩, ⟨#[89,97,99,117,116,101]⟩, ⟨#[84,104,111,114,110]⟩, ⟨#[103,101,114,109,97,110,100,98,108,115]⟩, ⟨#[97,103,114,97,118,101]⟩, ⟨#[97,97,99,117,116,101]⟩, ⟨#[97,99,105,114,99,117,109,102,108,101,120]⟩, ⟨#[97,116,105,108,100,101]⟩, ⟨#[97,100,105,101,114,101,115,105,115]⟩, ⟨#[97,114,105,110,103]⟩, ⟨#[97,101]⟩, ⟨#[99,99,101,100,105,108,108,97]⟩, ⟨#[101,103,114,97,118,101]⟩, ⟨#[101,97,99,117,116,101]⟩, ⟨#[101,99,105,114,99,117,109,102,108,101,120]⟩, ⟨#[101,100,105,101,114,101,115,105,115]⟩, ⟨#[105,103,114,97,118,101]⟩, ⟨#[105,97,99,117,116,101]⟩, ⟨#[105,99,105,114,99,117,109,102,108,101,120]⟩, ⟨#[105,100,105,101,114,101,115,105,115]⟩, ⟨#[101,116,104]⟩, ⟨#[110,116,105,108,100,101]⟩, ⟨#[111,103,114,97,118,101]⟩, ⟨#[111,97,99,117,116,101]⟩, ⟨#[111,99,105,114,99,117,109,102,108,101,120]⟩, ⟨#[111,116,105,108,100,101]⟩, ⟨#[111,100,105,101,114,101,115,105,115]⟩, ⟨#[100,105,118,105,100,101]⟩, ⟨#[111,115,108,97,115,104]⟩, ⟨#[117,103,114,97,118,101]⟩, ⟨#[117,97,99,117,116,101]⟩, ⟨#[117,99,105,114,99,117,109,102,108,101,120]⟩, ⟨#[117,100,105,101,114,101,115,105,115]⟩, ⟨#[121,97,99,117,116,101]⟩, ⟨#[116,104,111,114,110]⟩, ⟨#[121,100,105,101,114,101,115,105,115]⟩]
noncomputable def win33 : List Str := [⟨#[]⟩, ⟨#[]⟩, ⟨#[]⟩, ⟨#[]⟩, ⟨#[]⟩, ⟨#[]⟩, ⟨#[]⟩, ⟨#[]⟩, ⟨#[]⟩, ⟨#[]⟩, ⟨#[]⟩, ⟨#[]⟩, ⟨#[]⟩, ⟨#[]⟩, ⟨#[]⟩, ⟨#[]⟩, ⟨#[]⟩, ⟨#[]⟩, ⟨#[]⟩, ⟨#[]⟩, ⟨#[]⟩, ⟨#[]⟩, ⟨#[]⟩, ⟨#[]⟩, ⟨#[]⟩, ⟨#[]⟩, ⟨#[]⟩, ⟨#[]⟩, ⟨#[]⟩, ⟨#[]⟩, ⟨#[]⟩, ⟨#[]⟩, ⟨#[115,112,97,99,101]⟩]
noncomputable def winT : List Str := [⟨#[101,120,99,108,97,109]⟩, ⟨#[113,117,111,116,101,100,98,108]⟩, ⟨#[110,117,109,98,101,114,115,105,103,110]⟩, ⟨#[100,111,108,108,97,114]⟩, ⟨#[112,101,114,99,101,110,116]⟩, ⟨#[97,109,112,101,114,115,97,110,100]⟩, ⟨#[113,117,111,116,101,115,105,110,103,108,101]⟩, ⟨#[112,97,114,101,110,108,101,102,116]⟩, ⟨#[112,97,114,101,110,114,105,103,104,116]⟩, ⟨#[97,115,116,101,114,105,115,107]⟩, ⟨#[112,108,117,115]⟩, ⟨#[99,111,109,109,97]⟩, ⟨#[104,121,112,104,101,110]⟩, ⟨#[112,101,114,105,111,100]⟩, ⟨#[115,108,97,115,104]⟩, ⟨#[122,101,114,111]⟩, ⟨#[111,110,101]⟩, ⟨#[116,119,111]⟩, ⟨#[116,104,114,101,101]⟩, ⟨#[102,111,117,114]⟩, ⟨#[102,105,118,101]⟩, ⟨#[115,105,120]⟩, ⟨#[115,101,118,101,110]⟩, ⟨#[101,105,103,104,116]⟩, ⟨#[110,105,110,101]⟩, ⟨#[99,111,108,111,110]⟩, ⟨#[115,101,109,105,99,111,108,111,110]⟩, ⟨#[108,101,115,115]⟩, ⟨#[101,113,117,97,108]⟩, ⟨#[103,114,101,97,116,101,114]⟩, ⟨#[113,117,101,115,116,105,111,110]⟩, ⟨#[97,116]⟩, ⟨#[65]⟩, ⟨#[66]⟩, ⟨#[67]⟩, ⟨#[68]⟩, ⟨#[69]⟩, ⟨#[70]⟩, ⟨#[71]⟩, ⟨#[72]⟩, ⟨#[73]⟩, ⟨#[74]⟩, ⟨#[75]⟩, ⟨#[76]⟩, ⟨#[77]⟩, ⟨#[78]⟩, ⟨#[79]⟩, ⟨#[80]⟩, ⟨#[81]⟩, ⟨#[82]⟩, ⟨#[83]⟩, ⟨#[84]⟩, ⟨#[85]⟩, ⟨#[86]⟩, ⟨#[87]⟩, ⟨#[88]⟩, ⟨#[89]⟩, ⟨#[90]⟩, ⟨#[98,114,97,99,107,101,116,108,101,102,116]⟩, ⟨#[98,97,99,107,115,108,97,115,104]⟩, ⟨#[98,114,97,99,107,101,116,114,105,103,104,116]⟩, ⟨#[97,115,99,105,105,99,105,114,99,117,109]⟩, ⟨#[117,110,100,101,114,115,99,111,114,101]⟩, ⟨#[103,114,97,118,101]⟩, ⟨#[97]⟩, ⟨#[98]⟩, ⟨#[99]⟩, ⟨#[100]⟩, ⟨#[101]⟩, ⟨#[102]⟩, ⟨#[103]⟩, ⟨#[104]⟩, ⟨#[105]⟩, ⟨#[106]⟩, ⟨#[107]⟩, ⟨#[108]⟩, ⟨#[109]⟩, ⟨#[110]⟩, ⟨#[111]⟩, ⟨#[112]⟩, ⟨#[113]⟩, ⟨#[114]⟩, ⟨#[115]⟩, ⟨#[116]⟩, ⟨#[117]⟩, ⟨#[118]⟩, ⟨#[119]⟩, ⟨#[120]⟩, ⟨#[121]⟩, ⟨#[122]⟩, ⟨#[98,114,97,99,101,108,101,102,116]⟩, ⟨#[98,97,114]⟩, ⟨#[98,114,97,99,101,114,105,103,104,116]⟩, ⟨#[97,115,99,105,105,116,105,108,100,101]⟩, ⟨#[]⟩, ⟨#[69,117,114,111]⟩, ⟨#[]⟩, ⟨#[113,117,111,116,101,115,105,110,103,108,98,97,115,101]⟩, ⟨#[102,108,111,114,105,110]⟩, ⟨#[113,117,111,116,101,100,98,108,98,97,115,101]⟩, ⟨#[101,108,108,105,112,115,105,115]⟩, ⟨#[100,97,103,103,101,114]⟩, ⟨#[100,97,103,103,101,114,100,98,108]⟩, ⟨#[99,105,114,99,117,109,102,108,101,120]⟩, ⟨#[112,101,114,116,104,111,117,115,97,110,100]⟩, ⟨#[83,99,97,114,111,110]⟩, ⟨#[103,117,105,108,115,105,110,103,108,108,101,102,116]⟩, ⟨#[79,69]⟩, ⟨#[]⟩, ⟨#[90,99,97,114,111,110]⟩, ⟨#[]⟩, ⟨#[]⟩, ⟨#[113,117,111,116,101,108,101,102,116]⟩, ⟨#[113,117,111,116,101,114,105,103,104,116]⟩, ⟨#[113,117,111,116,101,100,98,108,108,101,102,116]⟩, ⟨#[113,117,111,116,101,100,98,108,114,105,103,104,116]⟩, ⟨#[98,117,108,108,101,116]⟩, ⟨#[101,110,100,97,115,104]⟩, ⟨#[101,109,100,97,115,104]⟩, ⟨#[116,105,108,100,101]⟩, ⟨#[116,114,97,100,101,109,97,114,107]⟩, ⟨#[115,99,97,114,111,110]⟩, ⟨#[103,117,105,108,115,105,110,103,108,114,105,103,104,116]⟩, ⟨#[111,101]⟩, ⟨#[]⟩, ⟨#[122,99,97,114,111,110]⟩, ⟨#[89,100,105,101,114,101,115,105,115]⟩, ⟨#[115,112,97,99,101]⟩, ⟨#[101,120,99,108,97,109,100,111,119,110]⟩, ⟨#[99,101,110,116]⟩, ⟨#[115,116,101,114,108,105,110,103]⟩, ⟨#[99,117,114,114,101,110,99,121]⟩, ⟨#[121,101,110]⟩, ⟨#[98,114,111,107,101,110,98,97,114]⟩, ⟨#[115,101,99,116,105,111,110]⟩, ⟨#[100,105,101,114,101,115,105,115]⟩, ⟨#[99,111,112,121,114,105,103,104,116]⟩, ⟨#[111,114,100,102,101,109,105,110,105,110,101]⟩, ⟨#[103,117,105,108,108,101,109,111,116,108,101,102,116]⟩, ⟨#[108,111,103,105,99,97,108,110,111,116]⟩, ⟨#[104,121,112,104,101,110]⟩, ⟨#[114,101,103,105,115,116,101,114,101,100]⟩, ⟨#[109,97,99,114,111,110]⟩, ⟨#[100,101,103,114,101,101]⟩, ⟨#[112,108,117,115,109,105,110,117,115]⟩, ⟨#[116,119,111,115,117,112,101,114,105,111,114]⟩, ⟨#[116,104,114,101,101,115,117,112,101,114,105,111,114]⟩, ⟨#[97,99,117,116,101]⟩, ⟨#[109,117]⟩, ⟨#[112,97,114,97,103,114,97,112,104]⟩, ⟨#[112,101,114,105,111,100,99,101,110,116,101,114,101,100]⟩, ⟨#[99,101,100,105,108,108,97]⟩, ⟨#[111,110,101,115,117,112,101,114,105,111,114]⟩, ⟨#[111,114,100,109,97,115,99,117,108,105,110,101]⟩, ⟨#[103,117,105,108,108,101,109,111,116,114,105,103,104,116]⟩, ⟨#[111,110,101,113,117,97,114,116,101,114]⟩, ⟨#[111,110,101,104,97,108,102]⟩, ⟨#[116,104,114,101,101,113,117,97,114,116,101,114,115]⟩, ⟨#[113,117,101,115,116,105,111,110,100,111,119,110]⟩, ⟨#[65,103,114,97,118,101]⟩, ⟨#[65,97,99,117,116,101]⟩, ⟨#[65,99,105,114,99,117,109,102,108,101,120]⟩, ⟨#[65,116,105,108,100,101]⟩, ⟨#[65,100,105,101,114,101,115,105,115]⟩, ⟨#[65,114,105,110,103]⟩, ⟨#[65,69]⟩, ⟨#[67,99,101,100,105,108,108,97]⟩, ⟨#[69,103,114,97,118,101]⟩, ⟨#[69,97,99,117,116,101]⟩, ⟨#[69,99,105,114,99,117,109,102,108,101,120]⟩, ⟨#[69,100,105,101,114,101,115,105,115]⟩, ⟨#[73,103,114,97,118,101]⟩, ⟨#[73,97,99,117,116,101]⟩, ⟨#[73,99,105,114,99,117,109,102,108,101,120]⟩, ⟨#[73,100,105,101,114,101,115,105,115]⟩, ⟨#[69,116,104]⟩, ⟨#[78,116,105,108,100,101]⟩, ⟨#[79,103,114,97,118,101]⟩, ⟨#[79,97,99,117,116,101]⟩, ⟨#[79,99,105,114,99,117,109,102,108,101,120]⟩, ⟨#[79,116,105,108,100,101]⟩, ⟨#[79,100,105,101,114,101,115,105,115]⟩, ⟨#[109,117,108,116,105,112,108,121]⟩, ⟨#[79,115,108,97,115,104]⟩, ⟨#[85,103,114,97,118,101]⟩, ⟨#[85,97,99,117,116,101]⟩, ⟨#[85,99,105,114,99,117,109,102,108,101,120]⟩, ⟨#[85,100,105,101,114,101,115,105,115]⟩, ⟨#[89,97,99,117,116,101]⟩, ⟨#[84,104,111,114,110]⟩, ⟨#[103,101,114,109,97,110,100,98,108,115]⟩, ⟨#[97,103,114,97,118,101]⟩, ⟨#[97,97,99,117,116,101]⟩, ⟨#[97,99,105,114,99,117,109,102,108,101,120]⟩, ⟨#[97,116,105,108,100,101]⟩, ⟨#[97,100,105,101,114,101,115,105,115]⟩, ⟨#[97,114,105,110,103]⟩, ⟨#[97,101]⟩, ⟨#[99,99,101,100,105,108,108,97]⟩, ⟨#[101,103,114,97,118,101]⟩, ⟨#[101,97,99,117,116,101]⟩, ⟨#[101,99,105,114,99,117,109,102,108,101,120]⟩, ⟨#[101,100,105,101,114,101,115,105,115]⟩, ⟨#[105,103,114,97,118,101]⟩, ⟨#[105,97,99,117,116,101]⟩, ⟨#[105,99,105,114,99,117,109,102,108,101,120]⟩, ⟨#[105,100,105,101,114,101,115,105,115]⟩, ⟨#[101,116,104]⟩, ⟨#[110,116,105,108,100,101]⟩, ⟨#[111,103,114,97,118,101]⟩, ⟨#[111,97,99,117,116,101]⟩, ⟨#[111,99,105,114,99,117,109,102,108,101,120]⟩, ⟨#[111,116,105,108,100,101]⟩, ⟨#[111,100,105,101,114,101,115,105,115]⟩, ⟨#[100,105,118,105,100,101]⟩, ⟨#[111,115,108,97,115,104]⟩, ⟨#[117,103,114,97,118,101]⟩, ⟨#[117,97,99,117,116,101]⟩, ⟨#[117,99,105,114,99,117,109,102,108,101,120]⟩, ⟨#[117,100,105,101,114,101,115,105,115]⟩, ⟨#[121,97,99,117,116,101]⟩, ⟨#[116,104,111,114,110]⟩, ⟨#[121,100,105,101,114,101,115,105,115]⟩]
noncomputable def baseN : List Str := [⟨#[]⟩, ⟨#[]⟩, ⟨#[]⟩, ⟨#[]⟩, ⟨#[]⟩, ⟨#[]⟩, ⟨#[]⟩, ⟨#[]⟩, ⟨#[]⟩, ⟨#[]⟩, ⟨#[]⟩, ⟨#[]⟩, ⟨#[]⟩, ⟨#[]⟩, ⟨#[]⟩, ⟨#[]⟩, ⟨#[]⟩, ⟨#[]⟩, ⟨#[]⟩, ⟨#[]⟩, ⟨#[]⟩, ⟨#[]⟩, ⟨#[]⟩, ⟨#[]⟩, ⟨#[]⟩, ⟨#[]⟩, ⟨#[]⟩, ⟨#[]⟩, ⟨#[]⟩, ⟨#[]⟩, ⟨#[]⟩, ⟨#[]⟩, ⟨#[115,112,97,99,101]⟩, ⟨#[101,120,99,108,97,109]⟩, ⟨#[113,117,111,116,101,100,98,108]⟩, ⟨#[110,117,109,98,101,114,115,105,103,110]⟩, ⟨#[100,111,108,108,97,114]⟩, ⟨#[112,101,114,99,101,110,116]⟩, ⟨#[97,109,112,101,114,115,97,110,100]⟩, ⟨#[113,117,111,116,101,115,105,110,103,108,101]⟩, ⟨#[112,97,114,101,110,108,101,102,116]⟩, ⟨#[112,97,114,101,110,114,105,103,104,116]⟩, ⟨#[97,115,116,101,114,105,115,107]⟩, ⟨#[112,108,117,115]⟩, ⟨#[99,111,109,109,97]⟩, ⟨#[104,121,112,104,101,110]⟩, ⟨#[112,101,114,105,111,100]⟩, ⟨#[115,108,97,115,104]⟩, ⟨#[122,101,114,111]⟩, ⟨#[111,110,101]⟩, ⟨#[116,119,111]⟩, ⟨#[116,104,114,101,101]⟩, ⟨#[102,111,117,114]⟩, ⟨#[102,105,118,101]⟩, ⟨#[115,105,120]⟩, ⟨#[115,101,118,101,110]⟩, ⟨#[101,105,103,104,116]⟩, ⟨#[110,105,110,101]⟩, ⟨#[99,111,108,111,110]⟩, ⟨#[115,101,109,105,99,111,108,111,110]⟩, ⟨#[108,101,115,115]⟩, ⟨#[101,113,117,97,108]⟩, ⟨#[103,114,101,97,116,101,114]⟩, ⟨#[113,117,101,115,116,105,111,110]⟩, ⟨#[97,116]⟩, ⟨#[65]⟩, ⟨#[66]⟩, ⟨#[67]⟩, ⟨#[68]⟩, ⟨#[69]⟩, ⟨#[70]⟩, ⟨#[71]⟩, ⟨#[72]⟩, ⟨#[73]⟩, ⟨#[74]⟩, ⟨#[75]⟩, ⟨#[76]⟩, ⟨#[77]⟩, ⟨#[78]⟩, ⟨#[79]⟩, ⟨#[80]⟩, ⟨#[81]⟩, ⟨#[82]⟩, ⟨#[83]⟩, ⟨#[84]⟩, ⟨#[85]⟩, ⟨#[86]⟩, ⟨#[87]⟩, ⟨#[88]⟩, ⟨#[89]⟩, ⟨#[90]⟩, ⟨#[98,114,97,99,107,101,116,108,101,102,116]⟩, ⟨#[98,97,99,107,115,108,97,115,104]⟩, ⟨#[98,114,97,99,107,101,116,114,105,103,104,116]⟩, ⟨#[97,115,99,105,105,99,105,114,99,117,109]⟩, ⟨#[117,110,100,101,114,115,99,111,114,101]⟩, ⟨#[103,114,97,118,101]⟩, ⟨#[97]⟩, ⟨#[98]⟩, ⟨#[99]⟩, ⟨#[100]⟩, ⟨#[101]⟩, ⟨#[102]⟩, ⟨#[103]⟩, ⟨#[104]⟩, ⟨#[105]⟩, ⟨#[106]⟩, ⟨#[107]⟩, ⟨#[108]⟩, ⟨#[109]⟩, ⟨#[110]⟩, ⟨#[111]⟩, ⟨#[112]⟩, ⟨#[113]⟩, ⟨#[114]⟩, ⟨#[115]⟩, ⟨#[116]⟩, ⟨#[117]⟩, ⟨#[118]⟩, ⟨#[119]⟩, ⟨#[120]⟩, ⟨#[121]⟩, ⟨#[122]⟩, ⟨#[98,114,97,99,101,108,101,102,116]⟩, ⟨#[98,97,114]⟩, ⟨#[98,114,97,99,101,114,105,103,104,116]⟩, ⟨#[97,115,99,105,105,116,105,108,100,101]⟩, ⟨#[]⟩, ⟨#[]⟩, ⟨#[]⟩, ⟨#[]⟩, ⟨#[]⟩, ⟨#[]⟩, ⟨#[]⟩, ⟨#[]⟩, ⟨#[]⟩, ⟨#[]⟩, ⟨#[]⟩, ⟨#[]⟩, ⟨#[]⟩, ⟨#[]⟩, ⟨#[]⟩, ⟨#[]⟩, ⟨#[]⟩, ⟨#[]⟩, ⟨#[]⟩, ⟨#[]⟩, ⟨#[]⟩, ⟨#[]⟩, ⟨#[]⟩, ⟨#[]⟩, ⟨#[]⟩, ⟨#[]⟩, ⟨#[]⟩, ⟨#[]⟩, ⟨#[]⟩, ⟨#[]⟩, ⟨#[]⟩, ⟨#[]⟩, ⟨#[]⟩, ⟨#[]⟩, ⟨#[]⟩, ⟨#[]⟩, ⟨#[]⟩, ⟨#[]⟩, ⟨#[]⟩, ⟨#[]⟩, ⟨#[]⟩, ⟨#[]⟩, ⟨#[]⟩, ⟨#[]⟩, ⟨#[]⟩, ⟨#[]⟩, ⟨#[]⟩, ⟨#[]⟩, ⟨#[]⟩, ⟨#[]⟩, ⟨#[]⟩, ⟨#[]⟩, ⟨#[]⟩, ⟨#[]⟩, ⟨#[]⟩, ⟨#[]⟩, ⟨#[]⟩, ⟨#[]⟩, ⟨#[]⟩, ⟨#[]⟩, ⟨#[]⟩, ⟨#[]⟩, ⟨#[]⟩, ⟨#[]⟩, ⟨#[]⟩, ⟨#[]⟩, ⟨#[]⟩, ⟨#[]⟩, ⟨#[]⟩, ⟨#[]⟩, ⟨#[]⟩, ⟨#[]⟩, ⟨#[]⟩, ⟨#[]⟩, ⟨#[]⟩, ⟨#[]⟩, ⟨#[]⟩, ⟨#[]⟩, ⟨#[]⟩, ⟨#[]⟩, ⟨#[]⟩, ⟨#[]⟩, ⟨#[]⟩, ⟨#[]⟩, ⟨#[]⟩, ⟨#[]⟩, ⟨#[]⟩, ⟨#[]⟩, ⟨#[]⟩, ⟨#[]⟩, ⟨#[]⟩, ⟨#[]⟩, ⟨#[]⟩, ⟨#[]⟩, ⟨#[]⟩, ⟨#[]⟩, ⟨#[]⟩, ⟨#[]⟩, ⟨#[]⟩, ⟨#[]⟩, ⟨#[]⟩, ⟨#[]⟩, ⟨#[]⟩, ⟨#[]⟩, ⟨#[]⟩, ⟨#[]⟩, ⟨#[]⟩, ⟨#[]⟩, ⟨#[]⟩, ⟨#[]⟩, ⟨#[]⟩, ⟨#[]⟩, ⟨#[]⟩, ⟨#[]⟩, ⟨#[]⟩, ⟨#[]⟩, ⟨#[]⟩, ⟨#[]⟩, ⟨#[]⟩, ⟨#[]⟩, ⟨#[]⟩, ⟨#[]⟩, ⟨#[]⟩, ⟨#[]⟩, ⟨#[]⟩, ⟨#[]⟩, ⟨#[]⟩, ⟨#[]⟩, ⟨#[]⟩]
noncomputable def winN : List Str := [⟨#[]⟩, ⟨#[]⟩, ⟨#[]⟩, ⟨#[]⟩, ⟨#[]⟩, ⟨#[]⟩, ⟨#[]⟩, ⟨#[]⟩, ⟨#[]⟩, ⟨#[]⟩, ⟨#[]⟩, ⟨#[]⟩, ⟨#[]⟩, ⟨#[]⟩, ⟨#[]⟩, ⟨#[]⟩, ⟨#[]⟩, ⟨#[]⟩, ⟨#[]⟩, ⟨#[]⟩, ⟨#[]⟩, ⟨#[]⟩, ⟨#[]⟩, ⟨#[]⟩, ⟨#[]⟩, ⟨#[]⟩, ⟨#[]⟩, ⟨#[]⟩, ⟨#[]⟩, ⟨#[]⟩, ⟨#[]⟩, ⟨#[]⟩, ⟨#[115,112,97,99,101]⟩, ⟨#[101,120,99,108,97,109]⟩, ⟨#[113,117,111,116,101,100,98,108]⟩, ⟨#[110,117,109,98,101,114,115,105,103,110]⟩, ⟨#[100,111,108,108,97,114]⟩, ⟨#[112,101,114,99,101,110,116]⟩, ⟨#[97,109,112,101,114,115,97,110,100]⟩, ⟨#[113,117,111,116,101,115,105,110,103,108,101]⟩, ⟨#[112,97,114,101,110,108,101,102,116]⟩, ⟨#[112,97,114,101,110,114,105,103,104,116]⟩, ⟨#[97,115,116,101,114,105,115,107]⟩, ⟨#[112,108,117,115]⟩, ⟨#[99,111,109,109,97]⟩, ⟨#[104,121,112,104,101,110]⟩, ⟨#[112,101,114,105,111,100]⟩, ⟨#[115,108,97,115,104]⟩, ⟨#[122,101,114,111]⟩, ⟨#[111,110,101]⟩, ⟨#[116,119,111]⟩, ⟨#[116,104,114,101,101]⟩, ⟨#[102,111,117,114]⟩, ⟨#[102,105,118,101]⟩, ⟨#[115,105,120]⟩, ⟨#[115,101,118,101,110]⟩, ⟨#[101,105,103,104,116]⟩, ⟨#[110,105,110,101]⟩, ⟨#[99,111,108,111,110]⟩, ⟨#[115,101,109,105,99,111,108,111,110]⟩, ⟨#[108,101,115,115]⟩, ⟨#[101,113,117,97,108]⟩, ⟨#[103,114,101,97,116,101,114]⟩, ⟨#[113,117,101,115,116,105,111,110]⟩, ⟨#[97,116]⟩, ⟨#[65]⟩, ⟨#[66]⟩, ⟨#[67]⟩, ⟨#[68]⟩, ⟨#[69]⟩, ⟨#[70]⟩, ⟨#[71]⟩, ⟨#[72]⟩, ⟨#[73]⟩, ⟨#[74]⟩, ⟨#[75]⟩, ⟨#[76]⟩, ⟨#[77]⟩, ⟨#[78]⟩, ⟨#[79]⟩, ⟨#[80]⟩, ⟨#[81]⟩, ⟨#[82]⟩, ⟨#[83]⟩, ⟨#[84]⟩, ⟨#[85]⟩, ⟨#[86]⟩, ⟨#[87]⟩, ⟨#[88]⟩, ⟨#[89]⟩, ⟨#[90]⟩, ⟨#[98,114,97,99,107,101,116,108,101,102,116]⟩, ⟨#[98,97,99,107,115,108,97,115,104]⟩, ⟨#[98,114,97,99,107,101,116,114,105,103,104,116]⟩, ⟨#[97,115,99,105,105,99,105,114,99,117,109]⟩, ⟨#[117,110,100,101,114,115,99,111,114,101]⟩, ⟨#[103,114,97,118,101]⟩, ⟨#[97]⟩, ⟨#[98]⟩, ⟨#[99]⟩, ⟨#[100]⟩, ⟨#[101]⟩, ⟨#[102]⟩, ⟨#[103]⟩, ⟨#[104]⟩, ⟨#[105]⟩, ⟨#[106]⟩, ⟨#[107]⟩, ⟨#[108]⟩, ⟨#[109]⟩, ⟨#[110]⟩, ⟨#[111]⟩, ⟨#[112]⟩, ⟨#[113]⟩, ⟨#[114]⟩, ⟨#[115]⟩, ⟨#[116]⟩, ⟨#[117]⟩, ⟨#[118]⟩, ⟨#[119]⟩, ⟨#[120]⟩, ⟨#[121]⟩, ⟨#[122]⟩, ⟨#[98,114,97,99,101,108,101,102,116]⟩, ⟨#[98,97,114]⟩, ⟨#[98,114,97,99,101,114,105,103,104,116]⟩, ⟨#[97,115,99,105,105,116,105,108,100,101]⟩, ⟨#[98,117,108,108,101,116]⟩, ⟨#[69,117,114,111]⟩, ⟨#[98,117,108,108,101,116]⟩, ⟨#[113,117,111,116,101,115,105,110,103,108,98,97,115,101]⟩, ⟨#[102,108,111,114,105,110]⟩, ⟨#[113,117,111,116,101,100,98,108,98,97,115,101]⟩, ⟨#[101,108,108,105,112,115,105,115]⟩, ⟨#[100,97,103,103,101,114]⟩, ⟨#[100,97,103,103,101,114,100,98,108]⟩, ⟨#[99,105,114,99,117,109,102,108,101,120]⟩, ⟨#[112,101,114,116,104,111,117,115,97,110,100]⟩, ⟨#[83,99,97,114,111,110]⟩, ⟨#[103,117,105,108,115,105,110,103,108,108,101,102,116]⟩, ⟨#[79,69]⟩, ⟨#[98,117,108,108,101,116]⟩, ⟨#[90,99,97,114,111,110]⟩, ⟨#[98,117,108,108,101,116]⟩, ⟨#[98,117,108,108,101,116]⟩, ⟨#[113,117,111,116,101,108,101,102,116]⟩, ⟨#[113,117,111,116,101,114,105,103,104,116]⟩, ⟨#[113,117,111,116,101,100,98,108,108,101,102,116]⟩, ⟨#[113,117,111,116,101,100,98,108,114,105,103,104,116]⟩, ⟨#[98,117,108,108,101,116]⟩, ⟨#[101,110,100,97,115,104]⟩, ⟨#[101,109,100,97,115,104]⟩, ⟨#[116,105,108,100,101]⟩, ⟨#[116,114,97,100,101,109,97,114,107]⟩, ⟨#[115,99,97,114,111,110]⟩, ⟨#[103,117,105,108,115,105,110,103,108,114,105,103,104,116]⟩, ⟨#[111,101]⟩, ⟨#[98,117,108,108,101,116]⟩, ⟨#[122,99,97,114,111,110]⟩, ⟨#[89,100,105,101,114,101,115,105,115]⟩, ⟨#[115,112,97,99,101]⟩, ⟨#[101,120,99,108,97,109,100,111,119,110]⟩, ⟨#[99,101,110,116]⟩, ⟨#[115,116,101,114,108,105,110,103]⟩, ⟨#[99,117,114,114,101,110,99,121]⟩, ⟨#[121,101,110]⟩, ⟨#[98,114,111,107,101,110,98,97,114]⟩, ⟨#[115,101,99,116,105,111,110]⟩, ⟨#[100,105,101,114,101,115,105,115]⟩, ⟨#[99,111,112,121,114,105,103,104,116]⟩, ⟨#[111,114,100,102,101,109,105,110,105,110,101]⟩, ⟨#[103,117,105,108,108,101,109,111,116,108,101,102,116]⟩, ⟨#[108,111,103,105,99,97,108,110,111,116]⟩, ⟨#[104,121,112,104,101,110]⟩, ⟨#[114,101,103,105,115,116,101,114,101,100]⟩, ⟨#[109,97,99,114,111,110]⟩, ⟨#[100,101,103,114,101,101]⟩, ⟨#[112,108,117,115,109,105,110,117,115]⟩, ⟨#[116,119,111,115,117,112,101,114,105,111,114]⟩, ⟨#[116,104,114,101,101,115,117,112,101,114,105,111,114]⟩, ⟨#[97,99,117,116,101]⟩, ⟨#[109,117]⟩, ⟨#[112,97,114,97,103,114,97,112,104]⟩, ⟨#[112,101,114,105,111,100,99,101,110,116,101,114,101,100]⟩, ⟨#[99,101,100,105,108,108,97]⟩, ⟨#[111,110,101,115,117,112,101,114,105,111,114]⟩, ⟨#[111,114,100,109,97,115,99,117,108,105,110,101]⟩, ⟨#[103,117,105,108,108,101,109,111,116,114,105,103,104,116]⟩, ⟨#[111,110,101,113,117,97,114,116,101,114]⟩, ⟨#[111,110,101,104,97,108,102]⟩, ⟨#[116,104,114,101,101,113,117,97,114,116,101,114,115]⟩, ⟨#[113,117,101,115,116,105,111,110,100,111,119,110]⟩, ⟨#[65,103,114,97,118,101]⟩, ⟨#[65,97,99,117,116,101]⟩, ⟨#[65,99,105,114,99,117,109,102,108,101,120]⟩, ⟨#[65,116,105,108,100,101]⟩, ⟨#[65,100,105,101,114,101,115,105,115]⟩, ⟨#[65,114,105,110,103]⟩, ⟨#[65,69]⟩, ⟨#[67,99,101,100,105,108,108,97]⟩, ⟨#[69,103,114,97,118,101]⟩, ⟨#[69,97,99,117,116,101]⟩, ⟨#[69,99,105,114,99,117,109,102,108,101,120]⟩, ⟨#[69,100,105,101,114,101,115,105,115]⟩, ⟨#[73,103,114,97,118,101]⟩, ⟨#[73,97,99,117,116,101]⟩, ⟨#[73,99,105,114,99,117,109,102,108,101,120]⟩, ⟨#[73,100,105,101,114,101,115,105,115]⟩, ⟨#[69,116,104]⟩, ⟨#[78,116,105,108,100,101]⟩, ⟨#[79,103,114,97,118,101]⟩, ⟨#[79,97,99,117,116,101]⟩, ⟨#[79,99,105,114,99,117,109,102,108,101,120]⟩, ⟨#[79,116,105,108,100,101]⟩, ⟨#[79,100,105,101,114,101,115,105,115]⟩, ⟨#[109,117,108,116,105,112,108,121]⟩, ⟨#[79,115,108,97,115,104]⟩, ⟨#[85,103,114,97,118,101]⟩, ⟨#[85,97,99,117,116,101]⟩, ⟨#[85,99,105,114,99,117,109,102,108,101,120]⟩, ⟨#[85,100,105,101,114,101,115,105,115]⟩, ⟨#[89,97,99,117,116,101]⟩, ⟨#[84,104,111,114,110]⟩, ⟨#[103,101,114,109,97,110,100,98,108,115]⟩, ⟨#[97,103,114,97,118,101]⟩, ⟨#[97,97,99,117,116,101]⟩, ⟨#[97,99,105,114,99,117,109,102,108,101,120]⟩, ⟨#[97,116,105,108,100,101]⟩, ⟨#[97,100,105,101,114,101,115,105,115]⟩, ⟨#[97,114,105,110,103]⟩, ⟨#[97,101]⟩, ⟨#[99,99,101,100,105,108,108,97]⟩, ⟨#[101,103,114,97,118,101]⟩, ⟨#[101,97,99,117,116,101]⟩, ⟨#[101,99,105,114,99,117,109,102,108,101,120]⟩, ⟨#[101,100,105,101,114,101,115,105,115]⟩, ⟨#[105,103,114,97,118,101]⟩, ⟨#[105,97,99,117,116,101]⟩, ⟨#[105,99,105,114,99,117,109,102,108,101,120]⟩, ⟨#[105,100,105,101,114,101,115,105,115]⟩, ⟨#[101,116,104]⟩, ⟨#[110,116,105,108,100,101]⟩, ⟨#[111,103,114,97,118,101]⟩, ⟨#[111,97,99,117,116,101]⟩, ⟨#[111,99,105,114,99,117,109,102,108,101,120]⟩, ⟨#[111,116,105,108,100,101]⟩, ⟨#[111,100,105,101,114,101,115,105,115]⟩, ⟨#[100,105,118,105,100,101]⟩, ⟨#[111,115,108,97,115,104]⟩, ⟨#[117,103,114,97,118,101]⟩, ⟨#[117,97,99,117,116,101]⟩, ⟨#[117,99,105,114,99,117,109,102,108,101,120]⟩, ⟨#[117,100,105,101,114,101,115,105,115]⟩, ⟨#[121,97,99,117,116,101]⟩, ⟨#[116,104,111,114,110]⟩, ⟨#[121,100,105,101,114,101,115,105,115]⟩]
end Mine
end

section
open PySem PySem.W PyProof.Rows PySem.Calls PySem.Spec
set_option Elab.async false
set_option maxRecDepth 100000
set_option maxHeartbeats 0
namespace Mine
open PySem.Builtin.Str
noncomputable def eqN : List Nat → List Nat → Bool
  | [], [] => true
  | a :: r, b :: q => Nat.beq a b && eqN r q
  | _, _ => false
theorem eqN_sound : ∀ {a b : List Nat}, eqN a b = true → a = b
  | [], [], _ => rfl
  | a :: r, b :: q, h => by
    simp only [eqN, Bool.and_eq_true, Nat.beq_eq] at h
    rw [h.1, eqN_sound h.2]
  | [], _ :: _, h => by cases h
  | _ :: _, [], h => by cases h
noncomputable def eqS : List Str → List Str → Bool
  | [], [] => true
  | a :: r, b :: q => eqN a.cps.toList b.cps.toList && eqS r q
  | _, _ => false
theorem eqS_sound : ∀ {a b : List Str}, eqS a b = true → a = b
  | [], [], _ => rfl
  | ⟨⟨a⟩⟩ :: r, ⟨⟨b⟩⟩ :: q, h => by
    simp only [eqS, Bool.and_eq_true] at h
    rw [show a = b from eqN_sound h.1, eqS_sound h.2]
  | [], _ :: _, h => by cases h
  | _ :: _, [], h => by cases h
noncomputable def joinSp : List (List Nat) → List Nat
  | [] => []
  | [a] => a
  | a :: b :: r => a ++ 32 :: joinSp (b :: r)
noncomputable def okWord (l : List Nat) : Bool := !l.isEmpty && l.all fun c => Nat.ble 48 c && Nat.ble c 122
theorem small_space : (List.range 75).all (fun k => !Unicode.isSpace (k + 48)) = true := by decide +kernel
theorem not_space {c : Nat} (h1 : 48 ≤ c) (h2 : c ≤ 122) : Unicode.isSpace c = false := by
  have := List.all_eq_true.mp small_space (c - 48) (by simp; omega)
  rw [show c - 48 + 48 = c by omega] at this
  simpa using this
theorem fold_word (l : List Nat) : ∀ (acc : List Str) (r : Str), l.all (fun c => Nat.ble 48 c && Nat.ble c 122) = true → l.foldl KWd.step (acc, r) = (acc, ⟨(r.cps.toList ++ l).toArray⟩) := by
  induction l with
  | nil => intro acc r _; simp
  | cons c l ih =>
    intro acc r h
    simp only [List.all_cons, Bool.and_eq_true, Nat.ble_eq] at h
    obtain ⟨⟨h1, h2⟩, h3⟩ := h
    rw [List.foldl_cons]
    have e : KWd.step (acc, r) c = (acc, r ++ ⟨#[c]⟩) := by
      unfold KWd.step
      rw [if_neg (by rw [not_space h1 h2]; exact Bool.false_ne_true)]
    rw [e, ih _ _ (by simpa [Nat.ble_eq] using h3)]
    congr 2
    simp [Str.cps_append]
theorem fold_join : ∀ (ws : List (List Nat)) (acc : List Str), ws.all okWord = true → KWd.fin ((joinSp ws).foldl KWd.step (acc, Str.empty)) = acc ++ ws.map fun l => ⟨l.toArray⟩
  | [], acc, _ => by simp [joinSp, KWd.fin, Str.empty, Str.length]
  | [a], acc, h => by
    simp only [List.all_cons, List.all_nil, Bool.and_true, okWord, Bool.and_eq_true, Bool.not_eq_true'] at h
    simp only [joinSp]
    rw [fold_word _ _ _ h.2]
    have : a ≠ [] := by intro e; subst e; simp at h
    simp [KWd.fin, Str.length, Str.empty, this]
  | a :: b :: r, acc, h => by
    rw [List.all_cons, Bool.and_eq_true] at h
    have h1 := h.1
    simp only [okWord, Bool.and_eq_true, Bool.not_eq_true'] at h1
    have ha : a ≠ [] := by intro e; subst e; simp at h1
    simp only [joinSp, List.foldl_append, List.foldl_cons]
    rw [fold_word _ _ _ h1.2]
    have e : KWd.step (acc, ⟨(Str.empty.cps.toList ++ a).toArray⟩) 32 = (acc ++ [⟨a.toArray⟩], Str.empty) := by
      unfold KWd.step
      rw [if_pos (by decide +kernel), if_neg (by simp [Str.length, Str.empty, ha])]
      simp [Str.empty]
    rw [e, fold_join (b :: r) _ h.2]
    simp
theorem words_join (ws : List (List Nat)) (h : ws.all okWord = true) : Txt.words ⟨(joinSp ws).toArray⟩ = ws.map fun l => ⟨l.toArray⟩ := by
  rw [KWd.words_scan, KWd.scan]
  simpa using fold_join ws [] h
theorem map_cps (ws : List Str) : (ws.map (·.cps.toList)).map (fun l => (⟨l.toArray⟩ : Str)) = ws := by
  rw [List.map_map]
  conv => rhs; rw [← List.map_id ws]
  congr 1
noncomputable def lowA (c : Nat) : Nat := if Nat.ble 65 c && Nat.ble c 90 then c + 32 else c
theorem small_lower : (List.range 26).all (fun k => Unicode.lowerOf (k + 65) == [k + 97] && Unicode.lowerOf (k + 97) == [k + 97]) = true := by decide +kernel
noncomputable def okLet (c : Nat) : Bool := (Nat.ble 65 c && Nat.ble c 90) || (Nat.ble 97 c && Nat.ble c 122)
theorem lowerOf_let {c : Nat} (h : okLet c = true) : Unicode.lowerOf c = [lowA c] := by
  unfold okLet at h
  unfold lowA
  rcases Bool.or_eq_true_iff.mp h with h | h
  · have := List.all_eq_true.mp small_lower (c - 65) (by simp only [Bool.and_eq_true, Nat.ble_eq] at h; simp; omega)
    rw [if_pos h]
    simp only [Bool.and_eq_true, Nat.ble_eq] at h
    simp only [Bool.and_eq_true, beq_iff_eq] at this
    rw [show c - 65 + 65 = c by omega] at this
    rw [this.1, show c - 65 + 97 = c + 32 by omega]
  · simp only [Bool.and_eq_true, Nat.ble_eq] at h
    have := List.all_eq_true.mp small_lower (c - 97) (by simp; omega)
    rw [if_neg (by simp only [Bool.and_eq_true, Nat.ble_eq]; omega)]
    simp only [Bool.and_eq_true, beq_iff_eq] at this
    rw [show c - 97 + 97 = c by omega] at this
    exact this.2
theorem lower_let (l : List Nat) (h : l.all okLet = true) : Txt.lower ⟨l.toArray⟩ = ⟨(l.map lowA).toArray⟩ := by
  have key : (l.mapIdx fun i _ => (Unicode.lowerAt l.toArray i).toArray) = l.map fun c => #[lowA c] := by
    apply List.ext_getElem
    · simp
    · intro i h1 h2
      simp only [List.length_mapIdx] at h1
      have hc : okLet l[i] = true := List.all_eq_true.mp h _ (List.getElem_mem _)
      have hl := lowerOf_let hc
      rw [List.getElem_mapIdx, List.getElem_map]
      have hn : (l[i] == 0x3A3) = false := by
        rw [beq_eq_false_iff_ne]
        unfold okLet at hc
        intro e
        rw [e] at hc
        revert hc; decide
      simp [Unicode.lowerAt, h1, hn, hl]
  unfold Txt.lower placed
  congr 1
  apply Array.toList_inj.mp
  have e2 : (l.toArray.mapIdx fun i c => (Unicode.lowerAt l.toArray i).toArray) = (l.map fun c => #[lowA c]).toArray := by
    rw [← key]
    simp
  rw [e2]
  simp [Function.comp_def]
  clear key e2 h
  induction l with
  | nil => rfl
  | cons a r ih => simp [ih]
theorem lower_all (ws : List Str) (h : ws.all (fun x => x.cps.toList.all okLet) = true) : ws.map Txt.lower = ws.map fun x => ⟨(x.cps.toList.map lowA).toArray⟩ := by
  apply List.map_congr_left
  intro x hx
  have := List.all_eq_true.mp h x hx
  have e := lower_let x.cps.toList this
  exact e

noncomputable def lowW : List Str := [⟨#[115,112,97,99,101]⟩, ⟨#[101,120,99,108,97,109]⟩, ⟨#[113,117,111,116,101,100,98,108]⟩, ⟨#[110,117,109,98,101,114,115,105,103,110]⟩, ⟨#[100,111,108,108,97,114]⟩, ⟨#[112,101,114,99,101,110,116]⟩, ⟨#[97,109,112,101,114,115,97,110,100]⟩, ⟨#[113,117,111,116,101,115,105,110,103,108,101]⟩, ⟨#[112,97,114,101,110,108,101,102,116]⟩, ⟨#[112,97,114,101,110,114,105,103,104,116]⟩, ⟨#[97,115,116,101,114,105,115,107]⟩, ⟨#[112,108,117,115]⟩, ⟨#[99,111,109,109,97]⟩, ⟨#[104,121,112,104,101,110]⟩, ⟨#[112,101,114,105,111,100]⟩, ⟨#[115,108,97,115,104]⟩, ⟨#[122,101,114,111]⟩, ⟨#[111,110,101]⟩, ⟨#[116,119,111]⟩, ⟨#[116,104,114,101,101]⟩, ⟨#[102,111,117,114]⟩, ⟨#[102,105,118,101]⟩, ⟨#[115,105,120]⟩, ⟨#[115,101,118,101,110]⟩, ⟨#[101,105,103,104,116]⟩, ⟨#[110,105,110,101]⟩, ⟨#[99,111,108,111,110]⟩, ⟨#[115,101,109,105,99,111,108,111,110]⟩, ⟨#[108,101,115,115]⟩, ⟨#[101,113,117,97,108]⟩, ⟨#[103,114,101,97,116,101,114]⟩, ⟨#[113,117,101,115,116,105,111,110]⟩, ⟨#[97,116]⟩]
noncomputable def midW : List Str := [⟨#[98,114,97,99,107,101,116,108,101,102,116]⟩, ⟨#[98,97,99,107,115,108,97,115,104]⟩, ⟨#[98,114,97,99,107,101,116,114,105,103,104,116]⟩, ⟨#[97,115,99,105,105,99,105,114,99,117,109]⟩, ⟨#[117,110,100,101,114,115,99,111,114,101]⟩, ⟨#[103,114,97,118,101]⟩]
noncomputable def highW : List Str := [⟨#[98,114,97,99,101,108,101,102,116]⟩, ⟨#[98,97,114]⟩, ⟨#[98,114,97,99,101,114,105,103,104,116]⟩, ⟨#[97,115,99,105,105,116,105,108,100,101]⟩]
theorem low_lit : Str.ofString "space exclam quotedbl numbersign dollar percent ampersand quotesingle parenleft parenright asterisk plus comma hyphen period slash zero one two three four five six seven eight nine colon semicolon less equal greater question at" = ⟨(joinSp (lowW.map (·.cps.toList))).toArray⟩ := lit_eq ['s','p','a','c','e',' ','e','x','c','l','a','m',' ','q','u','o','t','e','d','b','l',' ','n','u','m','b','e','r','s','i','g','n',' ','d','o','l','l','a','r',' ','p','e','r','c','e','n','t',' ','a','m','p','e','r','s','a','n','d',' ','q','u','o','t','e','s','i','n','g','l','e',' ','p','a','r','e','n','l','e','f','t',' ','p','a','r','e','n','r','i','g','h','t',' ','a','s','t','e','r','i','s','k',' ','p','l','u','s',' ','c','o','m','m','a',' ','h','y','p','h','e','n',' ','p','e','r','i','o','d',' ','s','l','a','s','h',' ','z','e','r','o',' ','o','n','e',' ','t','w','o',' ','t','h','r','e','e',' ','f','o','u','r',' ','f','i','v','e',' ','s','i','x',' ','s','e','v','e','n',' ','e','i','g','h','t',' ','n','i','n','e',' ','c','o','l','o','n',' ','s','e','m','i','c','o','l','o','n',' ','l','e','s','s',' ','e','q','u','a','l',' ','g','r','e','a','t','e','r',' ','q','u','e','s','t','i','o','n',' ','a','t'] _ (by decide +kernel)
theorem low_words : Txt.words (Str.ofString "space exclam quotedbl numbersign dollar percent ampersand quotesingle parenleft parenright asterisk plus comma hyphen period slash zero one two three four five six seven eight nine colon semicolon less equal greater question at") = lowW := by rw [low_lit, words_join _ (by decide +kernel), map_cps]
theorem low_len : (Str.ofString "space exclam quotedbl numbersign dollar percent ampersand quotesingle parenleft parenright asterisk plus comma hyphen period slash zero one two three four five six seven eight nine colon semicolon less equal greater question at").length + 2 ≤ sizeLine := by rw [low_lit]; exact Nat.le_of_ble_eq_true (by decide +kernel)

theorem mid_lit : Str.ofString "bracketleft backslash bracketright asciicircum underscore grave" = ⟨(joinSp (midW.map (·.cps.toList))).toArray⟩ := lit_eq ['b','r','a','c','k','e','t','l','e','f','t',' ','b','a','c','k','s','l','a','s','h',' ','b','r','a','c','k','e','t','r','i','g','h','t',' ','a','s','c','i','i','c','i','r','c','u','m',' ','u','n','d','e','r','s','c','o','r','e',' ','g','r','a','v','e'] _ (by decide +kernel)
theorem mid_words : Txt.words (Str.ofString "bracketleft backslash bracketright asciicircum underscore grave") = midW := by rw [mid_lit, words_join _ (by decide +kernel), map_cps]
theorem mid_len : (Str.ofString "bracketleft backslash bracketright asciicircum underscore grave").length + 2 ≤ sizeLine := by rw [mid_lit]; exact Nat.le_of_ble_eq_true (by decide +kernel)

theorem high_lit : Str.ofString "braceleft bar braceright asciitilde" = ⟨(joinSp (highW.map (·.cps.toList))).toArray⟩ := lit_eq ['b','r','a','c','e','l','e','f','t',' ','b','a','r',' ','b','r','a','c','e','r','i','g','h','t',' ','a','s','c','i','i','t','i','l','d','e'] _ (by decide +kernel)
theorem high_words : Txt.words (Str.ofString "braceleft bar braceright asciitilde") = highW := by rw [high_lit, words_join _ (by decide +kernel), map_cps]
theorem high_len : (Str.ofString "braceleft bar braceright asciitilde").length + 2 ≤ sizeLine := by rw [high_lit]; exact Nat.le_of_ble_eq_true (by decide +kernel)

theorem lat_lit : Str.ofString "exclamdown cent sterling currency yen brokenbar section dieresis copyright ordfeminine guillemotleft logicalnot hyphen registered macron degree plusminus twosuperior threesuperior acute mu paragraph periodcentered cedilla onesuperior ordmasculine guillemotright onequarter onehalf threequarters questiondown Agrave Aacute Acircumflex Atilde Adieresis Aring AE Ccedilla Egrave Eacute Ecircumflex Edieresis Igrave Iacute Icircumflex Idieresis Eth Ntilde Ograve Oacute Ocircumflex Otilde Odieresis multiply Oslash Ugrave Uacute Ucircumflex Udieresis Yacute Thorn germandbls" = ⟨(joinSp (latinW.map (·.cps.toList))).toArray⟩ := lit_eq ['e','x','c','l','a','m','d','o','w','n',' ','c','e','n','t',' ','s','t','e','r','l','i','n','g',' ','c','u','r','r','e','n','c','y',' ','y','e','n',' ','b','r','o','k','e','n','b','a','r',' ','s','e','c','t','i','o','n',' ','d','i','e','r','e','s','i','s',' ','c','o','p','y','r','i','g','h','t',' ','o','r','d','f','e','m','i','n','i','n','e',' ','g','u','i','l','l','e','m','o','t','l','e','f','t',' ','l','o','g','i','c','a','l','n','o','t',' ','h','y','p','h','e','n',' ','r','e','g','i','s','t','e','r','e','d',' ','m','a','c','r','o','n',' ','d','e','g','r','e','e',' ','p','l','u','s','m','i','n','u','s',' ','t','w','o','s','u','p','e','r','i','o','r',' ','t','h','r','e','e','s','u','p','e','r','i','o','r',' ','a','c','u','t','e',' ','m','u',' ','p','a','r','a','g','r','a','p','h',' ','p','e','r','i','o','d','c','e','n','t','e','r','e','d',' ','c','e','d','i','l','l','a',' ','o','n','e','s','u','p','e','r','i','o','r',' ','o','r','d','m','a','s','c','u','l','i','n','e',' ','g','u','i','l','l','e','m','o','t','r','i','g','h','t',' ','o','n','e','q','u','a','r','t','e','r',' ','o','n','e','h','a','l','f',' ','t','h','r','e','e','q','u','a','r','t','e','r','s',' ','q','u','e','s','t','i','o','n','d','o','w','n',' ','A','g','r','a','v','e',' ','A','a','c','u','t','e',' ','A','c','i','r','c','u','m','f','l','e','x',' ','A','t','i','l','d','e',' ','A','d','i','e','r','e','s','i','s',' ','A','r','i','n','g',' ','A','E',' ','C','c','e','d','i','l','l','a',' ','E','g','r','a','v','e',' ','E','a','c','u','t','e',' ','E','c','i','r','c','u','m','f','l','e','x',' ','E','d','i','e','r','e','s','i','s',' ','I','g','r','a','v','e',' ','I','a','c','u','t','e',' ','I','c','i','r','c','u','m','f','l','e','x',' ','I','d','i','e','r','e','s','i','s',' ','E','t','h',' ','N','t','i','l','d','e',' ','O','g','r','a','v','e',' ','O','a','c','u','t','e',' ','O','c','i','r','c','u','m','f','l','e','x',' ','O','t','i','l','d','e',' ','O','d','i','e','r','e','s','i','s',' ','m','u','l','t','i','p','l','y',' ','O','s','l','a','s','h',' ','U','g','r','a','v','e',' ','U','a','c','u','t','e',' ','U','c','i','r','c','u','m','f','l','e','x',' ','U','d','i','e','r','e','s','i','s',' ','Y','a','c','u','t','e',' ','T','h','o','r','n',' ','g','e','r','m','a','n','d','b','l','s'] _ (by decide +kernel)
theorem lat_words : Txt.words (Str.ofString "exclamdown cent sterling currency yen brokenbar section dieresis copyright ordfeminine guillemotleft logicalnot hyphen registered macron degree plusminus twosuperior threesuperior acute mu paragraph periodcentered cedilla onesuperior ordmasculine guillemotright onequarter onehalf threequarters questiondown Agrave Aacute Acircumflex Atilde Adieresis Aring AE Ccedilla Egrave Eacute Ecircumflex Edieresis Igrave Iacute Icircumflex Idieresis Eth Ntilde Ograve Oacute Ocircumflex Otilde Odieresis multiply Oslash Ugrave Uacute Ucircumflex Udieresis Yacute Thorn germandbls") = latinW := by rw [lat_lit, words_join _ (by decide +kernel), map_cps]
theorem lat_len : (Str.ofString "exclamdown cent sterling currency yen brokenbar section dieresis copyright ordfeminine guillemotleft logicalnot hyphen registered macron degree plusminus twosuperior threesuperior acute mu paragraph periodcentered cedilla onesuperior ordmasculine guillemotright onequarter onehalf threequarters questiondown Agrave Aacute Acircumflex Atilde Adieresis Aring AE Ccedilla Egrave Eacute Ecircumflex Edieresis Igrave Iacute Icircumflex Idieresis Eth Ntilde Ograve Oacute Ocircumflex Otilde Odieresis multiply Oslash Ugrave Uacute Ucircumflex Udieresis Yacute Thorn germandbls").length + 2 ≤ sizeLine := by rw [lat_lit]; exact Nat.le_of_ble_eq_true (by decide +kernel)

theorem std_lit : Str.ofString "39 quoteright 96 quoteleft 161 exclamdown cent sterling fraction yen florin section currency quotesingle quotedblleft guillemotleft guilsinglleft guilsinglright fi fl 177 endash dagger daggerdbl periodcentered 182 paragraph bullet quotesinglbase quotedblbase quotedblright guillemotright ellipsis perthousand 191 questiondown 193 grave acute circumflex tilde macron breve dotaccent dieresis 202 ring cedilla 205 hungarumlaut ogonek caron emdash 225 AE 227 ordfeminine 232 Lslash Oslash OE ordmasculine 241 ae 245 dotlessi 248 lslash oslash oe germandbls" = ⟨(joinSp (stdW.map (·.cps.toList))).toArray⟩ := lit_eq ['3','9',' ','q','u','o','t','e','r','i','g','h','t',' ','9','6',' ','q','u','o','t','e','l','e','f','t',' ','1','6','1',' ','e','x','c','l','a','m','d','o','w','n',' ','c','e','n','t',' ','s','t','e','r','l','i','n','g',' ','f','r','a','c','t','i','o','n',' ','y','e','n',' ','f','l','o','r','i','n',' ','s','e','c','t','i','o','n',' ','c','u','r','r','e','n','c','y',' ','q','u','o','t','e','s','i','n','g','l','e',' ','q','u','o','t','e','d','b','l','l','e','f','t',' ','g','u','i','l','l','e','m','o','t','l','e','f','t',' ','g','u','i','l','s','i','n','g','l','l','e','f','t',' ','g','u','i','l','s','i','n','g','l','r','i','g','h','t',' ','f','i',' ','f','l',' ','1','7','7',' ','e','n','d','a','s','h',' ','d','a','g','g','e','r',' ','d','a','g','g','e','r','d','b','l',' ','p','e','r','i','o','d','c','e','n','t','e','r','e','d',' ','1','8','2',' ','p','a','r','a','g','r','a','p','h',' ','b','u','l','l','e','t',' ','q','u','o','t','e','s','i','n','g','l','b','a','s','e',' ','q','u','o','t','e','d','b','l','b','a','s','e',' ','q','u','o','t','e','d','b','l','r','i','g','h','t',' ','g','u','i','l','l','e','m','o','t','r','i','g','h','t',' ','e','l','l','i','p','s','i','s',' ','p','e','r','t','h','o','u','s','a','n','d',' ','1','9','1',' ','q','u','e','s','t','i','o','n','d','o','w','n',' ','1','9','3',' ','g','r','a','v','e',' ','a','c','u','t','e',' ','c','i','r','c','u','m','f','l','e','x',' ','t','i','l','d','e',' ','m','a','c','r','o','n',' ','b','r','e','v','e',' ','d','o','t','a','c','c','e','n','t',' ','d','i','e','r','e','s','i','s',' ','2','0','2',' ','r','i','n','g',' ','c','e','d','i','l','l','a',' ','2','0','5',' ','h','u','n','g','a','r','u','m','l','a','u','t',' ','o','g','o','n','e','k',' ','c','a','r','o','n',' ','e','m','d','a','s','h',' ','2','2','5',' ','A','E',' ','2','2','7',' ','o','r','d','f','e','m','i','n','i','n','e',' ','2','3','2',' ','L','s','l','a','s','h',' ','O','s','l','a','s','h',' ','O','E',' ','o','r','d','m','a','s','c','u','l','i','n','e',' ','2','4','1',' ','a','e',' ','2','4','5',' ','d','o','t','l','e','s','s','i',' ','2','4','8',' ','l','s','l','a','s','h',' ','o','s','l','a','s','h',' ','o','e',' ','g','e','r','m','a','n','d','b','l','s'] _ (by decide +kernel)
theorem std_words : Txt.words (Str.ofString "39 quoteright 96 quoteleft 161 exclamdown cent sterling fraction yen florin section currency quotesingle quotedblleft guillemotleft guilsinglleft guilsinglright fi fl 177 endash dagger daggerdbl periodcentered 182 paragraph bullet quotesinglbase quotedblbase quotedblright guillemotright ellipsis perthousand 191 questiondown 193 grave acute circumflex tilde macron breve dotaccent dieresis 202 ring cedilla 205 hungarumlaut ogonek caron emdash 225 AE 227 ordfeminine 232 Lslash Oslash OE ordmasculine 241 ae 245 dotlessi 248 lslash oslash oe germandbls") = stdW := by rw [std_lit, words_join _ (by decide +kernel), map_cps]
theorem std_len : (Str.ofString "39 quoteright 96 quoteleft 161 exclamdown cent sterling fraction yen florin section currency quotesingle quotedblleft guillemotleft guilsinglleft guilsinglright fi fl 177 endash dagger daggerdbl periodcentered 182 paragraph bullet quotesinglbase quotedblbase quotedblright guillemotright ellipsis perthousand 191 questiondown 193 grave acute circumflex tilde macron breve dotaccent dieresis 202 ring cedilla 205 hungarumlaut ogonek caron emdash 225 AE 227 ordfeminine 232 Lslash Oslash OE ordmasculine 241 ae 245 dotlessi 248 lslash oslash oe germandbls").length + 2 ≤ sizeLine := by rw [std_lit]; exact Nat.le_of_ble_eq_true (by decide +kernel)

theorem win_lit : Str.ofString "128 Euro 130 quotesinglbase florin quotedblbase ellipsis dagger daggerdbl circumflex perthousand Scaron guilsinglleft OE 142 Zcaron 145 quoteleft quoteright quotedblleft quotedblright bullet endash emdash tilde trademark scaron guilsinglright oe 158 zcaron Ydieresis space" = ⟨(joinSp (winW.map (·.cps.toList))).toArray⟩ := lit_eq ['1','2','8',' ','E','u','r','o',' ','1','3','0',' ','q','u','o','t','e','s','i','n','g','l','b','a','s','e',' ','f','l','o','r','i','n',' ','q','u','o','t','e','d','b','l','b','a','s','e',' ','e','l','l','i','p','s','i','s',' ','d','a','g','g','e','r',' ','d','a','g','g','e','r','d','b','l',' ','c','i','r','c','u','m','f','l','e','x',' ','p','e','r','t','h','o','u','s','a','n','d',' ','S','c','a','r','o','n',' ','g','u','i','l','s','i','n','g','l','l','e','f','t',' ','O','E',' ','1','4','2',' ','Z','c','a','r','o','n',' ','1','4','5',' ','q','u','o','t','e','l','e','f','t',' ','q','u','o','t','e','r','i','g','h','t',' ','q','u','o','t','e','d','b','l','l','e','f','t',' ','q','u','o','t','e','d','b','l','r','i','g','h','t',' ','b','u','l','l','e','t',' ','e','n','d','a','s','h',' ','e','m','d','a','s','h',' ','t','i','l','d','e',' ','t','r','a','d','e','m','a','r','k',' ','s','c','a','r','o','n',' ','g','u','i','l','s','i','n','g','l','r','i','g','h','t',' ','o','e',' ','1','5','8',' ','z','c','a','r','o','n',' ','Y','d','i','e','r','e','s','i','s',' ','s','p','a','c','e'] _ (by decide +kernel)
theorem win_words : Txt.words (Str.ofString "128 Euro 130 quotesinglbase florin quotedblbase ellipsis dagger daggerdbl circumflex perthousand Scaron guilsinglleft OE 142 Zcaron 145 quoteleft quoteright quotedblleft quotedblright bullet endash emdash tilde trademark scaron guilsinglright oe 158 zcaron Ydieresis space") = winW := by rw [win_lit, words_join _ (by decide +kernel), map_cps]
theorem win_len : (Str.ofString "128 Euro 130 quotesinglbase florin quotedblbase ellipsis dagger daggerdbl circumflex perthousand Scaron guilsinglleft OE 142 Zcaron 145 quoteleft quoteright quotedblleft quotedblright bullet endash emdash tilde trademark scaron guilsinglright oe 158 zcaron Ydieresis space").length + 2 ≤ sizeLine := by rw [win_lit]; exact Nat.le_of_ble_eq_true (by decide +kernel)

theorem mac_lit : Str.ofString "128 Adieresis Aring Ccedilla Eacute Ntilde Odieresis Udieresis aacute agrave acircumflex adieresis atilde aring ccedilla eacute egrave ecircumflex edieresis iacute igrave icircumflex idieresis ntilde oacute ograve ocircumflex odieresis otilde uacute ugrave ucircumflex udieresis dagger degree cent sterling section bullet paragraph germandbls registered copyright trademark acute dieresis 174 AE Oslash 177 plusminus 180 yen mu 187 ordfeminine ordmasculine 190 ae oslash questiondown exclamdown logicalnot 196 florin 199 guillemotleft guillemotright ellipsis space Agrave Atilde Otilde OE oe endash emdash quotedblleft quotedblright quoteleft quoteright divide 216 ydieresis Ydieresis fraction currency guilsinglleft guilsinglright fi fl daggerdbl periodcentered quotesinglbase quotedblbase perthousand Acircumflex Ecircumflex Aacute Edieresis Egrave Iacute Icircumflex Idieresis Igrave Oacute Ocircumflex 241 Ograve Uacute Ucircumflex Ugrave dotlessi circumflex tilde macron breve dotaccent ring cedilla hungarumlaut ogonek caron" = ⟨(joinSp (macW.map (·.cps.toList))).toArray⟩ := lit_eq ['1','2','8',' ','A','d','i','e','r','e','s','i','s',' ','A','r','i','n','g',' ','C','c','e','d','i','l','l','a',' ','E','a','c','u','t','e',' ','N','t','i','l','d','e',' ','O','d','i','e','r','e','s','i','s',' ','U','d','i','e','r','e','s','i','s',' ','a','a','c','u','t','e',' ','a','g','r','a','v','e',' ','a','c','i','r','c','u','m','f','l','e','x',' ','a','d','i','e','r','e','s','i','s',' ','a','t','i','l','d','e',' ','a','r','i','n','g',' ','c','c','e','d','i','l','l','a',' ','e','a','c','u','t','e',' ','e','g','r','a','v','e',' ','e','c','i','r','c','u','m','f','l','e','x',' ','e','d','i','e','r','e','s','i','s',' ','i','a','c','u','t','e',' ','i','g','r','a','v','e',' ','i','c','i','r','c','u','m','f','l','e','x',' ','i','d','i','e','r','e','s','i','s',' ','n','t','i','l','d','e',' ','o','a','c','u','t','e',' ','o','g','r','a','v','e',' ','o','c','i','r','c','u','m','f','l','e','x',' ','o','d','i','e','r','e','s','i','s',' ','o','t','i','l','d','e',' ','u','a','c','u','t','e',' ','u','g','r','a','v','e',' ','u','c','i','r','c','u','m','f','l','e','x',' ','u','d','i','e','r','e','s','i','s',' ','d','a','g','g','e','r',' ','d','e','g','r','e','e',' ','c','e','n','t',' ','s','t','e','r','l','i','n','g',' ','s','e','c','t','i','o','n',' ','b','u','l','l','e','t',' ','p','a','r','a','g','r','a','p','h',' ','g','e','r','m','a','n','d','b','l','s',' ','r','e','g','i','s','t','e','r','e','d',' ','c','o','p','y','r','i','g','h','t',' ','t','r','a','d','e','m','a','r','k',' ','a','c','u','t','e',' ','d','i','e','r','e','s','i','s',' ','1','7','4',' ','A','E',' ','O','s','l','a','s','h',' ','1','7','7',' ','p','l','u','s','m','i','n','u','s',' ','1','8','0',' ','y','e','n',' ','m','u',' ','1','8','7',' ','o','r','d','f','e','m','i','n','i','n','e',' ','o','r','d','m','a','s','c','u','l','i','n','e',' ','1','9','0',' ','a','e',' ','o','s','l','a','s','h',' ','q','u','e','s','t','i','o','n','d','o','w','n',' ','e','x','c','l','a','m','d','o','w','n',' ','l','o','g','i','c','a','l','n','o','t',' ','1','9','6',' ','f','l','o','r','i','n',' ','1','9','9',' ','g','u','i','l','l','e','m','o','t','l','e','f','t',' ','g','u','i','l','l','e','m','o','t','r','i','g','h','t',' ','e','l','l','i','p','s','i','s',' ','s','p','a','c','e',' ','A','g','r','a','v','e',' ','A','t','i','l','d','e',' ','O','t','i','l','d','e',' ','O','E',' ','o','e',' ','e','n','d','a','s','h',' ','e','m','d','a','s','h',' ','q','u','o','t','e','d','b','l','l','e','f','t',' ','q','u','o','t','e','d','b','l','r','i','g','h','t',' ','q','u','o','t','e','l','e','f','t',' ','q','u','o','t','e','r','i','g','h','t',' ','d','i','v','i','d','e',' ','2','1','6',' ','y','d','i','e','r','e','s','i','s',' ','Y','d','i','e','r','e','s','i','s',' ','f','r','a','c','t','i','o','n',' ','c','u','r','r','e','n','c','y',' ','g','u','i','l','s','i','n','g','l','l','e','f','t',' ','g','u','i','l','s','i','n','g','l','r','i','g','h','t',' ','f','i',' ','f','l',' ','d','a','g','g','e','r','d','b','l',' ','p','e','r','i','o','d','c','e','n','t','e','r','e','d',' ','q','u','o','t','e','s','i','n','g','l','b','a','s','e',' ','q','u','o','t','e','d','b','l','b','a','s','e',' ','p','e','r','t','h','o','u','s','a','n','d',' ','A','c','i','r','c','u','m','f','l','e','x',' ','E','c','i','r','c','u','m','f','l','e','x',' ','A','a','c','u','t','e',' ','E','d','i','e','r','e','s','i','s',' ','E','g','r','a','v','e',' ','I','a','c','u','t','e',' ','I','c','i','r','c','u','m','f','l','e','x',' ','I','d','i','e','r','e','s','i','s',' ','I','g','r','a','v','e',' ','O','a','c','u','t','e',' ','O','c','i','r','c','u','m','f','l','e','x',' ','2','4','1',' ','O','g','r','a','v','e',' ','U','a','c','u','t','e',' ','U','c','i','r','c','u','m','f','l','e','x',' ','U','g','r','a','v','e',' ','d','o','t','l','e','s','s','i',' ','c','i','r','c','u','m','f','l','e','x',' ','t','i','l','d','e',' ','m','a','c','r','o','n',' ','b','r','e','v','e',' ','d','o','t','a','c','c','e','n','t',' ','r','i','n','g',' ','c','e','d','i','l','l','a',' ','h','u','n','g','a','r','u','m','l','a','u','t',' ','o','g','o','n','e','k',' ','c','a','r','o','n'] _ (by decide +kernel)
theorem mac_words : Txt.words (Str.ofString "128 Adieresis Aring Ccedilla Eacute Ntilde Odieresis Udieresis aacute agrave acircumflex adieresis atilde aring ccedilla eacute egrave ecircumflex edieresis iacute igrave icircumflex idieresis ntilde oacute ograve ocircumflex odieresis otilde uacute ugrave ucircumflex udieresis dagger degree cent sterling section bullet paragraph germandbls registered copyright trademark acute dieresis 174 AE Oslash 177 plusminus 180 yen mu 187 ordfeminine ordmasculine 190 ae oslash questiondown exclamdown logicalnot 196 florin 199 guillemotleft guillemotright ellipsis space Agrave Atilde Otilde OE oe endash emdash quotedblleft quotedblright quoteleft quoteright divide 216 ydieresis Ydieresis fraction currency guilsinglleft guilsinglright fi fl daggerdbl periodcentered quotesinglbase quotedblbase perthousand Acircumflex Ecircumflex Aacute Edieresis Egrave Iacute Icircumflex Idieresis Igrave Oacute Ocircumflex 241 Ograve Uacute Ucircumflex Ugrave dotlessi circumflex tilde macron breve dotaccent ring cedilla hungarumlaut ogonek caron") = macW := by rw [mac_lit, words_join _ (by decide +kernel), map_cps]
theorem mac_len : (Str.ofString "128 Adieresis Aring Ccedilla Eacute Ntilde Odieresis Udieresis aacute agrave acircumflex adieresis atilde aring ccedilla eacute egrave ecircumflex edieresis iacute igrave icircumflex idieresis ntilde oacute ograve ocircumflex odieresis otilde uacute ugrave ucircumflex udieresis dagger degree cent sterling section bullet paragraph germandbls registered copyright trademark acute dieresis 174 AE Oslash 177 plusminus 180 yen mu 187 ordfeminine ordmasculine 190 ae oslash questiondown exclamdown logicalnot 196 florin 199 guillemotleft guillemotright ellipsis space Agrave Atilde Otilde OE oe endash emdash quotedblleft quotedblright quoteleft quoteright divide 216 ydieresis Ydieresis fraction currency guilsinglleft guilsinglright fi fl daggerdbl periodcentered quotesinglbase quotedblbase perthousand Acircumflex Ecircumflex Aacute Edieresis Egrave Iacute Icircumflex Idieresis Igrave Oacute Ocircumflex 241 Ograve Uacute Ucircumflex Ugrave dotlessi circumflex tilde macron breve dotaccent ring cedilla hungarumlaut ogonek caron").length + 2 ≤ sizeLine := by rw [mac_lit]; exact Nat.le_of_ble_eq_true (by decide +kernel)

theorem lower_lat : ((latinW.drop 31).take 31).map Txt.lower = ((latinW.drop 31).take 31).map fun x => ⟨(x.cps.toList.map lowA).toArray⟩ := lower_all _ (by decide +kernel)
end Mine
end

section
open PySem PySem.W PyProof.Rows PySem.Calls PySem.Spec
set_option Elab.async false
set_option maxRecDepth 100000
set_option maxHeartbeats 0
namespace Mine
noncomputable def chrS (c : Int) : Str := ⟨#[c.toNat]⟩
section
variable {prog : Program} {w : World} {A : Around} {h₀ : Heap} {L : Addr} {m : Str → Option Value} {env : Env} {elt : Expr} {x : Str} {scope : Scope} {cl : List (Str × Addr)} {s : Shared} {S : List (Addr × Obj) → Prop} {P : Nat → Value → Prop} {Fin : List Value → List (Addr × Obj) → Prop} {news : List (Addr × Obj)}
theorem strs_snoc' {y : Str} {t : Tok} : ∀ {vs : List Value} {ys : List Str}, StrsAre vs ys → StrsAre (vs ++ [.str y t]) (ys ++ [y])
  | _, _, .nil => .cons y t .nil
  | _, _, .cons z u r => .cons z u (strs_snoc' r)
noncomputable def ElStr (news : List (Addr × Obj)) (r : Str) (y : Value) (news' : List (Addr × Obj)) : Prop := news' = news ∧ ∃ t : Tok, y = .str r t
theorem comp_strs {n : Nat} (g : Nat → Str)
    (turn : ∀ (i : Nat) (v : Value) I oI C oC D m₂ ys h tk (E' : Value → Shared → Prop), i < n → P i v → LCg.NsObj oC m₂ → m₂ x = some v → Fr h₀ L h m → News h₀ L h ((I, oI) :: (C, oC) :: (D, LCg.lst ys) :: news) → LCg.Off3 I C D news → ((@Ne Nat I C) ∧ (@Ne Nat I D) ∧ (@Ne Nat C D)) →
      wpAny (model prog w) A (eval elt (compEnvC scope cl C env)) (LCg.CompEnd h₀ L m { s with heap := h, toks := tk } I oI C oC D (LCg.lst ys) S (fun y news' => ElStr news (g i) y news')) E' { s with heap := h, toks := tk })
    (fin : ∀ ys, StrsAre ys ((List.range n).map g) → Fin ys news) : LCg.CompRest prog w A h₀ L m env elt x scope cl s S P Fin n 0 [] news := by
  have key : ∀ (j i : Nat) (ys : List Value), i + j = n → StrsAre ys ((List.range i).map g) → LCg.CompRest prog w A h₀ L m env elt x scope cl s S P Fin j i ys news := by
    intro j
    induction j with
    | zero =>
      intro i ys hi hy
      have e : i = n := by omega
      subst e
      exact LCg.CompRest.zero (fin ys hy)
    | succ j ih =>
      intro i ys hi hy
      refine LCg.CompRest.succ ?_
      intro v I oI C oC D m₂ h tk E' hv hC hx F N off ne
      refine wpAny_mono (turn i v I oI C oC D m₂ ys h tk E' (by omega) hv hC hx F N off ne) (fun y s₂ hq => ?_) fun _ _ e => e
      obtain ⟨h', tk', nw, e, F', N', off', hS, hn, t', hy'⟩ := hq
      rw [hn] at N' off' hS
      refine ⟨h', tk', news, e, F', N', off', hS, ?_⟩
      rw [hy']
      refine ih (i + 1) _ (by omega) ?_
      rw [List.range_succ, List.map_append]
      exact strs_snoc' hy
  exact key n 0 [] (by omega) .nil
theorem comp_range {n : Nat} {a : Int} (g : Int → Str)
    (turn : ∀ (k : Int) (t : Tok) I oI C oC D m₂ ys h tk (E' : Value → Shared → Prop), a ≤ k → k < a + (n : Int) → LCg.NsObj oC m₂ → m₂ x = some (.int k t) → Fr h₀ L h m → News h₀ L h ((I, oI) :: (C, oC) :: (D, LCg.lst ys) :: news) → LCg.Off3 I C D news → ((@Ne Nat I C) ∧ (@Ne Nat I D) ∧ (@Ne Nat C D)) →
      wpAny (model prog w) A (eval elt (compEnvC scope cl C env)) (LCg.CompEnd h₀ L m { s with heap := h, toks := tk } I oI C oC D (LCg.lst ys) S (fun y news' => ElStr news (g k) y news')) E' { s with heap := h, toks := tk })
    (fin : ∀ ys, StrsAre ys ((List.range n).map fun (i : Nat) => g (a + (i : Int))) → Fin ys news) : LCg.CompRest prog w A h₀ L m env elt x scope cl s S (fun i v => ∃ t, v = .int (a + (i : Int)) t) Fin n 0 [] news :=
  comp_strs (fun (i : Nat) => g (a + (i : Int))) (fun i v I oI C oC D m₂ ys h tk E' hi hv hC hx F N off ne => by
    obtain ⟨t, rfl⟩ := hv
    exact turn _ t I oI C oC D m₂ ys h tk E' (by omega) (by omega) hC hx F N off ne) fin
theorem strs_at {vs : List Value} {ys : List Str} (h : StrsAre vs ys) : ∀ {i : Nat} {v : Value}, vs[i]? = some v → ∃ t, v = .str (ys.getD i default) t := by
  induction h with
  | nil => intro i v e; simp at e
  | cons y t _ ih =>
    intro i v e
    cases i with
    | zero => simp at e; exact ⟨t, by simp [← e]⟩
    | succ i => simp at e; simpa using ih e
theorem strs_len {vs : List Value} {ys : List Str} (h : StrsAre vs ys) : vs.length = ys.length := by
  induction h with
  | nil => rfl
  | cons y t _ ih => simp [ih]
theorem range_getD (xs : List Str) (f : Str → Str) : (List.range xs.length).map (fun i => f (xs.getD i default)) = xs.map f := by
  apply List.ext_getElem
  · simp
  · intro i h1 h2
    simp at h1
    simp [List.getD, h1]
theorem comp_texts {vs : List Value} {xs : List Str} (f : Str → Str) (hv : StrsAre vs xs)
    (turn : ∀ (y : Str) (t : Tok) I oI C oC D m₂ ys h tk (E' : Value → Shared → Prop), y ∈ xs → LCg.NsObj oC m₂ → m₂ x = some (.str y t) → Fr h₀ L h m → News h₀ L h ((I, oI) :: (C, oC) :: (D, LCg.lst ys) :: news) → LCg.Off3 I C D news → ((@Ne Nat I C) ∧ (@Ne Nat I D) ∧ (@Ne Nat C D)) →
      wpAny (model prog w) A (eval elt (compEnvC scope cl C env)) (LCg.CompEnd h₀ L m { s with heap := h, toks := tk } I oI C oC D (LCg.lst ys) S (fun y' news' => ElStr news (f y) y' news')) E' { s with heap := h, toks := tk })
    (fin : ∀ ys, StrsAre ys (xs.map f) → Fin ys news) : LCg.CompRest prog w A h₀ L m env elt x scope cl s S (fun i v => vs.toArray[i]? = some v) Fin vs.toArray.size 0 [] news := by
  have hl : vs.toArray.size = xs.length := by rw [List.size_toArray]; exact strs_len hv
  rw [hl]
  refine comp_strs (fun i => f (xs.getD i default)) (fun i v I oI C oC D m₂ ys h tk E' hi hp hC hx F N off ne => ?_) (fun ys hy => fin ys (by rwa [range_getD] at hy))
  obtain ⟨t, rfl⟩ := strs_at hv (by simpa using hp)
  refine turn _ t I oI C oC D m₂ ys h tk E' ?_ hC hx F N off ne
  rw [List.getD_eq_getElem?_getD, List.getElem?_eq_getElem hi]
  simp
end
theorem split_words {prog : Program} {w : World} {A : Around} {E : Value → Shared → Prop} {s : Shared} {h₀ : Heap} {L : Addr} {m : Str → Option Value} {news : List (Addr × Obj)} {x : Str} {ws : List Str} {t : Tok} {Q : Value → Shared → Prop}
    (hx : Txt.words x = ws) (hz : x.length + 2 ≤ sizeLine) (F : Fr h₀ L s.heap m) (N : News h₀ L s.heap news)
    (h : ∀ D vs h' k, StrsAre vs ws → Fr h₀ L h' m → News h₀ L h' ((D, listOf (List.toArray vs) 0) :: news) → (∀ p ∈ news, p.1 < D) → Q (.ref D) { s with heap := h', toks := k }) :
    wpAny (model prog w) A (call (.builtin "str.split") [.str x t]) Q E s :=
  KSpl.split0 F N (fun D l h' k e a F' N' l1 => h D _ h' k (by rw [e, hx] at a; exact a) F' N' l1) hz
theorem strs_append {vs ws : List Value} {xs ys : List Str} (h : StrsAre vs xs) (k : StrsAre ws ys) : StrsAre (vs ++ ws) (xs ++ ys) := by
  induction h with
  | nil => exact k
  | cons y t _ ih => exact .cons y t ih
theorem add_strs {prog : Program} {w : World} {A : Around} {E : Value → Shared → Prop} {s : Shared} {h₀ : Heap} {L a b : Addr} {m : Str → Option Value} {news : List (Addr × Obj)} {vs ws : List Value} {xs ys : List Str} {Q : Value → Shared → Prop}
    (F : Fr h₀ L s.heap m) (N : News h₀ L s.heap news) (ha : s.heap.IsList a vs.toArray) (hb : s.heap.IsList b ws.toArray) (hi : StrsAre vs xs) (hj : StrsAre ws ys) (hz : xs.length + ys.length ≤ sizeLine)
    (h : ∀ D us h', Fr h₀ L h' m → News h₀ L h' ((D, listOf (List.toArray us) 0) :: news) → StrsAre us (xs ++ ys) → (∀ p ∈ news, p.1 < D) → Q (.ref D) { s with heap := h' }) :
    wpAny (model prog w) A (binaryOp .Add (.ref a) (.ref b)) Q E s :=
  kmk_add_lit F N ha hb rfl (fun D h' F' N' l1 => h D _ h' F' N' (strs_append hi hj) l1) (by simpa [strs_len hi, strs_len hj] using hz)
theorem strs_castE {vs : List Value} {xs ys : List Str} (h : StrsAre vs xs) (e : eqS xs ys = true) : StrsAre vs ys := eqS_sound e ▸ h
theorem strs_cast {vs : List Value} {xs ys : List Str} (h : StrsAre vs xs) (e : decide (xs = ys) = true) : StrsAre vs ys := of_decide_eq_true e ▸ h
section
variable {prog : Program} {w : World} {A : Around} {E : Value → Shared → Prop} {s : Shared} {h₀ : Heap} {L l D : Addr} {m : Str → Option Value} {news news' : List (Addr × Obj)} {value slice : Expr} {vs : List Value} {xs : List Str} {vl vu : Value} {lo hi : Option Int}
theorem strs_drop {vs : List Value} {xs : List Str} (h : StrsAre vs xs) : ∀ a, StrsAre (vs.drop a) (xs.drop a) := by
  induction h with
  | nil => intro a; simp; exact .nil
  | cons y t hr ih =>
    intro a
    cases a with
    | zero => exact .cons y t hr
    | succ a => exact ih a
theorem strs_take {vs : List Value} {xs : List Str} (h : StrsAre vs xs) : ∀ a, StrsAre (vs.take a) (xs.take a) := by
  induction h with
  | nil => intro a; simp; exact .nil
  | cons y t _ ih =>
    intro a
    cases a with
    | zero => exact .nil
    | succ a => exact .cons y t (ih a)
theorem slice_strs (a b : Nat) {Q : Value → Shared → Prop} (F : Fr h₀ L s.heap m) (N : News h₀ L s.heap news) (hl : s.heap.IsList l vs.toArray) (pl : IsPart vl lo) (pu : IsPart vu hi) (hv : StrsAre vs xs)
    (e : sliceBounds lo hi none xs.length = ((a : Int), (b : Int), 1))
    (h : ∀ D ws h', Fr h₀ L h' m → News h₀ L h' ((D, listOf (List.toArray ws) 0) :: news) → StrsAre ws ((xs.drop a).take (b - a)) → (∀ p ∈ news, p.1 < D) → Q (.ref D) { s with heap := h' })
    (hs : subscripted slice false (.ref l) (.ref s.heap.objs.size) = operate [.ref s.heap.objs.size, .ref l] (getItem (.ref l) (.ref s.heap.objs.size))) (ht : ∀ r, letTemporaryGo value (.ref l) r = pure ()) (hz : xs.length ≤ sizeLine) :
    wpAny (model prog w) A (subscriptTail value slice (.ref l) (.ref s.heap.objs.size)) Q E { s with heap := s.heap.push { cls := .type "slice", data := .fields #[vl, vu, .none] } } := by
  have hn : vs.toArray.size = xs.length := by rw [List.size_toArray]; exact strs_len hv
  refine kmk_slice F N hl pl pu (fun D h' F' N' l1 => h D ((vs.drop a).take (b - a)) h' F' ?_ (strs_take (strs_drop hv a) _) l1) hs ht (by rw [hn]; exact hz)
  have := kmk_pick_nat (lo := lo) (hi := hi) vs.toArray (a := a) (b := b) (by rw [hn]; exact e)
  rw [this] at N'
  exact N'
theorem strs_set {y : Str} {u : Tok} : ∀ {vs : List Value} {ns : List Str}, StrsAre vs ns → ∀ j : Nat, StrsAre (vs.set j (.str y u)) (ns.set j y)
  | _, _, .nil, _ => .nil
  | _, _, .cons _ _ h, 0 => .cons y u h
  | _, _, .cons i t h, j + 1 => .cons i t (strs_set h j)
theorem set_strs {n : Nat} {k : Int} {t u : Tok} {y : Str} {Q : Unit → Shared → Prop} (F : Fr h₀ L s.heap m) (N : News h₀ L s.heap news) (U : Upd D (listOf vs.toArray n) (listOf (vs.set k.toNat (.str y u)).toArray n) news news') (hi : StrsAre vs xs) (h0 : 0 ≤ k) (h1 : k < xs.length) (hfit : k < 2 ^ 63)
    (h : ∀ h', Fr h₀ L h' m → News h₀ L h' news' → StrsAre (vs.set k.toNat (.str y u)) (xs.set k.toNat y) → Q () { s with heap := h' }) :
    wpAny (model prog w) A (setItem (.ref D) (.int k t) (.str y u)) Q E s := by
  obtain ⟨pre, post, rfl, rfl, a, b⟩ := U.split
  have z := N (D, listOf vs.toArray n) (List.mem_append.mpr (.inr (.head _)))
  have hl : vs.length = xs.length := strs_len hi
  have hs : vs.toArray.size = xs.length := by rw [List.size_toArray]; exact hl
  refine ki_setAt z.1 h0 hfit (by omega) (h _ (F.change (Heap.SameBut.update ..) z.2.1 z.2.2) (ki_turn _ N a b ?_ ?_) (strs_set hi _))
  · show vs.toArray.setIfInBounds k.toNat (.str y u) = (vs.set k.toNat (.str y u)).toArray
    apply Array.toList_inj.mp
    simp
  · simp
theorem isStrOf_at {k : Str} : ∀ {vs : List Value} {ys : List Str}, StrsAre vs ys → ∀ (j : Nat) (h : j < vs.length) (h' : j < ys.length), isStrOf k vs[j] = (ys[j] == k)
  | _, _, .cons y t _, 0, _, _ => by first | rfl | simp [isStrOf]
  | _, _, .cons y t r, j + 1, h, h' => isStrOf_at r j (by simpa using h) (by simpa using h')
theorem ne_idx {k : Str} : ∀ {ns : List Str} {j : Nat}, j < ns.idxOf k → ∀ (h2 : j < ns.length), (ns[j] == k) = false
  | n :: r, 0, h, _ => by
    by_cases e : n = k
    · subst e; simp at h
    · simpa using e
  | n :: r, j + 1, h, h2 => by
    by_cases e : n = k
    · subst e; simp at h
    · have h' : j < r.idxOf k := by
        have e' : (n == k) = false := by simpa using e
        simp only [List.idxOf_cons, e', cond_false] at h; omega
      simpa using ne_idx h' (by simpa using h2)
theorem index_strs {k : Str} {t : Tok} {Q : Value → Shared → Prop} (hl : s.heap.IsList l vs.toArray) (hi : StrsAre vs xs) (hz : xs.length < 2 ^ 62) (hk : k ∈ xs) (h : Q (.int (xs.idxOf k : Nat) s.toks) { s with toks := s.toks + 1 }) :
    wpAny (model prog w) A (call (.builtin "list.index") [.ref l, .str k t]) Q E s := by
  obtain ⟨⟨cls, dd, data, sl⟩, ho, hc, n, hd⟩ := id hl
  simp only at hc hd
  subst hc hd
  have hlen := strs_len hi
  have hj : xs.idxOf k < xs.length := List.idxOf_lt_length_iff.mpr hk
  refine call_meets PySem.F.slot_list_index ⟨_, ho, rfl⟩ PySem.F.entry_list_index (PySem.F.args_list_index_2 _ _)
    (PySem.SeqAt.list_indexAt l vs.toArray n dd sl (.str k t) (isStrOf k) (xs.idxOf k) (by simpa [hlen] using hj) (by omega) ?_ ?_) ⟨ho, fun y hy => (eq_isStrOf k t hi y (by simpa using hy)).at _ _, h⟩
  · show isStrOf k vs[xs.idxOf k] = true
    rw [isStrOf_at hi _ (by omega) hj]
    simpa using List.getElem_idxOf hj
  · intro j hjs hlt
    show isStrOf k vs[j] = false
    rw [isStrOf_at hi j (by simpa using hjs) (by omega)]
    exact ne_idx hlt _
end
end Mine
end

section
open PySem PySem.W PyProof.Rows PySem.Calls PySem.Spec
set_option Elab.async false
set_option maxRecDepth 100000
set_option maxHeartbeats 0
namespace Mine
noncomputable def lkp (m₀ : Str → Option Value) : List (Str × Value) → Str → Option Value
  | [], z => m₀ z
  | p :: r, z => if z = p.1 then some p.2 else lkp m₀ r z
theorem lkp_id {m₀ : Str → Option Value} : ∀ {ps : List (Str × Value)}, (∀ p ∈ ps, m₀ p.1 = some p.2) → ∀ z, m₀ z = lkp m₀ ps z
  | [], _, _ => rfl
  | p :: r, h, z => by
    show m₀ z = if z = p.1 then some p.2 else lkp m₀ r z
    by_cases e : z = p.1
    · rw [if_pos e, e]; exact h p (.head _)
    · rw [if_neg e]; exact lkp_id (fun q hq => h q (.tail _ hq)) z
section
variable {prog : Program} {w : World} {A : Around} {E : Value → Shared → Prop} {s : Shared} {env : Env} {h₀ : Heap} {x : Str} {body : List Stmt} {Q : Flow → Shared → Prop} {σ : Type} {m₀ : Str → Option Value}
noncomputable def TurnEnd (x : Str) (Led : σ → List (Addr × Obj)) (ps : σ → List (Str × Value)) (Inv : σ → Prop) (m₀ : Str → Option Value) (m' : Str → Option Value) (nx : List (Addr × Obj)) : Prop :=
  ∃ c', nx = Led c' ∧ Inv c' ∧ ∀ z, z ≠ x → m' z = lkp m₀ (ps c') z
noncomputable def TurnsGo (prog : Program) (w : World) (A : Around) (E : Value → Shared → Prop) (s : Shared) (env : Env) (h₀ : Heap) (x : Str) (body : List Stmt) (Q : Flow → Shared → Prop) (m₀ : Str → Option Value) (Led : σ → List (Addr × Obj)) (ps : σ → List (Str × Value)) (Inv : Nat → σ → Prop) (c₀ : σ) (n : Nat) (P : Nat → Value → Prop) : Prop :=
  (∀ i c v h tk own, i < n → P i v → Inv i c → OwnOff own ((Led c₀).map (·.1)) → Fr h₀ env.locals h (fun z => if z = x then some v else lkp m₀ (ps c) z) → News h₀ env.locals h (Led c ++ own) →
      wpAny (model prog w) A (execs body env) (InvPostN h₀ env.locals (TurnEnd x Led ps (Inv (i + 1)) m₀) own ((Led c₀).map (·.1)) { s with heap := h, toks := tk } Q) E { s with heap := h, toks := tk }) ∧
  (∀ c u h tk, Inv n c → Fr h₀ env.locals h (fun z => if z = x then u else lkp m₀ (ps c) z) → News h₀ env.locals h (Led c) → Q .next { s with heap := h, toks := tk })
theorem loop_st {I : Addr} {fp wr : List Addr} {n : Nat} {P : Nat → Value → Prop} {St : Nat → Heap → Prop} (Led : σ → List (Addr × Obj)) (ps : σ → List (Str × Value)) (Inv : Nat → σ → Prop) (c₀ : σ)
    (W : Walks prog w A I fp wr n P St) (hLf : env.locals ∉ fp) (hwr : ∀ b ∈ wr, h₀.get? b = none) (hnw : ∀ p ∈ Led c₀, p.1 ∉ wr) (hfp : ∀ q ∈ Led c₀, q.1 ∉ fp) (hst : St 0 s.heap) (F : Fr h₀ env.locals s.heap m₀) (N : News h₀ env.locals s.heap (Led c₀))
    (h0 : ∀ p ∈ ps c₀, m₀ p.1 = some p.2) (hi : Inv 0 c₀) (T : TurnsGo prog w A E s env h₀ x body Q m₀ Led ps Inv c₀ n P) : LoopAtV prog w A h₀ env x body Q E (.ref I) s := by
  refine loop_invN (fun i m nx => TurnEnd x Led ps (Inv i) m₀ m nx) W hLf hwr hnw hfp hst F N ⟨c₀, rfl, hi, fun z _ => lkp_id h0 z⟩ ?_ ?_
  · rintro i v m₁ nx h tk own hin hP _ hoff ⟨c, rfl, hI, hm⟩ F₁ N₁
    have e : (fun y => if y = x then some v else m₁ y) = fun z => if z = x then some v else lkp m₀ (ps c) z := by
      funext z
      by_cases hz : z = x
      · rw [if_pos hz, if_pos hz]
      · rw [if_neg hz, if_neg hz, hm z hz]
    rw [e] at F₁
    exact T.1 i c v h tk own hin hP hI hoff F₁ N₁
  · rintro m₁ nx h tk ⟨c, rfl, hI, hm⟩ F₁ N₁
    have e : m₁ = fun z => if z = x then m₁ x else lkp m₀ (ps c) z := by
      funext z
      by_cases hz : z = x
      · rw [if_pos hz, hz]
      · rw [if_neg hz, hm z hz]
    rw [e] at F₁
    exact T.2 c _ h tk hI F₁ N₁
theorem turn_end {h' : Heap} {tk : Nat} {L : Addr} {m' : Str → Option Value} {news' own : List (Addr × Obj)} {adr : List Addr} {s₁ : Shared} {Led : σ → List (Addr × Obj)} {ps : σ → List (Str × Value)} {Inv : σ → Prop} (c : σ)
    (F : Fr h₀ L h' m') (N : News h₀ L h' news') (h1 : ∀ p ∈ Led c, p ∈ news') (h2 : ∀ p ∈ own, p ∈ news') (ha : (Led c).map (·.1) = adr) (hi : Inv c) (hm : ∀ z, z ≠ x → m' z = lkp m₀ (ps c) z) :
    InvEndN h₀ L (TurnEnd x Led ps Inv m₀) own adr s₁ { s₁ with heap := h', toks := tk } := ⟨h', tk, m', news', Led c, rfl, F, N, h1, h2, ha, c, rfl, hi, hm⟩
theorem iter_texts {l : Addr} {vs : List Value} {xs : List Str} {k : Nat} {all : List (Addr × Obj)} (Led : σ → List (Addr × Obj)) (ps : σ → List (Str × Value)) (Inv : Nat → σ → Prop) (c₀ : σ)
    (hh : A.handled = none) (F : Fr h₀ env.locals s.heap m₀) (N : News h₀ env.locals s.heap all) (hl : (l, listOf vs.toArray k) ∈ all) (hv : StrsAre vs xs) (hsub : ∀ p ∈ Led c₀, p ∈ all ∧ p.1 ≠ l)
    (h0 : ∀ p ∈ ps c₀, m₀ p.1 = some p.2) (hi : Inv 0 c₀) (T : ∀ g, TurnsGo prog w A E { s with heap := g } env h₀ x body Q m₀ Led ps Inv c₀ xs.length (fun i v => ∃ y t, xs[i]? = some y ∧ v = .str y t)) :
    wpAny (model prog w) A (pyIter (.ref l)) (fun it s₂ => LoopAtV prog w A h₀ env x body Q E it s₂) E s := by
  have hol : s.heap.get? l = some (listOf vs.toArray k) := (N _ hl).1
  have hls : s.heap.IsList l vs.toArray := ⟨_, hol, rfl, k, rfl⟩
  have hne : l ≠ s.heap.objs.size := Nat.ne_of_lt (Heap.lt_size hol)
  refine wpAny_pyIter_list hls ?_
  have W := Walks.list (prog := prog) (w := w) hh s.heap.objs.size l hne vs.toArray
  have hlen : vs.toArray.size = xs.length := by rw [List.size_toArray]; exact strs_len hv
  rw [hlen] at W
  have T' := T (s.heap.push { cls := .type "list_iterator", data := .fields #[.ref l, .int 0 0] })
  refine loop_st Led ps Inv c₀ W ?_ ?_ ?_ ?_ ⟨⟨_, Heap.get?_push_size _ rfl, rfl, rfl⟩, hls.at fun o e => Heap.get?_push_of_some _ e⟩ (F.push _) (fun p hp => ⟨Heap.get?_push_of_some _ (N p (hsub p hp).1).1, (N p (hsub p hp).1).2⟩) h0 hi ⟨?_, T'.2⟩
  · intro hm
    rcases List.mem_cons.mp hm with e | hm
    · exact absurd F.ns.lt (e ▸ Nat.lt_irrefl _)
    · exact (N _ hl).2.1 ((List.mem_singleton.mp hm).symm)
  · intro b hb
    rw [List.mem_singleton.mp hb]
    exact next_is_new F
  · intro p hp hI
    exact absurd (Heap.lt_size (N p (hsub p hp).1).1) ((List.mem_singleton.mp hI) ▸ Nat.lt_irrefl _)
  · intro p hp hI
    rcases List.mem_cons.mp hI with e | hm
    · exact absurd (Heap.lt_size (N p (hsub p hp).1).1) (e ▸ Nat.lt_irrefl _)
    · exact (hsub p hp).2 (List.mem_singleton.mp hm)
  · intro i c v h tk own hin hP
    have hv' : vs[i]? = some v := by simpa using hP
    obtain ⟨t, e⟩ := strs_at hv hv'
    exact T'.1 i c v h tk own hin ⟨_, t, by rw [List.getD_eq_getElem?_getD, List.getElem?_eq_getElem hin]; rfl, e⟩
theorem iter_signs {y : Str} {t : Tok} (Led : σ → List (Addr × Obj)) (ps : σ → List (Str × Value)) (Inv : Nat → σ → Prop) (c₀ : σ)
    (hh : A.handled = none) (F : Fr h₀ env.locals s.heap m₀) (N : News h₀ env.locals s.heap (Led c₀))
    (h0 : ∀ p ∈ ps c₀, m₀ p.1 = some p.2) (hi : Inv 0 c₀) (T : ∀ g, TurnsGo prog w A E { s with heap := g } env h₀ x body Q m₀ Led ps Inv c₀ y.cps.size (SignAt y)) :
    wpAny (model prog w) A (pyIter (.str y t)) (fun it s₂ => LoopAtV prog w A h₀ env x body Q E it s₂) E s := by
  refine wpAny_pyIter_str fun o St hW hst => ?_
  refine loop_st Led ps Inv c₀ (hW A hh) ?_ ?_ ?_ ?_ hst (F.push _) (fun p hp => ⟨Heap.get?_push_of_some _ (N p hp).1, (N p hp).2⟩) h0 hi (T _)
  · intro hm
    exact absurd F.ns.lt ((List.mem_singleton.mp hm) ▸ Nat.lt_irrefl _)
  · intro b hb
    rw [List.mem_singleton.mp hb]
    exact next_is_new F
  · intro p hp hI
    exact absurd (Heap.lt_size (N p hp).1) ((List.mem_singleton.mp hI) ▸ Nat.lt_irrefl _)
  · intro p hp hI
    exact absurd (Heap.lt_size (N p hp).1) ((List.mem_singleton.mp hI) ▸ Nat.lt_irrefl _)
theorem iter_range {r : Addr} {a b : Int} {t u v : Tok} {n : Nat} (Led : σ → List (Addr × Obj)) (ps : σ → List (Str × Value)) (Inv : Nat → σ → Prop) (c₀ : σ)
    (hh : A.handled = none) (hr : IsRange s.heap r a b 1 t u v) (hsmall : Builtin.Range.small a b 1 = true) (hn : Builtin.Range.rangeSize a b 1 = (n : Int)) (F : Fr h₀ env.locals s.heap m₀) (N : News h₀ env.locals s.heap (Led c₀))
    (h0 : ∀ p ∈ ps c₀, m₀ p.1 = some p.2) (hi : Inv 0 c₀) (T : ∀ g, TurnsGo prog w A E { s with heap := g } env h₀ x body Q m₀ Led ps Inv c₀ n (fun i v => ∃ t, v = .int (a + (i : Int)) t)) :
    wpAny (model prog w) A (pyIter (.ref r)) (fun it s₂ => LoopAtV prog w A h₀ env x body Q E it s₂) E s := by
  refine wpAny_pyIter_range hr hsmall ?_
  refine loop_st Led ps Inv c₀ (LCg.range_walks hh a n) ?_ ?_ ?_ ?_ (by show IsRangeIter _ _ _ _ _; rw [hn]; simpa using Heap.get?_push_size _ rfl) (F.push _) (fun p hp => ⟨Heap.get?_push_of_some _ (N p hp).1, (N p hp).2⟩) h0 hi (T _)
  · intro hm
    exact absurd F.ns.lt ((List.mem_singleton.mp hm) ▸ Nat.lt_irrefl _)
  · intro b' hb
    rw [List.mem_singleton.mp hb]
    exact next_is_new F
  · intro p hp hI
    exact absurd (Heap.lt_size (N p hp).1) ((List.mem_singleton.mp hI) ▸ Nat.lt_irrefl _)
  · intro p hp hI
    exact absurd (Heap.lt_size (N p hp).1) ((List.mem_singleton.mp hI) ▸ Nat.lt_irrefl _)
theorem while_st {test : Expr} {pos : Pos} (Led : σ → List (Addr × Obj)) (ps : σ → List (Str × Value)) (Inv : Nat → σ → Prop) (c₀ : σ) (n₀ : Nat) (F : Fr h₀ env.locals s.heap m₀) (N : News h₀ env.locals s.heap (Led c₀))
    (h0 : ∀ p ∈ ps c₀, m₀ p.1 = some p.2) (hi : Inv n₀ c₀)
    (turn : ∀ n c h tk, Inv n c → Fr h₀ env.locals h (lkp m₀ (ps c)) → News h₀ env.locals h (Led c) →
      wpAny (model prog w) A (isTrue test env (eval test env)) (fun b s₂ => if b = true then wpAny (model prog w) A (execs body env) (WhileStep h₀ env.locals s (fun k m nx => ∃ c', nx = Led c' ∧ Inv k c' ∧ ∀ z, m z = lkp m₀ (ps c') z) n) E s₂ else Q .next s₂) E { s with heap := h, toks := tk })
    (hE : PassesOwn (model prog w) A env E := by passes_own) :
    wpAny (model prog w) A (exec (.While test body [] pos) env) Q E s := by
  refine While_inv (fun k m nx => ∃ c', nx = Led c' ∧ Inv k c' ∧ ∀ z, m z = lkp m₀ (ps c') z) F N ⟨c₀, rfl, hi, fun z => lkp_id h0 z⟩ ?_ hE
  rintro n m₁ nx h tk F₁ N₁ ⟨c, rfl, hI, hm⟩
  have e : m₁ = lkp m₀ (ps c) := funext hm
  rw [e] at F₁
  exact turn n c h tk hI F₁ N₁
theorem while_end {h' : Heap} {tk n : Nat} {L : Addr} {m' : Str → Option Value} {news' : List (Addr × Obj)} {s₁ : Shared} {Led : σ → List (Addr × Obj)} {ps : σ → List (Str × Value)} {Inv : Nat → σ → Prop} (c : σ) (k : Nat) (hk : k < n)
    (F : Fr h₀ L h' m') (N : News h₀ L h' news') (h1 : ∀ p ∈ Led c, p ∈ news') (hi : Inv k c) (hm : ∀ z, m' z = lkp m₀ (ps c) z) :
    WhileStep h₀ L s₁ (fun k m nx => ∃ c', nx = Led c' ∧ Inv k c' ∧ ∀ z, m z = lkp m₀ (ps c') z) n .next { s₁ with heap := h', toks := tk } :=
  ⟨rfl, h', tk, m', Led c, k, rfl, F, fun p hp => N p (h1 p hp), hk, c, rfl, hi, hm⟩
end
end Mine
end

section
open PySem PySem.W PyProof.Rows PySem.Calls PySem.Spec
set_option Elab.async false
set_option maxRecDepth 100000
set_option maxHeartbeats 0
namespace Mine
section
variable {prog : Program} {w : World} {A : Around} {h₀ : Heap} {L : Addr} {m : Str → Option Value} {env : Env} {elt : Expr} {x : Str} {scope : Scope} {cl : List (Str × Addr)} {s : Shared} {S : List (Addr × Obj) → Prop} {P : Nat → Value → Prop} {Fin : List Value → List (Addr × Obj) → Prop} {news : List (Addr × Obj)} {α : Type}
noncomputable def ElIs (One : Value → α → Prop) (news : List (Addr × Obj)) (r : α) (y : Value) (news' : List (Addr × Obj)) : Prop := news' = news ∧ One y r
theorem comp_gen {n : Nat} (Are : List Value → List α → Prop) (One : Value → α → Prop) (g : Nat → α) (nil : Are [] []) (snoc : ∀ {vs ys v y}, Are vs ys → One v y → Are (vs ++ [v]) (ys ++ [y]))
    (turn : ∀ (i : Nat) (v : Value) I oI C oC D m₂ ys h tk (E' : Value → Shared → Prop), i < n → P i v → LCg.NsObj oC m₂ → m₂ x = some v → Fr h₀ L h m → News h₀ L h ((I, oI) :: (C, oC) :: (D, LCg.lst ys) :: news) → LCg.Off3 I C D news → ((@Ne Nat I C) ∧ (@Ne Nat I D) ∧ (@Ne Nat C D)) →
      wpAny (model prog w) A (eval elt (compEnvC scope cl C env)) (LCg.CompEnd h₀ L m { s with heap := h, toks := tk } I oI C oC D (LCg.lst ys) S (fun y news' => ElIs One news (g i) y news')) E' { s with heap := h, toks := tk })
    (fin : ∀ ys, Are ys ((List.range n).map g) → Fin ys news) : LCg.CompRest prog w A h₀ L m env elt x scope cl s S P Fin n 0 [] news := by
  have key : ∀ (j i : Nat) (ys : List Value), i + j = n → Are ys ((List.range i).map g) → LCg.CompRest prog w A h₀ L m env elt x scope cl s S P Fin j i ys news := by
    intro j
    induction j with
    | zero =>
      intro i ys hi hy
      have e : i = n := by omega
      subst e
      exact LCg.CompRest.zero (fin ys hy)
    | succ j ih =>
      intro i ys hi hy
      refine LCg.CompRest.succ ?_
      intro v I oI C oC D m₂ h tk E' hv hC hx F N off ne
      refine wpAny_mono (turn i v I oI C oC D m₂ ys h tk E' (by omega) hv hC hx F N off ne) (fun y s₂ hq => ?_) fun _ _ e => e
      obtain ⟨h', tk', nw, e, F', N', off', hS, hn, hy'⟩ := hq
      rw [hn] at N' off' hS
      refine ⟨h', tk', news, e, F', N', off', hS, ?_⟩
      show LCg.CompRest prog w A h₀ L m env elt x scope cl s S P Fin j (i + 1) (ys ++ [y]) news
      refine ih (i + 1) _ (by omega) ?_
      rw [List.range_succ, List.map_append]
      exact snoc hy hy'
  exact key n 0 [] (by omega) nil
noncomputable def OneStr (v : Value) (y : Str) : Prop := ∃ t, v = .str y t
noncomputable def OneInt (v : Value) (y : Int) : Prop := ∃ t, v = .int y t
noncomputable def OneBool (v : Value) (y : Bool) : Prop := v = .bool y
theorem ints_snoc {vs : List Value} {ys : List Int} {v : Value} {y : Int} (h : IntsAre vs ys) (k : OneInt v y) : IntsAre (vs ++ [v]) (ys ++ [y]) := by
  obtain ⟨t, rfl⟩ := k
  exact h.append (.cons y t .nil)
theorem bools_snoc {v : Value} {y : Bool} : ∀ {vs : List Value} {ys : List Bool}, LSm.BoolsAre vs ys → OneBool v y → LSm.BoolsAre (vs ++ [v]) (ys ++ [y])
  | _, _, .nil, k => by
    have e : v = .bool y := k
    subst e
    exact .cons y .nil
  | _, _, .cons b r, k => .cons b (bools_snoc r k)
theorem strs_snoc2 {vs : List Value} {ys : List Str} {v : Value} {y : Str} (h : StrsAre vs ys) (k : OneStr v y) : StrsAre (vs ++ [v]) (ys ++ [y]) := by
  obtain ⟨t, rfl⟩ := k
  exact strs_snoc' h
theorem ints_at {vs : List Value} {ns : List Int} (h : IntsAre vs ns) : ∀ {i : Nat} {v : Value}, vs[i]? = some v → ∃ t, v = .int (ns.getD i 0) t := by
  induction h with
  | nil => intro i v e; simp at e
  | cons y t _ ih =>
    intro i v e
    cases i with
    | zero => simp at e; exact ⟨t, by simp [← e]⟩
    | succ i => simp at e; simpa using ih e
theorem range_getD_int {β : Type} (xs : List Int) (f : Int → β) : (List.range xs.length).map (fun i => f (xs.getD i 0)) = xs.map f := by
  apply List.ext_getElem
  · simp
  · intro i h1 h2
    simp at h1
    simp [List.getD, h1]
theorem comp_ints_over {vs : List Value} {ns : List Int} {β : Type} (Are : List Value → List β → Prop) (One : Value → β → Prop) (f : Int → β) (nil : Are [] []) (snoc : ∀ {vs ys v y}, Are vs ys → One v y → Are (vs ++ [v]) (ys ++ [y])) (hv : IntsAre vs ns)
    (turn : ∀ (k : Int) (t : Tok) I oI C oC D m₂ ys h tk (E' : Value → Shared → Prop), k ∈ ns → LCg.NsObj oC m₂ → m₂ x = some (.int k t) → Fr h₀ L h m → News h₀ L h ((I, oI) :: (C, oC) :: (D, LCg.lst ys) :: news) → LCg.Off3 I C D news → ((@Ne Nat I C) ∧ (@Ne Nat I D) ∧ (@Ne Nat C D)) →
      wpAny (model prog w) A (eval elt (compEnvC scope cl C env)) (LCg.CompEnd h₀ L m { s with heap := h, toks := tk } I oI C oC D (LCg.lst ys) S (fun y' news' => ElIs One news (f k) y' news')) E' { s with heap := h, toks := tk })
    (fin : ∀ ys, Are ys (ns.map f) → Fin ys news) : LCg.CompRest prog w A h₀ L m env elt x scope cl s S (fun i v => vs.toArray[i]? = some v) Fin vs.toArray.size 0 [] news := by
  have hl : vs.toArray.size = ns.length := by rw [List.size_toArray]; exact hv.length
  rw [hl]
  refine comp_gen Are One (fun i => f (ns.getD i 0)) nil snoc (fun i v I oI C oC D m₂ ys h tk E' hi hp hC hx F N off ne => ?_) (fun ys hy => fin ys (by rwa [range_getD_int] at hy))
  obtain ⟨t, rfl⟩ := ints_at hv (by simpa using hp)
  refine turn _ t I oI C oC D m₂ ys h tk E' ?_ hC hx F N off ne
  rw [List.getD_eq_getElem?_getD, List.getElem?_eq_getElem hi]
  simp
end
section
variable {prog : Program} {w : World} {A : Around} {E : Value → Shared → Prop} {s : Shared} {h₀ : Heap} {L : Addr} {m : Str → Option Value} {env : Env}
theorem range_stC {I : Addr} {a c : Int} {n : Nat} : ∀ i (h h' : Heap) (o : Obj) (nw : List (Addr × Obj)), IsRangeIter h I (a + (i : Nat) * c) ((n : Int) - (i : Nat)) c → h.get? I = some o → h'.get? I = some o → (∀ b o, h₀.get? b = some o → h'.get? b = some o) → News h₀ L h' nw → True → IsRangeIter h' I (a + (i : Nat) * c) ((n : Int) - (i : Nat)) c :=
  fun i h h' o nw st e e' _ _ _ => by
    have st' : h.get? I = some _ := st
    show h'.get? I = some _
    rw [e', ← e]; exact st'
noncomputable def SrcC (prog : Program) (w : World) (A : Around) (h₀ : Heap) (L : Addr) (m : Str → Option Value) (env : Env) (elt : Expr) (x : Str) (scope : Scope) (cl : List (Str × Addr)) (Fin : Shared → List Value → List (Addr × Obj) → Prop) (xv : Value) (s₁ : Shared) : Prop :=
  ∃ r a b c t u v n news, xv = .ref r ∧ A.handled = none ∧ Fr h₀ L s₁.heap m ∧ News h₀ L s₁.heap news ∧ IsRange s₁.heap r a b c t u v ∧ Builtin.Range.small a b c = true ∧ Builtin.Range.rangeSize a b c = ((n : Nat) : Int) ∧ n ≤ sizeLine ∧
    ∀ s₂ : Shared, (∃ h, s₂ = { s₁ with heap := h }) → LCg.CompRest prog w A h₀ L m env elt x scope cl s₂ (fun _ => True) (fun i v => ∃ t, v = .int (a + (i : Int) * c) t) (Fin s₂) n 0 [] news
theorem Assign_ListComp_C {elt iter : Expr} {x y : Str} {px py : Pos} {scope : Scope} {cl : List (Str × Addr)} {pos spos : Pos} {Q : Flow → Shared → Prop} (_F₀ : Fr h₀ L s.heap m) (hLe : env.locals = L)
    (hsw : swapsWith (.ListComp elt [⟨.Name x px, iter, [], 0⟩] scope pos) (some (.Name y py)) spos.line env = pure true)
    (hclos : closureFor scope env = pure cl) (hcell : ∀ z ∈ scope.names, z.2 ≠ .cell) (hkind : scope.kind = .function)
    (hnames : ∀ z ∈ scope.names, z.2 = .local → scope.names.lookup z.1 = some .local) (hx : scope.names.lookup x = some .local)
    (hy : env.kindOf y = some .local) (hp : (env.scope.kind == .class || (env.scope.kind == .module && env.locals != env.globals)) = false)
    (h : wpAny (model prog w) A (eval iter env) (SrcC prog w A h₀ L m env elt x scope cl (fun s₂ => LCg.FinA h₀ L m s₂ y Q)) E s)
    (hs : ∀ x, foldedSetIterable iter env x = pure x := by intro _; rfl) :
    wpAny (model prog w) A (exec (.Assign [.Name y py] (.ListComp elt [⟨.Name x px, iter, [], 0⟩] scope pos) spos) env) Q E s := by
  subst hLe
  rw [exec_Assign_Name_used _ _ _ _ hsw]
  refine wpAny_bind (wpAny_standAt (wpAny_bind ?_))
  show wpAny _ A (do let _ ← comprehension (.ListComp elt [⟨.Name x px, iter, [], 0⟩] scope pos) scope env _ (newList []) false (eval iter env) (some (assign (.Name y py) env))) _ _ s
  refine wpAny_bind (wpAny_mono (wpAny_comprehension_free (use := some (assign (.Name y py) env)) (Q := fun _ s' => Q .next s') rfl hs hclos hkind hnames
    (wpAny_mono h (fun xv s₁ h₁ => ?_) fun _ _ e => e)) (fun _ s' hq => wpAny_pure (wpAny_pure hq)) fun _ _ e => e)
  obtain ⟨r, a, b, c, t, u, v, n, news, rfl, hh, F, N, hr, hsm, hn, hsz, R⟩ := h₁
  refine wpAny_pyIter_range hr hsm ?_
  refine LCg.block_U (Walks.range hh s₁.heap.objs.size a c n) hsz (fun i h st => ⟨_, st⟩) range_stC hcell hkind hx (by show IsRangeIter _ _ _ _ _; rw [hn]; simpa using Heap.get?_push_size _ rfl) (fun b hb => ?_)
    (F.keeps fun _ _ e => Heap.get?_push_of_some _ e) (N.grown fun _ _ e => Heap.get?_push_of_some _ e) (Nat.ne_of_lt F.ns.lt) (next_is_new F) (fun p hp => Nat.ne_of_lt (Heap.lt_size (N p hp).1)) trivial (R _ ⟨_, rfl⟩) ?_
  · rw [List.mem_singleton.mp hb]
    show s₁.heap.objs.size < (s₁.heap.push _).objs.size
    rw [Heap.size_push]; exact Nat.lt_succ_self _
  · intro D C h' tk m' ys news' F' N' o1 hn' hC₀ hD₀ hCL hDL hCD offC fin
    show wpAny _ A (assign (.Name y py) env (.ref D)) _ _ _
    refine wpAny_assign_Name (wpAny_storeName_local hy F'.ns (fun h₂ hn₂ hs₂ => ?_) hp)
    have hL₀ : h₀.get? env.locals = none := Heap.get?_none_of_le F'.above
    have F₂ : Fr h₀ env.locals h₂ (fun z => if z = y then some (.ref D) else m z) := ⟨hn₂, fun b o e => hs₂.extBut b o (fun q => by rw [q, hL₀] at e; cases e) (F'.keep b o e), F'.above⟩
    refine ⟨m', hn'.sameBut hs₂ hCL, fun h'' hs'' => fin D h'' _ (F₂.change hs'' hCL hC₀) (fun p hp => ?_) o1⟩
    have z : h₂.get? p.1 = some p.2 := hs₂.extBut _ _ (N' p hp).2.1 (N' p hp).1
    refine ⟨hs''.extBut _ _ ?_ z, (N' p hp).2⟩
    rcases List.mem_cons.mp hp with rfl | hp
    · exact Ne.symm hCD
    · exact offC p hp
end
end Mine
end

section
open PySem PySem.W PyProof.Rows PySem.Calls PySem.Spec
set_option Elab.async false
set_option maxRecDepth 100000
set_option maxHeartbeats 0
namespace Mine
theorem topOffC1 : True := by
  w_top off
  trivial
noncomputable def good (c : Int) : Bool := decide (0 ≤ c ∧ c ≤ 1114111) && !decide (55296 ≤ c ∧ c ≤ 57343)
theorem c_is_sign_code (w : World) (code : Int) (t : Tok) : CallsTo 2 w 108 [.int code t] [] (PVal fun _ => .bool (good code)) := by
  dsimp only [CallsTo, CallsIn, PRG, LOOSE, CAround]
  k_fill
  intro mean mg mb dp un gd cn cs a ccd cl outer A₀ base h₀ L m s Q E B₀ F₀ X₀ N₀ T₀ hk₀ hd₀ hu₀ hret
  refine wpAny_call ?_
  k_dflt (refine' enter ?k1 ?k2 ?k3 ?k4 ?k5 ?kA ?kF ?kK ?k6 ?k7 ?k8 ?k9 ?kB ?_ ?c2 ?c3 ?c4 ?c5; (case kA => exact rfl); (case kF => exact rfl); (case kK => assumption); (case k1 => k_asm); (case k2 => k_asm); (case k3 => k_asm); (case k4 => k_asm); (case k5 => k_asm); (case k6 => k_is); (case k7 => k_is); (case k8 => ktr_room); (case k9 => exact BindsTo.of_eq rfl); (case c5 => decide); (case kB => exact locs rfl); (case c2 => exact rfl); (case c3 => exact rfl); (case c4 => exact rfl); k_whole; intro g' L' h' G1' G2' F' N' B' X' T'; (try dsimp only); (try k_fold))
  k_steps
  all_goals (refine end_val (s := s) (Q := Q) hret G1' (by k_asm) 0 ?_; refine congrArg Value.bool ?_; rw [Bool.eq_iff_iff]; simp only [good, Bool.and_eq_true, Bool.not_eq_true', decide_eq_true_eq, decide_eq_false_iff_not]; omega)
theorem c_law_good (w : World) (hd : Option Value) (code : Int) (t : Tok) : CallsIn 2 hd w 207 [.int code t] [] (PVal fun _ => .bool (good code)) := by
  dsimp only [CallsTo, CallsIn, PRG, LOOSE, CAround]
  k_fill
  intro mean mg mb dp un gd cn cs a ccd cl outer A₀ base h₀ L m s Q E B₀ F₀ X₀ N₀ T₀ hk₀ hd₀ hu₀ hret
  refine wpAny_call ?_
  k_dflt (refine' enter ?k1 ?k2 ?k3 ?k4 ?k5 ?kA ?kF ?kK ?k6 ?k7 ?k8 ?k9 ?kB ?_ ?c2 ?c3 ?c4 ?c5; (case kA => exact rfl); (case kF => exact rfl); (case kK => assumption); (case k1 => k_asm); (case k2 => k_asm); (case k3 => k_asm); (case k4 => k_asm); (case k5 => k_asm); (case k6 => k_is); (case k7 => k_is); (case k8 => ktr_room); (case k9 => exact BindsTo.of_eq rfl); (case c5 => decide); (case kB => exact locs rfl); (case c2 => exact rfl); (case c3 => exact rfl); (case c4 => exact rfl); k_whole; intro g' L' h' G1' G2' F' N' B' X' T'; (try dsimp only); (try k_fold))
  k_steps
  all_goals (refine end_val (s := s) (Q := Q) hret G1' (by k_asm) 0 ?_; refine congrArg Value.bool ?_; (rw [Bool.eq_iff_iff]; simp only [good, Bool.and_eq_true, Bool.not_eq_true', decide_eq_true_eq, decide_eq_false_iff_not]); omega)
end Mine
end

section
open PySem PySem.W PyProof.Rows PySem.Calls PySem.Spec
set_option Elab.async false
set_option maxRecDepth 100000
set_option maxHeartbeats 0
namespace Mine
theorem topOffC3 : True := by
  w_top off
  trivial
theorem c_ascii_names (w : World) : CallsTo 2 w 70 [] [] (PTexts asciiN) := by
  dsimp only [CallsTo, CallsIn, PRG, LOOSE, CAround]
  k_fill
  intro mean mg mb dp un gd cn cs a ccd cl outer A₀ base h₀ L m s Q E B₀ F₀ X₀ N₀ T₀ hk₀ hd₀ hu₀ hret
  refine wpAny_call ?_
  k_dflt (refine' enter ?k1 ?k2 ?k3 ?k4 ?k5 ?kA ?kF ?kK ?k6 ?k7 ?k8 ?k9 ?kB ?_ ?c2 ?c3 ?c4 ?c5; (case kA => exact rfl); (case kF => exact rfl); (case kK => assumption); (case k1 => k_asm); (case k2 => k_asm); (case k3 => k_asm); (case k4 => k_asm); (case k5 => k_asm); (case k6 => k_is); (case k7 => k_is); (case k8 => ktr_room); (case k9 => exact BindsTo.of_eq rfl); (case c5 => decide); (case kB => exact locs rfl); (case c2 => exact rfl); (case c3 => exact rfl); (case c4 => exact rfl); k_whole; intro g' L' h' G1' G2' F' N' B' X' T'; (try dsimp only); (try k_fold))
  k_with_none
  k_with "call builtin:str.split" => (k_here; (with_reducible show wpAny _ _ (call (Value.builtin "str.split") _) _ _ _); (first | (with_reducible refine split_words low_words low_len (by k_asm) (by k_asm) ?_) | (with_reducible refine split_words mid_words mid_len (by k_asm) (by k_asm) ?_) | (with_reducible refine split_words high_words high_len (by k_asm) (by k_asm) ?_) | (with_reducible refine split_words lat_words lat_len (by k_asm) (by k_asm) ?_)); intro D' vs' h' k' a' F' N' l1; (try k_lt l1))
  k_with "CompSrc" => (k_here; k_dflt (refine LCg.CompSrc.range (by rfl) (by k_asm) (by k_asm) (by assumption) (by first | decide | rfl) (by first | rfl | decide) (by first | size_fits | exact Nat.le_of_ble_eq_true rfl) ?_; intro g'; refine' comp_range chrS (fun k' t' I' oI' C' oC' D' m' ys' h' tk' E' hlo' hhi' hC' hx' F' N' off' ne' => ?_) (fun ys' hy' => ?_); (all_goals (try (simp only [LCg.Off3, and_true] at off')))))
  k_with "binaryOp Add ref ref" => (k_here; (with_reducible show wpAny _ _ (binaryOp _ (Value.ref _) (Value.ref _)) _ _ _); k_dflt (refine' add_strs (by k_asm) (by k_asm) (by kmk_list) (by kmk_list) (by first | with_reducible assumption | exact .cons _ _ .nil) (by first | with_reducible assumption | exact .cons _ _ .nil) (by first | exact Nat.le_of_ble_eq_true (by decide +kernel) | skip) ?_); intro D' us' h' F' N' hU' l1; (try k_lt l1))
  k_steps
  · exact ⟨rfl, _, rfl⟩
  · exact ⟨rfl, _, rfl⟩
  · dsimp only
    refine end_texts (s := s) (Q := Q) hret G1' (by k_asm) (by k_asm) (by k_mem) (strs_castE (by assumption) ?_)
    decide +kernel
end Mine
end

section
open PySem PySem.W PyProof.Rows PySem.Calls PySem.Spec
set_option Elab.async false
set_option maxRecDepth 100000
set_option maxHeartbeats 0
namespace Mine
theorem topOffC4 : True := by
  w_top off
  trivial
theorem lat_short : ∀ x ∈ (latinW.drop 31).take (62 - 31), x.length ≤ 30 := by decide +kernel
theorem c_latin_names (w : World) : CallsTo 2 w 75 [] [] (PTexts latinN) := by
  dsimp only [CallsTo, CallsIn, PRG, LOOSE, CAround]
  k_fill
  intro mean mg mb dp un gd cn cs a ccd cl outer A₀ base h₀ L m s Q E B₀ F₀ X₀ N₀ T₀ hk₀ hd₀ hu₀ hret
  refine wpAny_call ?_
  k_dflt (refine' enter ?k1 ?k2 ?k3 ?k4 ?k5 ?kA ?kF ?kK ?k6 ?k7 ?k8 ?k9 ?kB ?_ ?c2 ?c3 ?c4 ?c5; (case kA => exact rfl); (case kF => exact rfl); (case kK => assumption); (case k1 => k_asm); (case k2 => k_asm); (case k3 => k_asm); (case k4 => k_asm); (case k5 => k_asm); (case k6 => k_is); (case k7 => k_is); (case k8 => ktr_room); (case k9 => exact BindsTo.of_eq rfl); (case c5 => decide); (case kB => exact locs rfl); (case c2 => exact rfl); (case c3 => exact rfl); (case c4 => exact rfl); k_whole; intro g' L' h' G1' G2' F' N' B' X' T'; (try dsimp only); (try k_fold))
  k_with_none
  k_with "call builtin:str.split" => (k_here; (with_reducible show wpAny _ _ (call (Value.builtin "str.split") _) _ _ _); (first | (with_reducible refine split_words low_words low_len (by k_asm) (by k_asm) ?_) | (with_reducible refine split_words mid_words mid_len (by k_asm) (by k_asm) ?_) | (with_reducible refine split_words high_words high_len (by k_asm) (by k_asm) ?_) | (with_reducible refine split_words lat_words lat_len (by k_asm) (by k_asm) ?_)); intro D' vs' h' k' a' F' N' l1; (try k_lt l1))
  k_with "subscriptTail Name Slice ref ref" => (k_here; (with_reducible show wpAny _ _ (subscriptTail _ (PySem.Expr.Slice _ _ none _) (Value.ref _) (Value.ref _)) _ _ _); k_dflt (refine' slice_strs _ _ (by k_asm) (by k_asm) (by kmk_list) (by kmk_part) (by kmk_part) (by assumption) (by rfl) ?_ (by with_unfolding_all rfl) (by kmk_pure) (by kmk_size)); intro D' ws' h' F' N' hS' l1; (try k_lt l1))
  k_with "binaryOp Add ref ref" => (k_here; (with_reducible show wpAny _ _ (binaryOp _ (Value.ref _) (Value.ref _)) _ _ _); k_dflt (refine' add_strs (by k_asm) (by k_asm) (by kmk_list) (by kmk_list) (by first | with_reducible assumption | exact .cons _ _ .nil) (by first | with_reducible assumption | exact .cons _ _ .nil) (by first | exact Nat.le_of_ble_eq_true (by decide +kernel) | skip) ?_); intro D' us' h' F' N' hU' l1; (try k_lt l1))
  k_with "exec Assign cons ListComp" => (k_here; k_dflt (refine LCg.Assign_ListComp_U (F₀ := by k_asm) (by rfl) (by with_unfolding_all rfl) (by with_unfolding_all rfl) (by decide) (by rfl) (by decide) (by rfl) (by rfl) (by rfl) ?_))
  k_with "setItem ref int str" => (k_here; (with_reducible show wpAny _ _ (setItem (Value.ref _) (Value.int _ _) (Value.str _ _)) _ _ _); k_dflt (refine' set_strs (n := _) (by k_asm) (by k_asm) (by k_upd) (by assumption) (by first | omega | decide) (by first | omega | decide +kernel) (by first | omega | decide) ?_); intro h' F' N' hU')
  k_with "CompSrc" => (k_here; k_dflt (refine LCg.CompSrc.ledger (by rfl) (by k_asm) (by k_asm) (by k_mem) (by rw [List.size_toArray, strs_len (by with_reducible assumption)]; exact Nat.le_of_ble_eq_true rfl) ?_; intro g'; refine' comp_texts Txt.lower (by with_reducible assumption) (fun y' t' I' oI' C' oC' D' m' ys' h' tk' E' hy' hC' hx' F' N' off' ne' => ?_) (fun ys' hy' => ?_); (all_goals (try (simp only [LCg.Off3, and_true] at off')))))
  k_with "call builtin:str.lower" => (k_here; (with_reducible refine SCL.lower (Nat.le_trans (lat_short _ (by assumption)) (by decide)) ?_); intro _)
  k_steps
  · exact ⟨rfl, _, rfl⟩
  · dsimp only
    refine end_texts (s := s) (Q := Q) hret G1' (by k_asm) (by k_asm) (by k_mem) (strs_castE (by assumption) ?_)
    rw [show (62 - 31 : Nat) = 31 from rfl, lower_lat]
    decide +kernel
end Mine
end

section
open PySem PySem.W PyProof.Rows PySem.Calls PySem.Spec
set_option Elab.async false
set_option maxRecDepth 100000
set_option maxHeartbeats 0
namespace Mine
theorem topOffHX : True := by
  w_top off
  trivial
open PySem.Builtin.Str
noncomputable def hexDig (c : Nat) : Option Nat := if 48 ≤ c ∧ c ≤ 57 then some (c - 48) else if 65 ≤ c ∧ c ≤ 70 then some (c - 55) else none
noncomputable def hexAcc : List Nat → Int → Int
  | [], w => w
  | c :: r, w => match hexDig c with
    | some d => hexAcc r (16 * w + d)
    | none => -1
noncomputable def hexNum (x : Str) : Int := hexAcc x.cps.toList 0
noncomputable def hexS : Str := ⟨#[48, 49, 50, 51, 52, 53, 54, 55, 56, 57, 65, 66, 67, 68, 69, 70]⟩
theorem hexS_lit : Str.ofString "0123456789ABCDEF" = hexS := lit_eq ['0', '1', '2', '3', '4', '5', '6', '7', '8', '9', 'A', 'B', 'C', 'D', 'E', 'F'] _ (by decide +kernel)
theorem hexDig_lt {c d : Nat} (h : hexDig c = some d) : d < 16 ∧ c < 71 := by
  unfold hexDig at h
  split at h
  · cases h; omega
  · split at h
    · cases h; omega
    · cases h
theorem hex_mem_lt : (List.range 71).all (fun c => decide (c ∈ hexS.cps.toList) == (hexDig c).isSome) = true := by decide +kernel
theorem hex_small : hexS.cps.toList.all (fun x => Nat.blt x 71) = true := by decide +kernel
theorem hex_mem (c : Nat) : decide (c ∈ hexS.cps.toList) = (hexDig c).isSome := by
  by_cases h : c < 71
  · exact beq_iff_eq.mp (List.all_eq_true.mp hex_mem_lt c (List.mem_range.mpr h))
  · have h1 : hexDig c = none := by
      cases e : hexDig c with
      | none => rfl
      | some d => exact absurd (hexDig_lt e).2 h
    rw [h1]
    exact decide_eq_false fun hm => h (Nat.le_of_ble_eq_true (List.all_eq_true.mp hex_small c hm))
theorem hex_occ_all : (List.range 71).all (fun c => match hexDig c with | some d => occurrences hexS ⟨#[c]⟩ 0 hexS.length 1 == [d] | none => true) = true := by decide +kernel
theorem hex_occ {c d : Nat} (h : hexDig c = some d) : occurrences hexS ⟨#[c]⟩ 0 hexS.length 1 = d :: [] := by
  have := List.all_eq_true.mp hex_occ_all c (by simpa using (hexDig_lt h).2)
  rw [h] at this
  exact beq_iff_eq.mp this
section
variable {prog : Program} {w : World} {A : Around} {E : Value → Shared → Prop} {s : Shared} {Q : Value → Shared → Prop} {c : Nat} {t u : Tok}
theorem hex_notin (h : Q (.bool (hexDig c).isNone) s) : wpAny (model prog w) A (compareOp .NotIn (.str ⟨#[c]⟩ u) (.str (Str.ofString "0123456789ABCDEF") t)) Q E s := by
  rw [hexS_lit]
  refine notIn_str ?_
  rw [StrLaws.found_one, hex_mem]
  rw [show (!(hexDig c).isSome) = (hexDig c).isNone by cases hexDig c <;> rfl]
  exact h
theorem hex_notin_none (e : hexDig c = none) (h : Q (.bool true) s) : wpAny (model prog w) A (compareOp .NotIn (.str ⟨#[c]⟩ u) (.str (Str.ofString "0123456789ABCDEF") t)) Q E s := hex_notin (by rw [e]; exact h)
theorem hex_notin_some {d : Nat} (e : hexDig c = some d) (h : Q (.bool false) s) : wpAny (model prog w) A (compareOp .NotIn (.str ⟨#[c]⟩ u) (.str (Str.ofString "0123456789ABCDEF") t)) Q E s := hex_notin (by rw [e]; exact h)
theorem hex_index {d : Nat} (e : hexDig c = some d) (h : Q (.int d s.toks) { s with toks := s.toks + 1 }) : wpAny (model prog w) A (call (.builtin "str.index") [.str (Str.ofString "0123456789ABCDEF") t, .str ⟨#[c]⟩ u]) Q E s := by
  rw [hexS_lit]
  exact SC.index (hex_occ e) h
end
theorem hex_drop {x : Str} {i ch : Nat} (h : x.cps[i]? = some ch) : x.cps.toList.drop i = ch :: x.cps.toList.drop (i + 1) := by
  have h' : x.cps.toList[i]? = some ch := by rw [Array.getElem?_toList]; exact h
  obtain ⟨hi, e⟩ := List.getElem?_eq_some_iff.mp h'
  rw [List.drop_eq_getElem_cons hi, e]
theorem hex_none {x : Str} {i ch : Nat} {w : Int} (h : x.cps[i]? = some ch) (e : hexDig ch = none) (k : hexAcc (x.cps.toList.drop i) w = hexNum x) : -1 = hexNum x := by
  rw [hex_drop h] at k
  simp only [hexAcc, e] at k
  exact k
theorem hex_some {x : Str} {i ch d : Nat} {w : Int} (h : x.cps[i]? = some ch) (e : hexDig ch = some d) (k : hexAcc (x.cps.toList.drop i) w = hexNum x) : hexAcc (x.cps.toList.drop (i + 1)) (16 * w + d) = hexNum x := by
  rw [hex_drop h] at k
  simp only [hexAcc, e] at k
  exact k
theorem hex_done {x : Str} {w : Int} (k : hexAcc (x.cps.toList.drop x.cps.size) w = hexNum x) : w = hexNum x := by
  rw [List.drop_eq_nil_of_le (by simp)] at k
  exact k
theorem c_hex_number (w : World) (x : Str) (t : Tok) : CallsTo 2 w 94 [.str x t] [] (PVal fun t => .int (hexNum x) t) := by
  dsimp only [CallsTo, CallsIn, PRG, LOOSE, CAround]
  k_fill
  intro mean mg mb dp un gd cn cs a ccd cl outer A₀ base h₀ L m s Q E B₀ F₀ X₀ N₀ T₀ hk₀ hd₀ hu₀ hret
  refine wpAny_call ?_
  k_dflt (refine' enter ?k1 ?k2 ?k3 ?k4 ?k5 ?kA ?kF ?kK ?k6 ?k7 ?k8 ?k9 ?kB ?_ ?c2 ?c3 ?c4 ?c5; (case kA => exact rfl); (case kF => exact rfl); (case kK => assumption); (case k1 => k_asm); (case k2 => k_asm); (case k3 => k_asm); (case k4 => k_asm); (case k5 => k_asm); (case k6 => k_is); (case k7 => k_is); (case k8 => ktr_room); (case k9 => exact BindsTo.of_eq rfl); (case c5 => decide); (case kB => exact locs rfl); (case c2 => exact rfl); (case c3 => exact rfl); (case c4 => exact rfl); k_whole; intro g' L' h' G1' G2' F' N' B' X' T'; (try dsimp only); (try k_fold))
  k_with_none
  k_with "exec For Name Name cons nil" => (k_here; k_dflt (refine' For_invVF (by k_asm) (by exact rfl) (by exact rfl) ?_))
  k_with "exec For Name Call cons nil" => (k_here; k_dflt (refine' For_invVF (by k_asm) (by exact rfl) (by exact rfl) ?_))
  k_with "pyIter str" => (k_here; (with_reducible show wpAny _ _ (pyIter (Value.str _ _)) _ _ _); (rename Fr _ _ _ _ => lF'); (rename News _ _ _ _ => lN'); k_dflt (refine' iter_signs (σ := Int × Tok) (fun _ => []) (fun c => [(Str.ofString "worth", .int c.1 c.2)]) (fun i c => 0 ≤ c.1 ∧ c.1 < 16 ^ i ∧ hexAcc (x.cps.toList.drop i) c.1 = hexNum x) (0, _) rfl lF' lN' (List.forall_mem_cons.mpr ⟨if_pos rfl, List.forall_mem_nil _⟩) ⟨Int.le_refl 0, (by show (0 : Int) < 16 ^ 0; decide), rfl⟩ (fun gg => ⟨?turn, ?done⟩)); (case' turn => clear lF' lN'; rintro i ⟨wv, wt⟩ v hh tk own hi ⟨ch, u, hch, rfl⟩ ⟨hI1, hI2, hI3⟩ hoff F' N'; simp only [lkp] at F'; dsimp only [List.map_nil, List.nil_append] at hI1 hI2 hI3 hoff N'; (rcases hd : hexDig ch with _ | d)); (case' done => clear lF' lN'; rintro ⟨wv, wt⟩ u hh tk ⟨hI1, hI2, hI3⟩ F' N'; simp only [lkp] at F'; dsimp only at hI1 hI2 hI3 N'))
  k_with "compareOp NotIn str str" => (k_here; first | (with_reducible refine hex_notin_none (by assumption) ?_) | (with_reducible refine hex_notin_some (by assumption) ?_))
  k_with "call builtin:str.index" => (k_here; with_reducible refine hex_index (by assumption) ?_)
  k_steps
  · dsimp only
    k_steps
    exact end_val (s := s) (Q := Q) hret G1' (by k_asm) _ (by rw [hex_done hI3])
  · exact end_val (s := s) (Q := Q) hret G1' (by k_asm) _ (by rw [← hex_none hch hd hI3])
  · exact turn_end (16 * wv + d, _) (by k_asm) (by k_asm) (by intro p hp; cases hp) (fun _ hp => hp) rfl ⟨by omega, by have := (hexDig_lt hd).1; rw [Int.pow_succ]; omega, hex_some hch hd hI3⟩ (by intro z hz; by_cases h1 : z = Str.ofString "worth" <;> first | exact (if_pos h1).trans (if_pos h1).symm | (simp only [lkp, if_neg h1, if_neg hz]))
end Mine
end

section
open PySem PySem.W PyProof.Rows PySem.Calls PySem.Spec
set_option Elab.async false
set_option maxRecDepth 100000
set_option maxHeartbeats 0
namespace Mine
theorem topOffHF : True := by
  w_top off
  trivial
open PySem.Builtin.Str
noncomputable def hexC (d : Nat) : Nat := if d < 10 then 48 + d else 55 + d
noncomputable def figs : Nat → Nat → List Nat → List Nat
  | 0, _, l => l
  | f + 1, w, l => if 0 < w ∨ l.length < 4 then figs f (w / 16) (hexC (w % 16) :: l) else l
theorem hexC_item : (List.range 16).all (fun d => Txt.item hexS (d : Int) == ⟨#[hexC d]⟩) = true := by decide +kernel
section
variable {prog : Program} {w : World} {A : Around} {E : Value → Shared → Prop} {s : Shared} {Q : Value → Shared → Prop} {t u : Tok}
theorem hex_item {i : Int} {value slice : PySem.Expr} (h0 : 0 ≤ i) (h1 : i < 16) (h : Q (.str ⟨#[hexC i.toNat]⟩ s.toks) { s with toks := s.toks + 1 })
    (hs : subscripted slice false (.str (Str.ofString "0123456789ABCDEF") t) (.int i u) = operate [.str (Str.ofString "0123456789ABCDEF") t, .int i u] (getItem (.str (Str.ofString "0123456789ABCDEF") t) (.int i u)) := by with_unfolding_all rfl)
    (ht : ∀ r, letTemporaryGo value (.str (Str.ofString "0123456789ABCDEF") t) r = pure () := by intro _; with_unfolding_all rfl) :
    wpAny (model prog w) A (subscriptTail value slice (.str (Str.ofString "0123456789ABCDEF") t) (.int i u)) Q E s := by
  rw [hexS_lit] at hs ht ⊢
  refine KXi.item (n := 16) rfl (by omega) (by omega) (by decide) (fun _ => ?_) hs ht
  have := List.all_eq_true.mp hexC_item i.toNat (by simp; omega)
  rw [beq_iff_eq, Int.toNat_of_nonneg h0] at this
  rw [this]
  exact h
end
theorem hexC_at (wn : Nat) : Txt.item (Str.ofString "0123456789ABCDEF") ((wn : Int).fmod 16) = ⟨#[hexC (wn % 16)]⟩ := by
  have := List.all_eq_true.mp hexC_item (wn % 16) (by simp; omega)
  rw [beq_iff_eq] at this
  rw [hexS_lit, ← this, Int.fmod_eq_emod_of_nonneg _ (by decide : (0 : Int) ≤ 16)]
  congr 1
theorem fig_step {k wn : Nat} {sg : Str} {R : List Nat} (h : 0 < wn ∨ sg.length < 4) (h1 : figs k wn sg.cps.toList = R) (h2 : wn < 16 ^ k) (h3 : sg.length + k = 8) :
    ∃ k', k' < k ∧ ((wn : Int).fdiv 16 = ((wn / 16 : Nat) : Int)) ∧ figs k' (wn / 16) (Txt.item (Str.ofString "0123456789ABCDEF") ((wn : Int).fmod 16) ++ sg).cps.toList = R ∧ wn / 16 < 16 ^ k' ∧ (Txt.item (Str.ofString "0123456789ABCDEF") ((wn : Int).fmod 16) ++ sg).length + k' = 8 := by
  cases k with
  | zero => simp at h2; omega
  | succ k =>
    refine ⟨k, Nat.lt_succ_self k, by rw [Int.fdiv_eq_ediv_of_nonneg _ (by decide : (0 : Int) ≤ 16)]; rfl, ?_, ?_, ?_⟩
    · rw [hexC_at]
      have hl : sg.cps.toList.length = sg.length := by simp [Str.length]
      simp only [figs, hl, if_pos h] at h1
      simpa [Str.cps_append] using h1
    · rw [Nat.pow_succ] at h2; omega
    · rw [hexC_at]
      simp only [Str.length, Str.cps_append, Array.size_append] at h3 ⊢
      simp; omega
theorem fig_end {k wn : Nat} {sg : Str} {R : List Nat} (h : ¬ 0 < wn) (h' : ¬ sg.length < 4) (h1 : figs k wn sg.cps.toList = R) : sg = ⟨(R).toArray⟩ := by
  have hl : sg.cps.toList.length = sg.length := by simp [Str.length]
  have e : figs k wn sg.cps.toList = sg.cps.toList := by
    cases k with
    | zero => rfl
    | succ k => simp only [figs, hl]; rw [if_neg (by omega)]
  rw [← h1, e]
theorem c_hex_figures (w : World) (n : Nat) (t u : Tok) (hn : n < 16 ^ 8) : CallsTo 2 w 101 [.int n t, .int 4 u] [] (PVal fun t => .str ⟨(figs 8 n []).toArray⟩ t) := by
  dsimp only [CallsTo, CallsIn, PRG, LOOSE, CAround]
  k_fill
  intro mean mg mb dp un gd cn cs a ccd cl outer A₀ base h₀ L m s Q E B₀ F₀ X₀ N₀ T₀ hk₀ hd₀ hu₀ hret
  refine wpAny_call ?_
  k_dflt (refine' enter ?k1 ?k2 ?k3 ?k4 ?k5 ?kA ?kF ?kK ?k6 ?k7 ?k8 ?k9 ?kB ?_ ?c2 ?c3 ?c4 ?c5; (case kA => exact rfl); (case kF => exact rfl); (case kK => assumption); (case k1 => k_asm); (case k2 => k_asm); (case k3 => k_asm); (case k4 => k_asm); (case k5 => k_asm); (case k6 => k_is); (case k7 => k_is); (case k8 => ktr_room); (case k9 => exact BindsTo.of_eq rfl); (case c5 => decide); (case kB => exact locs rfl); (case c2 => exact rfl); (case c3 => exact rfl); (case c4 => exact rfl); k_whole; intro g' L' h' G1' G2' F' N' B' X' T'; (try dsimp only); (try k_fold))
  k_with_none
  k_with "exec While BoolOp cons nil" => (k_here; (rename Fr _ _ _ _ => lF'); (rename News _ _ _ _ => lN'); k_dflt (refine' while_st (σ := Str × Int × Tok × Tok) (fun _ => []) (fun c => [(Str.ofString "signs", .str c.1 c.2.2.1), (Str.ofString "worth", .int c.2.1 c.2.2.2)]) (fun k c => ∃ wn : Nat, c.2.1 = wn ∧ figs k wn c.1.cps.toList = figs 8 n [] ∧ wn < 16 ^ k ∧ c.1.length + k = 8) (Str.ofString "", (n : Int), _, t) 8 lF' lN' (List.forall_mem_cons.mpr ⟨if_pos rfl, List.forall_mem_cons.mpr ⟨by with_unfolding_all rfl, List.forall_mem_nil _⟩⟩) ⟨n, rfl, rfl, hn, rfl⟩ ?turn); (case' turn => clear lF' lN'; rintro k ⟨sg, wi, st, wt⟩ hh tk ⟨wn, hw, hI1, hI2, hI3⟩ F' N'; dsimp only at hw hI1 hI2 hI3; subst hw; simp only [lkp] at F'))
  k_steps
  · obtain ⟨k', hk, hw, e1, e2, e3⟩ := fig_step (.inl (by omega)) hI1 hI2 hI3
    exact while_end (_, _, _, _) k' hk (by k_asm) (by k_asm) (by intro p hp; cases hp) ⟨_, hw, e1, e2, e3⟩ (by intro z; by_cases h1 : z = Str.ofString "worth" <;> by_cases h2 : z = Str.ofString "signs" <;> simp only [lkp, h1, h2, if_true, if_false] <;> rfl)
  · obtain ⟨k', hk, hw, e1, e2, e3⟩ := fig_step (.inr (by omega)) hI1 hI2 hI3
    exact while_end (_, _, _, _) k' hk (by k_asm) (by k_asm) (by intro p hp; cases hp) ⟨_, hw, e1, e2, e3⟩ (by intro z; by_cases h1 : z = Str.ofString "worth" <;> by_cases h2 : z = Str.ofString "signs" <;> simp only [lkp, h1, h2, if_true, if_false] <;> rfl)
  · exact end_val (s := s) (Q := Q) hret G1' (by k_asm) _ (by rw [fig_end (by omega) (by omega) hI1])
end Mine
end

section
open PySem PySem.W PyProof.Rows PySem.Calls PySem.Spec
set_option Elab.async false
set_option maxRecDepth 100000
set_option maxHeartbeats 0
namespace Mine
theorem topOffKC : True := by
  w_top off
  trivial
noncomputable def otherAt (x : Str) : Option Int := otherN.lookup x
noncomputable def knownC (x : Str) : Int := match otherAt x with
  | some v => v
  | none => if x ∈ asciiN then 32 + (asciiN.idxOf x : Nat) else if x ∈ latinN then 161 + (latinN.idxOf x : Nat) else -1
theorem other_tab (w : World) {g : Heap} (X : (Mine.fr.heap_1 w.params).In g) : StrTab PRG w g 62 (otherN.map fun p => (PyData.str p.1, PyData.int p.2)) := by
  have := kt_tab_in (a := 62) (D := otherN.map fun p => (p.1, PyData.int p.2)) PRG w X (by kernel_rfl) (by decide +kernel) (by kernel_rfl)
  rw [List.map_map] at this
  exact this
theorem other_lookup (x : Str) : ∀ l : List (Str × Int), lookup (.str x) (l.map fun p => (PyData.str p.1, PyData.int p.2)) = (l.lookup x).map PyData.int := by
  intro l
  induction l with
  | nil => rfl
  | cons p r ih =>
    obtain ⟨k, v⟩ := p
    simp only [List.map_cons, Spec.lookup, PyProof.V.same_str, List.lookup_cons, decide_eq_true_eq]
    by_cases e : k = x
    · subst e; simp
    · have e' : (x == k) = false := by simpa using fun q => e q.symm
      rw [if_neg e, e']
      exact ih
section
variable {w : World} {A : Around} {E : Value → Shared → Prop} {s : Shared} {Q : Value → Shared → Prop} {h₀ : Heap} {L : Addr} {m : Str → Option Value} {x : Str} {t : Tok}
theorem in_other (X : (Mine.fr.heap_1 w.params).In h₀) (F : Fr h₀ L s.heap m) (h : Q (.bool (otherAt x).isSome) { s with toks := s.toks + 1 }) : wpAny (model PRG w) A (compareOp .In (.str x t) (.ref 62)) Q E s := by
  refine in_strTab (other_tab w (X.keeps F.keep)) ?_
  rw [other_lookup]
  simpa [otherAt] using h
theorem in_other_none (X : (Mine.fr.heap_1 w.params).In h₀) (F : Fr h₀ L s.heap m) (e : otherAt x = none) (h : Q (.bool false) { s with toks := s.toks + 1 }) : wpAny (model PRG w) A (compareOp .In (.str x t) (.ref 62)) Q E s := in_other X F (by rw [e]; exact h)
theorem in_other_some {v : Int} (X : (Mine.fr.heap_1 w.params).In h₀) (F : Fr h₀ L s.heap m) (e : otherAt x = some v) (h : Q (.bool true) { s with toks := s.toks + 1 }) : wpAny (model PRG w) A (compareOp .In (.str x t) (.ref 62)) Q E s := in_other X F (by rw [e]; exact h)
theorem item_other {v : Int} {value slice : PySem.Expr} (X : (Mine.fr.heap_1 w.params).In h₀) (F : Fr h₀ L s.heap m) (e : otherAt x = some v) (h : ∀ t, Q (.int v t) { s with toks := s.toks + 1 })
    (hs : subscripted slice false (.ref 62) (.str x t) = operate [.ref 62, .str x t] (getItem (.ref 62) (.str x t)) := by with_unfolding_all rfl) (hg : ∀ r, letTemporaryGo value (.ref 62) r = pure () := by intro _; with_unfolding_all rfl) :
    wpAny (model PRG w) A (subscriptTail value slice (.ref 62) (.str x t)) Q E s := by
  have T := other_tab w (X.keeps F.keep)
  have el : lookup (.str x) (otherN.map fun p => (PyData.str p.1, PyData.int p.2)) = some (.int v) := by rw [other_lookup]; rw [show otherN.lookup x = some v from e]; rfl
  refine item_strTab_isSome T (by rw [el]; rfl) (fun u hu => ?_) hs hg
  rw [el] at hu
  obtain ⟨t', rfl⟩ := hu.int_inv
  exact h t'
theorem in_texts_yes {l : Addr} {vs : List Value} {xs : List Str} (hl : s.heap.IsList l vs.toArray) (hi : StrsAre vs xs) (hm : x ∈ xs) (h : Q (.bool true) s) : wpAny (model PRG w) A (compareOp .In (.str x t) (.ref l)) Q E s :=
  in_list_strs hl hi (by rw [List.any_beq']; simpa [hm] using h)
theorem in_texts_no {l : Addr} {vs : List Value} {xs : List Str} (hl : s.heap.IsList l vs.toArray) (hi : StrsAre vs xs) (hm : ¬ x ∈ xs) (h : Q (.bool false) s) : wpAny (model PRG w) A (compareOp .In (.str x t) (.ref l)) Q E s :=
  in_list_strs hl hi (by rw [List.any_beq']; simpa [hm] using h)
end
theorem c_known_code (w : World) (x : Str) (t : Tok) : CallsTo 4 w 115 [.str x t] [] (PVal fun t => .int (knownC x) t) := by
  dsimp only [CallsTo, CallsIn, PRG, LOOSE, CAround]
  k_fill
  intro mean mg mb dp un gd cn cs a ccd cl outer A₀ base h₀ L m s Q E B₀ F₀ X₀ N₀ T₀ hk₀ hd₀ hu₀ hret
  refine wpAny_call ?_
  k_dflt (refine' enter ?k1 ?k2 ?k3 ?k4 ?k5 ?kA ?kF ?kK ?k6 ?k7 ?k8 ?k9 ?kB ?_ ?c2 ?c3 ?c4 ?c5; (case kA => exact rfl); (case kF => exact rfl); (case kK => assumption); (case k1 => k_asm); (case k2 => k_asm); (case k3 => k_asm); (case k4 => k_asm); (case k5 => k_asm); (case k6 => k_is); (case k7 => k_is); (case k8 => ktr_room); (case k9 => exact BindsTo.of_eq rfl); (case c5 => decide); (case kB => exact locs rfl); (case c2 => exact rfl); (case c3 => exact rfl); (case c4 => exact rfl); k_whole; intro g' L' h' G1' G2' F' N' B' X' T'; (try dsimp only); (try k_fold))
  k_with_none
  k_with "call ref" => (k_here; (with_reducible show wpAny _ _ (call (Value.ref 70) _) _ _ _); k_dflt (refine' use_texts (c_ascii_names _) (by k_asm) (by k_asm) (by k_asm) (by k_asm) (by k_asm) (by first | rfl | assumption) (by first | omega | ((try simp only [depth_in1, depth_deeper, depth_caller]); (try dsimp only); omega)) (by first | omega | ((try simp only [units_in1, units_deeper, Around.mark_units, units_caller]); (try dsimp only); omega)) ?_); intro D' vs' n' h' tk' a' F' N' o1'; (try simp only [LCg.Off1, and_true] at o1'))
  k_with "call ref" => (k_here; (with_reducible show wpAny _ _ (call (Value.ref 75) _) _ _ _); k_dflt (refine' use_texts (c_latin_names _) (by k_asm) (by k_asm) (by k_asm) (by k_asm) (by k_asm) (by first | rfl | assumption) (by first | omega | ((try simp only [depth_in1, depth_deeper, depth_caller]); (try dsimp only); omega)) (by first | omega | ((try simp only [units_in1, units_deeper, Around.mark_units, units_caller]); (try dsimp only); omega)) ?_); intro D' vs' n' h' tk' a' F' N' o1'; (try simp only [LCg.Off1, and_true] at o1'))
  k_with "compareOp In str ref" => (k_here; (with_reducible show wpAny _ _ (compareOp CmpOp.In (Value.str _ _) (Value.ref _)) _ _ _); k_dflt (first | (with_reducible refine in_other_none (by k_asm) (by k_asm) (by assumption) ?_) | (with_reducible refine in_other_some (by k_asm) (by k_asm) (by assumption) ?_) | (refine in_texts_yes (by kmk_list) (by with_reducible assumption) (by with_reducible assumption) ?_) | (refine in_texts_no (by kmk_list) (by with_reducible assumption) (by with_reducible assumption) ?_)))
  k_with "subscriptTail" => (k_here; (with_reducible show wpAny _ _ (subscriptTail _ _ (Value.ref 62) (Value.str _ _)) _ _ _); k_dflt (refine item_other (by k_asm) (by k_asm) (by assumption) ?_); intro t')
  k_with "call builtin:list.index" => (k_here; (with_reducible show wpAny _ _ (call (Value.builtin "list.index") [Value.ref _, Value.str _ _]) _ _ _); k_dflt (refine index_strs (by kmk_list) (by with_reducible assumption) (by decide +kernel) (by with_reducible assumption) ?_))
  rcases ho : otherAt x with _ | v
  · by_cases ha : x ∈ asciiN
    · k_steps
      exact end_val (s := s) (Q := Q) hret G1' (by k_asm) _ (by simp only [knownC, ho, ha, if_true]; rfl)
    · by_cases hl : x ∈ latinN
      · k_steps
        exact end_val (s := s) (Q := Q) hret G1' (by k_asm) _ (by simp only [knownC, ho, ha, hl, if_true, if_false]; rfl)
      · k_steps
        dsimp only
        k_steps
        exact end_val (s := s) (Q := Q) hret G1' (by k_asm) _ (by simp only [knownC, ho, ha, hl, if_false]; rfl)
  · k_steps
    exact end_val (s := s) (Q := Q) hret G1' (by k_asm) _ (by simp only [knownC, ho]; rfl)
end Mine
end

section
open PySem PySem.W PyProof.Rows PySem.Calls PySem.Spec
set_option Elab.async false
set_option maxRecDepth 100000
set_option maxHeartbeats 0
namespace Mine
theorem topOffPT : True := by
  w_top off
  trivial
noncomputable def uniS : Str := Str.ofString "uni"
noncomputable def uS : Str := Str.ofString "u"
noncomputable def uniCodes (x : Str) : List Int := (List.range ((x.length - 3) / 4)).map fun (i : Nat) => hexNum (Txt.slice x (some (3 + (i : Int) * 4)) (some (3 + (i : Int) * 4 + 4)))
theorem knownC_le (x : Str) : knownC x ≤ 70000 := by
  unfold knownC
  split
  · rename_i v h
    have key : otherN.all (fun p => decide (p.2 ≤ 70000)) = true := by decide +kernel
    have : ∀ l : List (Str × Int), l.all (fun p => decide (p.2 ≤ 70000)) = true → l.lookup x = some v → v ≤ 70000 := by
      intro l
      induction l with
      | nil => intro _ e; cases e
      | cons p r ih =>
        intro h1 e
        simp only [List.all_cons, Bool.and_eq_true, decide_eq_true_eq] at h1
        rw [List.lookup_cons] at e
        split at e
        · cases e; exact h1.1
        · exact ih h1.2 e
    exact this _ key h
  · split
    · have : asciiN.idxOf x ≤ asciiN.length := List.idxOf_le_length
      have e : asciiN.length = 95 := by decide +kernel
      omega
    · split
      · have : latinN.idxOf x ≤ latinN.length := List.idxOf_le_length
        have e : latinN.length = 95 := by decide +kernel
        omega
      · omega
theorem chr_ok {prog : Program} {w : World} {A : Around} {E : Value → Shared → Prop} {s : Shared} {Q : Value → Shared → Prop} {n : Int} {t : Tok} (h0 : 0 ≤ n) (h1 : n ≤ 1114111) (h : Q (.str (chrS n) s.toks) { s with toks := s.toks + 1 }) :
    wpAny (model prog w) A (call (.builtin "chr") [.int n t]) Q E s := chr_of_range h0 (by omega) h
theorem range4_small {n : Nat} (h : n ≤ 256) (h3 : (3 : Int) < n) : Builtin.Range.small 3 (n : Int) 4 = true := by
  have key : (List.range 257).all (fun k => Builtin.Range.small 3 (k : Int) 4) = true := by decide +kernel
  exact List.all_eq_true.mp key n (by simp; omega)
theorem range4_size {n : Nat} (h3 : (3 : Int) < n) (h : (n : Int).fmod 4 = 3) : Builtin.Range.rangeSize 3 (n : Int) 4 = (((n - 3) / 4 : Nat) : Int) := by
  rw [Int.fmod_eq_emod_of_nonneg _ (by decide : (0 : Int) ≤ 4)] at h
  unfold Builtin.Range.rangeSize
  rw [if_pos (by decide), if_pos h3]
  omega
theorem range4_line {n : Nat} (h : n ≤ 256) : (n - 3) / 4 ≤ sizeLine := by
  rw [sizeLine_eq]; omega
theorem uniCodes_line {x : Str} (h : x.length ≤ 256) : (uniCodes x).length ≤ sizeLine := by
  rw [uniCodes, List.length_map, List.length_range]; exact range4_line h
theorem uni_join {x : Str} (h : x.length ≤ 256) : (((uniCodes x).map chrS).map (·.length)).sum + ((uniCodes x).map chrS).length * 64 ≤ 16777216 := by
  have hl : (uniCodes x).length ≤ 256 := by rw [uniCodes, List.length_map, List.length_range]; omega
  have hs : ∀ l : List Int, ((l.map chrS).map (·.length)).sum = l.length := by
    intro l
    induction l with
    | nil => rfl
    | cons a r ih => simp only [List.map_cons, List.sum_cons, ih, List.length_cons]; show 1 + _ = _; omega
  rw [hs, List.length_map]
  omega
theorem good_rng {c : Int} (h : good c = true) : 0 ≤ c ∧ c ≤ 1114111 := by
  simp only [good, Bool.and_eq_true, decide_eq_true_eq] at h
  exact h.1
theorem chr_mem {prog : Program} {w : World} {A : Around} {E : Value → Shared → Prop} {s : Shared} {Q : Value → Shared → Prop} {n : Int} {t : Tok} {ns : List Int} (ha : (ns.map good).all id = true) (hm : n ∈ ns) (h : Q (.str (chrS n) s.toks) { s with toks := s.toks + 1 }) :
    wpAny (model prog w) A (call (.builtin "chr") [.int n t]) Q E s := by
  have hg : good n = true := by
    have := List.all_eq_true.mp ha (good n) (List.mem_map_of_mem hm)
    simpa using this
  exact chr_ok (good_rng hg).1 (good_rng hg).2 h
theorem chr_good {prog : Program} {w : World} {A : Around} {E : Value → Shared → Prop} {s : Shared} {Q : Value → Shared → Prop} {n : Int} {t : Tok} (hg : good n = true) (h : Q (.str (chrS n) s.toks) { s with toks := s.toks + 1 }) :
    wpAny (model prog w) A (call (.builtin "chr") [.int n t]) Q E s := chr_ok (good_rng hg).1 (good_rng hg).2 h
noncomputable def ptext (x : Str) : Str :=
  if 0 ≤ knownC x then chrS (knownC x)
  else if (Txt.slice x none (some 3) == Str.ofString "uni") = true ∧ 3 < (x.length : Int) ∧ (x.length : Int).fmod 4 = 3 ∧ ((uniCodes x).map good).all id = true then Txt.join (Str.ofString "") ((uniCodes x).map chrS)
  else if (Txt.slice x none (some 1) == Str.ofString "u") = true ∧ 5 ≤ (x.length : Int) ∧ (x.length : Int) ≤ 7 ∧ good (hexNum (Txt.slice x (some 1) none)) = true then chrS (hexNum (Txt.slice x (some 1) none))
  else Str.ofString ""
theorem c_part_text (w : World) (x : Str) (t : Tok) (hx : x.length ≤ 256) : CallsTo 6 w 120 [.str x t] [] (PVal fun t => .str (ptext x) t) := by
  dsimp only [CallsTo, CallsIn, PRG, LOOSE, CAround]
  k_fill
  intro mean mg mb dp un gd cn cs a ccd cl outer A₀ base h₀ L m s Q E B₀ F₀ X₀ N₀ T₀ hk₀ hd₀ hu₀ hret
  refine wpAny_call ?_
  k_dflt (refine' enterC ?k1 ?k2 ?k3 ?k4 ?k5 ?kA ?kF ?kK ?k6 ?k7 ?k8 ?k9 ?kB ?kD ?_ ?c2 ?c3 ?c4; (case kA => exact rfl); (case kF => exact rfl); (case kK => assumption); (case k1 => k_asm); (case k2 => k_asm); (case k3 => k_asm); (case k4 => k_asm); (case k5 => k_asm); (case k6 => k_is); (case k7 => k_is); (case k8 => ktr_room); (case k9 => exact BindsTo.of_eq rfl); (case kB => exact rfl); (case kD => decide +kernel); (case c2 => exact rfl); (case c3 => exact rfl); (case c4 => exact rfl); k_whole; intro g' L' h' tk' cells' G1' G2' F' N' Y' B' X' T' l1; (try k_lt l1); k_cells Y'; (try simp only [List.cons_append, List.nil_append] at N'); (try dsimp only); (try k_fold))
  k_with_none
  k_with "call ref" => (k_here; (with_reducible show wpAny _ _ (call (Value.ref 115) _) _ _ _); k_dflt (refine' use_val (c_known_code _ _ _) (by k_asm) (by k_asm) (by k_asm) (by k_asm) (by k_asm) (by first | rfl | assumption) (by first | omega | ((try simp only [depth_in1, depth_deeper, depth_caller]); (try dsimp only); omega)) (by first | omega | ((try simp only [units_in1, units_deeper, Around.mark_units, units_caller]); (try dsimp only); omega)) ?_); intro t' h' tk' F' N')
  k_with "call builtin:chr" => (k_here; (with_reducible show wpAny _ _ (call (Value.builtin "chr") [Value.int _ _]) _ _ _); (with_reducible refine chr_ok (by first | omega | (simp only [good, Bool.and_eq_true, decide_eq_true_eq] at *; omega)) (by first | omega | (simp only [good, Bool.and_eq_true, decide_eq_true_eq] at *; omega)) ?_))
  k_with "call builtin:chr" => (k_here; (with_reducible show wpAny _ _ (call (Value.builtin "chr") [Value.int _ _]) _ _ _); (with_reducible refine chr_mem (by assumption) (by assumption) ?_))
  k_with "call ref" => (k_here; (with_reducible show wpAny _ _ (call (Value.ref 94) _) _ _ _); k_dflt (refine' use_val (c_hex_number _ _ _) (by k_asm) (by k_asm) (by k_asm) (by k_asm) (by k_asm) (by first | rfl | assumption) (by first | omega | ((try simp only [depth_in1, depth_deeper, depth_caller]); (try dsimp only); omega)) (by first | omega | ((try simp only [units_in1, units_deeper, Around.mark_units, units_caller]); (try dsimp only); omega)) ?_); intro t' h' tk' F' N')
  k_with "call ref" => (k_here; (with_reducible show wpAny _ _ (call (Value.ref 108) _) _ _ _); k_dflt (refine' use_val (c_is_sign_code _ _ _) (by k_asm) (by k_asm) (by k_asm) (by k_asm) (by k_asm) (by first | rfl | assumption) (by first | omega | ((try simp only [depth_in1, depth_deeper, depth_caller]); (try dsimp only); omega)) (by first | omega | ((try simp only [units_in1, units_deeper, Around.mark_units, units_caller]); (try dsimp only); omega)) ?_); intro t' h' tk' F' N')
  k_with "exec Assign cons ListComp" => (k_here; k_dflt (refine Assign_ListComp_C (by k_asm) (by rfl) (by with_unfolding_all rfl) (by with_unfolding_all rfl) (by decide) (by rfl) (by decide) (by rfl) (by rfl) (by rfl) ?_))
  k_with "eval ListComp" => (k_here; k_dflt (refine LCg.ListComp_U (F₀ := by k_asm) (by with_unfolding_all rfl) (by decide) (by rfl) (by decide) (by rfl) ?_))
  k_with "SrcC" => (k_here; (rename IsRange _ _ _ _ _ _ _ _ => hR'); k_dflt (refine' ⟨_, _, _, _, _, _, _, (x.length - 3) / 4, _, rfl, rfl, (by k_asm), (by k_asm), hR', range4_small hx (by assumption), range4_size (by assumption) (by assumption), range4_line hx, ?R⟩); (case' R => clear hR'; rintro _ ⟨gg, rfl⟩; refine' comp_gen IntsAre OneInt (fun (i : Nat) => hexNum (Txt.slice x (some (3 + (i : Int) * 4)) (some (3 + (i : Int) * 4 + 4)))) .nil ints_snoc ?turn ?fin; (case' turn => rintro i _ I' oI' C' oC' D' m' ys' h' tk' E' hi' ⟨ti', rfl⟩ hC' hx' F' N' off' ne'; (try simp only [LCg.Off3, and_true] at off')); (case' fin => intro ys' hcodes'; try (k_dflt change IntsAre ys' (uniCodes x) at hcodes'))))
  k_with "CompSrc" => (k_here; (with_reducible show LCg.CompSrc _ _ _ _ _ _ _ (PySem.Expr.Call (PySem.Expr.Name (Str.ofString "is_sign_code") _) _ _ _) _ _ _ _ _ _); k_dflt (refine LCg.CompSrc.ledger (by rfl) (by k_asm) (by k_asm) (by k_mem) (by rw [List.size_toArray, IntsAre.length (by with_reducible assumption)]; exact uniCodes_line (by assumption)) ?_; intro g'; refine' comp_ints_over LSm.BoolsAre OneBool good .nil bools_snoc (by assumption) (fun k' t' I' oI' C' oC' D' m' ys' h' tk' E' hk' hC' hx' F' N' off' ne' => ?_) (fun ys' hy' => ?_); (all_goals (try (simp only [LCg.Off3, and_true] at off')))))
  k_with "CompSrc" => (k_here; (with_reducible show LCg.CompSrc _ _ _ _ _ _ _ (PySem.Expr.Call (PySem.Expr.Name (Str.ofString "chr") _) _ _ _) _ _ _ _ _ _); k_dflt (refine LCg.CompSrc.ledger (by rfl) (by k_asm) (by k_asm) (by k_mem) (by rw [List.size_toArray, IntsAre.length (by with_reducible assumption)]; exact uniCodes_line (by assumption)) ?_; intro g'; refine' comp_ints_over StrsAre OneStr chrS .nil strs_snoc2 (by assumption) (fun k' t' I' oI' C' oC' D' m' ys' h' tk' E' hk' hC' hx' F' N' off' ne' => ?_) (fun ys' hy' => ?_); (all_goals (try (simp only [LCg.Off3, and_true] at off')))))
  k_with "call builtin:all" => (k_here; (with_reducible show wpAny _ _ (call (Value.builtin "all") [Value.ref _]) _ _ _); k_dflt (refine LSm.all_bools (by k_asm) (by k_asm) (by rfl) (by kmk_list) (by with_reducible assumption) ?_); intro h' tk' F' N')
  k_with "call builtin:str.join" => (k_here; (with_reducible show wpAny _ _ (call (Value.builtin "str.join") [Value.str _ _, Value.ref _]) _ _ _); k_dflt (refine join_listC (by kmk_list) (by with_reducible assumption) (by decide) (uni_join (by assumption)) ?_); intro t' k')
  have hkb := knownC_le x
  by_cases hk : 0 ≤ knownC x
  · k_steps
    exact end_val (s := s) (Q := Q) hret G1' (by k_asm) _ (by rw [ptext, if_pos hk])
  · k_steps
    all_goals first
      | exact ⟨rfl, _, rfl⟩
      | exact ⟨rfl, rfl⟩
      | ((try dsimp only); k_steps; exact end_val (s := s) (Q := Q) hret G1' (by k_asm) _ (by simp only [ptext, *, if_true, if_false, true_and, and_true, and_false, false_and, Bool.false_eq_true, not_true_eq_false, not_false_eq_true, ne_eq, reduceCtorEq] <;> rfl))
      | (have h5 : ¬ (5 : Int) ≤ x.length := by omega
         (try dsimp only); k_steps; exact end_val (s := s) (Q := Q) hret G1' (by k_asm) _ (by simp only [ptext, *, if_true, if_false, true_and, and_true, and_false, false_and, Bool.false_eq_true, not_true_eq_false, not_false_eq_true, ne_eq, reduceCtorEq] <;> rfl))
      | (have h5 : (5 : Int) ≤ x.length := by (have hf := ‹(x.length : Int).fmod 4 = 3›; rw [Int.fmod_eq_emod_of_nonneg _ (by decide : (0 : Int) ≤ 4)] at hf; omega)
         (try dsimp only); k_steps; exact end_val (s := s) (Q := Q) hret G1' (by k_asm) _ (by simp only [ptext, *, if_true, if_false, true_and, and_true, and_false, false_and, Bool.false_eq_true, not_true_eq_false, not_false_eq_true, ne_eq, reduceCtorEq] <;> rfl))
end Mine
end

section
open PySem PySem.W PyProof.Rows PySem.Calls PySem.Spec
set_option Elab.async false
set_option maxRecDepth 100000
set_option maxHeartbeats 0
namespace Mine
theorem topOffGT : True := by
  w_top off
  trivial
noncomputable def headT (x : Str) : Str := (Txt.split x (Str.ofString ".")).getD 0 Str.empty
noncomputable def gtext (x : Str) : Str := Txt.join (Str.ofString "") ((Txt.split (headT x) (Str.ofString "_")).map ptext)
theorem headT_len (x : Str) : (headT x).length ≤ x.length := by
  unfold headT
  have hp := split_pos x (Str.ofString ".")
  rw [List.getD_eq_getElem?_getD, List.getElem?_eq_getElem (by omega)]
  exact part_short (List.getElem_mem _)
theorem part_len {x y : Str} (h : y ∈ Txt.split x (Str.ofString "_")) (hx : x.length ≤ 256) : y.length ≤ 256 := Nat.le_trans (part_short h) hx
theorem split_line {x : Str} (h : x.length ≤ 256) : (Txt.split x (Str.ofString "_")).length ≤ sizeLine := by
  have := split_le x (Str.ofString "_")
  rw [sizeLine_eq]; omega
theorem chrs_len (l : List Int) : (Txt.join (Str.ofString "") (l.map chrS)).length ≤ l.length := by
  unfold Txt.join
  rw [StrLaws.glued_eq_join]
  have h := StrLaws.join_length_le (Str.ofString "") (l.map chrS)
  have hs : ∀ l : List Int, ((l.map chrS).map (·.length)).sum = l.length := by
    intro l
    induction l with
    | nil => rfl
    | cons a r ih => simp only [List.map_cons, List.sum_cons, ih, List.length_cons]; show 1 + _ = _; omega
  rw [hs, show (Str.ofString "").length = 0 by decide] at h
  omega
theorem ptext_len {y : Str} (h : y.length ≤ 256) : (ptext y).length ≤ 256 := by
  unfold ptext
  split
  · exact Nat.le_of_ble_eq_true rfl
  · split
    · have := chrs_len (uniCodes y)
      rw [uniCodes, List.length_map, List.length_range] at this
      rw [uniCodes]
      omega
    · split
      · exact Nat.le_of_ble_eq_true rfl
      · exact Nat.le_of_ble_eq_true (by decide)
theorem gt_join {x : Str} (h : x.length ≤ 256) : (((Txt.split x (Str.ofString "_")).map ptext).map (·.length)).sum + ((Txt.split x (Str.ofString "_")).map ptext).length * 64 ≤ 16777216 := by
  have hl := split_le x (Str.ofString "_")
  have hs : ∀ l : List Str, (∀ y ∈ l, y.length ≤ 256) → ((l.map ptext).map (·.length)).sum ≤ l.length * 256 := by
    intro l
    induction l with
    | nil => intro _; simp
    | cons a r ih =>
      intro hm
      have h1 := ih fun y hy => hm y (.tail _ hy)
      have h2 := ptext_len (hm a (.head _))
      simp only [List.map_cons, List.sum_cons, List.length_cons]
      omega
  have := hs _ (fun y hy => part_len hy h)
  rw [List.length_map]
  omega
theorem item_head {prog : Program} {w : World} {A : Around} {E : Value → Shared → Prop} {s : Shared} {value slice : PySem.Expr} {l : Addr} {vs : List Value} {x : Str} {u : Tok} {Q : Value → Shared → Prop} (hl : s.heap.IsList l vs.toArray) (hi : StrsAre vs (Txt.split x (Str.ofString ".")))
    (h : ∀ t, Q (.str (headT x) t) s) (hs : subscripted slice false (.ref l) (.int 0 u) = operate [.ref l, .int 0 u] (getItem (.ref l) (.int 0 u)) := by with_unfolding_all rfl) :
    wpAny (model prog w) A (subscriptTail value slice (.ref l) (.int 0 u)) Q E s :=
  item_strsR hl hi (by decide) (by have := split_pos x (Str.ofString "."); omega) (by decide) h hs
theorem c_glyph_text (w : World) (x : Str) (t : Tok) (hx : x.length ≤ 256) : CallsTo 8 w 125 [.str x t] [] (PVal fun t => .str (gtext x) t) := by
  dsimp only [CallsTo, CallsIn, PRG, LOOSE, CAround]
  k_fill
  intro mean mg mb dp un gd cn cs a ccd cl outer A₀ base h₀ L m s Q E B₀ F₀ X₀ N₀ T₀ hk₀ hd₀ hu₀ hret
  refine wpAny_call ?_
  k_dflt (refine' enter ?k1 ?k2 ?k3 ?k4 ?k5 ?kA ?kF ?kK ?k6 ?k7 ?k8 ?k9 ?kB ?_ ?c2 ?c3 ?c4 ?c5; (case kA => exact rfl); (case kF => exact rfl); (case kK => assumption); (case k1 => k_asm); (case k2 => k_asm); (case k3 => k_asm); (case k4 => k_asm); (case k5 => k_asm); (case k6 => k_is); (case k7 => k_is); (case k8 => ktr_room); (case k9 => exact BindsTo.of_eq rfl); (case c5 => decide); (case kB => exact locs rfl); (case c2 => exact rfl); (case c3 => exact rfl); (case c4 => exact rfl); k_whole; intro g' L' h' G1' G2' F' N' B' X' T'; (try dsimp only); (try k_fold))
  k_with_none
  k_with "call builtin:str.split" => (k_here; (with_reducible show wpAny _ _ (call (Value.builtin "str.split") [Value.str _ _, Value.str _ _]) _ _ _); k_dflt (refine KSpl.split1 (by k_asm) (by k_asm) (by decide) ?_ (by rw [sizeLine_eq]; omega)); intro D' l' h' k' e' a' F' N' l1; rw [e'] at a'; clear e'; (try k_lt l1))
  k_with "eval ListComp" => (k_here; k_dflt (refine LCg.ListComp_U (F₀ := by k_asm) (by with_unfolding_all rfl) (by decide) (by rfl) (by decide) (by rfl) ?_))
  k_with "subscriptTail Call" => (k_here; (with_reducible show wpAny _ _ (subscriptTail _ _ (Value.ref _) (Value.int _ _)) _ _ _); k_dflt (refine item_head (by kmk_list) (by with_reducible assumption) ?_); intro t')
  k_with "CompSrc" => (k_here; k_dflt (refine LCg.CompSrc.ledger (by rfl) (by k_asm) (by k_asm) (by k_mem) (by rw [List.size_toArray, strs_len (by with_reducible assumption)]; exact split_line (by assumption)) ?_; intro g'; refine' comp_texts ptext (by with_reducible assumption) (fun y' t' I' oI' C' oC' D' m' ys' h' tk' E' hy' hC' hx' F' N' off' ne' => ?_) (fun ys' hy' => ?_); (all_goals (try (simp only [LCg.Off3, and_true] at off')))))
  k_with "call ref" => (k_here; (with_reducible show wpAny _ _ (call (Value.ref 120) _) _ _ _); k_dflt (refine' use_val (c_part_text _ _ _ (by first | with_reducible assumption | omega | exact part_len (by assumption) (by assumption))) (by k_asm) (by k_asm) (by k_asm) (by k_asm) (by k_asm) (by first | rfl | assumption) (by first | omega | ((try simp only [depth_in1, depth_deeper, depth_caller]); (try dsimp only); omega)) (by first | omega | ((try simp only [units_in1, units_deeper, Around.mark_units, units_caller]); (try dsimp only); omega)) ?_); intro t' h' tk' F' N')
  k_with "call builtin:str.join" => (k_here; (with_reducible show wpAny _ _ (call (Value.builtin "str.join") [Value.str _ _, Value.ref _]) _ _ _); k_dflt (refine join_listC (by kmk_list) (by with_reducible assumption) (by decide) (gt_join (by assumption)) ?_); intro t' k')
  have hh := Nat.le_trans (headT_len x) hx
  k_steps
  · exact ⟨rfl, _, rfl⟩
  · exact end_val (s := s) (Q := Q) hret G1' (by k_asm) _ rfl
end Mine
end

section
open PySem PySem.W PyProof.Rows PySem.Calls PySem.Spec
set_option Elab.async false
set_option maxRecDepth 100000
set_option maxHeartbeats 0
namespace Mine
theorem topOffGN : True := by
  w_top off
  trivial
noncomputable def gname (n : Nat) : Str :=
  if 32 ≤ n ∧ n ≤ 126 then asciiN.getD (n - 32) Str.empty
  else if 161 ≤ n ∧ n ≤ 255 ∧ n ≠ 173 then latinN.getD (n - 161) Str.empty
  else match otherN.find? (fun p => p.2 == (n : Int)) with
    | some p => p.1
    | none => (if n ≤ 65535 then Str.ofString "uni" else Str.ofString "u") ++ ⟨(figs 8 n []).toArray⟩
theorem other_keys : otherN.all (fun p => otherN.lookup p.1 == some p.2) = true := by decide +kernel
theorem other_at {i : Nat} {p : Str × Int} (h : otherN[i]? = some p) : otherAt p.1 = some p.2 := by
  have := List.all_eq_true.mp other_keys p (List.mem_of_getElem? h)
  exact beq_iff_eq.mp this
section
variable {w : World} {A : Around} {E : Value → Shared → Prop} {s : Shared} {env : Env} {h₀ : Heap} {x : Str} {body : List Stmt} {Q : Flow → Shared → Prop} {σ : Type} {m₀ : Str → Option Value}
theorem iter_other (Led : σ → List (Addr × Obj)) (ps : σ → List (Str × Value)) (Inv : Nat → σ → Prop) (c₀ : σ) (X : (Mine.fr.heap_1 w.params).In h₀)
    (hh : A.handled = none) (F : Fr h₀ env.locals s.heap m₀) (N : News h₀ env.locals s.heap (Led c₀))
    (h0 : ∀ p ∈ ps c₀, m₀ p.1 = some p.2) (hi : Inv 0 c₀) (T : ∀ g, TurnsGo PRG w A E { s with heap := g } env h₀ x body Q m₀ Led ps Inv c₀ otherN.length (fun i v => ∃ p t, otherN[i]? = some p ∧ v = .str p.1 t)) :
    wpAny (model PRG w) A (pyIter (.ref 62)) (fun it s₂ => LoopAtV PRG w A h₀ env x body Q E it s₂) E s := by
  obtain ⟨lo, kvs, hdo, hf⟩ := other_tab w X
  have hdo' := hdo.keep F.keep
  have hb : ∃ o, h₀.get? 62 = some o := by
    obtain ⟨ep, o, es, ho, _⟩ := hdo.dictAt
    exact ⟨o, ho⟩
  obtain ⟨ob, hob⟩ := hb
  obtain ⟨ep, hat⟩ := hdo'.dictAt
  have hne : (62 : Addr) ≠ s.heap.objs.size := Nat.ne_of_lt hat.lt_size
  refine wpAny_pyIter_dict lo hat ?_
  have W := Walks.dictKeys (knd := strKind PRG w) hh s.heap.objs.size 62 hne kvs ep
  have hlen : otherN.length = kvs.length := by have := hf.length; simpa using this
  have T' := T (s.heap.push { cls := .type "dict_keyiterator", data := .fields #[.ref 62, .int 0 0, .int (kvs.length : Nat) 0, .int (ep : Nat) 0] })
  rw [hlen] at T'
  refine loop_st Led ps Inv c₀ W ?_ ?_ ?_ ?_ ⟨⟨_, Heap.get?_push_size _ rfl, rfl, rfl⟩, hat.push _⟩ (F.push _) (fun p hp => ⟨Heap.get?_push_of_some _ (N p hp).1, (N p hp).2⟩) h0 hi ⟨?_, T'.2⟩
  · intro hm
    rcases List.mem_cons.mp hm with e | hm
    · exact absurd F.ns.lt (e ▸ Nat.lt_irrefl _)
    · have h62 := List.mem_singleton.mp hm
      have := Heap.get?_none_of_le F.above
      rw [h62, hob] at this
      cases this
  · intro b hb
    rw [List.mem_singleton.mp hb]
    exact next_is_new F
  · intro p hp hI
    exact absurd (Heap.lt_size (N p hp).1) ((List.mem_singleton.mp hI) ▸ Nat.lt_irrefl _)
  · intro p hp hI
    rcases List.mem_cons.mp hI with e | hm
    · exact absurd (Heap.lt_size (N p hp).1) (e ▸ Nat.lt_irrefl _)
    · have := (N p hp).2.2
      rw [List.mem_singleton.mp hm, hob] at this
      cases this
  · rintro i c v h tk own hin ⟨k, y, hk, his⟩
    have hi2 : i < otherN.length := by omega
    refine T'.1 i c v h tk own hin ⟨otherN[i], ?_⟩
    obtain ⟨dv, hD, hfl⟩ := hf.at hk
    rw [List.getElem?_map, List.getElem?_eq_getElem hi2] at hD
    simp only [Option.map_some, Option.some.injEq, Prod.mk.injEq, PyData.str.injEq] at hD
    obtain ⟨t, ht⟩ := Value.isStrOf_shape his
    exact ⟨t, List.getElem?_eq_getElem hi2, by rw [ht, hD.1]⟩
end
theorem other_step {n i : Nat} {p : Str × Int} (h : otherN[i]? = some p) (hp : ¬ p.2 = (n : Int)) (hI : (otherN.take i).find? (fun q => q.2 == (n : Int)) = none) : (otherN.take (i + 1)).find? (fun q => q.2 == (n : Int)) = none := by
  rw [List.take_add_one, h, List.find?_append, hI]
  simp [hp]
theorem other_hit {n i : Nat} {p : Str × Int} (h : otherN[i]? = some p) (hp : p.2 = (n : Int)) (hI : (otherN.take i).find? (fun q => q.2 == (n : Int)) = none) : otherN.find? (fun q => q.2 == (n : Int)) = some p := by
  have e : otherN = otherN.take i ++ p :: otherN.drop (i + 1) := by
    obtain ⟨hi, e⟩ := List.getElem?_eq_some_iff.mp h
    rw [← e, ← List.drop_eq_getElem_cons hi, List.take_append_drop]
  rw [e, List.find?_append, hI]
  simp [hp]
theorem item_texts {prog : Program} {w : World} {A : Around} {E : Value → Shared → Prop} {s : Shared} {value slice : PySem.Expr} {l : Addr} {vs : List Value} {xs : List Str} {k : Int} {u : Tok} {Q : Value → Shared → Prop} (hl : s.heap.IsList l vs.toArray) (hi : StrsAre vs xs)
    (h0 : 0 ≤ k) (h1 : k < xs.length) (h2 : k < 2 ^ 62) (h : ∀ t, Q (.str (xs.getD k.toNat Str.empty) t) s) (hs : subscripted slice false (.ref l) (.int k u) = operate [.ref l, .int k u] (getItem (.ref l) (.int k u)) := by with_unfolding_all rfl) :
    wpAny (model prog w) A (subscriptTail value slice (.ref l) (.int k u)) Q E s :=
  item_strsR hl hi h0 h1 (by omega) h hs
theorem asciiN_length : asciiN.length = 95 := by decide +kernel
theorem latinN_length : latinN.length = 95 := by decide +kernel
theorem figs_len : ∀ (f w : Nat) (l : List Nat), (figs f w l).length ≤ l.length + f
  | 0, _, l => Nat.le_refl _
  | f + 1, w, l => by
    simp only [figs]
    split
    · have := figs_len f (w / 16) (hexC (w % 16) :: l)
      simp only [List.length_cons] at this
      omega
    · omega
theorem figs_str (n : Nat) : (⟨(figs 8 n []).toArray⟩ : Str).length ≤ 8 := by
  have := figs_len 8 n []
  simpa [Str.length] using this
theorem add_small {prog : Program} {w : World} {A : Around} {E : Value → Shared → Prop} {s : Shared} {x y : Str} {t u : Tok} {Q : Value → Shared → Prop} (hx : x.length ≤ 1000) (hy : y.length ≤ 1000) (h : ∀ t' k, Q (.str (x ++ y) t') { s with toks := k }) :
    wpAny (model prog w) A (binaryOp .Add (.str x t) (.str y u)) Q E s := SB.add h (by rw [sizeLine_eq]; omega)
theorem gname_ascii {n : Nat} (h : 32 ≤ n ∧ n ≤ 126) : asciiN.getD ((n : Int) - 32).toNat Str.empty = gname n := by
  unfold gname
  rw [if_pos h, show ((n : Int) - 32).toNat = n - 32 by omega]
theorem gname_latin {n : Nat} (h0 : ¬ (32 ≤ n ∧ n ≤ 126)) (h : 161 ≤ n ∧ n ≤ 255 ∧ n ≠ 173) : latinN.getD ((n : Int) - 161).toNat Str.empty = gname n := by
  unfold gname
  rw [if_neg h0, if_pos h, show ((n : Int) - 161).toNat = n - 161 by omega]
theorem gname_hit {n i : Nat} {p : Str × Int} (h0 : ¬ (32 ≤ n ∧ n ≤ 126)) (h1 : ¬ (161 ≤ n ∧ n ≤ 255 ∧ n ≠ 173)) (h : otherN[i]? = some p) (hp : p.2 = (n : Int)) (hI : (otherN.take i).find? (fun q => q.2 == (n : Int)) = none) : p.1 = gname n := by
  unfold gname
  rw [if_neg h0, if_neg h1, other_hit h hp hI]
theorem gname_uni {n : Nat} (h0 : ¬ (32 ≤ n ∧ n ≤ 126)) (h1 : ¬ (161 ≤ n ∧ n ≤ 255 ∧ n ≠ 173)) (hI : (otherN.take otherN.length).find? (fun q => q.2 == (n : Int)) = none) (h : n ≤ 65535) : Str.ofString "uni" ++ (⟨(figs 8 n []).toArray⟩ : Str) = gname n := by
  unfold gname
  rw [List.take_length] at hI
  rw [if_neg h0, if_neg h1, hI]
  dsimp only
  rw [if_pos h]
theorem gname_u {n : Nat} (h0 : ¬ (32 ≤ n ∧ n ≤ 126)) (h1 : ¬ (161 ≤ n ∧ n ≤ 255 ∧ n ≠ 173)) (hI : (otherN.take otherN.length).find? (fun q => q.2 == (n : Int)) = none) (h : ¬ n ≤ 65535) : Str.ofString "u" ++ (⟨(figs 8 n []).toArray⟩ : Str) = gname n := by
  unfold gname
  rw [List.take_length] at hI
  rw [if_neg h0, if_neg h1, hI]
  dsimp only
  rw [if_neg h]
theorem c_glyph_name (w : World) (n : Nat) (t : Tok) (hg : good n = true) : CallsTo 4 w 132 [.int n t] [] (PVal fun t => .str (gname n) t) := by
  dsimp only [CallsTo, CallsIn, PRG, LOOSE, CAround]
  k_fill
  intro mean mg mb dp un gd cn cs a ccd cl outer A₀ base h₀ L m s Q E B₀ F₀ X₀ N₀ T₀ hk₀ hd₀ hu₀ hret
  refine wpAny_call ?_
  k_dflt (refine' enter ?k1 ?k2 ?k3 ?k4 ?k5 ?kA ?kF ?kK ?k6 ?k7 ?k8 ?k9 ?kB ?_ ?c2 ?c3 ?c4 ?c5; (case kA => exact rfl); (case kF => exact rfl); (case kK => assumption); (case k1 => k_asm); (case k2 => k_asm); (case k3 => k_asm); (case k4 => k_asm); (case k5 => k_asm); (case k6 => k_is); (case k7 => k_is); (case k8 => ktr_room); (case k9 => exact BindsTo.of_eq rfl); (case c5 => decide); (case kB => exact locs rfl); (case c2 => exact rfl); (case c3 => exact rfl); (case c4 => exact rfl); k_whole; intro g' L' h' G1' G2' F' N' B' X' T'; (try dsimp only); (try k_fold))
  k_with_none
  k_with "exec For Name Name cons nil" => (k_here; k_dflt (refine' For_invVF (by k_asm) (by exact rfl) (by exact rfl) ?_))
  k_with "exec For Name Call cons nil" => (k_here; k_dflt (refine' For_invVF (by k_asm) (by exact rfl) (by exact rfl) ?_))
  k_with "call ref" => (k_here; (with_reducible show wpAny _ _ (call (Value.ref 70) _) _ _ _); k_dflt (refine' use_texts (c_ascii_names _) (by k_asm) (by k_asm) (by k_asm) (by k_asm) (by k_asm) (by first | rfl | assumption) (by first | omega | ((try simp only [depth_in1, depth_deeper, depth_caller]); (try dsimp only); omega)) (by first | omega | ((try simp only [units_in1, units_deeper, Around.mark_units, units_caller]); (try dsimp only); omega)) ?_); intro D' vs' n' h' tk' a' F' N' o1'; (try simp only [LCg.Off1, and_true] at o1'))
  k_with "call ref" => (k_here; (with_reducible show wpAny _ _ (call (Value.ref 75) _) _ _ _); k_dflt (refine' use_texts (c_latin_names _) (by k_asm) (by k_asm) (by k_asm) (by k_asm) (by k_asm) (by first | rfl | assumption) (by first | omega | ((try simp only [depth_in1, depth_deeper, depth_caller]); (try dsimp only); omega)) (by first | omega | ((try simp only [units_in1, units_deeper, Around.mark_units, units_caller]); (try dsimp only); omega)) ?_); intro D' vs' n' h' tk' a' F' N' o1'; (try simp only [LCg.Off1, and_true] at o1'))
  k_with "call ref" => (k_here; (with_reducible show wpAny _ _ (call (Value.ref 108) _) _ _ _); k_dflt (refine' use_val (c_is_sign_code _ _ _) (by k_asm) (by k_asm) (by k_asm) (by k_asm) (by k_asm) (by first | rfl | assumption) (by first | omega | ((try simp only [depth_in1, depth_deeper, depth_caller]); (try dsimp only); omega)) (by first | omega | ((try simp only [units_in1, units_deeper, Around.mark_units, units_caller]); (try dsimp only); omega)) ?_); intro t' h' tk' F' N')
  k_with "call ref" => (k_here; (with_reducible show wpAny _ _ (call (Value.ref 101) _) _ _ _); k_dflt (refine' use_val (c_hex_figures _ _ _ _ (by first | assumption | omega)) (by k_asm) (by k_asm) (by k_asm) (by k_asm) (by k_asm) (by first | rfl | assumption) (by first | omega | ((try simp only [depth_in1, depth_deeper, depth_caller]); (try dsimp only); omega)) (by first | omega | ((try simp only [units_in1, units_deeper, Around.mark_units, units_caller]); (try dsimp only); omega)) ?_); intro t' h' tk' F' N')
  k_with "subscriptTail Call" => (k_here; (with_reducible show wpAny _ _ (subscriptTail _ _ (Value.ref _) (Value.int _ _)) _ _ _); k_dflt (refine item_texts (by kmk_list) (by with_reducible assumption) (by omega) (by first | (rw [asciiN_length]; omega) | (rw [latinN_length]; omega) | omega) (by omega) ?_); intro t')
  k_with "subscriptTail" => (k_here; (with_reducible show wpAny _ _ (subscriptTail _ _ (Value.ref 62) (Value.str _ _)) _ _ _); k_dflt (refine item_other (by k_asm) (by k_asm) (by assumption) ?_); intro t')
  k_with "binaryOp Add str str" => (k_here; (with_reducible show wpAny _ _ (binaryOp Operator.Add (Value.str _ _) (Value.str _ _)) _ _ _); k_dflt (refine add_small (by decide) (Nat.le_trans (figs_str _) (by decide)) ?_); intro t' k')
  k_with "pyIter ref" => (k_here; (with_reducible show wpAny _ _ (pyIter (Value.ref 62)) _ _ _); (focus ((rename Fr _ _ _ _ => lF'); (rename News _ _ _ _ => lN'); k_dflt (refine' iter_other (σ := Unit) (fun _ => []) (fun _ => []) (fun i _ => (otherN.take i).find? (fun q => q.2 == (n : Int)) = none) () X' rfl lF' lN' (List.forall_mem_nil _) rfl (fun gg => ⟨?_, ?_⟩)); (clear lF' lN'; rintro i ⟨⟩ v hh tk own hi ⟨p, u, hp, rfl⟩ hI hoff F' N'; simp only [lkp] at F'; dsimp only [List.map_nil, List.nil_append] at hoff N'; have hpa := other_at hp); rotate_left; (clear lF' lN'; rintro ⟨⟩ u hh tk hI F' N'; simp only [lkp] at F'; dsimp only at N'); rotate_right)))
  have hn := good_rng hg
  k_steps
  all_goals (try dsimp only)
  all_goals first
    | exact turn_end () (by k_asm) (by k_asm) (by intro p hp; cases hp) (fun _ hp => hp) rfl (other_step hp (by assumption) hI) (by intro z hz; simp only [lkp, if_neg hz])
    | (k_steps; refine end_val (s := s) (Q := Q) hret G1' (by k_asm) _ (congrArg (fun y => Value.str y _) ?_))
  all_goals first
    | with_reducible exact gname_ascii (by omega)
    | with_reducible exact gname_latin (by omega) (by omega)
    | with_reducible exact gname_hit (by omega) (by omega) (by assumption) (by assumption) (by assumption)
    | with_reducible exact gname_uni (by omega) (by omega) (by assumption) (by omega)
    | with_reducible exact gname_u (by omega) (by omega) (by assumption) (by omega)
end Mine
end

section
open PySem PySem.W PyProof.Rows PySem.Calls PySem.Spec
set_option Elab.async false
set_option maxRecDepth 100000
set_option maxHeartbeats 0
namespace Mine
theorem topOffWW : True := by
  w_top off
  trivial
section
variable {s : Shared} {Q : Value → Shared → Prop} {g h' h₀ : Heap} {L L' : Addr} {m' : Str → Option Value} {tk : Nat} {mu news : List (Addr × Obj)}
theorem keepsM (G : KeepsBut mu s.heap g) (F : Fr g L' h' m') (N₀ : News h₀ L s.heap mu) (N : News g L' h' news) (hm : ∀ p ∈ mu, p ∈ news) : Keeps s.heap h' := fun b o e => by
  by_cases hb : b ∈ mu.map (·.1)
  · obtain ⟨p, hp, rfl⟩ := List.mem_map.mp hb
    have h1 := (N₀ p hp).1
    rw [e] at h1
    cases h1
    exact (N p (hm p hp)).1
  · exact F.keep b o (G b o e hb)
theorem end_textsM {ys : List Str} {a : Addr} {vs : List Value} {n : Nat} (hret : ∀ v h' tk', PTexts ys s.heap v h' → Q v { s with heap := h', toks := tk' }) (G : KeepsBut mu s.heap g) (N₀ : News h₀ L s.heap mu) (F : Fr g L' h' m') (N : News g L' h' news)
    (hm : (a, listOf vs.toArray n) ∈ news) (hmu : ∀ p ∈ mu, p ∈ news) (hne : ∀ p ∈ mu, p.1 ≠ a) (hs : StrsAre vs ys) : Q (.ref a) { s with heap := h', toks := tk } :=
  hret _ h' tk ⟨keepsM G F N₀ N hmu, a, vs, n, rfl, hs, N.get hm, by
    cases q : s.heap.get? a with
    | none => rfl
    | some o =>
      have := G a o q (fun hb => by
        obtain ⟨p, hp, e⟩ := List.mem_map.mp hb
        exact hne p hp e)
      rw [N.fresh hm] at this; cases this⟩
end
noncomputable def wordC (y : Str) : Bool := match y.cps.toList with
  | c :: _ => Nat.ble 48 c && Nat.ble c 57
  | [] => false
noncomputable def numC (y : Str) : Nat := PySem.NumText.digitsVal y.cps.toList
noncomputable def wwGo : List Str → List Str → Nat → List Str
  | [], xs, _ => xs
  | y :: r, xs, k => if wordC y then wwGo r xs (numC y) else wwGo r (xs.set k y) (k + 1)
noncomputable def okW (n : Nat) : List Str → Nat → Bool
  | [], _ => true
  | y :: r, k => Nat.ble 1 y.length && Nat.ble y.length 20 && (if wordC y then (y.cps.toList.all fun c => Nat.ble 48 c && Nat.ble c 57) && okW n r (numC y) else Nat.blt k n && okW n r (k + 1))
noncomputable def figS : Str := ⟨#[48, 49, 50, 51, 52, 53, 54, 55, 56, 57]⟩
theorem figS_lit : Str.ofString "0123456789" = figS := lit_eq ['0', '1', '2', '3', '4', '5', '6', '7', '8', '9'] _ (by decide +kernel)
theorem fig_mem_lt : (List.range 58).all (fun c => decide (c ∈ figS.cps.toList) == (Nat.ble 48 c && Nat.ble c 57)) = true := by decide +kernel
theorem fig_small : figS.cps.toList.all (fun x => Nat.blt x 58) = true := by decide +kernel
theorem fig_mem (c : Nat) : decide (c ∈ figS.cps.toList) = (Nat.ble 48 c && Nat.ble c 57) := by
  by_cases h : c < 58
  · exact beq_iff_eq.mp (List.all_eq_true.mp fig_mem_lt c (List.mem_range.mpr h))
  · have h1 : Nat.ble c 57 = false := by
      cases e : Nat.ble c 57 with
      | false => rfl
      | true => exact absurd (Nat.lt_succ_of_le (Nat.le_of_ble_eq_true e)) h
    rw [h1, Bool.and_false]
    exact decide_eq_false fun hm => h (Nat.le_of_ble_eq_true (List.all_eq_true.mp fig_small c hm))
theorem item0 {y : Str} {c : Nat} {r : List Nat} (h : y.cps.toList = c :: r) : Txt.item y 0 = ⟨#[c]⟩ := by
  have hy : y = ⟨(c :: r).toArray⟩ := by rw [← h]
  subst hy
  unfold Txt.item Txt.charAt
  simp [seqIndex?, Str.length]
theorem ww_turn {n i kn : Nat} {ws xs : List Str} {y : Str} {R : List Str} (hy : ws[i]? = some y) (h4 : okW n (ws.drop i) kn = true) (h5 : wwGo (ws.drop i) xs kn = R) :
    1 ≤ y.length ∧ y.length ≤ 20 ∧ ((wordC y = true ∧ PySem.NumText.AllDigits y.cps.toList ∧ okW n (ws.drop (i + 1)) (numC y) = true ∧ wwGo (ws.drop (i + 1)) xs (numC y) = R) ∨
      (wordC y = false ∧ kn < n ∧ okW n (ws.drop (i + 1)) (kn + 1) = true ∧ wwGo (ws.drop (i + 1)) (xs.set kn y) (kn + 1) = R)) := by
  obtain ⟨hi, e⟩ := List.getElem?_eq_some_iff.mp hy
  rw [List.drop_eq_getElem_cons hi, e] at h4 h5
  simp only [okW, wwGo, Bool.and_eq_true, Nat.ble_eq] at h4 h5
  refine ⟨h4.1.1, h4.1.2, ?_⟩
  cases hw : wordC y
  · rw [hw] at h4 h5
    simp only [Bool.false_eq_true, if_false, Bool.and_eq_true, Nat.blt_eq] at h4 h5
    exact .inr ⟨rfl, h4.2.1, h4.2.2, h5⟩
  · rw [hw] at h4 h5
    simp only [if_true, Bool.and_eq_true] at h4 h5
    refine .inl ⟨rfl, fun c hc => ?_, h4.2.2, h5⟩
    have := List.all_eq_true.mp h4.2.1 c hc
    simp only [Bool.and_eq_true, Nat.ble_eq] at this
    exact this
section
variable {prog : Program} {w : World} {A : Around} {E : Value → Shared → Prop} {s : Shared} {Q : Value → Shared → Prop} {t u : Tok} {y : Str}
theorem fig_in (hl : 1 ≤ y.length) (h : Q (.bool (wordC y)) s) : wpAny (model prog w) A (compareOp .In (.str (Txt.item y 0) u) (.str (Str.ofString "0123456789") t)) Q E s := by
  cases e : y.cps.toList with
  | nil =>
    have : y.length = 0 := by have := congrArg List.length e; simpa [Str.length] using this
    omega
  | cons c r =>
    rw [item0 e, figS_lit]
    refine PyProof.Rows.in_str ?_
    rw [StrLaws.found_one, fig_mem]
    unfold wordC at h
    rw [e] at h
    exact h
theorem fig_in_yes (hl : 1 ≤ y.length) (e : wordC y = true) (h : Q (.bool true) s) : wpAny (model prog w) A (compareOp .In (.str (Txt.item y 0) u) (.str (Str.ofString "0123456789") t)) Q E s := fig_in hl (by rw [e]; exact h)
theorem fig_in_no (hl : 1 ≤ y.length) (e : wordC y = false) (h : Q (.bool false) s) : wpAny (model prog w) A (compareOp .In (.str (Txt.item y 0) u) (.str (Str.ofString "0123456789") t)) Q E s := fig_in hl (by rw [e]; exact h)
theorem int_word (hd : PySem.NumText.AllDigits y.cps.toList) (h1 : 1 ≤ y.length) (h2 : y.length ≤ 20) (h : Q (.int (numC y : Nat) s.toks) { s with toks := s.toks + 1 }) : wpAny (model prog w) A (call (.type "int") [.str y t]) Q E s := by
  have hne : y.cps.toList ≠ [] := by
    intro e
    have := congrArg List.length e
    simp only [Array.length_toList, List.length_nil] at this
    have : y.length = 0 := this
    omega
  exact KIN.call_text (PySem.intText_digits hd hne (by omega)) (by omega) h
end
theorem c_with_words (w : World) (l : Addr) (vs : List Value) (nn : Nat) (xs ws : List Str) (x : Str) (t : Tok) (hx : Txt.words x = ws) (hz : x.length + 2 ≤ sizeLine) (hv : StrsAre vs xs) (hn : xs.length ≤ 256) (hok : okW xs.length ws 0 = true) :
    CallsTo 4 w 82 [.ref l, .str x t] [(l, listOf vs.toArray nn)] (PTexts (wwGo ws xs 0)) := by
  dsimp only [CallsTo, CallsIn, PRG, LOOSE, CAround]
  k_fill
  intro mean mg mb dp un gd cn cs a ccd cl outer A₀ base h₀ L m s Q E B₀ F₀ X₀ N₀ T₀ hk₀ hd₀ hu₀ hret
  refine wpAny_call ?_
  k_dflt (refine' enter ?k1 ?k2 ?k3 ?k4 ?k5 ?kA ?kF ?kK ?k6 ?k7 ?k8 ?k9 ?kB ?_ ?c2 ?c3 ?c4 ?c5; (case kA => exact rfl); (case kF => exact rfl); (case kK => assumption); (case k1 => k_asm); (case k2 => k_asm); (case k3 => k_asm); (case k4 => k_asm); (case k5 => k_asm); (case k6 => k_is); (case k7 => k_is); (case k8 => ktr_room); (case k9 => exact BindsTo.of_eq rfl); (case c5 => decide); (case kB => exact locs rfl); (case c2 => exact rfl); (case c3 => exact rfl); (case c4 => exact rfl); k_whole; intro g' L' h' G1' G2' F' N' B' X' T'; (try dsimp only); (try k_fold))
  k_with_none
  k_with "exec For Name Name cons nil" => (k_here; k_dflt (refine' For_invVF (by k_asm) (by exact rfl) (by exact rfl) ?_))
  k_with "exec For Name Call cons nil" => (k_here; k_dflt (refine' For_invVF (by k_asm) (by exact rfl) (by exact rfl) ?_))
  k_with "compareOp In str str" => (k_here; first | (with_reducible refine fig_in_yes (by assumption) (by assumption) ?_) | (with_reducible refine fig_in_no (by assumption) (by assumption) ?_))
  k_with "call type:int" => (k_here; (with_reducible show wpAny _ _ (call (Value.type "int") [Value.str _ _]) _ _ _); (with_reducible refine int_word (by assumption) (by assumption) (by assumption) ?_))
  k_with "call type:list" => (k_here; (with_reducible show wpAny _ _ (call (Value.type "list") [Value.ref _]) _ _ _); k_dflt (refine list_copyK (by k_asm) (by k_asm) (by kmk_list) ?_ (by rw [List.size_toArray, strs_len (by with_reducible assumption), sizeLine_eq]; omega)); intro D₁ c₁ h₁ F' N' l₁; k_lt l₁)
  k_with "call builtin:str.split" => (k_here; (with_reducible show wpAny _ _ (call (Value.builtin "str.split") [Value.str _ _]) _ _ _); (with_reducible refine split_words (by assumption) (by assumption) (by k_asm) (by k_asm) ?_); intro D₂ vs₂ h₂ k₂ a₂ F' N' l₂; k_lt l₂)
  k_with "setItem ref int str" => (k_here; (with_reducible show wpAny _ _ (setItem (Value.ref _) (Value.int _ _) (Value.str _ _)) _ _ _); k_dflt (refine' set_strs (n := _) (by k_asm) (by k_asm) (by k_upd) (by assumption) (by first | omega | decide) (by first | omega | decide +kernel) (by first | omega | decide) ?_); intro h' F' N' hU')
  k_with "pyIter ref" => (k_here; (with_reducible show wpAny _ _ (pyIter (Value.ref _)) _ _ _); (focus ((rename Fr _ _ _ _ => lF'); (rename News _ _ _ _ => lN'); k_dflt (refine' iter_texts (σ := List Value × List Str × Int × Tok) (fun c => [(D₁, listOf c.1.toArray c₁), (l, listOf vs.toArray nn)]) (fun c => [(Str.ofString "code", .int c.2.2.1 c.2.2.2)]) (fun i c => StrsAre c.1 c.2.1 ∧ c.2.1.length = xs.length ∧ ∃ kn : Nat, c.2.2.1 = kn ∧ okW xs.length (ws.drop i) kn = true ∧ wwGo (ws.drop i) c.2.1 kn = wwGo ws xs 0) (vs, xs, 0, _) rfl lF' lN' (.head _) a₂ (List.forall_mem_cons.mpr ⟨⟨.tail _ (.head _), by k_ne⟩, List.forall_mem_cons.mpr ⟨⟨.tail _ (.tail _ (.head _)), by k_ne⟩, List.forall_mem_nil _⟩⟩) (List.forall_mem_cons.mpr ⟨if_pos rfl, List.forall_mem_nil _⟩) ⟨hv, rfl, 0, rfl, hok, rfl⟩ (fun gg => ⟨?_, ?_⟩)); (clear lF' lN'; rintro i ⟨vs', xs', kk, kt⟩ v hh tk own hi ⟨y, u, hy, rfl⟩ ⟨hI1, hI2, kn, hI3, hI4, hI5⟩ hoff F' N'; dsimp only at hI1 hI2 hI3 hI4 hI5; subst hI3; simp only [lkp] at F'; simp only [List.cons_append, List.nil_append] at N'; obtain ⟨hy1, hy2, hyc⟩ := ww_turn hy hI4 hI5; rcases hyc with ⟨hw, hd, hk1, hk2⟩ | ⟨hw, hk0, hk1, hk2⟩); rotate_left; rotate_left; (clear lF' lN'; rintro ⟨vs', xs', kk, kt⟩ u hh tk ⟨hI1, hI2, kn, hI3, hI4, hI5⟩ F' N'; dsimp only at hI1 hI2 hI3 hI4 hI5; subst hI3; simp only [lkp] at F'; dsimp only at N'); rotate_right; rotate_right)))
  k_steps
  · exact turn_end (vs', xs', (numC y : Int), _) (by k_asm) (by k_asm) (fun p hp => List.mem_append_left own hp) (fun p hp => List.mem_append_right [_, _] hp) rfl ⟨hI1, hI2, numC y, rfl, hk1, hk2⟩ (by intro z hz; by_cases h1 : z = Str.ofString "code" <;> first | exact (if_pos h1).trans (if_pos h1).symm | (simp only [lkp, if_neg h1, if_neg hz]))
  · exact turn_end (vs'.set (kn : Int).toNat (.str y u), xs'.set (kn : Int).toNat y, (kn : Int) + 1, _) (by k_asm) (by k_asm) (fun p hp => List.mem_append_left own hp) (fun p hp => List.mem_append_right [_, _] hp) rfl ⟨by assumption, by simpa using hI2, kn + 1, rfl, hk1, hk2⟩ (by intro z hz; by_cases h1 : z = Str.ofString "code" <;> first | exact (if_pos h1).trans (if_pos h1).symm | (simp only [lkp, if_neg h1, if_neg hz]))
  · dsimp only
    k_steps
    rw [List.drop_eq_nil_of_le (Nat.le_refl _)] at hI5
    exact end_textsM (s := s) (Q := Q) hret G1' N₀ (by k_asm) (by k_asm) (.head _) (List.forall_mem_cons.mpr ⟨.tail _ (.head _), List.forall_mem_nil _⟩) (List.forall_mem_cons.mpr ⟨by k_ne, List.forall_mem_nil _⟩) ((show xs' = wwGo ws xs 0 from hI5) ▸ hI1)
end Mine
end

section
open PySem PySem.W PyProof.Rows PySem.Calls PySem.Spec
set_option Elab.async false
set_option maxRecDepth 100000
set_option maxHeartbeats 0
namespace Mine
theorem topOffBN : True := by
  w_top off
  trivial
section
variable {prog : Program} {w : World} {A : Around} {E : Value → Shared → Prop} {s : Shared} {h₀ : Heap} {L : Addr} {m : Str → Option Value} {news : List (Addr × Obj)} {l : Addr} {x : Int} {u : Tok} {Q : Value → Shared → Prop}
theorem strs_rep (y : Str) (t : Tok) : ∀ n : Nat, StrsAre (List.replicate n (.str y t)) (List.replicate n y)
  | 0 => .nil
  | n + 1 => .cons y t (strs_rep y t n)
theorem flat_one {α : Type} (a : α) : ∀ n : Nat, (List.replicate n [a]).flatten = List.replicate n a
  | 0 => rfl
  | n + 1 => by rw [List.replicate_succ, List.flatten_cons, flat_one a n]; rfl
theorem mul_one {y : Str} {t : Tok} (F : Fr h₀ L s.heap m) (N : News h₀ L s.heap news) (hl : s.heap.IsList l [Value.str y t].toArray) (hlo : 0 ≤ x) (hhi : x ≤ 256)
    (h : ∀ D h', Fr h₀ L h' m → News h₀ L h' ((D, listOf (List.replicate x.toNat (Value.str y t)).toArray 0) :: news) → (∀ p ∈ news, p.1 < D) → StrsAre (List.replicate x.toNat (Value.str y t)) (List.replicate x.toNat y) → Q (.ref D) { s with heap := h' }) :
    wpAny (model prog w) A (binaryOp .Mult (.ref l) (.int x u)) Q E s :=
  KMa.mul F N hl (by omega) (by omega) (by simp only [List.length_cons, List.length_nil]; omega) (flat_one _ _) fun D h' F' N' l1 => h D h' F' N' l1 (strs_rep y t _)
end
theorem use_textsM {kk : Nat} {w : World} {hd : Option Value} {f : Addr} {vs : List Value} {mean : ExcName → Option Value} {mg mb : Str → Option Value} {dp un : Nat} {gd : Option (List Code)} {cn : Str} {cs : Scope} {a : Addr} {ccd : Value} {cl : List (Str × Addr)} {outer : List Env} {A₀ : Around} {base h₀ : Heap} {L : Addr} {m : Str → Option Value} {s : Shared} {Q E : Value → Shared → Prop} {news mu : List (Addr × Obj)} {ys : List Str}
    (C : CallsIn kk hd w f vs mu (PTexts ys)) (B : Below A₀ base outer h₀) (F : Fr h₀ L s.heap m) (X : (Mine.fr.heap_1 w.params).In h₀) (N : News h₀ L s.heap news) (T : Top Mine.viewQ LOOSE mean mg mb h₀) (hk : cs.kind = .function) (hd' : dp + kk < recursionLimit) (hu : un + 16 * kk < cLine) (hmu : ∀ p ∈ mu, p ∈ news)
    (h : ∀ D vs n h' tk', StrsAre vs ys → Fr h₀ L h' m → News h₀ L h' ((D, listOf vs.toArray n) :: news) → LCg.Off1 D news → Q (.ref D) { s with heap := h', toks := tk' }) : wpAny (model PRG w) (CAround hd dp un gd cn cs L a ccd cl outer) (call (.ref f) vs) Q E s :=
  C _ _ _ _ _ _ _ _ _ _ _ _ _ _ _ _ _ _ _ _ B F X (fun p hp => N p (hmu p hp)) T hk hd' hu fun _ h' tk' hp => by
    obtain ⟨k, D, vs', n, rfl, hs, hD, hn⟩ := hp
    refine h D vs' n h' tk' hs (F.keeps k) (fun p hp => ?_) (off1_of hn N)
    rcases List.mem_cons.mp hp with rfl | hp
    · refine ⟨hD, fun q => ?_, ?_⟩
      · obtain ⟨oL, _, _, hL, _⟩ := F.ns
        rw [show D = L from q, hL] at hn; cases hn
      · cases q : h₀.get? D with
        | none => rfl
        | some o => have := F.keep _ _ q; rw [hn] at this; cases this
    · exact N.grown k p hp
noncomputable def bulF (y : Str) : Str := if y = Str.ofString "" then Str.ofString "bullet" else y
theorem c_base_std (w : World) (t : Tok) : CallsTo 8 w 87 [.str (Str.ofString "StandardEncoding") t] [] (PTexts stdN) := by
  dsimp only [CallsTo, CallsIn, PRG, LOOSE, CAround]
  k_fill
  intro mean mg mb dp un gd cn cs a ccd cl outer A₀ base h₀ L m s Q E B₀ F₀ X₀ N₀ T₀ hk₀ hd₀ hu₀ hret
  refine wpAny_call ?_
  k_dflt (refine' enter ?k1 ?k2 ?k3 ?k4 ?k5 ?kA ?kF ?kK ?k6 ?k7 ?k8 ?k9 ?kB ?_ ?c2 ?c3 ?c4 ?c5; (case kA => exact rfl); (case kF => exact rfl); (case kK => assumption); (case k1 => k_asm); (case k2 => k_asm); (case k3 => k_asm); (case k4 => k_asm); (case k5 => k_asm); (case k6 => k_is); (case k7 => k_is); (case k8 => ktr_room); (case k9 => exact BindsTo.of_eq rfl); (case c5 => decide); (case kB => exact locs rfl); (case c2 => exact rfl); (case c3 => exact rfl); (case c4 => exact rfl); k_whole; intro g' L' h' G1' G2' F' N' B' X' T'; (try dsimp only); (try k_fold))
  k_with_none
  k_with "call ref" => (k_here; (with_reducible show wpAny _ _ (call (Value.ref 70) _) _ _ _); k_dflt (refine' use_texts (c_ascii_names _) (by k_asm) (by k_asm) (by k_asm) (by k_asm) (by k_asm) (by first | rfl | assumption) (by first | omega | ((try simp only [depth_in1, depth_deeper, depth_caller]); (try dsimp only); omega)) (by first | omega | ((try simp only [units_in1, units_deeper, Around.mark_units, units_caller]); (try dsimp only); omega)) ?_); intro D' vs' n' h' tk' a' F' N' o1'; (try simp only [LCg.Off1, and_true] at o1'))
  k_with "call ref" => (k_here; (with_reducible show wpAny _ _ (call (Value.ref 75) _) _ _ _); k_dflt (refine' use_texts (c_latin_names _) (by k_asm) (by k_asm) (by k_asm) (by k_asm) (by k_asm) (by first | rfl | assumption) (by first | omega | ((try simp only [depth_in1, depth_deeper, depth_caller]); (try dsimp only); omega)) (by first | omega | ((try simp only [units_in1, units_deeper, Around.mark_units, units_caller]); (try dsimp only); omega)) ?_); intro D' vs' n' h' tk' a' F' N' o1'; (try simp only [LCg.Off1, and_true] at o1'))
  k_with "binaryOp Mult ref int" => (k_here; (with_reducible show wpAny _ _ (binaryOp Operator.Mult (Value.ref _) (Value.int _ _)) _ _ _); k_dflt (refine' mul_one (by k_asm) (by k_asm) (by kmk_list) (by first | omega | decide) (by first | omega | decide) ?_); intro D' h' F' N' l1 a'; (try k_lt l1))
  k_with "binaryOp Add ref ref" => (k_here; (with_reducible show wpAny _ _ (binaryOp _ (Value.ref _) (Value.ref _)) _ _ _); k_dflt (refine' add_strs (by k_asm) (by k_asm) (by kmk_list) (by kmk_list) (by first | with_reducible assumption | exact .cons _ _ .nil) (by first | with_reducible assumption | exact .cons _ _ .nil) (by first | exact Nat.le_of_ble_eq_true (by decide +kernel) | skip) ?_); intro D' us' h' F' N' hU' l1; (try k_lt l1); (try replace hU' := strs_castE (ys := baseN) hU' (by decide +kernel)); (try replace hU' := strs_castE (ys := winB) hU' (by decide +kernel)))
  k_with "call ref" => (k_here; (with_reducible show wpAny _ _ (call (Value.ref 82) [_, Value.str (Str.ofString "39 quoteright 96 quoteleft 161 exclamdown cent sterling fraction yen florin section currency quotesingle quotedblleft guillemotleft guilsinglleft guilsinglright fi fl 177 endash dagger daggerdbl periodcentered 182 paragraph bullet quotesinglbase quotedblbase quotedblright guillemotright ellipsis perthousand 191 questiondown 193 grave acute circumflex tilde macron breve dotaccent dieresis 202 ring cedilla 205 hungarumlaut ogonek caron emdash 225 AE 227 ordfeminine 232 Lslash Oslash OE ordmasculine 241 ae 245 dotlessi 248 lslash oslash oe germandbls") _]) _ _ _); k_dflt (refine' use_textsM (c_with_words _ _ _ _ _ _ _ _ std_words std_len (by with_reducible assumption) (by exact Nat.le_of_ble_eq_true (by decide +kernel)) (by decide +kernel)) (by k_asm) (by k_asm) (by k_asm) (by k_asm) (by k_asm) (by first | rfl | assumption) (by first | omega | ((try simp only [depth_in1, depth_deeper, depth_caller]); (try dsimp only); omega)) (by first | omega | ((try simp only [units_in1, units_deeper, Around.mark_units, units_caller]); (try dsimp only); omega)) (by exact List.forall_mem_cons.mpr ⟨by k_mem, List.forall_mem_nil _⟩) ?_); intro D' vs' n' h' tk' a' F' N' o1'; (try simp only [LCg.Off1, and_true] at o1'); replace a' := strs_castE (ys := stdN) a' (by decide +kernel))
  k_with "call ref" => (k_here; (with_reducible show wpAny _ _ (call (Value.ref 82) [_, Value.str (Str.ofString "128 Adieresis Aring Ccedilla Eacute Ntilde Odieresis Udieresis aacute agrave acircumflex adieresis atilde aring ccedilla eacute egrave ecircumflex edieresis iacute igrave icircumflex idieresis ntilde oacute ograve ocircumflex odieresis otilde uacute ugrave ucircumflex udieresis dagger degree cent sterling section bullet paragraph germandbls registered copyright trademark acute dieresis 174 AE Oslash 177 plusminus 180 yen mu 187 ordfeminine ordmasculine 190 ae oslash questiondown exclamdown logicalnot 196 florin 199 guillemotleft guillemotright ellipsis space Agrave Atilde Otilde OE oe endash emdash quotedblleft quotedblright quoteleft quoteright divide 216 ydieresis Ydieresis fraction currency guilsinglleft guilsinglright fi fl daggerdbl periodcentered quotesinglbase quotedblbase perthousand Acircumflex Ecircumflex Aacute Edieresis Egrave Iacute Icircumflex Idieresis Igrave Oacute Ocircumflex 241 Ograve Uacute Ucircumflex Ugrave dotlessi circumflex tilde macron breve dotaccent ring cedilla hungarumlaut ogonek caron") _]) _ _ _); k_dflt (refine' use_textsM (c_with_words _ _ _ _ _ _ _ _ mac_words mac_len (by with_reducible assumption) (by exact Nat.le_of_ble_eq_true (by decide +kernel)) (by decide +kernel)) (by k_asm) (by k_asm) (by k_asm) (by k_asm) (by k_asm) (by first | rfl | assumption) (by first | omega | ((try simp only [depth_in1, depth_deeper, depth_caller]); (try dsimp only); omega)) (by first | omega | ((try simp only [units_in1, units_deeper, Around.mark_units, units_caller]); (try dsimp only); omega)) (by exact List.forall_mem_cons.mpr ⟨by k_mem, List.forall_mem_nil _⟩) ?_); intro D' vs' n' h' tk' a' F' N' o1'; (try simp only [LCg.Off1, and_true] at o1'); replace a' := strs_castE (ys := macN) a' (by decide +kernel))
  k_with "call ref" => (k_here; (with_reducible show wpAny _ _ (call (Value.ref 82) [_, Value.str (Str.ofString "128 Euro 130 quotesinglbase florin quotedblbase ellipsis dagger daggerdbl circumflex perthousand Scaron guilsinglleft OE 142 Zcaron 145 quoteleft quoteright quotedblleft quotedblright bullet endash emdash tilde trademark scaron guilsinglright oe 158 zcaron Ydieresis space") _]) _ _ _); k_dflt (refine' use_textsM (c_with_words _ _ _ _ _ _ _ _ win_words win_len (by with_reducible assumption) (by exact Nat.le_of_ble_eq_true (by decide +kernel)) (by decide +kernel)) (by k_asm) (by k_asm) (by k_asm) (by k_asm) (by k_asm) (by first | rfl | assumption) (by first | omega | ((try simp only [depth_in1, depth_deeper, depth_caller]); (try dsimp only); omega)) (by first | omega | ((try simp only [units_in1, units_deeper, Around.mark_units, units_caller]); (try dsimp only); omega)) (by exact List.forall_mem_cons.mpr ⟨by k_mem, List.forall_mem_nil _⟩) ?_); intro D' vs' n' h' tk' a' F' N' o1'; (try simp only [LCg.Off1, and_true] at o1'); replace a' := strs_castE (ys := winA) a' (by decide +kernel))
  k_steps
  · exact end_texts (s := s) (Q := Q) hret G1' (by k_asm) (by k_asm) (.head _) (by with_reducible assumption)
theorem c_base_mac (w : World) (t : Tok) : CallsTo 8 w 87 [.str (Str.ofString "MacRomanEncoding") t] [] (PTexts macN) := by
  dsimp only [CallsTo, CallsIn, PRG, LOOSE, CAround]
  k_fill
  intro mean mg mb dp un gd cn cs a ccd cl outer A₀ base h₀ L m s Q E B₀ F₀ X₀ N₀ T₀ hk₀ hd₀ hu₀ hret
  refine wpAny_call ?_
  k_dflt (refine' enter ?k1 ?k2 ?k3 ?k4 ?k5 ?kA ?kF ?kK ?k6 ?k7 ?k8 ?k9 ?kB ?_ ?c2 ?c3 ?c4 ?c5; (case kA => exact rfl); (case kF => exact rfl); (case kK => assumption); (case k1 => k_asm); (case k2 => k_asm); (case k3 => k_asm); (case k4 => k_asm); (case k5 => k_asm); (case k6 => k_is); (case k7 => k_is); (case k8 => ktr_room); (case k9 => exact BindsTo.of_eq rfl); (case c5 => decide); (case kB => exact locs rfl); (case c2 => exact rfl); (case c3 => exact rfl); (case c4 => exact rfl); k_whole; intro g' L' h' G1' G2' F' N' B' X' T'; (try dsimp only); (try k_fold))
  k_with_none
  k_with "call ref" => (k_here; (with_reducible show wpAny _ _ (call (Value.ref 70) _) _ _ _); k_dflt (refine' use_texts (c_ascii_names _) (by k_asm) (by k_asm) (by k_asm) (by k_asm) (by k_asm) (by first | rfl | assumption) (by first | omega | ((try simp only [depth_in1, depth_deeper, depth_caller]); (try dsimp only); omega)) (by first | omega | ((try simp only [units_in1, units_deeper, Around.mark_units, units_caller]); (try dsimp only); omega)) ?_); intro D' vs' n' h' tk' a' F' N' o1'; (try simp only [LCg.Off1, and_true] at o1'))
  k_with "call ref" => (k_here; (with_reducible show wpAny _ _ (call (Value.ref 75) _) _ _ _); k_dflt (refine' use_texts (c_latin_names _) (by k_asm) (by k_asm) (by k_asm) (by k_asm) (by k_asm) (by first | rfl | assumption) (by first | omega | ((try simp only [depth_in1, depth_deeper, depth_caller]); (try dsimp only); omega)) (by first | omega | ((try simp only [units_in1, units_deeper, Around.mark_units, units_caller]); (try dsimp only); omega)) ?_); intro D' vs' n' h' tk' a' F' N' o1'; (try simp only [LCg.Off1, and_true] at o1'))
  k_with "binaryOp Mult ref int" => (k_here; (with_reducible show wpAny _ _ (binaryOp Operator.Mult (Value.ref _) (Value.int _ _)) _ _ _); k_dflt (refine' mul_one (by k_asm) (by k_asm) (by kmk_list) (by first | omega | decide) (by first | omega | decide) ?_); intro D' h' F' N' l1 a'; (try k_lt l1))
  k_with "binaryOp Add ref ref" => (k_here; (with_reducible show wpAny _ _ (binaryOp _ (Value.ref _) (Value.ref _)) _ _ _); k_dflt (refine' add_strs (by k_asm) (by k_asm) (by kmk_list) (by kmk_list) (by first | with_reducible assumption | exact .cons _ _ .nil) (by first | with_reducible assumption | exact .cons _ _ .nil) (by first | exact Nat.le_of_ble_eq_true (by decide +kernel) | skip) ?_); intro D' us' h' F' N' hU' l1; (try k_lt l1); (try replace hU' := strs_castE (ys := baseN) hU' (by decide +kernel)); (try replace hU' := strs_castE (ys := winB) hU' (by decide +kernel)))
  k_with "call ref" => (k_here; (with_reducible show wpAny _ _ (call (Value.ref 82) [_, Value.str (Str.ofString "39 quoteright 96 quoteleft 161 exclamdown cent sterling fraction yen florin section currency quotesingle quotedblleft guillemotleft guilsinglleft guilsinglright fi fl 177 endash dagger daggerdbl periodcentered 182 paragraph bullet quotesinglbase quotedblbase quotedblright guillemotright ellipsis perthousand 191 questiondown 193 grave acute circumflex tilde macron breve dotaccent dieresis 202 ring cedilla 205 hungarumlaut ogonek caron emdash 225 AE 227 ordfeminine 232 Lslash Oslash OE ordmasculine 241 ae 245 dotlessi 248 lslash oslash oe germandbls") _]) _ _ _); k_dflt (refine' use_textsM (c_with_words _ _ _ _ _ _ _ _ std_words std_len (by with_reducible assumption) (by exact Nat.le_of_ble_eq_true (by decide +kernel)) (by decide +kernel)) (by k_asm) (by k_asm) (by k_asm) (by k_asm) (by k_asm) (by first | rfl | assumption) (by first | omega | ((try simp only [depth_in1, depth_deeper, depth_caller]); (try dsimp only); omega)) (by first | omega | ((try simp only [units_in1, units_deeper, Around.mark_units, units_caller]); (try dsimp only); omega)) (by exact List.forall_mem_cons.mpr ⟨by k_mem, List.forall_mem_nil _⟩) ?_); intro D' vs' n' h' tk' a' F' N' o1'; (try simp only [LCg.Off1, and_true] at o1'); replace a' := strs_castE (ys := stdN) a' (by decide +kernel))
  k_with "call ref" => (k_here; (with_reducible show wpAny _ _ (call (Value.ref 82) [_, Value.str (Str.ofString "128 Adieresis Aring Ccedilla Eacute Ntilde Odieresis Udieresis aacute agrave acircumflex adieresis atilde aring ccedilla eacute egrave ecircumflex edieresis iacute igrave icircumflex idieresis ntilde oacute ograve ocircumflex odieresis otilde uacute ugrave ucircumflex udieresis dagger degree cent sterling section bullet paragraph germandbls registered copyright trademark acute dieresis 174 AE Oslash 177 plusminus 180 yen mu 187 ordfeminine ordmasculine 190 ae oslash questiondown exclamdown logicalnot 196 florin 199 guillemotleft guillemotright ellipsis space Agrave Atilde Otilde OE oe endash emdash quotedblleft quotedblright quoteleft quoteright divide 216 ydieresis Ydieresis fraction currency guilsinglleft guilsinglright fi fl daggerdbl periodcentered quotesinglbase quotedblbase perthousand Acircumflex Ecircumflex Aacute Edieresis Egrave Iacute Icircumflex Idieresis Igrave Oacute Ocircumflex 241 Ograve Uacute Ucircumflex Ugrave dotlessi circumflex tilde macron breve dotaccent ring cedilla hungarumlaut ogonek caron") _]) _ _ _); k_dflt (refine' use_textsM (c_with_words _ _ _ _ _ _ _ _ mac_words mac_len (by with_reducible assumption) (by exact Nat.le_of_ble_eq_true (by decide +kernel)) (by decide +kernel)) (by k_asm) (by k_asm) (by k_asm) (by k_asm) (by k_asm) (by first | rfl | assumption) (by first | omega | ((try simp only [depth_in1, depth_deeper, depth_caller]); (try dsimp only); omega)) (by first | omega | ((try simp only [units_in1, units_deeper, Around.mark_units, units_caller]); (try dsimp only); omega)) (by exact List.forall_mem_cons.mpr ⟨by k_mem, List.forall_mem_nil _⟩) ?_); intro D' vs' n' h' tk' a' F' N' o1'; (try simp only [LCg.Off1, and_true] at o1'); replace a' := strs_castE (ys := macN) a' (by decide +kernel))
  k_with "call ref" => (k_here; (with_reducible show wpAny _ _ (call (Value.ref 82) [_, Value.str (Str.ofString "128 Euro 130 quotesinglbase florin quotedblbase ellipsis dagger daggerdbl circumflex perthousand Scaron guilsinglleft OE 142 Zcaron 145 quoteleft quoteright quotedblleft quotedblright bullet endash emdash tilde trademark scaron guilsinglright oe 158 zcaron Ydieresis space") _]) _ _ _); k_dflt (refine' use_textsM (c_with_words _ _ _ _ _ _ _ _ win_words win_len (by with_reducible assumption) (by exact Nat.le_of_ble_eq_true (by decide +kernel)) (by decide +kernel)) (by k_asm) (by k_asm) (by k_asm) (by k_asm) (by k_asm) (by first | rfl | assumption) (by first | omega | ((try simp only [depth_in1, depth_deeper, depth_caller]); (try dsimp only); omega)) (by first | omega | ((try simp only [units_in1, units_deeper, Around.mark_units, units_caller]); (try dsimp only); omega)) (by exact List.forall_mem_cons.mpr ⟨by k_mem, List.forall_mem_nil _⟩) ?_); intro D' vs' n' h' tk' a' F' N' o1'; (try simp only [LCg.Off1, and_true] at o1'); replace a' := strs_castE (ys := winA) a' (by decide +kernel))
  k_steps
  · exact end_texts (s := s) (Q := Q) hret G1' (by k_asm) (by k_asm) (.head _) (by with_reducible assumption)
end Mine
end

section
open PySem PySem.W PyProof.Rows PySem.Calls PySem.Spec
set_option Elab.async false
set_option maxRecDepth 100000
set_option maxHeartbeats 0
namespace Mine
theorem topOffBW : True := by
  w_top off
  trivial
theorem bulF_yes {y : Str} (h : (y == Str.ofString "") = true) : Str.ofString "bullet" = bulF y := by
  rw [bulF, if_pos (by simpa using h)]
theorem bulF_no {y : Str} (h : (y == Str.ofString "") = false) : y = bulF y := by
  rw [bulF, if_neg (by simpa using h)]
theorem slb_to {k n : Nat} (h : k ≤ n) : sliceBounds none (some (k : Int)) none n = (((0 : Nat) : Int), (k : Int), 1) := by
  simp [sliceBounds]
  omega
theorem slb_from {k n : Nat} (h : k ≤ n) : sliceBounds (some (k : Int)) none none n = ((k : Int), (n : Int), 1) := by
  simp [sliceBounds]
  omega
theorem slb161 {n : Nat} (h : 161 ≤ n) : sliceBounds none (some 161) none n = (((0 : Nat) : Int), ((161 : Nat) : Int), 1) := slb_to (k := 161) h
theorem slb33 {n : Nat} (h : 33 ≤ n) : sliceBounds none (some 33) none n = (((0 : Nat) : Int), ((33 : Nat) : Int), 1) := slb_to (k := 33) h
theorem slf33 {n : Nat} (h : 33 ≤ n) : sliceBounds (some 33) none none n = (((33 : Nat) : Int), (n : Int), 1) := slb_from (k := 33) h
theorem c_base_win (w : World) (t : Tok) : CallsTo 8 w 87 [.str (Str.ofString "WinAnsiEncoding") t] [] (PTexts winN) := by
  dsimp only [CallsTo, CallsIn, PRG, LOOSE, CAround]
  k_fill
  intro mean mg mb dp un gd cn cs a ccd cl outer A₀ base h₀ L m s Q E B₀ F₀ X₀ N₀ T₀ hk₀ hd₀ hu₀ hret
  refine wpAny_call ?_
  k_dflt (refine' enter ?k1 ?k2 ?k3 ?k4 ?k5 ?kA ?kF ?kK ?k6 ?k7 ?k8 ?k9 ?kB ?_ ?c2 ?c3 ?c4 ?c5; (case kA => exact rfl); (case kF => exact rfl); (case kK => assumption); (case k1 => k_asm); (case k2 => k_asm); (case k3 => k_asm); (case k4 => k_asm); (case k5 => k_asm); (case k6 => k_is); (case k7 => k_is); (case k8 => ktr_room); (case k9 => exact BindsTo.of_eq rfl); (case c5 => decide); (case kB => exact locs rfl); (case c2 => exact rfl); (case c3 => exact rfl); (case c4 => exact rfl); k_whole; intro g' L' h' G1' G2' F' N' B' X' T'; (try dsimp only); (try k_fold))
  k_with_none
  k_with "call ref" => (k_here; (with_reducible show wpAny _ _ (call (Value.ref 70) _) _ _ _); k_dflt (refine' use_texts (c_ascii_names _) (by k_asm) (by k_asm) (by k_asm) (by k_asm) (by k_asm) (by first | rfl | assumption) (by first | omega | ((try simp only [depth_in1, depth_deeper, depth_caller]); (try dsimp only); omega)) (by first | omega | ((try simp only [units_in1, units_deeper, Around.mark_units, units_caller]); (try dsimp only); omega)) ?_); intro D' vs' n' h' tk' a' F' N' o1'; (try simp only [LCg.Off1, and_true] at o1'))
  k_with "call ref" => (k_here; (with_reducible show wpAny _ _ (call (Value.ref 75) _) _ _ _); k_dflt (refine' use_texts (c_latin_names _) (by k_asm) (by k_asm) (by k_asm) (by k_asm) (by k_asm) (by first | rfl | assumption) (by first | omega | ((try simp only [depth_in1, depth_deeper, depth_caller]); (try dsimp only); omega)) (by first | omega | ((try simp only [units_in1, units_deeper, Around.mark_units, units_caller]); (try dsimp only); omega)) ?_); intro D' vs' n' h' tk' a' F' N' o1'; (try simp only [LCg.Off1, and_true] at o1'))
  k_with "binaryOp Mult ref int" => (k_here; (with_reducible show wpAny _ _ (binaryOp Operator.Mult (Value.ref _) (Value.int _ _)) _ _ _); k_dflt (refine' mul_one (by k_asm) (by k_asm) (by kmk_list) (by first | omega | decide) (by first | omega | decide) ?_); intro D' h' F' N' l1 a'; (try k_lt l1))
  k_with "binaryOp Add ref ref" => (k_here; (with_reducible show wpAny _ _ (binaryOp _ (Value.ref _) (Value.ref _)) _ _ _); k_dflt (refine' add_strs (by k_asm) (by k_asm) (by kmk_list) (by kmk_list) (by first | with_reducible assumption | exact .cons _ _ .nil) (by first | with_reducible assumption | exact .cons _ _ .nil) (by first | exact Nat.le_of_ble_eq_true (by decide +kernel) | skip) ?_); intro D' us' h' F' N' hU' l1; (try k_lt l1); (try replace hU' := strs_castE (ys := baseN) hU' (by decide +kernel)); (try replace hU' := strs_castE (ys := winB) hU' (by decide +kernel)))
  k_with "call ref" => (k_here; (with_reducible show wpAny _ _ (call (Value.ref 82) [_, Value.str (Str.ofString "39 quoteright 96 quoteleft 161 exclamdown cent sterling fraction yen florin section currency quotesingle quotedblleft guillemotleft guilsinglleft guilsinglright fi fl 177 endash dagger daggerdbl periodcentered 182 paragraph bullet quotesinglbase quotedblbase quotedblright guillemotright ellipsis perthousand 191 questiondown 193 grave acute circumflex tilde macron breve dotaccent dieresis 202 ring cedilla 205 hungarumlaut ogonek caron emdash 225 AE 227 ordfeminine 232 Lslash Oslash OE ordmasculine 241 ae 245 dotlessi 248 lslash oslash oe germandbls") _]) _ _ _); k_dflt (refine' use_textsM (c_with_words _ _ _ _ _ _ _ _ std_words std_len (by with_reducible assumption) (by exact Nat.le_of_ble_eq_true (by decide +kernel)) (by decide +kernel)) (by k_asm) (by k_asm) (by k_asm) (by k_asm) (by k_asm) (by first | rfl | assumption) (by first | omega | ((try simp only [depth_in1, depth_deeper, depth_caller]); (try dsimp only); omega)) (by first | omega | ((try simp only [units_in1, units_deeper, Around.mark_units, units_caller]); (try dsimp only); omega)) (by exact List.forall_mem_cons.mpr ⟨by k_mem, List.forall_mem_nil _⟩) ?_); intro D' vs' n' h' tk' a' F' N' o1'; (try simp only [LCg.Off1, and_true] at o1'); replace a' := strs_castE (ys := stdN) a' (by decide +kernel))
  k_with "call ref" => (k_here; (with_reducible show wpAny _ _ (call (Value.ref 82) [_, Value.str (Str.ofString "128 Adieresis Aring Ccedilla Eacute Ntilde Odieresis Udieresis aacute agrave acircumflex adieresis atilde aring ccedilla eacute egrave ecircumflex edieresis iacute igrave icircumflex idieresis ntilde oacute ograve ocircumflex odieresis otilde uacute ugrave ucircumflex udieresis dagger degree cent sterling section bullet paragraph germandbls registered copyright trademark acute dieresis 174 AE Oslash 177 plusminus 180 yen mu 187 ordfeminine ordmasculine 190 ae oslash questiondown exclamdown logicalnot 196 florin 199 guillemotleft guillemotright ellipsis space Agrave Atilde Otilde OE oe endash emdash quotedblleft quotedblright quoteleft quoteright divide 216 ydieresis Ydieresis fraction currency guilsinglleft guilsinglright fi fl daggerdbl periodcentered quotesinglbase quotedblbase perthousand Acircumflex Ecircumflex Aacute Edieresis Egrave Iacute Icircumflex Idieresis Igrave Oacute Ocircumflex 241 Ograve Uacute Ucircumflex Ugrave dotlessi circumflex tilde macron breve dotaccent ring cedilla hungarumlaut ogonek caron") _]) _ _ _); k_dflt (refine' use_textsM (c_with_words _ _ _ _ _ _ _ _ mac_words mac_len (by with_reducible assumption) (by exact Nat.le_of_ble_eq_true (by decide +kernel)) (by decide +kernel)) (by k_asm) (by k_asm) (by k_asm) (by k_asm) (by k_asm) (by first | rfl | assumption) (by first | omega | ((try simp only [depth_in1, depth_deeper, depth_caller]); (try dsimp only); omega)) (by first | omega | ((try simp only [units_in1, units_deeper, Around.mark_units, units_caller]); (try dsimp only); omega)) (by exact List.forall_mem_cons.mpr ⟨by k_mem, List.forall_mem_nil _⟩) ?_); intro D' vs' n' h' tk' a' F' N' o1'; (try simp only [LCg.Off1, and_true] at o1'); replace a' := strs_castE (ys := macN) a' (by decide +kernel))
  k_with "call ref" => (k_here; (with_reducible show wpAny _ _ (call (Value.ref 82) [_, Value.str (Str.ofString "128 Euro 130 quotesinglbase florin quotedblbase ellipsis dagger daggerdbl circumflex perthousand Scaron guilsinglleft OE 142 Zcaron 145 quoteleft quoteright quotedblleft quotedblright bullet endash emdash tilde trademark scaron guilsinglright oe 158 zcaron Ydieresis space") _]) _ _ _); k_dflt (refine' use_textsM (c_with_words _ _ _ _ _ _ _ _ win_words win_len (by with_reducible assumption) (by exact Nat.le_of_ble_eq_true (by decide +kernel)) (by decide +kernel)) (by k_asm) (by k_asm) (by k_asm) (by k_asm) (by k_asm) (by first | rfl | assumption) (by first | omega | ((try simp only [depth_in1, depth_deeper, depth_caller]); (try dsimp only); omega)) (by first | omega | ((try simp only [units_in1, units_deeper, Around.mark_units, units_caller]); (try dsimp only); omega)) (by exact List.forall_mem_cons.mpr ⟨by k_mem, List.forall_mem_nil _⟩) ?_); intro D' vs' n' h' tk' a' F' N' o1'; (try simp only [LCg.Off1, and_true] at o1'); replace a' := strs_castE (ys := winA) a' (by decide +kernel))
  k_with "subscriptTail Name Slice ref ref" => (k_here; (with_reducible show wpAny _ _ (subscriptTail _ (PySem.Expr.Slice _ _ none _) (Value.ref _) (Value.ref _)) _ _ _); k_dflt (refine' slice_strs _ _ (by k_asm) (by k_asm) (by kmk_list) (by kmk_part) (by kmk_part) (by with_reducible assumption) (by first | (refine slb161 ?_; exact Nat.le_of_ble_eq_true (by decide +kernel)) | (refine slb33 ?_; exact Nat.le_of_ble_eq_true (by decide +kernel)) | (refine slf33 ?_; exact Nat.le_of_ble_eq_true (by decide +kernel))) ?_ (by with_unfolding_all rfl) (by kmk_pure) (by exact Nat.le_of_ble_eq_true (by decide +kernel))); intro D' ws' h' F' N' hS' l1; (try k_lt l1); (first | replace hS' := strs_castE (ys := win161) hS' (by decide +kernel) | replace hS' := strs_castE (ys := win33) hS' (by decide +kernel) | replace hS' := strs_castE (ys := winT) hS' (by decide +kernel)))
  k_with "eval ListComp" => (k_here; k_dflt (refine LCg.ListComp_U (F₀ := by k_asm) (by with_unfolding_all rfl) (by decide) (by rfl) (by decide) (by rfl) ?_))
  k_with "CompSrc" => (k_here; k_dflt (refine LCg.CompSrc.ledger (by rfl) (by k_asm) (by k_asm) (by k_mem) (by rw [List.size_toArray, strs_len (by with_reducible assumption)]; exact Nat.le_of_ble_eq_true (by decide +kernel)) ?_; intro g'; refine' comp_texts bulF (by with_reducible assumption) (fun y' t' I' oI' C' oC' D' m' ys' h' tk' E' hy' hC' hx' F' N' off' ne' => ?_) (fun ys' hy' => ?_)))
  k_with "CompEnd" => (refine LCg.CompEnd.intro (by with_reducible assumption) (by with_reducible assumption) _ (fun _ hp => hp) (by with_reducible assumption) (by first | exact True.intro | exact Or.inr ⟨_, by k_mem, rfl, _, rfl⟩) ?_)
  k_steps
  · exact ⟨rfl, _, congrArg (fun z => Value.str z _) (bulF_yes (by with_reducible assumption))⟩
  · exact ⟨rfl, _, congrArg (fun z => Value.str z _) (bulF_no (by with_reducible assumption))⟩
  · dsimp only
    k_steps
    exact end_texts (s := s) (Q := Q) hret G1' (by k_asm) (by k_asm) (.head _) (strs_castE (by with_reducible assumption) (by decide +kernel))
end Mine
end

section
open PySem PySem.W PyProof.Rows PySem.Calls PySem.Spec
set_option Elab.async false
set_option maxRecDepth 100000
set_option maxHeartbeats 0
namespace Mine
theorem topOffLT : True := by
  w_top off
  trivial
local macro_rules | `(tactic| walk_at $s:str) => `(tactic| k_extra $s)
noncomputable def lawStd : List Int := [161, 162, 163, 8260, 165, 402, 167, 164, 39, 8220, 171, 8249, 8250, 64257, 64258, 0, 8211, 8224, 8225, 183, 0, 182, 8226, 8218, 8222, 8221, 187, 8230, 8240, 0, 191, 0, 96, 180, 710, 732, 175, 728, 729, 168, 0, 730, 184, 0, 733, 731, 711, 8212]
noncomputable def lawWin : List Int := [8364, 8226, 8218, 402, 8222, 8230, 8224, 8225, 710, 8240, 352, 8249, 338, 8226, 381, 8226, 8226, 8216, 8217, 8220, 8221, 8226, 8211, 8212, 732, 8482, 353, 8250, 339, 8226, 382, 376]
noncomputable def lawMac : List Int := [196, 197, 199, 201, 209, 214, 220, 225, 224, 226, 228, 227, 229, 231, 233, 232, 234, 235, 237, 236, 238, 239, 241, 243, 242, 244, 246, 245, 250, 249, 251, 252, 8224, 176, 162, 163, 167, 8226, 182, 223, 174, 169, 8482, 180, 168, 0, 198, 216, 0, 177, 0, 0, 165, 181, 0, 0, 0, 0, 0, 170, 186, 0, 230, 248, 191, 161, 172, 0, 402, 0, 0, 171, 187, 8230, 32, 192, 195, 213, 338, 339, 8211, 8212, 8220, 8221, 8216, 8217, 247, 0, 255, 376, 8260, 164, 8249, 8250, 64257, 64258, 8225, 183, 8218, 8222, 8240, 194, 202, 193, 203, 200, 205, 206, 207, 204, 211, 212, 0, 210, 218, 219, 217, 305, 710, 732, 175, 728, 729, 730, 184, 733, 731, 711]
noncomputable def lawFar : List (Int × Int) := [(225, 198), (227, 170), (232, 321), (233, 216), (234, 338), (235, 186), (241, 230), (245, 305), (248, 322), (249, 248), (250, 339), (251, 223)]
noncomputable def PInts (ys : List Int) (h : Heap) (v : Value) (h' : Heap) : Prop := Keeps h h' ∧ ∃ (a : Addr) (vs : List Value) (n : Nat), v = .ref a ∧ IntsAre vs ys ∧ h'.get? a = some (listOf vs.toArray n) ∧ h.get? a = none
section
variable {s : Shared} {Q : Value → Shared → Prop} {g h' : Heap} {L' : Addr} {m' : Str → Option Value} {tk : Nat} {news : List (Addr × Obj)}
theorem end_ints {ys : List Int} {a : Addr} {vs : List Value} {n : Nat} (hret : ∀ v h' tk', PInts ys s.heap v h' → Q v { s with heap := h', toks := tk' }) (G : KeepsBut [] s.heap g) (F : Fr g L' h' m') (N : News g L' h' news)
    (hm : (a, listOf vs.toArray n) ∈ news) (hs : IntsAre vs ys) : Q (.ref a) { s with heap := h', toks := tk } :=
  hret _ h' tk ⟨keeps_of G F, a, vs, n, rfl, hs, N.get hm, by
    cases q : s.heap.get? a with
    | none => rfl
    | some o => have := G a o q (by simp); rw [N.fresh hm] at this; cases this⟩
end
theorem use_ints {kk : Nat} {w : World} {hd : Option Value} {f : Addr} {vs : List Value} {mean : ExcName → Option Value} {mg mb : Str → Option Value} {dp un : Nat} {gd : Option (List Code)} {cn : Str} {cs : Scope} {a : Addr} {ccd : Value} {cl : List (Str × Addr)} {outer : List Env} {A₀ : Around} {base h₀ : Heap} {L : Addr} {m : Str → Option Value} {s : Shared} {Q E : Value → Shared → Prop} {news : List (Addr × Obj)} {ys : List Int}
    (C : CallsIn kk hd w f vs [] (PInts ys)) (B : Below A₀ base outer h₀) (F : Fr h₀ L s.heap m) (X : (Mine.fr.heap_1 w.params).In h₀) (N : News h₀ L s.heap news) (T : Top Mine.viewQ LOOSE mean mg mb h₀) (hk : cs.kind = .function) (hd' : dp + kk < recursionLimit) (hu : un + 16 * kk < cLine)
    (h : ∀ D vs n h' tk', IntsAre vs ys → Fr h₀ L h' m → News h₀ L h' ((D, listOf vs.toArray n) :: news) → LCg.Off1 D news → Q (.ref D) { s with heap := h', toks := tk' }) : wpAny (model PRG w) (CAround hd dp un gd cn cs L a ccd cl outer) (call (.ref f) vs) Q E s :=
  C _ _ _ _ _ _ _ _ _ _ _ _ _ _ _ _ _ _ _ _ B F X News.nil T hk hd' hu fun _ h' tk' hp => by
    obtain ⟨k, D, vs', n, rfl, hs, hD, hn⟩ := hp
    refine h D vs' n h' tk' hs (F.keeps k) (fun p hp => ?_) (off1_of hn N)
    rcases List.mem_cons.mp hp with rfl | hp
    · refine ⟨hD, fun q => ?_, ?_⟩
      · obtain ⟨oL, _, _, hL, _⟩ := F.ns
        rw [show D = L from q, hL] at hn; cases hn
      · cases q : h₀.get? D with
        | none => rfl
        | some o => have := F.keep _ _ q; rw [hn] at this; cases this
    · exact N.grown k p hp
theorem ints_of_data : ∀ {ys : List Int} {vs : List Value}, DataAre vs (ys.map PyData.int) → IntsAre vs ys
  | [], _, h => by cases h; exact .nil
  | y :: ys, _, h => by
    cases h with
    | cons a b => cases a ({} : Heap); exact .cons _ _ (ints_of_data b)
theorem spliced_ints {M : Model} {A : Around} {E : Value → Shared → Prop} {env : Env} {pos : Pos} {elts : List PySem.Expr} {s : Shared} {Q : List Value → Shared → Prop} (ys : List Int) (hl : tupLitsOf elts = some (ys.map PyData.int))
    (h : ∀ vs tk, IntsAre vs ys → Q vs { s with toks := tk }) : wpAny M A (spliced (backTo pos (starEach elts env))) Q E s :=
  spliced_lits _ _ _ _ hl fun vs tk hv => h vs tk (ints_of_data hv)
theorem c_law_standard (w : World) : CallsTo 2 w 146 [] [] (PInts lawStd) := by
  dsimp only [CallsTo, CallsIn, PRG, LOOSE, CAround]
  k_fill
  intro mean mg mb dp un gd cn cs a ccd cl outer A₀ base h₀ L m s Q E B₀ F₀ X₀ N₀ T₀ hk₀ hd₀ hu₀ hret
  refine wpAny_call ?_
  k_dflt (refine' enter ?k1 ?k2 ?k3 ?k4 ?k5 ?kA ?kF ?kK ?k6 ?k7 ?k8 ?k9 ?kB ?_ ?c2 ?c3 ?c4 ?c5; (case kA => exact rfl); (case kF => exact rfl); (case kK => assumption); (case k1 => k_asm); (case k2 => k_asm); (case k3 => k_asm); (case k4 => k_asm); (case k5 => k_asm); (case k6 => k_is); (case k7 => k_is); (case k8 => ktr_room); (case k9 => exact BindsTo.of_eq rfl); (case c5 => decide); (case kB => exact locs rfl); (case c2 => exact rfl); (case c3 => exact rfl); (case c4 => exact rfl); k_whole; intro g' L' h' G1' G2' F' N' B' X' T'; (try dsimp only); (try k_fold))
  k_with_none
  k_with "spliced" => (refine' spliced_ints lawStd (by kernel_rfl) ?_; intro vs' tk' hv')
  k_steps
  refine end_ints (s := s) (Q := Q) hret G1' (by k_asm) (by k_asm) (.head _) hv'
theorem c_law_win (w : World) : CallsTo 2 w 160 [] [] (PInts lawWin) := by
  dsimp only [CallsTo, CallsIn, PRG, LOOSE, CAround]
  k_fill
  intro mean mg mb dp un gd cn cs a ccd cl outer A₀ base h₀ L m s Q E B₀ F₀ X₀ N₀ T₀ hk₀ hd₀ hu₀ hret
  refine wpAny_call ?_
  k_dflt (refine' enter ?k1 ?k2 ?k3 ?k4 ?k5 ?kA ?kF ?kK ?k6 ?k7 ?k8 ?k9 ?kB ?_ ?c2 ?c3 ?c4 ?c5; (case kA => exact rfl); (case kF => exact rfl); (case kK => assumption); (case k1 => k_asm); (case k2 => k_asm); (case k3 => k_asm); (case k4 => k_asm); (case k5 => k_asm); (case k6 => k_is); (case k7 => k_is); (case k8 => ktr_room); (case k9 => exact BindsTo.of_eq rfl); (case c5 => decide); (case kB => exact locs rfl); (case c2 => exact rfl); (case c3 => exact rfl); (case c4 => exact rfl); k_whole; intro g' L' h' G1' G2' F' N' B' X' T'; (try dsimp only); (try k_fold))
  k_with_none
  k_with "spliced" => (refine' spliced_ints lawWin (by kernel_rfl) ?_; intro vs' tk' hv')
  k_steps
  refine end_ints (s := s) (Q := Q) hret G1' (by k_asm) (by k_asm) (.head _) hv'
theorem c_law_mac (w : World) : CallsTo 2 w 167 [] [] (PInts lawMac) := by
  dsimp only [CallsTo, CallsIn, PRG, LOOSE, CAround]
  k_fill
  intro mean mg mb dp un gd cn cs a ccd cl outer A₀ base h₀ L m s Q E B₀ F₀ X₀ N₀ T₀ hk₀ hd₀ hu₀ hret
  refine wpAny_call ?_
  k_dflt (refine' enter ?k1 ?k2 ?k3 ?k4 ?k5 ?kA ?kF ?kK ?k6 ?k7 ?k8 ?k9 ?kB ?_ ?c2 ?c3 ?c4 ?c5; (case kA => exact rfl); (case kF => exact rfl); (case kK => assumption); (case k1 => k_asm); (case k2 => k_asm); (case k3 => k_asm); (case k4 => k_asm); (case k5 => k_asm); (case k6 => k_is); (case k7 => k_is); (case k8 => ktr_room); (case k9 => exact BindsTo.of_eq rfl); (case c5 => decide); (case kB => exact locs rfl); (case c2 => exact rfl); (case c3 => exact rfl); (case c4 => exact rfl); k_whole; intro g' L' h' G1' G2' F' N' B' X' T'; (try dsimp only); (try k_fold))
  k_with_none
  k_with "spliced" => (refine' spliced_ints lawMac (by kernel_rfl) ?_; intro vs' tk' hv')
  k_steps
  refine end_ints (s := s) (Q := Q) hret G1' (by k_asm) (by k_asm) (.head _) hv'
theorem c_law_encodings (w : World) : CallsTo 2 w 139 [] [] (PTexts [Str.ofString "StandardEncoding", Str.ofString "WinAnsiEncoding", Str.ofString "MacRomanEncoding"]) := by
  dsimp only [CallsTo, CallsIn, PRG, LOOSE, CAround]
  k_fill
  intro mean mg mb dp un gd cn cs a ccd cl outer A₀ base h₀ L m s Q E B₀ F₀ X₀ N₀ T₀ hk₀ hd₀ hu₀ hret
  refine wpAny_call ?_
  k_dflt (refine' enter ?k1 ?k2 ?k3 ?k4 ?k5 ?kA ?kF ?kK ?k6 ?k7 ?k8 ?k9 ?kB ?_ ?c2 ?c3 ?c4 ?c5; (case kA => exact rfl); (case kF => exact rfl); (case kK => assumption); (case k1 => k_asm); (case k2 => k_asm); (case k3 => k_asm); (case k4 => k_asm); (case k5 => k_asm); (case k6 => k_is); (case k7 => k_is); (case k8 => ktr_room); (case k9 => exact BindsTo.of_eq rfl); (case c5 => decide); (case kB => exact locs rfl); (case c2 => exact rfl); (case c3 => exact rfl); (case c4 => exact rfl); k_whole; intro g' L' h' G1' G2' F' N' B' X' T'; (try dsimp only); (try k_fold))
  k_with_none
  k_steps
  dsimp only
  k_steps
  exact end_texts (s := s) (Q := Q) hret G1' (by k_asm) (by k_asm) (.head _) (.cons _ _ (.cons _ _ (.cons _ _ .nil)))
end Mine
end

section
open PySem PySem.W PyProof.Rows PySem.Calls PySem.Spec
set_option Elab.async false
set_option maxRecDepth 100000
set_option maxHeartbeats 0
namespace Mine
theorem topOffLF : True := by
  w_top off
  trivial
noncomputable def farD : List (PyData × PyData) := lawFar.map fun p => (PyData.int p.1, PyData.int p.2)
noncomputable def PTab (w : World) (D : List (PyData × PyData)) (h : Heap) (v : Value) (h' : Heap) : Prop := Keeps h h' ∧ ∃ (a : Addr) (o : Obj), v = .ref a ∧ h'.get? a = some o ∧ h.get? a = none ∧ IntTab PRG w h' a D
theorem c_law_far (w : World) : CallsTo 2 w 153 [] [] (PTab w farD) := by
  dsimp only [CallsTo, CallsIn, PRG, LOOSE, CAround]
  k_fill
  intro mean mg mb dp un gd cn cs a ccd cl outer A₀ base h₀ L m s Q E B₀ F₀ X₀ N₀ T₀ hk₀ hd₀ hu₀ hret
  refine wpAny_call ?_
  k_dflt (refine' enter ?k1 ?k2 ?k3 ?k4 ?k5 ?kA ?kF ?kK ?k6 ?k7 ?k8 ?k9 ?kB ?_ ?c2 ?c3 ?c4 ?c5; (case kA => exact rfl); (case kF => exact rfl); (case kK => assumption); (case k1 => k_asm); (case k2 => k_asm); (case k3 => k_asm); (case k4 => k_asm); (case k5 => k_asm); (case k6 => k_is); (case k7 => k_is); (case k8 => ktr_room); (case k9 => exact BindsTo.of_eq rfl); (case c5 => decide); (case kB => exact locs rfl); (case c2 => exact rfl); (case c3 => exact rfl); (case c4 => exact rfl); k_whole; intro g' L' h' G1' G2' F' N' B' X' T'; (try dsimp only); (try k_fold))
  k_steps
  dsimp only
  k_steps
  refine hret _ _ _ ⟨keeps_of G1' (by k_asm), _, _, rfl, News.get (by k_asm) (.head _), ?_, TabAt.ofNews (by k_asm) (.head _) (by k_asm) (by k_asm) (by k_asm)⟩
  cases q : s.heap.get? h'.objs.size with
  | none => rfl
  | some o =>
    have h1 := G1' _ _ q (by simp)
    have h2 := Heap.lt_size (F'.keep _ _ h1)
    exact absurd h2 (Nat.lt_irrefl _)
theorem use_tab {kk : Nat} {w : World} {hd : Option Value} {f : Addr} {vs : List Value} {mean : ExcName → Option Value} {mg mb : Str → Option Value} {dp un : Nat} {gd : Option (List Code)} {cn : Str} {cs : Scope} {a : Addr} {ccd : Value} {cl : List (Str × Addr)} {outer : List Env} {A₀ : Around} {base h₀ : Heap} {L : Addr} {m : Str → Option Value} {s : Shared} {Q E : Value → Shared → Prop} {news : List (Addr × Obj)} {D : List (PyData × PyData)}
    (C : CallsIn kk hd w f vs [] (PTab w D)) (B : Below A₀ base outer h₀) (F : Fr h₀ L s.heap m) (X : (Mine.fr.heap_1 w.params).In h₀) (N : News h₀ L s.heap news) (T : Top Mine.viewQ LOOSE mean mg mb h₀) (hk : cs.kind = .function) (hd' : dp + kk < recursionLimit) (hu : un + 16 * kk < cLine)
    (h : ∀ d o h' tk', IntTab PRG w h' d D → Fr h₀ L h' m → News h₀ L h' ((d, o) :: news) → LCg.Off1 d news → Q (.ref d) { s with heap := h', toks := tk' }) : wpAny (model PRG w) (CAround hd dp un gd cn cs L a ccd cl outer) (call (.ref f) vs) Q E s :=
  C _ _ _ _ _ _ _ _ _ _ _ _ _ _ _ _ _ _ _ _ B F X News.nil T hk hd' hu fun _ h' tk' hp => by
    obtain ⟨k, d, o, rfl, hD, hn, hT⟩ := hp
    refine h d o h' tk' hT (F.keeps k) (fun p hp => ?_) (off1_of hn N)
    rcases List.mem_cons.mp hp with rfl | hp
    · refine ⟨hD, fun q => ?_, ?_⟩
      · obtain ⟨oL, _, _, hL, _⟩ := F.ns
        rw [show d = L from q, hL] at hn; cases hn
      · cases q : h₀.get? d with
        | none => rfl
        | some o => have := F.keep _ _ q; rw [hn] at this; cases this
    · exact N.grown k p hp
theorem far_lookup (i : Int) : ∀ l : List (Int × Int), lookup (.int i) (l.map fun p => (PyData.int p.1, PyData.int p.2)) = (l.lookup i).map PyData.int := by
  intro l
  induction l with
  | nil => rfl
  | cons p r ih =>
    obtain ⟨k, v⟩ := p
    simp only [List.map_cons, Spec.lookup, PyProof.V.same_int, List.lookup_cons, decide_eq_true_eq]
    by_cases e : k = i
    · subst e; simp
    · have e' : (i == k) = false := by simpa using fun q => e q.symm
      rw [if_neg e, e']
      exact ih
theorem get_far {w : World} {A : Around} {E : Value → Shared → Prop} {s : Shared} {d : Addr} {i : Int} {t u : Tok} {Q : Value → Shared → Prop} (T : IntTab PRG w s.heap d farD) (h : ∀ t', Q (.int ((lawFar.lookup i).getD 0) t') { s with toks := s.toks + 1 }) :
    wpAny (model PRG w) A (call (.builtin "dict.get") [.ref d, .int i t, .int 0 u]) Q E s := by
  refine call_get2_intTab T (PyProof.V.Flat.int 0 u) fun v hv => ?_
  unfold farD at hv
  rw [far_lookup] at hv
  have hv' : PyProof.V.Flat v (.int ((lawFar.lookup i).getD 0)) := by cases e : lawFar.lookup i <;> rw [e] at hv <;> exact hv
  obtain ⟨t', rfl⟩ := hv'.int_inv
  exact h t'
end Mine
end

section
open PySem PySem.W PyProof.Rows PySem.Calls PySem.Spec
set_option Elab.async false
set_option maxRecDepth 100000
set_option maxHeartbeats 0
namespace Mine
theorem topOffLC : True := by
  w_top off
  trivial
noncomputable def lawCode (way code : Nat) : Int :=
  if code < 32 ∨ (code = 127 ∧ way ≠ 1) then 0
  else if code < 127 then (if way = 0 ∧ code = 39 then 8217 else if way = 0 ∧ code = 96 then 8216 else code)
  else if way = 0 then (if 161 ≤ code ∧ code ≤ 208 then lawStd.getD (code - 161) 0 else (lawFar.lookup (code : Int)).getD 0)
  else if way = 2 then lawMac.getD (code - 128) 0
  else if code = 127 then 8226
  else if code < 160 then lawWin.getD (code - 128) 0
  else if code = 160 then 32 else if code = 173 then 45 else code
section
variable {n : Nat}
theorem z2a (h : n < 32 ∨ n = 127) : 0 = lawCode 2 n := by unfold lawCode; rw [if_pos (by omega)]
theorem z2b (h : 32 ≤ n ∧ n < 127) : (n : Int) = lawCode 2 n := by unfold lawCode; rw [if_neg (by omega), if_pos (by omega), if_neg (by omega), if_neg (by omega)]
theorem z2c (h : 128 ≤ n) : lawMac.getD ((n : Int) - 128).toNat 0 = lawCode 2 n := by unfold lawCode; rw [if_neg (by omega), if_neg (by omega), if_neg (by omega), if_pos rfl, show ((n : Int) - 128).toNat = n - 128 by omega]
theorem z1a (h : n < 32) : 0 = lawCode 1 n := by unfold lawCode; rw [if_pos (by omega)]
theorem z1b (h : n = 127) : 8226 = lawCode 1 n := by subst h; decide
theorem z1c (h : 32 ≤ n ∧ n < 127) : (n : Int) = lawCode 1 n := by unfold lawCode; rw [if_neg (by omega), if_pos (by omega), if_neg (by omega), if_neg (by omega)]
theorem z1d (h : 128 ≤ n ∧ n < 160) : lawWin.getD ((n : Int) - 128).toNat 0 = lawCode 1 n := by unfold lawCode; rw [if_neg (by omega), if_neg (by omega), if_neg (by omega), if_neg (by omega), if_neg (by omega), if_pos (by omega), show ((n : Int) - 128).toNat = n - 128 by omega]
theorem z1e (h : n = 160) : 32 = lawCode 1 n := by subst h; decide
theorem z1f (h : n = 173) : 45 = lawCode 1 n := by subst h; decide
theorem z1g (h : 160 < n ∧ n ≠ 173) : (n : Int) = lawCode 1 n := by unfold lawCode; rw [if_neg (by omega), if_neg (by omega), if_neg (by omega), if_neg (by omega), if_neg (by omega), if_neg (by omega), if_neg (by omega), if_neg (by omega)]
theorem z0a (h : n < 32 ∨ n = 127) : 0 = lawCode 0 n := by unfold lawCode; rw [if_pos (by omega)]
theorem z0b (h : n = 39) : 8217 = lawCode 0 n := by subst h; decide
theorem z0c (h : n = 96) : 8216 = lawCode 0 n := by subst h; decide
theorem z0d (h : 32 ≤ n ∧ n < 127 ∧ n ≠ 39 ∧ n ≠ 96) : (n : Int) = lawCode 0 n := by unfold lawCode; rw [if_neg (by omega), if_pos (by omega), if_neg (by omega), if_neg (by omega)]
theorem z0e (h : 161 ≤ n ∧ n ≤ 208) : lawStd.getD ((n : Int) - 161).toNat 0 = lawCode 0 n := by unfold lawCode; rw [if_neg (by omega), if_neg (by omega), if_pos rfl, if_pos (by omega), show ((n : Int) - 161).toNat = n - 161 by omega]
theorem z0f (h : 127 < n ∧ ¬ (161 ≤ n ∧ n ≤ 208)) : (lawFar.lookup (n : Int)).getD 0 = lawCode 0 n := by unfold lawCode; rw [if_neg (by omega), if_neg (by omega), if_pos rfl, if_neg (by omega)]
end
theorem lawStd_length : lawStd.length = 48 := by decide +kernel
theorem lawWin_length : lawWin.length = 32 := by decide +kernel
theorem lawMac_length : lawMac.length = 128 := by decide +kernel
theorem c_law_code_2 (w : World) (n : Nat) (t u : Tok) (hn : n < 256) : CallsTo 6 w 193 [.int 2 t, .int n u] [] (PVal fun t => .int (lawCode 2 n) t) := by
  dsimp only [CallsTo, CallsIn, PRG, LOOSE, CAround]
  k_fill
  intro mean mg mb dp un gd cn cs a ccd cl outer A₀ base h₀ L m s Q E B₀ F₀ X₀ N₀ T₀ hk₀ hd₀ hu₀ hret
  refine wpAny_call ?_
  k_dflt (refine' enter ?k1 ?k2 ?k3 ?k4 ?k5 ?kA ?kF ?kK ?k6 ?k7 ?k8 ?k9 ?kB ?_ ?c2 ?c3 ?c4 ?c5; (case kA => exact rfl); (case kF => exact rfl); (case kK => assumption); (case k1 => k_asm); (case k2 => k_asm); (case k3 => k_asm); (case k4 => k_asm); (case k5 => k_asm); (case k6 => k_is); (case k7 => k_is); (case k8 => ktr_room); (case k9 => exact BindsTo.of_eq rfl); (case c5 => decide); (case kB => exact locs rfl); (case c2 => exact rfl); (case c3 => exact rfl); (case c4 => exact rfl); k_whole; intro g' L' h' G1' G2' F' N' B' X' T'; (try dsimp only); (try k_fold))
  k_with_none
  k_with "call ref" => (k_here; (with_reducible show wpAny _ _ (call (Value.ref 146) _) _ _ _); k_dflt (refine' use_ints (c_law_standard _) (by k_asm) (by k_asm) (by k_asm) (by k_asm) (by k_asm) (by first | rfl | assumption) (by first | omega | ((try simp only [depth_in1, depth_deeper, depth_caller]); (try dsimp only); omega)) (by first | omega | ((try simp only [units_in1, units_deeper, Around.mark_units, units_caller]); (try dsimp only); omega)) ?_); intro D' vs' n' h' tk' a' F' N' o1'; (try simp only [LCg.Off1, and_true] at o1'))
  k_with "call ref" => (k_here; (with_reducible show wpAny _ _ (call (Value.ref 160) _) _ _ _); k_dflt (refine' use_ints (c_law_win _) (by k_asm) (by k_asm) (by k_asm) (by k_asm) (by k_asm) (by first | rfl | assumption) (by first | omega | ((try simp only [depth_in1, depth_deeper, depth_caller]); (try dsimp only); omega)) (by first | omega | ((try simp only [units_in1, units_deeper, Around.mark_units, units_caller]); (try dsimp only); omega)) ?_); intro D' vs' n' h' tk' a' F' N' o1'; (try simp only [LCg.Off1, and_true] at o1'))
  k_with "call ref" => (k_here; (with_reducible show wpAny _ _ (call (Value.ref 167) _) _ _ _); k_dflt (refine' use_ints (c_law_mac _) (by k_asm) (by k_asm) (by k_asm) (by k_asm) (by k_asm) (by first | rfl | assumption) (by first | omega | ((try simp only [depth_in1, depth_deeper, depth_caller]); (try dsimp only); omega)) (by first | omega | ((try simp only [units_in1, units_deeper, Around.mark_units, units_caller]); (try dsimp only); omega)) ?_); intro D' vs' n' h' tk' a' F' N' o1'; (try simp only [LCg.Off1, and_true] at o1'))
  k_with "subscriptTail Call" => (k_here; (with_reducible show wpAny _ _ (subscriptTail _ _ (Value.ref _) (Value.int _ _)) _ _ _); k_dflt (refine item_anyK (by kmk_list) (by with_reducible assumption) (by omega) (by first | (rw [lawStd_length]; omega) | (rw [lawWin_length]; omega) | (rw [lawMac_length]; omega)) (by omega) ?_); intro t')
  k_with "call ref" => (k_here; (with_reducible show wpAny _ _ (call (Value.ref 153) _) _ _ _); k_dflt (refine' use_tab (c_law_far _) (by k_asm) (by k_asm) (by k_asm) (by k_asm) (by k_asm) (by first | rfl | assumption) (by first | omega | ((try simp only [depth_in1, depth_deeper, depth_caller]); (try dsimp only); omega)) (by first | omega | ((try simp only [units_in1, units_deeper, Around.mark_units, units_caller]); (try dsimp only); omega)) ?_); intro d' o' h' tk' T' F' N' o1'; (try simp only [LCg.Off1, and_true] at o1'))
  k_with "call builtin:dict.get" => (k_here; (with_reducible refine get_far (by assumption) ?_); intro t')
  k_steps
  all_goals (try dsimp only)
  all_goals (try (k_steps; refine end_val (s := s) (Q := Q) hret G1' (by k_asm) _ (congrArg (fun z => Value.int z _) ?_)))
  all_goals (with_reducible first | exact z2a (by omega) | exact z2b (by omega) | exact z2c (by omega))
theorem c_law_code_1 (w : World) (n : Nat) (t u : Tok) (hn : n < 256) : CallsTo 6 w 193 [.int 1 t, .int n u] [] (PVal fun t => .int (lawCode 1 n) t) := by
  dsimp only [CallsTo, CallsIn, PRG, LOOSE, CAround]
  k_fill
  intro mean mg mb dp un gd cn cs a ccd cl outer A₀ base h₀ L m s Q E B₀ F₀ X₀ N₀ T₀ hk₀ hd₀ hu₀ hret
  refine wpAny_call ?_
  k_dflt (refine' enter ?k1 ?k2 ?k3 ?k4 ?k5 ?kA ?kF ?kK ?k6 ?k7 ?k8 ?k9 ?kB ?_ ?c2 ?c3 ?c4 ?c5; (case kA => exact rfl); (case kF => exact rfl); (case kK => assumption); (case k1 => k_asm); (case k2 => k_asm); (case k3 => k_asm); (case k4 => k_asm); (case k5 => k_asm); (case k6 => k_is); (case k7 => k_is); (case k8 => ktr_room); (case k9 => exact BindsTo.of_eq rfl); (case c5 => decide); (case kB => exact locs rfl); (case c2 => exact rfl); (case c3 => exact rfl); (case c4 => exact rfl); k_whole; intro g' L' h' G1' G2' F' N' B' X' T'; (try dsimp only); (try k_fold))
  k_with_none
  k_with "call ref" => (k_here; (with_reducible show wpAny _ _ (call (Value.ref 146) _) _ _ _); k_dflt (refine' use_ints (c_law_standard _) (by k_asm) (by k_asm) (by k_asm) (by k_asm) (by k_asm) (by first | rfl | assumption) (by first | omega | ((try simp only [depth_in1, depth_deeper, depth_caller]); (try dsimp only); omega)) (by first | omega | ((try simp only [units_in1, units_deeper, Around.mark_units, units_caller]); (try dsimp only); omega)) ?_); intro D' vs' n' h' tk' a' F' N' o1'; (try simp only [LCg.Off1, and_true] at o1'))
  k_with "call ref" => (k_here; (with_reducible show wpAny _ _ (call (Value.ref 160) _) _ _ _); k_dflt (refine' use_ints (c_law_win _) (by k_asm) (by k_asm) (by k_asm) (by k_asm) (by k_asm) (by first | rfl | assumption) (by first | omega | ((try simp only [depth_in1, depth_deeper, depth_caller]); (try dsimp only); omega)) (by first | omega | ((try simp only [units_in1, units_deeper, Around.mark_units, units_caller]); (try dsimp only); omega)) ?_); intro D' vs' n' h' tk' a' F' N' o1'; (try simp only [LCg.Off1, and_true] at o1'))
  k_with "call ref" => (k_here; (with_reducible show wpAny _ _ (call (Value.ref 167) _) _ _ _); k_dflt (refine' use_ints (c_law_mac _) (by k_asm) (by k_asm) (by k_asm) (by k_asm) (by k_asm) (by first | rfl | assumption) (by first | omega | ((try simp only [depth_in1, depth_deeper, depth_caller]); (try dsimp only); omega)) (by first | omega | ((try simp only [units_in1, units_deeper, Around.mark_units, units_caller]); (try dsimp only); omega)) ?_); intro D' vs' n' h' tk' a' F' N' o1'; (try simp only [LCg.Off1, and_true] at o1'))
  k_with "subscriptTail Call" => (k_here; (with_reducible show wpAny _ _ (subscriptTail _ _ (Value.ref _) (Value.int _ _)) _ _ _); k_dflt (refine item_anyK (by kmk_list) (by with_reducible assumption) (by omega) (by first | (rw [lawStd_length]; omega) | (rw [lawWin_length]; omega) | (rw [lawMac_length]; omega)) (by omega) ?_); intro t')
  k_with "call ref" => (k_here; (with_reducible show wpAny _ _ (call (Value.ref 153) _) _ _ _); k_dflt (refine' use_tab (c_law_far _) (by k_asm) (by k_asm) (by k_asm) (by k_asm) (by k_asm) (by first | rfl | assumption) (by first | omega | ((try simp only [depth_in1, depth_deeper, depth_caller]); (try dsimp only); omega)) (by first | omega | ((try simp only [units_in1, units_deeper, Around.mark_units, units_caller]); (try dsimp only); omega)) ?_); intro d' o' h' tk' T' F' N' o1'; (try simp only [LCg.Off1, and_true] at o1'))
  k_with "call builtin:dict.get" => (k_here; (with_reducible refine get_far (by assumption) ?_); intro t')
  k_steps
  all_goals (try dsimp only)
  all_goals (try (k_steps; refine end_val (s := s) (Q := Q) hret G1' (by k_asm) _ (congrArg (fun z => Value.int z _) ?_)))
  all_goals (with_reducible first | exact z1a (by omega) | exact z1b (by omega) | exact z1c (by omega) | exact z1d (by omega) | exact z1e (by omega) | exact z1f (by omega) | exact z1g (by omega))
theorem c_law_code_0 (w : World) (n : Nat) (t u : Tok) (hn : n < 256) : CallsTo 6 w 193 [.int 0 t, .int n u] [] (PVal fun t => .int (lawCode 0 n) t) := by
  dsimp only [CallsTo, CallsIn, PRG, LOOSE, CAround]
  k_fill
  intro mean mg mb dp un gd cn cs a ccd cl outer A₀ base h₀ L m s Q E B₀ F₀ X₀ N₀ T₀ hk₀ hd₀ hu₀ hret
  refine wpAny_call ?_
  k_dflt (refine' enter ?k1 ?k2 ?k3 ?k4 ?k5 ?kA ?kF ?kK ?k6 ?k7 ?k8 ?k9 ?kB ?_ ?c2 ?c3 ?c4 ?c5; (case kA => exact rfl); (case kF => exact rfl); (case kK => assumption); (case k1 => k_asm); (case k2 => k_asm); (case k3 => k_asm); (case k4 => k_asm); (case k5 => k_asm); (case k6 => k_is); (case k7 => k_is); (case k8 => ktr_room); (case k9 => exact BindsTo.of_eq rfl); (case c5 => decide); (case kB => exact locs rfl); (case c2 => exact rfl); (case c3 => exact rfl); (case c4 => exact rfl); k_whole; intro g' L' h' G1' G2' F' N' B' X' T'; (try dsimp only); (try k_fold))
  k_with_none
  k_with "call ref" => (k_here; (with_reducible show wpAny _ _ (call (Value.ref 146) _) _ _ _); k_dflt (refine' use_ints (c_law_standard _) (by k_asm) (by k_asm) (by k_asm) (by k_asm) (by k_asm) (by first | rfl | assumption) (by first | omega | ((try simp only [depth_in1, depth_deeper, depth_caller]); (try dsimp only); omega)) (by first | omega | ((try simp only [units_in1, units_deeper, Around.mark_units, units_caller]); (try dsimp only); omega)) ?_); intro D' vs' n' h' tk' a' F' N' o1'; (try simp only [LCg.Off1, and_true] at o1'))
  k_with "call ref" => (k_here; (with_reducible show wpAny _ _ (call (Value.ref 160) _) _ _ _); k_dflt (refine' use_ints (c_law_win _) (by k_asm) (by k_asm) (by k_asm) (by k_asm) (by k_asm) (by first | rfl | assumption) (by first | omega | ((try simp only [depth_in1, depth_deeper, depth_caller]); (try dsimp only); omega)) (by first | omega | ((try simp only [units_in1, units_deeper, Around.mark_units, units_caller]); (try dsimp only); omega)) ?_); intro D' vs' n' h' tk' a' F' N' o1'; (try simp only [LCg.Off1, and_true] at o1'))
  k_with "call ref" => (k_here; (with_reducible show wpAny _ _ (call (Value.ref 167) _) _ _ _); k_dflt (refine' use_ints (c_law_mac _) (by k_asm) (by k_asm) (by k_asm) (by k_asm) (by k_asm) (by first | rfl | assumption) (by first | omega | ((try simp only [depth_in1, depth_deeper, depth_caller]); (try dsimp only); omega)) (by first | omega | ((try simp only [units_in1, units_deeper, Around.mark_units, units_caller]); (try dsimp only); omega)) ?_); intro D' vs' n' h' tk' a' F' N' o1'; (try simp only [LCg.Off1, and_true] at o1'))
  k_with "subscriptTail Call" => (k_here; (with_reducible show wpAny _ _ (subscriptTail _ _ (Value.ref _) (Value.int _ _)) _ _ _); k_dflt (refine item_anyK (by kmk_list) (by with_reducible assumption) (by omega) (by first | (rw [lawStd_length]; omega) | (rw [lawWin_length]; omega) | (rw [lawMac_length]; omega)) (by omega) ?_); intro t')
  k_with "call ref" => (k_here; (with_reducible show wpAny _ _ (call (Value.ref 153) _) _ _ _); k_dflt (refine' use_tab (c_law_far _) (by k_asm) (by k_asm) (by k_asm) (by k_asm) (by k_asm) (by first | rfl | assumption) (by first | omega | ((try simp only [depth_in1, depth_deeper, depth_caller]); (try dsimp only); omega)) (by first | omega | ((try simp only [units_in1, units_deeper, Around.mark_units, units_caller]); (try dsimp only); omega)) ?_); intro d' o' h' tk' T' F' N' o1'; (try simp only [LCg.Off1, and_true] at o1'))
  k_with "call builtin:dict.get" => (k_here; (with_reducible refine get_far (by assumption) ?_); intro t')
  k_steps
  all_goals (try dsimp only)
  all_goals (try (k_steps; refine end_val (s := s) (Q := Q) hret G1' (by k_asm) _ (congrArg (fun z => Value.int z _) ?_)))
  all_goals (with_reducible first | exact z0a (by omega) | exact z0b (by omega) | exact z0c (by omega) | exact z0d (by omega) | exact z0e (by omega) | exact z0f (by omega))
end Mine
end

section
open PySem PySem.W PyProof.Rows PySem.Calls PySem.Spec
set_option Elab.async false
set_option maxRecDepth 100000
set_option maxHeartbeats 0
namespace Mine
theorem topOffHW : True := by
  w_top off
  trivial
noncomputable def hexGo : Nat → Nat → List Nat → List Nat
  | 0, _, l => l
  | k + 1, c, l => hexGo k (c / 16) (hexC (c % 16) :: l)
theorem rng_small {n : Nat} (h : n ≤ 256) : Builtin.Range.small 0 (n : Int) 1 = true := by
  have key : (List.range 257).all (fun k => Builtin.Range.small 0 (k : Int) 1) = true := by decide +kernel
  exact List.all_eq_true.mp key n (by simp; omega)
theorem rng_size (n : Nat) : Builtin.Range.rangeSize 0 (n : Int) 1 = (n : Int) := by
  unfold Builtin.Range.rangeSize
  rw [if_pos (by decide)]
  split <;> omega
theorem hexgo_step {c : Nat} {tx : Str} : (Txt.item (Str.ofString "0123456789ABCDEF") ((c : Int).fmod 16) ++ tx).cps.toList = hexC (c % 16) :: tx.cps.toList := by
  rw [hexC_at]
  simp [Str.cps_append]
theorem fdiv16 (c : Nat) : (c : Int).fdiv 16 = ((c / 16 : Nat) : Int) := by
  rw [Int.fdiv_eq_ediv_of_nonneg _ (by decide : (0 : Int) ≤ 16)]; rfl
theorem hexgo_turn {wd i cn : Nat} {tx : Str} {R : List Nat} (hi : i < wd) (h2 : hexGo (wd - i) cn tx.cps.toList = R) (h3 : tx.length = i) :
    hexGo (wd - (i + 1)) (cn / 16) (Txt.item (Str.ofString "0123456789ABCDEF") ((cn : Int).fmod 16) ++ tx).cps.toList = R ∧ (Txt.item (Str.ofString "0123456789ABCDEF") ((cn : Int).fmod 16) ++ tx).length = i + 1 := by
  rw [hexgo_step]
  have e : wd - i = (wd - (i + 1)) + 1 := by omega
  rw [e] at h2
  refine ⟨h2, ?_⟩
  rw [hexC_at]
  simp only [Str.length, Str.cps_append, Array.size_append] at h3 ⊢
  simp; omega
theorem c_law_hex (w : World) (n wd : Nat) (t u : Tok) (hw : wd ≤ 8) : CallsTo 2 w 200 [.int n t, .int wd u] [] (PVal fun t => .str ⟨(hexGo wd n []).toArray⟩ t) := by
  dsimp only [CallsTo, CallsIn, PRG, LOOSE, CAround]
  k_fill
  intro mean mg mb dp un gd cn cs a ccd cl outer A₀ base h₀ L m s Q E B₀ F₀ X₀ N₀ T₀ hk₀ hd₀ hu₀ hret
  refine wpAny_call ?_
  k_dflt (refine' enter ?k1 ?k2 ?k3 ?k4 ?k5 ?kA ?kF ?kK ?k6 ?k7 ?k8 ?k9 ?kB ?_ ?c2 ?c3 ?c4 ?c5; (case kA => exact rfl); (case kF => exact rfl); (case kK => assumption); (case k1 => k_asm); (case k2 => k_asm); (case k3 => k_asm); (case k4 => k_asm); (case k5 => k_asm); (case k6 => k_is); (case k7 => k_is); (case k8 => ktr_room); (case k9 => exact BindsTo.of_eq rfl); (case c5 => decide); (case kB => exact locs rfl); (case c2 => exact rfl); (case c3 => exact rfl); (case c4 => exact rfl); k_whole; intro g' L' h' G1' G2' F' N' B' X' T'; (try dsimp only); (try k_fold))
  k_with_none
  k_with "exec For Name Name cons nil" => (k_here; k_dflt (refine' For_invVF (by k_asm) (by exact rfl) (by exact rfl) ?_))
  k_with "exec For Name Call cons nil" => (k_here; k_dflt (refine' For_invVF (by k_asm) (by exact rfl) (by exact rfl) ?_))
  k_with "pyIter ref" => (k_here; (with_reducible show wpAny _ _ (pyIter (Value.ref _)) _ _ _); (focus ((rename IsRange _ _ _ _ _ _ _ _ => hR'); (rename Fr _ _ _ _ => lF'); (rename News _ _ _ _ => lN'); k_dflt (refine' iter_range (σ := Str × Int × Tok × Tok) (fun _ => []) (fun c => [(Str.ofString "text", .str c.1 c.2.2.1), (Str.ofString "code", .int c.2.1 c.2.2.2)]) (fun i c => ∃ cn : Nat, c.2.1 = cn ∧ hexGo (wd - i) cn c.1.cps.toList = hexGo wd n [] ∧ c.1.length = i) (Str.ofString "", (n : Int), _, t) rfl hR' (rng_small (by omega)) (rng_size wd) lF' lN' (List.forall_mem_cons.mpr ⟨if_pos rfl, List.forall_mem_cons.mpr ⟨by with_unfolding_all rfl, List.forall_mem_nil _⟩⟩) ⟨n, rfl, rfl, rfl⟩ (fun gg => ⟨?_, ?_⟩)); (clear lF' lN' hR'; rintro i ⟨tx, kk, tt, kt⟩ v hh tk own hi ⟨ti, rfl⟩ ⟨cn, hI1, hI2, hI3⟩ hoff F' N'; dsimp only at hI1 hI2 hI3; subst hI1; simp only [lkp] at F'; simp only [List.nil_append] at N'); rotate_left; (clear lF' lN' hR'; rintro ⟨tx, kk, tt, kt⟩ u hh tk ⟨cn, hI1, hI2, hI3⟩ F' N'; dsimp only at hI1 hI2 hI3; subst hI1; simp only [lkp] at F'; dsimp only at N'); rotate_right)))
  k_steps
  · obtain ⟨e1, e2⟩ := hexgo_turn hi hI2 hI3
    exact turn_end (_, (cn : Int).fdiv 16, _, _) (by k_asm) (by k_asm) (by intro p hp; cases hp) (fun _ hp => hp) rfl ⟨cn / 16, fdiv16 cn, e1, e2⟩ (by intro z hz; by_cases h1 : z = Str.ofString "code" <;> by_cases h2 : z = Str.ofString "text" <;> simp only [lkp, h1, h2, hz, if_true, if_false] <;> rfl)
  · dsimp only
    k_steps
    rw [Nat.sub_self] at hI2
    exact end_val (s := s) (Q := Q) hret G1' (by k_asm) _ (congrArg (fun z => Value.str z _) (by rw [← hI2]; rfl))
end Mine
end

section
open PySem PySem.W PyProof.Rows PySem.Calls PySem.Spec
set_option Elab.async false
set_option maxRecDepth 100000
set_option maxHeartbeats 0
namespace Mine
theorem topOffDR : True := by
  w_top off
  trivial
noncomputable def IsPot (K : Int) (b : Addr) (oa ob : Obj) : Prop := ∃ (st : Int) (t1 : Tok) (pl : Int) (t2 : Tok) (n : Nat) (cs : List Value) (k : Nat) (ns : List Int), oa = listOf [Value.ref b, .int st t1, .int pl t2].toArray n ∧ ob = listOf cs.toArray k ∧ IntsAre cs ns ∧ (∀ x ∈ ns, 0 ≤ x) ∧ ns.length ≤ 40 ∧ 0 ≤ st ∧ 0 ≤ pl ∧ pl ≤ K
noncomputable def PPot (K : Int) (a b : Addr) (R : Value → Heap → Heap → Prop) (h : Heap) (v : Value) (h' : Heap) : Prop :=
  ∃ oa' ob', IsPot K b oa' ob' ∧ h'.get? a = some oa' ∧ h'.get? b = some ob' ∧ (∀ c o, h.get? c = some o → c ≠ a → c ≠ b → h'.get? c = some o) ∧ R v h h'
noncomputable def RInt (lim : Int) (v : Value) (_ _ : Heap) : Prop := ∃ r t, v = .int r t ∧ 0 ≤ r ∧ r < lim
theorem end_pot {s : Shared} {Q : Value → Shared → Prop} {g h' : Heap} {L' : Addr} {m' : Str → Option Value} {v : Value} {tk : Nat} {news : List (Addr × Obj)} {K : Int} {a b : Addr} {oa ob oa' ob' : Obj} {R : Value → Heap → Heap → Prop} (hret : ∀ v h' tk', PPot K a b R s.heap v h' → Q v { s with heap := h', toks := tk' })
    (G : KeepsBut [(a, oa), (b, ob)] s.heap g) (F : Fr g L' h' m') (N : News g L' h' news) (ha : (a, oa') ∈ news) (hb : (b, ob') ∈ news) (hp : IsPot K b oa' ob') (hr : R v s.heap h') : Q v { s with heap := h', toks := tk } :=
  hret v h' tk ⟨oa', ob', hp, (N _ ha).1, (N _ hb).1, fun c o e h1 h2 => F.keep c o (G c o e (by simp [h1, h2])), hr⟩
section
variable {prog : Program} {w : World} {A : Around} {E : Value → Shared → Prop} {s : Shared} {h₀ : Heap} {L D : Addr} {m : Str → Option Value} {news news' : List (Addr × Obj)} {vs : List Value} {v : Value}
theorem set_any {n : Nat} {k : Int} {t : Tok} {Q : Unit → Shared → Prop} (F : Fr h₀ L s.heap m) (N : News h₀ L s.heap news) (U : Upd D (listOf vs.toArray n) (listOf (vs.set k.toNat v).toArray n) news news') (h0 : 0 ≤ k) (h1 : k < vs.length) (hfit : k < 2 ^ 63)
    (h : ∀ h', Fr h₀ L h' m → News h₀ L h' news' → Q () { s with heap := h' }) : wpAny (model prog w) A (setItem (.ref D) (.int k t) v) Q E s := by
  obtain ⟨pre, post, rfl, rfl, a, b⟩ := U.split
  have z := N (D, listOf vs.toArray n) (List.mem_append.mpr (.inr (.head _)))
  have hs : vs.toArray.size = vs.length := List.size_toArray
  refine ki_setAt z.1 h0 hfit (by omega) (h _ (F.change (Heap.SameBut.update ..) z.2.1 z.2.2) (ki_turn _ N a b ?_ ?_))
  · show vs.toArray.setIfInBounds k.toNat v = (vs.set k.toNat v).toArray
    apply Array.toList_inj.mp
    simp
  · simp
end
theorem ints_set {y : Int} {u : Tok} : ∀ {vs : List Value} {ns : List Int}, IntsAre vs ns → ∀ j : Nat, IntsAre (vs.set j (.int y u)) (ns.set j y)
  | _, _, .nil, _ => .nil
  | _, _, .cons _ _ h, 0 => .cons y u h
  | _, _, .cons i t h, j + 1 => .cons i t (ints_set h j)
theorem truthy_ints {prog : Program} {w : World} {A : Around} {E : Value → Shared → Prop} {s : Shared} {l : Addr} {vs : List Value} {ns : List Int} {Q : Bool → Shared → Prop} (hl : s.heap.IsList l vs.toArray) (hi : IntsAre vs ns) (h1 : 0 < ns.length) (h2 : ns.length ≤ 1000) (h : Q true { s with toks := s.toks + 1 + 1 }) : wpAny (model prog w) A (truthy (.ref l)) Q E s := by
  have e : vs.toArray.size = ns.length := by rw [List.size_toArray]; exact hi.length
  refine wpAny_truthy_list hl (by omega) ?_
  have hb : (!vs.isEmpty) = true := by
    cases vs with
    | nil => simp at e; omega
    | cons a r => rfl
  first | exact h | simpa [hb] using h
theorem len_ints {prog : Program} {w : World} {A : Around} {E : Value → Shared → Prop} {s : Shared} {l : Addr} {vs : List Value} {ns : List Int} {Q : Value → Shared → Prop} (hl : s.heap.IsList l vs.toArray) (hi : IntsAre vs ns) (hz : ns.length ≤ 16384) (h : Q (.int (ns.length : Nat) (s.toks + 1)) { s with toks := s.toks + 1 + 1 }) :
    wpAny (model prog w) A (call (.builtin "len") [.ref l]) Q E s :=
  kun_lenL hl (k := (ns.length : Nat)) (by rw [List.size_toArray, hi.length]) (by omega) h
theorem c_draw (w : World) (a b : Addr) (oa ob : Obj) (lim : Int) (t : Tok) (hab : @Ne Nat a b) (K : Int) (hK : K ≤ 1000) (hp : IsPot K b oa ob) (hl : 0 < lim) (hl2 : lim ≤ 1000000000) : CallsTo 2 w 186 [.ref a, .int lim t] [(a, oa), (b, ob)] (PPot (K + 1) a b (RInt lim)) := by
  obtain ⟨st, t1, pl, t2, nn, ce, k, ns, rfl, rfl, hi, h0, h40, hst, hpl, hpk⟩ := hp
  by_cases hne : ns = []
  · subst hne
    cases hi
    dsimp only [CallsTo, CallsIn, PRG, LOOSE, CAround]
    k_fill
    intro mean mg mb dp un gd cn cs a ccd cl outer A₀ base h₀ L m s Q E B₀ F₀ X₀ N₀ T₀ hk₀ hd₀ hu₀ hret
    refine wpAny_call ?_
    k_dflt (refine' enter ?k1 ?k2 ?k3 ?k4 ?k5 ?kA ?kF ?kK ?k6 ?k7 ?k8 ?k9 ?kB ?_ ?c2 ?c3 ?c4 ?c5; (case kA => exact rfl); (case kF => exact rfl); (case kK => assumption); (case k1 => k_asm); (case k2 => k_asm); (case k3 => k_asm); (case k4 => k_asm); (case k5 => k_asm); (case k6 => k_is); (case k7 => k_is); (case k8 => ktr_room); (case k9 => exact BindsTo.of_eq rfl); (case c5 => decide); (case kB => exact locs rfl); (case c2 => exact rfl); (case c3 => exact rfl); (case c4 => exact rfl); k_whole; intro g' L' h' G1' G2' F' N' B' X' T'; (try dsimp only); (try k_fold))
    k_steps
    · dsimp only
      k_steps
      refine end_pot (s := s) (Q := Q) hret G1' (by k_asm) (by k_asm) (.head _) (.tail _ (.head _)) ⟨_, _, _, _, _, _, _, [], rfl, rfl, .nil, h0, h40, Int.fmod_nonneg_of_pos _ (by decide), by omega, by omega⟩ ⟨_, _, rfl, Int.fmod_nonneg_of_pos _ hl, Int.fmod_lt_of_pos _ hl⟩
  · have hn0 : 0 < ns.length := List.length_pos_iff.mpr hne
    have hs0 : 0 ≤ pl.fmod (ns.length : Nat) := Int.fmod_nonneg_of_pos _ (by omega)
    have hs1 : pl.fmod (ns.length : Nat) < (ns.length : Nat) := Int.fmod_lt_of_pos _ (by omega)
    have hcl : ce.length = ns.length := hi.length
    dsimp only [CallsTo, CallsIn, PRG, LOOSE, CAround]
    k_fill
    intro mean mg mb dp un gd cn cs a ccd cl outer A₀ base h₀ L m s Q E B₀ F₀ X₀ N₀ T₀ hk₀ hd₀ hu₀ hret
    refine wpAny_call ?_
    k_dflt (refine' enter ?k1 ?k2 ?k3 ?k4 ?k5 ?kA ?kF ?kK ?k6 ?k7 ?k8 ?k9 ?kB ?_ ?c2 ?c3 ?c4 ?c5; (case kA => exact rfl); (case kF => exact rfl); (case kK => assumption); (case k1 => k_asm); (case k2 => k_asm); (case k3 => k_asm); (case k4 => k_asm); (case k5 => k_asm); (case k6 => k_is); (case k7 => k_is); (case k8 => ktr_room); (case k9 => exact BindsTo.of_eq rfl); (case c5 => decide); (case kB => exact locs rfl); (case c2 => exact rfl); (case c3 => exact rfl); (case c4 => exact rfl); k_whole; intro g' L' h' G1' G2' F' N' B' X' T'; (try dsimp only); (try k_fold))
    k_steps
    · refine end_pot (s := s) (Q := Q) hret G1' (by k_asm) (by k_asm) (.head _) (.tail _ (.head _)) ⟨_, _, _, _, _, _, _, _, rfl, rfl, ints_set hi _, ?_, by rw [List.length_set]; exact h40, hst, by omega, by omega⟩ ⟨_, _, rfl, Int.fmod_nonneg_of_pos _ hl, Int.fmod_lt_of_pos _ hl⟩
      intro x hx
      rcases List.mem_or_eq_of_mem_set hx with hx | rfl
      · exact h0 x hx
      · rw [Int.fdiv_eq_ediv_of_nonneg _ (by omega)]
        exact Int.ediv_nonneg (by omega) (by omega)
    · dsimp only
      k_steps
      exact end_pot (s := s) (Q := Q) hret G1' (by k_asm) (by k_asm) (.head _) (.tail _ (.head _)) ⟨_, _, _, _, _, _, _, _, rfl, rfl, hi, h0, h40, Int.fmod_nonneg_of_pos _ (by decide), by omega, by omega⟩ ⟨_, _, rfl, Int.fmod_nonneg_of_pos _ hl, Int.fmod_lt_of_pos _ hl⟩
end Mine
end

section
open PySem PySem.W PyProof.Rows PySem.Calls PySem.Spec
set_option Elab.async false
set_option maxRecDepth 100000
set_option maxHeartbeats 0
namespace Mine
inductive Rest (a b : Addr) : List (Addr × Obj) → List (Addr × Obj) → Prop
  | nil : Rest a b [] []
  | skipA {o l r} : Rest a b l r → Rest a b ((a, o) :: l) r
  | skipB {o l r} : Rest a b l r → Rest a b ((b, o) :: l) r
  | keep {p l r} : (@Ne Nat p.1 a) → (@Ne Nat p.1 b) → Rest a b l r → Rest a b (p :: l) (p :: r)
theorem Rest.mem {a b : Addr} : ∀ {l r : List (Addr × Obj)}, Rest a b l r → ∀ p ∈ r, p ∈ l ∧ p.1 ≠ a ∧ p.1 ≠ b
  | _, _, .nil, _, h => nomatch h
  | _, _, .skipA x, p, h => let ⟨u, v⟩ := x.mem p h; ⟨.tail _ u, v⟩
  | _, _, .skipB x, p, h => let ⟨u, v⟩ := x.mem p h; ⟨.tail _ u, v⟩
  | _, _, .keep h1 h2 x, p, h => by
    rcases List.mem_cons.mp h with rfl | h
    · exact ⟨.head _, h1, h2⟩
    · let ⟨u, v⟩ := x.mem p h; exact ⟨.tail _ u, v⟩
section
variable {w : World} {mean : ExcName → Option Value} {mg mb : Str → Option Value} {dp un : Nat} {gd : Option (List Code)} {cn : Str} {cs : Scope} {f a : Addr} {ccd : Value} {cl : List (Str × Addr)} {outer : List Env} {A₀ : Around} {base h₀ : Heap} {L : Addr} {m : Str → Option Value} {s : Shared} {Q E : Value → Shared → Prop} {news rest : List (Addr × Obj)} {p q : Addr} {op oq : Obj} {K : Int} {kk : Nat} {hd : Option Value} {vs : List Value} {R : Value → Heap → Heap → Prop}
theorem use_pot (C : CallsIn kk hd w f vs [(p, op), (q, oq)] (PPot K p q R)) (B : Below A₀ base outer h₀) (F : Fr h₀ L s.heap m) (X : (Mine.fr.heap_1 w.params).In h₀) (N : News h₀ L s.heap news) (T : Top Mine.viewQ LOOSE mean mg mb h₀) (hk : cs.kind = .function) (hd' : dp + kk < recursionLimit) (hu : un + 16 * kk < cLine)
    (hp : (p, op) ∈ news) (hq : (q, oq) ∈ news) (hr : Rest p q news rest)
    (h : ∀ v op' oq' h' tk', R v s.heap h' → IsPot K q op' oq' → Fr h₀ L h' m → News h₀ L h' ((p, op') :: (q, oq') :: rest) → (∀ c o, s.heap.get? c = some o → c ≠ p → c ≠ q → h'.get? c = some o) → Q v { s with heap := h', toks := tk' }) :
    wpAny (model PRG w) (CAround hd dp un gd cn cs L a ccd cl outer) (call (.ref f) vs) Q E s :=
  C _ _ _ _ _ _ _ _ _ _ _ _ _ _ _ _ _ _ _ _ B F X (List.forall_mem_cons.mpr ⟨N _ hp, List.forall_mem_cons.mpr ⟨N _ hq, List.forall_mem_nil _⟩⟩) T hk hd' hu fun v h' tk' hpost => by
    obtain ⟨op', oq', hpot, h1, h2, hkp, hR⟩ := hpost
    have np := N _ hp
    have nq := N _ hq
    obtain ⟨oL, x1, x2, hL, x3⟩ := F.ns
    refine h v op' oq' h' tk' hR hpot ⟨⟨oL, x1, x2, hkp _ _ hL (Ne.symm np.2.1) (Ne.symm nq.2.1), x3⟩, fun c o e => ?_, F.above⟩ ?_ hkp
    · refine hkp c o (F.keep c o e) (fun z => ?_) (fun z => ?_)
      · rw [z, np.2.2] at e; cases e
      · rw [z, nq.2.2] at e; cases e
    · refine List.forall_mem_cons.mpr ⟨⟨h1, np.2⟩, List.forall_mem_cons.mpr ⟨⟨h2, nq.2⟩, fun c hc => ?_⟩⟩
      obtain ⟨hm, e1, e2⟩ := hr.mem c hc
      exact ⟨hkp _ _ (N c hm).1 e1 e2, (N c hm).2⟩
theorem use_draw {lim : Int} {t : Tok} (B : Below A₀ base outer h₀) (F : Fr h₀ L s.heap m) (X : (Mine.fr.heap_1 w.params).In h₀) (N : News h₀ L s.heap news) (T : Top Mine.viewQ LOOSE mean mg mb h₀) (hk : cs.kind = .function) (hd' : dp + 2 < recursionLimit) (hu : un + 16 * 2 < cLine)
    (hP : IsPot K q op oq) (hK : K ≤ 1000) (hpq : @Ne Nat p q) (hl : 0 < lim) (hl2 : lim ≤ 1000000000) (hp : (p, op) ∈ news) (hq : (q, oq) ∈ news) (hr : Rest p q news rest)
    (h : ∀ (r : Nat) t op' oq' h' tk', (r : Int) < lim → IsPot (K + 1) q op' oq' → Fr h₀ L h' m → News h₀ L h' ((p, op') :: (q, oq') :: rest) → Q (.int (r : Int) t) { s with heap := h', toks := tk' }) :
    wpAny (model PRG w) (CAround none dp un gd cn cs L a ccd cl outer) (call (.ref 186) [.ref p, .int lim t]) Q E s :=
  use_pot (c_draw w p q op oq lim t hpq K hK hP hl hl2) B F X N T hk hd' hu hp hq hr fun v op' oq' h' tk' hR hpot F' N' _ => by
    obtain ⟨r, t', rfl, h0, h1⟩ := hR
    obtain ⟨rn, rfl⟩ := Int.eq_ofNat_of_zero_le h0
    exact h rn t' op' oq' h' tk' h1 hpot F' N'
end
theorem IsPot.mono {K K' : Int} {b : Addr} {oa ob : Obj} (h : IsPot K b oa ob) (hk : K ≤ K') : IsPot K' b oa ob := by
  obtain ⟨st, t1, pl, t2, n, ce, k, ns, e1, e2, hi, h0, h40, hst, hpl, hpk⟩ := h
  exact ⟨st, t1, pl, t2, n, ce, k, ns, e1, e2, hi, h0, h40, hst, hpl, by omega⟩
section
variable {prog : Program} {w : World} {A : Around} {h₀ : Heap} {L : Addr} {m : Str → Option Value} {env : Env} {elt : Expr} {x : Str} {scope : Scope} {cl : List (Str × Addr)} {s : Shared} {P : Nat → Value → Prop} {Fin : List Value → List (Addr × Obj) → Prop} {rest : List (Addr × Obj)} {α : Type} {a b : Addr}
noncomputable def PotTurn (h₀ : Heap) (L : Addr) (m : Str → Option Value) (s : Shared) (a b : Addr) (K : Int) (front rest : List (Addr × Obj)) (One : Value → α → Prop) (Pr : α → Prop) (y : Value) (s₂ : Shared) : Prop :=
  ∃ h' tk' oa' ob' z, s₂ = { s with heap := h', toks := tk' } ∧ Fr h₀ L h' m ∧ News h₀ L h' ((a, oa') :: (b, ob') :: (front ++ rest)) ∧ IsPot K b oa' ob' ∧ One y z ∧ Pr z
theorem comp_pot {n : Nat} {K : Int} (Are : List Value → List α → Prop) (One : Value → α → Prop) (Pr : α → Prop) (nil : Are [] []) (snoc : ∀ {vs ys v y}, Are vs ys → One v y → Are (vs ++ [v]) (ys ++ [y]))
    (turn : ∀ (i : Nat) (v : Value) I oI C oC D m₂ ys h tk (E' : Value → Shared → Prop) oa ob, i < n → P i v → IsPot (K + i) b oa ob → LCg.NsObj oC m₂ → m₂ x = some v → Fr h₀ L h m → News h₀ L h ((I, oI) :: (C, oC) :: (D, LCg.lst ys) :: (a, oa) :: (b, ob) :: rest) → LCg.Off3 I C D ((a, oa) :: (b, ob) :: rest) → ((@Ne Nat I C) ∧ (@Ne Nat I D) ∧ (@Ne Nat C D)) →
      wpAny (model prog w) A (eval elt (compEnvC scope cl C env)) (PotTurn h₀ L m { s with heap := h, toks := tk } a b (K + i + 1) [(I, oI), (C, oC), (D, LCg.lst ys)] rest One Pr) E' { s with heap := h, toks := tk })
    (fin : ∀ ys zs oa ob, Are ys zs → (∀ z ∈ zs, Pr z) → zs.length = n → IsPot (K + n) b oa ob → Fin ys ((a, oa) :: (b, ob) :: rest)) {oa ob : Obj} (hP : IsPot K b oa ob) :
    LCg.CompRest prog w A h₀ L m env elt x scope cl s (fun _ => True) P Fin n 0 [] ((a, oa) :: (b, ob) :: rest) := by
  have key : ∀ (j i : Nat) (ys : List Value) (zs : List α) (oa ob : Obj), i + j = n → Are ys zs → (∀ z ∈ zs, Pr z) → zs.length = i → IsPot (K + i) b oa ob → LCg.CompRest prog w A h₀ L m env elt x scope cl s (fun _ => True) P Fin j i ys ((a, oa) :: (b, ob) :: rest) := by
    intro j
    induction j with
    | zero =>
      intro i ys zs oa ob hi hy hz hl hp
      have e : i = n := by omega
      subst e
      exact LCg.CompRest.zero (fin ys zs oa ob hy hz hl hp)
    | succ j ih =>
      intro i ys zs oa ob hi hy hz hl hp
      refine LCg.CompRest.succ ?_
      intro v I oI C oC D m₂ h tk E' hv hC hx F N off ne
      refine wpAny_mono (turn i v I oI C oC D m₂ ys h tk E' oa ob (by omega) hv hp hC hx F N off ne) (fun y s₂ hq => ?_) fun _ _ e => e
      obtain ⟨h', tk', oa', ob', z, e, F', N', hp', hy', hz'⟩ := hq
      refine ⟨h', tk', (a, oa') :: (b, ob') :: rest, e, F', fun c hc => N' c ?_, off, trivial, ?_⟩
      · simp only [List.cons_append, List.nil_append, List.mem_cons] at hc ⊢
        rcases hc with h | h | h | h | h | h <;> simp [h]
      · refine ih (i + 1) _ (zs ++ [z]) oa' ob' (by omega) (snoc hy hy') (fun u hu => ?_) (by simp [hl]) (hp'.mono (by omega))
        rcases List.mem_append.mp hu with hu | hu
        · exact hz u hu
        · rw [List.mem_singleton.mp hu]; exact hz'
  exact key n 0 [] [] oa ob (by omega) nil (fun _ h => nomatch h) rfl (hP.mono (by omega))
end
end Mine
end

section
open PySem PySem.W PyProof.Rows PySem.Calls PySem.Spec
set_option Elab.async false
set_option maxRecDepth 100000
set_option maxHeartbeats 0
namespace Mine
theorem topOffPN : True := by
  w_top off
  trivial
noncomputable def plainN : List (Str × Int) := [(Str.ofString "A", 65), (Str.ofString "space", 32), (Str.ofString "hyphen", 45), (Str.ofString "eacute", 233), (Str.ofString "Euro", 8364), (Str.ofString "fi", 64257), (Str.ofString "nine", 57), (Str.ofString "u", 117)]
noncomputable def TUI (p : Str × Int) (t1 t2 : Tok) (n : Nat) : Obj := { cls := .type "tuple", data := .seq [Value.str p.1 t1, Value.int p.2 t2].toArray n }
inductive Tups (h h' : Heap) : List Value → List (Str × Int) → Prop
  | nil : Tups h h' [] []
  | cons {c t1 t2 n p vs ps} : h'.get? c = some (TUI p t1 t2 n) → h.get? c = none → Tups h h' vs ps → Tups h h' (.ref c :: vs) (p :: ps)
noncomputable def PTups (ps : List (Str × Int)) (h : Heap) (v : Value) (h' : Heap) : Prop := Keeps h h' ∧ ∃ D vs n, v = .ref D ∧ h'.get? D = some (listOf vs.toArray n) ∧ h.get? D = none ∧ Tups h h' vs ps
theorem fresh_of {s : Heap} {g h' : Heap} {L' D : Addr} {o : Obj} {news : List (Addr × Obj)} (G : KeepsBut [] s g) (N : News g L' h' news) (hm : (D, o) ∈ news) : s.get? D = none := by
  match e : s.get? D with
  | none => rfl
  | some o => have := G D o e (by simp); rw [(N _ hm).2.2] at this; cases this
theorem tups_cons {s : Heap} {g h' : Heap} {L' c : Addr} {news : List (Addr × Obj)} (G : KeepsBut [] s g) (N : News g L' h' news) {p : Str × Int} {t1 t2 : Tok} {n : Nat} {vs : List Value} {ps : List (Str × Int)} (hm : (c, TUI p t1 t2 n) ∈ news) (r : Tups s h' vs ps) : Tups s h' (.ref c :: vs) (p :: ps) :=
  .cons (N _ hm).1 (fresh_of G N hm) r
theorem c_law_plain (w : World) : CallsTo 2 w 174 [] [] (PTups plainN) := by
  dsimp only [CallsTo, CallsIn, PRG, LOOSE, CAround]
  k_fill
  intro mean mg mb dp un gd cn cs a ccd cl outer A₀ base h₀ L m s Q E B₀ F₀ X₀ N₀ T₀ hk₀ hd₀ hu₀ hret
  refine wpAny_call ?_
  k_dflt (refine' enter ?k1 ?k2 ?k3 ?k4 ?k5 ?kA ?kF ?kK ?k6 ?k7 ?k8 ?k9 ?kB ?_ ?c2 ?c3 ?c4 ?c5; (case kA => exact rfl); (case kF => exact rfl); (case kK => assumption); (case k1 => k_asm); (case k2 => k_asm); (case k3 => k_asm); (case k4 => k_asm); (case k5 => k_asm); (case k6 => k_is); (case k7 => k_is); (case k8 => ktr_room); (case k9 => exact BindsTo.of_eq rfl); (case c5 => decide); (case kB => exact locs rfl); (case c2 => exact rfl); (case c3 => exact rfl); (case c4 => exact rfl); k_whole; intro g' L' h' G1' G2' F' N' B' X' T'; (try dsimp only); (try k_fold))
  k_steps
  refine hret _ _ _ ⟨keeps_of (s := s) G1' (by k_asm), _, [_, _, _, _, _, _, _, _], _, rfl, (News.get (by k_asm) (.head _)), fresh_of G1' (by k_asm) (.head _), ?_⟩
  refine tups_cons (p := (_, _)) G1' (by k_asm) (by k_mem) ?_
  refine tups_cons (p := (_, _)) G1' (by k_asm) (by k_mem) ?_
  refine tups_cons (p := (_, _)) G1' (by k_asm) (by k_mem) ?_
  refine tups_cons (p := (_, _)) G1' (by k_asm) (by k_mem) ?_
  refine tups_cons (p := (_, _)) G1' (by k_asm) (by k_mem) ?_
  refine tups_cons (p := (_, _)) G1' (by k_asm) (by k_mem) ?_
  refine tups_cons (p := (_, _)) G1' (by k_asm) (by k_mem) ?_
  refine tups_cons (p := (_, _)) G1' (by k_asm) (by k_mem) ?_
  exact .nil
section
variable {kk : Nat} {w : World} {hd : Option Value} {f : Addr} {vs : List Value} {mean : ExcName → Option Value} {mg mb : Str → Option Value} {dp un : Nat} {gd : Option (List Code)} {cn : Str} {cs : Scope} {a : Addr} {ccd : Value} {cl : List (Str × Addr)} {outer : List Env} {A₀ : Around} {base h₀ : Heap} {L : Addr} {m : Str → Option Value} {s : Shared} {Q E : Value → Shared → Prop} {news : List (Addr × Obj)}
theorem news_add {h h' : Heap} {D : Addr} {o : Obj} (F : Fr h₀ L h m) (k : Keeps h h') (e : h.get? D = none) (e' : h'.get? D = some o) (N : News h₀ L h' news) : News h₀ L h' ((D, o) :: news) := fun p hp => by
  rcases List.mem_cons.mp hp with rfl | hp
  · refine ⟨e', fun q => ?_, ?_⟩
    · obtain ⟨oL, _, _, hL, _⟩ := F.ns
      rw [show D = L from q, hL] at e; cases e
    · cases q : h₀.get? D with
      | none => rfl
      | some o => have := F.keep _ _ q; rw [e] at this; cases this
  · exact N p hp
theorem use_tups {p0 p1 p2 p3 p4 p5 p6 p7 : Str × Int} (C : CallsIn kk hd w f vs [] (PTups [p0, p1, p2, p3, p4, p5, p6, p7])) (B : Below A₀ base outer h₀) (F : Fr h₀ L s.heap m) (X : (Mine.fr.heap_1 w.params).In h₀) (N : News h₀ L s.heap news) (T : Top Mine.viewQ LOOSE mean mg mb h₀) (hk : cs.kind = .function) (hd' : dp + kk < recursionLimit) (hu : un + 16 * kk < cLine)
    (h : ∀ D n a0 a1 a2 a3 a4 a5 a6 a7 t0 t1 t2 t3 t4 t5 t6 t7 u0 u1 u2 u3 u4 u5 u6 u7 n0 n1 n2 n3 n4 n5 n6 n7 h' tk', Fr h₀ L h' m → News h₀ L h' ((D, listOf [Value.ref a0, .ref a1, .ref a2, .ref a3, .ref a4, .ref a5, .ref a6, .ref a7].toArray n) :: (a0, TUI p0 t0 u0 n0) :: (a1, TUI p1 t1 u1 n1) :: (a2, TUI p2 t2 u2 n2) :: (a3, TUI p3 t3 u3 n3) :: (a4, TUI p4 t4 u4 n4) :: (a5, TUI p5 t5 u5 n5) :: (a6, TUI p6 t6 u6 n6) :: (a7, TUI p7 t7 u7 n7) :: news) →
      LCg.Off1 D news → LCg.Off1 a0 news → LCg.Off1 a1 news → LCg.Off1 a2 news → LCg.Off1 a3 news → LCg.Off1 a4 news → LCg.Off1 a5 news → LCg.Off1 a6 news → LCg.Off1 a7 news → Q (.ref D) { s with heap := h', toks := tk' }) : wpAny (model PRG w) (CAround hd dp un gd cn cs L a ccd cl outer) (call (.ref f) vs) Q E s :=
  C _ _ _ _ _ _ _ _ _ _ _ _ _ _ _ _ _ _ _ _ B F X News.nil T hk hd' hu fun _ h' tk' hp => by
    obtain ⟨k, D, vs', n, rfl, hD, hn, ht⟩ := hp
    cases ht with | cons e0 f0 ht => ?_
    cases ht with | cons e1 f1 ht => ?_
    cases ht with | cons e2 f2 ht => ?_
    cases ht with | cons e3 f3 ht => ?_
    cases ht with | cons e4 f4 ht => ?_
    cases ht with | cons e5 f5 ht => ?_
    cases ht with | cons e6 f6 ht => ?_
    cases ht with | cons e7 f7 ht => ?_
    cases ht
    exact h D n _ _ _ _ _ _ _ _ _ _ _ _ _ _ _ _ _ _ _ _ _ _ _ _ _ _ _ _ _ _ _ _ h' tk' (F.keeps k) (news_add F k hn hD (news_add F k f0 e0 (news_add F k f1 e1 (news_add F k f2 e2 (news_add F k f3 e3 (news_add F k f4 e4 (news_add F k f5 e5 (news_add F k f6 e6 (news_add F k f7 e7 (N.grown k)))))))))) (off1_of hn N) (off1_of f0 N) (off1_of f1 N) (off1_of f2 N) (off1_of f3 N) (off1_of f4 N) (off1_of f5 N) (off1_of f6 N) (off1_of f7 N)
end
end Mine
end

section
open PySem PySem.W PyProof.Rows PySem.Calls PySem.Spec
set_option Elab.async false
set_option maxRecDepth 100000
set_option maxHeartbeats 0
namespace Mine
theorem topOffLP : True := by
  w_top off
  trivial
noncomputable def TUP (nm tx : Str) (t1 t2 : Tok) (n : Nat) : Obj := { cls := .type "tuple", data := .seq [Value.str nm t1, Value.str tx t2].toArray n }
noncomputable def PTup (P : Str → Str → Prop) (v : Value) (h h' : Heap) : Prop := ∃ D nm tx t1 t2 n, v = .ref D ∧ h'.get? D = some (TUP nm tx t1 t2 n) ∧ h.get? D = none ∧ P nm tx
theorem end_tup {s : Shared} {Q : Value → Shared → Prop} {g h' : Heap} {L' : Addr} {m' : Str → Option Value} {tk : Nat} {news : List (Addr × Obj)} {K : Int} {p q D : Addr} {oa ob oa' ob' : Obj} {P : Str → Str → Prop} {nm tx : Str} {t1 t2 : Tok} {n : Nat} (hret : ∀ v h' tk', PPot K p q (PTup P) s.heap v h' → Q v { s with heap := h', toks := tk' })
    (G : KeepsBut [(p, oa), (q, ob)] s.heap g) (F : Fr g L' h' m') (N : News g L' h' news) (ha : (p, oa') ∈ news) (hb : (q, ob') ∈ news) (hm : (D, TUP nm tx t1 t2 n) ∈ news) (h1 : @Ne Nat D p) (h2 : @Ne Nat D q) (hp : IsPot K q oa' ob') (hr : P nm tx) : Q (.ref D) { s with heap := h', toks := tk } :=
  end_pot (s := s) (Q := Q) hret G F N ha hb hp ⟨D, nm, tx, t1, t2, n, rfl, (N _ hm).1, (by
    match e : s.heap.get? D with
    | none => rfl
    | some o => have := G D o e (by simp; exact ⟨h1, h2⟩); rw [(N _ hm).2.2] at this; cases this), hr⟩
theorem rng1_small {n : Nat} (h : n ≤ 200) : Builtin.Range.small 0 (1 + (n : Int)) 1 = true := by
  have := rng_small (n := 1 + n) (by omega)
  simpa using this
theorem rng1_size (n : Nat) : Builtin.Range.rangeSize 0 (1 + (n : Int)) 1 = ((1 + n : Nat) : Int) := by
  have := rng_size (1 + n)
  simpa using this
theorem rng1_line {n : Nat} (h : n ≤ 200) : 1 + n ≤ sizeLine := by rw [sizeLine_eq]; omega
theorem pow16 {r : Nat} (h : r < 3) : 0 < (16 : Int) ^ (4 + (r : Int)).toNat ∧ (16 : Int) ^ (4 + (r : Int)).toNat ≤ 1000000000 := by
  match r, h with
  | 0, _ => decide
  | 1, _ => decide
  | 2, _ => decide
noncomputable def hexT (wd : Nat) (k : Int) : Str := ⟨(hexGo wd k.toNat []).toArray⟩
theorem c_hex_gen (w : World) (k wd : Int) (t u : Tok) (hk : 0 ≤ k) (h0 : 0 ≤ wd) (h8 : wd ≤ 8) : CallsTo 2 w 200 [.int k t, .int wd u] [] (PVal fun t => .str (hexT wd.toNat k) t) := by
  obtain ⟨kn, rfl⟩ := Int.eq_ofNat_of_zero_le hk
  obtain ⟨wn, rfl⟩ := Int.eq_ofNat_of_zero_le h0
  exact c_law_hex w kn wn t u (by omega)
theorem hexGo_len : ∀ (k c : Nat) (l : List Nat), (hexGo k c l).length = k + l.length
  | 0, _, l => by simp [hexGo]
  | k + 1, c, l => by rw [hexGo, hexGo_len k]; simp; omega
theorem hexT_len (wd : Nat) (k : Int) : (hexT wd k).length = wd := by
  show (hexGo wd k.toNat []).toArray.size = wd
  rw [List.size_toArray, hexGo_len]; simp
theorem hex_sum (l : List Int) : ((l.map (hexT 4)).map (·.length)).sum = l.length * 4 := by
  induction l with
  | nil => rfl
  | cons a r ih => simp only [List.map_cons, List.sum_cons, ih, List.length_cons, hexT_len]; omega
theorem chr_sum (l : List Int) : ((l.map chrS).map (·.length)).sum = l.length := by
  induction l with
  | nil => rfl
  | cons a r ih => simp only [List.map_cons, List.sum_cons, ih, List.length_cons]; show 1 + _ = _; omega
theorem hex_join {ns : List Int} (h : ns.length ≤ 3) : ((ns.map (hexT 4)).map (·.length)).sum + (ns.map (hexT 4)).length * 64 ≤ 16777216 := by
  rw [hex_sum, List.length_map]; omega
theorem chr_join {ns : List Int} (h : ns.length ≤ 3) : ((ns.map chrS).map (·.length)).sum + (ns.map chrS).length * 64 ≤ 16777216 := by
  rw [chr_sum, List.length_map]; omega
theorem hexjoin_le {ns : List Int} (h : ns.length ≤ 3) : (Txt.join (Str.ofString "") (ns.map (hexT 4))).length ≤ 1000 := by
  unfold Txt.join
  rw [StrLaws.glued_eq_join]
  have h1 := StrLaws.join_length_le (Str.ofString "") (ns.map (hexT 4))
  rw [hex_sum, show (Str.ofString "").length = 0 by decide] at h1
  omega
theorem hexT_le {wd : Nat} {k : Int} (h : wd ≤ 8) : (hexT wd k).length ≤ 1000 := by rw [hexT_len]; omega
theorem add_smallL {prog : Program} {w : World} {A : Around} {E : Value → Shared → Prop} {s : Shared} {x y : Str} {t u : Tok} {Q : Value → Shared → Prop} (hx : x.length ≤ 1000) (hy : y.length ≤ 1000) (h : ∀ t' k, Q (.str (x ++ y) t') { s with toks := k }) :
    wpAny (model prog w) A (binaryOp .Add (.str x t) (.str y u)) Q E s := SB.add h (by rw [sizeLine_eq]; omega)
noncomputable def goodG (l : List Int) (k : Int) : List Int := if good k = true then l ++ [k] else l
theorem goodG_grows : KPfGrows goodG := by
  intro l k
  unfold goodG
  split <;> simp
theorem goodG_filter (ns : List Int) : ns.foldl goodG [] = ns.filter good := by
  have : ∀ (ns l : List Int), ns.foldl goodG l = l ++ ns.filter good := by
    intro ns
    induction ns with
    | nil => intro l; simp
    | cons a r ih =>
      intro l
      rw [List.foldl_cons, ih, List.filter_cons]
      unfold goodG
      split <;> simp
  simpa using this ns []
theorem one_nn {r : Nat} {k : Int} (h : k ∈ [(r : Int)]) : 0 ≤ k := by
  rw [List.mem_singleton.mp h]; omega
noncomputable def oddN : List Str := [Str.ofString "", Str.ofString "g12", Str.ofString "uni", Str.ofString "uni00e9", Str.ofString "uni00E", Str.ofString "uni00E900", Str.ofString "u00E", Str.ofString "u00000E9", Str.ofString "u00e9", Str.ofString "UNI00E9", Str.ofString "Uac", Str.ofString "uniform"]
inductive PartIs : Str → Str → Prop
  | plain {p : Str × Int} (h : p ∈ plainN) : PartIs p.1 (chrS p.2)
  | uni {ns : List Int} (h : ns.length ≤ 3) (h1 : ∀ z ∈ ns, 0 ≤ z ∧ z < 65536) : PartIs (Str.ofString "uni" ++ Txt.join (Str.ofString "") (ns.map (hexT 4))) (if ns.filter good = ns then Txt.join (Str.ofString "") (ns.map chrS) else Str.ofString "")
  | u {wd : Nat} {k : Int} (h : 4 ≤ wd ∧ wd ≤ 6) (h1 : 0 ≤ k ∧ k < 16 ^ wd) : PartIs (Str.ofString "u" ++ hexT wd k) (if good k = true then chrS k else Str.ofString "")
  | odd {x : Str} (h : x ∈ oddN) : PartIs x (Str.ofString "")
theorem elem_rng {ns : List Int} {k : Int} (h : ∀ z ∈ ns, 0 ≤ z ∧ z < 65536) (hk : k ∈ ns) : 0 ≤ k ∧ k < 65536 := h k hk
theorem one_rng {r : Nat} (h : (r : Int) < 65536) : ∀ z ∈ [(r : Int)], 0 ≤ z ∧ z < 65536 := by
  intro z hz
  rw [List.mem_singleton.mp hz]; omega
theorem chr_elem {prog : Program} {w : World} {A : Around} {E : Value → Shared → Prop} {s : Shared} {Q : Value → Shared → Prop} {k : Int} {t : Tok} {ns : List Int} (h : ∀ z ∈ ns, 0 ≤ z ∧ z < 65536) (hk : k ∈ ns) (hq : Q (.str (chrS k) s.toks) { s with toks := s.toks + 1 }) :
    wpAny (model prog w) A (call (.builtin "chr") [.int k t]) Q E s := chr_ok (h k hk).1 (by have := (h k hk).2; omega) hq
theorem chr_one {prog : Program} {w : World} {A : Around} {E : Value → Shared → Prop} {s : Shared} {Q : Value → Shared → Prop} {k : Int} {t : Tok} {r : Nat} (hr : (r : Int) < 65536) (hk : k ∈ [(r : Int)]) (hq : Q (.str (chrS k) s.toks) { s with toks := s.toks + 1 }) :
    wpAny (model prog w) A (call (.builtin "chr") [.int k t]) Q E s := chr_elem (one_rng hr) hk hq
theorem part_good {ns : List Int} (h : ns.length ≤ 3) (h1 : ∀ z ∈ ns, 0 ≤ z ∧ z < 65536) (e : ns.foldl goodG [] = ns) : PartIs (Str.ofString "uni" ++ Txt.join (Str.ofString "") (ns.map (hexT 4))) (Txt.join (Str.ofString "") (ns.map chrS)) := by
  have := PartIs.uni h h1
  rw [goodG_filter] at e
  rwa [if_pos e] at this
theorem part_bad {ns : List Int} (h : ns.length ≤ 3) (h1 : ∀ z ∈ ns, 0 ≤ z ∧ z < 65536) (e : ¬ ns.foldl goodG [] = ns) : PartIs (Str.ofString "uni" ++ Txt.join (Str.ofString "") (ns.map (hexT 4))) (Str.ofString "") := by
  have := PartIs.uni h h1
  rw [goodG_filter] at e
  rwa [if_neg e] at this
theorem part_ug {wd : Nat} {k : Int} (h : 4 ≤ wd ∧ wd ≤ 6) (h1 : 0 ≤ k ∧ k < 16 ^ wd) (e : good k = true) : PartIs (Str.ofString "u" ++ hexT wd k) (chrS k) := by
  have := PartIs.u h h1
  rwa [if_pos e] at this
theorem part_ub {wd : Nat} {k : Int} (h : 4 ≤ wd ∧ wd ≤ 6) (h1 : 0 ≤ k ∧ k < 16 ^ wd) (e : good k = false) : PartIs (Str.ofString "u" ++ hexT wd k) (Str.ofString "") := by
  have := PartIs.u h h1
  rwa [if_neg (by rw [e]; decide)] at this
theorem part_odd {r : Nat} (h : (r : Int) < 12) : PartIs (oddN.getD (r : Int).toNat Str.empty) (Str.ofString "") := by
  refine .odd ?_
  rw [List.getD_eq_getElem?_getD, List.getElem?_eq_getElem (show (r : Int).toNat < oddN.length by show _ < 12; omega)]
  exact List.getElem_mem _
theorem lt8 {r : Nat} (h : (r : Int) < 8) : (r : Int) = 0 ∨ (r : Int) = 1 ∨ (r : Int) = 2 ∨ (r : Int) = 3 ∨ (r : Int) = 4 ∨ (r : Int) = 5 ∨ (r : Int) = 6 ∨ (r : Int) = 7 := by omega
theorem part_plain {i : Nat} {p : Str × Int} (h : plainN[i]? = some p) : PartIs p.1 (chrS p.2) := .plain (List.mem_of_getElem? h)
theorem cast_no {r : Nat} {k : Int} (h : (r : Int) = k) (h' : ¬ (r : Int) = k) : False := h' h
theorem pot_turn {h₀ : Heap} {L : Addr} {m : Str → Option Value} {s : Shared} {a b : Addr} {K : Int} {front rest nx : List (Addr × Obj)} {One : Value → Int → Prop} {Pr : Int → Prop} {h' : Heap} {tk' : Nat} {oa' ob' : Obj} {y : Value} (z : Int) (F : Fr h₀ L h' m) (N : News h₀ L h' nx) (e : nx = (a, oa') :: (b, ob') :: (front ++ rest)) (hp : IsPot K b oa' ob') (h1 : One y z) (h2 : Pr z) : PotTurn h₀ L m s a b K front rest One Pr y { s with heap := h', toks := tk' } := ⟨h', tk', oa', ob', z, rfl, F, e ▸ N, hp, h1, h2⟩
theorem ite_beq {a b : Int} {x y : Prop} (h : a = b) (hx : x) : if (a == b) = true then x else y := by rw [if_pos (beq_iff_eq.mpr h)]; exact hx
theorem ite_nbeq {a b : Int} {x y : Prop} (h : ¬ a = b) (hy : y) : if (a == b) = true then x else y := by rw [if_neg (fun e => h (beq_iff_eq.mp e))]; exact hy
theorem c_law_part (w : World) (p q : Addr) (oa ob : Obj) (hab : @Ne Nat p q) (K : Int) (hK : K ≤ 900) (hp : IsPot K q oa ob) : CallsTo 6 w 212 [.ref p] [(p, oa), (q, ob)] (PPot (K + 6) p q (PTup PartIs)) := by
  dsimp only [CallsTo, CallsIn, PRG, LOOSE, CAround]
  k_fill
  intro mean mg mb dp un gd cn cs a ccd cl outer A₀ base h₀ L m s Q E B₀ F₀ X₀ N₀ T₀ hk₀ hd₀ hu₀ hret
  refine wpAny_call ?_
  k_dflt (refine' enterC ?k1 ?k2 ?k3 ?k4 ?k5 ?kA ?kF ?kK ?k6 ?k7 ?k8 ?k9 ?kB ?kD ?_ ?c2 ?c3 ?c4; (case kA => exact rfl); (case kF => exact rfl); (case kK => assumption); (case k1 => k_asm); (case k2 => k_asm); (case k3 => k_asm); (case k4 => k_asm); (case k5 => k_asm); (case k6 => k_is); (case k7 => k_is); (case k8 => ktr_room); (case k9 => exact BindsTo.of_eq rfl); (case kB => exact rfl); (case kD => decide +kernel); (case c2 => exact rfl); (case c3 => exact rfl); (case c4 => exact rfl); k_whole; intro g' L' h' tk' cells' G1' G2' F' N' Y' B' X' T' l1; (try k_lt l1); k_cells Y'; (try simp only [List.cons_append, List.nil_append] at N'); (try dsimp only); (try k_fold))
  k_with_none
  k_with "eval ListComp" => (k_here; (with_reducible show wpAny _ _ (eval (PySem.Expr.ListComp _ [⟨_, _, [_], _⟩] _ _) _) _ _ _); k_dflt (refine LCt.ListComp_T (F₀ := by k_asm) (by with_unfolding_all rfl) (by decide) (by rfl) (by decide) (by rfl) ?_))
  k_with "eval ListComp" => (k_here; (with_reducible show wpAny _ _ (eval (PySem.Expr.ListComp _ [⟨_, _, [], _⟩] _ _) _) _ _ _); k_dflt (refine LCg.ListComp_U (F₀ := by k_asm) (by with_unfolding_all rfl) (by decide) (by rfl) (by decide) (by rfl) ?_))
  k_with "CompEnd" => (refine LCg.CompEnd.intro (by with_reducible assumption) (by with_reducible assumption) _ (fun _ hp => hp) (by with_reducible assumption) (by first | exact True.intro | exact Or.inr ⟨_, by k_mem, rfl, _, rfl⟩) ?_)
  k_with "CompSrc" => (k_here; (with_reducible show LCg.CompSrc _ _ _ _ _ _ _ (PySem.Expr.Call (PySem.Expr.Name (Str.ofString "_law_draw") _) _ _ _) _ _ _ _ _ _); k_dflt (refine LCg.CompSrc.range (by rfl) (by k_asm) (by k_asm) (by assumption) (rng1_small (by omega)) (rng1_size _) (rng1_line (by omega)) ?_; intro g'; refine' comp_pot IntsAre OneInt (fun z => 0 ≤ z ∧ z < 65536) .nil ints_snoc (fun i' v' I' oI' C' oC' D' m' ys' h' tk' E' oa' ob' hi' hv' hP' hC' hx' F' N' off' ne' => ?_) (fun ys' zs' oa' ob' hz' hpr' hlz' hP' => ?_) (by with_reducible assumption); (try (simp only [LCg.Off3, and_true] at off'))))
  k_with "CompSrc" => (k_here; (with_reducible show LCg.CompSrc _ _ _ _ _ _ _ (PySem.Expr.Call (PySem.Expr.Name (Str.ofString "_law_hex") _) _ _ _) _ _ _ _ _ _); k_dflt (refine LCg.CompSrc.ledger (by rfl) (by k_asm) (by k_asm) (by k_mem) (by rw [List.size_toArray, IntsAre.length (by first | with_reducible assumption | exact IntsAre.cons _ _ IntsAre.nil)]; rw [sizeLine_eq]; first | omega | (simp only [List.length_cons, List.length_nil]; omega)) ?_; intro g'; refine' comp_ints_over StrsAre OneStr (hexT 4) .nil strs_snoc2 (by first | with_reducible assumption | exact IntsAre.cons _ _ IntsAre.nil) (fun k' t' I' oI' C' oC' D' m' ys' h' tk' E' hk' hC' hx' F' N' off' ne' => ?_) (fun ys' hy' => ?_)))
  k_with "CompSrc" => (k_here; (with_reducible show LCg.CompSrc _ _ _ _ _ _ _ (PySem.Expr.Call (PySem.Expr.Name (Str.ofString "chr") _) _ _ _) _ _ _ _ _ _); k_dflt (refine LCg.CompSrc.ledger (by rfl) (by k_asm) (by k_asm) (by k_mem) (by rw [List.size_toArray, IntsAre.length (by first | with_reducible assumption | exact IntsAre.cons _ _ IntsAre.nil)]; rw [sizeLine_eq]; first | omega | (simp only [List.length_cons, List.length_nil]; omega)) ?_; intro g'; refine' comp_ints_over StrsAre OneStr chrS .nil strs_snoc2 (by first | with_reducible assumption | exact IntsAre.cons _ _ IntsAre.nil) (fun k' t' I' oI' C' oC' D' m' ys' h' tk' E' hk' hC' hx' F' N' off' ne' => ?_) (fun ys' hy' => ?_)))
  k_with "CompSrcT" => (k_here; k_dflt (refine LCt.CompSrcT.ledger (by rfl) (by k_asm) (by k_asm) (by k_mem) (by rw [List.size_toArray, IntsAre.length (by first | with_reducible assumption | exact IntsAre.cons _ _ IntsAre.nil)]; rw [sizeLine_eq]; first | omega | (simp only [List.length_cons, List.length_nil]; omega)) ?_; intro g'; refine' kci_list goodG (by first | with_reducible assumption | exact IntsAre.cons _ _ IntsAre.nil) (fun k' t' I' oI' C' oC' D' m' ys' l' h' tk' E' hk' hI' hC' hx' F' N' off' ne' _ => ?_) (fun ys' hy' hly' => ?_) goodG_grows))
  k_with "call ref" => (k_here; (with_reducible show wpAny _ _ (call (Value.ref 200) _) _ _ _); k_dflt (refine' use_val (c_hex_gen _ _ _ _ _ (by first | omega | exact (elem_rng (by with_reducible assumption) (by with_reducible assumption)).1 | exact one_nn (by with_reducible assumption)) (by omega) (by omega)) (by k_asm) (by k_asm) (by k_asm) (by k_asm) (by k_asm) (by first | rfl | assumption) (by first | omega | ((try simp only [depth_in1, depth_deeper, depth_caller]); (try dsimp only); omega)) (by first | omega | ((try simp only [units_in1, units_deeper, Around.mark_units, units_caller]); (try dsimp only); omega)) ?_); intro t' h' tk' F' N')
  k_with "call ref" => (k_here; (with_reducible show wpAny _ _ (call (Value.ref 207) _) _ _ _); k_dflt (refine' use_val (c_law_good _ _ _ _) (by k_asm) (by k_asm) (by k_asm) (by k_asm) (by k_asm) (by first | rfl | assumption) (by first | omega | ((try simp only [depth_in1, depth_deeper, depth_caller]); (try dsimp only); omega)) (by first | omega | ((try simp only [units_in1, units_deeper, Around.mark_units, units_caller]); (try dsimp only); omega)) ?_); intro t' h' tk' F' N')
  k_with "call builtin:chr" => (k_here; (with_reducible show wpAny _ _ (call (Value.builtin "chr") [Value.int _ _]) _ _ _); (with_reducible refine chr_ok (by first | omega | (simp only [good, Bool.and_eq_true, decide_eq_true_eq] at *; omega)) (by first | omega | (simp only [good, Bool.and_eq_true, decide_eq_true_eq] at *; omega)) ?_))
  k_with "call builtin:chr" => (k_here; (with_reducible show wpAny _ _ (call (Value.builtin "chr") [Value.int _ _]) _ _ _); first | (with_reducible refine chr_good (by with_reducible assumption) ?_) | (with_reducible refine chr_elem (by with_reducible assumption) (by with_reducible assumption) ?_) | (with_reducible refine chr_one (by with_reducible assumption) (by with_reducible assumption) ?_))
  k_with "call builtin:str.join" => (k_here; (with_reducible show wpAny _ _ (call (Value.builtin "str.join") [Value.str _ _, Value.ref _]) _ _ _); k_dflt (refine join_listC (by kmk_list) (by with_reducible assumption) (by decide) (by first | exact hex_join (by first | omega | exact Nat.le_of_ble_eq_true rfl) | exact chr_join (by first | omega | exact Nat.le_of_ble_eq_true rfl)) ?_); intro t' k')
  k_with "binaryOp Add str str" => (k_here; (with_reducible show wpAny _ _ (binaryOp Operator.Add (Value.str _ _) (Value.str _ _)) _ _ _); k_dflt (refine add_smallL (by decide) (by first | exact hexT_le (by omega) | exact hexjoin_le (by first | omega | exact Nat.le_of_ble_eq_true rfl)) ?_); intro t' k')
  k_with "call ref" => (k_here; (with_reducible show wpAny _ _ (call (Value.ref 186) [Value.ref _, Value.int _ _]) _ _ _); k_dflt (refine' use_draw (by k_asm) (by k_asm) (by k_asm) (by k_asm) (by k_asm) (by first | rfl | assumption) (by first | omega | ((try simp only [depth_in1, depth_deeper, depth_caller]); (try dsimp only); omega)) (by first | omega | ((try simp only [units_in1, units_deeper, Around.mark_units, units_caller]); (try dsimp only); omega)) (by with_reducible assumption) (by omega) (by with_reducible assumption) (by first | decide | omega | exact (pow16 (by omega)).1) (by first | decide | omega | exact (pow16 (by omega)).2) (by k_mem) (by k_mem) (by repeat (first | exact Rest.nil | with_reducible apply Rest.skipA | with_reducible apply Rest.skipB | (apply Rest.keep; (first | with_reducible assumption | k_ne); (first | with_reducible assumption | k_ne)))) ?_); intro r t' op' oq' h' tk' hr' hP' F' N')
  k_with "call ref" => (k_here; (with_reducible show wpAny _ _ (call (Value.ref 174) _) _ _ _); k_dflt (refine' use_tups (c_law_plain _) (by k_asm) (by k_asm) (by k_asm) (by k_asm) (by k_asm) (by first | rfl | assumption) (by first | omega | ((try simp only [depth_in1, depth_deeper, depth_caller]); (try dsimp only); omega)) (by first | omega | ((try simp only [units_in1, units_deeper, Around.mark_units, units_caller]); (try dsimp only); omega)) ?_); intro D' n' a0 a1 a2 a3 a4 a5 a6 a7 t0 t1 t2 t3 t4 t5 t6 t7 u0 u1 u2 u3 u4 u5 u6 u7 n0 n1 n2 n3 n4 n5 n6 n7 h' tk' F' N' o0 o1 o2 o3 o4 o5 o6 o7 o8; (simp only [LCg.Off1, and_true] at o0 o1 o2 o3 o4 o5 o6 o7 o8); (have ox0 := Ne.symm o0.1; have oy0 := Ne.symm o0.2.1; clear o0); (have ox1 := Ne.symm o1.1; have oy1 := Ne.symm o1.2.1; clear o1); (have ox2 := Ne.symm o2.1; have oy2 := Ne.symm o2.2.1; clear o2); (have ox3 := Ne.symm o3.1; have oy3 := Ne.symm o3.2.1; clear o3); (have ox4 := Ne.symm o4.1; have oy4 := Ne.symm o4.2.1; clear o4); (have ox5 := Ne.symm o5.1; have oy5 := Ne.symm o5.2.1; clear o5); (have ox6 := Ne.symm o6.1; have oy6 := Ne.symm o6.2.1; clear o6); (have ox7 := Ne.symm o7.1; have oy7 := Ne.symm o7.2.1; clear o7); (have ox8 := Ne.symm o8.1; have oy8 := Ne.symm o8.2.1; clear o8))
  k_with "subscriptTail Call" => (k_here; (with_reducible show wpAny _ _ (subscriptTail _ _ (Value.ref _) (Value.int (Nat.cast _) _)) _ _ _); rcases lt8 (by with_reducible assumption) with e8 | e8 | e8 | e8 | e8 | e8 | e8 | e8 <;> rw [e8])
  k_with "ite" => (k_dflt (first | refine ite_beq (by with_reducible assumption) ?_ | refine ite_nbeq (by with_reducible assumption) ?_))
  k_steps
  all_goals first
    | exact ⟨rfl, _, rfl⟩
    | (exfalso; refine' cast_no ?ca ?cb; (case ca => with_reducible assumption); (case cb => with_reducible assumption))
    | (exfalso; omega)
    | exact pot_turn _ (by k_asm) (by k_asm) rfl (by with_reducible assumption) ⟨_, rfl⟩ (by omega)
    | (refine end_tup (s := s) (Q := Q) hret G1' (by k_asm) (by k_asm) (by k_mem) (by k_mem) (.head _) (by k_ne) (by k_ne) (IsPot.mono (by with_reducible assumption) (by omega)) ?_; first | exact part_good (by omega) (by with_reducible assumption) (by with_reducible assumption) | exact part_bad (by omega) (by with_reducible assumption) (by with_reducible assumption) | exact part_good (Nat.le_of_ble_eq_true rfl) (one_rng (by omega)) (by with_reducible assumption) | exact part_bad (Nat.le_of_ble_eq_true rfl) (one_rng (by omega)) (by with_reducible assumption) | exact part_ug (by omega) (by omega) (by with_reducible assumption) | exact part_ub (by omega) (by omega) (by with_reducible assumption) | exact part_odd (by omega) | exact part_plain (i := 0) rfl | exact part_plain (i := 1) rfl | exact part_plain (i := 2) rfl | exact part_plain (i := 3) rfl | exact part_plain (i := 4) rfl | exact part_plain (i := 5) rfl | exact part_plain (i := 6) rfl | exact part_plain (i := 7) rfl | skip)
    | skip
end Mine
end

section
open PySem PySem.W PyProof.Rows PySem.Calls PySem.Spec
set_option Elab.async false
set_option maxRecDepth 100000
set_option maxHeartbeats 0
namespace Mine
theorem topOffPO : True := by
  w_top off
  trivial
noncomputable abbrev CallsB (kk : Nat) (hd : Option Value) (w : World) (f : Addr) (vs : List Value) (Bs : Heap → Prop) (post : Heap → Value → Heap → Prop) : Prop :=
  ∀ (mean : ExcName → Option Value) (mg mb : Str → Option Value) (dp un : Nat) (gd : Option (List Code)) (cn : Str) (cs : Scope) (a : Addr) (ccd : Value) (cl : List (Str × Addr)) (outer : List Env) (A₀ : Around) (base h₀ : Heap) (L : Addr) (m : Str → Option Value) (s : Shared) (Q E : Value → Shared → Prop),
    Below A₀ base outer h₀ → Fr h₀ L s.heap m → (Mine.fr.heap_1 w.params).In h₀ → News h₀ L s.heap [] → Top Mine.viewQ LOOSE mean mg mb h₀ → cs.kind = .function → dp + kk < recursionLimit → un + 16 * kk < cLine →
    (∀ v h' tk', post s.heap v h' → Q v { s with heap := h', toks := tk' }) → Bs h₀ → wpAny (model PRG w) (CAround hd dp un gd cn cs L a ccd cl outer) (call (.ref f) vs) Q E s
noncomputable def PNewPot (h : Heap) (v : Value) (h' : Heap) : Prop := Keeps h h' ∧ ∃ p q op oq, v = .ref p ∧ (@Ne Nat p q) ∧ IsPot 0 q op oq ∧ h'.get? p = some op ∧ h'.get? q = some oq ∧ h.get? p = none ∧ h.get? q = none
theorem pow400 : (0 : Int) < 10 ^ Int.toNat 400 := Int.pow_pos (by decide)
theorem fold_nn : ∀ (l : List Int) (st : Int), 0 ≤ st → 0 ≤ List.foldl (fun a' n' => (a' * 48271 + n'.fmod 2147483647 + 12345).fmod 2147483647) st l
  | [], _, h => h
  | _ :: r, _, _ => fold_nn r _ (Int.fmod_nonneg_of_pos _ (by decide))
theorem c_law_pot (w : World) (sc : Addr) (vs : List Value) (ns : List Int) (hv : IntsAre vs ns) (hln : ns.length ≤ 63) : CallsB 2 none w 179 [.ref sc] (fun h => h.IsList sc vs.toArray) PNewPot := by
  dsimp only [CallsB, PRG, LOOSE, CAround]
  k_fill
  intro mean mg mb dp un gd cn cs a ccd cl outer A₀ base h₀ L m s Q E B₀ F₀ X₀ N₀ T₀ hk₀ hd₀ hu₀ hret bs₀
  refine wpAny_call ?_
  k_dflt (refine' enter ?k1 ?k2 ?k3 ?k4 ?k5 ?kA ?kF ?kK ?k6 ?k7 ?k8 ?k9 ?kB ?_ ?c2 ?c3 ?c4 ?c5; (case kA => exact rfl); (case kF => exact rfl); (case kK => assumption); (case k1 => k_asm); (case k2 => k_asm); (case k3 => k_asm); (case k4 => k_asm); (case k5 => k_asm); (case k6 => k_is); (case k7 => k_is); (case k8 => ktr_room); (case k9 => exact BindsTo.of_eq rfl); (case c5 => decide); (case kB => exact locs rfl); (case c2 => exact rfl); (case c3 => exact rfl); (case c4 => exact rfl); k_whole; intro g' L' h' G1' G2' F' N' B' X' T'; (try dsimp only); (try k_fold))
  have hls : g'.IsList sc vs.toArray := bs₀.at fun o e => G1' _ o (F₀.keep _ o e) (by simp)
  k_steps
  dsimp only
  k_steps
  rename IntsAre ys _ => hys
  refine hret _ _ _ ⟨keeps_of (s := s) G1' (by k_asm), _, _, _, _, rfl, ?ne, ⟨_, _, _, _, _, _, _, _, rfl, rfl, hys, ?p1, ?p2, ?p3, Int.le_refl 0, Int.le_refl 0⟩, News.get (by k_asm) (.head _), News.get (by k_asm) (.tail _ (.head _)), fresh_of (by k_asm) (by k_asm) (.head _), fresh_of (by k_asm) (by k_asm) (.tail _ (.head _))⟩
  case ne => k_ne
  case p1 =>
    intro x hx
    obtain ⟨y, _, rfl⟩ := List.mem_map.mp hx
    exact Int.fmod_nonneg_of_pos _ pow400
  case p2 => rw [List.length_map, List.length_map, List.length_take]; omega
  case p3 => exact fold_nn _ _ (by decide)
end Mine
end

section
open PySem PySem.W PyProof.Rows PySem.Calls PySem.Spec
set_option Elab.async false
set_option maxRecDepth 100000
set_option maxHeartbeats 0
namespace Mine
theorem topOffEX : True := by
  w_top off
  trivial
noncomputable def excO (dx : Option Addr) (t : Addr) : Obj := { cls := .ref 59, dict := dx, data := .fields #[.ref t, .none, .none, .none, .bool false, .none] }
noncomputable def PInit (e : Addr) (what : Str) (tk : Tok) (h : Heap) (v : Value) (h' : Heap) : Prop :=
  v = .none ∧ (∀ b o, h.get? b = some o → b ≠ e → h'.get? b = some o) ∧ ∃ t dx, h'.get? e = some (excO (some dx) t) ∧ h.get? t = none ∧ h'.get? t = some { cls := .type "tuple", data := .seq [Value.str what tk].toArray }
noncomputable def BMF : List Value := [.ref 46, .type "Exception", .type "BaseException", .type "object"]
noncomputable def faultIn (K : Frag) : Bool := match K.lookup 59 with
  | some ⟨.type "type", _, .cls cd, sl⟩ => (match sl.toList with
    | [_, _, _, _, some (.builtin n), _] => n == "Exception.__new__" && !cd.hasDel && cd.mro == .ref 59 :: BMF && cd.ns == 58 && cd.hasDict
    | _ => false)
  | _ => false
theorem fault_cls {K : Frag} {h : Heap} (X : K.In h) (q : faultIn K = true) : ∃ nm qn bs sn sub ab col dd k0 k1 k2 k3 k5, h.get? 59 = some (excClassObj nm qn 59 58 bs BMF true sn sub ab col dd k0 k1 k2 k3 k5 "Exception.__new__") := by
  unfold faultIn at q
  split at q
  · rename_i dd cd sl ho
    split at q
    · rename_i k0 k1 k2 k3 n k5 hs
      simp only [Bool.and_eq_true, beq_iff_eq, Bool.not_eq_true'] at q
      obtain ⟨⟨⟨⟨rfl, hdel⟩, hm⟩, hns⟩, hdct⟩ := q
      obtain ⟨nm, bs, mro, ns, qn, hd, sn, sub, ab, col, del⟩ := cd
      dsimp only at hm hdel hns hdct
      subst hm hdel hns hdct
      have hsl : sl = #[k0, k1, k2, k3, some (.builtin "Exception.__new__"), k5] := by
        obtain ⟨l⟩ := sl
        simp only at hs
        rw [hs]
      subst hsl
      exact ⟨nm, qn, bs, sn, sub, ab, col, dd, k0, k1, k2, k3, k5, X _ _ ho⟩
    · cases q
  · cases q
theorem fault_in (w : World) : faultIn (Mine.fr.heap_1 w.params) = true := by kernel_rfl
section
variable {prog : Program} {w : World} {A : Around} {E : Value → Shared → Prop} {h : Heap} {g : Array GenState} {d : Drawn} {t : Nat} {os : OsState}
variable {nm qn : Str} {bs : List Value} {sn : List Str} {sub : List Value} {ab : Bool} {col : Option Bool} {dd : Option Addr} {k0 k1 k2 k3 k5 : Option Value}
theorem check_initF {M : Model} {e : Addr} {oe : Obj} {rest : List Value} {Q : Unit → Shared → Prop}
    (hC : h.get? 59 = some (excClassObj nm qn 59 58 bs BMF true sn sub ab col dd k0 k1 k2 k3 k5 "Exception.__new__")) (he : h.get? e = some oe) (hcls : oe.cls = .ref 59) (hq : Q () ⟨h, g, d, t, os⟩) :
    wpAny M A (checkBuiltinCall "Exception.__init__" ⟨.ref e :: rest, []⟩) Q E ⟨h, g, d, t, os⟩ := by
  have F := PySem.F.excBase_Exception
  have hcB : (Value.ref 59 :: BMF).contains (.type "Exception") = true := by decide
  have hshort := F.noStar
  simp only [checkBuiltinCall, F.initKind, F.initSplit, F.initRow]
  repeat (first | (with_reducible refine wpAny_loadPart_at he ?_; rw [hcls]) | with_reducible refine wpAny_loadPart_at hC ?_ | (with_reducible refine wpAny_isSubtype_exc hC ?_; rw [hcB]) | wp_step)
  refine wpAny_onRaise ?_
  rw [show ∀ (a b : String) (n : Nat), Bind.check ⟨.positional, "*", "Exception", .self, [⟨"args", .varPos, false⟩]⟩ a b n (List.map (fun x => x.fst) ({ pos := Value.ref e :: rest } : Args).kw) = pure () from
    fun a b n => check_star_args _ _ _ _ _ _]
  exact wpAny_pure hq
theorem exc_initF {e t₀ : Addr} {dx : Option Addr} {rest : List Value} {Q : Value → Shared → Prop}
    (hC : h.get? 59 = some (excClassObj nm qn 59 58 bs BMF true sn sub ab col dd k0 k1 k2 k3 k5 "Exception.__new__")) (he : h.get? e = some (excO dx t₀)) (hrest : rest.length ≤ sizeLine)
    (hq : ∀ h', (∀ b o, b ≠ e → h.get? b = some o → h'.get? b = some o) → h'.get? e = some (excO dx h.objs.size) → h'.get? h.objs.size = some { cls := .type "tuple", data := .seq rest.toArray } → Q .none ⟨h', g, d, t, os⟩) :
    wpAny (model prog w) A (call (.builtin "Exception.__init__") (.ref e :: rest)) Q E ⟨h, g, d, t, os⟩ := by
  have F := PySem.F.excBase_Exception
  refine wpAny_call (codeAny_call_builtin F.init.plain F.initEntry (check_initF hC he rfl ?_))
  have he' := Heap.get?_push_of_some { cls := .type "tuple", data := .seq rest.toArray } he
  have hne : h.objs.size ≠ e := Nat.ne_of_gt (Heap.lt_size he)
  wp_walk
  refine hq _ (fun b o hb hk => ?_) ?_ ?_
  · rw [Heap.get?_update_other _ _ (Ne.symm hb)]
    exact Heap.get?_push_of_some _ hk
  · rw [Heap.get?_update_self _ he' rfl]
    rfl
  · rw [Heap.get?_update_other _ _ (Ne.symm hne)]
    exact Heap.get?_push_at rfl rfl
end
theorem exc_initL {w : World} {A : Around} {E : Value → Shared → Prop} {s : Shared} {h₀ : Heap} {L : Addr} {m : Str → Option Value} {news : List (Addr × Obj)} {e t₀ : Addr} {dx : Option Addr} {rest : List Value} {Q : Value → Shared → Prop} {news' : Addr → List (Addr × Obj)}
    (F : Fr h₀ L s.heap m) (X : (Mine.fr.heap_1 w.params).In h₀) (N : News h₀ L s.heap news) (U : ∀ D, Upd e (excO dx t₀) (excO dx D) news (news' D)) (hrest : rest.length ≤ sizeLine)
    (h : ∀ D h', Fr h₀ L h' m → News h₀ L h' ((D, ({ cls := .type "tuple", data := .seq rest.toArray } : Obj)) :: news' D) → (∀ p ∈ news, p.1 < D) → Q .none { s with heap := h' }) :
    wpAny (model PRG w) A (call (.builtin "Exception.__init__") (.ref e :: rest)) Q E s := by
  obtain ⟨nm, qn, bs, sn, sub, ab, col, dd, k0, k1, k2, k3, k5, hC⟩ := fault_cls (X.keeps F.keep) (fault_in w)
  obtain ⟨pre, post, rfl, e2, a, b⟩ := (U s.heap.objs.size).split
  have he := N (e, excO dx t₀) (by simp)
  obtain ⟨hp, g, d, t, os⟩ := s
  refine exc_initF hC he.1 hrest fun h' hk hn ht => ?_
  obtain ⟨oL, x1, x2, hL, x3⟩ := F.ns
  refine h hp.objs.size h' ⟨⟨oL, x1, x2, hk _ _ (Ne.symm he.2.1) hL, x3⟩, fun b o q => hk b o (fun z => by rw [z, he.2.2] at q; cases q) (F.keep b o q), F.above⟩ ?_ (fun p hp' => Heap.lt_size (N p hp').1)
  intro p hp'
  rcases List.mem_cons.mp hp' with rfl | hp'
  · refine ⟨ht, fun q => ?_, ?_⟩
    · have := Heap.lt_size hL
      rw [← q] at this
      exact absurd this (Nat.lt_irrefl _)
    · cases q : h₀.get? hp.objs.size with
      | none => rfl
      | some o => exact absurd (Heap.lt_size (F.keep _ _ q)) (Nat.lt_irrefl _)
  · rw [e2] at hp'
    rcases List.mem_append.mp hp' with hq | hq
    · have z := N p (by simp [hq])
      exact ⟨hk _ _ (a p hq) z.1, z.2⟩
    · rcases List.mem_cons.mp hq with rfl | hq
      · exact ⟨hn, he.2⟩
      · have z := N p (by simp [hq])
        exact ⟨hk _ _ (b p hq) z.1, z.2⟩
section
open PySem.Builtin PySem.Builtin.ObjectAttr
variable {prog : Program} {w : World} {A : Around} {E : Value → Shared → Prop} {s : Shared} {R : Result → Shared → Prop} {x : Addr} {K : Frag} {h₀ : Heap} {L : Addr} {m : Str → Option Value} {news : List (Addr × Obj)}
noncomputable def mroF (K : Frag) : Bool := (clsIn K 59).any fun cd => cd.mro == .ref 59 :: BMF && cd.hasDict
theorem mro_in (w : World) : mroF (Mine.fr.heap_1 w.params) = true := by kernel_rfl
theorem osa_openF {ox : Obj} {od : Option Obj} {name : Str} {tk : Tok} {v : Value} (X : K.In s.heap) (I : InstAt s.heap x ox 59 od) (hp : mroF K = true) (ht : findIn K (.ref 59) name = some none)
    (h : ∀ b, wpAny (model prog w) A.in1 (storeInOwnDict (.ref x) (.ref 59) (.str name tk) name v b)
      (fun fin s' => match fin with | .done f => R (.ok f) s' | .again c' => c'.quiet = true ∧ codeAny (model prog w) A c' R s') (fun e s' => R (.error e) s') s) :
    codeAny (model prog w) A (.call (.builtin "object.__setattr__") ⟨[.ref x, .str name tk, v], []⟩) R s := by
  have SF := PySem.F.store_object
  obtain ⟨cd, hc, ho⟩ := any_some hp
  simp only [Bool.and_eq_true, beq_iff_eq] at ho
  obtain ⟨ho, _⟩ := ho
  have sub : Looks (model prog w) s.heap (isInstance (.ref x) (.type "object")) true := I.type.andThen (looks_mroIn X (by unfold mroIn; rw [hc, Option.bind_some, ho]; rfl))
  refine codeAny_call_builtin SF.slot.plain SF.entry (@check_slot (model prog w) _ _ s "object.__setattr__" "object" "__setattr__" (.ref x) [.str name tk, v] [] _ SF.kind SF.split sub (SF.args (.ref x) (.str name tk) v) ?_)
  have hm : Looks (model prog w) s.heap (mroOf (.ref 59)) cd.mro := (looks_clsIn X hc).andThen .now
  have L3 : Looks (model prog w) s.heap (storeTaker? none) none := .now
  rw [osa_eq, refuse_eq]
  refine wpAny_bind (wpAny_bind (I.type.here (wpAny_bind (hm.here ?_))))
  rw [ho, BMF, refuseLoop_ref, refuseLoop_ref, PySem.F.store_Exception.passes]
  refine wpAny_pure (wpAny_bind (I.type.here (wpAny_bind ((looks_findIn X ht).here (wpAny_bind (L3.here ?_))))))
  exact h _
theorem own_dict_none {t : Addr} {name : Str} {tk : Tok} {v : Value} {b : Bool} {Q : Fin → Shared → Prop} (X : K.In s.heap) (hp : mroF K = true) (hx : s.heap.get? x = some (excO none t))
    (h : wpAny (model prog w) A (storeInDict s.heap.objs.size (.str name tk) name v) Q E { s with heap := (s.heap.push emptyDict).update x fun o => { o with dict := some s.heap.objs.size } }) :
    wpAny (model prog w) A (storeInOwnDict (.ref x) (.ref 59) (.str name tk) name v b) Q E s := by
  obtain ⟨cd, hc, ho⟩ := any_some hp
  simp only [Bool.and_eq_true, beq_iff_eq] at ho
  obtain ⟨_, hd'⟩ := ho
  refine wpAny_bind (wpAny_pure (wpAny_bind (wpAny_bind (wpAny_loadPart hx (wpAny_bind ((looks_clsIn X hc).here ?_))))))
  rw [hd']
  have hx₁ : (s.heap.push emptyDict).get? x = some (excO none t) := Heap.get?_push_of_some _ hx
  show wpAny (model prog w) A (alloc emptyDict >>= fun d => update x (fun o => { o with dict := some d }) >>= fun _ => dictMade (.ref 59) x d) _ _ _
  refine wpAny_bind (wpAny_alloc' ?_)
  refine wpAny_bind (wpAny_update' hx₁ ?_)
  exact wpAny_pure h
theorem in_dictF {dx : Addr} {name : Str} {tk : Tok} {v : Value} {pre post : List (Addr × Obj)} {es es' : List DictEntry} {n n' : Nat} {Q : Fin → Shared → Prop} (F : Fr h₀ L s.heap m) (N : News h₀ L s.heap (pre ++ (dx, dictOf es n) :: post))
    (hl : (getL name es).isSome = true) (h1 : ∀ p ∈ pre, p.1 ≠ dx) (h2 : ∀ p ∈ post, p.1 ≠ dx)
    (e : (putL name (PyData.keyHash w.params name) (.str name s.toks) v es, putN name es n) = (es', n')) (hz : es'.length ≤ 1000)
    (h : ∀ h', Fr h₀ L h' m → News h₀ L h' (pre ++ (dx, dictOf es' n') :: post) → Q (.done (.ret .none)) { s with heap := h', toks := s.toks + 1 }) :
    wpAny (model prog w) A (storeInDict dx (.str name tk) name v) Q E s := by
  obtain ⟨e1, e2⟩ := Prod.mk.inj e
  have e3 : Obj.putName name (PyData.keyHash w.params name) (.str name s.toks) v (dictOf es n) = dictOf es' n' := by rw [putName_dict, e1, e2]
  obtain ⟨U1, U2⟩ := news_upd (f := Obj.putName name (PyData.keyHash w.params name) (.str name s.toks) v) F N h1 h2 e3 rfl
  have D := (N (dx, dictOf es n) (by simp)).1
  have D' := (U2 (dx, dictOf es' n') (by simp)).1
  refine wpAny_bind (wpAny_pure (wpAny_bind ?_))
  unfold nsSet
  refine wpAny_bind (wpAny_bind (wpAny_askSetting (wpAny_pure (wpAny_bind (wpAny_mkText (wpAny_bind (wpAny_loadPart D ?_)))))))
  unfold getL at hl
  dsimp only
  have c : (!es.toArray.any (·.key.isStr name) && es.toArray.any (·.refKey)) = false := by
    rw [← Array.any_toList, ← Array.any_toList]
    split at hl
    · rename_i en he
      rw [List.any_eq_true.mpr ⟨en, List.mem_of_find?_eq_some he, List.find?_some he⟩]; rfl
    · split at hl
      · cases hl
      · rename_i z; rw [Bool.not_eq_true] at z; rw [z, Bool.and_false]
  rw [aRefKeyMayBeTheName_at, c]
  refine wpAny_updatePart D ?_
  refine wpAny_bind (wpAny_lookBehind D' (pastItsLine_dict (by rw [List.size_toArray, sizeLine_eq]; omega)) ?_)
  exact wpAny_pure (h _ U1 U2)
theorem own_dict_some {t d : Addr} {name : Str} {tk : Tok} {v : Value} {b : Bool} {Q : Fin → Shared → Prop} (X : K.In s.heap) (hp : mroF K = true) (hx : s.heap.get? x = some (excO (some d) t))
    (h : wpAny (model prog w) A (storeInDict d (.str name tk) name v) Q E s) :
    wpAny (model prog w) A (storeInOwnDict (.ref x) (.ref 59) (.str name tk) name v b) Q E s := by
  obtain ⟨cd, hc, ho⟩ := any_some hp
  simp only [Bool.and_eq_true, beq_iff_eq] at ho
  obtain ⟨_, hd'⟩ := ho
  refine wpAny_bind (wpAny_pure (wpAny_bind (wpAny_bind (wpAny_loadPart hx (wpAny_bind ((looks_clsIn X hc).here ?_))))))
  rw [hd']
  exact wpAny_pure (a := some d) h
theorem set_secondF {Q : Unit → Shared → Prop} {t d : Addr} {name : Str} {v : Value} {es es' : List DictEntry} {n n' : Nat} {news' : List (Addr × Obj)} (F : Fr h₀ L s.heap m) (X₀ : K.In h₀) (N : News h₀ L s.heap news) (hp : mroF K = true)
    (hx : (x, excO (some d) t) ∈ news) (hs : findIn K (.ref 59) "__setattr__" = some (some (.builtin "object.__setattr__"))) (ht : findIn K (.ref 59) name = some none) (U : Upd d (dictOf es n) (dictOf es' n') news news') (hl : (getL name es).isSome = true)
    (e : (putL name (PyData.keyHash w.params name) (.str name (s.toks + 1)) v es, putN name es n) = (es', n')) (hz : es'.length ≤ 1000)
    (h : ∀ h', Fr h₀ L h' m → News h₀ L h' news' → Q () { s with heap := h', toks := s.toks + 2 }) :
    wpAny (model prog w) A (setAttr (.ref x) name v) Q E s := by
  obtain ⟨pre, post, rfl, rfl, a, b⟩ := U.split
  have X := X₀.keeps F.keep
  have I : InstAt s.heap x (excO (some d) t) 59 (some (dictOf es n)) := ⟨(N _ hx).1, rfl, rfl, (N (d, dictOf es n) (by simp)).1⟩
  refine set_plain X I hs (osa_openF (s := { s with toks := s.toks + 1 }) X I hp ht fun b' => ?_)
  refine own_dict_some (s := { s with toks := s.toks + 1 }) X hp (N _ hx).1 ?_
  exact in_dictF (s := { s with toks := s.toks + 1 }) F N hl a b e hz fun h' F' N' => h h' F' N'
theorem set_firstF {Q : Unit → Shared → Prop} {t : Addr} {name : Str} {v : Value} {news' : Addr → List (Addr × Obj)} (F : Fr h₀ L s.heap m) (X₀ : K.In h₀) (N : News h₀ L s.heap news) (hp : mroF K = true)
    (hs : findIn K (.ref 59) "__setattr__" = some (some (.builtin "object.__setattr__"))) (ht : findIn K (.ref 59) name = some none) (U : ∀ d, Upd x (excO none t) (excO (some d) t) news (news' d))
    (h : ∀ d h', Fr h₀ L h' m → News h₀ L h' ((d, dictOf [⟨PyData.keyHash w.params name, .str name (s.toks + 1), v⟩] (putN name [] 0)) :: news' d) → (∀ p ∈ news, p.1 < d) → Q () { s with heap := h', toks := s.toks + 2 }) :
    wpAny (model prog w) A (setAttr (.ref x) name v) Q E s := by
  obtain ⟨pre, post, rfl, e2, a, b⟩ := (U s.heap.objs.size).split
  have X := X₀.keeps F.keep
  have hx := N (x, excO none t) (by simp)
  have I : InstAt s.heap x (excO none t) 59 none := ⟨hx.1, rfl, rfl, True.intro⟩
  refine set_plain X I hs (osa_openF (s := { s with toks := s.toks + 1 }) X I hp ht fun b' => ?_)
  refine own_dict_none (s := { s with toks := s.toks + 1 }) (t := t) X hp hx.1 ?_
  have F₁ := F.push emptyDict
  have N₁ : News h₀ L (s.heap.push emptyDict) (((s.heap.objs.size, emptyDict) :: pre) ++ (x, excO none t) :: post) := by
    intro p hp'
    rcases List.mem_cons.mp hp' with rfl | hp'
    · refine ⟨Heap.get?_push_size _ rfl, fun q => ?_, ?_⟩
      · have := F.ns.lt
        rw [← q] at this
        exact absurd this (Nat.lt_irrefl _)
      · cases q : h₀.get? s.heap.objs.size with
        | none => rfl
        | some o => exact absurd (Heap.lt_size (F.keep _ _ q)) (Nat.lt_irrefl _)
    · exact ⟨Heap.get?_push_of_some _ (N p hp').1, (N p hp').2⟩
  have hne : s.heap.objs.size ≠ x := Nat.ne_of_gt (Heap.lt_size hx.1)
  obtain ⟨F₂, N₂⟩ := news_upd (f := fun o => { o with dict := some s.heap.objs.size }) (o' := excO (some s.heap.objs.size) t) F₁ N₁ (fun p hp' => by
    rcases List.mem_cons.mp hp' with rfl | hp'
    · exact hne
    · exact a p hp') b rfl rfl
  refine in_dictF (pre := []) (post := pre ++ (x, excO (some s.heap.objs.size) t) :: post) (es := []) (n := 0) F₂ N₂ rfl (fun _ h => nomatch h) (fun p hp' => ?_) rfl (by show 1 ≤ 1000; omega) fun h' F' N' => h _ h' F' (by rw [e2]; exact N') fun p hp' => Heap.lt_size (N p hp').1
  rcases List.mem_append.mp hp' with hq | hq
  · exact Nat.ne_of_lt (Heap.lt_size (N p (by simp [hq])).1)
  · rcases List.mem_cons.mp hq with rfl | hq
    · exact Ne.symm hne
    · exact Nat.ne_of_lt (Heap.lt_size (N p (by simp [hq])).1)
end
theorem meta_Exception : typeOf (.type "Exception") = pure (.type "type") := by with_unfolding_all rfl
theorem fresh_but {s : Heap} {g h' : Heap} {L' D : Addr} {o : Obj} {news mu : List (Addr × Obj)} (G : KeepsBut mu s g) (N : News g L' h' news) (hm : (D, o) ∈ news) (hd : D ∉ mu.map (·.1)) : s.get? D = none := by
  match e : s.get? D with
  | none => rfl
  | some o => have := G D o e hd; rw [(N _ hm).2.2] at this; cases this
theorem c_init (w : World) (e t₀ : Addr) (what : Str) (tk : Tok) : CallsTo 2 w 36 [.ref e, .str what tk] [(e, excO none t₀)] (PInit e what tk) := by
  dsimp only [CallsTo, CallsIn, PRG, LOOSE, CAround]
  k_fill
  intro mean mg mb dp un gd cn cs a ccd cl outer A₀ base h₀ L m s Q E B₀ F₀ X₀ N₀ T₀ hk₀ hd₀ hu₀ hret
  refine wpAny_call ?_
  k_dflt (refine' enter ?k1 ?k2 ?k3 ?k4 ?k5 ?kA ?kF ?kK ?k6 ?k7 ?k8 ?k9 ?kB ?_ ?c2 ?c3 ?c4 ?c5; (case kA => exact rfl); (case kF => exact rfl); (case kK => assumption); (case k1 => k_asm); (case k2 => k_asm); (case k3 => k_asm); (case k4 => k_asm); (case k5 => k_asm); (case k6 => k_is); (case k7 => k_is); (case k8 => ktr_room); (case k9 => first | exact binds_K (by k_in) rfl (by k_is) rfl rfl rfl | exact BindsTo.of_eq rfl); (case c5 => decide); (case kB => exact locs rfl); (case c2 => exact rfl); (case c3 => exact rfl); (case c4 => exact rfl); k_whole; intro g' L' h' G1' G2' F' N' B' X' T'; (try dsimp only); (try k_fold))
  k_with_none
  k_with "call builtin:Exception.__init__" => (k_here; k_dflt (refine' exc_initL (by k_asm) (by k_asm) (by k_asm) (by (intro D; k_upd)) (by exact Nat.le_of_ble_eq_true rfl) ?_); intro D' h' F' N' l1; (try k_lt l1))
  k_with "setAttr ref" => (k_here; k_dflt (first | (refine' set_firstF (by k_asm) (by k_asm) (by k_asm) (by exact mro_in _) (by k_is) (by k_is) (by (intro d; k_upd)) ?_; intro d' h' F' N' l1; (try k_lt l1)) | (refine' set_secondF (by k_asm) (by k_asm) (by k_asm) (by exact mro_in _) (by k_mem) (by k_is) (by k_is) (by k_upd) (by k_get) (by k_put) (by exact Nat.le_of_ble_eq_true rfl) ?_; intro h' F' N')) /- k_setF -/)
  k_with "getMethod type:Exception" => (k_here; refine' method_type (by k_asm) (by k_asm) (by exact meta_Exception) (by decide +kernel) (by k_dflt k_is) (by k_handed) ?_)
  k_steps
  refine hret _ _ _ ⟨rfl, fun b o q ne => Fr.keep (by k_asm) b o (G1' b o q (by simpa using ne)), _, _, News.get (by k_asm) (by k_mem), ?_, News.get (by k_asm) (.tail _ (.head _))⟩
  exact fresh_but G1' (by k_asm) (.tail _ (.head _)) (by simpa using (by k_ne : @Ne Nat _ _))
end Mine
end

section
open PySem PySem.W PyProof.Rows PySem.Calls PySem.Spec
set_option Elab.async false
set_option maxRecDepth 100000
set_option maxHeartbeats 0
namespace Mine
section
variable {prog : Program} {w : World} {A : Around} {E : Value → Shared → Prop} {R : Result → Shared → Prop} {h : Heap} {g : Array GenState} {d : Drawn} {t : Nat} {os : OsState}
variable {nm qn : Str} {bs : List Value} {sn : List Str} {sub : List Value} {ab : Bool} {col : Option Bool} {dd : Option Addr} {k0 k1 k2 k3 k5 : Option Value}
theorem check_newF {M : Model} {rest : List Value} {Q : Unit → Shared → Prop} (hC : h.get? 59 = some (excClassObj nm qn 59 58 bs BMF true sn sub ab col dd k0 k1 k2 k3 k5 "Exception.__new__"))
    (hq : Q () ⟨h, g, d, t, os⟩) : wpAny M A (checkBuiltinCall "Exception.__new__" ⟨.ref 59 :: rest, []⟩) Q E ⟨h, g, d, t, os⟩ := by
  have F := PySem.F.excBase_Exception
  have hcont : (Value.ref 59 :: BMF).contains (.type "Exception") = true := by decide
  have hstar := F.noStar
  simp only [checkBuiltinCall, F.newKind, F.newSplit, F.newRow]
  repeat (first | refine wpAny_loadPart_at hC ?_ | (refine wpAny_isSubtype_exc hC ?_; rw [hcont]) | refine wpAny_staticBase_exc hC ?_ | refine wpAny_madeBy_exc hC ?_ | simp only [bne_self_eq_false, Bool.false_eq_true, if_false] | wp_step)
  exact hq
theorem new_F {rest : List Value} (hC : h.get? 59 = some (excClassObj nm qn 59 58 bs BMF true sn sub ab col dd k0 k1 k2 k3 k5 "Exception.__new__"))
    (hq : R (.ok (.ret (.ref (h.objs.size + 1)))) ⟨(h.push { cls := .type "tuple", data := .seq rest.toArray }).push (excO none h.objs.size), g, d, t, os⟩) (hrest : rest.length ≤ sizeLine) :
    codeAny (model prog w) A (.builtin "Exception.__new__" ⟨.ref 59 :: rest, []⟩) R ⟨h, g, d, t, os⟩ := by
  have F := PySem.F.excBase_Exception
  have hends := F.ends
  have hcB : (Value.ref 59 :: BMF).contains (.type "Exception") = true := by decide
  have hcA : (Value.ref 59 :: BMF).contains (.type "AttributeError") = false := by decide
  have hcN : (Value.ref 59 :: BMF).contains (.type "NameError") = false := by decide
  refine codeAny_builtinAt F.entry ?_
  unfold Builtin.«BaseException.__new__»
  refine PySem.wpAt_bind ?_
  show PySem.wpAt _ _ _ (stack >>= _) _ _ _
  refine PySem.wpAt_bind (PySem.wpAt_stack fun p below => PySem.wpAt_of_wpAny ?_)
  wp_walk
  refine PySem.wpAt_of_wpAny ?_
  rw [F.owner]
  repeat (first | with_reducible refine wpAny_madeHere_exc F.canon hC ?_ | with_reducible refine wpAny_loadPart_at hC ?_ | (with_reducible refine wpAny_isSubtype_exc hC ?_; first | rw [hcB] | rw [hcA] | rw [hcN]) | wp_step)
  show R _ _
  rw [Heap.size_push]
  exact hq
theorem init_there {K : Frag} {h : Heap} {M : Model} (X : K.In h) (e : findIn K (.ref 59) "__init__" = some (some (.ref 36))) : Looks M h (typeLookup (.ref 59) "__init__") (some (.ref 36)) := looks_findIn X e
theorem type_callF {K : Frag} {rest : List Value} {Q : Fin → Shared → Prop} (X : K.In h) (hi : findIn K (.ref 59) "__init__" = some (some (.ref 36))) (hf : typeIn K (.ref 36) = some (.type "function"))
    (hC : h.get? 59 = some (excClassObj nm qn 59 58 bs BMF true sn sub ab col dd k0 k1 k2 k3 k5 "Exception.__new__")) (hrest : rest.length ≤ sizeLine)
    (hq : wpAny (model prog w) A (call (.ref 36) (.ref (h.objs.size + 1) :: rest)) (fun v s' => v = .none ∧ Q (.done (.ret (.ref (h.objs.size + 1)))) s') E ⟨(h.push { cls := .type "tuple", data := .seq rest.toArray }).push (excO none h.objs.size), g, d, t, os⟩) :
    wpAny (model prog w) A (Builtin.«type.__call__» ⟨.ref 59 :: rest, []⟩) Q E ⟨h, g, d, t, os⟩ := by
  have F := PySem.F.excBase_Exception
  repeat (first | with_reducible refine wpAny_loadPart_at hC ?_ | with_reducible refine wpAny_madeBy_exc hC ?_ | wp_step)
  refine codeAny_call_builtin_code (Code.quiet_builtin _ F.quiet) (check_newF hC ?_)
  refine new_F hC ?_ hrest
  show wpAny _ _ _ _ _ _
  have kk : ∀ b o, h.get? b = some o → ((h.push { cls := .type "tuple", data := .seq rest.toArray }).push (excO none h.objs.size)).get? b = some o := fun b o e => Heap.get?_push_of_some _ (Heap.get?_push_of_some _ e)
  have hC₁ := kk _ _ hC
  have X₁ := X.keeps kk
  have hget : ((h.push { cls := .type "tuple", data := .seq rest.toArray }).push (excO none h.objs.size)).get? (h.objs.size + 1) = some (excO none h.objs.size) := Heap.get?_push_at (by simp only [Heap.size_push]) rfl
  have hcC : (Value.ref 59 :: BMF).contains (.ref 59) = true := by decide
  unfold isInstance
  repeat (first | with_reducible refine wpAny_loadPart_at hget ?_ | (with_reducible refine wpAny_isSubtype_exc hC₁ ?_; rw [hcC]) | wp_step)
  show wpAny _ _ (isSubtype (.ref 59) (.ref 59)) _ _ _
  refine wpAny_isSubtype_exc hC₁ ?_
  rw [hcC]
  repeat wp_step
  show wpAny _ _ (typeLookup (.ref 59) _) _ _ _
  refine (looks_findIn X₁ hi).here ?_
  refine wpAny_holding (wpAny_bind ((bind_fn X₁ _ hf).here ?_))
  refine wpAny_bind (wpAny_mono hq (fun v s' hv => ?_) fun _ _ x => x)
  obtain ⟨rfl, hv⟩ := hv
  refine wpAny_pure ?_
  dsimp only
  rw [if_neg (by decide)]
  exact wpAny_pure hv
theorem call_F {K : Frag} {rest : List Value} {Q : Value → Shared → Prop} (X : K.In h) (hi : findIn K (.ref 59) "__init__" = some (some (.ref 36))) (hf : typeIn K (.ref 36) = some (.type "function"))
    (hC : h.get? 59 = some (excClassObj nm qn 59 58 bs BMF true sn sub ab col dd k0 k1 k2 k3 k5 "Exception.__new__")) (hrest : rest.length ≤ sizeLine)
    (hq : wpAny (model prog w) (A.under (.builtin "type.__call__" ⟨.ref 59 :: rest, []⟩)) (call (.ref 36) (.ref (h.objs.size + 1) :: rest)) (fun v s' => v = .none ∧ Q (.ref (h.objs.size + 1)) s') E ⟨(h.push { cls := .type "tuple", data := .seq rest.toArray }).push (excO none h.objs.size), g, d, t, os⟩) :
    wpAny (model prog w) A (call (.ref 59) rest) Q E ⟨h, g, d, t, os⟩ := by
  have f1 := tc_lookup
  have f2 := tc_bind (.ref 59)
  have hT : (⟨h, g, d, t, os⟩ : Shared).TypeIs (.ref 59) "type" := ⟨_, hC, rfl⟩
  refine wpAny_call (codeAny_of_tree ?_)
  show wpAny _ _ (callAny (.ref 59) _) _ _ _
  repeat (any_goals (first | assumption | with_reducible refine wpAny_loadPart_at hC ?_ | wp_step))
  refine ⟨rfl, ?_⟩
  refine codeAny_call_builtin_at (Code.quiet_builtin _ (by decide +kernel)) entry_typeCall (wpAny_check_type_call_sub hC ?_)
  exact type_callF X hi hf hC hrest hq
end
end Mine
end

section
open PySem PySem.W PyProof.Rows PySem.Calls PySem.Spec
set_option Elab.async false
set_option maxRecDepth 100000
set_option maxHeartbeats 0
namespace Mine
structure MadeF (h h' : Heap) (e : Addr) (vs : List Value) : Prop where
  keeps : ∀ b o, h.get? b = some o → h'.get? b = some o
  new : h.get? e = none
  there : ∃ t dx, h'.get? e = some (excO dx t) ∧ h.get? t = none ∧ h'.get? t = some { cls := .type "tuple", data := .seq vs.toArray }
noncomputable def RaisableF (E : Value → Shared → Prop) (K : Frag) (v : Value) (s₁ : Shared) : Prop :=
  ∃ a dx t, v = .ref a ∧ K.In s₁.heap ∧ faultIn K = true ∧ s₁.heap.get? a = some (excO dx t) ∧ E (.ref a) s₁
section
variable {M : Model} {A : Around} {E : Value → Shared → Prop} {s : Shared} {env : Env} {K : Frag}
theorem raiseStmt_F {x : Sem Value} {Q : Flow → Shared → Prop} (hh : A.handled = none) (h : wpAny M A x (RaisableF E K) E s) : wpAny M A (raiseStmt env (some x) none) Q E s := by
  have hcB : (Value.ref 59 :: BMF).contains (.type "BaseException") = true := by decide
  unfold raiseStmt
  refine wpAny_bind (wpAny_mono h (fun v s₁ h₁ => ?_) fun _ _ x => x)
  obtain ⟨e, dx, t, rfl, X, q, he, hE⟩ := h₁
  obtain ⟨nm, qn, bs, sn, sub, ab, col, dd, k0, k1, k2, k3, k5, hC⟩ := fault_cls X q
  obtain ⟨hp, g, d, tk, os⟩ := s₁
  have he : hp.get? e = some { cls := .ref 59, dict := dx, data := .fields #[.ref t, .none, .none, .none, .bool false, .none] } := he
  repeat (first | with_reducible refine wpAny_loadPart_at he ?_ | with_reducible refine wpAny_loadPart_at hC ?_ | (with_reducible refine wpAny_isSubtype_exc hC ?_; rw [hcB]) | wp_step)
  exact wpAny_raiseNew_none hh hE
theorem Raise_F {e : PySem.Expr} {pos : Pos} {Q : Flow → Shared → Prop} (K : Frag) (hh : A.handled = none) (h : wpAny M A (eval e env) (RaisableF E K) E s) : wpAny M A (exec (.Raise (some e) none pos) env) Q E s := by
  show wpAny M A (do standAt pos; raiseStmt env (some (do let v ← eval e env; standAt pos; pure v)) none) Q E s
  exact wpAny_bind (wpAny_standAt (raiseStmt_F hh (wpAny_bind (wpAny_mono h (fun v s₁ h₁ => wpAny_bind (wpAny_standAt (wpAny_pure h₁))) fun _ _ x => x))))
end
theorem under_call {hd : Option Value} {dp un : Nat} {gd : Option (List Code)} {cn : Str} {cs : Scope} {L a : Addr} {ccd : Value} {cl : List (Str × Addr)} {outer : List Env} {rest : List Value} :
    (CAround hd dp un gd cn cs L a ccd cl outer).under (.builtin "type.__call__" ⟨.ref 59 :: rest, []⟩) = CAround hd (dp + 1) (un + 1) gd cn cs L a ccd cl outer := by
  have hg : guardIds.contains "type.__call__" = false := by decide +kernel
  have hG : (Code.builtin "type.__call__" ⟨.ref 59 :: rest, []⟩).isGuard = false := hg
  have hF : (Code.builtin "type.__call__" ⟨.ref 59 :: rest, []⟩).isFrame = false := rfl
  have hN : (Code.builtin "type.__call__" ⟨.ref 59 :: rest, []⟩).frames = 0 := by unfold Code.frames; split <;> first | rfl | simp_all [Code.isFrame]
  have hC : (Code.builtin "type.__call__" ⟨.ref 59 :: rest, []⟩).isCreation = true := by
    unfold Code.isCreation
    split
    · rfl
    · rename_i hx
      exact (hx 59 rest [] rfl).elim
  have hK : (Code.builtin "type.__call__" ⟨.ref 59 :: rest, []⟩).isCaller = false := by unfold Code.isCaller; split <;> first | rfl | simp_all
  have h1 : (Code.builtin "type.__call__" ⟨.ref 59 :: rest, []⟩).weight = 1 := by unfold Code.weight; rw [hN, hC, hG, hK]; rfl
  have h2 : (Code.builtin "type.__call__" ⟨.ref 59 :: rest, []⟩).cUnits = 1 := by
    show 1 + 3 * (Code.builtin "type.__call__" ⟨.ref 59 :: rest, []⟩).frames = 1
    rw [hN]
  have h3 : (Code.builtin "type.__call__" ⟨.ref 59 :: rest, []⟩).envs = [] := by unfold Code.envs; rw [hF]; rfl
  have h4 : (Code.builtin "type.__call__" ⟨.ref 59 :: rest, []⟩).guards = [] := by unfold Code.guards; rw [hG]; rfl
  unfold Around.under
  rw [h1, h2, h3, h4]
  rfl
section
variable {w : World} {hd : Option Value} {mean : ExcName → Option Value} {mg mb : Str → Option Value} {dp un : Nat} {gd : Option (List Code)} {cn : Str} {cs : Scope} {a : Addr} {ccd : Value} {cl : List (Str × Addr)} {outer : List Env} {A₀ : Around} {base h₀ : Heap} {L : Addr} {m : Str → Option Value} {s : Shared} {E E' : Value → Shared → Prop} {news : List (Addr × Obj)}
theorem fault_init (w : World) : findIn (Mine.fr.heap_1 w.params) (.ref 59) "__init__" = some (some (.ref 36)) := by kernel_rfl
theorem init_fn (w : World) : typeIn (Mine.fr.heap_1 w.params) (.ref 36) = some (.type "function") := by kernel_rfl
theorem use_F {what : Str} {tk : Tok} (B : Below A₀ base outer h₀) (F : Fr h₀ L s.heap m) (X : (Mine.fr.heap_1 w.params).In h₀) (T : Top Mine.viewQ LOOSE mean mg mb h₀) (hk : cs.kind = .function) (hd' : dp + 4 < recursionLimit) (hu : un + 64 < cLine)
    (h : ∀ e h' tk', MadeF s.heap h' e [.str what tk] → E' (.ref e) { s with heap := h', toks := tk' }) :
    wpAny (model PRG w) (CAround none dp un gd cn cs L a ccd cl outer) (call (.ref 59) [.str what tk]) (RaisableF E' (Mine.fr.heap_1 w.params)) E s := by
  obtain ⟨nm, qn, bs, sn, sub, ab, col, dd, k0, k1, k2, k3, k5, hC⟩ := fault_cls (X.keeps F.keep) (fault_in w)
  obtain ⟨hp, g, d, t, os⟩ := s
  refine call_F (X.keeps F.keep) (fault_init w) (init_fn w) hC (Nat.le_of_ble_eq_true rfl) ?_
  rw [under_call]
  have kk : ∀ b o, hp.get? b = some o → ((hp.push { cls := .type "tuple", data := .seq [Value.str what tk].toArray }).push (excO none hp.objs.size)).get? b = some o := fun b o e => Heap.get?_push_of_some _ (Heap.get?_push_of_some _ e)
  have hnone : hp.get? (hp.objs.size + 1) = none := Heap.get?_none_of_le (Nat.le_succ _)
  have hg : ((hp.push { cls := .type "tuple", data := .seq [Value.str what tk].toArray }).push (excO none hp.objs.size)).get? (hp.objs.size + 1) = some (excO none hp.objs.size) := Heap.get?_push_at (by simp only [Heap.size_push]) rfl
  refine c_init w (hp.objs.size + 1) hp.objs.size what tk _ _ _ _ _ _ _ _ _ _ _ _ _ _ _ _ _ _ _ _ B ((F.push _).push _) X ?_ T hk (by omega) (by omega) fun v h' tk' hp' => ?_
  · intro p hp'
    rcases List.mem_singleton.mp hp' with rfl
    refine ⟨hg, fun q => ?_, ?_⟩
    · have := F.ns.lt
      rw [← q] at this
      exact absurd this (by show ¬ hp.objs.size + 1 < hp.objs.size; omega)
    · cases q : h₀.get? (hp.objs.size + 1) with
      | none => rfl
      | some o => have := F.keep _ _ q; rw [hnone] at this; cases this
  · obtain ⟨rfl, hk', t', dx, he, ht, ht'⟩ := hp'
    have M : MadeF hp h' (hp.objs.size + 1) [.str what tk] := ⟨fun b o e => hk' b o (kk b o e) (fun z => by rw [z, hnone] at e; cases e), hnone, t', some dx, he, (by
      cases q : hp.get? t' with
      | none => rfl
      | some o => have := kk _ _ q; rw [ht] at this; cases this), ht'⟩
    refine ⟨rfl, hp.objs.size + 1, some dx, t', rfl, (X.keeps F.keep).keeps M.keeps, fault_in w, he, h _ h' tk' M⟩
end
section
variable {M : Model} {A : Around} {E : Value → Shared → Prop} {s' : Shared} {base g g₂ h : Heap} {outer : List Env} {L a e t : Addr} {m : Str → Option Value} {name : Str} {scope : Scope} {cd : Value} {Q : Unit → Shared → Prop} {news : List (Addr × Obj)}
theorem leaves_F {s : Shared} {env : Env} {args : List Value} (hfr : A.frames = some (env :: outer)) (hf : env.frame = some L) (hkb : base.StaysIn h) (hl : h.FunFrames base (env :: outer)) (hx : MadeF h s.heap e args)
    (hQ : ∀ h' t, Heap.FlyingW base outer e (.ref 59) (.ref t) h' → h'.TupAt t args → base.get? t = none → s.heap.UpToSlots h' → Q () { s with heap := h' }) : wpAny M A (leaving env (.ref e)) Q E s := by
  obtain ⟨t, dx, he, htn, ht⟩ := hx.there
  have fresh : ∀ b, h.get? b = none → base.get? b = none := fun b hb => by
    cases hq : base.get? b with
    | none => rfl
    | some o' => have := hkb b o' hq; rw [hb] at this; cases this
  refine wpAny_leaving_firstW (a0 := .ref t) hfr (hl.of_keeps fun b o hb _ => ⟨o, hx.keeps b o hb, rfl⟩) hf he (fun b o hb => hx.keeps b o (hkb b o hb)) (fresh e hx.new) rfl rfl rfl fun h' hL => ?_
  obtain ⟨k1, ⟨_, _, k2⟩, k3, k4⟩ := hL
  exact hQ h' t ⟨k1, fresh e hx.new, k2, k3⟩ (Heap.TupAt.of_slots ⟨_, _, ht, rfl, rfl⟩ k4) (fresh t htn) k4
end
noncomputable def RaisedF (base G : Heap) (l : List Env) (e : Addr) (h : Heap) : Prop :=
  ∃ B a0, base.StaysIn B ∧ (∀ b o, G.get? b = some o → b ∉ l.filterMap (·.frame) → B.get? b = some o) ∧ Heap.FlyingW B l e (.ref 59) a0 h
theorem pushX {A : Around} {base h₀ h : Heap} {outer : List Env} {L a : Addr} {m : Str → Option Value} {name : Str} {scope : Scope} {cd : Value} {cells : List (Str × Addr)}
    (K : Below A base outer h₀) (F : Fr h₀ L h m) (hk : scope.kind = .function) : Below (A.deeper (envX name scope L a cd cells)) base (envX name scope L a cd cells :: outer) h := by
  have hnew : base.get? L = none := by
    cases hq : base.get? L with
    | none => rfl
    | some o => exact absurd (Nat.lt_of_lt_of_le (Heap.lt_size (K.stays L o hq)) F.above) (Nat.lt_irrefl _)
  refine ⟨Around.frames_deeper K.stack, fun b o e => F.keep b o (K.stays b o e), ?_⟩
  exact .cons (by show scope.kind ≠ .module; rw [hk]; decide) rfl F.ns hnew (K.frames.of_keeps fun b o e _ => ⟨o, F.keep b o e, rfl⟩)
theorem frames_mem {name : Str} {scope : Scope} {L a b : Addr} {cd : Value} {cells : List (Str × Addr)} {outer : List Env} (hm : b ∈ (envX name scope L a cd cells :: outer).filterMap (·.frame)) : b = L ∨ b ∈ outer.filterMap (·.frame) := by
  obtain ⟨env, he, hf⟩ := List.mem_filterMap.mp hm
  rcases List.mem_cons.mp he with rfl | he
  · exact .inl (Option.some.inj hf).symm
  · exact .inr (List.mem_filterMap.mpr ⟨env, he, hf⟩)
theorem leave_F {M : Model} {A : Around} {E : Value → Shared → Prop} {s' : Shared} {base g h : Heap} {outer : List Env} {L a e : Addr} {m : Str → Option Value} {name : Str} {scope : Scope} {cd : Value} {cells : List (Str × Addr)} {Q : Unit → Shared → Prop} {vs : List Value}
    (K : Below A base outer g) (hx : MadeF h s'.heap e vs) (F : Fr g L h m) (hQ : ∀ h', RaisedF base g outer e h' → g.UpToSlots h' → Q () { s' with heap := h' }) (hk : scope.kind = .function) :
    wpAny M (A.deeper (envX name scope L a cd cells)) (leaving (envX name scope L a cd cells) (.ref e)) Q E s' := by
  have K' := pushX (name := name) (a := a) (cd := cd) (cells := cells) K F hk
  have hin : ∀ env ∈ (envX name scope L a cd cells :: outer), ∀ b, env.frame = some b → b ∈ (envX name scope L a cd cells :: outer).filterMap (·.frame) := fun env he b hb => List.mem_filterMap.mpr ⟨env, he, hb⟩
  have st : base.StaysIn (hideAll h ((envX name scope L a cd cells :: outer).filterMap (·.frame))) := fun b o q => hideAll_get _ (K'.stays b o q) fun hm => by
    rw [(K'.frames.mem hm).1] at q; cases q
  have sg : ∀ b o, g.get? b = some o → b ∉ outer.filterMap (·.frame) → (hideAll h ((envX name scope L a cd cells :: outer).filterMap (·.frame))).get? b = some o := fun b o q nm => hideAll_get _ (F.keep b o q) fun hm => by
    rcases frames_mem hm with z | z
    · rw [z, kts_self F] at q
      cases q
    · exact nm z
  exact leaves_F K'.stack rfl (fun b o q => of_hideAll _ q) (funFrames_hide K'.frames hin) hx fun h' t x1 x2 x3 x4 =>
    hQ h' ⟨_, _, st, sg, x1⟩ (((Heap.UpToSlots.of_keeps F.keep).trans (Heap.UpToSlots.of_keeps hx.keeps)).trans x4)
end Mine
end

section
open PySem PySem.W PyProof.Rows PySem.Calls PySem.Spec
set_option Elab.async false
set_option maxRecDepth 100000
set_option maxHeartbeats 0
namespace Mine
theorem topOffGF : True := by
  w_top off
  trivial
noncomputable abbrev RaisesIn (kk : Nat) (w : World) (f : Addr) (vs : List Value) : Prop :=
  ∀ (mean : ExcName → Option Value) (mg mb : Str → Option Value) (dp un : Nat) (gd : Option (List Code)) (cn : Str) (cs : Scope) (a : Addr) (ccd : Value) (cl : List (Str × Addr)) (outer : List Env) (A₀ : Around) (base h₀ : Heap) (L : Addr) (m : Str → Option Value) (s : Shared) (Q E : Value → Shared → Prop),
    Below A₀ base outer h₀ → Fr h₀ L s.heap m → (Mine.fr.heap_1 w.params).In h₀ → News h₀ L s.heap [] → Top Mine.viewQ LOOSE mean mg mb h₀ → cs.kind = .function → dp + kk < recursionLimit → un + 16 * kk < cLine →
    (∀ e h' tk', RaisedF base s.heap (envX cn cs L a ccd cl :: outer) e h' → s.heap.UpToSlots h' → E (.ref e) { s with heap := h', toks := tk' }) → wpAny (model PRG w) (CAround none dp un gd cn cs L a ccd cl outer) (call (.ref f) vs) Q E s
theorem end_F {base : Heap} {G g h' : Heap} {l : List Env} {e : Addr} (k : KeepsBut [] G g) (R : RaisedF base g l e h') : RaisedF base G l e h' := by
  obtain ⟨B, a0, h1, h2, h3⟩ := R
  exact ⟨B, a0, h1, fun b o q nm => h2 b o (k b o q (by simp)) nm, h3⟩
theorem up_F {G g h' : Heap} (k : KeepsBut [] G g) (U : g.UpToSlots h') : G.UpToSlots h' := fun b o q hn => U b o (k b o q (by simp)) hn
theorem use_raise {kk : Nat} {w : World} {f : Addr} {vs : List Value} {mean : ExcName → Option Value} {mg mb : Str → Option Value} {dp un : Nat} {gd : Option (List Code)} {cn : Str} {cs : Scope} {a : Addr} {ccd : Value} {cl : List (Str × Addr)} {outer : List Env} {A₀ : Around} {base h₀ : Heap} {L : Addr} {m : Str → Option Value} {s : Shared} {Q E : Value → Shared → Prop}
    (C : RaisesIn kk w f vs) (B : Below A₀ base outer h₀) (F : Fr h₀ L s.heap m) (X : (Mine.fr.heap_1 w.params).In h₀) (T : Top Mine.viewQ LOOSE mean mg mb h₀) (hk : cs.kind = .function) (hd' : dp + kk < recursionLimit) (hu : un + 16 * kk < cLine)
    (h : ∀ e h' tk', RaisedF base s.heap (envX cn cs L a ccd cl :: outer) e h' → s.heap.UpToSlots h' → E (.ref e) { s with heap := h', toks := tk' }) : wpAny (model PRG w) (CAround none dp un gd cn cs L a ccd cl outer) (call (.ref f) vs) Q E s :=
  C _ _ _ _ _ _ _ _ _ _ _ _ _ _ _ _ _ _ _ _ B F X News.nil T hk hd' hu h
theorem c_glyph_bad (w : World) (n : Int) (t : Tok) (hg : good n = false) : RaisesIn 6 w 132 [.int n t] := by
  dsimp only [RaisesIn, PRG, LOOSE, CAround]
  k_fill
  intro mean mg mb dp un gd cn cs a ccd cl outer A₀ base h₀ L m s Q E B₀ F₀ X₀ N₀ T₀ hk₀ hd₀ hu₀ hret
  refine wpAny_call ?_
  k_dflt (refine' enter ?k1 ?k2 ?k3 ?k4 ?k5 ?kA ?kF ?kK ?k6 ?k7 ?k8 ?k9 ?kB ?_ ?c2 ?c3 ?c4 ?c5; (case kA => exact rfl); (case kF => exact rfl); (case kK => assumption); (case k1 => k_asm); (case k2 => k_asm); (case k3 => k_asm); (case k4 => k_asm); (case k5 => k_asm); (case k6 => k_is); (case k7 => k_is); (case k8 => ktr_room); (case k9 => exact BindsTo.of_eq rfl); (case c5 => decide); (case kB => exact locs rfl); (case c2 => exact rfl); (case c3 => exact rfl); (case c4 => exact rfl); k_whole; intro g' L' h' G1' G2' F' N' B' X' T'; (try dsimp only); (try k_fold))
  k_with_none
  k_with "call ref" => (k_here; (with_reducible show wpAny _ _ (call (Value.ref 108) _) _ _ _); k_dflt (refine' use_val (c_is_sign_code _ _ _) (by k_asm) (by k_asm) (by k_asm) (by k_asm) (by k_asm) (by first | rfl | assumption) (by first | omega | ((try simp only [depth_in1, depth_deeper, depth_caller]); (try dsimp only); omega)) (by first | omega | ((try simp only [units_in1, units_deeper, Around.mark_units, units_caller]); (try dsimp only); omega)) ?_); intro t' h' tk' F' N')
  k_with "exec Raise some none" => (k_here; k_dflt (refine Raise_F (Mine.fr.heap_1 w.params) rfl ?_))
  k_with "call ref" => (k_here; (with_reducible show wpAny _ _ (call (Value.ref 59) _) _ _ _); k_dflt (refine' use_F (by k_asm) (by k_asm) (by k_asm) (by k_asm) (by first | rfl | assumption) (by first | omega | ((try simp only [depth_in1, depth_deeper, depth_caller]); (try dsimp only); omega)) (by first | omega | ((try simp only [units_in1, units_deeper, Around.mark_units, units_caller]); (try dsimp only); omega)) ?_); intro e' h' tk' M')
  k_with "leaving ref" => (k_here; k_dflt (refine' leave_F (by k_asm) (by with_reducible assumption) (by k_asm) ?_ (by rfl)); intro h' R' U')
  k_steps
  exact hret _ _ _ (end_F G1' (by with_reducible assumption)) (up_F G1' (by with_reducible assumption))
end Mine
end

section
open PySem PySem.W PyProof.Rows PySem.Calls PySem.Spec
set_option Elab.async false
set_option maxRecDepth 100000
set_option maxHeartbeats 0
namespace Mine
theorem topOffBF : True := by
  w_top off
  trivial
theorem c_base_bad (w : World) (t : Tok) : RaisesIn 8 w 87 [.str (Str.ofString "MacExpertEncoding") t] := by
  dsimp only [RaisesIn, PRG, LOOSE, CAround]
  k_fill
  intro mean mg mb dp un gd cn cs a ccd cl outer A₀ base h₀ L m s Q E B₀ F₀ X₀ N₀ T₀ hk₀ hd₀ hu₀ hret
  refine wpAny_call ?_
  k_dflt (refine' enter ?k1 ?k2 ?k3 ?k4 ?k5 ?kA ?kF ?kK ?k6 ?k7 ?k8 ?k9 ?kB ?_ ?c2 ?c3 ?c4 ?c5; (case kA => exact rfl); (case kF => exact rfl); (case kK => assumption); (case k1 => k_asm); (case k2 => k_asm); (case k3 => k_asm); (case k4 => k_asm); (case k5 => k_asm); (case k6 => k_is); (case k7 => k_is); (case k8 => ktr_room); (case k9 => exact BindsTo.of_eq rfl); (case c5 => decide); (case kB => exact locs rfl); (case c2 => exact rfl); (case c3 => exact rfl); (case c4 => exact rfl); k_whole; intro g' L' h' G1' G2' F' N' B' X' T'; (try dsimp only); (try k_fold))
  k_with_none
  k_with "call ref" => (k_here; (with_reducible show wpAny _ _ (call (Value.ref 70) _) _ _ _); k_dflt (refine' use_texts (c_ascii_names _) (by k_asm) (by k_asm) (by k_asm) (by k_asm) (by k_asm) (by first | rfl | assumption) (by first | omega | ((try simp only [depth_in1, depth_deeper, depth_caller]); (try dsimp only); omega)) (by first | omega | ((try simp only [units_in1, units_deeper, Around.mark_units, units_caller]); (try dsimp only); omega)) ?_); intro D' vs' n' h' tk' a' F' N' o1'; (try simp only [LCg.Off1, and_true] at o1'))
  k_with "binaryOp Mult ref int" => (k_here; (with_reducible show wpAny _ _ (binaryOp Operator.Mult (Value.ref _) (Value.int _ _)) _ _ _); k_dflt (refine' mul_one (by k_asm) (by k_asm) (by kmk_list) (by first | omega | decide) (by first | omega | decide) ?_); intro D' h' F' N' l1 a'; (try k_lt l1))
  k_with "binaryOp Add ref ref" => (k_here; (with_reducible show wpAny _ _ (binaryOp _ (Value.ref _) (Value.ref _)) _ _ _); k_dflt (refine' add_strs (by k_asm) (by k_asm) (by kmk_list) (by kmk_list) (by first | with_reducible assumption | exact .cons _ _ .nil) (by first | with_reducible assumption | exact .cons _ _ .nil) (by first | exact Nat.le_of_ble_eq_true (by decide +kernel) | skip) ?_); intro D' us' h' F' N' hU' l1; (try k_lt l1); (try replace hU' := strs_castE (ys := baseN) hU' (by decide +kernel)); (try replace hU' := strs_castE (ys := winB) hU' (by decide +kernel)))
  k_with "exec Raise some none" => (k_here; k_dflt (refine Raise_F (Mine.fr.heap_1 w.params) rfl ?_))
  k_with "call ref" => (k_here; (with_reducible show wpAny _ _ (call (Value.ref 59) _) _ _ _); k_dflt (refine' use_F (by k_asm) (by k_asm) (by k_asm) (by k_asm) (by first | rfl | assumption) (by first | omega | ((try simp only [depth_in1, depth_deeper, depth_caller]); (try dsimp only); omega)) (by first | omega | ((try simp only [units_in1, units_deeper, Around.mark_units, units_caller]); (try dsimp only); omega)) ?_); intro e' h' tk' M')
  k_with "leaving ref" => (k_here; k_dflt (refine' leave_F (by k_asm) (by with_reducible assumption) (by k_asm) ?_ (by rfl)); intro h' R' U')
  k_steps
  exact hret _ _ _ (end_F G1' (by with_reducible assumption)) (up_F G1' (by with_reducible assumption))
end Mine
end

section
open PySem PySem.W PyProof.Rows PySem.Calls PySem.Spec
set_option Elab.async false
set_option maxRecDepth 100000
set_option maxHeartbeats 0
namespace Mine
section
variable {prog : Program} {w : World} {A₀ : Around} {E : Value → Shared → Prop} {s' : Shared} {base g G : Heap} {outer : List Env} {L a e : Addr} {m : Str → Option Value} {name : Str} {scope : Scope} {cd : Value}
  {b₀ : Stmt} {suite : List Stmt} {pos np : Pos} {rest : List ExceptHandler} {Q : Flow → Shared → Prop} {news : List (Addr × Obj)}
  {p : Program} {loose : List Str} {mean : ExcName → Option Value} {mg mb : Str → Option Value} {x : Str}
theorem caught_F (R : RaisedF base G (envOf name scope L a cd :: outer) e s'.heap) (F : Fr g L G m) (K : Below A₀ base outer g) (N : News g L G news) (hsm : G.UpToSlots s'.heap) (XB : (Mine.fr.heap_1 w.params).In base) (TB : Top p loose mean mg mb base)
    (ex : nsIn (Mine.fr.heap_1 w.params) mainGlobals x = some (some (.ref 59)))
    (k : ∀ h' g', KtsTurn (outer.filterMap (·.frame)) g g' → Fr g' L h' m → News g' L h' news → Below A₀ base outer g' → (Mine.fr.heap_1 w.params).In g' → Top p loose mean mg mb g' →
      wpAny (model prog w) ((A₀.deeper (envOf name scope L a cd)).mark (some (.ref e))) (execs (b₀ :: suite) (envOf name scope L a cd)) Q E { s' with heap := h' })
    (hk : scope.kind = .function := by rfl) (hx : (envOf name scope L a cd).kindOf x = some .globalImplicit := by rfl) (hd : (x == ("__debug__" : Str)) = false := by decide)
    (hE : PassesOwnAt (model prog w) ((A₀.deeper (envOf name scope L a cd)).mark (some (.ref e))) (A₀.deeper (envOf name scope L a cd)) (envOf name scope L a cd) E := by passes_own) :
    wpAny (model prog w) (A₀.deeper (envOf name scope L a cd)) (noteFrame (.ref e) (envOf name scope L a cd))
      (fun _ s₂ => wpAny (model prog w) (A₀.deeper (envOf name scope L a cd)) (setFlight (.ref e) none) (fun _ s₃ =>
        wpAny (model prog w) (A₀.deeper (envOf name scope L a cd)) (handleBy (.ref e) (envOf name scope L a cd) (.ExceptHandler (some (.Name x np)) none (b₀ :: suite) pos :: rest)) Q E s₃) E s₂) E s' := by
  obtain ⟨B, a0, hB, hBG, hfl⟩ := R
  have hL : B.get? L = none := by
    obtain ⟨_, ⟨L', _, hf, hn', _⟩, _⟩ := hfl.2.2.1
    obtain rfl : L = L' := Option.some.inj hf
    exact hn'
  refine wpAny_looks_onW (Around.frames_deeper K.stack) rfl hfl fun h₄ hheld₄ hsm₄ => ?_
  refine wpAny_landsW hheld₄ fun h₅ hheld hsm₅' => ?_
  have hsm₅ := hsm₄.trans hsm₅'
  obtain ⟨g₅, T₅, F₅, K₅⟩ := kts_ground K F hBG hheld.1 (hsm.trans hsm₅)
  have X₅ : (Mine.fr.heap_1 w.params).In g₅ := XB.keeps K₅.stays
  have P₅ : TopRead p loose mg mb g₅ := topRead_of (TB.keeps K₅.stays)
  obtain ⟨ob, hob, hobc⟩ := hheld.there
  obtain ⟨nm, qn, bs, sn, sub, ab, col, dd, k0, k1, k2, k3, k5, hC⟩ := fault_cls X₅ (fault_in w)
  have hC₅ := F₅.keep _ _ hC
  refine wpAny_handleBy_cons (codeAny_handlers_test (name_K F₅ X₅ P₅ ex ?_ hk hx hd)) (by intro q; cases q)
  refine wpAny_excMatches_sub_self hC₅ hob hobc (by decide) (codeAny_handlers_suite ?_)
  refine lands_againW hheld fun h₆ hfl₆ hsm₆ => ?_
  obtain ⟨g₆, T₆, F₆, K₆⟩ := kts_ground K F hBG hfl₆.1 ((hsm.trans hsm₅).trans hsm₆)
  have notin : ∀ b, g.get? b = none → b ∉ outer.filterMap (·.frame) := fun b hb hm => by
    obtain ⟨_, o, ho, _⟩ := K.frames.mem hm
    rw [hb] at ho; cases ho
  have Nl : News g₆ L h₆ news := fun q hq => by
    have hn := N q hq
    have hBq := hBG _ _ hn.1 (fun hm => by
      rcases kts_mem hm with z | z
      · exact hn.2.1 z
      · exact notin _ hn.2.2 z)
    exact ⟨hfl₆.1 _ _ hBq, hn.2.1, T₆.none_ _ hn.2.2⟩
  have X₆ : (Mine.fr.heap_1 w.params).In g₆ := XB.keeps K₆.stays
  have P₆ : Top p loose mean mg mb g₆ := TB.keeps K₆.stays
  exact wpAny_passesOwnAt hE (k h₆ g₆ T₆ F₆ Nl K₆ X₆ P₆)
theorem caught_X {cells : List (Str × Addr)} (R : RaisedF base G (envX name scope L a cd cells :: outer) e s'.heap) (F : Fr g L G m) (K : Below A₀ base outer g) (N : News g L G news) (hsm : G.UpToSlots s'.heap) (XB : (Mine.fr.heap_1 w.params).In base) (TB : Top p loose mean mg mb base)
    (ex : nsIn (Mine.fr.heap_1 w.params) mainGlobals x = some (some (.ref 59)))
    (k : ∀ h' g', KtsTurn (outer.filterMap (·.frame)) g g' → Fr g' L h' m → News g' L h' news → Below A₀ base outer g' → (Mine.fr.heap_1 w.params).In g' → Top p loose mean mg mb g' →
      wpAny (model prog w) ((A₀.deeper (envX name scope L a cd cells)).mark (some (.ref e))) (execs (b₀ :: suite) (envX name scope L a cd cells)) Q E { s' with heap := h' })
    (hk : scope.kind = .function := by rfl) (hx : (envX name scope L a cd cells).kindOf x = some .globalImplicit := by rfl) (hd : (x == ("__debug__" : Str)) = false := by decide)
    (hE : PassesOwnAt (model prog w) ((A₀.deeper (envX name scope L a cd cells)).mark (some (.ref e))) (A₀.deeper (envX name scope L a cd cells)) (envX name scope L a cd cells) E := by passes_own) :
    wpAny (model prog w) (A₀.deeper (envX name scope L a cd cells)) (noteFrame (.ref e) (envX name scope L a cd cells))
      (fun _ s₂ => wpAny (model prog w) (A₀.deeper (envX name scope L a cd cells)) (setFlight (.ref e) none) (fun _ s₃ =>
        wpAny (model prog w) (A₀.deeper (envX name scope L a cd cells)) (handleBy (.ref e) (envX name scope L a cd cells) (.ExceptHandler (some (.Name x np)) none (b₀ :: suite) pos :: rest)) Q E s₃) E s₂) E s' := by
  obtain ⟨B, a0, hB, hBG, hfl⟩ := R
  have hL : B.get? L = none := by
    obtain ⟨_, ⟨L', _, hf, hn', _⟩, _⟩ := hfl.2.2.1
    obtain rfl : L = L' := Option.some.inj hf
    exact hn'
  refine wpAny_looks_onW (Around.frames_deeper K.stack) rfl hfl fun h₄ hheld₄ hsm₄ => ?_
  refine wpAny_landsW hheld₄ fun h₅ hheld hsm₅' => ?_
  have hsm₅ := hsm₄.trans hsm₅'
  obtain ⟨g₅, T₅, F₅, K₅⟩ := kts_ground (name := name) (scope := scope) (a := a) (cd := cd) K F hBG hheld.1 (hsm.trans hsm₅)
  have X₅ : (Mine.fr.heap_1 w.params).In g₅ := XB.keeps K₅.stays
  have P₅ : TopRead p loose mg mb g₅ := topRead_of (TB.keeps K₅.stays)
  obtain ⟨ob, hob, hobc⟩ := hheld.there
  obtain ⟨nm, qn, bs, sn, sub, ab, col, dd, k0, k1, k2, k3, k5, hC⟩ := fault_cls X₅ (fault_in w)
  have hC₅ := F₅.keep _ _ hC
  refine wpAny_handleBy_cons (codeAny_handlers_test (nameX_K F₅ X₅ P₅ ex ?_ hk hx hd)) (by intro q; cases q)
  refine wpAny_excMatches_sub_self hC₅ hob hobc (by decide) (codeAny_handlers_suite ?_)
  refine lands_againW hheld fun h₆ hfl₆ hsm₆ => ?_
  obtain ⟨g₆, T₆, F₆, K₆⟩ := kts_ground (name := name) (scope := scope) (a := a) (cd := cd) K F hBG hfl₆.1 ((hsm.trans hsm₅).trans hsm₆)
  have notin : ∀ b, g.get? b = none → b ∉ outer.filterMap (·.frame) := fun b hb hm => by
    obtain ⟨_, o, ho, _⟩ := K.frames.mem hm
    rw [hb] at ho; cases ho
  have Nl : News g₆ L h₆ news := fun q hq => by
    have hn := N q hq
    have hBq := hBG _ _ hn.1 (fun hm => by
      rcases frames_mem hm with z | z
      · exact hn.2.1 z
      · exact notin _ hn.2.2 z)
    exact ⟨hfl₆.1 _ _ hBq, hn.2.1, T₆.none_ _ hn.2.2⟩
  have X₆ : (Mine.fr.heap_1 w.params).In g₆ := XB.keeps K₆.stays
  have P₆ : Top p loose mean mg mb g₆ := TB.keeps K₆.stays
  exact wpAny_passesOwnAt hE (k h₆ g₆ T₆ F₆ Nl K₆ X₆ P₆)
end
end Mine
end

section
open PySem PySem.W PyProof.Rows PySem.Calls PySem.Spec
set_option Elab.async false
set_option maxRecDepth 100000
set_option maxHeartbeats 0
namespace Mine
open PySem.Builtin.Str
noncomputable def joinL (c : Nat) : List (List Nat) → List Nat
  | [] => []
  | [x] => x
  | x :: r => x ++ c :: joinL c r
theorem joinL_cons (c : Nat) (x y : List Nat) (r : List (List Nat)) : joinL c (x :: y :: r) = x ++ c :: joinL c (y :: r) := rfl
theorem join_cps (c : Nat) : ∀ l : List Str, (Str.join ⟨#[c]⟩ l).cps.toList = joinL c (l.map (·.cps.toList))
  | [] => rfl
  | [x] => rfl
  | x :: y :: r => by
    show (x ++ ⟨#[c]⟩ ++ Str.join ⟨#[c]⟩ (y :: r)).cps.toList = _
    rw [Str.cps_append, Str.cps_append, Array.toList_append, Array.toList_append, join_cps c (y :: r)]
    simp [joinL_cons]
theorem free_split {c : Nat} : ∀ {a b u v : List Nat}, c ∉ a → c ∉ b → a ++ c :: u = b ++ c :: v → a = b ∧ u = v
  | [], [], _, _, _, _, h => ⟨rfl, by simpa using h⟩
  | [], y :: b, _, _, _, hb, h => by
    simp at h
    exact absurd h.1 (fun e => hb (by rw [← e]; exact .head _))
  | x :: a, [], _, _, ha, _, h => by
    simp at h
    exact absurd h.1 (fun e => ha (by rw [e]; exact .head _))
  | x :: a, y :: b, _, _, ha, hb, h => by
    simp only [List.cons_append, List.cons.injEq] at h
    obtain ⟨e1, e2⟩ := free_split (fun hm => ha (.tail _ hm)) (fun hm => hb (.tail _ hm)) h.2
    exact ⟨by rw [h.1, e1], e2⟩
theorem free_no {c : Nat} {a u v : List Nat} (ha : c ∉ a) (h : a = u ++ c :: v) : False := ha (by rw [h]; simp)
theorem joinL_inj {c : Nat} : ∀ {ps qs : List (List Nat)}, ps ≠ [] → qs ≠ [] → (∀ p ∈ ps, c ∉ p) → (∀ q ∈ qs, c ∉ q) → joinL c ps = joinL c qs → ps = qs
  | [], _, h, _, _, _, _ => absurd rfl h
  | _, [], _, h, _, _, _ => absurd rfl h
  | [x], [y], _, _, _, _, h => by rw [show x = y from h]
  | [x], y :: z :: r, _, _, hp, _, h => (free_no (hp x (.head _)) h).elim
  | x :: w :: r, [y], _, _, _, hq, h => (free_no (hq y (.head _)) h.symm).elim
  | x :: w :: r, y :: z :: s, _, _, hp, hq, h => by
    rw [joinL_cons, joinL_cons] at h
    obtain ⟨e1, e2⟩ := free_split (hp x (.head _)) (hq y (.head _)) h
    rw [e1, joinL_inj (by simp) (by simp) (fun p hm => hp p (.tail _ hm)) (fun q hm => hq q (.tail _ hm)) e2]
theorem cps_inj {l m : List Str} (h : l.map (·.cps.toList) = m.map (·.cps.toList)) : l = m := by
  induction l generalizing m with
  | nil => cases m with
    | nil => rfl
    | cons => simp at h
  | cons a r ih => cases m with
    | nil => simp at h
    | cons b q =>
      simp only [List.map_cons, List.cons.injEq] at h
      rw [ih h.2, show a = b from Str.ext' (Array.toList_inj.mp h.1)]
theorem split_eq {c : Nat} {ps : List Str} (hne : ps ≠ []) (hf : ∀ p ∈ ps, c ∉ p.cps.toList) : Txt.split (Str.join ⟨#[c]⟩ ps) ⟨#[c]⟩ = ps := by
  have h1 := StrLaws.join_split (Str.join ⟨#[c]⟩ ps) ⟨#[c]⟩
  have h2 := StrLaws.split_free (Str.join ⟨#[c]⟩ ps) c
  have h3 := split_pos (Str.join ⟨#[c]⟩ ps) ⟨#[c]⟩
  have h4 := congrArg (fun x : Str => x.cps.toList) h1
  simp only [join_cps] at h4
  refine cps_inj (joinL_inj (fun e => ?_) (fun e => ?_) (fun p hp => ?_) (fun p hp => ?_) h4)
  · have := congrArg List.length e
    simp at this
    rw [this] at h3; simp at h3
  · have := congrArg List.length e
    simp at this
    exact hne this
  · obtain ⟨q, hq, rfl⟩ := List.mem_map.mp hp
    exact h2 q hq
  · obtain ⟨q, hq, rfl⟩ := List.mem_map.mp hp
    exact hf q hq
theorem dot_lit : Str.ofString "." = ⟨#[46]⟩ := by decide +kernel
theorem und_lit : Str.ofString "_" = ⟨#[95]⟩ := by decide +kernel
theorem emp_lit : Str.ofString "" = ⟨#[]⟩ := by decide +kernel
theorem txt_join (sep : Str) (l : List Str) : Txt.join sep l = Str.join sep l := StrLaws.glued_eq_join sep l
theorem mem_joinL {c d : Nat} (hcd : d ≠ c) : ∀ {ps : List (List Nat)}, (∀ p ∈ ps, d ∉ p) → d ∉ joinL c ps
  | [], _ => fun h => nomatch h
  | [x], h => h x (.head _)
  | x :: y :: r, h => by
    rw [joinL_cons]
    intro hm
    rcases List.mem_append.mp hm with hm | hm
    · exact h x (.head _) hm
    · rcases List.mem_cons.mp hm with hm | hm
      · exact hcd hm
      · exact mem_joinL hcd (fun p hp => h p (.tail _ hp)) hm
noncomputable def Free (x : Str) : Prop := 46 ∉ x.cps.toList ∧ 95 ∉ x.cps.toList
noncomputable def dotTail (e : List Nat) : List (List Nat) → Prop := fun t => e = [] ∧ t = [] ∨ ∃ r, e = 46 :: joinL 46 r ∧ t = r ∧ r ≠ []
theorem head_of {y e : Str} {t : List Str} (hy : 46 ∉ y.cps.toList) (ht : ∀ p ∈ t, 46 ∉ p.cps.toList) (he : (y ++ e).cps.toList = joinL 46 ((y :: t).map (·.cps.toList))) : headT (y ++ e) = y := by
  have e1 : y ++ e = Str.join ⟨#[46]⟩ (y :: t) := Str.ext' (Array.toList_inj.mp (he.trans (join_cps 46 (y :: t)).symm))
  unfold headT
  rw [dot_lit, e1, split_eq (by simp) (fun p hp => by
    rcases List.mem_cons.mp hp with rfl | hp
    · exact hy
    · exact ht p hp)]
  rfl
noncomputable def tailC : List Str → List Nat
  | [] => []
  | a :: r => 46 :: joinL 46 ((a :: r).map (·.cps.toList))
theorem gtext_of {nms : List Str} {e : Str} {t : List Str} (hne : nms ≠ []) (hf : ∀ x ∈ nms, Free x) (ht : ∀ p ∈ t, 46 ∉ p.cps.toList)
    (he : e.cps.toList = tailC t) : gtext (Str.join ⟨#[95]⟩ nms ++ e) = Str.join Str.empty (nms.map ptext) := by
  have hy : 46 ∉ (Str.join ⟨#[95]⟩ nms).cps.toList := by
    rw [join_cps]
    refine mem_joinL (by decide) fun p hp => ?_
    obtain ⟨q, hq, rfl⟩ := List.mem_map.mp hp
    exact (hf q hq).1
  have hh : headT (Str.join ⟨#[95]⟩ nms ++ e) = Str.join ⟨#[95]⟩ nms := by
    refine head_of hy ht ?_
    rw [Str.cps_append, Array.toList_append, he]
    cases t with
    | nil => simp [joinL, tailC]
    | cons a r => rfl
  unfold gtext
  rw [hh, und_lit, split_eq hne (fun p hp => (hf p hp).2), txt_join, emp_lit]
  rfl
noncomputable def lookN : List (Str × Int) → List Nat → Option Int
  | [], _ => none
  | p :: r, l => if eqN p.1.cps.toList l = true then some p.2 else lookN r l
noncomputable def idxN : List Str → List Nat → Nat → Option Nat
  | [], _, _ => none
  | p :: r, l, i => if eqN p.cps.toList l = true then some i else idxN r l (i + 1)
noncomputable def kn (l : List Nat) : Int := match lookN otherN l with
  | some v => v
  | none => match idxN asciiN l 0 with
    | some i => 32 + (i : Nat)
    | none => match idxN latinN l 0 with
      | some i => 161 + (i : Nat)
      | none => -1
theorem eqN_refl : ∀ l : List Nat, eqN l l = true
  | [] => rfl
  | a :: r => by simp [eqN, eqN_refl r]
theorem eqN_iff {a b : Str} : eqN a.cps.toList b.cps.toList = true ↔ a = b :=
  ⟨fun h => Str.ext' (Array.toList_inj.mp (eqN_sound h)), fun h => by rw [h]; exact eqN_refl _⟩
theorem lookN_eq (x : Str) : ∀ t : List (Str × Int), t.lookup x = lookN t x.cps.toList
  | [] => rfl
  | (k, v) :: r => by
    rw [List.lookup_cons, lookN]
    by_cases h : k = x
    · rw [if_pos (eqN_iff.mpr h), h]; simp
    · rw [if_neg (fun e => h (eqN_iff.mp e)), lookN_eq x r]
      have : (x == k) = false := by simpa using fun e : x = k => h e.symm
      rw [this]
theorem idxN_some {x : Str} : ∀ {t : List Str} {i j : Nat}, idxN t x.cps.toList i = some j → x ∈ t ∧ i + t.idxOf x = j
  | p :: r, i, j, h => by
    rw [idxN] at h
    by_cases e : p = x
    · rw [if_pos (eqN_iff.mpr e)] at h
      subst e
      exact ⟨.head _, by simpa using h⟩
    · rw [if_neg (fun q => e (eqN_iff.mp q))] at h
      obtain ⟨h1, h2⟩ := idxN_some h
      refine ⟨.tail _ h1, ?_⟩
      rw [List.idxOf_cons]
      have : (p == x) = false := by simpa using e
      rw [this]
      simp only [cond_false]
      omega
theorem idxN_none {x : Str} : ∀ {t : List Str} {i : Nat}, idxN t x.cps.toList i = none → x ∉ t
  | [], _, _ => fun h => nomatch h
  | p :: r, i, h => by
    rw [idxN] at h
    by_cases e : p = x
    · rw [if_pos (eqN_iff.mpr e)] at h; cases h
    · rw [if_neg (fun q => e (eqN_iff.mp q))] at h
      intro hm
      rcases List.mem_cons.mp hm with q | q
      · exact e q.symm
      · exact idxN_none h q
theorem kn_eq (x : Str) : knownC x = kn x.cps.toList := by
  unfold knownC kn otherAt
  rw [lookN_eq]
  cases lookN otherN x.cps.toList with
  | some v => rfl
  | none =>
    dsimp only
    cases h1 : idxN asciiN x.cps.toList 0 with
    | some i =>
      obtain ⟨hm, hi⟩ := idxN_some h1
      rw [if_pos hm]
      have : asciiN.idxOf x = i := by omega
      rw [this]
    | none =>
      rw [if_neg (idxN_none h1)]
      cases h2 : idxN latinN x.cps.toList 0 with
      | some i =>
        obtain ⟨hm, hi⟩ := idxN_some h2
        rw [if_pos hm]
        have : latinN.idxOf x = i := by omega
        rw [this]
      | none => rw [if_neg (idxN_none h2)]
theorem ptext_known {x : Str} {c : Int} (h : kn x.cps.toList = c) (h0 : 0 ≤ c) : ptext x = chrS c := by
  unfold ptext
  rw [kn_eq, h, if_pos h0]
noncomputable def freeB (l : List Nat) : Bool := l.all fun c => !(Nat.beq c 46) && !(Nat.beq c 95)
theorem freeB_sound {x : Str} (h : freeB x.cps.toList = true) : Free x := by
  have := List.all_eq_true.mp h
  refine ⟨fun hm => ?_, fun hm => ?_⟩
  · exact absurd (this _ hm) (by decide)
  · exact absurd (this _ hm) (by decide)
theorem ascii_ok : (List.range 95).all (fun i => kn (asciiN.getD i Str.empty).cps.toList == ((i + 32 : Nat) : Int) && freeB (asciiN.getD i Str.empty).cps.toList) = true := by decide +kernel
theorem latin_ok : (List.range 95).all (fun i => Nat.beq i 12 || (kn (latinN.getD i Str.empty).cps.toList == ((i + 161 : Nat) : Int) && freeB (latinN.getD i Str.empty).cps.toList)) = true := by decide +kernel
theorem other_ok : otherN.all (fun p => kn p.1.cps.toList == p.2 && freeB p.1.cps.toList) = true := by decide +kernel
end Mine
end

section
open PySem PySem.W PyProof.Rows PySem.Calls PySem.Spec
set_option Elab.async false
set_option maxRecDepth 100000
set_option maxHeartbeats 0
namespace Mine
open PySem.Builtin.Str
noncomputable def figB : List Nat → Bool
  | 117 :: d :: r => (hexDig d).isSome || (Nat.beq d 110 && match r with | 105 :: _ => true | _ => false)
  | _ => false
theorem other_nofig : otherN.all (fun p => !figB p.1.cps.toList) = true := by decide +kernel
theorem ascii_nofig : asciiN.all (fun p => !figB p.cps.toList) = true := by decide +kernel
theorem latin_nofig : latinN.all (fun p => !figB p.cps.toList) = true := by decide +kernel
theorem lookN_no {l : List Nat} (h : figB l = true) : ∀ {t : List (Str × Int)}, t.all (fun p => !figB p.1.cps.toList) = true → lookN t l = none
  | [], _ => rfl
  | p :: r, ht => by
    simp only [List.all_cons, Bool.and_eq_true] at ht
    rw [lookN, if_neg (fun e => ?_), lookN_no h ht.2]
    rw [eqN_sound e, h] at ht
    exact absurd ht.1 (by decide)
theorem idxN_no {l : List Nat} (h : figB l = true) : ∀ {t : List Str} {i : Nat}, t.all (fun p => !figB p.cps.toList) = true → idxN t l i = none
  | [], _, _ => rfl
  | p :: r, i, ht => by
    simp only [List.all_cons, Bool.and_eq_true] at ht
    rw [idxN, if_neg (fun e => ?_), idxN_no h ht.2]
    rw [eqN_sound e, h] at ht
    exact absurd ht.1 (by decide)
theorem kn_fig {l : List Nat} (h : figB l = true) : kn l = -1 := by
  unfold kn
  rw [lookN_no h other_nofig, idxN_no h ascii_nofig, idxN_no h latin_nofig]
theorem hexDig_C {d : Nat} (h : d < 16) : hexDig (hexC d) = some d := by
  have key : (List.range 16).all (fun d => hexDig (hexC d) == some d) = true := by decide
  simpa using List.all_eq_true.mp key d (by simpa using h)
theorem hexAcc_go : ∀ (k c : Nat) (l : List Nat) (w : Nat), hexAcc (hexGo k c l) (w : Int) = hexAcc l ((w * 16 ^ k + c % 16 ^ k : Nat) : Int)
  | 0, c, l, w => by simp [hexGo, Nat.mod_one]
  | k + 1, c, l, w => by
    rw [hexGo, hexAcc_go k (c / 16), hexAcc, hexDig_C (Nat.mod_lt _ (by decide))]
    dsimp only
    have e : c % 16 ^ (k + 1) = 16 * ((c / 16) % 16 ^ k) + c % 16 := by
      rw [Nat.pow_succ, Nat.mul_comm (16 ^ k) 16, Nat.mod_mul]; omega
    have key : 16 * (w * 16 ^ k + c / 16 % 16 ^ k) + c % 16 = w * 16 ^ (k + 1) + c % 16 ^ (k + 1) := by
      rw [e, Nat.pow_succ]
      have : w * (16 ^ k * 16) = 16 * (w * 16 ^ k) := by rw [Nat.mul_comm (16 ^ k) 16, Nat.mul_left_comm]
      omega
    rw [← key]
    push_cast
    rfl
theorem hexNum_go {k c : Nat} (h : c < 16 ^ k) : hexAcc (hexGo k c []) 0 = (c : Int) := by
  have := hexAcc_go k c [] 0
  rw [Nat.mod_eq_of_lt h] at this
  simpa [hexAcc] using this
noncomputable def hexL (c : Nat) : Bool := (hexDig c).isSome
theorem hexGo_hex : ∀ (k c : Nat) (l : List Nat), (∀ d ∈ l, hexL d = true) → ∀ d ∈ hexGo k c l, hexL d = true
  | 0, _, _, h => h
  | k + 1, c, l, h => by
    rw [hexGo]
    refine hexGo_hex k _ _ fun d hd => ?_
    rcases List.mem_cons.mp hd with rfl | hd
    · unfold hexL; rw [hexDig_C (Nat.mod_lt _ (by decide))]; rfl
    · exact h d hd
theorem hexL_free {d : Nat} (h : hexL d = true) : d ≠ 46 ∧ d ≠ 95 ∧ d ≠ 110 := by
  refine ⟨fun e => ?_, fun e => ?_, fun e => ?_⟩ <;> · subst e; exact absurd h (by decide)
theorem slice_ss (x : Str) {a b : Nat} (hab : a ≤ b) (hb : b ≤ x.length) : (Txt.slice x (some (a : Int)) (some (b : Int))).cps.toList = (x.cps.toList.drop a).take (b - a) := by
  unfold Txt.slice
  have hl := StrLaws.strSliceIndices_plain hab hb
  split
  · rename_i h
    rw [hl] at h
    simp only [List.length_map, List.length_range, Bool.and_eq_true, beq_iff_eq] at h
    have : a = 0 := by omega
    subst this
    have : b = x.length := by omega
    subst this
    rw [List.drop_zero, Nat.sub_zero, List.take_of_length_le (by simp [Str.length])]
  · rw [StrLaws.sliced_plain x hab hb]
theorem slice_to (x : Str) {b : Nat} (hb : b ≤ x.length) : Txt.slice x none (some (b : Int)) = Txt.slice x (some ((0 : Nat) : Int)) (some (b : Int)) := by
  have e : strSliceIndices none (some (b : Int)) 1 x.length = strSliceIndices (some ((0 : Nat) : Int)) (some (b : Int)) 1 x.length := by
    unfold strSliceIndices
    have h0 : max (0 : Int) (min 0 (x.length : Int)) = 0 := by omega
    simp [h0]
  unfold Txt.slice
  rw [e]
theorem slice_from (x : Str) {a : Nat} (ha : a ≤ x.length) : Txt.slice x (some (a : Int)) none = Txt.slice x (some (a : Int)) (some (x.length : Int)) := by
  have e : strSliceIndices (some (a : Int)) none 1 x.length = strSliceIndices (some (a : Int)) (some (x.length : Int)) 1 x.length := by
    unfold strSliceIndices
    have h1 : ¬ ((x.length : Int) < 0) := by omega
    simp only [h1, if_false, show ((1 : Int) > 0) = True by simp, if_true]
    congr 1
    omega
  unfold Txt.slice
  rw [e]
theorem hexAcc_bad : ∀ (l : List Nat) (w : Int) (c : Nat), c ∈ l → hexDig c = none → hexAcc l w = -1
  | x :: r, w, c, hm, hc => by
    rw [hexAcc]
    cases e : hexDig x with
    | none => rfl
    | some d =>
      dsimp only
      rcases List.mem_cons.mp hm with q | q
      · rw [← q, hc] at e; cases e
      · exact hexAcc_bad r _ c q hc
theorem uni_lit : Str.ofString "uni" = ⟨#[117, 110, 105]⟩ := by decide +kernel
theorem u_lit : Str.ofString "u" = ⟨#[117]⟩ := by decide +kernel
theorem strEq {x y : Str} (h : x.cps.toList = y.cps.toList) : x = y := Str.ext' (Array.toList_inj.mp h)
theorem hexGo_one {k c : Nat} (h : 1 ≤ k) : ∃ d r, hexGo k c [] = d :: r ∧ hexL d = true := by
  cases e : hexGo k c [] with
  | nil =>
    have := hexGo_len k c []
    rw [e] at this
    simp at this
    omega
  | cons d r => exact ⟨d, r, rfl, hexGo_hex k c [] (fun _ h => nomatch h) d (by rw [e]; exact .head _)⟩
theorem ptext_u {wd k : Nat} (h : 4 ≤ wd ∧ wd ≤ 6) (hk : k < 16 ^ wd) : ptext (Str.ofString "u" ++ ⟨(hexGo wd k []).toArray⟩) = if good k = true then chrS k else Str.ofString "" := by
  obtain ⟨d, r, e, hd⟩ := hexGo_one (k := wd) (c := k) (by omega)
  have hlen := hexGo_len wd k []
  have hx : (Str.ofString "u" ++ ⟨(hexGo wd k []).toArray⟩ : Str).cps.toList = 117 :: hexGo wd k [] := by rw [u_lit, Str.cps_append]; simp
  have hL : (Str.ofString "u" ++ ⟨(hexGo wd k []).toArray⟩ : Str).length = wd + 1 := by
    have := congrArg List.length hx
    simp only [Array.length_toList, List.length_cons, hlen, List.length_nil] at this
    exact this
  generalize (Str.ofString "u" ++ ⟨(hexGo wd k []).toArray⟩ : Str) = x at hx hL
  have hk1 : knownC x = -1 := by
    rw [kn_eq, hx, kn_fig]
    rw [e]
    simp only [figB]
    unfold hexL at hd
    rw [hd]; rfl
  have hs3 : Txt.slice x none (some 3) ≠ Str.ofString "uni" := by
    intro q
    have : (Txt.slice x none (some 3)).cps.toList = (Str.ofString "uni").cps.toList := by rw [q]
    rw [show (3 : Int) = ((3 : Nat) : Int) from rfl, slice_to x (by omega), slice_ss x (by omega) (by omega), hx, e, uni_lit] at this
    have h2 : d = 110 := by
      simp at this
      exact this.1
    exact (hexL_free hd).2.2 h2
  have hs1 : Txt.slice x none (some 1) = Str.ofString "u" := by
    apply strEq
    rw [show (1 : Int) = ((1 : Nat) : Int) from rfl, slice_to x (by omega), slice_ss x (by omega) (by omega), hx, u_lit]
    rfl
  have hn : hexNum (Txt.slice x (some 1) none) = (k : Int) := by
    unfold hexNum
    rw [show (1 : Int) = ((1 : Nat) : Int) from rfl, slice_from x (by omega), slice_ss x (by omega) (by omega), hx, hL]
    rw [List.drop_one, List.tail_cons, List.take_of_length_le (by rw [hlen]; simp)]
    exact hexNum_go hk
  unfold ptext
  rw [hk1, if_neg (by decide), if_neg (fun q => hs3 (beq_iff_eq.mp q.1)), hn]
  by_cases hg : good k = true
  · rw [if_pos ⟨beq_iff_eq.mpr hs1, by omega, by omega, hg⟩, if_pos hg]
  · rw [if_neg (fun q => hg q.2.2.2), if_neg hg]
end Mine
end

section
open PySem PySem.W PyProof.Rows PySem.Calls PySem.Spec
set_option Elab.async false
set_option maxRecDepth 100000
set_option maxHeartbeats 0
namespace Mine
open PySem.Builtin.Str
theorem join_emp : ∀ l : List Str, (Str.join (Str.ofString "") l).cps.toList = (l.map (·.cps.toList)).flatten
  | [] => rfl
  | [x] => by simp [Str.join]
  | x :: y :: r => by
    show (x ++ Str.ofString "" ++ Str.join (Str.ofString "") (y :: r)).cps.toList = _
    rw [Str.cps_append, Str.cps_append, Array.toList_append, Array.toList_append, join_emp (y :: r), emp_lit]
    simp
theorem flat4 : ∀ (L : List (List Nat)) (i : Nat), (∀ l ∈ L, l.length = 4) → ((L.flatten.drop (4 * i)).take 4) = L.getD i []
  | [], i, _ => by simp
  | a :: r, 0, h => by
    have ha := h a (.head _)
    rw [Nat.mul_zero, List.drop_zero, List.flatten_cons, List.take_append_of_le_length (by omega), List.take_of_length_le (by omega)]
    rfl
  | a :: r, i + 1, h => by
    have ha := h a (.head _)
    have e : 4 * (i + 1) = a.length + 4 * i := by omega
    rw [List.flatten_cons, e, List.drop_append, List.drop_eq_nil_of_le (by omega), List.nil_append, show a.length + 4 * i - a.length = 4 * i by omega, flat4 r i (fun l hl => h l (.tail _ hl))]
    simp
theorem flat4_len : ∀ (L : List (List Nat)), (∀ l ∈ L, l.length = 4) → L.flatten.length = 4 * L.length
  | [], _ => rfl
  | a :: r, h => by
    rw [List.flatten_cons, List.length_append, h a (.head _), flat4_len r (fun l hl => h l (.tail _ hl)), List.length_cons]; omega
noncomputable def uniX (ns : List Int) : Str := Str.ofString "uni" ++ Txt.join (Str.ofString "") (ns.map (hexT 4))
theorem uniX_cps (ns : List Int) : (uniX ns).cps.toList = 117 :: 110 :: 105 :: (ns.map fun z => hexGo 4 z.toNat []).flatten := by
  unfold uniX
  rw [Str.cps_append, Array.toList_append, txt_join, join_emp, uni_lit, List.map_map]
  rfl
theorem go4 (ns : List Int) : ∀ l ∈ ns.map (fun z => hexGo 4 z.toNat []), l.length = 4 := fun l hl => by
  obtain ⟨z, _, rfl⟩ := List.mem_map.mp hl
  rw [hexGo_len]; rfl
theorem uniX_len (ns : List Int) : (uniX ns).length = 3 + 4 * ns.length := by
  have := congrArg List.length (uniX_cps ns)
  simp only [Array.length_toList, List.length_cons, flat4_len _ (go4 ns), List.length_map] at this
  show (uniX ns).cps.size = _
  omega
theorem uniX_codes {ns : List Int} (h : ∀ z ∈ ns, 0 ≤ z ∧ z < 65536) : uniCodes (uniX ns) = ns := by
  unfold uniCodes
  have hl := uniX_len ns
  apply List.ext_getElem
  · simp; omega
  · intro i h1 h2
    simp only [List.getElem_map, List.getElem_range]
    have hi : i < ns.length := h2
    have e1 : (3 + (i : Int) * 4) = ((3 + 4 * i : Nat) : Int) := by omega
    have e2 : (3 + (i : Int) * 4 + 4) = ((3 + 4 * i + 4 : Nat) : Int) := by omega
    rw [e1] at *
    rw [show ((3 + 4 * i : Nat) : Int) + 4 = ((3 + 4 * i + 4 : Nat) : Int) by omega]
    unfold hexNum
    rw [slice_ss _ (by omega) (by omega), uniX_cps, show 3 + 4 * i + 4 - (3 + 4 * i) = 4 by omega, show 3 + 4 * i = 4 * i + 3 by omega]
    rw [show (117 :: 110 :: 105 :: (ns.map fun z => hexGo 4 z.toNat []).flatten).drop (4 * i + 3) = (ns.map fun z => hexGo 4 z.toNat []).flatten.drop (4 * i) from rfl, flat4 _ i (go4 ns)]
    have hz := h ns[i] (List.getElem_mem hi)
    rw [List.getD_eq_getElem?_getD, List.getElem?_map, List.getElem?_eq_getElem hi]
    simp only [Option.map_some, Option.getD_some]
    rw [hexNum_go (k := 4) (by omega)]
    omega
theorem filter_good (ns : List Int) : ns.filter good = ns ↔ (ns.map good).all id = true := by
  rw [List.filter_eq_self, List.all_map]
  simp [List.all_eq_true]
theorem ptext_uni {ns : List Int} (hl : ns.length ≤ 3) (h : ∀ z ∈ ns, 0 ≤ z ∧ z < 65536) : ptext (uniX ns) = if ns.filter good = ns then Txt.join (Str.ofString "") (ns.map chrS) else Str.ofString "" := by
  have hL := uniX_len ns
  have hx := uniX_cps ns
  have hc := uniX_codes h
  generalize uniX ns = x at hL hx hc
  have hk1 : knownC x = -1 := by rw [kn_eq, hx, kn_fig]; rfl
  have hs3 : Txt.slice x none (some 3) = Str.ofString "uni" := by
    apply strEq
    rw [show (3 : Int) = ((3 : Nat) : Int) from rfl, slice_to x (by omega), slice_ss x (by omega) (by omega), hx, uni_lit]
    rfl
  have hbad : 5 ≤ (x.length : Int) → (x.length : Int) ≤ 7 → good (hexNum (Txt.slice x (some 1) none)) = false := by
    intro _ _
    have : hexNum (Txt.slice x (some 1) none) = -1 := by
      unfold hexNum
      rw [show (1 : Int) = ((1 : Nat) : Int) from rfl, slice_from x (by omega), slice_ss x (by omega) (by omega), hx]
      refine hexAcc_bad _ _ 110 ?_ (by decide)
      rw [List.drop_one, List.tail_cons]
      have : x.length - 1 = (x.length - 2) + 1 := by omega
      rw [this, List.take_succ_cons]
      exact .head _
    rw [this]; decide
  unfold ptext
  rw [hk1, if_neg (by decide), hc]
  by_cases hn : ns = []
  · subst hn
    rw [if_neg (fun q => by have := q.2.1; simp at hL; omega), if_neg (fun q => by have := q.2.1; simp at hL; omega)]
    rfl
  · have h1 : 1 ≤ ns.length := by
      cases ns with
      | nil => exact absurd rfl hn
      | cons => simp
    by_cases hg : ns.filter good = ns
    · rw [if_pos ⟨beq_iff_eq.mpr hs3, by omega, by rw [Int.fmod_eq_emod_of_nonneg _ (by decide)]; omega, (filter_good ns).mp hg⟩, if_pos hg]
    · rw [if_neg (fun q => hg ((filter_good ns).mpr q.2.2.2)), if_neg hg, if_neg (fun q => by rw [hbad q.2.1 q.2.2.1] at q; exact absurd q.2.2.2 (by decide))]
theorem free_uni (ns : List Int) : Free (uniX ns) := by
  have key : ∀ d ∈ (uniX ns).cps.toList, d ≠ 46 ∧ d ≠ 95 := by
    rw [uniX_cps]
    intro d hd
    rcases List.mem_cons.mp hd with rfl | hd
    · decide
    rcases List.mem_cons.mp hd with rfl | hd
    · decide
    rcases List.mem_cons.mp hd with rfl | hd
    · decide
    obtain ⟨l, hl, hd⟩ := List.mem_flatten.mp hd
    obtain ⟨z, _, rfl⟩ := List.mem_map.mp hl
    have := hexL_free (hexGo_hex 4 _ [] (fun _ h => nomatch h) d hd)
    exact ⟨this.1, this.2.1⟩
  exact ⟨fun h => (key _ h).1 rfl, fun h => (key _ h).2 rfl⟩
theorem free_u (wd k : Nat) : Free (Str.ofString "u" ++ ⟨(hexGo wd k []).toArray⟩) := by
  have hx : (Str.ofString "u" ++ ⟨(hexGo wd k []).toArray⟩ : Str).cps.toList = 117 :: hexGo wd k [] := by rw [u_lit, Str.cps_append]; simp
  have key : ∀ d ∈ (Str.ofString "u" ++ ⟨(hexGo wd k []).toArray⟩ : Str).cps.toList, d ≠ 46 ∧ d ≠ 95 := by
    rw [hx]
    intro d hd
    rcases List.mem_cons.mp hd with rfl | hd
    · decide
    have := hexL_free (hexGo_hex wd k [] (fun _ h => nomatch h) d hd)
    exact ⟨this.1, this.2.1⟩
  exact ⟨fun h => (key _ h).1 rfl, fun h => (key _ h).2 rfl⟩
noncomputable def ptextK (x : Str) : Str :=
  if 0 ≤ kn x.cps.toList then chrS (kn x.cps.toList)
  else if (Txt.slice x none (some 3) == Str.ofString "uni") = true ∧ 3 < (x.length : Int) ∧ (x.length : Int).fmod 4 = 3 ∧ ((uniCodes x).map good).all id = true then Txt.join (Str.ofString "") ((uniCodes x).map chrS)
  else if (Txt.slice x none (some 1) == Str.ofString "u") = true ∧ 5 ≤ (x.length : Int) ∧ (x.length : Int) ≤ 7 ∧ good (hexNum (Txt.slice x (some 1) none)) = true then chrS (hexNum (Txt.slice x (some 1) none))
  else Str.ofString ""
theorem ptext_K (x : Str) : ptext x = ptextK x := by unfold ptext ptextK; rw [kn_eq]
theorem odd_ok : oddN.all (fun x => eqN (ptextK x).cps.toList [] && freeB x.cps.toList && Nat.ble x.length 20) = true := by decide +kernel
theorem plain_ok : plainN.all (fun p => kn p.1.cps.toList == p.2 && freeB p.1.cps.toList && Nat.ble p.1.length 20 && decide (0 ≤ p.2)) = true := by decide +kernel
end Mine
end

section
open PySem PySem.W PyProof.Rows PySem.Calls PySem.Spec
set_option Elab.async false
set_option maxRecDepth 100000
set_option maxHeartbeats 0
namespace Mine
open PySem.Builtin.Str
theorem figs_step {f w : Nat} {l : List Nat} (h : 0 < w ∨ l.length < 4) : figs (f + 1) w l = figs f (w / 16) (hexC (w % 16) :: l) := by rw [figs, if_pos h]
theorem figs_stop {f w : Nat} {l : List Nat} (h : ¬ (0 < w ∨ l.length < 4)) : figs (f + 1) w l = l := by rw [figs, if_neg h]
theorem figs4 {n : Nat} (h : n < 65536) : figs 8 n [] = hexGo 4 n [] := by
  rw [figs_step (Or.inr (by simp)), figs_step (Or.inr (by simp)), figs_step (Or.inr (by simp)), figs_step (Or.inr (by simp)), figs_stop (by simp; omega)]
  rfl
theorem figs5 {n : Nat} (h0 : 65536 ≤ n) (h : n < 1048576) : figs 8 n [] = hexGo 5 n [] := by
  rw [figs_step (Or.inr (by simp)), figs_step (Or.inr (by simp)), figs_step (Or.inr (by simp)), figs_step (Or.inr (by simp)), figs_step (Or.inl (by omega)), figs_stop (by simp; omega)]
  rfl
theorem figs6 {n : Nat} (h0 : 1048576 ≤ n) (h : n < 16777216) : figs 8 n [] = hexGo 6 n [] := by
  rw [figs_step (Or.inr (by simp)), figs_step (Or.inr (by simp)), figs_step (Or.inr (by simp)), figs_step (Or.inr (by simp)), figs_step (Or.inl (by omega)), figs_step (Or.inl (by omega)), figs_stop (by simp; omega)]
  rfl
theorem uni_one (n : Nat) : Str.ofString "uni" ++ (⟨(hexGo 4 n []).toArray⟩ : Str) = uniX [(n : Int)] := by
  apply strEq
  rw [uniX_cps, Str.cps_append, Array.toList_append, uni_lit]
  simp
theorem name_is {n : Nat} (h : good n = true) : Free (gname n) ∧ ptext (gname n) = chrS n := by
  have hr := good_rng h
  unfold gname
  split
  · rename_i hn
    have := List.all_eq_true.mp ascii_ok (n - 32) (by simp; omega)
    simp only [Bool.and_eq_true, beq_iff_eq] at this
    refine ⟨freeB_sound this.2, ?_⟩
    rw [ptext_known this.1 (by omega), show (((n - 32 + 32 : Nat) : Int)) = n by omega]
  · split
    · rename_i hn
      have := List.all_eq_true.mp latin_ok (n - 161) (by simp; omega)
      simp only [Bool.or_eq_true, Bool.and_eq_true, beq_iff_eq, Nat.beq_eq] at this
      rcases this with q | this
      · omega
      · refine ⟨freeB_sound this.2, ?_⟩
        rw [ptext_known this.1 (by omega), show (((n - 161 + 161 : Nat) : Int)) = n by omega]
    · split
      · rename_i p hp
        have hm := List.mem_of_find?_eq_some hp
        have hc : p.2 = (n : Int) := by simpa using List.find?_some hp
        have := List.all_eq_true.mp other_ok p hm
        simp only [Bool.and_eq_true, beq_iff_eq] at this
        exact ⟨freeB_sound this.2, by rw [ptext_known this.1 (by omega), hc]⟩
      · by_cases h4 : n ≤ 65535
        · rw [if_pos h4, figs4 (by omega), uni_one]
          refine ⟨free_uni _, ?_⟩
          rw [ptext_uni (by simp) (fun z hz => by rw [List.mem_singleton.mp hz]; omega), if_pos (by simp [h])]
          rfl
        · rw [if_neg h4]
          by_cases h5 : n < 1048576
          · rw [figs5 (by omega) h5]
            exact ⟨free_u _ _, by rw [ptext_u (by decide) (by omega), if_pos h]⟩
          · rw [figs6 (by omega) (by omega)]
            exact ⟨free_u _ _, by rw [ptext_u (by decide) (by omega), if_pos h]⟩
theorem join_one (sep x : Str) : Str.join sep [x] = x := rfl
theorem gt_one {x : Str} (h : Free x) : gtext x = ptext x := by
  have := gtext_of (nms := [x]) (e := Str.empty) (t := []) (by simp) (fun y hy => by rw [List.mem_singleton.mp hy]; exact h) (fun _ h => nomatch h) rfl
  rw [join_one, Str.append_empty] at this
  rw [this]; rfl
theorem gt_name {n : Nat} (h : good n = true) : gtext (gname n) = chrS n := by
  rw [gt_one (name_is h).1, (name_is h).2]
theorem alt_lit : (Str.ofString ".alt").cps.toList = 46 :: joinL 46 ([(⟨#[97, 108, 116]⟩ : Str)].map (·.cps.toList)) := by decide +kernel
theorem gt_alt {n : Nat} (h : good n = true) : gtext (gname n ++ Str.ofString ".alt") = chrS n := by
  have := gtext_of (nms := [gname n]) (e := Str.ofString ".alt") (t := [⟨#[97, 108, 116]⟩]) (by simp) (fun y hy => by rw [List.mem_singleton.mp hy]; exact (name_is h).1) (fun p hp => by rw [List.mem_singleton.mp hp]; decide) alt_lit
  rw [join_one] at this
  rw [this]
  show ptext (gname n) = _
  exact (name_is h).2
theorem gt_two {n : Nat} (h : good n = true) : gtext (gname n ++ Str.ofString "_" ++ gname n) = chrS n ++ chrS n := by
  have := gtext_of (nms := [gname n, gname n]) (e := Str.empty) (t := []) (by simp) (fun y hy => by
    rcases List.mem_cons.mp hy with rfl | hy
    · exact (name_is h).1
    · rw [List.mem_singleton.mp hy]; exact (name_is h).1) (fun _ h => nomatch h) rfl
  rw [Str.append_empty] at this
  rw [und_lit]
  refine this.trans ?_
  simp only [List.map_cons, List.map_nil, (name_is h).2]
  show chrS n ++ Str.empty ++ chrS n = _
  rw [Str.append_empty]
theorem name_nodot {n : Nat} (h : good n = true) : (Builtin.Str.occurrences (gname n) (Str.ofString ".") 0 (gname n).length 1).isEmpty = true := by
  rw [dot_lit, empty_one, decide_eq_false (name_is h).1.1]; rfl
theorem name_nounder {n : Nat} (h : good n = true) : (Builtin.Str.occurrences (gname n) (Str.ofString "_") 0 (gname n).length 1).isEmpty = true := by
  rw [und_lit, empty_one, decide_eq_false (name_is h).1.2]; rfl
theorem short_all : asciiN.all (fun x => Nat.ble x.length 64) = true ∧ latinN.all (fun x => Nat.ble x.length 64) = true ∧ otherN.all (fun p => Nat.ble p.1.length 64) = true := by decide +kernel
theorem getD_short {l : List Str} (h : l.all (fun x => Nat.ble x.length 64) = true) (i : Nat) : (l.getD i Str.empty).length ≤ 64 := by
  rw [List.getD_eq_getElem?_getD]
  cases e : l[i]? with
  | none => exact Nat.zero_le _
  | some x => exact Nat.le_of_ble_eq_true (List.all_eq_true.mp h x (List.mem_of_getElem? e))
theorem gname_short (n : Nat) : (gname n).length ≤ 64 := by
  unfold gname
  split
  · exact getD_short short_all.1 _
  · split
    · exact getD_short short_all.2.1 _
    · split
      · rename_i p hp
        exact Nat.le_of_ble_eq_true (List.all_eq_true.mp short_all.2.2 p (List.mem_of_find?_eq_some hp))
      · have h1 := figs_str n
        rw [Str.length_append]
        split
        · rw [uni_lit]; show 3 + _ ≤ 64; omega
        · rw [u_lit]; show 1 + _ ≤ 64; omega
theorem gname_le (n : Nat) : (gname n).length ≤ 256 := Nat.le_trans (gname_short n) (by decide)
theorem gname_alt_le (n : Nat) : (gname n ++ Str.ofString ".alt").length ≤ 256 := by
  rw [Str.length_append]; have := gname_short n; have : (Str.ofString ".alt").length = 4 := by decide
  omega
theorem gname_two_le (n : Nat) : (gname n ++ Str.ofString "_" ++ gname n).length ≤ 256 := by
  rw [Str.length_append, Str.length_append]; have := gname_short n; have : (Str.ofString "_").length = 1 := by decide
  omega
end Mine
end

section
open PySem PySem.W PyProof.Rows PySem.Calls PySem.Spec
set_option Elab.async false
set_option maxRecDepth 100000
set_option maxHeartbeats 0
namespace Mine
theorem topOffIN : True := by
  w_top off
  trivial
theorem c_gt_at (w : World) (x : Str) (t : Tok) {y : Str} (hx : x.length ≤ 256) (e : gtext x = y) : CallsTo 8 w 125 [.str x t] [] (PVal fun t => .str y t) := by
  subst e
  exact c_glyph_text w x t hx
theorem c_good_at (w : World) (hd : Option Value) (code : Int) (t : Tok) {b : Bool} (e : good code = b) : CallsIn 2 hd w 207 [.int code t] [] (PVal fun _ => .bool b) := by
  subst e
  exact c_law_good w hd code t
noncomputable def PTurn (L : Addr) (h h' : Heap) : Prop := (∀ b o, h.get? b = some o → b ≠ L → h'.get? b = some o) ∧ (∀ o, h.get? L = some o → ∃ sl, h'.get? L = some { o with slots := sl })
theorem end_turn {G g g' h' : Heap} {L L' : Addr} {m' : Str → Option Value} (k : KeepsBut [] G g) (T : KtsTurn [L] g g') (F : Fr g' L' h' m') : PTurn L G h' :=
  ⟨fun b o e ne => F.keep _ _ (T.other b o (k b o e (by simp)) (by simpa using ne)), fun o e => by
    obtain ⟨sl, hs⟩ := T.frame L o (k L o e (by simp)) (by simp)
    exact ⟨sl, F.keep _ _ hs⟩⟩
theorem end_same {G g h' : Heap} {L L' : Addr} {m' : Str → Option Value} (k : KeepsBut [] G g) (F : Fr g L' h' m') : PTurn L G h' := end_turn k KtsTurn.refl F
noncomputable abbrev NamedIn (w : World) (n : Int) (t : Tok) : Prop :=
  ∀ (mean : ExcName → Option Value) (mg mb : Str → Option Value) (dp un : Nat) (gd : Option (List Code)) (cn : Str) (cs : Scope) (a : Addr) (ccd : Value) (cl : List (Str × Addr)) (A₀ : Around) (h₀ : Heap) (L : Addr) (m : Str → Option Value) (s : Shared) (Q E : Value → Shared → Prop),
    Below A₀ h₀ [] h₀ → Fr h₀ L s.heap m → (Mine.fr.heap_1 w.params).In h₀ → News h₀ L s.heap [] → Top Mine.viewQ LOOSE mean mg mb h₀ → cs.kind = .function → dp + 12 < recursionLimit → un + 16 * 12 < cLine →
    (∀ h' tk', PTurn L s.heap h' → Q (.bool true) { s with heap := h', toks := tk' }) → wpAny (model PRG w) (CAround none dp un gd cn cs L a ccd cl []) (call (.ref 219) [.int n t]) Q E s
theorem c_named_bad (w : World) (n : Int) (t : Tok) (hg : good n = false) : NamedIn w n t := by
  dsimp only [NamedIn, PRG, LOOSE, CAround]
  k_fill
  intro mean mg mb dp un gd cn cs a ccd cl A₀ h₀ L m s Q E B₀ F₀ X₀ N₀ T₀ hk₀ hd₀ hu₀ hret
  refine wpAny_call ?_
  k_dflt (refine' enter ?k1 ?k2 ?k3 ?k4 ?k5 ?kA ?kF ?kK ?k6 ?k7 ?k8 ?k9 ?kB ?_ ?c2 ?c3 ?c4 ?c5; (case kA => exact rfl); (case kF => exact rfl); (case kK => assumption); (case k1 => k_asm); (case k2 => k_asm); (case k3 => k_asm); (case k4 => k_asm); (case k5 => k_asm); (case k6 => k_is); (case k7 => k_is); (case k8 => ktr_room); (case k9 => exact BindsTo.of_eq rfl); (case c5 => decide); (case kB => exact locs rfl); (case c2 => exact rfl); (case c3 => exact rfl); (case c4 => exact rfl); k_whole; intro g' L' h' G1' G2' F' N' B' X' T'; (try dsimp only); (try k_fold))
  k_with_none
  k_with "call ref" => (k_here; (with_reducible show wpAny _ _ (call (Value.ref 132) _) _ _ _); k_dflt (refine' use_raise (c_glyph_bad _ _ _ (by with_reducible assumption)) (by k_asm) (by k_asm) (by k_asm) (by k_asm) (by first | rfl | assumption) (by first | omega | ((try simp only [depth_in1, depth_deeper, depth_caller]); (try dsimp only); omega)) (by first | omega | ((try simp only [units_in1, units_deeper, Around.mark_units, units_caller]); (try dsimp only); omega)) ?_); intro e' h' tk' R' U')
  k_with "call ref" => (k_here; (with_reducible show wpAny _ _ (call (Value.ref 207) _) _ _ _); k_dflt (refine' use_val (c_good_at _ _ _ _ (by with_reducible assumption)) (by k_asm) (by k_asm) (by k_asm) (by k_asm) (by k_asm) (by first | rfl | assumption) (by first | omega | ((try simp only [depth_in1, depth_deeper, depth_caller]); (try dsimp only); omega)) (by first | omega | ((try simp only [units_in1, units_deeper, Around.mark_units, units_caller]); (try dsimp only); omega)) ?_); intro t' h' tk' F' N')
  k_with "noteFrame ref" => (k_here; (rename RaisedF _ _ _ _ _ => rfX); k_dflt (refine' caught_F (by exact rfX) (by k_asm) (by k_asm) (by k_asm) (by assumption) (by assumption) (by assumption) (by k_is) ?_); clear rfX; intro h' g' T' F' N' K' X' P'; (try k_lift K'))
  k_steps
  rename KtsTurn _ _ _ => kt
  exact hret _ _ (end_turn G1' kt (by k_asm))
theorem name_1000 (n : Nat) : (gname n).length ≤ 1000 := Nat.le_trans (gname_short n) (by decide)
theorem name_1001 (n : Nat) : (gname n ++ Str.ofString "_").length ≤ 1000 := by
  rw [Str.length_append]; have := gname_short n; have : (Str.ofString "_").length = 1 := by decide
  omega
theorem chr_1000 (n : Int) : (chrS n).length ≤ 1000 := (by decide : 1 ≤ 1000)
theorem ne_self {x : Str} (h : (x != x) = true) : False := by simp at h
theorem nodot_no {n : Nat} (h : good n = true) (q : (Builtin.Str.occurrences (gname n) (Str.ofString ".") 0 (gname n).length 1).isEmpty = false) : False := by rw [name_nodot h] at q; cases q
theorem nounder_no {n : Nat} (h : good n = true) (q : (Builtin.Str.occurrences (gname n) (Str.ofString "_") 0 (gname n).length 1).isEmpty = false) : False := by rw [name_nounder h] at q; cases q
theorem c_named_good (w : World) (n : Nat) (t : Tok) (hg : good n = true) : NamedIn w n t := by
  dsimp only [NamedIn, PRG, LOOSE, CAround]
  k_fill
  intro mean mg mb dp un gd cn cs a ccd cl A₀ h₀ L m s Q E B₀ F₀ X₀ N₀ T₀ hk₀ hd₀ hu₀ hret
  refine wpAny_call ?_
  k_dflt (refine' enter ?k1 ?k2 ?k3 ?k4 ?k5 ?kA ?kF ?kK ?k6 ?k7 ?k8 ?k9 ?kB ?_ ?c2 ?c3 ?c4 ?c5; (case kA => exact rfl); (case kF => exact rfl); (case kK => assumption); (case k1 => k_asm); (case k2 => k_asm); (case k3 => k_asm); (case k4 => k_asm); (case k5 => k_asm); (case k6 => k_is); (case k7 => k_is); (case k8 => ktr_room); (case k9 => exact BindsTo.of_eq rfl); (case c5 => decide); (case kB => exact locs rfl); (case c2 => exact rfl); (case c3 => exact rfl); (case c4 => exact rfl); k_whole; intro g' L' h' G1' G2' F' N' B' X' T'; (try dsimp only); (try k_fold))
  k_with_none
  k_with "call ref" => (k_here; (with_reducible show wpAny _ _ (call (Value.ref 132) _) _ _ _); k_dflt (refine' use_raise (c_glyph_bad _ _ _ (by with_reducible assumption)) (by k_asm) (by k_asm) (by k_asm) (by k_asm) (by first | rfl | assumption) (by first | omega | ((try simp only [depth_in1, depth_deeper, depth_caller]); (try dsimp only); omega)) (by first | omega | ((try simp only [units_in1, units_deeper, Around.mark_units, units_caller]); (try dsimp only); omega)) ?_); intro e' h' tk' R' U')
  k_with "call ref" => (k_here; (with_reducible show wpAny _ _ (call (Value.ref 207) _) _ _ _); k_dflt (refine' use_val (c_good_at _ _ _ _ (by with_reducible assumption)) (by k_asm) (by k_asm) (by k_asm) (by k_asm) (by k_asm) (by first | rfl | assumption) (by first | omega | ((try simp only [depth_in1, depth_deeper, depth_caller]); (try dsimp only); omega)) (by first | omega | ((try simp only [units_in1, units_deeper, Around.mark_units, units_caller]); (try dsimp only); omega)) ?_); intro t' h' tk' F' N')
  k_with "noteFrame ref" => (k_here; (rename RaisedF _ _ _ _ _ => rfX); k_dflt (refine' caught_F (by exact rfX) (by k_asm) (by k_asm) (by k_asm) (by assumption) (by assumption) (by assumption) (by k_is) ?_); clear rfX; intro h' g' T' F' N' K' X' P'; (try k_lift K'))
  k_with "call ref" => (k_here; (with_reducible show wpAny _ _ (call (Value.ref 132) _) _ _ _); k_dflt (refine' use_val (c_glyph_name _ _ _ (by assumption)) (by k_asm) (by k_asm) (by k_asm) (by k_asm) (by k_asm) (by first | rfl | assumption) (by first | omega | ((try simp only [depth_in1, depth_deeper, depth_caller]); (try dsimp only); omega)) (by first | omega | ((try simp only [units_in1, units_deeper, Around.mark_units, units_caller]); (try dsimp only); omega)) ?_); intro t' h' tk' F' N')
  k_with "call ref" => (k_here; (with_reducible show wpAny _ _ (call (Value.ref 125) _) _ _ _); k_dflt (refine' use_val (c_gt_at _ _ _ (by first | exact gname_le _ | exact gname_alt_le _ | exact gname_two_le _) (by first | with_reducible exact gt_name (by assumption) | with_reducible exact gt_alt (by assumption) | with_reducible exact gt_two (by assumption))) (by k_asm) (by k_asm) (by k_asm) (by k_asm) (by k_asm) (by first | rfl | assumption) (by first | omega | ((try simp only [depth_in1, depth_deeper, depth_caller]); (try dsimp only); omega)) (by first | omega | ((try simp only [units_in1, units_deeper, Around.mark_units, units_caller]); (try dsimp only); omega)) ?_); intro t' h' tk' F' N')
  k_with "call builtin:chr" => (k_here; (with_reducible show wpAny _ _ (call (Value.builtin "chr") [Value.int _ _]) _ _ _); (with_reducible refine chr_ok (by first | omega | (simp only [good, Bool.and_eq_true, decide_eq_true_eq] at *; omega)) (by first | omega | (simp only [good, Bool.and_eq_true, decide_eq_true_eq] at *; omega)) ?_))
  k_with "binaryOp Add str str" => (k_here; (with_reducible show wpAny _ _ (binaryOp Operator.Add (Value.str _ _) (Value.str _ _)) _ _ _); k_dflt (refine add_small (by first | exact name_1000 _ | exact name_1001 _ | exact chr_1000 _ | decide) (by first | exact name_1000 _ | exact chr_1000 _ | decide) ?_); intro t' k')
  have hn := good_rng hg
  k_steps
  all_goals first
    | (exfalso; exact ne_self (by with_reducible assumption))
    | (exfalso; exact nodot_no hg (by with_reducible assumption))
    | (exfalso; exact nounder_no hg (by with_reducible assumption))
    | (rw [beq_self_eq_true]; exact hret _ _ (end_same G1' (by k_asm)))
theorem c_named (w : World) (n : Int) (t : Tok) : NamedIn w n t := by
  cases hg : good n with
  | false => exact c_named_bad w n t hg
  | true =>
    obtain ⟨k, rfl⟩ := Int.eq_ofNat_of_zero_le (good_rng hg).1
    exact c_named_good w k t hg
end Mine
end

section
open PySem PySem.W PyProof.Rows PySem.Calls PySem.Spec
set_option Elab.async false
set_option maxRecDepth 100000
set_option maxHeartbeats 0
namespace Mine
section
variable {prog : Program} {w : World} {A : Around} {s : Shared} {K : Frag} {p : Program} {loose : List Str} {mean : ExcName → Option Value} {mg mb : Str → Option Value}
theorem enterC0 {R : Result → Shared → Prop} {name qual : Str} {params : Arguments} {body : List Stmt} {scope : Scope} {dV kV doc pm cdv ct oc : Value} {an od : Option Addr} {osl : Array (Option Value)} {f : Addr} {args : Args} {binds : List (Str × Value)}
    (X₀ : K.In s.heap) (T : Top p loose mean mg mb s.heap) (B : Below A s.heap [] s.heap)
    (ho : K.lookup f = some ⟨oc, od, .func (fnOf name qual params body scope dV kV doc pm an cdv ct), osl⟩) (hcd : codeIn K cdv qual = true) (hroom : A.depth < recursionLimit)
    (hbind : BindsTo s (fnOf name qual params body scope dV kV doc pm an cdv ct) args binds) (hkind : (binds.all fun y => scope.names.lookup y.1 == some .local || scope.names.lookup y.1 == some .cell) = true)
    (hnd : ((cellsFrom 0 scope.names []).map (·.1)).Nodup)
    (h : ∀ L' h₁ tk cells, Fr s.heap L' h₁ (bindL (envOfC qual scope L' f cdv).kindOf binds fun _ => none) → News s.heap L' h₁ cells →
      CellsAre (bindC (envOfC qual scope L' f cdv).kindOf binds fun _ => none) (cellsFrom (L' + 1) scope.names []) cells →
      wpAny (model prog w) (A.deeper (envOfC qual scope L' f cdv)) (execs body (envOfC qual scope L' f cdv))
        (fun fl s' => R (.ok (.ret (match fl with | .ret v => v | _ => .none))) s')
        (fun e s' => wpAny (model prog w) (A.deeper (envOfC qual scope L' f cdv)) (leaving (envOfC qual scope L' f cdv) e) (fun _ s'' => R (.error e) s'') (fun e' s'' => R (.error e') s'') s')
        { s with heap := h₁, toks := tk })
    (hco : scope.isCoroutine = false) (hgen : scope.isGenerator = false) (hk : scope.kind = .function) : codeAny (model prog w) A (.call (.ref f) args) R s := by
  have hlim := T.nolimit
  refine codeAny_call_function (fd := fnX name qual params body scope [] dV kV doc pm an cdv ct) hroom (X₀ _ _ ho) rfl hco hgen rfl (codeRec_of X₀ hcd) (hbind _ _ _ _ ?_)
  refine wpAny_newFunctionEnv_cells hk (kindsX hkind _) fun env' he s' x => ?_
  subst he
  refine ⟨hlim.keeps x.toInCall.keep, codeAny_func ?_⟩
  obtain ⟨h₁, tk, rfl, _⟩ := x.done
  have hk₁ := x.toInCall.keep
  obtain ⟨cells, NC, Y⟩ := Cl.news (h₀ := s.heap) (Nat.le_refl _) fun n c hm => ⟨x.cell n c (lookup_of_mem_nodup (cellsFrom_names scope.names 0 (s.heap.objs.size + 1) [] [] rfl ▸ hnd) hm), x.above n c hm⟩
  exact h s.heap.objs.size h₁ tk cells ⟨x.toInCall.ns, hk₁, Nat.le_refl _⟩ (fun p hp => NC p hp) Y
end
theorem add_new {h₀ h' hs : Heap} {L D : Addr} {m : Str → Option Value} {o : Obj} {news : List (Addr × Obj)} (F : Fr h₀ L hs m) (hn : hs.get? D = none) (hD : h'.get? D = some o) (N : News h₀ L h' news) : News h₀ L h' ((D, o) :: news) := fun p hp => by
  rcases List.mem_cons.mp hp with rfl | hp
  · refine ⟨hD, fun q => ?_, ?_⟩
    · obtain ⟨oL, _, _, hL, _⟩ := F.ns
      rw [show D = L from q, hL] at hn; cases hn
    · cases q : h₀.get? D with
      | none => rfl
      | some o => have := F.keep _ _ q; rw [hn] at this; cases this
  · exact N p hp
section
variable {w : World} {mean : ExcName → Option Value} {mg mb : Str → Option Value} {dp un : Nat} {gd : Option (List Code)} {cn : Str} {cs : Scope} {f a : Addr} {ccd : Value} {cl : List (Str × Addr)} {outer : List Env} {A₀ : Around} {base h₀ : Heap} {L : Addr} {m : Str → Option Value} {s : Shared} {Q E : Value → Shared → Prop} {news rest : List (Addr × Obj)} {p q : Addr} {op oq : Obj} {K : Int} {kk : Nat} {hd : Option Value} {vs : List Value} {Bs : Heap → Prop}
theorem use_newpot (C : CallsB kk none w f vs Bs PNewPot) (B : Below A₀ base outer h₀) (F : Fr h₀ L s.heap m) (X : (Mine.fr.heap_1 w.params).In h₀) (N : News h₀ L s.heap news) (T : Top Mine.viewQ LOOSE mean mg mb h₀) (hk : cs.kind = .function) (hd' : dp + kk < recursionLimit) (hu : un + 16 * kk < cLine) (hB : Bs h₀)
    (h : ∀ p q op oq h' tk', (@Ne Nat p q) → IsPot 0 q op oq → Fr h₀ L h' m → News h₀ L h' ((p, op) :: (q, oq) :: news) → LCg.Off1 p news → LCg.Off1 q news → Q (.ref p) { s with heap := h', toks := tk' }) :
    wpAny (model PRG w) (CAround none dp un gd cn cs L a ccd cl outer) (call (.ref f) vs) Q E s :=
  C _ _ _ _ _ _ _ _ _ _ _ _ _ _ _ _ _ _ _ _ B F X News.nil T hk hd' hu (fun v h' tk' hp => by
    obtain ⟨k, p, q, op, oq, rfl, hne, hP, h1, h2, n1, n2⟩ := hp
    exact h p q op oq h' tk' hne hP (F.keeps k) (add_new F n1 h1 (add_new F n2 h2 (N.grown k))) (off1_of n1 N) (off1_of n2 N)) hB
end
noncomputable def encsN : List Str := [Str.ofString "StandardEncoding", Str.ofString "WinAnsiEncoding", Str.ofString "MacRomanEncoding"]
noncomputable def encN (r : Nat) : List Str := if r = 0 then stdN else if r = 1 then winN else macN
theorem c_base_r (w : World) {r : Nat} (t : Tok) (hr : (r : Int) < 3) : CallsTo 8 w 87 [.str (encsN.getD (r : Int).toNat Str.empty) t] [] (PTexts (encN r)) := by
  match r, hr with
  | 0, _ => exact c_base_std w t
  | 1, _ => exact c_base_win w t
  | 2, _ => exact c_base_mac w t
theorem c_code_r (w : World) {r n : Nat} (t u : Tok) (hr : (r : Int) < 3) (hn : (n : Int) < 256) : CallsTo 6 w 193 [.int (r : Int) t, .int n u] [] (PVal fun t => .int (lawCode r n) t) := by
  match r, hr with
  | 0, _ => exact c_law_code_0 w n t u (by omega)
  | 1, _ => exact c_law_code_1 w n t u (by omega)
  | 2, _ => exact c_law_code_2 w n t u (by omega)
theorem encN_len (r : Nat) : (encN r).length = 256 := by
  unfold encN
  split
  · decide +kernel
  · split
    · decide +kernel
    · decide +kernel
theorem len_enc {prog : Program} {w : World} {A : Around} {E : Value → Shared → Prop} {s : Shared} {l : Addr} {vs : List Value} {r : Nat} {Q : Value → Shared → Prop} (hl : s.heap.IsList l vs.toArray) (hi : StrsAre vs (encN r)) (h : Q (.int 256 (s.toks + 1)) { s with toks := s.toks + 1 + 1 }) :
    wpAny (model prog w) A (call (.builtin "len") [.ref l]) Q E s :=
  kun_lenL hl (k := 256) (by rw [List.size_toArray, strs_len hi, encN_len]; rfl) (by decide) h
noncomputable def dueT (r n : Nat) : Str := if lawCode r n = 0 then Str.ofString "" else chrS (lawCode r n)
theorem item_enc {prog : Program} {w : World} {A : Around} {E : Value → Shared → Prop} {s : Shared} {value slice : PySem.Expr} {l : Addr} {vs : List Value} {r n : Nat} {u : Tok} {Q : Value → Shared → Prop} (hl : s.heap.IsList l vs.toArray) (hi : StrsAre vs (encN r)) (hn : (n : Int) < 256)
    (h : ∀ t, Q (.str ((encN r).getD n Str.empty) t) s) (hs : subscripted slice false (.ref l) (.int n u) = operate [.ref l, .int n u] (getItem (.ref l) (.int n u)) := by with_unfolding_all rfl) :
    wpAny (model prog w) A (subscriptTail value slice (.ref l) (.int n u)) Q E s :=
  item_texts hl hi (by omega) (by rw [encN_len]; omega) (by omega) h hs
theorem room_d {dp k : Nat} (h : dp + 16 < recursionLimit) (hk : k ≤ 14) : dp + 1 + k < recursionLimit := by omega
theorem room_u {un k : Nat} (h : un + 16 * 16 < cLine) (hk : k ≤ 15) : un + 3 + 16 * k < cLine := by omega
theorem kb_loop {i r : Nat} (hi : i < 1 + r) (hr : (r : Int) < 6) : 0 + 1 + 1 + 1 * (i : Int) ≤ 1000 := by omega
theorem kb_part {i r : Nat} (hi : i < 1 + r) (hr : (r : Int) < 4) : 8 + 1 + 6 * (i : Int) ≤ 900 := by omega
theorem kb_two0 {i : Nat} (hi : i < 2) : 33 + 1 + 5 * (i : Int) ≤ 1000 := by omega
theorem kb_two1 {i : Nat} (hi : i < 2) : 33 + 1 + 5 * (i : Int) + 1 ≤ 1000 := by omega
theorem kb_two2 {i : Nat} (hi : i < 2) : 33 + 1 + 5 * (i : Int) + 1 + 1 ≤ 1000 := by omega
theorem kb_two3 {i : Nat} (hi : i < 2) : 33 + 1 + 5 * (i : Int) + 1 + 1 + 1 ≤ 1000 := by omega
theorem kb_two4 {i : Nat} (hi : i < 2) : 33 + 1 + 5 * (i : Int) + 1 + 1 + 1 + 1 ≤ 1000 := by omega
theorem rng_six {r : Nat} (h : (r : Int) < 6) : Builtin.Range.small 0 (1 + (r : Int)) 1 = true := rng1_small (by omega)
theorem rng_four {r : Nat} (h : (r : Int) < 4) : Builtin.Range.small 0 (1 + (r : Int)) 1 = true := rng1_small (by omega)
theorem line_four {r : Nat} (h : (r : Int) < 4) : 1 + r ≤ sizeLine := rng1_line (by omega)
theorem pot_six {r : Nat} {q : Addr} {op oq : Obj} (h : IsPot (0 + 1 + 1 + 1 * ((1 + r : Nat) : Int)) q op oq) (hr : (r : Int) < 6) : IsPot 8 q op oq := h.mono (by omega)
theorem pot_four {r : Nat} {q : Addr} {op oq : Obj} (h : IsPot (8 + 1 + 6 * ((1 + r : Nat) : Int)) q op oq) (hr : (r : Int) < 4) : IsPot 33 q op oq := h.mono (by omega)
theorem len_four {ps : List (Str × Str)} {r : Nat} (h : ps.length = 1 + r) (hr : (r : Int) < 4) : ps.length ≤ 4 := by omega
theorem off1_ne {a D : Addr} {o : Obj} : ∀ {news : List (Addr × Obj)}, LCg.Off1 D news → (a, o) ∈ news → a ≠ D
  | [], _, h => nomatch h
  | _ :: _, x, h => by
    rcases List.mem_cons.mp h with e | h
    · have := x.1; rw [← e] at this; exact this
    · exact off1_ne x.2 h
theorem off3_neI {a I C D : Addr} {o : Obj} {news : List (Addr × Obj)} (x : LCg.Off3 I C D news) (h : (a, o) ∈ news) : I ≠ a := Ne.symm (x.mem _ h).1
theorem off3_neC {a I C D : Addr} {o : Obj} {news : List (Addr × Obj)} (x : LCg.Off3 I C D news) (h : (a, o) ∈ news) : C ≠ a := Ne.symm (x.mem _ h).2.1
theorem off3_neD {a I C D : Addr} {o : Obj} {news : List (Addr × Obj)} (x : LCg.Off3 I C D news) (h : (a, o) ∈ news) : D ≠ a := Ne.symm (x.mem _ h).2.2
theorem item_encs {prog : Program} {w : World} {A : Around} {E : Value → Shared → Prop} {s : Shared} {value slice : PySem.Expr} {l : Addr} {vs : List Value} {r : Nat} {u : Tok} {Q : Value → Shared → Prop} (hl : s.heap.IsList l vs.toArray) (hi : StrsAre vs [Str.ofString "StandardEncoding", Str.ofString "WinAnsiEncoding", Str.ofString "MacRomanEncoding"]) (hn : (r : Int) < 3)
    (h : ∀ t, Q (.str (encsN.getD (r : Int).toNat Str.empty) t) s) (hs : subscripted slice false (.ref l) (.int r u) = operate [.ref l, .int r u] (getItem (.ref l) (.int r u)) := by with_unfolding_all rfl) :
    wpAny (model prog w) A (subscriptTail value slice (.ref l) (.int r u)) Q E s :=
  item_texts hl hi (by omega) hn (by omega) h hs
theorem encsN_len {r : Nat} (hr : (r : Int) < 3) : (r : Int) < encsN.length := hr
structure RestS (a b : Addr) (l r : List (Addr × Obj)) : Prop where
  mem : ∀ p ∈ r, p ∈ l ∧ p.1 ≠ a ∧ p.1 ≠ b
theorem RestS.nil {a b : Addr} : RestS a b [] [] := ⟨fun _ h => nomatch h⟩
theorem RestS.drop {a b : Addr} {l : List (Addr × Obj)} : RestS a b l [] := ⟨fun _ h => nomatch h⟩
theorem RestS.skipA {a b : Addr} {o : Obj} {l r : List (Addr × Obj)} (h : RestS a b l r) : RestS a b ((a, o) :: l) r := ⟨fun p hp => ⟨.tail _ (h.mem p hp).1, (h.mem p hp).2⟩⟩
theorem RestS.skipB {a b : Addr} {o : Obj} {l r : List (Addr × Obj)} (h : RestS a b l r) : RestS a b ((b, o) :: l) r := ⟨fun p hp => ⟨.tail _ (h.mem p hp).1, (h.mem p hp).2⟩⟩
theorem RestS.keep {a b : Addr} {x : Addr × Obj} {l r : List (Addr × Obj)} (h1 : @Ne Nat x.1 a) (h2 : @Ne Nat x.1 b) (h : RestS a b l r) : RestS a b (x :: l) (x :: r) := ⟨fun p hp => by
  rcases List.mem_cons.mp hp with rfl | hp
  · exact ⟨.head _, h1, h2⟩
  · exact ⟨.tail _ (h.mem p hp).1, (h.mem p hp).2⟩⟩
theorem RestS.dropOne {a b : Addr} {x : Addr × Obj} {l r : List (Addr × Obj)} (h : RestS a b l r) : RestS a b (x :: l) r := ⟨fun p hp => ⟨.tail _ (h.mem p hp).1, (h.mem p hp).2⟩⟩
theorem RestS.own {a b : Addr} {l : List (Addr × Obj)} {adr : List Addr} (h : OwnOff l adr) (ha : a ∈ adr) (hb : b ∈ adr) : RestS a b l l := ⟨fun p hp => ⟨hp, h p hp a ha, h p hp b hb⟩⟩
theorem RestS.own2 {a b : Addr} {l : List (Addr × Obj)} {adr : List Addr} (h : OwnOff l (a :: b :: adr)) : RestS a b l l := .own h (.head _) (.tail _ (.head _))
section
variable {w : World} {mean : ExcName → Option Value} {mg mb : Str → Option Value} {dp un : Nat} {gd : Option (List Code)} {cn : Str} {cs : Scope} {f a : Addr} {ccd : Value} {cl : List (Str × Addr)} {outer : List Env} {A₀ : Around} {base h₀ : Heap} {L : Addr} {m : Str → Option Value} {s : Shared} {Q E : Value → Shared → Prop} {news rest : List (Addr × Obj)} {p q : Addr} {op oq : Obj} {K : Int} {kk : Nat} {hd : Option Value} {vs : List Value} {R : Value → Heap → Heap → Prop}
theorem use_potS (C : CallsIn kk hd w f vs [(p, op), (q, oq)] (PPot K p q R)) (B : Below A₀ base outer h₀) (F : Fr h₀ L s.heap m) (X : (Mine.fr.heap_1 w.params).In h₀) (N : News h₀ L s.heap news) (T : Top Mine.viewQ LOOSE mean mg mb h₀) (hk : cs.kind = .function) (hd' : dp + kk < recursionLimit) (hu : un + 16 * kk < cLine)
    (hp : (p, op) ∈ news) (hq : (q, oq) ∈ news) (hr : RestS p q news rest)
    (h : ∀ v op' oq' h' tk', R v s.heap h' → IsPot K q op' oq' → Fr h₀ L h' m → News h₀ L h' ((p, op') :: (q, oq') :: rest) → Q v { s with heap := h', toks := tk' }) :
    wpAny (model PRG w) (CAround hd dp un gd cn cs L a ccd cl outer) (call (.ref f) vs) Q E s :=
  C _ _ _ _ _ _ _ _ _ _ _ _ _ _ _ _ _ _ _ _ B F X (List.forall_mem_cons.mpr ⟨N _ hp, List.forall_mem_cons.mpr ⟨N _ hq, List.forall_mem_nil _⟩⟩) T hk hd' hu fun v h' tk' hpost => by
    obtain ⟨op', oq', hpot, h1, h2, hkp, hR⟩ := hpost
    have np := N _ hp
    have nq := N _ hq
    obtain ⟨oL, x1, x2, hL, x3⟩ := F.ns
    refine h v op' oq' h' tk' hR hpot ⟨⟨oL, x1, x2, hkp _ _ hL (Ne.symm np.2.1) (Ne.symm nq.2.1), x3⟩, fun c o e => ?_, F.above⟩ ?_
    · refine hkp c o (F.keep c o e) (fun z => ?_) (fun z => ?_)
      · rw [z, np.2.2] at e; cases e
      · rw [z, nq.2.2] at e; cases e
    · refine List.forall_mem_cons.mpr ⟨⟨h1, np.2⟩, List.forall_mem_cons.mpr ⟨⟨h2, nq.2⟩, fun c hc => ?_⟩⟩
      obtain ⟨hm, e1, e2⟩ := hr.mem c hc
      exact ⟨hkp _ _ (N c hm).1 e1 e2, (N c hm).2⟩
theorem use_drawS {lim : Int} {t : Tok} (B : Below A₀ base outer h₀) (F : Fr h₀ L s.heap m) (X : (Mine.fr.heap_1 w.params).In h₀) (N : News h₀ L s.heap news) (T : Top Mine.viewQ LOOSE mean mg mb h₀) (hk : cs.kind = .function) (hd' : dp + 2 < recursionLimit) (hu : un + 16 * 2 < cLine)
    (hP : IsPot K q op oq) (hK : K ≤ 1000) (hpq : @Ne Nat p q) (hl : 0 < lim) (hl2 : lim ≤ 1000000000) (hp : (p, op) ∈ news) (hq : (q, oq) ∈ news) (hr : RestS p q news rest)
    (h : ∀ (r : Nat) t op' oq' h' tk', (r : Int) < lim → IsPot (K + 1) q op' oq' → Fr h₀ L h' m → News h₀ L h' ((p, op') :: (q, oq') :: rest) → Q (.int (r : Int) t) { s with heap := h', toks := tk' }) :
    wpAny (model PRG w) (CAround none dp un gd cn cs L a ccd cl outer) (call (.ref 186) [.ref p, .int lim t]) Q E s :=
  use_potS (c_draw w p q op oq lim t hpq K hK hP hl hl2) B F X N T hk hd' hu hp hq hr fun v op' oq' h' tk' hR hpot F' N' => by
    obtain ⟨r, t', rfl, h0, h1⟩ := hR
    obtain ⟨rn, rfl⟩ := Int.eq_ofNat_of_zero_le h0
    exact h rn t' op' oq' h' tk' h1 hpot F' N'
theorem use_named {n : Int} {t : Tok} (B : Below A₀ h₀ [] h₀) (F : Fr h₀ L s.heap m) (X : (Mine.fr.heap_1 w.params).In h₀) (N : News h₀ L s.heap news) (T : Top Mine.viewQ LOOSE mean mg mb h₀) (hk : cs.kind = .function) (hd' : dp + 12 < recursionLimit) (hu : un + 16 * 12 < cLine)
    (h : ∀ h' tk', Fr h₀ L h' m → News h₀ L h' news → Q (.bool true) { s with heap := h', toks := tk' }) : wpAny (model PRG w) (CAround none dp un gd cn cs L a ccd cl []) (call (.ref 219) [.int n t]) Q E s :=
  c_named w n t _ _ _ _ _ _ _ _ _ _ _ _ _ _ _ _ _ _ B F X News.nil T hk hd' hu fun h' tk' hp => by
    obtain ⟨h1, h2⟩ := hp
    refine h h' tk' ⟨?_, fun b o e => h1 b o (F.keep b o e) (fun z => ?_), F.above⟩ (fun c hc => ⟨h1 _ _ (N c hc).1 (N c hc).2.1, (N c hc).2⟩)
    · obtain ⟨oL, es, ep, hL, hd, r⟩ := F.ns
      obtain ⟨sl, hs⟩ := h2 oL hL
      exact ⟨_, es, ep, hs, hd, r⟩
    · rw [z, kts_self F] at e; cases e
theorem use_part (B : Below A₀ base outer h₀) (F : Fr h₀ L s.heap m) (X : (Mine.fr.heap_1 w.params).In h₀) (N : News h₀ L s.heap news) (T : Top Mine.viewQ LOOSE mean mg mb h₀) (hk : cs.kind = .function) (hd' : dp + 6 < recursionLimit) (hu : un + 16 * 6 < cLine)
    (hP : IsPot K q op oq) (hK : K ≤ 900) (hpq : @Ne Nat p q) (hp : (p, op) ∈ news) (hq : (q, oq) ∈ news) (hr : RestS p q news rest)
    (h : ∀ D nm tx t1 t2 n op' oq' h' tk', PartIs nm tx → IsPot (K + 6) q op' oq' → Fr h₀ L h' m → News h₀ L h' ((D, TUP nm tx t1 t2 n) :: (p, op') :: (q, oq') :: rest) → LCg.Off1 D news → Q (.ref D) { s with heap := h', toks := tk' }) :
    wpAny (model PRG w) (CAround none dp un gd cn cs L a ccd cl outer) (call (.ref 212) [.ref p]) Q E s :=
  use_potS (c_law_part w p q op oq hpq K hK hP) B F X N T hk hd' hu hp hq hr fun v op' oq' h' tk' hR hpot F' N' => by
    obtain ⟨D, nm, tx, t1, t2, n, rfl, hD, hn, hp'⟩ := hR
    exact h D nm tx t1 t2 n op' oq' h' tk' hp' hpot F' (add_new F hn hD N') (off1_of hn N)
end
noncomputable def lkpo (m₀ : Str → Option Value) : List (Str × Option Value) → Str → Option Value
  | [], z => m₀ z
  | p :: r, z => if z = p.1 then p.2 else lkpo m₀ r z
theorem lkpo_of {m₀ m₁ : Str → Option Value} {z : Str} : ∀ {nm : List Str}, (z ∉ nm → m₁ z = m₀ z) → m₁ z = lkpo m₀ (nm.map fun y => (y, m₁ y)) z
  | [], h => h (fun h => nomatch h)
  | y :: r, h => by
    show m₁ z = if z = y then m₁ y else lkpo m₀ (r.map fun y => (y, m₁ y)) z
    by_cases e : z = y
    · rw [if_pos e, e]
    · rw [if_neg e]
      exact lkpo_of fun hz => h (fun hm => by
        rcases List.mem_cons.mp hm with q | q
        · exact e q
        · exact hz q)
noncomputable def PotEnd (x : Str) (nm : List Str) (m₀ : Str → Option Value) (p q : Addr) (rest : List (Addr × Obj)) (K : Int) (m' : Str → Option Value) (nx : List (Addr × Obj)) : Prop :=
  ∃ op' oq', nx = (p, op') :: (q, oq') :: rest ∧ IsPot K q op' oq' ∧ ∀ z, z ≠ x → z ∉ nm → m' z = m₀ z
section
variable {prog : Program} {w : World} {A : Around} {E : Value → Shared → Prop} {s : Shared} {env : Env} {h₀ : Heap} {x : Str} {body : List Stmt} {Q : Flow → Shared → Prop} {m₀ : Str → Option Value}
theorem iter_pot {r : Addr} {a b : Int} {t u v : Tok} {n : Nat} {p q : Addr} {op oq : Obj} {K D : Int} {L : Addr} {news rest : List (Addr × Obj)} (nm : List Str)
    (hh : A.handled = none) (hr : IsRange s.heap r a b 1 t u v) (hsmall : Builtin.Range.small a b 1 = true) (hn : Builtin.Range.rangeSize a b 1 = (n : Int)) (F : Fr h₀ L s.heap m₀) (N : News h₀ L s.heap news) (hL : env.locals = L)
    (hP : IsPot K q op oq) (hp : (p, op) ∈ news) (hq : (q, oq) ∈ news) (hre : RestS p q news rest)
    (turn : ∀ (i : Nat) (op' oq' : Obj) (f : Str → Option Value) (v : Tok) (h : Heap) (tk : Nat) (own : List (Addr × Obj)), i < n → IsPot (K + D * (i : Int)) q op' oq' → OwnOff own (p :: q :: rest.map (·.1)) → Fr h₀ L h (fun z => if z = x then some (.int (a + (i : Int)) v) else lkpo m₀ (nm.map fun y => (y, f y)) z) →
      News h₀ L h ((p, op') :: (q, oq') :: (rest ++ own)) →
      wpAny (model prog w) A (execs body env) (InvPostN h₀ L (PotEnd x nm m₀ p q rest (K + D * ((i + 1 : Nat) : Int))) own (p :: q :: rest.map (·.1)) { s with heap := h, toks := tk } Q) E { s with heap := h, toks := tk })
    (done : ∀ (op' oq' : Obj) (f : Str → Option Value) (u : Option Value) (h : Heap) (tk : Nat), IsPot (K + D * (n : Int)) q op' oq' → Fr h₀ L h (fun z => if z = x then u else lkpo m₀ (nm.map fun y => (y, f y)) z) → News h₀ L h ((p, op') :: (q, oq') :: rest) → Q .next { s with heap := h, toks := tk }) :
    wpAny (model prog w) A (pyIter (.ref r)) (fun it s₂ => LoopAtV prog w A h₀ env x body Q E it s₂) E s := by
  subst hL
  refine wpAny_pyIter_range hr hsmall ?_
  have N₁ : News h₀ env.locals s.heap ((p, op) :: (q, oq) :: rest) := List.forall_mem_cons.mpr ⟨N _ hp, List.forall_mem_cons.mpr ⟨N _ hq, fun c hc => N c (hre.mem c hc).1⟩⟩
  have mk : ∀ {m₁ : Str → Option Value} {v : Option Value}, (∀ z, z ≠ x → z ∉ nm → m₁ z = m₀ z) → (fun y => if y = x then v else m₁ y) = fun z => if z = x then v else lkpo m₀ (nm.map fun y => (y, m₁ y)) z := fun h => by
    funext z
    by_cases hz : z = x
    · rw [if_pos hz, if_pos hz]
    · rw [if_neg hz, if_neg hz]; exact lkpo_of fun hn => h z hz hn
  refine loop_invN (fun i m nx => PotEnd x nm m₀ p q rest (K + D * ((i : Nat) : Int)) m nx) (LCg.range_walks hh a n) ?_ ?_ ?_ ?_ (by show IsRangeIter _ _ _ _ _; rw [hn]; simpa using Heap.get?_push_size _ rfl) (F.push _) (fun p hp => ⟨Heap.get?_push_of_some _ (N₁ p hp).1, (N₁ p hp).2⟩) ⟨op, oq, rfl, by simpa using hP, fun _ _ _ => rfl⟩ ?_ ?_
  · intro hm
    exact absurd F.ns.lt ((List.mem_singleton.mp hm) ▸ Nat.lt_irrefl _)
  · intro b' hb
    rw [List.mem_singleton.mp hb]
    exact next_is_new F
  · intro p hp hI
    exact absurd (Heap.lt_size (N₁ p hp).1) ((List.mem_singleton.mp hI) ▸ Nat.lt_irrefl _)
  · intro p hp hI
    exact absurd (Heap.lt_size (N₁ p hp).1) ((List.mem_singleton.mp hI) ▸ Nat.lt_irrefl _)
  · rintro i v m₁ nx h tk own hin ⟨vt, rfl⟩ _ hoff ⟨op', oq', rfl, hI, hm⟩ F₁ N₁
    rw [mk hm] at F₁
    exact turn i op' oq' m₁ vt h tk own hin hI hoff F₁ N₁
  · rintro m₁ nx h tk ⟨op', oq', rfl, hI, hm⟩ F₁ N₁
    have e : m₁ = fun y => if y = x then m₁ x else m₁ y := by
      funext z
      by_cases hz : z = x
      · rw [if_pos hz, hz]
      · rw [if_neg hz]
    rw [e, mk hm] at F₁
    exact done op' oq' m₁ _ h tk hI F₁ N₁
theorem pot_end {h' : Heap} {tk : Nat} {L : Addr} {m' : Str → Option Value} {nw own rest : List (Addr × Obj)} {adr : List Addr} {s₁ : Shared} {nm : List Str} {p q : Addr} {op' oq' : Obj} {K : Int} (F : Fr h₀ L h' m') (N : News h₀ L h' nw) (hp : (p, op') ∈ nw) (hq : (q, oq') ∈ nw) (hP : IsPot K q op' oq') (hre : ∀ c ∈ rest, c ∈ nw) (hown : ∀ c ∈ own, c ∈ nw)
    (ha : p :: q :: rest.map (·.1) = adr) (hm : ∀ z, z ≠ x → z ∉ nm → m' z = m₀ z) : InvEndN h₀ L (PotEnd x nm m₀ p q rest K) own adr s₁ { s₁ with heap := h', toks := tk } :=
  ⟨h', tk, m', nw, (p, op') :: (q, oq') :: rest, rfl, F, N, List.forall_mem_cons.mpr ⟨hp, List.forall_mem_cons.mpr ⟨hq, hre⟩⟩, hown, ha, op', oq', rfl, hP, hm⟩
end
noncomputable def PartsAre (vs : List Value) (ps : List (Str × Str)) (tups : List (Addr × Obj)) : Prop :=
  vs.length = ps.length ∧ ∀ (i : Nat) (v : Value), vs[i]? = some v → ∃ (D : Addr) (nm tx : Str) (t1 t2 : Tok) (n : Nat), v = .ref D ∧ ps[i]? = some (nm, tx) ∧ (D, TUP nm tx t1 t2 n) ∈ tups
theorem PartsAre.nil : PartsAre [] [] [] := ⟨rfl, fun i v h => by simp at h⟩
theorem PartsAre.snoc {vs : List Value} {ps : List (Str × Str)} {tups : List (Addr × Obj)} {D : Addr} {nm tx : Str} {t1 t2 : Tok} {n : Nat} (h : PartsAre vs ps tups) : PartsAre (vs ++ [Value.ref D]) (ps ++ [(nm, tx)]) ((D, TUP nm tx t1 t2 n) :: tups) := by
  refine ⟨by simp [h.1], fun i v hv => ?_⟩
  by_cases hi : i < vs.length
  · rw [List.getElem?_append_left hi] at hv
    obtain ⟨D', nm', tx', a1, a2, k, e1, e2, e3⟩ := h.2 i v hv
    refine ⟨D', nm', tx', a1, a2, k, e1, ?_, .tail _ e3⟩
    rw [List.getElem?_append_left (by rw [← h.1]; exact hi)]
    exact e2
  · rw [List.getElem?_append_right (by omega)] at hv
    have hi' : i = vs.length := by
      have := (List.getElem?_eq_some_iff.mp hv).1
      simp at this
      omega
    subst hi'
    simp at hv
    refine ⟨D, nm, tx, t1, t2, n, hv.symm, ?_, .head _⟩
    rw [List.getElem?_append_right (by rw [h.1]; exact Nat.le_refl _)]
    simp [h.1]
section
variable {prog : Program} {w : World} {A : Around} {h₀ : Heap} {L : Addr} {m : Str → Option Value} {env : Env} {elt : Expr} {x x₂ : Str} {scope : Scope} {cl : List (Str × Addr)} {s : Shared} {P : Nat → Value → Prop} {Fin : List Value → List (Addr × Obj) → Prop} {rest : List (Addr × Obj)} {a b : Addr}
noncomputable def PartTurn (h₀ : Heap) (L : Addr) (m : Str → Option Value) (s : Shared) (a b : Addr) (K : Int) (front rest tups : List (Addr × Obj)) (y : Value) (s₂ : Shared) : Prop :=
  ∃ (h' : Heap) (tk' : Nat) (oa' ob' : Obj) (D : Addr) (nm tx : Str) (t1 t2 : Tok) (n : Nat), s₂ = { s with heap := h', toks := tk' } ∧ y = .ref D ∧ Fr h₀ L h' m ∧ News h₀ L h' ((D, TUP nm tx t1 t2 n) :: (a, oa') :: (b, ob') :: (front ++ (rest ++ tups))) ∧ IsPot K b oa' ob' ∧ PartIs nm tx ∧ (∀ c ∈ front, c.1 ≠ D) ∧ a ≠ D ∧ b ≠ D
theorem part_turn {h' : Heap} {tk' : Nat} {K : Int} {oa' ob' : Obj} {D : Addr} {nm tx : Str} {t1 t2 : Tok} {n : Nat} {front tups nx : List (Addr × Obj)} (F : Fr h₀ L h' m) (N : News h₀ L h' nx) (e : nx = (D, TUP nm tx t1 t2 n) :: (a, oa') :: (b, ob') :: (front ++ (rest ++ tups))) (hP : IsPot K b oa' ob') (hp : PartIs nm tx) (hf : ∀ c ∈ front, c.1 ≠ D) (ha : a ≠ D) (hb : b ≠ D) :
    PartTurn h₀ L m s a b K front rest tups (.ref D) { s with heap := h', toks := tk' } := ⟨h', tk', oa', ob', D, nm, tx, t1, t2, n, rfl, rfl, F, e ▸ N, hP, hp, hf, ha, hb⟩
theorem comp_parts {n : Nat} {K : Int}
    (turn : ∀ (i : Nat) (v : Value) I oI C oC D m₂ ys h tk (E' : Value → Shared → Prop) oa ob tups, i < n → P i v → IsPot (K + 6 * (i : Int)) b oa ob → LCg.NsObj oC m₂ → m₂ x = some v → Fr h₀ L h m → News h₀ L h ((I, oI) :: (C, oC) :: (D, LCg.lst ys) :: (a, oa) :: (b, ob) :: (rest ++ tups)) → LCg.Off3 I C D ((a, oa) :: (b, ob) :: (rest ++ tups)) → ((@Ne Nat I C) ∧ (@Ne Nat I D) ∧ (@Ne Nat C D)) → OwnOff tups [a, b] →
      wpAny (model prog w) A (eval elt (compEnvC scope cl C env)) (PartTurn h₀ L m { s with heap := h, toks := tk } a b (K + 6 * (i : Int) + 6) [(I, oI), (C, oC), (D, LCg.lst ys)] rest tups) E' { s with heap := h, toks := tk })
    (fin : ∀ ys ps tups oa ob, PartsAre ys ps tups → (∀ p ∈ ps, PartIs p.1 p.2) → ps.length = n → IsPot (K + 6 * (n : Int)) b oa ob → OwnOff tups [a, b] → Fin ys ((a, oa) :: (b, ob) :: (rest ++ tups))) {oa ob : Obj} (hP : IsPot K b oa ob) :
    LCg.CompRest prog w A h₀ L m env elt x scope cl s (fun _ => True) P Fin n 0 [] ((a, oa) :: (b, ob) :: rest) := by
  have key : ∀ (j i : Nat) (ys : List Value) (ps : List (Str × Str)) (tups : List (Addr × Obj)) (oa ob : Obj), i + j = n → PartsAre ys ps tups → (∀ p ∈ ps, PartIs p.1 p.2) → ps.length = i → IsPot (K + 6 * (i : Int)) b oa ob → OwnOff tups [a, b] → LCg.CompRest prog w A h₀ L m env elt x scope cl s (fun _ => True) P Fin j i ys ((a, oa) :: (b, ob) :: (rest ++ tups)) := by
    intro j
    induction j with
    | zero =>
      intro i ys ps tups oa ob hi hy hz hl hp ho
      have e : i = n := by omega
      subst e
      exact LCg.CompRest.zero (fin ys ps tups oa ob hy hz hl hp ho)
    | succ j ih =>
      intro i ys ps tups oa ob hi hy hz hl hp ho
      refine LCg.CompRest.succ ?_
      intro v I oI C oC D m₂ h tk E' hv hC hx F N off ne
      refine wpAny_mono (turn i v I oI C oC D m₂ ys h tk E' oa ob tups (by omega) hv hp hC hx F N off ne ho) (fun y s₂ hq => ?_) fun _ _ e => e
      obtain ⟨h', tk', oa', ob', D', nm, tx, t1, t2, k, e, rfl, F', N', hp', hpt, hf, ha, hb⟩ := hq
      have hf1 := hf (I, oI) (.head _)
      have hf2 := hf (C, oC) (.tail _ (.head _))
      have hf3 := hf (D, LCg.lst ys) (.tail _ (.tail _ (.head _)))
      have off' := off.mem
      refine ⟨h', tk', (a, oa') :: (b, ob') :: (rest ++ ((D', TUP nm tx t1 t2 k) :: tups)), e, F', fun c hc => N' c ?_, LCg.Off3.of fun c hc => ?_, trivial, ?_⟩
      · simp only [List.cons_append, List.nil_append, List.mem_cons, List.mem_append] at hc ⊢
        rcases hc with h | h | h | h | h | h | h | h <;> simp [h]
      · simp only [List.mem_cons, List.mem_append] at hc
        rcases hc with h | h | h | h | h
        · have := off' (a, oa) (by simp); rw [h]; exact this
        · have := off' (b, ob) (by simp); rw [h]; exact this
        · exact off' c (by simp [h])
        · rw [h]; exact ⟨Ne.symm hf1, Ne.symm hf2, Ne.symm hf3⟩
        · exact off' c (by simp [h])
      · refine ih (i + 1) _ (ps ++ [(nm, tx)]) ((D', TUP nm tx t1 t2 k) :: tups) oa' ob' (by omega) hy.snoc (fun u hu => ?_) (by simp [hl]) (hp'.mono (by omega)) (fun c hc d hd => ?_)
        · rcases List.mem_append.mp hu with hu | hu
          · exact hz u hu
          · rw [List.mem_singleton.mp hu]; exact hpt
        · rcases List.mem_cons.mp hc with rfl | hc
          · rcases List.mem_cons.mp hd with rfl | hd
            · exact Ne.symm ha
            · rw [List.mem_singleton.mp hd]; exact Ne.symm hb
          · exact ho c hc d hd
  have := key n 0 [] [] [] oa ob (by omega) .nil (fun _ h => nomatch h) rfl (hP.mono (by omega)) (fun _ h => nomatch h)
  rwa [List.append_nil] at this
theorem comp_pairs {vs : List Value} {ps : List (Str × Str)} {tups news : List (Addr × Obj)} {S : List (Addr × Obj) → Prop} (sel : Str × Str → Str) (hv : PartsAre vs ps tups) (hsub : ∀ c ∈ tups, c ∈ news)
    (turn : ∀ nm tx t1 t2 I oI C oC D m₂ ys h tk (E' : Value → Shared → Prop), LCg.NsObj oC m₂ → m₂ x = some (.str nm t1) → m₂ x₂ = some (.str tx t2) → Fr h₀ L h m → News h₀ L h ((I, oI) :: (C, oC) :: (D, LCg.lst ys) :: news) → LCg.Off3 I C D news → ((@Ne Nat I C) ∧ (@Ne Nat I D) ∧ (@Ne Nat C D)) →
      wpAny (model prog w) A (eval elt (compEnvC scope cl C env)) (LCg.CompEnd h₀ L m { s with heap := h, toks := tk } I oI C oC D (LCg.lst ys) S (fun y' news' => ElIs OneStr news (sel (nm, tx)) y' news')) E' { s with heap := h, toks := tk })
    (fin : ∀ ys, StrsAre ys (ps.map sel) → Fin ys news) : LCp.CompRestP prog w A h₀ L m env elt x x₂ scope cl s S (fun i v => vs.toArray[i]? = some v) Fin vs.toArray.size 0 [] news := by
  have hlen : vs.toArray.size = ps.length := by rw [List.size_toArray]; exact hv.1
  have key : ∀ (j i : Nat) (ys : List Value), i + j = vs.toArray.size → StrsAre ys ((ps.take i).map sel) → LCp.CompRestP prog w A h₀ L m env elt x x₂ scope cl s S (fun i v => vs.toArray[i]? = some v) Fin j i ys news := by
    intro j
    induction j with
    | zero =>
      intro i ys hi hy
      refine LCp.CompRestP.zero (fin ys ?_)
      rwa [List.take_of_length_le (by omega)] at hy
    | succ j ih =>
      intro i ys hi hy
      refine LCp.CompRestP.succ fun v hv' => ?_
      obtain ⟨D', nm, tx, t1, t2, k, rfl, hp, hm⟩ := hv.2 i v (by simpa using hv')
      refine ⟨D', TUP nm tx t1 t2 k, .str nm t1, .str tx t2, k, rfl, hsub _ hm, rfl, rfl, ?_⟩
      intro I oI C oC D m₂ h tk E' hC hx hx₂ F N off ne
      refine wpAny_mono (turn nm tx t1 t2 I oI C oC D m₂ ys h tk E' hC hx hx₂ F N off ne) (fun y s₂ hq => ?_) fun _ _ e => e
      obtain ⟨h', tk', nw, e, F', N', off', hS, hn, hy'⟩ := hq
      rw [hn] at N' off' hS
      refine ⟨h', tk', news, e, F', N', off', hS, ?_⟩
      refine ih (i + 1) _ (by omega) ?_
      rw [List.take_add_one, hp]
      simp only [Option.toList, List.map_append, List.map_cons, List.map_nil]
      exact strs_snoc2 hy hy'
  exact key _ 0 [] (by omega) .nil
end
end Mine
end

section
open PySem PySem.W PyProof.Rows PySem.Calls PySem.Spec
set_option Elab.async false
set_option maxRecDepth 100000
set_option maxHeartbeats 0
namespace Mine
noncomputable def endsN : List Str := [Str.ofString "", Str.ofString ".", Str.ofString ".alt", Str.ofString ".A_B", Str.ofString "..uni0041"]
noncomputable def encChk (x : Str) (c : Int) : Bool := if eqN x.cps.toList [] = true then c == 0 else (kn x.cps.toList == c && decide (0 < c) && decide (c ≤ 1114111) && freeB x.cps.toList && Nat.ble x.length 64)
theorem enc_ok0 : (List.range 256).all (fun n => encChk (stdN.getD n Str.empty) (lawCode 0 n)) = true := by decide +kernel
theorem enc_ok1 : (List.range 256).all (fun n => encChk (winN.getD n Str.empty) (lawCode 1 n)) = true := by decide +kernel
theorem enc_ok2 : (List.range 256).all (fun n => encChk (macN.getD n Str.empty) (lawCode 2 n)) = true := by decide +kernel
theorem enc_chk {r n : Nat} (hr : (r : Int) < 3) (hn : (n : Int) < 256) : encChk ((encN r).getD n Str.empty) (lawCode r n) = true := by
  have hm : n ∈ List.range 256 := by simp; omega
  match r, hr with
  | 0, _ => exact List.all_eq_true.mp enc_ok0 n hm
  | 1, _ => exact List.all_eq_true.mp enc_ok1 n hm
  | 2, _ => exact List.all_eq_true.mp enc_ok2 n hm
theorem nil_eq {x : Str} : eqN x.cps.toList [] = true ↔ x = Str.ofString "" := by
  rw [emp_lit]
  exact eqN_iff (a := x) (b := ⟨#[]⟩)
theorem free_emp : Free (Str.ofString "") := by rw [emp_lit]; exact ⟨(fun h => nomatch h), (fun h => nomatch h)⟩
theorem ptext_emp : ptext (Str.ofString "") = Str.ofString "" := by
  rw [ptext_K]; decide +kernel
theorem gt_enc {r n : Nat} (hr : (r : Int) < 3) (hn : (n : Int) < 256) : gtext ((encN r).getD n Str.empty) = dueT r n := by
  have h := enc_chk hr hn
  generalize (encN r).getD n Str.empty = x at h
  unfold encChk at h
  unfold dueT
  split at h
  · rename_i hx
    rw [nil_eq.mp hx, gt_one free_emp, ptext_emp, if_pos (by simpa using h)]
  · simp only [Bool.and_eq_true, beq_iff_eq, decide_eq_true_eq] at h
    rw [gt_one (freeB_sound h.1.2), ptext_known h.1.1.1.1 (by omega), if_neg (by omega)]
theorem enc_le {r n : Nat} (hr : (r : Int) < 3) (hn : (n : Int) < 256) : ((encN r).getD n Str.empty).length ≤ 256 := by
  have h := enc_chk hr hn
  generalize (encN r).getD n Str.empty = x at h
  unfold encChk at h
  split at h
  · rename_i hx
    rw [nil_eq.mp hx, emp_lit]; exact Nat.zero_le _
  · simp only [Bool.and_eq_true] at h
    exact Nat.le_trans (Nat.le_of_ble_eq_true h.2) (by decide)
theorem code_rng {r n : Nat} (hr : (r : Int) < 3) (hn : (n : Int) < 256) : 0 ≤ lawCode r n ∧ lawCode r n ≤ 1114111 := by
  have h := enc_chk hr hn
  unfold encChk at h
  split at h
  · simp only [beq_iff_eq] at h
    omega
  · simp only [Bool.and_eq_true, beq_iff_eq, decide_eq_true_eq] at h
    omega
theorem enc_none {r n : Nat} (hr : (r : Int) < 3) (hn : (n : Int) < 256) : ((encN r).getD n Str.empty == Str.ofString "") = decide (lawCode r n = 0) := by
  have h := enc_chk hr hn
  generalize (encN r).getD n Str.empty = x at h
  unfold encChk at h
  split at h
  · rename_i hx
    rw [nil_eq.mp hx, beq_self_eq_true]
    simpa using h
  · rename_i hx
    simp only [Bool.and_eq_true, beq_iff_eq, decide_eq_true_eq] at h
    have h1 : (x == Str.ofString "") = false := by simpa using fun e => hx (nil_eq.mpr e)
    rw [h1, decide_eq_false (by omega)]
theorem chr_join_len (ns : List Int) : (Txt.join (Str.ofString "") (ns.map chrS)).length ≤ ns.length := chrs_len ns
theorem part_is {a b : Str} (h : PartIs a b) : Free a ∧ ptext a = b ∧ a.length ≤ 20 ∧ b.length ≤ 20 := by
  cases h with
  | plain hp =>
    rename_i p
    have := List.all_eq_true.mp plain_ok p hp
    simp only [Bool.and_eq_true, beq_iff_eq, decide_eq_true_eq] at this
    exact ⟨freeB_sound this.1.1.2, ptext_known this.1.1.1 this.2, Nat.le_of_ble_eq_true this.1.2, Nat.le_of_ble_eq_true rfl⟩
  | uni hl h1 =>
    rename_i ns
    have e := uniX_len ns
    unfold uniX at e
    refine ⟨free_uni ns, ptext_uni hl h1, by omega, ?_⟩
    split
    · have := chr_join_len ns; omega
    · exact Nat.le_of_ble_eq_true rfl
  | u hw hk =>
    rename_i wd k
    obtain ⟨kn, rfl⟩ := Int.eq_ofNat_of_zero_le hk.1
    have hk2 : kn < 16 ^ wd := by exact_mod_cast hk.2
    refine ⟨free_u wd kn, ptext_u hw hk2, ?_, ?_⟩
    · rw [Str.length_append, hexT_len, u_lit]; show 1 + wd ≤ 20; omega
    · split <;> exact Nat.le_of_ble_eq_true rfl
  | odd hx =>
    have := List.all_eq_true.mp odd_ok a hx
    simp only [Bool.and_eq_true] at this
    refine ⟨freeB_sound this.1.2, ?_, Nat.le_of_ble_eq_true this.2, Nat.le_of_ble_eq_true rfl⟩
    rw [ptext_K]
    exact nil_eq.mp this.1.1
theorem part_le {p : Str × Str} (h : PartIs p.1 p.2) : p.1.length ≤ 20 := (part_is h).2.2.1
noncomputable def tailsN : List (List Str) := [[], [⟨#[]⟩], [⟨#[97, 108, 116]⟩], [⟨#[65, 95, 66]⟩], [⟨#[]⟩, ⟨#[117, 110, 105, 48, 48, 52, 49]⟩]]
theorem ends_ok {r : Nat} (he : (r : Int) < 5) : (∀ p ∈ tailsN.getD r [], 46 ∉ p.cps.toList) ∧ (endsN.getD r Str.empty).cps.toList = tailC (tailsN.getD r []) := by
  match r, he with
  | 0, _ => exact ⟨(fun _ h => nomatch h), by decide +kernel⟩
  | 1, _ => exact ⟨by decide, by decide +kernel⟩
  | 2, _ => exact ⟨by decide, by decide +kernel⟩
  | 3, _ => exact ⟨by decide, by decide +kernel⟩
  | 4, _ => exact ⟨by decide, by decide +kernel⟩
theorem parts_map {ps : List (Str × Str)} (h : ∀ p ∈ ps, PartIs p.1 p.2) : (ps.map Prod.fst).map ptext = ps.map Prod.snd := by
  rw [List.map_map]
  exact List.map_congr_left fun p hp => (part_is (h p hp)).2.1
theorem gt_parts {ps : List (Str × Str)} {r : Nat} (h : ∀ p ∈ ps, PartIs p.1 p.2) (he : (r : Int) < 5) : gtext (Txt.join (Str.ofString "_") (ps.map Prod.fst) ++ endsN.getD r Str.empty) = Txt.join (Str.ofString "") (ps.map Prod.snd) := by
  obtain ⟨h1, h2⟩ := ends_ok he
  rw [txt_join, txt_join, und_lit]
  by_cases hn : ps = []
  · subst hn
    have := gtext_of (nms := [Str.ofString ""]) (by simp) (fun y hy => by rw [List.mem_singleton.mp hy]; exact free_emp) h1 h2
    rw [join_one] at this
    have e1 : Str.ofString "" = Str.empty := by rw [emp_lit]; rfl
    rw [e1] at this
    show gtext (Str.empty ++ _) = Str.empty
    rw [this]
    show ptext Str.empty = _
    rw [← e1, ptext_emp]
  · rw [gtext_of (by simpa using hn) (fun x hx => by
      obtain ⟨p, hp, rfl⟩ := List.mem_map.mp hx
      exact (part_is (h p hp)).1) h1 h2, parts_map h, emp_lit]
    rfl
theorem sum_le {f : Str × Str → Str} : ∀ {ps : List (Str × Str)}, (∀ p ∈ ps, (f p).length ≤ 20) → (((ps.map f).map (·.length)).sum) ≤ 20 * ps.length
  | [], _ => Nat.le_refl _
  | a :: r, h => by
    have h1 := sum_le (f := f) fun p hp => h p (.tail _ hp)
    have h2 := h a (.head _)
    simp only [List.map_cons, List.sum_cons, List.length_cons]
    omega
theorem join_le {ps : List (Str × Str)} (h : ∀ p ∈ ps, PartIs p.1 p.2) (hl : ps.length ≤ 4) : (Txt.join (Str.ofString "_") (ps.map Prod.fst)).length ≤ 100 := by
  rw [txt_join]
  have h1 := StrLaws.join_length_le (Str.ofString "_") (ps.map Prod.fst)
  have h2 := sum_le (f := Prod.fst) fun p hp => part_le (h p hp)
  rw [List.length_map, show (Str.ofString "_").length = 1 by decide] at h1
  omega
theorem ends_le {r : Nat} (he : (r : Int) < 5) : (endsN.getD r Str.empty).length ≤ 9 := by
  have : ∀ x ∈ endsN, x.length ≤ 9 := by decide +kernel
  rw [List.getD_eq_getElem?_getD, List.getElem?_eq_getElem (show r < endsN.length by show r < 5; omega)]
  exact this _ (List.getElem_mem _)
theorem parts_le {ps : List (Str × Str)} {r : Nat} (h : ∀ p ∈ ps, PartIs p.1 p.2) (hl : ps.length ≤ 4) (he : (r : Int) < 5) : (Txt.join (Str.ofString "_") (ps.map Prod.fst) ++ endsN.getD r Str.empty).length ≤ 256 := by
  rw [Str.length_append]
  have := join_le h hl
  have := ends_le he
  omega
theorem parts_size {vs : List Value} {ps : List (Str × Str)} {tups : List (Addr × Obj)} (h : PartsAre vs ps tups) (hl : ps.length ≤ 4) : vs.toArray.size ≤ sizeLine := by
  rw [List.size_toArray, h.1, sizeLine_eq]; omega
theorem part_le2 {p : Str × Str} (h : PartIs p.1 p.2) : p.2.length ≤ 20 := (part_is h).2.2.2
theorem parts_join1 {ps : List (Str × Str)} (h : ∀ p ∈ ps, PartIs p.1 p.2) (hl : ps.length ≤ 4) : ((ps.map Prod.fst).map (·.length)).sum + (ps.map Prod.fst).length * 64 ≤ 16777216 := by
  have := sum_le (f := Prod.fst) fun p hp => part_le (h p hp)
  rw [List.length_map]; omega
theorem parts_join2 {ps : List (Str × Str)} (h : ∀ p ∈ ps, PartIs p.1 p.2) (hl : ps.length ≤ 4) : ((ps.map Prod.snd).map (·.length)).sum + (ps.map Prod.snd).length * 64 ≤ 16777216 := by
  have := sum_le (f := Prod.snd) fun p hp => part_le2 (h p hp)
  rw [List.length_map]; omega
theorem parts_1000 {ps : List (Str × Str)} (h : ∀ p ∈ ps, PartIs p.1 p.2) (hl : ps.length ≤ 4) : (Txt.join (Str.ofString "_") (ps.map Prod.fst)).length ≤ 1000 := Nat.le_trans (join_le h hl) (by decide)
theorem ends_1000 {r : Nat} (he : (r : Int) < 5) : (endsN.getD r Str.empty).length ≤ 1000 := Nat.le_trans (ends_le he) (by decide)
theorem item_ends {prog : Program} {w : World} {A : Around} {E : Value → Shared → Prop} {s : Shared} {value slice : PySem.Expr} {l : Addr} {r : Nat} {t1 t2 t3 t4 t5 u : Tok} {Q : Value → Shared → Prop} (hl : s.heap.IsList l [Value.str (Str.ofString "") t1, .str (Str.ofString ".") t2, .str (Str.ofString ".alt") t3, .str (Str.ofString ".A_B") t4, .str (Str.ofString "..uni0041") t5].toArray) (hn : (r : Int) < 5)
    (h : ∀ t, Q (.str (endsN.getD r Str.empty) t) s) (hs : subscripted slice false (.ref l) (.int r u) = operate [.ref l, .int r u] (getItem (.ref l) (.int r u)) := by with_unfolding_all rfl) :
    wpAny (model prog w) A (subscriptTail value slice (.ref l) (.int r u)) Q E s :=
  item_texts (xs := endsN) hl (.cons _ _ (.cons _ _ (.cons _ _ (.cons _ _ (.cons _ _ .nil))))) (by omega) hn (by omega) h hs
theorem item_codes {prog : Program} {w : World} {A : Around} {E : Value → Shared → Prop} {s : Shared} {value slice : PySem.Expr} {l : Addr} {r : Nat} {a b c d : Int} {t1 t2 t3 t4 u : Tok} {Q : Value → Shared → Prop} (hl : s.heap.IsList l [Value.int a t1, .int b t2, .int c t3, .int d t4].toArray) (hn : (r : Int) < 4)
    (h : ∀ t, Q (.int ([a, b, c, d].getD r 0) t) s) (hs : subscripted slice false (.ref l) (.int r u) = operate [.ref l, .int r u] (getItem (.ref l) (.int r u)) := by with_unfolding_all rfl) :
    wpAny (model prog w) A (subscriptTail value slice (.ref l) (.int r u)) Q E s :=
  item_anyK hl (IntsAre.cons _ _ (.cons _ _ (.cons _ _ (.cons _ _ .nil)))) (by omega) hn (by omega) h hs
theorem no_due0 {r n : Nat} (h : lawCode r n = 0) (q : (dueT r n != Str.ofString "") = true) : False := by
  unfold dueT at q
  rw [if_pos h] at q
  simp at q
theorem no_due1 {r n : Nat} (h : lawCode r n ≠ 0) (q : (dueT r n != chrS (lawCode r n)) = true) : False := by
  unfold dueT at q
  rw [if_neg h] at q
  simp at q
theorem no_empty {r n : Nat} (hr : (r : Int) < 3) (hn : (n : Int) < 256) (q : (((encN r).getD n Str.empty == Str.ofString "") != (lawCode r n == 0)) = true) : False := by
  rw [enc_none hr hn] at q
  by_cases h : lawCode r n = 0 <;> simp [h] at q
end Mine
end

section
open PySem PySem.W PyProof.Rows PySem.Calls PySem.Spec
set_option Elab.async false
set_option maxRecDepth 100000
set_option maxHeartbeats 0
namespace Mine
theorem topOffLW : True := by
  w_top off
  trivial
theorem c_law (w : World) (sc : Addr) (vs : List Value) (ns : List Int) (hv : IntsAre vs ns) (hln : ns.length ≤ 63) : ∀ (dp un : Nat) (gd : Option (List Code)) (s : Shared) (mean : ExcName → Option Value) (mg mb : Str → Option Value) (Q E : Value → Shared → Prop), (Mine.fr.heap_1 w.params).In s.heap → Top Mine.viewQ LOOSE mean mg mb s.heap → s.heap.IsList sc vs.toArray →
    (∀ h' tk', Keeps s.heap h' → Q (.bool true) { s with heap := h', toks := tk' }) → dp + 16 < recursionLimit → un + 16 * 16 < cLine → wpAny (model PRG w) { handled := none, depth := dp, frames := some [], guards := gd, units := un } (call (.ref 224) [.ref sc]) Q E s := by
  dsimp only [PRG, LOOSE]
  k_fill
  intro dp un gd s mean mg mb Q E X₀ T₀ hls hret hd₀ hu₀
  have K0 : Below { handled := none, depth := dp, frames := some [], guards := gd, units := un } s.heap [] s.heap := ⟨rfl, fun _ _ e => e, trivial⟩
  refine wpAny_call ?_
  k_dflt (refine' enterC0 ?k1 ?k2 ?k3 ?k6 ?k7 ?k8 ?k9 ?kB ?kD ?_ ?c2 ?c3 ?c4; (case k1 => k_asm); (case k2 => k_asm); (case k3 => assumption); (case k6 => k_is); (case k7 => k_is); (case k8 => ktr_room); (case k9 => exact BindsTo.of_eq rfl); (case kB => exact rfl); (case kD => decide +kernel); (case c2 => exact rfl); (case c3 => exact rfl); (case c4 => exact rfl); k_whole; intro L' h' tk' cells' F' N' Y'; k_cells Y'; (try simp only [List.cons_append, List.nil_append] at N'); (try dsimp only); (try k_fold))
  k_with_none
  k_with "call ref" => (k_here; (with_reducible show wpAny _ _ (call (Value.ref 179) _) _ _ _); k_dflt (refine' use_newpot (c_law_pot w sc vs ns hv hln) (by k_asm) (by k_asm) (by k_asm) (by k_asm) (by k_asm) (by first | rfl | assumption) (by exact room_d (by with_reducible assumption) (by decide)) (by exact room_u (by with_reducible assumption) (by decide)) hls ?_); intro p' q' op' oq' h' tk' ne' hP' F' N' o1' o2'; (have o1s := o1'); (have o2s := o2'); (simp only [LCg.Off1, and_true] at o1s o2s))
  k_with "call ref" => (k_here; (with_reducible show wpAny _ _ (call (Value.ref 186) [Value.ref _, Value.int _ _]) _ _ _); k_dflt (refine' use_drawS (by k_asm) (by k_asm) (by k_asm) (by k_asm) (by k_asm) (by first | rfl | assumption) (by exact room_d (by with_reducible assumption) (by decide)) (by exact room_u (by with_reducible assumption) (by decide)) (by with_reducible assumption) (by (first | decide | with_reducible exact kb_loop (by with_reducible assumption) (by with_reducible assumption) | with_reducible exact kb_part (by with_reducible assumption) (by with_reducible assumption) | with_reducible exact kb_two0 (by with_reducible assumption) | with_reducible exact kb_two1 (by with_reducible assumption) | with_reducible exact kb_two2 (by with_reducible assumption) | with_reducible exact kb_two3 (by with_reducible assumption) | with_reducible exact kb_two4 (by with_reducible assumption))) (by with_reducible assumption) (by decide) (by decide) (by k_mem) (by k_mem) (by repeat (first | with_reducible exact RestS.nil | with_reducible exact RestS.own2 (by with_reducible assumption) | with_reducible apply RestS.skipA | with_reducible apply RestS.skipB | (with_reducible apply RestS.keep; (first | with_reducible assumption | (with_reducible apply off1_ne; with_reducible assumption; focus (((repeat (first | with_reducible exact List.mem_cons_self | with_reducible apply List.mem_cons_of_mem)); (all_goals fail)))) | (with_reducible apply Ne.symm; with_reducible apply off1_ne; with_reducible assumption; focus (((repeat (first | with_reducible exact List.mem_cons_self | with_reducible apply List.mem_cons_of_mem)); (all_goals fail)))) | (with_reducible apply off3_neI; with_reducible assumption; focus (((repeat (first | with_reducible exact List.mem_cons_self | with_reducible apply List.mem_cons_of_mem)); (all_goals fail)))) | (with_reducible apply off3_neC; with_reducible assumption; focus (((repeat (first | with_reducible exact List.mem_cons_self | with_reducible apply List.mem_cons_of_mem)); (all_goals fail)))) | (with_reducible apply off3_neD; with_reducible assumption; focus (((repeat (first | with_reducible exact List.mem_cons_self | with_reducible apply List.mem_cons_of_mem)); (all_goals fail)))) | with_reducible exact Ne.symm (And.left (by with_reducible assumption)) | with_reducible exact Ne.symm (And.left (And.right (by with_reducible assumption))) | with_reducible exact Nat.ne_of_gt (And.left (by with_reducible assumption)) | with_reducible exact Nat.ne_of_gt (And.left (And.right (by with_reducible assumption))) | with_reducible exact Nat.ne_of_gt (And.left (And.right (And.right (by with_reducible assumption))))); (first | with_reducible assumption | (with_reducible apply off1_ne; with_reducible assumption; focus (((repeat (first | with_reducible exact List.mem_cons_self | with_reducible apply List.mem_cons_of_mem)); (all_goals fail)))) | (with_reducible apply Ne.symm; with_reducible apply off1_ne; with_reducible assumption; focus (((repeat (first | with_reducible exact List.mem_cons_self | with_reducible apply List.mem_cons_of_mem)); (all_goals fail)))) | (with_reducible apply off3_neI; with_reducible assumption; focus (((repeat (first | with_reducible exact List.mem_cons_self | with_reducible apply List.mem_cons_of_mem)); (all_goals fail)))) | (with_reducible apply off3_neC; with_reducible assumption; focus (((repeat (first | with_reducible exact List.mem_cons_self | with_reducible apply List.mem_cons_of_mem)); (all_goals fail)))) | (with_reducible apply off3_neD; with_reducible assumption; focus (((repeat (first | with_reducible exact List.mem_cons_self | with_reducible apply List.mem_cons_of_mem)); (all_goals fail)))) | with_reducible exact Ne.symm (And.left (by with_reducible assumption)) | with_reducible exact Ne.symm (And.left (And.right (by with_reducible assumption))) | with_reducible exact Nat.ne_of_gt (And.left (by with_reducible assumption)) | with_reducible exact Nat.ne_of_gt (And.left (And.right (by with_reducible assumption))) | with_reducible exact Nat.ne_of_gt (And.left (And.right (And.right (by with_reducible assumption)))))) | with_reducible apply RestS.dropOne)) ?_); intro r t' op' oq' h' tk' hr' hP' F' N')
  k_with "call ref" => (k_here; (with_reducible show wpAny _ _ (call (Value.ref 139) _) _ _ _); k_dflt (refine' use_texts (c_law_encodings _) (by k_asm) (by k_asm) (by k_asm) (by k_asm) (by k_asm) (by first | rfl | assumption) (by exact room_d (by with_reducible assumption) (by decide)) (by exact room_u (by with_reducible assumption) (by decide)) ?_); intro D' vs' n' h' tk' a' F' N' o1')
  k_with "subscriptTail Call Name" => (k_here; (with_reducible show wpAny _ _ (subscriptTail _ _ (Value.ref _) (Value.int _ _)) _ _ _); k_dflt (refine item_encs (by kmk_list) (by with_reducible assumption) (by with_reducible assumption) ?_); intro t')
  k_with "call ref" => (k_here; (with_reducible show wpAny _ _ (call (Value.ref 87) _) _ _ _); k_dflt (refine' use_texts (c_base_r _ _ (by with_reducible assumption)) (by k_asm) (by k_asm) (by k_asm) (by k_asm) (by k_asm) (by first | rfl | assumption) (by exact room_d (by with_reducible assumption) (by decide)) (by exact room_u (by with_reducible assumption) (by decide)) ?_); intro D' vs' n' h' tk' a' F' N' o1')
  k_with "call builtin:len" => (k_here; (with_reducible show wpAny _ _ (call (Value.builtin "len") [Value.ref _]) _ _ _); k_dflt (refine len_enc (by kmk_list) (by with_reducible assumption) ?_))
  k_with "exec For Name Name cons nil" => (k_here; k_dflt (refine' For_invVF (by k_asm) (by exact rfl) (by exact rfl) ?_))
  k_with "exec For Name Call cons nil" => (k_here; k_dflt (refine' For_invVF (by k_asm) (by exact rfl) (by exact rfl) ?_))
  k_with "pyIter ref" => (k_here; (with_reducible show wpAny _ _ (pyIter (Value.ref _)) _ _ _); (focus ((rename IsRange _ _ _ _ _ _ _ _ => hR'); (rename Fr _ _ _ _ => lF'); (rename News _ _ _ _ => lN'); k_dflt (refine' iter_pot (D := 1) [Str.ofString "code", Str.ofString "due"] rfl hR' (rng_six (by with_reducible assumption)) (rng1_size _) lF' lN' rfl (by with_reducible assumption) (by k_mem) (by k_mem) (by repeat (first | with_reducible exact RestS.nil | with_reducible apply RestS.skipA | with_reducible apply RestS.skipB | (with_reducible apply RestS.keep; (first | with_reducible assumption | (with_reducible apply off1_ne; with_reducible assumption; focus (((repeat (first | with_reducible exact List.mem_cons_self | with_reducible apply List.mem_cons_of_mem)); (all_goals fail)))) | (with_reducible apply Ne.symm; with_reducible apply off1_ne; with_reducible assumption; focus (((repeat (first | with_reducible exact List.mem_cons_self | with_reducible apply List.mem_cons_of_mem)); (all_goals fail)))) | (with_reducible apply off3_neI; with_reducible assumption; focus (((repeat (first | with_reducible exact List.mem_cons_self | with_reducible apply List.mem_cons_of_mem)); (all_goals fail)))) | (with_reducible apply off3_neC; with_reducible assumption; focus (((repeat (first | with_reducible exact List.mem_cons_self | with_reducible apply List.mem_cons_of_mem)); (all_goals fail)))) | (with_reducible apply off3_neD; with_reducible assumption; focus (((repeat (first | with_reducible exact List.mem_cons_self | with_reducible apply List.mem_cons_of_mem)); (all_goals fail)))) | with_reducible exact Ne.symm (And.left (by with_reducible assumption)) | with_reducible exact Ne.symm (And.left (And.right (by with_reducible assumption))) | with_reducible exact Nat.ne_of_gt (And.left (by with_reducible assumption)) | with_reducible exact Nat.ne_of_gt (And.left (And.right (by with_reducible assumption))) | with_reducible exact Nat.ne_of_gt (And.left (And.right (And.right (by with_reducible assumption))))); (first | with_reducible assumption | (with_reducible apply off1_ne; with_reducible assumption; focus (((repeat (first | with_reducible exact List.mem_cons_self | with_reducible apply List.mem_cons_of_mem)); (all_goals fail)))) | (with_reducible apply Ne.symm; with_reducible apply off1_ne; with_reducible assumption; focus (((repeat (first | with_reducible exact List.mem_cons_self | with_reducible apply List.mem_cons_of_mem)); (all_goals fail)))) | (with_reducible apply off3_neI; with_reducible assumption; focus (((repeat (first | with_reducible exact List.mem_cons_self | with_reducible apply List.mem_cons_of_mem)); (all_goals fail)))) | (with_reducible apply off3_neC; with_reducible assumption; focus (((repeat (first | with_reducible exact List.mem_cons_self | with_reducible apply List.mem_cons_of_mem)); (all_goals fail)))) | (with_reducible apply off3_neD; with_reducible assumption; focus (((repeat (first | with_reducible exact List.mem_cons_self | with_reducible apply List.mem_cons_of_mem)); (all_goals fail)))) | with_reducible exact Ne.symm (And.left (by with_reducible assumption)) | with_reducible exact Ne.symm (And.left (And.right (by with_reducible assumption))) | with_reducible exact Nat.ne_of_gt (And.left (by with_reducible assumption)) | with_reducible exact Nat.ne_of_gt (And.left (And.right (by with_reducible assumption))) | with_reducible exact Nat.ne_of_gt (And.left (And.right (And.right (by with_reducible assumption)))))) | with_reducible apply RestS.dropOne | with_reducible exact RestS.drop)) ?_ ?_); (clear lF' lN' hR'; intro i op' oq' f' v hh tk own hi hP' hoff F' N'; simp only [List.map_cons, List.map_nil, lkpo] at F'; simp only [List.cons_append, List.nil_append] at N'); rotate_left; (clear lF' lN' hR'; intro op' oq' f' u hh tk hP' F' N'; replace hP' := pot_six hP' (by with_reducible assumption); simp only [List.map_cons, List.map_nil, lkpo] at F'); rotate_right)))
  k_with "call ref" => (k_here; (with_reducible show wpAny _ _ (call (Value.ref 193) _) _ _ _); k_dflt (refine' use_val (c_code_r _ _ _ (by with_reducible assumption) (by with_reducible assumption)) (by k_asm) (by k_asm) (by k_asm) (by k_asm) (by k_asm) (by first | rfl | assumption) (by exact room_d (by with_reducible assumption) (by decide)) (by exact room_u (by with_reducible assumption) (by decide)) ?_); intro t' h' tk' F' N')
  k_with "subscriptTail Name Name" => (k_here; (with_reducible show wpAny _ _ (subscriptTail _ _ (Value.ref _) (Value.int _ _)) _ _ _); k_dflt (refine item_enc (by kmk_list) (by with_reducible assumption) (by with_reducible assumption) ?_); intro t')
  k_with "call ref" => (k_here; (with_reducible show wpAny _ _ (call (Value.ref 125) _) _ _ _); k_dflt (refine' use_val (c_gt_at _ _ _ (by first | with_reducible exact enc_le (by with_reducible assumption) (by with_reducible assumption) | with_reducible exact parts_le (by with_reducible assumption) (by with_reducible assumption) (by with_reducible assumption)) (by first | with_reducible exact gt_enc (by with_reducible assumption) (by with_reducible assumption) | with_reducible exact gt_parts (by with_reducible assumption) (by with_reducible assumption))) (by k_asm) (by k_asm) (by k_asm) (by k_asm) (by k_asm) (by first | rfl | assumption) (by exact room_d (by with_reducible assumption) (by decide)) (by exact room_u (by with_reducible assumption) (by decide)) ?_); intro t' h' tk' F' N')
  k_with "call builtin:chr" => (k_here; (with_reducible show wpAny _ _ (call (Value.builtin "chr") [Value.int (lawCode _ _) _]) _ _ _); k_dflt (refine chr_ok (code_rng (by with_reducible assumption) (by with_reducible assumption)).1 (code_rng (by with_reducible assumption) (by with_reducible assumption)).2 ?_))
  k_with "exec Assign cons ListComp" => (k_here; k_dflt (refine LCg.Assign_ListComp_U (F₀ := by k_asm) (by rfl) (by with_unfolding_all rfl) (by with_unfolding_all rfl) (by decide) (by rfl) (by decide) (by rfl) (by rfl) (by rfl) ?_))
  k_with "CompSrc" => (k_here; (with_reducible show LCg.CompSrc _ _ _ _ _ _ _ (PySem.Expr.Call (PySem.Expr.Name (Str.ofString "_law_part") _) _ _ _) _ _ _ _ _ _); k_dflt (refine LCg.CompSrc.range (by rfl) (by k_asm) (by k_asm) (by assumption) (rng_four (by with_reducible assumption)) (rng1_size _) (line_four (by with_reducible assumption)) ?_; intro g'; refine' comp_parts (fun i' v' I' oI' C' oC' D' m' ys' h' tk' E' oa' ob' tups' hi' hv' hP' hC' hx' F' N' off' ne' ho' => ?_) (fun ys' ps' tups' oa' ob' hy' hpr' hlp' hP' ho' => ?_) (by with_reducible assumption); rotate_left; (replace hP' := pot_four hP' (by with_reducible assumption)); (replace hlp' := len_four hlp' (by with_reducible assumption)); (try simp only [List.cons_append, List.nil_append]); rotate_right); (try clear ne'); (try (simp only [List.cons_append, List.nil_append] at off')); (try (simp only [List.cons_append, List.nil_append] at N')))
  k_with "call ref" => (k_here; (with_reducible show wpAny _ _ (call (Value.ref 212) _) _ _ _); k_dflt (refine' use_part (by k_asm) (by k_asm) (by k_asm) (by k_asm) (by k_asm) (by first | rfl | assumption) (by exact room_d (by with_reducible assumption) (by decide)) (by exact room_u (by with_reducible assumption) (by decide)) (by with_reducible assumption) (by (first | decide | with_reducible exact kb_loop (by with_reducible assumption) (by with_reducible assumption) | with_reducible exact kb_part (by with_reducible assumption) (by with_reducible assumption) | with_reducible exact kb_two0 (by with_reducible assumption) | with_reducible exact kb_two1 (by with_reducible assumption) | with_reducible exact kb_two2 (by with_reducible assumption) | with_reducible exact kb_two3 (by with_reducible assumption) | with_reducible exact kb_two4 (by with_reducible assumption))) (by with_reducible assumption) (by k_mem) (by k_mem) (by repeat (first | with_reducible exact RestS.nil | with_reducible exact RestS.own2 (by with_reducible assumption) | with_reducible apply RestS.skipA | with_reducible apply RestS.skipB | (with_reducible apply RestS.keep; (first | with_reducible assumption | (with_reducible apply off1_ne; with_reducible assumption; focus (((repeat (first | with_reducible exact List.mem_cons_self | with_reducible apply List.mem_cons_of_mem)); (all_goals fail)))) | (with_reducible apply Ne.symm; with_reducible apply off1_ne; with_reducible assumption; focus (((repeat (first | with_reducible exact List.mem_cons_self | with_reducible apply List.mem_cons_of_mem)); (all_goals fail)))) | (with_reducible apply off3_neI; with_reducible assumption; focus (((repeat (first | with_reducible exact List.mem_cons_self | with_reducible apply List.mem_cons_of_mem)); (all_goals fail)))) | (with_reducible apply off3_neC; with_reducible assumption; focus (((repeat (first | with_reducible exact List.mem_cons_self | with_reducible apply List.mem_cons_of_mem)); (all_goals fail)))) | (with_reducible apply off3_neD; with_reducible assumption; focus (((repeat (first | with_reducible exact List.mem_cons_self | with_reducible apply List.mem_cons_of_mem)); (all_goals fail)))) | with_reducible exact Ne.symm (And.left (by with_reducible assumption)) | with_reducible exact Ne.symm (And.left (And.right (by with_reducible assumption))) | with_reducible exact Nat.ne_of_gt (And.left (by with_reducible assumption)) | with_reducible exact Nat.ne_of_gt (And.left (And.right (by with_reducible assumption))) | with_reducible exact Nat.ne_of_gt (And.left (And.right (And.right (by with_reducible assumption))))); (first | with_reducible assumption | (with_reducible apply off1_ne; with_reducible assumption; focus (((repeat (first | with_reducible exact List.mem_cons_self | with_reducible apply List.mem_cons_of_mem)); (all_goals fail)))) | (with_reducible apply Ne.symm; with_reducible apply off1_ne; with_reducible assumption; focus (((repeat (first | with_reducible exact List.mem_cons_self | with_reducible apply List.mem_cons_of_mem)); (all_goals fail)))) | (with_reducible apply off3_neI; with_reducible assumption; focus (((repeat (first | with_reducible exact List.mem_cons_self | with_reducible apply List.mem_cons_of_mem)); (all_goals fail)))) | (with_reducible apply off3_neC; with_reducible assumption; focus (((repeat (first | with_reducible exact List.mem_cons_self | with_reducible apply List.mem_cons_of_mem)); (all_goals fail)))) | (with_reducible apply off3_neD; with_reducible assumption; focus (((repeat (first | with_reducible exact List.mem_cons_self | with_reducible apply List.mem_cons_of_mem)); (all_goals fail)))) | with_reducible exact Ne.symm (And.left (by with_reducible assumption)) | with_reducible exact Ne.symm (And.left (And.right (by with_reducible assumption))) | with_reducible exact Nat.ne_of_gt (And.left (by with_reducible assumption)) | with_reducible exact Nat.ne_of_gt (And.left (And.right (by with_reducible assumption))) | with_reducible exact Nat.ne_of_gt (And.left (And.right (And.right (by with_reducible assumption)))))) | with_reducible apply RestS.dropOne)) ?_); intro D' nm' tx' t1' t2' n' op' oq' h' tk' hpt' hP' F' N' o1')
  k_with "subscriptTail List" => (k_here; (with_reducible show wpAny _ _ (subscriptTail _ _ (Value.ref _) (Value.int _ _)) _ _ _); k_dflt (first | (refine item_ends (by kmk_list) (by with_reducible assumption) ?_; intro t') | (refine item_codes (by kmk_list) (by with_reducible assumption) ?_; intro t')))
  k_with "SrcLP" => (k_here; (with_reducible show LCp.SrcLP _ _ _ _ _ _ _ (PySem.Expr.Name (Str.ofString "name") _) _ _ _ _ _ _ _); k_dflt (refine LCp.SrcLP.ledger (by rfl) (by k_asm) (by k_asm) (by k_mem) (parts_size (by with_reducible assumption) (by with_reducible assumption)) ?_; intro g'; refine' comp_pairs Prod.fst (by with_reducible assumption) (fun c hc => by repeat (first | exact hc | apply List.Mem.tail)) (fun nm' tx' t1' t2' I' oI' C' oC' D' m' ys' h' tk' E' hC' hx' hx2' F' N' off' ne' => ?_) (fun ys' hy' => ?_)))
  k_with "SrcLP" => (k_here; (with_reducible show LCp.SrcLP _ _ _ _ _ _ _ (PySem.Expr.Name (Str.ofString "text") _) _ _ _ _ _ _ _); k_dflt (refine LCp.SrcLP.ledger (by rfl) (by k_asm) (by k_asm) (by k_mem) (parts_size (by with_reducible assumption) (by with_reducible assumption)) ?_; intro g'; refine' comp_pairs Prod.snd (by with_reducible assumption) (fun c hc => by repeat (first | exact hc | apply List.Mem.tail)) (fun nm' tx' t1' t2' I' oI' C' oC' D' m' ys' h' tk' E' hC' hx' hx2' F' N' off' ne' => ?_) (fun ys' hy' => ?_)))
  k_with "CompEnd" => (refine LCg.CompEnd.intro (by with_reducible assumption) (by with_reducible assumption) _ (fun _ hp => hp) (by with_reducible assumption) (by first | exact True.intro | exact Or.inr ⟨_, by k_mem, rfl, _, rfl⟩) ?_)
  k_with "call builtin:str.join" => (k_here; (with_reducible show wpAny _ _ (call (Value.builtin "str.join") [Value.str _ _, Value.ref _]) _ _ _); k_dflt (refine join_listC (by kmk_list) (by with_reducible assumption) (by decide) (by first | with_reducible exact parts_join1 (by with_reducible assumption) (by with_reducible assumption) | with_reducible exact parts_join2 (by with_reducible assumption) (by with_reducible assumption)) ?_); intro t' k')
  k_with "binaryOp Add str str" => (k_here; (with_reducible show wpAny _ _ (binaryOp Operator.Add (Value.str _ _) (Value.str _ _)) _ _ _); k_dflt (refine add_small (parts_1000 (by with_reducible assumption) (by with_reducible assumption)) (ends_1000 (by with_reducible assumption)) ?_); intro t' k')
  k_with "call ref" => (k_here; (with_reducible show wpAny _ _ (call (Value.ref 219) _) _ _ _); k_dflt (refine' use_named (by k_asm) (by k_asm) (by k_asm) (by k_asm) (by k_asm) (by first | rfl | assumption) (by exact room_d (by with_reducible assumption) (by decide)) (by exact room_u (by with_reducible assumption) (by decide)) ?_); intro h' tk' F' N')
  k_with "pyIter ref" => (k_here; (with_reducible show wpAny _ _ (pyIter (Value.ref _)) _ _ _); (focus ((rename IsRange _ _ _ _ _ _ _ _ => hR'); (rename Fr _ _ _ _ => lF'); (rename News _ _ _ _ => lN'); k_dflt (refine' iter_pot (D := 5) [Str.ofString "code"] rfl hR' (by decide +kernel) (rng_size 2) lF' lN' rfl (by with_reducible assumption) (by k_mem) (by k_mem) (by repeat (first | with_reducible exact RestS.nil | with_reducible apply RestS.skipA | with_reducible apply RestS.skipB | (with_reducible apply RestS.keep; (first | with_reducible assumption | (with_reducible apply off1_ne; with_reducible assumption; focus (((repeat (first | with_reducible exact List.mem_cons_self | with_reducible apply List.mem_cons_of_mem)); (all_goals fail)))) | (with_reducible apply Ne.symm; with_reducible apply off1_ne; with_reducible assumption; focus (((repeat (first | with_reducible exact List.mem_cons_self | with_reducible apply List.mem_cons_of_mem)); (all_goals fail)))) | (with_reducible apply off3_neI; with_reducible assumption; focus (((repeat (first | with_reducible exact List.mem_cons_self | with_reducible apply List.mem_cons_of_mem)); (all_goals fail)))) | (with_reducible apply off3_neC; with_reducible assumption; focus (((repeat (first | with_reducible exact List.mem_cons_self | with_reducible apply List.mem_cons_of_mem)); (all_goals fail)))) | (with_reducible apply off3_neD; with_reducible assumption; focus (((repeat (first | with_reducible exact List.mem_cons_self | with_reducible apply List.mem_cons_of_mem)); (all_goals fail)))) | with_reducible exact Ne.symm (And.left (by with_reducible assumption)) | with_reducible exact Ne.symm (And.left (And.right (by with_reducible assumption))) | with_reducible exact Nat.ne_of_gt (And.left (by with_reducible assumption)) | with_reducible exact Nat.ne_of_gt (And.left (And.right (by with_reducible assumption))) | with_reducible exact Nat.ne_of_gt (And.left (And.right (And.right (by with_reducible assumption))))); (first | with_reducible assumption | (with_reducible apply off1_ne; with_reducible assumption; focus (((repeat (first | with_reducible exact List.mem_cons_self | with_reducible apply List.mem_cons_of_mem)); (all_goals fail)))) | (with_reducible apply Ne.symm; with_reducible apply off1_ne; with_reducible assumption; focus (((repeat (first | with_reducible exact List.mem_cons_self | with_reducible apply List.mem_cons_of_mem)); (all_goals fail)))) | (with_reducible apply off3_neI; with_reducible assumption; focus (((repeat (first | with_reducible exact List.mem_cons_self | with_reducible apply List.mem_cons_of_mem)); (all_goals fail)))) | (with_reducible apply off3_neC; with_reducible assumption; focus (((repeat (first | with_reducible exact List.mem_cons_self | with_reducible apply List.mem_cons_of_mem)); (all_goals fail)))) | (with_reducible apply off3_neD; with_reducible assumption; focus (((repeat (first | with_reducible exact List.mem_cons_self | with_reducible apply List.mem_cons_of_mem)); (all_goals fail)))) | with_reducible exact Ne.symm (And.left (by with_reducible assumption)) | with_reducible exact Ne.symm (And.left (And.right (by with_reducible assumption))) | with_reducible exact Nat.ne_of_gt (And.left (by with_reducible assumption)) | with_reducible exact Nat.ne_of_gt (And.left (And.right (by with_reducible assumption))) | with_reducible exact Nat.ne_of_gt (And.left (And.right (And.right (by with_reducible assumption)))))) | with_reducible apply RestS.dropOne | with_reducible exact RestS.drop)) ?_ ?_); (clear lF' lN' hR'; intro i op' oq' f' v hh tk own hi hP' hoff F' N'; simp only [List.map_cons, List.map_nil, lkpo] at F'; simp only [List.cons_append, List.nil_append] at N'); rotate_left; (clear lF' lN' hR'; intro op' oq' f' u hh tk hP' F' N'; skip; simp only [List.map_cons, List.map_nil, lkpo] at F'); rotate_right)))
  k_with "call ref" => (k_here; (with_reducible show wpAny _ _ (call (Value.ref 87) [Value.str (Str.ofString "MacExpertEncoding") _]) _ _ _); k_dflt (refine' use_raise (c_base_bad _ _) (by k_asm) (by k_asm) (by k_asm) (by k_asm) (by first | rfl | assumption) (by exact room_d (by with_reducible assumption) (by decide)) (by exact room_u (by with_reducible assumption) (by decide)) ?_); intro e' h' tk' R' U')
  k_with "exec Try" => (k_here; (with_reducible show wpAny _ _ (exec (Stmt.Try _ (_ :: _) _ [] _) _) _ _ _); refine wpAny_Try_except ?_)
  k_with "noteFrame ref" => (k_here; (rename RaisedF _ _ _ _ _ => rfX); k_dflt (refine' caught_X (by exact rfX) (by k_asm) (by k_asm) (by k_asm) (by assumption) (by assumption) (by assumption) (by k_is) ?_); clear rfX; intro h' g' T' F' N' K' X' P'; (try k_lift K'))
  k_steps
  all_goals first
    | exact ⟨rfl, _, rfl⟩
    | exact part_turn (by k_asm) (by k_asm) rfl (by with_reducible assumption) (by with_reducible assumption) (List.forall_mem_cons.mpr ⟨off1_ne (by with_reducible assumption) (by repeat (first | exact List.Mem.head _ | apply List.Mem.tail)), List.forall_mem_cons.mpr ⟨off1_ne (by with_reducible assumption) (by repeat (first | exact List.Mem.head _ | apply List.Mem.tail)), List.forall_mem_cons.mpr ⟨off1_ne (by with_reducible assumption) (by repeat (first | exact List.Mem.head _ | apply List.Mem.tail)), List.forall_mem_nil _⟩⟩⟩) (off1_ne (by with_reducible assumption) (by repeat (first | exact List.Mem.head _ | apply List.Mem.tail))) (off1_ne (by with_reducible assumption) (by repeat (first | exact List.Mem.head _ | apply List.Mem.tail)))
    | (exfalso; exact ne_self (by with_reducible assumption))
    | (exfalso; exact no_due0 (by with_reducible assumption) (by with_reducible assumption))
    | (exfalso; exact no_due1 (by with_reducible assumption) (by with_reducible assumption))
    | (exfalso; exact no_empty (by with_reducible assumption) (by with_reducible assumption) (by with_reducible assumption))
    | (refine pot_end (by k_asm) (by k_asm) (by k_mem) (by k_mem) (IsPot.mono (by with_reducible assumption) (by omega)) ?hre (fun c hc => by repeat (first | with_reducible assumption | with_reducible apply List.mem_cons_of_mem)) rfl ?hm
       case hre => ((repeat (refine List.forall_mem_cons.mpr ⟨by ((repeat (first | with_reducible exact List.mem_cons_self | with_reducible apply List.mem_cons_of_mem)); (all_goals fail)), ?_⟩)); exact List.forall_mem_nil _)
       case hm => (intro z hz hn; have h1 : ¬ z = Str.ofString "code" := fun e => hn (by rw [e]; exact List.mem_cons_self); first | (have h2 : ¬ z = Str.ofString "due" := fun e => hn (by rw [e]; exact List.mem_cons_of_mem _ List.mem_cons_self); simp only [if_neg hz, if_neg h1, if_neg h2] <;> rfl) | (simp only [if_neg hz, if_neg h1] <;> rfl)))
    | (rename KtsTurn _ _ _ => kt; exact hret _ _ (fun b o e => Fr.keep (by k_asm) b o (kt.other b o e (by simp))))
end Mine
end

section
open PySem PySem.W PyProof.Rows PySem.Calls PySem.Spec
set_option Elab.async false
set_option maxRecDepth 100000
set_option maxHeartbeats 0
namespace Mine
theorem law_end {c : ClaimW} {cl : Str → Option Addr} {mean : ExcName → Option Value} {args : List WData} {s : Shared} {h' : Heap} {tk : Nat} (k : Keeps s.heap h') (hg : s.gens = #[]) (hn : ∀ x, c.raises args x = false) (hp : c.post args (.bool true) args = true) :
    GoodWG c cl mean args s (.ok (.ret (.bool true))) { s with heap := h', toks := tk } :=
  GoodW.toG ⟨.inl ⟨_, .bool true, [], rfl, hn, .bool true, hp, fun _ => ⟨.nil, fun _ ha => nomatch ha⟩⟩, k, rfl, hg⟩
theorem holds : PySem.Challenge.rw_nn0198_01.Holds := by
  w_on
  refine holds_law Mine.said fun sd => ?_
  refine holds_open (q := Mine.viewQ) (loose := [Str.ofString "PaperError", Str.ofString "OTHER_CODES"]) (Xt := fun s => xlAt Mine.viewQ [] s && recOk (RowW.records (OpenRow.toRowW PySem.Challenge.rw_nn0198_01.row)) s) (XP := XL Mine.viewQ []) (Yf := Hook.obs (kHook Mine.fr.heap_1 Mine.addrs (fun _ => by kernel_rfl))) (Ya := Hook.val (kHook Mine.fr.heap_1 Mine.addrs (fun _ => by kernel_rfl))) (YP := Hook.says (kHook Mine.fr.heap_1 Mine.addrs (fun _ => by kernel_rfl))) (N := 4316) Mine.left (Hook.of (kHook Mine.fr.heap_1 Mine.addrs (fun _ => by kernel_rfl))) (Hook.keeps (kHook Mine.fr.heap_1 Mine.addrs (fun _ => by kernel_rfl))) (fun s e => xl_of s (Bool.and_eq_true_iff.mp e).1) XL.keeps (by rfl) (by rfl) (by rfl) (fun s e => recFacts_of (Bool.and_eq_true_iff.mp e).2) (by rfl) (by assumption) (by decide +kernel) ⟨rfl, rfl, rfl, rfl, rfl, by decide +kernel⟩ ?hw ?hc
  case hw => w_witness2
  clear sd
  k_fill
  intro w s₀ s₁ mg mb G Y fa o pm cd doc dV kV ho hd hcd hD hmg hg args vals as hpre hlay hrd hwl hlo
  have KX := kIn_of Y
  refine Ground.open G ?_
  intro T B D TE TW
  try (refine guard_noD D (by decide +kernel) ?_; clear D)
  have efa : fa = 224 := by
    have e1 := mg_of (n := Str.ofString "law") (v := .ref 224) KX T.g (by kernel_rfl)
    exact (Value.ref.inj (Option.some.inj (e1.symm.trans hmg))).symm
  subst efa
  clear ho hd hcd hD hmg
  wrow_args hpre hlay hrd hwl hlo
  rename IntsAre _ _ => hI
  rename Heap.IsList _ _ _ => hL
  rename ¬ _ < _ => hc
  refine c_law w _ _ _ hI (by omega) _ _ _ s₁ _ mg mb _ _ KX T hL (fun h2 tk2 k => law_end k hg (fun _ => rfl) (by kernel_rfl)) (by decide +kernel) (by decide +kernel)
end Mine
end

set_option maxRecDepth 100000 in
set_option maxHeartbeats 8000000 in
theorem PySem.Challenge.cw_nn0198_01_holds : PySem.Challenge.rw_nn0198_01.Holds :=
  Mine.holds
