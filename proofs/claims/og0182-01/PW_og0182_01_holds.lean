import PyProof.Rows.All
import Wide.All
import OpenK.AllK
import Wide.FinOn
import PySem.Challenge.RW_og0182_01
set_option Elab.async false
set_option maxRecDepth 100000
set_option linter.unusedVariables false
set_option linter.unusedSimpArgs false
set_option compiler.extract_closed false
section
set_option linter.unusedVariables false
namespace Og
open PySem PySem.W PyProof.Rows PySem.Calls
-- all noncomputable: no code is wanted
-- THE HEAD BY HAND. The written part KK: the objects of the top that the walk needs; bodies are places in the given program, brought to their literal form by «whnf»
noncomputable def stmtAt : List Stmt → Nat → Stmt
  | [], _ => .Pass ⟨0, 0, 0, 0⟩
  | s :: _, 0 => s
  | _ :: r, n + 1 => stmtAt r n
noncomputable def inClass : Stmt → Nat → Stmt
  | .ClassDef _ _ _ body _ _ _ _ _ _ _, n => stmtAt body n
  | s, _ => s
noncomputable def asgStr : Stmt → Str
  | .Assign _ (.Constant (.str s) _ _) _ => s
  | _ => Str.empty
noncomputable abbrev pE : Program := PySem.Challenge.rw_og0182_01.row.toRowW.prog
noncomputable def fnO (st : Stmt) (qual : String) (m cd : Value) : Obj := match st with
  | .FunctionDef name params body _ _ _ scope _ _ _ => ⟨.type "function", none, .func { name := name, qualname := Str.ofString qual, params := params, body := .stmts body, scope := scope, globals := 3, closure := [], defaults := .none, kwdefaults := .none, pyModule := m, code := cd }, #[]⟩
  | _ => ⟨.none, none, .plain, #[]⟩
noncomputable abbrev vs (x : String) (t : Tok) : Value := .str (Str.ofString x) t
noncomputable abbrev E (P : Params) (x : String) (t : Tok) (v : Value) : DictEntry := ⟨PyData.keyHash P (Str.ofString x), .str (Str.ofString x) t, v⟩
noncomputable def s19 : Str := by
  refine (?f : (x : Str) → asgStr (stmtAt pE.main.body 19) = x → Str) ?x ?h
  case f => exact fun x _ => x
  case h => conv => { lhs; conv => { arg 1; whnf }; dsimp only [asgStr] }
noncomputable def s27 : Str := by
  refine (?f : (x : Str) → asgStr (stmtAt pE.main.body 27) = x → Str) ?x ?h
  case f => exact fun x _ => x
  case h => conv => { lhs; conv => { arg 1; whnf }; dsimp only [asgStr] }
noncomputable def s28 : Str := by
  refine (?f : (x : Str) → asgStr (stmtAt pE.main.body 28) = x → Str) ?x ?h
  case f => exact fun x _ => x
  case h => conv => { lhs; conv => { arg 1; whnf }; dsimp only [asgStr] }
noncomputable def s29 : Str := by
  refine (?f : (x : Str) → asgStr (stmtAt pE.main.body 29) = x → Str) ?x ?h
  case f => exact fun x _ => x
  case h => conv => { lhs; conv => { arg 1; whnf }; dsimp only [asgStr] }
noncomputable def s30 : Str := by
  refine (?f : (x : Str) → asgStr (stmtAt pE.main.body 30) = x → Str) ?x ?h
  case f => exact fun x _ => x
  case h => conv => { lhs; conv => { arg 1; whnf }; dsimp only [asgStr] }
-- the names of the given program in a table, and the table as numbers: what is written over the second has no twin
noncomputable def pick {α : Type} (d : α) (l : List α) : Nat → α := List.rec (motive := fun _ => Nat → α) (fun _ => d) (fun x _ ih k => Nat.rec (motive := fun _ => α) x (fun j _ => ih j) k) l
noncomputable def pick2 {α : Type} (d : α) (l : List (List α)) (k : Nat) : α := pick d (pick [] l (Nat.div k 16)) (Nat.mod k 16)
theorem pick_map {α β : Type} (f : α → β) (d : α) : ∀ (l : List α) (k : Nat), pick (f d) (l.map f) k = f (pick d l k)
  | [], _ => rfl
  | _ :: _, 0 => rfl
  | _ :: l, k + 1 => pick_map f d l k
theorem pick2_map {α β : Type} (f : α → β) (d : α) (l : List (List α)) (k : Nat) : pick2 (f d) (l.map (List.map f)) k = f (pick2 d l k) := by
  unfold pick2
  rw [show pick ([] : List β) (l.map (List.map f)) (Nat.div k 16) = (pick [] l (Nat.div k 16)).map f from pick_map (List.map f) [] l _]
  exact pick_map f d _ _
noncomputable def mkS (l : List Nat) : Str := Str.mk (Array.mk l)
noncomputable def ofN (l : List Nat) : Str := Str.ofString (String.ofList (l.map Char.ofNat))
noncomputable def rowsO : List (List Str) := [[Str.ofString "", Str.ofString " ", Str.ofString "-", Str.ofString ".", Str.ofString ".0", Str.ofString "0", Str.ofString "0123456789ABCDEF", Str.ofString "CMap", Str.ofString "Decimal", Str.ofString "Euro", Str.ofString "Exception", Str.ofString "Font", Str.ofString "FontFault", Str.ofString "Glyph", Str.ofString "HEX_SIGNS", Str.ofString "HIGH_NAMES"], [Str.ofString "LATIN_NAMES", Str.ofString "LOW_NAMES", Str.ofString "Lslash", Str.ofString "MIDDLE_NAMES", Str.ofString "MOST_CODE", Str.ofString "MOST_LENGTH", Str.ofString "Matrix", Str.ofString "OE", Str.ofString "OTHER_CODES", Str.ofString "PaperError", Str.ofString "SURROGATES", Str.ofString "Scaron", Str.ofString "TL", Str.ofString "Tc", Str.ofString "TextState", Str.ofString "Ts"], [Str.ofString "Tw", Str.ofString "Tz", Str.ofString "Ydieresis", Str.ofString "Zcaron", Str.ofString "_", Str.ofString "__init__", Str.ofString "__name__", Str.ofString "_law_draw", Str.ofString "_law_font", Str.ofString "_law_onto", Str.ofString "_law_whole", Str.ofString "_wall", Str.ofString "a", Str.ofString "abs", Str.ofString "advance", Str.ofString "ahead"], [Str.ofString "all", Str.ofString "along", Str.ofString "append", Str.ofString "applied", Str.ofString "ascii_names", Str.ofString "at", Str.ofString "at_one_scale", Str.ofString "b", Str.ofString "bare", Str.ofString "bool", Str.ofString "breve", Str.ofString "bullet", Str.ofString "bytes", Str.ofString "c", Str.ofString "capitals", Str.ofString "caron"], [Str.ofString "cells", Str.ofString "chars", Str.ofString "chr", Str.ofString "cid_of", Str.ofString "circumflex", Str.ofString "cmap", Str.ofString "code", Str.ofString "code_octets", Str.ofString "code_of", Str.ofString "codes", Str.ofString "compared", Str.ofString "copied", Str.ofString "ctm", Str.ofString "cut", Str.ofString "cutting", Str.ofString "d"], [Str.ofString "dagger", Str.ofString "daggerdbl", Str.ofString "decimal_of", Str.ofString "default", Str.ofString "divide", Str.ofString "dotaccent", Str.ofString "dotlessi", Str.ofString "e", Str.ofString "ellipsis", Str.ofString "emdash", Str.ofString "endash", Str.ofString "f", Str.ofString "factor", Str.ofString "fast", Str.ofString "fi", Str.ofString "first"], [Str.ofString "fitted", Str.ofString "fitting", Str.ofString "fl", Str.ofString "floor", Str.ofString "florin", Str.ofString "font", Str.ofString "found", Str.ofString "fraction", Str.ofString "glyph", Str.ofString "glyph_text", Str.ofString "gone", Str.ofString "guilsinglleft", Str.ofString "guilsinglright", Str.ofString "hex_number", Str.ofString "high", Str.ofString "highs"], [Str.ofString "hungarumlaut", Str.ofString "index", Str.ofString "int", Str.ofString "is_sign_code", Str.ofString "is_whole", Str.ofString "isinstance", Str.ofString "join", Str.ofString "k", Str.ofString "key", Str.ofString "known_code", Str.ofString "last", Str.ofString "latin_names", Str.ofString "law", Str.ofString "law_og0182_01", Str.ofString "least_text", Str.ofString "len"], [Str.ofString "length", Str.ofString "limit", Str.ofString "list", Str.ofString "low", Str.ofString "lower", Str.ofString "lows", Str.ofString "lslash", Str.ofString "many", Str.ofString "max", Str.ofString "min", Str.ofString "minus", Str.ofString "most", Str.ofString "name", Str.ofString "names", Str.ofString "negated", Str.ofString "next_length"], [Str.ofString "number", Str.ofString "numerals", Str.ofString "octet", Str.ofString "octets", Str.ofString "oe", Str.ofString "ogonek", Str.ofString "one", Str.ofString "onto", Str.ofString "other", Str.ofString "page", Str.ofString "pair", Str.ofString "paperhold.cmaps", Str.ofString "paperhold.decimals", Str.ofString "paperhold.encodings", Str.ofString "paperhold.errors", Str.ofString "paperhold.fonts"], [Str.ofString "paperhold.matrix", Str.ofString "paperhold.textout", Str.ofString "part", Str.ofString "part_text", Str.ofString "parts", Str.ofString "perthousand", Str.ofString "place", Str.ofString "places", Str.ofString "plus", Str.ofString "point", Str.ofString "quotedblbase", Str.ofString "quotedblleft", Str.ofString "quotedblright", Str.ofString "quoteleft", Str.ofString "quoteright", Str.ofString "quotesinglbase"], [Str.ofString "range", Str.ofString "ranked", Str.ofString "right", Str.ofString "ring", Str.ofString "rise", Str.ofString "rounded", Str.ofString "rows", Str.ofString "scaron", Str.ofString "script", Str.ofString "second", Str.ofString "self", Str.ofString "shifted", Str.ofString "shown_glyphs", Str.ofString "sign", Str.ofString "sign_text", Str.ofString "signs"], [Str.ofString "six", Str.ofString "size", Str.ofString "smalls", Str.ofString "sorted", Str.ofString "space", Str.ofString "spaces", Str.ofString "spacing", Str.ofString "split", Str.ofString "split_codes", Str.ofString "standard", Str.ofString "standard_width", Str.ofString "state", Str.ofString "str", Str.ofString "stretched", Str.ofString "tape", Str.ofString "text"], [Str.ofString "text is shown without a font", Str.ofString "this is no number", Str.ofString "tilde", Str.ofString "times", Str.ofString "told", Str.ofString "top", Str.ofString "trademark", Str.ofString "tuple", Str.ofString "two", Str.ofString "u", Str.ofString "uni", Str.ofString "unicode", Str.ofString "unit", Str.ofString "up", Str.ofString "value", Str.ofString "way"], [Str.ofString "what", Str.ofString "whole", Str.ofString "whole_row", Str.ofString "width", Str.ofString "width_in", Str.ofString "widths", Str.ofString "word", Str.ofString "worth", Str.ofString "x", Str.ofString "y", Str.ofString "ydieresis", Str.ofString "zcaron", Str.ofString "type.__subclasses__.Exception.0", Str.ofString "type.__subclasses__.Exception.n", Str.ofString "__doc__", Str.ofString "__package__"], [Str.ofString "__loader__", Str.ofString "__spec__", Str.ofString "__annotations__", Str.ofString "__builtins__", Str.ofString "__file__", Str.ofString "__cached__", Str.ofString "/claim/cut.py", Str.ofString "Decimal.__init__", Str.ofString "Decimal.plus", Str.ofString "Decimal.times", Str.ofString "Decimal.told", Str.ofString "__module__", Str.ofString "__firstlineno__", Str.ofString "__static_attributes__", Str.ofString "__dict__", Str.ofString "__weakref__"], [Str.ofString "Matrix.__init__", Str.ofString "Matrix.times", Str.ofString "Matrix.applied", Str.ofString "Matrix.shifted", Str.ofString "Glyph.__init__", Str.ofString "Glyph.told", Str.ofString "TextState.__init__", Str.ofString "TextState.stretched", Str.ofString "CMap.__init__", Str.ofString "Font.__init__", Str.ofString "Font.codes", Str.ofString "Font.width", Str.ofString "Font.text"]]
noncomputable def rowsN : List (List (List Nat)) := [[[], [nat_lit 32], [nat_lit 45], [nat_lit 46], [nat_lit 46, nat_lit 48], [nat_lit 48], [nat_lit 48, nat_lit 49, nat_lit 50, nat_lit 51, nat_lit 52, nat_lit 53, nat_lit 54, nat_lit 55, nat_lit 56, nat_lit 57, nat_lit 65, nat_lit 66, nat_lit 67, nat_lit 68, nat_lit 69, nat_lit 70], [nat_lit 67, nat_lit 77, nat_lit 97, nat_lit 112], [nat_lit 68, nat_lit 101, nat_lit 99, nat_lit 105, nat_lit 109, nat_lit 97, nat_lit 108], [nat_lit 69, nat_lit 117, nat_lit 114, nat_lit 111], [nat_lit 69, nat_lit 120, nat_lit 99, nat_lit 101, nat_lit 112, nat_lit 116, nat_lit 105, nat_lit 111, nat_lit 110], [nat_lit 70, nat_lit 111, nat_lit 110, nat_lit 116], [nat_lit 70, nat_lit 111, nat_lit 110, nat_lit 116, nat_lit 70, nat_lit 97, nat_lit 117, nat_lit 108, nat_lit 116], [nat_lit 71, nat_lit 108, nat_lit 121, nat_lit 112, nat_lit 104], [nat_lit 72, nat_lit 69, nat_lit 88, nat_lit 95, nat_lit 83, nat_lit 73, nat_lit 71, nat_lit 78, nat_lit 83], [nat_lit 72, nat_lit 73, nat_lit 71, nat_lit 72, nat_lit 95, nat_lit 78, nat_lit 65, nat_lit 77, nat_lit 69, nat_lit 83]], [[nat_lit 76, nat_lit 65, nat_lit 84, nat_lit 73, nat_lit 78, nat_lit 95, nat_lit 78, nat_lit 65, nat_lit 77, nat_lit 69, nat_lit 83], [nat_lit 76, nat_lit 79, nat_lit 87, nat_lit 95, nat_lit 78, nat_lit 65, nat_lit 77, nat_lit 69, nat_lit 83], [nat_lit 76, nat_lit 115, nat_lit 108, nat_lit 97, nat_lit 115, nat_lit 104], [nat_lit 77, nat_lit 73, nat_lit 68, nat_lit 68, nat_lit 76, nat_lit 69, nat_lit 95, nat_lit 78, nat_lit 65, nat_lit 77, nat_lit 69, nat_lit 83], [nat_lit 77, nat_lit 79, nat_lit 83, nat_lit 84, nat_lit 95, nat_lit 67, nat_lit 79, nat_lit 68, nat_lit 69], [nat_lit 77, nat_lit 79, nat_lit 83, nat_lit 84, nat_lit 95, nat_lit 76, nat_lit 69, nat_lit 78, nat_lit 71, nat_lit 84, nat_lit 72], [nat_lit 77, nat_lit 97, nat_lit 116, nat_lit 114, nat_lit 105, nat_lit 120], [nat_lit 79, nat_lit 69], [nat_lit 79, nat_lit 84, nat_lit 72, nat_lit 69, nat_lit 82, nat_lit 95, nat_lit 67, nat_lit 79, nat_lit 68, nat_lit 69, nat_lit 83], [nat_lit 80, nat_lit 97, nat_lit 112, nat_lit 101, nat_lit 114, nat_lit 69, nat_lit 114, nat_lit 114, nat_lit 111, nat_lit 114], [nat_lit 83, nat_lit 85, nat_lit 82, nat_lit 82, nat_lit 79, nat_lit 71, nat_lit 65, nat_lit 84, nat_lit 69, nat_lit 83], [nat_lit 83, nat_lit 99, nat_lit 97, nat_lit 114, nat_lit 111, nat_lit 110], [nat_lit 84, nat_lit 76], [nat_lit 84, nat_lit 99], [nat_lit 84, nat_lit 101, nat_lit 120, nat_lit 116, nat_lit 83, nat_lit 116, nat_lit 97, nat_lit 116, nat_lit 101], [nat_lit 84, nat_lit 115]], [[nat_lit 84, nat_lit 119], [nat_lit 84, nat_lit 122], [nat_lit 89, nat_lit 100, nat_lit 105, nat_lit 101, nat_lit 114, nat_lit 101, nat_lit 115, nat_lit 105, nat_lit 115], [nat_lit 90, nat_lit 99, nat_lit 97, nat_lit 114, nat_lit 111, nat_lit 110], [nat_lit 95], [nat_lit 95, nat_lit 95, nat_lit 105, nat_lit 110, nat_lit 105, nat_lit 116, nat_lit 95, nat_lit 95], [nat_lit 95, nat_lit 95, nat_lit 110, nat_lit 97, nat_lit 109, nat_lit 101, nat_lit 95, nat_lit 95], [nat_lit 95, nat_lit 108, nat_lit 97, nat_lit 119, nat_lit 95, nat_lit 100, nat_lit 114, nat_lit 97, nat_lit 119], [nat_lit 95, nat_lit 108, nat_lit 97, nat_lit 119, nat_lit 95, nat_lit 102, nat_lit 111, nat_lit 110, nat_lit 116], [nat_lit 95, nat_lit 108, nat_lit 97, nat_lit 119, nat_lit 95, nat_lit 111, nat_lit 110, nat_lit 116, nat_lit 111], [nat_lit 95, nat_lit 108, nat_lit 97, nat_lit 119, nat_lit 95, nat_lit 119, nat_lit 104, nat_lit 111, nat_lit 108, nat_lit 101], [nat_lit 95, nat_lit 119, nat_lit 97, nat_lit 108, nat_lit 108], [nat_lit 97], [nat_lit 97, nat_lit 98, nat_lit 115], [nat_lit 97, nat_lit 100, nat_lit 118, nat_lit 97, nat_lit 110, nat_lit 99, nat_lit 101], [nat_lit 97, nat_lit 104, nat_lit 101, nat_lit 97, nat_lit 100]], [[nat_lit 97, nat_lit 108, nat_lit 108], [nat_lit 97, nat_lit 108, nat_lit 111, nat_lit 110, nat_lit 103], [nat_lit 97, nat_lit 112, nat_lit 112, nat_lit 101, nat_lit 110, nat_lit 100], [nat_lit 97, nat_lit 112, nat_lit 112, nat_lit 108, nat_lit 105, nat_lit 101, nat_lit 100], [nat_lit 97, nat_lit 115, nat_lit 99, nat_lit 105, nat_lit 105, nat_lit 95, nat_lit 110, nat_lit 97, nat_lit 109, nat_lit 101, nat_lit 115], [nat_lit 97, nat_lit 116], [nat_lit 97, nat_lit 116, nat_lit 95, nat_lit 111, nat_lit 110, nat_lit 101, nat_lit 95, nat_lit 115, nat_lit 99, nat_lit 97, nat_lit 108, nat_lit 101], [nat_lit 98], [nat_lit 98, nat_lit 97, nat_lit 114, nat_lit 101], [nat_lit 98, nat_lit 111, nat_lit 111, nat_lit 108], [nat_lit 98, nat_lit 114, nat_lit 101, nat_lit 118, nat_lit 101], [nat_lit 98, nat_lit 117, nat_lit 108, nat_lit 108, nat_lit 101, nat_lit 116], [nat_lit 98, nat_lit 121, nat_lit 116, nat_lit 101, nat_lit 115], [nat_lit 99], [nat_lit 99, nat_lit 97, nat_lit 112, nat_lit 105, nat_lit 116, nat_lit 97, nat_lit 108, nat_lit 115], [nat_lit 99, nat_lit 97, nat_lit 114, nat_lit 111, nat_lit 110]], [[nat_lit 99, nat_lit 101, nat_lit 108, nat_lit 108, nat_lit 115], [nat_lit 99, nat_lit 104, nat_lit 97, nat_lit 114, nat_lit 115], [nat_lit 99, nat_lit 104, nat_lit 114], [nat_lit 99, nat_lit 105, nat_lit 100, nat_lit 95, nat_lit 111, nat_lit 102], [nat_lit 99, nat_lit 105, nat_lit 114, nat_lit 99, nat_lit 117, nat_lit 109, nat_lit 102, nat_lit 108, nat_lit 101, nat_lit 120], [nat_lit 99, nat_lit 109, nat_lit 97, nat_lit 112], [nat_lit 99, nat_lit 111, nat_lit 100, nat_lit 101], [nat_lit 99, nat_lit 111, nat_lit 100, nat_lit 101, nat_lit 95, nat_lit 111, nat_lit 99, nat_lit 116, nat_lit 101, nat_lit 116, nat_lit 115], [nat_lit 99, nat_lit 111, nat_lit 100, nat_lit 101, nat_lit 95, nat_lit 111, nat_lit 102], [nat_lit 99, nat_lit 111, nat_lit 100, nat_lit 101, nat_lit 115], [nat_lit 99, nat_lit 111, nat_lit 109, nat_lit 112, nat_lit 97, nat_lit 114, nat_lit 101, nat_lit 100], [nat_lit 99, nat_lit 111, nat_lit 112, nat_lit 105, nat_lit 101, nat_lit 100], [nat_lit 99, nat_lit 116, nat_lit 109], [nat_lit 99, nat_lit 117, nat_lit 116], [nat_lit 99, nat_lit 117, nat_lit 116, nat_lit 116, nat_lit 105, nat_lit 110, nat_lit 103], [nat_lit 100]], [[nat_lit 100, nat_lit 97, nat_lit 103, nat_lit 103, nat_lit 101, nat_lit 114], [nat_lit 100, nat_lit 97, nat_lit 103, nat_lit 103, nat_lit 101, nat_lit 114, nat_lit 100, nat_lit 98, nat_lit 108], [nat_lit 100, nat_lit 101, nat_lit 99, nat_lit 105, nat_lit 109, nat_lit 97, nat_lit 108, nat_lit 95, nat_lit 111, nat_lit 102], [nat_lit 100, nat_lit 101, nat_lit 102, nat_lit 97, nat_lit 117, nat_lit 108, nat_lit 116], [nat_lit 100, nat_lit 105, nat_lit 118, nat_lit 105, nat_lit 100, nat_lit 101], [nat_lit 100, nat_lit 111, nat_lit 116, nat_lit 97, nat_lit 99, nat_lit 99, nat_lit 101, nat_lit 110, nat_lit 116], [nat_lit 100, nat_lit 111, nat_lit 116, nat_lit 108, nat_lit 101, nat_lit 115, nat_lit 115, nat_lit 105], [nat_lit 101], [nat_lit 101, nat_lit 108, nat_lit 108, nat_lit 105, nat_lit 112, nat_lit 115, nat_lit 105, nat_lit 115], [nat_lit 101, nat_lit 109, nat_lit 100, nat_lit 97, nat_lit 115, nat_lit 104], [nat_lit 101, nat_lit 110, nat_lit 100, nat_lit 97, nat_lit 115, nat_lit 104], [nat_lit 102], [nat_lit 102, nat_lit 97, nat_lit 99, nat_lit 116, nat_lit 111, nat_lit 114], [nat_lit 102, nat_lit 97, nat_lit 115, nat_lit 116], [nat_lit 102, nat_lit 105], [nat_lit 102, nat_lit 105, nat_lit 114, nat_lit 115, nat_lit 116]], [[nat_lit 102, nat_lit 105, nat_lit 116, nat_lit 116, nat_lit 101, nat_lit 100], [nat_lit 102, nat_lit 105, nat_lit 116, nat_lit 116, nat_lit 105, nat_lit 110, nat_lit 103], [nat_lit 102, nat_lit 108], [nat_lit 102, nat_lit 108, nat_lit 111, nat_lit 111, nat_lit 114], [nat_lit 102, nat_lit 108, nat_lit 111, nat_lit 114, nat_lit 105, nat_lit 110], [nat_lit 102, nat_lit 111, nat_lit 110, nat_lit 116], [nat_lit 102, nat_lit 111, nat_lit 117, nat_lit 110, nat_lit 100], [nat_lit 102, nat_lit 114, nat_lit 97, nat_lit 99, nat_lit 116, nat_lit 105, nat_lit 111, nat_lit 110], [nat_lit 103, nat_lit 108, nat_lit 121, nat_lit 112, nat_lit 104], [nat_lit 103, nat_lit 108, nat_lit 121, nat_lit 112, nat_lit 104, nat_lit 95, nat_lit 116, nat_lit 101, nat_lit 120, nat_lit 116], [nat_lit 103, nat_lit 111, nat_lit 110, nat_lit 101], [nat_lit 103, nat_lit 117, nat_lit 105, nat_lit 108, nat_lit 115, nat_lit 105, nat_lit 110, nat_lit 103, nat_lit 108, nat_lit 108, nat_lit 101, nat_lit 102, nat_lit 116], [nat_lit 103, nat_lit 117, nat_lit 105, nat_lit 108, nat_lit 115, nat_lit 105, nat_lit 110, nat_lit 103, nat_lit 108, nat_lit 114, nat_lit 105, nat_lit 103, nat_lit 104, nat_lit 116], [nat_lit 104, nat_lit 101, nat_lit 120, nat_lit 95, nat_lit 110, nat_lit 117, nat_lit 109, nat_lit 98, nat_lit 101, nat_lit 114], [nat_lit 104, nat_lit 105, nat_lit 103, nat_lit 104], [nat_lit 104, nat_lit 105, nat_lit 103, nat_lit 104, nat_lit 115]], [[nat_lit 104, nat_lit 117, nat_lit 110, nat_lit 103, nat_lit 97, nat_lit 114, nat_lit 117, nat_lit 109, nat_lit 108, nat_lit 97, nat_lit 117, nat_lit 116], [nat_lit 105, nat_lit 110, nat_lit 100, nat_lit 101, nat_lit 120], [nat_lit 105, nat_lit 110, nat_lit 116], [nat_lit 105, nat_lit 115, nat_lit 95, nat_lit 115, nat_lit 105, nat_lit 103, nat_lit 110, nat_lit 95, nat_lit 99, nat_lit 111, nat_lit 100, nat_lit 101], [nat_lit 105, nat_lit 115, nat_lit 95, nat_lit 119, nat_lit 104, nat_lit 111, nat_lit 108, nat_lit 101], [nat_lit 105, nat_lit 115, nat_lit 105, nat_lit 110, nat_lit 115, nat_lit 116, nat_lit 97, nat_lit 110, nat_lit 99, nat_lit 101], [nat_lit 106, nat_lit 111, nat_lit 105, nat_lit 110], [nat_lit 107], [nat_lit 107, nat_lit 101, nat_lit 121], [nat_lit 107, nat_lit 110, nat_lit 111, nat_lit 119, nat_lit 110, nat_lit 95, nat_lit 99, nat_lit 111, nat_lit 100, nat_lit 101], [nat_lit 108, nat_lit 97, nat_lit 115, nat_lit 116], [nat_lit 108, nat_lit 97, nat_lit 116, nat_lit 105, nat_lit 110, nat_lit 95, nat_lit 110, nat_lit 97, nat_lit 109, nat_lit 101, nat_lit 115], [nat_lit 108, nat_lit 97, nat_lit 119], [nat_lit 108, nat_lit 97, nat_lit 119, nat_lit 95, nat_lit 111, nat_lit 103, nat_lit 48, nat_lit 49, nat_lit 56, nat_lit 50, nat_lit 95, nat_lit 48, nat_lit 49], [nat_lit 108, nat_lit 101, nat_lit 97, nat_lit 115, nat_lit 116, nat_lit 95, nat_lit 116, nat_lit 101, nat_lit 120, nat_lit 116], [nat_lit 108, nat_lit 101, nat_lit 110]], [[nat_lit 108, nat_lit 101, nat_lit 110, nat_lit 103, nat_lit 116, nat_lit 104], [nat_lit 108, nat_lit 105, nat_lit 109, nat_lit 105, nat_lit 116], [nat_lit 108, nat_lit 105, nat_lit 115, nat_lit 116], [nat_lit 108, nat_lit 111, nat_lit 119], [nat_lit 108, nat_lit 111, nat_lit 119, nat_lit 101, nat_lit 114], [nat_lit 108, nat_lit 111, nat_lit 119, nat_lit 115], [nat_lit 108, nat_lit 115, nat_lit 108, nat_lit 97, nat_lit 115, nat_lit 104], [nat_lit 109, nat_lit 97, nat_lit 110, nat_lit 121], [nat_lit 109, nat_lit 97, nat_lit 120], [nat_lit 109, nat_lit 105, nat_lit 110], [nat_lit 109, nat_lit 105, nat_lit 110, nat_lit 117, nat_lit 115], [nat_lit 109, nat_lit 111, nat_lit 115, nat_lit 116], [nat_lit 110, nat_lit 97, nat_lit 109, nat_lit 101], [nat_lit 110, nat_lit 97, nat_lit 109, nat_lit 101, nat_lit 115], [nat_lit 110, nat_lit 101, nat_lit 103, nat_lit 97, nat_lit 116, nat_lit 101, nat_lit 100], [nat_lit 110, nat_lit 101, nat_lit 120, nat_lit 116, nat_lit 95, nat_lit 108, nat_lit 101, nat_lit 110, nat_lit 103, nat_lit 116, nat_lit 104]], [[nat_lit 110, nat_lit 117, nat_lit 109, nat_lit 98, nat_lit 101, nat_lit 114], [nat_lit 110, nat_lit 117, nat_lit 109, nat_lit 101, nat_lit 114, nat_lit 97, nat_lit 108, nat_lit 115], [nat_lit 111, nat_lit 99, nat_lit 116, nat_lit 101, nat_lit 116], [nat_lit 111, nat_lit 99, nat_lit 116, nat_lit 101, nat_lit 116, nat_lit 115], [nat_lit 111, nat_lit 101], [nat_lit 111, nat_lit 103, nat_lit 111, nat_lit 110, nat_lit 101, nat_lit 107], [nat_lit 111, nat_lit 110, nat_lit 101], [nat_lit 111, nat_lit 110, nat_lit 116, nat_lit 111], [nat_lit 111, nat_lit 116, nat_lit 104, nat_lit 101, nat_lit 114], [nat_lit 112, nat_lit 97, nat_lit 103, nat_lit 101], [nat_lit 112, nat_lit 97, nat_lit 105, nat_lit 114], [nat_lit 112, nat_lit 97, nat_lit 112, nat_lit 101, nat_lit 114, nat_lit 104, nat_lit 111, nat_lit 108, nat_lit 100, nat_lit 46, nat_lit 99, nat_lit 109, nat_lit 97, nat_lit 112, nat_lit 115], [nat_lit 112, nat_lit 97, nat_lit 112, nat_lit 101, nat_lit 114, nat_lit 104, nat_lit 111, nat_lit 108, nat_lit 100, nat_lit 46, nat_lit 100, nat_lit 101, nat_lit 99, nat_lit 105, nat_lit 109, nat_lit 97, nat_lit 108, nat_lit 115], [nat_lit 112, nat_lit 97, nat_lit 112, nat_lit 101, nat_lit 114, nat_lit 104, nat_lit 111, nat_lit 108, nat_lit 100, nat_lit 46, nat_lit 101, nat_lit 110, nat_lit 99, nat_lit 111, nat_lit 100, nat_lit 105, nat_lit 110, nat_lit 103, nat_lit 115], [nat_lit 112, nat_lit 97, nat_lit 112, nat_lit 101, nat_lit 114, nat_lit 104, nat_lit 111, nat_lit 108, nat_lit 100, nat_lit 46, nat_lit 101, nat_lit 114, nat_lit 114, nat_lit 111, nat_lit 114, nat_lit 115], [nat_lit 112, nat_lit 97, nat_lit 112, nat_lit 101, nat_lit 114, nat_lit 104, nat_lit 111, nat_lit 108, nat_lit 100, nat_lit 46, nat_lit 102, nat_lit 111, nat_lit 110, nat_lit 116, nat_lit 115]], [[nat_lit 112, nat_lit 97, nat_lit 112, nat_lit 101, nat_lit 114, nat_lit 104, nat_lit 111, nat_lit 108, nat_lit 100, nat_lit 46, nat_lit 109, nat_lit 97, nat_lit 116, nat_lit 114, nat_lit 105, nat_lit 120], [nat_lit 112, nat_lit 97, nat_lit 112, nat_lit 101, nat_lit 114, nat_lit 104, nat_lit 111, nat_lit 108, nat_lit 100, nat_lit 46, nat_lit 116, nat_lit 101, nat_lit 120, nat_lit 116, nat_lit 111, nat_lit 117, nat_lit 116], [nat_lit 112, nat_lit 97, nat_lit 114, nat_lit 116], [nat_lit 112, nat_lit 97, nat_lit 114, nat_lit 116, nat_lit 95, nat_lit 116, nat_lit 101, nat_lit 120, nat_lit 116], [nat_lit 112, nat_lit 97, nat_lit 114, nat_lit 116, nat_lit 115], [nat_lit 112, nat_lit 101, nat_lit 114, nat_lit 116, nat_lit 104, nat_lit 111, nat_lit 117, nat_lit 115, nat_lit 97, nat_lit 110, nat_lit 100], [nat_lit 112, nat_lit 108, nat_lit 97, nat_lit 99, nat_lit 101], [nat_lit 112, nat_lit 108, nat_lit 97, nat_lit 99, nat_lit 101, nat_lit 115], [nat_lit 112, nat_lit 108, nat_lit 117, nat_lit 115], [nat_lit 112, nat_lit 111, nat_lit 105, nat_lit 110, nat_lit 116], [nat_lit 113, nat_lit 117, nat_lit 111, nat_lit 116, nat_lit 101, nat_lit 100, nat_lit 98, nat_lit 108, nat_lit 98, nat_lit 97, nat_lit 115, nat_lit 101], [nat_lit 113, nat_lit 117, nat_lit 111, nat_lit 116, nat_lit 101, nat_lit 100, nat_lit 98, nat_lit 108, nat_lit 108, nat_lit 101, nat_lit 102, nat_lit 116], [nat_lit 113, nat_lit 117, nat_lit 111, nat_lit 116, nat_lit 101, nat_lit 100, nat_lit 98, nat_lit 108, nat_lit 114, nat_lit 105, nat_lit 103, nat_lit 104, nat_lit 116], [nat_lit 113, nat_lit 117, nat_lit 111, nat_lit 116, nat_lit 101, nat_lit 108, nat_lit 101, nat_lit 102, nat_lit 116], [nat_lit 113, nat_lit 117, nat_lit 111, nat_lit 116, nat_lit 101, nat_lit 114, nat_lit 105, nat_lit 103, nat_lit 104, nat_lit 116], [nat_lit 113, nat_lit 117, nat_lit 111, nat_lit 116, nat_lit 101, nat_lit 115, nat_lit 105, nat_lit 110, nat_lit 103, nat_lit 108, nat_lit 98, nat_lit 97, nat_lit 115, nat_lit 101]], [[nat_lit 114, nat_lit 97, nat_lit 110, nat_lit 103, nat_lit 101], [nat_lit 114, nat_lit 97, nat_lit 110, nat_lit 107, nat_lit 101, nat_lit 100], [nat_lit 114, nat_lit 105, nat_lit 103, nat_lit 104, nat_lit 116], [nat_lit 114, nat_lit 105, nat_lit 110, nat_lit 103], [nat_lit 114, nat_lit 105, nat_lit 115, nat_lit 101], [nat_lit 114, nat_lit 111, nat_lit 117, nat_lit 110, nat_lit 100, nat_lit 101, nat_lit 100], [nat_lit 114, nat_lit 111, nat_lit 119, nat_lit 115], [nat_lit 115, nat_lit 99, nat_lit 97, nat_lit 114, nat_lit 111, nat_lit 110], [nat_lit 115, nat_lit 99, nat_lit 114, nat_lit 105, nat_lit 112, nat_lit 116], [nat_lit 115, nat_lit 101, nat_lit 99, nat_lit 111, nat_lit 110, nat_lit 100], [nat_lit 115, nat_lit 101, nat_lit 108, nat_lit 102], [nat_lit 115, nat_lit 104, nat_lit 105, nat_lit 102, nat_lit 116, nat_lit 101, nat_lit 100], [nat_lit 115, nat_lit 104, nat_lit 111, nat_lit 119, nat_lit 110, nat_lit 95, nat_lit 103, nat_lit 108, nat_lit 121, nat_lit 112, nat_lit 104, nat_lit 115], [nat_lit 115, nat_lit 105, nat_lit 103, nat_lit 110], [nat_lit 115, nat_lit 105, nat_lit 103, nat_lit 110, nat_lit 95, nat_lit 116, nat_lit 101, nat_lit 120, nat_lit 116], [nat_lit 115, nat_lit 105, nat_lit 103, nat_lit 110, nat_lit 115]], [[nat_lit 115, nat_lit 105, nat_lit 120], [nat_lit 115, nat_lit 105, nat_lit 122, nat_lit 101], [nat_lit 115, nat_lit 109, nat_lit 97, nat_lit 108, nat_lit 108, nat_lit 115], [nat_lit 115, nat_lit 111, nat_lit 114, nat_lit 116, nat_lit 101, nat_lit 100], [nat_lit 115, nat_lit 112, nat_lit 97, nat_lit 99, nat_lit 101], [nat_lit 115, nat_lit 112, nat_lit 97, nat_lit 99, nat_lit 101, nat_lit 115], [nat_lit 115, nat_lit 112, nat_lit 97, nat_lit 99, nat_lit 105, nat_lit 110, nat_lit 103], [nat_lit 115, nat_lit 112, nat_lit 108, nat_lit 105, nat_lit 116], [nat_lit 115, nat_lit 112, nat_lit 108, nat_lit 105, nat_lit 116, nat_lit 95, nat_lit 99, nat_lit 111, nat_lit 100, nat_lit 101, nat_lit 115], [nat_lit 115, nat_lit 116, nat_lit 97, nat_lit 110, nat_lit 100, nat_lit 97, nat_lit 114, nat_lit 100], [nat_lit 115, nat_lit 116, nat_lit 97, nat_lit 110, nat_lit 100, nat_lit 97, nat_lit 114, nat_lit 100, nat_lit 95, nat_lit 119, nat_lit 105, nat_lit 100, nat_lit 116, nat_lit 104], [nat_lit 115, nat_lit 116, nat_lit 97, nat_lit 116, nat_lit 101], [nat_lit 115, nat_lit 116, nat_lit 114], [nat_lit 115, nat_lit 116, nat_lit 114, nat_lit 101, nat_lit 116, nat_lit 99, nat_lit 104, nat_lit 101, nat_lit 100], [nat_lit 116, nat_lit 97, nat_lit 112, nat_lit 101], [nat_lit 116, nat_lit 101, nat_lit 120, nat_lit 116]], [[nat_lit 116, nat_lit 101, nat_lit 120, nat_lit 116, nat_lit 32, nat_lit 105, nat_lit 115, nat_lit 32, nat_lit 115, nat_lit 104, nat_lit 111, nat_lit 119, nat_lit 110, nat_lit 32, nat_lit 119, nat_lit 105, nat_lit 116, nat_lit 104, nat_lit 111, nat_lit 117, nat_lit 116, nat_lit 32, nat_lit 97, nat_lit 32, nat_lit 102, nat_lit 111, nat_lit 110, nat_lit 116], [nat_lit 116, nat_lit 104, nat_lit 105, nat_lit 115, nat_lit 32, nat_lit 105, nat_lit 115, nat_lit 32, nat_lit 110, nat_lit 111, nat_lit 32, nat_lit 110, nat_lit 117, nat_lit 109, nat_lit 98, nat_lit 101, nat_lit 114], [nat_lit 116, nat_lit 105, nat_lit 108, nat_lit 100, nat_lit 101], [nat_lit 116, nat_lit 105, nat_lit 109, nat_lit 101, nat_lit 115], [nat_lit 116, nat_lit 111, nat_lit 108, nat_lit 100], [nat_lit 116, nat_lit 111, nat_lit 112], [nat_lit 116, nat_lit 114, nat_lit 97, nat_lit 100, nat_lit 101, nat_lit 109, nat_lit 97, nat_lit 114, nat_lit 107], [nat_lit 116, nat_lit 117, nat_lit 112, nat_lit 108, nat_lit 101], [nat_lit 116, nat_lit 119, nat_lit 111], [nat_lit 117], [nat_lit 117, nat_lit 110, nat_lit 105], [nat_lit 117, nat_lit 110, nat_lit 105, nat_lit 99, nat_lit 111, nat_lit 100, nat_lit 101], [nat_lit 117, nat_lit 110, nat_lit 105, nat_lit 116], [nat_lit 117, nat_lit 112], [nat_lit 118, nat_lit 97, nat_lit 108, nat_lit 117, nat_lit 101], [nat_lit 119, nat_lit 97, nat_lit 121]], [[nat_lit 119, nat_lit 104, nat_lit 97, nat_lit 116], [nat_lit 119, nat_lit 104, nat_lit 111, nat_lit 108, nat_lit 101], [nat_lit 119, nat_lit 104, nat_lit 111, nat_lit 108, nat_lit 101, nat_lit 95, nat_lit 114, nat_lit 111, nat_lit 119], [nat_lit 119, nat_lit 105, nat_lit 100, nat_lit 116, nat_lit 104], [nat_lit 119, nat_lit 105, nat_lit 100, nat_lit 116, nat_lit 104, nat_lit 95, nat_lit 105, nat_lit 110], [nat_lit 119, nat_lit 105, nat_lit 100, nat_lit 116, nat_lit 104, nat_lit 115], [nat_lit 119, nat_lit 111, nat_lit 114, nat_lit 100], [nat_lit 119, nat_lit 111, nat_lit 114, nat_lit 116, nat_lit 104], [nat_lit 120], [nat_lit 121], [nat_lit 121, nat_lit 100, nat_lit 105, nat_lit 101, nat_lit 114, nat_lit 101, nat_lit 115, nat_lit 105, nat_lit 115], [nat_lit 122, nat_lit 99, nat_lit 97, nat_lit 114, nat_lit 111, nat_lit 110], [nat_lit 116, nat_lit 121, nat_lit 112, nat_lit 101, nat_lit 46, nat_lit 95, nat_lit 95, nat_lit 115, nat_lit 117, nat_lit 98, nat_lit 99, nat_lit 108, nat_lit 97, nat_lit 115, nat_lit 115, nat_lit 101, nat_lit 115, nat_lit 95, nat_lit 95, nat_lit 46, nat_lit 69, nat_lit 120, nat_lit 99, nat_lit 101, nat_lit 112, nat_lit 116, nat_lit 105, nat_lit 111, nat_lit 110, nat_lit 46, nat_lit 48], [nat_lit 116, nat_lit 121, nat_lit 112, nat_lit 101, nat_lit 46, nat_lit 95, nat_lit 95, nat_lit 115, nat_lit 117, nat_lit 98, nat_lit 99, nat_lit 108, nat_lit 97, nat_lit 115, nat_lit 115, nat_lit 101, nat_lit 115, nat_lit 95, nat_lit 95, nat_lit 46, nat_lit 69, nat_lit 120, nat_lit 99, nat_lit 101, nat_lit 112, nat_lit 116, nat_lit 105, nat_lit 111, nat_lit 110, nat_lit 46, nat_lit 110], [nat_lit 95, nat_lit 95, nat_lit 100, nat_lit 111, nat_lit 99, nat_lit 95, nat_lit 95], [nat_lit 95, nat_lit 95, nat_lit 112, nat_lit 97, nat_lit 99, nat_lit 107, nat_lit 97, nat_lit 103, nat_lit 101, nat_lit 95, nat_lit 95]], [[nat_lit 95, nat_lit 95, nat_lit 108, nat_lit 111, nat_lit 97, nat_lit 100, nat_lit 101, nat_lit 114, nat_lit 95, nat_lit 95], [nat_lit 95, nat_lit 95, nat_lit 115, nat_lit 112, nat_lit 101, nat_lit 99, nat_lit 95, nat_lit 95], [nat_lit 95, nat_lit 95, nat_lit 97, nat_lit 110, nat_lit 110, nat_lit 111, nat_lit 116, nat_lit 97, nat_lit 116, nat_lit 105, nat_lit 111, nat_lit 110, nat_lit 115, nat_lit 95, nat_lit 95], [nat_lit 95, nat_lit 95, nat_lit 98, nat_lit 117, nat_lit 105, nat_lit 108, nat_lit 116, nat_lit 105, nat_lit 110, nat_lit 115, nat_lit 95, nat_lit 95], [nat_lit 95, nat_lit 95, nat_lit 102, nat_lit 105, nat_lit 108, nat_lit 101, nat_lit 95, nat_lit 95], [nat_lit 95, nat_lit 95, nat_lit 99, nat_lit 97, nat_lit 99, nat_lit 104, nat_lit 101, nat_lit 100, nat_lit 95, nat_lit 95], [nat_lit 47, nat_lit 99, nat_lit 108, nat_lit 97, nat_lit 105, nat_lit 109, nat_lit 47, nat_lit 99, nat_lit 117, nat_lit 116, nat_lit 46, nat_lit 112, nat_lit 121], [nat_lit 68, nat_lit 101, nat_lit 99, nat_lit 105, nat_lit 109, nat_lit 97, nat_lit 108, nat_lit 46, nat_lit 95, nat_lit 95, nat_lit 105, nat_lit 110, nat_lit 105, nat_lit 116, nat_lit 95, nat_lit 95], [nat_lit 68, nat_lit 101, nat_lit 99, nat_lit 105, nat_lit 109, nat_lit 97, nat_lit 108, nat_lit 46, nat_lit 112, nat_lit 108, nat_lit 117, nat_lit 115], [nat_lit 68, nat_lit 101, nat_lit 99, nat_lit 105, nat_lit 109, nat_lit 97, nat_lit 108, nat_lit 46, nat_lit 116, nat_lit 105, nat_lit 109, nat_lit 101, nat_lit 115], [nat_lit 68, nat_lit 101, nat_lit 99, nat_lit 105, nat_lit 109, nat_lit 97, nat_lit 108, nat_lit 46, nat_lit 116, nat_lit 111, nat_lit 108, nat_lit 100], [nat_lit 95, nat_lit 95, nat_lit 109, nat_lit 111, nat_lit 100, nat_lit 117, nat_lit 108, nat_lit 101, nat_lit 95, nat_lit 95], [nat_lit 95, nat_lit 95, nat_lit 102, nat_lit 105, nat_lit 114, nat_lit 115, nat_lit 116, nat_lit 108, nat_lit 105, nat_lit 110, nat_lit 101, nat_lit 110, nat_lit 111, nat_lit 95, nat_lit 95], [nat_lit 95, nat_lit 95, nat_lit 115, nat_lit 116, nat_lit 97, nat_lit 116, nat_lit 105, nat_lit 99, nat_lit 95, nat_lit 97, nat_lit 116, nat_lit 116, nat_lit 114, nat_lit 105, nat_lit 98, nat_lit 117, nat_lit 116, nat_lit 101, nat_lit 115, nat_lit 95, nat_lit 95], [nat_lit 95, nat_lit 95, nat_lit 100, nat_lit 105, nat_lit 99, nat_lit 116, nat_lit 95, nat_lit 95], [nat_lit 95, nat_lit 95, nat_lit 119, nat_lit 101, nat_lit 97, nat_lit 107, nat_lit 114, nat_lit 101, nat_lit 102, nat_lit 95, nat_lit 95]], [[nat_lit 77, nat_lit 97, nat_lit 116, nat_lit 114, nat_lit 105, nat_lit 120, nat_lit 46, nat_lit 95, nat_lit 95, nat_lit 105, nat_lit 110, nat_lit 105, nat_lit 116, nat_lit 95, nat_lit 95], [nat_lit 77, nat_lit 97, nat_lit 116, nat_lit 114, nat_lit 105, nat_lit 120, nat_lit 46, nat_lit 116, nat_lit 105, nat_lit 109, nat_lit 101, nat_lit 115], [nat_lit 77, nat_lit 97, nat_lit 116, nat_lit 114, nat_lit 105, nat_lit 120, nat_lit 46, nat_lit 97, nat_lit 112, nat_lit 112, nat_lit 108, nat_lit 105, nat_lit 101, nat_lit 100], [nat_lit 77, nat_lit 97, nat_lit 116, nat_lit 114, nat_lit 105, nat_lit 120, nat_lit 46, nat_lit 115, nat_lit 104, nat_lit 105, nat_lit 102, nat_lit 116, nat_lit 101, nat_lit 100], [nat_lit 71, nat_lit 108, nat_lit 121, nat_lit 112, nat_lit 104, nat_lit 46, nat_lit 95, nat_lit 95, nat_lit 105, nat_lit 110, nat_lit 105, nat_lit 116, nat_lit 95, nat_lit 95], [nat_lit 71, nat_lit 108, nat_lit 121, nat_lit 112, nat_lit 104, nat_lit 46, nat_lit 116, nat_lit 111, nat_lit 108, nat_lit 100], [nat_lit 84, nat_lit 101, nat_lit 120, nat_lit 116, nat_lit 83, nat_lit 116, nat_lit 97, nat_lit 116, nat_lit 101, nat_lit 46, nat_lit 95, nat_lit 95, nat_lit 105, nat_lit 110, nat_lit 105, nat_lit 116, nat_lit 95, nat_lit 95], [nat_lit 84, nat_lit 101, nat_lit 120, nat_lit 116, nat_lit 83, nat_lit 116, nat_lit 97, nat_lit 116, nat_lit 101, nat_lit 46, nat_lit 115, nat_lit 116, nat_lit 114, nat_lit 101, nat_lit 116, nat_lit 99, nat_lit 104, nat_lit 101, nat_lit 100], [nat_lit 67, nat_lit 77, nat_lit 97, nat_lit 112, nat_lit 46, nat_lit 95, nat_lit 95, nat_lit 105, nat_lit 110, nat_lit 105, nat_lit 116, nat_lit 95, nat_lit 95], [nat_lit 70, nat_lit 111, nat_lit 110, nat_lit 116, nat_lit 46, nat_lit 95, nat_lit 95, nat_lit 105, nat_lit 110, nat_lit 105, nat_lit 116, nat_lit 95, nat_lit 95], [nat_lit 70, nat_lit 111, nat_lit 110, nat_lit 116, nat_lit 46, nat_lit 99, nat_lit 111, nat_lit 100, nat_lit 101, nat_lit 115], [nat_lit 70, nat_lit 111, nat_lit 110, nat_lit 116, nat_lit 46, nat_lit 119, nat_lit 105, nat_lit 100, nat_lit 116, nat_lit 104], [nat_lit 70, nat_lit 111, nat_lit 110, nat_lit 116, nat_lit 46, nat_lit 116, nat_lit 101, nat_lit 120, nat_lit 116]]]
theorem rows_eq : rowsO = rowsN.map (List.map ofN) := by kernel_rfl
theorem rows_id : rowsN.map (List.map fun l => (l.map Char.ofNat).map Char.toNat) = rowsN := by kernel_rfl
theorem ofN_eq (l : List Nat) : ofN l = mkS ((l.map Char.ofNat).map Char.toNat) := Fast.ofString_ofList _
noncomputable def longs : Nat → Str := pick Str.empty [s27, s28, s29, s30]
noncomputable def atO (k : Nat) : Str := cond (Nat.ble 4 k) (pick2 (ofN []) rowsO (Nat.sub k 4)) (longs k)
noncomputable def atQ (k : Nat) : Str := cond (Nat.ble 4 k) (mkS (pick2 [] rowsN (Nat.sub k 4))) (longs k)
theorem at_eq : atO = atQ := by
  funext k
  unfold atO atQ
  rw [rows_eq, pick2_map ofN, ofN_eq]
  have h := congrArg mkS (pick2_map (fun l : List Nat => (l.map Char.ofNat).map Char.toNat) [] rowsN (Nat.sub k 4))
  rw [rows_id] at h
  exact congrArg (fun x => cond (Nat.ble 4 k) x (longs k)) h.symm
noncomputable def bT : Nat → String := pick "" ["function", "dict", "__main__.__loader__#opaque", "code", "type", "object", "object.__new__"]
def Names (a : Nat → Str) : Prop := Str.ofString "" = a 4 ∧ Str.ofString " " = a 5 ∧ Str.ofString "-" = a 6 ∧ Str.ofString "." = a 7 ∧ Str.ofString ".0" = a 8 ∧ Str.ofString "0" = a 9 ∧ Str.ofString "0123456789ABCDEF" = a 10 ∧ Str.ofString "CMap" = a 11 ∧ Str.ofString "Decimal" = a 12 ∧ Str.ofString "Euro" = a 13 ∧ Str.ofString "Exception" = a 14 ∧ Str.ofString "Font" = a 15 ∧ Str.ofString "FontFault" = a 16 ∧ Str.ofString "Glyph" = a 17 ∧ Str.ofString "HEX_SIGNS" = a 18 ∧ Str.ofString "HIGH_NAMES" = a 19 ∧ Str.ofString "LATIN_NAMES" = a 20 ∧ Str.ofString "LOW_NAMES" = a 21 ∧ Str.ofString "Lslash" = a 22 ∧ Str.ofString "MIDDLE_NAMES" = a 23 ∧ Str.ofString "MOST_CODE" = a 24 ∧ Str.ofString "MOST_LENGTH" = a 25 ∧ Str.ofString "Matrix" = a 26 ∧ Str.ofString "OE" = a 27 ∧ Str.ofString "OTHER_CODES" = a 28 ∧ Str.ofString "PaperError" = a 29 ∧ Str.ofString "SURROGATES" = a 30 ∧ Str.ofString "Scaron" = a 31 ∧ Str.ofString "TL" = a 32 ∧ Str.ofString "Tc" = a 33 ∧ Str.ofString "TextState" = a 34 ∧ Str.ofString "Ts" = a 35 ∧ Str.ofString "Tw" = a 36 ∧ Str.ofString "Tz" = a 37 ∧ Str.ofString "Ydieresis" = a 38 ∧ Str.ofString "Zcaron" = a 39 ∧ Str.ofString "_" = a 40 ∧ Str.ofString "__init__" = a 41 ∧ Str.ofString "__name__" = a 42 ∧ Str.ofString "_law_draw" = a 43 ∧ Str.ofString "_law_font" = a 44 ∧ Str.ofString "_law_onto" = a 45 ∧ Str.ofString "_law_whole" = a 46 ∧ Str.ofString "_wall" = a 47 ∧ Str.ofString "a" = a 48 ∧ Str.ofString "abs" = a 49 ∧ Str.ofString "advance" = a 50 ∧ Str.ofString "ahead" = a 51 ∧ Str.ofString "all" = a 52 ∧ Str.ofString "along" = a 53 ∧ Str.ofString "append" = a 54 ∧ Str.ofString "applied" = a 55 ∧ Str.ofString "ascii_names" = a 56 ∧ Str.ofString "at" = a 57 ∧ Str.ofString "at_one_scale" = a 58 ∧ Str.ofString "b" = a 59 ∧ Str.ofString "bare" = a 60 ∧ Str.ofString "bool" = a 61 ∧ Str.ofString "breve" = a 62 ∧ Str.ofString "bullet" = a 63 ∧ Str.ofString "bytes" = a 64 ∧ Str.ofString "c" = a 65 ∧ Str.ofString "capitals" = a 66 ∧ Str.ofString "caron" = a 67 ∧ Str.ofString "cells" = a 68 ∧ Str.ofString "chars" = a 69 ∧ Str.ofString "chr" = a 70 ∧ Str.ofString "cid_of" = a 71 ∧ Str.ofString "circumflex" = a 72 ∧ Str.ofString "cmap" = a 73 ∧ Str.ofString "code" = a 74 ∧ Str.ofString "code_octets" = a 75 ∧ Str.ofString "code_of" = a 76 ∧ Str.ofString "codes" = a 77 ∧ Str.ofString "compared" = a 78 ∧ Str.ofString "copied" = a 79 ∧ Str.ofString "ctm" = a 80 ∧ Str.ofString "cut" = a 81 ∧ Str.ofString "cutting" = a 82 ∧ Str.ofString "d" = a 83 ∧ Str.ofString "dagger" = a 84 ∧ Str.ofString "daggerdbl" = a 85 ∧ Str.ofString "decimal_of" = a 86 ∧ Str.ofString "default" = a 87 ∧ Str.ofString "divide" = a 88 ∧ Str.ofString "dotaccent" = a 89 ∧ Str.ofString "dotlessi" = a 90 ∧ Str.ofString "e" = a 91 ∧ Str.ofString "ellipsis" = a 92 ∧ Str.ofString "emdash" = a 93 ∧ Str.ofString "endash" = a 94 ∧ Str.ofString "f" = a 95 ∧ Str.ofString "factor" = a 96 ∧ Str.ofString "fast" = a 97 ∧ Str.ofString "fi" = a 98 ∧ Str.ofString "first" = a 99 ∧ Str.ofString "fitted" = a 100 ∧ Str.ofString "fitting" = a 101 ∧ Str.ofString "fl" = a 102 ∧ Str.ofString "floor" = a 103 ∧ Str.ofString "florin" = a 104 ∧ Str.ofString "font" = a 105 ∧ Str.ofString "found" = a 106 ∧ Str.ofString "fraction" = a 107 ∧ Str.ofString "glyph" = a 108 ∧ Str.ofString "glyph_text" = a 109 ∧ Str.ofString "gone" = a 110 ∧ Str.ofString "guilsinglleft" = a 111 ∧ Str.ofString "guilsinglright" = a 112 ∧ Str.ofString "hex_number" = a 113 ∧ Str.ofString "high" = a 114 ∧ Str.ofString "highs" = a 115 ∧ Str.ofString "hungarumlaut" = a 116 ∧ Str.ofString "index" = a 117 ∧ Str.ofString "int" = a 118 ∧ Str.ofString "is_sign_code" = a 119 ∧ Str.ofString "is_whole" = a 120 ∧ Str.ofString "isinstance" = a 121 ∧ Str.ofString "join" = a 122 ∧ Str.ofString "k" = a 123 ∧ Str.ofString "key" = a 124 ∧ Str.ofString "known_code" = a 125 ∧ Str.ofString "last" = a 126 ∧ Str.ofString "latin_names" = a 127 ∧ Str.ofString "law" = a 128 ∧ Str.ofString "law_og0182_01" = a 129 ∧ Str.ofString "least_text" = a 130 ∧ Str.ofString "len" = a 131 ∧ Str.ofString "length" = a 132 ∧ Str.ofString "limit" = a 133 ∧ Str.ofString "list" = a 134 ∧ Str.ofString "low" = a 135 ∧ Str.ofString "lower" = a 136 ∧ Str.ofString "lows" = a 137 ∧ Str.ofString "lslash" = a 138 ∧ Str.ofString "many" = a 139 ∧ Str.ofString "max" = a 140 ∧ Str.ofString "min" = a 141 ∧ Str.ofString "minus" = a 142 ∧ Str.ofString "most" = a 143 ∧ Str.ofString "name" = a 144 ∧ Str.ofString "names" = a 145 ∧ Str.ofString "negated" = a 146 ∧ Str.ofString "next_length" = a 147 ∧ Str.ofString "number" = a 148 ∧ Str.ofString "numerals" = a 149 ∧ Str.ofString "octet" = a 150 ∧ Str.ofString "octets" = a 151 ∧ Str.ofString "oe" = a 152 ∧ Str.ofString "ogonek" = a 153 ∧ Str.ofString "one" = a 154 ∧ Str.ofString "onto" = a 155 ∧ Str.ofString "other" = a 156 ∧ Str.ofString "page" = a 157 ∧ Str.ofString "pair" = a 158 ∧ Str.ofString "paperhold.cmaps" = a 159 ∧ Str.ofString "paperhold.decimals" = a 160 ∧ Str.ofString "paperhold.encodings" = a 161 ∧ Str.ofString "paperhold.errors" = a 162 ∧ Str.ofString "paperhold.fonts" = a 163 ∧ Str.ofString "paperhold.matrix" = a 164 ∧ Str.ofString "paperhold.textout" = a 165 ∧ Str.ofString "part" = a 166 ∧ Str.ofString "part_text" = a 167 ∧ Str.ofString "parts" = a 168 ∧ Str.ofString "perthousand" = a 169 ∧ Str.ofString "place" = a 170 ∧ Str.ofString "places" = a 171 ∧ Str.ofString "plus" = a 172 ∧ Str.ofString "point" = a 173 ∧ Str.ofString "quotedblbase" = a 174 ∧ Str.ofString "quotedblleft" = a 175 ∧ Str.ofString "quotedblright" = a 176 ∧ Str.ofString "quoteleft" = a 177 ∧ Str.ofString "quoteright" = a 178 ∧ Str.ofString "quotesinglbase" = a 179 ∧ Str.ofString "range" = a 180 ∧ Str.ofString "ranked" = a 181 ∧ Str.ofString "right" = a 182 ∧ Str.ofString "ring" = a 183 ∧ Str.ofString "rise" = a 184 ∧ Str.ofString "rounded" = a 185 ∧ Str.ofString "rows" = a 186 ∧ Str.ofString "scaron" = a 187 ∧ Str.ofString "script" = a 188 ∧ Str.ofString "second" = a 189 ∧ Str.ofString "self" = a 190 ∧ Str.ofString "shifted" = a 191 ∧ Str.ofString "shown_glyphs" = a 192 ∧ Str.ofString "sign" = a 193 ∧ Str.ofString "sign_text" = a 194 ∧ Str.ofString "signs" = a 195 ∧ Str.ofString "six" = a 196 ∧ Str.ofString "size" = a 197 ∧ Str.ofString "smalls" = a 198 ∧ Str.ofString "sorted" = a 199 ∧ Str.ofString "space" = a 200 ∧ Str.ofString "spaces" = a 201 ∧ Str.ofString "spacing" = a 202 ∧ Str.ofString "split" = a 203 ∧ Str.ofString "split_codes" = a 204 ∧ Str.ofString "standard" = a 205 ∧ Str.ofString "standard_width" = a 206 ∧ Str.ofString "state" = a 207 ∧ Str.ofString "str" = a 208 ∧ Str.ofString "stretched" = a 209 ∧ Str.ofString "tape" = a 210 ∧ Str.ofString "text" = a 211 ∧ Str.ofString "text is shown without a font" = a 212 ∧ Str.ofString "this is no number" = a 213 ∧ Str.ofString "tilde" = a 214 ∧ Str.ofString "times" = a 215 ∧ Str.ofString "told" = a 216 ∧ Str.ofString "top" = a 217 ∧ Str.ofString "trademark" = a 218 ∧ Str.ofString "tuple" = a 219 ∧ Str.ofString "two" = a 220 ∧ Str.ofString "u" = a 221 ∧ Str.ofString "uni" = a 222 ∧ Str.ofString "unicode" = a 223 ∧ Str.ofString "unit" = a 224 ∧ Str.ofString "up" = a 225 ∧ Str.ofString "value" = a 226 ∧ Str.ofString "way" = a 227 ∧ Str.ofString "what" = a 228 ∧ Str.ofString "whole" = a 229 ∧ Str.ofString "whole_row" = a 230 ∧ Str.ofString "width" = a 231 ∧ Str.ofString "width_in" = a 232 ∧ Str.ofString "widths" = a 233 ∧ Str.ofString "word" = a 234 ∧ Str.ofString "worth" = a 235 ∧ Str.ofString "x" = a 236 ∧ Str.ofString "y" = a 237 ∧ Str.ofString "ydieresis" = a 238 ∧ Str.ofString "zcaron" = a 239
noncomputable def bodyP (a : Nat → Str) : List Stmt := by
  refine (?f : (x : List Stmt) → (Names a ∧ s27 = a 0 ∧ s28 = a 1 ∧ s29 = a 2 ∧ s30 = a 3 → pE.main.body = x) → List Stmt) ?x ?h
  case f => exact fun x _ => x
  case h =>
    intro H
    unfold Names at H
    conv => { lhs; whnf; simp only [H, ← s27.eq_1, ← s28.eq_1, ← s29.eq_1, ← s30.eq_1] }
noncomputable def scP (a : Nat → Str) : Scope := by
  refine (?f : (x : Scope) → (Names a → pE.main.scope = x) → Scope) ?x ?h
  case f => exact fun x _ => x
  case h =>
    intro H
    unfold Names at H
    conv => { lhs; whnf; simp only [H] }
noncomputable def o2 (P : Params) : Obj := ⟨.none, none, .dict #[E P "type.__subclasses__.Exception.0" 232 (.int (46) 0), E P "type.__subclasses__.Exception.n" 233 (.int (1) 0)] 2, #[]⟩
noncomputable def o3 (P : Params) : Obj := ⟨.type "dict", none, .dict #[E P "__name__" 165 (vs "law_og0182_01" 989), E P "__doc__" 166 (.none), E P "__package__" 167 (.none), E P "__loader__" 168 (.builtin "__main__.__loader__#opaque"), E P "__spec__" 169 (.none), E P "__annotations__" 170 (.ref 6), E P "__builtins__" 171 (.ref 4), E P "__file__" 173 (vs "/claim/cut.py" 172), E P "__cached__" 174 (.none), E P "_wall" 193 (.ref 21), E P "PaperError" 235 (.ref 46), E P "FontFault" 251 (.ref 59), E P "Decimal" 371 (.ref 155), E P "sign_text" 378 (.ref 166), E P "decimal_of" 385 (.ref 173), E P "at_one_scale" 396 (.ref 180), E P "Matrix" 486 (.ref 230), E P "Glyph" 532 (.ref 258), E P "TextState" 579 (.ref 293), E P "advance" 589 (.ref 304), E P "along" 599 (.ref 311), E P "shown_glyphs" 617 (.ref 318), E P "MOST_LENGTH" 621 (.int (4) 620), E P "HEX_SIGNS" 623 (.str (s19) 622), E P "CMap" 660 (.ref 340), E P "code_of" 669 (.ref 351), E P "code_octets" 675 (.ref 356), E P "fitting" 689 (.ref 363), E P "next_length" 695 (.ref 368), E P "split_codes" 707 (.ref 375), E P "LOW_NAMES" 711 (.str (s27) 710), E P "MIDDLE_NAMES" 713 (.str (s28) 712), E P "HIGH_NAMES" 715 (.str (s29) 714), E P "LATIN_NAMES" 717 (.str (s30) 716), E P "OTHER_CODES" 835 (.ref 376), E P "SURROGATES" 838 (.ref 379), E P "MOST_CODE" 840 (.int (1114111) 839), E P "ascii_names" 846 (.ref 384), E P "latin_names" 852 (.ref 389), E P "hex_number" 861 (.ref 396), E P "is_sign_code" 868 (.ref 403), E P "known_code" 876 (.ref 410), E P "part_text" 882 (.ref 415), E P "glyph_text" 888 (.ref 420), E P "width_in" 902 (.ref 427), E P "standard_width" 911 (.ref 434), E P "cid_of" 924 (.ref 441), E P "Font" 988 (.ref 477), E P "_law_draw" 1000 (.ref 488), E P "_law_font" 1007 (.ref 495), E P "_law_whole" 1014 (.ref 502), E P "_law_onto" 1024 (.ref 509), E P "law" 1030 (.ref 514)] 53, #[]⟩
noncomputable def o74 (_ : Params) : Obj := ⟨.type "code", none, .fields #[vs "__init__" 266, vs "Decimal.__init__" 267, vs "/claim/cut.py" 268, .int (19) 0, .int (3) 0, .int (0) 0, .int (0) 0, .int (3) 0, .ref 69, .bool true, .int (181) 0, .ref 70, .none, .ref 71, .ref 72, .ref 73, .int (272) 0, .int (19) 0, vs "/claim/cut.py" 273], #[]⟩
noncomputable def o75 (_ : Params) : Obj := by
  refine (?f : (x : Obj) → fnO (inClass (stmtAt pE.main.body 5) 0) "Decimal.__init__" (vs "paperhold.decimals" 252) (.ref 74) = x → Obj) ?x ?h
  case f => exact fun x _ => x
  case h => conv => { lhs; whnf }
noncomputable def o81 (_ : Params) : Obj := ⟨.type "code", none, .fields #[vs "plus" 275, vs "Decimal.plus" 276, vs "/claim/cut.py" 277, .int (26) 0, .int (2) 0, .int (0) 0, .int (0) 0, .int (3) 0, .ref 76, .bool true, .int (181) 0, .ref 77, .none, .ref 78, .ref 79, .ref 80, .int (283) 0, .int (26) 0, vs "/claim/cut.py" 284], #[]⟩
noncomputable def o82 (_ : Params) : Obj := by
  refine (?f : (x : Obj) → fnO (inClass (stmtAt pE.main.body 5) 1) "Decimal.plus" (vs "paperhold.decimals" 252) (.ref 81) = x → Obj) ?x ?h
  case f => exact fun x _ => x
  case h => conv => { lhs; whnf }
noncomputable def o95 (_ : Params) : Obj := ⟨.type "code", none, .fields #[vs "times" 294, vs "Decimal.times" 295, vs "/claim/cut.py" 296, .int (33) 0, .int (2) 0, .int (0) 0, .int (0) 0, .int (3) 0, .ref 90, .bool true, .int (181) 0, .ref 91, .none, .ref 92, .ref 93, .ref 94, .int (300) 0, .int (33) 0, vs "/claim/cut.py" 301], #[]⟩
noncomputable def o96 (_ : Params) : Obj := by
  refine (?f : (x : Obj) → fnO (inClass (stmtAt pE.main.body 5) 3) "Decimal.times" (vs "paperhold.decimals" 252) (.ref 95) = x → Obj) ?x ?h
  case f => exact fun x _ => x
  case h => conv => { lhs; whnf }
noncomputable def o137 (_ : Params) : Obj := ⟨.type "code", none, .fields #[vs "told" 340, vs "Decimal.told" 341, vs "/claim/cut.py" 342, .int (52) 0, .int (1) 0, .int (0) 0, .int (0) 0, .int (3) 0, .ref 132, .bool true, .int (181) 0, .ref 133, .none, .ref 134, .ref 135, .ref 136, .int (344) 0, .int (52) 0, vs "/claim/cut.py" 345], #[]⟩
noncomputable def o138 (_ : Params) : Obj := by
  refine (?f : (x : Obj) → fnO (inClass (stmtAt pE.main.body 5) 9) "Decimal.told" (vs "paperhold.decimals" 252) (.ref 137) = x → Obj) ?x ?h
  case f => exact fun x _ => x
  case h => conv => { lhs; whnf }
noncomputable def o154 (P : Params) : Obj := ⟨.type "dict", none, .dict #[E P "__module__" 261 (vs "paperhold.decimals" 252), E P "__firstlineno__" 265 (.int (17) 264), E P "__init__" 274 (.ref 75), E P "plus" 285 (.ref 82), E P "minus" 293 (.ref 89), E P "times" 302 (.ref 96), E P "negated" 309 (.ref 103), E P "compared" 317 (.ref 110), E P "is_whole" 324 (.ref 117), E P "floor" 331 (.ref 124), E P "rounded" 339 (.ref 131), E P "told" 346 (.ref 138), E P "text" 354 (.ref 145), E P "least_text" 361 (.ref 152), E P "__static_attributes__" 364 (.ref 153), E P "__dict__" 366 (.ref 156), E P "__weakref__" 368 (.ref 157), E P "__doc__" 369 (.none)] 4, #[]⟩
noncomputable def o155 (_ : Params) : Obj := ⟨.type "type", none, .cls { name := Str.ofString "Decimal", bases := [.type "object"], mro := [.ref 155, .type "object"], ns := 154, qualname := Str.ofString "Decimal" }, #[none, none, some (vs "Decimal" 254), some (vs "Decimal" 262), some (.builtin "object.__new__"), some (.bool true)]⟩
noncomputable def o172 (_ : Params) : Obj := ⟨.type "code", none, .fields #[vs "decimal_of" 379, vs "decimal_of" 380, vs "/claim/cut.py" 381, .int (66) 0, .int (1) 0, .int (0) 0, .int (0) 0, .int (3) 0, .ref 167, .bool true, .int (181) 0, .ref 168, .none, .ref 169, .ref 170, .ref 171, .int (383) 0, .int (66) 0, vs "/claim/cut.py" 384], #[]⟩
noncomputable def o173 (_ : Params) : Obj := by
  refine (?f : (x : Obj) → fnO (stmtAt pE.main.body 7) "decimal_of" (vs "paperhold.decimals" 252) (.ref 172) = x → Obj) ?x ?h
  case f => exact fun x _ => x
  case h => conv => { lhs; whnf }
noncomputable def o179 (_ : Params) : Obj := ⟨.type "code", none, .fields #[vs "at_one_scale" 386, vs "at_one_scale" 387, vs "/claim/cut.py" 388, .int (72) 0, .int (2) 0, .int (0) 0, .int (0) 0, .int (3) 0, .ref 174, .bool true, .int (181) 0, .ref 175, .none, .ref 176, .ref 177, .ref 178, .int (394) 0, .int (72) 0, vs "/claim/cut.py" 395], #[]⟩
noncomputable def o180 (_ : Params) : Obj := by
  refine (?f : (x : Obj) → fnO (stmtAt pE.main.body 8) "at_one_scale" (vs "paperhold.decimals" 252) (.ref 179) = x → Obj) ?x ?h
  case f => exact fun x _ => x
  case h => conv => { lhs; whnf }
noncomputable def o193 (_ : Params) : Obj := ⟨.type "code", none, .fields #[vs "__init__" 411, vs "Matrix.__init__" 412, vs "/claim/cut.py" 413, .int (80) 0, .int (7) 0, .int (0) 0, .int (0) 0, .int (3) 0, .ref 188, .bool true, .int (181) 0, .ref 189, .none, .ref 190, .ref 191, .ref 192, .int (421) 0, .int (80) 0, vs "/claim/cut.py" 422], #[]⟩
noncomputable def o194 (_ : Params) : Obj := by
  refine (?f : (x : Obj) → fnO (inClass (stmtAt pE.main.body 10) 0) "Matrix.__init__" (vs "paperhold.matrix" 397) (.ref 193) = x → Obj) ?x ?h
  case f => exact fun x _ => x
  case h => conv => { lhs; whnf }
noncomputable def o200 (_ : Params) : Obj := ⟨.type "code", none, .fields #[vs "times" 424, vs "Matrix.times" 425, vs "/claim/cut.py" 426, .int (88) 0, .int (2) 0, .int (0) 0, .int (0) 0, .int (3) 0, .ref 195, .bool true, .int (181) 0, .ref 196, .none, .ref 197, .ref 198, .ref 199, .int (435) 0, .int (88) 0, vs "/claim/cut.py" 436], #[]⟩
noncomputable def o201 (_ : Params) : Obj := by
  refine (?f : (x : Obj) → fnO (inClass (stmtAt pE.main.body 10) 1) "Matrix.times" (vs "paperhold.matrix" 397) (.ref 200) = x → Obj) ?x ?h
  case f => exact fun x _ => x
  case h => conv => { lhs; whnf }
noncomputable def o207 (_ : Params) : Obj := ⟨.type "code", none, .fields #[vs "applied" 438, vs "Matrix.applied" 439, vs "/claim/cut.py" 440, .int (96) 0, .int (3) 0, .int (0) 0, .int (0) 0, .int (3) 0, .ref 202, .bool true, .int (181) 0, .ref 203, .none, .ref 204, .ref 205, .ref 206, .int (446) 0, .int (96) 0, vs "/claim/cut.py" 447], #[]⟩
noncomputable def o208 (_ : Params) : Obj := by
  refine (?f : (x : Obj) → fnO (inClass (stmtAt pE.main.body 10) 2) "Matrix.applied" (vs "paperhold.matrix" 397) (.ref 207) = x → Obj) ?x ?h
  case f => exact fun x _ => x
  case h => conv => { lhs; whnf }
noncomputable def o214 (_ : Params) : Obj := ⟨.type "code", none, .fields #[vs "shifted" 449, vs "Matrix.shifted" 450, vs "/claim/cut.py" 451, .int (101) 0, .int (3) 0, .int (0) 0, .int (0) 0, .int (3) 0, .ref 209, .bool true, .int (181) 0, .ref 210, .none, .ref 211, .ref 212, .ref 213, .int (457) 0, .int (101) 0, vs "/claim/cut.py" 458], #[]⟩
noncomputable def o215 (_ : Params) : Obj := by
  refine (?f : (x : Obj) → fnO (inClass (stmtAt pE.main.body 10) 3) "Matrix.shifted" (vs "paperhold.matrix" 397) (.ref 214) = x → Obj) ?x ?h
  case f => exact fun x _ => x
  case h => conv => { lhs; whnf }
noncomputable def o229 (P : Params) : Obj := ⟨.type "dict", none, .dict #[E P "__module__" 406 (vs "paperhold.matrix" 397), E P "__firstlineno__" 410 (.int (78) 409), E P "__init__" 423 (.ref 194), E P "times" 437 (.ref 201), E P "applied" 448 (.ref 208), E P "shifted" 459 (.ref 215), E P "parts" 466 (.ref 222), E P "told" 472 (.ref 227), E P "__static_attributes__" 479 (.ref 228), E P "__dict__" 481 (.ref 231), E P "__weakref__" 483 (.ref 232), E P "__doc__" 484 (.none)] 4, #[]⟩
noncomputable def o230 (_ : Params) : Obj := ⟨.type "type", none, .cls { name := Str.ofString "Matrix", bases := [.type "object"], mro := [.ref 230, .type "object"], ns := 229, qualname := Str.ofString "Matrix" }, #[none, none, some (vs "Matrix" 399), some (vs "Matrix" 407), some (.builtin "object.__new__"), some (.bool true)]⟩
noncomputable def o247 (_ : Params) : Obj := ⟨.type "code", none, .fields #[vs "__init__" 501, vs "Glyph.__init__" 502, vs "/claim/cut.py" 503, .int (114) 0, .int (6) 0, .int (0) 0, .int (0) 0, .int (3) 0, .ref 242, .bool true, .int (181) 0, .ref 243, .none, .ref 244, .ref 245, .ref 246, .int (510) 0, .int (114) 0, vs "/claim/cut.py" 511], #[]⟩
noncomputable def o248 (_ : Params) : Obj := by
  refine (?f : (x : Obj) → fnO (inClass (stmtAt pE.main.body 12) 0) "Glyph.__init__" (vs "paperhold.textout" 487) (.ref 247) = x → Obj) ?x ?h
  case f => exact fun x _ => x
  case h => conv => { lhs; whnf }
noncomputable def o254 (_ : Params) : Obj := ⟨.type "code", none, .fields #[vs "told" 513, vs "Glyph.told" 514, vs "/claim/cut.py" 515, .int (121) 0, .int (1) 0, .int (0) 0, .int (0) 0, .int (3) 0, .ref 249, .bool true, .int (181) 0, .ref 250, .none, .ref 251, .ref 252, .ref 253, .int (517) 0, .int (121) 0, vs "/claim/cut.py" 518], #[]⟩
noncomputable def o255 (_ : Params) : Obj := by
  refine (?f : (x : Obj) → fnO (inClass (stmtAt pE.main.body 12) 1) "Glyph.told" (vs "paperhold.textout" 487) (.ref 254) = x → Obj) ?x ?h
  case f => exact fun x _ => x
  case h => conv => { lhs; whnf }
noncomputable def o257 (P : Params) : Obj := ⟨.type "dict", none, .dict #[E P "__module__" 496 (vs "paperhold.textout" 487), E P "__firstlineno__" 500 (.int (112) 499), E P "__init__" 512 (.ref 248), E P "told" 519 (.ref 255), E P "__static_attributes__" 525 (.ref 256), E P "__dict__" 527 (.ref 259), E P "__weakref__" 529 (.ref 260), E P "__doc__" 530 (.none)] 4, #[]⟩
noncomputable def o258 (_ : Params) : Obj := ⟨.type "type", none, .cls { name := Str.ofString "Glyph", bases := [.type "object"], mro := [.ref 258, .type "object"], ns := 257, qualname := Str.ofString "Glyph" }, #[none, none, some (vs "Glyph" 489), some (vs "Glyph" 497), some (.builtin "object.__new__"), some (.bool true)]⟩
noncomputable def o275 (_ : Params) : Obj := ⟨.type "code", none, .fields #[vs "__init__" 545, vs "TextState.__init__" 546, vs "/claim/cut.py" 547, .int (125) 0, .int (2) 0, .int (0) 0, .int (0) 0, .int (3) 0, .ref 270, .bool true, .int (181) 0, .ref 271, .none, .ref 272, .ref 273, .ref 274, .int (550) 0, .int (125) 0, vs "/claim/cut.py" 551], #[]⟩
noncomputable def o276 (_ : Params) : Obj := by
  refine (?f : (x : Obj) → fnO (inClass (stmtAt pE.main.body 13) 0) "TextState.__init__" (vs "paperhold.textout" 487) (.ref 275) = x → Obj) ?x ?h
  case f => exact fun x _ => x
  case h => conv => { lhs; whnf }
noncomputable def o289 (_ : Params) : Obj := ⟨.type "code", none, .fields #[vs "stretched" 560, vs "TextState.stretched" 561, vs "/claim/cut.py" 562, .int (134) 0, .int (2) 0, .int (0) 0, .int (0) 0, .int (3) 0, .ref 284, .bool true, .int (181) 0, .ref 285, .none, .ref 286, .ref 287, .ref 288, .int (565) 0, .int (134) 0, vs "/claim/cut.py" 566], #[]⟩
noncomputable def o290 (_ : Params) : Obj := by
  refine (?f : (x : Obj) → fnO (inClass (stmtAt pE.main.body 13) 2) "TextState.stretched" (vs "paperhold.textout" 487) (.ref 289) = x → Obj) ?x ?h
  case f => exact fun x _ => x
  case h => conv => { lhs; whnf }
noncomputable def o292 (P : Params) : Obj := ⟨.type "dict", none, .dict #[E P "__module__" 540 (vs "paperhold.textout" 487), E P "__firstlineno__" 544 (.int (123) 543), E P "__init__" 552 (.ref 276), E P "copied" 559 (.ref 283), E P "stretched" 567 (.ref 290), E P "__static_attributes__" 572 (.ref 291), E P "__dict__" 574 (.ref 294), E P "__weakref__" 576 (.ref 295), E P "__doc__" 577 (.none)] 4, #[]⟩
noncomputable def o293 (_ : Params) : Obj := ⟨.type "type", none, .cls { name := Str.ofString "TextState", bases := [.type "object"], mro := [.ref 293, .type "object"], ns := 292, qualname := Str.ofString "TextState" }, #[none, none, some (vs "TextState" 533), some (vs "TextState" 541), some (.builtin "object.__new__"), some (.bool true)]⟩
noncomputable def o303 (_ : Params) : Obj := ⟨.type "code", none, .fields #[vs "advance" 580, vs "advance" 581, vs "/claim/cut.py" 582, .int (136) 0, .int (2) 0, .int (0) 0, .int (0) 0, .int (3) 0, .ref 298, .bool true, .int (181) 0, .ref 299, .none, .ref 300, .ref 301, .ref 302, .int (587) 0, .int (136) 0, vs "/claim/cut.py" 588], #[]⟩
noncomputable def o304 (_ : Params) : Obj := by
  refine (?f : (x : Obj) → fnO (stmtAt pE.main.body 14) "advance" (vs "paperhold.textout" 487) (.ref 303) = x → Obj) ?x ?h
  case f => exact fun x _ => x
  case h => conv => { lhs; whnf }
noncomputable def o310 (_ : Params) : Obj := ⟨.type "code", none, .fields #[vs "along" 590, vs "along" 591, vs "/claim/cut.py" 592, .int (142) 0, .int (2) 0, .int (0) 0, .int (0) 0, .int (3) 0, .ref 305, .bool true, .int (181) 0, .ref 306, .none, .ref 307, .ref 308, .ref 309, .int (597) 0, .int (142) 0, vs "/claim/cut.py" 598], #[]⟩
noncomputable def o311 (_ : Params) : Obj := by
  refine (?f : (x : Obj) → fnO (stmtAt pE.main.body 15) "along" (vs "paperhold.textout" 487) (.ref 310) = x → Obj) ?x ?h
  case f => exact fun x _ => x
  case h => conv => { lhs; whnf }
noncomputable def o317 (_ : Params) : Obj := ⟨.type "code", none, .fields #[vs "shown_glyphs" 600, vs "shown_glyphs" 601, vs "/claim/cut.py" 602, .int (145) 0, .int (3) 0, .int (0) 0, .int (0) 0, .int (3) 0, .ref 312, .bool true, .int (181) 0, .ref 313, .none, .ref 314, .ref 315, .ref 316, .int (615) 0, .int (145) 0, vs "/claim/cut.py" 616], #[]⟩
noncomputable def o318 (_ : Params) : Obj := by
  refine (?f : (x : Obj) → fnO (stmtAt pE.main.body 16) "shown_glyphs" (vs "paperhold.textout" 487) (.ref 317) = x → Obj) ?x ?h
  case f => exact fun x _ => x
  case h => conv => { lhs; whnf }
noncomputable def o331 (_ : Params) : Obj := ⟨.type "code", none, .fields #[vs "__init__" 636, vs "CMap.__init__" 637, vs "/claim/cut.py" 638, .int (163) 0, .int (3) 0, .int (0) 0, .int (0) 0, .int (3) 0, .ref 326, .bool true, .int (181) 0, .ref 327, .none, .ref 328, .ref 329, .ref 330, .int (642) 0, .int (163) 0, vs "/claim/cut.py" 643], #[]⟩
noncomputable def o332 (_ : Params) : Obj := by
  refine (?f : (x : Obj) → fnO (inClass (stmtAt pE.main.body 20) 0) "CMap.__init__" (vs "paperhold.cmaps" 618) (.ref 331) = x → Obj) ?x ?h
  case f => exact fun x _ => x
  case h => conv => { lhs; whnf }
noncomputable def o339 (P : Params) : Obj := ⟨.type "dict", none, .dict #[E P "__module__" 631 (vs "paperhold.cmaps" 618), E P "__firstlineno__" 635 (.int (161) 634), E P "__init__" 644 (.ref 332), E P "told" 650 (.ref 337), E P "__static_attributes__" 653 (.ref 338), E P "__dict__" 655 (.ref 341), E P "__weakref__" 657 (.ref 342), E P "__doc__" 658 (.none)] 4, #[]⟩
noncomputable def o340 (_ : Params) : Obj := ⟨.type "type", none, .cls { name := Str.ofString "CMap", bases := [.type "object"], mro := [.ref 340, .type "object"], ns := 339, qualname := Str.ofString "CMap" }, #[none, none, some (vs "CMap" 624), some (vs "CMap" 632), some (.builtin "object.__new__"), some (.bool true)]⟩
noncomputable def o426 (_ : Params) : Obj := ⟨.type "code", none, .fields #[vs "width_in" 891, vs "width_in" 892, vs "/claim/cut.py" 893, .int (254) 0, .int (3) 0, .int (0) 0, .int (0) 0, .int (3) 0, .ref 421, .bool true, .int (181) 0, .ref 422, .none, .ref 423, .ref 424, .ref 425, .int (900) 0, .int (254) 0, vs "/claim/cut.py" 901], #[]⟩
noncomputable def o427 (_ : Params) : Obj := by
  refine (?f : (x : Obj) → fnO (stmtAt pE.main.body 42) "width_in" (vs "paperhold.fonts" 889) (.ref 426) = x → Obj) ?x ?h
  case f => exact fun x _ => x
  case h => conv => { lhs; whnf }
noncomputable def o454 (_ : Params) : Obj := ⟨.type "code", none, .fields #[vs "__init__" 937, vs "Font.__init__" 938, vs "/claim/cut.py" 939, .int (270) 0, .int (8) 0, .int (0) 0, .int (0) 0, .int (3) 0, .ref 449, .bool true, .int (181) 0, .ref 450, .none, .ref 451, .ref 452, .ref 453, .int (948) 0, .int (270) 0, vs "/claim/cut.py" 949], #[]⟩
noncomputable def o455 (_ : Params) : Obj := by
  refine (?f : (x : Obj) → fnO (inClass (stmtAt pE.main.body 45) 0) "Font.__init__" (vs "paperhold.fonts" 889) (.ref 454) = x → Obj) ?x ?h
  case f => exact fun x _ => x
  case h => conv => { lhs; whnf }
noncomputable def o459 (_ : Params) : Obj := ⟨.type "code", none, .fields #[vs "codes" 951, vs "Font.codes" 952, vs "/claim/cut.py" 953, .int (279) 0, .int (2) 0, .int (0) 0, .int (0) 0, .int (3) 0, .ref 456, .bool true, .int (181) 0, .ref 457, .none, .none, .none, .ref 458, .int (954) 0, .int (279) 0, vs "/claim/cut.py" 955], #[]⟩
noncomputable def o460 (_ : Params) : Obj := by
  refine (?f : (x : Obj) → fnO (inClass (stmtAt pE.main.body 45) 1) "Font.codes" (vs "paperhold.fonts" 889) (.ref 459) = x → Obj) ?x ?h
  case f => exact fun x _ => x
  case h => conv => { lhs; whnf }
noncomputable def o466 (_ : Params) : Obj := ⟨.type "code", none, .fields #[vs "width" 957, vs "Font.width" 958, vs "/claim/cut.py" 959, .int (284) 0, .int (2) 0, .int (0) 0, .int (0) 0, .int (3) 0, .ref 461, .bool true, .int (181) 0, .ref 462, .none, .ref 463, .ref 464, .ref 465, .int (963) 0, .int (284) 0, vs "/claim/cut.py" 964], #[]⟩
noncomputable def o467 (_ : Params) : Obj := by
  refine (?f : (x : Obj) → fnO (inClass (stmtAt pE.main.body 45) 2) "Font.width" (vs "paperhold.fonts" 889) (.ref 466) = x → Obj) ?x ?h
  case f => exact fun x _ => x
  case h => conv => { lhs; whnf }
noncomputable def o473 (_ : Params) : Obj := ⟨.type "code", none, .fields #[vs "text" 966, vs "Font.text" 967, vs "/claim/cut.py" 968, .int (291) 0, .int (2) 0, .int (0) 0, .int (0) 0, .int (3) 0, .ref 468, .bool true, .int (181) 0, .ref 469, .none, .ref 470, .ref 471, .ref 472, .int (971) 0, .int (291) 0, vs "/claim/cut.py" 972], #[]⟩
noncomputable def o474 (_ : Params) : Obj := by
  refine (?f : (x : Obj) → fnO (inClass (stmtAt pE.main.body 45) 3) "Font.text" (vs "paperhold.fonts" 889) (.ref 473) = x → Obj) ?x ?h
  case f => exact fun x _ => x
  case h => conv => { lhs; whnf }
noncomputable def o476 (P : Params) : Obj := ⟨.type "dict", none, .dict #[E P "__module__" 932 (vs "paperhold.fonts" 889), E P "__firstlineno__" 936 (.int (268) 935), E P "__init__" 950 (.ref 455), E P "codes" 956 (.ref 460), E P "width" 965 (.ref 467), E P "text" 973 (.ref 474), E P "__static_attributes__" 981 (.ref 475), E P "__dict__" 983 (.ref 478), E P "__weakref__" 985 (.ref 479), E P "__doc__" 986 (.none)] 4, #[]⟩
noncomputable def o477 (_ : Params) : Obj := ⟨.type "type", none, .cls { name := Str.ofString "Font", bases := [.type "object"], mro := [.ref 477, .type "object"], ns := 476, qualname := Str.ofString "Font" }, #[none, none, some (vs "Font" 925), some (vs "Font" 933), some (.builtin "object.__new__"), some (.bool true)]⟩
noncomputable def o487 (_ : Params) : Obj := ⟨.type "code", none, .fields #[vs "_law_draw" 991, vs "_law_draw" 992, vs "/claim/cut.py" 993, .int (296) 0, .int (2) 0, .int (0) 0, .int (0) 0, .int (3) 0, .ref 482, .bool true, .int (181) 0, .ref 483, .none, .ref 484, .ref 485, .ref 486, .int (998) 0, .int (296) 0, vs "/claim/cut.py" 999], #[]⟩
noncomputable def o488 (_ : Params) : Obj := by
  refine (?f : (x : Obj) → fnO (stmtAt pE.main.body 47) "_law_draw" (vs "law_og0182_01" 989) (.ref 487) = x → Obj) ?x ?h
  case f => exact fun x _ => x
  case h => conv => { lhs; whnf }
noncomputable def o494 (_ : Params) : Obj := ⟨.type "code", none, .fields #[vs "_law_font" 1001, vs "_law_font" 1002, vs "/claim/cut.py" 1003, .int (301) 0, .int (0) 0, .int (0) 0, .int (0) 0, .int (3) 0, .ref 489, .bool true, .int (181) 0, .ref 490, .none, .ref 491, .ref 492, .ref 493, .int (1005) 0, .int (301) 0, vs "/claim/cut.py" 1006], #[]⟩
noncomputable def o495 (_ : Params) : Obj := by
  refine (?f : (x : Obj) → fnO (stmtAt pE.main.body 48) "_law_font" (vs "law_og0182_01" 989) (.ref 494) = x → Obj) ?x ?h
  case f => exact fun x _ => x
  case h => conv => { lhs; whnf }
noncomputable def o501 (_ : Params) : Obj := ⟨.type "code", none, .fields #[vs "_law_whole" 1008, vs "_law_whole" 1009, vs "/claim/cut.py" 1010, .int (304) 0, .int (1) 0, .int (0) 0, .int (0) 0, .int (3) 0, .ref 496, .bool true, .int (181) 0, .ref 497, .none, .ref 498, .ref 499, .ref 500, .int (1012) 0, .int (304) 0, vs "/claim/cut.py" 1013], #[]⟩
noncomputable def o502 (_ : Params) : Obj := by
  refine (?f : (x : Obj) → fnO (stmtAt pE.main.body 49) "_law_whole" (vs "law_og0182_01" 989) (.ref 501) = x → Obj) ?x ?h
  case f => exact fun x _ => x
  case h => conv => { lhs; whnf }
noncomputable def o508 (_ : Params) : Obj := ⟨.type "code", none, .fields #[vs "_law_onto" 1015, vs "_law_onto" 1016, vs "/claim/cut.py" 1017, .int (306) 0, .int (2) 0, .int (0) 0, .int (0) 0, .int (3) 0, .ref 503, .bool true, .int (181) 0, .ref 504, .none, .ref 505, .ref 506, .ref 507, .int (1022) 0, .int (306) 0, vs "/claim/cut.py" 1023], #[]⟩
noncomputable def o509 (_ : Params) : Obj := by
  refine (?f : (x : Obj) → fnO (stmtAt pE.main.body 50) "_law_onto" (vs "law_og0182_01" 989) (.ref 508) = x → Obj) ?x ?h
  case f => exact fun x _ => x
  case h => conv => { lhs; whnf }
noncomputable def o513 (_ : Params) : Obj := ⟨.type "code", none, .fields #[vs "law" 1025, vs "law" 1026, vs "/claim/cut.py" 1027, .int (309) 0, .int (1) 0, .int (0) 0, .int (0) 0, .int (3) 0, .ref 510, .bool true, .int (181) 0, .ref 511, .none, .none, .none, .ref 512, .int (1028) 0, .int (309) 0, vs "/claim/cut.py" 1029], #[]⟩
noncomputable def o514 (_ : Params) : Obj := by
  refine (?f : (x : Obj) → fnO (stmtAt pE.main.body 51) "law" (vs "law_og0182_01" 989) (.ref 513) = x → Obj) ?x ?h
  case f => exact fun x _ => x
  case h => conv => { lhs; whnf }
noncomputable def KK (P : Params) : Frag := (nat_lit 2, o2 P) :: (nat_lit 3, o3 P) :: (nat_lit 74, o74 P) :: (nat_lit 75, o75 P) :: (nat_lit 81, o81 P) :: (nat_lit 82, o82 P) :: (nat_lit 95, o95 P) :: (nat_lit 96, o96 P) :: (nat_lit 137, o137 P) :: (nat_lit 138, o138 P) :: (nat_lit 154, o154 P) :: (nat_lit 155, o155 P) :: (nat_lit 172, o172 P) :: (nat_lit 173, o173 P) :: (nat_lit 179, o179 P) :: (nat_lit 180, o180 P) :: (nat_lit 193, o193 P) :: (nat_lit 194, o194 P) :: (nat_lit 200, o200 P) :: (nat_lit 201, o201 P) :: (nat_lit 207, o207 P) :: (nat_lit 208, o208 P) :: (nat_lit 214, o214 P) :: (nat_lit 215, o215 P) :: (nat_lit 229, o229 P) :: (nat_lit 230, o230 P) :: (nat_lit 247, o247 P) :: (nat_lit 248, o248 P) :: (nat_lit 254, o254 P) :: (nat_lit 255, o255 P) :: (nat_lit 257, o257 P) :: (nat_lit 258, o258 P) :: (nat_lit 275, o275 P) :: (nat_lit 276, o276 P) :: (nat_lit 289, o289 P) :: (nat_lit 290, o290 P) :: (nat_lit 292, o292 P) :: (nat_lit 293, o293 P) :: (nat_lit 303, o303 P) :: (nat_lit 304, o304 P) :: (nat_lit 310, o310 P) :: (nat_lit 311, o311 P) :: (nat_lit 317, o317 P) :: (nat_lit 318, o318 P) :: (nat_lit 331, o331 P) :: (nat_lit 332, o332 P) :: (nat_lit 339, o339 P) :: (nat_lit 340, o340 P) :: (nat_lit 426, o426 P) :: (nat_lit 427, o427 P) :: (nat_lit 454, o454 P) :: (nat_lit 455, o455 P) :: (nat_lit 459, o459 P) :: (nat_lit 460, o460 P) :: (nat_lit 466, o466 P) :: (nat_lit 467, o467 P) :: (nat_lit 473, o473 P) :: (nat_lit 474, o474 P) :: (nat_lit 476, o476 P) :: (nat_lit 477, o477 P) :: (nat_lit 487, o487 P) :: (nat_lit 488, o488 P) :: (nat_lit 494, o494 P) :: (nat_lit 495, o495 P) :: (nat_lit 501, o501 P) :: (nat_lit 502, o502 P) :: (nat_lit 508, o508 P) :: (nat_lit 509, o509 P) :: (nat_lit 513, o513 P) :: (nat_lit 514, o514 P) :: []
noncomputable def KA : List Addr := nat_lit 2 :: nat_lit 3 :: nat_lit 74 :: nat_lit 75 :: nat_lit 81 :: nat_lit 82 :: nat_lit 95 :: nat_lit 96 :: nat_lit 137 :: nat_lit 138 :: nat_lit 154 :: nat_lit 155 :: nat_lit 172 :: nat_lit 173 :: nat_lit 179 :: nat_lit 180 :: nat_lit 193 :: nat_lit 194 :: nat_lit 200 :: nat_lit 201 :: nat_lit 207 :: nat_lit 208 :: nat_lit 214 :: nat_lit 215 :: nat_lit 229 :: nat_lit 230 :: nat_lit 247 :: nat_lit 248 :: nat_lit 254 :: nat_lit 255 :: nat_lit 257 :: nat_lit 258 :: nat_lit 275 :: nat_lit 276 :: nat_lit 289 :: nat_lit 290 :: nat_lit 292 :: nat_lit 293 :: nat_lit 303 :: nat_lit 304 :: nat_lit 310 :: nat_lit 311 :: nat_lit 317 :: nat_lit 318 :: nat_lit 331 :: nat_lit 332 :: nat_lit 339 :: nat_lit 340 :: nat_lit 426 :: nat_lit 427 :: nat_lit 454 :: nat_lit 455 :: nat_lit 459 :: nat_lit 460 :: nat_lit 466 :: nat_lit 467 :: nat_lit 473 :: nat_lit 474 :: nat_lit 476 :: nat_lit 477 :: nat_lit 487 :: nat_lit 488 :: nat_lit 494 :: nat_lit 495 :: nat_lit 501 :: nat_lit 502 :: nat_lit 508 :: nat_lit 509 :: nat_lit 513 :: nat_lit 514 :: []
noncomputable def fnP (t : String) (st : Stmt) (qual : Str) (m cd : Value) : Obj := match st with
  | .FunctionDef name params body _ _ _ scope _ _ _ => ⟨.type t, none, .func { name := name, qualname := qual, params := params, body := .stmts body, scope := scope, globals := 3, closure := [], defaults := .none, kwdefaults := .none, pyModule := m, code := cd }, Array.mk []⟩
  | _ => ⟨.none, none, .plain, Array.mk []⟩
noncomputable def q2 (a : Nat → Str) (b : Nat → String) (e : Str → Tok → Value → DictEntry) : Obj := ⟨.none, none, .dict (Array.mk [e (a 240) 232 (.int (46) 0), e (a 241) 233 (.int (1) 0)]) 2, (Array.mk [])⟩
noncomputable def q3 (a : Nat → Str) (b : Nat → String) (e : Str → Tok → Value → DictEntry) : Obj := ⟨.type (b 1), none, .dict (Array.mk [e (a 42) 165 (.str (a 129) 989), e (a 242) 166 (.none), e (a 243) 167 (.none), e (a 244) 168 (.builtin (b 2)), e (a 245) 169 (.none), e (a 246) 170 (.ref 6), e (a 247) 171 (.ref 4), e (a 248) 173 (.str (a 250) 172), e (a 249) 174 (.none), e (a 47) 193 (.ref 21), e (a 29) 235 (.ref 46), e (a 16) 251 (.ref 59), e (a 12) 371 (.ref 155), e (a 194) 378 (.ref 166), e (a 86) 385 (.ref 173), e (a 58) 396 (.ref 180), e (a 26) 486 (.ref 230), e (a 17) 532 (.ref 258), e (a 34) 579 (.ref 293), e (a 50) 589 (.ref 304), e (a 53) 599 (.ref 311), e (a 192) 617 (.ref 318), e (a 25) 621 (.int (4) 620), e (a 18) 623 (.str (a 10) 622), e (a 11) 660 (.ref 340), e (a 76) 669 (.ref 351), e (a 75) 675 (.ref 356), e (a 101) 689 (.ref 363), e (a 147) 695 (.ref 368), e (a 204) 707 (.ref 375), e (a 21) 711 (.str ((a 0)) 710), e (a 23) 713 (.str ((a 1)) 712), e (a 19) 715 (.str ((a 2)) 714), e (a 20) 717 (.str ((a 3)) 716), e (a 28) 835 (.ref 376), e (a 30) 838 (.ref 379), e (a 24) 840 (.int (1114111) 839), e (a 56) 846 (.ref 384), e (a 127) 852 (.ref 389), e (a 113) 861 (.ref 396), e (a 119) 868 (.ref 403), e (a 125) 876 (.ref 410), e (a 167) 882 (.ref 415), e (a 109) 888 (.ref 420), e (a 232) 902 (.ref 427), e (a 206) 911 (.ref 434), e (a 71) 924 (.ref 441), e (a 15) 988 (.ref 477), e (a 43) 1000 (.ref 488), e (a 44) 1007 (.ref 495), e (a 46) 1014 (.ref 502), e (a 45) 1024 (.ref 509), e (a 128) 1030 (.ref 514)]) 53, (Array.mk [])⟩
noncomputable def q74 (a : Nat → Str) (b : Nat → String) (e : Str → Tok → Value → DictEntry) : Obj := ⟨.type (b 3), none, .fields (Array.mk [.str (a 41) 266, .str (a 251) 267, .str (a 250) 268, .int (19) 0, .int (3) 0, .int (0) 0, .int (0) 0, .int (3) 0, .ref 69, .bool true, .int (181) 0, .ref 70, .none, .ref 71, .ref 72, .ref 73, .int (272) 0, .int (19) 0, .str (a 250) 273]), (Array.mk [])⟩
noncomputable def q75 (a : Nat → Str) (b : Nat → String) (e : Str → Tok → Value → DictEntry) : Obj := fnP (b 0) (inClass (stmtAt (bodyP a) 5) 0) (a 251) (.str (a 160) 252) (.ref 74)
noncomputable def q81 (a : Nat → Str) (b : Nat → String) (e : Str → Tok → Value → DictEntry) : Obj := ⟨.type (b 3), none, .fields (Array.mk [.str (a 172) 275, .str (a 252) 276, .str (a 250) 277, .int (26) 0, .int (2) 0, .int (0) 0, .int (0) 0, .int (3) 0, .ref 76, .bool true, .int (181) 0, .ref 77, .none, .ref 78, .ref 79, .ref 80, .int (283) 0, .int (26) 0, .str (a 250) 284]), (Array.mk [])⟩
noncomputable def q82 (a : Nat → Str) (b : Nat → String) (e : Str → Tok → Value → DictEntry) : Obj := fnP (b 0) (inClass (stmtAt (bodyP a) 5) 1) (a 252) (.str (a 160) 252) (.ref 81)
noncomputable def q95 (a : Nat → Str) (b : Nat → String) (e : Str → Tok → Value → DictEntry) : Obj := ⟨.type (b 3), none, .fields (Array.mk [.str (a 215) 294, .str (a 253) 295, .str (a 250) 296, .int (33) 0, .int (2) 0, .int (0) 0, .int (0) 0, .int (3) 0, .ref 90, .bool true, .int (181) 0, .ref 91, .none, .ref 92, .ref 93, .ref 94, .int (300) 0, .int (33) 0, .str (a 250) 301]), (Array.mk [])⟩
noncomputable def q96 (a : Nat → Str) (b : Nat → String) (e : Str → Tok → Value → DictEntry) : Obj := fnP (b 0) (inClass (stmtAt (bodyP a) 5) 3) (a 253) (.str (a 160) 252) (.ref 95)
noncomputable def q137 (a : Nat → Str) (b : Nat → String) (e : Str → Tok → Value → DictEntry) : Obj := ⟨.type (b 3), none, .fields (Array.mk [.str (a 216) 340, .str (a 254) 341, .str (a 250) 342, .int (52) 0, .int (1) 0, .int (0) 0, .int (0) 0, .int (3) 0, .ref 132, .bool true, .int (181) 0, .ref 133, .none, .ref 134, .ref 135, .ref 136, .int (344) 0, .int (52) 0, .str (a 250) 345]), (Array.mk [])⟩
noncomputable def q138 (a : Nat → Str) (b : Nat → String) (e : Str → Tok → Value → DictEntry) : Obj := fnP (b 0) (inClass (stmtAt (bodyP a) 5) 9) (a 254) (.str (a 160) 252) (.ref 137)
noncomputable def q154 (a : Nat → Str) (b : Nat → String) (e : Str → Tok → Value → DictEntry) : Obj := ⟨.type (b 1), none, .dict (Array.mk [e (a 255) 261 (.str (a 160) 252), e (a 256) 265 (.int (17) 264), e (a 41) 274 (.ref 75), e (a 172) 285 (.ref 82), e (a 142) 293 (.ref 89), e (a 215) 302 (.ref 96), e (a 146) 309 (.ref 103), e (a 78) 317 (.ref 110), e (a 120) 324 (.ref 117), e (a 103) 331 (.ref 124), e (a 185) 339 (.ref 131), e (a 216) 346 (.ref 138), e (a 211) 354 (.ref 145), e (a 130) 361 (.ref 152), e (a 257) 364 (.ref 153), e (a 258) 366 (.ref 156), e (a 259) 368 (.ref 157), e (a 242) 369 (.none)]) 4, (Array.mk [])⟩
noncomputable def q155 (a : Nat → Str) (b : Nat → String) (e : Str → Tok → Value → DictEntry) : Obj := ⟨.type (b 4), none, .cls { name := (a 12), bases := [.type (b 5)], mro := [.ref 155, .type (b 5)], ns := 154, qualname := (a 12) }, (Array.mk [none, none, some (.str (a 12) 254), some (.str (a 12) 262), some (.builtin (b 6)), some (.bool true)])⟩
noncomputable def q172 (a : Nat → Str) (b : Nat → String) (e : Str → Tok → Value → DictEntry) : Obj := ⟨.type (b 3), none, .fields (Array.mk [.str (a 86) 379, .str (a 86) 380, .str (a 250) 381, .int (66) 0, .int (1) 0, .int (0) 0, .int (0) 0, .int (3) 0, .ref 167, .bool true, .int (181) 0, .ref 168, .none, .ref 169, .ref 170, .ref 171, .int (383) 0, .int (66) 0, .str (a 250) 384]), (Array.mk [])⟩
noncomputable def q173 (a : Nat → Str) (b : Nat → String) (e : Str → Tok → Value → DictEntry) : Obj := fnP (b 0) (stmtAt (bodyP a) 7) (a 86) (.str (a 160) 252) (.ref 172)
noncomputable def q179 (a : Nat → Str) (b : Nat → String) (e : Str → Tok → Value → DictEntry) : Obj := ⟨.type (b 3), none, .fields (Array.mk [.str (a 58) 386, .str (a 58) 387, .str (a 250) 388, .int (72) 0, .int (2) 0, .int (0) 0, .int (0) 0, .int (3) 0, .ref 174, .bool true, .int (181) 0, .ref 175, .none, .ref 176, .ref 177, .ref 178, .int (394) 0, .int (72) 0, .str (a 250) 395]), (Array.mk [])⟩
noncomputable def q180 (a : Nat → Str) (b : Nat → String) (e : Str → Tok → Value → DictEntry) : Obj := fnP (b 0) (stmtAt (bodyP a) 8) (a 58) (.str (a 160) 252) (.ref 179)
noncomputable def q193 (a : Nat → Str) (b : Nat → String) (e : Str → Tok → Value → DictEntry) : Obj := ⟨.type (b 3), none, .fields (Array.mk [.str (a 41) 411, .str (a 260) 412, .str (a 250) 413, .int (80) 0, .int (7) 0, .int (0) 0, .int (0) 0, .int (3) 0, .ref 188, .bool true, .int (181) 0, .ref 189, .none, .ref 190, .ref 191, .ref 192, .int (421) 0, .int (80) 0, .str (a 250) 422]), (Array.mk [])⟩
noncomputable def q194 (a : Nat → Str) (b : Nat → String) (e : Str → Tok → Value → DictEntry) : Obj := fnP (b 0) (inClass (stmtAt (bodyP a) 10) 0) (a 260) (.str (a 164) 397) (.ref 193)
noncomputable def q200 (a : Nat → Str) (b : Nat → String) (e : Str → Tok → Value → DictEntry) : Obj := ⟨.type (b 3), none, .fields (Array.mk [.str (a 215) 424, .str (a 261) 425, .str (a 250) 426, .int (88) 0, .int (2) 0, .int (0) 0, .int (0) 0, .int (3) 0, .ref 195, .bool true, .int (181) 0, .ref 196, .none, .ref 197, .ref 198, .ref 199, .int (435) 0, .int (88) 0, .str (a 250) 436]), (Array.mk [])⟩
noncomputable def q201 (a : Nat → Str) (b : Nat → String) (e : Str → Tok → Value → DictEntry) : Obj := fnP (b 0) (inClass (stmtAt (bodyP a) 10) 1) (a 261) (.str (a 164) 397) (.ref 200)
noncomputable def q207 (a : Nat → Str) (b : Nat → String) (e : Str → Tok → Value → DictEntry) : Obj := ⟨.type (b 3), none, .fields (Array.mk [.str (a 55) 438, .str (a 262) 439, .str (a 250) 440, .int (96) 0, .int (3) 0, .int (0) 0, .int (0) 0, .int (3) 0, .ref 202, .bool true, .int (181) 0, .ref 203, .none, .ref 204, .ref 205, .ref 206, .int (446) 0, .int (96) 0, .str (a 250) 447]), (Array.mk [])⟩
noncomputable def q208 (a : Nat → Str) (b : Nat → String) (e : Str → Tok → Value → DictEntry) : Obj := fnP (b 0) (inClass (stmtAt (bodyP a) 10) 2) (a 262) (.str (a 164) 397) (.ref 207)
noncomputable def q214 (a : Nat → Str) (b : Nat → String) (e : Str → Tok → Value → DictEntry) : Obj := ⟨.type (b 3), none, .fields (Array.mk [.str (a 191) 449, .str (a 263) 450, .str (a 250) 451, .int (101) 0, .int (3) 0, .int (0) 0, .int (0) 0, .int (3) 0, .ref 209, .bool true, .int (181) 0, .ref 210, .none, .ref 211, .ref 212, .ref 213, .int (457) 0, .int (101) 0, .str (a 250) 458]), (Array.mk [])⟩
noncomputable def q215 (a : Nat → Str) (b : Nat → String) (e : Str → Tok → Value → DictEntry) : Obj := fnP (b 0) (inClass (stmtAt (bodyP a) 10) 3) (a 263) (.str (a 164) 397) (.ref 214)
noncomputable def q229 (a : Nat → Str) (b : Nat → String) (e : Str → Tok → Value → DictEntry) : Obj := ⟨.type (b 1), none, .dict (Array.mk [e (a 255) 406 (.str (a 164) 397), e (a 256) 410 (.int (78) 409), e (a 41) 423 (.ref 194), e (a 215) 437 (.ref 201), e (a 55) 448 (.ref 208), e (a 191) 459 (.ref 215), e (a 168) 466 (.ref 222), e (a 216) 472 (.ref 227), e (a 257) 479 (.ref 228), e (a 258) 481 (.ref 231), e (a 259) 483 (.ref 232), e (a 242) 484 (.none)]) 4, (Array.mk [])⟩
noncomputable def q230 (a : Nat → Str) (b : Nat → String) (e : Str → Tok → Value → DictEntry) : Obj := ⟨.type (b 4), none, .cls { name := (a 26), bases := [.type (b 5)], mro := [.ref 230, .type (b 5)], ns := 229, qualname := (a 26) }, (Array.mk [none, none, some (.str (a 26) 399), some (.str (a 26) 407), some (.builtin (b 6)), some (.bool true)])⟩
noncomputable def q247 (a : Nat → Str) (b : Nat → String) (e : Str → Tok → Value → DictEntry) : Obj := ⟨.type (b 3), none, .fields (Array.mk [.str (a 41) 501, .str (a 264) 502, .str (a 250) 503, .int (114) 0, .int (6) 0, .int (0) 0, .int (0) 0, .int (3) 0, .ref 242, .bool true, .int (181) 0, .ref 243, .none, .ref 244, .ref 245, .ref 246, .int (510) 0, .int (114) 0, .str (a 250) 511]), (Array.mk [])⟩
noncomputable def q248 (a : Nat → Str) (b : Nat → String) (e : Str → Tok → Value → DictEntry) : Obj := fnP (b 0) (inClass (stmtAt (bodyP a) 12) 0) (a 264) (.str (a 165) 487) (.ref 247)
noncomputable def q254 (a : Nat → Str) (b : Nat → String) (e : Str → Tok → Value → DictEntry) : Obj := ⟨.type (b 3), none, .fields (Array.mk [.str (a 216) 513, .str (a 265) 514, .str (a 250) 515, .int (121) 0, .int (1) 0, .int (0) 0, .int (0) 0, .int (3) 0, .ref 249, .bool true, .int (181) 0, .ref 250, .none, .ref 251, .ref 252, .ref 253, .int (517) 0, .int (121) 0, .str (a 250) 518]), (Array.mk [])⟩
noncomputable def q255 (a : Nat → Str) (b : Nat → String) (e : Str → Tok → Value → DictEntry) : Obj := fnP (b 0) (inClass (stmtAt (bodyP a) 12) 1) (a 265) (.str (a 165) 487) (.ref 254)
noncomputable def q257 (a : Nat → Str) (b : Nat → String) (e : Str → Tok → Value → DictEntry) : Obj := ⟨.type (b 1), none, .dict (Array.mk [e (a 255) 496 (.str (a 165) 487), e (a 256) 500 (.int (112) 499), e (a 41) 512 (.ref 248), e (a 216) 519 (.ref 255), e (a 257) 525 (.ref 256), e (a 258) 527 (.ref 259), e (a 259) 529 (.ref 260), e (a 242) 530 (.none)]) 4, (Array.mk [])⟩
noncomputable def q258 (a : Nat → Str) (b : Nat → String) (e : Str → Tok → Value → DictEntry) : Obj := ⟨.type (b 4), none, .cls { name := (a 17), bases := [.type (b 5)], mro := [.ref 258, .type (b 5)], ns := 257, qualname := (a 17) }, (Array.mk [none, none, some (.str (a 17) 489), some (.str (a 17) 497), some (.builtin (b 6)), some (.bool true)])⟩
noncomputable def q275 (a : Nat → Str) (b : Nat → String) (e : Str → Tok → Value → DictEntry) : Obj := ⟨.type (b 3), none, .fields (Array.mk [.str (a 41) 545, .str (a 266) 546, .str (a 250) 547, .int (125) 0, .int (2) 0, .int (0) 0, .int (0) 0, .int (3) 0, .ref 270, .bool true, .int (181) 0, .ref 271, .none, .ref 272, .ref 273, .ref 274, .int (550) 0, .int (125) 0, .str (a 250) 551]), (Array.mk [])⟩
noncomputable def q276 (a : Nat → Str) (b : Nat → String) (e : Str → Tok → Value → DictEntry) : Obj := fnP (b 0) (inClass (stmtAt (bodyP a) 13) 0) (a 266) (.str (a 165) 487) (.ref 275)
noncomputable def q289 (a : Nat → Str) (b : Nat → String) (e : Str → Tok → Value → DictEntry) : Obj := ⟨.type (b 3), none, .fields (Array.mk [.str (a 209) 560, .str (a 267) 561, .str (a 250) 562, .int (134) 0, .int (2) 0, .int (0) 0, .int (0) 0, .int (3) 0, .ref 284, .bool true, .int (181) 0, .ref 285, .none, .ref 286, .ref 287, .ref 288, .int (565) 0, .int (134) 0, .str (a 250) 566]), (Array.mk [])⟩
noncomputable def q290 (a : Nat → Str) (b : Nat → String) (e : Str → Tok → Value → DictEntry) : Obj := fnP (b 0) (inClass (stmtAt (bodyP a) 13) 2) (a 267) (.str (a 165) 487) (.ref 289)
noncomputable def q292 (a : Nat → Str) (b : Nat → String) (e : Str → Tok → Value → DictEntry) : Obj := ⟨.type (b 1), none, .dict (Array.mk [e (a 255) 540 (.str (a 165) 487), e (a 256) 544 (.int (123) 543), e (a 41) 552 (.ref 276), e (a 79) 559 (.ref 283), e (a 209) 567 (.ref 290), e (a 257) 572 (.ref 291), e (a 258) 574 (.ref 294), e (a 259) 576 (.ref 295), e (a 242) 577 (.none)]) 4, (Array.mk [])⟩
noncomputable def q293 (a : Nat → Str) (b : Nat → String) (e : Str → Tok → Value → DictEntry) : Obj := ⟨.type (b 4), none, .cls { name := (a 34), bases := [.type (b 5)], mro := [.ref 293, .type (b 5)], ns := 292, qualname := (a 34) }, (Array.mk [none, none, some (.str (a 34) 533), some (.str (a 34) 541), some (.builtin (b 6)), some (.bool true)])⟩
noncomputable def q303 (a : Nat → Str) (b : Nat → String) (e : Str → Tok → Value → DictEntry) : Obj := ⟨.type (b 3), none, .fields (Array.mk [.str (a 50) 580, .str (a 50) 581, .str (a 250) 582, .int (136) 0, .int (2) 0, .int (0) 0, .int (0) 0, .int (3) 0, .ref 298, .bool true, .int (181) 0, .ref 299, .none, .ref 300, .ref 301, .ref 302, .int (587) 0, .int (136) 0, .str (a 250) 588]), (Array.mk [])⟩
noncomputable def q304 (a : Nat → Str) (b : Nat → String) (e : Str → Tok → Value → DictEntry) : Obj := fnP (b 0) (stmtAt (bodyP a) 14) (a 50) (.str (a 165) 487) (.ref 303)
noncomputable def q310 (a : Nat → Str) (b : Nat → String) (e : Str → Tok → Value → DictEntry) : Obj := ⟨.type (b 3), none, .fields (Array.mk [.str (a 53) 590, .str (a 53) 591, .str (a 250) 592, .int (142) 0, .int (2) 0, .int (0) 0, .int (0) 0, .int (3) 0, .ref 305, .bool true, .int (181) 0, .ref 306, .none, .ref 307, .ref 308, .ref 309, .int (597) 0, .int (142) 0, .str (a 250) 598]), (Array.mk [])⟩
noncomputable def q311 (a : Nat → Str) (b : Nat → String) (e : Str → Tok → Value → DictEntry) : Obj := fnP (b 0) (stmtAt (bodyP a) 15) (a 53) (.str (a 165) 487) (.ref 310)
noncomputable def q317 (a : Nat → Str) (b : Nat → String) (e : Str → Tok → Value → DictEntry) : Obj := ⟨.type (b 3), none, .fields (Array.mk [.str (a 192) 600, .str (a 192) 601, .str (a 250) 602, .int (145) 0, .int (3) 0, .int (0) 0, .int (0) 0, .int (3) 0, .ref 312, .bool true, .int (181) 0, .ref 313, .none, .ref 314, .ref 315, .ref 316, .int (615) 0, .int (145) 0, .str (a 250) 616]), (Array.mk [])⟩
noncomputable def q318 (a : Nat → Str) (b : Nat → String) (e : Str → Tok → Value → DictEntry) : Obj := fnP (b 0) (stmtAt (bodyP a) 16) (a 192) (.str (a 165) 487) (.ref 317)
noncomputable def q331 (a : Nat → Str) (b : Nat → String) (e : Str → Tok → Value → DictEntry) : Obj := ⟨.type (b 3), none, .fields (Array.mk [.str (a 41) 636, .str (a 268) 637, .str (a 250) 638, .int (163) 0, .int (3) 0, .int (0) 0, .int (0) 0, .int (3) 0, .ref 326, .bool true, .int (181) 0, .ref 327, .none, .ref 328, .ref 329, .ref 330, .int (642) 0, .int (163) 0, .str (a 250) 643]), (Array.mk [])⟩
noncomputable def q332 (a : Nat → Str) (b : Nat → String) (e : Str → Tok → Value → DictEntry) : Obj := fnP (b 0) (inClass (stmtAt (bodyP a) 20) 0) (a 268) (.str (a 159) 618) (.ref 331)
noncomputable def q339 (a : Nat → Str) (b : Nat → String) (e : Str → Tok → Value → DictEntry) : Obj := ⟨.type (b 1), none, .dict (Array.mk [e (a 255) 631 (.str (a 159) 618), e (a 256) 635 (.int (161) 634), e (a 41) 644 (.ref 332), e (a 216) 650 (.ref 337), e (a 257) 653 (.ref 338), e (a 258) 655 (.ref 341), e (a 259) 657 (.ref 342), e (a 242) 658 (.none)]) 4, (Array.mk [])⟩
noncomputable def q340 (a : Nat → Str) (b : Nat → String) (e : Str → Tok → Value → DictEntry) : Obj := ⟨.type (b 4), none, .cls { name := (a 11), bases := [.type (b 5)], mro := [.ref 340, .type (b 5)], ns := 339, qualname := (a 11) }, (Array.mk [none, none, some (.str (a 11) 624), some (.str (a 11) 632), some (.builtin (b 6)), some (.bool true)])⟩
noncomputable def q426 (a : Nat → Str) (b : Nat → String) (e : Str → Tok → Value → DictEntry) : Obj := ⟨.type (b 3), none, .fields (Array.mk [.str (a 232) 891, .str (a 232) 892, .str (a 250) 893, .int (254) 0, .int (3) 0, .int (0) 0, .int (0) 0, .int (3) 0, .ref 421, .bool true, .int (181) 0, .ref 422, .none, .ref 423, .ref 424, .ref 425, .int (900) 0, .int (254) 0, .str (a 250) 901]), (Array.mk [])⟩
noncomputable def q427 (a : Nat → Str) (b : Nat → String) (e : Str → Tok → Value → DictEntry) : Obj := fnP (b 0) (stmtAt (bodyP a) 42) (a 232) (.str (a 163) 889) (.ref 426)
noncomputable def q454 (a : Nat → Str) (b : Nat → String) (e : Str → Tok → Value → DictEntry) : Obj := ⟨.type (b 3), none, .fields (Array.mk [.str (a 41) 937, .str (a 269) 938, .str (a 250) 939, .int (270) 0, .int (8) 0, .int (0) 0, .int (0) 0, .int (3) 0, .ref 449, .bool true, .int (181) 0, .ref 450, .none, .ref 451, .ref 452, .ref 453, .int (948) 0, .int (270) 0, .str (a 250) 949]), (Array.mk [])⟩
noncomputable def q455 (a : Nat → Str) (b : Nat → String) (e : Str → Tok → Value → DictEntry) : Obj := fnP (b 0) (inClass (stmtAt (bodyP a) 45) 0) (a 269) (.str (a 163) 889) (.ref 454)
noncomputable def q459 (a : Nat → Str) (b : Nat → String) (e : Str → Tok → Value → DictEntry) : Obj := ⟨.type (b 3), none, .fields (Array.mk [.str (a 77) 951, .str (a 270) 952, .str (a 250) 953, .int (279) 0, .int (2) 0, .int (0) 0, .int (0) 0, .int (3) 0, .ref 456, .bool true, .int (181) 0, .ref 457, .none, .none, .none, .ref 458, .int (954) 0, .int (279) 0, .str (a 250) 955]), (Array.mk [])⟩
noncomputable def q460 (a : Nat → Str) (b : Nat → String) (e : Str → Tok → Value → DictEntry) : Obj := fnP (b 0) (inClass (stmtAt (bodyP a) 45) 1) (a 270) (.str (a 163) 889) (.ref 459)
noncomputable def q466 (a : Nat → Str) (b : Nat → String) (e : Str → Tok → Value → DictEntry) : Obj := ⟨.type (b 3), none, .fields (Array.mk [.str (a 231) 957, .str (a 271) 958, .str (a 250) 959, .int (284) 0, .int (2) 0, .int (0) 0, .int (0) 0, .int (3) 0, .ref 461, .bool true, .int (181) 0, .ref 462, .none, .ref 463, .ref 464, .ref 465, .int (963) 0, .int (284) 0, .str (a 250) 964]), (Array.mk [])⟩
noncomputable def q467 (a : Nat → Str) (b : Nat → String) (e : Str → Tok → Value → DictEntry) : Obj := fnP (b 0) (inClass (stmtAt (bodyP a) 45) 2) (a 271) (.str (a 163) 889) (.ref 466)
noncomputable def q473 (a : Nat → Str) (b : Nat → String) (e : Str → Tok → Value → DictEntry) : Obj := ⟨.type (b 3), none, .fields (Array.mk [.str (a 211) 966, .str (a 272) 967, .str (a 250) 968, .int (291) 0, .int (2) 0, .int (0) 0, .int (0) 0, .int (3) 0, .ref 468, .bool true, .int (181) 0, .ref 469, .none, .ref 470, .ref 471, .ref 472, .int (971) 0, .int (291) 0, .str (a 250) 972]), (Array.mk [])⟩
noncomputable def q474 (a : Nat → Str) (b : Nat → String) (e : Str → Tok → Value → DictEntry) : Obj := fnP (b 0) (inClass (stmtAt (bodyP a) 45) 3) (a 272) (.str (a 163) 889) (.ref 473)
noncomputable def q476 (a : Nat → Str) (b : Nat → String) (e : Str → Tok → Value → DictEntry) : Obj := ⟨.type (b 1), none, .dict (Array.mk [e (a 255) 932 (.str (a 163) 889), e (a 256) 936 (.int (268) 935), e (a 41) 950 (.ref 455), e (a 77) 956 (.ref 460), e (a 231) 965 (.ref 467), e (a 211) 973 (.ref 474), e (a 257) 981 (.ref 475), e (a 258) 983 (.ref 478), e (a 259) 985 (.ref 479), e (a 242) 986 (.none)]) 4, (Array.mk [])⟩
noncomputable def q477 (a : Nat → Str) (b : Nat → String) (e : Str → Tok → Value → DictEntry) : Obj := ⟨.type (b 4), none, .cls { name := (a 15), bases := [.type (b 5)], mro := [.ref 477, .type (b 5)], ns := 476, qualname := (a 15) }, (Array.mk [none, none, some (.str (a 15) 925), some (.str (a 15) 933), some (.builtin (b 6)), some (.bool true)])⟩
noncomputable def q487 (a : Nat → Str) (b : Nat → String) (e : Str → Tok → Value → DictEntry) : Obj := ⟨.type (b 3), none, .fields (Array.mk [.str (a 43) 991, .str (a 43) 992, .str (a 250) 993, .int (296) 0, .int (2) 0, .int (0) 0, .int (0) 0, .int (3) 0, .ref 482, .bool true, .int (181) 0, .ref 483, .none, .ref 484, .ref 485, .ref 486, .int (998) 0, .int (296) 0, .str (a 250) 999]), (Array.mk [])⟩
noncomputable def q488 (a : Nat → Str) (b : Nat → String) (e : Str → Tok → Value → DictEntry) : Obj := fnP (b 0) (stmtAt (bodyP a) 47) (a 43) (.str (a 129) 989) (.ref 487)
noncomputable def q494 (a : Nat → Str) (b : Nat → String) (e : Str → Tok → Value → DictEntry) : Obj := ⟨.type (b 3), none, .fields (Array.mk [.str (a 44) 1001, .str (a 44) 1002, .str (a 250) 1003, .int (301) 0, .int (0) 0, .int (0) 0, .int (0) 0, .int (3) 0, .ref 489, .bool true, .int (181) 0, .ref 490, .none, .ref 491, .ref 492, .ref 493, .int (1005) 0, .int (301) 0, .str (a 250) 1006]), (Array.mk [])⟩
noncomputable def q495 (a : Nat → Str) (b : Nat → String) (e : Str → Tok → Value → DictEntry) : Obj := fnP (b 0) (stmtAt (bodyP a) 48) (a 44) (.str (a 129) 989) (.ref 494)
noncomputable def q501 (a : Nat → Str) (b : Nat → String) (e : Str → Tok → Value → DictEntry) : Obj := ⟨.type (b 3), none, .fields (Array.mk [.str (a 46) 1008, .str (a 46) 1009, .str (a 250) 1010, .int (304) 0, .int (1) 0, .int (0) 0, .int (0) 0, .int (3) 0, .ref 496, .bool true, .int (181) 0, .ref 497, .none, .ref 498, .ref 499, .ref 500, .int (1012) 0, .int (304) 0, .str (a 250) 1013]), (Array.mk [])⟩
noncomputable def q502 (a : Nat → Str) (b : Nat → String) (e : Str → Tok → Value → DictEntry) : Obj := fnP (b 0) (stmtAt (bodyP a) 49) (a 46) (.str (a 129) 989) (.ref 501)
noncomputable def q508 (a : Nat → Str) (b : Nat → String) (e : Str → Tok → Value → DictEntry) : Obj := ⟨.type (b 3), none, .fields (Array.mk [.str (a 45) 1015, .str (a 45) 1016, .str (a 250) 1017, .int (306) 0, .int (2) 0, .int (0) 0, .int (0) 0, .int (3) 0, .ref 503, .bool true, .int (181) 0, .ref 504, .none, .ref 505, .ref 506, .ref 507, .int (1022) 0, .int (306) 0, .str (a 250) 1023]), (Array.mk [])⟩
noncomputable def q509 (a : Nat → Str) (b : Nat → String) (e : Str → Tok → Value → DictEntry) : Obj := fnP (b 0) (stmtAt (bodyP a) 50) (a 45) (.str (a 129) 989) (.ref 508)
noncomputable def q513 (a : Nat → Str) (b : Nat → String) (e : Str → Tok → Value → DictEntry) : Obj := ⟨.type (b 3), none, .fields (Array.mk [.str (a 128) 1025, .str (a 128) 1026, .str (a 250) 1027, .int (309) 0, .int (1) 0, .int (0) 0, .int (0) 0, .int (3) 0, .ref 510, .bool true, .int (181) 0, .ref 511, .none, .none, .none, .ref 512, .int (1028) 0, .int (309) 0, .str (a 250) 1029]), (Array.mk [])⟩
noncomputable def q514 (a : Nat → Str) (b : Nat → String) (e : Str → Tok → Value → DictEntry) : Obj := fnP (b 0) (stmtAt (bodyP a) 51) (a 128) (.str (a 129) 989) (.ref 513)
noncomputable def KP (a : Nat → Str) (b : Nat → String) (e : Str → Tok → Value → DictEntry) : Frag := (nat_lit 2, q2 a b e) :: (nat_lit 3, q3 a b e) :: (nat_lit 74, q74 a b e) :: (nat_lit 75, q75 a b e) :: (nat_lit 81, q81 a b e) :: (nat_lit 82, q82 a b e) :: (nat_lit 95, q95 a b e) :: (nat_lit 96, q96 a b e) :: (nat_lit 137, q137 a b e) :: (nat_lit 138, q138 a b e) :: (nat_lit 154, q154 a b e) :: (nat_lit 155, q155 a b e) :: (nat_lit 172, q172 a b e) :: (nat_lit 173, q173 a b e) :: (nat_lit 179, q179 a b e) :: (nat_lit 180, q180 a b e) :: (nat_lit 193, q193 a b e) :: (nat_lit 194, q194 a b e) :: (nat_lit 200, q200 a b e) :: (nat_lit 201, q201 a b e) :: (nat_lit 207, q207 a b e) :: (nat_lit 208, q208 a b e) :: (nat_lit 214, q214 a b e) :: (nat_lit 215, q215 a b e) :: (nat_lit 229, q229 a b e) :: (nat_lit 230, q230 a b e) :: (nat_lit 247, q247 a b e) :: (nat_lit 248, q248 a b e) :: (nat_lit 254, q254 a b e) :: (nat_lit 255, q255 a b e) :: (nat_lit 257, q257 a b e) :: (nat_lit 258, q258 a b e) :: (nat_lit 275, q275 a b e) :: (nat_lit 276, q276 a b e) :: (nat_lit 289, q289 a b e) :: (nat_lit 290, q290 a b e) :: (nat_lit 292, q292 a b e) :: (nat_lit 293, q293 a b e) :: (nat_lit 303, q303 a b e) :: (nat_lit 304, q304 a b e) :: (nat_lit 310, q310 a b e) :: (nat_lit 311, q311 a b e) :: (nat_lit 317, q317 a b e) :: (nat_lit 318, q318 a b e) :: (nat_lit 331, q331 a b e) :: (nat_lit 332, q332 a b e) :: (nat_lit 339, q339 a b e) :: (nat_lit 340, q340 a b e) :: (nat_lit 426, q426 a b e) :: (nat_lit 427, q427 a b e) :: (nat_lit 454, q454 a b e) :: (nat_lit 455, q455 a b e) :: (nat_lit 459, q459 a b e) :: (nat_lit 460, q460 a b e) :: (nat_lit 466, q466 a b e) :: (nat_lit 467, q467 a b e) :: (nat_lit 473, q473 a b e) :: (nat_lit 474, q474 a b e) :: (nat_lit 476, q476 a b e) :: (nat_lit 477, q477 a b e) :: (nat_lit 487, q487 a b e) :: (nat_lit 488, q488 a b e) :: (nat_lit 494, q494 a b e) :: (nat_lit 495, q495 a b e) :: (nat_lit 501, q501 a b e) :: (nat_lit 502, q502 a b e) :: (nat_lit 508, q508 a b e) :: (nat_lit 509, q509 a b e) :: (nat_lit 513, q513 a b e) :: (nat_lit 514, q514 a b e) :: []
noncomputable def eO (P : Params) (x : Str) (t : Tok) (v : Value) : DictEntry := ⟨PyData.keyHash P x, .str x t, v⟩
noncomputable def KF (P : Params) : Frag := KP atQ bT (eO P)
theorem KO_eq : (fun P => KP atO bT (eO P)) = KK := by kernel_rfl
theorem KF_eq : KF = KK := by
  unfold KF
  rw [← at_eq]
  exact KO_eq
noncomputable def looseP (a : Nat → Str) : List Str := (a 47) :: (a 29) :: (a 16) :: (a 12) :: (a 194) :: (a 86) :: (a 58) :: (a 26) :: (a 17) :: (a 34) :: (a 50) :: (a 53) :: (a 192) :: (a 25) :: (a 18) :: (a 11) :: (a 76) :: (a 75) :: (a 101) :: (a 147) :: (a 204) :: (a 21) :: (a 23) :: (a 19) :: (a 20) :: (a 28) :: (a 30) :: (a 24) :: (a 56) :: (a 127) :: (a 113) :: (a 119) :: (a 125) :: (a 167) :: (a 109) :: (a 232) :: (a 206) :: (a 71) :: (a 15) :: (a 43) :: (a 44) :: (a 46) :: (a 45) :: []
noncomputable def pP (a : Nat → Str) : Program := { main := { body := bodyP a, scope := scP a, futureAnnotations := false, file := (a 250), more := [] }, modules := [], parses := [], absent := [], harvested := [], given := { argv := [], stdin := [], environ := (some [([76, 67, 95, 65, 76, 76], [67, 46, 85, 84, 70, 45, 56])]) } }
noncomputable def pF : Program := pP atQ
theorem pO_eq : pP atO = pE := by kernel_rfl
theorem pF_eq : pF = pE := by
  unfold pF
  rw [← at_eq]
  exact pO_eq
noncomputable def lawSt : Stmt := by
  refine (?f : (x : Stmt) → stmtAt pE.main.body 51 = x → Stmt) ?x ?h
  case f => exact fun x _ => x
  case h => conv => { lhs; whnf }
noncomputable def qE : Program := { pE with main := { pE.main with body := [lawSt] } }
noncomputable def qP (a : Nat → Str) : Program := { pP a with main := { (pP a).main with body := [stmtAt (bodyP a) 51] } }
noncomputable def qF : Program := qP atQ
theorem qO_eq : qP atO = qE := by kernel_rfl
theorem qF_eq : qF = qE := by
  unfold qF
  rw [← at_eq]
  exact qO_eq
set_option maxHeartbeats 4000000
noncomputable def envE : Env := { scope := pF.main.scope, locals := mainNs, globals := mainNs, cells := [], code := .ref 13, frame := some 14 }
noncomputable def cE : Code := .body (behindTheImports pF) envE
noncomputable abbrev p0 : Pos := ⟨0, 0, 0, 0⟩
noncomputable abbrev annE : Option Value := some (.ref 6)
noncomputable def n11 (_ : Params) : Obj := { cls := .type "tuple", data := .seq #[] }
noncomputable def n12 (_ : Params) : Obj := { cls := .none, data := .fields #[] }
noncomputable def n13 (_ : Params) : Obj := { cls := .type "code", data := .fields #[vs "<module>" 182, vs "<module>" 183, vs "/claim/cut.py" 184, .int 1 0, .int 0 0, .int 0 0, .int 0 0, .int 0 0, .ref 11, .bool false, .int 181 0, .ref 12, .none, .none, .none, .none, .int 185 0, .int 1 0, vs "/claim/cut.py" 186] }
noncomputable def n14 (_ : Params) : Obj := { cls := .type "frame", slots := #[some (.ref 13), some (.ref 3), some (.ref 3), none, some (vs "__main__" 164), none, some (.ref 0)] }
noncomputable def heapA (P : Params) : Heap := { objs := Array.mk (boot_o_0 P :: boot_o_1 P :: boot_o_2 P :: boot_o_3 P :: boot_o_4 P :: boot_o_5 P :: boot_o_6 P :: boot_o_7 P :: boot_o_8 P :: boot_o_9 P :: boot_o_10 P :: n11 P :: n12 P :: n13 P :: n14 P :: []) }
noncomputable def leaf (o : Obj) : BT := .node o .nil .nil
noncomputable def treeA (P : Params) : BT :=
  .node (boot_o_0 P)
    (.node (boot_o_1 P) (.node (boot_o_3 P) (leaf (boot_o_7 P)) (leaf (n11 P))) (.node (boot_o_5 P) (leaf (boot_o_9 P)) (leaf (n13 P))))
    (.node (boot_o_2 P) (.node (boot_o_4 P) (leaf (boot_o_8 P)) (leaf (n12 P))) (.node (boot_o_6 P) (leaf (boot_o_10 P)) (leaf (n14 P))))
noncomputable abbrev stA (P : Params) (os : OsState) : SharedT := { tree := treeA P, n := 15, life := {}, gens := Array.mk [], drawn := {}, toks := 187, os := os }

-- the twelve steps ahead of the text, and its first
noncomputable def preL (w : World) (os : OsState) : Option (Shared × Thread) := topGo treeTable pF w 11 annE 12 ⟨boot_heap w.params, Array.mk [], boot_drawn, boot_toks, os⟩ (topStub pF)
noncomputable def preR (w : World) (os : OsState) : Option (Shared × Thread) := some (⟨heapA w.params, Array.mk [], {}, 187, os⟩, ⟨denote treeTable cE, cE, p0, [topFrame p0]⟩)
noncomputable def blkL (w : World) (os : OsState) : Option (Flow × Shared × Code × Pos) := segRun treeTable pF w 11 annE 1 1 ⟨heapA w.params, Array.mk [], {}, 187, os⟩ (blockOf (behindTheImports pF) envE cE p0 [topFrame p0])
noncomputable def blkR (w : World) (os : OsState) : Option (Flow × Shared × Code × Pos) := some (.next, (stA w.params os).abs, cE, p0)
theorem preL_eq : Og.preL = Og.preL := rfl
theorem preR_eq : Og.preR = Og.preR := rfl
theorem blkL_eq : Og.blkL = Og.blkL := rfl
theorem blkR_eq : Og.blkR = Og.blkR := rfl
name_quick OgPreL for Og.preL by Og.preL_eq
name_quick OgPreR for Og.preR by Og.preR_eq
name_quick OgBlkL for Og.blkL by Og.blkL_eq
name_quick OgBlkR for Og.blkR by Og.blkR_eq
theorem preQ (w : World) : (fun os => Fast.OgPreL w os) = fun os => Fast.OgPreR w os := by kernel_rfl
theorem blkQ (w : World) : (fun os => Fast.OgBlkL w os) = fun os => Fast.OgBlkR w os := by kernel_rfl
theorem pre (w : World) (os : OsState) : preL w os = preR w os := by
  rw [Fast.OgPreL_eq, Fast.OgPreR_eq]; exact congrFun (preQ w) os
theorem blk (w : World) (os : OsState) : blkL w os = blkR w os := by
  rw [Fast.OgBlkL_eq, Fast.OgBlkR_eq]; exact congrFun (blkQ w) os
noncomputable def looseE : List Str := Str.ofString "_wall" :: Str.ofString "PaperError" :: Str.ofString "FontFault" :: Str.ofString "Decimal" :: Str.ofString "sign_text" :: Str.ofString "decimal_of" :: Str.ofString "at_one_scale" :: Str.ofString "Matrix" :: Str.ofString "Glyph" :: Str.ofString "TextState" :: Str.ofString "advance" :: Str.ofString "along" :: Str.ofString "shown_glyphs" :: Str.ofString "MOST_LENGTH" :: Str.ofString "HEX_SIGNS" :: Str.ofString "CMap" :: Str.ofString "code_of" :: Str.ofString "code_octets" :: Str.ofString "fitting" :: Str.ofString "next_length" :: Str.ofString "split_codes" :: Str.ofString "LOW_NAMES" :: Str.ofString "MIDDLE_NAMES" :: Str.ofString "HIGH_NAMES" :: Str.ofString "LATIN_NAMES" :: Str.ofString "OTHER_CODES" :: Str.ofString "SURROGATES" :: Str.ofString "MOST_CODE" :: Str.ofString "ascii_names" :: Str.ofString "latin_names" :: Str.ofString "hex_number" :: Str.ofString "is_sign_code" :: Str.ofString "known_code" :: Str.ofString "part_text" :: Str.ofString "glyph_text" :: Str.ofString "width_in" :: Str.ofString "standard_width" :: Str.ofString "cid_of" :: Str.ofString "Font" :: Str.ofString "_law_draw" :: Str.ofString "_law_font" :: Str.ofString "_law_whole" :: Str.ofString "_law_onto" :: []
noncomputable def looseF : List Str := looseP atQ
theorem looseO_eq : looseP atO = looseE := by kernel_rfl
theorem looseF_eq : looseF = looseE := by
  unfold looseF
  rw [← at_eq]
  exact looseO_eq
-- the whole text, over a tree of objects, and what is asked of its end
noncomputable def modsE : List Str := importedModules pF.main.body
noncomputable def xtF (s : Shared) : Bool := xlAt qF [] s && recOk [] s
noncomputable def ranE (w : World) (os : OsState) : Option (Flow × SharedT × Code × Pos) := segRunT treeTable pF w 11 annE 1 4400 (stA w.params os) (piecesOf (behindTheImports pF) envE cE p0 [topFrame p0])
noncomputable def obs1 (P : Params) (s : Shared) : Bool := staticsOk modsE (boot_heap P) s.heap && namesBound pF s.heap && gensDone s && laidKept (boot_heap P) s.heap
noncomputable def mainL (w : World) (os : OsState) := (ranE w os).map fun x => (x.1, x.2.2.1, obs1 w.params x.2.1.abs, openSeen qF looseF modsE xtF true x.2.1.abs, KA.map x.2.1.abs.heap.get?)
noncomputable def mainR (w : World) (_ : OsState) := some (Flow.next, cE, true, openGood qF looseF, (KF w.params).map fun p => some p.2)
theorem mainL_eq : Og.mainL = Og.mainL := rfl
theorem mainR_eq : Og.mainR = Og.mainR := rfl
name_quick OgMainL for Og.mainL by Og.mainL_eq
name_quick OgMainR for Og.mainR by Og.mainR_eq
theorem mainQ0 (w : World) : (fun os => Fast.OgMainL (w.withFollow "special-get-raises" false) os) = fun os => Fast.OgMainR (w.withFollow "special-get-raises" false) os := by kernel_rfl
theorem mainQ1 (w : World) : (fun os => Fast.OgMainL (w.withFollow "special-get-raises" true) os) = fun os => Fast.OgMainR (w.withFollow "special-get-raises" true) os := by kernel_rfl
theorem main (w : World) (os : OsState) : mainL w os = mainR w os := by
  rw [Fast.OgMainL_eq, Fast.OgMainR_eq]
  exact congrFun (byRow2 "special-get-raises" (P := fun w => (fun os => Fast.OgMainL w os) = fun os => Fast.OgMainR w os) mainQ0 mainQ1 w) os
theorem fin (w : World) (n₀ : Nat) (ann : Option Value) (s : Shared) (c : Code) (q : Pos) : topRun treeTable pF w n₀ ann 2 s ⟨doneF .next, c, q, [topFrame p0]⟩ = some s := by
  obtain ⟨heap, gens, drawn, toks, os⟩ := s
  rfl
theorem ran (w : World) (os : OsState) : ∃ (s : SharedT) (q : Pos), ranE w os = some (.next, s, cE, q) ∧ obs1 w.params s.abs = true ∧ openSeen qF looseF modsE xtF true s.abs = openGood qF looseF ∧ KA.map s.abs.heap.get? = (KF w.params).map fun p => some p.2 := by
  have h := main w os
  unfold mainL mainR at h
  obtain ⟨⟨f, s, c, q⟩, e, e'⟩ := Option.map_eq_some_iff.mp h
  simp only [Prod.mk.injEq] at e'
  obtain ⟨rfl, rfl, a, b, c⟩ := e'
  exact ⟨s, q, e, a, b, c⟩
theorem topped (w : World) (os : OsState) : ∃ s : Shared, topRun treeTable pF w 11 annE (12 + (1 + (4400 + 2))) ⟨boot_heap w.params, Array.mk [], boot_drawn, boot_toks, os⟩ (topStub pF) = some s ∧
    obs1 w.params s = true ∧ openSeen qF looseF modsE xtF true s = openGood qF looseF ∧ KA.map s.heap.get? = (KF w.params).map fun p => some p.2 := by
  obtain ⟨s, q, e, a, b, c⟩ := ran w os
  refine ⟨s.abs, ?_, a, b, c⟩
  have k0 := fin w 11 annE s.abs cE q
  have k1 := piece_app (env := envE) (q := p0) (rest := []) (segRun_of e) (piece_nil k0)
  rw [List.append_nil] at k1
  have k2 := piece_block (blk w os) k1
  exact go_top (pre w os) k2
noncomputable abbrev hookE : Hook := kHook KK KA (fun _ => by kernel_rfl)
theorem openB : ∀ w : World, (fencedOpening treeTable pF w 10000).map (fun s => (s.heap, s.gens, s.drawn, s.toks)) = some (boot_heap w.params, Array.mk [], boot_drawn, boot_toks) :=
  boot_open (by kernel_rfl) (by decide) (fun s => by kernel_rfl)
noncomputable def sizeL (w : World) := ((boot_heap w.params).isNs mainGlobals && (Array.mk ([] : List GenState)).size == 0, (boot_heap w.params).objs.size, (boot_heap w.params).nsMap mainGlobals (Str.ofString "__annotations__"))
theorem sizeL_eq : Og.sizeL = Og.sizeL := rfl
name_quick OgSizeL for Og.sizeL by Og.sizeL_eq
theorem sizeQ (w : World) : Fast.OgSizeL w = (true, 11, annE) := by kernel_rfl
theorem sized (w : World) : sizeL w = (true, 11, annE) := by rw [Fast.OgSizeL_eq]; exact sizeQ w
theorem left_gen {p q : Program} {loose mods : List Str} {Xt : Shared → Bool} {α : Type} {Yf : Shared → α} {Ya : World → α} {h : World → Heap} {g : Array GenState} {d : Drawn} {k m₀ M N : Nat} {ann : Option Value} (hm : mods = importedModules p.main.body)
    (op : ∀ w : World, (fencedOpening treeTable p w N).map (fun s => (s.heap, s.gens, s.drawn, s.toks)) = some (h w, g, d, k))
    (sz : ∀ w : World, ((h w).isNs mainGlobals && g.size == 0, (h w).objs.size, (h w).nsMap mainGlobals (Str.ofString "__annotations__")) = (true, m₀, ann))
    (run : ∀ (w : World) (os : OsState), ∃ s : Shared, topRun treeTable p w m₀ ann M ⟨h w, g, d, k, os⟩ (topStub p) = some s ∧ (staticsOk mods (h w) s.heap && namesBound p s.heap && gensDone s && laidKept (h w) s.heap) = true ∧
      openSeen q loose mods Xt true s = openGood q loose ∧ Yf s = Ya w) (le : M ≤ N) : LeftO p q loose Xt Yf Ya N true := fun w => by
  subst hm
  obtain ⟨⟨hp, gs, dr, tk, os⟩, e0, e1⟩ := Option.map_eq_some_iff.mp (op w)
  simp only [Prod.mk.injEq] at e1
  obtain ⟨rfl, rfl, rfl, rfl⟩ := e1
  obtain ⟨s, hs, a, b, c⟩ := run w os
  have sz := sz w
  simp only [Prod.mk.injEq] at sz
  obtain ⟨z1, z2, z3⟩ := sz
  have hs' := topRun_mono (N - M) _ _ _ _ hs
  rw [Nat.add_sub_cancel' le] at hs'
  have t : topFrom treeTable p w N ⟨h w, gs, dr, tk, os⟩ = some s := by
    unfold topFrom
    dsimp only
    rw [z1, z2]
    dsimp only
    refine (congrArg (fun x => Option.bind (topRun treeTable p w m₀ x N _ (topStub p)) _) z3).trans ?_
    refine (congrArg (fun x => Option.bind x _) hs').trans ?_
    dsimp only [Option.bind]
    rw [a]
  unfold openEnds
  rw [e0]
  show Option.map _ (topFrom treeTable p w N _) = _
  rw [t]
  exact congrArg some (Prod.ext b c)
theorem left : LeftO pF qF looseF xtF (Hook.obs hookE) (fun w => (KF w.params).map fun p => some p.2) 10000 true :=
  left_gen (mods := modsE) (h := fun w => boot_heap w.params) rfl openB sized topped (by decide)
noncomputable def TW : Prop := by
  refine (?f : (x : DefRec) → (defOf qE (Str.ofString "law")).map (·.1) = some x → Prop) ?x ?h
  case f => exact fun x _ => WalkO qF looseF (XL qF []) (Hook.says hookE) PySem.Challenge.rw_og0182_01.row.toRowW x [] fun f vs => PySem.call f vs
  case h => conv => { lhs; whnf; arg 1; whnf }
noncomputable def xtE (s : Shared) : Bool := xlAt qE [] s && recOk [] s
theorem xtF_eq : xtF = xtE := by
  unfold xtF xtE
  rw [qF_eq]
theorem leftE : LeftO pE qE looseE xtE (Hook.obs hookE) (Hook.val hookE) 10000 true := by
  have h := left
  rw [pF_eq, qF_eq, looseF_eq, xtF_eq, KF_eq] at h
  exact h
noncomputable def lawE : OpenLaw := { prog := pF, name := (PySem.Str.ofString "law"), about := [(PySem.Str.ofString "shown_glyphs")], foot := 5, most := some 63, bound := none, writes := false }
theorem lawE_eq : lawE = PySem.Challenge.rw_og0182_01 := by
  unfold lawE
  rw [pF_eq]
  rfl
theorem hd (walk : TW) : PySem.Challenge.rw_og0182_01.Holds := by
  show OpenLaw.Holds _
  rw [← lawE_eq]
  w_on
  o_law
  rw [lawE_eq]
  refine holds_open (q := qE) (loose := looseE) (Xt := xtE) (XP := XL qE []) (Yf := Hook.obs hookE) (Ya := Hook.val hookE) (YP := Hook.says hookE) (N := 10000) leftE (Hook.of hookE) (Hook.keeps hookE)
    (fun s e => xl_of s (Bool.and_eq_true_iff.mp e).1) XL.keeps (by rfl) (by rfl) (by rfl) (fun s e => recFacts_of (Bool.and_eq_true_iff.mp e).2) (by rfl) (by first | assumption | decide +kernel) (by decide +kernel) ⟨rfl, rfl, rfl, rfl, rfl, by decide +kernel⟩ ?hw ?hc
  case hw => (show PySem.Challenge.rw_og0182_01.row.promised; w_witness2)
  case hc =>
    rw [← qF_eq, ← looseF_eq]
    exact walk
end Og
end
section
open PySem PySem.W PyProof.Rows PySem.Calls
namespace Og
abbrev Led := List (Addr × Obj)
noncomputable def Yields (w : World) (f : Value) (vs : List Value) (news : Led) (room : Nat) (Post : Led → Value → Prop) : Prop :=
  ∀ (p : Program) (loose : List Str) (mean : ExcName → Option Value) (mg mb : Str → Option Value) (dp un : Nat) (gd : Option (List Code)) (cn : Str) (cs : Scope) (a : Addr) (ccd : Value) (cl : List (Str × Addr)) (outer : List Env) (A₀ : Around) (base h₀ : Heap) (L : Addr) (m : Str → Option Value) (s : Shared)
    (Q E : Value → Shared → Prop),
    Below A₀ base outer h₀ → Fr h₀ L s.heap m → (KK w.params).In h₀ → News h₀ L s.heap news → Top p loose mean mg mb h₀ → cs.kind = .function → dp + room < recursionLimit → un + 8 * room < cLine →
    (∀ r tl h' tk', Fr h₀ L h' m → News h₀ L h' (news ++ tl) → (∀ q ∈ news, ∀ p ∈ tl, q.1 ≠ p.1) → Post tl r → Q r { s with heap := h', toks := tk' }) →
    wpAny (model PySem.Challenge.rw_og0182_01.row.prog w) (ktrTop dp un gd cn cs L a ccd cl outer) (call f vs) Q E s
theorem use {w : World} {f : Value} {vs : List Value} {news : Led} {room : Nat} {Post : Led → Value → Prop} (C : Yields w f vs news room Post)
    {p : Program} {loose : List Str} {mean : ExcName → Option Value} {mg mb : Str → Option Value} {dp un : Nat} {gd : Option (List Code)} {cn : Str} {cs : Scope} {a : Addr} {ccd : Value} {cl : List (Str × Addr)} {outer : List Env} {A₀ : Around} {base h₀ : Heap} {L : Addr} {m : Str → Option Value} {s : Shared}
    {Q E : Value → Shared → Prop}
    (ret : ∀ r tl h' tk', Fr h₀ L h' m → News h₀ L h' (news ++ tl) → (∀ q ∈ news, ∀ p ∈ tl, q.1 ≠ p.1) → Post tl r → Q r { s with heap := h', toks := tk' })
    (B : Below A₀ base outer h₀ := by k_asm) (F : Fr h₀ L s.heap m := by k_asm) (X : (KK w.params).In h₀ := by k_asm) (N : News h₀ L s.heap news := by k_asm) (T : Top p loose mean mg mb h₀ := by k_asm) (hk : cs.kind = .function := by first | exact rfl | assumption) (hd : dp + room < recursionLimit := by ktr_room) (hu : un + 8 * room < cLine := by ktr_units) :
    wpAny (model PySem.Challenge.rw_og0182_01.row.prog w) (ktrTop dp un gd cn cs L a ccd cl outer) (call f vs) Q E s :=
  C _ _ _ _ _ _ _ _ _ _ _ _ _ _ _ _ _ _ _ _ _ _ B F X N T hk hd hu ret

/-- the two-entry dict of a Decimal -/
noncomputable abbrev decDict (P : Params) (k1 k2 t1 t2 : Tok) (t p : Int) : Obj :=
  dictOf [{ hash := PyData.keyHash P (Str.ofString "top"), key := .str (Str.ofString "top") k1, val := .int t t1 }, { hash := PyData.keyHash P (Str.ofString "places"), key := .str (Str.ofString "places") k2, val := .int p t2 }] 2

/-- a canonical decimal: no trailing nought behind the point -/
noncomputable def Canon (t : Int) (p : Nat) : Prop := p = 0 ∨ t % 10 ≠ 0
noncomputable def Says (q : Rat) (b : Nat) (t : Int) (p : Nat) : Prop := Canon t p ∧ (t : Rat) = q * 10 ^ p ∧ t.natAbs < 10 ^ b ∧ p ≤ b

inductive DecIn (P : Params) (led : Led) : Value → Rat → Nat → Prop
  | mk {a d : Addr} {k1 k2 t1 t2 : Tok} {t : Int} {p : Nat} {q : Rat} {b : Nat} : (a, instObj 155 d) ∈ led → (d, decDict P k1 k2 t1 t2 t p) ∈ led → Says q b t p → DecIn P led (.ref a) q b

theorem DecIn.new {P : Params} {x d : Addr} {k1 k2 t1 t2 : Tok} {t : Int} {p : Nat} {q : Rat} {b : Nat} (S : Says q b t p) : DecIn P [(d, decDict P k1 k2 t1 t2 t p), (x, instObj 155 d)] (.ref x) q b :=
  .mk (.tail _ (.head _)) (.head _) S
theorem DecIn.mono {P : Params} {led led' : Led} {v : Value} {q : Rat} {b : Nat} (h : DecIn P led v q b) (hs : ∀ p ∈ led, p ∈ led') : DecIn P led' v q b := by
  cases h with
  | mk h1 h2 h3 => exact .mk (hs _ h1) (hs _ h2) h3

theorem ord1 {news : Led} {a : Addr} {o : Obj} (h : ∀ p ∈ news, p.1 < a) : ∀ q ∈ news, ∀ p ∈ [(a, o)], q.1 ≠ p.1 := fun q hq p hp => by
  rw [List.mem_singleton.mp hp]; exact Nat.ne_of_lt (h q hq)
theorem ord2 {news : Led} {d x : Addr} {o o' : Obj} (h : ∀ p ∈ news, p.1 < d) (l : @LT.lt Nat _ d x) : ∀ q ∈ news, ∀ p ∈ [(d, o), (x, o')], q.1 ≠ p.1 := fun q hq p hp => by
  rcases List.mem_cons.mp hp with rfl | hp
  · exact Nat.ne_of_lt (h q hq)
  · rw [List.mem_singleton.mp hp]; exact Nat.ne_of_lt (Nat.lt_trans (h q hq) l)
theorem ord_cons {news tl : Led} {a : Addr} {o : Obj} (h : ∀ q ∈ news, q.1 < a) (k : ∀ q ∈ news, ∀ p ∈ tl, q.1 ≠ p.1) : ∀ q ∈ news, ∀ p ∈ (a, o) :: tl, q.1 ≠ p.1 := fun q hq p hp => by
  rcases List.mem_cons.mp hp with rfl | hp
  · exact Nat.ne_of_lt (h q hq)
  · exact k q hq p hp
theorem ord_consN {news tl : Led} {a : Addr} {o : Obj} (h : ∀ q ∈ news, q.1 ≠ a) (k : ∀ q ∈ news, ∀ p ∈ tl, q.1 ≠ p.1) : ∀ q ∈ news, ∀ p ∈ (a, o) :: tl, q.1 ≠ p.1 := fun q hq p hp => by
  rcases List.mem_cons.mp hp with rfl | hp
  · exact h q hq
  · exact k q hq p hp
theorem ord_app {news tl tl' : Led} (h : ∀ q ∈ news, ∀ p ∈ tl, q.1 ≠ p.1) (k : ∀ q ∈ news, ∀ p ∈ tl', q.1 ≠ p.1) : ∀ q ∈ news, ∀ p ∈ tl ++ tl', q.1 ≠ p.1 := fun q hq p hp => by
  rcases List.mem_append.mp hp with hp | hp
  · exact h q hq p hp
  · exact k q hq p hp
theorem ord_nil {news : Led} : ∀ q ∈ news, ∀ p ∈ ([] : Led), q.1 ≠ p.1 := fun _ _ _ h => nomatch h
theorem sub_lt {news led : Led} {a : Addr} (h : ∀ p ∈ led, p.1 < a) (s : ∀ p ∈ news, p ∈ led) : ∀ q ∈ news, q.1 < a := fun q hq => h q (s q hq)
theorem sub_ltA {news led : Led} {a : Addr} (h : AllLt a led) (s : ∀ p ∈ news, p ∈ led) : ∀ q ∈ news, q.1 < a := fun q hq => ktn_ltOf h q (s q hq)
theorem sub_ord {news led tl : Led} (h : ∀ q ∈ led, ∀ p ∈ tl, q.1 ≠ p.1) (s : ∀ p ∈ news, p ∈ led) : ∀ q ∈ news, ∀ p ∈ tl, q.1 ≠ p.1 := fun q hq => h q (s q hq)
theorem tl_b {h₀ h : Heap} {L : Addr} {q : Addr × Obj} {news tl : Led} (N : News h₀ L h (q :: (news ++ tl))) : News h₀ L h (news ++ (q :: tl)) := ktn_tl2 N
theorem pow_le {b b' : Nat} (h : b ≤ b') : (10 : Nat) ^ b ≤ 10 ^ b' := Nat.pow_le_pow_right (by decide) h
theorem DecIn.more {P : Params} {led : Led} {v : Value} {q : Rat} {b b' : Nat} (h : DecIn P led v q b) (hb : b ≤ b') : DecIn P led v q b' := by
  cases h with
  | mk h1 h2 h3 => exact .mk h1 h2 ⟨h3.1, h3.2.1, Nat.lt_of_lt_of_le h3.2.2.1 (pow_le hb), Nat.le_trans h3.2.2.2 hb⟩

theorem bits_le {a : Int} {k : Nat} (h : a.natAbs < 10 ^ k) : Builtin.Int.intBits a ≤ 4 * k := by
  unfold Builtin.Int.intBits
  split
  · exact Nat.zero_le _
  · rename_i h0
    have hn : a.natAbs ≠ 0 := by intro e; apply h0; rw [beq_iff_eq]; omega
    have : (10 : Nat) ^ k ≤ 2 ^ (4 * k) := by rw [Nat.pow_mul]; exact Nat.pow_le_pow_left (by decide) k
    have := (Nat.log2_lt hn).mpr (Nat.lt_of_lt_of_le h this)
    omega
theorem mulok_big {a b : Int} {k l : Nat} (h : a.natAbs < 10 ^ k) (h' : b.natAbs < 10 ^ l) (hk : k + l ≤ 1000000) : IntMulOk a b := by
  unfold IntMulOk
  have x := bits_le h
  have y := bits_le h'
  have z : Builtin.Int.intTooBig (Builtin.Int.intBits a + Builtin.Int.intBits b) = false := by
    unfold Builtin.Int.intTooBig
    rw [decide_eq_false_iff_not]
    have : bitsLine = 134217728 := rfl
    rw [this]; omega
  rw [z]; simp
theorem natAbs_pow10 (n : Nat) : ((10 : Int) ^ n).natAbs < 10 ^ (n + 1) := by
  rw [Int.natAbs_pow, Nat.pow_succ]
  have : 0 < 10 ^ n := Nat.pow_pos (by decide)
  show 10 ^ n < _
  omega
theorem mulok_pow {a : Int} {k n : Nat} (h : a.natAbs < 10 ^ k) (hk : k + n ≤ 999999) : IntMulOk a (10 ^ n) := mulok_big h (natAbs_pow10 n) (by omega)
theorem mul_lt {a b : Int} {k l : Nat} (h : a.natAbs < 10 ^ k) (h' : b.natAbs < 10 ^ l) : (a * b).natAbs < 10 ^ (k + l) := by
  rw [Int.natAbs_mul, Nat.pow_add]
  exact Nat.mul_lt_mul'' h h'
theorem acc_pow {x n k : Int} (hk : k ≤ n) (h0 : 0 ≤ k) (hall : ∀ j, k < j → j ≤ n → (accDown (fun k x => x.fdiv 10) n x j) % 10 = 0) : x = accDown (fun k x => x.fdiv 10) n x k * 10 ^ (n - k).toNat := by
  have key : ∀ (i : Nat), ∀ k, (n - k).toNat = i → k ≤ n → 0 ≤ k → (∀ j, k < j → j ≤ n → (accDown (fun k x => x.fdiv 10) n x j) % 10 = 0) → x = accDown (fun k x => x.fdiv 10) n x k * 10 ^ i := by
    intro i
    induction i with
    | zero =>
      intro k hi hk h0 _
      have : k = n := by omega
      subst this
      rw [accDown_start]; simp
    | succ i ih =>
      intro k hi hk h0 hall
      have e := ih (k + 1) (by omega) (by omega) (by omega) (fun j h1 h2 => hall j (by omega) h2)
      have s := accDown_succ (g := fun (_ : Int) (x : Int) => x.fdiv 10) (x₀ := x) (k₀ := n) (k := k + 1) (by omega)
      have m := hall (k + 1) (by omega) (by omega)
      have : k + 1 - 1 = k := by omega
      rw [this] at s
      have q : accDown (fun k x => x.fdiv 10) n x (k + 1) = accDown (fun k x => x.fdiv 10) n x k * 10 := by
        rw [s, Int.fdiv_eq_ediv_of_nonneg _ (by decide)]
        omega
      rw [q] at e
      rw [Int.pow_succ, Int.mul_comm (10 ^ i), ← Int.mul_assoc]
      exact e
  exact key _ k rfl hk h0 hall

theorem rpow_add (x : Rat) (a b : Nat) : x ^ (a + b) = x ^ a * x ^ b := by
  induction b with
  | zero => simp
  | succ b ih => rw [Nat.add_succ, Rat.pow_succ, ih, Rat.pow_succ, Rat.mul_assoc]
theorem rpow10 (n : Nat) : (10 : Rat) ^ n ≠ 0 := by
  have := Rat.pow_pos (n := n) (show (0 : Rat) < 10 by decide)
  intro h; rw [h] at this; exact absurd this (by decide)
theorem says_of {x n k : Int} {b : Nat} (hn : 0 ≤ n) (hk : k ≤ n) (hm : min n 0 ≤ k)
    (hall : ∀ j, k < j → j ≤ n → (if 0 < j then if ((accDown (fun k x => x.fdiv 10) n x j).fmod 10 == 0) = true then true else false else false) = true)
    (hend : (if 0 < k then if ((accDown (fun k x => x.fdiv 10) n x k).fmod 10 == 0) = true then true else false else false) = false)
    (hb : x.natAbs < 10 ^ b) (hp : n.toNat ≤ b) : Says ((x : Rat) / 10 ^ n.toNat) b (accDown (fun k x => x.fdiv 10) n x k) k.toNat := by
  have h0 : 0 ≤ k := by omega
  have e := acc_pow (x := x) hk h0 (fun j h1 h2 => by
    have := hall j h1 h2
    rw [if_pos (by omega)] at this
    split at this
    · rename_i h; have h := beq_iff_eq.mp h; rwa [Int.fmod_eq_emod_of_nonneg _ (by decide)] at h
    · cases this)
  generalize accDown (fun k x => x.fdiv 10) n x k = t at *
  refine ⟨?_, ?_, ?_, by omega⟩
  · unfold Canon
    by_cases h : 0 < k
    · right
      rw [if_pos h] at hend
      split at hend
      · cases hend
      · rename_i h'; intro q; apply h'; rw [beq_iff_eq, Int.fmod_eq_emod_of_nonneg _ (by decide)]; exact q
    · left; omega
  · have h10 := rpow10 n.toNat
    have e' : (x : Rat) = (t : Rat) * 10 ^ (n - k).toNat := by
      have := congrArg (Int.cast (R := Rat)) e
      rw [Rat.intCast_mul, Rat.intCast_pow] at this
      exact this
    have hs : n.toNat = (n - k).toNat + k.toNat := by omega
    rw [e', hs, rpow_add]
    rw [hs, rpow_add] at h10
    have h1 : (10 : Rat) ^ (n - k).toNat ≠ 0 := fun h => h10 (by rw [h]; simp)
    have h2 : (10 : Rat) ^ k.toNat ≠ 0 := fun h => h10 (by rw [h]; simp)
    generalize (10 : Rat) ^ (n - k).toNat = A at *
    generalize (10 : Rat) ^ k.toNat = B at *
    grind
  · have : t.natAbs ≤ x.natAbs := by
      rw [e, Int.natAbs_mul]
      exact Nat.le_mul_of_pos_right _ (by rw [Int.natAbs_pow]; exact Nat.pow_pos (by decide))
    omega
theorem plus_lt {t1 t2 : Int} {p1 p2 b1 b2 : Nat} (d1 : t1.natAbs < 10 ^ b1) (f1 : p1 ≤ b1) (d2 : t2.natAbs < 10 ^ b2) (f2 : p2 ≤ b2) :
    (t1 * 10 ^ ((if (p2 : Int) > p1 then (p2 : Int) else p1) - p1).toNat + t2 * 10 ^ ((if (p2 : Int) > p1 then (p2 : Int) else p1) - p2).toNat).natAbs < 10 ^ (b1 + b2 + 1) := by
  have one : ∀ {t : Int} {b k c : Nat}, t.natAbs < 10 ^ b → k ≤ c → (t * 10 ^ k).natAbs ≤ 10 ^ (b + c) := by
    intro t b k c h hk
    rw [Int.natAbs_mul, Int.natAbs_pow, Nat.pow_add]
    exact Nat.mul_le_mul (Nat.le_of_lt h) (pow_le hk)
  have x : (t1 * 10 ^ ((if (p2 : Int) > p1 then (p2 : Int) else p1) - p1).toNat).natAbs ≤ 10 ^ (b1 + b2) := one d1 (by split <;> omega)
  have y : (t2 * 10 ^ ((if (p2 : Int) > p1 then (p2 : Int) else p1) - p2).toNat).natAbs ≤ 10 ^ (b2 + b1) := one d2 (by split <;> omega)
  rw [Nat.add_comm b2 b1] at y
  rw [Nat.pow_succ]
  have z : 0 < 10 ^ (b1 + b2) := Nat.pow_pos (by decide)
  generalize t1 * 10 ^ ((if (p2 : Int) > p1 then (p2 : Int) else p1) - p1).toNat = A at *
  generalize t2 * 10 ^ ((if (p2 : Int) > p1 then (p2 : Int) else p1) - p2).toNat = B at *
  generalize 10 ^ (b1 + b2) = C at *
  omega
theorem plus_val {t1 t2 : Int} {p1 p2 : Nat} {q1 q2 : Rat} (e1 : (t1 : Rat) = q1 * 10 ^ p1) (e2 : (t2 : Rat) = q2 * 10 ^ p2) :
    ((t1 * 10 ^ ((if (p2 : Int) > p1 then (p2 : Int) else p1) - p1).toNat + t2 * 10 ^ ((if (p2 : Int) > p1 then (p2 : Int) else p1) - p2).toNat : Int) : Rat) / 10 ^ (if (p2 : Int) > p1 then (p2 : Int) else p1).toNat = q1 + q2 := by
  have key : ∀ P : Nat, p1 ≤ P → p2 ≤ P → ((t1 * 10 ^ (P - p1) + t2 * 10 ^ (P - p2) : Int) : Rat) / 10 ^ P = q1 + q2 := by
    intro P h1 h2
    rw [Rat.intCast_add, Rat.intCast_mul, Rat.intCast_mul, Rat.intCast_pow, Rat.intCast_pow, e1, e2]
    have s1 : (10 : Rat) ^ P = 10 ^ p1 * 10 ^ (P - p1) := by rw [← rpow_add]; congr 1; omega
    have s2 : (10 : Rat) ^ P = 10 ^ p2 * 10 ^ (P - p2) := by rw [← rpow_add]; congr 1; omega
    have h := rpow10 P
    show (q1 * 10 ^ p1 * 10 ^ (P - p1) + q2 * 10 ^ p2 * 10 ^ (P - p2)) / 10 ^ P = q1 + q2
    rw [Rat.mul_assoc, Rat.mul_assoc, ← s1, ← s2]
    generalize (10 : Rat) ^ P = X at h
    grind
  split
  · have := key p2 (by omega) (Nat.le_refl _)
    have a1 : ((p2 : Int) - p1).toNat = p2 - p1 := by omega
    have a2 : ((p2 : Int) - p2).toNat = p2 - p2 := by omega
    have a3 : (p2 : Int).toNat = p2 := by omega
    rw [a1, a2, a3]; exact this
  · have := key p1 (Nat.le_refl _) (by omega)
    have a1 : ((p1 : Int) - p1).toNat = p1 - p1 := by omega
    have a2 : ((p1 : Int) - p2).toNat = p1 - p2 := by omega
    have a3 : (p1 : Int).toNat = p1 := by omega
    rw [a1, a2, a3]; exact this
theorem times_val {t1 t2 : Int} {p1 p2 : Nat} {q1 q2 : Rat} (e1 : (t1 : Rat) = q1 * 10 ^ p1) (e2 : (t2 : Rat) = q2 * 10 ^ p2) :
    ((t1 * t2 : Int) : Rat) / 10 ^ ((p1 : Int) + p2).toNat = q1 * q2 := by
  have a : ((p1 : Int) + p2).toNat = p1 + p2 := by omega
  rw [a, Rat.intCast_mul, e1, e2, rpow_add]
  have h1 := rpow10 p1
  have h2 := rpow10 p2
  generalize (10 : Rat) ^ p1 = X at *
  generalize (10 : Rat) ^ p2 = Y at *
  grind
theorem rdiv0 (x : Int) : (x : Rat) / 10 ^ (Int.toNat 0) = x := by show (x : Rat) / 10 ^ (0 : Nat) = x; rw [Rat.pow_zero]; grind
/-- what told() hands back: a pair -/
inductive ToldIn (led : Led) : Value → Rat → Prop
  | mk {a : Addr} {t1 t2 : Tok} {t : Int} {p n b : Nat} {q : Rat} : (a, ({ cls := .type "tuple", data := .seq #[.int t t1, .int p t2] n } : Obj)) ∈ led → Says q b t p → ToldIn led (.ref a) q
theorem ToldIn.mono {led led' : Led} {v : Value} {q : Rat} (h : ToldIn led v q) (hs : ∀ p ∈ led, p ∈ led') : ToldIn led' v q := by
  cases h with
  | mk h1 h3 => exact .mk (hs _ h1) h3
theorem says_one {q : Rat} {b b' : Nat} {t t' : Int} {p p' : Nat} (h : Says q b t p) (h' : Says q b' t' p') : t = t' ∧ p = p' := by
  obtain ⟨c, e, _, _⟩ := h
  obtain ⟨c', e', _, _⟩ := h'
  have key : ∀ {t t' : Int} {p p' : Nat}, p ≤ p' → Canon t' p' → (t : Rat) = q * 10 ^ p → (t' : Rat) = q * 10 ^ p' → t = t' ∧ p = p' := by
    intro t t' p p' hle c' e e'
    have s : (t' : Rat) = t * 10 ^ (p' - p) := by
      rw [e', e, Rat.mul_assoc, ← rpow_add]
      congr 2; omega
    have s' : t' = t * 10 ^ (p' - p) := by
      have : ((t' : Int) : Rat) = ((t * 10 ^ (p' - p) : Int) : Rat) := by rw [Rat.intCast_mul, Rat.intCast_pow]; exact s
      exact Rat.intCast_inj.mp this
    rcases Nat.eq_or_lt_of_le hle with h | h
    · subst h
      rw [Nat.sub_self, Int.pow_zero, Int.mul_one] at s'
      exact ⟨s'.symm, rfl⟩
    · rcases c' with c' | c'
      · omega
      · exfalso
        apply c'
        have : p' - p = (p' - p - 1) + 1 := by omega
        rw [s', this, Int.pow_succ, ← Int.mul_assoc]
        exact Int.mul_emod_left _ _
  rcases Nat.le_total p p' with h | h
  · exact key h c' e e'
  · obtain ⟨a, b⟩ := key h c e' e
    exact ⟨a.symm, b.symm⟩

structure Mt where
  (a b c d e f : Rat)
noncomputable abbrev ent (P : Params) (x : Str) (k : Tok) (v : Value) : DictEntry := { hash := PyData.keyHash P x, key := .str x k, val := v }
noncomputable abbrev matDict (P : Params) (k1 k2 k3 k4 k5 k6 : Tok) (v1 v2 v3 v4 v5 v6 : Value) : Obj :=
  dictOf [{ hash := PyData.keyHash P (Str.ofString "a"), key := .str (Str.ofString "a") k1, val := v1 }, { hash := PyData.keyHash P (Str.ofString "b"), key := .str (Str.ofString "b") k2, val := v2 },
    { hash := PyData.keyHash P (Str.ofString "c"), key := .str (Str.ofString "c") k3, val := v3 }, { hash := PyData.keyHash P (Str.ofString "d"), key := .str (Str.ofString "d") k4, val := v4 },
    { hash := PyData.keyHash P (Str.ofString "e"), key := .str (Str.ofString "e") k5, val := v5 }, { hash := PyData.keyHash P (Str.ofString "f"), key := .str (Str.ofString "f") k6, val := v6 }] 6
inductive MatIn (P : Params) (led : Led) : Value → Mt → Nat → Prop
  | mk {x dx : Addr} {k1 k2 k3 k4 k5 k6 : Tok} {v1 v2 v3 v4 v5 v6 : Value} {a b c d e f : Rat} {bd : Nat} : (x, instObj 230 dx) ∈ led → (dx, matDict P k1 k2 k3 k4 k5 k6 v1 v2 v3 v4 v5 v6) ∈ led →
      DecIn P led v1 a bd → DecIn P led v2 b bd → DecIn P led v3 c bd → DecIn P led v4 d bd → DecIn P led v5 e bd → DecIn P led v6 f bd → MatIn P led (.ref x) ⟨a, b, c, d, e, f⟩ bd
theorem MatIn.mono {P : Params} {led led' : Led} {v : Value} {M : Mt} {b : Nat} (h : MatIn P led v M b) (hs : ∀ p ∈ led, p ∈ led') : MatIn P led' v M b := by
  cases h with
  | mk h1 h2 a b c d e f => exact .mk (hs _ h1) (hs _ h2) (a.mono hs) (b.mono hs) (c.mono hs) (d.mono hs) (e.mono hs) (f.mono hs)
theorem MatIn.new {P : Params} {led : Led} {x dx : Addr} {k1 k2 k3 k4 k5 k6 : Tok} {v1 v2 v3 v4 v5 v6 : Value} {a b c d e f : Rat} {b1 b2 b3 b4 b5 b6 : Nat} (h1 : (x, instObj 230 dx) ∈ led) (h2 : (dx, matDict P k1 k2 k3 k4 k5 k6 v1 v2 v3 v4 v5 v6) ∈ led)
    (ha : DecIn P led v1 a b1) (hb : DecIn P led v2 b b2) (hc : DecIn P led v3 c b3) (hd : DecIn P led v4 d b4) (he : DecIn P led v5 e b5) (hf : DecIn P led v6 f b6) :
    MatIn P led (.ref x) ⟨a, b, c, d, e, f⟩ (max b1 (max b2 (max b3 (max b4 (max b5 b6))))) :=
  .mk h1 h2 (ha.more (Nat.le_max_left _ _)) (hb.more (Nat.le_trans (Nat.le_max_left _ _) (Nat.le_max_right _ _))) (hc.more (Nat.le_trans (Nat.le_trans (Nat.le_max_left _ _) (Nat.le_max_right _ _)) (Nat.le_max_right _ _))) (hd.more (Nat.le_trans (Nat.le_trans (Nat.le_trans (Nat.le_max_left _ _) (Nat.le_max_right _ _)) (Nat.le_max_right _ _)) (Nat.le_max_right _ _))) (he.more (Nat.le_trans (Nat.le_trans (Nat.le_trans (Nat.le_trans (Nat.le_max_left _ _) (Nat.le_max_right _ _)) (Nat.le_max_right _ _)) (Nat.le_max_right _ _)) (Nat.le_max_right _ _))) (hf.more (Nat.le_trans (Nat.le_trans (Nat.le_trans (Nat.le_trans (Nat.le_max_right _ _) (Nat.le_max_right _ _)) (Nat.le_max_right _ _)) (Nat.le_max_right _ _)) (Nat.le_max_right _ _)))
/-- a pair of decimals -/
inductive PairIn (P : Params) (led : Led) : Value → Rat → Rat → Nat → Prop
  | mk {x : Addr} {v1 v2 : Value} {q1 q2 : Rat} {b n : Nat} : (x, ({ cls := .type "tuple", data := .seq #[v1, v2] n } : Obj)) ∈ led → DecIn P led v1 q1 b → DecIn P led v2 q2 b → PairIn P led (.ref x) q1 q2 b
theorem PairIn.mono {P : Params} {led led' : Led} {v : Value} {q1 q2 : Rat} {b : Nat} (h : PairIn P led v q1 q2 b) (hs : ∀ p ∈ led, p ∈ led') : PairIn P led' v q1 q2 b := by
  cases h with
  | mk h1 a b => exact .mk (hs _ h1) (a.mono hs) (b.mono hs)
theorem units_make (A : Around) (C : Addr) (vals : List Value) (kw : List (Str × Value)) : (A.under (.builtin "type.__call__" ⟨.ref C :: vals, kw⟩)).units = A.units + 1 := rfl
theorem mem_sub {led led' : Led} {p : Addr × Obj} (h : p ∈ led) (hs : ∀ p ∈ led, p ∈ led') : p ∈ led' := hs p h

theorem MatIn.more {P : Params} {led : Led} {v : Value} {M : Mt} {b b' : Nat} (h : MatIn P led v M b) (hb : b ≤ b') : MatIn P led v M b' := by
  cases h with
  | mk h1 h2 a b c d e f => exact .mk h1 h2 (a.more hb) (b.more hb) (c.more hb) (d.more hb) (e.more hb) (f.more hb)
/-- the matrix of first M, then N -/
noncomputable def Mt.mul (M N : Mt) : Mt := ⟨M.a * N.a + M.b * N.c, M.a * N.b + M.b * N.d, M.c * N.a + M.d * N.c, M.c * N.b + M.d * N.d, N.a * M.e + N.c * M.f + N.e, N.b * M.e + N.d * M.f + N.f⟩
noncomputable def Mt.along (M : Mt) (q : Rat) : Mt := ⟨M.a, M.b, M.c, M.d, M.e + (M.a * q + M.c * ((0 : Int) : Rat)), M.f + (M.b * q + M.d * ((0 : Int) : Rat))⟩
theorem all_lt {l : Led} {d : Addr} (h : ∀ p ∈ l, p.1 < d) : ∀ p ∈ l, p.1 ≠ d := fun p hp => Nat.ne_of_lt (h p hp)
theorem all_ltA {l : Led} {d : Addr} (h : AllLt d l) : ∀ p ∈ l, p.1 ≠ d := fun p hp => Nat.ne_of_lt (ktn_ltOf h p hp)
theorem all_gt {A l : Led} {d : Addr} {o : Obj} (h : ∀ q ∈ A, ∀ p ∈ l, q.1 ≠ p.1) (m : (d, o) ∈ A) : ∀ p ∈ l, p.1 ≠ d := fun p hp => (h _ m p hp).symm
theorem ktn_o2 {h₀ h : Heap} {L : Addr} {x d : Addr × Obj} {news T : Led} (N : News h₀ L h (x :: d :: (news ++ T))) : News h₀ L h (news ++ d :: x :: T) := fun p hp => N p (by
  rcases List.mem_append.mp hp with h | h
  · exact .tail _ (.tail _ (List.mem_append.mpr (.inl h)))
  · rcases List.mem_cons.mp h with rfl | h
    · exact .tail _ (.head _)
    · rcases List.mem_cons.mp h with rfl | h
      · exact .head _
      · exact .tail _ (.tail _ (List.mem_append.mpr (.inr h))))
theorem ord2c {news T : Led} {d x : Addr} {o o' : Obj} (h : ∀ p ∈ news, p.1 < d) (l : @LT.lt Nat _ d x) (k : ∀ q ∈ news, ∀ p ∈ T, q.1 ≠ p.1) : ∀ q ∈ news, ∀ p ∈ (d, o) :: (x, o') :: T, q.1 ≠ p.1 :=
  ord_cons h (ord_cons (fun q hq => Nat.lt_trans (h q hq) l) k)
theorem app_r {h₀ h : Heap} {L : Addr} {A tl : Led} {p : Addr × Obj} (_ : News h₀ L h (A ++ tl)) (m : p ∈ tl) : p ∈ A ++ tl := List.mem_append.mpr (.inr m)
theorem sub_l {l news T : Led} (s : ∀ p ∈ l, p ∈ news) : ∀ p ∈ l, p ∈ news ++ T := fun p h => List.mem_append.mpr (.inl (s p h))
theorem ktn_oN {h₀ h : Heap} {L : Addr} {news T : Led} (pre : Led) (N : News h₀ L h (pre ++ (news ++ T))) : News h₀ L h (news ++ (pre ++ T)) := fun p hp => N p (by
  simp only [List.mem_append] at hp ⊢
  rcases hp with h | h | h
  · exact .inr (.inl h)
  · exact .inl h
  · exact .inr (.inr h))
theorem ktn_oM {h₀ h : Heap} {L : Addr} {news : Led} (pre : Led) (N : News h₀ L h (pre ++ news)) : News h₀ L h (news ++ pre) := fun p hp => N p (by
  simp only [List.mem_append] at hp ⊢
  exact hp.symm)
theorem mem_c1 {a x0 : Addr × Obj} {l : Led} (h : a ∈ l) : a ∈ x0 :: l := .tail _ h
theorem mem_c2 {a x0 x1 : Addr × Obj} {l : Led} (h : a ∈ l) : a ∈ x0 :: x1 :: l := .tail _ (.tail _ h)
theorem mem_c3 {a x0 x1 x2 : Addr × Obj} {l : Led} (h : a ∈ l) : a ∈ x0 :: x1 :: x2 :: l := .tail _ (.tail _ (.tail _ h))
theorem mem_c4 {a x0 x1 x2 x3 : Addr × Obj} {l : Led} (h : a ∈ l) : a ∈ x0 :: x1 :: x2 :: x3 :: l := .tail _ (.tail _ (.tail _ (.tail _ h)))
theorem mem_c5 {a x0 x1 x2 x3 x4 : Addr × Obj} {l : Led} (h : a ∈ l) : a ∈ x0 :: x1 :: x2 :: x3 :: x4 :: l := .tail _ (.tail _ (.tail _ (.tail _ (.tail _ h))))
theorem mem_c6 {a x0 x1 x2 x3 x4 x5 : Addr × Obj} {l : Led} (h : a ∈ l) : a ∈ x0 :: x1 :: x2 :: x3 :: x4 :: x5 :: l := .tail _ (.tail _ (.tail _ (.tail _ (.tail _ (.tail _ h)))))
theorem mem_c7 {a x0 x1 x2 x3 x4 x5 x6 : Addr × Obj} {l : Led} (h : a ∈ l) : a ∈ x0 :: x1 :: x2 :: x3 :: x4 :: x5 :: x6 :: l := .tail _ (.tail _ (.tail _ (.tail _ (.tail _ (.tail _ (.tail _ h))))))
theorem mem_c8 {a x0 x1 x2 x3 x4 x5 x6 x7 : Addr × Obj} {l : Led} (h : a ∈ l) : a ∈ x0 :: x1 :: x2 :: x3 :: x4 :: x5 :: x6 :: x7 :: l := .tail _ (.tail _ (.tail _ (.tail _ (.tail _ (.tail _ (.tail _ (.tail _ h)))))))
theorem room_ok {x d k r R l : Nat} (h : d + R < l) (e : x = d + k) (le : k + r ≤ R) : x + r < l := by omega
theorem room_ok0 {x d k R l : Nat} (h : d + R < l) (e : x = d + k) (le : k ≤ R) : x < l := by omega
end Og
end
section
open PySem PySem.W PyProof.Rows PySem.Calls
namespace Og
local macro_rules | `(tactic| kwd_rel) => `(tactic| (intro r9 tl9 h9 tk9 F9 N9 hl9 ho9; (try simp only [List.nil_append, List.cons_append, List.append_nil, List.append_assoc] at N9); (try simp only [List.nil_append, List.cons_append, List.append_nil, List.append_assoc] at ho9); (try dsimp only); (try k_sweep)))
local macro_rules | `(tactic| k_room) => `(tactic| ktr_room)
local macro_rules | `(tactic| ktn_ord) => `(tactic| first
  | exact ord_nil
  | assumption
  | exact ord2 (by assumption) (by assumption)
  | (refine ord2c (by assumption) (by assumption) ?_; ktn_ord)
  | (refine ord_cons (sub_lt (by assumption) (by ktd_sub)) ?_; ktn_ord)
  | (refine ord_cons (sub_ltA (by assumption) (by ktd_sub)) ?_; ktn_ord)
  | (refine ord_app (sub_ord (by assumption) (by ktd_sub)) ?_; ktn_ord)
  | exact sub_ord (by assumption) (by ktd_sub)
  | (simp only [List.cons_append, List.nil_append]; ktn_ord))
local macro_rules | `(tactic| ktn_open) => `(tactic| first
  | assumption
  | exact ktn_o2 (by assumption)
  | exact ktn_tl1 (by assumption)
  | exact ktn_tl2 (by assumption)
  | exact ktn_tl2 (ktn_tl1 (by assumption))
  | exact ktn_tl2 (ktn_tl2 (by assumption))
  | exact ktn_tl2 (ktn_tl2 (ktn_tl1 (by assumption)))
  | exact ktn_tl2 (ktn_tl2 (ktn_tl2 (by assumption)))
  | exact ktn_oN [_,_,_] (by assumption)
  | exact ktn_oN [_,_,_,_] (by assumption)
  | exact ktn_oN [_,_,_,_,_] (by assumption)
  | exact ktn_oN [_,_,_,_,_,_] (by assumption)
  | exact ktn_oN [_,_,_,_,_,_,_] (by assumption)
  | exact ktn_oN [_,_,_,_,_,_,_,_] (by assumption)
  | exact ktn_oN [_,_,_,_,_,_,_,_,_] (by assumption)
  | exact ktn_oN [_,_,_,_,_,_,_,_,_,_] (by assumption)
  | exact ktn_oN [_,_,_,_,_,_,_,_,_,_,_] (by assumption)
  | exact ktn_oN [_,_,_,_,_,_,_,_,_,_,_,_] (by assumption)
  | exact ktn_oN [_,_,_,_,_,_,_,_,_,_,_,_,_] (by assumption)
  | exact ktn_oN [_,_,_,_,_,_,_,_,_,_,_,_,_,_] (by assumption)
  | exact ktn_oN [_,_,_,_,_,_,_,_,_,_,_,_,_,_,_] (by assumption)
  | exact ktn_oN [_,_,_,_,_,_,_,_,_,_,_,_,_,_,_,_] (by assumption)
  | exact ktn_oN [_,_,_,_,_,_,_,_,_,_,_,_,_,_,_,_,_] (by assumption)
  | exact ktn_oN [_,_,_,_,_,_,_,_,_,_,_,_,_,_,_,_,_,_] (by assumption)
  | exact ktn_oN [_,_,_,_,_,_,_,_,_,_,_,_,_,_,_,_,_,_,_] (by assumption)
  | exact ktn_oN [_,_,_,_,_,_,_,_,_,_,_,_,_,_,_,_,_,_,_,_] (by assumption)
  | exact ktn_oN [_,_,_,_,_,_,_,_,_,_,_,_,_,_,_,_,_,_,_,_,_] (by assumption)
  | exact ktn_oM [_,_,_] (by assumption)
  | exact ktn_oM [_,_,_,_] (by assumption)
  | exact ktn_oM [_,_,_,_,_] (by assumption)
  | exact ktn_oM [_,_,_,_,_,_] (by assumption)
  | exact ktn_oM [_,_,_,_,_,_,_] (by assumption)
  | exact ktn_oM [_,_,_,_,_,_,_,_] (by assumption)
  | exact ktn_oM [_,_,_,_,_,_,_,_,_] (by assumption)
  | exact ktn_oM [_,_,_,_,_,_,_,_,_,_] (by assumption)
  | exact ktn_oM [_,_,_,_,_,_,_,_,_,_,_] (by assumption)
  | exact ktn_oM [_,_,_,_,_,_,_,_,_,_,_,_] (by assumption)
  | exact ktn_oM [_,_,_,_,_,_,_,_,_,_,_,_,_] (by assumption))
local macro_rules | `(tactic| ktd_sub) => `(tactic| first
  | exact fun _ h => h
  | (intro p9 h9; simp only [List.mem_append, List.mem_cons, List.not_mem_nil, or_false, false_or] at h9 ⊢; (repeat' (first | (simp only [h9, true_or, or_true, eq_self]; done) | (refine Or.elim h9 (fun h9 => ?_) (fun h9 => ?_)))); done))
local macro_rules | `(tactic| ktr_units) => `(tactic| (have hcL9 := cLine_is; (try simp only [units_make, units_in1, units_deeper, Around.mark_units, units_caller]); (try dsimp only [ktrTop]); omega))
local macro_rules | `(tactic| ktr_room) => `(tactic| ((try simp only [depth_under_make, depth_under_kw, depth_in1, depth_deeper, depth_caller]); (try dsimp only [ktrTop]); omega))
local macro_rules | `(tactic| k_all) => `(tactic| first
  | exact List.forall_mem_nil _
  | (refine' all_ltA ?h; (case h => assumption))
  | (refine' List.forall_mem_cons.mpr ⟨?a, ?b⟩; (case a => k_ne); (case b => k_all))
  | (refine' List.forall_mem_append.mpr ⟨?a, ?b⟩; (case a => k_all); (case b => k_all))
  | exact all_lt (by assumption)
  | exact all_ltA (by assumption)
  | exact all_gt (by assumption) (by k_mem))
local macro_rules | `(tactic| k_mem) => `(tactic| first
  | (refine mem_c1 ?_; ktn_app; k_mem)
  | (refine mem_c2 ?_; ktn_app; k_mem)
  | (refine mem_c3 ?_; ktn_app; k_mem)
  | (refine mem_c4 ?_; ktn_app; k_mem)
  | (refine mem_c5 ?_; ktn_app; k_mem)
  | (refine mem_c6 ?_; ktn_app; k_mem)
  | (refine mem_c7 ?_; ktn_app; k_mem)
  | (refine mem_c8 ?_; ktn_app; k_mem))
local macro_rules | `(tactic| ktr_units) => `(tactic| first
  | (refine room_ok (k := 0) (by assumption) (by with_unfolding_all rfl) ?_; decide)
  | (refine room_ok (k := 1) (by assumption) (by with_unfolding_all rfl) ?_; decide)
  | (refine room_ok (k := 2) (by assumption) (by with_unfolding_all rfl) ?_; decide)
  | (refine room_ok (k := 3) (by assumption) (by with_unfolding_all rfl) ?_; decide))
local macro_rules | `(tactic| ktr_room) => `(tactic| first
  | (refine room_ok (k := 1) (by assumption) (by with_unfolding_all rfl) ?_; decide)
  | (refine room_ok0 (k := 0) (by assumption) (by with_unfolding_all rfl) ?_; decide)
  | (refine room_ok0 (k := 1) (by assumption) (by with_unfolding_all rfl) ?_; decide)
  | (refine room_ok (k := 2) (by assumption) (by with_unfolding_all rfl) ?_; decide))
local macro_rules | `(tactic| k_ne) => `(tactic| (refine neN ?_; (try dsimp only); first | assumption | exact Ne.symm (by assumption) | exact Nat.ne_of_lt (by assumption) | exact Nat.ne_of_gt (by assumption)))
section
set_option maxHeartbeats 4000000 in
theorem mk_dec {w : World} {news : Led} {x : Int} {t : Tok} {n : Int} {u : Tok} {b : Nat} (hn : 0 ≤ n) (hb : x.natAbs < 10 ^ b) (hp : n.toNat ≤ b) :
    Yields w (.ref 155) [.int x t, .int n u] news 3 (fun tl r => DecIn w.params tl r (x / 10 ^ n.toNat) b) := by
  unfold Yields
  k_fill
  intro p loose mean mg mb dp un gd cn cs a ccd cl outer A₀ base h₀ L m s Q E B F X N T hk hd hu hret
  k_dflt (refine' call_cls ?k1 ?k2 ?k3 ?k4 ?k5 ?k6 ?_; (case k1 => k_asm); (case k2 => k_asm); (case k3 => k_asm); (case k4 => k_is); (case k5 => k_is); (case k6 => k_is); k_whole; intro x' d' h' F' N' l1 l2; (try k_lt2 l2))
  k_dflt ktr_enter
  k_steps
  rename_i k t' u' h2 tk2 a1 a2 a3 a4 mk h3 h4 F3 N3 kF kN Tc kX
  have S := says_of hn a1 a2 a3 a4 hb hp
  have k0 : 0 ≤ k := by omega
  obtain ⟨kn, rfl⟩ := Int.eq_ofNat_of_zero_le k0
  rw [Int.toNat_natCast] at S
  exact hret _ _ _ _ kF (ktn_tl2 (ktn_tl1 kN)) (ord2 l1 l2) (.new S)
end
section
local macro_rules | `(tactic| walk_at "call ref") => `(tactic| (k_here; k_dflt (refine' use (mk_dec ?hn ?hb ?hp) ?_; (case hn => ktr_rel); (case hb => ktr_rel); (case hp => ktr_rel); kwd_rel)))
local macro_rules | `(tactic| ktr_rel) => `(tactic| first | assumption | decide)
set_option maxHeartbeats 4000000 in
theorem decof_int {w : World} {news : Led} {x : Int} {t : Tok} {b : Nat} (hb : x.natAbs < 10 ^ b) :
    Yields w (.ref 173) [.int x t] news 6 (fun tl r => DecIn w.params tl r x b) := by
  unfold Yields
  k_fill
  intro p loose mean mg mb dp un gd cn cs a ccd cl outer A₀ base h₀ L m s Q E B F X N T hk hd hu hret
  have hp0 : (0:Int).toNat ≤ b := Nat.zero_le _
  refine wpAny_call ?_
  k_dflt ktr_enter
  k_steps
  rename DecIn _ _ _ _ _ => R
  refine hret _ _ _ _ (by assumption) (by ktn_open) (by ktn_ord) ?_
  have e : (x : Rat) / 10 ^ (Int.toNat 0) = x := by show (x : Rat) / 10 ^ (0 : Nat) = x; rw [Rat.pow_zero]; grind
  rw [e] at R
  exact R
set_option maxHeartbeats 4000000 in
theorem decof_dec {w : World} {news : Led} {v : Value} {q : Rat} {b : Nat} (hv : DecIn w.params news v q b) :
    Yields w (.ref 173) [v] news 6 (fun tl r => tl = [] ∧ v = r) := by
  unfold Yields
  k_fill
  intro p loose mean mg mb dp un gd cn cs a ccd cl outer A₀ base h₀ L m s Q E B F X N T hk hd hu hret
  obtain ⟨hm1, hm2, hs⟩ := hv
  refine wpAny_call ?_
  k_dflt ktr_enter
  k_steps
  exact hret _ [] _ _ (by assumption) (ktn_tl0 (by assumption)) ord_nil ⟨rfl, rfl⟩
local macro_rules | `(tactic| walk_at "call ref") => `(tactic| (k_here; k_dflt (refine' use (decof_dec ?hn) ?_; (case hn => ktr_rel); intro r9 tl9 h9 tk9 F9 N9 hl9 ho9;  (try simp only [List.nil_append, List.cons_append, List.append_nil, List.append_assoc] at N9); (try simp only [List.nil_append, List.cons_append, List.append_nil, List.append_assoc] at ho9); (obtain ⟨htl, hr9⟩ := ho9; subst htl; subst hr9); (try simp only [List.nil_append, List.cons_append, List.append_nil, List.append_assoc] at N9); (try dsimp only); (try k_sweep))))
local macro_rules | `(tactic| walk_at "binaryOp Pow int int") => `(tactic| (k_here; (with_reducible refine pow_int_small ?kb1 ?kb2 ?kb3 ?_); (case kb1 => (split <;> omega)); (case kb2 => (split <;> omega)); (case kb3 => decide)))
local macro_rules | `(tactic| walk_at "binaryOp Mult int int") => `(tactic| (k_here; (with_reducible refine mul_int ?_ (mulok_pow (by assumption) ?kb1)); (case kb1 => (split <;> omega))))
local macro_rules | `(tactic| ktr_rel) => `(tactic| first | assumption | decide | exact plus_lt (by assumption) (by assumption) (by assumption) (by assumption) | (split <;> omega))
set_option maxHeartbeats 4000000 in
theorem dec_plus {w : World} {news : Led} {v1 v2 : Value} {q1 q2 : Rat} {b1 b2 : Nat} (hv1 : DecIn w.params news v1 q1 b1) (hv2 : DecIn w.params news v2 q2 b2) (hB : b1 + b2 ≤ 4000) :
    Yields w (.ref 82) [v1, v2] news 9 (fun tl r => DecIn w.params tl r (q1 + q2) (b1 + b2 + 1)) := by
  unfold Yields
  k_fill
  intro p loose mean mg mb dp un gd cn cs a ccd cl outer A₀ base h₀ L m s Q E B F X N T hk hd hu hret
  have hv1' := hv1
  have hv2' := hv2
  obtain ⟨hm1, hm2, hs⟩ := hv1
  obtain ⟨hm3, hm4, hs2⟩ := hv2
  obtain ⟨c1, e1, d1, f1⟩ := hs
  obtain ⟨c2, e2, d2, f2⟩ := hs2
  refine wpAny_call ?_
  k_dflt ktr_enter
  k_steps
  rename DecIn _ _ _ _ _ => R
  refine hret _ _ _ _ (by assumption) (by ktn_open) (by ktn_ord) ?_
  rw [plus_val e1 e2] at R
  exact R.mono (by ktd_sub)
end
section
local macro_rules | `(tactic| walk_at "zz") => `(tactic| skip)
local macro_rules | `(tactic| walk_at "call ref") => `(tactic| (k_here; k_dflt (refine' use (mk_dec ?hn ?hb ?hp) ?_; (case hn => ktr_rel); (case hb => ktr_rel); (case hp => ktr_rel); kwd_rel)))
local macro_rules | `(tactic| walk_at "call ref") => `(tactic| (k_here; k_dflt (refine' use (decof_int ?hn) ?_; (case hn => ktr_rel); kwd_rel)))
local macro_rules | `(tactic| walk_at "call ref") => `(tactic| (k_here; k_dflt (refine' use (decof_dec ?hn) ?_; (case hn => ktr_rel); intro r9 tl9 h9 tk9 F9 N9 hl9 ho9;  (try simp only [List.nil_append, List.cons_append, List.append_nil, List.append_assoc] at N9); (try simp only [List.nil_append, List.cons_append, List.append_nil, List.append_assoc] at ho9); (obtain ⟨htl, hr9⟩ := ho9; subst htl; subst hr9); (try simp only [List.nil_append, List.cons_append, List.append_nil, List.append_assoc] at N9); (try dsimp only); (try k_sweep))))
local macro_rules | `(tactic| walk_at "binaryOp Mult int int") => `(tactic| (k_here; (with_reducible refine mul_int ?_ (mulok_big (by assumption) (by assumption) (by omega)))))
local macro_rules | `(tactic| ktr_rel) => `(tactic| first | assumption | decide | exact mul_lt (by assumption) (by assumption) | omega)
set_option maxHeartbeats 4000000 in
theorem dec_times {w : World} {news : Led} {v1 v2 : Value} {q1 q2 : Rat} {b1 b2 : Nat} (hv1 : DecIn w.params news v1 q1 b1) (hv2 : DecIn w.params news v2 q2 b2) (hB : b1 + b2 ≤ 4000) :
    Yields w (.ref 96) [v1, v2] news 9 (fun tl r => DecIn w.params tl r (q1 * q2) (b1 + b2)) := by
  unfold Yields
  k_fill
  intro p loose mean mg mb dp un gd cn cs a ccd cl outer A₀ base h₀ L m s Q E B F X N T hk hd hu hret
  have hv2' := hv2
  obtain ⟨hm1, hm2, hs⟩ := hv1
  obtain ⟨hm3, hm4, hs2⟩ := hv2
  obtain ⟨c1, e1, d1, f1⟩ := hs
  obtain ⟨c2, e2, d2, f2⟩ := hs2
  refine wpAny_call ?_
  k_dflt ktr_enter
  k_steps
  rename DecIn _ _ _ _ _ => R
  refine hret _ _ _ _ (by assumption) (by ktn_open) (by ktn_ord) ?_
  rw [times_val e1 e2] at R
  exact R.mono (by ktd_sub)
local macro_rules | `(tactic| walk_at "call ref") => `(tactic| (k_here; k_dflt (refine' use (decof_int ?hn) ?_; (case hn => ktr_rel); intro r9 tl9 h9 tk9 F9 N9 hl9 ho9;  (try simp only [List.nil_append, List.cons_append, List.append_nil, List.append_assoc] at N9); (try simp only [List.nil_append, List.cons_append, List.append_nil, List.append_assoc] at ho9); (obtain ⟨hm7, hm8, hs7⟩ := ho9; obtain ⟨c7, e7, d7, f7⟩ := hs7); (try simp only [List.nil_append, List.cons_append, List.append_nil, List.append_assoc] at N9); (try dsimp only); (try k_sweep))))
set_option maxHeartbeats 4000000 in
theorem dec_times_int {w : World} {news : Led} {v1 : Value} {q1 : Rat} {b1 b2 : Nat} {x : Int} {t : Tok} (hv1 : DecIn w.params news v1 q1 b1) (hx : x.natAbs < 10 ^ b2) (hB : b1 + b2 ≤ 4000) :
    Yields w (.ref 96) [v1, .int x t] news 9 (fun tl r => DecIn w.params tl r (q1 * x) (b1 + b2)) := by
  unfold Yields
  k_fill
  intro p loose mean mg mb dp un gd cn cs a ccd cl outer A₀ base h₀ L m s Q E B F X N T hk hd hu hret
  obtain ⟨hm1, hm2, hs⟩ := hv1
  obtain ⟨c1, e1, d1, f1⟩ := hs
  refine wpAny_call ?_
  k_dflt ktr_enter
  k_steps
  rename DecIn _ _ _ _ _ => R
  refine hret _ _ _ _ (by assumption) (by ktn_open) (by ktn_ord) ?_
  rw [times_val (by assumption) (by assumption)] at R
  exact R.mono (by ktd_sub)
set_option maxHeartbeats 4000000 in
theorem dec_told {w : World} {news : Led} {v1 : Value} {q1 : Rat} {b1 : Nat} (hv1 : DecIn w.params news v1 q1 b1) :
    Yields w (.ref 138) [v1] news 3 (fun tl r => ToldIn tl r q1) := by
  unfold Yields
  k_fill
  intro p loose mean mg mb dp un gd cn cs a ccd cl outer A₀ base h₀ L m s Q E B F X N T hk hd hu hret
  obtain ⟨hm1, hm2, hs⟩ := hv1
  refine wpAny_call ?_
  k_dflt ktr_enter
  k_steps
  refine hret _ _ _ _ (by assumption) (by ktn_open) (by ktn_ord) ?_
  exact .mk (by k_mem) hs
end
section
theorem dec_meth_times {w : World} {A : Around} {E : Value → Shared → Prop} {s : Shared} {h₀ : Heap} {L : Addr} {m : Str → Option Value} {led led' : Led} {v : Value} {q : Rat} {b : Nat} {pl : Sem Bool} {Q : Value × List Value → Shared → Prop}
    (R : DecIn w.params led v q b) (F : Fr h₀ L s.heap m) (X : (KK w.params).In h₀) (N : News h₀ L s.heap led') (hs : ∀ p ∈ led, p ∈ led') (h : Q (.ref 96, [v]) s) :
    wpAny (model PySem.Challenge.rw_og0182_01.row.prog w) A (getMethod v (Str.ofString "times") pl) Q E s := by
  revert X; k_fill; intro X
  obtain ⟨i1, i2, _⟩ := R
  exact method_inst F X (InstAt.of_news N (hs _ i1) (hs _ i2)) (by k_is) (by k_is) (by k_is) (by k_get) h
theorem dec_meth_plus {w : World} {A : Around} {E : Value → Shared → Prop} {s : Shared} {h₀ : Heap} {L : Addr} {m : Str → Option Value} {led led' : Led} {v : Value} {q : Rat} {b : Nat} {pl : Sem Bool} {Q : Value × List Value → Shared → Prop}
    (R : DecIn w.params led v q b) (F : Fr h₀ L s.heap m) (X : (KK w.params).In h₀) (N : News h₀ L s.heap led') (hs : ∀ p ∈ led, p ∈ led') (h : Q (.ref 82, [v]) s) :
    wpAny (model PySem.Challenge.rw_og0182_01.row.prog w) A (getMethod v (Str.ofString "plus") pl) Q E s := by
  revert X; k_fill; intro X
  obtain ⟨i1, i2, _⟩ := R
  exact method_inst F X (InstAt.of_news N (hs _ i1) (hs _ i2)) (by k_is) (by k_is) (by k_is) (by k_get) h
theorem dec_meth_told {w : World} {A : Around} {E : Value → Shared → Prop} {s : Shared} {h₀ : Heap} {L : Addr} {m : Str → Option Value} {led led' : Led} {v : Value} {q : Rat} {b : Nat} {pl : Sem Bool} {Q : Value × List Value → Shared → Prop}
    (R : DecIn w.params led v q b) (F : Fr h₀ L s.heap m) (X : (KK w.params).In h₀) (N : News h₀ L s.heap led') (hs : ∀ p ∈ led, p ∈ led') (h : Q (.ref 138, [v]) s) :
    wpAny (model PySem.Challenge.rw_og0182_01.row.prog w) A (getMethod v (Str.ofString "told") pl) Q E s := by
  revert X; k_fill; intro X
  obtain ⟨i1, i2, _⟩ := R
  exact method_inst F X (InstAt.of_news N (hs _ i1) (hs _ i2)) (by k_is) (by k_is) (by k_is) (by k_get) h
local macro_rules | `(tactic| walk_at "getMethod") => `(tactic| (k_here; (with_reducible show wpAny _ _ (getMethod _ _ _) _ _ _); k_dflt (first
  | (refine' dec_meth_times ?R ?F ?X ?N ?S ?_; (case R => assumption); (case F => k_asm); (case X => k_asm); (case N => k_asm); (case S => ktd_sub))
  | (refine' dec_meth_plus ?R ?F ?X ?N ?S ?_; (case R => assumption); (case F => k_asm); (case X => k_asm); (case N => k_asm); (case S => ktd_sub))
  | (refine' dec_meth_told ?R ?F ?X ?N ?S ?_; (case R => assumption); (case F => k_asm); (case X => k_asm); (case N => k_asm); (case S => ktd_sub)))))
local macro_rules | `(tactic| ktr_rel) => `(tactic| first | assumption | decide | exact DecIn.mono (by assumption) (by ktd_sub) | ktd_sub | omega)
local macro_rules | `(tactic| walk_at "call ref") => `(tactic| (k_here; k_dflt (refine' use (decof_dec ?hn) ?_; (case hn => ktr_rel); intro r9 tl9 h9 tk9 F9 N9 hl9 ho9;  (try simp only [List.nil_append, List.cons_append, List.append_nil, List.append_assoc] at N9); (try simp only [List.nil_append, List.cons_append, List.append_nil, List.append_assoc] at ho9); (obtain ⟨htl, hr9⟩ := ho9; subst htl; subst hr9); (try simp only [List.nil_append, List.cons_append, List.append_nil, List.append_assoc] at N9); (try dsimp only); (try k_sweep))))
set_option maxHeartbeats 4000000 in
theorem mat_new {w : World} {news e1 e2 e3 e4 e5 e6 : Led} {v1 v2 v3 v4 v5 v6 : Value} {a1 a2 a3 a4 a5 a6 : Rat} {b1 b2 b3 b4 b5 b6 : Nat}
    (h1 : DecIn w.params e1 v1 a1 b1) (h2 : DecIn w.params e2 v2 a2 b2) (h3 : DecIn w.params e3 v3 a3 b3) (h4 : DecIn w.params e4 v4 a4 b4) (h5 : DecIn w.params e5 v5 a5 b5) (h6 : DecIn w.params e6 v6 a6 b6)
    (s1 : ∀ p ∈ e1, p ∈ news) (s2 : ∀ p ∈ e2, p ∈ news) (s3 : ∀ p ∈ e3, p ∈ news) (s4 : ∀ p ∈ e4, p ∈ news) (s5 : ∀ p ∈ e5, p ∈ news) (s6 : ∀ p ∈ e6, p ∈ news) :
    Yields w (.ref 230) [v1, v2, v3, v4, v5, v6] news 9 (fun tl r => MatIn w.params (e1 ++ (e2 ++ (e3 ++ (e4 ++ (e5 ++ (e6 ++ tl)))))) r ⟨a1, a2, a3, a4, a5, a6⟩ (max b1 (max b2 (max b3 (max b4 (max b5 b6)))))) := by
  unfold Yields
  k_fill
  intro p loose mean mg mb dp un gd cn cs a ccd cl outer A₀ base h₀ L m s Q E B F X N T hk hd hu hret
  have g1 := h1.mono s1
  have g2 := h2.mono s2
  have g3 := h3.mono s3
  have g4 := h4.mono s4
  have g5 := h5.mono s5
  have g6 := h6.mono s6
  k_dflt (refine' call_cls ?k1 ?k2 ?k3 ?k4 ?k5 ?k6 ?_; (case k1 => k_asm); (case k2 => k_asm); (case k3 => k_asm); (case k4 => k_is); (case k5 => k_is); (case k6 => k_is); k_whole; intro x' d' h' F' N' l1 l2; (try k_lt2 l2))
  k_dflt ktr_enter
  k_steps
  refine hret _ _ _ _ (by assumption) (by ktn_open) (by ktn_ord) ?_
  exact .new (by k_mem) (by k_mem) (h1.mono (by ktd_sub)) (h2.mono (by ktd_sub)) (h3.mono (by ktd_sub)) (h4.mono (by ktd_sub)) (h5.mono (by ktd_sub)) (h6.mono (by ktd_sub))
local macro_rules | `(tactic| walk_at "call ref") => `(tactic| (k_here; k_dflt (refine' use (mat_new ?h1 ?h2 ?h3 ?h4 ?h5 ?h6 ?s1 ?s2 ?s3 ?s4 ?s5 ?s6) ?_; (case h1 => ktr_rel); (case h2 => ktr_rel); (case h3 => ktr_rel); (case h4 => ktr_rel); (case h5 => ktr_rel); (case h6 => ktr_rel); (case s1 => ktr_rel); (case s2 => ktr_rel); (case s3 => ktr_rel); (case s4 => ktr_rel); (case s5 => ktr_rel); (case s6 => ktr_rel); kwd_rel)))
local macro_rules | `(tactic| walk_at "call ref") => `(tactic| (k_here; k_dflt (refine' use (dec_plus ?h1 ?h2 ?h3) ?_; (case h1 => ktr_rel); (case h2 => ktr_rel); (case h3 => ktr_rel); kwd_rel)))
local macro_rules | `(tactic| walk_at "call ref") => `(tactic| (k_here; k_dflt (refine' use (dec_times ?h1 ?h2 ?h3) ?_; (case h1 => ktr_rel); (case h2 => ktr_rel); (case h3 => ktr_rel); kwd_rel)))
set_option maxHeartbeats 4000000 in
theorem mat_applied {w : World} {news : Led} {v x y : Value} {M : Mt} {qx qy : Rat} {bm bx : Nat} (hm : MatIn w.params news v M bm) (hx : DecIn w.params news x qx bx) (hy : DecIn w.params news y qy bx) (hB : bm + bx ≤ 800) :
    Yields w (.ref 208) [v, x, y] news 12 (fun tl r => PairIn w.params tl r (M.a * qx + M.c * qy + M.e) (M.b * qx + M.d * qy + M.f) (3 * bm + 2 * bx + 2)) := by
  unfold Yields
  k_fill
  intro p loose mean mg mb dp un gd cn cs a ccd cl outer A₀ base h₀ L m s Q E B F X N T hk hd hu hret
  obtain ⟨i1, i2, ha, hb, hc, hd', he, hf⟩ := hm
  refine wpAny_call ?_
  k_dflt ktr_enter
  k_steps
  refine hret _ _ _ _ (by assumption) (by ktn_open) (by ktn_ord) ?_
  exact .mk (by k_mem) (DecIn.more (DecIn.mono (by assumption) (by ktd_sub)) (by omega)) (DecIn.more (DecIn.mono (by assumption) (by ktd_sub)) (by omega))
local macro_rules | `(tactic| walk_at "call ref") => `(tactic| (k_here; k_dflt (refine' use (dec_times_int ?h1 ?h2 ?h3) ?_; (case h1 => ktr_rel); (case h2 => ktr_rel); (case h3 => ktr_rel); kwd_rel)))
set_option maxHeartbeats 4000000 in
theorem mat_shifted_di {w : World} {news : Led} {v x : Value} {M : Mt} {qx : Rat} {bm bx : Nat} {y : Int} {ty : Tok} (hm : MatIn w.params news v M bm) (hx : DecIn w.params news x qx bx) (hy : y.natAbs < 10 ^ 1) (hB : bm + bx ≤ 800) :
    Yields w (.ref 215) [v, x, .int y ty] news 12 (fun tl r => PairIn w.params tl r (M.a * qx + M.c * y) (M.b * qx + M.d * y) (2 * bm + bx + 2)) := by
  unfold Yields
  k_fill
  intro p loose mean mg mb dp un gd cn cs a ccd cl outer A₀ base h₀ L m s Q E B F X N T hk hd hu hret
  obtain ⟨i1, i2, ha, hb, hc, hd', he, hf⟩ := hm
  refine wpAny_call ?_
  k_dflt ktr_enter
  k_steps
  refine hret _ _ _ _ (by assumption) (by ktn_open) (by ktn_ord) ?_
  exact .mk (by k_mem) (DecIn.more (DecIn.mono (by assumption) (by ktd_sub)) (by omega)) (DecIn.more (DecIn.mono (by assumption) (by ktd_sub)) (by omega))
set_option maxHeartbeats 4000000 in
theorem mat_shifted_id {w : World} {news : Led} {v y : Value} {M : Mt} {qy : Rat} {bm bx : Nat} {x : Int} {tx : Tok} (hm : MatIn w.params news v M bm) (hx : x.natAbs < 10 ^ 1) (hy : DecIn w.params news y qy bx) (hB : bm + bx ≤ 800) :
    Yields w (.ref 215) [v, .int x tx, y] news 12 (fun tl r => PairIn w.params tl r (M.a * x + M.c * qy) (M.b * x + M.d * qy) (2 * bm + bx + 2)) := by
  unfold Yields
  k_fill
  intro p loose mean mg mb dp un gd cn cs a ccd cl outer A₀ base h₀ L m s Q E B F X N T hk hd hu hret
  obtain ⟨i1, i2, ha, hb, hc, hd', he, hf⟩ := hm
  refine wpAny_call ?_
  k_dflt ktr_enter
  k_steps
  refine hret _ _ _ _ (by assumption) (by ktn_open) (by ktn_ord) ?_
  exact .mk (by k_mem) (DecIn.more (DecIn.mono (by assumption) (by ktd_sub)) (by omega)) (DecIn.more (DecIn.mono (by assumption) (by ktd_sub)) (by omega))
end
section
end
local macro_rules | `(tactic| walk_at "getMethod") => `(tactic| (k_here; (with_reducible show wpAny _ _ (getMethod _ _ _) _ _ _); k_dflt (first
  | (refine' dec_meth_times ?R ?F ?X ?N ?S ?_; (case R => assumption); (case F => k_asm); (case X => k_asm); (case N => k_asm); (case S => ktd_sub))
  | (refine' dec_meth_plus ?R ?F ?X ?N ?S ?_; (case R => assumption); (case F => k_asm); (case X => k_asm); (case N => k_asm); (case S => ktd_sub))
  | (refine' dec_meth_told ?R ?F ?X ?N ?S ?_; (case R => assumption); (case F => k_asm); (case X => k_asm); (case N => k_asm); (case S => ktd_sub)))))
local macro_rules | `(tactic| ktr_rel) => `(tactic| first | assumption | decide | exact DecIn.mono (by assumption) (by ktd_sub) | exact MatIn.mono (by assumption) (by ktd_sub) | exact sub_l (by assumption) | ktd_sub | omega)
section
local macro_rules | `(tactic| walk_at "call ref") => `(tactic| (k_here; k_dflt (refine' use (mat_new ?h1 ?h2 ?h3 ?h4 ?h5 ?h6 ?s1 ?s2 ?s3 ?s4 ?s5 ?s6) ?_; (case h1 => ktr_rel); (case h2 => ktr_rel); (case h3 => ktr_rel); (case h4 => ktr_rel); (case h5 => ktr_rel); (case h6 => ktr_rel); (case s1 => ktr_rel); (case s2 => ktr_rel); (case s3 => ktr_rel); (case s4 => ktr_rel); (case s5 => ktr_rel); (case s6 => ktr_rel); kwd_rel)))
local macro_rules | `(tactic| walk_at "call ref") => `(tactic| (k_here; k_dflt (refine' use (dec_plus ?h1 ?h2 ?h3) ?_; (case h1 => ktr_rel); (case h2 => ktr_rel); (case h3 => ktr_rel); kwd_rel)))
local macro_rules | `(tactic| walk_at "call ref") => `(tactic| (k_here; k_dflt (refine' use (dec_times ?h1 ?h2 ?h3) ?_; (case h1 => ktr_rel); (case h2 => ktr_rel); (case h3 => ktr_rel); kwd_rel)))
local macro_rules | `(tactic| walk_at "call ref") => `(tactic| (k_here; k_dflt (refine' use (dec_times_int ?h1 ?h2 ?h3) ?_; (case h1 => ktr_rel); (case h2 => ktr_rel); (case h3 => ktr_rel); kwd_rel)))
local macro_rules | `(tactic| walk_at "call ref") => `(tactic| (k_here; k_dflt (refine' use (mat_applied ?h1 ?h2 ?h3 ?h4) ?_; (case h1 => ktr_rel); (case h2 => ktr_rel); (case h3 => ktr_rel); (case h4 => ktr_rel); intro r9 tl9 h9 tk9 F9 N9 hl9 ho9; (obtain ⟨hp7, hp8, hp9⟩ := ho9); (replace hp7 := app_r N9 hp7); (try simp only [List.nil_append, List.cons_append, List.append_nil, List.append_assoc] at hp7); (try simp only [List.nil_append, List.cons_append, List.append_nil, List.append_assoc] at N9); (try simp only [List.nil_append, List.cons_append, List.append_nil, List.append_assoc] at ho9);  (try simp only [List.nil_append, List.cons_append, List.append_nil, List.append_assoc] at N9); (try dsimp only); (try k_sweep))))
local macro_rules | `(tactic| walk_at "call ref") => `(tactic| (k_here; k_dflt (refine' use (mat_shifted_di ?h1 ?h2 ?h3 ?h4) ?_; (case h1 => ktr_rel); (case h2 => ktr_rel); (case h3 => ktr_rel); (case h4 => ktr_rel); intro r9 tl9 h9 tk9 F9 N9 hl9 ho9; (obtain ⟨hp7, hp8, hp9⟩ := ho9); (replace hp7 := app_r N9 hp7); (try simp only [List.nil_append, List.cons_append, List.append_nil, List.append_assoc] at hp7); (try simp only [List.nil_append, List.cons_append, List.append_nil, List.append_assoc] at N9); (try simp only [List.nil_append, List.cons_append, List.append_nil, List.append_assoc] at ho9);  (try simp only [List.nil_append, List.cons_append, List.append_nil, List.append_assoc] at N9); (try dsimp only); (try k_sweep))))
local macro_rules | `(tactic| walk_at "call ref") => `(tactic| (k_here; k_dflt (refine' use (mat_shifted_id ?h1 ?h2 ?h3 ?h4) ?_; (case h1 => ktr_rel); (case h2 => ktr_rel); (case h3 => ktr_rel); (case h4 => ktr_rel); intro r9 tl9 h9 tk9 F9 N9 hl9 ho9; (obtain ⟨hp7, hp8, hp9⟩ := ho9); (replace hp7 := app_r N9 hp7); (try simp only [List.nil_append, List.cons_append, List.append_nil, List.append_assoc] at hp7); (try simp only [List.nil_append, List.cons_append, List.append_nil, List.append_assoc] at N9); (try simp only [List.nil_append, List.cons_append, List.append_nil, List.append_assoc] at ho9);  (try simp only [List.nil_append, List.cons_append, List.append_nil, List.append_assoc] at N9); (try dsimp only); (try k_sweep))))
set_option maxHeartbeats 4000000 in
theorem mat_times {w : World} {news : Led} {v v' : Value} {M N' : Mt} {bm bn : Nat} (hm : MatIn w.params news v M bm) (hn : MatIn w.params news v' N' bn) (hB : bm + bn ≤ 800) :
    Yields w (.ref 201) [v, v'] news 16 (fun tl r => MatIn w.params tl r (M.mul N') (2 * bm + 3 * bn + 2)) := by
  unfold Yields
  k_fill
  intro p loose mean mg mb dp un gd cn cs a ccd cl outer A₀ base h₀ L m s Q E B F X N T hk hd hu hret
  have hm' := hm
  have hn' := hn
  obtain ⟨i1, i2, ha, hb, hc, hd', he, hf⟩ := hm
  obtain ⟨j1, j2, ka, kb, kc, kd, ke, kf⟩ := hn
  refine wpAny_call ?_
  k_dflt ktr_enter
  k_steps
  refine hret _ _ _ _ (by assumption) (by ktn_open) (by ktn_ord) ?_
  exact MatIn.more (MatIn.mono (by assumption) (by ktd_sub)) (by omega)
set_option maxHeartbeats 4000000 in
theorem along_ok {w : World} {news lm : Led} {v x : Value} {M : Mt} {qx : Rat} {bm bx : Nat} (hm : MatIn w.params lm v M bm) (sm : ∀ p ∈ lm, p ∈ news) (hx : DecIn w.params news x qx bx) (hB : bm + bx ≤ 800) :
    Yields w (.ref 311) [v, x] news 16 (fun tl r => MatIn w.params (lm ++ tl) r (M.along qx) (3 * bm + bx + 3)) := by
  unfold Yields
  k_fill
  intro p loose mean mg mb dp un gd cn cs a ccd cl outer A₀ base h₀ L m s Q E B F X N T hk hd hu hret
  have hm' := hm.mono sm
  obtain ⟨i1, i2, ha, hb, hc, hd', he, hf⟩ := hm
  replace i1 := sm _ i1
  replace i2 := sm _ i2
  replace he := he.mono sm
  replace hf := hf.mono sm
  refine wpAny_call ?_
  k_dflt ktr_enter
  k_steps
  refine hret _ _ _ _ (by assumption) (by ktn_open) (by ktn_ord) ?_
  exact MatIn.more (MatIn.mono (by assumption) (by ktd_sub)) (by omega)
end
section
open PyProof.V PySem.Spec
-- a dict whose keys are made tuples of two ints, by its entries
section
variable {prog : Program} {w : World}
abbrev KV := List Int × Addr × Value
def CharsObj (prog : Program) (w : World) (o : Obj) (xs : List KV) : Prop :=
  o.ExactDict ∧ (∃ es ep, o.data = .dict es ep ∧ es.toList = xs.map (entryOfKey (tupleKind (intKind prog w)))) ∧ (xs.map (·.1)).Nodup
def KeyObj (prog : Program) (w : World) (x : KV) (o : Obj) : Prop := TupKeyObj (intKind prog w) x.1 o
theorem key_ne {h : Heap} {d a : Addr} {o ok : Obj} {ks : List Int} (ho : h.get? d = some o) (hc : o.cls = .type "dict") (ha : h.get? a = some ok) (t : TupKeyObj (intKind prog w) ks ok) : a ≠ d := by
  intro e
  subst e
  obtain rfl : ok = o := Option.some.inj (ha.symm.trans ho)
  have h1 := t.1
  rw [hc] at h1
  injection h1 with h2
  exact absurd h2 (by decide)
theorem stores_H {A : Around} {E : Value → Shared → Prop} {d : Addr} (hu : A.units < cLine) : ∀ (ps xs : List KV) (s : Shared) (Q : PUnit → Shared → Prop), s.heap.DictOfH (tupleKind (intKind prog w)) d xs →
    (∀ x ∈ ps, ∃ ok, s.heap.get? x.2.1 = some ok ∧ KeyObj prog w x ok) → ((xs ++ ps).map (·.1)).Nodup → (xs ++ ps).length ≤ sizeLine →
    (∀ h' tk, h'.DictOfH (tupleKind (intKind prog w)) d (xs ++ ps) → Heap.SameBut d s.heap h' → Q PUnit.unit { s with heap := h', toks := tk }) →
    wpAny (model prog w) A (storeAll d (ps.map fun x => (.ref x.2.1, x.2.2))) Q E s := by
  intro ps
  induction ps with
  | nil =>
    intro xs s Q hD _ _ _ hQ
    unfold storeAll
    rw [List.map_nil, List.forIn_nil]
    rw [List.append_nil] at hQ
    exact wpAny_pure (hQ s.heap s.toks hD (Heap.SameBut.refl _ _))
  | cons x ps ih =>
    intro xs s Q hD hk hn hz hQ
    obtain ⟨ks, a, v⟩ := x
    obtain ⟨ok, ho, t⟩ := hk _ (.head _)
    have hzz : xs.length ≤ sizeLine := by simp only [List.length_append, List.length_cons] at hz; omega
    have hnot : ks ∉ xs.map (·.1) := by
      rw [List.map_append, List.map_cons] at hn
      intro hm
      exact (List.nodup_append.mp hn).2.2 ks hm ks (.head _) rfl
    unfold storeAll
    rw [List.map_cons, List.forIn_cons]
    refine wpAny_bind (wpAny_bind (wpAny_dictSet_heap (hsz := hzz) (knd := tupleKind (intKind prog w)) hu (t.key ho) hD fun h1 hD1 hs1 => wpAny_pure ?_))
    have e1 : storedH xs ks a v = xs ++ [(ks, a, v)] := by
      refine storedH_new ?_ a v
      refine atKey_none_of_get fun j p hj => hnot (List.mem_map.mpr ⟨(ks, p), List.mem_of_getElem? hj, rfl⟩)
    rw [e1] at hD1
    obtain ⟨oD, _, _, hoD, hcD, _⟩ := hD
    refine ih (xs ++ [(ks, a, v)]) _ Q hD1 (fun y hy => ?_) (by rw [List.append_assoc]; exact hn) (by rw [List.append_assoc]; exact hz) fun h' tk hD' hs' => ?_
    · obtain ⟨oy, hoy, ty⟩ := hk y (.tail _ hy)
      exact ⟨oy, (hs1.2 _ (key_ne hoD hcD.1 hoy ty)).trans hoy, ty⟩
    · rw [List.append_assoc] at hD'
      exact hQ h' tk hD' (hs1.trans hs')
theorem stores_N {A : Around} {E : Value → Shared → Prop} {s : Shared} {h₀ : Heap} {L d : Addr} {m : Str → Option Value} {news : List (Addr × Obj)} {g : Obj → List (Addr × Obj)} {o : Obj} {K' : Type} [DecidableEq K'] {knd' : KeyKind prog w K'} {Q : Value → Shared → Prop}
    {vs : List (Value × Value)} (ps : List KV) (hu : A.units < cLine) (F : Fr h₀ L s.heap m) (N : News h₀ L s.heap news) (U : UpdF d o news g) (hd : o.IsDictOf knd' []) (e : vs = ps.map fun x => (.ref x.2.1, x.2.2))
    (hk : ∀ x ∈ ps, ∃ ok, (x.2.1, ok) ∈ news ∧ KeyObj prog w x ok) (hn : (ps.map (·.1)).Nodup) (hz : ps.length ≤ 100)
    (h : ∀ h' o' tk, Fr h₀ L h' m → News h₀ L h' (g o') → CharsObj prog w o' ps → Q (.ref d) { s with heap := h', toks := tk }) : TupStores prog w A E d Q vs s := by
  subst e
  obtain ⟨pre, post, rfl, hg, a, b⟩ := U.split
  have hm := N (d, o) (List.mem_append_right _ (.head _))
  have hD : s.heap.DictOfH (tupleKind (intKind prog w)) d [] := by
    obtain ⟨es, ep, hc, hdat, _, hp, _⟩ := hd
    have he : es.toList = [] := List.length_eq_zero_iff.mp hp.length
    exact ⟨o, es, ep, hm.1, hc, hdat, by rw [he]; rfl, fun _ hx => by simp at hx, List.nodup_nil⟩
  refine stores_H hu ps [] s _ hD (fun x hx => ?_) (by simpa using hn) (by rw [sizeLine_eq]; simp only [List.nil_append]; omega) fun h' tk hD' hs' => ?_
  · obtain ⟨ok, hok, t⟩ := hk x hx
    exact ⟨ok, (N _ hok).1, t⟩
  · obtain ⟨o', es, ep, ho', hc', hd', he', _, hn'⟩ := hD'
    exact h h' o' tk (F.change hs' hm.2.1 hm.2.2) (by rw [hg]; exact N.setIn a b hs' ho') ⟨hc', ⟨es, ep, hd', he'⟩, hn'⟩
end
/-- the table of the four glyphs' texts -/
def charsD : List (PyData × PyData) := [(encTuple PyData.int [1, 32], .str (Str.ofString " ")), (encTuple PyData.int [1, 65], .str (Str.ofString "a")), (encTuple PyData.int [1, 66], .str (Str.ofString "")), (encTuple PyData.int [1, 200], .str (Str.ofString "fi"))]
inductive FontIn (prog : Program) (w : World) (led : Led) : Value → Prop
  | mk {f fd u ud ch r rt wl e : Addr} {k1 k2 k3 k4 k5 k6 k7 k8 k9 t1 t2 t3 t4 t5 : Tok} {vn vs vu : Value} {n1 n2 n3 : Nat} :
    (f, instObj 477 fd) ∈ led → (fd, dictOf [ent w.params (Str.ofString "names") k1 vn, ent w.params (Str.ofString "cutting") k2 .none, ent w.params (Str.ofString "unicode") k3 (.ref u), ent w.params (Str.ofString "rows") k4 (.ref r), ent w.params (Str.ofString "default") k5 (.int 333 t1), ent w.params (Str.ofString "unit") k6 vu, ent w.params (Str.ofString "standard") k7 (.ref e)] 7) ∈ led →
    (u, instObj 340 ud) ∈ led → (ud, dictOf [ent w.params (Str.ofString "spaces") k8 vs, ent w.params (Str.ofString "chars") k9 (.ref ch)] 2) ∈ led → TupTab (intKind prog w) PyData.int led ch charsD →
    (r, listOf #[.ref rt] n1) ∈ led → (rt, ({ cls := .type "tuple", data := .seq #[.int 65 t2, .int 66 t3, .ref wl] n2 } : Obj)) ∈ led → (wl, listOf #[.int 250 t4, .int 1000 t5] n3) ∈ led →
    DecIn w.params led vu (1 / 1000) 3 → (e, ({ cls := .type "tuple", data := .seq #[] } : Obj)) ∈ led → FontIn prog w led (.ref f)
theorem TupTab_sub {prog : Program} {w : World} {led led' : Led} {d : Addr} {D : List (PyData × PyData)} (T : TupTab (intKind prog w) PyData.int led d D) (hs : ∀ p ∈ led, p ∈ led') : TupTab (intKind prog w) PyData.int led' d D :=
  let ⟨lo, o, es, ep, xs, hm, hc, hd, he, hn, hk, hf⟩ := T
  ⟨lo, o, es, ep, xs, hs _ hm, hc, hd, he, hn, fun x hx => let ⟨okx, hmk, t⟩ := hk x hx; ⟨okx, hs _ hmk, t⟩, hf⟩
theorem FontIn.mono {prog : Program} {w : World} {led led' : Led} {v : Value} (h : FontIn prog w led v) (hs : ∀ p ∈ led, p ∈ led') : FontIn prog w led' v := by
  cases h with
  | mk h1 h2 h3 h4 h5 h6 h7 h8 h9 h10 => exact .mk (hs _ h1) (hs _ h2) (hs _ h3) (hs _ h4) (TupTab_sub h5 hs) (hs _ h6) (hs _ h7) (hs _ h8) (h9.mono hs) (hs _ h10)
theorem chars_tab {prog : Program} {w : World} {led : Led} {d a1 a2 a3 a4 : Addr} {o : Obj} {t1 t2 t3 t4 : Tok} (hd : (d, o) ∈ led) (lo : (d == sysModules) = false)
    (C : CharsObj prog w o [([1, 32], a1, .str (Str.ofString " ") t1), ([1, 65], a2, .str (Str.ofString "a") t2), ([1, 66], a3, .str (Str.ofString "") t3), ([1, 200], a4, .str (Str.ofString "fi") t4)])
    (hk : ∀ x ∈ [([1, 32], a1, Value.str (Str.ofString " ") t1), ([1, 65], a2, .str (Str.ofString "a") t2), ([1, 66], a3, .str (Str.ofString "") t3), ([1, 200], a4, .str (Str.ofString "fi") t4)], ∃ o, (x.2.1, o) ∈ led ∧ KeyObj prog w x o) :
    TupTab (intKind prog w) PyData.int led d charsD := by
  obtain ⟨hc, ⟨es, ep, h1, h2⟩, hn⟩ := C
  refine ⟨lo, o, es, ep, _, hd, hc, h1, h2, hn, hk, ?_⟩
  exact .cons (.str _ _) (.cons (.str _ _) (.cons (.str _ _) (.cons (.str _ _) .nil)))
section
variable {prog : Program} {w : World} {A : Around} {E : Value → Shared → Prop} {s : Shared} {h₀ : Heap} {L : Addr} {m : Str → Option Value} {news : List (Addr × Obj)}
theorem mul_K {l : Addr} {items : Array Value} {k : Nat} {x : Int} {u : Tok} {Q : Value → Shared → Prop} (F : Fr h₀ L s.heap m) (N : News h₀ L s.heap news) (hm : (l, listOf items k) ∈ news)
    (hlo : -(2 ^ 63 : Int) ≤ x) (hhi : x < 2 ^ 63) (hsz : items.size * x.toNat ≤ 2 ^ 24)
    (h : ∀ D h' o, Fr h₀ L h' m → News h₀ L h' ((D, o) :: news) → (∀ p ∈ news, p.1 < D) → Q (.ref D) { s with heap := h' }) : wpAny (model prog w) A (binaryOp .Mult (.ref l) (.int x u)) Q E s :=
  mul_list F N (N _ hm).1 hlo hhi hsz fun h' F' N' => h _ h' _ F' N' fun p hp => Heap.lt_size (N p hp).1
theorem dict_tup_K {env : Env} {keys : List (Option Expr)} {values : List Expr} {pos : Pos} {Q : Value → Shared → Prop} (t : tupFirst keys = true) (F : Fr h₀ L s.heap m) (N : News h₀ L s.heap news)
    (hbig : sysModules < h₀.objs.size) (hall : keys.all (·.isSome) = true) (hl : keys.length = values.length) (h0 : keys ≠ []) (hlen : keys.length ≤ 15)
    (h : ∀ d h' o, Fr h₀ L h' m → News h₀ L h' ((d, o) :: news) → (∀ p ∈ news, p.1 < d) → (d == sysModules) = false → o.IsDictOf (intKind prog w) [] →
      wpAny (model prog w) A (evalPairs (pairTrees keys values env pos)) (TupStores prog w A E d Q) E { s with heap := h' }) :
    wpAny (model prog w) A (eval (.Dict keys values pos) env) Q E s :=
  Dict_tup_made t F N hbig hall hl h0 hlen fun o F' N' lo hd => h _ _ o F' N' (fun p hp => Heap.lt_size (N p hp).1) lo hd
end
end
section
local macro_rules | `(tactic| walk_at "call ref") => `(tactic| (k_here; k_dflt (refine' use (decof_int ?hn) ?_; (case hn => ktr_rel); kwd_rel)))
set_option maxHeartbeats 1000000 in
theorem mat_new_int {w : World} {news : Led} {x1 x2 x3 x4 x5 x6 : Int} {t1 t2 t3 t4 t5 t6 : Tok} {b : Nat}
    (h1 : x1.natAbs < 10 ^ b) (h2 : x2.natAbs < 10 ^ b) (h3 : x3.natAbs < 10 ^ b) (h4 : x4.natAbs < 10 ^ b) (h5 : x5.natAbs < 10 ^ b) (h6 : x6.natAbs < 10 ^ b) :
    Yields w (.ref 230) [.int x1 t1, .int x2 t2, .int x3 t3, .int x4 t4, .int x5 t5, .int x6 t6] news 9 (fun tl r => MatIn w.params tl r ⟨x1, x2, x3, x4, x5, x6⟩ b) := by
  unfold Yields
  k_fill
  intro p loose mean mg mb dp un gd cn cs a ccd cl outer A₀ base h₀ L m s Q E B F X N T hk hd hu hret
  k_dflt (refine' call_cls ?k1 ?k2 ?k3 ?k4 ?k5 ?k6 ?_; (case k1 => k_asm); (case k2 => k_asm); (case k3 => k_asm); (case k4 => k_is); (case k5 => k_is); (case k6 => k_is); k_whole; intro x' d' h' F' N' l1 l2; (try k_lt2 l2))
  k_dflt ktr_enter
  k_steps
  refine hret _ _ _ _ (by assumption) (by ktn_open) (by ktn_ord) ?_
  exact MatIn.more (MatIn.new (by k_mem) (by k_mem) (DecIn.mono (by assumption) (by ktd_sub)) (DecIn.mono (by assumption) (by ktd_sub)) (DecIn.mono (by assumption) (by ktd_sub)) (DecIn.mono (by assumption) (by ktd_sub)) (DecIn.mono (by assumption) (by ktd_sub)) (DecIn.mono (by assumption) (by ktd_sub))) (by omega)
end
section
theorem ord_via {news tl led : Led} {d x : Addr} {o : Obj} (l : @LT.lt Nat _ d x) (h : AllLt d led) (s : ∀ p ∈ news, p ∈ led) (k : ∀ q ∈ news, ∀ p ∈ tl, q.1 ≠ p.1) : ∀ q ∈ news, ∀ p ∈ (x, o) :: tl, q.1 ≠ p.1 :=
  ord_cons (fun q hq => Nat.lt_trans (ktn_ltOf h q (s q hq)) l) k
theorem stores_4 {w : World} {A : Around} {E : Value → Shared → Prop} {s : Shared} {h₀ : Heap} {L d : Addr} {m : Str → Option Value} {news : Led} {g : Obj → Led} {o : Obj} {Q : Value → Shared → Prop} {prog : Program}
    {a1 a2 a3 a4 : Addr} {v1 v2 v3 v4 : Value} {ks1 ks2 ks3 ks4 : List Int} (hu : A.units < cLine) (F : Fr h₀ L s.heap m) (N : News h₀ L s.heap news) (U : UpdF d o news g) (hd : o.IsDictOf (intKind prog w) [])
    (k1 : ∃ o, (a1, o) ∈ news ∧ TupKeyObj (intKind prog w) ks1 o) (k2 : ∃ o, (a2, o) ∈ news ∧ TupKeyObj (intKind prog w) ks2 o) (k3 : ∃ o, (a3, o) ∈ news ∧ TupKeyObj (intKind prog w) ks3 o) (k4 : ∃ o, (a4, o) ∈ news ∧ TupKeyObj (intKind prog w) ks4 o) (hn : [ks1, ks2, ks3, ks4].Nodup)
    (h : ∀ h' o' tk, Fr h₀ L h' m → News h₀ L h' (g o') → CharsObj prog w o' [(ks1, a1, v1), (ks2, a2, v2), (ks3, a3, v3), (ks4, a4, v4)] → Q (.ref d) { s with heap := h', toks := tk }) : TupStores prog w A E d Q [(.ref a1, v1), (.ref a2, v2), (.ref a3, v3), (.ref a4, v4)] s :=
  stores_N [(ks1, a1, v1), (ks2, a2, v2), (ks3, a3, v3), (ks4, a4, v4)] hu F N U hd rfl (List.forall_mem_cons.mpr ⟨k1, List.forall_mem_cons.mpr ⟨k2, List.forall_mem_cons.mpr ⟨k3, List.forall_mem_cons.mpr ⟨k4, List.forall_mem_nil _⟩⟩⟩⟩) hn (by show 4 ≤ 100; decide) h
local macro_rules | `(tactic| walk_at "call ref") => `(tactic| (k_here; k_dflt (refine' use (mk_dec (b := 3) ?hn ?hb ?hp) ?_; (case hn => ktr_rel); (case hb => ktr_rel); (case hp => ktr_rel); kwd_rel)))
local macro_rules | `(tactic| ktr_rel) => `(tactic| first | assumption | decide | omega)
local macro_rules | `(tactic| walk_at "eval Dict") => `(tactic| (k_here; (with_reducible refine dict_tup_K (by with_unfolding_all rfl) (by k_asm) (by k_asm) (modules_low (TopRead.nolimit (by k_asm))) (by with_unfolding_all rfl) (by with_unfolding_all rfl) (List.cons_ne_nil _ _) (by with_unfolding_all decide) ?_); intro d9 h9 o9 F9 N9 l9 lo9 hd9; (try k_sweep)))
local macro_rules | `(tactic| walk_at "TupStores") => `(tactic| (k_here; (with_reducible (refine' stores_4 (ks1 := [1, 32]) (ks2 := [1, 65]) (ks3 := [1, 66]) (ks4 := [1, 200]) ?hu ?F ?N ?U ?d ?k1 ?k2 ?k3 ?k4 ?n ?_)); k_dflt ((case hu => ktr_units); (case F => k_asm); (case N => k_asm); (case U => k_updF); (case d => k_asm); (case k1 => exact ⟨_, by k_mem, TupKeyObj.made (by tuptab_items_int)⟩); (case k2 => exact ⟨_, by k_mem, TupKeyObj.made (by tuptab_items_int)⟩); (case k3 => exact ⟨_, by k_mem, TupKeyObj.made (by tuptab_items_int)⟩); (case k4 => exact ⟨_, by k_mem, TupKeyObj.made (by tuptab_items_int)⟩); (case n => decide); intro h' o' tk' F' N' C'; (try k_sweep))))
local macro_rules | `(tactic| walk_at "binaryOp Mult ref int") => `(tactic| (k_here; k_dflt (refine' mul_K ?F ?N ?m ?a ?b ?c ?_; (case F => k_asm); (case N => k_asm); (case m => k_mem); (case a => decide); (case b => decide); (case c => exact Nat.le_of_ble_eq_true rfl); intro D' h' o' F' N' l1; (try k_lt l1); (try k_sweep))))
set_option maxHeartbeats 1000000 in
theorem law_font {w : World} {news : Led} : Yields w (.ref 495) [] news 9 (fun tl r => FontIn PySem.Challenge.rw_og0182_01.row.prog w tl r) := by
  unfold Yields
  k_fill
  intro p loose mean mg mb dp un gd cn cs a ccd cl outer A₀ base h₀ L m s Q E B F X N T hk hd hu hret
  refine wpAny_call ?_
  k_dflt ktr_enter
  k_steps
  (repeat (with_reducible rename (_ ∧ _) => hcj; obtain ⟨hcj1, hcj2⟩ := hcj))
  refine hret _ _ _ _ (by assumption) (ktn_oN [_,_,_,_,_,_,_,_,_,_,_,_,_,_,_,_] (by assumption)) ?_ ?_
  · simp only [List.cons_append, List.nil_append]
    refine' ord_via ?l ?h ?s ?k
    case l => assumption
    case h => assumption
    case s => exact fun _ h => List.mem_append.mpr (.inl h)
    case k =>
      repeat (first | refine ord_cons (sub_ltA (by assumption) (by ktd_sub)) ?_ | refine ord_cons (sub_lt (by assumption) (by ktd_sub)) ?_ | (refine' ord_via ?l ?h ?s ?k; (case l => assumption); (case h => assumption); (case s => ktd_sub)))
      exact sub_ord (by assumption) (by ktd_sub)
  simp only [List.cons_append, List.nil_append]
  refine' FontIn.mk ?a1 ?a2 ?a3 ?a4 (chars_tab ?b1 ?b2 ?b3 (List.forall_mem_cons.mpr ⟨⟨_, ?c1, TupKeyObj.made ?d1⟩, List.forall_mem_cons.mpr ⟨⟨_, ?c2, TupKeyObj.made ?d2⟩, List.forall_mem_cons.mpr ⟨⟨_, ?c3, TupKeyObj.made ?d3⟩, List.forall_mem_cons.mpr ⟨⟨_, ?c4, TupKeyObj.made ?d4⟩, List.forall_mem_nil _⟩⟩⟩⟩)) ?a5 ?a6 ?a7 (DecIn.mono (by assumption) ?s) ?a8
  case a1 => k_mem
  case a2 => k_mem
  case a3 => k_mem
  case a4 => k_mem
  case b3 => assumption
  case b1 => k_mem
  case b2 => assumption
  case c1 => k_mem
  case c2 => k_mem
  case c3 => k_mem
  case c4 => k_mem
  case a5 => k_mem
  case a6 => k_mem
  case a7 => k_mem
  case s => ktd_sub
  case a8 => k_mem
  all_goals tuptab_items_int
end
section
/-- the glyphs' widths in thousandths -/
def wd (c : Int) : Int := if c = 65 then 250 else if c = 66 then 1000 else 333
def Code4 (c : Int) : Prop := c = 32 ∨ c = 65 ∨ c = 66 ∨ c = 200
theorem news_nil {h₀ h : Heap} {L : Addr} {news led : Led} (N : News h₀ L h led) (s : ∀ p ∈ news, p ∈ led) : News h₀ L h (news ++ []) := fun p hp => N p (s p (by rwa [List.append_nil] at hp))
theorem news_more {h₀ h : Heap} {L : Addr} {news : Led} {p : Addr × Obj} (N : News h₀ L h news) (m : p ∈ news) : News h₀ L h (p :: news) := fun q hq => by
  rcases List.mem_cons.mp hq with rfl | hq
  · exact N _ m
  · exact N _ hq
theorem endW {prog : Program} {w : World} {A : Around} {E : Value → Shared → Prop} {h₀ h' : Heap} {env : Env} {target : PySem.Expr} {body : List Stmt} {Q : Flow → Shared → Prop} {s s₁ : Shared} {I : Addr} {it : Obj} {cn : String} {keep : Led} {xs : List Itm} {m' : Str → Option Value} {news' : Led} {tk : Nat}
    (F : Fr h₀ env.locals h' m') (N : News h₀ env.locals h' ((I, it) :: news')) (off : ∀ p ∈ news', p.1 < I) (hk : SubL keep news') (r : ItemsRest prog w A E h₀ env target body Q s [(I, cn)] keep xs m' news') :
    UnrEndW h₀ env.locals s₁ [(I, it)] (fun m' n' => SubL keep n' ∧ ItemsRest prog w A E h₀ env target body Q s [(I, cn)] keep xs m' n') { s₁ with heap := h', toks := tk } :=
  ⟨h', tk, m', news', rfl, F, N, fun p hp q hq e => by rw [List.mem_singleton.mp hq] at e; exact absurd e (Nat.ne_of_lt (off p hp)), hk, r⟩
local macro_rules | `(tactic| walk_at "exec For Tuple Name cons nil") => `(tactic| (k_here; (rename Fr _ _ _ _ => lF'); (with_unfolding_all refine' For_turns lF' ?_; k_whole)))
local macro_rules | `(tactic| walk_at "pyIter ref") => `(tactic| (k_here; (with_reducible show wpAny _ _ (pyIter (Value.ref _)) (fun it s₂ => TurnsAt _ _ _ _ _ _ _ _ _ it s₂) _ _); (rename Fr _ _ _ _ => lF'); (with_unfolding_all refine' iter_listTurns (lo := listOf #[.ref _] _) (vs := [.ref _]) ?h lF' ?N ?m ?c ?d ?_; (case h => rfl); (case N => k_asm); (case m => k_mem); (case c => rfl); (case d => rfl)); clear lF'; intro I' hI'))
local macro_rules | `(tactic| walk_at "UnrEndW") => `(tactic| (k_here; k_dflt (refine' endW ?F ?N ?o ?k ?_; (case F => assumption); (case N => assumption); (case o => assumption); (case k => exact And.intro (by k_mem) trivial))))
set_option maxHeartbeats 1000000 in
theorem width_in_ok {w : World} {news : Led} {r rt wl : Addr} {n1 n2 n3 : Nat} {t1 t2 t3 t4 tc td : Tok} {c : Int} (hr : (r, listOf #[.ref rt] n1) ∈ news) (hrt : (rt, ({ cls := .type "tuple", data := .seq #[.int 65 t1, .int 66 t2, .ref wl] n2 } : Obj)) ∈ news) (hwl : (wl, listOf #[.int 250 t3, .int 1000 t4] n3) ∈ news) (hc : Code4 c) :
    Yields w (.ref 427) [.ref r, .int c tc, .int 333 td] news 4 (fun tl v => ∃ u, v = .int (wd c) u) := by
  unfold Yields
  k_fill
  intro p loose mean mg mb dp un gd cn cs a ccd cl outer A₀ base h₀ L m s Q E B F X N T hk hd hu hret
  have N0 := news_more (news_more (news_more N hwl) (.tail _ hrt)) (.tail _ (.tail _ hr))
  clear N
  rcases hc with rfl | rfl | rfl | rfl
  all_goals (refine wpAny_call ?_; k_dflt ktr_enter; k_steps; refine hret _ [] _ _ (by assumption) (news_nil (by assumption) (by ktd_sub)) ord_nil ⟨_, rfl⟩)
end
section
local macro_rules | `(tactic| walk_at "zz") => `(tactic| skip)
theorem wd_lt (c : Int) : (wd c).natAbs < 10 ^ 4 := by
  unfold wd
  split
  · decide
  · split <;> decide
local macro_rules | `(tactic| ktr_rel) => `(tactic| exact wd_lt _)
local macro_rules | `(tactic| walk_at "call ref") => `(tactic| (k_here; k_dflt (refine' use (width_in_ok ?hr ?hrt ?hwl ?hc) ?_; (case hr => ktr_rel); (case hrt => ktr_rel); (case hwl => ktr_rel); (case hc => ktr_rel); intro r9 tl9 h9 tk9 F9 N9 hl9 ho9;  (try simp only [List.nil_append, List.cons_append, List.append_nil, List.append_assoc] at N9); (try simp only [List.nil_append, List.cons_append, List.append_nil, List.append_assoc] at ho9); (obtain ⟨u9, hu9⟩ := ho9); subst hu9; (try simp only [List.nil_append, List.cons_append, List.append_nil, List.append_assoc] at N9); (try dsimp only); (try k_sweep))))
local macro_rules | `(tactic| walk_at "call ref") => `(tactic| (k_here; k_dflt (refine' use (decof_int (b := 4) ?hn) ?_; (case hn => ktr_rel); kwd_rel)))
local macro_rules | `(tactic| walk_at "call ref") => `(tactic| (k_here; k_dflt (refine' use (dec_times ?h1 ?h2 ?h3) ?_; (case h1 => ktr_rel); (case h2 => ktr_rel); (case h3 => ktr_rel); kwd_rel)))
set_option maxHeartbeats 1000000 in
theorem font_width {w : World} {news lf : Led} {v : Value} {pa : Addr} {c : Int} {t1 t2 : Tok} {n : Nat} (hf : FontIn PySem.Challenge.rw_og0182_01.row.prog w lf v) (sf : ∀ p ∈ lf, p ∈ news) (hp : (pa, ({ cls := .type "tuple", data := .seq #[.int 1 t1, .int c t2] n } : Obj)) ∈ news) (hc : Code4 c) :
    Yields w (.ref 467) [v, .ref pa] news 14 (fun tl r => DecIn w.params tl r (wd c * (1 / 1000)) 7) := by
  unfold Yields
  k_fill
  intro p loose mean mg mb dp un gd cn cs a ccd cl outer A₀ base h₀ L m s Q E B F X N T hk hd hu hret
  replace hf := hf.mono sf
  obtain ⟨i1, i2, i3, i4, hT, i6, i7, i8, hU, i10⟩ := hf
  refine wpAny_call ?_
  k_dflt ktr_enter
  k_steps
  refine hret _ _ _ _ (by assumption) (by ktn_open) (by ktn_ord) ?_
  exact DecIn.mono (by assumption) (by ktd_sub)
end
section
/-- the glyphs' texts -/
def gt (c : Int) : Str := if c = 32 then Str.ofString " " else if c = 65 then Str.ofString "a" else if c = 66 then Str.ofString "" else Str.ofString "fi"
open PyProof.V PySem.Spec in
theorem gt_at {c : Int} (hc : Code4 c) : lookup (encTuple PyData.int [1, c]) charsD = some (.str (gt c)) := by
  rcases hc with rfl | rfl | rfl | rfl <;> rfl
theorem keyC {prog : Program} {w : World} {c : Int} {t1 t2 : Tok} {n : Nat} : TupKeyObj (intKind prog w) [1, c] ({ cls := .type "tuple", data := .seq #[.int 1 t1, .int c t2] n } : Obj) := ⟨rfl, _, _, rfl, by tuptab_items_int⟩
theorem flat_str {v : Value} {x : Str} (h : PyProof.V.Flat v (.str x)) : ∃ t, v = .str x t := PyProof.V.Flat.str_inv h
local macro_rules | `(tactic| walk_at "compareOp In ref ref") => `(tactic| (k_here; (with_reducible show wpAny _ _ (compareOp CmpOp.In (Value.ref _) (Value.ref _)) _ _ _); k_dflt (refine' in_tupTab_eq (b := true) (knd := intKind _ _) (enc := PyData.int) PyProof.V.same_int ?u ?N ?T ?h keyC ?b ?_; (case u => ktr_units); (case N => k_asm); (case T => assumption); (case h => assumption); (case b => rw [gt_at (by assumption)]; rfl))))
local macro_rules | `(tactic| walk_at "subscriptTail") => `(tactic| (k_here; (with_reducible show wpAny _ _ (subscriptTail _ _ (Value.ref _) (Value.ref _)) _ _ _); (with_unfolding_all refine' item_tupTab (knd := intKind _ _) (enc := PyData.int) PyProof.V.same_int ?u ?N ?T ?h keyC (gt_at (by assumption)) ?_ ?s ?g; (case u => ktr_units); (case N => k_asm); (case T => assumption); (case h => assumption); (case s => with_unfolding_all rfl); (case g => (intro _; with_unfolding_all rfl)); k_whole; intro v9 hv9; (obtain ⟨t9, hv9⟩ := flat_str hv9); subst hv9)))
set_option maxHeartbeats 1000000 in
theorem font_text {w : World} {news lf : Led} {v : Value} {pa : Addr} {c : Int} {t1 t2 : Tok} {n : Nat} (hf : FontIn PySem.Challenge.rw_og0182_01.row.prog w lf v) (sf : ∀ p ∈ lf, p ∈ news) (hp : (pa, ({ cls := .type "tuple", data := .seq #[.int 1 t1, .int c t2] n } : Obj)) ∈ news) (hc : Code4 c) :
    Yields w (.ref 474) [v, .ref pa] news 5 (fun tl r => ∃ t, r = .str (gt c) t) := by
  unfold Yields
  k_fill
  intro p loose mean mg mb dp un gd cn cs a ccd cl outer A₀ base h₀ L m s Q E B F X N T hk hd hu hret
  replace hf := hf.mono sf
  obtain ⟨i1, i2, i3, i4, hT, i6, i7, i8, hU, i10⟩ := hf
  refine wpAny_call ?_
  k_dflt ktr_enter
  k_steps
  refine hret _ [] _ _ (by assumption) (news_nil (by assumption) (by ktd_sub)) ord_nil ⟨_, rfl⟩
end
section
open PyProof.V PySem.Spec
inductive All2 {α β : Type} (R : α → β → Prop) : List α → List β → Prop
  | nil : All2 R [] []
  | cons {a : α} {b : β} {as : List α} {bs : List β} : R a b → All2 R as bs → All2 R (a :: as) (b :: bs)
theorem All2.imp {α β : Type} {R S : α → β → Prop} (f : ∀ a b, R a b → S a b) : ∀ {as : List α} {bs : List β}, All2 R as bs → All2 S as bs
  | _, _, .nil => .nil
  | _, _, .cons h t => .cons (f _ _ h) (t.imp f)
theorem All2.snoc {α β : Type} {R : α → β → Prop} {a : α} {b : β} (h : R a b) : ∀ {as : List α} {bs : List β}, All2 R as bs → All2 R (as ++ [a]) (bs ++ [b])
  | _, _, .nil => .cons h .nil
  | _, _, .cons k t => .cons k (t.snoc h)
theorem All2.append {α β : Type} {R : α → β → Prop} {xs : List α} {ys : List β} (h : All2 R xs ys) : ∀ {as : List α} {bs : List β}, All2 R as bs → All2 R (as ++ xs) (bs ++ ys)
  | _, _, .nil => h
  | _, _, .cons k t => .cons k (All2.append h t)
theorem All2.length {α β : Type} {R : α → β → Prop} : ∀ {as : List α} {bs : List β}, All2 R as bs → as.length = bs.length
  | _, _, .nil => rfl
  | _, _, .cons _ t => congrArg (· + 1) t.length
theorem All2.get {α β : Type} {R : α → β → Prop} : ∀ {as : List α} {bs : List β}, All2 R as bs → ∀ {i : Nat} {a : α}, as[i]? = some a → ∃ b, bs[i]? = some b ∧ R a b
  | _, _, .nil, _, _, h => by simp at h
  | _, _, .cons (a := x) (b := y) k t, 0, a, h => ⟨y, rfl, by have : x = a := by simpa using h
                                                              subst this; exact k⟩
  | _, _, .cons k t, i + 1, a, h => by
    obtain ⟨b, hb, r⟩ := t.get (i := i) (a := a) (by simpa using h)
    exact ⟨b, by simpa using hb, r⟩
section
variable {prog : Program} {w : World} {A : Around} {h₀ : Heap} {L : Addr} {m : Str → Option Value} {env : Env} {elt : Expr} {x : Str} {scope : Scope} {cl : List (Str × Addr)} {s : Shared} {S : List (Addr × Obj) → Prop} {P : Nat → Value → Prop} {Fin : List Value → List (Addr × Obj) → Prop} {news : List (Addr × Obj)}
/-- a comprehension's turns with an invariant -/
theorem comp_inv {n : Nat} (J : Nat → List Value → Led → Prop) (h0 : J 0 [] news)
    (turn : ∀ i v ys news I oI C oC D m₂ h tk (E' : Value → Shared → Prop), i < n → P i v → J i ys news → LCg.NsObj oC m₂ → m₂ x = some v → Fr h₀ L h m → News h₀ L h ((I, oI) :: (C, oC) :: (D, LCg.lst ys) :: news) → LCg.Off3 I C D news → ((@Ne Nat I C) ∧ (@Ne Nat I D) ∧ (@Ne Nat C D)) →
      wpAny (model prog w) A (eval elt (compEnvC scope cl C env)) (LCg.CompEnd h₀ L m { s with heap := h, toks := tk } I oI C oC D (LCg.lst ys) S (fun y news' => J (i + 1) (ys ++ [y]) news')) E' { s with heap := h, toks := tk })
    (fin : ∀ ys news, J n ys news → Fin ys news) : LCg.CompRest prog w A h₀ L m env elt x scope cl s S P Fin n 0 [] news := by
  have key : ∀ (j i : Nat) (ys : List Value) (news : Led), i + j = n → J i ys news → LCg.CompRest prog w A h₀ L m env elt x scope cl s S P Fin j i ys news := by
    intro j
    induction j with
    | zero =>
      intro i ys news hi hy
      have e : i = n := by omega
      subst e
      exact LCg.CompRest.zero (fin ys news hy)
    | succ j ih =>
      intro i ys news hi hy
      refine LCg.CompRest.succ ?_
      intro v I oI C oC D m₂ h tk E' hv hC hx F N off ne
      refine wpAny_mono (turn i v ys news I oI C oC D m₂ h tk E' (by omega) hv hy hC hx F N off ne) (fun y s₂ hq => ?_) fun _ _ e => e
      obtain ⟨h', tk', nw, e, F', N', off', hS, hJ⟩ := hq
      exact ⟨h', tk', nw, e, F', N', off', hS, ih (i + 1) _ _ (by omega) hJ⟩
  exact key n 0 [] news (by omega) h0

def SrcB (prog : Program) (w : World) (A : Around) (h₀ : Heap) (L : Addr) (m : Str → Option Value) (env : Env) (elt : Expr) (x : Str) (scope : Scope) (cl : List (Str × Addr)) (Fin : Shared → List Value → List (Addr × Obj) → Prop) (xv : Value) (s₁ : Shared) : Prop :=
  ∃ b t news, xv = .bytes b t ∧ A.handled = none ∧ Fr h₀ L s₁.heap m ∧ News h₀ L s₁.heap news ∧ b.size ≤ sizeLine ∧
    ∀ s₂ : Shared, (∃ h, s₂ = { s₁ with heap := h }) → LCg.CompRest prog w A h₀ L m env elt x scope cl s₂ (fun _ => True) (fun i v => ∃ c u, b[i]? = some c ∧ v = .int (c.toNat : Int) u) (Fin s₂) b.size 0 [] news
theorem SrcB.intro {Fin : Shared → List Value → List (Addr × Obj) → Prop} {b : Array UInt8} {t : Tok} {s₁ : Shared} (hh : A.handled = none) (F : Fr h₀ L s₁.heap m) (N : News h₀ L s₁.heap news) (hsz : b.size ≤ sizeLine)
    (h : ∀ g, LCg.CompRest prog w A h₀ L m env elt x scope cl { s₁ with heap := g } (fun _ => True) (fun i v => ∃ c u, b[i]? = some c ∧ v = .int (c.toNat : Int) u) (Fin { s₁ with heap := g }) b.size 0 [] news) : SrcB prog w A h₀ L m env elt x scope cl Fin (.bytes b t) s₁ :=
  ⟨b, t, news, rfl, hh, F, N, hsz, fun _ ⟨g, e⟩ => e ▸ h g⟩
theorem bytes_st {I : Addr} {b : Array UInt8} {t : Tok} : ∀ i (h h' : Heap) (o : Obj) (nw : List (Addr × Obj)), KBw.IsBytesIter h I b t i → h.get? I = some o → h'.get? I = some o → (∀ b o, h₀.get? b = some o → h'.get? b = some o) → News h₀ L h' nw → True → KBw.IsBytesIter h' I b t i :=
  fun i h h' o nw st e e' _ _ _ => by
    obtain ⟨o', q, r⟩ := st
    rw [e] at q
    cases q
    exact ⟨o, e', r⟩
theorem ListComp_B {E : Value → Shared → Prop} {iter : Expr} {px : Pos} {pos : Pos} {Q : Value → Shared → Prop} (_F₀ : Fr h₀ L s.heap m)
    (hclos : closureFor scope env = pure cl) (hcell : ∀ y ∈ scope.names, y.2 ≠ .cell) (hkind : scope.kind = .function)
    (hnames : ∀ y ∈ scope.names, y.2 = .local → scope.names.lookup y.1 = some .local) (hx : scope.names.lookup x = some .local)
    (h : wpAny (model prog w) A (eval iter env) (SrcB prog w A h₀ L m env elt x scope cl (fun s₂ => LCg.FinE h₀ L m s₂ Q)) E s)
    (hs : ∀ x, foldedSetIterable iter env x = pure x := by intro _; rfl) :
    wpAny (model prog w) A (eval (.ListComp elt [⟨.Name x px, iter, [], 0⟩] scope pos) env) Q E s := by
  rw [eval_ListComp]
  refine wpAny_comprehension_free (use := none) rfl hs hclos hkind hnames (wpAny_mono h (fun xv s₁ h₁ => ?_) fun _ _ e => e)
  obtain ⟨b, t, news, rfl, hh, F, N, hsz, R⟩ := h₁
  refine KBw.pyIter_bytes ?_
  refine LCg.block_U (KBw.walks hh s₁.heap.objs.size b t) hsz (fun i h st => by obtain ⟨o, e, _⟩ := st; exact ⟨o, e⟩) bytes_st hcell hkind hx ⟨_, Heap.get?_push_size _ rfl, rfl, rfl⟩ (fun b hb => ?_)
    (F.keeps fun _ _ e => Heap.get?_push_of_some _ e) (N.grown fun _ _ e => Heap.get?_push_of_some _ e) (Nat.ne_of_lt F.ns.lt) (next_is_new F) (fun p hp => Nat.ne_of_lt (Heap.lt_size (N p hp).1)) trivial (R _ ⟨_, rfl⟩) ?_
  · rw [List.mem_singleton.mp hb]
    show s₁.heap.objs.size < (s₁.heap.push _).objs.size
    rw [Heap.size_push]; exact Nat.lt_succ_self _
  · intro D C h tk m' ys news' F' N' o1 hn hC₀ hD₀ hCL hDL hCD offC fin
    refine ⟨m', hn, fun h'' hs'' => fin D h'' tk (F'.change hs'' hCL hC₀) (fun p hp => ?_) o1⟩
    refine ⟨hs''.extBut _ _ ?_ (N' p hp).1, (N' p hp).2⟩
    rcases List.mem_cons.mp hp with rfl | hp
    · exact Ne.symm hCD
    · exact offC p hp
end
theorem News.off {h₀ h : Heap} {L : Addr} {news : Led} {I C D : Addr} {oI oC oD : Obj} (_N : News h₀ L h ((I, oI) :: (C, oC) :: (D, oD) :: news)) {a : Addr} (h1 : ∀ p ∈ (I, oI) :: (C, oC) :: (D, oD) :: news, p.1 < a) : a ≠ I ∧ a ≠ C ∧ a ≠ D :=
  ⟨Nat.ne_of_gt (h1 _ (.head _)), Nat.ne_of_gt (h1 _ (.tail _ (.head _))), Nat.ne_of_gt (h1 _ (.tail _ (.tail _ (.head _))))⟩
theorem off3_app {I C D : Addr} {a b : Led} (h : LCg.Off3 I C D a) (k : LCg.Off3 I C D b) : LCg.Off3 I C D (a ++ b) := LCg.Off3.of fun p hp => by
  rcases List.mem_append.mp hp with hp | hp
  · exact h.mem p hp
  · exact k.mem p hp
/-- entries above three addresses -/
theorem off3_above {I C D : Addr} {oI oC oD : Obj} {news tl : Led} (h : ∀ q ∈ (I, oI) :: (C, oC) :: (D, oD) :: news, ∀ p ∈ tl, q.1 ≠ p.1) : LCg.Off3 I C D tl := LCg.Off3.of fun p hp =>
  ⟨(h _ (.head _) p hp).symm, (h _ (.tail _ (.head _)) p hp).symm, (h _ (.tail _ (.tail _ (.head _))) p hp).symm⟩
/-- a list of codes: pairs of a length and a code -/
def CodeIn (led : Led) (v : Value) (c : Int) : Prop := ∃ pa t1 t2, v = .ref pa ∧ (pa, ({ cls := .type "tuple", data := .seq #[.int 1 t1, .int c t2] } : Obj)) ∈ led
theorem CodeIn.mono {led led' : Led} {v : Value} {c : Int} (h : CodeIn led v c) (hs : ∀ p ∈ led, p ∈ led') : CodeIn led' v c := let ⟨pa, t1, t2, e, hm⟩ := h; ⟨pa, t1, t2, e, hs _ hm⟩
end
section
theorem off1_mem {D : Addr} : ∀ {l : Led}, LCg.Off1 D l → ∀ p ∈ l, p.1 ≠ D
  | [], _, _, h => nomatch h
  | _ :: _, x, p, h => by
    rcases List.mem_cons.mp h with rfl | h
    · exact x.1
    · exact off1_mem x.2 p h
theorem comp_end1 {h₀ : Heap} {L I C D T : Addr} {m : Str → Option Value} {s₁ : Shared} {oI oC oD o : Obj} {rest : Value → Led → Prop} {y : Value} {h' : Heap} {tk : Nat} {news : Led}
    (F : Fr h₀ L h' m) (N : News h₀ L h' ((T, o) :: (I, oI) :: (C, oC) :: (D, oD) :: news)) (off : LCg.Off3 I C D news) (lt : @LT.lt Nat _ I T ∧ @LT.lt Nat _ C T ∧ @LT.lt Nat _ D T ∧ AllLt T news) (r : rest y (news ++ [(T, o)])) :
    LCg.CompEnd h₀ L m s₁ I oI C oC D oD (fun _ => True) rest y { s₁ with heap := h', toks := tk } :=
  LCg.CompEnd.intro F N (news ++ [(T, o)]) (fun p hp => by
    simp only [List.mem_cons, List.mem_append, List.not_mem_nil, or_false] at hp ⊢
    rcases hp with h | h | h | h | h <;> simp [h]) (off3_app off ⟨⟨Nat.ne_of_gt lt.1, Nat.ne_of_gt lt.2.1, Nat.ne_of_gt lt.2.2.1⟩, trivial⟩) trivial r
local macro_rules | `(tactic| walk_at "eval ListComp") => `(tactic| (k_here; k_dflt (refine ListComp_B (by k_asm) (by with_unfolding_all rfl) (by decide) (by rfl) (by decide) (by rfl) ?_)))
set_option maxHeartbeats 1000000 in
theorem font_codes {w : World} {news lf : Led} {v : Value} {b : Array UInt8} {tb : Tok} (hf : FontIn PySem.Challenge.rw_og0182_01.row.prog w lf v) (sf : ∀ p ∈ lf, p ∈ news) (hb : b.size ≤ 100) :
    Yields w (.ref 460) [v, .bytes b tb] news 5 (fun tl r => ∃ D ys, r = .ref D ∧ (D, LCg.lst ys) ∈ tl ∧ All2 (CodeIn tl) ys (KBw.bInts b)) := by
  unfold Yields
  k_fill
  intro p loose mean mg mb dp un gd cn cs a ccd cl outer A₀ base h₀ L m s Q E B F X N T hk hd hu hret
  replace hf := hf.mono sf
  obtain ⟨i1, i2, i3, i4, hT, i6, i7, i8, hU, i10⟩ := hf
  refine wpAny_call ?_
  k_dflt ktr_enter
  k_steps
  refine SrcB.intro (by exact rfl) (by k_asm) (by k_asm) (by rw [PySem.sizeLine_eq]; omega) ?_
  intro g
  refine comp_inv (fun i ys nw => ∃ tl, nw = news ++ tl ∧ (∀ q ∈ news, ∀ p ∈ tl, q.1 ≠ p.1) ∧ All2 (CodeIn tl) ys ((KBw.bInts b).take i)) ⟨[], by simp, ord_nil, .nil⟩ ?_ ?_
  · intro i v ys nw I oI C oC D m₂ h tk E' hi hv hJ hC hx F N off ne
    obtain ⟨c, u, hc, hv⟩ := hv
    subst hv
    obtain ⟨tl, hnw, ho, ha⟩ := hJ
    subst hnw
    k_steps

    k_dflt (refine comp_end1 (by assumption) (by assumption) off (by assumption) ?_)
    refine ⟨_, List.append_assoc _ _ _, ?_, ?_⟩
    · refine ord_app ho (ord1 fun p hp => ?_)
      rename_i hl9
      exact ktn_ltOf hl9.2.2.2 p (List.mem_append.mpr (.inl hp))
    · rw [List.take_add_one, KBw.ints_get hc]
      exact All2.snoc ⟨_, _, _, rfl, List.mem_append.mpr (.inr (.head _))⟩ (ha.imp fun _ _ h => h.mono fun p hp => List.mem_append.mpr (.inl hp))
  · intro ys nw hJ
    obtain ⟨tl, hnw, ho, ha⟩ := hJ
    subst hnw
    k_steps
    refine hret _ ((_, LCg.lst ys) :: tl) _ _ (by assumption) (ktn_tl2 (by assumption)) (ord_consN (fun q hq => off1_mem (by assumption) q (List.mem_append.mpr (.inl hq))) ho) ⟨_, ys, rfl, .head _, ?_⟩
    rw [List.take_of_length_le (Nat.le_of_eq (KBw.ints_length b))] at ha
    exact ha.imp fun _ _ h => h.mono fun p hp => .tail _ hp
end
section
/-- a state of text as its readers see it -/
structure St where
  (ctm : Mt) (size tc tw tz ts : Rat)
inductive StateIn (prog : Program) (w : World) (led : Led) : Value → St → Prop
  | mk {x dx sp : Addr} {k1 k2 k3 k4 : Tok} {vm vf vs vc vw vz vt : Value} {kvs : List (Str × Value)} {osp : Obj} {S : St} : (x, instObj 293 dx) ∈ led →
      (dx, dictOf [ent w.params (Str.ofString "ctm") k1 vm, ent w.params (Str.ofString "font") k2 vf, ent w.params (Str.ofString "size") k3 vs, ent w.params (Str.ofString "spacing") k4 (.ref sp)] 4) ∈ led →
      MatIn w.params led vm S.ctm 2 → FontIn prog w led vf → DecIn w.params led vs S.size 3 → (sp, osp) ∈ led → osp.IsDictOf (strKind prog w) kvs →
      valueAt kvs (Str.ofString "Tc") = some vc → valueAt kvs (Str.ofString "Tw") = some vw → valueAt kvs (Str.ofString "Tz") = some vz → valueAt kvs (Str.ofString "Ts") = some vt →
      DecIn w.params led vc S.tc 3 → DecIn w.params led vw S.tw 3 → DecIn w.params led vz S.tz 3 → DecIn w.params led vt S.ts 3 → StateIn prog w led (.ref x) S
theorem StateIn.mono {prog : Program} {w : World} {led led' : Led} {v : Value} {S : St} (h : StateIn prog w led v S) (hs : ∀ p ∈ led, p ∈ led') : StateIn prog w led' v S := by
  cases h with
  | mk h1 h2 h3 h4 h5 h6 h7 a b c d e f g i => exact .mk (hs _ h1) (hs _ h2) (h3.mono hs) (h4.mono hs) (h5.mono hs) (hs _ h6) h7 a b c d (e.mono hs) (f.mono hs) (g.mono hs) (i.mono hs)
local macro_rules | `(tactic| walk_at "call ref") => `(tactic| (k_here; k_dflt (refine' use (mk_dec (b := 3) ?hn ?hb ?hp) ?_; (case hn => ktr_rel); (case hb => ktr_rel); (case hp => ktr_rel); kwd_rel)))
local macro_rules | `(tactic| walk_at "call ref") => `(tactic| (k_here; k_dflt (refine' use (dec_times ?h1 ?h2 ?h3) ?_; (case h1 => ktr_rel); (case h2 => ktr_rel); (case h3 => ktr_rel); kwd_rel)))
local macro_rules | `(tactic| walk_at "subscriptTail") => `(tactic| (k_here; (with_reducible show wpAny _ _ (subscriptTail _ _ (Value.ref _) (Value.str _ _)) _ _ _); (with_unfolding_all refine' kda_item (knd := PySem.strKind _ _) ?N ?m ?d (strKind_is _ _ _ _) ?v ?_ ?s ?g; (case N => k_asm); (case m => k_mem); (case d => k_asm); (case v => assumption); (case s => with_unfolding_all rfl); (case g => (intro _; with_unfolding_all rfl)); k_whole)))
set_option maxHeartbeats 1000000 in
theorem stretched_ok {w : World} {news lS : Led} {v x : Value} {S : St} {q : Rat} {b : Nat} (hS : StateIn PySem.Challenge.rw_og0182_01.row.prog w lS v S) (sS : ∀ p ∈ lS, p ∈ news) (hx : DecIn w.params news x q b) (hb : b ≤ 100) :
    Yields w (.ref 290) [v, x] news 14 (fun tl r => DecIn w.params tl r (q * S.tz * (1 / 100)) (b + 6)) := by
  unfold Yields
  k_fill
  intro p loose mean mg mb dp un gd cn cs a ccd cl outer A₀ base h₀ L m s Q E B F X N T hk hd hu hret
  replace hS := hS.mono sS
  have hS' := hS
  obtain ⟨i1, i2, hM, hF, hZ, i6, hD, vTc, vTw, vTz, vTs, dTc, dTw, dTz, dTs⟩ := hS
  refine wpAny_call ?_
  k_dflt ktr_enter
  k_steps
  refine hret _ _ _ _ (by assumption) (by ktn_open) (by ktn_ord) ?_
  exact DecIn.more (DecIn.mono (by assumption) (by ktd_sub)) (by omega)
end
section
local macro_rules | `(tactic| walk_at "call ref") => `(tactic| (k_here; k_dflt (refine' use (dec_times ?h1 ?h2 ?h3) ?_; (case h1 => ktr_rel); (case h2 => ktr_rel); (case h3 => ktr_rel); kwd_rel)))
local macro_rules | `(tactic| walk_at "call ref") => `(tactic| (k_here; k_dflt (refine' use (dec_plus ?h1 ?h2 ?h3) ?_; (case h1 => ktr_rel); (case h2 => ktr_rel); (case h3 => ktr_rel); kwd_rel)))
local macro_rules | `(tactic| walk_at "call ref") => `(tactic| (k_here; k_dflt (refine' use (font_width ?hf ?sf ?hp ?hc) ?_; (case hf => ktr_rel); (case sf => ktr_rel); (case hp => ktr_rel); (case hc => ktr_rel); kwd_rel)))
local macro_rules | `(tactic| walk_at "call ref") => `(tactic| (k_here; k_dflt (refine' use (stretched_ok ?hS ?sS ?hx ?hb) ?_; (case hS => ktr_rel); (case sS => ktr_rel); (case hx => ktr_rel); (case hb => ktr_rel); kwd_rel)))
local macro_rules | `(tactic| walk_at "subscriptTail") => `(tactic| (k_here; (with_reducible show wpAny _ _ (subscriptTail _ _ (Value.ref _) (Value.str _ _)) _ _ _); (with_unfolding_all refine' kda_item (knd := PySem.strKind _ _) ?N ?m ?d (strKind_is _ _ _ _) ?v ?_ ?s ?g; (case N => k_asm); (case m => k_mem); (case d => k_asm); (case v => assumption); (case s => with_unfolding_all rfl); (case g => (intro _; with_unfolding_all rfl)); k_whole)))
section
open PyProof.V PySem.Spec
variable {prog : Program} {w : World} {A : Around} {E : Value → Shared → Prop} {s : Shared} {h₀ : Heap} {L : Addr} {news n₁ n₂ : List (Addr × Obj)} {Q : Value → Shared → Prop}
theorem dat_eqv {d e : W.Dat} (hd : kqdOk 8 d = true) (he : kqdOk 8 e = true) {b : Bool} (hb : b = true ↔ d = e) : PyData.eqv (kqdP d) (kqdP e) = b := by
  have q := kqd_eqv 8 d e 8 hd he
  cases b with
  | true => exact q.mpr (hb.mp rfl)
  | false => exact Bool.eq_false_iff.mpr fun x => Bool.noConfusion (hb.mpr (q.mp x))
theorem dat_shaped {d : W.Dat} (hd : kqdOk 8 d = true) : SeqAt.shaped (kqdP d) = true := by
  have l := kqd_lay 8 d hd
  unfold SeqAt.shaped; rw [l.1, Bool.true_and]; exact decide_eq_true (Nat.le_trans l.2 (by decide))
theorem dat_eq {a b : Value} {da db : W.Dat} {bb : Bool} (N : News h₀ L s.heap news) (Da : DatIn n₁ a da) (sa : ∀ p ∈ n₁, p ∈ news) (Db : DatIn n₂ b db) (sb : ∀ p ∈ n₂, p ∈ news) (ka : kqdOk 8 da = true) (kb : kqdOk 8 db = true) (hu : A.units + 64 < cLine)
    (hb : bb = true ↔ da = db) (h : Q (.bool bb) s) : wpAny (model prog w) A (compareOp .Eq a b) Q E s := by
  obtain ⟨as, ra⟩ := kqd_in N 8 (Da.mono sa) ka
  obtain ⟨bs, rb⟩ := kqd_in N 8 (Db.mono sb) kb
  exact eq_dataH ra rb (dat_shaped ka) (dat_shaped kb) hu (by rw [dat_eqv ka kb hb]; exact h)
theorem dat_ne {a b : Value} {da db : W.Dat} {bb : Bool} (N : News h₀ L s.heap news) (Da : DatIn n₁ a da) (sa : ∀ p ∈ n₁, p ∈ news) (Db : DatIn n₂ b db) (sb : ∀ p ∈ n₂, p ∈ news) (ka : kqdOk 8 da = true) (kb : kqdOk 8 db = true) (hu : A.units + 64 < cLine)
    (hb : bb = true ↔ da = db) (h : Q (.bool (!bb)) s) : wpAny (model prog w) A (compareOp .NotEq a b) Q E s := by
  obtain ⟨as, ra⟩ := kqd_in N 8 (Da.mono sa) ka
  obtain ⟨bs, rb⟩ := kqd_in N 8 (Db.mono sb) kb
  exact ne_dataH ra rb (dat_shaped ka) (dat_shaped kb) hu (by rw [dat_eqv ka kb hb]; exact h)
theorem dat_pair {led : Led} {a : Addr} {n : Nat} {x y : Int} {t u : Tok} (h : (a, ({ cls := .type "tuple", data := .seq #[.int x t, .int y u] n } : Obj)) ∈ led) : DatIn led (.ref a) (.tuple [.int x, .int y]) := .tuple (vs := [.int x t, .int y u]) h (.cons (.int x t) (.cons (.int y u) .nil))
theorem pair_ok (x y : Int) : kqdOk 8 (.tuple [.int x, .int y]) = true := by simp [kqdOk]
theorem code_eq {a b : Addr} {n' : Nat} {c x : Int} {u1 u2 : Tok} (bb : Bool) (N : News h₀ L s.heap news) (Da : DatIn n₁ (.ref a) (.tuple [.int 1, .int c])) (sa : ∀ p ∈ n₁, p ∈ news) (hb : (b, ({ cls := .type "tuple", data := .seq #[.int 1 u1, .int x u2] n' } : Obj)) ∈ news)
    (hu : A.units + 64 < cLine) (e : decide (c = x) = bb) (h : Q (.bool bb) s) : wpAny (model prog w) A (compareOp .Eq (.ref a) (.ref b)) Q E s :=
  dat_eq N Da sa (dat_pair hb) (fun _ h => h) (pair_ok _ _) (pair_ok _ _) hu (by rw [← e]; simp) h
end
local macro_rules | `(tactic| walk_at "compareOp Eq ref ref") => `(tactic| (k_here; (with_reducible show wpAny _ _ (compareOp CmpOp.Eq (Value.ref _) (Value.ref _)) _ _ _); k_dflt (first
  | (refine' code_eq true ?N ?a ?sa ?b ?u ?e ?_; (case N => k_asm); (case a => assumption); (case sa => ktd_sub); (case b => k_mem); (case u => ktr_units); (case e => decide))
  | (refine' code_eq false ?N ?a ?sa ?b ?u ?e ?_; (case N => k_asm); (case a => assumption); (case sa => ktd_sub); (case b => k_mem); (case u => ktr_units); (case e => exact decide_eq_false (by assumption))))))
def St.bare (S : St) (c : Int) : Rat := (wd c : Rat) * (1 / 1000) * S.size * S.tz * (1 / 100)
def St.whole (S : St) (c : Int) : Rat := ((wd c : Rat) * (1 / 1000) * S.size + S.tc + (if c = 32 then S.tw else 0)) * S.tz * (1 / 100)
local macro_rules | `(tactic| ktr_rel) => `(tactic| exact fun _ h => h)
set_option maxHeartbeats 1000000 in
theorem advance_ok {w : World} {news lS : Led} {v x : Value} {S : St} {c : Int} (hS : StateIn PySem.Challenge.rw_og0182_01.row.prog w lS v S) (sS : ∀ p ∈ lS, p ∈ news) (hx : CodeIn news x c) (hc : Code4 c) :
    Yields w (.ref 304) [v, x] news 18 (fun tl r => PairIn w.params tl r (S.whole c) (S.bare c) 30) := by
  unfold Yields
  k_fill
  intro p loose mean mg mb dp un gd cn cs a ccd cl outer A₀ base h₀ L m s Q E B F X N T hk hd hu hret
  replace hS := hS.mono sS
  have hS' := hS
  obtain ⟨i1, i2, hM, hF, hZ, i6, hD, vTc, vTw, vTz, vTs, dTc, dTw, dTz, dTs⟩ := hS
  obtain ⟨pa, t1, t2, hx, hpa⟩ := hx
  subst hx
  have hda := dat_pair hpa
  have hF' := hF
  obtain ⟨j1, j2, j3, j4, jT, j6, j7, j8, jU, j10⟩ := hF
  by_cases h32 : c = 32
  all_goals (try subst h32)
  all_goals (refine wpAny_call ?_; k_dflt ktr_enter; k_steps)
  all_goals (repeat (with_reducible rename (_ ∧ _) => hcj; obtain ⟨hcj1, hcj2⟩ := hcj))
  all_goals refine hret _ _ _ _ (by assumption) (ktn_oN [_,_] (by assumption)) (by simp only [List.cons_append, List.nil_append]; ktn_ord) ?_
  all_goals simp only [List.cons_append, List.nil_append]
  · rw [show S.whole 32 = (((wd 32 : Int) : Rat) * (1 / 1000) * S.size + S.tc + S.tw) * S.tz * (1 / 100) from by unfold St.whole; rw [if_pos rfl]]
    exact PairIn.mk (by k_mem) (DecIn.more (DecIn.mono (by assumption) (by ktd_sub)) (by omega)) (DecIn.more (DecIn.mono (by assumption) (by ktd_sub)) (by omega))
  · rw [show S.whole c = (((wd c : Int) : Rat) * (1 / 1000) * S.size + S.tc) * S.tz * (1 / 100) from by unfold St.whole; rw [if_neg h32, Rat.add_zero]]
    exact PairIn.mk (by k_mem) (DecIn.more (DecIn.mono (by assumption) (by ktd_sub)) (by omega)) (DecIn.more (DecIn.mono (by assumption) (by ktd_sub)) (by omega))
end
section
open PyProof.V PySem.Spec
/-- a frame in a loop: what the loop has stored over m₀ -/
def loopF (acc x1 x2 x3 x4 x5 : Str) (va : Value) (u1 u2 u3 u4 u5 : Option Value) (m₀ : Str → Option Value) : Str → Option Value :=
  fun z => if z = acc then some va else if z = x1 then u1 else if z = x2 then u2 else if z = x3 then u3 else if z = x4 then u4 else if z = x5 then u5 else m₀ z
def Keeps (acc x1 x2 x3 x4 x5 : Str) (m₀ m : Str → Option Value) : Prop := ∀ z, z ≠ acc → z ≠ x1 → z ≠ x2 → z ≠ x3 → z ≠ x4 → z ≠ x5 → m z = m₀ z
theorem loopF_of {acc x1 x2 x3 x4 x5 : Str} {va : Value} {m₀ m : Str → Option Value} (h : m acc = some va) (k : Keeps acc x1 x2 x3 x4 x5 m₀ m) : m = loopF acc x1 x2 x3 x4 x5 va (m x1) (m x2) (m x3) (m x4) (m x5) m₀ := by
  funext z
  unfold loopF
  by_cases h0 : z = acc
  · rw [if_pos h0, h0, h]
  rw [if_neg h0]
  by_cases h1 : z = x1
  · rw [if_pos h1, h1]
  rw [if_neg h1]
  by_cases h2 : z = x2
  · rw [if_pos h2, h2]
  rw [if_neg h2]
  by_cases h3 : z = x3
  · rw [if_pos h3, h3]
  rw [if_neg h3]
  by_cases h4 : z = x4
  · rw [if_pos h4, h4]
  rw [if_neg h4]
  by_cases h5 : z = x5
  · rw [if_pos h5, h5]
  rw [if_neg h5]
  exact k z h0 h1 h2 h3 h4 h5
def TurnEnd (h₀ : Heap) (L : Addr) (acc x1 x2 x3 x4 x5 : Str) (m₀ : Str → Option Value) (I : Addr) (o' : Obj) (J : Value → Led → Prop) (s₁ : Shared) (f : Flow) (s₃ : Shared) : Prop :=
  f = .next ∧ ∃ h' tk m' nw' va', s₃ = { s₁ with heap := h', toks := tk } ∧ Fr h₀ L h' m' ∧ News h₀ L h' ((I, o') :: nw') ∧ (∀ p ∈ nw', p.1 ≠ I) ∧ m' acc = some va' ∧ Keeps acc x1 x2 x3 x4 x5 m₀ m' ∧ J va' nw'
theorem TurnEnd.intro {h₀ : Heap} {L : Addr} {acc x1 x2 x3 x4 x5 : Str} {m₀ : Str → Option Value} {I : Addr} {o' : Obj} {J : Value → Led → Prop} {s₁ : Shared} {h' : Heap} {tk : Nat} {m' : Str → Option Value} {led : Led} {va' : Value}
    (F : Fr h₀ L h' m') (N : News h₀ L h' led) (nw' : Led) (sub : ∀ p ∈ (I, o') :: nw', p ∈ led) (off : ∀ p ∈ nw', p.1 ≠ I) (ha : m' acc = some va') (k : Keeps acc x1 x2 x3 x4 x5 m₀ m') (j : J va' nw') :
    TurnEnd h₀ L acc x1 x2 x3 x4 x5 m₀ I o' J s₁ .next { s₁ with heap := h', toks := tk } :=
  ⟨rfl, h', tk, m', nw', va', rfl, F, fun p hp => N p (sub p hp), off, ha, k, j⟩
section
variable {prog : Program} {w : World} {A : Around} {E : Value → Shared → Prop} {h₀ : Heap} {env : Env} {target : Expr} {body : List Stmt} {Q : Flow → Shared → Prop} {s : Shared} {I ax : Addr} {lo : Obj} {cn : String} {m₀ : Str → Option Value} {news : Led}
theorem items_inv {xs : List Value} (acc x1 x2 x3 x4 x5 : Str) {va₀ : Value} (J : Nat → Value → Led → Prop) (ha₀ : m₀ acc = some va₀) (off₀ : ∀ p ∈ news, p.1 ≠ I) (hJ₀ : J 0 va₀ news) (keep : ∀ i va nw, J i va nw → (ax, lo) ∈ nw)
    (turn : ∀ i v va u1 u2 u3 u4 u5 nw h tk o', xs[i]? = some v → J i va nw → (∀ p ∈ nw, p.1 ≠ I) → o'.cls = .type cn → Fr h₀ env.locals h (loopF acc x1 x2 x3 x4 x5 va u1 u2 u3 u4 u5 m₀) → News h₀ env.locals h ((I, o') :: nw) →
      wpAny (model prog w) A (assign target env v) (fun _ s₂ => wpAny (model prog w) A (execs body env) (TurnEnd h₀ env.locals acc x1 x2 x3 x4 x5 m₀ I o' (J (i + 1)) { s with heap := h, toks := tk }) E s₂) E { s with heap := h, toks := tk })
    (fin : ∀ va u1 u2 u3 u4 u5 nw h tk, J xs.length va nw → Fr h₀ env.locals h (loopF acc x1 x2 x3 x4 x5 va u1 u2 u3 u4 u5 m₀) → News h₀ env.locals h nw → Q .next { s with heap := h, toks := tk }) :
    ItemsRest prog w A E h₀ env target body Q s [(I, cn)] [(ax, lo)] (xs.map .val) m₀ news := by
  have key : ∀ (r : List Value) (i : Nat) (m : Str → Option Value) (nw : Led) (va : Value), xs.drop i = r → i ≤ xs.length → m acc = some va → Keeps acc x1 x2 x3 x4 x5 m₀ m → (∀ p ∈ nw, p.1 ≠ I) → J i va nw →
      ItemsRest prog w A E h₀ env target body Q s [(I, cn)] [(ax, lo)] (r.map .val) m nw := by
    intro r
    induction r with
    | nil =>
      intro i m nw va hr hi ha hk _ hj h tk F N
      have e : i = xs.length := by
        have := congrArg List.length hr
        simp only [List.length_drop, List.length_nil] at this
        omega
      rw [e] at hj
      rw [loopF_of ha hk] at F
      exact fin _ _ _ _ _ _ nw h tk hj F N
    | cons v r ih =>
      intro i m nw va hr hi ha hk off hj
      have hlt : i < xs.length := by
        have := congrArg List.length hr
        simp only [List.length_drop, List.length_cons] at this
        omega
      have hv : xs[i]? = some v := by
        have := congrArg List.head? hr
        rwa [List.head?_drop, List.head?_cons] at this
      have hr' : xs.drop (i + 1) = r := by
        have := congrArg List.tail hr
        rwa [List.tail_drop, List.tail_cons] at this
      refine ItemsRest.val fun h tk F => AllObj.cons fun o' hc => AllObj.nil fun N => ?_
      rw [loopF_of ha hk] at F
      refine wpAny_mono (turn i v va _ _ _ _ _ nw h tk o' hv hj off hc F N) (fun _ s₂ h₂ => wpAny_mono h₂ (fun f s₃ h₃ => ?_) fun _ _ e => e) fun _ _ e => e
      obtain ⟨rfl, h', tk', m', nw', va', rfl, F', N', off', ha', hk', hj'⟩ := h₃
      exact ⟨h', tk', m', nw', rfl, F', N', fun p hp q hq => by rw [List.mem_singleton.mp hq]; exact off' p hp, ⟨keep _ _ _ hj', trivial⟩, ih (i + 1) m' nw' va' hr' hlt ha' hk' off' hj'⟩
  exact key xs 0 m₀ news va₀ rfl (Nat.zero_le _) ha₀ (fun _ _ _ _ _ _ _ => rfl) off₀ hJ₀
end
/-- a glyph as its readers see it -/
structure Gl where
  (text : Str) (x y width size : Rat)
inductive GlIn (P : Params) (led : Led) : Value → Gl → Prop
  | mk {x dx : Addr} {k1 k2 k3 k4 k5 t : Tok} {vx vy vw vz : Value} {G : Gl} {b1 b2 b3 b4 : Nat} : (x, instObj 258 dx) ∈ led →
      (dx, dictOf [ent P (Str.ofString "text") k1 (.str G.text t), ent P (Str.ofString "x") k2 vx, ent P (Str.ofString "y") k3 vy, ent P (Str.ofString "width") k4 vw, ent P (Str.ofString "size") k5 vz] 5) ∈ led →
      DecIn P led vx G.x b1 → DecIn P led vy G.y b2 → DecIn P led vw G.width b3 → DecIn P led vz G.size b4 → GlIn P led (.ref x) G
theorem GlIn.mono {P : Params} {led led' : Led} {v : Value} {G : Gl} (h : GlIn P led v G) (hs : ∀ p ∈ led, p ∈ led') : GlIn P led' v G := by
  cases h with
  | mk h1 h2 a b c d => exact .mk (hs _ h1) (hs _ h2) (a.mono hs) (b.mono hs) (c.mono hs) (d.mono hs)
/-- the glyph of a code, gone so far from the start of the place O -/
def St.glyph (S : St) (O : Mt) (g : Rat) (c : Int) : Gl :=
  ⟨gt c, O.a * g + O.c * S.ts + O.e, O.b * g + O.d * S.ts + O.f, O.a * S.bare c + O.c * ((0 : Int) : Rat), O.b * ((0 : Int) : Rat) + O.d * S.size⟩
def St.glyphs (S : St) (O : Mt) : Rat → List Int → List Gl
  | _, [] => []
  | g, c :: cs => S.glyph O g c :: S.glyphs O (g + S.whole c) cs
def St.gone (S : St) : Rat → List Int → Rat
  | g, [] => g
  | g, c :: cs => S.gone (g + S.whole c) cs
theorem St.gone_snoc (S : St) (c : Int) : ∀ (cs : List Int) (g : Rat), S.gone g (cs ++ [c]) = S.gone g cs + S.whole c
  | [], _ => rfl
  | _ :: cs, _ => S.gone_snoc c cs _
theorem St.glyphs_snoc (S : St) (O : Mt) (c : Int) : ∀ (cs : List Int) (g : Rat), S.glyphs O g (cs ++ [c]) = S.glyphs O g cs ++ [S.glyph O (S.gone g cs) c]
  | [], _ => rfl
  | _ :: cs, _ => congrArg (_ :: ·) (S.glyphs_snoc O c cs _)
/-- the loop's state after i codes -/
def ShownJ (P : Params) (S : St) (O : Mt) (ks : List Int) (Df : Addr) (news T : Led) (i : Nat) (va : Value) (nw : Led) : Prop :=
  ∃ ws k T', nw = (Df, listOf (List.toArray ws) k) :: (news ++ (T ++ T')) ∧ (∀ p ∈ T', p.1 ≠ Df) ∧ (∀ q ∈ news ++ T, ∀ p ∈ T', q.1 ≠ p.1) ∧ All2 (GlIn P (T ++ T')) ws (S.glyphs O 0 (ks.take i)) ∧ DecIn P (T ++ T') va (S.gone 0 (ks.take i)) (3 + 31 * i)
theorem ShownJ.next {P : Params} {S : St} {O : Mt} {ks : List Int} {Df : Addr} {news T T0 T'' : Led} {i k b : Nat} {ws : List Value} {v va : Value} {c : Int} (o1 : ∀ p ∈ T'', p.1 ≠ Df) (o2 : ∀ q ∈ news ++ T, ∀ p ∈ T'', q.1 ≠ p.1) (hW : All2 (GlIn P T0) ws (S.glyphs O 0 (ks.take i))) (hs : ∀ p ∈ T0, p ∈ T ++ T'')
    (hc : ks[i]? = some c) (hv : GlIn P (T ++ T'') v (S.glyph O (S.gone 0 (ks.take i)) c)) (hg : DecIn P (T ++ T'') va (S.gone 0 (ks.take i) + S.whole c) b) (hb : b ≤ 3 + 31 * (i + 1)) :
    ShownJ P S O ks Df news T (i + 1) va ((Df, listOf ((List.toArray ws).push v) (k + 1)) :: (news ++ (T ++ T''))) := by
  have e : ks.take (i + 1) = ks.take i ++ [c] := by rw [List.take_add_one, hc]; rfl
  refine ⟨ws ++ [v], k + 1, T'', by rw [List.push_toArray], o1, o2, ?_, ?_⟩
  · rw [e, St.glyphs_snoc]
    exact All2.snoc hv (hW.imp fun _ _ h => h.mono hs)
  · rw [e, St.gone_snoc]
    exact hg.more hb
/-- what shown_glyphs hands back: a list of glyphs and the way gone -/
inductive ShownIn (P : Params) (led : Led) : Value → List Gl → Rat → Prop
  | mk {t D : Addr} {n k : Nat} {ws : List Value} {vg : Value} {gs : List Gl} {q : Rat} : (t, ({ cls := .type "tuple", data := .seq #[.ref D, vg] n } : Obj)) ∈ led → (D, listOf (List.toArray ws) k) ∈ led → All2 (GlIn P led) ws gs → DecIn P led vg q 189 → ShownIn P led (.ref t) gs q
end
section
theorem mat_meth_times {w : World} {A : Around} {E : Value → Shared → Prop} {s : Shared} {h₀ : Heap} {L : Addr} {m : Str → Option Value} {led led' : Led} {v : Value} {M : Mt} {b : Nat} {pl : Sem Bool} {Q : Value × List Value → Shared → Prop}
    (R : MatIn w.params led v M b) (F : Fr h₀ L s.heap m) (X : (KK w.params).In h₀) (N : News h₀ L s.heap led') (hs : ∀ p ∈ led, p ∈ led') (h : Q (.ref 201, [v]) s) :
    wpAny (model PySem.Challenge.rw_og0182_01.row.prog w) A (getMethod v (Str.ofString "times") pl) Q E s := by
  revert X; k_fill; intro X
  obtain ⟨i1, i2, _⟩ := R
  exact method_inst F X (InstAt.of_news N (hs _ i1) (hs _ i2)) (by k_is) (by k_is) (by k_is) (by k_get) h
theorem mat_meth_applied {w : World} {A : Around} {E : Value → Shared → Prop} {s : Shared} {h₀ : Heap} {L : Addr} {m : Str → Option Value} {led led' : Led} {v : Value} {M : Mt} {b : Nat} {pl : Sem Bool} {Q : Value × List Value → Shared → Prop}
    (R : MatIn w.params led v M b) (F : Fr h₀ L s.heap m) (X : (KK w.params).In h₀) (N : News h₀ L s.heap led') (hs : ∀ p ∈ led, p ∈ led') (h : Q (.ref 208, [v]) s) :
    wpAny (model PySem.Challenge.rw_og0182_01.row.prog w) A (getMethod v (Str.ofString "applied") pl) Q E s := by
  revert X; k_fill; intro X
  obtain ⟨i1, i2, _⟩ := R
  exact method_inst F X (InstAt.of_news N (hs _ i1) (hs _ i2)) (by k_is) (by k_is) (by k_is) (by k_get) h
theorem mat_meth_shifted {w : World} {A : Around} {E : Value → Shared → Prop} {s : Shared} {h₀ : Heap} {L : Addr} {m : Str → Option Value} {led led' : Led} {v : Value} {M : Mt} {b : Nat} {pl : Sem Bool} {Q : Value × List Value → Shared → Prop}
    (R : MatIn w.params led v M b) (F : Fr h₀ L s.heap m) (X : (KK w.params).In h₀) (N : News h₀ L s.heap led') (hs : ∀ p ∈ led, p ∈ led') (h : Q (.ref 215, [v]) s) :
    wpAny (model PySem.Challenge.rw_og0182_01.row.prog w) A (getMethod v (Str.ofString "shifted") pl) Q E s := by
  revert X; k_fill; intro X
  obtain ⟨i1, i2, _⟩ := R
  exact method_inst F X (InstAt.of_news N (hs _ i1) (hs _ i2)) (by k_is) (by k_is) (by k_is) (by k_get) h
theorem MatIn.handed {P : Params} {led : Led} {v : Value} {M : Mt} {b : Nat} (h : MatIn P led v M b) : handedIn v = true := by cases h; rfl
local macro_rules | `(tactic| k_handed) => `(tactic| exact MatIn.handed (by assumption))
local macro_rules | `(tactic| walk_at "getMethod") => `(tactic| (k_here; (with_reducible show wpAny _ _ (getMethod _ _ _) _ _ _); k_dflt (first
  | (refine' mat_meth_times ?R ?F ?X ?N ?S ?_; (case R => assumption); (case F => k_asm); (case X => k_asm); (case N => k_asm); (case S => ktd_sub))
  | (refine' mat_meth_applied ?R ?F ?X ?N ?S ?_; (case R => assumption); (case F => k_asm); (case X => k_asm); (case N => k_asm); (case S => ktd_sub))
  | (refine' mat_meth_shifted ?R ?F ?X ?N ?S ?_; (case R => assumption); (case F => k_asm); (case X => k_asm); (case N => k_asm); (case S => ktd_sub)))))
local macro_rules | `(tactic| walk_at "call ref") => `(tactic| (k_here; k_dflt (refine' use (mat_times ?hm ?hn ?hB) ?_; (case hm => ktr_rel); (case hn => ktr_rel); (case hB => ktr_rel); kwd_rel)))
local macro_rules | `(tactic| walk_at "call ref") => `(tactic| (k_here; k_dflt (refine' use (mat_shifted_id (bx := 3) ?hm ?hx ?hy ?hB) ?_; (case hm => ktr_rel); (case hx => ktr_rel); (case hy => ktr_rel); (case hB => ktr_rel); intro r9 tl9 h9 tk9 F9 N9 hl9 ho9; (obtain ⟨hp7, hp8, hp9⟩ := ho9); (replace hp7 := app_r N9 hp7); (try simp only [List.nil_append, List.cons_append, List.append_nil, List.append_assoc] at hp7); (try simp only [List.nil_append, List.cons_append, List.append_nil, List.append_assoc] at N9); (try simp only [List.nil_append, List.cons_append, List.append_nil, List.append_assoc] at ho9);  (try simp only [List.nil_append, List.cons_append, List.append_nil, List.append_assoc] at N9); (try dsimp only); (try k_sweep))))
local macro_rules | `(tactic| walk_at "call ref") => `(tactic| (k_here; k_dflt (refine' use (mat_shifted_di ?hm ?hx ?hy ?hB) ?_; (case hm => ktr_rel); (case hx => ktr_rel); (case hy => ktr_rel); (case hB => ktr_rel); intro r9 tl9 h9 tk9 F9 N9 hl9 ho9; (obtain ⟨hp7, hp8, hp9⟩ := ho9); (replace hp7 := app_r N9 hp7); (try simp only [List.nil_append, List.cons_append, List.append_nil, List.append_assoc] at hp7); (try simp only [List.nil_append, List.cons_append, List.append_nil, List.append_assoc] at N9); (try simp only [List.nil_append, List.cons_append, List.append_nil, List.append_assoc] at ho9);  (try simp only [List.nil_append, List.cons_append, List.append_nil, List.append_assoc] at N9); (try dsimp only); (try k_sweep))))
local macro_rules | `(tactic| walk_at "call ref") => `(tactic| (k_here; k_dflt (refine' use (mat_applied (bx := 189) ?hm ?hx ?hy ?hB) ?_; (case hm => ktr_rel); (case hx => ktr_rel); (case hy => ktr_rel); (case hB => ktr_rel); intro r9 tl9 h9 tk9 F9 N9 hl9 ho9; (obtain ⟨hp7, hp8, hp9⟩ := ho9); (replace hp7 := app_r N9 hp7); (try simp only [List.nil_append, List.cons_append, List.append_nil, List.append_assoc] at hp7); (try simp only [List.nil_append, List.cons_append, List.append_nil, List.append_assoc] at N9); (try simp only [List.nil_append, List.cons_append, List.append_nil, List.append_assoc] at ho9);  (try simp only [List.nil_append, List.cons_append, List.append_nil, List.append_assoc] at N9); (try dsimp only); (try k_sweep))))
local macro_rules | `(tactic| walk_at "call ref") => `(tactic| (k_here; k_dflt (refine' use (font_codes ?hf ?sf ?hb) ?_; (case hf => ktr_rel); (case sf => ktr_rel); (case hb => ktr_rel); intro r9 tl9 h9 tk9 F9 N9 hl9 ho9;  (try simp only [List.nil_append, List.cons_append, List.append_nil, List.append_assoc] at N9); (try simp only [List.nil_append, List.cons_append, List.append_nil, List.append_assoc] at ho9); (obtain ⟨D9, ys9, hr9, hD9, hY9⟩ := ho9); subst hr9; (try simp only [List.nil_append, List.cons_append, List.append_nil, List.append_assoc] at N9); (try dsimp only); (try k_sweep))))
local macro_rules | `(tactic| walk_at "call ref") => `(tactic| (k_here; k_dflt (refine' use (advance_ok ?hS ?sS ?hx ?hc) ?_; (case hS => ktr_rel); (case sS => ktr_rel); (case hx => ktr_rel); (case hc => ktr_rel); intro r9 tl9 h9 tk9 F9 N9 hl9 ho9; (obtain ⟨hp7, hp8, hp9⟩ := ho9); (replace hp7 := app_r N9 hp7); (try simp only [List.nil_append, List.cons_append, List.append_nil, List.append_assoc] at hp7); (try simp only [List.nil_append, List.cons_append, List.append_nil, List.append_assoc] at N9); (try simp only [List.nil_append, List.cons_append, List.append_nil, List.append_assoc] at ho9);  (try simp only [List.nil_append, List.cons_append, List.append_nil, List.append_assoc] at N9); (try dsimp only); (try k_sweep))))
local macro_rules | `(tactic| walk_at "call ref") => `(tactic| (k_here; k_dflt (refine' use (font_text ?hf ?sf ?hp ?hc) ?_; (case hf => ktr_rel); (case sf => ktr_rel); (case hp => ktr_rel); (case hc => ktr_rel); intro r9 tl9 h9 tk9 F9 N9 hl9 ho9;  (try simp only [List.nil_append, List.cons_append, List.append_nil, List.append_assoc] at N9); (try simp only [List.nil_append, List.cons_append, List.append_nil, List.append_assoc] at ho9); (obtain ⟨u9, hu9⟩ := ho9); subst hu9; (try simp only [List.nil_append, List.cons_append, List.append_nil, List.append_assoc] at N9); (try dsimp only); (try k_sweep))))
local macro_rules | `(tactic| walk_at "call ref") => `(tactic| (k_here; k_dflt (refine' use (dec_plus ?h1 ?h2 ?h3) ?_; (case h1 => ktr_rel); (case h2 => ktr_rel); (case h3 => ktr_rel); kwd_rel)))
local macro_rules | `(tactic| walk_at "call ref") => `(tactic| (k_here; k_dflt (refine' use (mk_dec (b := 3) ?hn ?hb ?hp) ?_; (case hn => ktr_rel); (case hb => ktr_rel); (case hp => ktr_rel); kwd_rel)))
local macro_rules | `(tactic| walk_at "subscriptTail") => `(tactic| (k_here; (with_reducible show wpAny _ _ (subscriptTail _ _ (Value.ref _) (Value.str _ _)) _ _ _); (with_unfolding_all refine' kda_item (knd := PySem.strKind _ _) ?N ?m ?d (strKind_is _ _ _ _) ?v ?_ ?s ?g; (case N => k_asm); (case m => k_mem); (case d => k_asm); (case v => assumption); (case s => with_unfolding_all rfl); (case g => (intro _; with_unfolding_all rfl)); k_whole)))
local macro_rules | `(tactic| ktn_ord) => `(tactic| (refine ord_via (by assumption) (by assumption) (by ktd_sub) ?_; ktn_ord))
theorem turn_end {h₀ : Heap} {L : Addr} {acc x1 x2 x3 x4 x5 : Str} {m₀ : Str → Option Value} {I Df : Addr} {o' od od0 : Obj} {J : Value → Led → Prop} {s₁ : Shared} {h' : Heap} {tk : Nat} {m' : Str → Option Value} {va' : Value} {x d : Addr × Obj} {news T T' R : Led}
    (F : Fr h₀ L h' m') (N : News h₀ L h' (x :: d :: (I, o') :: (Df, od) :: (news ++ (T ++ (T' ++ R))))) (off : ∀ p ∈ x :: d :: R, p.1 ≠ I) (off0 : ∀ p ∈ (Df, od0) :: (news ++ (T ++ T')), p.1 ≠ I) (ha : m' acc = some va') (k : Keeps acc x1 x2 x3 x4 x5 m₀ m')
    (j : J va' ((Df, od) :: (news ++ (T ++ (T' ++ (x :: d :: R)))))) : TurnEnd h₀ L acc x1 x2 x3 x4 x5 m₀ I o' J s₁ .next { s₁ with heap := h', toks := tk } :=
  TurnEnd.intro F N _ (fun p hp => by
    simp only [List.mem_cons, List.mem_append] at hp ⊢
    rcases hp with h | h | h | h | h | h | h | h <;> simp [h]) (fun p hp => by
    simp only [List.mem_cons, List.mem_append] at hp
    rcases hp with h | h | h | h | h
    · rw [h]; exact off0 (Df, od0) (.head _)
    · exact off0 p (List.mem_cons_of_mem _ (List.mem_append.mpr (.inl h)))
    · exact off0 p (List.mem_cons_of_mem _ (List.mem_append.mpr (.inr (List.mem_append.mpr (.inl h)))))
    · exact off0 p (List.mem_cons_of_mem _ (List.mem_append.mpr (.inr (List.mem_append.mpr (.inr h)))))
    · exact off p (by simp only [List.mem_cons]; exact h)) ha k j
local macro_rules | `(tactic| walk_at "call builtin:list.append") => `(tactic| (k_here; (with_reducible show wpAny _ _ (call (Value.builtin _) [Value.ref _, _]) _ _ _); k_dflt (refine' append_K ?k1 ?k2 ?k3 ?_ ?z; (case k1 => k_asm); (case k2 => k_asm); (case k3 => k_upd); (case z => assumption); k_whole); intro h' F' N'; (try k_sweep)))
theorem glyphs_length (S : St) (O : Mt) : ∀ (cs : List Int) (g : Rat), (S.glyphs O g cs).length = cs.length
  | [], _ => rfl
  | _ :: cs, _ => congrArg (· + 1) (glyphs_length S O cs _)
theorem all_ltS {l led : Led} {d : Addr} (h : ∀ p ∈ led, p.1 < d) (s : ∀ p ∈ l, p ∈ led) : ∀ p ∈ l, p.1 ≠ d := fun p hp => Nat.ne_of_lt (h p (s p hp))
local macro_rules | `(tactic| walk_at "exec For Name Call cons nil") => `(tactic| (k_here; (rename Fr _ _ _ _ => lF'); (with_unfolding_all refine' For_turns lF' ?_; k_whole)))
theorem open_led {h₀ h : Heap} {L D : Addr} {o : Obj} {news T : Led} (N : News h₀ L h ((D, o) :: (news ++ T))) : ∃ D' T', D' = D ∧ T' = T ∧ News h₀ L h ((D', o) :: (news ++ T')) := ⟨D, T, rfl, rfl, N⟩
local macro_rules | `(tactic| ktr_rel) => `(tactic| first | assumption | exact DecIn.mono (by assumption) (by ktd_sub) | exact MatIn.mono (by assumption) (by ktd_sub) | exact CodeIn.mono (by assumption) (by ktd_sub) | exact DecIn.more (DecIn.mono (by assumption) (by ktd_sub)) (by omega) | k_mem)
local macro_rules | `(tactic| k_all) => `(tactic| assumption)
set_option maxHeartbeats 8000000 in
theorem shown_ok {w : World} {news lS : Led} {v p : Value} {S : St} {M : Mt} {bm : Nat} {b : Array UInt8} {tb : Tok} (hS : StateIn PySem.Challenge.rw_og0182_01.row.prog w lS v S) (sS : ∀ p ∈ lS, p ∈ news) (hM0 : MatIn w.params news p M bm) (hbm : bm ≤ 200) (hb : b.size ≤ 6) (hcs : ∀ c ∈ KBw.bInts b, Code4 c) :
    Yields w (.ref 318) [v, p, .bytes b tb] news 30 (fun tl r => ShownIn w.params tl r (S.glyphs (M.mul S.ctm) 0 (KBw.bInts b)) (S.gone 0 (KBw.bInts b))) := by
  unfold Yields
  k_fill
  intro p0 loose mean mg mb dp un gd cn cs a ccd cl outer A₀ base h₀ L m s Q E B F X N T hk hd hu hret
  replace hS := hS.mono sS
  have hS' := hS
  obtain ⟨i1, i2, hM, hF, hZ, i6, hD, vTc, vTw, vTz, vTs, dTc, dTw, dTz, dTs⟩ := hS
  have hF' := hF
  obtain ⟨j1, j2, j3, j4, jT, j6, j7, j8, jU, j10⟩ := hF
  refine wpAny_call ?_
  k_dflt ktr_enter
  k_steps
  rename Fr _ _ _ _ => F0
  rename News _ _ _ ((_, listOf #[] 0) :: _) => N0
  obtain ⟨Df, T, eD, eT, N1⟩ := open_led N0
  rename MatIn _ _ _ (Mt.mul _ _) _ => hO
  replace hO := MatIn.more (b' := 410) (hO.mono (led' := T) (by rw [eT]; ktd_sub)) (by omega)
  rename DecIn _ _ _ (Mt.b _ * _ + _) _ => hUp
  replace hUp := DecIn.more (b' := 900) (hUp.mono (led' := T) (by rw [eT]; ktd_sub)) (by omega)
  rename DecIn _ _ _ (((0 : Int) : Rat) / _) _ => hG0
  replace hG0 := hG0.mono (led' := T) (by rw [eT]; ktd_sub)
  rw [rdiv0] at hG0
  rename All2 (CodeIn _) _ _ => hY
  replace hY := All2.imp (S := CodeIn T) (fun _ _ h => CodeIn.mono h (by rw [eT]; ktd_sub)) hY
  have hDf : ∀ p ∈ news ++ T, p.1 ≠ Df := by
    rw [eT, eD]
    repeat' (first | refine List.forall_mem_append.mpr ⟨?_, ?_⟩ | exact all_gt (by assumption) (by k_mem) | exact all_ltS (by assumption) (by ktd_sub))
  have hnT : ∀ q ∈ news, ∀ p ∈ T, q.1 ≠ p.1 := by
    rw [eT]; ktn_ord
  rename (_, LCg.lst _) ∈ _ => hDc
  replace hDc : _ ∈ T := mem_sub hDc (by rw [eT]; ktd_sub)
  clear N0
  subst eD
  k_dflt (refine' iter_listTurns (lo := LCg.lst _) (vs := _) ?h F0 N1 (List.mem_cons_of_mem _ (List.mem_append.mpr (.inr hDc))) ?c ?d ?_)
  case h => rfl
  case c => rfl
  case d => rfl
  intro I hI
  refine items_inv (Str.ofString "gone") (Str.ofString "code") (Str.ofString "whole") (Str.ofString "bare") (Str.ofString "x") (Str.ofString "y")
    (ShownJ w.params S (M.mul S.ctm) (KBw.bInts b) Df news T)
    (by exact rfl) (fun p hp => Nat.ne_of_lt (hI p hp)) ⟨[], 0, [], by rw [List.append_nil], List.forall_mem_nil _, ord_nil, .nil, ?g0⟩ ?keep ?turn ?fin
  case g0 => rw [List.append_nil]; exact hG0
  case keep =>
    rintro i va nw ⟨ws, k, T', rfl, _⟩
    exact List.mem_cons_of_mem _ (List.mem_append.mpr (.inr (List.mem_append.mpr (.inl hDc))))
  case turn =>
    intro i v va u1 u2 u3 u4 u5 nw h tk o' hv hj off hc F N
    obtain ⟨ws, k, T', hnw, hT1, hT2, hW, hG⟩ := hj
    subst hnw
    obtain ⟨c, hcv, hcode⟩ := hY.get hv
    have hc4 := hcs c (List.mem_of_getElem? hcv)
    have hcode' := hcode
    obtain ⟨pa, t1, t2, hv', hpa⟩ := hcode
    subst hv'
    have hi6 : i < 6 := by
      have := (List.getElem?_eq_some_iff.mp hcv).1
      rw [KBw.ints_length] at this
      omega
    have hID : @Ne Nat I Df := (off _ (.head _)).symm
    have hDI : @Ne Nat Df I := off _ (.head _)
    have hDn : ∀ p ∈ news, p.1 ≠ Df := fun p hp => hDf p (List.mem_append.mpr (.inl hp))
    have hDT : ∀ p ∈ T, p.1 ≠ Df := fun p hp => hDf p (List.mem_append.mpr (.inr hp))
    have hsz : (List.toArray ws).size ≤ sizeLine := by
      have h1 := hW.length
      rw [glyphs_length, List.length_take] at h1
      rw [PySem.sizeLine_eq, List.size_toArray, h1]
      omega
    unfold loopF at F
    clear F0 N1
    k_steps
    (repeat (with_reducible rename (_ ∧ _) => hcj; obtain ⟨hcj1, hcj2⟩ := hcj))
    refine turn_end (by assumption) (by assumption) ?zoff off (by exact rfl) ?zkeep ?zj
    case zoff => k_all
    case zkeep =>
      intro z h0 h1 h2 h3 h4 h5
      simp only [h0, h1, h2, h3, h4, h5, if_false]
    case zj =>
      refine' ShownJ.next ?zo1 ?zo2 hW ?zs hcv ?zv ?zg ?zb
      case zo1 => k_all
      case zo2 => ktn_ord
      case zs => ktd_sub
      case zv =>
        rw [show S.glyph (M.mul S.ctm) (S.gone 0 (List.take i (KBw.bInts b))) c = ⟨gt c, _, _, _, _⟩ from rfl]
        exact GlIn.mk (by k_mem) (by k_mem) (DecIn.mono (by assumption) (by ktd_sub)) (DecIn.mono (by assumption) (by ktd_sub)) (DecIn.mono (by assumption) (by ktd_sub)) (DecIn.mono (by assumption) (by ktd_sub))
      case zg => exact DecIn.mono (by assumption) (by ktd_sub)
      case zb => omega
  case fin =>
    intro va u1 u2 u3 u4 u5 nw h tk hj F N
    obtain ⟨ws, k, T', hnw, hT1, hT2, hW, hG⟩ := hj
    subst hnw
    unfold loopF at F
    clear F0 N1
    k_steps
    (repeat (with_reducible rename (_ ∧ _) => hcj; obtain ⟨hcj1, hcj2⟩ := hcj))
    have hl := hY.length
    rw [hl, List.take_length] at hW hG
    have hl6 : (KBw.bInts b).length ≤ 6 := by rw [KBw.ints_length]; exact hb
    refine hret _ ((_, _) :: (Df, _) :: (T ++ T')) _ _ (by assumption) (ktn_oN [_, _] (by assumption)) ?zord ?zpost
    case zord => exact ord_cons (sub_ltA (by assumption) (by ktd_sub)) (ord_consN (fun q hq => hDf q (List.mem_append.mpr (.inl hq))) (ord_app hnT (fun q hq => hT2 q (List.mem_append.mpr (.inl hq)))))
    case zpost => exact ShownIn.mk (.head _) (.tail _ (.head _)) (hW.imp fun _ _ h => h.mono (by ktd_sub)) (DecIn.more (hG.mono (by ktd_sub)) (by omega))
end
section
theorem DecIn.handed {P : Params} {led : Led} {v : Value} {q : Rat} {b : Nat} (h : DecIn P led v q b) : handedIn v = true := by cases h; rfl
local macro_rules | `(tactic| k_handed) => `(tactic| exact DecIn.handed (by assumption))
local macro_rules | `(tactic| walk_at "call ref") => `(tactic| (k_here; k_dflt (refine' use (dec_told ?hv1) ?_; (case hv1 => ktr_rel); kwd_rel)))
/-- what a glyph tells -/
inductive GToldIn (led : Led) : Value → Gl → Prop
  | mk {a : Addr} {n : Nat} {t : Tok} {v1 v2 v3 v4 : Value} {G : Gl} : (a, ({ cls := .type "tuple", data := .seq #[.str G.text t, v1, v2, v3, v4] n } : Obj)) ∈ led → ToldIn led v1 G.x → ToldIn led v2 G.y → ToldIn led v3 G.width → ToldIn led v4 G.size → GToldIn led (.ref a) G
theorem GToldIn.mono {led led' : Led} {v : Value} {G : Gl} (h : GToldIn led v G) (hs : ∀ p ∈ led, p ∈ led') : GToldIn led' v G := by
  cases h with
  | mk h1 a b c d => exact .mk (hs _ h1) (a.mono hs) (b.mono hs) (c.mono hs) (d.mono hs)
set_option maxHeartbeats 1000000 in
theorem glyph_told {w : World} {news lG : Led} {v : Value} {G : Gl} (hG : GlIn w.params lG v G) (sG : ∀ p ∈ lG, p ∈ news) :
    Yields w (.ref 255) [v] news 6 (fun tl r => GToldIn tl r G) := by
  unfold Yields
  k_fill
  intro p loose mean mg mb dp un gd cn cs a ccd cl outer A₀ base h₀ L m s Q E B F X N T hk hd hu hret
  replace hG := hG.mono sG
  obtain ⟨i1, i2, hx, hy, hw, hz⟩ := hG
  refine wpAny_call ?_
  k_dflt ktr_enter
  k_steps
  (repeat (with_reducible rename (_ ∧ _) => hcj; obtain ⟨hcj1, hcj2⟩ := hcj))
  refine hret _ _ _ _ (by assumption) (by ktn_open) (by ktn_ord) ?_
  exact GToldIn.mk (by k_mem) (ToldIn.mono (by assumption) (by ktd_sub)) (ToldIn.mono (by assumption) (by ktd_sub)) (ToldIn.mono (by assumption) (by ktd_sub)) (ToldIn.mono (by assumption) (by ktd_sub))
end
section
/-- a def's call that may change what lies in the ledger -/
noncomputable def Moves (w : World) (f : Value) (vs : List Value) (led : Led) (room : Nat) (Post : Led → Value → Prop) : Prop :=
  ∀ (p : Program) (loose : List Str) (mean : ExcName → Option Value) (mg mb : Str → Option Value) (dp un : Nat) (gd : Option (List Code)) (cn : Str) (cs : Scope) (a : Addr) (ccd : Value) (cl : List (Str × Addr)) (outer : List Env) (A₀ : Around) (base h₀ : Heap) (L : Addr) (m : Str → Option Value) (s : Shared)
    (Q E : Value → Shared → Prop),
    Below A₀ base outer h₀ → Fr h₀ L s.heap m → (KK w.params).In h₀ → News h₀ L s.heap led → Top p loose mean mg mb h₀ → cs.kind = .function → dp + room < recursionLimit → un + 8 * room < cLine →
    (∀ r led' h' tk', Fr h₀ L h' m → News h₀ L h' led' → Post led' r → Q r { s with heap := h', toks := tk' }) →
    wpAny (model PySem.Challenge.rw_og0182_01.row.prog w) (ktrTop dp un gd cn cs L a ccd cl outer) (call f vs) Q E s
/-- an entry of a ledger and the rest of it -/
inductive Pull (d : Addr) (o : Obj) : Led → Led → Prop
  | head {r : Led} : (∀ p ∈ r, p.1 ≠ d) → Pull d o ((d, o) :: r) r
  | tail {p : Addr × Obj} {r r' : Led} : p.1 ≠ d → Pull d o r r' → Pull d o (p :: r) (p :: r')
theorem Pull.sub {d : Addr} {o : Obj} {l r : Led} (h : Pull d o l r) : (∀ p ∈ (d, o) :: r, p ∈ l) ∧ (∀ p ∈ r, p.1 ≠ d) ∧ ∀ p ∈ l, p = (d, o) ∨ p ∈ r := by
  induction h with
  | head h => exact ⟨fun _ h => h, h, fun p hp => List.mem_cons.mp hp⟩
  | tail hp _ ih =>
    obtain ⟨a, b, c⟩ := ih
    refine ⟨fun p hp' => ?_, fun p hp' => ?_, fun p hp' => ?_⟩
    · rcases List.mem_cons.mp hp' with rfl | hp'
      · exact .tail _ (a _ (.head _))
      · rcases List.mem_cons.mp hp' with rfl | hp'
        · exact .head _
        · exact .tail _ (a _ (.tail _ hp'))
    · rcases List.mem_cons.mp hp' with rfl | hp'
      · exact hp
      · exact b p hp'
    · rcases List.mem_cons.mp hp' with rfl | hp'
      · exact .inr (.head _)
      · rcases c p hp' with h | h
        · exact .inl h
        · exact .inr (.tail _ h)
/-- the tape: a list of cells and how far it is read -/
abbrev tapeO (cl : Addr) (at_ : Int) (t : Tok) (n : Nat) : Obj := listOf #[.ref cl, .int at_ t] n
/-- the cells of the tape -/
structure CellsIn (led : Led) (cl : Addr) : Prop where
  out : ∃ vs ns k, (cl, listOf (List.toArray vs) k) ∈ led ∧ IntsAre vs ns ∧ 1 ≤ ns.length ∧ ns.length ≤ 63
theorem CellsIn.mono {led led' : Led} {cl : Addr} (h : CellsIn led cl) (hs : ∀ p ∈ led, p ∈ led') : CellsIn led' cl := let ⟨vs, ns, k, a, b⟩ := h.out; ⟨vs, ns, k, hs _ a, b⟩
/-- a ledger with the tape read so far -/
def TapeAt (tp cl : Addr) (T : Led) (at_ : Int) (led : Led) : Prop := ∃ t n, led = (tp, tapeO cl at_ t n) :: T
theorem useM {w : World} {f : Value} {vs : List Value} {room : Nat} {P : Value → Prop} {tp cl : Addr} {T led : Led} {at_ at' : Int} {t : Tok} {n : Nat} (C : (∀ p ∈ T, p.1 ≠ tp) → Moves w f vs ((tp, tapeO cl at_ t n) :: T) room (fun led' r => TapeAt tp cl T at' led' ∧ P r))
    {p : Program} {loose : List Str} {mean : ExcName → Option Value} {mg mb : Str → Option Value} {dp un : Nat} {gd : Option (List Code)} {cn : Str} {cs : Scope} {a : Addr} {ccd : Value} {cll : List (Str × Addr)} {outer : List Env} {A₀ : Around} {base h₀ : Heap} {L : Addr} {m : Str → Option Value} {s : Shared}
    {Q E : Value → Shared → Prop}
    (ret : ∀ r t' n' h' tk', Fr h₀ L h' m → News h₀ L h' ((tp, tapeO cl at' t' n') :: T) → (∀ p ∈ T, p.1 ≠ tp) → P r → Q r { s with heap := h', toks := tk' })
    (B : Below A₀ base outer h₀ := by k_asm) (F : Fr h₀ L s.heap m := by k_asm) (X : (KK w.params).In h₀ := by k_asm) (N : News h₀ L s.heap led := by k_asm) (Tp : Top p loose mean mg mb h₀ := by k_asm) (hk : cs.kind = .function := by first | exact rfl | assumption) (hd : dp + room < recursionLimit := by ktr_room) (hu : un + 8 * room < cLine := by ktr_units) (U : Pull tp (tapeO cl at_ t n) led T := by kwd_less) :
    wpAny (model PySem.Challenge.rw_og0182_01.row.prog w) (ktrTop dp un gd cn cs L a ccd cll outer) (call f vs) Q E s := by
  obtain ⟨u1, u2, _⟩ := U.sub
  refine C u2 _ _ _ _ _ _ _ _ _ _ _ _ _ _ _ _ _ _ _ _ _ _ B F X (fun p hp => N p (u1 p hp)) Tp hk hd hu fun r led' h' tk' F' N' ⟨⟨t', n', e⟩, hP⟩ => ?_
  subst e
  exact ret r t' n' h' tk' F' N' u2 hP
end
local macro_rules | `(tactic| kwd_less) => `(tactic| ((repeat (apply Pull.tail; k_ne)); refine Pull.head ?_; k_all))
local macro_rules | `(tactic| kwd_inv) => `(tactic| (intro r9 t9 n9 h9 tk9 F9 N9 hT9 hP9; (obtain ⟨v9, u9, hr9, lo9, hi9⟩ := hP9); subst hr9; (try dsimp only); (try k_sweep)))
local macro_rules | `(tactic| tb_rel) => `(tactic| first | exact CellsIn.mono (by assumption) (by ktd_sub) | omega | decide)
section
local macro_rules | `(tactic| k_all) => `(tactic| assumption)
theorem fm_lo (a : Int) {n : Int} (h : 0 < n) : 0 ≤ a.fmod n := by rw [Int.fmod_eq_emod_of_nonneg _ (by omega)]; exact Int.emod_nonneg _ (by omega)
theorem fm_hi (a : Int) {n : Int} (h : 0 < n) : a.fmod n < n := by rw [Int.fmod_eq_emod_of_nonneg _ (by omega)]; exact Int.emod_lt_of_pos _ h
theorem cells_len {w : World} {prog : Program} {A : Around} {E : Value → Shared → Prop} {s : Shared} {h₀ : Heap} {L cl : Addr} {news T : Led} {vs : List Value} {ns : List Int} {k : Nat} {Q : Value → Shared → Prop} (N : News h₀ L s.heap news) (hc : (cl, listOf (List.toArray vs) k) ∈ T) (sT : ∀ p ∈ T, p ∈ news) (hi : IntsAre vs ns) (h63 : ns.length ≤ 63)
    (h : Q (.int (ns.length : Nat) (s.toks + 1)) { s with toks := s.toks + 1 + 1 }) : wpAny (model prog w) A (call (.builtin "len") [.ref cl]) Q E s :=
  KM.len_K N (sT _ hc) (by rw [List.size_toArray]; exact hi.length) (by omega) h
theorem cells_item {w : World} {prog : Program} {A : Around} {E : Value → Shared → Prop} {s : Shared} {h₀ : Heap} {L cl : Addr} {news T : Led} {vs : List Value} {ns : List Int} {k : Nat} {i : Int} {u : Tok} {value slice : PySem.Expr} {Q : Value → Shared → Prop} (N : News h₀ L s.heap news) (hc : (cl, listOf (List.toArray vs) k) ∈ T) (sT : ∀ p ∈ T, p ∈ news) (hi : IntsAre vs ns) (h63 : ns.length ≤ 63)
    (h0 : 0 ≤ i) (h1 : i < ns.length) (h : ∀ x t, Q (.int x t) s) (hs : subscripted slice false (.ref cl) (.int i u) = operate [.ref cl, .int i u] (getItem (.ref cl) (.int i u)) := by with_unfolding_all rfl) :
    wpAny (model prog w) A (subscriptTail value slice (.ref cl) (.int i u)) Q E s := by
  have hl : s.heap.IsList cl (List.toArray vs) := News.isList N (sT _ hc)
  obtain ⟨x, hx⟩ : ∃ x, ns[i.toNat]? = some x := ⟨_, List.getElem?_eq_getElem (by omega)⟩
  obtain ⟨t, ht⟩ := hi.get _ _ hx
  exact tail_any hl.typeIs slot_list_getitem.lookup (wpAny_getItem_list hl h0 (by omega) (by simpa using ht) (h x t)) hs
local macro_rules | `(tactic| walk_at "call builtin:len") => `(tactic| (k_here; (with_reducible show wpAny _ _ (call (Value.builtin "len") [Value.ref _]) _ _ _); k_dflt (refine' cells_len ?N ?c ?T ?i ?b ?_; (case N => k_asm); (case c => assumption); (case T => ktd_sub); (case i => assumption); (case b => assumption))))
local macro_rules | `(tactic| walk_at "subscriptTail") => `(tactic| (k_here; (with_reducible show wpAny _ _ (subscriptTail _ _ (Value.ref _) (Value.int (Int.fmod _ _) _)) _ _ _); (with_unfolding_all (refine' cells_item ?N ?c ?T ?i ?b ?l ?u ?_ ?s; (case N => k_asm); (case c => assumption); (case T => ktd_sub); (case i => assumption); (case b => assumption); (case l => exact fm_lo _ (by omega)); (case u => exact fm_hi _ (by omega)); (case s => with_unfolding_all rfl); k_whole)); intro x9 t9))
local macro_rules | `(tactic| walk_at "binaryOp Mod int int") => `(tactic| (k_here; (with_reducible refine mod_int' ?kbe ?_); (case kbe => omega)))
local macro_rules | `(tactic| walk_at "binaryOp FloorDiv int int") => `(tactic| (k_here; (with_reducible refine floordiv_int ?kbe ?_ (Or.inl (PyProof.noPylong_small ?kbp))); (case kbe => omega); (case kbp => omega)))
theorem fdiv_bd {a : Int} {n : Nat} (h0 : 0 ≤ a) (h1 : a ≤ 100) (hn : 1 ≤ n) : 0 ≤ a.fdiv (n : Int) ∧ a.fdiv (n : Int) ≤ 100 := by
  rw [Int.fdiv_eq_ediv_of_nonneg _ (by omega)]
  constructor
  · exact Int.ediv_nonneg h0 (by omega)
  · exact Int.le_trans (Int.ediv_le_self _ h0) h1
set_option maxHeartbeats 1000000 in
theorem draw_ok {w : World} {T : Led} {tp cl : Addr} {at_ lim : Int} {t tl : Tok} {n : Nat} (hC : CellsIn T cl) (a0 : 0 ≤ at_) (a1 : at_ ≤ 100) (l0 : 1 ≤ lim) (l1 : lim ≤ 100) :
    (∀ p ∈ T, p.1 ≠ tp) → Moves w (.ref 488) [.ref tp, .int lim tl] ((tp, tapeO cl at_ t n) :: T) 3 (fun led' r => TapeAt tp cl T (at_ + 1) led' ∧ ∃ v u, r = .int v u ∧ 0 ≤ v ∧ v < lim) := by
  intro hT
  unfold Moves
  k_fill
  intro p loose mean mg mb dp un gd cn cs a ccd cl outer A₀ base h₀ L m s Q E B F X N T hk hd hu hret
  obtain ⟨vs, ns, k, hc, hi, n1, n2⟩ := hC.out
  have hmul := fdiv_bd (n := ns.length) a0 a1 (by omega)
  refine wpAny_call ?_
  k_dflt ktr_enter
  k_steps
  refine hret _ _ _ _ (by assumption) (by assumption) ⟨⟨_, _, rfl⟩, _, _, rfl, fm_lo _ (by omega), fm_hi _ (by omega)⟩
local macro_rules | `(tactic| walk_at "call ref") => `(tactic| (k_here; k_dflt (refine' useM (fun hT => draw_ok ?hC ?a0 ?a1 ?l0 ?l1 hT) ?_; (case hC => tb_rel); (case a0 => tb_rel); (case a1 => tb_rel); (case l0 => tb_rel); (case l1 => tb_rel); kwd_inv)))
set_option maxHeartbeats 1000000 in
theorem whole_ok {w : World} {T : Led} {tp cl : Addr} {at_ : Int} {t : Tok} {n : Nat} (hC : CellsIn T cl) (a0 : 0 ≤ at_) (a1 : at_ ≤ 100) :
    (∀ p ∈ T, p.1 ≠ tp) → Moves w (.ref 502) [.ref tp] ((tp, tapeO cl at_ t n) :: T) 6 (fun led' r => TapeAt tp cl T (at_ + 1) led' ∧ ∃ v u, r = .int v u ∧ -20 ≤ v ∧ v ≤ 20) := by
  intro hT
  unfold Moves
  k_fill
  intro p loose mean mg mb dp un gd cn cs a ccd cl outer A₀ base h₀ L m s Q E B F X N T hk hd hu hret
  refine wpAny_call ?_
  k_dflt ktr_enter
  k_steps
  refine hret _ _ _ _ (by assumption) (by assumption) ⟨⟨_, _, rfl⟩, _, _, rfl, by omega, by omega⟩
end
section
local macro_rules | `(tactic| walk_at "binaryOp Mult int int") => `(tactic| (k_here; (with_reducible refine mul_int ?_ (mulok_big (by assumption) (by assumption) (by omega)))))
theorem news_one {h₀ h : Heap} {L : Addr} {x a b : Addr × Obj} {news : Led} (N : News h₀ L h (x :: a :: b :: news)) : News h₀ L h (news ++ [x]) := fun p hp => by
  rcases List.mem_append.mp hp with hp | hp
  · exact N p (.tail _ (.tail _ (.tail _ hp)))
  · rw [List.mem_singleton.mp hp]; exact N x (.head _)
set_option maxHeartbeats 1000000 in
theorem onto_ok {w : World} {news : Led} {pt sx : Addr} {a b c d e f x y : Int} {ta tb tc td te tf tx ty : Tok} {n k : Nat} (hp : (pt, ({ cls := .type "tuple", data := .seq #[.int x tx, .int y ty] n } : Obj)) ∈ news) (hs : (sx, listOf #[.int a ta, .int b tb, .int c tc, .int d td, .int e te, .int f tf] k) ∈ news)
    (ha : a.natAbs < 10 ^ 2) (hb : b.natAbs < 10 ^ 2) (hc : c.natAbs < 10 ^ 2) (hd' : d.natAbs < 10 ^ 2) (hx : x.natAbs < 10 ^ 6) (hy : y.natAbs < 10 ^ 6) :
    Yields w (.ref 509) [.ref pt, .ref sx] news 3 (fun tl r => ∃ T t1 t2, r = .ref T ∧ (T, ({ cls := .type "tuple", data := .seq #[.int (a * x + c * y + e) t1, .int (b * x + d * y + f) t2] } : Obj)) ∈ tl) := by
  unfold Yields
  k_fill
  intro p loose mean mg mb dp un gd cn cs a ccd cl outer A₀ base h₀ L m s Q E B F X N T hk hd hu hret
  have N0 := news_more (news_more N hs) (.tail _ hp)
  clear N
  refine wpAny_call ?_
  k_dflt ktr_enter
  k_steps
  (repeat (with_reducible rename (_ ∧ _) => hcj; obtain ⟨hcj1, hcj2⟩ := hcj))
  refine hret _ [(_, _)] _ _ (by assumption) (news_one (by assumption)) (ord1 (sub_ltA (by assumption) (fun _ h => h))) ⟨_, _, _, rfl, .head _⟩
end
section
open PyProof.V PySem.Spec
section
variable {prog : Program} {w : World} {A : Around} {E : Value → Shared → Prop} {h₀ : Heap} {L : Addr} {m : Str → Option Value} {s : Shared} {env : Env} {news : Led}
/-- the cells of the tape, made -/
def MidCells (h₀ : Heap) (L : Addr) (m : Str → Option Value) (s : Shared) (news : Led) (v : Value) (s' : Shared) : Prop :=
  ∃ h' tk' cl ws ns k, v = .ref cl ∧ s' = { s with heap := h', toks := tk' } ∧ Fr h₀ L h' m ∧ News h₀ L h' ((cl, listOf (List.toArray ws) k) :: news) ∧ IntsAre ws ns ∧ 1 ≤ ns.length ∧ ns.length ≤ 63 ∧ ∀ p ∈ news, p.1 < cl
theorem MidCells.intro {h' : Heap} {tk' : Nat} {cl : Addr} {ws : List Value} {ns : List Int} {k : Nat} {led : Led} (F : Fr h₀ L h' m) (N : News h₀ L h' led) (hm : (cl, listOf (List.toArray ws) k) ∈ led) (sub : ∀ p ∈ news, p ∈ led) (hi : IntsAre ws ns) (h1 : 1 ≤ ns.length) (h2 : ns.length ≤ 63) (hl : ∀ p ∈ news, p.1 < cl) :
    MidCells h₀ L m s news (.ref cl) { s with heap := h', toks := tk' } :=
  ⟨h', tk', cl, ws, ns, k, rfl, rfl, F, fun p hp => by
    rcases List.mem_cons.mp hp with rfl | hp
    · exact N _ hm
    · exact N _ (sub p hp), hi, h1, h2, hl⟩
theorem eval_mid {e : Expr} {Q : Value → Shared → Prop} (_F : Fr h₀ L s.heap m) (_N : News h₀ L s.heap news) (h1 : wpAny (model prog w) A (eval e env) (MidCells h₀ L m s news) E s)
    (h2 : ∀ h' tk' cl ws ns k, Fr h₀ L h' m → News h₀ L h' ((cl, listOf (List.toArray ws) k) :: news) → IntsAre ws ns → 1 ≤ ns.length → ns.length ≤ 63 → (∀ p ∈ news, p.1 < cl) → Q (.ref cl) { s with heap := h', toks := tk' }) :
    wpAny (model prog w) A (eval e env) Q E s :=
  wpAny_mono h1 (fun v s' h => by
    obtain ⟨h', tk', cl, ws, ns, k, rfl, rfl, F, N, hi, a, b, l⟩ := h
    exact h2 h' tk' cl ws ns k F N hi a b l) fun _ _ e => e
/-- the end of a comprehension's turn that has read the tape -/
def TapeTurn (h₀ : Heap) (L : Addr) (m : Str → Option Value) (s₁ : Shared) (I : Addr) (oI : Obj) (C : Addr) (oC : Obj) (D : Addr) (ys : List Value) (tp cl : Addr) (at_ : Int) (rest : Led) (R : Value → Prop) (y : Value) (s₂ : Shared) : Prop :=
  ∃ h' tk' t' n', s₂ = { s₁ with heap := h', toks := tk' } ∧ Fr h₀ L h' m ∧ News h₀ L h' ((tp, tapeO cl at_ t' n') :: (I, oI) :: (C, oC) :: (D, LCg.lst ys) :: rest) ∧ R y
theorem TapeTurn.intro {h' : Heap} {tk' : Nat} {s₁ : Shared} {I C D tp cl : Addr} {oI oC : Obj} {ys : List Value} {at_ : Int} {t' : Tok} {n' : Nat} {rest led : Led} {R : Value → Prop} {y : Value} (F : Fr h₀ L h' m) (N : News h₀ L h' led) (sub : ∀ p ∈ (tp, tapeO cl at_ t' n') :: (I, oI) :: (C, oC) :: (D, LCg.lst ys) :: rest, p ∈ led) (r : R y) :
    TapeTurn h₀ L m s₁ I oI C oC D ys tp cl at_ rest R y { s₁ with heap := h', toks := tk' } := ⟨h', tk', t', n', rfl, F, fun p hp => N p (sub p hp), r⟩
theorem comp_src_tape {elt : Expr} {x : Str} {scope : Scope} {cll : List (Str × Addr)} {Fin : Shared → List Value → Led → Prop} {r : Addr} {a b : Int} {t u v : Tok} {n : Nat} {tp cl : Addr} {at_ : Int} {t0 : Tok} {n0 : Nat} {rest : Led} (R : Value → Prop)
    (hh : A.handled = none) (F : Fr h₀ L s.heap m) (N : News h₀ L s.heap news) (U : Pull tp (tapeO cl at_ t0 n0) news rest) (hr : IsRange s.heap r a b 1 t u v) (hsm : Builtin.Range.small a b 1 = true) (hn : Builtin.Range.rangeSize a b 1 = ((n : Nat) : Int)) (hsz : n ≤ sizeLine) (h6 : n ≤ 6)
    (turn : ∀ i ys t' n' w' I oI C oC D m₂ h tk (E' : Value → Shared → Prop), i < 6 → LCg.NsObj oC m₂ → m₂ x = some w' → Fr h₀ L h m → News h₀ L h ((I, oI) :: (C, oC) :: (D, LCg.lst ys) :: (tp, tapeO cl (at_ + (i : Nat)) t' n') :: rest) → ((@Ne Nat I C) ∧ (@Ne Nat I D) ∧ (@Ne Nat C D)) → @Ne Nat I tp → @Ne Nat C tp → @Ne Nat D tp → (∀ p ∈ rest, p.1 ≠ tp) →
      wpAny (model prog w) A (eval elt (compEnvC scope cll C env)) (TapeTurn h₀ L m { s with heap := h, toks := tk } I oI C oC D ys tp cl (at_ + (i : Nat) + 1) rest R) E' { s with heap := h, toks := tk })
    (fin : ∀ g ys t' n', ys.length = n → (∀ y ∈ ys, R y) → (∀ p ∈ rest, p.1 ≠ tp) → Fin { s with heap := g } ys ((tp, tapeO cl (at_ + (n : Nat)) t' n') :: rest)) : LCg.CompSrc prog w A h₀ L m env elt x scope cll Fin (.ref r) s := by
  obtain ⟨u1, u2, _⟩ := U.sub
  refine LCg.CompSrc.range hh F (fun p hp => N p (u1 p hp)) hr hsm hn hsz fun g => ?_
  refine comp_inv (fun i ys nw => ∃ t' n', nw = (tp, tapeO cl (at_ + (i : Nat)) t' n') :: rest ∧ ys.length = i ∧ ∀ y ∈ ys, R y) ⟨t0, n0, by simp, rfl, fun _ h => nomatch h⟩ ?_ ?_
  · rintro i v' ys nw I oI C oC D m₂ h tk E' hi _ ⟨t', n', rfl, hl, hR⟩ hC hx F' N' off ne
    have off' := off.mem (tp, tapeO cl (at_ + (i : Nat)) t' n') (.head _)
    refine wpAny_mono (turn i ys t' n' v' I oI C oC D m₂ h tk E' (by omega) hC hx F' N' ne off'.1.symm off'.2.1.symm off'.2.2.symm u2) (fun y s₂ hq => ?_) fun _ _ e => e
    obtain ⟨h', tk', t'', n'', rfl, F'', N'', hRy⟩ := hq
    refine LCg.CompEnd.intro F'' N'' ((tp, tapeO cl (at_ + ((i + 1 : Nat) : Int)) t'' n'') :: rest) (fun p hp => ?_) ?_ trivial ⟨t'', n'', rfl, by rw [List.length_append, hl]; rfl, fun z hz => ?_⟩
    · have e : at_ + ((i + 1 : Nat) : Int) = at_ + (i : Nat) + 1 := by omega
      rw [e] at hp
      simp only [List.mem_cons] at hp ⊢
      rcases hp with h | h | h | h | h <;> simp [h]
    · exact ⟨off.1, off.2⟩
    · rcases List.mem_append.mp hz with hz | hz
      · exact hR z hz
      · rw [List.mem_singleton.mp hz]; exact hRy
  · rintro ys nw ⟨t', n', rfl, hl, hR⟩
    exact fin g ys t' n' hl hR u2
end
def Whole (y : Value) : Prop := ∃ v u, y = .int v u ∧ -20 ≤ v ∧ v ≤ 20
theorem six_of {ys : List Value} (hl : ys.length = 6) (hR : ∀ y ∈ ys, Whole y) : ∃ p0 p1 p2 p3 p4 p5 : Int, ∃ t0 t1 t2 t3 t4 t5 : Tok, ys = [.int p0 t0, .int p1 t1, .int p2 t2, .int p3 t3, .int p4 t4, .int p5 t5] ∧
    p0.natAbs < 10 ^ 2 ∧ p1.natAbs < 10 ^ 2 ∧ p2.natAbs < 10 ^ 2 ∧ p3.natAbs < 10 ^ 2 ∧ p4.natAbs < 10 ^ 2 ∧ p5.natAbs < 10 ^ 2 := by
  have key : ∀ {v : Value}, Whole v → ∃ p t, v = .int p t ∧ p.natAbs < 10 ^ 2 := by
    rintro v ⟨p, t, rfl, a, b⟩
    exact ⟨p, t, rfl, by show p.natAbs < 100; omega⟩
  match ys, hl with
  | [a, b, c, d, e, f], _ =>
    obtain ⟨p0, t0, e0, h0⟩ := key (hR a (by simp))
    obtain ⟨p1, t1, e1, h1⟩ := key (hR b (by simp))
    obtain ⟨p2, t2, e2, h2⟩ := key (hR c (by simp))
    obtain ⟨p3, t3, e3, h3⟩ := key (hR d (by simp))
    obtain ⟨p4, t4, e4, h4⟩ := key (hR e (by simp))
    obtain ⟨p5, t5, e5, h5⟩ := key (hR f (by simp))
    exact ⟨p0, p1, p2, p3, p4, p5, t0, t1, t2, t3, t4, t5, by rw [e0, e1, e2, e3, e4, e5], h0, h1, h2, h3, h4, h5⟩
theorem ints_of {P : Int → Prop} : ∀ {ys : List Value}, (∀ y ∈ ys, ∃ c u, y = .int c u ∧ P c) → ∃ ks, IntsAre ys ks ∧ (∀ k ∈ ks, P k) ∧ ks.length = ys.length
  | [], _ => ⟨[], .nil, List.forall_mem_nil _, rfl⟩
  | y :: ys, h => by
    obtain ⟨c, u, rfl, hc⟩ := h _ (.head _)
    obtain ⟨ks, hi, hP, hl⟩ := ints_of fun y hy => h y (.tail _ hy)
    exact ⟨c :: ks, .cons c u hi, fun k hk => by
      rcases List.mem_cons.mp hk with rfl | hk
      · exact hc
      · exact hP k hk, congrArg (· + 1) hl⟩
end
section
open PyProof.V PySem.Spec
noncomputable def bodyOf : Stmt → List Stmt
  | .FunctionDef _ _ body _ _ _ _ _ _ _ => body
  | _ => []
noncomputable def scopeOf : Stmt → Scope
  | .FunctionDef _ _ _ _ _ _ scope _ _ _ => scope
  | _ => { kind := .function, names := [], isGenerator := false, isCoroutine := false }
noncomputable def lawScope : Scope := by
  refine (?f : (x : Scope) → scopeOf (stmtAt pE.main.body 51) = x → Scope) ?x ?h
  case f => exact fun x _ => x
  case h => conv => { lhs; whnf }
noncomputable def lawS1 : List Stmt := by
  refine (?f : (x : List Stmt) → List.drop 1 (bodyOf (stmtAt pE.main.body 51)) = x → List Stmt) ?x ?h
  case f => exact fun x _ => x
  case h => conv => { lhs; whnf }
noncomputable def lawS3 : List Stmt := by
  refine (?f : (x : List Stmt) → List.drop 3 (bodyOf (stmtAt pE.main.body 51)) = x → List Stmt) ?x ?h
  case f => exact fun x _ => x
  case h => conv => { lhs; whnf }
noncomputable def lawS4 : List Stmt := by
  refine (?f : (x : List Stmt) → List.drop 4 (bodyOf (stmtAt pE.main.body 51)) = x → List Stmt) ?x ?h
  case f => exact fun x _ => x
  case h => conv => { lhs; whnf }
noncomputable def lawS6 : List Stmt := by
  refine (?f : (x : List Stmt) → List.drop 6 (bodyOf (stmtAt pE.main.body 51)) = x → List Stmt) ?x ?h
  case f => exact fun x _ => x
  case h => conv => { lhs; whnf }
noncomputable def lawS7 : List Stmt := by
  refine (?f : (x : List Stmt) → List.drop 7 (bodyOf (stmtAt pE.main.body 51)) = x → List Stmt) ?x ?h
  case f => exact fun x _ => x
  case h => conv => { lhs; whnf }
noncomputable def lawS10 : List Stmt := by
  refine (?f : (x : List Stmt) → List.drop 10 (bodyOf (stmtAt pE.main.body 51)) = x → List Stmt) ?x ?h
  case f => exact fun x _ => x
  case h => conv => { lhs; whnf }
noncomputable def lawS13 : List Stmt := by
  refine (?f : (x : List Stmt) → List.drop 13 (bodyOf (stmtAt pE.main.body 51)) = x → List Stmt) ?x ?h
  case f => exact fun x _ => x
  case h => conv => { lhs; whnf }
noncomputable def lawS16 : List Stmt := by
  refine (?f : (x : List Stmt) → List.drop 16 (bodyOf (stmtAt pE.main.body 51)) = x → List Stmt) ?x ?h
  case f => exact fun x _ => x
  case h => conv => { lhs; whnf }
noncomputable def lawS18 : List Stmt := by
  refine (?f : (x : List Stmt) → List.drop 18 (bodyOf (stmtAt pE.main.body 51)) = x → List Stmt) ?x ?h
  case f => exact fun x _ => x
  case h => conv => { lhs; whnf }
structure Six where
  (a b c d e f : Int)
/-- a list of six small ints -/
def SixIn (led : Led) (D : Addr) (M : Six) : Prop := ∃ t0 t1 t2 t3 t4 t5, (D, LCg.lst [.int M.a t0, .int M.b t1, .int M.c t2, .int M.d t3, .int M.e t4, .int M.f t5]) ∈ led ∧ M.a.natAbs < 10 ^ 2 ∧ M.b.natAbs < 10 ^ 2 ∧ M.c.natAbs < 10 ^ 2 ∧ M.d.natAbs < 10 ^ 2 ∧ M.e.natAbs < 10 ^ 2 ∧ M.f.natAbs < 10 ^ 2
theorem SixIn.mono {led led' : Led} {D : Addr} {M : Six} (h : SixIn led D M) (hs : ∀ p ∈ led, p ∈ led') : SixIn led' D M := let ⟨a, b, c, d, e, f, m, r⟩ := h; ⟨a, b, c, d, e, f, hs _ m, r⟩
theorem six_in {led : Led} {D : Addr} {a b c d e f : Int} {t0 t1 t2 t3 t4 t5 : Tok} (m : (D, LCg.lst [.int a t0, .int b t1, .int c t2, .int d t3, .int e t4, .int f t5]) ∈ led) (ha : a.natAbs < 10 ^ 2) (hb : b.natAbs < 10 ^ 2) (hc : c.natAbs < 10 ^ 2) (hd : d.natAbs < 10 ^ 2) (he : e.natAbs < 10 ^ 2) (hf : f.natAbs < 10 ^ 2) :
    SixIn led D ⟨a, b, c, d, e, f⟩ := ⟨t0, t1, t2, t3, t4, t5, m, ha, hb, hc, hd, he, hf⟩
theorem all_ltAs {l led : Led} {d : Addr} (h : AllLt d led) (s : ∀ p ∈ l, p ∈ led) : ∀ p ∈ l, p.1 ≠ d := fun p hp => Nat.ne_of_lt (ktn_ltOf h p (s p hp))
/-- a state as TextState's own __init__ leaves it -/
inductive RawIn (prog : Program) (w : World) (tl : Led) : Value → Value → Prop
  | mk {x d sp : Addr} {k1 k2 k3 k4 : Tok} {v vs : Value} {osp : Obj} {v1 v2 v3 v4 v5 : Value} {R : Led} : tl = (x, instObj 293 d) :: (d, dictOf [ent w.params (Str.ofString "ctm") k1 v, ent w.params (Str.ofString "font") k2 .none, ent w.params (Str.ofString "size") k3 vs, ent w.params (Str.ofString "spacing") k4 (.ref sp)] 4) :: (sp, osp) :: R →
      @Ne Nat x d → @Ne Nat x sp → @Ne Nat d sp → (∀ p ∈ R, p.1 ≠ x) → (∀ p ∈ R, p.1 ≠ d) → (∀ p ∈ R, p.1 ≠ sp) →
      osp.IsDictOf (strKind prog w) [(Str.ofString "Tc", v1), (Str.ofString "Tw", v2), (Str.ofString "Tz", v3), (Str.ofString "TL", v4), (Str.ofString "Ts", v5)] → RawIn prog w tl (.ref x) v
def Held (P : Prop) : Prop := P
theorem Held.mk {P : Prop} (h : Held P) : P := h
theorem off_r {A B : Led} {x : Addr} {o : Obj} (h : ∀ q ∈ A, ∀ p ∈ B, q.1 ≠ p.1) (m : (x, o) ∈ B) : ∀ q ∈ A, q.1 ≠ x := fun q hq => h q hq _ m
theorem off_app {A B : Led} {x : Addr} (h : ∀ q ∈ A, q.1 ≠ x) (k : ∀ q ∈ B, q.1 ≠ x) : ∀ q ∈ A ++ B, q.1 ≠ x := fun q hq => (List.mem_append.mp hq).elim (h q) (k q)
theorem off_sub {A B : Led} {x : Addr} (h : ∀ q ∈ A, q.1 ≠ x) (s : ∀ q ∈ B, q ∈ A) : ∀ q ∈ B, q.1 ≠ x := fun q hq => h q (s q hq)
theorem lit1 {m : Str → Option Value} {k : Str} {v : Value} (h : m k = some v) : m = fun z => if z = k then some v else m z := by
  funext z
  by_cases e : z = k
  · rw [if_pos e, e, h]
  · rw [if_neg e]
theorem fr4 {h₀ h : Heap} {L : Addr} {m : Str → Option Value} {k1 k2 k3 k4 : Str} {v1 v2 v3 v4 : Value} (F : Fr h₀ L h m) (a1 : m k1 = some v1) (a2 : m k2 = some v2) (a3 : m k3 = some v3) (a4 : m k4 = some v4) :
    Fr h₀ L h (fun z => if z = k1 then some v1 else if z = k2 then some v2 else if z = k3 then some v3 else if z = k4 then some v4 else m z) := by
  refine Eq.mp (congrArg (Fr h₀ L h) (funext fun z => ?_)) F
  repeat' split
  all_goals first | (subst_vars; assumption) | rfl
theorem frx {h₀ h : Heap} {L : Addr} {m : Str → Option Value} {k1 k2 k3 k4 k5 : Str} {v1 v2 v3 v4 v5 : Value} (F : Fr h₀ L h (fun z => if z = k1 then some v1 else if z = k2 then some v2 else if z = k3 then some v3 else if z = k4 then some v4 else m z)) (a5 : m k5 = some v5) (n1 : k5 ≠ k1) (n2 : k5 ≠ k2) (n3 : k5 ≠ k3) (n4 : k5 ≠ k4) :
    Fr h₀ L h (fun z => if z = k5 then some v5 else if z = k1 then some v1 else if z = k2 then some v2 else if z = k3 then some v3 else if z = k4 then some v4 else m z) := by
  refine Eq.mp (congrArg (Fr h₀ L h) (funext fun z => ?_)) F
  by_cases e : z = k5
  · subst e; simp only [n1, n2, n3, n4, if_false, if_true]; exact a5
  · rw [if_neg e]
theorem fr7 {h₀ h : Heap} {L : Addr} {m : Str → Option Value} {k1 k2 k3 k4 k5 k6 k7 : Str} {v1 v2 v3 v4 v5 v6 v7 : Value} (F : Fr h₀ L h m) (a1 : m k1 = some v1) (a2 : m k2 = some v2) (a3 : m k3 = some v3) (a4 : m k4 = some v4) (a5 : m k5 = some v5) (a6 : m k6 = some v6) (a7 : m k7 = some v7) :
    Fr h₀ L h (fun z => if z = k1 then some v1 else if z = k2 then some v2 else if z = k3 then some v3 else if z = k4 then some v4 else if z = k5 then some v5 else if z = k6 then some v6 else if z = k7 then some v7 else m z) := by
  refine Eq.mp (congrArg (Fr h₀ L h) (funext fun z => ?_)) F
  repeat' split
  all_goals first | (subst_vars; assumption) | rfl
noncomputable abbrev lawEnv (L fa : Addr) (cd : Value) : Env := envOfC (Str.ofString "law") lawScope L fa cd
/-- where the first glyph lies, by the law's own whole numbers -/
def ontoX (M : Six) (x y : Int) : Int := M.a * x + M.c * y + M.e
def ontoY (M : Six) (x y : Int) : Int := M.b * x + M.d * y + M.f
/-- what the law's third statement finds -/
def Nx3 (w : World) (h₀ : Heap) (L fa : Addr) (cd : Value) (m0 : Str → Option Value) (tp cl : Addr) (oc : Obj) (s : Shared) (Q : Flow → Shared → Prop) (E : Value → Shared → Prop) : Prop :=
  ∀ (h : Heap) (tk : Nat) (a_ : Int) (t : Tok) (n : Nat) (D1 D2 : Addr) (M1 M2 : Six) (R : Led), Fr h₀ L h (fun z => if z = Str.ofString "text" then some (.ref D2) else if z = Str.ofString "page" then some (.ref D1) else m0 z) → News h₀ L h ((tp, tapeO cl a_ t n) :: R) → 0 ≤ a_ → a_ ≤ 12 →
      (∀ p ∈ R, p.1 ≠ tp) → CellsIn R cl → (L + 1, oc) ∈ R → SixIn R D1 M1 → SixIn R D2 M2 → wpAny (model PySem.Challenge.rw_og0182_01.row.prog w) (callerA.deeper (lawEnv L fa cd)) (execs lawS3 (lawEnv L fa cd)) Q E { s with heap := h, toks := tk }
theorem Nx3.use {w : World} {h₀ : Heap} {L fa : Addr} {cd : Value} {m0 : Str → Option Value} {tp cl : Addr} {oc : Obj} {s : Shared} {Q : Flow → Shared → Prop} {E : Value → Shared → Prop} (x : Nx3 w h₀ L fa cd m0 tp cl oc s Q E)
    {h : Heap} {tk : Nat} {a_ : Int} {t : Tok} {n : Nat} {D1 D2 : Addr} {M1 M2 : Six} {R : Led} (F : Fr h₀ L h (fun z => if z = Str.ofString "text" then some (.ref D2) else if z = Str.ofString "page" then some (.ref D1) else m0 z)) (N : News h₀ L h ((tp, tapeO cl a_ t n) :: R)) (a0 : 0 ≤ a_) (a1 : a_ ≤ 12)
    (off : ∀ p ∈ R, p.1 ≠ tp) (C : CellsIn R cl) (c : (L + 1, oc) ∈ R) (s1 : SixIn R D1 M1) (s2 : SixIn R D2 M2) : wpAny (model PySem.Challenge.rw_og0182_01.row.prog w) (callerA.deeper (lawEnv L fa cd)) (execs lawS3 (lawEnv L fa cd)) Q E { s with heap := h, toks := tk } := x h tk a_ t n D1 D2 M1 M2 R F N a0 a1 off C c s1 s2
/-- what the law's fourth statement finds: the state as made -/
def Nx4 (w : World) (h₀ : Heap) (L fa : Addr) (cd : Value) (m0 : Str → Option Value) (tp cl : Addr) (oc : Obj) (s : Shared) (Q : Flow → Shared → Prop) (E : Value → Shared → Prop) : Prop :=
  ∀ (h : Heap) (tk : Nat) (a_ : Int) (t : Tok) (n : Nat) (D1 D2 : Addr) (M1 M2 : Six) (x d sp : Addr) (k1 k2 k3 k4 : Tok) (vm vs : Value) (osp : Obj) (v1 v2 v3 v4 v5 : Value) (R : Led),
    Fr h₀ L h (fun z => if z = Str.ofString "state" then some (.ref x) else if z = Str.ofString "text" then some (.ref D2) else if z = Str.ofString "page" then some (.ref D1) else m0 z) →
    News h₀ L h ((x, instObj 293 d) :: (d, dictOf [ent w.params (Str.ofString "ctm") k1 vm, ent w.params (Str.ofString "font") k2 .none, ent w.params (Str.ofString "size") k3 vs, ent w.params (Str.ofString "spacing") k4 (.ref sp)] 4) :: (sp, osp) :: (tp, tapeO cl a_ t n) :: R) → 0 ≤ a_ → a_ ≤ 12 →
    @Ne Nat x d → @Ne Nat x sp → @Ne Nat x tp → @Ne Nat d sp → @Ne Nat d tp → @Ne Nat sp tp → (∀ p ∈ R, p.1 ≠ x) → (∀ p ∈ R, p.1 ≠ d) → (∀ p ∈ R, p.1 ≠ sp) → (∀ p ∈ R, p.1 ≠ tp) →
    osp.IsDictOf (strKind PySem.Challenge.rw_og0182_01.row.prog w) [(Str.ofString "Tc", v1), (Str.ofString "Tw", v2), (Str.ofString "Tz", v3), (Str.ofString "TL", v4), (Str.ofString "Ts", v5)] →
    CellsIn R cl → (L + 1, oc) ∈ R → SixIn R D1 M1 → SixIn R D2 M2 → MatIn w.params R vm ⟨M1.a, M1.b, M1.c, M1.d, M1.e, M1.f⟩ 2 → wpAny (model PySem.Challenge.rw_og0182_01.row.prog w) (callerA.deeper (lawEnv L fa cd)) (execs lawS4 (lawEnv L fa cd)) Q E { s with heap := h, toks := tk }
/-- what the law's loop finds: the state with its font and size -/
def Nx6 (w : World) (h₀ : Heap) (L fa : Addr) (cd : Value) (m0 : Str → Option Value) (tp cl : Addr) (oc : Obj) (s : Shared) (Q : Flow → Shared → Prop) (E : Value → Shared → Prop) : Prop :=
  ∀ (h : Heap) (tk : Nat) (a_ : Int) (t : Tok) (n : Nat) (D1 D2 : Addr) (M1 M2 : Six) (x d sp : Addr) (k1 k2 k3 k4 : Tok) (vm vf vs : Value) (qz : Rat) (osp : Obj) (v1 v2 v3 v4 v5 : Value) (R : Led),
    Fr h₀ L h (fun z => if z = Str.ofString "state" then some (.ref x) else if z = Str.ofString "text" then some (.ref D2) else if z = Str.ofString "page" then some (.ref D1) else m0 z) →
    News h₀ L h ((x, instObj 293 d) :: (d, dictOf [ent w.params (Str.ofString "ctm") k1 vm, ent w.params (Str.ofString "font") k2 vf, ent w.params (Str.ofString "size") k3 vs, ent w.params (Str.ofString "spacing") k4 (.ref sp)] 4) :: (sp, osp) :: (tp, tapeO cl a_ t n) :: R) → 0 ≤ a_ → a_ ≤ 14 →
    @Ne Nat x d → @Ne Nat x sp → @Ne Nat x tp → @Ne Nat d sp → @Ne Nat d tp → @Ne Nat sp tp → (∀ p ∈ R, p.1 ≠ x) → (∀ p ∈ R, p.1 ≠ d) → (∀ p ∈ R, p.1 ≠ sp) → (∀ p ∈ R, p.1 ≠ tp) →
    osp.IsDictOf (strKind PySem.Challenge.rw_og0182_01.row.prog w) [(Str.ofString "Tc", v1), (Str.ofString "Tw", v2), (Str.ofString "Tz", v3), (Str.ofString "TL", v4), (Str.ofString "Ts", v5)] →
    CellsIn R cl → (L + 1, oc) ∈ R → SixIn R D1 M1 → SixIn R D2 M2 → MatIn w.params R vm ⟨M1.a, M1.b, M1.c, M1.d, M1.e, M1.f⟩ 2 → FontIn PySem.Challenge.rw_og0182_01.row.prog w R vf → DecIn w.params R vs qz 3 → wpAny (model PySem.Challenge.rw_og0182_01.row.prog w) (callerA.deeper (lawEnv L fa cd)) (execs lawS6 (lawEnv L fa cd)) Q E { s with heap := h, toks := tk }
/-- what the law's tenth statement finds: the state made whole -/
def Nx10 (w : World) (h₀ : Heap) (L fa : Addr) (cd : Value) (tp cl : Addr) (oc : Obj) (s : Shared) (Q : Flow → Shared → Prop) (E : Value → Shared → Prop) : Prop :=
  ∀ (h : Heap) (tk : Nat) (a_ : Int) (t u : Tok) (n : Nat) (D1 D2 : Addr) (M1 M2 : Six) (x : Addr) (S : St) (rise : Int) (R : Led) (m : Str → Option Value),
    Fr h₀ L h m → m (Str.ofString "state") = some (.ref x) → m (Str.ofString "text") = some (.ref D2) → m (Str.ofString "page") = some (.ref D1) → m (Str.ofString "rise") = some (.int rise u) →
    News h₀ L h ((tp, tapeO cl a_ t n) :: R) → 0 ≤ a_ → a_ ≤ 20 → (∀ p ∈ R, p.1 ≠ tp) →
    CellsIn R cl → (L + 1, oc) ∈ R → SixIn R D1 M1 → SixIn R D2 M2 → StateIn PySem.Challenge.rw_og0182_01.row.prog w R (.ref x) S → S.ctm = ⟨M1.a, M1.b, M1.c, M1.d, M1.e, M1.f⟩ → S.ts = rise → rise.natAbs < 10 ^ 2 →
    wpAny (model PySem.Challenge.rw_og0182_01.row.prog w) (callerA.deeper (lawEnv L fa cd)) (execs lawS10 (lawEnv L fa cd)) Q E { s with heap := h, toks := tk }
/-- what the law's thirteenth statement finds: the state, the place, the octets and the cut -/
def Nx13 (w : World) (h₀ : Heap) (L fa : Addr) (cd : Value) (s : Shared) (Q : Flow → Shared → Prop) (E : Value → Shared → Prop) : Prop :=
  ∀ (h : Heap) (tk : Nat) (u tb uc : Tok) (D1 D2 : Addr) (M1 M2 : Six) (x : Addr) (S : St) (rise cut : Int) (pl : Value) (b : Array UInt8) (R : Led) (m : Str → Option Value),
    Fr h₀ L h m → m (Str.ofString "state") = some (.ref x) → m (Str.ofString "text") = some (.ref D2) → m (Str.ofString "page") = some (.ref D1) → m (Str.ofString "rise") = some (.int rise u) → m (Str.ofString "place") = some pl → m (Str.ofString "octets") = some (.bytes b tb) → m (Str.ofString "cut") = some (.int cut uc) →
    News h₀ L h R → SixIn R D1 M1 → SixIn R D2 M2 → StateIn PySem.Challenge.rw_og0182_01.row.prog w R (.ref x) S → S.ctm = ⟨M1.a, M1.b, M1.c, M1.d, M1.e, M1.f⟩ → S.ts = rise → rise.natAbs < 10 ^ 2 → MatIn w.params R pl ⟨M2.a, M2.b, M2.c, M2.d, M2.e, M2.f⟩ 2 →
    b.size ≤ 6 → (∀ c ∈ KBw.bInts b, Code4 c) → 0 ≤ cut → cut ≤ b.size → wpAny (model PySem.Challenge.rw_og0182_01.row.prog w) (callerA.deeper (lawEnv L fa cd)) (execs lawS13 (lawEnv L fa cd)) Q E { s with heap := h, toks := tk }
/-- what the law's comparisons find -/
def Nx16 (w : World) (h₀ : Heap) (L fa : Addr) (cd : Value) (s : Shared) (Q : Flow → Shared → Prop) (E : Value → Shared → Prop) : Prop :=
  ∀ (h : Heap) (tk : Nat) (u tb : Tok) (D1 D2 Dw Df Ds : Addr) (M1 M2 : Six) (rise : Int) (b : Array UInt8) (R : Led) (m : Str → Option Value) (vg v1 v2 : Value) (gs gs1 gs2 : List Gl) (q q1 q2 : Rat) (ws ws1 ws2 : List Value) (k k1 k2 : Nat),
    Fr h₀ L h m → m (Str.ofString "text") = some (.ref D2) → m (Str.ofString "page") = some (.ref D1) → m (Str.ofString "rise") = some (.int rise u) → m (Str.ofString "octets") = some (.bytes b tb) →
    m (Str.ofString "whole_row") = some (.ref Dw) → m (Str.ofString "gone") = some vg → m (Str.ofString "first") = some (.ref Df) → m (Str.ofString "one") = some v1 → m (Str.ofString "second") = some (.ref Ds) → m (Str.ofString "other") = some v2 →
    News h₀ L h R → SixIn R D1 M1 → SixIn R D2 M2 → rise.natAbs < 10 ^ 2 →
    (Dw, listOf (List.toArray ws) k) ∈ R → All2 (GlIn w.params R) ws gs → (Df, listOf (List.toArray ws1) k1) ∈ R → All2 (GlIn w.params R) ws1 gs1 → (Ds, listOf (List.toArray ws2) k2) ∈ R → All2 (GlIn w.params R) ws2 gs2 →
    DecIn w.params R vg q 189 → DecIn w.params R v1 q1 189 → DecIn w.params R v2 q2 189 → gs = gs1 ++ gs2 → q = q1 + q2 → gs.length = b.size → b.size ≤ 6 → (∀ G ∈ gs, PyData.strOk G.text = true) → (gs = [] → q = 0) →
    (∀ G Gs, gs = G :: Gs → G.x = ((ontoX M1 (ontoX M2 0 rise) (ontoY M2 0 rise) : Int) : Rat) ∧ G.y = ((ontoY M1 (ontoX M2 0 rise) (ontoY M2 0 rise) : Int) : Rat)) →
    wpAny (model PySem.Challenge.rw_og0182_01.row.prog w) (callerA.deeper (lawEnv L fa cd)) (execs lawS16 (lawEnv L fa cd)) Q E { s with heap := h, toks := tk }
/-- what the law's end finds -/
def Nx18 (w : World) (h₀ : Heap) (L fa : Addr) (cd : Value) (s : Shared) (Q : Flow → Shared → Prop) (E : Value → Shared → Prop) : Prop :=
  ∀ (h : Heap) (tk : Nat) (u : Tok) (D1 D2 Dw : Addr) (M1 M2 : Six) (rise : Int) (R : Led) (m : Str → Option Value) (vg : Value) (gs : List Gl) (q : Rat) (ws : List Value) (k : Nat),
    Fr h₀ L h m → m (Str.ofString "text") = some (.ref D2) → m (Str.ofString "page") = some (.ref D1) → m (Str.ofString "rise") = some (.int rise u) →
    m (Str.ofString "whole_row") = some (.ref Dw) → m (Str.ofString "gone") = some vg →
    News h₀ L h R → SixIn R D1 M1 → SixIn R D2 M2 → rise.natAbs < 10 ^ 2 →
    (Dw, listOf (List.toArray ws) k) ∈ R → All2 (GlIn w.params R) ws gs → DecIn w.params R vg q 189 → (gs = [] → q = 0) →
    (∀ G Gs, gs = G :: Gs → G.x = ((ontoX M1 (ontoX M2 0 rise) (ontoY M2 0 rise) : Int) : Rat) ∧ G.y = ((ontoY M1 (ontoX M2 0 rise) (ontoY M2 0 rise) : Int) : Rat)) →
    wpAny (model PySem.Challenge.rw_og0182_01.row.prog w) (callerA.deeper (lawEnv L fa cd)) (execs lawS18 (lawEnv L fa cd)) Q E { s with heap := h, toks := tk }
end
section
theorem zero_cast : ((0 : Int) : Rat) = 0 := rfl
theorem glyph_along (S : St) (M : Mt) (q g : Rat) (c : Int) : S.glyph ((M.along q).mul S.ctm) g c = S.glyph (M.mul S.ctm) (q + g) c := by
  unfold St.glyph Mt.mul Mt.along
  simp only [zero_cast, Gl.mk.injEq, true_and]
  refine ⟨?_, ?_⟩ <;> grind
theorem glyphs_along (S : St) (M : Mt) (q : Rat) : ∀ (cs : List Int) (g : Rat), S.glyphs ((M.along q).mul S.ctm) g cs = S.glyphs (M.mul S.ctm) (q + g) cs
  | [], _ => rfl
  | c :: cs, g => by
    show S.glyph _ g c :: S.glyphs _ (g + S.whole c) cs = S.glyph _ (q + g) c :: S.glyphs _ (q + g + S.whole c) cs
    rw [glyph_along, glyphs_along S M q cs, Rat.add_assoc]
theorem gone_shift (S : St) (q : Rat) : ∀ (cs : List Int) (g : Rat), S.gone (q + g) cs = q + S.gone g cs
  | [], _ => rfl
  | c :: cs, g => by
    show S.gone (q + g + S.whole c) cs = q + S.gone (g + S.whole c) cs
    rw [Rat.add_assoc, gone_shift S q cs]
theorem glyphs_app (S : St) (O : Mt) : ∀ (as bs : List Int) (g : Rat), S.glyphs O g (as ++ bs) = S.glyphs O g as ++ S.glyphs O (S.gone g as) bs
  | [], _, _ => rfl
  | a :: as, bs, g => congrArg (_ :: ·) (glyphs_app S O as bs _)
theorem gone_app (S : St) : ∀ (as bs : List Int) (g : Rat), S.gone g (as ++ bs) = S.gone (S.gone g as) bs
  | [], _, _ => rfl
  | _ :: as, bs, _ => gone_app S as bs _
theorem law_glyphs (S : St) (M : Mt) (as bs : List Int) : S.glyphs (M.mul S.ctm) 0 (as ++ bs) = S.glyphs (M.mul S.ctm) 0 as ++ S.glyphs ((M.along (S.gone 0 as)).mul S.ctm) 0 bs := by
  rw [glyphs_app, glyphs_along, Rat.add_zero]
theorem law_gone (S : St) (as bs : List Int) : S.gone 0 (as ++ bs) = S.gone 0 as + S.gone 0 bs := by
  rw [gone_app, ← gone_shift, Rat.add_zero]
theorem first_x (S : St) (M1 M2 : Six) (rise c : Int) (h1 : S.ctm = ⟨M1.a, M1.b, M1.c, M1.d, M1.e, M1.f⟩) (h2 : S.ts = rise) :
    (S.glyph ((⟨M2.a, M2.b, M2.c, M2.d, M2.e, M2.f⟩ : Mt).mul S.ctm) 0 c).x = ((ontoX M1 (ontoX M2 0 rise) (ontoY M2 0 rise) : Int) : Rat) := by
  unfold St.glyph Mt.mul ontoX ontoY
  simp only [h1, h2, Rat.intCast_add, Rat.intCast_mul, zero_cast]
  grind
theorem first_y (S : St) (M1 M2 : Six) (rise c : Int) (h1 : S.ctm = ⟨M1.a, M1.b, M1.c, M1.d, M1.e, M1.f⟩) (h2 : S.ts = rise) :
    (S.glyph ((⟨M2.a, M2.b, M2.c, M2.d, M2.e, M2.f⟩ : Mt).mul S.ctm) 0 c).y = ((ontoY M1 (ontoX M2 0 rise) (ontoY M2 0 rise) : Int) : Rat) := by
  unfold St.glyph Mt.mul ontoX ontoY
  simp only [h1, h2, Rat.intCast_add, Rat.intCast_mul, zero_cast]
  grind
theorem glyphs_len (S : St) (O : Mt) : ∀ (cs : List Int) (g : Rat), (S.glyphs O g cs).length = cs.length
  | [], _ => rfl
  | _ :: cs, _ => congrArg (· + 1) (glyphs_len S O cs _)
theorem law_first (S : St) (M1 M2 : Six) (rise : Int) (ks : List Int) (h1 : S.ctm = ⟨M1.a, M1.b, M1.c, M1.d, M1.e, M1.f⟩) (h2 : S.ts = rise) :
    ∀ G Gs, S.glyphs ((⟨M2.a, M2.b, M2.c, M2.d, M2.e, M2.f⟩ : Mt).mul S.ctm) 0 ks = G :: Gs → G.x = ((ontoX M1 (ontoX M2 0 rise) (ontoY M2 0 rise) : Int) : Rat) ∧ G.y = ((ontoY M1 (ontoX M2 0 rise) (ontoY M2 0 rise) : Int) : Rat) := by
  intro G Gs h
  cases ks with
  | nil => cases h
  | cons c cs =>
    cases h
    exact ⟨first_x S M1 M2 rise c h1 h2, first_y S M1 M2 rise c h1 h2⟩
theorem law_none (S : St) (O : Mt) (ks : List Int) (h : S.glyphs O 0 ks = []) : S.gone 0 ks = 0 := by
  cases ks with
  | nil => rfl
  | cons c cs => cases h
end
section
open PyProof.V PySem.Spec
open Classical in
/-- what a decimal tells, as data -/
noncomputable def toldD (q : Rat) : W.Dat := if h : ∃ x : Int × Nat, ∃ b : Nat, Says q b x.1 x.2 then .tuple [.int h.choose.1, .int (h.choose.2 : Nat)] else .none
theorem toldD_of {q : Rat} {b : Nat} {t : Int} {p : Nat} (S : Says q b t p) : toldD q = .tuple [.int t, .int p] := by
  have h : ∃ x : Int × Nat, ∃ b : Nat, Says q b x.1 x.2 := ⟨(t, p), b, S⟩
  unfold toldD
  rw [dif_pos h]
  obtain ⟨b', S'⟩ := h.choose_spec
  obtain ⟨e1, e2⟩ := says_one S' S
  rw [e1, e2]
theorem toldD_ok (q : Rat) (n : Nat) : kqdOk (n + 1) (toldD q) = true := by
  unfold toldD
  split
  · simp [kqdOk]
  · simp [kqdOk]
theorem told_dat {led : Led} {v : Value} {q : Rat} (h : ToldIn led v q) : DatIn led v (toldD q) := by
  cases h with
  | mk hm S => rw [toldD_of S]; exact dat_pair hm
/-- what a glyph tells, as data -/
noncomputable def gD (G : Gl) : W.Dat := .tuple [.str G.text, toldD G.x, toldD G.y, toldD G.width, toldD G.size]
theorem gtold_dat {led : Led} {v : Value} {G : Gl} (h : GToldIn led v G) : DatIn led v (gD G) := by
  cases h with
  | @mk a n t v1 v2 v3 v4 _ hm h1 h2 h3 h4 =>
    exact .tuple (vs := [.str G.text t, v1, v2, v3, v4]) hm (.cons (.str _ _) (.cons (told_dat h1) (.cons (told_dat h2) (.cons (told_dat h3) (.cons (told_dat h4) .nil)))))
theorem all_dat {led : Led} : ∀ {ys : List Value} {gs : List Gl}, All2 (GToldIn led) ys gs → DatAll led ys (gs.map gD)
  | _, _, .nil => .nil
  | _, _, .cons h t => .cons (gtold_dat h) (all_dat t)
theorem list_dat {led led' : Led} {ys : List Value} {gs : List Gl} {D : Addr} (h : All2 (GToldIn led') ys gs) (hs : ∀ p ∈ led', p ∈ led) (hm : (D, LCg.lst ys) ∈ led) : DatIn led (.ref D) (.list (gs.map gD)) :=
  .list (vs := ys) hm (all_dat (h.imp fun _ _ x => x.mono hs))
theorem list_ok {gs : List Gl} (h : ∀ G ∈ gs, PyData.strOk G.text = true) : kqdOk 8 (.list (gs.map gD)) = true := by
  show (gs.map gD).all (kqdOk 7) = true
  rw [List.all_eq_true]
  intro d hd
  obtain ⟨G, hG, rfl⟩ := List.mem_map.mp hd
  show [W.Dat.str G.text, toldD G.x, toldD G.y, toldD G.width, toldD G.size].all (kqdOk 6) = true
  simp [toldD_ok, kqdOk, h G hG]
theorem gt_ok (c : Int) : PyData.strOk (gt c) = true := by
  unfold gt
  repeat' split
  all_goals decide +kernel
theorem glyphs_ok (S : St) (O : Mt) : ∀ (cs : List Int) (g : Rat), ∀ G ∈ S.glyphs O g cs, PyData.strOk G.text = true
  | [], _, _, h => nomatch h
  | c :: cs, g, G, h => by
    rcases List.mem_cons.mp h with rfl | h
    · exact gt_ok c
    · exact glyphs_ok S O cs _ G h
section
variable {prog : Program} {w : World} {A : Around} {E : Value → Shared → Prop} {s : Shared} {h₀ : Heap} {L : Addr} {m : Str → Option Value} {news n₁ n₂ : Led} {env : Env} {Q : Value → Shared → Prop}
theorem same_ne {a b : Value} {d : W.Dat} (N : News h₀ L s.heap news) (Da : DatIn n₁ a d) (sa : ∀ p ∈ n₁, p ∈ news) (Db : DatIn n₂ b d) (sb : ∀ p ∈ n₂, p ∈ news) (ok : kqdOk 8 d = true) (hu : A.units + 64 < cLine) (h : Q (.bool false) s) : wpAny (model prog w) A (compareOp .NotEq a b) Q E s :=
  dat_ne (bb := true) N Da sa Db sb ok ok hu (by simp) h
theorem same_eq {a b : Value} {d : W.Dat} (N : News h₀ L s.heap news) (Da : DatIn n₁ a d) (sa : ∀ p ∈ n₁, p ∈ news) (Db : DatIn n₂ b d) (sb : ∀ p ∈ n₂, p ∈ news) (ok : kqdOk 8 d = true) (hu : A.units + 64 < cLine) (h : Q (.bool true) s) : wpAny (model prog w) A (compareOp .Eq a b) Q E s :=
  dat_eq (bb := true) N Da sa Db sb ok ok hu (by simp) h
/-- the end of a comprehension's turn that has told a glyph -/
def ToldTurn (h₀ : Heap) (L : Addr) (m : Str → Option Value) (s₁ : Shared) (I : Addr) (oI : Obj) (C : Addr) (oC : Obj) (D : Addr) (ys : List Value) (news tl : Led) (G : Gl) (y : Value) (s₂ : Shared) : Prop :=
  ∃ h' tk' tl', s₂ = { s₁ with heap := h', toks := tk' } ∧ Fr h₀ L h' m ∧ News h₀ L h' ((I, oI) :: (C, oC) :: (D, LCg.lst ys) :: (news ++ (tl ++ tl'))) ∧ (∀ q ∈ (I, oI) :: (C, oC) :: (D, LCg.lst ys) :: (news ++ tl), ∀ p ∈ tl', q.1 ≠ p.1) ∧ GToldIn tl' y G
theorem ToldTurn.intro {h' : Heap} {tk' : Nat} {s₁ : Shared} {I C D : Addr} {oI oC : Obj} {ys : List Value} {tl tl' : Led} {G : Gl} {y : Value} (F : Fr h₀ L h' m) (N : News h₀ L h' ((I, oI) :: (C, oC) :: (D, LCg.lst ys) :: (news ++ (tl ++ tl')))) (o : ∀ q ∈ (I, oI) :: (C, oC) :: (D, LCg.lst ys) :: (news ++ tl), ∀ p ∈ tl', q.1 ≠ p.1) (r : GToldIn tl' y G) :
    ToldTurn h₀ L m s₁ I oI C oC D ys news tl G y { s₁ with heap := h', toks := tk' } := ⟨h', tk', tl', rfl, F, N, o, r⟩
theorem comp_src_told {elt : Expr} {x : Str} {scope : Scope} {cll : List (Str × Addr)} {Fin : Shared → List Value → Led → Prop} {ax : Addr} {ws : List Value} {k : Nat} {gs : List Gl} {R : Led} {P : Params}
    (hh : A.handled = none) (F : Fr h₀ L s.heap m) (N : News h₀ L s.heap news) (hm : (ax, listOf (List.toArray ws) k) ∈ news) (hW : All2 (GlIn P R) ws gs) (hsz : ws.length ≤ 100)
    (turn : ∀ ys tl v G I oI C oC D m₂ h tk (E' : Value → Shared → Prop), LCg.NsObj oC m₂ → m₂ x = some v → GlIn P R v G → Fr h₀ L h m → News h₀ L h ((I, oI) :: (C, oC) :: (D, LCg.lst ys) :: (news ++ tl)) → ((@Ne Nat I C) ∧ (@Ne Nat I D) ∧ (@Ne Nat C D)) →
      wpAny (model prog w) A (eval elt (compEnvC scope cll C env)) (ToldTurn h₀ L m { s with heap := h, toks := tk } I oI C oC D ys news tl G) E' { s with heap := h, toks := tk })
    (fin : ∀ g ys tl, All2 (GToldIn tl) ys gs → (∀ q ∈ news, ∀ p ∈ tl, q.1 ≠ p.1) → Fin { s with heap := g } ys (news ++ tl)) : LCg.CompSrc prog w A h₀ L m env elt x scope cll Fin (.ref ax) s := by
  refine LCg.CompSrc.ledger (k := k) hh F N hm (by rw [List.size_toArray, sizeLine_eq]; omega) fun g => ?_
  have hn : (List.toArray ws).size = ws.length := List.size_toArray
  rw [hn]
  refine comp_inv (fun i ys nw => ∃ tl, nw = news ++ tl ∧ (∀ q ∈ news, ∀ p ∈ tl, q.1 ≠ p.1) ∧ All2 (GToldIn tl) ys (gs.take i)) ⟨[], by simp, ord_nil, .nil⟩ ?_ ?_
  · rintro i v ys nw I oI C oC D m₂ h tk E' hi hv ⟨tl, rfl, ho, ha⟩ hC hx F' N' off ne
    have hv' : ws[i]? = some v := by simpa using hv
    obtain ⟨G, hG, hgl⟩ := hW.get hv'
    refine wpAny_mono (turn ys tl v G I oI C oC D m₂ h tk E' hC hx hgl F' N' ne) (fun y s₂ hq => ?_) fun _ _ e => e
    obtain ⟨h', tk', tl', rfl, F'', N'', o, r⟩ := hq
    refine LCg.CompEnd.intro F'' N'' (news ++ (tl ++ tl')) (fun _ h => h) ?_ (.inr ⟨_, List.mem_append.mpr (.inl hm), rfl, k, rfl⟩) ⟨tl ++ tl', rfl, ?_, ?_⟩
    · have := off3_app off (off3_above o)
      rwa [List.append_assoc] at this
    · exact ord_app ho (fun q hq => o q (.tail _ (.tail _ (.tail _ (List.mem_append.mpr (.inl hq))))))
    · rw [List.take_add_one, hG]
      exact All2.snoc (r.mono fun p hp => List.mem_append.mpr (.inr hp)) (ha.imp fun _ _ h => h.mono fun p hp => List.mem_append.mpr (.inl hp))
  · rintro ys nw ⟨tl, rfl, ho, ha⟩
    rw [hW.length, List.take_length] at ha
    exact fin g ys tl ha ho
theorem cat_K {a b : Addr} {vs ws : List Value} {k1 k2 : Nat} (F : Fr h₀ L s.heap m) (N : News h₀ L s.heap news) (ha : (a, listOf (List.toArray vs) k1) ∈ news) (hb : (b, listOf (List.toArray ws) k2) ∈ news) (hz : vs.length + ws.length ≤ 100)
    (h : ∀ D h', Fr h₀ L h' m → News h₀ L h' ((D, listOf (List.toArray (vs ++ ws)) 0) :: news) → (∀ p ∈ news, p.1 < D) → Q (.ref D) { s with heap := h' }) : wpAny (model prog w) A (binaryOp .Add (.ref a) (.ref b)) Q E s :=
  add_lists F N (News.isList N ha) (News.isList N hb) (fun h' F' N' => h _ h' F' N' fun p hp => Heap.lt_size (N p hp).1) (by rw [sizeLine_eq]; omega)
theorem len_made {cl : Addr} {vs : List Value} {k n : Nat} (N : News h₀ L s.heap news) (hc : (cl, listOf (List.toArray vs) k) ∈ news) (hl : vs.length = n) (hn : n ≤ 100)
    (h : Q (.int (n : Nat) (s.toks + 1)) { s with toks := s.toks + 1 + 1 }) : wpAny (model prog w) A (call (.builtin "len") [.ref cl]) Q E s :=
  KM.len_K N hc (by rw [List.size_toArray]; exact hl) (by omega) h
theorem len_bytes6 {b : Array UInt8} {t : Tok} (hn : b.size ≤ 6) (h : Q (.int (b.size : Nat) (s.toks + 1)) { s with toks := s.toks + 1 + 1 }) : wpAny (model prog w) A (call (.builtin "len") [.bytes b t]) Q E s :=
  len_bytes (by omega) h
theorem eq_none {l b : Addr} {k1 k2 : Nat} (N : News h₀ L s.heap news) (ha : (l, listOf #[] k1) ∈ news) (hb : (b, listOf #[] k2) ∈ news) (hu : A.units < cLine) (h : Q (.bool true) s) : wpAny (model prog w) A (compareOp .Eq (.ref l) (.ref b)) Q E s :=
  SeqAt.eq_listAt (e := fun _ => true) (News.isList N ha) (News.isList N hb) rfl hu (fun j h1 => absurd h1 (Nat.not_lt_zero _)) h
theorem eq_some {l b : Addr} {k1 k2 : Nat} {v : Value} {vs : List Value} (N : News h₀ L s.heap news) (ha : (l, listOf (List.toArray (v :: vs)) k1) ∈ news) (hb : (b, listOf #[] k2) ∈ news) (hu : A.units < cLine) (h : Q (.bool false) s) : wpAny (model prog w) A (compareOp .Eq (.ref l) (.ref b)) Q E s :=
  SeqAt.eq_list_lengthsAt (News.isList N ha) (News.isList N hb) (by simp) hu h
end
theorem gl_meth {w : World} {A : Around} {E : Value → Shared → Prop} {s : Shared} {h₀ : Heap} {L : Addr} {m : Str → Option Value} {led led' : Led} {v : Value} {G : Gl} {pl : Sem Bool} {Q : Value × List Value → Shared → Prop}
    (R : GlIn w.params led v G) (F : Fr h₀ L s.heap m) (X : (KK w.params).In h₀) (N : News h₀ L s.heap led') (hs : ∀ p ∈ led, p ∈ led') (h : Q (.ref 255, [v]) s) :
    wpAny (model PySem.Challenge.rw_og0182_01.row.prog w) A (getMethod v (Str.ofString "told") pl) Q E s := by
  revert X; k_fill; intro X
  obtain ⟨i1, i2, _⟩ := R
  exact method_inst F X (InstAt.of_news N (hs _ i1) (hs _ i2)) (by k_is) (by k_is) (by k_is) (by k_get) h
theorem GlIn.handed {P : Params} {led : Led} {v : Value} {G : Gl} (h : GlIn P led v G) : handedIn v = true := by cases h; rfl
theorem DecIn.handed' {P : Params} {led : Led} {v : Value} {q : Rat} {b : Nat} (h : DecIn P led v q b) : handedIn v = true := by cases h; rfl
end
section
section
variable {prog : Program} {w : World} {A : Around} {E : Value → Shared → Prop} {s : Shared}
/-- the slice [1:3] over five places -/
theorem places_13 {sl : Addr} {u u' : Tok} {Q : Int × Int × Nat → Shared → Prop} (hs : s.heap.IsSliceOf sl (.int 1 u) (.int 3 u') .none) (h : Q (1, 1, 2) s) :
    wpAny (model prog w) A (Builtin.Slice.sliceApplied (.ref sl) (pure (5 : Int))) Q E s := by
  obtain ⟨o, ho, _, hd⟩ := hs
  have e : Builtin.Slice.sliceAdjust (some 1) (some 3) 1 5 = (1, 3) := by decide
  have e' : Builtin.Slice.slicePlaces 1 3 1 = 2 := by decide
  unfold Builtin.Slice.sliceApplied Builtin.Slice.sliceFields
  refine wpAny_bind (wpAny_bind (wpAny_field ho hd (x := .int 1 u) rfl (wpAny_bind (wpAny_field ho hd (x := .int 3 u') rfl (wpAny_bind (wpAny_field ho hd (x := .none) rfl (wpAny_pure ?_)))))))
  refine wpAny_bind (slicePart_none ?_)
  show wpAny _ _ (if ((1 : Int) == 0) = true then _ else _) _ _ s
  rw [if_neg (by decide)]
  refine wpAny_bind (slicePart_int (wpAny_bind (slicePart_int (wpAny_bind (wpAny_pure ?_)))))
  show wpAny _ _ (match Builtin.Slice.sliceAdjust (some 1) (some 3) 1 5 with | (lo, hi) => pure (lo, (1 : Int), Builtin.Slice.slicePlaces lo hi 1)) _ _ s
  rw [e]
  show wpAny _ _ (pure ((1 : Int), (1 : Int), Builtin.Slice.slicePlaces 1 3 1)) _ _ s
  rw [e']
  exact wpAny_pure h
theorem item_13 {t sl : Addr} {a b c d e : Value} {u u' : Tok} {Q : Value → Shared → Prop} (ht : IsTup s.heap t #[a, b, c, d, e]) (hs : s.heap.IsSliceOf sl (.int 1 u) (.int 3 u') .none)
    (h : Q (.ref s.heap.objs.size) { s with heap := s.heap.push { cls := .type "tuple", data := .seq #[b, c] } }) : wpAny (model prog w) A (getItem (.ref t) (.ref sl)) Q E s := by
  have hz : sizeOk (.seq #[b, c]) := by
    show 2 ≤ sizeLine
    rw [sizeLine_eq]; decide
  have hT : s.TypeIs (.ref sl) "slice" := by
    obtain ⟨o, ho, hc, _⟩ := id hs
    exact ⟨o, ho, hc⟩
  have e1 : ((List.range 2).filterMap fun (k : Nat) => #[a, b, c, d, e][((1 : Int) + (k : Int) * 1).toNat]?).toArray = #[b, c] := rfl
  unfold getItem
  try with_reducible refine wpAny_holding ?_
  first | refine wpAny_bind (wpAny_pure ?_) | skip
  refine wpAny_bind (wpAny_sequenceKey ht.typeIs (by decide) ?_)
  refine wpAny_bind (wpAny_callSpecial?_slot (name := Str.ofString "__getitem__") ht.typeIs slot_tuple_getitem
    (wpAny_call_entry slot_tuple_getitem ht.typeIs entry_tuple_getitem ?_ (args_tuple_getitem _ _)))
  show wpAny _ _ (Builtin.Tuple.tupleItemsOf (.ref t) >>= _) _ _ s
  refine wpAny_bind (tupleItemsOf_ ht ?_)
  refine wpAny_bind (wpAny_typeOf hT ?_)
  rw [if_pos (by decide)]
  refine wpAny_bind (places_13 hs ?_)
  show wpAny _ _ (if ((1 : Int) == 0 && (1 : Int) == 1 && (2 : Nat) == 5) = true then _ else _) _ _ s
  rw [if_neg (by decide)]
  rw [show ((List.range 2).filterMap fun (k : Nat) => #[a, b, c, d, e][((1 : Int) + (k : Int) * 1).toNat]?).toArray = #[b, c] from rfl]
  first
    | exact wpAny_bind (m := Builtin.Tuple.tupleExact _) (wpAny_newObj_type (wpAny_pure ⟨_, rfl, wpAny_pure h⟩) hz)
    | exact wpAny_bind (m := Builtin.Tuple.tupleExact _) (wpAny_newObj_type (wpAny_bind (wpAny_pure (wpAny_pure ⟨_, rfl, wpAny_pure h⟩))) hz)
    | exact wpAny_bind (wpAny_bind (m := Builtin.Tuple.tupleExact _) (wpAny_newObj_type (wpAny_pure (wpAny_pure ⟨_, rfl, wpAny_pure h⟩)) hz))
    | exact wpAny_bind (wpAny_bind (m := Builtin.Tuple.tupleExact _) (wpAny_newObj_type (wpAny_pure ⟨_, rfl, wpAny_pure h⟩) hz))
theorem cut_13 {h₀ : Heap} {L t : Addr} {m : Str → Option Value} {news : Led} {value slice : PySem.Expr} {a b c d e : Value} {n : Nat} {u u' : Tok} {Q : Value → Shared → Prop} (F : Fr h₀ L s.heap m) (N : News h₀ L s.heap news) (ht : (t, ({ cls := .type "tuple", data := .seq #[a, b, c, d, e] n } : Obj)) ∈ news)
    (h : ∀ T h', Fr h₀ L h' m → News h₀ L h' ((T, { cls := .type "tuple", data := .seq #[b, c] }) :: news) → (∀ p ∈ news, p.1 < T) → Q (.ref T) { s with heap := h' })
    (hs : subscripted slice false (.ref t) (.ref s.heap.objs.size) = operate [.ref s.heap.objs.size, .ref t] (getItem (.ref t) (.ref s.heap.objs.size)))
    (hg : ∀ r, letTemporaryGo value (.ref t) r = pure ()) :
    wpAny (model prog w) A (subscriptTail value slice (.ref t) (.ref s.heap.objs.size)) Q E { s with heap := s.heap.push { cls := .type "slice", data := .fields #[.int 1 u, .int 3 u', .none] } } := by
  have ht0 : IsTup s.heap t #[a, b, c, d, e] := News.isTup N ht
  have ht' : IsTup (s.heap.push { cls := .type "slice", data := .fields #[.int 1 u, .int 3 u', .none] }) t #[a, b, c, d, e] := ht0.keeps fun _ _ e => Heap.get?_push_of_some _ e
  refine subscriptTail_ops (s := { s with heap := s.heap.push { cls := .type "slice", data := .fields #[.int 1 u, .int 3 u', .none] } }) ht'.typeIs slot_tuple_getitem.lookup
    (item_13 ht' (Heap.IsSliceOf.new ..) ?_) hs hg
  have N1 := News.push (F.push { cls := .type "slice", data := .fields #[.int 1 u, .int 3 u', .none] }) (N.grown fun _ _ e => Heap.get?_push_of_some _ e) { cls := .type "tuple", data := .seq #[b, c] }
  rw [Heap.size_push] at N1
  show Q (.ref (s.heap.push _).objs.size) _
  rw [Heap.size_push]
  exact h _ _ ((F.push _).push _) N1 fun p hp => Nat.lt_succ_of_lt (Heap.lt_size (N p hp).1)
end
end
section
local macro_rules | `(tactic| k_all) => `(tactic| assumption)
local macro_rules | `(tactic| walk_at "exec Assign cons ListComp") => `(tactic| (k_here; k_dflt (refine LCg.Assign_ListComp_U (F₀ := by k_asm) (by rfl) (by with_unfolding_all rfl) (by with_unfolding_all rfl) (by decide) (by rfl) (by decide) (by rfl) (by rfl) (by rfl) ?_)))
local macro_rules | `(tactic| walk_at "CompSrc") => `(tactic| (k_here; k_dflt (refine' comp_src_tape (n := 6) Whole ?h ?F ?N ?U ?r ?sm ?n ?z (Nat.le_refl 6) ?_ ?_; (case h => rfl); (case F => k_asm); (case N => k_asm); (case U => first | (refine Pull.head ?_; k_all) | (refine Pull.tail (by k_ne) (Pull.head ?_); k_all) | (refine Pull.tail (by k_ne) (Pull.tail (by k_ne) (Pull.head ?_)); k_all) | (refine Pull.tail (by k_ne) (Pull.tail (by k_ne) (Pull.tail (by k_ne) (Pull.head ?_))); k_all) | (refine Pull.tail (by k_ne) (Pull.tail (by k_ne) (Pull.tail (by k_ne) (Pull.tail (by k_ne) (Pull.head ?_)))); k_all) | (refine Pull.tail (by k_ne) (Pull.tail (by k_ne) (Pull.tail (by k_ne) (Pull.tail (by k_ne) (Pull.tail (by k_ne) (Pull.head ?_))))); k_all) | (refine Pull.tail (by k_ne) (Pull.tail (by k_ne) (Pull.tail (by k_ne) (Pull.tail (by k_ne) (Pull.tail (by k_ne) (Pull.tail (by k_ne) (Pull.head ?_)))))); k_all)); (case r => assumption); (case sm => decide); (case n => rfl); (case z => exact Nat.le_of_ble_eq_true rfl)); rotate_left; (intro g ys t' n' hl hR hr; obtain ⟨p0, p1, p2, p3, p4, p5, t0, t1, t2, t3, t4, t5, hys, b0, b1, b2, b3, b4, b5⟩ := six_of hl hR; subst hys); rotate_left; (intro i ys t' n' w' I oI C oC D m2 h tk E' hi hC hx F N ne n1 n2 n3 hr)))
local macro_rules | `(tactic| walk_at "TapeTurn") => `(tactic| (k_here; k_dflt (refine' TapeTurn.intro ?F ?N ?s ?r; (case F => k_asm); (case N => k_asm); (case s => ktd_sub); (case r => exact ⟨_, _, rfl, by omega, by omega⟩))))
local macro_rules | `(tactic| walk_at "call ref") => `(tactic| (k_here; k_dflt (refine' useM (fun hT => whole_ok ?hC ?a0 ?a1 hT) ?_; (case hC => tb_rel); (case a0 => tb_rel); (case a1 => tb_rel); kwd_inv)))
theorem news_swap {h₀ h : Heap} {L : Addr} {a b : Addr × Obj} {R : Led} (N : News h₀ L h (a :: b :: R)) : News h₀ L h (b :: a :: R) := fun p hp => N p (by
  simp only [List.mem_cons] at hp ⊢
  rcases hp with h | h | h <;> simp [h])
local macro_rules | `(tactic| walk_at "execs cons") => `(tactic| (k_here; (with_reducible show wpAny _ _ (execs (List.cons (Stmt.Assign (List.cons (Expr.Name (Str.ofString "state") _) List.nil) _ _) _) _) _ _ _); k_dflt (refine' Nx3.use ?nx ?F ?N ?a0 ?a1 ?o ?C ?c ?s1 ?s2; (case nx => assumption); (case F => k_asm); (case N => exact news_swap (by k_asm)); (case a0 => omega); (case a1 => omega); (case o => k_all); (case C => exact CellsIn.mono (by assumption) (by ktd_sub)); (case c => k_mem); (case s1 => exact six_in (by k_mem) (by assumption) (by assumption) (by assumption) (by assumption) (by assumption) (by assumption)); (case s2 => exact six_in (by k_mem) (by assumption) (by assumption) (by assumption) (by assumption) (by assumption) (by assumption)))))
set_option maxHeartbeats 1000000 in
theorem st1 {w : World} {p : Program} {loose : List Str} {mean : ExcName → Option Value} {mg mb : Str → Option Value} {fa L : Addr} {cd : Value} {h₀ : Heap} {s : Shared} {Q : Flow → Shared → Prop} {E : Value → Shared → Prop} {m0 : Str → Option Value}
    (B : Below callerA h₀ [] h₀) (T : Top p loose mean mg mb h₀) (X : (KK w.params).In h₀) {tp cl : Addr} {t : Tok} {n : Nat} {R : Led} {oc : Obj} (F : Fr h₀ L s.heap m0) (N : News h₀ L s.heap ((tp, tapeO cl 0 t n) :: (L + 1, oc) :: R)) (hC : CellsIn R cl) (hoc : oc.data = .cell (some (.ref tp))) (n1 : @Ne Nat (L + 1) tp) (off1 : ∀ p ∈ R, p.1 ≠ tp)
    (nx : Nx3 w h₀ L fa cd m0 tp cl oc s Q E) : wpAny (model PySem.Challenge.rw_og0182_01.row.prog w) (callerA.deeper (lawEnv L fa cd)) (execs lawS1 (lawEnv L fa cd)) Q E s := by
  revert X; k_fill; intro X
  unfold lawS1 lawEnv lawScope
  w_strict k_steps
end
section
local macro_rules | `(tactic| k_all) => `(tactic| (refine' all_ltAs ?h ?s; (case h => assumption); (case s => ktd_sub)))
local macro_rules | `(tactic| k_all) => `(tactic| assumption)
local macro_rules | `(tactic| ktr_rel) => `(tactic| first | assumption | decide | omega)
local macro_rules | `(tactic| walk_at "call ref") => `(tactic| (k_here; k_dflt (refine' use (mk_dec (b := 3) ?hn ?hb ?hp) ?_; (case hn => ktr_rel); (case hb => ktr_rel); (case hp => ktr_rel); intro r9 tl9 h9 tk9 F9 N9 hl9 ho9; (repeat (with_reducible rename (_ ∧ _) => hcj; obtain ⟨hcj1, hcj2⟩ := hcj)); (try simp only [List.nil_append, List.cons_append, List.append_nil, List.append_assoc] at N9); (try simp only [List.nil_append, List.cons_append, List.append_nil, List.append_assoc] at ho9);  (try simp only [List.nil_append, List.cons_append, List.append_nil, List.append_assoc] at N9); (try dsimp only); (try k_sweep))))
theorem news_bca {h₀ h : Heap} {L : Addr} {a b c : Addr × Obj} {news T : Led} (N : News h₀ L h (a :: b :: c :: (news ++ T))) : News h₀ L h (news ++ (b :: c :: a :: T)) := fun p hp => N p (by
  simp only [List.mem_append, List.mem_cons] at hp ⊢
  rcases hp with h | h | h | h | h <;> simp [h])
set_option maxHeartbeats 1000000 in
theorem state_new {w : World} {news : Led} {v : Value} :
    Yields w (.ref 293) [v] news 6 (fun tl r => RawIn PySem.Challenge.rw_og0182_01.row.prog w tl r v) := by
  unfold Yields
  k_fill
  intro p loose mean mg mb dp un gd cn cs a ccd cl outer A₀ base h₀ L m s Q E B F X N T hk hd hu hret
  k_dflt (refine' call_cls ?k1 ?k2 ?k3 ?k4 ?k5 ?k6 ?_; (case k1 => k_asm); (case k2 => k_asm); (case k3 => k_asm); (case k4 => k_is); (case k5 => k_is); (case k6 => k_is); k_whole; intro x' d' h' F' N' l1 l2; (try k_lt2 l2))
  k_dflt ktr_enter
  k_steps
  (repeat (with_reducible rename (_ ∧ _) => hcj; obtain ⟨hcj1, hcj2⟩ := hcj))
  refine hret _ _ _ _ (by assumption) (news_bca (by assumption)) ?_ ?_
  · refine ord_cons (fun q hq => Nat.lt_trans (l1 q hq) l2) (ord_cons l1 (ord_cons (sub_ltA (by assumption) (by ktd_sub)) ?_))
    first | ktn_ord | fail "ord"
  · refine RawIn.mk rfl ?_ ?_ ?_ ?_ ?_ ?_ (by assumption)
    · k_ne
    · k_ne
    · k_ne
    · first | k_all | fail "all"
    · first | k_all | fail "all"
    · first | k_all | fail "all"
end
section
local macro_rules | `(tactic| k_all) => `(tactic| (refine' all_ltAs ?h ?s; (case h => assumption); (case s => ktd_sub)))
local macro_rules | `(tactic| k_all) => `(tactic| assumption)
local macro_rules | `(tactic| ktr_rel) => `(tactic| first | assumption | decide | omega | (rw [show ∀ x : Int, x.natAbs < 10 ^ 3 ↔ x.natAbs < 1000 from fun _ => Iff.rfl]; omega))
theorem news_front3 {h₀ h : Heap} {L : Addr} {a b c : Addr × Obj} {A T : Led} (N : News h₀ L h (A ++ (a :: b :: c :: T))) : News h₀ L h (a :: b :: c :: (A ++ T)) := fun p hp => N p (by
  simp only [List.mem_append, List.mem_cons] at hp ⊢
  rcases hp with h | h | h | h | h <;> simp [h])
theorem off_mid {A B R T R1 : Led} {x : Addr} {o : Obj} (h : ∀ q ∈ A, ∀ p ∈ B, q.1 ≠ p.1) (s : ∀ q ∈ R ++ T, q ∈ A) (m : (x, o) ∈ B) (k : ∀ p ∈ R1, p.1 ≠ x) : ∀ p ∈ R ++ (T ++ R1), p.1 ≠ x :=
  off_app (fun q hq => h q (s q (List.mem_append.mpr (.inl hq))) _ m) (off_app (fun q hq => h q (s q (List.mem_append.mpr (.inr hq))) _ m) k)
local macro_rules | `(tactic| walk_at "call ref") => `(tactic| (k_here; k_dflt (refine' use (mat_new_int (b := 2) ?h1 ?h2 ?h3 ?h4 ?h5 ?h6) ?_; (case h1 => ktr_rel); (case h2 => ktr_rel); (case h3 => ktr_rel); (case h4 => ktr_rel); (case h5 => ktr_rel); (case h6 => ktr_rel); kwd_rel)))
local macro_rules | `(tactic| walk_at "call ref") => `(tactic| (k_here; k_dflt (refine' use (state_new ) ?_;  intro r9 tl9 h9 tk9 F9 N9 hl9 ho9; (obtain ⟨he9, n1_9, n2_9, n3_9, o1_9, o2_9, o3_9, hd9⟩ := ho9); (subst he9); (replace N9 := news_front3 N9); (try simp only [List.nil_append, List.cons_append, List.append_nil, List.append_assoc] at N9); (try simp only [List.nil_append, List.cons_append, List.append_nil, List.append_assoc] at N9); (try simp only [List.nil_append, List.cons_append, List.append_nil, List.append_assoc] at ho9);  (try simp only [List.nil_append, List.cons_append, List.append_nil, List.append_assoc] at N9); (try dsimp only); (try k_sweep))))
local macro_rules | `(tactic| walk_at "execs cons") => `(tactic| (k_here; (with_reducible show wpAny _ _ (execs (List.cons (Stmt.Assign (List.cons (Expr.Attribute _ (Str.ofString "font") _) List.nil) (Expr.Call _ _ _ _) _) _) _) _ _ _); refine Held.mk ?_))
set_option maxHeartbeats 1000000 in
theorem st3 {w : World} {p : Program} {loose : List Str} {mean : ExcName → Option Value} {mg mb : Str → Option Value} {fa L : Addr} {cd : Value} {h₀ : Heap} {s : Shared} {Q : Flow → Shared → Prop} {E : Value → Shared → Prop} {m0 : Str → Option Value}
    (B : Below callerA h₀ [] h₀) (T : Top p loose mean mg mb h₀) (X : (KK w.params).In h₀) {tp cl : Addr} {a_ : Int} {t : Tok} {n : Nat} {R : Led} {oc : Obj} {D1 D2 : Addr} {M1 M2 : Six} (F : Fr h₀ L s.heap (fun z => if z = Str.ofString "text" then some (.ref D2) else if z = Str.ofString "page" then some (.ref D1) else m0 z)) (N : News h₀ L s.heap ((tp, tapeO cl a_ t n) :: R)) (a0 : 0 ≤ a_) (a1 : a_ ≤ 12)
    (off : ∀ p ∈ R, p.1 ≠ tp) (hC : CellsIn R cl) (c : (L + 1, oc) ∈ R) (s1 : SixIn R D1 M1) (s2 : SixIn R D2 M2) (nx : Nx4 w h₀ L fa cd m0 tp cl oc s Q E) : wpAny (model PySem.Challenge.rw_og0182_01.row.prog w) (callerA.deeper (lawEnv L fa cd)) (execs lawS3 (lawEnv L fa cd)) Q E s := by
  revert X; k_fill; intro X
  have s1' := s1
  obtain ⟨t0, t1, t2, t3, t4, t5, hD1, b0, b1, b2, b3, b4, b5⟩ := s1
  have e1 : @Ne Nat D1 tp := off _ hD1
  have N0 := news_more N (.tail _ hD1)
  clear N
  unfold lawS3 lawEnv lawScope
  w_strict k_steps
  rename_i r9 tl9 h9 tk9 hl8 hM h8 tk8 x d sp k1 k2 k3 k4 vs osp v1 v2 v3 v4 v5 R1 n1 n2 n3 o1 o2 o3 hd hl h' F' N'
  have mx : (x, instObj 293 d) ∈ (x, instObj 293 d) :: (d, dictOf [ent w.params (Str.ofString "ctm") k1 r9, ent w.params (Str.ofString "font") k2 .none, ent w.params (Str.ofString "size") k3 vs, ent w.params (Str.ofString "spacing") k4 (.ref sp)] 4) :: (sp, osp) :: R1 := .head _
  have md := List.mem_cons_of_mem (x, instObj 293 d) (List.Mem.head (a := (d, dictOf [ent w.params (Str.ofString "ctm") k1 r9, ent w.params (Str.ofString "font") k2 .none, ent w.params (Str.ofString "size") k3 vs, ent w.params (Str.ofString "spacing") k4 (.ref sp)] 4)) ((sp, osp) :: R1))
  have ms := List.mem_cons_of_mem (x, instObj 293 d) (List.mem_cons_of_mem (d, dictOf [ent w.params (Str.ofString "ctm") k1 r9, ent w.params (Str.ofString "font") k2 .none, ent w.params (Str.ofString "size") k3 vs, ent w.params (Str.ofString "spacing") k4 (.ref sp)] 4) (List.Mem.head (a := (sp, osp)) R1))
  have mt := List.Mem.tail (D1, LCg.lst [.int M1.a t0, .int M1.b t1, .int M1.c t2, .int M1.d t3, .int M1.e t4, .int M1.f t5]) (List.Mem.head (a := (tp, tapeO cl a_ t n)) (R ++ tl9))
  refine nx h' _ a_ t n D1 D2 M1 M2 x d sp k1 k2 k3 k4 r9 vs osp v1 v2 v3 v4 v5 (R ++ (tl9 ++ R1)) F' ?N a0 a1 n1 n2 (hl _ mt _ mx).symm n3 (hl _ mt _ md).symm (hl _ mt _ ms).symm
    (off_mid hl (fun q hq => .tail _ (.tail _ hq)) mx o1) (off_mid hl (fun q hq => .tail _ (.tail _ hq)) md o2) (off_mid hl (fun q hq => .tail _ (.tail _ hq)) ms o3) ?o hd (hC.mono (fun p hp => List.mem_append.mpr (.inl hp))) (List.mem_append.mpr (.inl c)) (s1'.mono (fun p hp => List.mem_append.mpr (.inl hp))) (s2.mono (fun p hp => List.mem_append.mpr (.inl hp))) ?M
  case N =>
    intro p hp
    refine N' p ?_
    simp only [List.mem_cons] at hp ⊢
    rcases hp with h | h | h | h | h <;> simp [h]
  case o =>
    refine off_app off (off_app (fun q hq => (hl8 _ (.tail _ (.head _)) q hq).symm) (fun q hq => (hl _ mt q (.tail _ (.tail _ (.tail _ hq)))).symm))
  case M => exact hM.mono (fun p hp => List.mem_append.mpr (.inr (List.mem_append.mpr (.inl hp))))
end
section
local macro_rules | `(tactic| k_all) => `(tactic| (refine' all_ltAs ?h ?s; (case h => assumption); (case s => ktd_sub)))
local macro_rules | `(tactic| k_all) => `(tactic| assumption)
local macro_rules | `(tactic| ktr_rel) => `(tactic| first | assumption | decide | omega | (rw [show ∀ x : Int, x.natAbs < 10 ^ 3 ↔ x.natAbs < 1000 from fun _ => Iff.rfl]; omega))
local macro_rules | `(tactic| walk_at "call ref") => `(tactic| (k_here; k_dflt (refine' useM (fun hT => whole_ok ?hC ?a0 ?a1 hT) ?_; (case hC => tb_rel); (case a0 => tb_rel); (case a1 => tb_rel); kwd_inv)))
local macro_rules | `(tactic| walk_at "call ref") => `(tactic| (k_here; k_dflt (refine' useM (fun hT => draw_ok ?hC ?a0 ?a1 ?l0 ?l1 hT) ?_; (case hC => tb_rel); (case a0 => tb_rel); (case a1 => tb_rel); (case l0 => tb_rel); (case l1 => tb_rel); kwd_inv)))
local macro_rules | `(tactic| walk_at "call ref") => `(tactic| (k_here; k_dflt (refine' use (law_font ) ?_;  kwd_rel)))
local macro_rules | `(tactic| walk_at "call ref") => `(tactic| (k_here; k_dflt (refine' use (mk_dec (b := 3) ?hn ?hb ?hp) ?_; (case hn => ktr_rel); (case hb => ktr_rel); (case hp => ktr_rel); intro r9 tl9 h9 tk9 F9 N9 hl9 ho9; (repeat (with_reducible rename (_ ∧ _) => hcj; obtain ⟨hcj1, hcj2⟩ := hcj)); (try simp only [List.nil_append, List.cons_append, List.append_nil, List.append_assoc] at N9); (try simp only [List.nil_append, List.cons_append, List.append_nil, List.append_assoc] at ho9);  (try simp only [List.nil_append, List.cons_append, List.append_nil, List.append_assoc] at N9); (try dsimp only); (try k_sweep))))
local macro_rules | `(tactic| walk_at "execs cons") => `(tactic| (k_here; (with_reducible show wpAny _ _ (execs (List.cons (Stmt.For _ _ _ _ _) _) _) _ _ _); refine Held.mk ?_))
set_option maxHeartbeats 1000000 in
theorem st4 {w : World} {p : Program} {loose : List Str} {mean : ExcName → Option Value} {mg mb : Str → Option Value} {fa L : Addr} {cd : Value} {h₀ : Heap} {s : Shared} {Q : Flow → Shared → Prop} {E : Value → Shared → Prop} {m0 : Str → Option Value}
    (B : Below callerA h₀ [] h₀) (T : Top p loose mean mg mb h₀) (X : (KK w.params).In h₀) {tp cl : Addr} {a_ : Int} {t : Tok} {n : Nat} {R : Led} {oc : Obj} {D1 D2 : Addr} {M1 M2 : Six} {x d sp : Addr} {k1 k2 k3 k4 : Tok} {vm vs : Value} {osp : Obj} {v1 v2 v3 v4 v5 : Value}
    (F : Fr h₀ L s.heap (fun z => if z = Str.ofString "state" then some (.ref x) else if z = Str.ofString "text" then some (.ref D2) else if z = Str.ofString "page" then some (.ref D1) else m0 z))
    (N : News h₀ L s.heap ((x, instObj 293 d) :: (d, dictOf [ent w.params (Str.ofString "ctm") k1 vm, ent w.params (Str.ofString "font") k2 .none, ent w.params (Str.ofString "size") k3 vs, ent w.params (Str.ofString "spacing") k4 (.ref sp)] 4) :: (sp, osp) :: (tp, tapeO cl a_ t n) :: R)) (a0 : 0 ≤ a_) (a1 : a_ ≤ 12)
    (n1 : @Ne Nat x d) (n2 : @Ne Nat x sp) (n3 : @Ne Nat x tp) (n4 : @Ne Nat d sp) (n5 : @Ne Nat d tp) (n6 : @Ne Nat sp tp) (o1 : ∀ p ∈ R, p.1 ≠ x) (o2 : ∀ p ∈ R, p.1 ≠ d) (o3 : ∀ p ∈ R, p.1 ≠ sp) (o4 : ∀ p ∈ R, p.1 ≠ tp) (hd : osp.IsDictOf (strKind PySem.Challenge.rw_og0182_01.row.prog w) [(Str.ofString "Tc", v1), (Str.ofString "Tw", v2), (Str.ofString "Tz", v3), (Str.ofString "TL", v4), (Str.ofString "Ts", v5)])
    (hC : CellsIn R cl) (c : (L + 1, oc) ∈ R) (hoc : oc.data = .cell (some (.ref tp))) (s1 : SixIn R D1 M1) (s2 : SixIn R D2 M2) (hM : MatIn w.params R vm ⟨M1.a, M1.b, M1.c, M1.d, M1.e, M1.f⟩ 2) (nx : Nx6 w h₀ L fa cd m0 tp cl oc s Q E) : wpAny (model PySem.Challenge.rw_og0182_01.row.prog w) (callerA.deeper (lawEnv L fa cd)) (execs lawS4 (lawEnv L fa cd)) Q E s := by
  revert X; k_fill; intro X
  have e1 := neN (o1 _ c)
  have e2 := neN (o2 _ c)
  have e3 := neN (o3 _ c)
  have e4 := neN (o4 _ c)
  dsimp only at e1 e2 e3 e4
  have N0 := news_more N (.tail _ (.tail _ (.tail _ (.tail _ c))))
  clear N
  unfold lawS4 lawEnv lawScope
  w_strict k_steps
  rename_i rf tlf ha tka hlf hF hh ta na hb tkb hT1 vz uz lo hi t9 n9 hc tkc hT2 vp up lo2 hi2 r9 tl he tke hl hD h' F' N'
  refine nx h' _ (a_ + 1 + 1) t9 n9 D1 D2 M1 M2 x d sp k1 k2 k3 k4 vm rf r9 _ osp v1 v2 v3 v4 v5 (R ++ (tlf ++ tl)) F' ?N (by omega) (by omega) n1 n2 n3 n4 n5 n6
    (off_app o1 (off_app (all_gt hlf (by k_mem)) (all_gt hl (by k_mem)))) (off_app o2 (off_app (all_gt hlf (by k_mem)) (all_gt hl (by k_mem)))) (off_app o3 (off_app (all_gt hlf (by k_mem)) (all_gt hl (by k_mem)))) (off_app o4 (off_app (all_gt hlf (by k_mem)) (all_gt hl (by k_mem))))
    hd (hC.mono (fun p hp => List.mem_append.mpr (.inl hp))) (List.mem_append.mpr (.inl c)) (s1.mono (fun p hp => List.mem_append.mpr (.inl hp))) (s2.mono (fun p hp => List.mem_append.mpr (.inl hp))) (hM.mono (fun p hp => List.mem_append.mpr (.inl hp)))
    (hF.mono (fun p hp => List.mem_append.mpr (.inr (List.mem_append.mpr (.inl hp))))) (hD.mono (fun p hp => List.mem_append.mpr (.inr (List.mem_append.mpr (.inr hp)))))
  intro p hp
  refine N' p ?_
  simp only [List.mem_cons] at hp ⊢
  rcases hp with h | h | h | h | h <;> simp [h]
end
section
local macro_rules | `(tactic| k_all) => `(tactic| (refine' all_ltAs ?h ?s; (case h => assumption); (case s => ktd_sub)))
local macro_rules | `(tactic| k_all) => `(tactic| assumption)
local macro_rules | `(tactic| ktr_rel) => `(tactic| first | assumption | decide | omega | (rw [show ∀ x : Int, x.natAbs < 10 ^ 3 ↔ x.natAbs < 1000 from fun _ => Iff.rfl]; omega))
local macro_rules | `(tactic| walk_at "call ref") => `(tactic| (k_here; k_dflt (refine' useM (fun hT => whole_ok ?hC ?a0 ?a1 hT) ?_; (case hC => tb_rel); (case a0 => tb_rel); (case a1 => tb_rel); kwd_inv)))
local macro_rules | `(tactic| walk_at "call ref") => `(tactic| (k_here; k_dflt (refine' useM (fun hT => draw_ok ?hC ?a0 ?a1 ?l0 ?l1 hT) ?_; (case hC => tb_rel); (case a0 => tb_rel); (case a1 => tb_rel); (case l0 => tb_rel); (case l1 => tb_rel); kwd_inv)))
local macro_rules | `(tactic| walk_at "call ref") => `(tactic| (k_here; k_dflt (refine' use (mk_dec (b := 3) ?hn ?hb ?hp) ?_; (case hn => ktr_rel); (case hb => ktr_rel); (case hp => ktr_rel); intro r9 tl9 h9 tk9 F9 N9 hl9 ho9; (repeat (with_reducible rename (_ ∧ _) => hcj; obtain ⟨hcj1, hcj2⟩ := hcj)); (try simp only [List.nil_append, List.cons_append, List.append_nil, List.append_assoc] at N9); (try simp only [List.nil_append, List.cons_append, List.append_nil, List.append_assoc] at ho9);  (try simp only [List.nil_append, List.cons_append, List.append_nil, List.append_assoc] at N9); (try dsimp only); (try k_sweep))))
theorem news_pick {h₀ h : Heap} {L : Addr} {t D c x d s : Addr × Obj} {R : Led} (N : News h₀ L h (t :: D :: c :: x :: d :: s :: R)) : News h₀ L h (t :: x :: d :: s :: R) := fun p hp => N p (by
  simp only [List.mem_cons] at hp ⊢
  rcases hp with h | h | h | h | h <;> simp [h])
theorem endP {prog : Program} {w : World} {A : Around} {E : Value → Shared → Prop} {h₀ h' : Heap} {env : Env} {target : PySem.Expr} {body : List Stmt} {Q : Flow → Shared → Prop} {s s₁ : Shared} {I : Addr} {it : Obj} {cn : String} {keep led : Led} {xs : List Itm} {m' : Str → Option Value} {news' : Led} {tk : Nat}
    (F : Fr h₀ env.locals h' m') (N : News h₀ env.locals h' led) (U : Pull I it led news') (hk : SubL keep news') (r : ItemsRest prog w A E h₀ env target body Q s [(I, cn)] keep xs m' news') :
    UnrEndW h₀ env.locals s₁ [(I, it)] (fun m' n' => SubL keep n' ∧ ItemsRest prog w A E h₀ env target body Q s [(I, cn)] keep xs m' n') { s₁ with heap := h', toks := tk } :=
  ⟨h', tk, m', news', rfl, F, fun p hp => N p (U.sub.1 p hp), fun p hp q hq e => by rw [List.mem_singleton.mp hq] at e; exact U.sub.2.1 p hp e, hk, r⟩
local macro_rules | `(tactic| walk_at "exec For Name Tuple") => `(tactic| (k_here; (rename Fr _ _ _ _ => lF'); (with_unfolding_all refine' For_turns lF' ?_; k_whole)))
local macro_rules | `(tactic| walk_at "pyIter ref") => `(tactic| (k_here; (with_reducible show wpAny _ _ (pyIter (Value.ref _)) (fun it s₂ => TurnsAt _ _ _ _ _ _ _ _ _ it s₂) _ _); (rename Fr _ _ _ _ => lF'); (with_unfolding_all refine' iter_tupTurns (lo := { cls := .type "tuple", data := .seq #[.str _ _, .str _ _] }) (vs := [.str _ _, .str _ _]) ?h lF' ?N ?m ?c ?d ?_; (case h => rfl); (case N => k_asm); (case m => k_mem); (case c => rfl); (case d => rfl)); clear lF'; intro I' l1; (try k_lt l1)))
local macro_rules | `(tactic| walk_at "UnrEndW") => `(tactic| (k_here; k_dflt (refine' endP ?F ?N ?U ?k ?_; (case F => assumption); (case N => assumption); (case U => ((repeat (apply Pull.tail; k_ne)); refine Pull.head ?_; k_all)); (case k => exact And.intro (by k_mem) trivial))))
local macro_rules | `(tactic| walk_at "execs cons") => `(tactic| (k_here; (with_reducible show wpAny _ _ (execs (List.cons (Stmt.Assign (List.cons (Expr.Name (Str.ofString "place") _) List.nil) _ _) _) _) _ _ _); refine Held.mk ?_))
set_option maxHeartbeats 1000000 in
theorem st6 {w : World} {p : Program} {loose : List Str} {mean : ExcName → Option Value} {mg mb : Str → Option Value} {fa L : Addr} {cd : Value} {h₀ : Heap} {s : Shared} {Q : Flow → Shared → Prop} {m0 : Str → Option Value}
    (B : Below callerA h₀ [] h₀) (T : Top p loose mean mg mb h₀) (X : (KK w.params).In h₀) {tp cl : Addr} {a_ : Int} {t : Tok} {n : Nat} {R : Led} {oc : Obj} {D1 D2 : Addr} {M1 M2 : Six} {x d sp : Addr} {k1 k2 k3 k4 : Tok} {vm vf vs : Value} {qz : Rat} {osp : Obj} {v1 v2 v3 v4 v5 : Value}
    (F : Fr h₀ L s.heap (fun z => if z = Str.ofString "state" then some (.ref x) else if z = Str.ofString "text" then some (.ref D2) else if z = Str.ofString "page" then some (.ref D1) else m0 z))
    (N : News h₀ L s.heap ((x, instObj 293 d) :: (d, dictOf [ent w.params (Str.ofString "ctm") k1 vm, ent w.params (Str.ofString "font") k2 vf, ent w.params (Str.ofString "size") k3 vs, ent w.params (Str.ofString "spacing") k4 (.ref sp)] 4) :: (sp, osp) :: (tp, tapeO cl a_ t n) :: R)) (a0 : 0 ≤ a_) (a1 : a_ ≤ 14)
    (n1 : @Ne Nat x d) (n2 : @Ne Nat x sp) (n3 : @Ne Nat x tp) (n4 : @Ne Nat d sp) (n5 : @Ne Nat d tp) (n6 : @Ne Nat sp tp) (o1 : ∀ p ∈ R, p.1 ≠ x) (o2 : ∀ p ∈ R, p.1 ≠ d) (o3 : ∀ p ∈ R, p.1 ≠ sp) (o4 : ∀ p ∈ R, p.1 ≠ tp) (hd : osp.IsDictOf (strKind PySem.Challenge.rw_og0182_01.row.prog w) [(Str.ofString "Tc", v1), (Str.ofString "Tw", v2), (Str.ofString "Tz", v3), (Str.ofString "TL", v4), (Str.ofString "Ts", v5)])
    (hC : CellsIn R cl) (c : (L + 1, oc) ∈ R) (hoc : oc.data = .cell (some (.ref tp))) (s1 : SixIn R D1 M1) (s2 : SixIn R D2 M2) (hM : MatIn w.params R vm ⟨M1.a, M1.b, M1.c, M1.d, M1.e, M1.f⟩ 2) (hF : FontIn PySem.Challenge.rw_og0182_01.row.prog w R vf) (hZ : DecIn w.params R vs qz 3) (nx : Nx10 w h₀ L fa cd tp cl oc s Q (fun _ _ => False)) : wpAny (model PySem.Challenge.rw_og0182_01.row.prog w) (callerA.deeper (lawEnv L fa cd)) (execs lawS6 (lawEnv L fa cd)) Q (fun _ _ => False) s := by
  revert X; k_fill; intro X
  have e1 := neN (o1 _ c)
  have e2 := neN (o2 _ c)
  have e3 := neN (o3 _ c)
  have e4 := neN (o4 _ c)
  dsimp only at e1 e2 e3 e4
  have N0 := news_more N (.tail _ (.tail _ (.tail _ (.tail _ c))))
  clear N
  unfold lawS6 lawEnv lawScope
  w_strict k_steps
  rename_i v9 u9 lo9 hi9 r9 tl9 h9 tk9 F9 hl9 ho9 N9 h' o' F' N' hd'
  have sub : ∀ l : Led, ∀ p ∈ R, p ∈ (x, instObj 293 d) :: (d, dictOf [ent w.params (Str.ofString "ctm") k1 vm, ent w.params (Str.ofString "font") k2 vf, ent w.params (Str.ofString "size") k3 vs, ent w.params (Str.ofString "spacing") k4 (.ref sp)] 4) :: (sp, o') :: (R ++ l) := fun l p hp => .tail _ (.tail _ (.tail _ (List.mem_append.mpr (.inl hp))))
  refine' nx _ _ _ _ _ _ D1 D2 M1 M2 x ⟨⟨M1.a, M1.b, M1.c, M1.d, M1.e, M1.f⟩, qz, ?tc, ?tw, ?tz, ?ts⟩ ?rr _ _ F' rfl rfl rfl rfl (news_pick N') ?a0 ?a1 ?off (hC.mono (sub _)) (sub _ _ c) (s1.mono (sub _)) (s2.mono (sub _))
    (StateIn.mk (kvs := [(Str.ofString "Tc", ?xc), (Str.ofString "Tw", ?xw), (Str.ofString "Tz", ?xz), (Str.ofString "TL", v4), (Str.ofString "Ts", ?xs)]) (.head _) (.tail _ (.head _)) (hM.mono (sub _)) (hF.mono (sub _)) (hZ.mono (sub _)) (.tail _ (.tail _ (.head _))) hd' rfl rfl rfl rfl (DecIn.mono ?d1 ?s1) (DecIn.mono ?d2 ?s2) (DecIn.mono ?d3 ?s3) (DecIn.mono ?d4 ?s4)) rfl ?e ?b
  case d1 => assumption
  case d2 => assumption
  case d3 => assumption
  case d4 => assumption
  case s1 => ktd_sub
  case s2 => ktd_sub
  case s3 => ktd_sub
  case s4 => ktd_sub
  case off => first | k_all | fail "all"
  case a0 => omega
  case a1 => omega
  case e => exact rdiv0 _
  case b =>
    show _ < 100
    omega
end
section
local macro_rules | `(tactic| k_all) => `(tactic| (refine' all_ltAs ?h ?s; (case h => assumption); (case s => ktd_sub)))
local macro_rules | `(tactic| k_all) => `(tactic| assumption)
local macro_rules | `(tactic| ktr_rel) => `(tactic| first | assumption | decide | omega | (rw [show ∀ x : Int, x.natAbs < 10 ^ 3 ↔ x.natAbs < 1000 from fun _ => Iff.rfl]; omega))
theorem tapeTurn_m {h₀ h' : Heap} {L : Addr} {m : Str → Option Value} {tk' : Nat} {s₁ : Shared} {I C D tp cl : Addr} {oI oC : Obj} {ys : List Value} {at_ : Int} {t' : Tok} {n' : Nat} {rest led : Led} {R : Value → Prop} {y : Value} (F : Fr h₀ L h' m) (N : News h₀ L h' led) (hm : (tp, tapeO cl at_ t' n') ∈ led) (sub : ∀ p ∈ (I, oI) :: (C, oC) :: (D, LCg.lst ys) :: rest, p ∈ led) (r : R y) :
    TapeTurn h₀ L m s₁ I oI C oC D ys tp cl at_ rest R y { s₁ with heap := h', toks := tk' } := TapeTurn.intro F N (List.forall_mem_cons.mpr ⟨hm, sub⟩) r
def Byte4 (y : Value) : Prop := ∃ c u, y = .int c u ∧ Code4 c
theorem code4_all {ks : List Int} (h : ∀ k ∈ ks, Code4 k) : ∀ k ∈ ks, Code4 k := h
theorem code4_in {ks : List Int} (h : ∀ k ∈ ks, Code4 k) : KBa.In ks := fun n hn => by
  rcases h n hn with h | h | h | h <;> subst h <;> decide
theorem menu4 {v : Int} {u : Tok} (h0 : 0 ≤ v) (h1 : v < 4) : Byte4 (.int ([32, 65, 66, 200].getD v.toNat 0) u) := by
  refine ⟨_, _, rfl, ?_⟩
  have : v = 0 ∨ v = 1 ∨ v = 2 ∨ v = 3 := by omega
  rcases this with rfl | rfl | rfl | rfl
  · exact .inl rfl
  · exact .inr (.inl rfl)
  · exact .inr (.inr (.inl rfl))
  · exact .inr (.inr (.inr rfl))
theorem range_sm {v : Int} (h0 : 0 ≤ v) (h1 : v < 7) : Builtin.Range.small 0 v 1 = true := by
  have : v = 0 ∨ v = 1 ∨ v = 2 ∨ v = 3 ∨ v = 4 ∨ v = 5 ∨ v = 6 := by omega
  rcases this with rfl | rfl | rfl | rfl | rfl | rfl | rfl <;> decide
theorem range_sz {v : Int} (h0 : 0 ≤ v) (h1 : v < 7) : Builtin.Range.rangeSize 0 v 1 = ((v.toNat : Nat) : Int) := by
  have : v = 0 ∨ v = 1 ∨ v = 2 ∨ v = 3 ∨ v = 4 ∨ v = 5 ∨ v = 6 := by omega
  rcases this with rfl | rfl | rfl | rfl | rfl | rfl | rfl <;> rfl
local macro_rules | `(tactic| walk_at "eval ListComp") => `(tactic| (k_here; k_dflt (refine LCg.ListComp_U (F₀ := by k_asm) (by with_unfolding_all rfl) (by decide) (by rfl) (by decide) (by rfl) ?_)))
local macro_rules | `(tactic| walk_at "CompSrc") => `(tactic| (k_here; k_dflt (refine' comp_src_tape Byte4 ?h ?F ?N ?U ?r (range_sm ?x1 ?x2) (range_sz ?y1 ?y2) ?z ?w ?_ ?_; (case h => rfl); (case F => k_asm); (case N => k_asm); (case U => ((repeat (apply Pull.tail; k_ne)); refine Pull.head ?_; k_all)); (case r => assumption); (case x1 => omega); (case x2 => omega); (case y1 => omega); (case y2 => omega); (case z => (rw [PySem.sizeLine_eq]; omega)); (case w => omega)); rotate_left; (intro g ys t' n' hl hR hr; obtain ⟨ks9, hi9, hP9, hl9⟩ := ints_of hR; (replace hP9 := code4_all hP9); (have hs9 := hl9.trans hl)); rotate_left; (intro i ys t' n' w' I oI C oC D m2 h tk E' hi hC hx F N ne n1 n2 n3 hr)))
local macro_rules | `(tactic| walk_at "TapeTurn") => `(tactic| (k_here; k_dflt (refine' tapeTurn_m ?F ?N ?m ?s ?r; (case F => k_asm); (case N => k_asm); (case m => k_mem); (case s => ktd_sub); (case r => (refine' menu4 ?a ?b; (case a => assumption); (case b => assumption))))))
local macro_rules | `(tactic| walk_at "subscriptTail") => `(tactic| (k_here; (with_reducible show wpAny _ _ (subscriptTail _ _ (Value.ref _) (Value.int _ _)) _ _ _); (with_unfolding_all (refine' item_anyT (vs := [.int 32 _, .int 65 _, .int 66 _, .int 200 _]) (ns := [32, 65, 66, 200]) ?k1 ?k2 ?k3 ?k4 ?k5 ?_; (case k1 => exact News.isTup (by k_asm) (by k_mem)); (case k2 => exact .cons _ _ (.cons _ _ (.cons _ _ (.cons _ _ .nil)))); (case k3 => assumption); (case k4 => (show _ < (4 : Int); assumption)); (case k5 => omega); k_whole)); intro t9))
local macro_rules | `(tactic| walk_at "call type:bytes") => `(tactic| (k_here; (with_reducible show wpAny _ _ (call (Value.type "bytes") [Value.ref _]) _ _ _); k_dflt (refine' KBa.make_K ?kbaF ?kbaN ?kbah ?kbal ?kbai ?kbar ?kban ?_; (case kbaF => k_asm); (case kbaN => k_asm); (case kbah => rfl); (case kbal => exact News.isList (by k_asm) (by k_mem)); (case kbai => assumption); (case kbar => exact code4_in (by assumption)); (case kban => omega)); intro _ _ _ F' N' kbaIn))
local macro_rules | `(tactic| walk_at "call ref") => `(tactic| (k_here; k_dflt (refine' useM (fun hT => draw_ok ?hC ?a0 ?a1 ?l0 ?l1 hT) ?_; (case hC => tb_rel); (case a0 => tb_rel); (case a1 => tb_rel); (case l0 => tb_rel); (case l1 => tb_rel); kwd_inv)))
local macro_rules | `(tactic| walk_at "call ref") => `(tactic| (k_here; k_dflt (refine' use (mat_new_int (b := 2) ?h1 ?h2 ?h3 ?h4 ?h5 ?h6) ?_; (case h1 => ktr_rel); (case h2 => ktr_rel); (case h3 => ktr_rel); (case h4 => ktr_rel); (case h5 => ktr_rel); (case h6 => ktr_rel); kwd_rel)))
local macro_rules | `(tactic| walk_at "execs cons") => `(tactic| (k_here; (with_reducible show wpAny _ _ (execs (List.cons (Stmt.Assign (List.cons (Expr.Tuple _ _ _) List.nil) _ _) _) _) _ _ _); refine Held.mk ?_))
set_option maxHeartbeats 1000000 in
theorem st10 {w : World} {p : Program} {loose : List Str} {mean : ExcName → Option Value} {mg mb : Str → Option Value} {fa L : Addr} {cd : Value} {h₀ : Heap} {s : Shared} {Q : Flow → Shared → Prop} {E : Value → Shared → Prop}
    (B : Below callerA h₀ [] h₀) (T : Top p loose mean mg mb h₀) (X : (KK w.params).In h₀) {tp cl : Addr} {a_ : Int} {t u : Tok} {n : Nat} {R : Led} {oc : Obj} {D1 D2 : Addr} {M1 M2 : Six} {x : Addr} {S : St} {rise : Int} {m : Str → Option Value}
    (F : Fr h₀ L s.heap m) (f1 : m (Str.ofString "state") = some (.ref x)) (f2 : m (Str.ofString "text") = some (.ref D2)) (f3 : m (Str.ofString "page") = some (.ref D1)) (f4 : m (Str.ofString "rise") = some (.int rise u))
    (N : News h₀ L s.heap ((tp, tapeO cl a_ t n) :: R)) (a0 : 0 ≤ a_) (a1 : a_ ≤ 20) (off : ∀ p ∈ R, p.1 ≠ tp) (hC : CellsIn R cl) (c : (L + 1, oc) ∈ R) (hoc : oc.data = .cell (some (.ref tp))) (s1 : SixIn R D1 M1) (s2 : SixIn R D2 M2)
    (hS : StateIn PySem.Challenge.rw_og0182_01.row.prog w R (.ref x) S) (hSc : S.ctm = ⟨M1.a, M1.b, M1.c, M1.d, M1.e, M1.f⟩) (hSt : S.ts = rise) (hr : rise.natAbs < 10 ^ 2) (nx : Nx13 w h₀ L fa cd s Q E) : wpAny (model PySem.Challenge.rw_og0182_01.row.prog w) (callerA.deeper (lawEnv L fa cd)) (execs lawS10 (lawEnv L fa cd)) Q E s := by
  revert X; k_fill; intro X
  have F0 := fr4 F f1 f2 f3 f4
  clear F
  have e4 := neN (off _ c)
  dsimp only at e4
  have s2' := s2
  obtain ⟨t0, t1, t2, t3, t4, t5, hD2, b0, b1, b2, b3, b4, b5⟩ := s2
  have e5 := neN (off _ hD2)
  dsimp only at e5
  have N0 := news_more (news_more N (.tail _ c)) (.tail _ (.tail _ hD2))
  clear N
  unfold lawS10 lawEnv lawScope
  w_strict k_steps
  rename_i ks hi hl hP hs D h3 tk3 o1 h2 tb k kba h1 t9 n9 h9 tk9 hT9 v9 u9 lo9 hi9 h' F' N'
  rename MatIn _ _ _ _ _ => hM
  have sub : ∀ l : Led, ∀ p ∈ R, p ∈ R ++ l := fun l p hp => List.mem_append.mpr (.inl hp)
  refine nx _ _ _ _ _ D1 D2 M1 M2 x S rise v9 _ (byteArr ks) _ _ F' rfl rfl rfl rfl rfl rfl rfl (fun p hp => N' p (.tail _ (.tail _ (.tail _ (.tail _ hp))))) (s1.mono (sub _)) (s2'.mono (sub _)) (hS.mono (sub _)) hSc hSt hr (hM.mono (fun p hp => List.mem_append.mpr (.inr hp))) ?_ ?_ lo9 ?_
  · rw [byteArr_size]; omega
  · rw [KBa.ints_make kba]; exact hP
  · rw [byteArr_size]; omega
end
section
theorem sl_lo {prog : Program} {w : World} {A : Around} {E : Value → Shared → Prop} {s : Shared} {value slice : PySem.Expr} {b : Array UInt8} {t : Tok} {h₀ : Heap} {L : Addr} {m : Str → Option Value} {news : Led} {Q : Value → Shared → Prop} {ks : List Int} {i : Int} {u : Tok}
    (hF : Fr h₀ L s.heap m) (hN : News h₀ L s.heap news) (hk : KBw.bInts b = ks) (h6 : ks.length ≤ 6) (hc : ∀ c ∈ ks, Code4 c) (h0 : 0 ≤ i) (h1 : i ≤ ks.length)
    (h : ∀ h' b' t' k, Fr h₀ L h' m → News h₀ L h' news → KBw.bInts b' = ks.take i.toNat → b'.size ≤ 6 → (∀ c ∈ KBw.bInts b', Code4 c) → Q (.bytes b' t') { s with heap := h', toks := k })
    (hs : subscripted slice false (.bytes b t) (.ref s.heap.objs.size) = operate [.ref s.heap.objs.size, .bytes b t] (getItem (.bytes b t) (.ref s.heap.objs.size)))
    (ht : ∀ r, letTemporaryGo value (.bytes b t) r = pure ()) :
    wpAny (model prog w) A (subscriptTail value slice (.bytes b t) (.ref s.heap.objs.size)) Q E { s with heap := s.heap.push { cls := .type "slice", data := .fields #[.none, .int i u, .none] } } :=
  KBc.slice_K hF hN hk .none (.int i u) (by omega) (fun h' t' k F' N' e => by
    have e' : KBw.bInts (KBy.picked b _ _) = ks.take i.toNat := e.trans (by show (ks.drop 0).take (clipAt ks.length i - 0) = _; rw [clipAt_in h0 h1]; rfl)
    refine h h' _ t' k F' N' e' ?_ ?_
    · rw [← KBw.ints_length, e']; simp only [List.length_take, List.length_drop]; omega
    · rw [e']; intro c hc'; first | exact hc c (List.mem_of_mem_take hc') | exact hc c (List.mem_of_mem_drop hc')) hs ht
theorem sl_hi {prog : Program} {w : World} {A : Around} {E : Value → Shared → Prop} {s : Shared} {value slice : PySem.Expr} {b : Array UInt8} {t : Tok} {h₀ : Heap} {L : Addr} {m : Str → Option Value} {news : Led} {Q : Value → Shared → Prop} {ks : List Int} {i : Int} {u : Tok}
    (hF : Fr h₀ L s.heap m) (hN : News h₀ L s.heap news) (hk : KBw.bInts b = ks) (h6 : ks.length ≤ 6) (hc : ∀ c ∈ ks, Code4 c) (h0 : 0 ≤ i) (h1 : i ≤ ks.length)
    (h : ∀ h' b' t' k, Fr h₀ L h' m → News h₀ L h' news → KBw.bInts b' = ks.drop i.toNat → b'.size ≤ 6 → (∀ c ∈ KBw.bInts b', Code4 c) → Q (.bytes b' t') { s with heap := h', toks := k })
    (hs : subscripted slice false (.bytes b t) (.ref s.heap.objs.size) = operate [.ref s.heap.objs.size, .bytes b t] (getItem (.bytes b t) (.ref s.heap.objs.size)))
    (ht : ∀ r, letTemporaryGo value (.bytes b t) r = pure ()) :
    wpAny (model prog w) A (subscriptTail value slice (.bytes b t) (.ref s.heap.objs.size)) Q E { s with heap := s.heap.push { cls := .type "slice", data := .fields #[.int i u, .none, .none] } } :=
  KBc.slice_K hF hN hk (.int i u) .none (by omega) (fun h' t' k F' N' e => by
    have e' : KBw.bInts (KBy.picked b _ _) = ks.drop i.toNat := e.trans (by show (ks.drop (clipAt ks.length i)).take (ks.length - clipAt ks.length i) = _; rw [clipAt_in h0 h1, List.take_of_length_le (by rw [List.length_drop]; omega)])
    refine h h' _ t' k F' N' e' ?_ ?_
    · rw [← KBw.ints_length, e']; simp only [List.length_take, List.length_drop]; omega
    · rw [e']; intro c hc'; first | exact hc c (List.mem_of_mem_take hc') | exact hc c (List.mem_of_mem_drop hc')) hs ht
local macro_rules | `(tactic| k_all) => `(tactic| (refine' all_ltAs ?h ?s; (case h => assumption); (case s => ktd_sub)))
local macro_rules | `(tactic| k_all) => `(tactic| assumption)
local macro_rules | `(tactic| ktr_rel) => `(tactic| first
  | assumption
  | omega
  | exact fun _ h => h
  | ktd_sub
  | (refine' DecIn.mono ?h ?s; (case h => assumption); (case s => ktd_sub))
  | (refine' MatIn.mono ?h ?s; (case h => assumption); (case s => ktd_sub)))
local macro_rules | `(tactic| walk_at "subscriptTail") => `(tactic| (k_here; (with_reducible show wpAny _ _ (subscriptTail _ (Expr.Slice _ _ none _) (Value.bytes _ _) (Value.ref _)) _ _ _); k_dflt (first
  | (refine' sl_lo (s := ⟨_, _, _, _, _⟩) ?F ?N ?k ?h6 ?c ?h0 ?h1 ?_ ?x ?y; (case F => k_asm); (case N => k_asm); (case k => assumption); (case h6 => assumption); (case c => assumption); (case h0 => assumption); (case h1 => assumption); (case x => with_unfolding_all rfl); (case y => (intro _; with_unfolding_all rfl)); intro h9 b9 t9 k9 F9 N9 e9 z9 c9)
  | (refine' sl_hi (s := ⟨_, _, _, _, _⟩) ?F ?N ?k ?h6 ?c ?h0 ?h1 ?_ ?x ?y; (case F => k_asm); (case N => k_asm); (case k => assumption); (case h6 => assumption); (case c => assumption); (case h0 => assumption); (case h1 => assumption); (case x => with_unfolding_all rfl); (case y => (intro _; with_unfolding_all rfl)); intro h9 b9 t9 k9 F9 N9 e9 z9 c9))))
local macro_rules | `(tactic| walk_at "call ref") => `(tactic| (k_here; k_dflt (refine' use (shown_ok ?hS ?sS ?hM0 ?hbm ?hb ?hcs) ?_; (case hS => ktr_rel); (case sS => ktr_rel); (case hM0 => ktr_rel); (case hbm => ktr_rel); (case hb => ktr_rel); (case hcs => ktr_rel); intro r9 tl9 h9 tk9 F9 N9 hl9 ho9; (obtain ⟨ht9, hD9, hW9, hG9⟩ := ho9); (replace ht9 := app_r N9 ht9); (try simp only [List.nil_append, List.cons_append, List.append_nil, List.append_assoc] at ht9); (try simp only [List.nil_append, List.cons_append, List.append_nil, List.append_assoc] at N9); (try simp only [List.nil_append, List.cons_append, List.append_nil, List.append_assoc] at ho9);  (try simp only [List.nil_append, List.cons_append, List.append_nil, List.append_assoc] at N9); (try dsimp only); (try k_sweep))))
local macro_rules | `(tactic| walk_at "call ref") => `(tactic| (k_here; k_dflt (refine' use (along_ok ?hm ?sm ?hx ?hB) ?_; (case hm => ktr_rel); (case sm => ktr_rel); (case hx => ktr_rel); (case hB => ktr_rel); kwd_rel)))
local macro_rules | `(tactic| walk_at "execs cons") => `(tactic| (k_here; (with_reducible show wpAny _ _ (execs (List.cons (Stmt.If _ _ _ _) _) _) _ _ _); refine Held.mk ?_))
set_option maxHeartbeats 1000000 in
theorem st13 {w : World} {p : Program} {loose : List Str} {mean : ExcName → Option Value} {mg mb : Str → Option Value} {fa L : Addr} {cd : Value} {h₀ : Heap} {s : Shared} {Q : Flow → Shared → Prop} {E : Value → Shared → Prop}
    (B : Below callerA h₀ [] h₀) (T : Top p loose mean mg mb h₀) (X : (KK w.params).In h₀) {u tb uc : Tok} {D1 D2 : Addr} {M1 M2 : Six} {x : Addr} {S : St} {rise cut : Int} {pl : Value} {b : Array UInt8} {R : Led} {m : Str → Option Value}
    (F : Fr h₀ L s.heap m) (f1 : m (Str.ofString "state") = some (.ref x)) (f2 : m (Str.ofString "text") = some (.ref D2)) (f3 : m (Str.ofString "page") = some (.ref D1)) (f4 : m (Str.ofString "rise") = some (.int rise u)) (f5 : m (Str.ofString "place") = some pl) (f6 : m (Str.ofString "octets") = some (.bytes b tb)) (f7 : m (Str.ofString "cut") = some (.int cut uc))
    (N : News h₀ L s.heap R) (s1 : SixIn R D1 M1) (s2 : SixIn R D2 M2) (hS : StateIn PySem.Challenge.rw_og0182_01.row.prog w R (.ref x) S) (hSc : S.ctm = ⟨M1.a, M1.b, M1.c, M1.d, M1.e, M1.f⟩) (hSt : S.ts = rise) (hr : rise.natAbs < 10 ^ 2) (hP : MatIn w.params R pl ⟨M2.a, M2.b, M2.c, M2.d, M2.e, M2.f⟩ 2)
    (hb : b.size ≤ 6) (hc4 : ∀ c ∈ KBw.bInts b, Code4 c) (c0 : 0 ≤ cut) (c1 : cut ≤ b.size) (nx : Nx16 w h₀ L fa cd s Q E) : wpAny (model PySem.Challenge.rw_og0182_01.row.prog w) (callerA.deeper (lawEnv L fa cd)) (execs lawS13 (lawEnv L fa cd)) Q E s := by
  revert X; k_fill; intro X
  have F0 := fr7 F f1 f2 f3 f4 f5 f6 f7
  clear F
  obtain ⟨ks, hk⟩ : ∃ ks, KBw.bInts b = ks := ⟨_, rfl⟩
  have hkl : ks.length = b.size := by rw [← hk, KBw.ints_length]
  have hk6 : ks.length ≤ 6 := by omega
  have hkc : ∀ c ∈ ks, Code4 c := by rw [← hk]; exact hc4
  have hkt : cut ≤ ks.length := by omega
  unfold lawS13 lawEnv lawScope
  w_strict k_steps
  rename_i tlA hA1 tkA hlA tA DA nA kA wsA vgA hDA hWA hGA htA hx8 hx7 hx6 tk0 h94 b1 t91 k91 e1 z1 c1' tlB h93 tk92 hlB tB DB nB kB wsB vgB hDB hWB hGB htB hx5 hx4 hx3 r9 tlC h92 tk91 hlC hoC h91 b2 t92 k92 e2 z2 c2 tlD h90 tk90 hlD tD DD nD kD wsD vgD hDD hWD hGD htD hy2 hy1 h' F' N'
  have sR : ∀ p ∈ R, p ∈ R ++ (tlA ++ (tlB ++ (tlC ++ tlD))) := by first | ktd_sub | fail "sub"
  have sA : ∀ p ∈ tlA, p ∈ R ++ (tlA ++ (tlB ++ (tlC ++ tlD))) := by first | ktd_sub | fail "sub"
  have sB : ∀ p ∈ tlB, p ∈ R ++ (tlA ++ (tlB ++ (tlC ++ tlD))) := by first | ktd_sub | fail "sub"
  have sD : ∀ p ∈ tlD, p ∈ R ++ (tlA ++ (tlB ++ (tlC ++ tlD))) := by first | ktd_sub | fail "sub"
  refine nx _ _ u tb D1 D2 DA DB DD M1 M2 rise b (R ++ (tlA ++ (tlB ++ (tlC ++ tlD)))) _ vgA vgB vgD _ _ _ _ _ _ wsA wsB wsD kA kB kD F' rfl rfl rfl rfl rfl rfl rfl rfl rfl rfl N' (s1.mono sR) (s2.mono sR) hr
    (sA _ hDA) (hWA.imp fun _ _ h => h.mono sA) (sB _ hDB) (hWB.imp fun _ _ h => h.mono sB) (sD _ hDD) (hWD.imp fun _ _ h => h.mono sD) (hGA.mono sA) (hGB.mono sB) (hGD.mono sD) ?_ ?_ ?_ hb (glyphs_ok S _ _ _) (law_none S _ _) (law_first S M1 M2 rise _ hSc hSt)
  · have := law_glyphs S ⟨M2.a, M2.b, M2.c, M2.d, M2.e, M2.f⟩ (ks.take cut.toNat) (ks.drop cut.toNat)
    rw [List.take_append_drop] at this
    rw [hk, e1, e2]
    exact this
  · have := law_gone S (ks.take cut.toNat) (ks.drop cut.toNat)
    rw [List.take_append_drop] at this
    rw [hk, e1, e2]
    exact this
  · rw [glyphs_len, KBw.ints_length]
end
section
local macro_rules | `(tactic| k_handed) => `(tactic| first | exact GlIn.handed (by assumption) | exact DecIn.handed' (by assumption))
theorem toldTurn_s {h₀ h' : Heap} {L : Addr} {m : Str → Option Value} {tk' : Nat} {s₁ : Shared} {I C D : Addr} {oI oC : Obj} {ys : List Value} {news tl tl' led led0 : Led} {G : Gl} {y : Value} (F : Fr h₀ L h' m) (N : News h₀ L h' led) (r : GToldIn tl' y G) (sub : ∀ p ∈ (I, oI) :: (C, oC) :: (D, LCg.lst ys) :: (news ++ (tl ++ tl')), p ∈ led) (o : ∀ q ∈ led0, ∀ p ∈ tl', q.1 ≠ p.1) (z : ∀ p ∈ (I, oI) :: (C, oC) :: (D, LCg.lst ys) :: (news ++ tl), p ∈ led0) :
    ToldTurn h₀ L m s₁ I oI C oC D ys news tl G y { s₁ with heap := h', toks := tk' } := ToldTurn.intro F (fun p hp => N p (sub p hp)) (fun q hq => o q (z q hq)) r
theorem ne_lists {prog : Program} {w : World} {A : Around} {E : Value → Shared → Prop} {s : Shared} {h₀ : Heap} {L : Addr} {news t1 t2 : Led} {Q : Value → Shared → Prop} {a b : Addr} {ys zs : List Value} {gs : List Gl} (N : News h₀ L s.heap news) (m1 : (a, LCg.lst ys) ∈ news) (m2 : (b, LCg.lst zs) ∈ news) (h1 : All2 (GToldIn t1) ys gs) (s1 : ∀ p ∈ t1, p ∈ news) (h2 : All2 (GToldIn t2) zs gs) (s2 : ∀ p ∈ t2, p ∈ news)
    (ok : ∀ G ∈ gs, PyData.strOk G.text = true) (hu : A.units + 64 < cLine) (h : Q (.bool false) s) : wpAny (model prog w) A (compareOp .NotEq (.ref a) (.ref b)) Q E s :=
  same_ne N (list_dat h1 s1 m1) (fun _ h => h) (list_dat h2 s2 m2) (fun _ h => h) (list_ok ok) hu h
theorem ne_tolds {prog : Program} {w : World} {A : Around} {E : Value → Shared → Prop} {s : Shared} {h₀ : Heap} {L : Addr} {news t1 t2 : Led} {Q : Value → Shared → Prop} {a b : Value} {q : Rat} (N : News h₀ L s.heap news) (h1 : ToldIn t1 a q) (s1 : ∀ p ∈ t1, p ∈ news) (h2 : ToldIn t2 b q) (s2 : ∀ p ∈ t2, p ∈ news) (hu : A.units + 64 < cLine) (h : Q (.bool false) s) : wpAny (model prog w) A (compareOp .NotEq a b) Q E s :=
  same_ne N (told_dat h1) s1 (told_dat h2) s2 (toldD_ok _ 7) hu h
theorem ne_ints {prog : Program} {w : World} {A : Around} {E : Value → Shared → Prop} {s : Shared} {Q : Value → Shared → Prop} {n : Int} {t u : Tok} (h : Q (.bool false) s) : wpAny (model prog w) A (compareOp .NotEq (.int n t) (.int n u)) Q E s := by
  refine ne_int ?_
  simpa using h
local macro_rules | `(tactic| k_all) => `(tactic| (refine' all_ltAs ?h ?s; (case h => assumption); (case s => ktd_sub)))
local macro_rules | `(tactic| k_all) => `(tactic| assumption)
local macro_rules | `(tactic| ktr_rel) => `(tactic| first
  | assumption
  | omega
  | exact fun _ h => h
  | ktd_sub
  | (refine' DecIn.mono ?h ?s; (case h => assumption); (case s => ktd_sub)))
local macro_rules | `(tactic| walk_at "eval ListComp") => `(tactic| (k_here; k_dflt (refine LCg.ListComp_U (F₀ := by k_asm) (by with_unfolding_all rfl) (by decide) (by rfl) (by decide) (by rfl) ?_)))
local macro_rules | `(tactic| walk_at "CompSrc") => `(tactic| (k_here; k_dflt (refine' comp_src_told ?h ?F ?N ?m ?W ?z ?_ ?_; (case h => rfl); (case F => k_asm); (case N => k_asm); (case m => k_mem); (case W => first | assumption | (refine' All2.append ?p ?q; (case p => assumption); (case q => assumption))); (case z => (try rw [List.length_append]); omega)); rotate_left; (intro g ys tl hA ho); rotate_left; (intro ys tl v G I oI C oC D m2 h tk E' hC hx hg F N ne)))
local macro_rules | `(tactic| walk_at "ToldTurn") => `(tactic| (k_here; k_dflt (refine' toldTurn_s ?F ?N ?r ?s ?o ?z; (case F => k_asm); (case N => assumption); (case r => assumption); (case s => ktd_sub); (case o => assumption); (case z => ktd_sub))))
local macro_rules | `(tactic| walk_at "binaryOp Add ref ref") => `(tactic| (k_here; k_dflt (refine' cat_K ?F ?N ?a ?b ?z ?_; (case F => k_asm); (case N => k_asm); (case a => k_mem); (case b => k_mem); (case z => omega)); intro D' h' F' N' l1; (try k_lt l1); (try k_sweep)))
local macro_rules | `(tactic| walk_at "compareOp NotEq") => `(tactic| (k_here; (with_reducible show wpAny _ _ (compareOp CmpOp.NotEq _ _) _ _ _); k_dflt (first
  | (refine' ne_lists ?N ?m1 ?m2 ?h1 ?s1 ?h2 ?s2 ?o ?u ?_; (case N => k_asm); (case m1 => k_mem); (case m2 => k_mem); (case h1 => assumption); (case s1 => ktd_sub); (case h2 => assumption); (case s2 => ktd_sub); (case o => assumption); (case u => ktr_units))
  | (refine' ne_tolds ?N ?h1 ?s1 ?h2 ?s2 ?u ?_; (case N => k_asm); (case h1 => assumption); (case h2 => assumption); (case s1 => ktd_sub); (case s2 => ktd_sub); (case u => ktr_units))
  | (refine' ne_ints ?_; k_whole))))
local macro_rules | `(tactic| walk_at "compareOp NotEq ref ref") => `(tactic| (k_here; (with_reducible show wpAny _ _ (compareOp CmpOp.NotEq _ _) _ _ _); k_dflt (first
  | (refine' ne_lists ?N ?m1 ?m2 ?h1 ?s1 ?h2 ?s2 ?o ?u ?_; (case N => k_asm); (case m1 => k_mem); (case m2 => k_mem); (case h1 => assumption); (case s1 => ktd_sub); (case h2 => assumption); (case s2 => ktd_sub); (case o => assumption); (case u => ktr_units))
  | (refine' ne_tolds ?N ?h1 ?s1 ?h2 ?s2 ?u ?_; (case N => k_asm); (case h1 => assumption); (case h2 => assumption); (case s1 => ktd_sub); (case s2 => ktd_sub); (case u => ktr_units))
  | (refine' ne_ints ?_; k_whole))))
local macro_rules | `(tactic| walk_at "compareOp NotEq int int") => `(tactic| (k_here; (with_reducible show wpAny _ _ (compareOp CmpOp.NotEq _ _) _ _ _); k_dflt (first
  | (refine' ne_lists ?N ?m1 ?m2 ?h1 ?s1 ?h2 ?s2 ?o ?u ?_; (case N => k_asm); (case m1 => k_mem); (case m2 => k_mem); (case h1 => assumption); (case s1 => ktd_sub); (case h2 => assumption); (case s2 => ktd_sub); (case o => assumption); (case u => ktr_units))
  | (refine' ne_tolds ?N ?h1 ?s1 ?h2 ?s2 ?u ?_; (case N => k_asm); (case h1 => assumption); (case h2 => assumption); (case s1 => ktd_sub); (case s2 => ktd_sub); (case u => ktr_units))
  | (refine' ne_ints ?_; k_whole))))
local macro_rules | `(tactic| walk_at "call builtin:len") => `(tactic| (k_here; (with_reducible show wpAny _ _ (call (Value.builtin "len") [_]) _ _ _); k_dflt (first
  | (refine' len_bytes6 ?b ?_; (case b => assumption))
  | (refine' len_made ?N ?c ?l ?n ?_; (case N => k_asm); (case c => k_mem); (case l => assumption); (case n => omega)))))
local macro_rules | `(tactic| walk_at "getMethod") => `(tactic| (k_here; (with_reducible show wpAny _ _ (getMethod _ _ _) _ _ _); k_dflt (refine' gl_meth ?R ?F ?X ?N ?S ?_; (case R => assumption); (case F => k_asm); (case X => k_asm); (case N => k_asm); (case S => ktd_sub))))
local macro_rules | `(tactic| walk_at "call ref") => `(tactic| (k_here; k_dflt (refine' use (glyph_told ?hG ?sG) ?_; (case hG => ktr_rel); (case sG => ktr_rel); kwd_rel)))
local macro_rules | `(tactic| walk_at "call ref") => `(tactic| (k_here; k_dflt (refine' use (dec_told ?hv1) ?_; (case hv1 => ktr_rel); kwd_rel)))
local macro_rules | `(tactic| walk_at "call ref") => `(tactic| (k_here; k_dflt (refine' use (dec_plus ?h1 ?h2 ?h3) ?_; (case h1 => ktr_rel); (case h2 => ktr_rel); (case h3 => ktr_rel); kwd_rel)))
local macro_rules | `(tactic| walk_at "execs cons") => `(tactic| (k_here; (with_reducible show wpAny _ _ (execs (List.cons (Stmt.If (Expr.Compare (Expr.Name (Str.ofString "whole_row") _) _ _ _) _ _ _) _) _) _ _ _); refine Held.mk ?_))
set_option maxHeartbeats 1000000 in
theorem st16 {w : World} {p : Program} {loose : List Str} {mean : ExcName → Option Value} {mg mb : Str → Option Value} {fa L : Addr} {cd : Value} {h₀ : Heap} {s : Shared} {Q : Flow → Shared → Prop} {E : Value → Shared → Prop}
    (B : Below callerA h₀ [] h₀) (T : Top p loose mean mg mb h₀) (X : (KK w.params).In h₀) {u tb : Tok} {D1 D2 Dw Df Ds : Addr} {M1 M2 : Six} {rise : Int} {b : Array UInt8} {R : Led} {m : Str → Option Value} {vg v1 v2 : Value} {gs gs1 gs2 : List Gl} {q q1 q2 : Rat} {ws ws1 ws2 : List Value} {k k1 k2 : Nat}
    (F : Fr h₀ L s.heap m) (f1 : m (Str.ofString "text") = some (.ref D2)) (f2 : m (Str.ofString "page") = some (.ref D1)) (f3 : m (Str.ofString "rise") = some (.int rise u)) (f4 : m (Str.ofString "octets") = some (.bytes b tb))
    (f5 : m (Str.ofString "whole_row") = some (.ref Dw)) (f6 : m (Str.ofString "gone") = some vg) (f7 : m (Str.ofString "first") = some (.ref Df)) (f8 : m (Str.ofString "one") = some v1) (f9 : m (Str.ofString "second") = some (.ref Ds)) (f10 : m (Str.ofString "other") = some v2)
    (N : News h₀ L s.heap R) (s1 : SixIn R D1 M1) (s2 : SixIn R D2 M2) (hr : rise.natAbs < 10 ^ 2)
    (hDw : (Dw, listOf (List.toArray ws) k) ∈ R) (hW : All2 (GlIn w.params R) ws gs) (hDf : (Df, listOf (List.toArray ws1) k1) ∈ R) (hW1 : All2 (GlIn w.params R) ws1 gs1) (hDs : (Ds, listOf (List.toArray ws2) k2) ∈ R) (hW2 : All2 (GlIn w.params R) ws2 gs2)
    (hG : DecIn w.params R vg q 189) (hG1 : DecIn w.params R v1 q1 189) (hG2 : DecIn w.params R v2 q2 189) (hgs : gs = gs1 ++ gs2) (hq : q = q1 + q2) (hlen : gs.length = b.size) (hb : b.size ≤ 6) (hok : ∀ G ∈ gs, PyData.strOk G.text = true) (hno : gs = [] → q = 0)
    (hfst : ∀ G Gs, gs = G :: Gs → G.x = ((ontoX M1 (ontoX M2 0 rise) (ontoY M2 0 rise) : Int) : Rat) ∧ G.y = ((ontoY M1 (ontoX M2 0 rise) (ontoY M2 0 rise) : Int) : Rat))
    (nx : Nx18 w h₀ L fa cd s Q E) : wpAny (model PySem.Challenge.rw_og0182_01.row.prog w) (callerA.deeper (lawEnv L fa cd)) (execs lawS16 (lawEnv L fa cd)) Q E s := by
  revert X; k_fill; intro X
  have F0 := fr7 F f4 f5 f6 f7 f8 f9 f10
  clear F
  subst hgs
  subst hq
  have hlw : ws.length = b.size := hW.length.trans hlen
  have hl1 : ws1.length + ws2.length ≤ 6 := by
    rw [hW1.length, hW2.length, ← List.length_append, hlen]; exact hb
  have hWs := All2.append hW2 hW1
  unfold lawS16 lawEnv lawScope
  w_strict k_steps
  rename_i r9 tl9 h9 tk9 F9 hl9 ho9 N9
  exact nx _ _ u D1 D2 Dw M1 M2 rise R _ vg (gs1 ++ gs2) (q1 + q2) ws k F9 f1 f2 f3 rfl rfl (fun p hp => N9 p (.tail _ (.tail _ (.tail _ (List.mem_append.mpr (.inl hp)))))) s1 s2 hr hDw hW hG hno hfst
end
section
local macro_rules | `(tactic| k_handed) => `(tactic| first | exact GlIn.handed (by assumption) | exact DecIn.handed' (by assumption))
theorem onto_bd {a c e x y : Int} {n : Nat} (ha : a.natAbs < 10 ^ 2) (hc : c.natAbs < 10 ^ 2) (he : e.natAbs < 10 ^ 2) (hx : x.natAbs < 10 ^ n) (hy : y.natAbs < 10 ^ n) : (a * x + c * y + e).natAbs < 10 ^ (n + 4) := by
  have h1 := mul_lt ha hx
  have h2 := mul_lt hc hy
  have h3 : (10 : Nat) ^ (n + 4) = 100 * 10 ^ (2 + n) := by rw [show n + 4 = 2 + (2 + n) by omega, Nat.pow_add]
  have h4 : (10 : Nat) ^ 2 ≤ 10 ^ (2 + n) := pow_le (by omega)
  rw [h3]
  omega
theorem says_zero : Says 0 1 0 0 := ⟨.inl rfl, by simp, by decide, by decide⟩
section
variable {prog : Program} {w : World} {A : Around} {E : Value → Shared → Prop} {s : Shared} {h₀ : Heap} {L : Addr} {m : Str → Option Value} {news t1 t2 t3 t4 : Led} {Q : Value → Shared → Prop}
theorem eq_zero {a : Value} {b : Addr} {u1 u2 : Tok} {n : Nat} (N : News h₀ L s.heap news) (h1 : ToldIn t1 a 0) (s1 : ∀ p ∈ t1, p ∈ news) (m : (b, ({ cls := .type "tuple", data := .seq #[.int 0 u1, .int 0 u2] n } : Obj)) ∈ news) (hu : A.units + 64 < cLine) (h : Q (.bool true) s) :
    wpAny (model prog w) A (compareOp .Eq a (.ref b)) Q E s :=
  same_eq N (told_dat h1) s1 (by rw [toldD_of says_zero]; exact dat_pair m) (fun _ h => h) (toldD_ok _ 7) hu h
theorem eq_pairs {a b : Addr} {v1 v2 u1 u2 : Value} {n k : Nat} {q1 q2 p1 p2 : Rat} (N : News h₀ L s.heap news) (m1 : (a, ({ cls := .type "tuple", data := .seq #[v1, v2] n } : Obj)) ∈ news) (m2 : (b, ({ cls := .type "tuple", data := .seq #[u1, u2] k } : Obj)) ∈ news)
    (h1 : ToldIn t1 v1 q1) (s1 : ∀ p ∈ t1, p ∈ news) (h2 : ToldIn t2 v2 q2) (s2 : ∀ p ∈ t2, p ∈ news) (g1 : ToldIn t3 u1 p1) (s3 : ∀ p ∈ t3, p ∈ news) (g2 : ToldIn t4 u2 p2) (s4 : ∀ p ∈ t4, p ∈ news) (e1 : q1 = p1) (e2 : q2 = p2) (hu : A.units + 64 < cLine) (h : Q (.bool true) s) :
    wpAny (model prog w) A (compareOp .Eq (.ref a) (.ref b)) Q E s := by
  subst e1 e2
  exact same_eq N (d := .tuple [toldD q1, toldD q2]) (.tuple (vs := [v1, v2]) m1 (.cons ((told_dat h1).mono s1) (.cons ((told_dat h2).mono s2) .nil))) (fun _ h => h) (.tuple (vs := [u1, u2]) m2 (.cons ((told_dat g1).mono s3) (.cons ((told_dat g2).mono s4) .nil))) (fun _ h => h)
    (by show [toldD q1, toldD q2].all (kqdOk 7) = true; simp [toldD_ok]) hu h
theorem item0 {l : Addr} {v : Value} {vs : List Value} {k : Nat} {u : Tok} {value slice : PySem.Expr} (N : News h₀ L s.heap news) (hm : (l, listOf (List.toArray (v :: vs)) k) ∈ news) (h : Q v s) (hs : subscripted slice false (.ref l) (.int 0 u) = operate [.ref l, .int 0 u] (getItem (.ref l) (.int 0 u))) :
    wpAny (model prog w) A (subscriptTail value slice (.ref l) (.int 0 u)) Q E s := by
  have hl : s.heap.IsList l (List.toArray (v :: vs)) := News.isList N hm
  exact tail_any hl.typeIs slot_list_getitem.lookup (wpAny_getItem_list hl (by omega) (by omega) (by simp) h) hs
end
local macro_rules | `(tactic| k_all) => `(tactic| (refine' all_ltAs ?h ?s; (case h => assumption); (case s => ktd_sub)))
local macro_rules | `(tactic| k_all) => `(tactic| assumption)
local macro_rules | `(tactic| ktr_rel) => `(tactic| first
  | assumption
  | omega
  | k_mem
  | exact fun _ h => h
  | ktd_sub
  | (refine' DecIn.mono ?h ?s; (case h => assumption); (case s => ktd_sub))
  | exact Nat.zero_lt_succ _)
local macro_rules | `(tactic| walk_at "subscriptTail") => `(tactic| (k_here; (with_reducible show wpAny _ _ (subscriptTail _ (Expr.Slice _ _ none _) (Value.ref _) (Value.ref _)) _ _ _); k_dflt (refine' cut_13 (s := ⟨_, _, _, _, _⟩) ?F ?N ?m ?_ ?x ?y; (case F => k_asm); (case N => k_asm); (case m => k_mem); (case x => with_unfolding_all rfl); (case y => (intro _; with_unfolding_all rfl))); intro T9 h9 F9 N9 l9; (try k_lt l9); (try k_sweep)))
local macro_rules | `(tactic| walk_at "compareOp Eq ref ref") => `(tactic| (k_here; (with_reducible show wpAny _ _ (compareOp CmpOp.Eq (Value.ref _) (Value.ref _)) _ _ _); k_dflt (first
  | (refine' eq_none ?N ?a ?b ?u ?_; (case N => k_asm); (case a => k_mem); (case b => k_mem); (case u => ktr_units))
  | (refine' eq_some ?N ?a ?b ?u ?_; (case N => k_asm); (case a => k_mem); (case b => k_mem); (case u => ktr_units))
  | (refine' eq_pairs ?N ?m1 ?m2 ?h1 ?s1 ?h2 ?s2 ?g1 ?s3 ?g2 ?s4 ?e1 ?e2 ?u ?_; (case N => k_asm); (case m1 => k_mem); (case m2 => k_mem); (case h1 => assumption); (case h2 => assumption); (case g1 => assumption); (case g2 => assumption); (case e1 => assumption); (case e2 => assumption); (case s1 => ktd_sub); (case s2 => ktd_sub); (case s3 => ktd_sub); (case s4 => ktd_sub); (case u => ktr_units)))))
local macro_rules | `(tactic| walk_at "compareOp Eq") => `(tactic| (k_here; (with_reducible show wpAny _ _ (compareOp CmpOp.Eq _ (Value.ref _)) _ _ _); k_dflt (
  (refine' eq_zero ?N ?h1 ?s1 ?m ?u ?_; (case N => k_asm); (case h1 => assumption); (case s1 => ktd_sub); (case m => k_mem); (case u => ktr_units)))))
local macro_rules | `(tactic| walk_at "subscriptTail") => `(tactic| (k_here; (with_reducible show wpAny _ _ (subscriptTail _ _ (Value.ref _) (Value.int _ _)) _ _ _); k_dflt (refine' item0 ?N ?m ?_ ?s; (case N => k_asm); (case m => k_mem); (case s => with_unfolding_all rfl))))
local macro_rules | `(tactic| walk_at "getMethod") => `(tactic| (k_here; (with_reducible show wpAny _ _ (getMethod _ _ _) _ _ _); k_dflt (refine' gl_meth ?R ?F ?X ?N ?S ?_; (case R => assumption); (case F => k_asm); (case X => k_asm); (case N => k_asm); (case S => ktd_sub))))
local macro_rules | `(tactic| walk_at "call ref") => `(tactic| (k_here; k_dflt (refine' use (glyph_told ?hG ?sG) ?_; (case hG => ktr_rel); (case sG => ktr_rel); intro r9 tl9 h9 tk9 F9 N9 hl9 ho9; (obtain ⟨hg9, hx9, hy9, hw9, hz9⟩ := ho9); (replace hg9 := app_r N9 hg9); (try simp only [List.nil_append, List.cons_append, List.append_nil, List.append_assoc] at hg9); (try simp only [List.nil_append, List.cons_append, List.append_nil, List.append_assoc] at N9); (try simp only [List.nil_append, List.cons_append, List.append_nil, List.append_assoc] at ho9);  (try simp only [List.nil_append, List.cons_append, List.append_nil, List.append_assoc] at N9); (try dsimp only); (try k_sweep))))
local macro_rules | `(tactic| walk_at "call ref") => `(tactic| (k_here; k_dflt (refine' use (dec_told ?hv1) ?_; (case hv1 => ktr_rel); kwd_rel)))
local macro_rules | `(tactic| walk_at "call ref") => `(tactic| (k_here; k_dflt (refine' use (mk_dec (b := 10) ?hn ?hb ?hp) ?_; (case hn => ktr_rel); (case hb => ktr_rel); (case hp => ktr_rel); intro r9 tl9 h9 tk9 F9 N9 hl9 ho9;  (try simp only [List.nil_append, List.cons_append, List.append_nil, List.append_assoc] at N9); (try simp only [List.nil_append, List.cons_append, List.append_nil, List.append_assoc] at ho9); (try rw [rdiv0] at ho9); (try simp only [List.nil_append, List.cons_append, List.append_nil, List.append_assoc] at N9); (try dsimp only); (try k_sweep))))
local macro_rules | `(tactic| walk_at "call ref") => `(tactic| (k_here; k_dflt (refine' use (onto_ok ?hp ?hs ?ha ?hb ?hc ?hd ?hx ?hy) ?_; (case hp => ktr_rel); (case hs => ktr_rel); (case ha => ktr_rel); (case hb => ktr_rel); (case hc => ktr_rel); (case hd => ktr_rel); (case hx => ktr_rel); (case hy => ktr_rel); intro r9 tl9 h9 tk9 F9 N9 hl9 ho9; (obtain ⟨T9, t9, t9', hr9, hT9⟩ := ho9); (subst hr9); (replace hT9 := app_r N9 hT9); (try simp only [List.nil_append, List.cons_append, List.append_nil, List.append_assoc] at hT9); (try simp only [List.nil_append, List.cons_append, List.append_nil, List.append_assoc] at N9); (try simp only [List.nil_append, List.cons_append, List.append_nil, List.append_assoc] at ho9);  (try simp only [List.nil_append, List.cons_append, List.append_nil, List.append_assoc] at N9); (try dsimp only); (try k_sweep))))
set_option maxHeartbeats 1000000 in
theorem st18 {w : World} {p : Program} {loose : List Str} {mean : ExcName → Option Value} {mg mb : Str → Option Value} {fa L : Addr} {cd : Value} {h₀ : Heap} {s : Shared} {Q : Flow → Shared → Prop} {E : Value → Shared → Prop}
    (B : Below callerA h₀ [] h₀) (T : Top p loose mean mg mb h₀) (X : (KK w.params).In h₀) {u : Tok} {D1 D2 Dw : Addr} {M1 M2 : Six} {rise : Int} {R : Led} {m : Str → Option Value} {vg : Value} {gs : List Gl} {q : Rat} {ws : List Value} {k : Nat}
    (F : Fr h₀ L s.heap m) (f1 : m (Str.ofString "text") = some (.ref D2)) (f2 : m (Str.ofString "page") = some (.ref D1)) (f3 : m (Str.ofString "rise") = some (.int rise u))
    (f5 : m (Str.ofString "whole_row") = some (.ref Dw)) (f6 : m (Str.ofString "gone") = some vg)
    (N : News h₀ L s.heap R) (s1 : SixIn R D1 M1) (s2 : SixIn R D2 M2) (hr : rise.natAbs < 10 ^ 2)
    (hDw : (Dw, listOf (List.toArray ws) k) ∈ R) (hW : All2 (GlIn w.params R) ws gs) (hG : DecIn w.params R vg q 189) (hno : gs = [] → q = 0)
    (hfst : ∀ G Gs, gs = G :: Gs → G.x = ((ontoX M1 (ontoX M2 0 rise) (ontoY M2 0 rise) : Int) : Rat) ∧ G.y = ((ontoY M1 (ontoX M2 0 rise) (ontoY M2 0 rise) : Int) : Rat))
    (hend : ∀ h' tk' m', Fr h₀ L h' m' → Q (.ret (.bool true)) { s with heap := h', toks := tk' }) : wpAny (model PySem.Challenge.rw_og0182_01.row.prog w) (callerA.deeper (lawEnv L fa cd)) (execs lawS18 (lawEnv L fa cd)) Q E s := by
  revert X; k_fill; intro X
  have F0 := fr4 F f1 f2 f3 f5
  have F0 := frx F0 f6 (by decide) (by decide) (by decide) (by decide)
  clear F
  obtain ⟨t0, t1, t2, t3, t4, t5, hD1, a0, a1, a2, a3, a4, a5⟩ := s1
  obtain ⟨v0, v1, v2, v3, v4, v5, hD2, b0, b1, b2, b3, b4, b5⟩ := s2
  have hx1 : (M2.a * 0 + M2.c * rise + M2.e).natAbs < 10 ^ 6 := onto_bd b0 b2 b4 (by decide) hr
  have hy1 : (M2.b * 0 + M2.d * rise + M2.f).natAbs < 10 ^ 6 := onto_bd b1 b3 b5 (by decide) hr
  have hx2 : (M1.a * (M2.a * 0 + M2.c * rise + M2.e) + M1.c * (M2.b * 0 + M2.d * rise + M2.f) + M1.e).natAbs < 10 ^ 10 := onto_bd a0 a2 a4 hx1 hy1
  have hy2 : (M1.b * (M2.a * 0 + M2.c * rise + M2.e) + M1.d * (M2.b * 0 + M2.d * rise + M2.f) + M1.f).natAbs < 10 ^ 10 := onto_bd a1 a3 a5 hx1 hy1
  have hL1 : (D1, listOf #[.int M1.a t0, .int M1.b t1, .int M1.c t2, .int M1.d t3, .int M1.e t4, .int M1.f t5] 6) ∈ R := hD1
  have hL2 : (D2, listOf #[.int M2.a v0, .int M2.b v1, .int M2.c v2, .int M2.d v3, .int M2.e v4, .int M2.f v5] 6) ∈ R := hD2
  have N0 := news_more (news_more (news_more N hDw) (.tail _ hL1)) (.tail _ (.tail _ hL2))
  clear N
  cases hW with
  | nil =>
    have hq := hno rfl
    subst hq
    unfold lawS18 lawEnv lawScope
    w_strict k_steps
    exact hend _ _ _ (by assumption)
  | @cons v G vs Gs hv _ =>
    obtain ⟨ex, ey⟩ := hfst G Gs rfl
    unfold ontoX ontoY at ex ey
    unfold lawS18 lawEnv lawScope
    w_strict k_steps
    exact hend _ _ _ (by assumption)
end
section
theorem law_rest {w : World} {p : Program} {loose : List Str} {mean : ExcName → Option Value} {mg mb : Str → Option Value} {fa L : Addr} {cd : Value} {h₀ : Heap} {s : Shared} {Q : Flow → Shared → Prop} {m0 : Str → Option Value}
    (B : Below callerA h₀ [] h₀) (T : Top p loose mean mg mb h₀) (X : (KK w.params).In h₀) {tp cl : Addr} {t : Tok} {n : Nat} {R : Led} {oc : Obj} (F : Fr h₀ L s.heap m0) (N : News h₀ L s.heap ((tp, tapeO cl 0 t n) :: (L + 1, oc) :: R)) (hC : CellsIn R cl) (hoc : oc.data = .cell (some (.ref tp))) (n1 : @Ne Nat (L + 1) tp) (off1 : ∀ p ∈ R, p.1 ≠ tp)
    (hend : ∀ h' tk' m', Fr h₀ L h' m' → Q (.ret (.bool true)) { s with heap := h', toks := tk' }) : wpAny (model PySem.Challenge.rw_og0182_01.row.prog w) (callerA.deeper (lawEnv L fa cd)) (execs lawS1 (lawEnv L fa cd)) Q (fun _ _ => False) s :=
  st1 B T X F N hC hoc n1 off1 fun h tk a_ t n D1 D2 M1 M2 R F N a0 a1 off C c s1 s2 =>
  st3 B T X F N a0 a1 off C c s1 s2 fun h tk a_ t n D1 D2 M1 M2 x d sp k1 k2 k3 k4 vm vs osp v1 v2 v3 v4 v5 R F N a0 a1 n1 n2 n3 n4 n5 n6 o1 o2 o3 o4 hd C c s1 s2 hM =>
  st4 B T X F N a0 a1 n1 n2 n3 n4 n5 n6 o1 o2 o3 o4 hd C c hoc s1 s2 hM fun h tk a_ t n D1 D2 M1 M2 x d sp k1 k2 k3 k4 vm vf vs qz osp v1 v2 v3 v4 v5 R F N a0 a1 n1 n2 n3 n4 n5 n6 o1 o2 o3 o4 hd C c s1 s2 hM hF hZ =>
  st6 B T X F N a0 a1 n1 n2 n3 n4 n5 n6 o1 o2 o3 o4 hd C c hoc s1 s2 hM hF hZ fun h tk a_ t u n D1 D2 M1 M2 x S rise R m F f1 f2 f3 f4 N a0 a1 off C c s1 s2 hS hSc hSt hr =>
  st10 B T X F f1 f2 f3 f4 N a0 a1 off C c hoc s1 s2 hS hSc hSt hr fun h tk u tb uc D1 D2 M1 M2 x S rise cut pl b R m F f1 f2 f3 f4 f5 f6 f7 N s1 s2 hS hSc hSt hr hP hb hc4 c0 c1 =>
  st13 B T X F f1 f2 f3 f4 f5 f6 f7 N s1 s2 hS hSc hSt hr hP hb hc4 c0 c1 fun h tk u tb D1 D2 Dw Df Ds M1 M2 rise b R m vg v1 v2 gs gs1 gs2 q q1 q2 ws ws1 ws2 k k1 k2 F f1 f2 f3 f4 f5 f6 f7 f8 f9 f10 N s1 s2 hr hDw hW hDf hW1 hDs hW2 hG hG1 hG2 hgs hq hlen hb hok hno hfst =>
  st16 B T X F f1 f2 f3 f4 f5 f6 f7 f8 f9 f10 N s1 s2 hr hDw hW hDf hW1 hDs hW2 hG hG1 hG2 hgs hq hlen hb hok hno hfst fun h tk u D1 D2 Dw M1 M2 rise R m vg gs q ws k F f1 f2 f3 f5 f6 N s1 s2 hr hDw hW hG hno hfst =>
  st18 B T X F f1 f2 f3 f5 f6 N s1 s2 hr hDw hW hG hno hfst fun h' tk' m' F' => hend h' tk' m' F'
end
section
local macro_rules | `(tactic| k_all) => `(tactic| assumption)
local macro_rules | `(tactic| walk_at "eval BoolOp") => `(tactic| (k_here; (fail_if_success (with_reducible show wpAny _ _ _ (MidCells _ _ _ _ _) _ _)); (with_reducible show wpAny _ _ (eval (Expr.BoolOp _ _ _) _) _ _ _); k_dflt (refine' eval_mid ?F ?N ?a ?b; (case F => k_asm); (case N => k_asm)); rotate_left; (intro h9 tk9 cl9 ws9 ns9 k9 F9 N9 hi9 n1_9 n2_9 l9; have hcl9 : CellsIn _ cl9 := ⟨⟨ws9, ns9, k9, List.mem_singleton.mpr rfl, hi9, n1_9, n2_9⟩⟩); rotate_left))
local macro_rules | `(tactic| walk_at "MidCells") => `(tactic| (k_here; k_dflt (first
  | (refine' MidCells.intro ?F ?N ?m ?s ?i ?a ?b ?l; (case F => k_asm); (case N => k_asm); (case m => k_mem); (case s => ktd_sub); (case i => assumption); (case a => omega); (case b => omega); (case l => (intro p hp; simp only [List.mem_cons, List.not_mem_nil, or_false] at hp; subst hp; refine ltN ?_; (try dsimp only); omega)))
  | (refine' MidCells.intro (ws := [.int 0 _]) (ns := [0]) ?F ?N ?m ?s ?i ?a ?b ?l; (case F => k_asm); (case N => k_asm); (case m => k_mem); (case s => ktd_sub); (case i => exact .cons _ _ .nil); (case a => decide); (case b => decide); (case l => (intro p hp; simp only [List.mem_cons, List.not_mem_nil, or_false] at hp; subst hp; refine ltN ?_; (try dsimp only); omega))))))
local macro_rules | `(tactic| walk_at "execs cons") => `(tactic| (k_here; (with_reducible show wpAny _ _ (execs (List.cons (Stmt.Assign (List.cons (Expr.Name (Str.ofString "page") _) List.nil) _ _) _) _) _ _ _); refine Held.mk ?_))
set_option maxHeartbeats 4000000 in
theorem walk : TW := by
  have fill' : PySem.Challenge.rw_og0182_01.row.name = PySem.Challenge.rw_og0182_01.row.name ∧ KK = KK := by
    k_fill
    exact ⟨rfl, rfl⟩
  clear fill'
  unfold TW
  w_strict (k_go0; (all_goals try k_fold); k_steps)
  rename_i h9 tk9 cl ws ns k hi n1 n2 l hcl l' h1 F1 N1 l1 h2 o' F2 N2 hoc
  refine wpAny_noRaise ?_
  refine law_rest (t := tk9) (n := 0) (by assumption) (by assumption) (by assumption) F2 ?N hcl hoc (Nat.ne_of_gt l1.2).symm ?off ?hend
  case N =>
    intro p hp
    refine N2 p ?_
    simp only [List.mem_append, List.mem_cons, List.not_mem_nil, or_false] at hp ⊢
    rcases hp with h | h | h <;> simp [h]
  case off =>
    intro p hp
    rw [List.mem_singleton.mp hp]
    exact Nat.ne_of_lt l1.1
  case hend =>
    intro h3 tk3 m3 F3
    clear hoc N2 F2 N1 F1

    w_strict k_steps
end
end Og
end
open PySem PySem.W PyProof.Rows
set_option maxHeartbeats 4000000 in
theorem PySem.Challenge.cw_og0182_01_holds : PySem.Challenge.rw_og0182_01.Holds := by
  exact Og.hd Og.walk
