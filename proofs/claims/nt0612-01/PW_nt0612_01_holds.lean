import PyProof.Rows.All
import Wide.All
import OpenK.AllK
import Wide.FinOn
import PySem.Challenge.RW_nt0612_01
open PySem PySem.W PyProof.Rows
set_option Elab.async false
set_option linter.all false
set_option tactic.hygienic false
section
open PySem PySem.W PyProof.Rows
namespace Mine
/-- the view: the text's statements but those that bind the name __name__ -/
noncomputable def isNm : Stmt → Bool
  | .Assign _ _ _ => true
  | _ => false
noncomputable def viewOf (p : Program) : Program := { p with main := { p.main with body := p.main.body.filter fun s => !isNm s } }
noncomputable def view : Program := viewOf PySem.Challenge.pw_nt0612_01
theorem my_open {r : OpenRow} {q : Program} {loose : List Str} {Xt : Shared → Bool} {XP : (Str → Option Value) → Heap → Prop} {α : Type} {Yf : Shared → α} {Ya : World → α} {YP : World → Heap → Prop} {d : DefRec} {kwd : List (Str × Expr)} {N : Nat}
    (hY : ∀ w s, Yf s = Ya w → YP w s.heap) (hYk : ∀ w h h', YP w h → (∀ b o, h.get? b = some o → h'.get? b = some o) → YP w h')
    (hX : ∀ s, Xt s = true → XP (s.heap.nsMap mainGlobals) s.heap) (hXk : ∀ mg h h', XP mg h → (∀ b o, h.get? b = some o → h'.get? b = some o) → XP mg h')
    (hdef : defOf q r.name = some (d, kwd)) (hp : r.prog.theDef r.name = some (d.params, d.body, d.scope)) (hk : kwWritten? d.params.kwonlyargs d.params.kw_defaults = some kwd) (hRf : ∀ s, Xt s = true → RecFacts r.records s.heap) (hwr : (!r.writes || r.records.isEmpty) = true)
    (k1 : r.wellSaid = true) (ok : (chainsOk q && opensWell r.prog && (frees r.toRowW && r.within.isEmpty)) = true) (hb : r.prog.bare) (hw : r.toRowW.promised)
    (call : LeftO r.prog q loose Xt Yf Ya N ∧ WalkO q loose XP YP r.toRowW d kwd fun f vs => PySem.call f vs) : r.Holds :=
  holds_open call.1 hY hYk hX hXk hdef hp hk hRf hwr k1 ok hb hw call.2
noncomputable def lawD : DefRec × List (Str × Expr) := match defOf view (Str.ofString "law") with
  | some d => d
  | none => ⟨⟨Str.ofString "", ⟨[], [], none, [], [], none, []⟩, [], ⟨.module, [], false, false, []⟩, ⟨0, 0, 0, 0⟩⟩, []⟩
/-- a table of texts -/
inductive AT where
  | nil
  | node (s : Str) (l r : AT)
noncomputable def AT.get : AT → Nat → Str
  | .nil, _ => ⟨Array.mk []⟩
  | .node s l r, i => match Nat.beq i 0 with
    | true => s
    | false => match Nat.beq (i % 2) 1 with
      | true => l.get (i / 2)
      | false => r.get (i / 2 - 1)
structure Ctx where
  t : Nat → Str
  g : Program
  P : Params
noncomputable def nthS : List Stmt → Nat → Stmt
  | [], _ => .Pass ⟨0, 0, 0, 0⟩
  | s :: r, n => match n with
    | 0 => s
    | n + 1 => nthS r n
noncomputable def fB : Stmt → List Stmt
  | .FunctionDef _ _ b .. => b
  | .ClassDef _ _ _ b .. => b
  | _ => []
noncomputable def fP : Stmt → Arguments
  | .FunctionDef _ p .. => p
  | _ => ⟨[], [], none, [], [], none, []⟩
noncomputable def fS : Stmt → Scope
  | .FunctionDef _ _ _ _ _ _ s .. => s
  | _ => { kind := .function, names := [], isGenerator := false, isCoroutine := false, more := [] }
noncomputable def sd (g : Program) (i : Nat) : Stmt := nthS g.main.body i
noncomputable def md (g : Program) (i j : Nat) : Stmt := nthS (fB (sd g i)) j
noncomputable def at1 : AT := (.node (Str.ofString "type.__subclasses__.Exception.0") (.node (Str.ofString "type.__subclasses__.Exception.n") (.node (Str.ofString "law_nt0612_01") (.node (Str.ofString "__spec__") (.node (Str.ofString "is_upper") (.node (Str.ofString "after_name_state") (.node (Str.ofString "law") (.node (Str.ofString "at") .nil .nil) .nil) (.node (Str.ofString "__firstlineno__") (.node (Str.ofString "in_value") .nil .nil) .nil)) (.node (Str.ofString "after_system_state") (.node (Str.ofString "Draft.add_name") (.node (Str.ofString "draft") .nil .nil) .nil) (.node (Str.ofString "end") (.node (Str.ofString "is_waiting") .nil .nil) .nil))) (.node (Str.ofString "give_quirky") (.node (Str.ofString "public_single_state") (.node (Str.ofString "name") (.node (Str.ofString "Tokenizer.error") .nil .nil) .nil) (.node (Str.ofString "quote") (.node (Str.ofString "is_ready") .nil .nil) .nil)) (.node (Str.ofString "_law_digit") (.node (Str.ofString "token") (.node (Str.ofString "is_folded") .nil .nil) .nil) (.node (Str.ofString "data") (.node (Str.ofString "other") .nil .nil) .nil)))) (.node (Str.ofString "/claim/cut.py") (.node (Str.ofString "is_control") (.node (Str.ofString "within_identifier") (.node (Str.ofString "htmltree.signs") (.node (Str.ofString "Tokenizer.to") .nil .nil) .nil) (.node (Str.ofString "t") (.node (Str.ofString "begun") .nil .nil) .nil)) (.node (Str.ofString "Misused") (.node (Str.ofString "check_attr") (.node (Str.ofString "Tokenizer.emit_eof") .nil .nil) .nil) (.node (Str.ofString "errors") (.node (Str.ofString "place") .nil .nil) .nil))) (.node (Str.ofString "open_identifier") (.node (Str.ofString "after_system_keyword_state") (.node (Str.ofString "begin_attr") (.node (Str.ofString "emit_sign") .nil .nil) .nil) (.node (Str.ofString "htmltree.stream") (.node (Str.ofString "back") .nil .nil) .nil)) (.node (Str.ofString "_law_one") (.node (Str.ofString "is_quirks") (.node (Str.ofString "take") .nil .nil) .nil) (.node (Str.ofString "Tokenizer.__init__") .nil .nil))))) (.node (Str.ofString "__package__") (.node (Str.ofString "__builtins__") (.node (Str.ofString "is_surrogate") (.node (Str.ofString "before_identifier") (.node (Str.ofString "__main__") (.node (Str.ofString "Tokenizer.next") .nil .nil) .nil) (.node (Str.ofString "__dict__") (.node (Str.ofString "flush") .nil .nil) .nil)) (.node (Str.ofString "doctype_states") (.node (Str.ofString "add_value") (.node (Str.ofString "Tokenizer.emit_draft") .nil .nil) .nil) (.node (Str.ofString "many") (.node (Str.ofString "stream") .nil .nil) .nil))) (.node (Str.ofString "spoil") (.node (Str.ofString "between_state") (.node (Str.ofString "Draft.__init__") (.node (Str.ofString "Tokenizer.emit") .nil .nil) .nil) (.node (Str.ofString "HtmlFault.__init__") (.node (Str.ofString "run") .nil .nil) .nil)) (.node (Str.ofString "_law_blanks") (.node (Str.ofString "attrs") (.node (Str.ofString "looks") .nil .nil) .nil) (.node (Str.ofString "states") (.node (Str.ofString "__qualname__") .nil .nil) .nil)))) (.node (Str.ofString "_wall") (.node (Str.ofString "begin_doctype") (.node (Str.ofString "before_public_state") (.node (Str.ofString "self") (.node (Str.ofString "Tokenizer.again") .nil .nil) .nil) (.node (Str.ofString "code") (.node (Str.ofString "step") .nil .nil) .nil)) (.node (Str.ofString "Stream") (.node (Str.ofString "kept") (.node (Str.ofString "Tokenizer.is_apt") .nil .nil) .nil) (.node (Str.ofString "is_return") (.node (Str.ofString "least") .nil .nil) .nil))) (.node (Str.ofString "before_name_state") (.node (Str.ofString "system_double_state") (.node (Str.ofString "text") (.node (Str.ofString "emit_text") .nil .nil) .nil) (.node (Str.ofString "feed") (.node (Str.ofString "is_done") .nil .nil) .nil)) (.node (Str.ofString "_law_doctype") (.node (Str.ofString "system") (.node (Str.ofString "wait") .nil .nil) .nil) (.node (Str.ofString "Tokenizer.feed") .nil .nil)))))) (.node (Str.ofString "__name__") (.node (Str.ofString "__doc__") (.node (Str.ofString "__annotations__") (.node (Str.ofString "lower") (.node (Str.ofString "after_keyword") (.node (Str.ofString "k") (.node (Str.ofString "next") .nil .nil) .nil) (.node (Str.ofString "__static_attributes__") (.node (Str.ofString "Tokenizer.in_value") .nil .nil) .nil)) (.node (Str.ofString "bogus_state") (.node (Str.ofString "last") (.node (Str.ofString "emit_draft") .nil .nil) .nil) (.node (Str.ofString "Stream.end") (.node (Str.ofString "out") .nil .nil) .nil))) (.node (Str.ofString "end_within") (.node (Str.ofString "after_public_state") (.node (Str.ofString "__init__") (.node (Str.ofString "emit") .nil .nil) .nil) (.node (Str.ofString "why") (.node (Str.ofString "Tokenizer.is_ready") .nil .nil) .nil)) (.node (Str.ofString "_law_drawn") (.node (Str.ofString "Draft.token") (.node (Str.ofString "i") .nil .nil) .nil) (.node (Str.ofString "") (.node (Str.ofString "<module>") .nil .nil) .nil)))) (.node (Str.ofString "__cached__") (.node (Str.ofString "Draft") (.node (Str.ofString "after_public_keyword_state") (.node (Str.ofString "n") (.node (Str.ofString "again") .nil .nil) .nil) (.node (Str.ofString "htmltree.doctypestates") (.node (Str.ofString "rule") .nil .nil) .nil)) (.node (Str.ofString "input_error") (.node (Str.ofString "Draft.check_attr") (.node (Str.ofString "is_apt") .nil .nil) .nil) (.node (Str.ofString "is_closed") (.node (Str.ofString "digit") .nil .nil) .nil))) (.node (Str.ofString "doctype_state") (.node (Str.ofString "before_system_state") (.node (Str.ofString "Draft.begin_attr") (.node (Str.ofString "Tokenizer.emit_sign") .nil .nil) .nil) (.node (Str.ofString "Stream.__init__") (.node (Str.ofString "buffer") .nil .nil) .nil)) (.node (Str.ofString "_law_identifier") (.node (Str.ofString "public") (.node (Str.ofString "Tokenizer.take") .nil .nil) .nil) (.node (Str.ofString "htmltree.tokenizer") .nil .nil))))) (.node (Str.ofString "__loader__") (.node (Str.ofString "__file__") (.node (Str.ofString "is_noncharacter") (.node (Str.ofString "no_identifier") (.node (Str.ofString "c") (.node (Str.ofString "to") .nil .nil) .nil) (.node (Str.ofString "__weakref__") (.node (Str.ofString "Tokenizer.flush") .nil .nil) .nil)) (.node (Str.ofString "HtmlFault") (.node (Str.ofString "Draft.add_value") (.node (Str.ofString "emit_eof") .nil .nil) .nil) (.node (Str.ofString "Stream.many") (.node (Str.ofString "script") .nil .nil) .nil))) (.node (Str.ofString "add_to_identifier") (.node (Str.ofString "no_second") (.node (Str.ofString "htmltree.tokens") (.node (Str.ofString "sign") .nil .nil) .nil) (.node (Str.ofString "htmltree.faults") (.node (Str.ofString "Tokenizer.run") .nil .nil) .nil)) (.node (Str.ofString "_law_raised") (.node (Str.ofString "is_closing") (.node (Str.ofString "Tokenizer.looks") .nil .nil) .nil) (.node (Str.ofString "state") .nil .nil)))) (.node (Str.ofString "is_blank") (.node (Str.ofString "give_doctype") (.node (Str.ofString "public_double_state") (.node (Str.ofString "kind") (.node (Str.ofString "error") .nil .nil) .nil) (.node (Str.ofString "sort") (.node (Str.ofString "Tokenizer.step") .nil .nil) .nil)) (.node (Str.ofString "Tokenizer") (.node (Str.ofString "attr") (.node (Str.ofString "word") .nil .nil) .nil) (.node (Str.ofString "signs") (.node (Str.ofString "most") .nil .nil) .nil))) (.node (Str.ofString "name_state") (.node (Str.ofString "system_single_state") (.node (Str.ofString "add_name") (.node (Str.ofString "Tokenizer.emit_text") .nil .nil) .nil) (.node (Str.ofString "Stream.feed") (.node (Str.ofString "is_foreign") .nil .nil) .nil)) (.node (Str.ofString "_law_data") (.node (Str.ofString "__module__") (.node (Str.ofString "Tokenizer.wait") .nil .nil) .nil) (.node (Str.ofString "Tokenizer.end") .nil .nil)))))))
noncomputable def p_3 (c : Ctx) (a0 a1 : Nat) : Obj := .mk (.type "tuple") .none (.seq #[.str (c.t a0) a1] 0) #[]
noncomputable def p_4 (c : Ctx) (a0 a1 a2 a3 a4 a5 : Nat) : Obj := .mk (.type "function") .none (.func (.mk (c.t a0) (c.t a0) (fP (sd c.g a1)) (.stmts (fB (sd c.g a1))) (fS (sd c.g a2)) 3 [] .none .none .none (.str (c.t a3) a4) .none (.ref a5) .none 0)) #[]
noncomputable def p_6 (c : Ctx) (a0 a1 a2 a3 a4 a7 a8 a9 a10 a11 a13 : Nat) (a5 a6 a12 : Int) : Obj := .mk (.type "code") .none (.fields #[.str (c.t a0) a1, .str (c.t a2) a3, .str (c.t 11) a4, .int a5 0, .int a6 0, .int 0 0, .int 0 0, .int 3 0, .ref a7, .bool true, .int 181 0, .ref a8, .none, .ref a9, .ref a10, .ref a11, .int a12 0, .int a5 0, .str (c.t 11) a13]) #[]
noncomputable def p_8 (c : Ctx) (a0 a1 a2 a3 : Nat) : Obj := .mk (.type "tuple") .none (.seq #[.str (c.t a0) a1, .str (c.t a2) a3] 0) #[]
noncomputable def p_10 (c : Ctx) (a0 a1 a2 a3 a4 : Nat) : Obj := .mk (.type "type") .none (.cls (.mk (c.t a0) [.type "object"] [.ref a1, .type "object"] a2 (c.t a0) true [] [] false .none false)) #[.none, .none, (some (.str (c.t a0) a3)), (some (.str (c.t a0) a4)), (some (.builtin "object.__new__")), (some (.bool true))]
noncomputable def p_11 (c : Ctx) (a0 a1 a2 a3 a4 a5 a6 a7 a8 : Nat) : Obj := .mk (.type "function") .none (.func (.mk (c.t a0) (c.t a1) (fP (md c.g a2 a3)) (.stmts (fB (md c.g a2 a3))) (fS (md c.g a4 a5)) 3 [] .none .none .none (.str (c.t a6) a7) .none (.ref a8) .none 0)) #[]
noncomputable def p_12 (c : Ctx) (a0 a1 a2 a3 a4 a5 : Nat) : Obj := .mk (.type "tuple") .none (.seq #[.str (c.t a0) a1, .str (c.t a2) a3, .str (c.t a4) a5] 0) #[]
noncomputable def p_13 (c : Ctx) (a0 a1 : Nat) : Obj := .mk (.type "getset_descriptor") .none (.fields #[.str (c.t 98) a0, .ref a1, .builtin "ExceptionGroup.__weakref__", .none]) #[]
noncomputable def p_14 (c : Ctx) (a0 a1 : Nat) : Obj := .mk (.type "getset_descriptor") .none (.fields #[.str (c.t 97) a0, .ref a1, .builtin "function.__dict__", .builtin "function.__dict__#set"]) #[]
noncomputable def p_16 (c : Ctx) (a0 a1 a2 a3 a4 a5 a6 a7 : Nat) : Obj := .mk (.type "tuple") .none (.seq #[.str (c.t a0) a1, .str (c.t a2) a3, .str (c.t a4) a5, .str (c.t a6) a7] 0) #[]
noncomputable def o_43 (c : Ctx) : Obj := .mk (.type "tuple") .none (.seq #[] 0) #[]
noncomputable def o_67 (c : Ctx) : Obj := p_3 c 66 206
noncomputable def o_99 (c : Ctx) : Obj := p_4 c 19 7 7 67 194 62
noncomputable def o_91 (c : Ctx) : Obj := p_6 c 18 224 18 225 226 50 51 52 53 54 229 15 1 228
noncomputable def o_71 (c : Ctx) : Obj := p_4 c 15 3 3 67 194 34
noncomputable def o_63 (c : Ctx) : Obj := p_6 c 14 196 14 197 198 22 23 24 25 26 201 5 1 200
noncomputable def o_95 (c : Ctx) : Obj := p_3 c 68 234
noncomputable def o_53 (c : Ctx) : Obj := p_3 c 64 190
noncomputable def o_85 (c : Ctx) : Obj := p_4 c 17 5 7 67 194 48
noncomputable def o_77 (c : Ctx) : Obj := p_6 c 16 210 16 211 212 36 37 38 39 40 215 9 1 214
noncomputable def o_57 (c : Ctx) : Obj := p_4 c 13 0 0 65 164 20
noncomputable def o_81 (c : Ctx) : Obj := p_3 c 68 220
noncomputable def o_84 (c : Ctx) : Obj := p_6 c 17 217 17 218 219 43 44 45 46 47 222 13 1 221
noncomputable def o_60 (c : Ctx) : Obj := p_3 c 66 199
noncomputable def o_92 (c : Ctx) : Obj := p_4 c 18 6 7 67 194 55
noncomputable def o_56 (c : Ctx) : Obj := p_6 c 13 187 13 188 189 15 16 17 18 19 192 1 1 191
noncomputable def o_88 (c : Ctx) : Obj := p_3 c 68 227
noncomputable def o_64 (c : Ctx) : Obj := p_4 c 14 2 3 67 194 27
noncomputable def o_70 (c : Ctx) : Obj := p_6 c 15 203 15 204 205 29 30 31 32 33 208 7 1 207
noncomputable def o_78 (c : Ctx) : Obj := p_4 c 16 4 4 67 194 41
noncomputable def o_74 (c : Ctx) : Obj := p_3 c 66 213
noncomputable def o_98 (c : Ctx) : Obj := p_6 c 19 231 19 232 233 57 58 59 60 61 236 17 1 235
noncomputable def o_149 (c : Ctx) : Obj := p_6 c 87 292 88 293 294 106 107 108 109 110 299 45 1 298
noncomputable def o_125 (c : Ctx) : Obj := p_8 c 69 271 77 272
noncomputable def o_121 (c : Ctx) : Obj := p_6 c 75 261 76 262 263 78 79 80 81 82 266 32 1 265
noncomputable def o_153 (c : Ctx) : Obj := p_10 c 20 115 114 240 248
noncomputable def o_129 (c : Ctx) : Obj := p_11 c 78 79 9 2 9 2 74 238 90
noncomputable def o_135 (c : Ctx) : Obj := p_6 c 81 276 82 277 278 92 93 94 95 96 283 38 2 282
noncomputable def o_151 (c : Ctx) : Obj := .mk (.type "tuple") .none (.seq #[.str (c.t 89) 301, .str (c.t 90) 302, .str (c.t 91) 303, .str (c.t 70) 304, .str (c.t 71) 305, .str (c.t 92) 306, .str (c.t 93) 307, .str (c.t 77) 308] 0) #[]
noncomputable def o_111 (c : Ctx) : Obj := p_12 c 69 255 70 256 71 257
noncomputable def o_143 (c : Ctx) : Obj := p_11 c 83 84 9 4 47 12 74 238 104
noncomputable def o_139 (c : Ctx) : Obj := p_3 c 69 288
noncomputable def o_155 (c : Ctx) : Obj := p_13 c 312 115
noncomputable def o_115 (c : Ctx) : Obj := p_11 c 72 73 9 0 9 0 74 238 76
noncomputable def o_118 (c : Ctx) : Obj := p_3 c 69 264
noncomputable def o_150 (c : Ctx) : Obj := p_11 c 87 88 9 5 9 5 74 238 111
noncomputable def o_142 (c : Ctx) : Obj := p_6 c 83 285 84 286 287 99 100 101 102 103 290 42 1 289
noncomputable def o_122 (c : Ctx) : Obj := p_11 c 75 76 9 1 47 12 74 238 83
noncomputable def o_154 (c : Ctx) : Obj := p_14 c 310 115
noncomputable def o_114 (c : Ctx) : Obj := p_6 c 72 252 73 253 254 71 72 73 74 75 259 22 3 258
noncomputable def o_146 (c : Ctx) : Obj := p_12 c 69 295 85 296 86 297
noncomputable def o_136 (c : Ctx) : Obj := p_11 c 81 82 9 3 9 3 74 238 97
noncomputable def o_152 (c : Ctx) : Obj := .mk (.type "dict") .none (.dict #[(DictEntry.mk (PyData.keyHash c.P (c.t 94)) (.str (c.t 94) 247) (.str (c.t 74) 238)), (DictEntry.mk (PyData.keyHash c.P (c.t 95)) (.str (c.t 95) 251) (.int 20 250)), (DictEntry.mk (PyData.keyHash c.P (c.t 72)) (.str (c.t 72) 260) (.ref 77)), (DictEntry.mk (PyData.keyHash c.P (c.t 75)) (.str (c.t 75) 267) (.ref 84)), (DictEntry.mk (PyData.keyHash c.P (c.t 78)) (.str (c.t 78) 275) (.ref 91)), (DictEntry.mk (PyData.keyHash c.P (c.t 81)) (.str (c.t 81) 284) (.ref 98)), (DictEntry.mk (PyData.keyHash c.P (c.t 83)) (.str (c.t 83) 291) (.ref 105)), (DictEntry.mk (PyData.keyHash c.P (c.t 87)) (.str (c.t 87) 300) (.ref 112)), (DictEntry.mk (PyData.keyHash c.P (c.t 96)) (.str (c.t 96) 309) (.ref 113)), (DictEntry.mk (PyData.keyHash c.P (c.t 97)) (.str (c.t 97) 311) (.ref 116)), (DictEntry.mk (PyData.keyHash c.P (c.t 98)) (.str (c.t 98) 313) (.ref 117)), (DictEntry.mk (PyData.keyHash c.P (c.t 4)) (.str (c.t 4) 314) .none)] 4) #[]
noncomputable def o_128 (c : Ctx) : Obj := p_6 c 78 268 79 269 270 85 86 87 88 89 274 35 2 273
noncomputable def o_132 (c : Ctx) : Obj := p_12 c 69 279 77 280 80 281
noncomputable def o_183 (c : Ctx) : Obj := p_3 c 99 344
noncomputable def o_215 (c : Ctx) : Obj := p_4 c 28 18 18 100 317 174
noncomputable def o_239 (c : Ctx) : Obj := p_12 c 99 411 102 412 66 413
noncomputable def o_207 (c : Ctx) : Obj := p_6 c 27 365 27 366 367 162 163 164 165 166 372 78 3 371
noncomputable def o_235 (c : Ctx) : Obj := p_6 c 31 398 31 399 400 190 191 192 193 194 406 130 1 405
noncomputable def o_187 (c : Ctx) : Obj := p_4 c 24 14 14 100 317 146
noncomputable def o_179 (c : Ctx) : Obj := p_6 c 23 334 23 335 336 134 135 136 137 138 339 61 1 338
noncomputable def o_243 (c : Ctx) : Obj := p_4 c 32 22 23 100 317 202
noncomputable def o_211 (c : Ctx) : Obj := p_8 c 99 377 66 378
noncomputable def o_169 (c : Ctx) : Obj := p_3 c 99 330
noncomputable def o_201 (c : Ctx) : Obj := p_4 c 26 16 16 100 317 160
noncomputable def o_249 (c : Ctx) : Obj := p_6 c 33 417 33 418 419 204 205 206 207 208 424 163 2 423
noncomputable def o_193 (c : Ctx) : Obj := p_6 c 25 348 25 349 350 148 149 150 151 152 354 69 2 353
noncomputable def o_225 (c : Ctx) : Obj := p_8 c 99 393 66 394
noncomputable def o_173 (c : Ctx) : Obj := p_4 c 22 12 14 100 317 132
noncomputable def o_221 (c : Ctx) : Obj := p_6 c 29 382 29 383 384 176 177 178 179 180 388 99 1 387
noncomputable def o_197 (c : Ctx) : Obj := p_12 c 99 359 102 360 77 361
noncomputable def o_165 (c : Ctx) : Obj := p_6 c 21 319 21 320 321 120 121 122 123 124 325 56 2 324
noncomputable def o_229 (c : Ctx) : Obj := p_4 c 30 20 20 100 317 188
noncomputable def o_232 (c : Ctx) : Obj := p_16 c 99 401 66 402 92 403 93 404
noncomputable def o_200 (c : Ctx) : Obj := p_6 c 26 356 26 357 358 155 156 157 158 159 363 73 3 362
noncomputable def o_176 (c : Ctx) : Obj := p_3 c 99 337
noncomputable def o_208 (c : Ctx) : Obj := p_4 c 27 17 17 100 317 167
noncomputable def o_172 (c : Ctx) : Obj := p_6 c 22 327 22 328 329 127 128 129 130 131 332 58 1 331
noncomputable def o_236 (c : Ctx) : Obj := p_4 c 31 21 21 100 317 195
noncomputable def o_204 (c : Ctx) : Obj := p_12 c 99 368 102 369 103 370
noncomputable def o_180 (c : Ctx) : Obj := p_4 c 23 13 13 100 317 139
noncomputable def o_228 (c : Ctx) : Obj := p_6 c 30 390 30 391 392 183 184 185 186 187 396 117 1 395
noncomputable def o_186 (c : Ctx) : Obj := p_6 c 24 341 24 342 343 141 142 143 144 145 346 64 1 345
noncomputable def o_250 (c : Ctx) : Obj := p_4 c 33 23 23 100 317 209
noncomputable def o_218 (c : Ctx) : Obj := p_8 c 99 385 66 386
noncomputable def o_242 (c : Ctx) : Obj := p_6 c 32 408 32 409 410 197 198 199 200 201 415 154 2 414
noncomputable def o_194 (c : Ctx) : Obj := p_4 c 25 15 15 100 317 153
noncomputable def o_162 (c : Ctx) : Obj := p_8 c 99 322 71 323
noncomputable def o_190 (c : Ctx) : Obj := p_8 c 99 351 101 352
noncomputable def o_222 (c : Ctx) : Obj := p_4 c 29 19 19 100 317 181
noncomputable def o_246 (c : Ctx) : Obj := p_12 c 99 420 102 421 66 422
noncomputable def o_214 (c : Ctx) : Obj := p_6 c 28 374 28 375 376 169 170 171 172 173 380 87 1 379
noncomputable def o_166 (c : Ctx) : Obj := p_4 c 21 11 11 100 317 125
noncomputable def o_297 (c : Ctx) : Obj := p_8 c 99 476 66 477
noncomputable def o_329 (c : Ctx) : Obj := p_4 c 44 34 34 100 317 286
noncomputable def o_265 (c : Ctx) : Obj := p_6 c 35 435 35 436 437 218 219 220 221 222 443 179 3 442
noncomputable def o_273 (c : Ctx) : Obj := p_4 c 36 26 33 100 317 230
noncomputable def o_321 (c : Ctx) : Obj := p_6 c 43 497 43 498 499 274 275 276 277 278 502 225 1 501
noncomputable def o_301 (c : Ctx) : Obj := p_4 c 40 30 31 100 317 258
noncomputable def o_269 (c : Ctx) : Obj := p_3 c 99 448
noncomputable def o_325 (c : Ctx) : Obj := p_3 c 99 507
noncomputable def o_293 (c : Ctx) : Obj := p_6 c 39 466 39 467 468 246 247 248 249 250 471 199 1 470
noncomputable def o_315 (c : Ctx) : Obj := p_4 c 42 32 32 100 317 272
noncomputable def o_283 (c : Ctx) : Obj := p_3 c 99 462
noncomputable def o_307 (c : Ctx) : Obj := p_6 c 41 481 41 482 483 260 261 262 263 264 487 210 1 486
noncomputable def o_339 (c : Ctx) : Obj := p_3 c 99 521
noncomputable def o_259 (c : Ctx) : Obj := p_4 c 34 24 24 100 317 216
noncomputable def o_335 (c : Ctx) : Obj := p_6 c 45 511 45 512 513 288 289 290 291 292 516 229 1 515
noncomputable def o_255 (c : Ctx) : Obj := p_12 c 99 429 102 430 66 431
noncomputable def o_287 (c : Ctx) : Obj := p_4 c 38 28 36 100 317 244
noncomputable def o_311 (c : Ctx) : Obj := p_8 c 99 492 66 493
noncomputable def o_343 (c : Ctx) : Obj := p_4 c 46 36 36 100 317 300
noncomputable def o_279 (c : Ctx) : Obj := p_6 c 37 452 37 453 454 232 233 234 235 236 457 195 1 456
noncomputable def o_266 (c : Ctx) : Obj := p_4 c 35 25 25 100 317 223
noncomputable def o_314 (c : Ctx) : Obj := p_6 c 42 489 42 490 491 267 268 269 270 271 495 218 2 494
noncomputable def o_322 (c : Ctx) : Obj := p_4 c 43 33 33 100 317 279
noncomputable def o_258 (c : Ctx) : Obj := p_6 c 34 426 34 427 428 211 212 213 214 215 433 171 3 432
noncomputable def o_290 (c : Ctx) : Obj := p_3 c 99 469
noncomputable def o_318 (c : Ctx) : Obj := p_3 c 99 500
noncomputable def o_286 (c : Ctx) : Obj := p_6 c 38 459 38 460 461 239 240 241 242 243 464 197 1 463
noncomputable def o_342 (c : Ctx) : Obj := p_6 c 46 518 46 519 520 295 296 297 298 299 523 231 1 522
noncomputable def o_262 (c : Ctx) : Obj := p_16 c 99 438 102 439 103 440 66 441
noncomputable def o_294 (c : Ctx) : Obj := p_4 c 39 29 36 100 317 251
noncomputable def o_300 (c : Ctx) : Obj := p_6 c 40 473 40 474 475 253 254 255 256 257 479 201 1 478
noncomputable def o_332 (c : Ctx) : Obj := p_3 c 99 514
noncomputable def o_308 (c : Ctx) : Obj := p_4 c 41 31 31 100 317 265
noncomputable def o_276 (c : Ctx) : Obj := p_3 c 99 455
noncomputable def o_304 (c : Ctx) : Obj := p_8 c 99 484 66 485
noncomputable def o_336 (c : Ctx) : Obj := p_4 c 45 35 36 100 317 293
noncomputable def o_272 (c : Ctx) : Obj := p_6 c 36 445 36 446 447 225 226 227 228 229 450 193 1 449
noncomputable def o_280 (c : Ctx) : Obj := p_4 c 37 27 34 100 317 237
noncomputable def o_328 (c : Ctx) : Obj := p_6 c 44 504 44 505 506 281 282 283 284 285 509 227 1 508
noncomputable def o_380 (c : Ctx) : Obj := p_6 c 72 561 105 562 563 330 331 332 333 334 567 258 2 566
noncomputable def o_356 (c : Ctx) : Obj := p_8 c 99 536 66 537
noncomputable def o_368 (c : Ctx) : Obj := .mk (.type "tuple") .none (.seq #[.type "Exception"] 0) #[]
noncomputable def o_352 (c : Ctx) : Obj := p_6 c 47 525 47 526 527 302 303 304 305 306 531 233 1 530
noncomputable def o_360 (c : Ctx) : Obj := p_4 c 48 38 38 100 317 314
noncomputable def o_366 (c : Ctx) : Obj := p_6 c 49 541 49 542 543 316 317 318 319 320 545 253 0 544
noncomputable def o_382 (c : Ctx) : Obj := p_3 c 104 569
noncomputable def o_344 (c : Ctx) : Obj := .mk .none .none (.dict #[(DictEntry.mk (PyData.keyHash c.P (c.t 0)) (.str (c.t 0) 574) (.int 339 0)), (DictEntry.mk (PyData.keyHash c.P (c.t 1)) (.str (c.t 1) 575) (.int 1 0))] 2) #[]
noncomputable def o_381 (c : Ctx) : Obj := p_11 c 72 105 41 0 41 0 106 547 335
noncomputable def o_349 (c : Ctx) : Obj := p_8 c 99 528 66 529
noncomputable def o_385 (c : Ctx) : Obj := p_13 c 571 339
noncomputable def o_353 (c : Ctx) : Obj := p_4 c 47 37 37 100 317 307
noncomputable def o_377 (c : Ctx) : Obj := p_8 c 69 564 104 565
noncomputable def o_367 (c : Ctx) : Obj := p_4 c 49 39 39 100 317 321
noncomputable def o_383 (c : Ctx) : Obj := .mk (.type "dict") .none (.dict #[(DictEntry.mk (PyData.keyHash c.P (c.t 94)) (.str (c.t 94) 556) (.str (c.t 106) 547)), (DictEntry.mk (PyData.keyHash c.P (c.t 95)) (.str (c.t 95) 560) (.int 256 559)), (DictEntry.mk (PyData.keyHash c.P (c.t 72)) (.str (c.t 72) 568) (.ref 336)), (DictEntry.mk (PyData.keyHash c.P (c.t 96)) (.str (c.t 96) 570) (.ref 337)), (DictEntry.mk (PyData.keyHash c.P (c.t 98)) (.str (c.t 98) 572) (.ref 340)), (DictEntry.mk (PyData.keyHash c.P (c.t 4)) (.str (c.t 4) 573) .none)] 3) #[]
noncomputable def o_359 (c : Ctx) : Obj := p_6 c 48 533 48 534 535 309 310 311 312 313 539 244 1 538
noncomputable def o_399 (c : Ctx) : Obj := .mk (.type "dict") .none (.dict #[(DictEntry.mk (PyData.keyHash c.P (c.t 94)) (.str (c.t 94) 585) (.str (c.t 106) 547)), (DictEntry.mk (PyData.keyHash c.P (c.t 95)) (.str (c.t 95) 589) (.int 261 588)), (DictEntry.mk (PyData.keyHash c.P (c.t 96)) (.str (c.t 96) 590) (.ref 350)), (DictEntry.mk (PyData.keyHash c.P (c.t 4)) (.str (c.t 4) 591) .none)] 2) #[]
noncomputable def o_391 (c : Ctx) : Obj := .mk (.type "tuple") .none (.seq #[.ref 339] 0) #[]
noncomputable def o_390 (c : Ctx) : Obj := .mk (.type "type") .none (.cls (.mk (c.t 50) [.type "Exception"] [.ref 339, .type "Exception", .type "BaseException", .type "object"] 338 (c.t 50) true [] [.ref 352] false .none false)) #[(some (.ref 323)), .none, (some (.str (c.t 50) 549)), (some (.str (c.t 50) 557)), (some (.builtin "Exception.__new__")), (some (.bool true))]
noncomputable def o_409 (c : Ctx) : Obj := p_4 c 52 44 44 107 594 360
noncomputable def o_405 (c : Ctx) : Obj := p_3 c 68 599
noncomputable def o_400 (c : Ctx) : Obj := .mk (.type "type") .none (.cls (.mk (c.t 51) [.ref 339] [.ref 352, .ref 339, .type "Exception", .type "BaseException", .type "object"] 351 (c.t 51) true [] [] false .none false)) #[(some (.ref 343)), .none, (some (.str (c.t 51) 578)), (some (.str (c.t 51) 586)), (some (.builtin "Exception.__new__")), (some (.bool true))]
noncomputable def o_408 (c : Ctx) : Obj := p_6 c 52 596 52 597 598 355 356 357 358 359 601 264 1 600
noncomputable def o_449 (c : Ctx) : Obj := p_10 c 53 399 398 603 611
noncomputable def o_425 (c : Ctx) : Obj := p_11 c 72 108 45 0 47 20 107 594 374
noncomputable def o_421 (c : Ctx) : Obj := p_3 c 69 618
noncomputable def o_445 (c : Ctx) : Obj := p_6 c 113 639 114 640 641 390 391 392 393 394 644 296 1 643
noncomputable def o_435 (c : Ctx) : Obj := p_3 c 69 635
noncomputable def o_451 (c : Ctx) : Obj := p_13 c 653 399
noncomputable def o_439 (c : Ctx) : Obj := p_11 c 111 112 45 2 47 20 107 594 388
noncomputable def o_447 (c : Ctx) : Obj := p_16 c 115 646 116 647 117 648 118 649
noncomputable def o_431 (c : Ctx) : Obj := p_6 c 109 622 110 623 624 376 377 378 379 380 630 280 2 629
noncomputable def o_450 (c : Ctx) : Obj := p_14 c 651 399
noncomputable def o_442 (c : Ctx) : Obj := p_3 c 69 642
noncomputable def o_438 (c : Ctx) : Obj := p_6 c 111 632 112 633 634 383 384 385 386 387 637 293 1 636
noncomputable def o_446 (c : Ctx) : Obj := p_11 c 113 114 45 3 47 19 107 594 395
noncomputable def o_428 (c : Ctx) : Obj := p_16 c 69 625 77 626 66 627 101 628
noncomputable def o_424 (c : Ctx) : Obj := p_6 c 72 615 108 616 617 369 370 371 372 373 620 274 1 619
noncomputable def o_448 (c : Ctx) : Obj := .mk (.type "dict") .none (.dict #[(DictEntry.mk (PyData.keyHash c.P (c.t 94)) (.str (c.t 94) 610) (.str (c.t 107) 594)), (DictEntry.mk (PyData.keyHash c.P (c.t 95)) (.str (c.t 95) 614) (.int 272 613)), (DictEntry.mk (PyData.keyHash c.P (c.t 72)) (.str (c.t 72) 621) (.ref 375)), (DictEntry.mk (PyData.keyHash c.P (c.t 109)) (.str (c.t 109) 631) (.ref 382)), (DictEntry.mk (PyData.keyHash c.P (c.t 111)) (.str (c.t 111) 638) (.ref 389)), (DictEntry.mk (PyData.keyHash c.P (c.t 113)) (.str (c.t 113) 645) (.ref 396)), (DictEntry.mk (PyData.keyHash c.P (c.t 96)) (.str (c.t 96) 650) (.ref 397)), (DictEntry.mk (PyData.keyHash c.P (c.t 97)) (.str (c.t 97) 652) (.ref 400)), (DictEntry.mk (PyData.keyHash c.P (c.t 98)) (.str (c.t 98) 654) (.ref 401)), (DictEntry.mk (PyData.keyHash c.P (c.t 4)) (.str (c.t 4) 655) .none)] 4) #[]
noncomputable def o_432 (c : Ctx) : Obj := p_11 c 109 110 45 1 45 1 107 594 381
noncomputable def o_579 (c : Ctx) : Obj := p_3 c 69 808
noncomputable def o_515 (c : Ctx) : Obj := p_8 c 69 734 87 735
noncomputable def o_611 (c : Ctx) : Obj := p_11 c 169 170 47 20 47 20 124 658 558
noncomputable def o_483 (c : Ctx) : Obj := p_6 c 111 692 126 693 694 426 427 428 429 430 697 321 1 696
noncomputable def o_547 (c : Ctx) : Obj := p_11 c 146 147 47 11 47 20 124 658 494
noncomputable def o_603 (c : Ctx) : Obj := p_6 c 167 828 168 829 830 546 547 548 549 550 833 411 1 832
noncomputable def o_539 (c : Ctx) : Obj := p_6 c 144 756 145 757 758 482 483 484 485 486 762 354 1 761
noncomputable def o_491 (c : Ctx) : Obj := p_11 c 128 129 47 3 47 3 124 658 438
noncomputable def o_555 (c : Ctx) : Obj := .mk (.type "tuple") .none (.seq #[.bool false] 0) #[]
noncomputable def o_583 (c : Ctx) : Obj := p_11 c 159 160 47 16 47 20 124 658 530
noncomputable def o_519 (c : Ctx) : Obj := p_11 c 136 137 47 7 47 7 124 658 466
noncomputable def o_615 (c : Ctx) : Obj := p_14 c 857 562
noncomputable def o_487 (c : Ctx) : Obj := p_8 c 69 702 127 703
noncomputable def o_575 (c : Ctx) : Obj := p_6 c 157 798 158 799 800 518 519 520 521 522 803 388 1 802
noncomputable def o_511 (c : Ctx) : Obj := p_6 c 134 723 135 724 725 454 455 456 457 458 729 339 2 728
noncomputable def o_607 (c : Ctx) : Obj := p_3 c 69 838
noncomputable def o_543 (c : Ctx) : Obj := p_3 c 69 767
noncomputable def o_463 (c : Ctx) : Obj := p_8 c 119 672 120 673
noncomputable def o_565 (c : Ctx) : Obj := p_8 c 69 793 113 794
noncomputable def o_501 (c : Ctx) : Obj := p_8 c 69 718 122 719
noncomputable def o_597 (c : Ctx) : Obj := p_11 c 165 166 47 18 47 18 124 658 544
noncomputable def o_469 (c : Ctx) : Obj := p_6 c 72 674 123 675 676 412 413 414 415 416 682 301 4 681
noncomputable def o_533 (c : Ctx) : Obj := p_11 c 141 142 47 9 47 9 124 658 480
noncomputable def o_613 (c : Ctx) : Obj := .mk (.type "dict") .none (.dict #[(DictEntry.mk (PyData.keyHash c.P (c.t 94)) (.str (c.t 94) 667) (.str (c.t 124) 658)), (DictEntry.mk (PyData.keyHash c.P (c.t 95)) (.str (c.t 95) 671) (.int 299 670)), (DictEntry.mk (PyData.keyHash c.P (c.t 72)) (.str (c.t 72) 683) (.ref 418)), (DictEntry.mk (PyData.keyHash c.P (c.t 109)) (.str (c.t 109) 691) (.ref 425)), (DictEntry.mk (PyData.keyHash c.P (c.t 111)) (.str (c.t 111) 698) (.ref 432)), (DictEntry.mk (PyData.keyHash c.P (c.t 128)) (.str (c.t 128) 706) (.ref 439)), (DictEntry.mk (PyData.keyHash c.P (c.t 130)) (.str (c.t 130) 714) (.ref 446)), (DictEntry.mk (PyData.keyHash c.P (c.t 132)) (.str (c.t 132) 722) (.ref 453)), (DictEntry.mk (PyData.keyHash c.P (c.t 134)) (.str (c.t 134) 730) (.ref 460)), (DictEntry.mk (PyData.keyHash c.P (c.t 136)) (.str (c.t 136) 738) (.ref 467)), (DictEntry.mk (PyData.keyHash c.P (c.t 139)) (.str (c.t 139) 746) (.ref 474)), (DictEntry.mk (PyData.keyHash c.P (c.t 141)) (.str (c.t 141) 755) (.ref 481)), (DictEntry.mk (PyData.keyHash c.P (c.t 144)) (.str (c.t 144) 763) (.ref 488)), (DictEntry.mk (PyData.keyHash c.P (c.t 146)) (.str (c.t 146) 770) (.ref 495)), (DictEntry.mk (PyData.keyHash c.P (c.t 148)) (.str (c.t 148) 777) (.ref 502)), (DictEntry.mk (PyData.keyHash c.P (c.t 153)) (.str (c.t 153) 789) (.ref 510)), (DictEntry.mk (PyData.keyHash c.P (c.t 155)) (.str (c.t 155) 797) (.ref 517)), (DictEntry.mk (PyData.keyHash c.P (c.t 157)) (.str (c.t 157) 804) (.ref 524)), (DictEntry.mk (PyData.keyHash c.P (c.t 159)) (.str (c.t 159) 811) (.ref 531)), (DictEntry.mk (PyData.keyHash c.P (c.t 161)) (.str (c.t 161) 818) (.ref 538)), (DictEntry.mk (PyData.keyHash c.P (c.t 165)) (.str (c.t 165) 827) (.ref 545)), (DictEntry.mk (PyData.keyHash c.P (c.t 167)) (.str (c.t 167) 834) (.ref 552)), (DictEntry.mk (PyData.keyHash c.P (c.t 169)) (.str (c.t 169) 841) (.ref 559)), (DictEntry.mk (PyData.keyHash c.P (c.t 96)) (.str (c.t 96) 856) (.ref 560)), (DictEntry.mk (PyData.keyHash c.P (c.t 97)) (.str (c.t 97) 858) (.ref 563)), (DictEntry.mk (PyData.keyHash c.P (c.t 98)) (.str (c.t 98) 860) (.ref 564)), (DictEntry.mk (PyData.keyHash c.P (c.t 4)) (.str (c.t 4) 861) .none)] 4) #[]
noncomputable def o_477 (c : Ctx) : Obj := p_11 c 109 125 47 1 47 1 124 658 424
noncomputable def o_589 (c : Ctx) : Obj := p_6 c 161 812 162 813 814 532 533 534 535 536 817 394 1 816
noncomputable def o_525 (c : Ctx) : Obj := p_6 c 139 739 140 740 741 468 469 470 471 472 745 347 2 744
noncomputable def o_569 (c : Ctx) : Obj := p_11 c 155 156 47 14 47 14 124 658 516
noncomputable def o_505 (c : Ctx) : Obj := p_11 c 132 133 47 5 47 5 124 658 452
noncomputable def o_473 (c : Ctx) : Obj := p_8 c 69 687 77 688
noncomputable def o_553 (c : Ctx) : Obj := p_6 c 148 771 149 772 773 496 497 498 499 500 776 368 1 775
noncomputable def o_593 (c : Ctx) : Obj := p_12 c 69 822 163 823 164 824
noncomputable def o_529 (c : Ctx) : Obj := p_12 c 69 750 77 751 138 752
noncomputable def o_497 (c : Ctx) : Obj := p_6 c 130 707 131 708 709 440 441 442 443 444 713 332 2 712
noncomputable def o_561 (c : Ctx) : Obj := p_6 c 153 778 154 779 780 504 505 506 507 508 788 371 3 787
noncomputable def o_596 (c : Ctx) : Obj := p_6 c 165 819 166 820 821 539 540 541 542 543 826 401 1 825
noncomputable def o_532 (c : Ctx) : Obj := p_6 c 141 747 142 748 749 475 476 477 478 479 754 350 2 753
noncomputable def o_612 (c : Ctx) : Obj := .mk (.type "tuple") .none (.seq #[.str (c.t 127) 842, .str (c.t 171) 843, .str (c.t 172) 844, .str (c.t 101) 845, .str (c.t 143) 846, .str (c.t 115) 847, .str (c.t 173) 848, .str (c.t 174) 849, .str (c.t 175) 850, .str (c.t 80) 851, .str (c.t 176) 852, .str (c.t 122) 853, .str (c.t 121) 854, .str (c.t 177) 855] 0) #[]
noncomputable def o_484 (c : Ctx) : Obj := p_11 c 111 126 47 2 47 20 124 658 431
noncomputable def o_572 (c : Ctx) : Obj := p_3 c 69 801
noncomputable def o_508 (c : Ctx) : Obj := p_8 c 69 726 101 727
noncomputable def o_604 (c : Ctx) : Obj := p_11 c 167 168 47 19 47 19 124 658 551
noncomputable def o_476 (c : Ctx) : Obj := p_6 c 109 684 125 685 686 419 420 421 422 423 690 317 2 689
noncomputable def o_540 (c : Ctx) : Obj := p_11 c 144 145 47 10 47 10 124 658 487
noncomputable def o_568 (c : Ctx) : Obj := p_6 c 155 790 156 791 792 511 512 513 514 515 796 385 2 795
noncomputable def o_504 (c : Ctx) : Obj := p_6 c 132 715 133 716 717 447 448 449 450 451 721 335 2 720
noncomputable def o_600 (c : Ctx) : Obj := p_3 c 69 831
noncomputable def o_536 (c : Ctx) : Obj := p_8 c 69 759 143 760
noncomputable def o_616 (c : Ctx) : Obj := p_13 c 859 562
noncomputable def o_576 (c : Ctx) : Obj := p_11 c 157 158 47 15 47 20 124 658 523
noncomputable def o_512 (c : Ctx) : Obj := p_11 c 134 135 47 6 47 6 124 658 459
noncomputable def o_480 (c : Ctx) : Obj := p_3 c 69 695
noncomputable def o_470 (c : Ctx) : Obj := .mk (.type "function") .none (.func (.mk (c.t 72) (c.t 123) (fP (md c.g 47 0)) (.stmts (fB (md c.g 47 0))) (fS (md c.g 47 0)) 3 [] (.ref 411) .none .none (.str (c.t 124) 658) .none (.ref 417) .none 0)) #[]
noncomputable def o_582 (c : Ctx) : Obj := p_6 c 159 805 160 806 807 525 526 527 528 529 810 391 1 809
noncomputable def o_518 (c : Ctx) : Obj := p_6 c 136 731 137 732 733 461 462 463 464 465 737 342 2 736
noncomputable def o_614 (c : Ctx) : Obj := p_10 c 54 562 561 660 668
noncomputable def o_550 (c : Ctx) : Obj := p_3 c 69 774
noncomputable def o_590 (c : Ctx) : Obj := p_11 c 161 162 47 17 47 20 124 658 537
noncomputable def o_526 (c : Ctx) : Obj := p_11 c 139 140 47 8 47 8 124 658 473
noncomputable def o_494 (c : Ctx) : Obj := p_8 c 69 710 122 711
noncomputable def o_558 (c : Ctx) : Obj := .mk (.type "tuple") .none (.seq #[.str (c.t 69) 781, .str (c.t 150) 782, .str (c.t 151) 783, .str (c.t 118) 784, .str (c.t 152) 785, .str (c.t 138) 786] 0) #[]
noncomputable def o_586 (c : Ctx) : Obj := p_3 c 69 815
noncomputable def o_522 (c : Ctx) : Obj := p_8 c 69 742 138 743
noncomputable def o_490 (c : Ctx) : Obj := p_6 c 128 699 129 700 701 433 434 435 436 437 705 325 1 704
noncomputable def o_554 (c : Ctx) : Obj := p_11 c 148 149 47 12 47 12 124 658 501
noncomputable def o_610 (c : Ctx) : Obj := p_6 c 169 835 170 836 837 553 554 555 556 557 840 416 1 839
noncomputable def o_546 (c : Ctx) : Obj := p_6 c 146 764 147 765 766 489 490 491 492 493 769 364 1 768
noncomputable def o_466 (c : Ctx) : Obj := p_16 c 69 677 121 678 122 679 80 680
noncomputable def o_498 (c : Ctx) : Obj := p_11 c 130 131 47 4 47 5 124 658 445
noncomputable def o_562 (c : Ctx) : Obj := .mk (.type "function") .none (.func (.mk (c.t 153) (c.t 154) (fP (md c.g 47 13)) (.stmts (fB (md c.g 47 13))) (fS (md c.g 47 13)) 3 [] (.ref 503) .none .none (.str (c.t 124) 658) .none (.ref 509) .none 0)) #[]
noncomputable def o_708 (c : Ctx) : Obj := .mk (.type "dict") .none (.dict #[(DictEntry.mk (PyData.keyHash c.P (c.t 2)) (.str (c.t 2) 165) (.str (c.t 3) 864)), (DictEntry.mk (PyData.keyHash c.P (c.t 4)) (.str (c.t 4) 166) .none), (DictEntry.mk (PyData.keyHash c.P (c.t 5)) (.str (c.t 5) 167) .none), (DictEntry.mk (PyData.keyHash c.P (c.t 6)) (.str (c.t 6) 168) (.builtin "__main__.__loader__#opaque")), (DictEntry.mk (PyData.keyHash c.P (c.t 7)) (.str (c.t 7) 169) .none), (DictEntry.mk (PyData.keyHash c.P (c.t 8)) (.str (c.t 8) 170) (.ref 6)), (DictEntry.mk (PyData.keyHash c.P (c.t 9)) (.str (c.t 9) 171) (.ref 4)), (DictEntry.mk (PyData.keyHash c.P (c.t 10)) (.str (c.t 10) 173) (.str (c.t 11) 172)), (DictEntry.mk (PyData.keyHash c.P (c.t 12)) (.str (c.t 12) 174) .none), (DictEntry.mk (PyData.keyHash c.P (c.t 13)) (.str (c.t 13) 193) (.ref 21)), (DictEntry.mk (PyData.keyHash c.P (c.t 14)) (.str (c.t 14) 202) (.ref 28)), (DictEntry.mk (PyData.keyHash c.P (c.t 15)) (.str (c.t 15) 209) (.ref 35)), (DictEntry.mk (PyData.keyHash c.P (c.t 16)) (.str (c.t 16) 216) (.ref 42)), (DictEntry.mk (PyData.keyHash c.P (c.t 17)) (.str (c.t 17) 223) (.ref 49)), (DictEntry.mk (PyData.keyHash c.P (c.t 18)) (.str (c.t 18) 230) (.ref 56)), (DictEntry.mk (PyData.keyHash c.P (c.t 19)) (.str (c.t 19) 237) (.ref 63)), (DictEntry.mk (PyData.keyHash c.P (c.t 20)) (.str (c.t 20) 316) (.ref 115)), (DictEntry.mk (PyData.keyHash c.P (c.t 21)) (.str (c.t 21) 326) (.ref 126)), (DictEntry.mk (PyData.keyHash c.P (c.t 22)) (.str (c.t 22) 333) (.ref 133)), (DictEntry.mk (PyData.keyHash c.P (c.t 23)) (.str (c.t 23) 340) (.ref 140)), (DictEntry.mk (PyData.keyHash c.P (c.t 24)) (.str (c.t 24) 347) (.ref 147)), (DictEntry.mk (PyData.keyHash c.P (c.t 25)) (.str (c.t 25) 355) (.ref 154)), (DictEntry.mk (PyData.keyHash c.P (c.t 26)) (.str (c.t 26) 364) (.ref 161)), (DictEntry.mk (PyData.keyHash c.P (c.t 27)) (.str (c.t 27) 373) (.ref 168)), (DictEntry.mk (PyData.keyHash c.P (c.t 28)) (.str (c.t 28) 381) (.ref 175)), (DictEntry.mk (PyData.keyHash c.P (c.t 29)) (.str (c.t 29) 389) (.ref 182)), (DictEntry.mk (PyData.keyHash c.P (c.t 30)) (.str (c.t 30) 397) (.ref 189)), (DictEntry.mk (PyData.keyHash c.P (c.t 31)) (.str (c.t 31) 407) (.ref 196)), (DictEntry.mk (PyData.keyHash c.P (c.t 32)) (.str (c.t 32) 416) (.ref 203)), (DictEntry.mk (PyData.keyHash c.P (c.t 33)) (.str (c.t 33) 425) (.ref 210)), (DictEntry.mk (PyData.keyHash c.P (c.t 34)) (.str (c.t 34) 434) (.ref 217)), (DictEntry.mk (PyData.keyHash c.P (c.t 35)) (.str (c.t 35) 444) (.ref 224)), (DictEntry.mk (PyData.keyHash c.P (c.t 36)) (.str (c.t 36) 451) (.ref 231)), (DictEntry.mk (PyData.keyHash c.P (c.t 37)) (.str (c.t 37) 458) (.ref 238)), (DictEntry.mk (PyData.keyHash c.P (c.t 38)) (.str (c.t 38) 465) (.ref 245)), (DictEntry.mk (PyData.keyHash c.P (c.t 39)) (.str (c.t 39) 472) (.ref 252)), (DictEntry.mk (PyData.keyHash c.P (c.t 40)) (.str (c.t 40) 480) (.ref 259)), (DictEntry.mk (PyData.keyHash c.P (c.t 41)) (.str (c.t 41) 488) (.ref 266)), (DictEntry.mk (PyData.keyHash c.P (c.t 42)) (.str (c.t 42) 496) (.ref 273)), (DictEntry.mk (PyData.keyHash c.P (c.t 43)) (.str (c.t 43) 503) (.ref 280)), (DictEntry.mk (PyData.keyHash c.P (c.t 44)) (.str (c.t 44) 510) (.ref 287)), (DictEntry.mk (PyData.keyHash c.P (c.t 45)) (.str (c.t 45) 517) (.ref 294)), (DictEntry.mk (PyData.keyHash c.P (c.t 46)) (.str (c.t 46) 524) (.ref 301)), (DictEntry.mk (PyData.keyHash c.P (c.t 47)) (.str (c.t 47) 532) (.ref 308)), (DictEntry.mk (PyData.keyHash c.P (c.t 48)) (.str (c.t 48) 540) (.ref 315)), (DictEntry.mk (PyData.keyHash c.P (c.t 49)) (.str (c.t 49) 546) (.ref 322)), (DictEntry.mk (PyData.keyHash c.P (c.t 50)) (.str (c.t 50) 577) (.ref 339)), (DictEntry.mk (PyData.keyHash c.P (c.t 51)) (.str (c.t 51) 593) (.ref 352)), (DictEntry.mk (PyData.keyHash c.P (c.t 52)) (.str (c.t 52) 602) (.ref 361)), (DictEntry.mk (PyData.keyHash c.P (c.t 53)) (.str (c.t 53) 657) (.ref 399)), (DictEntry.mk (PyData.keyHash c.P (c.t 54)) (.str (c.t 54) 863) (.ref 562)), (DictEntry.mk (PyData.keyHash c.P (c.t 55)) (.str (c.t 55) 873) (.ref 573)), (DictEntry.mk (PyData.keyHash c.P (c.t 56)) (.str (c.t 56) 886) (.ref 580)), (DictEntry.mk (PyData.keyHash c.P (c.t 57)) (.str (c.t 57) 894) (.ref 587)), (DictEntry.mk (PyData.keyHash c.P (c.t 58)) (.str (c.t 58) 904) (.ref 594)), (DictEntry.mk (PyData.keyHash c.P (c.t 59)) (.str (c.t 59) 911) (.ref 601)), (DictEntry.mk (PyData.keyHash c.P (c.t 60)) (.str (c.t 60) 920) (.ref 608)), (DictEntry.mk (PyData.keyHash c.P (c.t 61)) (.str (c.t 61) 926) (.ref 613)), (DictEntry.mk (PyData.keyHash c.P (c.t 62)) (.str (c.t 62) 934) (.ref 620)), (DictEntry.mk (PyData.keyHash c.P (c.t 63)) (.str (c.t 63) 940) (.ref 625))] 60) #[]
noncomputable def o_750 (c : Ctx) : Obj := p_6 c 60 912 60 913 914 602 603 604 605 606 919 441 2 918
noncomputable def o_726 (c : Ctx) : Obj := p_8 c 180 890 181 891
noncomputable def o_722 (c : Ctx) : Obj := p_6 c 56 874 56 875 876 574 575 576 577 578 885 423 4 884
noncomputable def o_730 (c : Ctx) : Obj := p_4 c 57 51 51 3 864 586
noncomputable def o_762 (c : Ctx) : Obj := p_6 c 62 927 62 928 929 614 615 616 617 618 933 469 1 932
noncomputable def o_736 (c : Ctx) : Obj := p_6 c 58 895 58 896 897 588 589 590 591 592 903 433 2 902
noncomputable def o_768 (c : Ctx) : Obj := p_4 c 63 57 57 3 864 624
noncomputable def o_744 (c : Ctx) : Obj := p_4 c 59 53 53 3 864 600
noncomputable def o_712 (c : Ctx) : Obj := p_8 c 178 869 179 870
noncomputable def o_756 (c : Ctx) : Obj := p_4 c 61 55 55 3 864 612
noncomputable def o_740 (c : Ctx) : Obj := p_3 c 77 908
noncomputable def o_716 (c : Ctx) : Obj := p_4 c 55 49 49 3 864 572
noncomputable def o_719 (c : Ctx) : Obj := .mk (.type "tuple") .none (.seq #[.str (c.t 180) 877, .str (c.t 118) 878, .str (c.t 181) 879, .str (c.t 182) 880, .str (c.t 113) 881, .str (c.t 176) 882, .str (c.t 64) 883] 0) #[]
noncomputable def o_751 (c : Ctx) : Obj := p_4 c 60 54 54 3 864 607
noncomputable def o_767 (c : Ctx) : Obj := .mk (.type "code") .none (.fields #[.str (c.t 63) 935, .str (c.t 63) 936, .str (c.t 11) 937, .int 477 0, .int 1 0, .int 0 0, .int 0 0, .int 3 0, .ref 621, .bool true, .int 181 0, .ref 622, .none, .none, .none, .ref 623, .int 938 0, .int 477 0, .str (c.t 11) 939]) #[]
noncomputable def o_759 (c : Ctx) : Obj := p_8 c 99 930 66 931
noncomputable def o_743 (c : Ctx) : Obj := p_6 c 59 905 59 906 907 595 596 597 598 599 910 439 1 909
noncomputable def o_723 (c : Ctx) : Obj := p_4 c 56 50 50 3 864 579
noncomputable def o_755 (c : Ctx) : Obj := .mk (.type "code") .none (.fields #[.str (c.t 61) 921, .str (c.t 61) 922, .str (c.t 11) 923, .int 444 0, .int 2 0, .int 0 0, .int 0 0, .int 3 0, .ref 609, .bool true, .int 181 0, .ref 610, .none, .none, .none, .ref 611, .int 924 0, .int 444 0, .str (c.t 11) 925]) #[]
noncomputable def o_763 (c : Ctx) : Obj := p_4 c 62 56 56 3 864 619
noncomputable def o_747 (c : Ctx) : Obj := p_12 c 180 915 103 916 183 917
noncomputable def o_715 (c : Ctx) : Obj := p_6 c 55 866 55 867 868 567 568 569 570 571 872 421 2 871
noncomputable def o_737 (c : Ctx) : Obj := p_4 c 58 52 52 3 864 593
noncomputable def o_729 (c : Ctx) : Obj := p_6 c 57 887 57 888 889 581 582 583 584 585 893 431 2 892
noncomputable def o_733 (c : Ctx) : Obj := p_16 c 77 898 180 899 176 900 66 901
noncomputable def KK (c : Ctx) : Frag := [(2, o_344 c), (3, o_708 c), (15, o_43 c), (17, o_53 c), (18, o_43 c), (20, o_56 c), (21, o_57 c), (22, o_43 c), (24, o_60 c), (25, o_43 c), (27, o_63 c), (28, o_64 c), (29, o_43 c), (31, o_67 c), (32, o_43 c), (34, o_70 c), (35, o_71 c), (36, o_43 c), (38, o_74 c), (39, o_43 c), (41, o_77 c), (42, o_78 c), (43, o_43 c), (45, o_81 c), (46, o_43 c), (48, o_84 c), (49, o_85 c), (50, o_43 c), (52, o_88 c), (53, o_43 c), (55, o_91 c), (56, o_92 c), (57, o_43 c), (59, o_95 c), (60, o_43 c), (62, o_98 c), (63, o_99 c), (71, o_43 c), (73, o_111 c), (74, o_43 c), (76, o_114 c), (77, o_115 c), (78, o_43 c), (80, o_118 c), (81, o_43 c), (83, o_121 c), (84, o_122 c), (85, o_43 c), (87, o_125 c), (88, o_43 c), (90, o_128 c), (91, o_129 c), (92, o_43 c), (94, o_132 c), (95, o_43 c), (97, o_135 c), (98, o_136 c), (99, o_43 c), (101, o_139 c), (102, o_43 c), (104, o_142 c), (105, o_143 c), (106, o_43 c), (108, o_146 c), (109, o_43 c), (111, o_149 c), (112, o_150 c), (113, o_151 c), (114, o_152 c), (115, o_153 c), (116, o_154 c), (117, o_155 c), (120, o_43 c), (122, o_162 c), (123, o_43 c), (125, o_165 c), (126, o_166 c), (127, o_43 c), (129, o_169 c), (130, o_43 c), (132, o_172 c), (133, o_173 c), (134, o_43 c), (136, o_176 c), (137, o_43 c), (139, o_179 c), (140, o_180 c), (141, o_43 c), (143, o_183 c), (144, o_43 c), (146, o_186 c), (147, o_187 c), (148, o_43 c), (150, o_190 c), (151, o_43 c), (153, o_193 c), (154, o_194 c), (155, o_43 c), (157, o_197 c), (158, o_43 c), (160, o_200 c), (161, o_201 c), (162, o_43 c), (164, o_204 c), (165, o_43 c), (167, o_207 c), (168, o_208 c), (169, o_43 c), (171, o_211 c), (172, o_43 c), (174, o_214 c), (175, o_215 c), (176, o_43 c), (178, o_218 c), (179, o_43 c), (181, o_221 c), (182, o_222 c), (183, o_43 c), (185, o_225 c), (186, o_43 c), (188, o_228 c), (189, o_229 c), (190, o_43 c), (192, o_232 c), (193, o_43 c), (195, o_235 c), (196, o_236 c), (197, o_43 c), (199, o_239 c), (200, o_43 c), (202, o_242 c), (203, o_243 c), (204, o_43 c), (206, o_246 c), (207, o_43 c), (209, o_249 c), (210, o_250 c), (211, o_43 c), (213, o_255 c), (214, o_43 c), (216, o_258 c), (217, o_259 c), (218, o_43 c), (220, o_262 c), (221, o_43 c), (223, o_265 c), (224, o_266 c), (225, o_43 c), (227, o_269 c), (228, o_43 c), (230, o_272 c), (231, o_273 c), (232, o_43 c), (234, o_276 c), (235, o_43 c), (237, o_279 c), (238, o_280 c), (239, o_43 c), (241, o_283 c), (242, o_43 c), (244, o_286 c), (245, o_287 c), (246, o_43 c), (248, o_290 c), (249, o_43 c), (251, o_293 c), (252, o_294 c), (253, o_43 c), (255, o_297 c), (256, o_43 c), (258, o_300 c), (259, o_301 c), (260, o_43 c), (262, o_304 c), (263, o_43 c), (265, o_307 c), (266, o_308 c), (267, o_43 c), (269, o_311 c), (270, o_43 c), (272, o_314 c), (273, o_315 c), (274, o_43 c), (276, o_318 c), (277, o_43 c), (279, o_321 c), (280, o_322 c), (281, o_43 c), (283, o_325 c), (284, o_43 c), (286, o_328 c), (287, o_329 c), (288, o_43 c), (290, o_332 c), (291, o_43 c), (293, o_335 c), (294, o_336 c), (295, o_43 c), (297, o_339 c), (298, o_43 c), (300, o_342 c), (301, o_343 c), (302, o_43 c), (304, o_349 c), (305, o_43 c), (307, o_352 c), (308, o_353 c), (309, o_43 c), (311, o_356 c), (312, o_43 c), (314, o_359 c), (315, o_360 c), (316, o_43 c), (318, o_43 c), (319, o_43 c), (321, o_366 c), (322, o_367 c), (323, o_368 c), (330, o_43 c), (332, o_377 c), (333, o_43 c), (335, o_380 c), (336, o_381 c), (337, o_382 c), (338, o_383 c), (339, o_390 c), (340, o_385 c), (343, o_391 c), (350, o_43 c), (351, o_399 c), (352, o_400 c), (355, o_43 c), (357, o_405 c), (358, o_43 c), (360, o_408 c), (361, o_409 c), (369, o_43 c), (371, o_421 c), (372, o_43 c), (374, o_424 c), (375, o_425 c), (376, o_43 c), (378, o_428 c), (379, o_43 c), (381, o_431 c), (382, o_432 c), (383, o_43 c), (385, o_435 c), (386, o_43 c), (388, o_438 c), (389, o_439 c), (390, o_43 c), (392, o_442 c), (393, o_43 c), (395, o_445 c), (396, o_446 c), (397, o_447 c), (398, o_448 c), (399, o_449 c), (400, o_450 c), (401, o_451 c), (411, o_463 c), (412, o_43 c), (414, o_466 c), (415, o_43 c), (417, o_469 c), (418, o_470 c), (419, o_43 c), (421, o_473 c), (422, o_43 c), (424, o_476 c), (425, o_477 c), (426, o_43 c), (428, o_480 c), (429, o_43 c), (431, o_483 c), (432, o_484 c), (433, o_43 c), (435, o_487 c), (436, o_43 c), (438, o_490 c), (439, o_491 c), (440, o_43 c), (442, o_494 c), (443, o_43 c), (445, o_497 c), (446, o_498 c), (447, o_43 c), (449, o_501 c), (450, o_43 c), (452, o_504 c), (453, o_505 c), (454, o_43 c), (456, o_508 c), (457, o_43 c), (459, o_511 c), (460, o_512 c), (461, o_43 c), (463, o_515 c), (464, o_43 c), (466, o_518 c), (467, o_519 c), (468, o_43 c), (470, o_522 c), (471, o_43 c), (473, o_525 c), (474, o_526 c), (475, o_43 c), (477, o_529 c), (478, o_43 c), (480, o_532 c), (481, o_533 c), (482, o_43 c), (484, o_536 c), (485, o_43 c), (487, o_539 c), (488, o_540 c), (489, o_43 c), (491, o_543 c), (492, o_43 c), (494, o_546 c), (495, o_547 c), (496, o_43 c), (498, o_550 c), (499, o_43 c), (501, o_553 c), (502, o_554 c), (503, o_555 c), (504, o_43 c), (506, o_558 c), (507, o_43 c), (509, o_561 c), (510, o_562 c), (511, o_43 c), (513, o_565 c), (514, o_43 c), (516, o_568 c), (517, o_569 c), (518, o_43 c), (520, o_572 c), (521, o_43 c), (523, o_575 c), (524, o_576 c), (525, o_43 c), (527, o_579 c), (528, o_43 c), (530, o_582 c), (531, o_583 c), (532, o_43 c), (534, o_586 c), (535, o_43 c), (537, o_589 c), (538, o_590 c), (539, o_43 c), (541, o_593 c), (542, o_43 c), (544, o_596 c), (545, o_597 c), (546, o_43 c), (548, o_600 c), (549, o_43 c), (551, o_603 c), (552, o_604 c), (553, o_43 c), (555, o_607 c), (556, o_43 c), (558, o_610 c), (559, o_611 c), (560, o_612 c), (561, o_613 c), (562, o_614 c), (563, o_615 c), (564, o_616 c), (567, o_43 c), (569, o_712 c), (570, o_43 c), (572, o_715 c), (573, o_716 c), (574, o_43 c), (576, o_719 c), (577, o_43 c), (579, o_722 c), (580, o_723 c), (581, o_43 c), (583, o_726 c), (584, o_43 c), (586, o_729 c), (587, o_730 c), (588, o_43 c), (590, o_733 c), (591, o_43 c), (593, o_736 c), (594, o_737 c), (595, o_43 c), (597, o_740 c), (598, o_43 c), (600, o_743 c), (601, o_744 c), (602, o_43 c), (604, o_747 c), (605, o_43 c), (607, o_750 c), (608, o_751 c), (609, o_43 c), (612, o_755 c), (613, o_756 c), (614, o_43 c), (616, o_759 c), (617, o_43 c), (619, o_762 c), (620, o_763 c), (621, o_43 c), (624, o_767 c), (625, o_768 c)]
noncomputable abbrev asK : List Addr := [2, 3, 15, 17, 18, 20, 21, 22, 24, 25, 27, 28, 29, 31, 32, 34, 35, 36, 38, 39, 41, 42, 43, 45, 46, 48, 49, 50, 52, 53, 55, 56, 57, 59, 60, 62, 63, 71, 73, 74, 76, 77, 78, 80, 81, 83, 84, 85, 87, 88, 90, 91, 92, 94, 95, 97, 98, 99, 101, 102, 104, 105, 106, 108, 109, 111, 112, 113, 114, 115, 116, 117, 120, 122, 123, 125, 126, 127, 129, 130, 132, 133, 134, 136, 137, 139, 140, 141, 143, 144, 146, 147, 148, 150, 151, 153, 154, 155, 157, 158, 160, 161, 162, 164, 165, 167, 168, 169, 171, 172, 174, 175, 176, 178, 179, 181, 182, 183, 185, 186, 188, 189, 190, 192, 193, 195, 196, 197, 199, 200, 202, 203, 204, 206, 207, 209, 210, 211, 213, 214, 216, 217, 218, 220, 221, 223, 224, 225, 227, 228, 230, 231, 232, 234, 235, 237, 238, 239, 241, 242, 244, 245, 246, 248, 249, 251, 252, 253, 255, 256, 258, 259, 260, 262, 263, 265, 266, 267, 269, 270, 272, 273, 274, 276, 277, 279, 280, 281, 283, 284, 286, 287, 288, 290, 291, 293, 294, 295, 297, 298, 300, 301, 302, 304, 305, 307, 308, 309, 311, 312, 314, 315, 316, 318, 319, 321, 322, 323, 330, 332, 333, 335, 336, 337, 338, 339, 340, 343, 350, 351, 352, 355, 357, 358, 360, 361, 369, 371, 372, 374, 375, 376, 378, 379, 381, 382, 383, 385, 386, 388, 389, 390, 392, 393, 395, 396, 397, 398, 399, 400, 401, 411, 412, 414, 415, 417, 418, 419, 421, 422, 424, 425, 426, 428, 429, 431, 432, 433, 435, 436, 438, 439, 440, 442, 443, 445, 446, 447, 449, 450, 452, 453, 454, 456, 457, 459, 460, 461, 463, 464, 466, 467, 468, 470, 471, 473, 474, 475, 477, 478, 480, 481, 482, 484, 485, 487, 488, 489, 491, 492, 494, 495, 496, 498, 499, 501, 502, 503, 504, 506, 507, 509, 510, 511, 513, 514, 516, 517, 518, 520, 521, 523, 524, 525, 527, 528, 530, 531, 532, 534, 535, 537, 538, 539, 541, 542, 544, 545, 546, 548, 549, 551, 552, 553, 555, 556, 558, 559, 560, 561, 562, 563, 564, 567, 569, 570, 572, 573, 574, 576, 577, 579, 580, 581, 583, 584, 586, 587, 588, 590, 591, 593, 594, 595, 597, 598, 600, 601, 602, 604, 605, 607, 608, 609, 612, 613, 614, 616, 617, 619, 620, 621, 624, 625]
noncomputable def kf (P : Params) : Frag := KK ⟨at1.get, PySem.Challenge.pw_nt0612_01, P⟩
noncomputable def kh : Hook := kHook kf asK fun Z => by kernel_rfl
set_option maxRecDepth 100000 in
theorem wsa : namesResolve PySem.Challenge.pw_nt0612_01 = true := by kernel_rfl
set_option maxRecDepth 100000 in
theorem wsb : noRoadLSs { strict := !(importedModules (Program.main PySem.Challenge.pw_nt0612_01).body).all cThrough.contains, foot := none, bare := (["vars", "dir", "locals"] : List Str).filter (readsOut PySem.Challenge.pw_nt0612_01 (Program.main PySem.Challenge.pw_nt0612_01).body) } (Program.main PySem.Challenge.pw_nt0612_01).body = true := by kernel_rfl
set_option maxRecDepth 100000 in
theorem wsc : (namesMeet PySem.Challenge.pw_nt0612_01 (Program.main PySem.Challenge.pw_nt0612_01).body fun Z n => attrL n) = true := by kernel_rfl
set_option maxRecDepth 100000 in
theorem wsd : looksOpen (OpenLaw.row PySem.Challenge.rw_nt0612_01).prog = true := by
  show looksOpen PySem.Challenge.pw_nt0612_01 = true
  unfold looksOpen
  exact look_both (look_both (look_both (look_both (by kernel_rfl) wsa) (by kernel_rfl)) wsb) wsc
set_option maxRecDepth 100000 in
theorem wse : (OpenLaw.row PySem.Challenge.rw_nt0612_01).wellSaid = true := by
  unfold OpenRow.wellSaid OpenRow.partSaid
  exact (look_both (look_both (look_both (look_both (look_both (look_both (look_both (look_both (look_both (look_both (look_both (look_both (look_both (look_both (look_both wsd (by kernel_rfl)) (by kernel_rfl)) (by kernel_rfl)) (by kernel_rfl)) (by kernel_rfl)) (by kernel_rfl)) (by kernel_rfl)) (by kernel_rfl)) (by kernel_rfl)) (by kernel_rfl)) (by kernel_rfl)) (by kernel_rfl)) (by kernel_rfl)) (by kernel_rfl)) (by kernel_rfl))
set_option maxRecDepth 100000 in
theorem wsf : OpenLaw.wellSaid PySem.Challenge.rw_nt0612_01 = true := by
  unfold OpenLaw.wellSaid
  exact (look_both (look_both (look_both (look_both (look_both (look_both (look_both (look_both (look_both (look_both (look_both (look_both (look_both (look_both (look_both (look_both (look_both (look_both wse (by kernel_rfl)) (by kernel_rfl)) (by kernel_rfl)) (by kernel_rfl)) (by kernel_rfl)) (by kernel_rfl)) (by kernel_rfl)) (by kernel_rfl)) (by kernel_rfl)) (by kernel_rfl)) (by kernel_rfl)) (by kernel_rfl)) (by kernel_rfl)) (by kernel_rfl)) (by kernel_rfl)) (by kernel_rfl)) (by kernel_rfl)) (by kernel_rfl))
set_option maxRecDepth 100000 in
set_option maxHeartbeats 8000000 in
theorem top_law (hl : LeftO PySem.Challenge.pw_nt0612_01 view [] (fun s => xlAt view [] s && recOk [] s) kh.obs kh.val 7046)
    (hc : WalkO view [] (XL view []) kh.says (OpenRow.toRowW (OpenLaw.row PySem.Challenge.rw_nt0612_01)) lawD.1 lawD.2 fun f vs => PySem.call f vs) : PySem.Challenge.rw_nt0612_01.Holds := by
  refine holds_law wsf fun said => ?_
  refine my_open (q := view) (loose := []) (Xt := fun s => xlAt view [] s && recOk (RowW.records (OpenRow.toRowW (OpenLaw.row PySem.Challenge.rw_nt0612_01))) s) (XP := XL view []) (Yf := Hook.obs kh) (Ya := Hook.val kh) (YP := Hook.says kh) (N := 7046) (d := lawD.1) (kwd := lawD.2) (Hook.of kh) (Hook.keeps kh) (fun s e => xl_of s (Bool.and_eq_true_iff.mp e).1) XL.keeps (by kernel_rfl) (by kernel_rfl) (by kernel_rfl) (fun s e => recFacts_of (Bool.and_eq_true_iff.mp e).2) (by rfl) (by first | assumption | decide +kernel) (look_both (look_both (by decide +kernel) (by decide +kernel)) (by decide +kernel)) ⟨rfl, rfl, rfl, rfl, rfl, by decide +kernel⟩ ?_ ⟨hl, hc⟩
  exact ⟨[.list []], by decide +kernel, by decide +kernel⟩
end Mine
end
section
open PySem PySem.W PyProof.Rows PySem.Calls
set_option maxRecDepth 100000
namespace Mine
/-! the abstract heap -/
noncomputable abbrev Led := List (Addr × Obj)
noncomputable def DN (l : Led) : Prop := (l.map (·.1)).Nodup
noncomputable def Sub (a b : Led) : Prop := ∀ p ∈ a, p ∈ b
theorem Sub.rfl {a : Led} : Sub a a := fun Z h => h
theorem Sub.trans {a b c : Led} (h : Sub a b) (k : Sub b c) : Sub a c := fun p x => k p (h p x)
theorem Sub.cons {a : Led} {p : Addr × Obj} : Sub a (p :: a) := fun Z h => .tail _ h
theorem newsSub {h₀ h : Heap} {L : Addr} {a b : Led} (N : News h₀ L h b) (s : Sub a b) : News h₀ L h a := fun p hp => N p (s p hp)
noncomputable abbrev one (c : Nat) : Str := ⟨#[c]⟩
/-- abstract values: data; a made object by its number; a thing of the text's top; a builtin -/
inductive LV
  | d (x : Dat)
  | obj (i : Nat)
  | top (a : Addr)
  | bi (id : String)
inductive AO
  | inst (C : Addr) (fs : List (Str × LV))
  | chars (l : List Nat)
  | list (l : List Dat)
  | tab (l : List (Str × Addr))
  | cell (v : Option LV)
  | tup (l : List LV)
noncomputable abbrev Loc := List (Str × LV)
noncomputable abbrev Hp := List AO
noncomputable def Mt (adr : List Addr) (rest : Led) : LV → Value → Prop
  | .d x, v => DatIn rest v x
  | .obj i, v => ∃ a, adr[i]? = some a ∧ v = .ref a
  | .top a, v => v = .ref a
  | .bi id, v => v = .builtin id
theorem Mt.mono {adr adr' : List Addr} {rest rest' : Led} {x : LV} {v : Value} (ha : adr <+: adr') (hr : Sub rest rest') (h : Mt adr rest x v) : Mt adr' rest' x v := by
  induction x with
  | d x => exact DatIn.mono hr h
  | obj i =>
    obtain ⟨a, e, r⟩ := h
    obtain ⟨t, rfl⟩ := ha
    exact ⟨a, by rw [List.getElem?_append_left (List.getElem?_eq_some_iff.mp e).1]; exact e, r⟩
  | top a => exact h
  | bi id => exact h
inductive All2 {α β : Type} (R : α → β → Prop) : List α → List β → Prop
  | nil : All2 R [] []
  | cons {a b as bs} : R a b → All2 R as bs → All2 R (a :: as) (b :: bs)
theorem All2.imp {α β : Type} {R S : α → β → Prop} (h : ∀ a b, R a b → S a b) : ∀ {as bs}, All2 R as bs → All2 S as bs
  | _, _, .nil => .nil
  | _, _, .cons r q => .cons (h _ _ r) (All2.imp h q)
theorem All2.length {α β : Type} {R : α → β → Prop} : ∀ {as bs}, All2 R as bs → as.length = bs.length
  | _, _, .nil => rfl
  | _, _, .cons _ q => congrArg (· + 1) (All2.length q)
theorem All2.append {α β : Type} {R : α → β → Prop} : ∀ {as bs cs ds}, All2 R as bs → All2 R cs ds → All2 R (as ++ cs) (bs ++ ds)
  | _, _, _, _, .nil, k => k
  | _, _, _, _, .cons r q, k => .cons r (All2.append q k)
theorem All2.reverse {α β : Type} {R : α → β → Prop} : ∀ {as bs}, All2 R as bs → All2 R as.reverse bs.reverse
  | _, _, .nil => .nil
  | _, _, .cons r q => by rw [List.reverse_cons, List.reverse_cons]; exact All2.append (All2.reverse q) (.cons r .nil)
noncomputable abbrev MtL (adr : List Addr) (rest : Led) : List LV → List Value → Prop := All2 (Mt adr rest)
theorem MtL.mono {adr adr' : List Addr} {rest rest' : Led} {xs : List LV} {vs : List Value} (ha : adr <+: adr') (hr : Sub rest rest') (h : MtL adr rest xs vs) : MtL adr' rest' xs vs := h.imp fun Z Z q => q.mono ha hr

section
variable {prog : Program} {w : World} {adr adr' : List Addr} {rest rest' : Led}
noncomputable def TABV (l : List (Str × Addr)) : List (Str × Value) := l.map fun p => (p.1, .ref p.2)
noncomputable def NotSeq (o : Obj) : Prop := o.cls ≠ .type "tuple" ∧ o.cls ≠ .type "list"
noncomputable def EntOk (w : World) (adr : List Addr) (rest : Led) (f : Str × LV) (e : DictEntry) : Prop := e.hash = PyData.keyHash w.params f.1 ∧ (∃ k, e.key = .str f.1 k) ∧ Mt adr rest f.2 e.val
theorem EntOk.mono {f : Str × LV} {e : DictEntry} (ha : adr <+: adr') (hr : Sub rest rest') (h : EntOk w adr rest f e) : EntOk w adr' rest' f e := ⟨h.1, h.2.1, h.2.2.mono ha hr⟩
noncomputable abbrev Ents (w : World) (adr : List Addr) (rest : Led) : List (Str × LV) → List DictEntry → Prop := All2 (EntOk w adr rest)
theorem Ents.noref : ∀ {fs : List (Str × LV)} {es : List DictEntry}, Ents w adr rest fs es → (es.any fun e => e.refKey) = false
  | _, _, .nil => rfl
  | _, _, .cons (b := e) ⟨_, ⟨k, hk⟩, _⟩ r => by
    rw [List.any_cons, Ents.noref r, Bool.or_false]
    unfold DictEntry.refKey; rw [hk]
theorem Ents.get {nm : Str} : ∀ {fs : List (Str × LV)} {es : List DictEntry}, Ents w adr rest fs es →
    (match fs.lookup nm with | some x => ∃ e, es.find? (fun e => e.key.isStr nm) = some e ∧ Mt adr rest x e.val | none => es.find? (fun e => e.key.isStr nm) = none)
  | _, _, .nil => rfl
  | _, _, .cons (a := f) (b := e) ⟨_, ⟨k, hk⟩, hm⟩ r => by
    obtain ⟨f1, f2⟩ := f
    have ih := Ents.get (nm := nm) r
    have q : e.key.isStr nm = (f1 == nm) := by rw [hk]; rfl
    rw [List.lookup_cons, List.find?_cons, q]
    by_cases h : f1 = nm
    · subst h
      rw [beq_self_eq_true]
      exact ⟨e, rfl, hm⟩
    · rw [show (f1 == nm) = false from beq_eq_false_iff_ne.mpr h, show (nm == f1) = false from beq_eq_false_iff_ne.mpr (Ne.symm h)]
      exact ih
theorem Ents.getL_some {nm : Str} {x : LV} {fs : List (Str × LV)} {es : List DictEntry} (h : Ents w adr rest fs es) (e : fs.lookup nm = some x) : ∃ v, getL nm es = some (some v) ∧ Mt adr rest x v := by
  have q := h.get (nm := nm)
  rw [e] at q
  obtain ⟨y, q, r⟩ := q
  exact ⟨_, by unfold getL; rw [q], r⟩
theorem Ents.getL_none {nm : Str} {fs : List (Str × LV)} {es : List DictEntry} (h : Ents w adr rest fs es) (e : fs.lookup nm = none) : getL nm es = some none := by
  have q := h.get (nm := nm)
  rw [e] at q
  unfold getL
  rw [q]
  dsimp only
  rw [h.noref]; rfl
noncomputable def putF (nm : Str) (x : LV) : List (Str × LV) → List (Str × LV)
  | [] => [(nm, x)]
  | p :: r => match p.1 == nm with | true => (p.1, x) :: r | false => p :: putF nm x r
theorem Ents.put {nm : Str} {x : LV} {v : Value} {k : Tok} (hv : Mt adr rest x v) : ∀ {fs : List (Str × LV)} {es : List DictEntry}, Ents w adr rest fs es → Ents w adr rest (putF nm x fs) (putL nm (PyData.keyHash w.params nm) (.str nm k) v es)
  | _, _, .nil => .cons ⟨rfl, ⟨k, rfl⟩, hv⟩ .nil
  | _, _, .cons (a := f) (b := e) ⟨h1, ⟨j, hk⟩, hm⟩ r => by
    unfold putF putL
    rw [show e.key.isStr nm = (f.1 == nm) by rw [hk]; rfl]
    cases f.1 == nm with
    | true => exact .cons ⟨h1, ⟨j, hk⟩, hv⟩ r
    | false => exact .cons ⟨h1, ⟨j, hk⟩, hm⟩ (Ents.put hv r)
theorem putF_len (nm : Str) (x : LV) : ∀ fs : List (Str × LV), (putF nm x fs).length ≤ fs.length + 1
  | [] => Nat.le_refl _
  | p :: r => by
    unfold putF
    cases p.1 == nm with
    | true => exact Nat.le_succ _
    | false => exact Nat.succ_le_succ (putF_len nm x r)

noncomputable def CO (prog : Program) (w : World) (adr : List Addr) (rest : Led) (a : Addr) : AO → Led → Prop
  | .inst C fs, l => ∃ dx es n, l = [(a, instObj C dx), (dx, dictOf es n)] ∧ Ents w adr rest fs es
  | .chars cs, l => ∃ vs n, l = [(a, listOf vs.toArray n)] ∧ StrsAre vs (cs.map one)
  | .list ds, l => ∃ vs n, l = [(a, listOf vs.toArray n)] ∧ DatAll rest vs ds
  | .tab ts, l => ∃ o, l = [(a, o)] ∧ o.IsDictOf (PySem.strKind prog w) (TABV ts) ∧ (a == sysModules) = false
  | .cell none, l => ∃ o u, l = [(a, o)] ∧ o.data = .cell u
  | .cell (some v), l => ∃ o u, l = [(a, o)] ∧ o.data = .cell (some u) ∧ Mt adr rest v u
  | .tup xs, l => ∃ vs, l = [(a, { cls := .type "tuple", data := .seq vs.toArray })] ∧ MtL adr rest xs vs
theorem CO.mono {a : Addr} {o : AO} {l : Led} (ha : adr <+: adr') (hr : Sub rest rest') (h : CO prog w adr rest a o l) : CO prog w adr' rest' a o l := by
  induction o with
  | inst C fs => obtain ⟨dx, es, n, e, q⟩ := h; exact ⟨dx, es, n, e, q.imp fun Z Z z => z.mono ha hr⟩
  | chars cs => exact h
  | list ds => obtain ⟨vs, n, e, q⟩ := h; exact ⟨vs, n, e, q.mono hr⟩
  | tab ts => exact h
  | cell v =>
    induction v with
    | none => exact h
    | some v => obtain ⟨o, u, e, q, z⟩ := h; exact ⟨o, u, e, q, z.mono ha hr⟩
  | tup xs => obtain ⟨vs, e, q⟩ := h; exact ⟨vs, e, q.mono ha hr⟩
inductive Own (prog : Program) (w : World) (adr : List Addr) (rest : Led) : List Addr → Hp → Led → Prop
  | nil : Own prog w adr rest [] [] []
  | cons {a o l as os ls} : CO prog w adr rest a o l → Own prog w adr rest as os ls → Own prog w adr rest (a :: as) (o :: os) (l ++ ls)
theorem Own.mono (ha : adr <+: adr') (hr : Sub rest rest') : ∀ {as os ls}, Own prog w adr rest as os ls → Own prog w adr' rest' as os ls
  | _, _, _, .nil => .nil
  | _, _, _, .cons h r => .cons (h.mono ha hr) (Own.mono ha hr r)
theorem Own.len : ∀ {as os ls}, Own prog w adr rest as os ls → as.length = os.length
  | _, _, _, .nil => rfl
  | _, _, _, .cons _ r => congrArg (· + 1) (Own.len r)
theorem Own.append : ∀ {as os ls bs ps ks}, Own prog w adr rest as os ls → Own prog w adr rest bs ps ks → Own prog w adr rest (as ++ bs) (os ++ ps) (ls ++ ks)
  | _, _, _, _, _, _, .nil, k => k
  | _, _, _, _, _, _, .cons h r, k => by rw [List.append_assoc]; exact .cons h (Own.append r k)
theorem Own.one {a : Addr} {o : AO} {l : Led} (h : CO prog w adr rest a o l) : Own prog w adr rest [a] [o] l := by
  have := Own.cons h Own.nil
  rwa [List.append_nil] at this
theorem Own.split : ∀ {as os ls} {i : Nat} {o : AO}, Own prog w adr rest as os ls → os[i]? = some o →
    ∃ a pre l post, as[i]? = some a ∧ ls = pre ++ (l ++ post) ∧ CO prog w adr rest a o l ∧ ∀ o' l', CO prog w adr rest a o' l' → Own prog w adr rest as (os.set i o') (pre ++ (l' ++ post))
  | _, _, _, i, _, .nil, e => by cases i <;> cases e
  | _, _, _, 0, _, .cons (a := a) (l := l) (ls := ls) h r, e => by
    cases e
    refine ⟨a, [], l, ls, rfl, rfl, h, fun o' l' q => ?_⟩
    show Own prog w adr rest _ _ (l' ++ ls)
    exact Own.cons q r
  | _, _, _, i + 1, _, .cons (a := a) (l := l) h r, e => by
    obtain ⟨b, pre, k, post, e1, e2, e3, e4⟩ := Own.split (i := i) r e
    refine ⟨b, l ++ pre, k, post, e1, by rw [e2, List.append_assoc], e3, fun o' l' q => ?_⟩
    rw [List.append_assoc]
    exact .cons h (e4 o' l' q)
noncomputable def RepH (prog : Program) (w : World) (adr : List Addr) (H : Hp) (rest news : Led) : Prop := ∃ own, Own prog w adr rest adr H own ∧ Sub (own ++ rest) news ∧ DN (own ++ rest)
theorem RepH.len {H : Hp} {news : Led} (R : RepH prog w adr H rest news) : adr.length = H.length := by
  obtain ⟨own, O, _⟩ := R; exact O.len
theorem RepH.rest_sub {H : Hp} {news : Led} (R : RepH prog w adr H rest news) : Sub rest news := by
  obtain ⟨own, O, S, D⟩ := R; exact fun p h => S p (List.mem_append_right _ h)
theorem DN.mid {a b : Led} {x : Addr} {o : Obj} (D : DN (a ++ b)) (h : ∀ p ∈ a ++ b, p.1 ≠ x) : DN (a ++ (x, o) :: b) := by
  unfold DN at *
  rw [List.map_append, List.map_cons]
  have hp : (List.map (·.1) a ++ x :: List.map (·.1) b).Perm (x :: (List.map (·.1) a ++ List.map (·.1) b)) := List.perm_middle
  rw [hp.nodup_iff, List.nodup_cons, ← List.map_append]
  refine ⟨fun hx => ?_, D⟩
  obtain ⟨p, hp, e⟩ := List.mem_map.mp hx
  exact h p hp e
theorem DN.sub {a b : Led} (s : List.Sublist a b) (D : DN b) : DN a := List.Nodup.sublist (List.Sublist.map _ s) D
theorem RepH.grow {H : Hp} {news : Led} {x : Addr} {o : Obj} (R : RepH prog w adr H rest news) (hx : ∀ p ∈ news, p.1 ≠ x) : RepH prog w adr H ((x, o) :: rest) ((x, o) :: news) := by
  obtain ⟨own, O, S, D⟩ := R
  refine ⟨own, O.mono (List.prefix_rfl) Sub.cons, fun p hp => ?_, DN.mid D fun p hp => hx p (S p hp)⟩
  rcases List.mem_append.mp hp with h | h
  · exact .tail _ (S p (List.mem_append_left _ h))
  · rcases List.mem_cons.mp h with h | h
    · exact h ▸ .head _
    · exact .tail _ (S p (List.mem_append_right _ h))
theorem RepH.alloc1 {H : Hp} {news : Led} {x : Addr} {o : Obj} {O : AO} (R : RepH prog w adr H rest news) (hx : ∀ p ∈ news, p.1 ≠ x) (hd : CO prog w (adr ++ [x]) rest x O [(x, o)]) : RepH prog w (adr ++ [x]) (H ++ [O]) rest ((x, o) :: news) := by
  obtain ⟨own, Ow, S, D⟩ := R
  refine ⟨own ++ [(x, o)], ?_, ?_, ?_⟩
  · exact Own.append (Ow.mono (List.prefix_append _ _) Sub.rfl) (Own.one hd)
  · intro p hp
    rw [List.append_assoc] at hp
    rcases List.mem_append.mp hp with h | h
    · exact .tail _ (S p (List.mem_append_left _ h))
    · rcases List.mem_cons.mp h with h | h
      · exact h ▸ .head _
      · exact .tail _ (S p (List.mem_append_right _ h))
  · rw [List.append_assoc]
    exact DN.mid D fun p hp => hx p (S p hp)
theorem RepH.allocL {H : Hp} {news : Led} {x : Addr} {vs : List Value} {ds : List Dat} {n : Nat} (R : RepH prog w adr H rest news) (hx : ∀ p ∈ news, p.1 ≠ x) (hd : DatAll rest vs ds) : RepH prog w (adr ++ [x]) (H ++ [.list ds]) rest ((x, listOf vs.toArray n) :: news) := R.alloc1 hx ⟨vs, n, rfl, hd⟩
theorem RepH.allocT {H : Hp} {news : Led} {x : Addr} {o : Obj} {ts : List (Str × Addr)} (R : RepH prog w adr H rest news) (hx : ∀ p ∈ news, p.1 ≠ x) (hd : o.IsDictOf (PySem.strKind prog w) (TABV ts)) (hs : (x == sysModules) = false) : RepH prog w (adr ++ [x]) (H ++ [.tab ts]) rest ((x, o) :: news) := R.alloc1 hx ⟨o, rfl, hd, hs⟩
theorem RepH.allocI {H : Hp} {news : Led} {x dx C : Addr} (R : RepH prog w adr H rest news) (hd : ∀ p ∈ news, p.1 < dx) (hx : dx < x) : RepH prog w (adr ++ [x]) (H ++ [.inst C []]) rest ((x, instObj C dx) :: (dx, dictOf [] 0) :: news) := by
  obtain ⟨own, O, S, D⟩ := R
  refine ⟨own ++ [(x, instObj C dx), (dx, dictOf [] 0)], ?_, ?_, ?_⟩
  · exact Own.append (O.mono (List.prefix_append _ _) Sub.rfl) (Own.one ⟨dx, [], 0, rfl, .nil⟩)
  · intro p hp
    rw [List.append_assoc] at hp
    rcases List.mem_append.mp hp with h | h
    · exact .tail _ (.tail _ (S p (List.mem_append_left _ h)))
    · rcases List.mem_cons.mp h with h | h
      · exact h ▸ .head _
      · rcases List.mem_cons.mp h with h | h
        · exact h ▸ .tail _ (.head _)
        · exact .tail _ (.tail _ (S p (List.mem_append_right _ h)))
  · rw [List.append_assoc]
    have D1 : DN (own ++ (dx, dictOf [] 0) :: rest) := DN.mid D fun p hp => Nat.ne_of_lt (hd p (S p hp))
    refine DN.mid (b := (dx, dictOf [] 0) :: rest) D1 fun p hp => ?_
    rcases List.mem_append.mp hp with h | h
    · exact Nat.ne_of_lt (Nat.lt_trans (hd p (S p (List.mem_append_left _ h))) hx)
    · rcases List.mem_cons.mp h with h | h
      · rw [h]; exact Nat.ne_of_lt hx
      · exact Nat.ne_of_lt (Nat.lt_trans (hd p (S p (List.mem_append_right _ h))) hx)
theorem DN.upd {pre post : Led} {d : Addr} {o o' : Obj} (D : DN (pre ++ (d, o) :: post)) : Upd d o o' (pre ++ (d, o) :: post) (pre ++ (d, o') :: post) ∧ DN (pre ++ (d, o') :: post) := by
  refine ⟨?_, by unfold DN at D ⊢; rw [List.map_append, List.map_cons] at D ⊢; exact D⟩
  induction pre with
  | nil =>
    refine Upd.head fun p hp e => ?_
    exact (List.nodup_cons.mp D).1 (List.mem_map.mpr ⟨p, hp, e⟩)
  | cons p r ih =>
    refine Upd.tail (fun e => ?_) (ih (List.nodup_cons.mp D).2)
    exact (List.nodup_cons.mp D).1 (List.mem_map.mpr ⟨(d, o), List.mem_append_right _ (.head _), e.symm⟩)
theorem DN.updF {pre post : Led} {d : Addr} {o : Obj} (D : DN (pre ++ (d, o) :: post)) : UpdF d o (pre ++ (d, o) :: post) (fun o' => pre ++ (d, o') :: post) := by
  induction pre with
  | nil =>
    refine UpdF.head fun p hp e => ?_
    exact (List.nodup_cons.mp D).1 (List.mem_map.mpr ⟨p, hp, e⟩)
  | cons p r ih =>
    refine UpdF.tail (fun e => ?_) (ih (List.nodup_cons.mp D).2)
    exact (List.nodup_cons.mp D).1 (List.mem_map.mpr ⟨(d, o), List.mem_append_right _ (.head _), e.symm⟩)
end
end Mine
end
section
open PySem PySem.W PyProof.Rows PySem.Calls
set_option maxRecDepth 100000
namespace Mine
theorem bool_tf {b : Bool} {G : Prop} (h1 : b = true → G) (h2 : b = false → G) : G := match b, h1, h2 with
  | true, h1, _ => h1 rfl
  | false, _, h2 => h2 rfl
theorem bool_ft {b : Bool} {G : Prop} (h2 : b = false → G) (h1 : b = true → G) : G := bool_tf h1 h2
theorem opt_ns {α : Type} {b : Option α} {G : Prop} (h1 : b = none → G) (h2 : ∀ x, b = some x → G) : G := match b, h1, h2 with
  | none, h1, _ => h1 rfl
  | some _, _, h2 => h2 _ rfl
noncomputable def DSh : Dat → Value → Prop
  | .int i, u => ∃ t, u = .int i t
  | .str x, u => ∃ t, u = .str x t
  | .bool b, u => u = .bool b
  | .none, u => u = .none
  | _, _ => True
theorem dInv {rest : Led} {u : Value} {d : Dat} (h : DatIn rest u d) : DSh d u := by
  cases h <;> first | exact ⟨_, rfl⟩ | rfl | trivial
theorem with_toks {α : Type} {M : Model} {Ar : Around} {t : Sem α} {Q : α → Shared → Prop} {E : Value → Shared → Prop} {s : Shared} {n : Nat} (hn : n ≤ s.toks) (h : wpAny M Ar t (fun a s' => n ≤ s'.toks → Q a s') E s) : wpAny M Ar t Q E s :=
  wpAny_mono (wpAny_toks_of hn h) (fun Z Z x => x.2 x.1) fun Z Z x => x.2
structure GE where
  p : Program
  loose : List Str
  mean : ExcName → Option Value
  mg : Str → Option Value
  mb : Str → Option Value
/-- a frame at hand -/
structure FC (K : Frag) (Γ : GE) where
  A : Around
  cn : Str
  cs : Scope
  a : Addr
  ccd : Value
  cl : List (Str × Addr)
  outer : List Env
  A₀ : Around
  base : Heap
  h₀ : Heap
  L : Addr
  B : Below A₀ base outer h₀
  X : K.In h₀
  T : Top Γ.p Γ.loose Γ.mean Γ.mg Γ.mb h₀
  hA : A.frames = some (envX cn cs L a ccd cl :: outer)
  hh : A.handled = none
  hk : cs.kind = .function
  t0 : Nat
section
variable {prog : Program} {w : World} {K : Frag} {Γ : GE}
noncomputable abbrev FC.env (c : FC K Γ) : Env := envX c.cn c.cs c.L c.a c.ccd c.cl
structure AtS (prog : Program) (w : World) (c : FC K Γ) (m : Str → Option Value) (adr : List Addr) (rest news : Led) (H : Hp) (s : Shared) : Prop where
  F : Fr c.h₀ c.L s.heap m
  N : News c.h₀ c.L s.heap news
  R : RepH prog w adr H rest news
  tk : c.t0 ≤ s.toks
variable {c : FC K Γ} {A : Around} {m : Str → Option Value} {adr adr' : List Addr} {rest rest' news : Led} {H : Hp} {s : Shared} {E : Value → Shared → Prop}
theorem AtS.toks (S : AtS prog w c m adr rest news H s) {k : Nat} (hk : c.t0 ≤ k) : AtS prog w c m adr rest news H { s with toks := k } := ⟨S.F, S.N, S.R, hk⟩
theorem AtS.up (S : AtS prog w c m adr rest news H s) : c.t0 ≤ s.toks + 1 := Nat.le_succ_of_le S.tk
theorem AtS.up2 (S : AtS prog w c m adr rest news H s) : c.t0 ≤ s.toks + 1 + 1 := Nat.le_succ_of_le S.up
/-- what is wanted behind a step, said of the abstract state -/
noncomputable def Ret {α β : Type} (prog : Program) (w : World) (M : List Addr → Led → β → α → Prop) (c : FC K Γ) (m : Str → Option Value) (adr : List Addr) (rest : Led) (s : Shared) (P : β → Hp → Prop) (Q : α → Shared → Prop) : Prop :=
  ∀ (b : β) (a : α) adr' rest' news' H' h' tk', adr <+: adr' → Sub rest rest' → AtS prog w c m adr' rest' news' H' { s with heap := h', toks := tk' } → M adr' rest' b a → P b H' → Q a { s with heap := h', toks := tk' }
theorem Ret.here {α β : Type} {M : List Addr → Led → β → α → Prop} {P : β → Hp → Prop} {Q : α → Shared → Prop} (r : Ret prog w M c m adr rest s P Q) (S : AtS prog w c m adr rest news H s) {b : β} {a : α} {k : Nat} (hk : c.t0 ≤ k) (hm : M adr rest b a) (hp : P b H) : Q a { s with toks := k } :=
  r b a adr rest news H s.heap k List.prefix_rfl Sub.rfl (S.toks hk) hm hp
theorem Ret.now {α β : Type} {M : List Addr → Led → β → α → Prop} {P : β → Hp → Prop} {Q : α → Shared → Prop} (r : Ret prog w M c m adr rest s P Q) (S : AtS prog w c m adr rest news H s) {b : β} {a : α} (hm : M adr rest b a) (hp : P b H) : Q a s :=
  r.here S (k := s.toks) S.tk hm hp
noncomputable abbrev MU (_ : List Addr) (_ : Led) (_ : Unit) (_ : Unit) : Prop := True
noncomputable abbrev MB (_ : List Addr) (_ : Led) (b : Bool) (b' : Bool) : Prop := b = b'
theorem mInt {i : Int} {t : Tok} : Mt adr rest (.d (.int i)) (.int i t) := DatIn.int _ _
theorem mStr {x : Str} {t : Tok} : Mt adr rest (.d (.str x)) (.str x t) := DatIn.str _ _
theorem mBool {b : Bool} : Mt adr rest (.d (.bool b)) (.bool b) := DatIn.bool _
theorem mNone : Mt adr rest (.d .none) .none := DatIn.none
theorem mDat {x : Dat} {v : Value} (h : DatIn rest v x) : Mt adr rest (.d x) v := h
/-! fields -/
structure ClsOk (K : Frag) (C : Addr) : Prop where
  get : ∀ nm, plainGet K C nm = true
  dict : hasDictIn K C = true
  seta : findIn K (.ref C) "__setattr__" = some (some (.builtin "object.__setattr__"))
  over : plainOver K C = true
noncomputable def LV.plain : LV → Bool
  | .bi _ => false
  | _ => true
theorem Mt.handed {x : LV} {v : Value} (h : Mt adr rest x v) (hx : x.plain = true) : handedIn v = true := by
  induction x with
  | d x => exact DatIn.handed h
  | obj i => obtain ⟨a, _, rfl⟩ := h; rfl
  | top a => subst h; rfl
  | bi id => cases hx
theorem op_get {i : Nat} {C : Addr} {fs : List (Str × LV)} {nm : Str} {x : LV} {v : Value} {P : LV → Hp → Prop} {Q : Value → Shared → Prop} {expr : Bool} (S : AtS prog w c m adr rest news H s) (hv : Mt adr rest (.obj i) v)
    (ho : H[i]? = some (.inst C fs)) (hl : fs.lookup nm = some x) (hx : x.plain = true) (hC : ClsOk K C) (hn : findIn K (.ref C) nm = some none) (hp : P x H) (r : Ret prog w Mt c m adr rest s P Q) :
    wpAny (model prog w) A (getAttr v nm expr) Q E s := by
  obtain ⟨a, ha, rfl⟩ := hv
  obtain ⟨own, O, Sb, D⟩ := S.R
  obtain ⟨b, pre, l, post, e1, e2, ⟨dx, es, n, rfl, he⟩, _⟩ := O.split ho
  rw [ha] at e1; cases e1
  subst e2
  have m1 : (a, instObj C dx) ∈ news := Sb _ (by simp)
  have m2 : (dx, dictOf es n) ∈ news := Sb _ (by simp)
  obtain ⟨u, hu, hm⟩ := he.getL_some hl
  exact get_own S.F c.X (InstAt.of_news S.N m1 m2) (hC.get nm) hC.dict hn rfl hu (hm.handed hx) (r.here S S.up hm hp)
theorem op_meth {i : Nat} {C f : Addr} {fs : List (Str × LV)} {nm : Str} {v : Value} {pl : Sem Bool} {Q : Value × List Value → Shared → Prop} (S : AtS prog w c m adr rest news H s) (hv : Mt adr rest (.obj i) v)
    (ho : H[i]? = some (.inst C fs)) (hl : fs.lookup nm = none) (hC : ClsOk K C) (hn : findIn K (.ref C) nm = some (some (.ref f))) (hf : isFn K (.ref f) = true) (h : Q (.ref f, [v]) s) :
    wpAny (model prog w) A (getMethod v nm pl) Q E s := by
  obtain ⟨a, ha, rfl⟩ := hv
  obtain ⟨own, O, Sb, D⟩ := S.R
  obtain ⟨b, pre, l, post, e1, e2, ⟨dx, es, n, rfl, he⟩, _⟩ := O.split ho
  rw [ha] at e1; cases e1
  subst e2
  have m1 : (a, instObj C dx) ∈ news := Sb _ (by simp)
  have m2 : (dx, dictOf es n) ∈ news := Sb _ (by simp)
  exact method_inst S.F c.X (InstAt.of_news S.N m1 m2) (hC.get nm) hn hf (he.getL_none hl) h
theorem op_set {i : Nat} {C : Addr} {fs : List (Str × LV)} {nm : Str} {x : LV} {u v : Value} {P : Unit → Hp → Prop} {Q : Unit → Shared → Prop} (S : AtS prog w c m adr rest news H s) (hv : Mt adr rest (.obj i) v) (hu : Mt adr rest x u)
    (ho : H[i]? = some (.inst C fs)) (hC : ClsOk K C) (hn : findIn K (.ref C) nm = some none) (hz : fs.length ≤ 900) (hp : P () (H.set i (.inst C (putF nm x fs)))) (r : Ret prog w MU c m adr rest s P Q) :
    wpAny (model prog w) A (setAttr v nm u) Q E s := by
  obtain ⟨a, ha, rfl⟩ := hv
  obtain ⟨own, O, Sb, D⟩ := S.R
  obtain ⟨b, pre, l, post, e1, e2, ⟨dx, es, n, rfl, he⟩, hs⟩ := O.split ho
  rw [ha] at e1; cases e1
  subst e2
  have N1 := newsSub S.N Sb
  have e3 : pre ++ ([(a, instObj C dx), (dx, dictOf es n)] ++ post) ++ rest = (pre ++ [(a, instObj C dx)]) ++ (dx, dictOf es n) :: (post ++ rest) := by simp
  rw [e3] at N1 D
  obtain ⟨U, D'⟩ := D.upd (o' := dictOf (putL nm (PyData.keyHash w.params nm) (.str nm (s.toks + 1)) u es) (putN nm es n))
  have m1 : (a, instObj C dx) ∈ (pre ++ [(a, instObj C dx)]) ++ (dx, dictOf es n) :: (post ++ rest) := by simp
  have m2 : (dx, dictOf es n) ∈ (pre ++ [(a, instObj C dx)]) ++ (dx, dictOf es n) :: (post ++ rest) := by simp
  have hg : (getL nm es).isSome = true := by
    refine opt_ns (b := fs.lookup nm) (fun q => ?_) fun y q => ?_
    · rw [he.getL_none q]; rfl
    · obtain ⟨z, hz, _⟩ := he.getL_some q; rw [hz]; rfl
  have ht : takerIn K C nm = some none := by unfold takerIn; rw [hn]; rfl
  have hp2 := Ents.put (nm := nm) (k := s.toks + 1) hu he
  have hlen : (putL nm (PyData.keyHash w.params nm) (.str nm (s.toks + 1)) u es).length ≤ 1000 := by
    have := hp2.length
    have := putF_len nm x fs
    omega
  refine set_dict S.F c.X N1 (InstAt.of_news N1 m1 m2) rfl hC.seta hC.over ht hC.dict hg rfl U hlen fun h' F' N' => ?_
  refine r () () adr rest _ _ h' (s.toks + 2) List.prefix_rfl Sub.rfl ⟨F', N', ⟨_, hs (.inst C (putF nm x fs)) [(a, instObj C dx), (dx, dictOf (putL nm (PyData.keyHash w.params nm) (.str nm (s.toks + 1)) u es) (putN nm es n))] ⟨dx, _, _, rfl, hp2⟩, ?_, ?_⟩, S.up2⟩ trivial hp
  · intro q hq; simpa using hq
  · have : pre ++ ([(a, instObj C dx), (dx, dictOf (putL nm (PyData.keyHash w.params nm) (.str nm (s.toks + 1)) u es) (putN nm es n))] ++ post) ++ rest = (pre ++ [(a, instObj C dx)]) ++ (dx, dictOf (putL nm (PyData.keyHash w.params nm) (.str nm (s.toks + 1)) u es) (putN nm es n)) :: (post ++ rest) := by simp
    rw [this]; exact D'
/-! lists -/
theorem strsAre_len : ∀ {vs : List Value} {xs : List Str}, StrsAre vs xs → vs.length = xs.length
  | _, _, .nil => rfl
  | _, _, .cons _ _ h => congrArg (· + 1) (strsAre_len h)
theorem strsAre_app : ∀ {vs ws : List Value} {xs ys : List Str}, StrsAre vs xs → StrsAre ws ys → StrsAre (vs ++ ws) (xs ++ ys)
  | _, _, _, _, .nil, k => k
  | _, _, _, _, .cons y t h, k => .cons y t (strsAre_app h k)
theorem strsAre_get : ∀ {vs : List Value} {xs : List Str}, StrsAre vs xs → ∀ {i : Nat} {x : Str}, xs[i]? = some x → ∃ t, vs[i]? = some (.str x t)
  | _, _, .cons y t h, 0, x, e => ⟨t, by cases e; rfl⟩
  | _, _, .cons y t h, i + 1, x, e => strsAre_get h (i := i) e
  | _, _, .nil, _, _, e => by cases e
/-- what a list holds -/
theorem co_list {i : Nat} {o : AO} {v : Value} (S : AtS prog w c m adr rest news H s) (hv : Mt adr rest (.obj i) v) (ho : H[i]? = some o) :
    (∀ cs, o = .chars cs → ∃ a vs n, v = .ref a ∧ (a, listOf vs.toArray n) ∈ news ∧ StrsAre vs (cs.map one)) ∧
    (∀ ds, o = .list ds → ∃ a vs n, v = .ref a ∧ (a, listOf vs.toArray n) ∈ news ∧ DatAll rest vs ds) ∧
    (∀ ts, o = .tab ts → ∃ a ob, v = .ref a ∧ (a, ob) ∈ news ∧ ob.IsDictOf (PySem.strKind prog w) (TABV ts) ∧ (a == sysModules) = false) := by
  obtain ⟨a, ha, rfl⟩ := hv
  obtain ⟨own, O, Sb, D⟩ := S.R
  obtain ⟨b, pre, l, post, e1, e2, h, _⟩ := O.split ho
  rw [ha] at e1; cases e1
  subst e2
  refine ⟨fun cs e => ?_, fun ds e => ?_, fun ts e => ?_⟩
  · subst e; obtain ⟨vs, n, rfl, q⟩ := h; exact ⟨a, vs, n, rfl, Sb _ (by simp), q⟩
  · subst e; obtain ⟨vs, n, rfl, q⟩ := h; exact ⟨a, vs, n, rfl, Sb _ (by simp), q⟩
  · subst e; obtain ⟨ob, rfl, q⟩ := h; exact ⟨a, ob, rfl, Sb _ (by simp), q⟩
theorem isl {a : Addr} {vs : List Value} {n : Nat} (S : AtS prog w c m adr rest news H s) (hm : (a, listOf vs.toArray n) ∈ news) : s.heap.IsList a vs.toArray := ⟨_, (S.N _ hm).1, rfl, n, rfl⟩
noncomputable def AO.isL : AO → Bool
  | .chars _ => true
  | .list _ => true
  | _ => false
theorem op_lmeth {i : Nat} {o : AO} {v : Value} {pl : Sem Bool} {Q : Value × List Value → Shared → Prop} (S : AtS prog w c m adr rest news H s) (hv : Mt adr rest (.obj i) v) (ho : H[i]? = some o) (hl : o.isL = true) (h : Q (.builtin "list.append", [v]) s) :
    wpAny (model prog w) A (getMethod v (Str.ofString "append") pl) Q E s := by
  obtain ⟨q1, q2, _⟩ := co_list S hv ho
  induction o with
  | inst => cases hl
  | tab => cases hl
  | cell => cases hl
  | tup => cases hl
  | chars cs => obtain ⟨a, vs, n, rfl, hm, _⟩ := q1 _ rfl; exact Calls.getMethod_list_append (S.N _ hm).1 rfl rfl h
  | list cs => obtain ⟨a, vs, n, rfl, hm, _⟩ := q2 _ rfl; exact Calls.getMethod_list_append (S.N _ hm).1 rfl rfl h
theorem op_app {i : Nat} {u v : Value} {ds : List Dat} {x : Dat} {P : LV → Hp → Prop} {Q : Value → Shared → Prop} (S : AtS prog w c m adr rest news H s) (hv : Mt adr rest (.obj i) v) (hu : DatIn rest u x)
    (ho : H[i]? = some (.list ds)) (hz : ds.length ≤ sizeLine) (hp : P (.d .none) (H.set i (.list (ds ++ [x])))) (r : Ret prog w Mt c m adr rest s P Q) :
    wpAny (model prog w) A (call (.builtin "list.append") [v, u]) Q E s := by
  obtain ⟨a, ha, rfl⟩ := hv
  obtain ⟨own, O, Sb, D⟩ := S.R
  obtain ⟨b, pre, l, post, e1, e2, ⟨vs, n, rfl, he⟩, hs⟩ := O.split ho
  rw [ha] at e1; cases e1
  subst e2
  have N1 := newsSub S.N Sb
  have e3 : ∀ o, pre ++ ([(a, o)] ++ post) ++ rest = pre ++ (a, o) :: (post ++ rest) := fun o => by simp
  rw [e3] at N1 D
  have e4 : vs.toArray.push u = (vs ++ [u]).toArray := by rw [List.push_toArray]
  obtain ⟨U, D'⟩ := D.upd (o' := listOf (vs.toArray.push u) (n + 1))
  refine append_K S.F N1 U (fun h' F' N' => ?_) (by rw [List.size_toArray, he.length]; exact hz)
  rw [e4] at N' D'
  refine r (.d .none) .none adr rest _ _ h' s.toks List.prefix_rfl Sub.rfl ⟨F', N', ⟨_, hs (.list (ds ++ [x])) [(a, listOf (vs ++ [u]).toArray (n + 1))] ⟨_, _, rfl, he.append (DatAll.one hu)⟩, ?_, ?_⟩, S.tk⟩ mNone hp
  · intro q hq; rw [e3] at hq; exact hq
  · rw [e3]; exact D'
theorem op_appC {i : Nat} {k : Tok} {v : Value} {cs : List Nat} {x : Nat} {P : LV → Hp → Prop} {Q : Value → Shared → Prop} (S : AtS prog w c m adr rest news H s) (hv : Mt adr rest (.obj i) v)
    (ho : H[i]? = some (.chars cs)) (hz : cs.length ≤ sizeLine) (hp : P (.d .none) (H.set i (.chars (cs ++ [x])))) (r : Ret prog w Mt c m adr rest s P Q) :
    wpAny (model prog w) A (call (.builtin "list.append") [v, .str (one x) k]) Q E s := by
  obtain ⟨a, ha, rfl⟩ := hv
  obtain ⟨own, O, Sb, D⟩ := S.R
  obtain ⟨b, pre, l, post, e1, e2, ⟨vs, n, rfl, he⟩, hs⟩ := O.split ho
  rw [ha] at e1; cases e1
  subst e2
  have N1 := newsSub S.N Sb
  have e3 : ∀ o, pre ++ ([(a, o)] ++ post) ++ rest = pre ++ (a, o) :: (post ++ rest) := fun o => by simp
  rw [e3] at N1 D
  have e4 : vs.toArray.push (Value.str (one x) k) = (vs ++ [Value.str (one x) k]).toArray := by rw [List.push_toArray]
  obtain ⟨U, D'⟩ := D.upd (o' := listOf (vs.toArray.push (.str (one x) k)) (n + 1))
  refine append_K S.F N1 U (fun h' F' N' => ?_) (by rw [List.size_toArray, strsAre_len he, List.length_map]; exact hz)
  rw [e4] at N' D'
  refine r (.d .none) .none adr rest _ _ h' s.toks List.prefix_rfl Sub.rfl ⟨F', N', ⟨_, hs (.chars (cs ++ [x])) [(a, listOf (vs ++ [Value.str (one x) k]).toArray (n + 1))] ⟨_, _, rfl, by rw [List.map_append]; exact strsAre_app he (.cons _ _ .nil)⟩, ?_, ?_⟩, S.tk⟩ mNone hp
  · intro q hq; rw [e3] at hq; exact hq
  · rw [e3]; exact D'
theorem op_lenL {i n : Nat} {o : AO} {v : Value} {P : LV → Hp → Prop} {Q : Value → Shared → Prop} (S : AtS prog w c m adr rest news H s) (hv : Mt adr rest (.obj i) v) (ho : H[i]? = some o)
    (hn : (match o with | .chars cs => some cs.length | .list ds => some ds.length | _ => none) = some n) (hz : n ≤ sizeLine) (hp : P (.d (.int n)) H) (r : Ret prog w Mt c m adr rest s P Q) :
    wpAny (model prog w) A (call (.builtin "len") [v]) Q E s := by
  obtain ⟨q1, q2, _⟩ := co_list S hv ho
  have big : ∀ k : Nat, k ≤ sizeLine → (k : Int) < 2 ^ 63 := fun k hk => by
    have : sizeLine = 16777216 := rfl
    omega
  induction o with
  | inst => cases hn
  | tab => cases hn
  | cell => cases hn
  | tup => cases hn
  | chars cs =>
    obtain ⟨a, vs, k, rfl, hm, q⟩ := q1 _ rfl
    cases hn
    have e : vs.toArray.size = cs.length := by rw [List.size_toArray, strsAre_len q, List.length_map]
    refine Calls.call_len_list (isl S hm) (by rw [e]; exact big _ hz) ?_
    rw [e]
    exact r.here S S.up2 mInt hp
  | list ds =>
    obtain ⟨a, vs, k, rfl, hm, q⟩ := q2 _ rfl
    cases hn
    have e : vs.toArray.size = ds.length := by rw [List.size_toArray, q.length]
    refine Calls.call_len_list (isl S hm) (by rw [e]; exact big _ hz) ?_
    rw [e]
    exact r.here S S.up2 mInt hp
noncomputable def notSlice : Expr → Bool
  | .Slice .. => false
  | _ => true
theorem sub_plain {slice : Expr} (h : notSlice slice = true) (o i : Value) : subscripted slice false o i = operate [o, i] (getItem o i) := by
  cases slice <;> first | rfl | cases h
theorem go_str (value : Expr) (x : Str) (t : Tok) (r : Value) : letTemporaryGo value (.str x t) r = pure () := by cases value <;> rfl
theorem op_subC {value slice : Expr} {i : Nat} {j : Int} {k : Tok} {v : Value} {cs : List Nat} {P : LV → Hp → Prop} {Q : Value → Shared → Prop} (S : AtS prog w c m adr rest news H s) (hv : Mt adr rest (.obj i) v) (hs : notSlice slice = true)
    (ho : H[i]? = some (.chars cs)) (h0 : 0 ≤ j) (h1 : j < cs.length) (hz : cs.length ≤ sizeLine) (hp : P (.d (.str (one (cs.getD j.toNat 0)))) H) (r : Ret prog w Mt c m adr rest s P Q) :
    wpAny (model prog w) A (subscriptTail value slice v (.int j k)) Q E s := by
  obtain ⟨a, vs, n, rfl, hm, q⟩ := (co_list S hv ho).1 _ rfl
  have hx : cs[j.toNat]? = some (cs.getD j.toNat 0) := by
    rw [List.getElem?_eq_getElem (by omega), List.getD_eq_getElem?_getD, List.getElem?_eq_getElem (by omega)]; rfl
  obtain ⟨t, ht⟩ := strsAre_get q (i := j.toNat) (x := one (cs.getD j.toNat 0)) (by rw [List.getElem?_map, hx]; rfl)
  have I := isl S hm
  have : sizeLine = 16777216 := rfl
  exact tail_any I.typeIs slot_list_getitem.lookup (wpAny_getItem_list I h0 (by omega) (by simpa using ht) (r.now S mStr hp)) (sub_plain hs _ _)
theorem op_subL {value slice : Expr} {i : Nat} {j : Int} {k : Tok} {v : Value} {ds : List Dat} {P : LV → Hp → Prop} {Q : Value → Shared → Prop} (S : AtS prog w c m adr rest news H s) (hv : Mt adr rest (.obj i) v) (hs : notSlice slice = true)
    (ho : H[i]? = some (.list ds)) (h0 : 0 ≤ j) (h1 : j < ds.length) (hz : ds.length ≤ sizeLine) (hp : ∀ x, ds[j.toNat]? = some x → P (.d x) H) (r : Ret prog w Mt c m adr rest s P Q) :
    wpAny (model prog w) A (subscriptTail value slice v (.int j k)) Q E s := by
  obtain ⟨a, vs, n, rfl, hm, q⟩ := (co_list S hv ho).2.1 _ rfl
  obtain ⟨u, hu, hd⟩ := q.get (k := j.toNat) (by omega)
  have I := isl S hm
  have : sizeLine = 16777216 := rfl
  exact tail_any I.typeIs slot_list_getitem.lookup (wpAny_getItem_list I h0 (by omega) (by simpa using hu) (r.now S (mDat hd) (hp _ (List.getElem?_eq_getElem _)))) (sub_plain hs _ _)
theorem op_subD {value slice : Expr} {j : Int} {k : Tok} {v : Value} {ds : List Dat} {P : LV → Hp → Prop} {Q : Value → Shared → Prop} (S : AtS prog w c m adr rest news H s) (hv : DatIn rest v (.list ds)) (hs : notSlice slice = true)
    (h0 : 0 ≤ j) (h1 : j < ds.length) (hz : ds.length ≤ sizeLine) (hp : ∀ x, ds[j.toNat]? = some x → P (.d x) H) (r : Ret prog w Mt c m adr rest s P Q) :
    wpAny (model prog w) A (subscriptTail value slice v (.int j k)) Q E s := by
  cases hv with
  | list hm q =>
    have hl := q.length
    obtain ⟨u, hu, hd⟩ := q.get (k := j.toNat) (by omega)
    have I := isl S (S.R.rest_sub _ hm)
    have : sizeLine = 16777216 := rfl
    exact tail_any I.typeIs slot_list_getitem.lookup (wpAny_getItem_list I h0 (by simp; omega) (by simpa using hu) (r.now S (mDat hd) (hp _ (List.getElem?_eq_getElem _)))) (sub_plain hs _ _)
/-! texts -/
theorem op_lenS {x : Str} {v : Value} {P : LV → Hp → Prop} {Q : Value → Shared → Prop} (S : AtS prog w c m adr rest news H s) (hv : Mt adr rest (.d (.str x)) v) (hz : x.length ≤ sizeLine) (hp : P (.d (.int x.length)) H) (r : Ret prog w Mt c m adr rest s P Q) :
    wpAny (model prog w) A (call (.builtin "len") [v]) Q E s := by
  obtain ⟨_, rfl⟩ := dInv hv
  have : sizeLine = 16777216 := rfl
  exact PySem.P.len_str (by omega) (r.here S S.up2 mInt hp)
theorem op_subS {value slice : Expr} {x : Str} {j : Int} {k : Tok} {v : Value} {P : LV → Hp → Prop} {Q : Value → Shared → Prop} (S : AtS prog w c m adr rest news H s) (hv : Mt adr rest (.d (.str x)) v) (hs : notSlice slice = true)
    (h0 : 0 ≤ j) (h1 : j < x.length) (hz : x.length ≤ sizeLine) (hp : P (.d (.str (Txt.item x j))) H) (r : Ret prog w Mt c m adr rest s P Q) :
    wpAny (model prog w) A (subscriptTail value slice v (.int j k)) Q E s := by
  obtain ⟨_, rfl⟩ := dInv hv
  have : sizeLine = 16777216 := rfl
  exact item_str (fitsSsize_of (N := 16777217) (by omega) (by omega) (by decide)) (by omega) h1 (fun Z => r.here S S.up mStr hp) (sub_plain hs _ _) (go_str _ _ _)
theorem op_slice {value lo hi : Expr} {ps : Pos} {x : Str} {i j : Int} {ui uj : Tok} {v : Value} {P : LV → Hp → Prop} {Q : Value → Shared → Prop} (S : AtS prog w c m adr rest news H s) (hv : Mt adr rest (.d (.str x)) v)
    (hz : x.length ≤ sizeLine) (hp : P (.d (.str (Txt.slice x (some i) (some j)))) H) (r : Ret prog w Mt c m adr rest s P Q) :
    wpAny (model prog w) A (subscriptTail value (.Slice (some lo) (some hi) none ps) v (.ref s.heap.objs.size)) Q E
      { s with heap := s.heap.push { cls := .type "slice", data := .fields #[.int i ui, .int j uj, .none] } } := by
  obtain ⟨_, rfl⟩ := dInv hv
  refine with_toks S.tk ?_
  refine slice_strN_ss_len (hsz := hz) (s := s) S.F S.N (fun h' t' k F' N' Z ht => ?_) rfl (go_str _ _ _)
  exact r _ _ adr rest news H h' k List.prefix_rfl Sub.rfl ⟨F', N', S.R, ht⟩ mStr hp
end
end Mine
end
section
open PySem PySem.W PyProof.Rows PySem.Calls
set_option maxRecDepth 100000
namespace Mine
/-! binding of arguments -/
theorem zip_lookup {α : Type} : ∀ {ns : List Str} {vs : List α}, ns.length ≤ vs.length → ∀ n ∈ ns, ((ns.zip vs).lookup n).isSome = true
  | [], _, _, _, h => by cases h
  | a :: ns, [], hl, _, _ => by simp at hl
  | a :: ns, v :: vs, hl, n, h => by
    rw [List.zip_cons_cons, List.lookup_cons]
    by_cases e : n = a
    · subst e; rw [beq_self_eq_true]; rfl
    · rw [show (n == a) = false from beq_eq_false_iff_ne.mpr e]
      exact zip_lookup (by simpa using hl) n ((List.mem_cons.mp h).resolve_left e)
theorem zip_filterMap {α : Type} : ∀ {ns : List Str} {vs : List α}, ns.Nodup → ns.length ≤ vs.length → (ns.filterMap fun n => ((ns.zip vs).lookup n).map (n, ·)) = ns.zip vs
  | [], _, _, _ => rfl
  | a :: ns, [], _, hl => by simp at hl
  | a :: ns, v :: vs, hn, hl => by
    have ih := zip_filterMap (ns := ns) (vs := vs) (List.nodup_cons.mp hn).2 (by simpa using hl)
    have key : ∀ l : List Str, (∀ n ∈ l, n ≠ a) → (l.filterMap fun n => (((a, v) :: ns.zip vs).lookup n).map (n, ·)) = l.filterMap fun n => ((ns.zip vs).lookup n).map (n, ·) := by
      intro l
      induction l with
      | nil => intro _; rfl
      | cons b l ihl =>
        intro h
        rw [List.filterMap_cons, List.filterMap_cons, ihl fun n hn => h n (.tail _ hn), List.lookup_cons, show (b == a) = false from beq_eq_false_iff_ne.mpr (h b (.head _))]
    rw [List.zip_cons_cons, List.filterMap_cons, List.lookup_cons, beq_self_eq_true, key ns fun n h e => (List.nodup_cons.mp hn).1 (e ▸ h), ih]
    rfl
noncomputable def nD (ns : List Str) : List Value := ([] : List Value).drop (0 - ns.length)
theorem nD_nil (ns : List Str) : nD ns = [] := by unfold nD; rw [List.drop_nil]
theorem binds_sk {fd : FuncData} {vs : List Value} (h1 : fd.params.posonlyargs = []) (h2 : fd.params.vararg = none) (h3 : fd.params.kwonlyargs = []) (h4 : fd.params.kwarg = none) (hd : fd.defaults = .none) {ns : List Str} (hns : fd.params.args.map (fun a => a.arg) = ns) :
    ∃ (A B : Sem (List (Str × Value))) (F : Str × Value → List (Str × Value) → Sem (ForInStep (List (Str × Value)))) (G : List (Str × Value) → Sem (List (Str × Value))),
      bindArgs fd ⟨vs, []⟩ = (if (decide (vs.length > ns.length) && true) = true then A else
        (if (!((ns.take (ns.length - (nD ns).length)).filter fun n => ((ns.zip vs).lookup n).isNone).isEmpty) = true then B
        else (forIn ((ns.drop (ns.length - (nD ns).length)).zip (nD ns)) (ns.zip vs) F >>= G))) ∧
      ∀ sl, G sl = pure ((ns ++ []).filterMap fun n => (sl.lookup n).map (n, ·)) := by
  obtain ⟨n, q, ⟨po, ar, va, ko, kd, kw, de⟩, bo, sc, r1, r2, dfl, r4, r5, r6, r7, r8, r9, r10⟩ := fd
  dsimp only at h1 h2 h3 h4 hd hns
  subst h1 h2 h3 h4 hd hns
  exact ⟨_, _, _, _, rfl, fun sl => rfl⟩
theorem binds_all {s : Shared} {fd : FuncData} {vs : List Value} (h1 : fd.params.posonlyargs = []) (h2 : fd.params.vararg = none) (h3 : fd.params.kwonlyargs = []) (h4 : fd.params.kwarg = none) (hd : fd.defaults = .none)
    (hn : (fd.params.args.map (·.arg)).Nodup) (hl : vs.length = fd.params.args.length) : bindArgs fd ⟨vs, []⟩ = pure ((fd.params.args.map (·.arg)).zip vs) := by
  obtain ⟨A, B, F, G, e, g⟩ := binds_sk (vs := vs) h1 h2 h3 h4 hd rfl
  generalize hns : fd.params.args.map (·.arg) = ns at hn e g
  have e0 : ns.length = vs.length := by rw [← hns, List.length_map, hl]
  have eg : (decide (vs.length > ns.length) && true) = false := by rw [Bool.and_true]; exact decide_eq_false (Nat.not_lt.mpr (Nat.le_of_eq e0.symm))
  have e1 : (ns.filter fun n => ((ns.zip vs).lookup n).isNone) = [] := List.filter_eq_nil_iff.mpr fun n h q => by
    have := zip_lookup (Nat.le_of_eq e0) n h
    refine opt_ns (b := (ns.zip vs).lookup n) (fun hz => ?_) fun _ hz => ?_
    · rw [hz] at this; cases this
    · rw [hz] at q; cases q
  rw [e, nD_nil, eg, List.length_nil, Nat.sub_zero, List.take_length, e1, List.zip_nil_right]
  show G (ns.zip vs) = _
  rw [g, List.append_nil, zip_filterMap hn (Nat.le_of_eq e0)]

/-! the tables -/
structure Tabs where
  globs : List (Str × LV)
  cls : List (Addr × List Str × List (Str × Addr))
  inits : List (Addr × Addr)
  fns : List (Addr × List Str × List LV)
  cfn : List Addr
noncomputable def bodyOf (K : Frag) (f : Addr) : List Stmt := match K.lookup f with
  | some ⟨_, _, .func fd, _⟩ => (match fd.body with | .stmts b => b | _ => [])
  | _ => []
noncomputable def scopeOf (K : Frag) (f : Addr) : Scope := match K.lookup f with
  | some ⟨_, _, .func fd, _⟩ => fd.scope
  | _ => ⟨.module, [], false, false, []⟩
noncomputable def fullL (names : List Str) (dfl lvs : List LV) : Option (List LV) := match dfl with
  | [] => (match Nat.beq lvs.length names.length with | true => some lvs | false => none)
  | _ => (match Nat.blt lvs.length names.length && Nat.ble names.length (lvs.length + dfl.length) with
    | true => some (lvs ++ dfl.drop (lvs.length + dfl.length - names.length))
    | false => none)
noncomputable abbrev DBG : Str := Str.ofString "__debug__"
structure FnOk (K : Frag) (f : Addr) (names : List Str) (dfl : List LV) : Prop where
  ok : ∃ oc od osl name qual params body scope dV kV doc pm an cdv ct, K.lookup f = some ⟨oc, od, .func (fnOf name qual params body scope dV kV doc pm an cdv ct), osl⟩ ∧ codeIn K cdv qual = true ∧
    (∀ nm ∈ names, scope.names.lookup nm = some .local) ∧ scope.isCoroutine = false ∧ scope.isGenerator = false ∧ scope.kind = .function ∧ (∀ x ∈ scope.names, x.2 ≠ .cell) ∧ (∀ x ∈ scope.names, x.2 ≠ .free) ∧ scope.names.lookup DBG = none ∧
    (∀ (s : Shared) adr rest lvs vs full, K.In s.heap → MtL adr rest lvs vs → fullL names dfl lvs = some full → ∃ fv, MtL adr rest full fv ∧ full.length = names.length ∧ BindsTo s (fnOf name qual params body scope dV kV doc pm an cdv ct) ⟨vs, []⟩ (names.zip fv))
noncomputable def GlobOk (K : Frag) (x : Str) : LV → Prop
  | .top a => nsIn K mainGlobals x = some (some (.ref a)) ∧ x ≠ DBG
  | .bi id => nsIn K mainGlobals x = some none ∧ bootBuiltins x = some (.builtin id) ∧ x ≠ Str.ofString "__name__" ∧ x ≠ DBG
  | _ => False
structure Tabs.Ok (K : Frag) (T : Tabs) : Prop where
  glob : ∀ x v, T.globs.lookup x = some v → GlobOk K x v
  cls : ∀ C fs ms, T.cls.lookup C = some (fs, ms) → ClsOk K C ∧ (∀ nm, fs.contains nm = true → findIn K (.ref C) nm = some none) ∧ ∀ nm f, ms.lookup nm = some f → findIn K (.ref C) nm = some (some (.ref f)) ∧ isFn K (.ref f) = true
  init : ∀ C f, T.inits.lookup C = some f → makesIn K C = true ∧ findIn K (.ref C) "__init__" = some (some (.ref f)) ∧ isFn K (.ref f) = true ∧ keepIn K (.ref C) = true
  fn : ∀ f names dfl, T.fns.lookup f = some (names, dfl) → FnOk K f names dfl
  cf : ∀ f, T.cfn.contains f = true → keepIn K (.ref f) = true
/-! the evaluator -/
inductive Fl
  | next
  | ret (v : LV)
noncomputable abbrev KV := LV → Hp → Prop
structure Ev where
  e : Scope → Expr → Loc → Hp → KV → Prop
  b : Scope → Expr → Loc → Hp → (Bool → Hp → Prop) → Prop
  s : Scope → List Stmt → Loc → Hp → (Fl → Loc → Hp → Prop) → Prop
  c : Addr → List LV → Hp → KV → Prop
noncomputable abbrev Pm := Addr → Option (List LV → Hp → KV → Prop)
noncomputable def datsOf : List LV → Option (List Dat)
  | [] => some []
  | .d x :: r => (match datsOf r with | some l => some (x :: l) | none => none)
  | _ :: _ => none
noncomputable def strsOf : List Dat → Option (List Str)
  | [] => some []
  | .str x :: r => (match strsOf r with | some l => some (x :: l) | none => none)
  | _ :: _ => none
noncomputable def intsOf : List Dat → Option (List Int)
  | [] => some []
  | .int x :: r => (match intsOf r with | some l => some (x :: l) | none => none)
  | _ :: _ => none
noncomputable abbrev szLine : Nat := 16777216
/-- a list whose spine is laid out before one goes on -/
noncomputable def forceK {α : Type} : List α → (List α → Prop) → Prop
  | [], k => k []
  | a :: r, k => forceK r fun r' => k (a :: r')
theorem forceK_eq {α : Type} : ∀ (l : List α) (k : List α → Prop), forceK l k = k l
  | [], _ => rfl
  | a :: r, k => forceK_eq r fun r' => k (a :: r')
noncomputable def lenK {α : Type} : List α → Nat → (Nat → Prop) → Prop
  | [], n, k => k n
  | _ :: r, n, k => lenK r (n + 1) k
theorem lenK_eq {α : Type} : ∀ (l : List α) (n : Nat) (k : Nat → Prop), lenK l n k = k (n + l.length)
  | [], _, _ => rfl
  | _ :: r, n, k => by
    unfold lenK
    rw [lenK_eq r (n + 1) k, List.length_cons, Nat.add_assoc, Nat.add_comm 1]
theorem lenK_0 {α : Type} (l : List α) (k : Nat → Prop) : lenK l 0 k = k l.length := by rw [lenK_eq, Nat.zero_add]
noncomputable def vConst (k : Const) (H : Hp) (P : KV) : Prop := match k with
  | .str x => P (.d (.str x)) H
  | .int i => P (.d (.int i)) H
  | .bool b => P (.d (.bool b)) H
  | .none => P (.d .none) H
  | _ => False
noncomputable def isFix : LV → Bool
  | .d _ => true
  | .top _ => true
  | _ => false
noncomputable def vName (T : Tabs) (cs : Scope) (x : Str) (l : Loc) (H : Hp) (P : KV) : Prop := match cs.names.lookup x with
  | some .local => (match l.lookup x with | some v => P v H | none => False)
  | some .cell => (match l.lookup x with
    | some (.obj i) => (match H[i]? with | some (.cell (some v)) => P v H | _ => False)
    | some (.d d) => P (.d d) H
    | some (.top a) => P (.top a) H
    | _ => False)
  | some .globalImplicit => (match T.globs.lookup x with | some v => P v H | none => False)
  | _ => False
noncomputable def bnI (op : Operator) (i j : Int) (H : Hp) (P : KV) : Prop := match op with
  | .Add => P (.d (.int (i + j))) H
  | .Sub => P (.d (.int (i - j))) H
  | .Mult => cond (Nat.blt 0 i.toNat && Nat.ble i.toNat 65536) (P (.d (.int (i * j))) H) False
  | .Mod => cond (j == 0) False (P (.d (.int (i.fmod j))) H)
  | .FloorDiv => cond (Nat.blt 0 j.toNat && Nat.ble j.toNat 65536) (P (.d (.int (i.fdiv j))) H) False
  | .Pow => cond (Nat.ble i.natAbs 65536 && decide (0 ≤ j) && Nat.ble j.toNat 100) (P (.d (.int (i ^ j.toNat))) H) False
  | _ => False
noncomputable def bnS (op : Operator) (x y : Str) (H : Hp) (P : KV) : Prop := match op with
  | .Add => cond (Nat.ble (x.length + y.length) szLine) (P (.d (.str (x ++ y))) H) False
  | _ => False
noncomputable def asD (v : LV) (k : Dat → Prop) : Prop := match v with
  | .d x => k x
  | _ => False
noncomputable def asI (x : Dat) (k : Int → Prop) : Prop := match x with
  | .int i => k i
  | _ => False
noncomputable def asS (x : Dat) (k : Str → Prop) : Prop := match x with
  | .str i => k i
  | _ => False
theorem asD.inv {v : LV} {k : Dat → Prop} (h : asD v k) : ∃ x, v = .d x ∧ k x := by
  induction v with
  | d x => exact ⟨x, rfl, h⟩
  | _ => exact h.elim
theorem asI.inv {x : Dat} {k : Int → Prop} (h : asI x k) : ∃ i, x = .int i ∧ k i := by
  cases x with
  | int x => exact ⟨x, rfl, h⟩
  | _ => exact h.elim
theorem asS.inv {x : Dat} {k : Str → Prop} (h : asS x k) : ∃ i, x = .str i ∧ k i := by
  cases x with
  | str x => exact ⟨x, rfl, h⟩
  | _ => exact h.elim
noncomputable def vBin (op : Operator) (a b : LV) (H : Hp) (P : KV) : Prop := asD a fun a => asD b fun b => match a with
  | .str x => asS b fun y => bnS op x y H P
  | .int i => asI b fun j => bnI op i j H P
  | _ => False
noncomputable def inS (x y : Str) : Bool := !(Builtin.Str.occurrences x y 0 x.length 1).isEmpty
noncomputable def cmS (op : CmpOp) (x y : Str) (P : Bool → Prop) : Prop := match op with
  | .Eq => P (x == y)
  | .NotEq => P (x != y)
  | .LtE => P (!decide (y.cps.toList < x.cps.toList))
  | .In => P (inS y x)
  | .NotIn => P (!inS y x)
  | _ => False
noncomputable def cmI (op : CmpOp) (x y : Int) (P : Bool → Prop) : Prop := match op with
  | .Eq => P (x == y)
  | .NotEq => P (x != y)
  | .Lt => P (decide (x < y))
  | .LtE => P (decide (x ≤ y))
  | .Gt => P (decide (y < x))
  | .GtE => P (decide (y ≤ x))
  | _ => False
noncomputable def isTab (o : Option AO) (k : List (Str × Addr) → Prop) : Prop := match o with
  | some o => (match o with
    | .tab ts => k ts
    | _ => False)
  | none => False
theorem isTab.inv {o : Option AO} {k : List (Str × Addr) → Prop} (h : isTab o k) : ∃ ts, o = some (.tab ts) ∧ k ts := by
  induction o with
  | none => exact h.elim
  | some o => induction o with
    | tab ts => exact ⟨ts, rfl, h⟩
    | _ => exact h.elim
noncomputable def isSm {α : Type} (o : Option α) (k : α → Prop) : Prop := match o with
  | some x => k x
  | none => False
theorem isSm.inv {α : Type} {o : Option α} {k : α → Prop} (h : isSm o k) : ∃ x, o = some x ∧ k x := by
  induction o with
  | none => exact h.elim
  | some x => exact ⟨x, rfl, h⟩
noncomputable def cmST (op : CmpOp) (x : Str) (ds : List Dat) (P : Bool → Prop) : Prop := match op with
  | .In => isSm (strsOf ds) fun ys => P (ys.any fun y => y == x)
  | _ => False
noncomputable def cmIT (op : CmpOp) (x : Int) (ds : List Dat) (P : Bool → Prop) : Prop := match op with
  | .NotIn => isSm (intsOf ds) fun ys => P (!(ys.any fun y => y == x))
  | _ => False
noncomputable def cmSO (op : CmpOp) (x : Str) (o : Option AO) (P : Bool → Prop) : Prop := match op with
  | .In => isTab o fun ts => P (ts.any fun t => t.1 == x)
  | .NotIn => isTab o fun ts => P (!(ts.any fun t => t.1 == x))
  | _ => False
noncomputable def isNt (op : CmpOp) (X : Prop) : Prop := match op with
  | .IsNot => X
  | _ => False
theorem isNt.inv {op : CmpOp} {X : Prop} (h : isNt op X) : op = .IsNot ∧ X := by
  induction op with
  | IsNot => exact ⟨rfl, h⟩
  | _ => exact h.elim
noncomputable def isZ (d : Dat) (P : Prop) : Prop := match d with
  | .none => P
  | _ => False
theorem isZ.inv {d : Dat} {P : Prop} (h : isZ d P) : d = .none ∧ P := by
  induction d using Dat.casesOn with
  | none => exact ⟨rfl, h⟩
  | _ => exact h.elim
noncomputable def cmDS (op : CmpOp) (x : Str) (b : Dat) (P : Bool → Prop) : Prop := match b with
  | .str y => cmS op x y P
  | .tuple ds => cmST op x ds P
  | .none => isNt op (P true)
  | _ => False
noncomputable def cmDI (op : CmpOp) (x : Int) (b : Dat) (P : Bool → Prop) : Prop := match b with
  | .int y => cmI op x y P
  | .tuple ds => cmIT op x ds P
  | _ => False
noncomputable def cmXS (op : CmpOp) (x : Str) (b : LV) (H : Hp) (P : Bool → Prop) : Prop := match b with
  | .d b => cmDS op x b P
  | .obj i => cmSO op x H[i]? P
  | _ => False
noncomputable def vCmp (op : CmpOp) (a b : LV) (H : Hp) (P : Bool → Prop) : Prop := asD a fun a => match a with
  | .str x => cmXS op x b H P
  | .int x => asD b fun b => cmDI op x b P
  | .none => asD b fun b => isZ b (isNt op (P false))
  | _ => False
noncomputable def vGet (T : Tabs) (v : LV) (nm : Str) (H : Hp) (P : KV) : Prop := match v with
  | .obj i => (match H[i]? with
    | some (.inst C fs) => (match T.cls.lookup C with
      | some (flds, _) => cond (flds.contains nm) (match fs.lookup nm with | some x => cond x.plain (P x H) False | none => False) False
      | none => False)
    | _ => False)
  | _ => False
noncomputable def vSet (T : Tabs) (v : LV) (nm : Str) (u : LV) (H : Hp) (P : Hp → Prop) : Prop := match v with
  | .obj i => (match H[i]? with
    | some (.inst C fs) => (match T.cls.lookup C with
      | some (flds, _) => cond (flds.contains nm && Nat.ble fs.length 900) (forceK (putF nm u fs) fun fs' => forceK (H.set i (.inst C fs')) P) False
      | none => False)
    | _ => False)
  | _ => False
noncomputable def isStar : Expr → Bool
  | .Starred .. => true
  | _ => false
noncomputable def noComp : Expr → Bool
  | .ListComp .. => false
  | .SetComp .. => false
  | .DictComp .. => false
  | _ => true
noncomputable def vArgs (ih : Ev) (cs : Scope) : List Expr → Loc → Hp → (List LV → Hp → Prop) → Prop
  | [], _, H, P => P [] H
  | e :: es, l, H, P => ih.e cs e l H fun v H1 => vArgs ih cs es l H1 fun vs H2 => P (v :: vs) H2
/-- no star among them -/
noncomputable def noStars (es : List Expr) : Bool := es.all fun e => !isStar e
noncomputable def vArgsN (ih : Ev) (cs : Scope) (es : List Expr) (l : Loc) (H : Hp) (P : List LV → Hp → Prop) : Prop := cond (noStars es) (vArgs ih cs es l H P) False
/-- the builtins -/
noncomputable def vBi (id : String) (vs : List LV) (H : Hp) (P : KV) : Prop := match vs with
  | [.obj i] => cond (id == "len") (match H[i]? with
      | some (.chars cs) => cond (Nat.ble cs.length szLine) (P (.d (.int cs.length)) H) False
      | some (.list ds) => cond (Nat.ble ds.length szLine) (P (.d (.int ds.length)) H) False
      | _ => False) False
  | [.d (.str x)] => cond (id == "len") (cond (Nat.ble x.length szLine) (P (.d (.int x.length)) H) False)
      (cond (id == "ord") (match x.cps.toList with | [k] => P (.d (.int k)) H | _ => False) False)
  | [.d (.tuple ds)] => cond (id == "len") (ds.length ≤ szLine ∧ P (.d (.int ds.length)) H) False
  | [.d (.int i)] => cond (id == "chr") ((0 ≤ i ∧ i ≤ 1114111) ∧ P (.d (.str (one i.toNat))) H) False
  | _ => False
noncomputable def vApp (i : Nat) (x : LV) (H : Hp) (P : KV) : Prop := match x with
  | .d x => (match H[i]? with
    | some (.list ds) => cond (Nat.ble ds.length szLine) (forceK (H.set i (.list (ds ++ [x]))) (P (.d .none))) False
    | some (.chars cs) => (match x with
      | .str y => (match y.cps.toList with
        | [k] => cond (Nat.ble cs.length szLine) (forceK (H.set i (.chars (cs ++ [k]))) (P (.d .none))) False
        | _ => False)
      | _ => False)
    | _ => False)
  | _ => False
noncomputable def vMeth (T : Tabs) (ih : Ev) (cs : Scope) (v : LV) (nm : Str) (args : List Expr) (l : Loc) (H : Hp) (P : KV) : Prop := match v with
  | .obj i => (match H[i]? with
    | some (.inst C fs) => (match T.cls.lookup C with
      | some (_, ms) => (match ms.lookup nm with
        | some f => (match fs.lookup nm, T.fns.lookup f with
          | none, some _ => vArgsN ih cs args l H fun vs H1 => ih.c f (v :: vs) H1 P
          | _, _ => False)
        | none => False)
      | none => False)
    | some o => cond (o.isL && nm == Str.ofString "append") (match args with
      | [a] => vArgsN ih cs [a] l H fun vs H1 => (match vs with | [x] => vApp i x H1 P | _ => False)
      | _ => False) False
    | none => False)
  | .d (.str x) => cond (nm == Str.ofString "join" && Nat.ble x.length 16) (match args with
      | [a] => vArgsN ih cs [a] l H fun vs H1 => (match vs with
        | [.obj k] => (match H1[k]? with
          | some (.list ds) => ∃ xs, strsOf ds = some xs ∧ (xs.map (·.length)).sum + xs.length ≤ 1048576 ∧ P (.d (.str (Txt.join x xs))) H1
          | _ => False)
        | _ => False)
      | _ => False) False
  | _ => False
noncomputable def vFn (T : Tabs) (ih : Ev) (cs : Scope) (v : LV) (args : List Expr) (l : Loc) (H : Hp) (P : KV) : Prop := match v with
  | .top f => (match T.inits.lookup f with
    | some _ => vArgsN ih cs args l H fun vs H1 => ih.c f vs H1 P
    | none => (match T.fns.lookup f with
      | some _ => vArgsN ih cs args l H fun vs H1 => ih.c f vs H1 P
      | none => cond (T.cfn.contains f) (vArgsN ih cs args l H fun vs H1 => ih.c f vs H1 P) False))
  | .bi id => (match args with
    | [] => False
    | a :: as => vArgsN ih cs (a :: as) l H fun vs H1 => vBi id vs H1 P)
  | _ => False
noncomputable def notSuper : Expr → Bool
  | .Call (.Name _ _) [] [] _ => false
  | _ => true
noncomputable def vCallE (T : Tabs) (ih : Ev) (cs : Scope) (f : Expr) (args : List Expr) (pos : Pos) (l : Loc) (H : Hp) (P : KV) : Prop := match f with
  | .Attribute o nm apos => cond (notSuper o && apos.endLine == pos.line && noStars args && Nat.blt args.length 30) (ih.e cs o l H fun v H1 => vMeth T ih cs v nm args l H1 P) False
  | .Name x _ => vName T cs x l H fun v H1 => vFn T ih cs v args l H1 P
  | _ => False
noncomputable def vChain (ih : Ev) (cs : Scope) (a : LV) : List CmpOp → List Expr → Loc → Hp → (Bool → Hp → Prop) → Prop
  | [op], [e], l, H, P => ih.e cs e l H fun b H1 => vCmp op a b H1 fun t => P t H1
  | op :: op' :: ops, e :: e' :: es, l, H, P => ih.e cs e l H fun b H1 => vCmp op a b H1 fun t => cond t (vChain ih cs b (op' :: ops) (e' :: es) l H1 P) (P false H1)
  | _, _, _, _, _ => False
noncomputable def vCompare (ih : Ev) (cs : Scope) (a : Expr) (ops : List CmpOp) (es : List Expr) (l : Loc) (H : Hp) (P : Bool → Hp → Prop) : Prop := match ops, es with
  | [op], [e] => cond (behindInMarks op e) False (ih.e cs a l H fun v H1 => vChain ih cs v [op] [e] l H1 P)
  | op :: op' :: ops, e :: e' :: es => cond (lastMarks (op :: op' :: ops) (e :: e' :: es)) False (ih.e cs a l H fun v H1 => vChain ih cs v (op :: op' :: ops) (e :: e' :: es) l H1 P)
  | _, _ => False
noncomputable def tabK (x : Str) (k : Addr → Prop) : List (Str × Addr) → Prop
  | [] => False
  | t :: r => cond (t.1 == x) (k t.2) (tabK x k r)
noncomputable def vSub (v i : LV) (H : Hp) (P : KV) : Prop := match v, i with
  | .obj k, .d (.int j) => (match H[k]? with
    | some (.chars cs) => (0 ≤ j ∧ j < cs.length ∧ cs.length ≤ szLine) ∧ P (.d (.str (one (cs.getD j.toNat 0)))) H
    | some (.list ds) => (match ds[j.toNat]? with | some d => cond (decide (0 ≤ j) && Nat.ble ds.length szLine) (P (.d d) H) False | none => False)
    | _ => False)
  | .obj k, .d (.str x) => (match H[k]? with
    | some (.tab ts) => tabK x (fun a => P (.top a) H) ts
    | _ => False)
  | .d (.str x), .d (.int j) => (0 ≤ j ∧ j < x.length ∧ x.length ≤ szLine) ∧ P (.d (.str (one (x.cps.toList.getD j.toNat 0)))) H
  | .d (.tuple ds), .d (.int j) => (match ds[j.toNat]? with | some d => cond (decide (0 ≤ j) && Nat.ble ds.length szLine) (P (.d d) H) False | none => False)
  | .d (.list ds), .d (.int j) => (match ds[j.toNat]? with | some d => cond (decide (0 ≤ j) && Nat.ble ds.length szLine) (P (.d d) H) False | none => False)
  | _, _ => False
/-- an index that is no constant -/
noncomputable def vSubX (v i : LV) (H : Hp) (P : KV) : Prop := match v, i with
  | .obj k, .d (.int j) => (match H[k]? with
    | some (.list ds) => (0 ≤ j ∧ j < ds.length ∧ ds.length ≤ szLine) ∧ (match strsOf ds with
      | some xs => ∀ x : Str, xs[j.toNat]? = some x → P (.d (.str x)) H
      | none => (match intsOf ds with
        | some xs => ∀ x : Int, xs[j.toNat]? = some x → P (.d (.int x)) H
        | none => ∀ d, ds[j.toNat]? = some d → P (.d d) H))
    | _ => vSub v i H P)
  | .d (.tuple ds), .d (.int j) => (0 ≤ j ∧ j < ds.length ∧ ds.length ≤ szLine) ∧ ∀ d, ds[j.toNat]? = some d → P (.d d) H
  | _, _ => vSub v i H P
noncomputable def isK : Expr → Bool
  | .Constant .. => true
  | .UnaryOp .. => true
  | .IfExp .. => true
  | _ => false
noncomputable def vSlc (ih : Ev) (cs : Scope) (o lo hi : Expr) (l : Loc) (H : Hp) (P : KV) : Prop := ih.e cs o l H fun v H1 => ih.e cs lo l H1 fun a H2 => ih.e cs hi l H2 fun b H3 =>
  asD v fun v => asS v fun x => asD a fun a => asI a fun i => asD b fun b => asI b fun j => x.length ≤ szLine ∧ P (.d (.str (Txt.slice x (some i) (some j)))) H3
noncomputable def vSubG (ih : Ev) (cs : Scope) (o i : Expr) (l : Loc) (H : Hp) (P : KV) : Prop := cond (notSlice i) (ih.e cs o l H fun v H1 => ih.e cs i l H1 fun j H2 => cond (isK i) (vSub v j H2 P) (vSubX v j H2 P)) False
noncomputable def vSubE (ih : Ev) (cs : Scope) (o i : Expr) (l : Loc) (H : Hp) (P : KV) : Prop := match i with
  | .Slice lo hi st _ => isSm lo fun lo => isSm hi fun hi => (match st with
    | none => vSlc ih cs o lo hi l H P
    | _ => False)
  | i => vSubG ih cs o i l H P
noncomputable def vOr (ih : Ev) (cs : Scope) : List Expr → Loc → Hp → (Bool → Hp → Prop) → Prop
  | [], _, H, P => P false H
  | e :: es, l, H, P => ih.b cs e l H fun t H1 => cond t (P true H1) (vOr ih cs es l H1 P)
noncomputable def vAnd (ih : Ev) (cs : Scope) : List Expr → Loc → Hp → (Bool → Hp → Prop) → Prop
  | [], _, H, P => P true H
  | e :: es, l, H, P => ih.b cs e l H fun t H1 => cond t (vAnd ih cs es l H1 P) (P false H1)
noncomputable def vBoolV (ih : Ev) (cs : Scope) (op : BoolOp) : List Expr → Loc → Hp → KV → Prop
  | [], _, _, _ => False
  | [e], l, H, P => ih.e cs e l H P
  | e :: es, l, H, P => ih.e cs e l H fun v H1 => (match v with
    | .d (.bool t) => (match op with
      | .Or => cond t (P (.d (.bool true)) H1) (vBoolV ih cs op es l H1 P)
      | .And => cond t (vBoolV ih cs op es l H1 P) (P (.d (.bool false)) H1))
    | _ => False)
noncomputable def vE (T : Tabs) (ih : Ev) (cs : Scope) (e : Expr) (l : Loc) (H : Hp) (P : KV) : Prop := match e with
  | .Constant k _ _ => vConst k H P
  | .Name x _ => vName T cs x l H P
  | .BinOp a op b _ => ih.e cs a l H fun u H1 => ih.e cs b l H1 fun v H2 => vBin op u v H2 P
  | .UnaryOp op a _ => (match op with
    | .USub => ih.e cs a l H fun u H1 => asD u fun d => asI d fun i => P (.d (.int (-i))) H1
    | _ => False)
  | .BoolOp op es _ => vBoolV ih cs op es l H P
  | .Compare a ops es _ => vCompare ih cs a ops es l H fun t H1 => P (.d (.bool t)) H1
  | .Call f args kw pos => (match kw with
    | [] => vCallE T ih cs f args pos l H P
    | _ => False)
  | .Attribute o nm _ => cond (notSuper o) (ih.e cs o l H fun v H1 => vGet T v nm H1 P) False
  | .Subscript o i _ => vSubE ih cs o i l H P
  | .IfExp t a b _ => ih.b cs t l H fun c H1 => cond c (ih.e cs a l H1 P) (ih.e cs b l H1 P)
  | .Tuple es _ _ => vArgsN ih cs es l H fun vs H1 => (match datsOf vs with | some ds => cond (Nat.ble ds.length szLine) (P (.d (.tuple ds)) H1) False | none => cond (Nat.ble vs.length szLine) (lenK H1 0 fun k => forceK (H1 ++ [.tup vs]) (P (.obj k))) False)
  | .List es _ => vArgsN ih cs es l H fun vs H1 => (match datsOf vs with | some ds => cond (Nat.ble ds.length szLine) (lenK H1 0 fun k => forceK (H1 ++ [.list ds]) (P (.obj k))) False | none => False)
  | _ => False
noncomputable def plainTest : Expr → Bool
  | .Call .. => true
  | .Name .. => true
  | .Attribute .. => true
  | .Constant .. => true
  | _ => false
noncomputable def asB (x : Dat) (k : Bool → Prop) : Prop := match x with
  | .bool b => k b
  | _ => False
theorem asB.inv {x : Dat} {k : Bool → Prop} (h : asB x k) : ∃ i, x = .bool i ∧ k i := by
  cases x with
  | bool x => exact ⟨x, rfl, h⟩
  | _ => exact h.elim
noncomputable def vBp (ih : Ev) (cs : Scope) (e : Expr) (l : Loc) (H : Hp) (P : Bool → Hp → Prop) : Prop := cond (plainTest e) (ih.e cs e l H fun v H1 => asD v fun d => asB d fun t => P t H1) False
noncomputable def vB (ih : Ev) (cs : Scope) (e : Expr) (l : Loc) (H : Hp) (P : Bool → Hp → Prop) : Prop := match e with
  | .UnaryOp op a _ => (match op with
    | .Not => ih.b cs a l H fun t H1 => P (!t) H1
    | _ => False)
  | .BoolOp op es _ => (match op with
    | .Or => vOr ih cs es l H P
    | .And => vAnd ih cs es l H P)
  | .Compare a ops es _ => vCompare ih cs a ops es l H P
  | e => vBp ih cs e l H P
noncomputable def vNames (cs : Scope) : List Expr → List Dat → Loc → (Loc → Prop) → Prop
  | [], [], l, P => P l
  | .Name x _ :: es, d :: ds, l, P => cond (decide (cs.names.lookup x = some .local)) (vNames cs es ds ((x, .d d) :: l) P) False
  | _, _, _, _ => False
noncomputable def asO (v : LV) (k : Nat → Prop) : Prop := match v with
  | .obj x => k x
  | _ => False
theorem asO.inv {v : LV} {k : Nat → Prop} (h : asO v k) : ∃ x, v = .obj x ∧ k x := by
  induction v with
  | obj x => exact ⟨x, rfl, h⟩
  | _ => exact h.elim
theorem cond_f {b : Bool} {X : Prop} (h : cond b X False) : b = true ∧ X := by
  induction b with
  | true => exact ⟨rfl, h⟩
  | false => exact h.elim
theorem cond_t {b : Bool} {X : Prop} (h : cond b False X) : b = false ∧ X := by
  induction b with
  | true => exact h.elim
  | false => exact ⟨rfl, h⟩
noncomputable def uc {α : Type} (l : List α) (k : α → List α → Prop) : Prop := match l with
  | a :: t => k a t
  | [] => False
theorem uc.inv {α : Type} {l : List α} {k : α → List α → Prop} (h : uc l k) : ∃ a t, l = a :: t ∧ k a t := by
  induction l with
  | nil => exact h.elim
  | cons a t => exact ⟨a, t, rfl, h⟩
noncomputable def un {α : Type} (l : List α) (P : Prop) : Prop := match l with
  | [] => P
  | _ => False
theorem un.inv {α : Type} {l : List α} {P : Prop} (h : un l P) : l = [] ∧ P := by
  induction l with
  | nil => exact ⟨rfl, h⟩
  | cons a t => exact h.elim
noncomputable def asN (n : Nat) (v : LV) (P : Prop) : Prop := asO v fun i => cond (Nat.beq i n) P False
theorem asN.inv {n : Nat} {v : LV} {P : Prop} (h : asN n v P) : v = .obj n ∧ P := by
  obtain ⟨i, rfl, h1⟩ := asO.inv h
  obtain ⟨h2, h3⟩ := cond_f h1
  exact ⟨congrArg LV.obj (Nat.eq_of_beq_eq_true h2), h3⟩
/-- the kinds of a written function's arguments -/
inductive Ag
  | s
  | i
  | t
  | p
  | o (n : Nat)
noncomputable def Ag.T : Ag → Type
  | .s => Str
  | .i => Int
  | .t => Unit
  | .p => Addr
  | .o _ => Unit
noncomputable def asP (v : LV) (k : Addr → Prop) : Prop := match v with
  | .top a => k a
  | _ => False
theorem asP.inv {v : LV} {k : Addr → Prop} (h : asP v k) : ∃ a, v = .top a ∧ k a := by
  induction v with
  | top a => exact ⟨a, rfl, h⟩
  | _ => exact h.elim
noncomputable def Ag.as (t : Ag) (v : LV) : (t.T → Prop) → Prop := match t with
  | .s => fun k => asD v fun d => asS d k
  | .i => fun k => asD v fun d => asI d k
  | .t => fun k => asD v fun d => asB d fun b => cond b (k ()) False
  | .p => fun k => asP v k
  | .o n => fun k => asN n v (k ())
noncomputable def Ag.mk (t : Ag) : t.T → LV := match t with
  | .s => fun x => .d (.str x)
  | .i => fun x => .d (.int x)
  | .t => fun Z => .d (.bool true)
  | .p => fun a => .top a
  | .o n => fun Z => .obj n
theorem Ag.inv {t : Ag} {v : LV} {k : t.T → Prop} (h : t.as v k) : ∃ x, v = t.mk x ∧ k x := by
  induction t with
  | s => obtain ⟨d, rfl, h1⟩ := asD.inv h; obtain ⟨x, rfl, h2⟩ := asS.inv h1; exact ⟨x, rfl, h2⟩
  | i => obtain ⟨d, rfl, h1⟩ := asD.inv h; obtain ⟨x, rfl, h2⟩ := asI.inv h1; exact ⟨x, rfl, h2⟩
  | t => obtain ⟨d, rfl, h1⟩ := asD.inv h; obtain ⟨x, rfl, h2⟩ := asB.inv h1; obtain ⟨rfl, h3⟩ := cond_f h2; exact ⟨(), rfl, h3⟩
  | p => obtain ⟨a, rfl, h1⟩ := asP.inv h; exact ⟨a, rfl, h1⟩
  | o n => obtain ⟨rfl, h2⟩ := asN.inv h; exact ⟨(), rfl, h2⟩
noncomputable def Ags : List Ag → Type
  | [] => Unit
  | t :: ts => t.T × Ags ts
noncomputable def uA : (ts : List Ag) → List LV → (Ags ts → Prop) → Prop
  | [], l, k => un l (k ())
  | t :: ts, l, k => uc l fun v l => t.as v fun x => uA ts l fun y => k (x, y)
noncomputable def mkA : (ts : List Ag) → Ags ts → List LV
  | [], _ => []
  | t :: ts, v => t.mk v.1 :: mkA ts v.2
theorem uA.inv : ∀ {ts : List Ag} {l : List LV} {k : Ags ts → Prop}, uA ts l k → ∃ v, l = mkA ts v ∧ k v
  | [], l, k, h => by obtain ⟨rfl, h1⟩ := un.inv h; exact ⟨(), rfl, h1⟩
  | t :: ts, l, k, h => by
    obtain ⟨v, r, rfl, h1⟩ := uc.inv h
    obtain ⟨x, rfl, h2⟩ := Ag.inv h1
    obtain ⟨y, rfl, h3⟩ := uA.inv h2
    exact ⟨(x, y), rfl, h3⟩
noncomputable def isLs (o : Option AO) (k : List Dat → Prop) : Prop := match o with
  | some o => (match o with
    | .list ts => k ts
    | _ => False)
  | none => False
theorem isLs.inv {o : Option AO} {k : List Dat → Prop} (h : isLs o k) : ∃ ts, o = some (.list ts) ∧ k ts := by
  induction o with
  | none => exact h.elim
  | some o => induction o with
    | list ts => exact ⟨ts, rfl, h⟩
    | _ => exact h.elim
noncomputable def vStore (T : Tabs) (ih : Ev) (cs : Scope) (t : Expr) (v : LV) (l : Loc) (H : Hp) (P : Loc → Hp → Prop) : Prop := match t with
  | .Name x _ => (match cs.names.lookup x with
    | some .local => P ((x, v) :: l) H
    | some .cell => (match l.lookup x with
      | some (.obj i) => (match H[i]? with | some (.cell _) => forceK (H.set i (.cell (some v))) (P l) | _ => False)
      | _ => False)
    | _ => False)
  | .Tuple es _ _ => (match v with
    | .d (.tuple ds) => vNames cs es ds l fun l' => P l' H
    | _ => False)
  | .Attribute o nm _ => ih.e cs o l H fun ov H1 => vSet T ov nm v H1 (P l)
  | .Subscript o i _ => ih.e cs o l H fun ov H1 => ih.e cs i l H1 fun iv H2 => asO ov fun k => asD iv fun i => asI i fun j => asD v fun x => isLs H2[k]? fun ds => (0 ≤ j ∧ j < ds.length ∧ ds.length ≤ szLine) ∧ forceK (H2.set k (.list (ds.set j.toNat x))) (P l)
  | _ => False
noncomputable def notTup : Expr → Bool
  | .Tuple .. => false
  | _ => true
noncomputable def isCallE : Expr → Bool
  | .Call .. => true
  | _ => false
noncomputable def okTarget : Expr → Bool
  | .Name .. => true
  | .Tuple .. => true
  | .Attribute .. => true
  | .Subscript .. => true
  | _ => false
noncomputable def isAt (e : Expr) (k : Expr → Str → Prop) : Prop := match e with
  | .Attribute o nm _ => k o nm
  | _ => False
theorem isAt.inv {e : Expr} {k : Expr → Str → Prop} (h : isAt e k) : ∃ o nm p, e = .Attribute o nm p ∧ k o nm := by
  induction e using Expr.casesOn with
  | Attribute o nm p => exact ⟨o, nm, p, rfl, h⟩
  | _ => exact h.elim
noncomputable def vAug (T : Tabs) (op : Operator) (ov : LV) (nm : Str) (i j : Int) (H : Hp) (P : Hp → Prop) : Prop := match op with
  | .Add => vSet T ov nm (.d (.int (i + j))) H P
  | .Sub => vSet T ov nm (.d (.int (i - j))) H P
  | _ => False
noncomputable def vSt (T : Tabs) (ih : Ev) (cs : Scope) (st : Stmt) (l : Loc) (H : Hp) (P : Fl → Loc → Hp → Prop) : Prop := match st with
  | .Expr e _ => cond (noComp e) (ih.e cs e l H fun Z H1 => P .next l H1) False
  | .Assign ts e _ => (match ts with
    | [] => False
    | t :: ts => (match ts with
      | [] => cond (noComp e && okTarget t && (notTup t || isCallE e)) (ih.e cs e l H fun v H1 => vStore T ih cs t v l H1 (P .next)) False
      | _ => False))
  | .AugAssign tg op e _ => isAt tg fun o nm => ih.e cs o l H fun ov H1 => vGet T ov nm H1 fun u H2 => ih.e cs e l H2 fun v H3 => asD u fun u => asI u fun i => asD v fun v => asI v fun j => vAug T op ov nm i j H3 (P .next l)
  | .If t b o _ => ih.b cs t l H fun c H1 => cond c (ih.s cs b l H1 P) (ih.s cs o l H1 P)
  | .Return o _ => (match o with
    | none => P (.ret (.d .none)) l H
    | some e => ih.e cs e l H fun v H1 => P (.ret v) l H1)
  | .Pass _ => P .next l H
  | _ => False
noncomputable def vS (T : Tabs) (ih : Ev) (cs : Scope) (ss : List Stmt) (l : Loc) (H : Hp) (P : Fl → Loc → Hp → Prop) : Prop := match ss with
  | [] => P .next l H
  | st :: rest => vSt T ih cs st l H fun fl l1 H1 => (match fl with | .next => ih.s cs rest l1 H1 P | .ret v => P (.ret v) l1 H1)
noncomputable def vC (K : Frag) (T : Tabs) (Pr : Pm) (ih : Ev) (f : Addr) (lvs : List LV) (H : Hp) (P : KV) : Prop := match Pr f with
  | some sp => sp lvs H P
  | none => match T.inits.lookup f with
    | some fI => lenK H 0 fun k => forceK (H ++ [.inst f []]) fun H0 => ih.c fI (.obj k :: lvs) H0 fun r H1 => (match r with | .d .none => P (.obj k) H1 | _ => False)
    | none => match T.fns.lookup f with
      | some (names, dfl) => (match fullL names dfl lvs with
        | some full => forceK (names.zip full).reverse fun l0 => ih.s (scopeOf K f) (bodyOf K f) l0 H fun fl Z H1 => (match fl with | .next => P (.d .none) H1 | .ret v => P v H1)
        | none => False)
      | none => False
noncomputable def Ev.step (K : Frag) (T : Tabs) (Pr : Pm) (ih : Ev) : Ev := ⟨vE T ih, vB ih, vS T ih, vC K T Pr ih⟩
noncomputable def Ev.run (K : Frag) (T : Tabs) (Pr : Pm) : Nat → Ev
  | 0 => ⟨fun Z Z Z Z Z => False, fun Z Z Z Z Z => False, fun Z Z Z Z Z => False, fun Z Z Z Z => False⟩
  | n + 1 => Ev.step K T Pr (Ev.run K T Pr n)
end Mine
end
section
open PySem PySem.W PyProof.Rows PySem.Calls
set_option maxRecDepth 100000
namespace Mine
/-! soundness of the evaluator -/
noncomputable def LocOk (cl : List (Str × Addr)) (adr : List Addr) (rest : Led) (l : Loc) (m : Str → Option Value) : Prop := ∀ x v, l.lookup x = some v → (cl.lookup x = none → ∃ u, m x = some u ∧ Mt adr rest v u) ∧ ∀ a, cl.lookup x = some a → ∃ i, v = .obj i ∧ adr[i]? = some a
theorem LocOk.mono {cl : List (Str × Addr)} {adr adr' : List Addr} {rest rest' : Led} {l : Loc} {m : Str → Option Value} (ha : adr <+: adr') (hr : Sub rest rest') (h : LocOk cl adr rest l m) : LocOk cl adr' rest' l m := fun x v e => by
  obtain ⟨h1, h2⟩ := h x v e
  refine ⟨fun q => ?_, fun a q => ?_⟩
  · obtain ⟨u, e1, e2⟩ := h1 q
    exact ⟨u, e1, e2.mono ha hr⟩
  · obtain ⟨i, e1, e2⟩ := h2 a q
    obtain ⟨t, rfl⟩ := ha
    exact ⟨i, e1, by rw [List.getElem?_append_left (List.getElem?_eq_some_iff.mp e2).1]; exact e2⟩
theorem LocOk.put {cl : List (Str × Addr)} {adr : List Addr} {rest : Led} {l : Loc} {m : Str → Option Value} {x : Str} {v : LV} {u : Value} (h : LocOk cl adr rest l m) (h0 : cl.lookup x = none) (hv : Mt adr rest v u) : LocOk cl adr rest ((x, v) :: l) (fun y => if y = x then some u else m y) := fun y z e => by
  rw [List.lookup_cons] at e
  by_cases q : y = x
  · subst q
    rw [beq_self_eq_true] at e
    cases e
    exact ⟨fun Z => ⟨u, if_pos rfl, hv⟩, fun a q => by rw [h0] at q; cases q⟩
  · rw [show (y == x) = false from beq_eq_false_iff_ne.mpr q] at e
    obtain ⟨h1, h2⟩ := h y z e
    refine ⟨fun q' => ?_, h2⟩
    obtain ⟨t, e1, e2⟩ := h1 q'
    exact ⟨t, (if_neg q).trans e1, e2⟩
theorem all2_lookup {R : LV → Value → Prop} : ∀ {l : List (Str × LV)} {k : List (Str × Value)}, All2 (fun a b => a.1 = b.1 ∧ R a.2 b.2) l k → ∀ x v, l.lookup x = some v → ∃ u, k.lookup x = some u ∧ R v u
  | _, _, .nil, _, _, e => by cases e
  | _, _, .cons (a := a) (b := b) ⟨h1, h2⟩ r, x, v, e => by
    obtain ⟨a1, a2⟩ := a
    obtain ⟨b1, b2⟩ := b
    dsimp only at h1 h2
    subst h1
    rw [List.lookup_cons] at e ⊢
    cases q : x == a1 with
    | true => rw [q] at e; cases e; exact ⟨b2, rfl, h2⟩
    | false => rw [q] at e; exact all2_lookup r x v e
theorem all2_zip {R : LV → Value → Prop} : ∀ {xs : List LV} {vs : List Value} (ns : List Str), All2 R xs vs → All2 (fun a b => a.1 = b.1 ∧ R a.2 b.2) (ns.zip xs) (ns.zip vs)
  | _, _, [], _ => by rw [List.zip_nil_left, List.zip_nil_left]; exact .nil
  | _, _, _ :: _, .nil => .nil
  | _, _, n :: ns, .cons h r => .cons ⟨rfl, h⟩ (all2_zip ns r)
noncomputable def MF (adr : List Addr) (rest : Led) (x : Fl) (f : Flow) : Prop := match x with
  | .next => f = .next
  | .ret v => ∃ u, f = .ret u ∧ Mt adr rest v u
noncomputable def Room (A : Around) (n : Nat) : Prop := A.depth + n < recursionLimit ∧ A.units + 4 * n < cLine
theorem Room.le {A : Around} {n m : Nat} (h : Room A n) (hm : m ≤ n) : Room A m := by
  obtain ⟨h1, h2⟩ := h
  exact ⟨by omega, by omega⟩
theorem cond_cases {b : Bool} {X Y R : Prop} (h : cond b X Y) (h1 : b = true → X → R) (h2 : b = false → Y → R) : R := by
  induction b with
  | true => exact h1 rfl h
  | false => exact h2 rfl h
section
variable {prog : Program} {w : World} {K : Frag} {Γ : GE}
noncomputable def RetS (prog : Program) (w : World) (c : FC K Γ) (adr : List Addr) (rest : Led) (s : Shared) (P : Fl → Loc → Hp → Prop) (Q : Flow → Shared → Prop) : Prop :=
  ∀ fl f l' m' adr' rest' news' H' h' tk', adr <+: adr' → Sub rest rest' → AtS prog w c m' adr' rest' news' H' { s with heap := h', toks := tk' } → LocOk c.cl adr' rest' l' m' → MF adr' rest' fl f → P fl l' H' → Q f { s with heap := h', toks := tk' }
structure FG (c : FC K Γ) : Prop where
  dbg : c.cs.names.lookup DBG = none
  loc : ∀ x, c.cs.names.lookup x = some .local → c.cl.lookup x = none
  cel : ∀ x, c.cs.names.lookup x = some .cell → ∃ a, c.cl.lookup x = some a
  fre : ∀ x, c.cs.names.lookup x ≠ some .free
/-- the names of a place, as they are read there -/
structure NmOk (prog : Program) (w : World) (c : FC K Γ) (env : Env) (cs : Scope) (adr : List Addr) (rest : Led) (l : Loc) (m : Str → Option Value) : Prop where
  loc : ∀ {adr' rest' news H s A E x pos v} {Q : Value → Shared → Prop}, adr <+: adr' → Sub rest rest' → AtS prog w c m adr' rest' news H s → cs.names.lookup x = some .local → l.lookup x = some v → (∀ u, Mt adr' rest' v u → Q u s) → wpAny (model prog w) A (eval (.Name x pos) env) Q E s
  cel : ∀ {adr' rest' news H s A E x pos i v} {Q : Value → Shared → Prop}, adr <+: adr' → Sub rest rest' → AtS prog w c m adr' rest' news H s → cs.names.lookup x = some .cell → l.lookup x = some (.obj i) → H[i]? = some (.cell (some v)) → (∀ u, Mt adr' rest' v u → Q u s) → wpAny (model prog w) A (eval (.Name x pos) env) Q E s
  ced : ∀ {adr' rest' news H s A E x pos v} {Q : Value → Shared → Prop}, adr <+: adr' → Sub rest rest' → AtS prog w c m adr' rest' news H s → cs.names.lookup x = some .cell → l.lookup x = some v → isFix v = true → (∀ u, Mt adr' rest' v u → Q u s) → wpAny (model prog w) A (eval (.Name x pos) env) Q E s
  top : ∀ {adr' rest' news H s A E x pos a} {Q : Value → Shared → Prop}, adr <+: adr' → Sub rest rest' → AtS prog w c m adr' rest' news H s → cs.names.lookup x = some .globalImplicit → GlobOk K x (.top a) → Q (.ref a) s → wpAny (model prog w) A (eval (.Name x pos) env) Q E s
  bi : ∀ {adr' rest' news H s A E x pos id} {Q : Value → Shared → Prop}, adr <+: adr' → Sub rest rest' → AtS prog w c m adr' rest' news H s → cs.names.lookup x = some .globalImplicit → GlobOk K x (.bi id) → Q (.builtin id) s → wpAny (model prog w) A (eval (.Name x pos) env) Q E s
theorem NmOk.mono {c : FC K Γ} {env : Env} {cs : Scope} {adr adr₁ : List Addr} {rest rest₁ : Led} {l : Loc} {m : Str → Option Value} (h : NmOk prog w c env cs adr rest l m) (h1 : adr <+: adr₁) (h2 : Sub rest rest₁) : NmOk prog w c env cs adr₁ rest₁ l m :=
  ⟨fun a b => h.loc (h1.trans a) (h2.trans b), fun a b => h.cel (h1.trans a) (h2.trans b), fun a b => h.ced (h1.trans a) (h2.trans b), fun a b => h.top (h1.trans a) (h2.trans b), fun a b => h.bi (h1.trans a) (h2.trans b)⟩
/-- the evaluator's word holds of the machine, within n frames -/
structure Sound (prog : Program) (w : World) (K : Frag) (Γ : GE) (ev : Ev) (n : Nat) : Prop where
  e : ∀ {c : FC K Γ} {env cs m adr rest news H s E e l P Q}, FG c → Room c.A n → AtS prog w c m adr rest news H s → NmOk prog w c env cs adr rest l m → ev.e cs e l H P → Ret prog w Mt c m adr rest s P Q → wpAny (model prog w) c.A (eval e env) Q E s
  b : ∀ {c : FC K Γ} {env cs m adr rest news H s E e l P Q}, FG c → Room c.A n → AtS prog w c m adr rest news H s → NmOk prog w c env cs adr rest l m → ev.b cs e l H P → Ret prog w MB c m adr rest s P Q → wpAny (model prog w) c.A (PySem.isTrue e env (eval e env)) Q E s
  s : ∀ {c : FC K Γ} {m adr rest news H s E ss l P Q}, FG c → Room c.A n → AtS prog w c m adr rest news H s → LocOk c.cl adr rest l m → ev.s c.cs ss l H P → RetS prog w c adr rest s P Q → wpAny (model prog w) c.A (execs ss c.env) Q E s
  c : ∀ {c : FC K Γ} {m adr rest news H s f lvs vs P R}, FG c → Room c.A n → AtS prog w c m adr rest news H s → MtL adr rest lvs vs → ev.c f lvs H P → Ret prog w Mt c m adr rest s P (fun v s' => R (.ok (.ret v)) s') → codeAny (model prog w) c.A (.call (.ref f) ⟨vs, []⟩) R s

variable {c : FC K Γ} {env : Env} {cs : Scope} {T : Tabs} {ih : Ev} {n : Nat} {A : Around} {m : Str → Option Value} {adr adr' : List Addr} {rest rest' news : Led} {H : Hp} {s : Shared} {E : Value → Shared → Prop} {l : Loc}
/-- from one step to the next -/
theorem Ret.then {α β : Type} {M : List Addr → Led → β → α → Prop} {P : β → Hp → Prop} {Q : α → Shared → Prop} (r : Ret prog w M c m adr rest s P Q) {h' : Heap} {tk' : Nat} (ha : adr <+: adr') (hr : Sub rest rest') : Ret prog w M c m adr' rest' { s with heap := h', toks := tk' } P Q :=
  fun b a adr'' rest'' news'' H'' h'' tk'' e1 e2 S hm hp => r b a adr'' rest'' news'' H'' h'' tk'' (ha.trans e1) (hr.trans e2) S hm hp
theorem vConst_sound {k : Const} {kk : Nat} {pos : Pos} {P : KV} {Q : Value → Shared → Prop} (S : AtS prog w c m adr rest news H s) (h : vConst k H P) (r : Ret prog w Mt c m adr rest s P Q) : wpAny (model prog w) A (eval (.Constant k kk pos) env) Q E s := by
  unfold vConst at h
  split at h
  · exact Constant_str (r.here S S.up mStr h)
  · exact wpAny_Constant_int (r.here S S.up mInt h)
  · exact Constant_bool (r.now S mBool h)
  · exact wpAny_Constant_none (r.now S mNone h)
  · exact h.elim
set_option tactic.hygienic true in
theorem vName_sound {x : Str} {pos : Pos} {P : KV} {Q : Value → Shared → Prop} (TO : T.Ok K) (S : AtS prog w c m adr rest news H s) (hl : NmOk prog w c env cs adr rest l m) (h : vName T cs x l H P) (r : Ret prog w Mt c m adr rest s P Q) :
    wpAny (model prog w) A (eval (.Name x pos) env) Q E s := by
  unfold vName at h
  split at h
  · rename_i e
    split at h
    · rename_i v ev
      exact hl.loc List.prefix_rfl Sub.rfl S e ev fun u hu => r.now S hu h
    · exact h.elim
  · rename_i e
    split at h
    · rename_i i ev
      split at h
      · rename_i v hv
        exact hl.cel List.prefix_rfl Sub.rfl S e ev hv fun u hu => r.now S hu h
      · exact h.elim
    · rename_i d ev
      exact hl.ced List.prefix_rfl Sub.rfl S e ev rfl fun u hu => r.now S hu h
    · rename_i a ev
      exact hl.ced List.prefix_rfl Sub.rfl S e ev rfl fun u hu => r.now S hu h
    · exact h.elim
  · rename_i e
    split at h
    · rename_i v ev
      have g := TO.glob x v ev
      induction v with
      | top a => exact hl.top List.prefix_rfl Sub.rfl S e g (r.now S (show Mt adr rest (.top a) (.ref a) from rfl) h)
      | bi id => exact hl.bi List.prefix_rfl Sub.rfl S e g (r.now S (show Mt adr rest (.bi id) (.builtin id) from rfl) h)
      | d x => exact g.elim
      | obj i => exact g.elim
    · exact h.elim
  · exact h.elim
theorem cell_at {i : Nat} {a : Addr} {v : LV} (S : AtS prog w c m adr rest news H s) (ha : adr[i]? = some a) (hv : H[i]? = some (.cell (some v))) : ∃ o u, (a, o) ∈ news ∧ o.data = .cell (some u) ∧ Mt adr rest v u := by
  obtain ⟨own, O, Sb, D⟩ := S.R
  obtain ⟨b, pre, l', post, e1, e2, ⟨o, u, rfl, hd, hm⟩, _⟩ := O.split hv
  rw [ha] at e1; cases e1
  subst e2
  exact ⟨o, u, Sb (a, o) (by simp), hd, hm⟩
theorem nmk (G : FG c) (hl : LocOk c.cl adr rest l m) : NmOk prog w c c.env c.cs adr rest l m := by
  have nd : ∀ x k, c.cs.names.lookup x = some k → (x == DBG) = false := fun x k e => beq_eq_false_iff_ne.mpr fun q => by rw [q, G.dbg] at e; cases e
  refine ⟨fun q1 q2 S e ev h => ?_, fun q1 q2 S e ev hv h => ?_, fun q1 q2 S e ev hf h => ?_, fun q1 q2 S e g h => ?_, fun q1 q2 S e g h => ?_⟩
  · obtain ⟨u, e1, e2⟩ := ((hl.mono q1 q2) _ _ ev).1 (G.loc _ e)
    exact nameX_L S.F e1 (h u e2) c.hk e (nd _ _ e)
  · obtain ⟨a, ha⟩ := G.cel _ e
    obtain ⟨j, q3, q4⟩ := ((hl.mono q1 q2) _ _ ev).2 a ha
    cases q3
    obtain ⟨o, u, hm, hd, hu⟩ := cell_at S q4 hv
    exact nameX_C S.N ha hm hd (h u hu) c.hk e (nd _ _ e)
  · obtain ⟨a, ha⟩ := G.cel _ e
    obtain ⟨j, q3, q4⟩ := ((hl.mono q1 q2) _ _ ev).2 a ha
    rw [q3] at hf; cases hf
  · exact nameX_K S.F c.X (topRead_of c.T) g.1 h c.hk e (nd _ _ e)
  · exact nameX_B S.F c.X (topRead_of c.T) g.1 g.2.1 g.2.2.1 h c.hk e (nd _ _ e)
theorem bnI_sound {op : Operator} {i j : Int} {t t' : Tok} {P : KV} {Q : Value → Shared → Prop} (S : AtS prog w c m adr rest news H s) (h : bnI op i j H P) (r : Ret prog w Mt c m adr rest s P Q) : wpAny (model prog w) A (binaryOp op (.int i t) (.int j t')) Q E s := by
  induction op with
  | Add => exact add_int (r.here S S.up mInt h)
  | Sub => exact sub_int (r.here S S.up mInt h)
  | Mult =>
    obtain ⟨h1, h2⟩ := cond_f h
    obtain ⟨h0, h1⟩ := Bool.and_eq_true_iff.mp h1
    have h0 := Nat.le_of_ble_eq_true h0
    have h1 := Nat.le_of_ble_eq_true h1
    exact PyProof.Rows.mul_int (r.here S S.up mInt h2) (IntMulOk.of_left (intBits_le_64 (by omega) (by omega)))
  | Mod =>
    obtain ⟨h1, h2⟩ := cond_t h
    exact mod_int' (by simpa using h1) (r.here S S.up mInt h2)
  | FloorDiv =>
    obtain ⟨h1, h2⟩ := cond_f h
    obtain ⟨h0, h1⟩ := Bool.and_eq_true_iff.mp h1
    have h0 := Nat.le_of_ble_eq_true h0
    have h1 := Nat.le_of_ble_eq_true h1
    exact PyProof.Rows.floordiv_int (by omega) (r.here S S.up mInt h2) (.inl (PyProof.noPylong_small (by omega)))
  | Pow =>
    obtain ⟨h1, h2⟩ := cond_f h
    obtain ⟨h1, h3⟩ := Bool.and_eq_true_iff.mp h1
    obtain ⟨h4, h5⟩ := Bool.and_eq_true_iff.mp h1
    have h3 := Nat.le_of_ble_eq_true h3
    have h4 := Nat.le_of_ble_eq_true h4
    have h5 := of_decide_eq_true h5
    exact PyProof.Rows.pow_int_small h5 (by omega) (by omega) (r.here S S.up mInt h2)
  | _ => exact h.elim
theorem bnS_sound {op : Operator} {x y : Str} {t t' : Tok} {P : KV} {Q : Value → Shared → Prop} (S : AtS prog w c m adr rest news H s) (h : bnS op x y H P) (r : Ret prog w Mt c m adr rest s P Q) : wpAny (model prog w) A (binaryOp op (.str x t) (.str y t')) Q E s := by
  induction op with
  | Add =>
    obtain ⟨h1, h2⟩ := cond_f h
    exact with_toks S.tk (PyProof.Rows.add_str (fun t' k ht => r.here S ht mStr h2) (Nat.le_of_ble_eq_true h1))
  | _ => exact h.elim
theorem vBin_sound {op : Operator} {x y : LV} {u v : Value} {P : KV} {Q : Value → Shared → Prop} (S : AtS prog w c m adr rest news H s) (hu : Mt adr rest x u) (hv : Mt adr rest y v) (h : vBin op x y H P) (r : Ret prog w Mt c m adr rest s P Q) :
    wpAny (model prog w) A (binaryOp op u v) Q E s := by
  obtain ⟨a, rfl, h1⟩ := asD.inv h
  obtain ⟨b, rfl, h2⟩ := asD.inv h1
  cases a with
  | str x =>
    obtain ⟨y, rfl, h3⟩ := asS.inv h2
    obtain ⟨_, rfl⟩ := dInv hu; cases hv; exact bnS_sound S h3 r
  | int x =>
    obtain ⟨y, rfl, h3⟩ := asI.inv h2
    obtain ⟨_, rfl⟩ := dInv hu; cases hv; exact bnI_sound S h3 r
  | _ => exact h2.elim
set_option tactic.hygienic true in
theorem strs_of : ∀ {ds : List Dat} {ys : List Str} {vs : List Value}, strsOf ds = some ys → DatAll rest vs ds → StrsAre vs ys
  | [], _, _, e, h => by cases h; cases e; exact .nil
  | .str x :: ds, ys, _, e, .cons h q => by
    unfold strsOf at e
    split at e
    · rename_i l el; cases e; cases h; exact .cons _ _ (strs_of el q)
    · cases e
  | .none :: _, _, _, e, _ => by cases e
  | .bool _ :: _, _, _, e, _ => by cases e
  | .int _ :: _, _, _, e, _ => by cases e
  | .bytes _ :: _, _, _, e, _ => by cases e
  | .tuple _ :: _, _, _, e, _ => by cases e
  | .list _ :: _, _, _, e, _ => by cases e
set_option tactic.hygienic true in
theorem ints_of : ∀ {ds : List Dat} {ys : List Int} {vs : List Value}, intsOf ds = some ys → DatAll rest vs ds → IntsAre vs ys
  | [], _, _, e, h => by cases h; cases e; exact .nil
  | .int x :: ds, ys, _, e, .cons h q => by
    unfold intsOf at e
    split at e
    · rename_i l el; cases e; cases h; exact .cons _ _ (ints_of el q)
    · cases e
  | .none :: _, _, _, e, _ => by cases e
  | .bool _ :: _, _, _, e, _ => by cases e
  | .str _ :: _, _, _, e, _ => by cases e
  | .bytes _ :: _, _, _, e, _ => by cases e
  | .tuple _ :: _, _, _, e, _ => by cases e
  | .list _ :: _, _, _, e, _ => by cases e
theorem tab_lookup (x : Str) : ∀ ts : List (Str × Addr), valueAt (TABV ts) x = (ts.lookup x).map .ref
  | [] => rfl
  | t :: r => by
    have ih := tab_lookup x r
    unfold valueAt at ih ⊢
    show (List.find? (fun kv => decide (kv.1 = x)) ((t.1, Value.ref t.2) :: TABV r)).map _ = _
    rw [List.find?_cons]
    obtain ⟨t1, t2⟩ := t
    rw [List.lookup_cons]
    by_cases e : t1 = x
    · subst e
      simp only [decide_true, beq_self_eq_true]; rfl
    · simp only [e, decide_false]
      rw [show (x == t1) = false from beq_eq_false_iff_ne.mpr (Ne.symm e)]
      exact ih
theorem tab_any (x : Str) : ∀ ts : List (Str × Addr), (ts.lookup x).isSome = (ts.any fun t => t.1 == x)
  | [] => rfl
  | (t1, t2) :: r => by
    rw [List.lookup_cons, List.any_cons, ← tab_any x r]
    by_cases e : t1 = x
    · subst e; simp
    · rw [show (x == t1) = false from beq_eq_false_iff_ne.mpr (Ne.symm e), show (t1 == x) = false from beq_eq_false_iff_ne.mpr e]; rfl
theorem tab_map {a : Addr} {ob : Obj} {ts : List (Str × Addr)} (S : AtS prog w c m adr rest news H s) (hm : (a, ob) ∈ news) (hd : ob.IsDictOf (PySem.strKind prog w) (TABV ts)) : s.heap.MapOf (PySem.strKind prog w) a (fun x => (ts.lookup x).map .ref) := by
  have q := (Heap.dictOf_iff.mpr ⟨_, (S.N _ hm).1, hd⟩).mapOf
  have e : valueAt (TABV ts) = fun x => (ts.lookup x).map .ref := funext fun x => tab_lookup x ts
  rw [e] at q
  exact q
theorem cmS_sound {op : CmpOp} {x y : Str} {t t' : Tok} {P : Bool → Prop} {Q : Value → Shared → Prop} (h : cmS op x y P) (now : ∀ b, P b → Q (.bool b) s) : wpAny (model prog w) A (compareOp op (.str x t) (.str y t')) Q E s := by
  induction op with
  | Eq => exact eq_str (now _ h)
  | NotEq => exact PyProof.Rows.ne_str (now _ h)
  | LtE => exact PySem.P.le_str (now _ h)
  | In => exact PyProof.Rows.in_str (now _ h)
  | NotIn => exact PyProof.Rows.notIn_str (now _ h)
  | _ => exact h.elim
theorem cmI_sound {op : CmpOp} {x y : Int} {t t' : Tok} {P : Bool → Prop} {Q : Value → Shared → Prop} (h : cmI op x y P) (now : ∀ b, P b → Q (.bool b) s) : wpAny (model prog w) A (compareOp op (.int x t) (.int y t')) Q E s := by
  induction op with
  | Eq => exact eq_int (now _ h)
  | NotEq => exact PyProof.Rows.ne_int (now _ h)
  | Lt => exact lt_int (now _ h)
  | LtE => exact le_int (now _ h)
  | Gt => exact gt_int (now _ h)
  | GtE => exact ge_int (now _ h)
  | _ => exact h.elim
theorem cmSO_sound {op : CmpOp} {x : Str} {t : Tok} {i : Nat} {v : Value} {P : Bool → Prop} {Q : Value → Shared → Prop} (S : AtS prog w c m adr rest news H s) (hv : Mt adr rest (.obj i) v) (h : cmSO op x H[i]? P) (r : ∀ b k, c.t0 ≤ k → P b → Q (.bool b) { s with toks := k }) : wpAny (model prog w) A (compareOp op (.str x t) v) Q E s := by
  induction op with
  | In =>
    obtain ⟨ts, ho, h⟩ := isTab.inv h
    obtain ⟨a, ob, rfl, hm, hd, hs⟩ := (co_list S hv ho).2.2 _ rfl
    refine wpAny_in_of (strKind_is prog w _ _) hs (tab_map S hm hd) ?_
    rw [Option.isSome_map, tab_any]
    exact r _ _ S.up h
  | NotIn =>
    obtain ⟨ts, ho, h⟩ := isTab.inv h
    obtain ⟨a, ob, rfl, hm, hd, hs⟩ := (co_list S hv ho).2.2 _ rfl
    refine wpAny_notIn_of (strKind_is prog w _ _) hs (tab_map S hm hd) ?_
    rw [Option.isSome_map, tab_any]
    exact r _ _ S.up h
  | _ => exact h.elim
theorem vCmp_sound {op : CmpOp} {x y : LV} {u v : Value} {P : Bool → Prop} {Q : Value → Shared → Prop} (S : AtS prog w c m adr rest news H s) (hu : Mt adr rest x u) (hv : Mt adr rest y v) (h : vCmp op x y H P) (r : ∀ b k, c.t0 ≤ k → P b → Q (.bool b) { s with toks := k }) :
    wpAny (model prog w) A (compareOp op u v) Q E s := by
  have now : ∀ b, P b → Q (.bool b) s := fun b hb => r b s.toks S.tk hb
  obtain ⟨a, rfl, h1⟩ := asD.inv h
  cases a with
  | str x =>
    obtain ⟨_, rfl⟩ := dInv hu
    induction y with
    | d b =>
      cases b with
      | str y => obtain ⟨_, rfl⟩ := dInv hv; exact cmS_sound h1 now
      | tuple ds =>
        cases hv with
        | tuple hm q =>
          induction op with
          | In =>
            obtain ⟨ys, e, h2⟩ := isSm.inv h1
            exact in_tuple_strs ⟨_, (S.N _ (S.R.rest_sub _ hm)).1, rfl, _, rfl⟩ (by simpa using strs_of e q) (now _ h2)
          | _ => exact h1.elim
      | none =>
        obtain rfl := dInv hv
        obtain ⟨rfl, h2⟩ := isNt.inv h1
        exact isnot_str_none (now _ h2)
      | _ => exact h1.elim
    | obj i => exact cmSO_sound S hv h1 r
    | _ => exact h1.elim
  | none =>
    obtain ⟨b, rfl, h3⟩ := asD.inv (v := y) (k := fun b => isZ b (isNt op (P false))) h1
    obtain ⟨rfl, h4⟩ := isZ.inv h3
    obtain ⟨rfl, h5⟩ := isNt.inv h4
    obtain rfl := dInv hu
    obtain rfl := dInv hv
    exact isnot_none_none (now _ h5)
  | int x =>
    obtain ⟨b, rfl, h3⟩ := asD.inv (v := y) (k := fun b => cmDI op x b P) h1
    obtain ⟨_, rfl⟩ := dInv hu
    cases b with
    | int y => obtain ⟨_, rfl⟩ := dInv hv; exact cmI_sound h3 now
    | tuple ds =>
      cases hv with
      | tuple hm q =>
        induction op with
        | NotIn =>
          obtain ⟨ys, e, h2⟩ := isSm.inv h3
          exact notin_tuple_ints ⟨_, (S.N _ (S.R.rest_sub _ hm)).1, rfl, _, rfl⟩ (by simpa using ints_of e q) (now _ h2)
        | _ => exact h3.elim
    | _ => exact h3.elim
  | _ => exact h1.elim
set_option tactic.hygienic true in
theorem vGet_sound {x : LV} {v : Value} {nm : Str} {P : KV} {Q : Value → Shared → Prop} {expr : Bool} (TO : T.Ok K) (S : AtS prog w c m adr rest news H s) (hv : Mt adr rest x v) (h : vGet T x nm H P) (r : Ret prog w Mt c m adr rest s P Q) :
    wpAny (model prog w) A (getAttr v nm expr) Q E s := by
  unfold vGet at h
  split at h
  · split at h
    · rename_i C fs ho
      split at h
      · rename_i flds ms hc
        obtain ⟨h1, h⟩ := cond_f h
        split at h
        · rename_i y hy
          obtain ⟨h2, h⟩ := cond_f h
          exact op_get S hv ho hy h2 (TO.cls _ _ _ hc).1 ((TO.cls _ _ _ hc).2.1 _ h1) h r
        · exact h.elim
      · exact h.elim
    · exact h.elim
  · exact h.elim
set_option tactic.hygienic true in
theorem vSet_sound {x y : LV} {v u : Value} {nm : Str} {P : Hp → Prop} {Q : Unit → Shared → Prop} (TO : T.Ok K) (S : AtS prog w c m adr rest news H s) (hv : Mt adr rest x v) (hu : Mt adr rest y u) (h : vSet T x nm y H P) (r : Ret prog w MU c m adr rest s (fun Z => P) Q) :
    wpAny (model prog w) A (setAttr v nm u) Q E s := by
  unfold vSet at h
  split at h
  · split at h
    · rename_i C fs ho
      split at h
      · rename_i flds ms hc
        obtain ⟨h1, h⟩ := cond_f h
        obtain ⟨h1, h2⟩ := Bool.and_eq_true_iff.mp h1
        rw [forceK_eq, forceK_eq] at h
        exact op_set S hv hu ho (TO.cls _ _ _ hc).1 ((TO.cls _ _ _ hc).2.1 _ h1) (Nat.le_of_ble_eq_true h2) h r
      · exact h.elim
    · exact h.elim
  · exact h.elim
theorem starEach_cons {e : Expr} {es : List Expr} {env : Env} (h : isStar e = false) : starEach (e :: es) env = (false, eval e env) :: starEach es env := by
  cases e <;> first | rfl | cases h
theorem noStars_plain {pos : Pos} {env : Env} : ∀ {es : List Expr}, noStars es = true → ((backTo pos (starEach es env)).any fun x => x.1) = false
  | [], _ => rfl
  | e :: es, h => by
    have h' := Bool.and_eq_true_iff.mp (show (!isStar e && noStars es) = true from h)
    have h1 : isStar e = false := by simpa using h'.1
    rw [starEach_cons h1]
    show (false || (backTo pos (starEach es env)).any fun x => x.1) = false
    rw [Bool.false_or]; exact noStars_plain h'.2
theorem vArgs_sound (IH : Sound prog w K Γ ih n) (G : FG c) (hr : Room c.A n) {pos : Pos} {Q : List Value → Shared → Prop} : ∀ {es : List Expr} {P : List LV → Hp → Prop} {m adr rest news H s}, noStars es = true → AtS prog w c m adr rest news H s → NmOk prog w c env cs adr rest l m → vArgs ih cs es l H P →
    Ret prog w MtL c m adr rest s P Q → wpAny (model prog w) c.A (spliced (backTo pos (starEach es env))) Q E s
  | [], P, m, adr, rest, news, H, s, _, S, hl, h, r => args_nil (r.now S .nil h)
  | e :: es, P, m, adr, rest, news, H, s, hs, S, hl, h, r => by
    have hs' := Bool.and_eq_true_iff.mp (show (!isStar e && noStars es) = true from hs)
    have h1 : isStar e = false := by simpa using hs'.1
    refine args_cons (IH.e G hr S hl h fun v u adr1 rest1 news1 H1 h1' tk1 e1 e2 S1 hm h2 => ?_) (starEach_cons h1)
    exact vArgs_sound IH G hr (Q := fun vs s₂ => Q (u :: vs) s₂) hs'.2 S1 (hl.mono e1 e2) h2 fun vs us adr2 rest2 news2 H2 h2' tk2 e3 e4 S2 hm2 h3 => r _ _ _ _ _ _ _ _ (e1.trans e3) (e2.trans e4) S2 (.cons (hm.mono e3 e4) hm2) h3
theorem str_one {x : Str} {k : Nat} (h : x.cps.toList = [k]) : x = one k := by
  obtain ⟨⟨l⟩⟩ := x
  have : l = [k] := h
  rw [this]
set_option tactic.hygienic true in
theorem vBi_sound {id : String} {xs : List LV} {vs : List Value} {P : KV} {Q : Value → Shared → Prop} (S : AtS prog w c m adr rest news H s) (hm : MtL adr rest xs vs) (h : vBi id xs H P) (r : Ret prog w Mt c m adr rest s P Q) :
    wpAny (model prog w) A (call (.builtin id) vs) Q E s := by
  unfold vBi at h
  split at h
  · obtain ⟨h1, g⟩ := cond_f h
    clear h
    rw [beq_iff_eq.mp h1]
    cases hm with
    | cons hv q =>
      cases q
      split at g
      · rename_i cs ho
        obtain ⟨h2, g2⟩ := cond_f g
        exact op_lenL S hv ho rfl (Nat.le_of_ble_eq_true h2) g2 r
      · rename_i cs ho
        obtain ⟨h2, g2⟩ := cond_f g
        exact op_lenL S hv ho rfl (Nat.le_of_ble_eq_true h2) g2 r
      · exact g.elim
  · cases hm with
    | cons hv q =>
      cases q
      refine cond_cases h (fun h1 g => ?_) fun Z g => ?_
      · rw [beq_iff_eq.mp h1]
        obtain ⟨h2, g2⟩ := cond_f g
        exact op_lenS S hv (Nat.le_of_ble_eq_true h2) g2 r
      · obtain ⟨h1, g2⟩ := cond_f g
        rw [beq_iff_eq.mp h1]
        cases hv with
        | str x t =>
          split at g2
          · rename_i k ek
            rw [str_one ek]
            exact PySem.P.ord_of_char (r.here S S.up mInt g2)
          · exact g2.elim
  · obtain ⟨h1, g⟩ := cond_f h
    obtain ⟨h2, g2⟩ := g
    rw [beq_iff_eq.mp h1]
    cases hm with
    | cons hv q =>
      cases q
      cases hv with
      | tuple hmem hq =>
        rename_i ds a vs k
        have hlen := hq.length
        have big : szLine = 16777216 := rfl
        have e : (vs.toArray.size : Int) = ds.length := by rw [List.size_toArray, hlen]
        refine PyProof.Rows.len_tuple (items := vs.toArray) ⟨_, (S.N _ (S.R.rest_sub _ hmem)).1, rfl, _, rfl⟩ (by rw [e]; omega) ?_
        rw [e]
        exact r.here S S.up2 mInt g2
  · obtain ⟨h1, g⟩ := cond_f h
    obtain ⟨⟨h3, h4⟩, g2⟩ := g
    rw [beq_iff_eq.mp h1]
    cases hm with
    | cons hv q =>
      cases q
      obtain ⟨_, rfl⟩ := dInv hv
      exact chr_of_range h3 h4 (r.here S S.up mStr g2)
  · exact h.elim
set_option tactic.hygienic true in
theorem vApp_sound {i : Nat} {x : LV} {v u : Value} {P : KV} {Q : Value → Shared → Prop} (S : AtS prog w c m adr rest news H s) (hv : Mt adr rest (.obj i) v) (hu : Mt adr rest x u) (h : vApp i x H P) (r : Ret prog w Mt c m adr rest s P Q) :
    wpAny (model prog w) A (call (.builtin "list.append") [v, u]) Q E s := by
  unfold vApp at h
  split at h
  · split at h
    · rename_i ds ho
      obtain ⟨h1, g⟩ := cond_f h
      rw [forceK_eq] at g
      exact op_app S hv hu ho (Nat.le_of_ble_eq_true h1) g r
    · rename_i cs ho
      split at h
      · split at h
        · rename_i k ek
          obtain ⟨h1, g⟩ := cond_f h
          rw [forceK_eq] at g
          obtain ⟨_, rfl⟩ := dInv hu
          rw [str_one ek]
          exact op_appC S hv ho (Nat.le_of_ble_eq_true h1) g r
        · exact h.elim
      · exact h.elim
    · exact h.elim
  · exact h.elim
end
end Mine
end
section
open PySem PySem.W PyProof.Rows PySem.Calls
set_option maxRecDepth 100000
namespace Mine
section
variable {prog : Program} {w : World} {K : Frag} {Γ : GE}
variable {c : FC K Γ} {env : Env} {cs : Scope} {T : Tabs} {ih : Ev} {n : Nat} {A : Around} {m : Str → Option Value} {adr adr' : List Addr} {rest rest' news : Led} {H : Hp} {s : Shared} {E : Value → Shared → Prop} {l : Loc}
theorem fn_keep {f : Addr} {names : List Str} {dfl : List LV} (h : FnOk K f names dfl) : keepIn K (.ref f) = true := by
  obtain ⟨oc, od, osl, name, qual, params, body, scope, dV, kV, doc, pm, an, cdv, ct, hk, _⟩ := h.ok
  unfold keepIn
  dsimp only
  rw [hk]
/-- a call whose callee is known, behind its arguments -/
theorem callW (IH : Sound prog w K Γ ih n) (G : FG c) (hr : Room c.A n) {pos : Pos} {f : Addr} {first : List LV} {fv : List Value} {es : List Expr} {P : KV} {Q : Value → Shared → Prop} (hk : keepIn K (.ref f) = true)
    (S : AtS prog w c m adr rest news H s) (hl : NmOk prog w c env cs adr rest l m) (hf : MtL adr rest first fv) (h : vArgsN ih cs es l H fun vs H1 => ih.c f (first ++ vs) H1 P) (r : Ret prog w Mt c m adr rest s P Q) :
    wpAny (model prog w) c.A (callWith pos (.ref f) fv (backTo pos (starEach es env)) []) Q E s := by
  obtain ⟨hn, h⟩ := cond_f h
  induction es with
  | nil =>
    refine callWith_K0 (c.X.keeps S.F.keep) hk (wpAny_call ?_)
    exact IH.c G hr S (All2.append hf .nil) h fun b a adr' rest' news' H' h' tk' e1 e2 S' q1 q2 => r b a adr' rest' news' H' h' tk' e1 e2 S' q1 q2
  | cons e es =>
    have hn' := Bool.and_eq_true_iff.mp (show (!isStar e && noStars es) = true from hn)
    have hs : isStar e = false := by simpa using hn'.1
    refine callWith_K c.X hk ?_ (starEach_cons hs) (noStars_plain hn'.2)
    refine vArgs_sound IH G hr (pos := pos) hn S hl h fun Z us adr1 rest1 news1 H1 h1 tk1 e1 e2 S1 hm h2 => ⟨c.X.keeps S1.F.keep, wpAny_call ?_⟩
    exact IH.c G hr S1 (All2.append (hf.mono e1 e2) hm) h2 fun b a adr' rest' news' H' h' tk' e3 e4 S' q1 q2 => r b a adr' rest' news' H' h' tk' (e1.trans e3) (e2.trans e4) S' q1 q2
set_option tactic.hygienic true in
theorem vMeth_sound (TO : T.Ok K) (IH : Sound prog w K Γ ih n) (G : FG c) (hr : Room c.A n) {x : LV} {v : Value} {nm : Str} {args : List Expr} {P : KV} {Q : Value → Shared → Prop} {pl : Sem Bool} {pos : Pos}
    (S : AtS prog w c m adr rest news H s) (hl : NmOk prog w c env cs adr rest l m) (hv : Mt adr rest x v) (h : vMeth T ih cs x nm args l H P) (r : Ret prog w Mt c m adr rest s P Q) :
    wpAny (model prog w) c.A (getMethod v nm pl) (fun fx s₂ => wpAny (model prog w) c.A (callWith pos fx.1 fx.2 (backTo pos (starEach args env)) []) Q E s₂) E s := by
  unfold vMeth at h
  split at h
  · split at h
    · rename_i C fs ho
      split at h
      · rename_i flds ms hc
        split at h
        · rename_i f hf
          split at h
          · rename_i q1 q2
            obtain ⟨a1, a2, a3⟩ := TO.cls _ _ _ hc
            obtain ⟨b1, b2⟩ := a3 _ _ hf
            refine op_meth S hv ho q1 a1 b1 b2 ?_
            exact callW IH G hr (first := [_]) (fn_keep (TO.fn _ _ _ q2)) S hl (.cons hv .nil) h r
          · exact h.elim
        · exact h.elim
      · exact h.elim
    · rename_i o _ ho
      obtain ⟨h1, g⟩ := cond_f h
      clear h
      obtain ⟨h1, h2⟩ := Bool.and_eq_true_iff.mp h1
      rw [beq_iff_eq.mp h2]
      refine op_lmeth S hv ho h1 ?_
      split at g
      · rename_i a
        obtain ⟨hn, g⟩ := cond_f g
        have hs : isStar a = false := by simpa [noStars] using hn
        refine PyProof.Rows.callWith_method1 (vArgs_sound IH G hr (pos := pos) hn S hl g fun xs us adr1 rest1 news1 H1 h1 tk1 e1 e2 S1 hm h2 => ?_) (starEach_cons hs) rfl
        split at h2
        · cases hm with
          | cons hu hq =>
            cases hq
            exact vApp_sound S1 (hv.mono e1 e2) hu h2 (r.then e1 e2)
        · exact h2.elim
      · exact g.elim
    · exact h.elim
  · rename_i x
    obtain ⟨h1, g⟩ := cond_f h
    clear h
    obtain ⟨h1, h2⟩ := Bool.and_eq_true_iff.mp h1
    rw [beq_iff_eq.mp h1]
    have h2 := Nat.le_of_ble_eq_true h2
    obtain ⟨_, rfl⟩ := dInv hv
    refine PySem.GM.join ?_
    split at g
    · rename_i a
      obtain ⟨hn, g⟩ := cond_f g
      have hs : isStar a = false := by simpa [noStars] using hn
      refine PyProof.Rows.callWith_method1 (vArgs_sound IH G hr (pos := pos) hn S hl g fun xs us adr1 rest1 news1 H1 h1 tk1 e1 e2 S1 hm h2 => ?_) (starEach_cons hs) rfl
      split at h2
      · split at h2
        · rename_i ds ho
          obtain ⟨xs, q1, q2, q3⟩ := h2
          cases hm with
          | cons hu hq =>
            cases hq
            obtain ⟨a, vs, k, rfl, hmem, hd⟩ := (co_list S1 hu ho).2.1 _ rfl
            refine with_toks S1.tk (PyProof.Rows.join_listW (isl S1 hmem) (strs_of q1 (by simpa using hd)) (by assumption) q2 fun t' k ht => ?_)
            exact (r.then e1 e2).here S1 ht mStr q3
        · exact h2.elim
      · exact h2.elim
    · exact g.elim
  · exact h.elim
set_option tactic.hygienic true in
theorem vFn_sound (TO : T.Ok K) (IH : Sound prog w K Γ ih n) (G : FG c) (hr : Room c.A n) {x : LV} {v : Value} {args : List Expr} {P : KV} {Q : Value → Shared → Prop} {pos : Pos}
    (S : AtS prog w c m adr rest news H s) (hl : NmOk prog w c env cs adr rest l m) (hv : Mt adr rest x v) (h : vFn T ih cs x args l H P) (r : Ret prog w Mt c m adr rest s P Q) :
    wpAny (model prog w) c.A (callWith pos v [] (backTo pos (starEach args env)) []) Q E s := by
  unfold vFn at h
  split at h
  · rename_i f
    subst hv
    split at h
    · rename_i fI hi
      exact callW IH G hr (first := []) (TO.init _ _ hi).2.2.2 S hl .nil h r
    · split at h
      · rename_i q2
        exact callW IH G hr (first := []) (fn_keep (TO.fn _ _ _ q2)) S hl .nil h r
      · obtain ⟨q3, h⟩ := cond_f h
        exact callW IH G hr (first := []) (TO.cf _ q3) S hl .nil h r
  · rename_i id
    subst hv
    split at h
    · exact h.elim
    · rename_i a as
      obtain ⟨hn, h⟩ := cond_f h
      have hn' := Bool.and_eq_true_iff.mp (show (!isStar a && noStars as) = true from hn)
      have hs : isStar a = false := by simpa using hn'.1
      refine PyProof.Rows.callWith_builtin1 (vArgs_sound IH G hr (pos := pos) hn S hl h fun xs us adr1 rest1 news1 H1 h1 tk1 e1 e2 S1 hm h2 => ?_) (starEach_cons hs) (noStars_plain hn'.2)
      exact vBi_sound S1 hm h2 (r.then e1 e2)
  · exact h.elim
theorem base_plain {o : Expr} (h : notSuper o = true) (name : Str) (env : Env) (whole : Sem Value) : attributeBase o name env whole = whole := by
  induction o using Expr.casesOn with
  | Call f args kw p =>
    induction f using Expr.casesOn with
    | Name x px =>
      cases args with
      | nil => cases kw with
        | nil => exact absurd h Bool.false_ne_true
        | cons _ _ => rfl
      | cons _ _ => rfl
    | _ => rfl
  | _ => rfl
theorem form_few {env : Env} {pos : Pos} : ∀ {args : List Expr}, noStars args = true → ((backTo pos (starEach args env)).all fun x => !x.1) = true
  | [], _ => rfl
  | e :: es, h => by
    have h' := Bool.and_eq_true_iff.mp (show (!isStar e && noStars es) = true from h)
    have h1 : isStar e = false := by simpa using h'.1
    rw [starEach_cons h1]
    show (true && (backTo pos (starEach es env)).all fun x => !x.1) = true
    rw [Bool.true_and]; exact form_few h'.2
theorem eval_mcall {o : Expr} {name : Str} {apos pos : Pos} {args : List Expr} {env : Env} (h1 : notSuper o = true) (h2 : (apos.endLine == pos.line) = true) (h3 : noStars args = true) (h4 : args.length < 30) :
    eval (.Call (.Attribute o name apos) args [] pos) env = (do
      let ov ← eval o env
      standAt apos.atName
      let (f, first) ← holding [ov] (getMethod ov name (do return (← importBound o env).getD true))
      callWith pos f first (backTo pos (starEach args env)) []) := by
  have ef : methodCallForm args.length (backTo pos (starEach args env)) [] = true := by
    unfold methodCallForm
    rw [form_few h3]
    simpa using h4
  show (do
    let ov ← attributeBase o name env (eval o env)
    standAt apos.atName
    methodCall o name apos pos env ov (args.length + 0) (backTo pos (starEach args env)) []) = _
  rw [base_plain h1]
  refine congrArg (Sem.bind (eval o env)) (funext fun ov => congrArg (Sem.bind (standAt apos.atName)) (funext fun Z => ?_))
  unfold methodCall
  rw [Nat.add_zero, ef]
  unfold calleeOf methodCallPos
  simp only [h2, Bool.or_true, if_true]
  rfl
theorem vCallE_sound (TO : T.Ok K) (IH : Sound prog w K Γ ih n) (G : FG c) (hr : Room c.A n) {f : Expr} {args : List Expr} {P : KV} {Q : Value → Shared → Prop} {pos : Pos}
    (S : AtS prog w c m adr rest news H s) (hl : NmOk prog w c env cs adr rest l m) (h : vCallE T ih cs f args pos l H P) (r : Ret prog w Mt c m adr rest s P Q) :
    wpAny (model prog w) c.A (eval (.Call f args [] pos) env) Q E s := by
  unfold vCallE at h
  split at h
  · obtain ⟨h1, h⟩ := cond_f h
    obtain ⟨h1, h5⟩ := Bool.and_eq_true_iff.mp h1
    obtain ⟨h1, h4⟩ := Bool.and_eq_true_iff.mp h1
    obtain ⟨h1, h3⟩ := Bool.and_eq_true_iff.mp h1
    refine MethodCall_ (IH.e G hr S hl h fun v u adr1 rest1 news1 H1 h1 tk1 e1 e2 S1 hm h2 => ?_) (eval_mcall h1 h3 h4 (Nat.le_of_ble_eq_true h5))
    exact vMeth_sound TO IH G hr S1 (hl.mono e1 e2) hm h2 (r.then e1 e2)
  · refine Call_ (vName_sound TO S hl h fun v u adr1 rest1 news1 H1 h1 tk1 e1 e2 S1 hm h2 => ?_)
    exact vFn_sound TO IH G hr S1 (hl.mono e1 e2) hm h2 (r.then e1 e2)
  · exact h.elim
theorem vChain_sound (IH : Sound prog w K Γ ih n) (G : FG c) (hr : Room c.A n) {pos : Pos} : ∀ {ops : List CmpOp} {es : List Expr} {x : LV} {v : Value} {P : Bool → Hp → Prop} {m adr rest news H s}
    {Q : Value → Shared → Prop}, AtS prog w c m adr rest news H s → NmOk prog w c env cs adr rest l m → Mt adr rest x v → vChain ih cs x ops es l H P → Ret prog w Mt c m adr rest s (fun v H => ∃ b, v = .d (.bool b) ∧ P b H) Q → wpAny (model prog w) c.A (compareChain pos v ops (evalEach es env)) Q E s
  | [op], [e], x, v, P, m, adr, rest, news, H, s, Q, S, hl, hv, h, r => by
    unfold vChain at h
    refine chain_last (IH.e G hr S hl h fun y u adr1 rest1 news1 H1 h1 tk1 e1 e2 S1 hm h2 => ?_)
    exact vCmp_sound S1 (hv.mono e1 e2) hm h2 fun b k hk hb => (r.then e1 e2).here S1 hk mBool ⟨b, rfl, hb⟩
  | op :: op' :: ops, e :: e' :: es, x, v, P, m, adr, rest, news, H, s, Q, S, hl, hv, h, r => by
    unfold vChain at h
    refine chain_link (IH.e G hr S hl h fun y u adr1 rest1 news1 H1 h1 tk1 e1 e2 S1 hm h2 => ?_)
    refine vCmp_sound S1 (hv.mono e1 e2) hm h2 fun b k hk hb => wpAny_truthy_bool ?_
    induction b with
    | false => rw [if_neg (by decide)]; exact (r.then e1 e2).here S1 hk mBool ⟨false, rfl, hb⟩
    | true =>
      rw [if_pos rfl]
      exact vChain_sound IH G hr (S1.toks hk) (hl.mono e1 e2) hm hb (r.then e1 e2)
  | [], _, _, _, _, _, _, _, _, _, _, _, _, _, _, h, _ => by unfold vChain at h; exact h.elim
  | [_], [], _, _, _, _, _, _, _, _, _, _, _, _, _, h, _ => by unfold vChain at h; exact h.elim
  | [_], _ :: _ :: _, _, _, _, _, _, _, _, _, _, _, _, _, _, h, _ => by unfold vChain at h; exact h.elim
  | _ :: _ :: _, [], _, _, _, _, _, _, _, _, _, _, _, _, _, h, _ => by unfold vChain at h; exact h.elim
  | _ :: _ :: _, [_], _, _, _, _, _, _, _, _, _, _, _, _, _, h, _ => by unfold vChain at h; exact h.elim
theorem vTest_sound (IH : Sound prog w K Γ ih n) (G : FG c) (hr : Room c.A n) {pos : Pos} : ∀ {ops : List CmpOp} {es : List Expr} {x : LV} {v : Value} {P : Bool → Hp → Prop} {m adr rest news H s}
    {Q : Bool → Shared → Prop}, AtS prog w c m adr rest news H s → NmOk prog w c env cs adr rest l m → Mt adr rest x v → vChain ih cs x ops es l H P → Ret prog w MB c m adr rest s P Q → wpAny (model prog w) c.A (testChain pos v ops (evalEach es env)) Q E s
  | [op], [e], x, v, P, m, adr, rest, news, H, s, Q, S, hl, hv, h, r => by
    unfold vChain at h
    refine test_last (IH.e G hr S hl h fun y u adr1 rest1 news1 H1 h1 tk1 e1 e2 S1 hm h2 => ?_)
    exact vCmp_sound S1 (hv.mono e1 e2) hm h2 fun b k hk hb => wpAny_truthy_bool ((r.then e1 e2).here S1 hk rfl hb)
  | op :: op' :: ops, e :: e' :: es, x, v, P, m, adr, rest, news, H, s, Q, S, hl, hv, h, r => by
    unfold vChain at h
    refine test_link (IH.e G hr S hl h fun y u adr1 rest1 news1 H1 h1 tk1 e1 e2 S1 hm h2 => ?_)
    refine vCmp_sound S1 (hv.mono e1 e2) hm h2 fun b k hk hb => wpAny_truthy_bool ?_
    induction b with
    | false => rw [if_neg (by decide)]; exact (r.then e1 e2).here S1 hk rfl hb
    | true =>
      rw [if_pos rfl]
      exact vTest_sound IH G hr (S1.toks hk) (hl.mono e1 e2) hm hb (r.then e1 e2)
  | [], _, _, _, _, _, _, _, _, _, _, _, _, _, _, h, _ => by unfold vChain at h; exact h.elim
  | [_], [], _, _, _, _, _, _, _, _, _, _, _, _, _, h, _ => by unfold vChain at h; exact h.elim
  | [_], _ :: _ :: _, _, _, _, _, _, _, _, _, _, _, _, _, _, h, _ => by unfold vChain at h; exact h.elim
  | _ :: _ :: _, [], _, _, _, _, _, _, _, _, _, _, _, _, _, h, _ => by unfold vChain at h; exact h.elim
  | _ :: _ :: _, [_], _, _, _, _, _, _, _, _, _, _, _, _, _, h, _ => by unfold vChain at h; exact h.elim
/-- chains have two links or more, or one that is no display's -/
theorem vCompare_sound (IH : Sound prog w K Γ ih n) (G : FG c) (hr : Room c.A n) {a : Expr} {ops : List CmpOp} {es : List Expr} {pos : Pos} {P : Bool → Hp → Prop} {Q : Value → Shared → Prop}
    (S : AtS prog w c m adr rest news H s) (hl : NmOk prog w c env cs adr rest l m) (h : vCompare ih cs a ops es l H P) (r : Ret prog w Mt c m adr rest s (fun v H => ∃ b, v = .d (.bool b) ∧ P b H) Q) :
    wpAny (model prog w) c.A (eval (.Compare a ops es pos) env) Q E s := by
  match ops, es, h with
  | [op], [e], h =>
    obtain ⟨h1, h⟩ := cond_t h
    refine wpAny_Compare1 (IH.e G hr S hl h fun y u adr1 rest1 news1 H1 h1 tk1 e1 e2 S1 hm h2 => ?_) h1
    unfold vChain at h2
    refine IH.e G hr S1 (hl.mono e1 e2) h2 fun y' u' adr2 rest2 news2 H2 h2 tk2 e3 e4 S2 hm2 h3 => ?_
    exact vCmp_sound S2 (hm.mono e3 e4) hm2 h3 fun b k hk hb => ((r.then e1 e2).then e3 e4).here S2 hk mBool ⟨b, rfl, hb⟩
  | op :: op' :: ops, e :: e' :: es, h =>
    obtain ⟨h1, h⟩ := cond_t h
    refine Compare_chain (IH.e G hr S hl h fun y u adr1 rest1 news1 H1 h1 tk1 e1 e2 S1 hm h2 => ?_) h1
    exact vChain_sound IH G hr (es := e :: e' :: es) S1 (hl.mono e1 e2) hm h2 (r.then e1 e2)
theorem vCompareB_sound (IH : Sound prog w K Γ ih n) (G : FG c) (hr : Room c.A n) {a : Expr} {ops : List CmpOp} {es : List Expr} {pos : Pos} {whole : Sem Value} {P : Bool → Hp → Prop} {Q : Bool → Shared → Prop}
    (S : AtS prog w c m adr rest news H s) (hl : NmOk prog w c env cs adr rest l m) (h : vCompare ih cs a ops es l H P) (r : Ret prog w MB c m adr rest s P Q) :
    wpAny (model prog w) c.A (PySem.isTrue (.Compare a ops es pos) env whole) Q E s := by
  match ops, es, h with
  | [op], [e], h =>
    obtain ⟨h1, h⟩ := cond_t h
    refine wpAny_isTrue_Compare1 (IH.e G hr S hl h fun y u adr1 rest1 news1 H1 h1 tk1 e1 e2 S1 hm h2 => ?_) h1
    unfold vChain at h2
    refine IH.e G hr S1 (hl.mono e1 e2) h2 fun y' u' adr2 rest2 news2 H2 h2 tk2 e3 e4 S2 hm2 h3 => ?_
    exact vCmp_sound S2 (hm.mono e3 e4) hm2 h3 fun b k hk hb => wpAny_truthy_bool (((r.then e1 e2).then e3 e4).here S2 hk rfl hb)
  | op :: op' :: ops, e :: e' :: es, h =>
    obtain ⟨h1, h⟩ := cond_t h
    refine isTrue_chain (IH.e G hr S hl h fun y u adr1 rest1 news1 H1 h1 tk1 e1 e2 S1 hm h2 => ?_) h1
    exact vTest_sound IH G hr (es := e :: e' :: es) S1 (hl.mono e1 e2) hm h2 (r.then e1 e2)
end
end Mine
end
section
open PySem PySem.W PyProof.Rows PySem.Calls
set_option maxRecDepth 100000
namespace Mine
section
variable {prog : Program} {w : World} {K : Frag} {Γ : GE}
variable {c : FC K Γ} {env : Env} {cs : Scope} {T : Tabs} {ih : Ev} {n : Nat} {A : Around} {m : Str → Option Value} {adr adr' : List Addr} {rest rest' news : Led} {H : Hp} {s : Shared} {E : Value → Shared → Prop} {l : Loc}
theorem item_at {x : Str} {j : Int} (h0 : 0 ≤ j) (h1 : j < x.length) : Txt.item x j = one (x.cps.toList.getD j.toNat 0) := by
  unfold Txt.item Txt.charAt seqIndex?
  have e1 : ¬ j < 0 := by lia
  simp only [e1, if_false]
  rw [if_pos (by simp; exact ⟨h0, h1⟩)]
  show (⟨#[(x.cps[j.toNat]?).getD 0]⟩ : Str) = _
  rw [List.getD_eq_getElem?_getD, Array.getElem?_toList]
theorem seq_at {j : Int} {len : Nat} (h0 : 0 ≤ j) (h1 : j.toNat < len) : seqIndex? j len = some j.toNat := by
  unfold seqIndex?
  have e1 : ¬ j < 0 := by lia
  simp only [e1, if_false]
  rw [if_pos (by simp; lia)]
theorem eval_attr {o : Expr} {nm : Str} {pos : Pos} {env : Env} (h : notSuper o = true) : eval (.Attribute o nm pos) env = (do
    let ov ← eval o env
    standAt pos.atName
    let r ← holding [ov] (getAttr ov nm true)
    letTemporaryGo o ov r
    pure r) := by
  show (do
    let ov ← attributeBase o nm env (eval o env)
    standAt pos.atName
    let r ← holding [ov] (getAttr ov nm true)
    letTemporaryGo o ov r
    pure r) = _
  rw [base_plain h]
theorem tabK_ex {x : Str} {k : Addr → Prop} : ∀ {ts : List (Str × Addr)}, tabK x k ts → ∃ a, ts.lookup x = some a ∧ k a
  | [], h => h.elim
  | (t1, t2) :: r, h => by
    unfold tabK at h
    rw [List.lookup_cons]
    by_cases e : t1 = x
    · subst e
      rw [show (t1 == t1) = true from beq_self_eq_true _] at h
      rw [beq_self_eq_true]; exact ⟨t2, rfl, h⟩
    · rw [show (t1 == x) = false from beq_eq_false_iff_ne.mpr e] at h
      rw [show (x == t1) = false from beq_eq_false_iff_ne.mpr (Ne.symm e)]
      exact tabK_ex h
set_option tactic.hygienic true in
theorem vSub_sound {x y : LV} {v u : Value} {value slice : Expr} {P : KV} {Q : Value → Shared → Prop} (S : AtS prog w c m adr rest news H s) (hv : Mt adr rest x v) (hu : Mt adr rest y u) (hs : notSlice slice = true) (h : vSub x y H P) (r : Ret prog w Mt c m adr rest s P Q) :
    wpAny (model prog w) A (subscriptTail value slice v u) Q E s := by
  have big : sizeLine = 16777216 := rfl
  unfold vSub at h
  split at h
  · split at h
    · rename_i cs ho
      obtain ⟨⟨h0, h1, h2⟩, h⟩ := h
      obtain ⟨_, rfl⟩ := dInv hu
      exact op_subC S hv hs ho h0 h1 h2 h r
    · rename_i ds ho
      split at h
      · rename_i d hd
        obtain ⟨h0, h⟩ := cond_f h
        obtain ⟨h0, h2⟩ := Bool.and_eq_true_iff.mp h0
        have h0 := of_decide_eq_true h0
        have h2 := Nat.le_of_ble_eq_true h2
        obtain ⟨_, rfl⟩ := dInv hu
        have hj := (List.getElem?_eq_some_iff.mp hd).1
        exact op_subL S hv hs ho h0 (by lia) h2 (fun y hy => by rw [hd] at hy; cases hy; exact h) r
      · exact h.elim
    · exact h.elim
  · split at h
    · rename_i ts ho
      obtain ⟨_, rfl⟩ := dInv hu
      obtain ⟨a, ob, rfl, hm, hd, _⟩ := (co_list S hv ho).2.2 _ rfl
      obtain ⟨b, e1, e2⟩ := tabK_ex h
      have M := tab_map S hm hd
      exact tail_any M.typeIs slot_dict_getitem.lookup (wpAny_getItem_of (strKind_is prog w _ _) M (by rw [e1]; rfl) (r.here S S.up (show Mt adr rest (.top b) (.ref b) from rfl) e2)) (sub_plain hs _ _)
    · exact h.elim
  · obtain ⟨⟨h0, h1, h2⟩, h⟩ := h
    obtain ⟨_, rfl⟩ := dInv hu
    refine op_subS S hv hs h0 h1 h2 ?_ r
    rw [item_at h0 h1]; exact h
  · split at h
    · rename_i d hd
      obtain ⟨h0, h⟩ := cond_f h
      obtain ⟨h0, h2⟩ := Bool.and_eq_true_iff.mp h0
      have h0 := of_decide_eq_true h0
      have h2 := Nat.le_of_ble_eq_true h2
      obtain ⟨_, rfl⟩ := dInv hu
      cases hv with
      | tuple hm q =>
        rename_i vs k
        have hj := (List.getElem?_eq_some_iff.mp hd).1
        obtain ⟨z, hz, hd'⟩ := q.get hj
        have hT : IsTup s.heap _ vs.toArray := ⟨_, (S.N _ (S.R.rest_sub _ hm)).1, rfl, _, rfl⟩
        have hlen := q.length
        refine item_tupleT hT (by lia) (by have : szLine = 16777216 := rfl; lia) (j := _) ?_ hz (r.now S (mDat ?_) h) (sub_plain hs _ _)
        · rename_i jj _ _ _
          exact seq_at h0 (by lia)
        · have := (List.getElem?_eq_some_iff.mp hd).2
          rw [← this]; exact hd'
    · exact h.elim
  · split at h
    · rename_i d hd
      obtain ⟨h0, h⟩ := cond_f h
      obtain ⟨h0, h2⟩ := Bool.and_eq_true_iff.mp h0
      have h0 := of_decide_eq_true h0
      have h2 := Nat.le_of_ble_eq_true h2
      obtain ⟨_, rfl⟩ := dInv hu
      exact op_subD S hv hs h0 (by have := (List.getElem?_eq_some_iff.mp hd).1; lia) h2 (fun y hy => by rw [hd] at hy; cases hy; exact h) r
    · exact h.elim
  · exact h.elim
set_option tactic.hygienic true in
theorem strsOf_get : ∀ {ds : List Dat} {xs : List Str} {k : Nat} {d : Dat}, strsOf ds = some xs → ds[k]? = some d → ∃ x, xs[k]? = some x ∧ d = .str x
  | [], _, _, _, _, h => by cases h
  | .str y :: ds, _, k, d, e, h => by
    unfold strsOf at e
    split at e
    · rename_i l el
      cases e
      induction k with
      | zero => cases h; exact ⟨y, rfl, rfl⟩
      | succ k => exact strsOf_get (k := k) el h
    · cases e
  | .none :: _, _, _, _, e, _ => by cases e
  | .bool _ :: _, _, _, _, e, _ => by cases e
  | .int _ :: _, _, _, _, e, _ => by cases e
  | .bytes _ :: _, _, _, _, e, _ => by cases e
  | .tuple _ :: _, _, _, _, e, _ => by cases e
  | .list _ :: _, _, _, _, e, _ => by cases e
set_option tactic.hygienic true in
theorem intsOf_get : ∀ {ds : List Dat} {xs : List Int} {k : Nat} {d : Dat}, intsOf ds = some xs → ds[k]? = some d → ∃ x, xs[k]? = some x ∧ d = .int x
  | [], _, _, _, _, h => by cases h
  | .int y :: ds, _, k, d, e, h => by
    unfold intsOf at e
    split at e
    · rename_i l el
      cases e
      induction k with
      | zero => cases h; exact ⟨y, rfl, rfl⟩
      | succ k => exact intsOf_get (k := k) el h
    · cases e
  | .none :: _, _, _, _, e, _ => by cases e
  | .bool _ :: _, _, _, _, e, _ => by cases e
  | .str _ :: _, _, _, _, e, _ => by cases e
  | .bytes _ :: _, _, _, _, e, _ => by cases e
  | .tuple _ :: _, _, _, _, e, _ => by cases e
  | .list _ :: _, _, _, _, e, _ => by cases e
set_option tactic.hygienic true in
theorem vSubX_sound {x y : LV} {v u : Value} {value slice : Expr} {P : KV} {Q : Value → Shared → Prop} (S : AtS prog w c m adr rest news H s) (hv : Mt adr rest x v) (hu : Mt adr rest y u) (hs : notSlice slice = true) (h : vSubX x y H P) (r : Ret prog w Mt c m adr rest s P Q) :
    wpAny (model prog w) A (subscriptTail value slice v u) Q E s := by
  unfold vSubX at h
  split at h
  · split at h
    · rename_i ds ho
      obtain ⟨⟨h0, h1, h2⟩, h⟩ := h
      obtain ⟨_, rfl⟩ := dInv hu
      refine op_subL S hv hs ho h0 h1 h2 (fun d hd => ?_) r
      split at h
      · rename_i xs ex
        obtain ⟨x, e1, rfl⟩ := strsOf_get ex hd
        exact h x e1
      · split at h
        · rename_i xs ex
          obtain ⟨x, e1, rfl⟩ := intsOf_get ex hd
          exact h x e1
        · exact h d hd
    · exact vSub_sound S hv hu hs h r
  · obtain ⟨⟨h0, h1, h2⟩, h⟩ := h
    obtain ⟨_, rfl⟩ := dInv hu
    cases hv with
    | tuple hm q =>
      rename_i jj _ _ vs k
      have hlen := q.length
      obtain ⟨z, hz, hd'⟩ := q.get (k := jj.toNat) (by lia)
      have hT : IsTup s.heap _ vs.toArray := ⟨_, (S.N _ (S.R.rest_sub _ hm)).1, rfl, _, rfl⟩
      refine item_tupleT hT (by lia) (by have : szLine = 16777216 := rfl; lia) (j := _) ?_ hz (r.now S (mDat hd') (h _ (List.getElem?_eq_getElem _))) (sub_plain hs _ _)
      exact seq_at h0 (by lia)
  · exact vSub_sound S hv hu hs h r
theorem vSubG_sound (IH : Sound prog w K Γ ih n) (G : FG c) (hr : Room c.A n) {o i : Expr} {pos : Pos} {P : KV} {Q : Value → Shared → Prop}
    (S : AtS prog w c m adr rest news H s) (hl : NmOk prog w c env cs adr rest l m) (h : vSubG ih cs o i l H P) (r : Ret prog w Mt c m adr rest s P Q) :
    wpAny (model prog w) c.A (eval (.Subscript o i pos) env) Q E s := by
  obtain ⟨hs, h⟩ := cond_f h
  refine Subscript_ (IH.e G hr S hl h fun v u adr1 rest1 news1 H1 h1 tk1 e1 e2 S1 hm h2 => IH.e G hr S1 (hl.mono e1 e2) h2 fun a ua adr2 rest2 news2 H2 h2' tk2 e3 e4 S2 hma h3 => ?_)
  refine cond_cases h3 (fun Z h3 => ?_) fun Z h3 => ?_
  · exact vSub_sound S2 (hm.mono e3 e4) hma hs h3 ((r.then e1 e2).then e3 e4)
  · exact vSubX_sound S2 (hm.mono e3 e4) hma hs h3 ((r.then e1 e2).then e3 e4)
theorem vSubE_sound (IH : Sound prog w K Γ ih n) (G : FG c) (hr : Room c.A n) {o i : Expr} {pos : Pos} {P : KV} {Q : Value → Shared → Prop}
    (S : AtS prog w c m adr rest news H s) (hl : NmOk prog w c env cs adr rest l m) (h : vSubE ih cs o i l H P) (r : Ret prog w Mt c m adr rest s P Q) :
    wpAny (model prog w) c.A (eval (.Subscript o i pos) env) Q E s := by
  induction i using Expr.casesOn with
  | Slice lo hi st ps =>
    obtain ⟨lo, rfl, h1⟩ := isSm.inv h
    obtain ⟨hi, rfl, h2⟩ := isSm.inv h1
    induction st with
    | some st => exact h2.elim
    | none =>
      refine Subscript_ (IH.e G hr S hl h2 fun v u adr1 rest1 news1 H1 h1 tk1 e1 e2 S1 hm h2 => ?_)
      refine wpAny_Slice (evalPart_some_step (IH.e G hr S1 (hl.mono e1 e2) h2 fun a ua adr2 rest2 news2 H2 h2' tk2 e3 e4 S2 hma h3 => evalPart_some_step (IH.e G hr S2 ((hl.mono e1 e2).mono e3 e4) h3 fun b ub adr3 rest3 news3 H3 h3' tk3 e5 e6 S3 hmb h4 => evalPart_none_step ?_)))
      obtain ⟨v, rfl, g1⟩ := asD.inv h4
      obtain ⟨x, rfl, g2⟩ := asS.inv g1
      obtain ⟨a, rfl, g3⟩ := asD.inv g2
      obtain ⟨i, rfl, g4⟩ := asI.inv g3
      obtain ⟨b, rfl, g5⟩ := asD.inv g4
      obtain ⟨j, rfl, g6⟩ := asI.inv g5
      have hx := (hm.mono e3 e4).mono e5 e6
      have hi := hma.mono e5 e6
      cases hi
      obtain ⟨_, rfl⟩ := dInv hmb
      exact op_slice S3 hx g6.1 g6.2 (((r.then e1 e2).then e3 e4).then e5 e6)
  | _ => exact vSubG_sound IH G hr S hl h r
theorem vOr_sound (IH : Sound prog w K Γ ih n) (G : FG c) (hr : Room c.A n) {pos : Pos} {whole : Sem Value} : ∀ {es : List Expr} {P : Bool → Hp → Prop} {m adr rest news H s} {Q : Bool → Shared → Prop},
    AtS prog w c m adr rest news H s → NmOk prog w c env cs adr rest l m → vOr ih cs es l H P → Ret prog w MB c m adr rest s P Q → wpAny (model prog w) c.A (PySem.isTrue (.BoolOp .Or es pos) env whole) Q E s
  | [], P, m, adr, rest, news, H, s, Q, S, hl, h, r => isTrue_or_nil (r.now S rfl h)
  | e :: es, P, m, adr, rest, news, H, s, Q, S, hl, h, r => by
    unfold vOr at h
    refine isTrue_or (IH.b G hr S hl h fun b b' adr1 rest1 news1 H1 h1 tk1 e1 e2 S1 hm h2 => ?_)
    cases hm
    induction b with
    | true => rw [if_pos rfl]; exact (r.then e1 e2).now S1 rfl h2
    | false => rw [if_neg (by decide)]; exact vOr_sound IH G hr S1 (hl.mono e1 e2) h2 (r.then e1 e2)
theorem vAnd_sound (IH : Sound prog w K Γ ih n) (G : FG c) (hr : Room c.A n) {pos : Pos} {whole : Sem Value} : ∀ {es : List Expr} {P : Bool → Hp → Prop} {m adr rest news H s} {Q : Bool → Shared → Prop},
    AtS prog w c m adr rest news H s → NmOk prog w c env cs adr rest l m → vAnd ih cs es l H P → Ret prog w MB c m adr rest s P Q → wpAny (model prog w) c.A (PySem.isTrue (.BoolOp .And es pos) env whole) Q E s
  | [], P, m, adr, rest, news, H, s, Q, S, hl, h, r => isTrue_and_nil (r.now S rfl h)
  | e :: es, P, m, adr, rest, news, H, s, Q, S, hl, h, r => by
    unfold vAnd at h
    refine isTrue_and (IH.b G hr S hl h fun b b' adr1 rest1 news1 H1 h1 tk1 e1 e2 S1 hm h2 => ?_)
    cases hm
    induction b with
    | true => rw [if_pos rfl]; exact vAnd_sound IH G hr S1 (hl.mono e1 e2) h2 (r.then e1 e2)
    | false => rw [if_neg (by decide)]; exact (r.then e1 e2).now S1 rfl h2
set_option tactic.hygienic true in
theorem vBoolV_sound (IH : Sound prog w K Γ ih n) (G : FG c) (hr : Room c.A n) {pos : Pos} {op : BoolOp} : ∀ {es : List Expr} {P : KV} {m adr rest news H s} {Q : Value → Shared → Prop},
    AtS prog w c m adr rest news H s → NmOk prog w c env cs adr rest l m → vBoolV ih cs op es l H P → Ret prog w Mt c m adr rest s P Q → wpAny (model prog w) c.A (eval (.BoolOp op es pos) env) Q E s
  | [], P, m, adr, rest, news, H, s, Q, S, hl, h, r => by unfold vBoolV at h; exact h.elim
  | [e], P, m, adr, rest, news, H, s, Q, S, hl, h, r => by unfold vBoolV at h; exact BoolOp_one (IH.e G hr S hl h r)
  | e :: e' :: es, P, m, adr, rest, news, H, s, Q, S, hl, h, r => by
    unfold vBoolV at h
    induction op with
    | Or =>
      refine BoolOp_or (IH.e G hr S hl h fun v u adr1 rest1 news1 H1 h1 tk1 e1 e2 S1 hm h2 => ?_)
      split at h2
      · obtain ⟨_, rfl⟩ := dInv hm
        rename_i b
        refine wpAny_truthy_bool ?_
        induction b with
        | true => rw [if_pos rfl]; exact (r.then e1 e2).now S1 mBool h2
        | false => rw [if_neg (by decide)]; exact vBoolV_sound IH G hr S1 (hl.mono e1 e2) h2 (r.then e1 e2)
      · exact h2.elim
    | And =>
      refine BoolOp_and (IH.e G hr S hl h fun v u adr1 rest1 news1 H1 h1 tk1 e1 e2 S1 hm h2 => ?_)
      split at h2
      · obtain ⟨_, rfl⟩ := dInv hm
        rename_i b
        refine wpAny_truthy_bool ?_
        induction b with
        | true => rw [if_pos rfl]; exact vBoolV_sound IH G hr S1 (hl.mono e1 e2) h2 (r.then e1 e2)
        | false => rw [if_neg (by decide)]; exact (r.then e1 e2).now S1 mBool h2
      · exact h2.elim
set_option tactic.hygienic true in
theorem dats_of : ∀ {xs : List LV} {vs : List Value} {ds : List Dat}, datsOf xs = some ds → MtL adr rest xs vs → DatAll rest vs ds
  | [], _, _, e, h => by cases h; cases e; exact .nil
  | .d x :: xs, _, _, e, .cons h q => by
    unfold datsOf at e
    split at e
    · rename_i k ek; cases e; exact .cons h (dats_of ek q)
    · cases e
  | .obj _ :: _, _, _, e, _ => by cases e
  | .top _ :: _, _, _, e, _ => by cases e
  | .bi _ :: _, _, _, e, _ => by cases e
set_option tactic.hygienic true in
theorem vE_sound (TO : T.Ok K) (IH : Sound prog w K Γ ih n) (G : FG c) (hr : Room c.A n) {e : Expr} {P : KV} {Q : Value → Shared → Prop}
    (S : AtS prog w c m adr rest news H s) (hl : NmOk prog w c env cs adr rest l m) (h : vE T ih cs e l H P) (r : Ret prog w Mt c m adr rest s P Q) : wpAny (model prog w) c.A (eval e env) Q E s := by
  induction e using Expr.casesOn with
  | Constant k kk px =>
    exact vConst_sound S h r
  | Name x px =>
    exact vName_sound TO S hl h r
  | BinOp a op b px =>
    refine wpAny_BinOp (IH.e G hr S hl h fun v u adr1 rest1 news1 H1 h1 tk1 e1 e2 S1 hm h2 => IH.e G hr S1 (hl.mono e1 e2) h2 fun a ua adr2 rest2 news2 H2 h2' tk2 e3 e4 S2 hma h3 => ?_)
    exact vBin_sound S2 (hm.mono e3 e4) hma h3 ((r.then e1 e2).then e3 e4)
  | UnaryOp op a px =>
    induction op with
    | USub =>
      refine UnaryOp_ (IH.e G hr S hl h fun v u adr1 rest1 news1 H1 h1 tk1 e1 e2 S1 hm h2 => ?_)
      obtain ⟨d, rfl, g1⟩ := asD.inv h2
      obtain ⟨i, rfl, g2⟩ := asI.inv g1
      obtain ⟨_, rfl⟩ := dInv hm
      exact PyProof.Rows.neg_int ((r.then e1 e2).here S1 S1.up mInt g2)
    | _ => exact h.elim
  | BoolOp op es px =>
    exact vBoolV_sound IH G hr S hl h r
  | Compare a ops es px =>
    refine vCompare_sound IH G hr S hl h fun v u adr1 rest1 news1 H1 h1 tk1 e1 e2 S1 hm h2 => ?_
    obtain ⟨b, rfl, h2⟩ := h2
    exact (r.then e1 e2).now S1 hm h2
  | Call f args kw px =>
    induction kw with
    | cons _ _ => exact h.elim
    | nil => exact vCallE_sound TO IH G hr S hl h r
  | Attribute o nm px =>
    obtain ⟨h1, h⟩ := cond_f h
    refine Attribute_any_ (IH.e G hr S hl h fun v u adr1 rest1 news1 H1 h1 tk1 e1 e2 S1 hm h2 => ?_) (eval_attr h1)
    exact vGet_sound TO S1 hm h2 (r.then e1 e2)
  | Subscript o i px =>
    exact vSubE_sound IH G hr S hl h r
  | IfExp t a b px =>
    refine IfExp_ (IH.b G hr S hl h fun b b' adr1 rest1 news1 H1 h1 tk1 e1 e2 S1 hm h2 => ?_)
    cases hm
    induction b with
    | true => rw [if_pos rfl]; exact IH.e G hr S1 (hl.mono e1 e2) h2 (r.then e1 e2)
    | false => rw [if_neg (by decide)]; exact IH.e G hr S1 (hl.mono e1 e2) h2 (r.then e1 e2)
  | Tuple es kk px =>
    obtain ⟨hn, h⟩ := cond_f h
    refine Tuple_ (vArgs_sound IH G hr hn S hl h fun xs us adr1 rest1 news1 H1 h1 tk1 e1 e2 S1 hm h2 => ?_)
    split at h2
    · rename_i ds hd
      obtain ⟨hz, h2⟩ := cond_f h2
      have D := dats_of hd hm
      refine kup_newTuple S1.F S1.N (fun D' h' F' N' lt => ?_) (by rw [D.length]; exact Nat.le_of_ble_eq_true hz)
      have R' := S1.R.grow (x := D') (o := { cls := .type "tuple", data := .seq us.toArray }) fun q hq => Nat.ne_of_lt (lt q hq)
      exact (r.then e1 e2) (.d (.tuple ds)) (.ref D') adr1 _ _ H1 h' tk1 List.prefix_rfl Sub.cons ⟨F', N', R', S1.tk⟩ (mDat (DatIn.tuple (.head _) (D.mono Sub.cons))) h2
    · obtain ⟨hz, h2⟩ := cond_f h2
      rw [lenK_0, forceK_eq] at h2
      have hlen := hm.length
      refine kup_newTuple S1.F S1.N (fun D' h' F' N' lt => ?_) (by rw [← hlen]; exact Nat.le_of_ble_eq_true hz)
      have R' := S1.R.alloc1 (x := D') (o := { cls := .type "tuple", data := .seq us.toArray }) (O := .tup xs) (fun q hq => Nat.ne_of_lt (lt q hq)) ⟨us, rfl, hm.mono (List.prefix_append _ _) Sub.rfl⟩
      refine (r.then e1 e2) (.obj H1.length) (.ref D') _ rest1 _ _ h' tk1 (List.prefix_append _ _) Sub.rfl ⟨F', N', R', S1.tk⟩ ⟨D', ?_, rfl⟩ h2
      rw [← S1.R.len, List.getElem?_append_right (Nat.le_refl _), Nat.sub_self]; rfl
  | List es px =>
    obtain ⟨hn, h⟩ := cond_f h
    refine List_ (vArgs_sound IH G hr hn S hl h fun xs us adr1 rest1 news1 H1 h1 tk1 e1 e2 S1 hm h2 => ?_)
    split at h2
    · rename_i ds hd
      obtain ⟨hz, h2⟩ := cond_f h2
      rw [lenK_0, forceK_eq] at h2
      have D := dats_of hd hm
      refine newList_K S1.F S1.N (fun D' h' F' N' lt => ?_) (by rw [D.length]; exact Nat.le_of_ble_eq_true hz)
      have R' := S1.R.allocL (x := D') (n := 0) (fun q hq => Nat.ne_of_lt (lt q hq)) D
      refine (r.then e1 e2) (.obj H1.length) (.ref D') _ rest1 _ _ h' tk1 (List.prefix_append _ _) Sub.rfl ⟨F', N', R', S1.tk⟩ ⟨D', ?_, rfl⟩ h2
      rw [← S1.R.len, List.getElem?_append_right (Nat.le_refl _), Nat.sub_self]; rfl
    · exact h2.elim
  | _ =>
    exact h.elim
theorem test_plain {e : Expr} (h : plainTest e = true) (env : Env) (whole : Sem Value) : PySem.isTrue e env whole = (do let v ← whole; standAt e.pos; holding [v] (truthy v)) := by
  cases e <;> first | rfl | exact absurd h Bool.false_ne_true
theorem vBp_sound (IH : Sound prog w K Γ ih n) (G : FG c) (hr : Room c.A n) {e : Expr} {P : Bool → Hp → Prop} {Q : Bool → Shared → Prop}
    (S : AtS prog w c m adr rest news H s) (hl : NmOk prog w c env cs adr rest l m) (h : vBp ih cs e l H P) (r : Ret prog w MB c m adr rest s P Q) : wpAny (model prog w) c.A (PySem.isTrue e env (eval e env)) Q E s := by
  obtain ⟨h1, h⟩ := cond_f h
  refine isTrue_plain (IH.e G hr S hl h fun v u adr1 rest1 news1 H1 h1 tk1 e1 e2 S1 hm h2 => ?_) (test_plain h1 _ _)
  obtain ⟨d, rfl, g1⟩ := asD.inv h2
  obtain ⟨t, rfl, g2⟩ := asB.inv g1
  obtain ⟨_, rfl⟩ := dInv hm
  exact wpAny_truthy_bool ((r.then e1 e2).now S1 rfl g2)
theorem vB_sound (IH : Sound prog w K Γ ih n) (G : FG c) (hr : Room c.A n) {e : Expr} {P : Bool → Hp → Prop} {Q : Bool → Shared → Prop}
    (S : AtS prog w c m adr rest news H s) (hl : NmOk prog w c env cs adr rest l m) (h : vB ih cs e l H P) (r : Ret prog w MB c m adr rest s P Q) : wpAny (model prog w) c.A (PySem.isTrue e env (eval e env)) Q E s := by
  induction e using Expr.casesOn with
  | UnaryOp op a px =>
    induction op with
    | Not =>
      refine isTrue_not (IH.b G hr S hl h fun b b' adr1 rest1 news1 H1 h1 tk1 e1 e2 S1 hm h2 => ?_)
      cases hm
      exact (r.then e1 e2).now S1 rfl h2
    | _ => exact h.elim
  | BoolOp op es px =>
    induction op with
    | Or => exact vOr_sound IH G hr S hl h r
    | And => exact vAnd_sound IH G hr S hl h r
  | Compare a ops es px => exact vCompareB_sound IH G hr S hl h r
  | _ => exact vBp_sound IH G hr S hl h r
end
end Mine
end
section
open PySem PySem.W PyProof.Rows PySem.Calls
set_option maxRecDepth 100000
namespace Mine
section
variable {prog : Program} {w : World} {K : Frag} {Γ : GE}
variable {c : FC K Γ} {T : Tabs} {ih : Ev} {n : Nat} {A : Around} {m : Str → Option Value} {adr adr' : List Addr} {rest rest' news : Led} {H : Hp} {s : Shared} {E : Value → Shared → Prop} {l : Loc}
theorem setL_is {v : Value} : ∀ {vs : List Value} {j : Nat}, j < vs.length → ki_setL vs j v = some (vs.set j v)
  | [], _, h => absurd h (Nat.not_lt_zero _)
  | _ :: _, 0, _ => rfl
  | x :: r, j + 1, h => by
    unfold ki_setL
    rw [setL_is (Nat.lt_of_succ_lt_succ h)]; rfl
theorem datAll_set {v : Value} {x : Dat} (hx : DatIn rest v x) : ∀ {vs : List Value} {ds : List Dat} {j : Nat}, DatAll rest vs ds → DatAll rest (vs.set j v) (ds.set j x)
  | _, _, _, .nil => .nil
  | _, _, 0, .cons _ r => .cons hx r
  | _, _, j + 1, .cons h r => .cons h (datAll_set hx r)
theorem op_setItem {i : Nat} {j : Int} {k : Tok} {u v : Value} {ds : List Dat} {x : Dat} {P : Unit → Hp → Prop} {Q : Unit → Shared → Prop} (S : AtS prog w c m adr rest news H s) (hv : Mt adr rest (.obj i) v) (hu : DatIn rest u x)
    (ho : H[i]? = some (.list ds)) (h0 : 0 ≤ j) (h1 : j < ds.length) (hz : ds.length ≤ szLine) (hp : P () (H.set i (.list (ds.set j.toNat x)))) (r : Ret prog w MU c m adr rest s P Q) :
    wpAny (model prog w) A (setItem v (.int j k) u) Q E s := by
  obtain ⟨a, ha, rfl⟩ := hv
  obtain ⟨own, O, Sb, D⟩ := S.R
  obtain ⟨b, pre, l, post, e1, e2, ⟨vs, n, rfl, he⟩, hs⟩ := O.split ho
  rw [ha] at e1; cases e1
  subst e2
  have N1 := newsSub S.N Sb
  have e3 : ∀ o, pre ++ ([(a, o)] ++ post) ++ rest = pre ++ (a, o) :: (post ++ rest) := fun o => by simp
  rw [e3] at N1 D
  have hl := he.length
  obtain ⟨U, D'⟩ := D.upd (o' := listOf (vs.set j.toNat u).toArray n)
  have big : szLine = 16777216 := rfl
  refine ki_set S.F N1 h0 (by lia) (setL_is (by rw [List.toList_toArray]; lia)) U fun h' F' N' => ?_
  refine r () () adr rest _ _ h' s.toks List.prefix_rfl Sub.rfl ⟨F', N', ⟨_, hs (.list (ds.set j.toNat x)) [(a, listOf (vs.set j.toNat u).toArray n)] ⟨_, _, rfl, datAll_set hu he⟩, ?_, ?_⟩, S.tk⟩ trivial hp
  · intro q hq; rw [e3] at hq; exact hq
  · rw [e3]; exact D'
theorem swap_no {value : Expr} (h : noComp value = true) (t : Option Expr) (line : Nat) (env : Env) : swapsWith value t line env = pure false := by
  cases value <;> first | rfl | exact absurd h Bool.false_ne_true
/-- the state behind a statement -/
theorem RetS.then {P : Fl → Loc → Hp → Prop} {Q : Flow → Shared → Prop} (r : RetS prog w c adr rest s P Q) {h' : Heap} {tk' : Nat} (ha : adr <+: adr') (hr : Sub rest rest') : RetS prog w c adr' rest' { s with heap := h', toks := tk' } P Q :=
  fun fl f l' m' adr'' rest'' news'' H'' h'' tk'' e1 e2 S hl hm hp => r fl f l' m' adr'' rest'' news'' H'' h'' tk'' (ha.trans e1) (hr.trans e2) S hl hm hp
theorem RetS.now {P : Fl → Loc → Hp → Prop} {Q : Flow → Shared → Prop} (r : RetS prog w c adr rest s P Q) (S : AtS prog w c m adr rest news H s) (hl : LocOk c.cl adr rest l m) {fl : Fl} {f : Flow} (hm : MF adr rest fl f) (hp : P fl l H) : Q f s :=
  r fl f l m adr rest news H s.heap s.toks List.prefix_rfl Sub.rfl S hl hm hp
theorem mNext : MF adr rest .next .next := rfl
theorem mRet {v : LV} {u : Value} (h : Mt adr rest v u) : MF adr rest (.ret v) (.ret u) := ⟨u, rfl, h⟩
theorem swap_call {e : Expr} (h : isCallE e = true) (elts : List Expr) (k : Nat) (tpos : Pos) (line : Nat) (env : Env) : swapsWithSole [.Tuple elts k tpos] e line env = pure false ∧ swappedStores [.Tuple elts k tpos] e env = pure none := by
  cases e <;> first | exact ⟨rfl, rfl⟩ | exact absurd h Bool.false_ne_true
theorem vNames_len {env : Env} : ∀ {es : List Expr} {ds : List Dat} {l : Loc} {P : Loc → Prop}, vNames c.cs es ds l P → (assignEach es env).length = ds.length ∧ (assignEach es env).findIdx? (·.1) = none := by
  intro es
  induction es with
  | nil =>
    intro ds l P h
    induction ds with
    | nil => exact ⟨rfl, rfl⟩
    | cons d ds => exact h.elim
  | cons e es ih =>
    intro ds l P h
    induction e using Expr.casesOn with
    | Name x px =>
      induction ds with
      | nil => exact h.elim
      | cons d ds =>
        obtain ⟨h1, h2⟩ := ih (cond_f h).2
        have e : assignEach (.Name x px :: es) env = (false, assign (.Name x px) env) :: assignEach es env := rfl
        rw [e]
        exact ⟨by rw [List.length_cons, List.length_cons, h1], by rw [List.findIdx?_cons]; simp [h2]⟩
    | _ => exact h.elim
theorem vNames_sound (G : FG c) {Q : Unit → Shared → Prop} : ∀ (es : List Expr) {ds : List Dat} {vs : List Value} {l : Loc} {m : Str → Option Value} {s : Shared} {P : Loc → Prop}, AtS prog w c m adr rest news H s → LocOk c.cl adr rest l m → vNames c.cs es ds l P → DatAll rest vs ds →
    (∀ l' m' h' tk', AtS prog w c m' adr rest news H { s with heap := h', toks := tk' } → LocOk c.cl adr rest l' m' → P l' → Q () { s with heap := h', toks := tk' }) → wpAny (model prog w) c.A (assignInOrder ((assignEach es c.env).map (·.2)) vs) Q E s := by
  intro es
  induction es with
  | nil =>
    intro ds vs l m s P S hl h hd k
    induction ds with
    | nil => cases hd; exact assignInOrder_nil (k l m s.heap s.toks S hl h)
    | cons d ds => exact h.elim
  | cons e es ih =>
    intro ds vs l m s P S hl h hd k
    induction e using Expr.casesOn with
    | Name x px =>
      induction ds with
      | nil => exact h.elim
      | cons d ds =>
        cases hd with
        | cons hd hr =>
          obtain ⟨hx, h⟩ := cond_f (b := decide (c.cs.names.lookup x = some .local)) h
          refine assignInOrder_cons (wpAny_assign_Name (storeX_L S.F S.N (fun h' F' N' => ?_) c.hk (of_decide_eq_true hx)))
          exact ih (s := { s with heap := h', toks := s.toks + 1 }) ⟨F', N', S.R, S.up⟩ (hl.put (G.loc _ (of_decide_eq_true hx)) (mDat hd)) h hr fun l' m' h' tk' => k l' m' h' tk'
    | _ => exact h.elim
theorem op_setCell {i : Nat} {x : Str} {a : Addr} {y : LV} {u : Value} {o : Option LV} {P : Unit → Hp → Prop} {Q : Unit → Shared → Prop} (S : AtS prog w c m adr rest news H s) (hc : c.cl.lookup x = some a) (ha : adr[i]? = some a) (hu : Mt adr rest y u)
    (hx : c.cs.names.lookup x = some .cell) (ho : H[i]? = some (.cell o)) (hp : P () (H.set i (.cell (some y)))) (r : Ret prog w MU c m adr rest s P Q) : wpAny (model prog w) A (storeName c.env x u) Q E s := by
  obtain ⟨own, O, Sb, D⟩ := S.R
  obtain ⟨b, pre, l, post, e1, e2, h, hs⟩ := O.split ho
  rw [ha] at e1; cases e1
  subst e2
  obtain ⟨ob, v₀, rfl, hd⟩ : ∃ ob v₀, l = [(a, ob)] ∧ ob.data = .cell v₀ := by
    induction o with
    | none => obtain ⟨ob, v, e, q⟩ := h; exact ⟨ob, v, e, q⟩
    | some z => obtain ⟨ob, v, e, q, _⟩ := h; exact ⟨ob, _, e, q⟩
  have N1 := newsSub S.N Sb
  have e3 : ∀ o, pre ++ ([(a, o)] ++ post) ++ rest = pre ++ (a, o) :: (post ++ rest) := fun o => by simp
  rw [e3] at N1 D
  have U : UpdF a ob (pre ++ (a, ob) :: (post ++ rest)) (fun o' => pre ++ (a, o') :: (post ++ rest)) := DN.updF D
  refine storeX_C S.F N1 hc U hd (fun h' o' F' N' hd' => ?_) c.hk hx
  refine r () () adr rest _ _ h' s.toks List.prefix_rfl Sub.rfl ⟨F', N', ⟨_, hs (.cell (some y)) [(a, o')] ⟨o', u, rfl, hd', hu⟩, ?_, ?_⟩, S.tk⟩ trivial hp
  · intro q hq; rw [e3] at hq; exact hq
  · rw [e3]; exact (D.upd (o' := o')).2
/-- what stands at a statement -/
structure St (prog : Program) (w : World) (c : FC K Γ) (m : Str → Option Value) (adr : List Addr) (rest news : Led) (H : Hp) (s : Shared) (l : Loc) (P : Fl → Loc → Hp → Prop) (Q : Flow → Shared → Prop) : Prop where
  S : AtS prog w c m adr rest news H s
  hl : LocOk c.cl adr rest l m
  r : RetS prog w c adr rest s P Q
section
variable {P : Fl → Loc → Hp → Prop} {Q : Flow → Shared → Prop}
theorem stE (IH : Sound prog w K Γ ih n) (G : FG c) (hr : Room c.A n) (Z : St prog w c m adr rest news H s l P Q) {e : Expr} {P' : KV} {Q' : Value → Shared → Prop} (h : ih.e c.cs e l H P')
    (k : ∀ {v u adr1 rest1 news1 H1 s1}, adr <+: adr1 → Sub rest rest1 → St prog w c m adr1 rest1 news1 H1 s1 l P Q → Mt adr1 rest1 v u → P' v H1 → Q' u s1) : wpAny (model prog w) c.A (eval e c.env) Q' E s :=
  IH.e G hr Z.S (nmk G Z.hl) h fun v u adr1 rest1 news1 H1 h1 tk1 e1 e2 S1 hm h2 => k e1 e2 ⟨S1, Z.hl.mono e1 e2, Z.r.then e1 e2⟩ hm h2
theorem stR (Z : St prog w c m adr rest news H s l P Q) : Ret prog w MU c m adr rest s (fun X => P .next l) (fun X => Q .next) :=
  fun b Z' adr1 rest1 news1 H1 h1 tk1 e1 e2 S1 hm h2 => (Z.r.then e1 e2).now S1 (Z.hl.mono e1 e2) mNext h2
set_option tactic.hygienic true in
theorem asgN (G : FG c) {x : Str} {px : Pos} {v : LV} {u : Value} (h : vStore T ih c.cs (.Name x px) v l H (P .next)) (hm : Mt adr rest v u) (Z : St prog w c m adr rest news H s l P Q) : wpAny (model prog w) c.A (storeName c.env x u) (fun X => Q .next) E s := by
  unfold vStore at h
  dsimp only at h
  split at h
  · rename_i hx
    exact storeX_L Z.S.F Z.S.N (fun h' F' N' => Z.r .next .next _ _ adr rest news H h' (s.toks + 1) List.prefix_rfl Sub.rfl ⟨F', N', Z.S.R, Z.S.up⟩ (Z.hl.put (G.loc _ hx) hm) mNext h) c.hk hx
  · rename_i hx
    split at h
    · rename_i i hi
      split at h
      · rename_i o ho
        rw [forceK_eq] at h
        obtain ⟨a, ha⟩ := G.cel x hx
        obtain ⟨j, q1, q2⟩ := (Z.hl x _ hi).2 a ha
        cases q1
        exact op_setCell (P := fun X H => P .next l H) Z.S ha q2 hm hx ho h (stR Z)
      · exact h.elim
    · exact h.elim
  · exact h.elim
set_option tactic.hygienic true in
theorem asgT (G : FG c) {ts : List Expr} {kk : Nat} {pt : Pos} {v : LV} {u : Value} (h : vStore T ih c.cs (.Tuple ts kk pt) v l H (P .next)) (hm : Mt adr rest v u) (Z : St prog w c m adr rest news H s l P Q) : wpAny (model prog w) c.A (assign (.Tuple ts kk pt) c.env u) (fun X => Q .next) E s := by
  unfold vStore at h
  dsimp only at h
  split at h
  · rename_i ds
    cases hm with
    | tuple hmem hq =>
      rename_i a vs k
      have hlen := hq.length
      obtain ⟨n1, n2⟩ := vNames_len (env := c.env) h
      refine wpAny_assign_Tuple (items := vs.toArray) c.hh ⟨_, (Z.S.N _ (Z.S.R.rest_sub _ hmem)).1, rfl, _, rfl⟩ (by rw [n1, List.size_toArray, hlen]) n2 fun h' he => ?_
      exact vNames_sound G ts (s := { s with heap := h' }) ⟨Z.S.F.extBut he (Nat.le_refl _), Z.S.N.extBut he (Nat.le_refl _), Z.S.R, Z.S.tk⟩ Z.hl h hq fun l' m' h'' tk' S2 hl' h3 => Z.r .next .next l' m' adr rest news _ h'' tk' List.prefix_rfl Sub.rfl S2 hl' mNext h3
  · exact h.elim
theorem asgS {v a b : LV} {u ua ub : Value} (h : asO a fun k => asD b fun i => asI i fun j => asD v fun x => isLs H[k]? fun ds => (0 ≤ j ∧ j < ds.length ∧ ds.length ≤ szLine) ∧ forceK (H.set k (.list (ds.set j.toNat x))) (P .next l)) (hm : Mt adr rest v u) (hma : Mt adr rest a ua) (hmb : Mt adr rest b ub) (Z : St prog w c m adr rest news H s l P Q) : wpAny (model prog w) A (setItem ua ub u) (fun X => Q .next) E s := by
  obtain ⟨k, rfl, g1⟩ := asO.inv h
  obtain ⟨dx, rfl, g2⟩ := asD.inv g1
  obtain ⟨jx, rfl, g3⟩ := asI.inv g2
  obtain ⟨dy, rfl, g4⟩ := asD.inv g3
  obtain ⟨ds, ho, ⟨q0, q1, q2⟩, h4⟩ := isLs.inv g4
  rw [forceK_eq] at h4
  obtain ⟨_, rfl⟩ := dInv hmb
  exact op_setItem (P := fun X H => P .next l H) Z.S hma hm ho q0 q1 q2 h4 (stR Z)
theorem augA (TO : T.Ok K) {op : Operator} {nm : Str} {x y z : LV} {u ua ub : Value} (h : asD y fun a => asI a fun i => asD z fun b => asI b fun j => vAug T op x nm i j H (P .next l))
    (hm : Mt adr rest x u) (hma : Mt adr rest y ua) (hmb : Mt adr rest z ub) (Z : St prog w c m adr rest news H s l P Q) : wpAny (model prog w) c.A (inplaceOp op ua ub) (fun new => wpAny (model prog w) c.A (setAttr u nm new) (fun X => Q .next) E) E s := by
  obtain ⟨dx, rfl, g1⟩ := asD.inv h
  obtain ⟨i, rfl, g2⟩ := asI.inv g1
  obtain ⟨dy, rfl, g3⟩ := asD.inv g2
  obtain ⟨j, rfl, g4⟩ := asI.inv g3
  cases hma; obtain ⟨_, rfl⟩ := dInv hmb
  induction op with
  | Add =>
    refine wpAny_iadd_int ?_
    exact vSet_sound TO (Z.S.toks Z.S.up) hm mInt g4 (stR (s := { s with toks := s.toks + 1 }) ⟨Z.S.toks Z.S.up, Z.hl, Z.r.then (h' := s.heap) (tk' := s.toks + 1) List.prefix_rfl Sub.rfl⟩)
  | Sub =>
    refine PySem.AutoIntOps.isub_0 ?_
    exact vSet_sound TO (Z.S.toks Z.S.up) hm mInt g4 (stR (s := { s with toks := s.toks + 1 }) ⟨Z.S.toks Z.S.up, Z.hl, Z.r.then (h' := s.heap) (tk' := s.toks + 1) List.prefix_rfl Sub.rfl⟩)
  | _ => exact g4.elim
end
theorem vSt_sound (TO : T.Ok K) (IH : Sound prog w K Γ ih n) (G : FG c) (hr : Room c.A n) {st : Stmt} {P : Fl → Loc → Hp → Prop} {Q : Flow → Shared → Prop}
    (S : AtS prog w c m adr rest news H s) (hl : LocOk c.cl adr rest l m) (h : vSt T ih c.cs st l H P) (r : RetS prog w c adr rest s P Q) : wpAny (model prog w) c.A (exec st c.env) Q E s := by
  have Z : St prog w c m adr rest news H s l P Q := ⟨S, hl, r⟩
  clear S hl r
  induction st using Stmt.casesOn with
  | Expr e px =>
    obtain ⟨h1, h⟩ := cond_f h
    exact wpAny_Expr_any (stE IH G hr Z h fun e1 e2 Z1 hm h2 => Z1.r.now Z1.S Z1.hl mNext h2) (by show (c.cs.kind == .module && _) = false; rw [c.hk]; rfl) (swap_no h1 _ _ _)
  | Assign ts e pos =>
    induction ts with
    | nil => exact h.elim
    | cons t ts =>
      induction ts with
      | cons _ _ => exact h.elim
      | nil =>
        obtain ⟨h1, h⟩ := cond_f h
        obtain ⟨h5, hcal⟩ := Bool.and_eq_true_iff.mp h1
        obtain ⟨h6, ht⟩ := Bool.and_eq_true_iff.mp h5
        induction t using Expr.casesOn with
        | Name x px => exact wpAny_Assign_Name (stE IH G hr Z h fun e1 e2 Z1 hm h2 => asgN G h2 hm Z1) (swap_no h6 _ _ _)
        | Tuple ts kk pt =>
          have hcall : isCallE e = true := by simpa [notTup] using hcal
          exact Assign_Tuple (stE IH G hr Z h fun e1 e2 Z1 hm h2 => asgT G h2 hm Z1) (swap_call hcall ts kk pt pos.line c.env).1 (swap_call hcall ts kk pt 0 c.env).2
        | Attribute o nm pa => exact plainObj_wpAny_Assign_Attribute (stE IH G hr Z h fun e1 e2 Z1 hm h2 => stE IH G hr Z1 h2 fun e3 e4 Z2 hma h3 => vSet_sound TO Z2.S hma (hm.mono e3 e4) h3 (stR Z2)) (swap_no h6 _ _ _)
        | Subscript o i pa => exact wpAny_Assign_Subscript (stE IH G hr Z h fun e1 e2 Z1 hm h2 => stE IH G hr Z1 h2 fun e3 e4 Z2 hma h3 => stE IH G hr Z2 h3 fun e5 e6 Z3 hmb h4 => asgS h4 ((hm.mono e3 e4).mono e5 e6) (hma.mono e5 e6) hmb Z3) (swap_no h6 _ _ _)
        | _ => exact absurd ht Bool.false_ne_true
  | AugAssign tg op e px =>
    obtain ⟨o, nm, pa, rfl, h⟩ := isAt.inv h
    exact wpAny_AugAssign_AttributeAny (stE IH G hr Z h fun e1 e2 Z1 hm h2 => vGet_sound TO Z1.S hm h2 fun a ua adr2 rest2 news2 H2 h2' tk2 e3 e4 S2 hma h3 =>
      stE IH G hr (Z := ⟨S2, Z1.hl.mono e3 e4, Z1.r.then e3 e4⟩) h3 fun e5 e6 Z3 hmb h4 => augA TO h4 ((hm.mono e3 e4).mono e5 e6) (hma.mono e5 e6) hmb Z3)
  | If t b o px =>
    refine wpAny_If (IH.b G hr Z.S (nmk G Z.hl) h fun b b' adr1 rest1 news1 H1 h1 tk1 e1 e2 S1 hm h2 => ?_)
    cases hm
    induction b with
    | true => rw [if_pos rfl]; exact IH.s G hr S1 (Z.hl.mono e1 e2) h2 (Z.r.then e1 e2)
    | false => rw [if_neg (by decide)]; exact IH.s G hr S1 (Z.hl.mono e1 e2) h2 (Z.r.then e1 e2)
  | Return o px =>
    induction o with
    | none => exact wpAny_Return_none (Z.r.now Z.S Z.hl (mRet mNone) h)
    | some e => exact wpAny_Return_some (stE IH G hr Z h fun e1 e2 Z1 hm h2 => Z1.r.now Z1.S Z1.hl (mRet hm) h2)
  | Pass px => exact wpAny_Pass (Z.r.now Z.S Z.hl mNext h)
  | _ => exact h.elim
theorem vS_sound (TO : T.Ok K) (IH : Sound prog w K Γ ih n) (G : FG c) (hr : Room c.A n) {ss : List Stmt} {P : Fl → Loc → Hp → Prop} {Q : Flow → Shared → Prop}
    (S : AtS prog w c m adr rest news H s) (hl : LocOk c.cl adr rest l m) (h : vS T ih c.cs ss l H P) (r : RetS prog w c adr rest s P Q) : wpAny (model prog w) c.A (execs ss c.env) Q E s := by
  induction ss with
  | nil => exact wpAny_execs_nil (r.now S hl mNext h)
  | cons st ss =>
    unfold vS at h
    refine wpAny_execs_cons (vSt_sound TO IH G hr S hl h fun fl f l1 m1 adr1 rest1 news1 H1 h1 tk1 e1 e2 S1 hl1 hm h2 => ?_)
    induction fl with
    | next => cases hm; exact IH.s G hr S1 hl1 h2 (r.then e1 e2)
    | ret v => obtain ⟨u, rfl, hm⟩ := hm; exact (r.then e1 e2).now S1 hl1 (mRet hm) h2
/-- contracts that stand by themselves -/
noncomputable def PmOk (prog : Program) (w : World) (K : Frag) (Γ : GE) (Pr : Pm) (n : Nat) : Prop :=
  ∀ f sp, Pr f = some sp → ∀ {c : FC K Γ} {m adr rest news H s lvs vs P R}, FG c → Room c.A n → AtS prog w c m adr rest news H s → MtL adr rest lvs vs → sp lvs H P → Ret prog w Mt c m adr rest s P (fun v s' => R (.ok (.ret v)) s') → codeAny (model prog w) c.A (.call (.ref f) ⟨vs, []⟩) R s
noncomputable def POne (prog : Program) (w : World) (K : Frag) (Γ : GE) (f : Addr) (sp : List LV → Hp → KV → Prop) (n : Nat) : Prop :=
  ∀ {c : FC K Γ} {m adr rest news H s lvs vs P R}, FG c → Room c.A n → AtS prog w c m adr rest news H s → MtL adr rest lvs vs → sp lvs H P → Ret prog w Mt c m adr rest s P (fun v s' => R (.ok (.ret v)) s') → codeAny (model prog w) c.A (.call (.ref f) ⟨vs, []⟩) R s
theorem pm_cons {a : Addr} {sp : List LV → Hp → KV → Prop} {Pr : Pm} {n : Nat} (h1 : POne prog w K Γ a sp n) (h2 : PmOk prog w K Γ Pr n) : PmOk prog w K Γ (fun f => cond (Nat.beq f a) (some sp) (Pr f)) n := by
  intro f sp' hf
  dsimp only at hf
  refine bool_tf (b := Nat.beq f a) (fun hb => ?_) fun hb => ?_
  · rw [hb] at hf; cases hf; rw [Nat.eq_of_beq_eq_true hb]; exact h1
  · rw [hb] at hf; exact h2 f sp' hf
theorem pm_nil {n : Nat} : PmOk prog w K Γ (fun Z => none) n := fun f sp h => nomatch h
/-- into a def's body -/
theorem enter {f : Addr} {names : List Str} {dfl : List LV} (FO : FnOk K f names dfl) (G : FG c) (hr : Room c.A (n + 1)) {lvs full : List LV} {vs : List Value} {P : KV} {R : Result → Shared → Prop} {adr₀ : List Addr}
    (S : AtS prog w c m adr rest news H s) (hm : MtL adr rest lvs vs) (hf : fullL names dfl lvs = some full) (r : Ret prog w Mt c m adr₀ rest s P (fun v s' => R (.ok (.ret v)) s'))
    (body : ∀ (c' : FC K Γ) m' s' E' Q', c'.cs = scopeOf K f → PassesOwn (model prog w) c'.A c'.env E' → min names.length 1 ≤ c'.t0 → FG c' → Room c'.A n → AtS prog w c' m' adr rest news H s' → LocOk c'.cl adr rest (names.zip full).reverse m' →
      RetS prog w c' adr₀ rest s' (fun fl Z H1 => match fl with | .next => P (.d .none) H1 | .ret v => P v H1) Q' → wpAny (model prog w) c'.A (execs (bodyOf K f) c'.env) Q' E' s') :
    codeAny (model prog w) c.A (.call (.ref f) ⟨vs, []⟩) R s := by
  obtain ⟨oc, od, osl, name, qual, params, bd, scope, dV, kV, doc, pm, an, cdv, ct, hk, hcd, hloc, hco, hgen, hkind, hcell, hfree, hdbg, hbind⟩ := FO.ok
  have e1 : scopeOf K f = scope := by unfold scopeOf; rw [hk]
  have e2 : bodyOf K f = bd := by unfold bodyOf; rw [hk]
  rw [e1, e2] at body
  obtain ⟨fv, hfv, hlen, hb⟩ := hbind s adr rest lvs vs full (c.X.keeps S.F.keep) hm hf
  obtain ⟨hr1, hr2⟩ := hr
  refine code_def c.B S.F c.X S.N c.T c.hA rfl c.hk hk hcd (by lia) hb (fun y hy => ?_) (fun g L' h₁ FG' F' N' B' X' T' => ?_) hco hgen hkind hcell
  · exact hloc y.1 (List.of_mem_zip (a := y.1) (b := y.2) hy).1
  · let c' : FC K Γ := ⟨c.A.deeper (envOf qual scope L' f cdv), qual, scope, f, cdv, [], c.env :: c.outer, c.A, c.base, g, L', B', X', T', Around.frames_deeper c.hA, c.hh, hkind, max c.t0 (min names.length 1)⟩
    refine body c' (fun y => (names.zip fv).reverse.lookup y) { s with heap := h₁, toks := s.toks + (names.zip fv).length } _ _ rfl PassesOwn.leaving (Nat.le_max_right _ _) ⟨hdbg, fun Z Z => rfl, fun x hx => absurd rfl (hcell (x, .cell) (PySem.mem_of_lookup hx)), fun x hx => absurd rfl (hfree (x, .free) (PySem.mem_of_lookup hx))⟩ ⟨?_, ?_⟩ ⟨F', N', S.R, ?_⟩ ?_ ?_
    · show c.A.depth + 1 + n < _; lia
    · show c.A.units + 3 + 4 * n < _; lia
    · have h1 := S.tk
      have h2 : (names.zip fv).length = names.length := by rw [List.length_zip, ← hfv.length, hlen, Nat.min_self]
      show max c.t0 (min names.length 1) ≤ s.toks + (names.zip fv).length
      rw [h2]; lia
    · exact fun x v e => ⟨fun Z => all2_lookup (all2_zip names hfv).reverse x v e, fun a q => by cases q⟩
    · intro fl fw l' m' adr' rest' news' H' h' tk' q1 q2 S' _ hmf hp
      induction fl with
      | next =>
        cases hmf
        exact leaveK_ S'.F S'.N fun kF kN => r (.d .none) .none adr' rest' news' H' h' tk' q1 q2 ⟨kF, kN, S'.R, Nat.le_trans (Nat.le_max_left _ _) S'.tk⟩ mNone hp
      | ret v =>
        obtain ⟨u, rfl, hu⟩ := hmf
        exact leaveK_ S'.F S'.N fun kF kN => r v u adr' rest' news' H' h' tk' q1 q2 ⟨kF, kN, S'.R, Nat.le_trans (Nat.le_max_left _ _) S'.tk⟩ hu hp
set_option tactic.hygienic true in
theorem vC_sound {Pr : Pm} {D : Nat} (TO : T.Ok K) (PO : PmOk prog w K Γ Pr D) (IH : Sound prog w K Γ ih n) (hD : D ≤ n + 1) (G : FG c) (hr : Room c.A (n + 1)) {f : Addr} {lvs : List LV} {vs : List Value} {P : KV} {R : Result → Shared → Prop}
    (S : AtS prog w c m adr rest news H s) (hm : MtL adr rest lvs vs) (h : vC K T Pr ih f lvs H P) (r : Ret prog w Mt c m adr rest s P (fun v s' => R (.ok (.ret v)) s')) : codeAny (model prog w) c.A (.call (.ref f) ⟨vs, []⟩) R s := by
  unfold vC at h
  split at h
  · rename_i sp hsp
    exact PO f sp hsp G (hr.le hD) S hm h r
  · split at h
    · rename_i fI hi
      rw [lenK_0, forceK_eq] at h
      obtain ⟨a1, a2, a3, a4⟩ := TO.init _ _ hi
      refine make_K S.F S.N (c.X.keeps S.F.keep) a1 a2 (beq_iff_eq.mp a3) fun x dx h' F' N' lt lx => ?_
      let c' : FC K Γ := { c with A := c.A.under (.builtin "type.__call__" ⟨.ref f :: vs, []⟩), hA := c.hA, hh := c.hh }
      have R' := S.R.allocI (C := f) lt lx
      have hx : Mt (adr ++ [x]) rest (.obj H.length) (.ref x) := ⟨x, by rw [← S.R.len, List.getElem?_append_right (Nat.le_refl _), Nat.sub_self]; rfl, rfl⟩
      refine IH.c (c := c') (m := m) ⟨G.dbg, G.loc, G.cel, G.fre⟩ ⟨?_, ?_⟩ (s := { s with heap := h' }) ⟨F', N', R', S.tk⟩ (.cons hx (hm.mono (List.prefix_append _ _) Sub.rfl)) h fun b a adr' rest' news' H' h'' tk' e1 e2 S' q1 q2 => ?_
      · obtain ⟨hr1, hr2⟩ := hr
        rw [depth_under_make]; lia
      · obtain ⟨hr1, hr2⟩ := hr
        rw [units_under_make]; lia
      · split at q2
        · cases q1
          exact ⟨rfl, r _ _ _ _ _ _ _ _ ((List.prefix_append _ _).trans e1) e2 ⟨S'.F, S'.N, S'.R, S'.tk⟩ (hx.mono e1 e2) q2⟩
        · exact q2.elim
    · split at h
      · rename_i names dfl hf
        split at h
        · rename_i full hfull
          rw [forceK_eq] at h
          refine enter (TO.fn _ _ _ hf) G hr S hm hfull r fun c' m' s' E' Q' ec Z Z G' hr' S' hl' r' => ?_
          rw [← ec] at h
          exact IH.s G' hr' S' hl' h r'
        · exact h.elim
      · exact h.elim
theorem step_sound {Pr : Pm} {D : Nat} (TO : T.Ok K) (PO : PmOk prog w K Γ Pr D) (IH : Sound prog w K Γ ih n) (hD : D ≤ n + 1) : Sound prog w K Γ (Ev.step K T Pr ih) (n + 1) where
  e := fun G hr S hl h r => vE_sound TO IH G (hr.le (Nat.le_succ _)) S hl h r
  b := fun G hr S hl h r => vB_sound IH G (hr.le (Nat.le_succ _)) S hl h r
  s := fun G hr S hl h r => vS_sound TO IH G (hr.le (Nat.le_succ _)) S hl h r
  c := fun G hr S hm h r => vC_sound TO PO IH hD G hr S hm h r
theorem run_sound {Pr : Pm} {D : Nat} (TO : T.Ok K) (PO : PmOk prog w K Γ Pr D) : ∀ k, Sound prog w K Γ (Ev.run K T Pr k) (k + D)
  | 0 => ⟨fun Z Z Z Z h Z => h.elim, fun Z Z Z Z h Z => h.elim, fun Z Z Z Z h Z => h.elim, fun Z Z Z Z h Z => h.elim⟩
  | k + 1 => by
    have := step_sound TO PO (run_sound TO PO k) (by lia)
    rw [show k + 1 + D = k + D + 1 by lia]
    exact this
theorem po_ev {Pr : Pm} {D k a n : Nat} {sp : List LV → Hp → KV → Prop} (TO : T.Ok K) (PO : PmOk prog w K Γ Pr D) (hn : k + D ≤ n) (h : ∀ {lvs H P}, sp lvs H P → (Ev.run K T Pr k).c a lvs H P) : POne prog w K Γ a sp n :=
  fun G hr S hm q r => (run_sound TO PO k).c G (hr.le hn) S hm (h q) r
end
end Mine
end
section
open PySem PySem.W PyProof.Rows PySem.Calls
set_option maxRecDepth 100000
namespace Mine
/-! the tables' checks -/
noncomputable def fdChk (K : Frag) (names : List Str) (fd : FuncData) : Bool :=
  fd.globals == mainGlobals && fd.closure.isEmpty && fd.builtins == builtinsNs && (match fd.body with | .stmts _ => true | _ => false) && codeIn K fd.code fd.qualname &&
    decide (fd.params.args.map (·.arg) = names) && fd.params.posonlyargs.isEmpty && fd.params.vararg.isNone && fd.params.kwonlyargs.isEmpty && fd.params.kwarg.isNone && decide names.Nodup &&
    (names.all fun nm => decide (fd.scope.names.lookup nm = some .local)) && !fd.scope.isCoroutine && !fd.scope.isGenerator && decide (fd.scope.kind = .function) && (fd.scope.names.all fun x => decide (x.2 ≠ .cell)) && (fd.scope.names.all fun x => decide (x.2 ≠ .free)) && decide (fd.scope.names.lookup DBG = none)
noncomputable def fnChk (K : Frag) (d : Value) (f : Addr) (names : List Str) : Bool := match K.lookup f with
  | some ⟨_, _, .func fd, _⟩ => fdChk K names fd && decide (fd.defaults = d)
  | _ => false
set_option tactic.hygienic true in
theorem fullL_nil {names : List Str} {lvs full : List LV} (h : fullL names [] lvs = some full) : full = lvs ∧ lvs.length = names.length := by
  unfold fullL at h
  dsimp only at h
  split at h
  · rename_i e; cases h; exact ⟨rfl, Nat.eq_of_beq_eq_true e⟩
  · cases h
theorem binds_peek {K : Frag} {s : Shared} {fd : FuncData} {args : Args} {bs : List (Str × Value)} (X : K.In s.heap) (h : ∀ S, peek K S (bindArgs fd args) = some bs) : BindsTo s fd args bs :=
  fun Z Z Z Z q => (Looks.of_peek X (h _)).here q
set_option tactic.hygienic true in
theorem fnOk_gen {K : Frag} {f : Addr} {names : List Str} {dfl : List LV} {d : Value} (h : fnChk K d f names = true)
    (hb : ∀ fd oc od osl, K.lookup f = some ⟨oc, od, .func fd, osl⟩ → fdChk K names fd = true → fd.defaults = d → ∀ (s : Shared) adr rest lvs vs full, K.In s.heap → MtL adr rest lvs vs → fullL names dfl lvs = some full → ∃ fv, MtL adr rest full fv ∧ full.length = names.length ∧ BindsTo s fd ⟨vs, []⟩ (names.zip fv)) : FnOk K f names dfl := by
  unfold fnChk at h
  split at h
  · rename_i oc od fd osl hk
    obtain ⟨h, hd⟩ := Bool.and_eq_true_iff.mp h
    have hd := of_decide_eq_true hd
    have hb' := hb fd oc od osl hk h hd
    unfold fdChk at h
    simp only [Bool.and_eq_true, decide_eq_true_eq, beq_iff_eq, List.isEmpty_iff, Option.isNone_iff_eq_none, Bool.not_eq_true', List.all_eq_true] at h
    obtain ⟨⟨⟨⟨⟨⟨⟨⟨⟨⟨⟨⟨⟨⟨⟨⟨⟨a1, a2⟩, a3⟩, a4⟩, a5⟩, a6⟩, a7⟩, a8⟩, a9⟩, a10⟩, a11⟩, a12⟩, a13⟩, a14⟩, a15⟩, a16⟩, a18⟩, a17⟩ := h
    obtain ⟨name, qual, params, body, scope, glob, clos, dV, kV, doc, pm, an, cdv, ct, blt⟩ := fd
    dsimp only at *
    induction body with
    | stmts b =>
      subst a1 a2 a3
      exact ⟨oc, od, osl, name, qual, params, b, scope, dV, kV, doc, pm, an, cdv, ct, hk, a5, a12, a13, a14, a15, a16, a18, a17, hb'⟩
    | _ => cases a4
  · cases h
theorem fnOk_plain {K : Frag} {f : Addr} {names : List Str} (h : fnChk K .none f names = true) : FnOk K f names [] := by
  refine fnOk_gen h fun fd oc od osl hk hc hd s adr rest lvs vs full X hm hf => ?_
  obtain ⟨rfl, hl⟩ := fullL_nil hf
  unfold fdChk at hc
  simp only [Bool.and_eq_true, decide_eq_true_eq, beq_iff_eq, List.isEmpty_iff, Option.isNone_iff_eq_none, Bool.not_eq_true', List.all_eq_true] at hc
  obtain ⟨⟨⟨⟨⟨⟨⟨⟨⟨⟨⟨⟨⟨⟨⟨⟨⟨a1, a2⟩, a3⟩, a4⟩, a5⟩, a6⟩, a7⟩, a8⟩, a9⟩, a10⟩, a11⟩, a12⟩, a13⟩, a14⟩, a15⟩, a16⟩, a18⟩, a17⟩ := hc
  refine ⟨vs, hm, hl, BindsTo.of_eq ?_⟩
  have hlen := hm.length
  have := binds_all (s := s) (fd := fd) (vs := vs) a7 a8 a9 a10 hd (by rw [a6]; exact a11) (by rw [← hlen, hl, ← a6, List.length_map])
  rw [a6] at this
  exact this
noncomputable def gChk (K : Frag) (g : Str × LV) : Bool := match g.2 with
  | .top a => decide (nsIn K mainGlobals g.1 = some (some (.ref a))) && decide (g.1 ≠ DBG)
  | .bi id => decide (nsIn K mainGlobals g.1 = some none) && decide (bootBuiltins g.1 = some (.builtin id)) && decide (g.1 ≠ Str.ofString "__name__") && decide (g.1 ≠ DBG)
  | _ => false
theorem lookup_in {α β : Type} [BEq α] [LawfulBEq α] {x : α} {v : β} : ∀ {l : List (α × β)}, l.lookup x = some v → (x, v) ∈ l
  | [], h => by cases h
  | (a, b) :: r, h => by
    rw [List.lookup_cons] at h
    refine bool_tf (b := x == a) (fun e => ?_) fun e => ?_
    · rw [e] at h; cases h; rw [beq_iff_eq.mp e]; exact .head _
    · rw [e] at h; exact .tail _ (lookup_in h)
theorem glob_of {K : Frag} {gs : List (Str × LV)} (h : gs.all (gChk K) = true) : ∀ x v, gs.lookup x = some v → GlobOk K x v := fun x v e => by
  have q := List.all_eq_true.mp h _ (lookup_in e)
  unfold gChk at q
  induction v with
  | top a => simpa [GlobOk] using q
  | bi id => simpa [GlobOk, and_assoc] using q
  | d x => cases q
  | obj i => cases q
noncomputable def cChk (K : Frag) (c : Addr × List Str × List (Str × Addr)) : Bool :=
  plainGet K c.1 (Str.ofString "") && hasDictIn K c.1 && decide (findIn K (.ref c.1) (Str.ofString "__setattr__") = some (some (.builtin "object.__setattr__"))) && plainOver K c.1 &&
    (c.2.1.all fun nm => decide (findIn K (.ref c.1) nm = some none)) && (c.2.2.all fun q => decide (findIn K (.ref c.1) q.1 = some (some (.ref q.2))) && isFn K (.ref q.2))
theorem cls_of {K : Frag} {cs : List (Addr × List Str × List (Str × Addr))} (h : cs.all (cChk K) = true) : ∀ C fs ms, cs.lookup C = some (fs, ms) → ClsOk K C ∧ (∀ nm, fs.contains nm = true → findIn K (.ref C) nm = some none) ∧ ∀ nm f, ms.lookup nm = some f → findIn K (.ref C) nm = some (some (.ref f)) ∧ isFn K (.ref f) = true := fun C fs ms e => by
  have q := List.all_eq_true.mp h _ (lookup_in e)
  unfold cChk at q
  simp only [Bool.and_eq_true, decide_eq_true_eq, List.all_eq_true] at q
  obtain ⟨⟨⟨⟨⟨a1, a2⟩, a3⟩, a4⟩, a5⟩, a6⟩ := q
  exact ⟨⟨fun Z => a1, a2, a3, a4⟩, fun nm hn => a5 nm (List.contains_iff_mem.mp hn), fun nm f hf => a6 _ (lookup_in hf)⟩
noncomputable def iChk (K : Frag) (q : Addr × Addr) : Bool := makesIn K q.1 && decide (findIn K (.ref q.1) (Str.ofString "__init__") = some (some (.ref q.2))) && isFn K (.ref q.2) && keepIn K (.ref q.1)
theorem init_of {K : Frag} {cs : List (Addr × Addr)} (h : cs.all (iChk K) = true) : ∀ C f, cs.lookup C = some f → makesIn K C = true ∧ findIn K (.ref C) "__init__" = some (some (.ref f)) ∧ isFn K (.ref f) = true ∧ keepIn K (.ref C) = true := fun C f e => by
  have q := List.all_eq_true.mp h _ (lookup_in e)
  unfold iChk at q
  simp only [Bool.and_eq_true, decide_eq_true_eq] at q
  exact ⟨q.1.1.1, q.1.1.2, q.1.2, q.2⟩
theorem cf_of {K : Frag} {fs : List Addr} (h : (fs.all fun f => keepIn K (.ref f)) = true) : ∀ f, fs.contains f = true → keepIn K (.ref f) = true :=
  fun f hf => List.all_eq_true.mp h f (List.contains_iff_mem.mp hf)
theorem fns_of {K : Frag} {q1 q2 : Addr × List Str × List LV} {fs : List (Addr × List Str × List LV)} (h : (fs.all fun q => q.2.2.isEmpty && fnChk K .none q.1 q.2.1) = true) (h1 : FnOk K q1.1 q1.2.1 q1.2.2) (h2 : FnOk K q2.1 q2.2.1 q2.2.2) : ∀ f names dfl, (q1 :: q2 :: fs).lookup f = some (names, dfl) → FnOk K f names dfl := fun f names dfl e => by
  cases lookup_in e with
  | head => exact h1
  | tail _ m => cases m with
    | head => exact h2
    | tail _ m =>
      obtain ⟨q1, q2⟩ := Bool.and_eq_true_iff.mp (List.all_eq_true.mp h _ m)
      induction dfl with
      | nil => exact fnOk_plain q2
      | cons _ _ => cases q1
end Mine
end
section
open PySem PySem.W PyProof.Rows PySem.Spec PySem.Calls
set_option maxRecDepth 100000
namespace Mine
noncomputable def Stop (P : Prop) : Prop := P
noncomputable def without (I : Addr) (l : Led) : Led := l.filter fun p => p.1 != I
theorem without_sub {I : Addr} {l : Led} : Sub (without I l) l := fun Z h => (List.mem_filter.mp h).1
theorem without_ne {I : Addr} {l : Led} : ∀ p ∈ without I l, p.1 ≠ I := fun p h => by
  have := (List.mem_filter.mp h).2
  simpa using this
theorem mem_without {I : Addr} {l : Led} {p : Addr × Obj} (h : p ∈ l) (n : p.1 ≠ I) : p ∈ without I l := List.mem_filter.mpr ⟨h, by simpa using n⟩
theorem DN.fn {l : Led} (D : DN l) {a : Addr} {o o' : Obj} (h : (a, o) ∈ l) (h' : (a, o') ∈ l) : o = o' := by
  induction l with
  | nil => cases h
  | cons p r ih =>
    have D' := List.nodup_cons.mp (show (p.1 :: r.map (·.1)).Nodup from D)
    rcases List.mem_cons.mp h with e | e
    · rcases List.mem_cons.mp h' with e' | e'
      · rw [← e] at e'; exact (Prod.mk.inj e').2.symm
      · exact absurd (List.mem_map.mpr ⟨_, e', by rw [← e]⟩) D'.1
    · rcases List.mem_cons.mp h' with e' | e'
      · exact absurd (List.mem_map.mpr ⟨_, e, by rw [← e']⟩) D'.1
      · exact ih D'.2 e e'
mutual
theorem datIn_drop {l : Led} {I : Addr} {oI : Obj} (D : ∀ a o, (a, o) ∈ l → a = I → o = oI) (hn : NotSeq oI) : ∀ {v : Value} {d : Dat}, DatIn l v d → DatIn (without I l) v d
  | _, _, .none => .none
  | _, _, .bool b => .bool b
  | _, _, .int i t => .int i t
  | _, _, .str x t => .str x t
  | _, _, .bytes b t => .bytes b t
  | _, _, .tuple h r => .tuple (mem_without h fun e => hn.1 (by rw [← D _ _ h e])) (datAll_drop D hn r)
  | _, _, .list h r => .list (mem_without h fun e => hn.2 (by rw [← D _ _ h e])) (datAll_drop D hn r)
theorem datAll_drop {l : Led} {I : Addr} {oI : Obj} (D : ∀ a o, (a, o) ∈ l → a = I → o = oI) (hn : NotSeq oI) : ∀ {vs : List Value} {ds : List Dat}, DatAll l vs ds → DatAll (without I l) vs ds
  | _, _, .nil => .nil
  | _, _, .cons h r => .cons (datIn_drop D hn h) (datAll_drop D hn r)
end

section
variable {prog : Program} {w : World} {adr : List Addr} {rest : Led}
theorem mt_drop {I : Addr} {oI : Obj} (D : ∀ a o, (a, o) ∈ rest → a = I → o = oI) (hn : NotSeq oI) {x : LV} {v : Value} (h : Mt adr rest x v) : Mt adr (without I rest) x v := by
  induction x with
  | d x => exact datIn_drop D hn h
  | obj i => exact h
  | top a => exact h
  | bi id => exact h
theorem own_drop {I : Addr} {oI : Obj} (D : ∀ a o, (a, o) ∈ rest → a = I → o = oI) (hn : NotSeq oI) : ∀ {as os ls}, Own prog w adr rest as os ls → Own prog w adr (without I rest) as os ls
  | _, _, _, .nil => .nil
  | _, _, _, .cons (o := o) h r => by
    refine .cons ?_ (own_drop D hn r)
    induction o with
    | inst C fs => obtain ⟨dx, es, n, e, q⟩ := h; exact ⟨dx, es, n, e, q.imp fun Z Z z => ⟨z.1, z.2.1, mt_drop D hn z.2.2⟩⟩
    | chars cs => exact h
    | list ds => obtain ⟨vs, n, e, q⟩ := h; exact ⟨vs, n, e, datAll_drop D hn q⟩
    | tab ts => exact h
    | cell v =>
      induction v with
      | none => exact h
      | some v => obtain ⟨o, u, e, q, z⟩ := h; exact ⟨o, u, e, q, mt_drop D hn z⟩
    | tup xs => obtain ⟨vs, e, q⟩ := h; exact ⟨vs, e, q.imp fun Z Z z => mt_drop D hn z⟩
theorem RepH.drop {H : Hp} {news : Led} {I : Addr} {oI : Obj} (R : RepH prog w adr H rest news) (hI : (I, oI) ∈ rest) (hn : NotSeq oI) : RepH prog w adr H (without I rest) (without I news) := by
  obtain ⟨own, O, S, D⟩ := R
  have D' : DN rest := DN.sub (List.sublist_append_right _ _) D
  have hu : ∀ a o, (a, o) ∈ rest → a = I → o = oI := fun a o h e => by subst e; exact DN.fn D' h hI
  refine ⟨own, own_drop hu hn O, fun p hp => ?_, DN.sub (List.Sublist.append (List.Sublist.refl _) List.filter_sublist) D⟩
  rcases List.mem_append.mp hp with h | h
  · refine mem_without (S p (List.mem_append_left _ h)) fun e => ?_
    have D1 : (List.map (·.1) own ++ List.map (·.1) rest).Nodup := by rw [← List.map_append]; exact D
    exact (List.nodup_append.mp D1).2.2 p.1 (List.mem_map_of_mem h) I (List.mem_map.mpr ⟨_, hI, rfl⟩) e
  · exact mem_without (S p (List.mem_append_right _ (without_sub p h))) (without_ne p h)
theorem LocOk.drop {cl : List (Str × Addr)} {I : Addr} {oI : Obj} {l : Loc} {m : Str → Option Value} (D : ∀ a o, (a, o) ∈ rest → a = I → o = oI) (hn : NotSeq oI) (h : LocOk cl adr rest l m) : LocOk cl adr (without I rest) l m := fun x v e => by
  obtain ⟨h1, h2⟩ := h x v e
  refine ⟨fun q => ?_, h2⟩
  obtain ⟨u, e1, e2⟩ := h1 q
  exact ⟨u, e1, mt_drop D hn e2⟩
noncomputable def Keeps (l l' : Loc) : Prop := ∀ y v, l.lookup y = some v → l'.lookup y = some v
theorem LocOk.keeps {cl : List (Str × Addr)} {l l' : Loc} {m : Str → Option Value} (h : LocOk cl adr rest l' m) (k : Keeps l l') : LocOk cl adr rest l m := fun x v e => h x v (k x v e)
end
section
variable {prog : Program} {w : World} {A : Around} {E : Value → Shared → Prop} {s : Shared} {env : Env} {h₀ : Heap} {x : Str} {body : List Stmt} {Q : Flow → Shared → Prop}
/-- a turn's end -/
noncomputable def LpPost (h₀ : Heap) (L : Addr) (J : (Str → Option Value) → Led → Prop) (I : Addr) (oI : Obj) (s : Shared) (Q : Flow → Shared → Prop) (f : Flow) (s₂ : Shared) : Prop :=
  match f with
  | .ret v => Q (.ret v) s₂
  | .brk => Q .next s₂
  | _ => Stop (∃ h' tk m' nx', s₂ = { s with heap := h', toks := tk } ∧ Fr h₀ L h' m' ∧ News h₀ L h' ((I, oI) :: nx') ∧ (∀ p ∈ nx', p.1 ≠ I) ∧ J m' nx')
theorem loopG {n : Nat} {P : Nat → Value → Prop} {St : Nat → Heap → Prop} {I : Addr} {m₀ : Str → Option Value} {news : Led} (J : Nat → (Str → Option Value) → Led → Prop)
    (W : Walks prog w A I [I] [I] n P St) (hst : ∀ i h, St i h → ∃ o, h.get? I = some o ∧ NotSeq o) (hLI : env.locals ≠ I) (hI : h₀.get? I = none) (hnw : ∀ p ∈ news, p.1 ≠ I) (st0 : St 0 s.heap)
    (F : Fr h₀ env.locals s.heap m₀) (N : News h₀ env.locals s.heap news) (hj : J 0 m₀ news)
    (turn : ∀ i v m₁ nx h tk oI, i < n → P i v → NotSeq oI → (∀ p ∈ nx, p.1 ≠ I) → J i m₁ nx → Fr h₀ env.locals h (fun y => if y = x then some v else m₁ y) → News h₀ env.locals h ((I, oI) :: nx) →
      wpAny (model prog w) A (execs body env) (LpPost h₀ env.locals (J (i + 1)) I oI s Q) E { s with heap := h, toks := tk })
    (done : ∀ m' nx h tk, J n m' nx → Fr h₀ env.locals h m' → News h₀ env.locals h nx → Q .next { s with heap := h, toks := tk }) :
    LoopAtV prog w A h₀ env x body Q E (.ref I) s := by
  refine ⟨I, [I], [I], n, P, St, m₀, news, J, rfl, W, fun h => hLI (List.mem_singleton.mp h), fun b hb => by rw [List.mem_singleton.mp hb]; exact hI, fun p hp hb => hnw p hp (List.mem_singleton.mp hb), st0, F, N, hj, ?_, fun h' tk m' news' F' N' Z hJ => done m' news' h' tk hJ F' N'⟩
  rintro i v m₁ nx s₁ own ⟨h, tk, rfl⟩ hi hP hJ hoff hown hget hfp hst' F₁ N₁
  obtain ⟨oI, hoI, hns⟩ := hst _ _ hst'
  have hIown : (I, oI) ∈ own := hfp I (List.mem_singleton.mpr rfl) hI _ hoI
  have hall : ∀ p ∈ own, p = (I, oI) := fun p hp => by
    obtain ⟨a, o⟩ := p
    have e1 : a = I := List.mem_singleton.mp (hown _ hp)
    subst e1
    have e2 := hget _ hp
    rw [hoI] at e2
    cases e2; rfl
  have N₂ : News h₀ env.locals h ((I, oI) :: nx) := fun p hp => by
    rcases List.mem_cons.mp hp with e | e
    · exact N₁ p (List.mem_append_left _ (e ▸ hIown))
    · exact N₁ p (List.mem_append_right _ e)
  refine wpAny_mono (turn i v m₁ nx h tk oI hi hP hns (fun p hp e => hoff p hp (List.mem_singleton.mpr e)) hJ F₁ N₂) (fun f s₂ p => ?_) fun Z Z e => e
  have fin : (∃ h' tk' m' nx', s₂ = { s with heap := h', toks := tk' } ∧ Fr h₀ env.locals h' m' ∧ News h₀ env.locals h' ((I, oI) :: nx') ∧ (∀ p ∈ nx', p.1 ≠ I) ∧ J (i + 1) m' nx') →
      LoopStepU h₀ env.locals [I] own (J (i + 1)) { s with heap := h, toks := tk } .next s₂ := by
    rintro ⟨h', tk', m', nx', e, F', N', hne, hm⟩
    refine ⟨rfl, h', tk', m', nx', e, F', fun p hp => N' p ((List.mem_append.mp hp).elim (fun q => by rw [hall p q]; exact .head _) fun q => .tail _ q), fun p hp hq => hne p hp (List.mem_singleton.mp hq), hm⟩
  induction f with
  | ret v => exact .ret p
  | brk => exact .brk p
  | next => exact .next (fin p)
  | cont => exact .cont (fin p)

theorem for_range {r : Addr} {a b c : Int} {t₀ u₀ v₀ : Tok} {n : Nat} {m₀ : Str → Option Value} {news : Led} (J : Nat → (Str → Option Value) → Led → Prop)
    (hh : A.handled = none) (hr : IsRange s.heap r a b c t₀ u₀ v₀) (hsmall : Builtin.Range.small a b c = true) (hn : Builtin.Range.rangeSize a b c = (n : Int))
    (F : Fr h₀ env.locals s.heap m₀) (N : News h₀ env.locals s.heap news) (hj : J 0 m₀ news)
    (turn : ∀ i t m₁ nx h tk I oI, i < n → NotSeq oI → (∀ p ∈ news, p.1 < I) → (∀ p ∈ nx, p.1 ≠ I) → J i m₁ nx → Fr h₀ env.locals h (fun y => if y = x then some (.int (a + (i : Int) * c) t) else m₁ y) → News h₀ env.locals h ((I, oI) :: nx) →
      wpAny (model prog w) A (execs body env) (LpPost h₀ env.locals (J (i + 1)) I oI s Q) E { s with heap := h, toks := tk })
    (done : ∀ m' nx h tk, J n m' nx → Fr h₀ env.locals h m' → News h₀ env.locals h nx → Q .next { s with heap := h, toks := tk }) :
    wpAny (model prog w) A (pyIter (.ref r)) (fun it s₂ => LoopAtV prog w A h₀ env x body Q E it s₂) E s := by
  refine wpAny_pyIter_range hr hsmall ?_
  have lt : ∀ p ∈ news, p.1 < s.heap.objs.size := fun p hp => Heap.lt_size (N p hp).1
  refine loopG (s := { s with heap := s.heap.push _ }) J (Walks.range hh s.heap.objs.size a c n) (fun i h st => ⟨_, st, ⟨fun e => by injection e with e; exact absurd e (by decide), fun e => by injection e with e; exact absurd e (by decide)⟩⟩) (Nat.ne_of_lt F.ns.lt) (next_is_new F) (fun p hp => Nat.ne_of_lt (lt p hp))
    (by show IsRangeIter _ _ _ _ _; rw [hn]; simpa using Heap.get?_push_size _ rfl) (F.push _) (fun p hp => ⟨Heap.get?_push_of_some _ (N p hp).1, (N p hp).2⟩) hj ?_ done
  rintro i v m₁ nx h tk oI hi ⟨t, rfl⟩ hns hne hJ F₁ N₁
  exact turn i t m₁ nx h tk _ oI hi hns lt hne hJ F₁ N₁

theorem for_str {xt : Str} {tx : Tok} {m₀ : Str → Option Value} {news : Led} (J : Nat → (Str → Option Value) → Led → Prop)
    (hh : A.handled = none) (F : Fr h₀ env.locals s.heap m₀) (N : News h₀ env.locals s.heap news) (hj : J 0 m₀ news)
    (turn : ∀ i c t m₁ nx h tk I oI, xt.cps[i]? = some c → NotSeq oI → (∀ p ∈ news, p.1 < I) → (∀ p ∈ nx, p.1 ≠ I) → J i m₁ nx → Fr h₀ env.locals h (fun y => if y = x then some (.str (one c) t) else m₁ y) → News h₀ env.locals h ((I, oI) :: nx) →
      wpAny (model prog w) A (execs body env) (LpPost h₀ env.locals (J (i + 1)) I oI s Q) E { s with heap := h, toks := tk })
    (done : ∀ m' nx h tk, J xt.cps.size m' nx → Fr h₀ env.locals h m' → News h₀ env.locals h nx → Q .next { s with heap := h, toks := tk }) :
    wpAny (model prog w) A (pyIter (.str xt tx)) (fun it s₂ => LoopAtV prog w A h₀ env x body Q E it s₂) E s := by
  have lt : ∀ p ∈ news, p.1 < s.heap.objs.size := fun p hp => Heap.lt_size (N p hp).1
  cases ha : xt.cps.all (· < 128)
  · refine wpAny_pyIter_wide ha ?_
    refine loopG (s := { s with heap := s.heap.push _ }) J (Walks.strWide hh s.heap.objs.size xt tx) (fun i h ⟨o, ho, hc, _⟩ => ⟨o, ho, ⟨fun e => by rw [hc] at e; injection e with e; exact absurd e (by decide), fun e => by rw [hc] at e; injection e with e; exact absurd e (by decide)⟩⟩) (Nat.ne_of_lt F.ns.lt) (next_is_new F) (fun p hp => Nat.ne_of_lt (lt p hp))
      ⟨_, Heap.get?_push_size _ rfl, rfl, rfl⟩ (F.push _) (fun p hp => ⟨Heap.get?_push_of_some _ (N p hp).1, (N p hp).2⟩) hj ?_ done
    rintro i v m₁ nx h tk oI hi ⟨c, u, hc, rfl⟩ hns hne hJ F₁ N₁
    exact turn i c u m₁ nx h tk _ oI hc hns lt hne hJ F₁ N₁
  · refine wpAny_pyIter_ascii ha ?_
    refine loopG (s := { s with heap := s.heap.push _ }) J (Walks.strAscii hh s.heap.objs.size xt tx) (fun i h ⟨o, ho, hc, _⟩ => ⟨o, ho, ⟨fun e => by rw [hc] at e; injection e with e; exact absurd e (by decide), fun e => by rw [hc] at e; injection e with e; exact absurd e (by decide)⟩⟩) (Nat.ne_of_lt F.ns.lt) (next_is_new F) (fun p hp => Nat.ne_of_lt (lt p hp))
      ⟨_, Heap.get?_push_size _ rfl, rfl, rfl⟩ (F.push _) (fun p hp => ⟨Heap.get?_push_of_some _ (N p hp).1, (N p hp).2⟩) hj ?_ done
    rintro i v m₁ nx h tk oI hi ⟨c, u, hc, rfl⟩ hns hne hJ F₁ N₁
    exact turn i c u m₁ nx h tk _ oI hc hns lt hne hJ F₁ N₁
end

section
variable {prog : Program} {w : World} {K : Frag} {Γ : GE}
variable {c : FC K Γ} {T : Tabs} {ih : Ev} {n : Nat} {A : Around} {m : Str → Option Value} {adr adr' : List Addr} {rest rest' news : Led} {H : Hp} {s : Shared} {E : Value → Shared → Prop} {l : Loc}
noncomputable def JH (prog : Program) (w : World) (cl : List (Str × Addr)) (l : Loc) (adr : List Addr) (rest : Led) (Jh : Hp → Prop) (m : Str → Option Value) (nx : Led) : Prop :=
  ∃ adr' rest' H', adr <+: adr' ∧ Sub rest rest' ∧ RepH prog w adr' H' rest' nx ∧ LocOk cl adr' rest' l m ∧ Jh H'
/-- a turn of a for, by its body's word -/
theorem turn_ok (IH : Sound prog w K Γ ih n) (G : FG c) (hr : Room c.A n) {Jh Jh' : Hp → Prop} {m₁ : Str → Option Value} {nx : Led} {I : Addr} {oI : Obj} {x : Str} {lv : LV} {v : Value} {body : List Stmt} {P : Fl → Loc → Hp → Prop} {Q : Flow → Shared → Prop} {h : Heap} {tk : Nat}
    (hJ : JH prog w c.cl l adr rest Jh m₁ nx) (hns : NotSeq oI) (hne : ∀ q ∈ nx, q.1 ≠ I) (hrI : ∀ q ∈ rest, q.1 ≠ I) (F₁ : Fr c.h₀ c.L h (fun y => if y = x then some v else m₁ y)) (N₁ : News c.h₀ c.L h ((I, oI) :: nx)) (hv : ∀ adr rest, Mt adr rest lv v)
    (hx0 : c.cl.lookup x = none) (hb : ∀ H', Jh H' → ih.s c.cs body ((x, lv) :: l) H' (fun fl l' H'' => match fl with | .next => Jh' H'' ∧ Keeps l l' | .ret u => P (.ret u) l' H''))
    (r : RetS prog w c adr rest s P Q) :
    wpAny (model prog w) c.A (execs body c.env) (LpPost c.h₀ c.L (JH prog w c.cl l adr rest Jh') I oI s (fun f s' => c.t0 ≤ s'.toks → Q f s')) E { s with heap := h, toks := tk } := by
  obtain ⟨adr1, rest1, H1, e1, e2, R1, L1, hj⟩ := hJ
  have R2 := R1.grow (x := I) (o := oI) hne
  refine IH.s (c := { c with t0 := 0 }) (m := fun y => if y = x then some v else m₁ y) (adr := adr1) (rest := (I, oI) :: rest1) (news := (I, oI) :: nx) (H := H1) (l := (x, lv) :: l) ⟨G.dbg, G.loc, G.cel, G.fre⟩ hr ⟨F₁, N₁, R2, Nat.zero_le _⟩ ((L1.mono List.prefix_rfl Sub.cons).put hx0 (hv _ _)) (hb H1 hj) ?_
  intro fl f l' m' adr2 rest2 news2 H2 h2 tk2 q1 q2 S2 L2 hm hp
  have hI : (I, oI) ∈ rest2 := q2 _ (.head _)
  have sub1 : Sub rest rest2 := fun z hz => q2 z (.tail _ (e2 z hz))
  induction fl with
  | ret u =>
    obtain ⟨u', rfl, hu⟩ := hm
    exact fun ht => r (.ret u) _ l' m' adr2 rest2 news2 H2 h2 tk2 (e1.trans q1) sub1 ⟨S2.F, S2.N, S2.R, ht⟩ L2 (mRet hu) hp
  | next =>
    cases hm
    obtain ⟨hp1, hp2⟩ := hp
    obtain ⟨own, O, Sb, D⟩ := S2.R
    have D' : DN rest2 := DN.sub (List.sublist_append_right _ _) D
    have hu : ∀ a o, (a, o) ∈ rest2 → a = I → o = oI := fun a o h e => by subst e; exact DN.fn D' h hI
    refine ⟨h2, tk2, m', without I news2, rfl, S2.F, ?_, without_ne, adr2, without I rest2, H2, e1.trans q1, fun z hz => mem_without (sub1 z hz) (hrI z hz), RepH.drop ⟨own, O, Sb, D⟩ hI hns, (L2.drop hu hns).keeps hp2, hp1⟩
    intro q hq
    rcases List.mem_cons.mp hq with e | e
    · exact e ▸ S2.N _ (Sb _ (List.mem_append_right _ hI))
    · exact S2.N q (without_sub q e)
/-- for x in a text -/
theorem for_str_ok (IH : Sound prog w K Γ ih n) (G : FG c) (hr : Room c.A n) {x : Str} {px pos : Pos} {iter : Expr} {body : List Stmt} {text : Str} {P : Fl → Loc → Hp → Prop} {Q : Flow → Shared → Prop} (Jh : Nat → Hp → Prop)
    (hE : PassesOwn (model prog w) c.A c.env E) (hx : c.cs.names.lookup x = some .local) (hs : ∀ v, foldedSetIterable iter c.env v = pure v) (S : AtS prog w c m adr rest news H s) (hl : LocOk c.cl adr rest l m)
    (hi : ih.e c.cs iter l H (fun v H1 => v = .d (.str text) ∧ Jh 0 H1))
    (turn : ∀ i k H', text.cps[i]? = some k → Jh i H' → ih.s c.cs body ((x, .d (.str (one k))) :: l) H' (fun fl l' H'' => match fl with | .next => Jh (i + 1) H'' ∧ Keeps l l' | .ret u => P (.ret u) l' H''))
    (done : ∀ H', Jh text.cps.size H' → P .next l H') (r : RetS prog w c adr rest s P Q) : wpAny (model prog w) c.A (exec (.For (.Name x px) iter body [] pos) c.env) Q E s := by
  refine with_toks S.tk ?_
  refine For_invVF S.F hx (by show (c.cs.kind == .class || (c.cs.kind == .module && _)) = false; rw [c.hk]; rfl) ?_ hs hE
  refine IH.e G hr S (nmk G hl) hi fun v u adr1 rest1 news1 H1 h1 tk1 e1 e2 S1 hm hp => ?_
  obtain ⟨rfl, hj⟩ := hp
  obtain ⟨_, rfl⟩ := dInv hm
  refine for_str (fun i => JH prog w c.cl l adr1 rest1 (Jh i)) c.hh S1.F S1.N ⟨adr1, rest1, H1, List.prefix_rfl, Sub.rfl, S1.R, hl.mono e1 e2, hj⟩ ?_ ?_
  · intro i k t m₁ nx h tk I oI hk hns hlt hne hJ F₁ N₁
    exact turn_ok IH G hr hJ hns hne (fun q hq => Nat.ne_of_lt (hlt q (S1.R.rest_sub q hq))) F₁ N₁ (fun Z Z => mStr) (G.loc _ hx) (fun H' hj' => turn i k H' hk hj') (r.then e1 e2)
  · rintro m' nx h tk ⟨adr2, rest2, H2, q1, q2, R2, L2, hj2⟩ F' N' ht
    exact r .next .next l m' adr2 rest2 nx H2 h tk (e1.trans q1) (e2.trans q2) ⟨F', N', R2, ht⟩ L2 mNext (done H2 hj2)
theorem rangeSize_nat (a n : Nat) : Builtin.Range.rangeSize (a : Int) ((a + n : Nat) : Int) 1 = (n : Int) := by
  unfold Builtin.Range.rangeSize
  by_cases h : n = 0
  · subst h; simp
  · simp; lia
end
end Mine
end
section
open PySem PySem.W PyProof.Rows PySem.Spec PySem.Calls
set_option maxRecDepth 100000
namespace Mine
section
variable {prog : Program} {w : World} {K : Frag} {Γ : GE}
variable {c : FC K Γ} {T : Tabs} {ih : Ev} {n : Nat} {A : Around} {m : Str → Option Value} {adr adr' : List Addr} {rest rest' news : Led} {H : Hp} {s : Shared} {E : Value → Shared → Prop} {l : Loc}
theorem small_lt {a b : Int} (ha : 0 ≤ a) (hb : b < 2 ^ 60) (hab : a ≤ b) : Builtin.Range.small a b 1 = true := small_one (by omega) (by omega) (by omega) (by omega)
/-- for x in range(n) -/
theorem for_range1_ok (IH : Sound prog w K Γ ih n) (G : FG c) (hr : Room c.A n) {x : Str} {px pr po pos : Pos} {e : Expr} {body : List Stmt} {N : Nat} {P : Fl → Loc → Hp → Prop} {Q : Flow → Shared → Prop} (Jh : Nat → Hp → Prop)
    (hE : PassesOwn (model prog w) c.A c.env E) (hx : c.cs.names.lookup x = some .local) (hg : c.cs.names.lookup (Str.ofString "range") = some .globalImplicit) (hn : nsIn K mainGlobals (Str.ofString "range") = some none) (he : isStar e = false) (S : AtS prog w c m adr rest news H s) (hl : LocOk c.cl adr rest l m)
    (hi : ih.e c.cs e l H (fun v H1 => v = .d (.int (N : Int)) ∧ Jh 0 H1)) (hN : (N : Int) < 2 ^ 60)
    (turn : ∀ (i : Nat) H', i < N → Jh i H' → ih.s c.cs body ((x, .d (.int (i : Int))) :: l) H' (fun fl l' H'' => match fl with | .next => Jh (i + 1) H'' ∧ Keeps l l' | .ret u => P (.ret u) l' H''))
    (done : ∀ H', Jh N H' → P .next l H') (r : RetS prog w c adr rest s P Q) : wpAny (model prog w) c.A (exec (.For (.Name x px) (.Call (.Name (Str.ofString "range") pr) [e] [] po) body [] pos) c.env) Q E s := by
  refine with_toks S.tk ?_
  refine For_invVF S.F hx (by show (c.cs.kind == .class || (c.cs.kind == .module && _)) = false; rw [c.hk]; rfl) ?_ (fun Z => rfl) hE
  refine Call_ (nameX_B S.F c.X (topRead_of c.T) hn boot_range (by decide +kernel) ?_ c.hk hg (by decide +kernel))
  refine Pv.callWith_type1 (args_cons (IH.e G hr S (nmk G hl) hi fun v u adr1 rest1 news1 H1 h1 tk1 e1 e2 S1 hm hp => args_nil ?_) (starEach_cons he)) (starEach_cons he) rfl
  obtain ⟨rfl, hj⟩ := hp
  obtain ⟨_, rfl⟩ := dInv hm
  refine range1_rows S1.F S1.N fun h' tk t₁ u₁ v₁ hR F' N' Z => ?_
  refine for_range (s := { s with heap := h', toks := tk }) (n := N) (fun i => JH prog w c.cl l adr1 rest1 (Jh i)) c.hh hR (small_lt (Int.le_refl _) hN (Int.natCast_nonneg N)) (by have := rangeSize_nat 0 N; simpa using this) F' N' ⟨adr1, rest1, H1, List.prefix_rfl, Sub.rfl, S1.R, hl.mono e1 e2, hj⟩ ?_ ?_
  · intro i t m₁ nx h tk I oI hk hns hlt hne hJ F₁ N₁
    have ei : (0 : Int) + (i : Int) * 1 = (i : Int) := by omega
    rw [ei] at F₁
    exact turn_ok IH G hr hJ hns hne (fun q hq => Nat.ne_of_lt (hlt q (S1.R.rest_sub q hq))) F₁ N₁ (fun Z Z => mInt) (G.loc _ hx) (fun H' hj' => turn i H' hk hj') (r.then e1 e2)
  · rintro m' nx h tk ⟨adr2, rest2, H2, q1, q2, R2, L2, hj2⟩ F' N' ht
    exact r .next .next l m' adr2 rest2 nx H2 h tk (e1.trans q1) (e2.trans q2) ⟨F', N', R2, ht⟩ L2 mNext (done H2 hj2)
/-- the first statements by the evaluator, the rest as it may -/
theorem pre_ok {Pr : Pm} {D : Nat} (TO : T.Ok K) (PO : PmOk prog w K Γ Pr D) (G : FG c) : ∀ (k : Nat) {pre rest₀ : List Stmt} {l : Loc} {m : Str → Option Value} {adr : List Addr} {rest news : Led} {H : Hp} {s : Shared} {P : Fl → Loc → Hp → Prop} {Q : Flow → Shared → Prop}, Room c.A (k + D) →
    AtS prog w c m adr rest news H s → LocOk c.cl adr rest l m → (Ev.run K T Pr k).s c.cs pre l H P →
    RetS prog w c adr rest s P (fun f s' => match f with | .next => wpAny (model prog w) c.A (execs rest₀ c.env) Q E s' | f => Q f s') → wpAny (model prog w) c.A (execs (pre ++ rest₀) c.env) Q E s
  | 0, _, _, _, _, _, _, _, _, _, _, _, _, _, _, h, _ => h.elim
  | k + 1, [], rest₀, l, m, adr, rest, news, H, s, P, Q, hr, S, hl, h, r => r.now S hl mNext h
  | k + 1, st :: pre, rest₀, l, m, adr, rest, news, H, s, P, Q, hr, S, hl, h, r => by
    have h' : vSt T (Ev.run K T Pr k) c.cs st l H fun fl l1 H1 => (match fl with | .next => (Ev.run K T Pr k).s c.cs pre l1 H1 P | .ret v => P (.ret v) l1 H1) := h
    have hr' := hr.le (show k + D ≤ k + 1 + D by omega)
    refine wpAny_execs_cons (vSt_sound TO (run_sound TO PO k) G hr' S hl h' fun fl f l1 m1 adr1 rest1 news1 H1 h1 tk1 e1 e2 S1 hl1 hm h2 => ?_)
    induction fl with
    | next => cases hm; exact pre_ok TO PO G k hr' S1 hl1 h2 (r.then e1 e2)
    | ret v => obtain ⟨u, rfl, hm⟩ := hm; exact (r.then e1 e2).now S1 hl1 (mRet hm) h2
end
end Mine
end
section
open PySem PySem.W PyProof.Rows
namespace Mine
/-! shapes: small tests and what they say -/
noncomputable section
noncomputable def eC (e : Expr) (f0 : Str → Pos → Bool) (f1 : Expr → List Expr → List Keyword → Pos → Bool) (f2 : Expr → Str → Pos → Bool) (f3 : Const → Nat → Pos → Bool) (f4 : Expr → List CmpOp → List Expr → Pos → Bool) (f5 : Expr → Expr → Expr → Pos → Bool) (f6 : Expr → Expr → Pos → Bool) (f7 : Expr → List Comprehension → Scope → Pos → Bool) (f8 : List Expr → Nat → Pos → Bool) : Bool := match e with
  | .Name a b => f0 a b
  | .Call a b c d => f1 a b c d
  | .Attribute a b c => f2 a b c
  | .Constant a b c => f3 a b c
  | .Compare a b c d => f4 a b c d
  | .IfExp a b c d => f5 a b c d
  | .Subscript a b c => f6 a b c
  | .ListComp a b c d => f7 a b c d
  | .Tuple a b c => f8 a b c
  | _ => false
theorem eC.el {M : Expr → Prop} {e : Expr} {f0 : Str → Pos → Bool} {f1 : Expr → List Expr → List Keyword → Pos → Bool} {f2 : Expr → Str → Pos → Bool} {f3 : Const → Nat → Pos → Bool} {f4 : Expr → List CmpOp → List Expr → Pos → Bool} {f5 : Expr → Expr → Expr → Pos → Bool} {f6 : Expr → Expr → Pos → Bool} {f7 : Expr → List Comprehension → Scope → Pos → Bool} {f8 : List Expr → Nat → Pos → Bool} (h : eC e f0 f1 f2 f3 f4 f5 f6 f7 f8 = true)
    (c0 : ∀ a b, f0 a b = true → M (.Name a b)) (c1 : ∀ a b c d, f1 a b c d = true → M (.Call a b c d)) (c2 : ∀ a b c, f2 a b c = true → M (.Attribute a b c)) (c3 : ∀ a b c, f3 a b c = true → M (.Constant a b c)) (c4 : ∀ a b c d, f4 a b c d = true → M (.Compare a b c d)) (c5 : ∀ a b c d, f5 a b c d = true → M (.IfExp a b c d)) (c6 : ∀ a b c, f6 a b c = true → M (.Subscript a b c)) (c7 : ∀ a b c d, f7 a b c d = true → M (.ListComp a b c d)) (c8 : ∀ a b c, f8 a b c = true → M (.Tuple a b c)) : M e := by
  cases e <;> first | exact (Bool.false_ne_true h).elim | exact c0 _ _ h | exact c1 _ _ _ _ h | exact c2 _ _ _ h | exact c3 _ _ _ h | exact c4 _ _ _ _ h | exact c5 _ _ _ _ h | exact c6 _ _ _ h | exact c7 _ _ _ _ h | exact c8 _ _ _ h
noncomputable def sC (e : Stmt) (f0 : Option Expr → Pos → Bool) (f1 : List Expr → Expr → Pos → Bool) (f2 : Expr → Expr → List Stmt → List Stmt → Pos → Bool) (f3 : Expr → List Stmt → List Stmt → Pos → Bool) (f4 : Expr → List Stmt → List Stmt → Pos → Bool) : Bool := match e with
  | .Return a b => f0 a b
  | .Assign a b c => f1 a b c
  | .For a b c d e => f2 a b c d e
  | .While a b c d => f3 a b c d
  | .If a b c d => f4 a b c d
  | _ => false
theorem sC.el {M : Stmt → Prop} {e : Stmt} {f0 : Option Expr → Pos → Bool} {f1 : List Expr → Expr → Pos → Bool} {f2 : Expr → Expr → List Stmt → List Stmt → Pos → Bool} {f3 : Expr → List Stmt → List Stmt → Pos → Bool} {f4 : Expr → List Stmt → List Stmt → Pos → Bool} (h : sC e f0 f1 f2 f3 f4 = true)
    (c0 : ∀ a b, f0 a b = true → M (.Return a b)) (c1 : ∀ a b c, f1 a b c = true → M (.Assign a b c)) (c2 : ∀ a b c d e, f2 a b c d e = true → M (.For a b c d e)) (c3 : ∀ a b c d, f3 a b c d = true → M (.While a b c d)) (c4 : ∀ a b c d, f4 a b c d = true → M (.If a b c d)) : M e := by
  cases e <;> first | exact (Bool.false_ne_true h).elim | exact c0 _ _ h | exact c1 _ _ _ h | exact c2 _ _ _ _ _ h | exact c3 _ _ _ _ h | exact c4 _ _ _ _ h
noncomputable def pName (q : Str → Bool) (e : Expr) : Bool := eC e (fun n Z => q n) (fun Z Z Z Z => false) (fun Z Z Z => false) (fun Z Z Z => false) (fun Z Z Z Z => false) (fun Z Z Z Z => false) (fun Z Z Z => false) (fun Z Z Z Z => false) (fun Z Z Z => false)
theorem pName.inv {q : Str → Bool} {e : Expr} (h : pName q e = true) : ∃ n p, e = .Name n p ∧ q n = true :=
  eC.el (M := fun e => ∃ n p, e = .Name n p ∧ q n = true) h (fun n p h => ⟨n, p, rfl, h⟩) (fun Z Z Z Z h => (Bool.false_ne_true h).elim) (fun Z Z Z h => (Bool.false_ne_true h).elim) (fun Z Z Z h => (Bool.false_ne_true h).elim) (fun Z Z Z Z h => (Bool.false_ne_true h).elim) (fun Z Z Z Z h => (Bool.false_ne_true h).elim) (fun Z Z Z h => (Bool.false_ne_true h).elim) (fun Z Z Z Z h => (Bool.false_ne_true h).elim) (fun Z Z Z h => (Bool.false_ne_true h).elim)
noncomputable def pNm (s : Str) : Expr → Bool := pName fun n => decide (n = s)
theorem pNm.inv {s : Str} {e : Expr} (h : pNm s e = true) : ∃ p, e = .Name s p := by
  obtain ⟨n, p, rfl, h⟩ := pName.inv h
  exact ⟨p, congrArg (fun n => Expr.Name n p) (of_decide_eq_true h)⟩
noncomputable def l0 {α : Type} : List α → Bool
  | [] => true
  | _ => false
theorem l0.inv {α : Type} {l : List α} (h : l0 l = true) : l = [] := by
  induction l with
  | nil => rfl
  | cons _ _ => exact (Bool.false_ne_true h).elim
noncomputable def lc {α : Type} (f : α → Bool) (g : List α → Bool) : List α → Bool
  | a :: l => f a && g l
  | _ => false
theorem lc.inv {α : Type} {f : α → Bool} {g : List α → Bool} {l : List α} (h : lc f g l = true) : ∃ a t, l = a :: t ∧ f a = true ∧ g t = true := by
  induction l with
  | nil => exact (Bool.false_ne_true h).elim
  | cons a t => exact ⟨a, t, rfl, Bool.and_eq_true_iff.mp h⟩
noncomputable def l1 {α : Type} (f : α → Bool) : List α → Bool := lc f l0
theorem l1.inv {α : Type} {f : α → Bool} {l : List α} (h : l1 f l = true) : ∃ a, l = [a] ∧ f a = true := by
  obtain ⟨a, t, rfl, h1, h2⟩ := lc.inv h
  exact ⟨a, congrArg (a :: ·) (l0.inv h2), h1⟩
theorem and3 {a b c : Bool} (h : (a && (b && c)) = true) : a = true ∧ b = true ∧ c = true := ⟨(Bool.and_eq_true_iff.mp h).1, Bool.and_eq_true_iff.mp (Bool.and_eq_true_iff.mp h).2⟩
noncomputable def pCall (f : Expr → Bool) (g : List Expr → Bool) (e : Expr) : Bool := eC e (fun Z Z => false) (fun e as ks Z => f e && (g as && l0 ks)) (fun Z Z Z => false) (fun Z Z Z => false) (fun Z Z Z Z => false) (fun Z Z Z Z => false) (fun Z Z Z => false) (fun Z Z Z Z => false) (fun Z Z Z => false)
theorem pCall.inv {f : Expr → Bool} {g : List Expr → Bool} {e : Expr} (h : pCall f g e = true) : ∃ a as p, e = .Call a as [] p ∧ f a = true ∧ g as = true :=
  eC.el (M := fun e => ∃ a as p, e = .Call a as [] p ∧ f a = true ∧ g as = true) h (fun Z Z h => (Bool.false_ne_true h).elim) (fun a as ks p h => ⟨a, as, p, congrArg (fun ks => Expr.Call a as ks p) (l0.inv (and3 h).2.2), (and3 h).1, (and3 h).2.1⟩) (fun Z Z Z h => (Bool.false_ne_true h).elim) (fun Z Z Z h => (Bool.false_ne_true h).elim) (fun Z Z Z Z h => (Bool.false_ne_true h).elim) (fun Z Z Z Z h => (Bool.false_ne_true h).elim) (fun Z Z Z h => (Bool.false_ne_true h).elim) (fun Z Z Z Z h => (Bool.false_ne_true h).elim) (fun Z Z Z h => (Bool.false_ne_true h).elim)
noncomputable def pAttr (o : Expr → Bool) (nm : Str) (ln : Nat) (e : Expr) : Bool := eC e (fun Z Z => false) (fun Z Z Z Z => false) (fun v n p => o v && ((n == nm) && (p.endLine == ln))) (fun Z Z Z => false) (fun Z Z Z Z => false) (fun Z Z Z Z => false) (fun Z Z Z => false) (fun Z Z Z Z => false) (fun Z Z Z => false)
theorem pAttr.inv {o : Expr → Bool} {nm : Str} {ln : Nat} {e : Expr} (h : pAttr o nm ln e = true) : ∃ v n p, e = .Attribute v n p ∧ o v = true ∧ (n == nm) = true ∧ (p.endLine == ln) = true :=
  eC.el (M := fun e => ∃ v n p, e = .Attribute v n p ∧ o v = true ∧ (n == nm) = true ∧ (p.endLine == ln) = true) h (fun Z Z h => (Bool.false_ne_true h).elim) (fun Z Z Z Z h => (Bool.false_ne_true h).elim) (fun v n p h => ⟨v, n, p, rfl, and3 h⟩) (fun Z Z Z h => (Bool.false_ne_true h).elim) (fun Z Z Z Z h => (Bool.false_ne_true h).elim) (fun Z Z Z Z h => (Bool.false_ne_true h).elim) (fun Z Z Z h => (Bool.false_ne_true h).elim) (fun Z Z Z Z h => (Bool.false_ne_true h).elim) (fun Z Z Z h => (Bool.false_ne_true h).elim)
noncomputable def pMeth (o : Expr → Bool) (nm : Str) (g : List Expr → Bool) (e : Expr) : Bool := eC e (fun Z Z => false) (fun e as ks p => pAttr o nm p.line e && (g as && l0 ks)) (fun Z Z Z => false) (fun Z Z Z => false) (fun Z Z Z Z => false) (fun Z Z Z Z => false) (fun Z Z Z => false) (fun Z Z Z Z => false) (fun Z Z Z => false)
theorem pMeth.inv {o : Expr → Bool} {nm : Str} {g : List Expr → Bool} {e : Expr} (h : pMeth o nm g e = true) : ∃ v n q as p, e = .Call (.Attribute v n q) as [] p ∧ (n == nm) = true ∧ (q.endLine == p.line) = true ∧ o v = true ∧ g as = true :=
  eC.el (M := fun e => ∃ v n q as p, e = .Call (.Attribute v n q) as [] p ∧ (n == nm) = true ∧ (q.endLine == p.line) = true ∧ o v = true ∧ g as = true) h (fun Z Z h => (Bool.false_ne_true h).elim) (fun a as ks p h => by
    obtain ⟨h1, h2, h3⟩ := and3 h
    obtain ⟨v, n, q, rfl, a1, a2, a3⟩ := pAttr.inv h1
    exact ⟨v, n, q, as, p, congrArg (fun ks => Expr.Call _ as ks p) (l0.inv h3), a2, a3, a1, h2⟩) (fun Z Z Z h => (Bool.false_ne_true h).elim) (fun Z Z Z h => (Bool.false_ne_true h).elim) (fun Z Z Z Z h => (Bool.false_ne_true h).elim) (fun Z Z Z Z h => (Bool.false_ne_true h).elim) (fun Z Z Z h => (Bool.false_ne_true h).elim) (fun Z Z Z Z h => (Bool.false_ne_true h).elim) (fun Z Z Z h => (Bool.false_ne_true h).elim)
noncomputable def cStr (y : Str) : Const → Bool
  | .str z => z == y
  | _ => false
theorem cStr.inv {y : Str} {c : Const} (h : cStr y c = true) : c = .str y := by
  cases c <;> first | exact (Bool.false_ne_true h).elim | exact congrArg Const.str (beq_iff_eq.mp h)
noncomputable def cInt : Const → Bool
  | .int _ => true
  | _ => false
theorem cInt.inv {c : Const} (h : cInt c = true) : ∃ n, c = .int n := by
  cases c <;> first | exact (Bool.false_ne_true h).elim | exact ⟨_, rfl⟩
noncomputable def pCon (f : Const → Bool) (e : Expr) : Bool := eC e (fun Z Z => false) (fun Z Z Z Z => false) (fun Z Z Z => false) (fun c Z Z => f c) (fun Z Z Z Z => false) (fun Z Z Z Z => false) (fun Z Z Z => false) (fun Z Z Z Z => false) (fun Z Z Z => false)
theorem pCon.inv {f : Const → Bool} {e : Expr} (h : pCon f e = true) : ∃ c k p, e = .Constant c k p ∧ f c = true :=
  eC.el (M := fun e => ∃ c k p, e = .Constant c k p ∧ f c = true) h (fun Z Z h => (Bool.false_ne_true h).elim) (fun Z Z Z Z h => (Bool.false_ne_true h).elim) (fun Z Z Z h => (Bool.false_ne_true h).elim) (fun c k p h => ⟨c, k, p, rfl, h⟩) (fun Z Z Z Z h => (Bool.false_ne_true h).elim) (fun Z Z Z Z h => (Bool.false_ne_true h).elim) (fun Z Z Z h => (Bool.false_ne_true h).elim) (fun Z Z Z Z h => (Bool.false_ne_true h).elim) (fun Z Z Z h => (Bool.false_ne_true h).elim)
noncomputable def pCmp (f : Expr → Bool) (o : CmpOp) (g : Expr → Bool) (e : Expr) : Bool := eC e (fun Z Z => false) (fun Z Z Z Z => false) (fun Z Z Z => false) (fun Z Z Z => false) (fun e os es Z => f e && (l1 (fun x => decide (x = o)) os && l1 g es)) (fun Z Z Z Z => false) (fun Z Z Z => false) (fun Z Z Z Z => false) (fun Z Z Z => false)
theorem pCmp.inv {f : Expr → Bool} {o : CmpOp} {g : Expr → Bool} {e : Expr} (h : pCmp f o g e = true) : ∃ a b p, e = .Compare a [o] [b] p ∧ f a = true ∧ g b = true :=
  eC.el (M := fun e => ∃ a b p, e = .Compare a [o] [b] p ∧ f a = true ∧ g b = true) h (fun Z Z h => (Bool.false_ne_true h).elim) (fun Z Z Z Z h => (Bool.false_ne_true h).elim) (fun Z Z Z h => (Bool.false_ne_true h).elim) (fun Z Z Z h => (Bool.false_ne_true h).elim) (fun a os es p h => by
    obtain ⟨h1, h2, h3⟩ := and3 h
    obtain ⟨x, rfl, h5⟩ := l1.inv h2
    obtain ⟨y, rfl, h6⟩ := l1.inv h3
    exact ⟨a, y, p, congrArg (fun x => Expr.Compare a [x] [y] p) (of_decide_eq_true h5), h1, h6⟩) (fun Z Z Z Z h => (Bool.false_ne_true h).elim) (fun Z Z Z h => (Bool.false_ne_true h).elim) (fun Z Z Z Z h => (Bool.false_ne_true h).elim) (fun Z Z Z h => (Bool.false_ne_true h).elim)
noncomputable def pIfE (f g k : Expr → Bool) (e : Expr) : Bool := eC e (fun Z Z => false) (fun Z Z Z Z => false) (fun Z Z Z => false) (fun Z Z Z => false) (fun Z Z Z Z => false) (fun a b c Z => f a && (g b && k c)) (fun Z Z Z => false) (fun Z Z Z Z => false) (fun Z Z Z => false)
theorem pIfE.inv {f g k : Expr → Bool} {e : Expr} (h : pIfE f g k e = true) : ∃ a b c p, e = .IfExp a b c p ∧ f a = true ∧ g b = true ∧ k c = true :=
  eC.el (M := fun e => ∃ a b c p, e = .IfExp a b c p ∧ f a = true ∧ g b = true ∧ k c = true) h (fun Z Z h => (Bool.false_ne_true h).elim) (fun Z Z Z Z h => (Bool.false_ne_true h).elim) (fun Z Z Z h => (Bool.false_ne_true h).elim) (fun Z Z Z h => (Bool.false_ne_true h).elim) (fun Z Z Z Z h => (Bool.false_ne_true h).elim) (fun a b c p h => ⟨a, b, c, p, rfl, and3 h⟩) (fun Z Z Z h => (Bool.false_ne_true h).elim) (fun Z Z Z Z h => (Bool.false_ne_true h).elim) (fun Z Z Z h => (Bool.false_ne_true h).elim)
noncomputable def pSub (f g : Expr → Bool) (e : Expr) : Bool := eC e (fun Z Z => false) (fun Z Z Z Z => false) (fun Z Z Z => false) (fun Z Z Z => false) (fun Z Z Z Z => false) (fun Z Z Z Z => false) (fun a b Z => f a && g b) (fun Z Z Z Z => false) (fun Z Z Z => false)
theorem pSub.inv {f g : Expr → Bool} {e : Expr} (h : pSub f g e = true) : ∃ a b p, e = .Subscript a b p ∧ f a = true ∧ g b = true :=
  eC.el (M := fun e => ∃ a b p, e = .Subscript a b p ∧ f a = true ∧ g b = true) h (fun Z Z h => (Bool.false_ne_true h).elim) (fun Z Z Z Z h => (Bool.false_ne_true h).elim) (fun Z Z Z h => (Bool.false_ne_true h).elim) (fun Z Z Z h => (Bool.false_ne_true h).elim) (fun Z Z Z Z h => (Bool.false_ne_true h).elim) (fun Z Z Z Z h => (Bool.false_ne_true h).elim) (fun a b p h => ⟨a, b, p, rfl, Bool.and_eq_true_iff.mp h⟩) (fun Z Z Z Z h => (Bool.false_ne_true h).elim) (fun Z Z Z h => (Bool.false_ne_true h).elim)
noncomputable def oS {α : Type} (f : α → Bool) : Option α → Bool
  | some a => f a
  | _ => false
theorem oS.inv {α : Type} {f : α → Bool} {o : Option α} (h : oS f o = true) : ∃ a, o = some a ∧ f a = true := by
  induction o with
  | none => exact (Bool.false_ne_true h).elim
  | some a => exact ⟨a, rfl, h⟩
noncomputable def sRet (f : Expr → Bool) (e : Stmt) : Bool := sC e (fun o Z => oS f o) (fun Z Z Z => false) (fun Z Z Z Z Z => false) (fun Z Z Z Z => false) (fun Z Z Z Z => false)
theorem sRet.inv {f : Expr → Bool} {e : Stmt} (h : sRet f e = true) : ∃ x p, e = .Return (some x) p ∧ f x = true :=
  sC.el (M := fun e => ∃ x p, e = .Return (some x) p ∧ f x = true) h (fun o p h => by
    obtain ⟨a, rfl, h1⟩ := oS.inv h
    exact ⟨a, p, rfl, h1⟩) (fun Z Z Z h => (Bool.false_ne_true h).elim) (fun Z Z Z Z Z h => (Bool.false_ne_true h).elim) (fun Z Z Z Z h => (Bool.false_ne_true h).elim) (fun Z Z Z Z h => (Bool.false_ne_true h).elim)
noncomputable def sFor (f : Expr → Bool) (e : Stmt) : Bool := sC e (fun Z Z => false) (fun Z Z Z => false) (fun t i Z o Z => pName (fun Z => true) t && (f i && l0 o)) (fun Z Z Z Z => false) (fun Z Z Z Z => false)
theorem sFor.inv {f : Expr → Bool} {e : Stmt} (h : sFor f e = true) : ∃ x q i b p, e = .For (.Name x q) i b [] p ∧ f i = true :=
  sC.el (M := fun e => ∃ x q i b p, e = .For (.Name x q) i b [] p ∧ f i = true) h (fun Z Z h => (Bool.false_ne_true h).elim) (fun Z Z Z h => (Bool.false_ne_true h).elim) (fun t i b o p h => by
    obtain ⟨h1, h2, h3⟩ := and3 h
    obtain ⟨x, q, rfl, _⟩ := pName.inv h1
    exact ⟨x, q, i, b, p, congrArg (fun o => Stmt.For _ i b o p) (l0.inv h3), h2⟩) (fun Z Z Z Z h => (Bool.false_ne_true h).elim) (fun Z Z Z Z h => (Bool.false_ne_true h).elim)
noncomputable def sAs (y : Str → Bool) (f : Expr → Bool) (e : Stmt) : Bool := sC e (fun Z Z => false) (fun ts e Z => l1 (pName y) ts && f e) (fun Z Z Z Z Z => false) (fun Z Z Z Z => false) (fun Z Z Z Z => false)
theorem sAs.inv {y : Str → Bool} {f : Expr → Bool} {e : Stmt} (h : sAs y f e = true) : ∃ x q v p, e = .Assign [.Name x q] v p ∧ y x = true ∧ f v = true :=
  sC.el (M := fun e => ∃ x q v p, e = .Assign [.Name x q] v p ∧ y x = true ∧ f v = true) h (fun Z Z h => (Bool.false_ne_true h).elim) (fun ts v p h => by
    obtain ⟨h1, h2⟩ := Bool.and_eq_true_iff.mp h
    obtain ⟨a, rfl, h3⟩ := l1.inv h1
    obtain ⟨x, q, rfl, h4⟩ := pName.inv (q := y) h3
    exact ⟨x, q, v, p, rfl, h4, h2⟩) (fun Z Z Z Z Z h => (Bool.false_ne_true h).elim) (fun Z Z Z Z h => (Bool.false_ne_true h).elim) (fun Z Z Z Z h => (Bool.false_ne_true h).elim)
noncomputable def sIf (f : Expr → Bool) (g : List Stmt → Bool) (e : Stmt) : Bool := sC e (fun Z Z => false) (fun Z Z Z => false) (fun Z Z Z Z Z => false) (fun Z Z Z Z => false) (fun t b o Z => f t && (g b && l0 o))
theorem sIf.inv {f : Expr → Bool} {g : List Stmt → Bool} {e : Stmt} (h : sIf f g e = true) : ∃ t b p, e = .If t b [] p ∧ f t = true ∧ g b = true :=
  sC.el (M := fun e => ∃ t b p, e = .If t b [] p ∧ f t = true ∧ g b = true) h (fun Z Z h => (Bool.false_ne_true h).elim) (fun Z Z Z h => (Bool.false_ne_true h).elim) (fun Z Z Z Z Z h => (Bool.false_ne_true h).elim) (fun Z Z Z Z h => (Bool.false_ne_true h).elim) (fun t b o p h => ⟨t, b, p, congrArg (fun o => Stmt.If t b o p) (l0.inv (and3 h).2.2), (and3 h).1, (and3 h).2.1⟩)
noncomputable def sWh  (e : Stmt) : Bool := sC e (fun Z Z => false) (fun Z Z Z => false) (fun Z Z Z Z Z => false) (fun Z Z o Z => l0 o) (fun Z Z Z Z => false)
theorem sWh.inv {e : Stmt} (h : sWh e = true) : ∃ t b p, e = .While t b [] p :=
  sC.el (M := fun e => ∃ t b p, e = .While t b [] p) h (fun Z Z h => (Bool.false_ne_true h).elim) (fun Z Z Z h => (Bool.false_ne_true h).elim) (fun Z Z Z Z Z h => (Bool.false_ne_true h).elim) (fun t b o p h => ⟨t, b, p, congrArg (fun o => Stmt.While t b o p) (l0.inv h)⟩) (fun Z Z Z Z h => (Bool.false_ne_true h).elim)
noncomputable def pLC (f : Expr → Comprehension → Scope → Pos → Bool) (e : Expr) : Bool := eC e (fun Z Z => false) (fun Z Z Z Z => false) (fun Z Z Z => false) (fun Z Z Z => false) (fun Z Z Z Z => false) (fun Z Z Z Z => false) (fun Z Z Z => false) (fun a gs sc p => l1 (fun g => f a g sc p) gs) (fun Z Z Z => false)
theorem pLC.inv {f : Expr → Comprehension → Scope → Pos → Bool} {e : Expr} (h : pLC f e = true) : ∃ a g sc p, e = .ListComp a [g] sc p ∧ f a g sc p = true :=
  eC.el (M := fun e => ∃ a g sc p, e = .ListComp a [g] sc p ∧ f a g sc p = true) h (fun Z Z h => (Bool.false_ne_true h).elim) (fun Z Z Z Z h => (Bool.false_ne_true h).elim) (fun Z Z Z h => (Bool.false_ne_true h).elim) (fun Z Z Z h => (Bool.false_ne_true h).elim) (fun Z Z Z Z h => (Bool.false_ne_true h).elim) (fun Z Z Z Z h => (Bool.false_ne_true h).elim) (fun Z Z Z h => (Bool.false_ne_true h).elim) (fun a gs sc p h => by
    obtain ⟨g, rfl, h1⟩ := l1.inv h
    exact ⟨a, g, sc, p, rfl, h1⟩) (fun Z Z Z h => (Bool.false_ne_true h).elim)
noncomputable def pTup (f : List Expr → Bool) (e : Expr) : Bool := eC e (fun Z Z => false) (fun Z Z Z Z => false) (fun Z Z Z => false) (fun Z Z Z => false) (fun Z Z Z Z => false) (fun Z Z Z Z => false) (fun Z Z Z => false) (fun Z Z Z Z => false) (fun es Z Z => f es)
theorem pTup.inv {f : List Expr → Bool} {e : Expr} (h : pTup f e = true) : ∃ es k p, e = .Tuple es k p ∧ f es = true :=
  eC.el (M := fun e => ∃ es k p, e = .Tuple es k p ∧ f es = true) h (fun Z Z h => (Bool.false_ne_true h).elim) (fun Z Z Z Z h => (Bool.false_ne_true h).elim) (fun Z Z Z h => (Bool.false_ne_true h).elim) (fun Z Z Z h => (Bool.false_ne_true h).elim) (fun Z Z Z Z h => (Bool.false_ne_true h).elim) (fun Z Z Z Z h => (Bool.false_ne_true h).elim) (fun Z Z Z h => (Bool.false_ne_true h).elim) (fun Z Z Z Z h => (Bool.false_ne_true h).elim) (fun es k p h => ⟨es, k, p, rfl, h⟩)
end
end Mine
end
section
open PySem PySem.W PyProof.Rows PySem.Spec PySem.Calls
set_option maxRecDepth 100000
namespace Mine
/-! statements by their parts -/
noncomputable def nth (l : List Stmt) (n : Nat) : Stmt := match l.drop n with | st :: _ => st | [] => .Pass ⟨0, 0, 0, 0⟩
noncomputable def lpB : Stmt → List Stmt
  | .For _ _ b _ _ => b
  | .While _ b _ _ => b
  | _ => []
noncomputable def lpX : Stmt → Str
  | .For (.Name x _) _ _ _ _ => x
  | _ => Str.ofString ""
noncomputable def lpI : Stmt → Expr
  | .For _ i _ _ _ => i
  | .While t _ _ _ => t
  | _ => .Constant .none 0 ⟨0, 0, 0, 0⟩
noncomputable def rgA (n : Nat) : Stmt → Expr
  | .For _ (.Call _ as _ _) _ _ _ => (match as.drop n with | e :: _ => e | [] => .Constant .none 0 ⟨0, 0, 0, 0⟩)
  | _ => .Constant .none 0 ⟨0, 0, 0, 0⟩
noncomputable def nSt (e : Expr) : Bool := !isStar e
theorem nSt.is {e : Expr} (h : nSt e = true) : isStar e = false := (Bool.not_eq_true' (isStar e)).mp h
noncomputable def rgS : Expr → Bool := pNm (Str.ofString "range")
noncomputable def r1Ok : Stmt → Bool := sFor (pCall rgS (l1 nSt))
theorem r1Ok.inv {st : Stmt} (h : r1Ok st = true) : ∃ x q r e p1 b p, st = .For (.Name x q) (.Call (.Name (Str.ofString "range") r) [e] [] p1) b [] p ∧ isStar e = false := by
  obtain ⟨x, q, i, b, p, rfl, h1⟩ := sFor.inv h
  obtain ⟨f, as, p1, rfl, h2, h3⟩ := pCall.inv h1
  obtain ⟨r, rfl⟩ := pNm.inv h2
  obtain ⟨e, rfl, h4⟩ := l1.inv h3
  exact ⟨x, q, r, e, p1, b, p, rfl, nSt.is h4⟩
noncomputable def itOk : Stmt → Bool := sFor (pName fun Z => true)
noncomputable def whOk : Stmt → Bool := sWh
theorem keeps_pre {l : Mine.Loc} : ∀ {pre : Mine.Loc}, (pre.all fun p => (l.lookup p.1).isNone) = true → Keeps l (pre ++ l)
  | [], _ => fun Z Z e => e
  | (a, b) :: pre, h => fun y v e => by
    have h' := Bool.and_eq_true_iff.mp (show ((l.lookup a).isNone && pre.all fun p => (l.lookup p.1).isNone) = true from h)
    rw [List.cons_append, List.lookup_cons]
    cases q : y == a with
    | true =>
      rw [beq_iff_eq.mp q] at e
      rw [e] at h'; cases h'.1
    | false => exact keeps_pre h'.2 y v e
section
variable {prog : Program} {w : World} {K : Frag} {Γ : GE}
variable {c : FC K Γ} {T : Tabs} {ih : Ev} {n : Nat} {A : Around} {m : Str → Option Value} {adr adr' : List Addr} {rest rest' news : Led} {H : Hp} {s : Shared} {E : Value → Shared → Prop} {l : Loc}
theorem for_r1 (IH : Sound prog w K Γ ih n) (G : FG c) (hr : Room c.A n) {st : Stmt} (ho : r1Ok st = true) {N : Nat} {P : Fl → Loc → Hp → Prop} {Q : Flow → Shared → Prop} (Jh : Nat → Hp → Prop)
    (hE : PassesOwn (model prog w) c.A c.env E) (hx : c.cs.names.lookup (lpX st) = some .local) (hg : c.cs.names.lookup (Str.ofString "range") = some .globalImplicit) (hn : nsIn K mainGlobals (Str.ofString "range") = some none) (S : AtS prog w c m adr rest news H s) (hl : LocOk c.cl adr rest l m)
    (hi : ih.e c.cs (rgA 0 st) l H (fun v H1 => v = .d (.int (N : Int)) ∧ Jh 0 H1)) (hN : (N : Int) < 2 ^ 60)
    (turn : ∀ (i : Nat) H', i < N → Jh i H' → ih.s c.cs (lpB st) ((lpX st, .d (.int (i : Int))) :: l) H' (fun fl l' H'' => match fl with | .next => Jh (i + 1) H'' ∧ Keeps l l' | .ret u => P (.ret u) l' H''))
    (done : ∀ H', Jh N H' → P .next l H') (r : RetS prog w c adr rest s P Q) : wpAny (model prog w) c.A (exec st c.env) Q E s := by
  obtain ⟨x, q, r1, e, p1, b, p2, rfl, h2⟩ := r1Ok.inv ho
  exact for_range1_ok IH G hr Jh hE hx hg hn h2 S hl hi hN turn done r
theorem for_s (IH : Sound prog w K Γ ih n) (G : FG c) (hr : Room c.A n) {st : Stmt} (ho : itOk st = true) {text : Str} {P : Fl → Loc → Hp → Prop} {Q : Flow → Shared → Prop} (Jh : Nat → Hp → Prop)
    (hE : PassesOwn (model prog w) c.A c.env E) (hx : c.cs.names.lookup (lpX st) = some .local) (S : AtS prog w c m adr rest news H s) (hl : LocOk c.cl adr rest l m)
    (hi : ih.e c.cs (lpI st) l H (fun v H1 => v = .d (.str text) ∧ Jh 0 H1))
    (turn : ∀ i k H', text.cps[i]? = some k → Jh i H' → ih.s c.cs (lpB st) ((lpX st, .d (.str (one k))) :: l) H' (fun fl l' H'' => match fl with | .next => Jh (i + 1) H'' ∧ Keeps l l' | .ret u => P (.ret u) l' H''))
    (done : ∀ H', Jh text.cps.size H' → P .next l H') (r : RetS prog w c adr rest s P Q) : wpAny (model prog w) c.A (exec st c.env) Q E s := by
  obtain ⟨x, q, i, b, p1, rfl, h1⟩ := sFor.inv ho
  obtain ⟨y, q1, rfl, _⟩ := pName.inv h1
  exact for_str_ok IH G hr Jh hE hx (fun Z => rfl) S hl hi turn done r
/-- a def's body: some statements, a loop, the rest -/
theorem def_loop {Pr : Pm} {D k : Nat} {f : Addr} {names : List Str} {dfl : List LV} {lvs full : List LV} {vs : List Value} {P : KV} {R : Result → Shared → Prop} (j : Nat) (TO : T.Ok K) (PO : PmOk prog w K Γ Pr D) (FO : FnOk K f names dfl) (G : FG c) (hr : Room c.A (k + D + 1))
    (S : AtS prog w c m adr rest news H s) (hm : MtL adr rest lvs vs) (hf : fullL names dfl lvs = some full) (r : Ret prog w Mt c m adr rest s P (fun v s' => R (.ok (.ret v)) s'))
    (hb : bodyOf K f = (bodyOf K f).take j ++ (nth (bodyOf K f) j :: (bodyOf K f).drop (j + 1))) {l1 : Loc} {H1 : Hp} {PL : Loc → Hp → Prop}
    (h1 : (Ev.run K T Pr k).s (scopeOf K f) ((bodyOf K f).take j) (names.zip full).reverse H (fun fl l' H' => fl = .next ∧ PL l' H'))
    (loop : ∀ (c' : FC K Γ) m' adr' rest' news' H' s' E' Q' l', PL l' H' → c'.cs = scopeOf K f → PassesOwn (model prog w) c'.A c'.env E' → FG c' → Room c'.A (k + D) → AtS prog w c' m' adr' rest' news' H' s' → LocOk c'.cl adr' rest' l' m' →
      RetS prog w c' adr' rest' s' (fun fl l2 H2 => match fl with | .next => (Ev.run K T Pr k).s (scopeOf K f) ((bodyOf K f).drop (j + 1)) l2 H2 (fun fl Z H1 => match fl with | .next => P (.d .none) H1 | .ret v => P v H1) | .ret v => P v H2) Q' →
      wpAny (model prog w) c'.A (exec (nth (bodyOf K f) j) c'.env) Q' E' s') : codeAny (model prog w) c.A (.call (.ref f) ⟨vs, []⟩) R s := by
  refine enter FO G hr S hm hf r fun c' m' s' E' Q' ec hE Z G' hr' S' hl' r' => ?_
  rw [hb]
  rw [← ec] at h1
  refine pre_ok TO PO G' k hr' S' hl' h1 fun fl f' l2 m2 adr2 rest2 news2 H2 h2 tk2 e1 e2 S2 L2 hmf hp => ?_
  obtain ⟨rfl, hp⟩ := hp
  cases hmf
  refine wpAny_execs_cons (loop c' m2 adr2 rest2 news2 H2 _ E' _ l2 hp ec hE G' hr' S2 L2 ?_)
  intro fl f' l3 m3 adr3 rest3 news3 H3 h3 tk3 e3 e4 S3 L3 hmf hp
  induction fl with
  | next =>
    cases hmf
    dsimp only at hp
    rw [← ec] at hp
    exact (run_sound TO PO k).s G' hr' S3 L3 hp ((r'.then e1 e2).then e3 e4)
  | ret v =>
    obtain ⟨u, rfl, hu⟩ := hmf
    exact ((r'.then e1 e2).then e3 e4).now S3 L3 (mRet hu) hp
end
end Mine
end
section
open PySem PySem.W PyProof.Rows PySem.Spec PySem.Calls
set_option maxRecDepth 100000
namespace Mine
/-! the heap's tail laid to rest -/
noncomputable def LV.small (n : Nat) : LV → Bool
  | .obj i => Nat.blt i n
  | _ => true
noncomputable def AO.small (n : Nat) : AO → Bool
  | .inst _ fs => fs.all fun f => f.2.small n
  | .cell (some v) => v.small n
  | .tup xs => xs.all (LV.small n)
  | _ => true
section
variable {prog : Program} {w : World} {adr : List Addr} {rest : Led}
theorem Mt.cut {n : Nat} {x : LV} {v : Value} (h : Mt adr rest x v) (hs : x.small n = true) : Mt (adr.take n) rest x v := by
  induction x with
  | d x => exact h
  | obj i =>
    obtain ⟨a, e, r⟩ := h
    exact ⟨a, by rw [List.getElem?_take_of_lt (Nat.le_of_ble_eq_true hs)]; exact e, r⟩
  | top a => exact h
  | bi id => exact h
theorem all2_cut {n : Nat} : ∀ {xs : List LV} {vs : List Value}, MtL adr rest xs vs → xs.all (LV.small n) = true → MtL (adr.take n) rest xs vs
  | _, _, .nil, _ => .nil
  | _, _, .cons h r, hs => by
    obtain ⟨h1, h2⟩ := Bool.and_eq_true_iff.mp hs
    exact .cons (h.cut h1) (all2_cut r h2)
theorem ents_cut {n : Nat} : ∀ {fs : List (Str × LV)} {es : List DictEntry}, Ents w adr rest fs es → (fs.all fun f => f.2.small n) = true → Ents w (adr.take n) rest fs es
  | _, _, .nil, _ => .nil
  | _, _, .cons h r, hs => by
    obtain ⟨h1, h2⟩ := Bool.and_eq_true_iff.mp hs
    exact .cons ⟨h.1, h.2.1, h.2.2.cut h1⟩ (ents_cut r h2)
theorem CO.cut {n : Nat} {a : Addr} {o : AO} {l : Led} (h : CO prog w adr rest a o l) (hs : o.small n = true) : CO prog w (adr.take n) rest a o l := by
  induction o with
  | inst C fs => obtain ⟨dx, es, k, e, q⟩ := h; exact ⟨dx, es, k, e, ents_cut q hs⟩
  | chars cs => exact h
  | list ds => exact h
  | tab ts => exact h
  | cell v =>
    induction v with
    | none => exact h
    | some v => obtain ⟨o, u, e, q, z⟩ := h; exact ⟨o, u, e, q, z.cut hs⟩
  | tup xs => obtain ⟨vs, e, q⟩ := h; exact ⟨vs, e, all2_cut q hs⟩
theorem Own.cut {n : Nat} : ∀ {as os ls}, Own prog w adr rest as os ls → os.all (AO.small n) = true → Own prog w (adr.take n) rest as os ls
  | _, _, _, .nil, _ => .nil
  | _, _, _, .cons h r, hs => by
    obtain ⟨h1, h2⟩ := Bool.and_eq_true_iff.mp hs
    exact .cons (h.cut h1) (Own.cut r h2)
theorem Own.halves : ∀ {os1 : Hp} {as : List Addr} {os2 : Hp} {ls : Led}, Own prog w adr rest as (os1 ++ os2) ls → ∃ l1 l2, ls = l1 ++ l2 ∧ Own prog w adr rest (as.take os1.length) os1 l1 ∧ Own prog w adr rest (as.drop os1.length) os2 l2
  | [], as, os2, ls, h => ⟨[], ls, rfl, .nil, h⟩
  | o :: os1, _, os2, _, .cons (l := l) h r => by
    obtain ⟨l1, l2, rfl, h1, h2⟩ := Own.halves r
    exact ⟨l ++ l1, l2, by rw [List.append_assoc], .cons h h1, h2⟩
theorem RepH.cut {H1 H2 : Hp} {news : Led} (R : RepH prog w adr (H1 ++ H2) rest news) (hs : H1.all (AO.small H1.length) = true) : ∃ own, RepH prog w (adr.take H1.length) H1 (own ++ rest) news ∧ Own prog w adr rest (adr.drop H1.length) H2 own := by
  obtain ⟨own, O, Sb, D⟩ := R
  obtain ⟨l1, l2, rfl, h1, h2⟩ := O.halves
  rw [List.append_assoc] at Sb D
  exact ⟨l2, ⟨l1, (h1.cut hs).mono List.prefix_rfl (fun p hp => List.mem_append_right _ hp), Sb, D⟩, h2⟩
theorem Mt.small {x : LV} {v : Value} (h : Mt adr rest x v) : x.small adr.length = true := by
  induction x with
  | obj i => obtain ⟨a, e, _⟩ := h; exact Nat.ble_eq_true_of_le (List.getElem?_eq_some_iff.mp e).1
  | _ => rfl
theorem all2_small : ∀ {xs : List LV} {vs : List Value}, MtL adr rest xs vs → xs.all (LV.small adr.length) = true
  | _, _, .nil => rfl
  | _, _, .cons h r => Bool.and_eq_true_iff.mpr ⟨h.small, all2_small r⟩
theorem ents_small : ∀ {fs : List (Str × LV)} {es : List DictEntry}, Ents w adr rest fs es → (fs.all fun f => f.2.small adr.length) = true
  | _, _, .nil => rfl
  | _, _, .cons h r => Bool.and_eq_true_iff.mpr ⟨h.2.2.small, ents_small r⟩
theorem CO.small {a : Addr} {o : AO} {l : Led} (h : CO prog w adr rest a o l) : o.small adr.length = true := by
  induction o with
  | inst C fs => obtain ⟨dx, es, k, e, q⟩ := h; exact ents_small q
  | chars cs => rfl
  | list ds => rfl
  | tab ts => rfl
  | cell v =>
    induction v with
    | none => rfl
    | some v => obtain ⟨o, u, e, q, z⟩ := h; exact z.small
  | tup xs => obtain ⟨vs, e, q⟩ := h; exact all2_small q
theorem Own.small : ∀ {as os ls}, Own prog w adr rest as os ls → os.all (AO.small adr.length) = true
  | _, _, _, .nil => rfl
  | _, _, _, .cons h r => Bool.and_eq_true_iff.mpr ⟨h.small, Own.small r⟩
theorem RepH.small {H : Hp} {news : Led} (R : RepH prog w adr H rest news) : H.all (AO.small H.length) = true := by
  have e := R.len
  obtain ⟨own, O, _⟩ := R
  rw [← e]; exact O.small
/-- a value of the heap as a datum -/
noncomputable def flatV (H : Hp) : LV → Option Dat
  | .d x => some x
  | .obj i => (match H[i]? with | some (.list ds) => some (.list ds) | _ => none)
  | _ => none
noncomputable def flatL (H : Hp) : List LV → Option (List Dat)
  | [] => some []
  | x :: r => (match flatV H x, flatL H r with | some d, some ds => some (d :: ds) | _, _ => none)
theorem Own.list {as : List Addr} {os : Hp} {own : Led} {i : Nat} {a : Addr} {ds : List Dat} (O : Own prog w adr rest as os own) (ho : os[i]? = some (.list ds)) (ha : as[i]? = some a) : DatIn (own ++ rest) (.ref a) (.list ds) := by
  obtain ⟨b, pre, l, post, e1, rfl, ⟨vs, n, rfl, q⟩, _⟩ := O.split ho
  rw [ha] at e1; cases e1
  exact .list (n := n) (by simp) (q.mono fun p hp => List.mem_append_right _ hp)
set_option tactic.hygienic true in
theorem flatV_ok {H : Hp} {own : Led} {x : LV} {v : Value} {d : Dat} (O : Own prog w adr rest adr H own) (h : Mt adr rest x v) (e : flatV H x = some d) : DatIn (own ++ rest) v d := by
  induction x with
  | d x => cases e; exact DatIn.mono (fun p hp => List.mem_append_right _ hp) h
  | obj i =>
    obtain ⟨a, ha, rfl⟩ := h
    unfold flatV at e
    dsimp only at e
    split at e
    · rename_i ds ho; cases e; exact O.list ho ha
    · cases e
  | top a => cases e
  | bi id => cases e
theorem flatL_ok {H : Hp} {own : Led} (O : Own prog w adr rest adr H own) : ∀ {xs : List LV} {vs : List Value} {ds : List Dat}, MtL adr rest xs vs → flatL H xs = some ds → DatAll (own ++ rest) vs ds
  | _, _, _, .nil, e => by cases e; exact .nil
  | _, _, _, .cons (a := x) (as := xs) h r, e => by
    unfold flatL at e
    refine opt_ns (b := flatV H x) (fun e1 => ?_) fun d e1 => ?_
    · rw [e1] at e; cases e
    ·
      refine opt_ns (b := flatL H xs) (fun e2 => ?_) fun ds e2 => ?_
      · rw [e1, e2] at e; cases e
      · rw [e1, e2] at e; cases e; exact .cons (flatV_ok O h e1) (flatL_ok O r e2)
theorem flat_tup {H : Hp} {own : Led} {i : Nat} {v : Value} {xs : List LV} {ds : List Dat} (O : Own prog w adr rest adr H own) (hv : Mt adr rest (.obj i) v) (ho : H[i]? = some (.tup xs)) (e : flatL H xs = some ds) : DatIn (own ++ rest) v (.tuple ds) := by
  obtain ⟨a, ha, rfl⟩ := hv
  obtain ⟨b, pre, l, post, e1, e2, ⟨vs, rfl, q⟩, _⟩ := O.split ho
  rw [ha] at e1; cases e1
  have D := flatL_ok O q e
  subst e2
  exact .tuple (n := 0) (by simp) D
end
section
variable {prog : Program} {w : World} {A : Around} {E : Value → Shared → Prop} {s : Shared} {h₀ : Heap} {env : Env}
end
section
variable {prog : Program} {w : World} {K : Frag} {Γ : GE}
variable {c : FC K Γ} {T : Tabs} {ih : Ev} {n : Nat} {A : Around} {m : Str → Option Value} {adr adr' : List Addr} {rest rest' news : Led} {H : Hp} {s : Shared} {E : Value → Shared → Prop} {l : Loc}
/-- a turn of a for whose locals may change -/
theorem turn_l (IH : Sound prog w K Γ ih n) (G : FG c) (hr : Room c.A n) {Jh' : Loc → Hp → Prop} {l₁ : Loc} {H1 : Hp} {adr1 : List Addr} {rest1 nx : Led} {m₁ : Str → Option Value} {I : Addr} {oI : Obj} {x : Str} {lv : LV} {v : Value} {body : List Stmt} {P : Fl → Loc → Hp → Prop} {Q : Flow → Shared → Prop} {h : Heap} {tk : Nat}
    (e1 : adr <+: adr1) (e2 : Sub rest rest1) (R1 : RepH prog w adr1 H1 rest1 nx) (L1 : LocOk c.cl adr1 rest1 l₁ m₁) (hns : NotSeq oI) (hne : ∀ q ∈ nx, q.1 ≠ I) (hrI : ∀ q ∈ rest, q.1 ≠ I) (F₁ : Fr c.h₀ c.L h (fun y => if y = x then some v else m₁ y)) (N₁ : News c.h₀ c.L h ((I, oI) :: nx)) (hv : Mt adr1 ((I, oI) :: rest1) lv v)
    (hx0 : c.cl.lookup x = none) (hb : ih.s c.cs body ((x, lv) :: l₁) H1 (fun fl l' H'' => match fl with | .next => ∃ l3, Keeps l3 l' ∧ Jh' l3 H'' | .ret u => P (.ret u) l' H''))
    (r : RetS prog w c adr rest s P Q) :
    wpAny (model prog w) c.A (execs body c.env) (LpPost c.h₀ c.L (fun m nx => ∃ l', JH prog w c.cl l' adr rest (Jh' l') m nx) I oI s (fun f s' => c.t0 ≤ s'.toks → Q f s')) E { s with heap := h, toks := tk } := by
  have R2 := R1.grow (x := I) (o := oI) hne
  refine IH.s (c := { c with t0 := 0 }) (m := fun y => if y = x then some v else m₁ y) (adr := adr1) (rest := (I, oI) :: rest1) (news := (I, oI) :: nx) (H := H1) (l := (x, lv) :: l₁) ⟨G.dbg, G.loc, G.cel, G.fre⟩ hr ⟨F₁, N₁, R2, Nat.zero_le _⟩ ((L1.mono List.prefix_rfl Sub.cons).put hx0 hv) hb ?_
  intro fl f l' m' adr2 rest2 news2 H2 h2 tk2 q1 q2 S2 L2 hm hp
  have hI : (I, oI) ∈ rest2 := q2 _ (.head _)
  have sub1 : Sub rest rest2 := fun z hz => q2 z (.tail _ (e2 z hz))
  induction fl with
  | ret u =>
    obtain ⟨u', rfl, hu⟩ := hm
    exact fun ht => r (.ret u) _ l' m' adr2 rest2 news2 H2 h2 tk2 (e1.trans q1) sub1 ⟨S2.F, S2.N, S2.R, ht⟩ L2 (mRet hu) hp
  | next =>
    cases hm
    obtain ⟨l3, hp2, hp1⟩ := hp
    obtain ⟨own, O, Sb, D⟩ := S2.R
    have D' : DN rest2 := DN.sub (List.sublist_append_right _ _) D
    have hu : ∀ a o, (a, o) ∈ rest2 → a = I → o = oI := fun a o h e => by subst e; exact DN.fn D' h hI
    refine ⟨h2, tk2, m', without I news2, rfl, S2.F, ?_, without_ne, l3, adr2, without I rest2, H2, e1.trans q1, fun z hz => mem_without (sub1 z hz) (hrI z hz), RepH.drop ⟨own, O, Sb, D⟩ hI hns, (L2.drop hu hns).keeps hp2, hp1⟩
    intro q hq
    rcases List.mem_cons.mp hq with e | e
    · exact e ▸ S2.N _ (Sb _ (List.mem_append_right _ hI))
    · exact S2.N q (without_sub q e)
end
theorem replace_e {prog : Program} {w : World} {A : Around} {E : Value → Shared → Prop} {s : Shared} {env : Env} {o : Expr} {y z : Str} {ky kz : Nat} {py pz apos pos : Pos} {Q : Value → Shared → Prop} (h1 : notSuper o = true) (h3 : (apos.endLine == pos.line) = true) (hyz : (y == z) = false) (hz : z.length ≤ 14) {n : Nat} (h0 : 1 ≤ n) (ht : n ≤ s.toks)
    (h : wpAny (model prog w) A (eval o env) (fun v s1 => n ≤ s1.toks → ∃ x t, v = .str x t ∧ x.length ≤ 1048576 ∧ ∀ t' k, n ≤ k → Q (.str (Txt.replace x y z) t') { s1 with toks := k }) E s) :
    wpAny (model prog w) A (eval (.Call (.Attribute o (Str.ofString "replace") apos) [.Constant (.str y) ky py, .Constant (.str z) kz pz] [] pos) env) Q E s := by
  refine MethodCall_ (with_toks ht (wpAny_mono h (fun v s1 hv ht1 => ?_) fun Z Z e => e)) (eval_mcall h1 h3 rfl (show 2 < 30 by decide))
  obtain ⟨x, t, rfl, hx, k⟩ := hv ht1
  refine PySem.GM.replace ?_
  refine PyProof.Rows.callWith_method1 (args_cons (Constant_str (args_cons (Constant_str (args_nil ?_)) rfl)) rfl) rfl rfl
  refine with_toks (n := n) (Nat.le_succ_of_le (Nat.le_succ_of_le ht1)) (PySem.SC.replaceW (Nat.ne_of_gt (Nat.le_trans h0 ht1)) (Nat.succ_ne_zero _) (Nat.ne_of_lt (Nat.lt_succ_self _)) hyz hx hz fun t' k' ht' => k t' k' ht')
section
variable {prog : Program} {w : World} {K : Frag} {Γ : GE}
variable {c : FC K Γ} {T : Tabs} {ih : Ev} {n : Nat} {A : Around} {m : Str → Option Value} {adr adr' : List Addr} {rest rest' news : Led} {H : Hp} {s : Shared} {E : Value → Shared → Prop} {l : Loc}
/-- the tail by the evaluator -/
theorem tail_ev {Pr : Pm} {D k : Nat} {ss : List Stmt} {P : Fl → Loc → Hp → Prop} {Q : Flow → Shared → Prop} (TO : T.Ok K) (PO : PmOk prog w K Γ Pr D) (G : FG c) (hr : Room c.A (k + D)) (S : AtS prog w c m adr rest news H s) (hl : LocOk c.cl adr rest l m)
    (h : (Ev.run K T Pr k).s c.cs ss l H P) (r : RetS prog w c adr rest s P Q) : wpAny (model prog w) c.A (execs ss c.env) Q E s := (run_sound TO PO k).s G hr S hl h r
end
/-! replace by parts -/
noncomputable def pRpl (y z : Str) : Expr → Bool := pMeth notSuper (Str.ofString "replace") (lc (pCon (cStr y)) (l1 (pCon (cStr z))))
noncomputable def replOk (y z : Str) : Expr → Bool := pRpl y z
theorem replOk.inv {y z : Str} {e : Expr} (h : replOk y z e = true) : ∃ o nm q k1 p1 k2 p2 p, e = .Call (.Attribute o nm q) [.Constant (.str y) k1 p1, .Constant (.str z) k2 p2] [] p ∧ (nm == Str.ofString "replace") = true ∧ (q.endLine == p.line) = true ∧ notSuper o = true := by
  obtain ⟨o, nm, q, as, p, rfl, h1, h2, h3, h4⟩ := pMeth.inv h
  obtain ⟨a, t, rfl, h5, h6⟩ := lc.inv h4
  obtain ⟨b, rfl, h7⟩ := l1.inv h6
  obtain ⟨c1, k1, p1, rfl, h8⟩ := pCon.inv h5
  obtain ⟨c2, k2, p2, rfl, h9⟩ := pCon.inv h7
  rw [cStr.inv h8, cStr.inv h9]
  exact ⟨o, nm, q, k1, p1, k2, p2, p, rfl, h1, h2, h3⟩
noncomputable def replO : Expr → Expr
  | .Call (.Attribute o _ _) _ _ _ => o
  | e => e
theorem replace_x {prog : Program} {w : World} {A : Around} {E : Value → Shared → Prop} {s : Shared} {env : Env} {e : Expr} {y z : Str} {Q : Value → Shared → Prop} (ho : replOk y z e = true) (hyz : (y == z) = false) (hz : z.length ≤ 14) {n : Nat} (h0 : 1 ≤ n) (ht : n ≤ s.toks)
    (h : wpAny (model prog w) A (eval (replO e) env) (fun v s1 => n ≤ s1.toks → ∃ x t, v = .str x t ∧ x.length ≤ 1048576 ∧ ∀ t' k, n ≤ k → Q (.str (Txt.replace x y z) t') { s1 with toks := k }) E s) :
    wpAny (model prog w) A (eval e env) Q E s := by
  obtain ⟨o, nm, q, k1, p1, k2, p2, p, rfl, h1, h2, h3⟩ := replOk.inv ho
  rw [beq_iff_eq.mp h1]
  exact replace_e h3 h2 hyz hz h0 ht h
noncomputable def isRet1 : List Stmt → Bool := l1 (sRet fun Z => true)
noncomputable def retE1 : List Stmt → Expr
  | [.Return (some e) _] => e
  | _ => .Constant .none 0 ⟨0, 0, 0, 0⟩
theorem ret1 {M : Model} {A : Around} {E : Value → Shared → Prop} {s : Shared} {env : Env} {ss : List Stmt} {Q : Flow → Shared → Prop} (h : isRet1 ss = true) (k : wpAny M A (eval (retE1 ss) env) (fun v s' => Q (.ret v) s') E s) : wpAny M A (execs ss env) Q E s := by
  obtain ⟨st, rfl, h1⟩ := l1.inv h
  obtain ⟨e, p, rfl, _⟩ := sRet.inv h1
  exact wpAny_execs_cons (wpAny_Return_some k)
end Mine
end
section
open PySem PySem.W PyProof.Rows PySem.Spec PySem.Calls
set_option maxRecDepth 100000
namespace Mine
/-! comprehensions -/
section
variable {prog : Program} {w : World} {A : Around} {E : Value → Shared → Prop} {s : Shared} {h₀ : Heap} {L : Addr} {m : Str → Option Value} {env : Env}
end
/-- the names of a comprehension's scope, as its place sees them -/
noncomputable def rlS (scope cs : Scope) : Scope := { scope with names := scope.names.map fun (n, k) => if (k == .free && cs.kind == .function && cs.names.lookup n == some .cell) then (n, .cell) else (n, k) }
section
variable {prog : Program} {w : World} {K : Frag} {Γ : GE}
variable {c : FC K Γ} {T : Tabs} {ih : Ev} {n : Nat} {A : Around} {m : Str → Option Value} {adr adr' : List Addr} {rest rest' news : Led} {H : Hp} {s : Shared} {E : Value → Shared → Prop} {l : Loc}
set_option tactic.hygienic true in
theorem comp_nm {scope : Scope} {cl' : List (Str × Addr)} {C : Addr} {oC : Obj} {m₂ : Str → Option Value} {x : Str} {lv : LV} {v₀ : Value} {lf : Loc}
    (hC : LCg.NsObj oC m₂) (hm : (C, oC) ∈ rest) (hx : m₂ x = some v₀) (hv : Mt adr rest lv v₀) (hk : scope.kind = .function)
    (h1 : ∀ y, (rlS scope c.cs).names.lookup y = some .local → y = x ∨ lf.lookup y = none) (h2 : ∀ y, (rlS scope c.cs).names.lookup y = some .cell → y ≠ x)
    (hf : ∀ y v, lf.lookup y = some v → ∃ a o u, isFix v = true ∧ cl'.lookup y = some a ∧ (a, o) ∈ rest ∧ o.data = .cell (some u) ∧ Mt adr rest v u)
    (hd : (rlS scope c.cs).names.lookup DBG = none) : NmOk prog w c (compEnvC scope cl' C c.env) (rlS scope c.cs) adr rest ((x, lv) :: lf) m := by
  have nd : ∀ y k, (rlS scope c.cs).names.lookup y = some k → (y == DBG) = false := fun y k e => beq_eq_false_iff_ne.mpr fun q => by rw [q, hd] at e; cases e
  have hl : ∀ y, y ≠ x → ((x, lv) :: lf).lookup y = lf.lookup y := fun y q => by rw [List.lookup_cons, show (y == x) = false from beq_eq_false_iff_ne.mpr q]
  refine ⟨fun q1 q2 S e ev h => ?_, fun q1 q2 S e ev hv h => ?_, fun q1 q2 S e ev hfx h => ?_, fun q1 q2 S e g h => ?_, fun q1 q2 S e g h => ?_⟩
  · rename_i y _ _ _
    by_cases hy : y = x
    case neg => rw [hl _ hy, (h1 _ e).resolve_left hy] at ev; cases ev
    subst hy
    rw [List.lookup_cons, beq_self_eq_true] at ev
    cases ev
    exact wpAny_Name (wpAny_loadName_local (env := compEnvC scope cl' C c.env) hk e (hC.ns (S.N _ (S.R.rest_sub _ (q2 _ hm))).1) hx (h v₀ (hv.mono q1 q2))) (nd _ _ e)
  · rw [hl _ (h2 _ e)] at ev
    obtain ⟨a, o, u, e1, _⟩ := hf _ _ ev
    cases e1
  · rw [hl _ (h2 _ e)] at ev
    obtain ⟨a, o, u, e1, e2, e3, e4, e5⟩ := hf _ _ ev
    exact lcf_cell S.N e2 (S.R.rest_sub _ (q2 _ e3)) e4 (h u (e5.mono q1 q2)) hk e (nd _ _ e)
  · exact Name_function_global hk e (loadGlobal_global (env := compEnvC scope cl' C c.env) ((topRead_of c.T).g.keeps S.F.keep) (mg_of c.X (topRead_of c.T).g g.1) h) (nd _ _ e)
  · exact Name_function_global hk e (loadGlobal_builtin (env := compEnvC scope cl' C c.env) ((topRead_of c.T).g.keeps S.F.keep) (mg_none_of c.X (topRead_of c.T).g g.1) ((topRead_of c.T).b.keeps S.F.keep) (((topRead_of c.T).builtins _ g.2.2.1).trans g.2.1) h) (nd _ _ e)
theorem off1_mem {D : Addr} : ∀ {l : Led}, LCg.Off1 D l → ∀ p ∈ l, p.1 ≠ D
  | [], _, _, hp => by cases hp
  | q :: r, h, p, hp => by
    rcases List.mem_cons.mp hp with e | e
    · subst e; exact h.1
    · exact off1_mem h.2 p e
noncomputable def flatD : Dat → Bool
  | .str _ => true
  | .int _ => true
  | .none => true
  | .bool _ => true
  | _ => false
theorem flat_dat {d : Dat} {v : Value} {r r' : Led} (hf : flatD d = true) (h : DatIn r v d) : DatIn r' v d := by
  cases h with
  | none => exact .none
  | bool b => exact .bool b
  | int i t => exact .int i t
  | str x t => exact .str x t
  | _ => cases hf
theorem off_dn {I C D : Addr} {oI oC oD : Obj} {nw : Led} (h : DN nw) (off : LCg.Off3 I C D nw) (ne : (@Ne Nat I C) ∧ (@Ne Nat I D) ∧ (@Ne Nat C D)) : DN ((I, oI) :: (C, oC) :: (D, oD) :: nw) := by
  have m := LCg.Off3.mem off
  refine List.nodup_cons.mpr ⟨fun q => ?_, List.nodup_cons.mpr ⟨fun q => ?_, List.nodup_cons.mpr ⟨fun q => ?_, h⟩⟩⟩
  · rcases List.mem_cons.mp q with q | q
    · exact ne.1 q
    · rcases List.mem_cons.mp q with q | q
      · exact ne.2.1 q
      · obtain ⟨p, hp, e⟩ := List.mem_map.mp q
        exact (m p hp).1 e
  · rcases List.mem_cons.mp q with q | q
    · exact ne.2.2 q
    · obtain ⟨p, hp, e⟩ := List.mem_map.mp q
      exact (m p hp).2.1 e
  · obtain ⟨p, hp, e⟩ := List.mem_map.mp q
    exact (m p hp).2.2 e
noncomputable def scOk (scope cs : Scope) (x : Str) : Bool := (scope.names.all fun y => decide (y.2 ≠ .cell)) && (decide (scope.kind = .function) && ((scope.names.all fun y => decide (y.2 ≠ .local) || decide (scope.names.lookup y.1 = some .local)) && (decide (scope.names.lookup x = some .local) &&
  (((rlS scope cs).names.all fun y => (decide (y.2 ≠ .local) || (decide (y.1 = x) || decide (y.1 = Str.ofString ".0"))) && (decide (y.2 ≠ .cell) || decide (y.1 ≠ x))) && decide ((rlS scope cs).names.lookup DBG = none)))))
theorem orD {p q : Prop} [Decidable p] [Decidable q] (h : (decide (¬ p) || decide q) = true) (hp : p) : q := by
  rcases Bool.or_eq_true_iff.mp h with h | h
  · exact absurd hp (of_decide_eq_true h)
  · exact of_decide_eq_true h
theorem scOk.inv {scope cs : Scope} {x : Str} {lf : Loc} (h0 : lf.lookup (Str.ofString ".0") = none) (h : scOk scope cs x = true) : (∀ y ∈ scope.names, y.2 ≠ .cell) ∧ scope.kind = .function ∧ (∀ y ∈ scope.names, y.2 = .local → scope.names.lookup y.1 = some .local) ∧ scope.names.lookup x = some .local ∧
    (∀ y, (rlS scope cs).names.lookup y = some .local → y = x ∨ lf.lookup y = none) ∧ (∀ y, (rlS scope cs).names.lookup y = some .cell → y ≠ x) ∧ (rlS scope cs).names.lookup DBG = none := by
  obtain ⟨h1, h2, h3⟩ := and3 h
  obtain ⟨h3, h4, h5⟩ := and3 h3
  obtain ⟨h5, h6⟩ := Bool.and_eq_true_iff.mp h5
  have h5 := List.all_eq_true.mp h5
  refine ⟨fun y hy => of_decide_eq_true (List.all_eq_true.mp h1 y hy), of_decide_eq_true h2, fun y hy => orD (List.all_eq_true.mp h3 y hy), of_decide_eq_true h4, fun y hy => ?_, fun y hy => orD (Bool.and_eq_true_iff.mp (h5 _ (PySem.mem_of_lookup hy))).2 rfl, of_decide_eq_true h6⟩
  rcases Bool.or_eq_true_iff.mp (Bool.and_eq_true_iff.mp (h5 _ (PySem.mem_of_lookup hy))).1 with q | q
  · exact absurd rfl (of_decide_eq_true q)
  · rcases Bool.or_eq_true_iff.mp q with q | q
    · exact .inl (of_decide_eq_true q)
    · exact .inr (by rw [show y = Str.ofString ".0" from of_decide_eq_true q]; exact h0)
end
/-! join by parts -/
end Mine
end
section
open PySem PySem.W PyProof.Rows PySem.Spec PySem.Calls
set_option maxRecDepth 100000
namespace Mine
section
variable {prog : Program} {w : World} {K : Frag} {Γ : GE}
variable {c : FC K Γ} {T : Tabs} {ih : Ev} {n : Nat} {A : Around} {m : Str → Option Value} {adr adr' : List Addr} {rest rest' news : Led} {H : Hp} {s : Shared} {E : Value → Shared → Prop} {l : Loc}
end
noncomputable def acY : Stmt → Str
  | .Assign [.Name y _] _ _ => y
  | _ => Str.ofString ""
noncomputable def acX : Stmt → Str
  | .Assign _ (.ListComp _ [⟨.Name x _, _, _, _⟩] _ _) _ => x
  | _ => Str.ofString ""
noncomputable def acE : Stmt → Expr
  | .Assign _ (.ListComp _ [⟨_, .Call _ (e :: _) _ _, _, _⟩] _ _) _ => e
  | _ => .Constant .none 0 ⟨0, 0, 0, 0⟩
noncomputable def acS : Stmt → Scope
  | .Assign _ (.ListComp _ _ s _) _ => s
  | _ => ⟨.module, [], false, false, []⟩
section
variable {prog : Program} {w : World} {K : Frag} {Γ : GE}
variable {c : FC K Γ} {T : Tabs} {ih : Ev} {n : Nat} {A : Around} {m : Str → Option Value} {adr adr' : List Addr} {rest rest' news : Led} {H : Hp} {s : Shared} {E : Value → Shared → Prop} {l : Loc}
end
end Mine
end
section
open PySem PySem.W PyProof.Rows PySem.Spec PySem.Calls
set_option maxRecDepth 100000
namespace Mine
/-! a def whose parameters are cells -/
structure FnOkC (K : Frag) (f : Addr) (names : List Str) : Prop where
  ok : ∃ oc od osl name qual params body scope dV kV doc pm an cdv ct, K.lookup f = some ⟨oc, od, .func (fnOf name qual params body scope dV kV doc pm an cdv ct), osl⟩ ∧ codeIn K cdv qual = true ∧
    scope.isCoroutine = false ∧ scope.isGenerator = false ∧ scope.kind = .function ∧ (∀ x ∈ scope.names, x.2 ≠ .free) ∧ scope.names.lookup DBG = none ∧
    (∀ nm ∈ names, scope.names.lookup nm = some .cell) ∧ ((cellsFrom 0 scope.names []).map (·.1)).Nodup ∧ (∀ nm ∈ (cellsFrom 0 scope.names []).map (·.1), nm ∈ names) ∧ (∀ x ∈ scope.names, x.2 = .local → x.1 ∉ (cellsFrom 0 scope.names []).map (·.1)) ∧
    (∀ (s : Shared) adr rest lvs vs full, K.In s.heap → MtL adr rest lvs vs → fullL names [] lvs = some full → ∃ fv, MtL adr rest full fv ∧ full.length = names.length ∧ BindsTo s (fnOf name qual params body scope dV kV doc pm an cdv ct) ⟨vs, []⟩ (names.zip fv))
theorem cells_own {prog : Program} {w : World} {adr : List Addr} {rest : Led} {cm : Str → Option Value} {cv : Str → LV} : ∀ {cl : List (Str × Addr)} {cells : Led}, CellsAre cm cl cells → (∀ q ∈ cl, ∃ u, cm q.1 = some u ∧ Mt adr rest (cv q.1) u) → Own prog w adr rest (cl.map (·.2)) (cl.map fun q => AO.cell (some (cv q.1))) cells
  | _, _, .nil, _ => .nil
  | _, _, .cons (n := n) (c := a) (o := o) (cells := cells) h r, hv => by
    obtain ⟨u, e, hm⟩ := hv _ (.head _)
    exact Own.cons (l := [(a, o)]) (ls := cells) ⟨o, u, rfl, by rw [h, e], hm⟩ (cells_own r fun q hq => hv q (.tail _ hq))
theorem cells_addr {cm : Str → Option Value} : ∀ {cl : List (Str × Addr)} {cells : Led}, CellsAre cm cl cells → cells.map (·.1) = cl.map (·.2)
  | _, _, .nil => rfl
  | _, _, .cons _ r => by rw [List.map_cons, List.map_cons, cells_addr r]
theorem cellsFrom_up : ∀ (names : List (Str × NameKind)) (n : Nat) (acc : List (Str × Addr)) (lo : Nat), (acc.map (·.2)).Nodup → (∀ q ∈ acc, @LT.lt Nat _ q.2 n) → (∀ q ∈ acc, @LE.le Nat _ lo q.2) → lo ≤ n → ((cellsFrom n names acc).map (·.2)).Nodup ∧ ∀ q ∈ cellsFrom n names acc, @LE.le Nat _ lo q.2
  | [], _, _, _, h, _, hlo, _ => ⟨h, hlo⟩
  | (x, k) :: r, n, acc, lo, h, hn, hlo, hl => by
    unfold cellsFrom
    split
    · refine cellsFrom_up r (n + 1) _ lo ?_ (fun q hq => ?_) (fun q hq => ?_) (Nat.le_succ_of_le hl)
      · rw [List.map_cons, List.nodup_cons]
        refine ⟨fun hx => ?_, h⟩
        obtain ⟨q, hq, e⟩ := List.mem_map.mp hx
        exact Nat.ne_of_lt (hn q hq) e
      · rcases List.mem_cons.mp hq with e | hq
        · rw [e]; exact Nat.lt_succ_self _
        · exact Nat.lt_succ_of_lt (hn q hq)
      · rcases List.mem_cons.mp hq with e | hq
        · rw [e]; exact hl
        · exact hlo q hq
    · exact cellsFrom_up r n acc lo h hn hlo hl
theorem mem_lookup_none {x : Str} : ∀ {l : List (Str × Addr)}, x ∉ l.map (·.1) → l.lookup x = none
  | [], _ => rfl
  | (a, b) :: r, h => by
    rw [List.lookup_cons]
    have : (x == a) = false := beq_eq_false_iff_ne.mpr fun e => h (by rw [e]; exact .head _)
    rw [this]
    exact mem_lookup_none fun q => h (.tail _ q)
theorem bindL_none {kf : Str → Option NameKind} : ∀ {bs : List (Str × Value)} {m : Str → Option Value}, (∀ q ∈ bs, kf q.1 = some .cell) → bindL kf bs m = m
  | [], _, _ => rfl
  | (n, v) :: r, m, h => by
    unfold bindL
    have e : kf n = some .cell := h (n, v) (.head _)
    rw [if_neg (by rw [e]; exact fun q => nomatch q)]
    exact bindL_none fun q hq => h q (.tail _ hq)
/-- objects of the cells -/
noncomputable def cellL (base : Nat) : List Str → Loc
  | [] => []
  | n :: r => (n, .obj base) :: cellL (base + 1) r
theorem cellL_ok {x : Str} {v : LV} : ∀ {cl : List (Str × Addr)} {base : Nat} {pre : List Addr}, pre.length = base → (cellL base (cl.map (·.1))).lookup x = some v → ∃ a i, cl.lookup x = some a ∧ v = .obj i ∧ (pre ++ cl.map (·.2))[i]? = some a
  | [], _, _, _, e => by cases e
  | (n, a) :: r, base, pre, hp, e => by
    rw [List.map_cons, cellL, List.lookup_cons] at e
    rw [List.lookup_cons]
    cases q : x == n with
    | true =>
      rw [q] at e; cases e
      refine ⟨a, base, rfl, rfl, ?_⟩
      rw [← hp, List.map_cons, List.getElem?_append_right (Nat.le_refl _), Nat.sub_self]; rfl
    | false =>
      rw [q] at e
      obtain ⟨b, i, e1, e2, e3⟩ := cellL_ok (pre := pre ++ [a]) (base := base + 1) (by rw [List.length_append, hp]; rfl) e
      exact ⟨b, i, e1, e2, by rw [List.map_cons]; rw [List.append_assoc] at e3; exact e3⟩
section
variable {prog : Program} {w : World} {K : Frag} {Γ : GE}
variable {c : FC K Γ} {n : Nat} {m : Str → Option Value} {adr : List Addr} {rest news : Led} {H : Hp} {s : Shared}
theorem bindC_look {kf : Str → Option NameKind} {adr : List Addr} {rest : Led} : ∀ {names : List Str} {xs : List LV} {vs : List Value} {cm : Str → Option Value}, MtL adr rest xs vs → names.Nodup → xs.length = names.length → (∀ n ∈ names, kf n = some .cell) → ∀ n ∈ names, ∃ x u, (names.zip xs).lookup n = some x ∧ bindC kf (names.zip vs) cm n = some u ∧ Mt adr rest x u
  | [], _, _, _, _, _, _, _, _, h => by cases h
  | a :: names, _, _, _, .nil, _, hl, _, _, _ => by cases hl
  | a :: names, _, _, cm, .cons (a := x) (b := u) (as := xs) (bs := vs) h r, hd, hl, hk, n, hn => by
    obtain ⟨d1, d2⟩ := List.nodup_cons.mp hd
    rw [List.zip_cons_cons, List.zip_cons_cons, List.lookup_cons]
    unfold bindC
    rw [if_neg (by rw [hk a (.head _)]; exact fun q => nomatch q)]
    by_cases e : n = a
    · subst e
      rw [beq_self_eq_true]
      refine ⟨x, u, rfl, ?_, h⟩
      have keep : ∀ {bs : List (Str × Value)} {f : Str → Option Value}, (∀ q ∈ bs, q.1 ≠ n) → bindC kf bs f n = f n := by
        intro bs
        induction bs with
        | nil => intro f _; rfl
        | cons q r ih =>
          intro f hq
          obtain ⟨q1, q2⟩ := q
          unfold bindC
          rw [ih fun z hz => hq z (.tail _ hz)]
          split
          · rfl
          · exact if_neg (Ne.symm (hq (q1, q2) (.head _)))
      rw [keep fun q hq e => d1 (e ▸ (List.of_mem_zip (a := q.1) (b := q.2) hq).1)]
      exact if_pos rfl
    · rw [show (n == a) = false from beq_eq_false_iff_ne.mpr e]
      exact bindC_look r d2 (by simpa using hl) (fun z hz => hk z (.tail _ hz)) n ((List.mem_cons.mp hn).resolve_left e)
theorem enterC {f : Addr} {names : List Str} (FO : FnOkC K f names) (hnd : names.Nodup) (G : FG c) (hr : Room c.A (n + 1)) {lvs full : List LV} {vs : List Value} {P : KV} {R : Result → Shared → Prop}
    (S : AtS prog w c m adr rest news H s) (hm : MtL adr rest lvs vs) (hf : fullL names [] lvs = some full) (r : Ret prog w Mt c m adr rest s P (fun v s' => R (.ok (.ret v)) s'))
    (body : ∀ (c' : FC K Γ) m' adr' news' s' E' Q' (cn : List Str), cn = (cellsFrom 0 (scopeOf K f).names []).map (·.1) → c'.cs = scopeOf K f → c'.cl = cellsFrom (c'.L + 1) (scopeOf K f).names [] → PassesOwn (model prog w) c'.A c'.env E' → FG c' → Room c'.A n → adr <+: adr' →
      AtS prog w c' m' adr' rest news' (H ++ cn.map fun q => .cell (some (((names.zip full).lookup q).getD (.d .none)))) s' → LocOk c'.cl adr' rest (cellL H.length cn) m' →
      RetS prog w c' adr' rest s' (fun fl Z H1 => match fl with | .next => P (.d .none) H1 | .ret v => P v H1) Q' → wpAny (model prog w) c'.A (execs (bodyOf K f) c'.env) Q' E' s') :
    codeAny (model prog w) c.A (.call (.ref f) ⟨vs, []⟩) R s := by
  obtain ⟨oc, od, osl, name, qual, params, bd, scope, dV, kV, doc, pm, an, cdv, ct, hk, hcd, hco, hgen, hkind, hfree, hdbg, hcell, hcn, hcn2, hloc, hbind⟩ := FO.ok
  have e1 : scopeOf K f = scope := by unfold scopeOf; rw [hk]
  have e2 : bodyOf K f = bd := by unfold bodyOf; rw [hk]
  rw [e1, e2] at body
  obtain ⟨fv, hfv, hlen, hb⟩ := hbind s adr rest lvs vs full (c.X.keeps S.F.keep) hm hf
  obtain ⟨hr1, hr2⟩ := hr
  refine codeAny_with_toks S.tk ?_
  refine code_defC c.B S.F c.X S.N c.T c.hA rfl c.hk hk hcd (by lia) hb ?_ hcn (fun g L' h₁ tk cells FG' F' N' CA B' X' T' hlt => ?_) hco hgen hkind
  · refine List.all_eq_true.mpr fun y hy => ?_
    have := hcell y.1 (List.of_mem_zip (a := y.1) (b := y.2) hy).1
    rw [this]; rfl
  · have hkf : ∀ nm ∈ names, (envOfC qual scope L' f cdv).kindOf nm = some .cell := hcell
    have hbl : bindL (envOfC qual scope L' f cdv).kindOf (names.zip fv) (fun Z => none) = fun Z => none := bindL_none fun q hq => hkf q.1 (List.of_mem_zip (a := q.1) (b := q.2) hq).1
    rw [hbl] at F'
    have ecn : (cellsFrom (L' + 1) scope.names []).map (·.1) = (cellsFrom 0 scope.names []).map (·.1) := cellsFrom_names _ _ _ _ _ rfl
    have hup := cellsFrom_up scope.names (L' + 1) [] (L' + 1) List.nodup_nil (fun q h => by cases h) (fun q h => by cases h) (Nat.le_refl _)
    have hlook := bindC_look (kf := (envOfC qual scope L' f cdv).kindOf) (cm := fun Z => none) hfv hnd hlen hkf
    let cl := cellsFrom (L' + 1) scope.names []
    let c' : FC K Γ := ⟨c.A.deeper (envOfC qual scope L' f cdv), qual, scope, f, cdv, cl, c.env :: c.outer, c.A, c.base, g, L', B', X', T', Around.frames_deeper c.hA, c.hh, hkind, 0⟩
    have hown : Own prog w adr rest (cl.map (·.2)) (cl.map fun q => AO.cell (some (((names.zip full).lookup q.1).getD (.d .none)))) cells := by
      refine cells_own (cv := fun n => ((names.zip full).lookup n).getD (.d .none)) CA fun q hq => ?_
      have hq1 : q.1 ∈ (cellsFrom 0 scope.names []).map (·.1) := by rw [← ecn]; exact List.mem_map_of_mem hq
      obtain ⟨x, u, a1, a2, a3⟩ := hlook q.1 (hcn2 _ hq1)
      exact ⟨u, a2, by rw [a1]; exact a3⟩
    have hcaddr := cells_addr CA
    have hRep : RepH prog w (adr ++ cl.map (·.2)) (H ++ cl.map fun q => AO.cell (some (((names.zip full).lookup q.1).getD (.d .none)))) rest (cells ++ news) := by
      obtain ⟨own, O, Sb, D⟩ := S.R
      refine ⟨own ++ cells, Own.append (O.mono (List.prefix_append _ _) Sub.rfl) (hown.mono (List.prefix_append _ _) Sub.rfl), fun q hq => ?_, ?_⟩
      · rcases List.mem_append.mp hq with h | h
        · rcases List.mem_append.mp h with h | h
          · exact List.mem_append_right _ (Sb q (List.mem_append_left _ h))
          · exact List.mem_append_left _ h
        · exact List.mem_append_right _ (Sb q (List.mem_append_right _ h))
      · unfold DN at D ⊢
        have pm : ((own ++ cells ++ rest).map (·.1)).Perm ((cells ++ (own ++ rest)).map (·.1)) := by
          refine List.Perm.map _ ?_
          rw [List.append_assoc]
          exact List.perm_append_comm_assoc _ _ _
        rw [pm.nodup_iff, List.map_append]
        refine List.nodup_append.mpr ⟨by rw [hcaddr]; exact hup.1, D, fun a ha b hb e => ?_⟩
        subst e
        rw [hcaddr] at ha
        obtain ⟨q, hq, e⟩ := List.mem_map.mp ha
        obtain ⟨z, hz, e'⟩ := List.mem_map.mp hb
        have h1 := hup.2 q hq
        have h2 := hlt z (Sb z hz)
        rw [← e'] at e
        rw [e] at h1
        exact absurd h2 (Nat.not_lt.mpr (Nat.le_of_succ_le h1))
    refine body c' (fun Z => none) (adr ++ cl.map (·.2)) (cells ++ news) { s with heap := h₁, toks := tk } _ _ (cl.map (·.1)) ecn rfl rfl PassesOwn.leaving ⟨hdbg, fun x hx => ?_, fun x hx => ?_, fun x hx => absurd rfl (hfree (x, .free) (PySem.mem_of_lookup hx))⟩ ⟨?_, ?_⟩ (List.prefix_append _ _) ⟨F', N', ?_, Nat.zero_le _⟩ ?_ ?_
    · refine mem_lookup_none ?_
      rw [ecn]
      exact hloc (x, .local) (PySem.mem_of_lookup hx) rfl
    · have := cellsFrom_some scope.names (L' + 1) [] (.inl hx)
      exact Option.isSome_iff_exists.mp this
    · show c.A.depth + 1 + n < _; lia
    · show c.A.units + 3 + 4 * n < _; lia
    · rw [List.map_map]; exact hRep
    · intro x v e
      refine ⟨fun q => ?_, fun a q => ?_⟩
      · obtain ⟨a, i, e1, _⟩ := cellL_ok (pre := adr) S.R.len e
        have q : cl.lookup x = none := q
        rw [q] at e1; cases e1
      · obtain ⟨b, i, e1, e2, e3⟩ := cellL_ok (pre := adr) S.R.len e
        have q : cl.lookup x = some a := q
        rw [q] at e1; cases e1
        exact ⟨i, e2, e3⟩
    · intro fl fw l' m' adr' rest' news' H' h' tk' q1 q2 S' _ hmf hp
      induction fl with
      | next =>
        cases hmf
        exact leaveK_ S'.F S'.N fun kF kN ht => r (.d .none) .none adr' rest' news' H' h' tk' ((List.prefix_append _ _).trans q1) q2 ⟨kF, kN, S'.R, ht⟩ mNone hp
      | ret v =>
        obtain ⟨u, rfl, hu⟩ := hmf
        exact leaveK_ S'.F S'.N fun kF kN ht => r v u adr' rest' news' H' h' tk' ((List.prefix_append _ _).trans q1) q2 ⟨kF, kN, S'.R, ht⟩ hu hp
end
noncomputable def fdcChk (K : Frag) (names : List Str) (fd : FuncData) : Bool :=
  fd.globals == mainGlobals && fd.closure.isEmpty && fd.builtins == builtinsNs && (match fd.body with | .stmts _ => true | _ => false) && codeIn K fd.code fd.qualname &&
    decide (fd.params.args.map (·.arg) = names) && fd.params.posonlyargs.isEmpty && fd.params.vararg.isNone && fd.params.kwonlyargs.isEmpty && fd.params.kwarg.isNone && decide names.Nodup &&
    !fd.scope.isCoroutine && !fd.scope.isGenerator && decide (fd.scope.kind = .function) && (fd.scope.names.all fun x => decide (x.2 ≠ .free)) && decide (fd.scope.names.lookup DBG = none) &&
    (names.all fun nm => decide (fd.scope.names.lookup nm = some .cell)) && decide ((cellsFrom 0 fd.scope.names []).map (·.1)).Nodup && (((cellsFrom 0 fd.scope.names []).map (·.1)).all fun nm => decide (nm ∈ names)) && (fd.scope.names.all fun x => decide (x.2 ≠ .local) || decide (x.1 ∉ (cellsFrom 0 fd.scope.names []).map (·.1))) && decide (fd.defaults = .none)
noncomputable def fncChk (K : Frag) (f : Addr) (names : List Str) : Bool := match K.lookup f with
  | some ⟨_, _, .func fd, _⟩ => fdcChk K names fd
  | _ => false
set_option tactic.hygienic true in
theorem fnOkC_of {K : Frag} {f : Addr} {names : List Str} (h : fncChk K f names = true) : FnOkC K f names := by
  unfold fncChk at h
  split at h
  · rename_i oc od fd osl hk
    unfold fdcChk at h
    simp only [Bool.and_eq_true, decide_eq_true_eq, beq_iff_eq, List.isEmpty_iff, Option.isNone_iff_eq_none, Bool.not_eq_true', List.all_eq_true, Bool.or_eq_true] at h
    obtain ⟨⟨⟨⟨⟨⟨⟨⟨⟨⟨⟨⟨⟨⟨⟨⟨⟨⟨⟨⟨a1, a2⟩, a3⟩, a4⟩, a5⟩, a6⟩, a7⟩, a8⟩, a9⟩, a10⟩, a11⟩, a13⟩, a14⟩, a15⟩, a18⟩, a17⟩, b1⟩, b2⟩, b3⟩, b4⟩, hd⟩ := h
    obtain ⟨name, qual, params, body, scope, glob, clos, dV, kV, doc, pm, an, cdv, ct, blt⟩ := fd
    dsimp only at *
    induction body with
    | stmts b =>
      subst a1 a2 a3
      refine ⟨oc, od, osl, name, qual, params, b, scope, dV, kV, doc, pm, an, cdv, ct, hk, a5, a13, a14, a15, a18, a17, b1, b2, b3, fun x hx e => (b4 x hx).resolve_left fun q => q e, fun s adr rest lvs vs full X hm hf => ?_⟩
      obtain ⟨rfl, hl⟩ := fullL_nil hf
      refine ⟨vs, hm, hl, BindsTo.of_eq ?_⟩
      have hlen := hm.length
      have := binds_all (s := s) (fd := fnOf name qual params b scope dV kV doc pm an cdv ct) (vs := vs) a7 a8 a9 a10 hd (by show (params.args.map (·.arg)).Nodup; rw [a6]; exact a11) (by show vs.length = params.args.length; rw [← hlen, hl, ← a6, List.length_map])
      have e : (fnOf name qual params b scope dV kV doc pm an cdv ct).params.args.map (·.arg) = names := a6
      rw [e] at this
      exact this
    | _ => cases a4
  · cases h
end Mine
end
section
open PySem PySem.W PyProof.Rows PySem.Spec PySem.Calls
set_option maxRecDepth 100000
namespace Mine
/-! a dict's display by written keys and the text's own defs -/
section
variable {prog : Program} {w : World} {news : Led}
variable {Ar : Around} {E : Value → Shared → Prop} {h₀ : Heap} {L : Addr} {m : Str → Option Value}
/-- an expression that yields a value and draws tokens alone -/
noncomputable def Evl (prog : Program) (w : World) (Ar : Around) (E : Value → Shared → Prop) (h₀ : Heap) (L : Addr) (m : Str → Option Value) (t : Sem Value) (ok : Value → Prop) : Prop :=
  ∀ (s : Shared) (Q : Value → Shared → Prop), Fr h₀ L s.heap m → (∀ v tk, ok v → Q v { s with toks := tk }) → wpAny (model prog w) Ar t Q E s
noncomputable def EvPairs (prog : Program) (w : World) (Ar : Around) (E : Value → Shared → Prop) (h₀ : Heap) (L : Addr) (m : Str → Option Value) : List (Sem Value × Sem Value) → List (Str × Value) → Prop
  | [], [] => True
  | (k, v) :: r, (x, y) :: r' => Evl prog w Ar E h₀ L m k (fun u => (strKind prog w).is x u = true) ∧ Evl prog w Ar E h₀ L m v (fun u => u = y) ∧ EvPairs prog w Ar E h₀ L m r r'
  | _, _ => False
theorem storeEach {d : Addr} : ∀ (pairs : List (Sem Value × Sem Value)) (kvs acc : List (Str × Value)) (s : Shared) (Q : PUnit → Shared → Prop), EvPairs prog w Ar E h₀ L m pairs kvs →
    Fr h₀ L s.heap m → News h₀ L s.heap news → d ≠ L → h₀.get? d = none → (∀ p ∈ news, p.1 ≠ d) → s.heap.DictOf (strKind prog w) d acc → acc.length + kvs.length ≤ sizeLine →
    (∀ h' tk, Fr h₀ L h' m → News h₀ L h' news → h'.DictOf (strKind prog w) d (merged acc kvs) → Q PUnit.unit { s with heap := h', toks := tk }) →
    wpAny (model prog w) Ar (forIn pairs PUnit.unit fun (x : Sem Value × Sem Value) (_ : PUnit) => (do let kv ← x.1; let vv ← holding [kv] x.2; holding [kv, vv] (dictSet d kv vv); pure (ForInStep.yield PUnit.unit) : Sem (ForInStep PUnit))) Q E s
  | [], [], acc, s, Q, _, F, N, _, _, _, hm, _, hQ => by
    rw [List.forIn_nil]
    exact wpAny_pure (by simpa [merged] using hQ s.heap s.toks F N (by simpa [merged] using hm))
  | (k, v) :: pairs, (x, y) :: kvs, acc, s, Q, hc, F, N, hL, h0, hne, hm, hsz, hQ => by
    obtain ⟨hk, hv, hr⟩ := hc
    rw [List.length_cons] at hsz
    rw [List.forIn_cons]
    refine wpAny_bind (wpAny_bind (hk s _ F fun kv tk hkv => wpAny_bind (wpAny_holding (hv _ _ F fun vv tk' hvv => wpAny_bind (wpAny_holding ?_)))))
    subst hvv
    refine wpAny_dictSet_pairs (hsz := by lia) hkv hm fun h₁ hm₁ hs₁ => wpAny_pure ?_
    refine storeEach pairs kvs (stored acc x vv) _ Q hr (F.change hs₁ hL h0) (fun p hp => ⟨(hs₁.2 _ (hne p hp)).trans (N p hp).1, (N p hp).2⟩) hL h0 hne hm₁ (by have e := stored_length_le acc x vv; lia) fun h' tk F' N' hm' => ?_
    exact hQ h' tk F' N' (by simpa [merged] using hm')
  | [], _ :: _, _, _, _, hc, _, _, _, _, _, _, _, _ => hc.elim
  | _ :: _, [], _, _, _, hc, _, _, _, _, _, _, _, _ => hc.elim
noncomputable def pairsOf (env : Env) (pos : Pos) : List (Option Expr) → List Expr → List (Sem Value × Sem Value)
  | some k :: ks, v :: vs => (eval k env, do let x ← eval v env; standAt pos; pure x) :: pairsOf env pos ks vs
  | _, _ => []
theorem shape_of (env : Env) (pos : Pos) : ∀ (ks : List (Option Expr)) (vs : List Expr), ks.all (fun k => k.isSome) = true →
    (evalEachOpt ks env).zip ((evalEach vs env).map fun v => do let x ← v; standAt pos; pure x) = (pairsOf env pos ks vs).map fun p => (some p.1, p.2)
  | [], _, _ => rfl
  | some k :: ks, [], _ => rfl
  | some k :: ks, v :: vs, h => congrArg (List.cons _) (shape_of env pos ks vs h)
  | none :: ks, _, h => by cases h
theorem pairs_len (env : Env) (pos : Pos) : ∀ (ks : List (Option Expr)) (vs : List Expr), ks.all (fun k => k.isSome) = true → ks.length = vs.length → (pairsOf env pos ks vs).length = vs.length
  | [], [], _, _ => rfl
  | some k :: ks, v :: vs, h, e => by
    rw [pairsOf, List.length_cons, List.length_cons, pairs_len env pos ks vs h (by simpa using e)]
  | none :: ks, _, h, _ => by cases h
  | some k :: ks, [], _, e => by cases e
  | [], v :: vs, _, e => by cases e
theorem Evl.stand {t : Sem Value} {ok : Value → Prop} {pos : Pos} (h : Evl prog w Ar E h₀ L m t ok) : Evl prog w Ar E h₀ L m (do let x ← t; standAt pos; pure x) ok :=
  fun s Q F k => wpAny_bind (h s _ F fun v tk hv => wpAny_bind (wpAny_standAt (wpAny_pure (k v tk hv))))
theorem EvPairs.cons {k v : Sem Value} {x : Str} {y : Value} {r : List (Sem Value × Sem Value)} {r' : List (Str × Value)}
    (hk : Evl prog w Ar E h₀ L m k (fun u => (strKind prog w).is x u = true)) (hv : Evl prog w Ar E h₀ L m v (fun u => u = y)) (h : EvPairs prog w Ar E h₀ L m r r') :
    EvPairs prog w Ar E h₀ L m ((k, v) :: r) ((x, y) :: r') := ⟨hk, hv, h⟩
theorem dict_long {env : Env} {keys : List (Option Expr)} {values : List Expr} {pos : Pos} {kvs : List (Str × Value)} {s : Shared} {Q : Value → Shared → Prop}
    (hk : keys.all (fun k => k.isSome) = true) (hn : keys.length = 16) (hv : values.length = 16)
    (ev : EvPairs prog w Ar E h₀ L m (pairsOf env pos keys values) kvs) (hkl : kvs.length ≤ 100) (F : Fr h₀ L s.heap m) (N : News h₀ L s.heap news) (hbig : h₀.NoLimit)
    (h : ∀ d o h' tk, Fr h₀ L h' m → News h₀ L h' ((d, o) :: news) → (∀ p ∈ news, p.1 < d) → (d == sysModules) = false → o.IsDictOf (strKind prog w) (merged [] kvs) → Q (.ref d) { s with heap := h', toks := tk }) :
    wpAny (model prog w) Ar (eval (.Dict keys values pos) env) Q E s := by
  have hl := (pairs_len env pos keys values hk (hn.trans hv.symm)).trans hv
  have hlo : 15 < (pairsOf env pos keys values).length := by lia
  have hhi : (pairsOf env pos keys values).length < 17 := by lia
  rw [arm_eval_Dict, shape_of env pos keys values hk, dictDisplay_pairs _ (by intro e; rw [e] at hlo; cases hlo) hhi]
  refine wpAny_bind (wpAny_standAt (wpAny_bind ?_))
  unfold subDict
  refine wpAny_bind (wpAny_alloc ?_)
  refine wpAny_bind (wpAny_holding ?_)
  rw [if_neg (by lia)]
  refine wpAny_bind (wpAny_rule ?_)
  have lt : ∀ p ∈ news, p.1 < s.heap.objs.size := fun p hp => Heap.lt_size (N p hp).1
  refine wpAny_bind (storeEach (d := s.heap.objs.size) (news := news) _ kvs [] { s with heap := s.heap.push { cls := .type "dict", data := .dict #[] } } _ ev (F.push _) (fun p hp => ⟨Heap.get?_push_of_some _ (N p hp).1, (N p hp).2⟩) (Nat.ne_of_gt F.ns.lt) (next_is_new F) (fun p hp => Nat.ne_of_lt (lt p hp)) (Heap.DictOf.new (K := Str) s.heap) (by rw [sizeLine_eq, List.length_nil]; lia) fun h' tk F' N' hm' => ?_)
  refine wpAny_pure (wpAny_pure (wpAny_pure ?_))
  obtain ⟨o, ho, hd⟩ := Heap.dictOf_iff.mp hm'
  refine h _ o h' tk F' ?_ lt (beq_eq_false_iff_ne.mpr (Nat.ne_of_gt (Nat.lt_of_lt_of_le (modules_low hbig) (Nat.le_trans F.above (Nat.le_of_lt F.ns.lt))))) hd
  intro p hp
  rcases List.mem_cons.mp hp with e | e
  · subst e; exact ⟨ho, Nat.ne_of_gt F.ns.lt, next_is_new F⟩
  · exact N' p e
end


noncomputable def kStr : Option Expr → Option Str
  | some (.Constant (.str x) _ _) => some x
  | _ => none
noncomputable def nmOf : Expr → Option Str
  | .Name y _ => some y
  | _ => none
theorem kStr_some {k : Option Expr} {x : Str} (h : kStr k = some x) : ∃ kk kp, k = some (.Constant (.str x) kk kp) := by
  unfold kStr at h
  split at h
  · cases h; exact ⟨_, _, rfl⟩
  · cases h
theorem nmOf_some {v : Expr} {y : Str} (h : nmOf v = some y) : ∃ p, v = .Name y p := by
  unfold nmOf at h
  split at h
  · cases h; exact ⟨_, rfl⟩
  · cases h
noncomputable def dTab (T : Tabs) (cs : Scope) : List (Option Expr) → List Expr → Option (List (Str × Addr))
  | [], [] => some []
  | k :: ks, v :: vs => (match kStr k, nmOf v with
    | some x, some y => (match cs.names.lookup y, T.globs.lookup y, dTab T cs ks vs with
      | some .globalImplicit, some (.top a), some r => some ((x, a) :: r)
      | _, _, _ => none)
    | _, _ => none)
  | _, _ => none
section
variable {prog : Program} {w : World} {K : Frag} {Γ : GE}
variable {c : FC K Γ} {T : Tabs} {m : Str → Option Value} {E : Value → Shared → Prop}
set_option tactic.hygienic true in
theorem dTab_ok (TO : T.Ok K) (G : FG c) {pos : Pos} : ∀ {ks : List (Option Expr)} {vs : List Expr} {ts : List (Str × Addr)}, dTab T c.cs ks vs = some ts → EvPairs prog w c.A E c.h₀ c.L m (pairsOf c.env pos ks vs) (TABV ts) ∧ (ks.all fun k => k.isSome) = true ∧ ks.length = ts.length ∧ vs.length = ts.length
  | [], [], ts, h => by cases h; exact ⟨trivial, rfl, rfl, rfl⟩
  | k :: ks, v :: vs, ts, h => by
    unfold dTab at h
    split at h
    · rename_i x y ex ey
      obtain ⟨kk, kp, rfl⟩ := kStr_some ex
      obtain ⟨yp, rfl⟩ := nmOf_some ey
      split at h
      · rename_i a r e1 e2 e3
        cases h
        obtain ⟨h1, h2, h3, h4⟩ := dTab_ok TO G (pos := pos) e3
        have nd : (y == DBG) = false := beq_eq_false_iff_ne.mpr fun q => by rw [q, G.dbg] at e1; cases e1
        refine ⟨EvPairs.cons (fun s Q F k => Constant_str (k _ _ (strKind_is prog w _ _))) (Evl.stand fun s Q F k => nameX_K F c.X (topRead_of c.T) (TO.glob y _ e2).1 (k _ s.toks rfl) c.hk e1 nd) h1, ?_, congrArg (· + 1) h3, congrArg (· + 1) h4⟩
        rw [List.all_cons, h2]; rfl
      · cases h
    · cases h
  | [], _ :: _, _, h => by cases h
  | _ :: _, [], _, h => by cases h
noncomputable def dK : Expr → List (Option Expr)
  | .Dict ks _ _ => ks
  | _ => []
noncomputable def dV : Expr → List Expr
  | .Dict _ vs _ => vs
  | _ => []
noncomputable def isDict : Expr → Bool
  | .Dict .. => true
  | _ => false
end
end Mine
end
section
open PySem PySem.W PyProof.Rows PySem.Calls
set_option maxRecDepth 100000
namespace Mine
/-! a while loop whose heap is cut behind each turn -/
section
variable {prog : Program} {w : World} {K : Frag} {Γ : GE}
variable {c : FC K Γ} {ih : Ev} {n : Nat} {m : Str → Option Value} {adr adr₀ : List Addr} {rest news : Led} {H : Hp} {s : Shared} {E : Value → Shared → Prop} {l : Loc}
theorem LocOk.cut {cl : List (Str × Addr)} (h : LocOk cl adr rest l m) {k : Nat} (hs : ∀ y v, l.lookup y = some v → v.small k = true) : LocOk cl (adr.take k) rest l m := fun y v e => by
  obtain ⟨h1, h2⟩ := h y v e
  refine ⟨fun q => ?_, fun a q => ?_⟩
  · obtain ⟨u, e1, e2⟩ := h1 q
    exact ⟨u, e1, e2.cut (hs y v e)⟩
  · obtain ⟨i, rfl, e2⟩ := h2 a q
    refine ⟨i, rfl, ?_⟩
    rw [List.getElem?_take_of_lt (Nat.le_of_ble_eq_true (hs y _ e))]; exact e2
/-- what may be cut -/
noncomputable def CutTo (l : Loc) (H H' : Hp) : Prop := (∃ T, H = H' ++ T) ∧ H'.all (AO.small H'.length) = true ∧ ∀ y v, l.lookup y = some v → v.small H'.length = true
theorem pre_take {a b : List Addr} {k : Nat} (h : a <+: b) (hk : a.length ≤ k) : a <+: b.take k := by
  obtain ⟨t, rfl⟩ := h
  rw [List.take_append]
  exact ⟨t.take (k - a.length), by rw [List.take_of_length_le hk]⟩
theorem while_c (IH : Sound prog w K Γ ih n) (G : FG c) (hr : Room c.A n) {st : Stmt} (ho : whOk st = true) {P : Fl → Loc → Hp → Prop} {Q : Flow → Shared → Prop} (Jh : Nat → Loc → Hp → Prop) {n₀ : Nat} (e0 : adr₀ <+: adr)
    (hE : PassesOwn (model prog w) c.A c.env E) (S : AtS prog w c m adr rest news H s) (hl : LocOk c.cl adr rest l m) (hj : Jh n₀ l H)
    (turn : ∀ k l' H', Jh k l' H' → ih.b c.cs (lpI st) l' H' (fun b H1 => cond b (ih.s c.cs (lpB st) l' H1 (fun fl l2 H2 => match fl with | .next => ∃ k', k' < k ∧ ∃ l3, Keeps l3 l2 ∧ ∃ H3, CutTo l3 H2 H3 ∧ adr₀.length ≤ H3.length ∧ Jh k' l3 H3 | .ret u => P (.ret u) l2 H2)) (P .next l' H1)))
    (r : RetS prog w c adr₀ rest s P Q) : wpAny (model prog w) c.A (exec st c.env) Q E s := by
  obtain ⟨test, body, pos, rfl⟩ := sWh.inv ho
  refine with_toks S.tk ?_
  refine While_inv2 (fun k m nx => ∃ l', JH prog w c.cl l' adr₀ rest (Jh k l') m nx) S.F S.N ⟨l, adr, rest, H, e0, Sub.rfl, S.R, hl, hj⟩ ?_ hE
  rintro k m₁ nx h₁ tk₁ F₁ N₁ ⟨l', adr1, rest1, H1, e1, e2, R1, L1, hj1⟩
  refine IH.b (c := { c with t0 := 0 }) (m := m₁) (adr := adr1) (rest := rest1) (news := nx) (H := H1) (l := l') ⟨G.dbg, G.loc, G.cel, G.fre⟩ hr ⟨F₁, N₁, R1, Nat.zero_le _⟩ (nmk (c := { c with t0 := 0 }) ⟨G.dbg, G.loc, G.cel, G.fre⟩ L1) (turn k l' H1 hj1) ?_
  intro b b' adr2 rest2 news2 H2 h2 tk2 q1 q2 S2 hm hp
  cases hm
  induction b with
  | false =>
    rw [if_neg (by decide)]
    exact fun ht => r .next .next l' m₁ adr2 rest2 news2 H2 h2 tk2 (e1.trans q1) (e2.trans q2) ⟨S2.F, S2.N, S2.R, ht⟩ (L1.mono q1 q2) mNext hp
  | true =>
    rw [if_pos rfl]
    refine IH.s (c := { c with t0 := 0 }) (m := m₁) (adr := adr2) (rest := rest2) (news := news2) (H := H2) (l := l') ⟨G.dbg, G.loc, G.cel, G.fre⟩ hr S2 (L1.mono q1 q2) hp ?_
    intro fl f l2 m' adr3 rest3 news3 H3 h3 tk3 q3 q4 S3 L3 hm hp
    induction fl with
    | ret u =>
      obtain ⟨u', rfl, hu⟩ := hm
      exact fun ht => r (.ret u) _ l2 m' adr3 rest3 news3 H3 h3 tk3 ((e1.trans q1).trans q3) ((e2.trans q2).trans q4) ⟨S3.F, S3.N, S3.R, ht⟩ L3 (mRet hu) hp
    | next =>
      cases hm
      obtain ⟨k', hk', l3, hkp, H4, ⟨⟨T, rfl⟩, hc1, hc2⟩, hlen, hj3⟩ := hp
      obtain ⟨own, R4, _⟩ := S3.R.cut hc1
      exact ⟨h3, tk3, m', news3, k', rfl, S3.F, S3.N, hk', l3, adr3.take H4.length, own ++ rest3, H4, pre_take ((e1.trans q1).trans q3) hlen, ((e2.trans q2).trans q4).trans (fun p hp => List.mem_append_right _ hp), R4, ((L3.keeps hkp).cut hc2).mono List.prefix_rfl (fun p hp => List.mem_append_right _ hp), hj3⟩
end
end Mine
end
section
open PySem PySem.W PyProof.Rows PySem.Spec PySem.Calls
set_option maxRecDepth 100000
namespace Mine
/-! loops whose locals change; contracts whose heap is cut back -/
section
variable {prog : Program} {w : World} {K : Frag} {Γ : GE}
variable {c : FC K Γ} {T : Tabs} {ih : Ev} {n : Nat} {m : Str → Option Value} {adr : List Addr} {rest news : Led} {H : Hp} {s : Shared} {E : Value → Shared → Prop} {l : Loc}
theorem for_r1l (IH : Sound prog w K Γ ih n) (G : FG c) (hr : Room c.A n) {st : Stmt} (ho : r1Ok st = true) {N : Nat} {P : Fl → Loc → Hp → Prop} {Q : Flow → Shared → Prop} (Jh : Nat → Loc → Hp → Prop)
    (hE : PassesOwn (model prog w) c.A c.env E) (hx : c.cs.names.lookup (lpX st) = some .local) (hg : c.cs.names.lookup (Str.ofString "range") = some .globalImplicit) (hn : nsIn K mainGlobals (Str.ofString "range") = some none) (S : AtS prog w c m adr rest news H s) (hl : LocOk c.cl adr rest l m)
    (hi : ih.e c.cs (rgA 0 st) l H (fun v H1 => v = .d (.int (N : Int)) ∧ Jh 0 l H1)) (hN : (N : Int) < 2 ^ 60)
    (turn : ∀ (i : Nat) l' H', i < N → Jh i l' H' → ih.s c.cs (lpB st) ((lpX st, .d (.int (i : Int))) :: l') H' (fun fl l2 H2 => match fl with | .next => ∃ l3, Keeps l3 l2 ∧ Jh (i + 1) l3 H2 | .ret u => P (.ret u) l2 H2))
    (done : ∀ l' H', Jh N l' H' → P .next l' H') (r : RetS prog w c adr rest s P Q) : wpAny (model prog w) c.A (exec st c.env) Q E s := by
  obtain ⟨x, px, pr, e, po, body, pos, rfl, he⟩ := r1Ok.inv ho
  refine with_toks S.tk ?_
  refine For_invVF S.F hx (by show (c.cs.kind == .class || (c.cs.kind == .module && _)) = false; rw [c.hk]; rfl) ?_ (fun Z => rfl) hE
  refine Call_ (nameX_B S.F c.X (topRead_of c.T) hn boot_range (by decide +kernel) ?_ c.hk hg (by decide +kernel))
  refine Pv.callWith_type1 (args_cons (IH.e G hr S (nmk G hl) hi fun v u adr1 rest1 news1 H1 h1 tk1 e1 e2 S1 hm hp => args_nil ?_) (starEach_cons he)) (starEach_cons he) rfl
  obtain ⟨rfl, hj⟩ := hp
  obtain ⟨_, rfl⟩ := dInv hm
  refine range1_rows S1.F S1.N fun h' tk t₁ u₁ v₁ hR F' N' Z => ?_
  refine for_range (s := { s with heap := h', toks := tk }) (n := N) (fun i m nx => ∃ l', JH prog w c.cl l' adr1 rest1 (Jh i l') m nx) c.hh hR (small_lt (Int.le_refl _) hN (Int.natCast_nonneg N)) (by have := rangeSize_nat 0 N; simpa using this) F' N' ⟨l, adr1, rest1, H1, List.prefix_rfl, Sub.rfl, S1.R, hl.mono e1 e2, hj⟩ ?_ ?_
  · rintro i t m₁ nx h tk I oI hk hns hlt hne ⟨l', adr2, rest2, H2, q1, q2, R2, L2, hj2⟩ F₁ N₁
    have ei : (0 : Int) + (i : Int) * 1 = (i : Int) := by omega
    rw [ei] at F₁
    exact turn_l IH G hr q1 q2 R2 L2 hns hne (fun q hq => Nat.ne_of_lt (hlt q (S1.R.rest_sub q hq))) F₁ N₁ mInt (G.loc _ hx) (turn i l' H2 hk hj2) (r.then e1 e2)
  · rintro m' nx h tk ⟨l', adr2, rest2, H2, q1, q2, R2, L2, hj2⟩ F' N' ht
    exact r .next .next l' m' adr2 rest2 nx H2 h tk (e1.trans q1) (e2.trans q2) ⟨F', N', R2, ht⟩ L2 mNext (done l' H2 hj2)
theorem for_sl (IH : Sound prog w K Γ ih n) (G : FG c) (hr : Room c.A n) {st : Stmt} (ho : itOk st = true) {text : Str} {P : Fl → Loc → Hp → Prop} {Q : Flow → Shared → Prop} (Jh : Nat → Loc → Hp → Prop)
    (hE : PassesOwn (model prog w) c.A c.env E) (hx : c.cs.names.lookup (lpX st) = some .local) (S : AtS prog w c m adr rest news H s) (hl : LocOk c.cl adr rest l m)
    (hi : ih.e c.cs (lpI st) l H (fun v H1 => v = .d (.str text) ∧ Jh 0 l H1))
    (turn : ∀ i k l' H', text.cps[i]? = some k → Jh i l' H' → ih.s c.cs (lpB st) ((lpX st, .d (.str (one k))) :: l') H' (fun fl l2 H2 => match fl with | .next => ∃ l3, Keeps l3 l2 ∧ Jh (i + 1) l3 H2 | .ret u => P (.ret u) l2 H2))
    (done : ∀ l' H', Jh text.cps.size l' H' → P .next l' H') (r : RetS prog w c adr rest s P Q) : wpAny (model prog w) c.A (exec st c.env) Q E s := by
  obtain ⟨x, q, iter, body, p1, rfl, h1⟩ := sFor.inv ho
  obtain ⟨y, q1, rfl, _⟩ := pName.inv h1
  refine with_toks S.tk ?_
  refine For_invVF S.F hx (by show (c.cs.kind == .class || (c.cs.kind == .module && _)) = false; rw [c.hk]; rfl) ?_ (fun Z => rfl) hE
  refine IH.e G hr S (nmk G hl) hi fun v u adr1 rest1 news1 H1 h1 tk1 e1 e2 S1 hm hp => ?_
  obtain ⟨rfl, hj⟩ := hp
  obtain ⟨_, rfl⟩ := dInv hm
  refine for_str (fun i m nx => ∃ l', JH prog w c.cl l' adr1 rest1 (Jh i l') m nx) c.hh S1.F S1.N ⟨l, adr1, rest1, H1, List.prefix_rfl, Sub.rfl, S1.R, hl.mono e1 e2, hj⟩ ?_ ?_
  · rintro i k t m₁ nx h tk I oI hk hns hlt hne ⟨l', adr2, rest2, H2, q1, q2, R2, L2, hj2⟩ F₁ N₁
    exact turn_l IH G hr q1 q2 R2 L2 hns hne (fun q hq => Nat.ne_of_lt (hlt q (S1.R.rest_sub q hq))) F₁ N₁ mStr (G.loc _ hx) (turn i k l' H2 hk hj2) (r.then e1 e2)
  · rintro m' nx h tk ⟨l', adr2, rest2, H2, q1, q2, R2, L2, hj2⟩ F' N' ht
    exact r .next .next l' m' adr2 rest2 nx H2 h tk (e1.trans q1) (e2.trans q2) ⟨F', N', R2, ht⟩ L2 mNext (done l' H2 hj2)
/-- a datum given back, the heap behind the call's own forgotten -/
theorem Ret.cutH {P : KV} {R : Value → Shared → Prop} (S : AtS prog w c m adr rest news H s) (r : Ret prog w Mt c m adr rest s P R) : Ret prog w Mt c m adr rest s (fun v H1 => (∃ d, v = .d d) ∧ (∃ X, H1 = H ++ X) ∧ P v H) R := by
  rintro b a adr' rest' news' H' h' tk' e1 e2 S' hm ⟨⟨d, rfl⟩, ⟨X, rfl⟩, hp⟩
  obtain ⟨own, R4, _⟩ := S'.R.cut S.R.small
  exact r (.d d) a (adr'.take H.length) (own ++ rest') news' H h' tk' (pre_take e1 (Nat.le_of_eq S.R.len)) (e2.trans fun p hp => List.mem_append_right _ hp) ⟨S'.F, S'.N, R4, S'.tk⟩ (DatIn.mono (fun p hp => List.mem_append_right _ hp) hm) hp
noncomputable def isDat : LV → Bool
  | .d _ => true
  | _ => false
theorem mtl_frz {own : Led} : ∀ {lvs : List LV} {vs : List Value}, MtL adr rest lvs vs → lvs.all isDat = true → MtL [] (own ++ rest) lvs vs
  | _, _, .nil, _ => .nil
  | _, _, .cons (a := a) h r, hs => by
    obtain ⟨h1, h2⟩ := Bool.and_eq_true_iff.mp hs
    refine .cons ?_ (mtl_frz r h2)
    induction a with
    | d x => exact DatIn.mono (fun p hp => List.mem_append_right _ hp) h
    | _ => cases h1
/-- a call with data alone, the heap laid aside; a text is given back -/
theorem frz {lvs : List LV} {vs : List Value} {P : KV} {R : Value → Shared → Prop} (S : AtS prog w c m adr rest news H s) (hm : MtL adr rest lvs vs) (hd : lvs.all isDat = true) (r : Ret prog w Mt c m adr rest s P R) :
    ∃ own, AtS prog w c m [] (own ++ rest) news [] s ∧ MtL [] (own ++ rest) lvs vs ∧ Ret prog w Mt c m [] (own ++ rest) s (fun v X => ∃ y, v = .d (.str y) ∧ P v H) R := by
  obtain ⟨own, O, Sb, D⟩ := S.R
  refine ⟨own, ⟨S.F, S.N, ⟨[], .nil, Sb, D⟩, S.tk⟩, mtl_frz hm hd, ?_⟩
  rintro b a adr' rest' news' H' h' tk' e1 e2 S' hb ⟨y, rfl, hp⟩
  obtain ⟨t, rfl⟩ := dInv hb
  exact r _ _ adr rest news' H h' tk' List.prefix_rfl Sub.rfl ⟨S'.F, S'.N, ⟨own, O, fun z hz => S'.R.rest_sub z (e2 z hz), D⟩, S'.tk⟩ mStr hp
end
end Mine
end
section
open PySem PySem.W PyProof.Rows PySem.Calls
set_option maxRecDepth 100000
set_option maxHeartbeats 8000000
namespace Mine
noncomputable abbrev KF (w : World) : Frag := kf w.params
noncomputable def fdOf (K : Frag) (f : Addr) : FuncData := match K.lookup f with | some ⟨_, _, .func fd, _⟩ => fd | _ => default
noncomputable def globs : List (Str × LV) := [(Str.ofString "is_blank", .top 28), (Str.ofString "is_upper", .top 35), (Str.ofString "lower", .top 42), (Str.ofString "is_surrogate", .top 49), (Str.ofString "is_noncharacter", .top 56), (Str.ofString "is_control", .top 63), (Str.ofString "begin_doctype", .top 126), (Str.ofString "give_doctype", .top 133), (Str.ofString "give_quirky", .top 140), (Str.ofString "end_within", .top 147), (Str.ofString "spoil", .top 154), (Str.ofString "add_to_identifier", .top 161), (Str.ofString "open_identifier", .top 168), (Str.ofString "doctype_state", .top 175), (Str.ofString "before_name_state", .top 182), (Str.ofString "name_state", .top 189), (Str.ofString "after_name_state", .top 196), (Str.ofString "after_keyword", .top 203), (Str.ofString "before_identifier", .top 210), (Str.ofString "no_identifier", .top 217), (Str.ofString "within_identifier", .top 224), (Str.ofString "after_public_keyword_state", .top 231), (Str.ofString "before_public_state", .top 238), (Str.ofString "public_double_state", .top 245), (Str.ofString "public_single_state", .top 252), (Str.ofString "after_public_state", .top 259), (Str.ofString "between_state", .top 266), (Str.ofString "no_second", .top 273), (Str.ofString "after_system_keyword_state", .top 280), (Str.ofString "before_system_state", .top 287), (Str.ofString "system_double_state", .top 294), (Str.ofString "system_single_state", .top 301), (Str.ofString "after_system_state", .top 308), (Str.ofString "bogus_state", .top 315), (Str.ofString "doctype_states", .top 322), (Str.ofString "input_error", .top 361), (Str.ofString "_law_digit", .top 573), (Str.ofString "_law_drawn", .top 580), (Str.ofString "_law_blanks", .top 587), (Str.ofString "_law_raised", .top 594), (Str.ofString "_law_one", .top 601), (Str.ofString "_law_identifier", .top 608), (Str.ofString "_law_doctype", .top 613), (Str.ofString "_law_data", .top 620), (Str.ofString "Draft", .top 115), (Str.ofString "Stream", .top 399), (Str.ofString "Tokenizer", .top 562), (Str.ofString "len", .bi "len"), (Str.ofString "ord", .bi "ord"), (Str.ofString "chr", .bi "chr")]
noncomputable def clss : List (Addr × List Str × List (Str × Addr)) := [(115, [Str.ofString "kind", Str.ofString "name", Str.ofString "text", Str.ofString "public", Str.ofString "system", Str.ofString "is_quirks", Str.ofString "is_closing", Str.ofString "attrs"], [(Str.ofString "begin_attr", 84), (Str.ofString "add_name", 91), (Str.ofString "add_value", 98), (Str.ofString "check_attr", 105), (Str.ofString "token", 112)]), (399, [Str.ofString "signs", Str.ofString "is_closed", Str.ofString "is_return", Str.ofString "errors"], [(Str.ofString "feed", 382), (Str.ofString "end", 389), (Str.ofString "many", 396)]), (562, [Str.ofString "states", Str.ofString "stream", Str.ofString "at", Str.ofString "state", Str.ofString "back", Str.ofString "out", Str.ofString "errors", Str.ofString "draft", Str.ofString "buffer", Str.ofString "code", Str.ofString "last", Str.ofString "is_foreign", Str.ofString "is_waiting", Str.ofString "is_done"], [(Str.ofString "feed", 425), (Str.ofString "end", 432), (Str.ofString "next", 439), (Str.ofString "to", 446), (Str.ofString "again", 453), (Str.ofString "error", 460), (Str.ofString "emit", 467), (Str.ofString "emit_sign", 474), (Str.ofString "emit_text", 481), (Str.ofString "emit_draft", 488), (Str.ofString "emit_eof", 495), (Str.ofString "is_apt", 502), (Str.ofString "looks", 510), (Str.ofString "take", 517), (Str.ofString "wait", 524), (Str.ofString "in_value", 531), (Str.ofString "flush", 538), (Str.ofString "step", 545), (Str.ofString "is_ready", 552), (Str.ofString "run", 559)])]
noncomputable def inits : List (Addr × Addr) := [(115, 77), (399, 375), (562, 418)]
noncomputable def fns0 : List (Addr × List Str × List LV) := [(28, [Str.ofString "c"], []), (35, [Str.ofString "c"], []), (42, [Str.ofString "c"], []), (49, [Str.ofString "n"], []), (56, [Str.ofString "n"], []), (63, [Str.ofString "n"], []), (77, [Str.ofString "self", Str.ofString "kind", Str.ofString "name"], []), (84, [Str.ofString "self"], []), (91, [Str.ofString "self", Str.ofString "text"], []), (98, [Str.ofString "self", Str.ofString "text"], []), (105, [Str.ofString "self"], []), (112, [Str.ofString "self"], []), (126, [Str.ofString "t", Str.ofString "name"], []), (133, [Str.ofString "t"], []), (140, [Str.ofString "t"], []), (147, [Str.ofString "t"], []), (154, [Str.ofString "t", Str.ofString "code"], []), (161, [Str.ofString "t", Str.ofString "sort", Str.ofString "text"], []), (168, [Str.ofString "t", Str.ofString "sort", Str.ofString "quote"], []), (175, [Str.ofString "t"], []), (182, [Str.ofString "t"], []), (189, [Str.ofString "t"], []), (196, [Str.ofString "t"], []), (203, [Str.ofString "t", Str.ofString "sort"], []), (210, [Str.ofString "t", Str.ofString "sort"], []), (217, [Str.ofString "t", Str.ofString "sort", Str.ofString "c"], []), (224, [Str.ofString "t", Str.ofString "sort", Str.ofString "quote"], []), (231, [Str.ofString "t"], []), (238, [Str.ofString "t"], []), (245, [Str.ofString "t"], []), (252, [Str.ofString "t"], []), (259, [Str.ofString "t"], []), (266, [Str.ofString "t"], []), (273, [Str.ofString "t", Str.ofString "c"], []), (280, [Str.ofString "t"], []), (287, [Str.ofString "t"], []), (294, [Str.ofString "t"], []), (301, [Str.ofString "t"], []), (308, [Str.ofString "t"], []), (315, [Str.ofString "t"], []), (322, [], []), (336, [Str.ofString "self", Str.ofString "why"], []), (361, [Str.ofString "n"], []), (375, [Str.ofString "self"], []), (382, [Str.ofString "self", Str.ofString "text"], []), (389, [Str.ofString "self"], []), (396, [Str.ofString "self"], []), (425, [Str.ofString "self", Str.ofString "text"], []), (432, [Str.ofString "self"], []), (439, [Str.ofString "self"], []), (446, [Str.ofString "self", Str.ofString "state"], []), (453, [Str.ofString "self", Str.ofString "state"], []), (460, [Str.ofString "self", Str.ofString "code"], []), (467, [Str.ofString "self", Str.ofString "token"], []), (474, [Str.ofString "self", Str.ofString "sign"], []), (481, [Str.ofString "self", Str.ofString "text"], []), (488, [Str.ofString "self"], []), (495, [Str.ofString "self"], []), (502, [Str.ofString "self"], []), (517, [Str.ofString "self", Str.ofString "many"], []), (524, [Str.ofString "self"], []), (531, [Str.ofString "self"], []), (538, [Str.ofString "self"], []), (545, [Str.ofString "self"], []), (552, [Str.ofString "self"], []), (559, [Str.ofString "self"], []), (573, [Str.ofString "script", Str.ofString "place"], []), (580, [Str.ofString "digit", Str.ofString "signs", Str.ofString "least", Str.ofString "most"], []), (587, [Str.ofString "digit", Str.ofString "least"], []), (594, [Str.ofString "text", Str.ofString "digit"], []), (601, [Str.ofString "text"], []), (608, [Str.ofString "digit", Str.ofString "quote"], []), (620, [Str.ofString "t"], [])]
noncomputable abbrev fnsT : List (Addr × List Str × List LV) := (418, [Str.ofString "self", Str.ofString "states", Str.ofString "state", Str.ofString "last"], [.d (.str (Str.ofString "data")), .d (.str (Str.ofString ""))]) :: (510, [Str.ofString "self", Str.ofString "word", Str.ofString "is_folded"], []) :: fns0
noncomputable abbrev TT : Tabs := ⟨globs, clss, inits, fnsT, [613]⟩
/-! the written part and one object more (the script) -/
@[irreducible] noncomputable def KX (w : World) (Y : Frag) : Frag := kf w.params ++ Y
theorem lookup_app {a : Addr} {o : Obj} : ∀ {K Y : Frag}, K.lookup a = some o → (K ++ Y).lookup a = some o
  | [], _, h => by cases h
  | (b, o') :: K, Y, h => by
    rw [List.cons_append, List.lookup_cons]
    rw [List.lookup_cons] at h
    cases e : a == b with
    | true => rw [e] at h; exact h
    | false => rw [e] at h; exact lookup_app h
theorem lookup_app_or {a : Addr} {o : Obj} : ∀ {K Y : Frag}, (K ++ Y).lookup a = some o → K.lookup a = some o ∨ Y.lookup a = some o
  | [], _, h => .inr h
  | (b, o') :: K, Y, h => by
    rw [List.cons_append, List.lookup_cons] at h
    rw [List.lookup_cons]
    cases e : a == b with
    | true => rw [e] at h; exact .inl h
    | false => rw [e] at h; exact lookup_app_or h
theorem lookup_app_none {a : Addr} : ∀ {K Y : Frag}, K.lookup a = none → (K ++ Y).lookup a = Y.lookup a
  | [], _, _ => rfl
  | (b, o') :: K, Y, h => by
    rw [List.cons_append, List.lookup_cons]
    rw [List.lookup_cons] at h
    cases e : a == b with
    | true => rw [e] at h; cases h
    | false => rw [e] at h; exact lookup_app_none h
theorem kx_in {w : World} {Y : Frag} {h : Heap} (X : (KX w Y).In h) : (KF w).In h := fun a o e => X a o (by unfold KX; exact lookup_app e)
theorem tk_iniX (w : World) (Y : Frag) : FnOk (KX w Y) 418 [Str.ofString "self", Str.ofString "states", Str.ofString "state", Str.ofString "last"] [.d (.str (Str.ofString "data")), .d (.str (Str.ofString ""))] := by
  refine fnOk_gen (d := .ref 411) (by kernel_rfl) fun fd oc od osl hk hc hd s adr rest lvs vs full X hm hf => ?_
  have e : fdOf (KX w Y) 418 = fd := by unfold fdOf; rw [hk]
  subst e
  cases hm with
  | nil => cases hf
  | cons h1 hm => cases hm with
    | nil => cases hf
    | cons h2 hm => cases hm with
      | nil => cases hf; exact ⟨_, .cons h1 (.cons h2 (.cons (mStr (t := 672)) (.cons (mStr (t := 673)) .nil))), rfl, binds_peek X fun Z => by kernel_rfl⟩
      | cons h3 hm => cases hm with
        | nil => cases hf; exact ⟨_, .cons h1 (.cons h2 (.cons h3 (.cons (mStr (t := 673)) .nil))), rfl, binds_peek X fun Z => by kernel_rfl⟩
        | cons h4 hm => cases hm with
          | nil => cases hf
          | cons _ _ => cases hf
theorem tk_looksX (w : World) (Y : Frag) : FnOk (KX w Y) 510 [Str.ofString "self", Str.ofString "word", Str.ofString "is_folded"] [] := by
  refine fnOk_gen (d := .ref 503) (by kernel_rfl) fun fd oc od osl hk hc hd s adr rest lvs vs full X hm hf => ?_
  have e : fdOf (KX w Y) 510 = fd := by unfold fdOf; rw [hk]
  subst e
  cases hm with
  | nil => cases hf
  | cons h1 hm => cases hm with
    | nil => cases hf
    | cons h2 hm => cases hm with
      | nil => cases hf
      | cons h3 hm => cases hm with
        | nil => cases hf; exact ⟨_, .cons h1 (.cons h2 (.cons h3 .nil)), rfl, binds_peek X fun Z => by kernel_rfl⟩
        | cons _ _ => cases hf
theorem tt_globX (w : World) (Y : Frag) : globs.all (gChk (KX w Y)) = true := by kernel_rfl
theorem tt_clsX (w : World) (Y : Frag) : clss.all (cChk (KX w Y)) = true := by kernel_rfl
theorem tt_initX (w : World) (Y : Frag) : inits.all (iChk (KX w Y)) = true := by kernel_rfl
theorem tt_fnsX (w : World) (Y : Frag) : (fns0.all fun q => q.2.2.isEmpty && fnChk (KX w Y) .none q.1 q.2.1) = true := by kernel_rfl
theorem tt_cfX (w : World) (Y : Frag) : (TT.cfn.all fun f => keepIn (KX w Y) (.ref f)) = true := by kernel_rfl
theorem tt_okX (w : World) (Y : Frag) : TT.Ok (KX w Y) :=
  ⟨glob_of (tt_globX w Y), cls_of (tt_clsX w Y), init_of (tt_initX w Y), fns_of (tt_fnsX w Y) (tk_iniX w Y) (tk_looksX w Y), cf_of (tt_cfX w Y)⟩
theorem kx_nil (w : World) : KX w [] = KF w := by unfold KX; exact List.append_nil _
theorem tt_ok (w : World) : TT.Ok (KF w) := kx_nil w ▸ tt_okX w []
theorem tk_looks (w : World) : FnOk (KF w) 510 [Str.ofString "self", Str.ofString "word", Str.ofString "is_folded"] [] := kx_nil w ▸ tk_looksX w []
end Mine
end
section
open PySem PySem.W PyProof.Rows PySem.Calls
set_option maxRecDepth 100000
namespace Mine
/-! the tokenizer's abstract heap -/
noncomputable abbrev S (x : String) : Str := Str.ofString x
noncomputable abbrev eD (code : Str) (i : Int) : Dat := .tuple [.str code, .int i]
noncomputable abbrev docD (nm pb sy : Dat) (qk : Bool) : Dat := .tuple [.str (S "doctype"), nm, pb, sy, .bool qk]
noncomputable abbrev eofD : Dat := .tuple [.str (S "eof")]
noncomputable def HH (tab : List (Str × Addr)) (signs : List Nat) (closed ret : Bool) (serr : List Dat) (pos : Int) (state : Str) (out errs : List Dat) (wait done : Bool) (dv : LV) (D : Hp) : Hp :=
  .tab tab :: .inst 562 [(S "states", .obj 0), (S "stream", .obj 2), (S "at", .d (.int pos)), (S "state", .d (.str state)), (S "back", .d (.str (S "data"))), (S "out", .obj 5), (S "errors", .obj 6), (S "draft", dv), (S "buffer", .d (.str (S ""))), (S "code", .d (.int 0)), (S "last", .d (.str (S ""))), (S "is_foreign", .d (.bool false)), (S "is_waiting", .d (.bool wait)), (S "is_done", .d (.bool done))] ::
  .inst 399 [(S "signs", .obj 3), (S "is_closed", .d (.bool closed)), (S "is_return", .d (.bool ret)), (S "errors", .obj 4)] :: .chars signs :: .list serr :: .list out :: .list errs :: D
noncomputable def DD (nm pb sy : Dat) (qk : Bool) : Hp := [.inst 115 [(S "kind", .d (.str (S "doctype"))), (S "name", .d nm), (S "text", .d (.str (S ""))), (S "public", .d pb), (S "system", .d sy), (S "is_quirks", .d (.bool qk)), (S "is_closing", .d (.bool false)), (S "attrs", .obj 8)], .list []]
noncomputable def TAB : List (Str × Addr) := [(Str.ofString "DOCTYPE", 175), (Str.ofString "before DOCTYPE name", 182), (Str.ofString "DOCTYPE name", 189), (Str.ofString "after DOCTYPE name", 196), (Str.ofString "after DOCTYPE public keyword", 231), (Str.ofString "before DOCTYPE public identifier", 238), (Str.ofString "DOCTYPE public identifier (double-quoted)", 245), (Str.ofString "DOCTYPE public identifier (single-quoted)", 252), (Str.ofString "after DOCTYPE public identifier", 259), (Str.ofString "between DOCTYPE public and system identifiers", 266), (Str.ofString "after DOCTYPE system keyword", 280), (Str.ofString "before DOCTYPE system identifier", 287), (Str.ofString "DOCTYPE system identifier (double-quoted)", 294), (Str.ofString "DOCTYPE system identifier (single-quoted)", 301), (Str.ofString "after DOCTYPE system identifier", 308), (Str.ofString "bogus DOCTYPE", 315), (Str.ofString "data", 620)]
noncomputable abbrev dN : LV := .d .none
noncomputable def noPm : Pm := fun Z => none
noncomputable abbrev EV (w : World) (Pr : Pm) (n : Nat) : Ev := Ev.run (KF w) TT Pr n
noncomputable def gd (n : Nat) (X : Prop) : Prop := cond (Nat.ble n szLine) X False
/-! pure defs -/
noncomputable def lowN (k : Nat) : Nat := cond (Nat.ble 65 k && Nat.ble k 90) (k + 32) k
/-- what stands ahead, against a word's signs -/
noncomputable def lkN (signs : List Nat) (closed : Bool) : List Nat → Nat → Int
  | [], _ => 1
  | c :: ws, p => cond (Nat.ble signs.length p) (cond closed 0 (-1)) (cond (lowN (signs.getD p 0) == c) (lkN signs closed ws (p + 1)) 0)
noncomputable def lkI (signs : List Nat) (closed : Bool) (pos : Int) (wd : Str) : Int := lkN signs closed wd.cps.toList pos.toNat
noncomputable def LookOk (tab : List (Str × Addr)) (signs : List Nat) (closed : Bool) (pos : Int) (H : Hp) : Prop := 0 ≤ pos ∧ signs.length ≤ szLine ∧ ∃ ret serr state out errs wait done dv D, H = HH tab signs closed ret serr pos state out errs wait done dv D
noncomputable def spLow (lvs : List LV) (H : Hp) (P : KV) : Prop := uA [.s] lvs fun v => uc (Str.cps v.1).toList fun k t => un t (P (.d (.str (one (lowN k)))) H)
noncomputable def atOf : Hp → Int
  | _ :: .inst _ fs :: _ => (match fs.lookup (S "at") with | some (.d (.int i)) => i | _ => 0)
  | _ => 0
noncomputable def spLook (tab : List (Str × Addr)) (signs : List Nat) (closed : Bool) (lvs : List LV) (H : Hp) (P : KV) : Prop := uA [.o 1, .s, .t] lvs fun v => cond (Nat.ble (Str.length v.2.1) 100) (LookOk tab signs closed (atOf H) H ∧ P (.d (.int (lkI signs closed (atOf H) v.2.1))) H) False
noncomputable def P1 : Pm := fun f => cond (Nat.beq f 42) (some spLow) none
noncomputable def P2 (tab : List (Str × Addr)) (signs : List Nat) (closed : Bool) : Pm := fun f => cond (Nat.beq f 42) (some spLow) (cond (Nat.beq f 510) (some (spLook tab signs closed)) none)
end Mine
end
section
open PySem PySem.W PyProof.Rows PySem.Calls
set_option maxRecDepth 100000
set_option maxHeartbeats 8000000
namespace Mine
section
variable {w : World} {tab : List (Str × Addr)} {signs : List Nat} {closed ret : Bool} {serr : List Dat} {pos : Int} {state : Str} {out errs : List Dat} {wait done : Bool} {nm pb sy : Dat} {qk : Bool} {x : Str} {P : KV}
theorem v_doctype : (EV w (P2 TAB signs closed) 60).c 545 [.obj 1] (HH TAB signs closed ret serr pos (S "DOCTYPE") out errs wait done dN []) P =
  (gd (List.length signs)
   (cond (decide (pos < (↑(List.length signs) : Int)))
    ((0 ≤ pos ∧ pos < (↑(List.length signs) : Int) ∧ List.length signs ≤ szLine) ∧
     (cond (List.any [Str.ofString "\t", Str.ofString "\n", Str.ofString "\x0c", Str.ofString " "] fun y => y == one (List.getD signs (Int.toNat pos) 0))
      (P (.d (.none)) (HH TAB signs closed ret serr (pos + 1) (S "before DOCTYPE name") out errs false done dN []))
      (cond (one (List.getD signs (Int.toNat pos) 0) == Str.ofString ">")
       (P (.d (.none)) (HH TAB signs closed ret serr (pos + 1 - 1) (S "before DOCTYPE name") out errs false done dN []))
       (gd (List.length errs)
        (P (.d (.none)) (HH TAB signs closed ret serr (pos + 1 - 1) (S "before DOCTYPE name") out (errs ++ [.tuple [.str (S "missing-whitespace-before-doctype-name"), .int (pos + 1 - 1)]]) false done dN []))))))
    (gd (List.length errs)
     (gd (List.length out)
      (gd (List.length (out ++ [Dat.tuple [Dat.str (Str.ofString "doctype"), Dat.none, Dat.none, Dat.none, Dat.bool true]]))
       (P (.d (.none)) (HH TAB signs closed ret serr (pos + 1) (S "DOCTYPE") ((out ++ [.tuple [.str (S "doctype"), .none, .none, .none, .bool (true)]]) ++ [.tuple [.str (S "eof")]]) (errs ++ [.tuple [.str (S "eof-in-doctype"), .int (pos + 1 - 1)]]) false true dN (DD (.none) (.none) (.none) true))))))))
   := by kernel_rfl
theorem v_before_name : (EV w (P2 TAB signs closed) 60).c 545 [.obj 1] (HH TAB signs closed ret serr pos (S "before DOCTYPE name") out errs wait done dN []) P =
  (gd (List.length signs)
   (cond (decide (pos < (↑(List.length signs) : Int)))
    ((0 ≤ pos ∧ pos < (↑(List.length signs) : Int) ∧ List.length signs ≤ szLine) ∧
     (cond (List.any [Str.ofString "\t", Str.ofString "\n", Str.ofString "\x0c", Str.ofString " "] fun y => y == one (List.getD signs (Int.toNat pos) 0))
      (P (.d (.none)) (HH TAB signs closed ret serr (pos + 1) (S "before DOCTYPE name") out errs false done dN []))
      (cond (one (List.getD signs (Int.toNat pos) 0) == Str.ofString "\x00")
       (gd (List.length errs)
        (P (.d (.none)) (HH TAB signs closed ret serr (pos + 1) (S "DOCTYPE name") out (errs ++ [.tuple [.str (S "unexpected-null-character"), .int (pos + 1 - 1)]]) false done (.obj 7) (DD (.str (S "\ufffd")) (.none) (.none) false))))
       (cond (one (List.getD signs (Int.toNat pos) 0) == Str.ofString ">")
        (gd (List.length errs)
         (gd (List.length out)
          (P (.d (.none)) (HH TAB signs closed ret serr (pos + 1) (S "data") (out ++ [.tuple [.str (S "doctype"), .none, .none, .none, .bool (true)]]) (errs ++ [.tuple [.str (S "missing-doctype-name"), .int (pos + 1 - 1)]]) false done dN (DD (.none) (.none) (.none) true)))))
        (P (.d (.none)) (HH TAB signs closed ret serr (pos + 1) (S "DOCTYPE name") out errs false done (.obj 7) (DD (.str (one (lowN (List.getD signs (Int.toNat pos) 0)))) (.none) (.none) false)))))))
    (gd (List.length errs)
     (gd (List.length out)
      (gd (List.length (out ++ [Dat.tuple [Dat.str (Str.ofString "doctype"), Dat.none, Dat.none, Dat.none, Dat.bool true]]))
       (P (.d (.none)) (HH TAB signs closed ret serr (pos + 1) (S "before DOCTYPE name") ((out ++ [.tuple [.str (S "doctype"), .none, .none, .none, .bool (true)]]) ++ [.tuple [.str (S "eof")]]) (errs ++ [.tuple [.str (S "eof-in-doctype"), .int (pos + 1 - 1)]]) false true dN (DD (.none) (.none) (.none) true))))))))
   := by kernel_rfl
theorem v_name : (EV w (P2 TAB signs closed) 60).c 545 [.obj 1] (HH TAB signs closed ret serr pos (S "DOCTYPE name") out errs wait done (.obj 7) (DD (.str x) pb sy qk)) P =
  (gd (List.length signs)
   (cond (decide (pos < (↑(List.length signs) : Int)))
    ((0 ≤ pos ∧ pos < (↑(List.length signs) : Int) ∧ List.length signs ≤ szLine) ∧
     (cond (List.any [Str.ofString "\t", Str.ofString "\n", Str.ofString "\x0c", Str.ofString " "] fun y => y == one (List.getD signs (Int.toNat pos) 0))
      (P (.d (.none)) (HH TAB signs closed ret serr (pos + 1) (S "after DOCTYPE name") out errs false done (.obj 7) (DD (.str (x)) (pb) (sy) qk)))
      (cond (one (List.getD signs (Int.toNat pos) 0) == Str.ofString ">")
       (gd (List.length out)
        (P (.d (.none)) (HH TAB signs closed ret serr (pos + 1) (S "data") (out ++ [.tuple [.str (S "doctype"), .str (x), pb, sy, .bool (qk)]]) errs false done dN (DD (.str (x)) (pb) (sy) qk))))
       (cond (one (List.getD signs (Int.toNat pos) 0) == Str.ofString "\x00")
        (gd (List.length errs)
         (gd (Str.length x + Str.length (Str.ofString "�"))
          (P (.d (.none)) (HH TAB signs closed ret serr (pos + 1) (S "DOCTYPE name") out (errs ++ [.tuple [.str (S "unexpected-null-character"), .int (pos + 1 - 1)]]) false done (.obj 7) (DD (.str ((x ++ S "\ufffd"))) (pb) (sy) qk)))))
        (gd (Str.length x + Str.length (one (lowN (List.getD signs (Int.toNat pos) 0))))
         (P (.d (.none)) (HH TAB signs closed ret serr (pos + 1) (S "DOCTYPE name") out errs false done (.obj 7) (DD (.str ((x ++ one (lowN (List.getD signs (Int.toNat pos) 0))))) (pb) (sy) qk))))))))
    (gd (List.length errs)
     (gd (List.length out)
      (gd (List.length (out ++ [Dat.tuple [Dat.str (Str.ofString "doctype"), Dat.str x, pb, sy, Dat.bool true]]))
       (P (.d (.none)) (HH TAB signs closed ret serr (pos + 1) (S "DOCTYPE name") ((out ++ [.tuple [.str (S "doctype"), .str (x), pb, sy, .bool (true)]]) ++ [.tuple [.str (S "eof")]]) (errs ++ [.tuple [.str (S "eof-in-doctype"), .int (pos + 1 - 1)]]) false true dN (DD (.str (x)) (pb) (sy) true))))))))
   := by kernel_rfl
theorem v_after_name : (EV w (P2 TAB signs closed) 60).c 545 [.obj 1] (HH TAB signs closed ret serr pos (S "after DOCTYPE name") out errs wait done (.obj 7) (DD nm pb sy qk)) P =
  (gd (List.length signs)
   (cond (decide (pos < (↑(List.length signs) : Int)))
    ((0 ≤ pos ∧ pos < (↑(List.length signs) : Int) ∧ List.length signs ≤ szLine) ∧
     (cond (List.any [Str.ofString "\t", Str.ofString "\n", Str.ofString "\x0c", Str.ofString " "] fun y => y == one (List.getD signs (Int.toNat pos) 0))
      (P (.d (.none)) (HH TAB signs closed ret serr (pos + 1) (S "after DOCTYPE name") out errs false done (.obj 7) (DD (nm) (pb) (sy) qk)))
      (cond (one (List.getD signs (Int.toNat pos) 0) == Str.ofString ">")
       (gd (List.length out)
        (P (.d (.none)) (HH TAB signs closed ret serr (pos + 1) (S "data") (out ++ [.tuple [.str (S "doctype"), nm, pb, sy, .bool (qk)]]) errs false done dN (DD (nm) (pb) (sy) qk))))
       (LookOk TAB signs closed (pos + 1 - 1) (HH TAB signs closed ret serr (pos + 1 - 1) (S "after DOCTYPE name") out errs false done (.obj 7) (DD (nm) (pb) (sy) qk)) ∧
        (LookOk TAB signs closed (pos + 1 - 1) (HH TAB signs closed ret serr (pos + 1 - 1) (S "after DOCTYPE name") out errs false done (.obj 7) (DD (nm) (pb) (sy) qk)) ∧
         (cond (lkI signs closed (pos + 1 - 1) (Str.ofString "public") == 1)
          (P (.d (.none)) (HH TAB signs closed ret serr (pos + 1 - 1 + 6) (S "after DOCTYPE public keyword") out errs false done (.obj 7) (DD (nm) (pb) (sy) qk)))
          (cond (lkI signs closed (pos + 1 - 1) (Str.ofString "system") == 1)
           (P (.d (.none)) (HH TAB signs closed ret serr (pos + 1 - 1 + 6) (S "after DOCTYPE system keyword") out errs false done (.obj 7) (DD (nm) (pb) (sy) qk)))
           (cond (lkI signs closed (pos + 1 - 1) (Str.ofString "public") == -1)
            (P (.d (.none)) (HH TAB signs closed ret serr (pos) (S "after DOCTYPE name") out errs true done (.obj 7) (DD (nm) (pb) (sy) qk)))
            (cond (lkI signs closed (pos + 1 - 1) (Str.ofString "system") == -1)
             (P (.d (.none)) (HH TAB signs closed ret serr (pos) (S "after DOCTYPE name") out errs true done (.obj 7) (DD (nm) (pb) (sy) qk)))
             (gd (List.length errs)
              (P (.d (.none)) (HH TAB signs closed ret serr (pos + 1 - 1 + 1 - 1) (S "bogus DOCTYPE") out (errs ++ [.tuple [.str (S "invalid-character-sequence-after-doctype-name"), .int (pos + 1 - 1 + 1 - 1)]]) false done (.obj 7) (DD (nm) (pb) (sy) true)))))))))))))
    (gd (List.length errs)
     (gd (List.length out)
      (gd (List.length (out ++ [Dat.tuple [Dat.str (Str.ofString "doctype"), nm, pb, sy, Dat.bool true]]))
       (P (.d (.none)) (HH TAB signs closed ret serr (pos + 1) (S "after DOCTYPE name") ((out ++ [.tuple [.str (S "doctype"), nm, pb, sy, .bool (true)]]) ++ [.tuple [.str (S "eof")]]) (errs ++ [.tuple [.str (S "eof-in-doctype"), .int (pos + 1 - 1)]]) false true dN (DD (nm) (pb) (sy) true))))))))
   := by kernel_rfl
theorem v_after_pk : (EV w (P2 TAB signs closed) 60).c 545 [.obj 1] (HH TAB signs closed ret serr pos (S "after DOCTYPE public keyword") out errs wait done (.obj 7) (DD nm pb sy qk)) P =
  (gd (List.length signs)
   (cond (decide (pos < (↑(List.length signs) : Int)))
    ((0 ≤ pos ∧ pos < (↑(List.length signs) : Int) ∧ List.length signs ≤ szLine) ∧
     (cond (List.any [Str.ofString "\t", Str.ofString "\n", Str.ofString "\x0c", Str.ofString " "] fun y => y == one (List.getD signs (Int.toNat pos) 0))
      (P (.d (.none)) (HH TAB signs closed ret serr (pos + 1) (S "before DOCTYPE public identifier") out errs false done (.obj 7) (DD (nm) (pb) (sy) qk)))
      (cond (one (List.getD signs (Int.toNat pos) 0) == Str.ofString "\"")
       (gd (List.length errs)
        (cond (one (List.getD signs (Int.toNat pos) 0) == Str.ofString "\"")
         (P (.d (.none)) (HH TAB signs closed ret serr (pos + 1) (S "DOCTYPE public identifier (double-quoted)") out (errs ++ [.tuple [.str (S "missing-whitespace-after-doctype-public-keyword"), .int (pos + 1 - 1)]]) false done (.obj 7) (DD (nm) (.str (S "")) (sy) qk)))
         (P (.d (.none)) (HH TAB signs closed ret serr (pos + 1) (S "DOCTYPE public identifier (single-quoted)") out (errs ++ [.tuple [.str (S "missing-whitespace-after-doctype-public-keyword"), .int (pos + 1 - 1)]]) false done (.obj 7) (DD (nm) (.str (S "")) (sy) qk)))))
       (cond (one (List.getD signs (Int.toNat pos) 0) == Str.ofString "'")
        (gd (List.length errs)
         (cond (one (List.getD signs (Int.toNat pos) 0) == Str.ofString "\"")
          (P (.d (.none)) (HH TAB signs closed ret serr (pos + 1) (S "DOCTYPE public identifier (double-quoted)") out (errs ++ [.tuple [.str (S "missing-whitespace-after-doctype-public-keyword"), .int (pos + 1 - 1)]]) false done (.obj 7) (DD (nm) (.str (S "")) (sy) qk)))
          (P (.d (.none)) (HH TAB signs closed ret serr (pos + 1) (S "DOCTYPE public identifier (single-quoted)") out (errs ++ [.tuple [.str (S "missing-whitespace-after-doctype-public-keyword"), .int (pos + 1 - 1)]]) false done (.obj 7) (DD (nm) (.str (S "")) (sy) qk)))))
        (cond (one (List.getD signs (Int.toNat pos) 0) == Str.ofString ">")
         (gd (List.length errs)
          (gd (List.length out)
           (P (.d (.none)) (HH TAB signs closed ret serr (pos + 1) (S "data") (out ++ [.tuple [.str (S "doctype"), nm, pb, sy, .bool (true)]]) (errs ++ [.tuple [.str (S "missing-doctype-public-identifier"), .int (pos + 1 - 1)]]) false done dN (DD (nm) (pb) (sy) true)))))
         (gd (List.length errs)
          (P (.d (.none)) (HH TAB signs closed ret serr (pos + 1 - 1) (S "bogus DOCTYPE") out (errs ++ [.tuple [.str (S "missing-quote-before-doctype-public-identifier"), .int (pos + 1 - 1)]]) false done (.obj 7) (DD (nm) (pb) (sy) true)))))))))
    (gd (List.length errs)
     (gd (List.length out)
      (gd (List.length (out ++ [Dat.tuple [Dat.str (Str.ofString "doctype"), nm, pb, sy, Dat.bool true]]))
       (P (.d (.none)) (HH TAB signs closed ret serr (pos + 1) (S "after DOCTYPE public keyword") ((out ++ [.tuple [.str (S "doctype"), nm, pb, sy, .bool (true)]]) ++ [.tuple [.str (S "eof")]]) (errs ++ [.tuple [.str (S "eof-in-doctype"), .int (pos + 1 - 1)]]) false true dN (DD (nm) (pb) (sy) true))))))))
   := by kernel_rfl
theorem v_before_pub : (EV w (P2 TAB signs closed) 60).c 545 [.obj 1] (HH TAB signs closed ret serr pos (S "before DOCTYPE public identifier") out errs wait done (.obj 7) (DD nm pb sy qk)) P =
  (gd (List.length signs)
   (cond (decide (pos < (↑(List.length signs) : Int)))
    ((0 ≤ pos ∧ pos < (↑(List.length signs) : Int) ∧ List.length signs ≤ szLine) ∧
     (cond (List.any [Str.ofString "\t", Str.ofString "\n", Str.ofString "\x0c", Str.ofString " "] fun y => y == one (List.getD signs (Int.toNat pos) 0))
      (P (.d (.none)) (HH TAB signs closed ret serr (pos + 1) (S "before DOCTYPE public identifier") out errs false done (.obj 7) (DD (nm) (pb) (sy) qk)))
      (cond (one (List.getD signs (Int.toNat pos) 0) == Str.ofString "\"")
       (cond (one (List.getD signs (Int.toNat pos) 0) == Str.ofString "\"")
        (P (.d (.none)) (HH TAB signs closed ret serr (pos + 1) (S "DOCTYPE public identifier (double-quoted)") out errs false done (.obj 7) (DD (nm) (.str (S "")) (sy) qk)))
        (P (.d (.none)) (HH TAB signs closed ret serr (pos + 1) (S "DOCTYPE public identifier (single-quoted)") out errs false done (.obj 7) (DD (nm) (.str (S "")) (sy) qk))))
       (cond (one (List.getD signs (Int.toNat pos) 0) == Str.ofString "'")
        (cond (one (List.getD signs (Int.toNat pos) 0) == Str.ofString "\"")
         (P (.d (.none)) (HH TAB signs closed ret serr (pos + 1) (S "DOCTYPE public identifier (double-quoted)") out errs false done (.obj 7) (DD (nm) (.str (S "")) (sy) qk)))
         (P (.d (.none)) (HH TAB signs closed ret serr (pos + 1) (S "DOCTYPE public identifier (single-quoted)") out errs false done (.obj 7) (DD (nm) (.str (S "")) (sy) qk))))
        (cond (one (List.getD signs (Int.toNat pos) 0) == Str.ofString ">")
         (gd (List.length errs)
          (gd (List.length out)
           (P (.d (.none)) (HH TAB signs closed ret serr (pos + 1) (S "data") (out ++ [.tuple [.str (S "doctype"), nm, pb, sy, .bool (true)]]) (errs ++ [.tuple [.str (S "missing-doctype-public-identifier"), .int (pos + 1 - 1)]]) false done dN (DD (nm) (pb) (sy) true)))))
         (gd (List.length errs)
          (P (.d (.none)) (HH TAB signs closed ret serr (pos + 1 - 1) (S "bogus DOCTYPE") out (errs ++ [.tuple [.str (S "missing-quote-before-doctype-public-identifier"), .int (pos + 1 - 1)]]) false done (.obj 7) (DD (nm) (pb) (sy) true)))))))))
    (gd (List.length errs)
     (gd (List.length out)
      (gd (List.length (out ++ [Dat.tuple [Dat.str (Str.ofString "doctype"), nm, pb, sy, Dat.bool true]]))
       (P (.d (.none)) (HH TAB signs closed ret serr (pos + 1) (S "before DOCTYPE public identifier") ((out ++ [.tuple [.str (S "doctype"), nm, pb, sy, .bool (true)]]) ++ [.tuple [.str (S "eof")]]) (errs ++ [.tuple [.str (S "eof-in-doctype"), .int (pos + 1 - 1)]]) false true dN (DD (nm) (pb) (sy) true))))))))
   := by kernel_rfl
theorem v_pub_d : (EV w (P2 TAB signs closed) 60).c 545 [.obj 1] (HH TAB signs closed ret serr pos (S "DOCTYPE public identifier (double-quoted)") out errs wait done (.obj 7) (DD nm (.str x) sy qk)) P =
  (gd (List.length signs)
   (cond (decide (pos < (↑(List.length signs) : Int)))
    ((0 ≤ pos ∧ pos < (↑(List.length signs) : Int) ∧ List.length signs ≤ szLine) ∧
     (cond (one (List.getD signs (Int.toNat pos) 0) == Str.ofString "\"")
      (P (.d (.none)) (HH TAB signs closed ret serr (pos + 1) (S "after DOCTYPE public identifier") out errs false done (.obj 7) (DD (nm) (.str (x)) (sy) qk)))
      (cond (one (List.getD signs (Int.toNat pos) 0) == Str.ofString "\x00")
       (gd (List.length errs)
        (gd (Str.length x + Str.length (Str.ofString "�"))
         (P (.d (.none)) (HH TAB signs closed ret serr (pos + 1) (S "DOCTYPE public identifier (double-quoted)") out (errs ++ [.tuple [.str (S "unexpected-null-character"), .int (pos + 1 - 1)]]) false done (.obj 7) (DD (nm) (.str ((x ++ S "\ufffd"))) (sy) qk)))))
       (cond (one (List.getD signs (Int.toNat pos) 0) == Str.ofString ">")
        (gd (List.length errs)
         (gd (List.length out)
          (P (.d (.none)) (HH TAB signs closed ret serr (pos + 1) (S "data") (out ++ [.tuple [.str (S "doctype"), nm, .str (x), sy, .bool (true)]]) (errs ++ [.tuple [.str (S "abrupt-doctype-public-identifier"), .int (pos + 1 - 1)]]) false done dN (DD (nm) (.str (x)) (sy) true)))))
        (gd (Str.length x + Str.length (one (List.getD signs (Int.toNat pos) 0)))
         (P (.d (.none)) (HH TAB signs closed ret serr (pos + 1) (S "DOCTYPE public identifier (double-quoted)") out errs false done (.obj 7) (DD (nm) (.str ((x ++ one (List.getD signs (Int.toNat pos) 0)))) (sy) qk))))))))
    (gd (List.length errs)
     (gd (List.length out)
      (gd (List.length (out ++ [Dat.tuple [Dat.str (Str.ofString "doctype"), nm, Dat.str x, sy, Dat.bool true]]))
       (P (.d (.none)) (HH TAB signs closed ret serr (pos + 1) (S "DOCTYPE public identifier (double-quoted)") ((out ++ [.tuple [.str (S "doctype"), nm, .str (x), sy, .bool (true)]]) ++ [.tuple [.str (S "eof")]]) (errs ++ [.tuple [.str (S "eof-in-doctype"), .int (pos + 1 - 1)]]) false true dN (DD (nm) (.str (x)) (sy) true))))))))
   := by kernel_rfl
theorem v_pub_s : (EV w (P2 TAB signs closed) 60).c 545 [.obj 1] (HH TAB signs closed ret serr pos (S "DOCTYPE public identifier (single-quoted)") out errs wait done (.obj 7) (DD nm (.str x) sy qk)) P =
  (gd (List.length signs)
   (cond (decide (pos < (↑(List.length signs) : Int)))
    ((0 ≤ pos ∧ pos < (↑(List.length signs) : Int) ∧ List.length signs ≤ szLine) ∧
     (cond (one (List.getD signs (Int.toNat pos) 0) == Str.ofString "'")
      (P (.d (.none)) (HH TAB signs closed ret serr (pos + 1) (S "after DOCTYPE public identifier") out errs false done (.obj 7) (DD (nm) (.str (x)) (sy) qk)))
      (cond (one (List.getD signs (Int.toNat pos) 0) == Str.ofString "\x00")
       (gd (List.length errs)
        (gd (Str.length x + Str.length (Str.ofString "�"))
         (P (.d (.none)) (HH TAB signs closed ret serr (pos + 1) (S "DOCTYPE public identifier (single-quoted)") out (errs ++ [.tuple [.str (S "unexpected-null-character"), .int (pos + 1 - 1)]]) false done (.obj 7) (DD (nm) (.str ((x ++ S "\ufffd"))) (sy) qk)))))
       (cond (one (List.getD signs (Int.toNat pos) 0) == Str.ofString ">")
        (gd (List.length errs)
         (gd (List.length out)
          (P (.d (.none)) (HH TAB signs closed ret serr (pos + 1) (S "data") (out ++ [.tuple [.str (S "doctype"), nm, .str (x), sy, .bool (true)]]) (errs ++ [.tuple [.str (S "abrupt-doctype-public-identifier"), .int (pos + 1 - 1)]]) false done dN (DD (nm) (.str (x)) (sy) true)))))
        (gd (Str.length x + Str.length (one (List.getD signs (Int.toNat pos) 0)))
         (P (.d (.none)) (HH TAB signs closed ret serr (pos + 1) (S "DOCTYPE public identifier (single-quoted)") out errs false done (.obj 7) (DD (nm) (.str ((x ++ one (List.getD signs (Int.toNat pos) 0)))) (sy) qk))))))))
    (gd (List.length errs)
     (gd (List.length out)
      (gd (List.length (out ++ [Dat.tuple [Dat.str (Str.ofString "doctype"), nm, Dat.str x, sy, Dat.bool true]]))
       (P (.d (.none)) (HH TAB signs closed ret serr (pos + 1) (S "DOCTYPE public identifier (single-quoted)") ((out ++ [.tuple [.str (S "doctype"), nm, .str (x), sy, .bool (true)]]) ++ [.tuple [.str (S "eof")]]) (errs ++ [.tuple [.str (S "eof-in-doctype"), .int (pos + 1 - 1)]]) false true dN (DD (nm) (.str (x)) (sy) true))))))))
   := by kernel_rfl
theorem v_after_pub : (EV w (P2 TAB signs closed) 60).c 545 [.obj 1] (HH TAB signs closed ret serr pos (S "after DOCTYPE public identifier") out errs wait done (.obj 7) (DD nm pb sy qk)) P =
  (gd (List.length signs)
   (cond (decide (pos < (↑(List.length signs) : Int)))
    ((0 ≤ pos ∧ pos < (↑(List.length signs) : Int) ∧ List.length signs ≤ szLine) ∧
     (cond (List.any [Str.ofString "\t", Str.ofString "\n", Str.ofString "\x0c", Str.ofString " "] fun y => y == one (List.getD signs (Int.toNat pos) 0))
      (P (.d (.none)) (HH TAB signs closed ret serr (pos + 1) (S "between DOCTYPE public and system identifiers") out errs false done (.obj 7) (DD (nm) (pb) (sy) qk)))
      (cond (one (List.getD signs (Int.toNat pos) 0) == Str.ofString "\"")
       (gd (List.length errs)
        (cond (one (List.getD signs (Int.toNat pos) 0) == Str.ofString "\"")
         (P (.d (.none)) (HH TAB signs closed ret serr (pos + 1) (S "DOCTYPE system identifier (double-quoted)") out (errs ++ [.tuple [.str (S "missing-whitespace-between-doctype-public-and-system-identifiers"), .int (pos + 1 - 1)]]) false done (.obj 7) (DD (nm) (pb) (.str (S "")) qk)))
         (P (.d (.none)) (HH TAB signs closed ret serr (pos + 1) (S "DOCTYPE system identifier (single-quoted)") out (errs ++ [.tuple [.str (S "missing-whitespace-between-doctype-public-and-system-identifiers"), .int (pos + 1 - 1)]]) false done (.obj 7) (DD (nm) (pb) (.str (S "")) qk)))))
       (cond (one (List.getD signs (Int.toNat pos) 0) == Str.ofString "'")
        (gd (List.length errs)
         (cond (one (List.getD signs (Int.toNat pos) 0) == Str.ofString "\"")
          (P (.d (.none)) (HH TAB signs closed ret serr (pos + 1) (S "DOCTYPE system identifier (double-quoted)") out (errs ++ [.tuple [.str (S "missing-whitespace-between-doctype-public-and-system-identifiers"), .int (pos + 1 - 1)]]) false done (.obj 7) (DD (nm) (pb) (.str (S "")) qk)))
          (P (.d (.none)) (HH TAB signs closed ret serr (pos + 1) (S "DOCTYPE system identifier (single-quoted)") out (errs ++ [.tuple [.str (S "missing-whitespace-between-doctype-public-and-system-identifiers"), .int (pos + 1 - 1)]]) false done (.obj 7) (DD (nm) (pb) (.str (S "")) qk)))))
        (cond (one (List.getD signs (Int.toNat pos) 0) == Str.ofString ">")
         (gd (List.length out)
          (P (.d (.none)) (HH TAB signs closed ret serr (pos + 1) (S "data") (out ++ [.tuple [.str (S "doctype"), nm, pb, sy, .bool (qk)]]) errs false done dN (DD (nm) (pb) (sy) qk))))
         (gd (List.length errs)
          (P (.d (.none)) (HH TAB signs closed ret serr (pos + 1 - 1) (S "bogus DOCTYPE") out (errs ++ [.tuple [.str (S "missing-quote-before-doctype-system-identifier"), .int (pos + 1 - 1)]]) false done (.obj 7) (DD (nm) (pb) (sy) true)))))))))
    (gd (List.length errs)
     (gd (List.length out)
      (gd (List.length (out ++ [Dat.tuple [Dat.str (Str.ofString "doctype"), nm, pb, sy, Dat.bool true]]))
       (P (.d (.none)) (HH TAB signs closed ret serr (pos + 1) (S "after DOCTYPE public identifier") ((out ++ [.tuple [.str (S "doctype"), nm, pb, sy, .bool (true)]]) ++ [.tuple [.str (S "eof")]]) (errs ++ [.tuple [.str (S "eof-in-doctype"), .int (pos + 1 - 1)]]) false true dN (DD (nm) (pb) (sy) true))))))))
   := by kernel_rfl
theorem v_between : (EV w (P2 TAB signs closed) 60).c 545 [.obj 1] (HH TAB signs closed ret serr pos (S "between DOCTYPE public and system identifiers") out errs wait done (.obj 7) (DD nm pb sy qk)) P =
  (gd (List.length signs)
   (cond (decide (pos < (↑(List.length signs) : Int)))
    ((0 ≤ pos ∧ pos < (↑(List.length signs) : Int) ∧ List.length signs ≤ szLine) ∧
     (cond (List.any [Str.ofString "\t", Str.ofString "\n", Str.ofString "\x0c", Str.ofString " "] fun y => y == one (List.getD signs (Int.toNat pos) 0))
      (P (.d (.none)) (HH TAB signs closed ret serr (pos + 1) (S "between DOCTYPE public and system identifiers") out errs false done (.obj 7) (DD (nm) (pb) (sy) qk)))
      (cond (one (List.getD signs (Int.toNat pos) 0) == Str.ofString "\"")
       (cond (one (List.getD signs (Int.toNat pos) 0) == Str.ofString "\"")
        (P (.d (.none)) (HH TAB signs closed ret serr (pos + 1) (S "DOCTYPE system identifier (double-quoted)") out errs false done (.obj 7) (DD (nm) (pb) (.str (S "")) qk)))
        (P (.d (.none)) (HH TAB signs closed ret serr (pos + 1) (S "DOCTYPE system identifier (single-quoted)") out errs false done (.obj 7) (DD (nm) (pb) (.str (S "")) qk))))
       (cond (one (List.getD signs (Int.toNat pos) 0) == Str.ofString "'")
        (cond (one (List.getD signs (Int.toNat pos) 0) == Str.ofString "\"")
         (P (.d (.none)) (HH TAB signs closed ret serr (pos + 1) (S "DOCTYPE system identifier (double-quoted)") out errs false done (.obj 7) (DD (nm) (pb) (.str (S "")) qk)))
         (P (.d (.none)) (HH TAB signs closed ret serr (pos + 1) (S "DOCTYPE system identifier (single-quoted)") out errs false done (.obj 7) (DD (nm) (pb) (.str (S "")) qk))))
        (cond (one (List.getD signs (Int.toNat pos) 0) == Str.ofString ">")
         (gd (List.length out)
          (P (.d (.none)) (HH TAB signs closed ret serr (pos + 1) (S "data") (out ++ [.tuple [.str (S "doctype"), nm, pb, sy, .bool (qk)]]) errs false done dN (DD (nm) (pb) (sy) qk))))
         (gd (List.length errs)
          (P (.d (.none)) (HH TAB signs closed ret serr (pos + 1 - 1) (S "bogus DOCTYPE") out (errs ++ [.tuple [.str (S "missing-quote-before-doctype-system-identifier"), .int (pos + 1 - 1)]]) false done (.obj 7) (DD (nm) (pb) (sy) true)))))))))
    (gd (List.length errs)
     (gd (List.length out)
      (gd (List.length (out ++ [Dat.tuple [Dat.str (Str.ofString "doctype"), nm, pb, sy, Dat.bool true]]))
       (P (.d (.none)) (HH TAB signs closed ret serr (pos + 1) (S "between DOCTYPE public and system identifiers") ((out ++ [.tuple [.str (S "doctype"), nm, pb, sy, .bool (true)]]) ++ [.tuple [.str (S "eof")]]) (errs ++ [.tuple [.str (S "eof-in-doctype"), .int (pos + 1 - 1)]]) false true dN (DD (nm) (pb) (sy) true))))))))
   := by kernel_rfl
theorem v_after_sk : (EV w (P2 TAB signs closed) 60).c 545 [.obj 1] (HH TAB signs closed ret serr pos (S "after DOCTYPE system keyword") out errs wait done (.obj 7) (DD nm pb sy qk)) P =
  (gd (List.length signs)
   (cond (decide (pos < (↑(List.length signs) : Int)))
    ((0 ≤ pos ∧ pos < (↑(List.length signs) : Int) ∧ List.length signs ≤ szLine) ∧
     (cond (List.any [Str.ofString "\t", Str.ofString "\n", Str.ofString "\x0c", Str.ofString " "] fun y => y == one (List.getD signs (Int.toNat pos) 0))
      (P (.d (.none)) (HH TAB signs closed ret serr (pos + 1) (S "before DOCTYPE system identifier") out errs false done (.obj 7) (DD (nm) (pb) (sy) qk)))
      (cond (one (List.getD signs (Int.toNat pos) 0) == Str.ofString "\"")
       (gd (List.length errs)
        (cond (one (List.getD signs (Int.toNat pos) 0) == Str.ofString "\"")
         (P (.d (.none)) (HH TAB signs closed ret serr (pos + 1) (S "DOCTYPE system identifier (double-quoted)") out (errs ++ [.tuple [.str (S "missing-whitespace-after-doctype-system-keyword"), .int (pos + 1 - 1)]]) false done (.obj 7) (DD (nm) (pb) (.str (S "")) qk)))
         (P (.d (.none)) (HH TAB signs closed ret serr (pos + 1) (S "DOCTYPE system identifier (single-quoted)") out (errs ++ [.tuple [.str (S "missing-whitespace-after-doctype-system-keyword"), .int (pos + 1 - 1)]]) false done (.obj 7) (DD (nm) (pb) (.str (S "")) qk)))))
       (cond (one (List.getD signs (Int.toNat pos) 0) == Str.ofString "'")
        (gd (List.length errs)
         (cond (one (List.getD signs (Int.toNat pos) 0) == Str.ofString "\"")
          (P (.d (.none)) (HH TAB signs closed ret serr (pos + 1) (S "DOCTYPE system identifier (double-quoted)") out (errs ++ [.tuple [.str (S "missing-whitespace-after-doctype-system-keyword"), .int (pos + 1 - 1)]]) false done (.obj 7) (DD (nm) (pb) (.str (S "")) qk)))
          (P (.d (.none)) (HH TAB signs closed ret serr (pos + 1) (S "DOCTYPE system identifier (single-quoted)") out (errs ++ [.tuple [.str (S "missing-whitespace-after-doctype-system-keyword"), .int (pos + 1 - 1)]]) false done (.obj 7) (DD (nm) (pb) (.str (S "")) qk)))))
        (cond (one (List.getD signs (Int.toNat pos) 0) == Str.ofString ">")
         (gd (List.length errs)
          (gd (List.length out)
           (P (.d (.none)) (HH TAB signs closed ret serr (pos + 1) (S "data") (out ++ [.tuple [.str (S "doctype"), nm, pb, sy, .bool (true)]]) (errs ++ [.tuple [.str (S "missing-doctype-system-identifier"), .int (pos + 1 - 1)]]) false done dN (DD (nm) (pb) (sy) true)))))
         (gd (List.length errs)
          (P (.d (.none)) (HH TAB signs closed ret serr (pos + 1 - 1) (S "bogus DOCTYPE") out (errs ++ [.tuple [.str (S "missing-quote-before-doctype-system-identifier"), .int (pos + 1 - 1)]]) false done (.obj 7) (DD (nm) (pb) (sy) true)))))))))
    (gd (List.length errs)
     (gd (List.length out)
      (gd (List.length (out ++ [Dat.tuple [Dat.str (Str.ofString "doctype"), nm, pb, sy, Dat.bool true]]))
       (P (.d (.none)) (HH TAB signs closed ret serr (pos + 1) (S "after DOCTYPE system keyword") ((out ++ [.tuple [.str (S "doctype"), nm, pb, sy, .bool (true)]]) ++ [.tuple [.str (S "eof")]]) (errs ++ [.tuple [.str (S "eof-in-doctype"), .int (pos + 1 - 1)]]) false true dN (DD (nm) (pb) (sy) true))))))))
   := by kernel_rfl
theorem v_before_sys : (EV w (P2 TAB signs closed) 60).c 545 [.obj 1] (HH TAB signs closed ret serr pos (S "before DOCTYPE system identifier") out errs wait done (.obj 7) (DD nm pb sy qk)) P =
  (gd (List.length signs)
   (cond (decide (pos < (↑(List.length signs) : Int)))
    ((0 ≤ pos ∧ pos < (↑(List.length signs) : Int) ∧ List.length signs ≤ szLine) ∧
     (cond (List.any [Str.ofString "\t", Str.ofString "\n", Str.ofString "\x0c", Str.ofString " "] fun y => y == one (List.getD signs (Int.toNat pos) 0))
      (P (.d (.none)) (HH TAB signs closed ret serr (pos + 1) (S "before DOCTYPE system identifier") out errs false done (.obj 7) (DD (nm) (pb) (sy) qk)))
      (cond (one (List.getD signs (Int.toNat pos) 0) == Str.ofString "\"")
       (cond (one (List.getD signs (Int.toNat pos) 0) == Str.ofString "\"")
        (P (.d (.none)) (HH TAB signs closed ret serr (pos + 1) (S "DOCTYPE system identifier (double-quoted)") out errs false done (.obj 7) (DD (nm) (pb) (.str (S "")) qk)))
        (P (.d (.none)) (HH TAB signs closed ret serr (pos + 1) (S "DOCTYPE system identifier (single-quoted)") out errs false done (.obj 7) (DD (nm) (pb) (.str (S "")) qk))))
       (cond (one (List.getD signs (Int.toNat pos) 0) == Str.ofString "'")
        (cond (one (List.getD signs (Int.toNat pos) 0) == Str.ofString "\"")
         (P (.d (.none)) (HH TAB signs closed ret serr (pos + 1) (S "DOCTYPE system identifier (double-quoted)") out errs false done (.obj 7) (DD (nm) (pb) (.str (S "")) qk)))
         (P (.d (.none)) (HH TAB signs closed ret serr (pos + 1) (S "DOCTYPE system identifier (single-quoted)") out errs false done (.obj 7) (DD (nm) (pb) (.str (S "")) qk))))
        (cond (one (List.getD signs (Int.toNat pos) 0) == Str.ofString ">")
         (gd (List.length errs)
          (gd (List.length out)
           (P (.d (.none)) (HH TAB signs closed ret serr (pos + 1) (S "data") (out ++ [.tuple [.str (S "doctype"), nm, pb, sy, .bool (true)]]) (errs ++ [.tuple [.str (S "missing-doctype-system-identifier"), .int (pos + 1 - 1)]]) false done dN (DD (nm) (pb) (sy) true)))))
         (gd (List.length errs)
          (P (.d (.none)) (HH TAB signs closed ret serr (pos + 1 - 1) (S "bogus DOCTYPE") out (errs ++ [.tuple [.str (S "missing-quote-before-doctype-system-identifier"), .int (pos + 1 - 1)]]) false done (.obj 7) (DD (nm) (pb) (sy) true)))))))))
    (gd (List.length errs)
     (gd (List.length out)
      (gd (List.length (out ++ [Dat.tuple [Dat.str (Str.ofString "doctype"), nm, pb, sy, Dat.bool true]]))
       (P (.d (.none)) (HH TAB signs closed ret serr (pos + 1) (S "before DOCTYPE system identifier") ((out ++ [.tuple [.str (S "doctype"), nm, pb, sy, .bool (true)]]) ++ [.tuple [.str (S "eof")]]) (errs ++ [.tuple [.str (S "eof-in-doctype"), .int (pos + 1 - 1)]]) false true dN (DD (nm) (pb) (sy) true))))))))
   := by kernel_rfl
theorem v_sys_d : (EV w (P2 TAB signs closed) 60).c 545 [.obj 1] (HH TAB signs closed ret serr pos (S "DOCTYPE system identifier (double-quoted)") out errs wait done (.obj 7) (DD nm pb (.str x) qk)) P =
  (gd (List.length signs)
   (cond (decide (pos < (↑(List.length signs) : Int)))
    ((0 ≤ pos ∧ pos < (↑(List.length signs) : Int) ∧ List.length signs ≤ szLine) ∧
     (cond (one (List.getD signs (Int.toNat pos) 0) == Str.ofString "\"")
      (P (.d (.none)) (HH TAB signs closed ret serr (pos + 1) (S "after DOCTYPE system identifier") out errs false done (.obj 7) (DD (nm) (pb) (.str (x)) qk)))
      (cond (one (List.getD signs (Int.toNat pos) 0) == Str.ofString "\x00")
       (gd (List.length errs)
        (gd (Str.length x + Str.length (Str.ofString "�"))
         (P (.d (.none)) (HH TAB signs closed ret serr (pos + 1) (S "DOCTYPE system identifier (double-quoted)") out (errs ++ [.tuple [.str (S "unexpected-null-character"), .int (pos + 1 - 1)]]) false done (.obj 7) (DD (nm) (pb) (.str ((x ++ S "\ufffd"))) qk)))))
       (cond (one (List.getD signs (Int.toNat pos) 0) == Str.ofString ">")
        (gd (List.length errs)
         (gd (List.length out)
          (P (.d (.none)) (HH TAB signs closed ret serr (pos + 1) (S "data") (out ++ [.tuple [.str (S "doctype"), nm, pb, .str (x), .bool (true)]]) (errs ++ [.tuple [.str (S "abrupt-doctype-system-identifier"), .int (pos + 1 - 1)]]) false done dN (DD (nm) (pb) (.str (x)) true)))))
        (gd (Str.length x + Str.length (one (List.getD signs (Int.toNat pos) 0)))
         (P (.d (.none)) (HH TAB signs closed ret serr (pos + 1) (S "DOCTYPE system identifier (double-quoted)") out errs false done (.obj 7) (DD (nm) (pb) (.str ((x ++ one (List.getD signs (Int.toNat pos) 0)))) qk))))))))
    (gd (List.length errs)
     (gd (List.length out)
      (gd (List.length (out ++ [Dat.tuple [Dat.str (Str.ofString "doctype"), nm, pb, Dat.str x, Dat.bool true]]))
       (P (.d (.none)) (HH TAB signs closed ret serr (pos + 1) (S "DOCTYPE system identifier (double-quoted)") ((out ++ [.tuple [.str (S "doctype"), nm, pb, .str (x), .bool (true)]]) ++ [.tuple [.str (S "eof")]]) (errs ++ [.tuple [.str (S "eof-in-doctype"), .int (pos + 1 - 1)]]) false true dN (DD (nm) (pb) (.str (x)) true))))))))
   := by kernel_rfl
theorem v_sys_s : (EV w (P2 TAB signs closed) 60).c 545 [.obj 1] (HH TAB signs closed ret serr pos (S "DOCTYPE system identifier (single-quoted)") out errs wait done (.obj 7) (DD nm pb (.str x) qk)) P =
  (gd (List.length signs)
   (cond (decide (pos < (↑(List.length signs) : Int)))
    ((0 ≤ pos ∧ pos < (↑(List.length signs) : Int) ∧ List.length signs ≤ szLine) ∧
     (cond (one (List.getD signs (Int.toNat pos) 0) == Str.ofString "'")
      (P (.d (.none)) (HH TAB signs closed ret serr (pos + 1) (S "after DOCTYPE system identifier") out errs false done (.obj 7) (DD (nm) (pb) (.str (x)) qk)))
      (cond (one (List.getD signs (Int.toNat pos) 0) == Str.ofString "\x00")
       (gd (List.length errs)
        (gd (Str.length x + Str.length (Str.ofString "�"))
         (P (.d (.none)) (HH TAB signs closed ret serr (pos + 1) (S "DOCTYPE system identifier (single-quoted)") out (errs ++ [.tuple [.str (S "unexpected-null-character"), .int (pos + 1 - 1)]]) false done (.obj 7) (DD (nm) (pb) (.str ((x ++ S "\ufffd"))) qk)))))
       (cond (one (List.getD signs (Int.toNat pos) 0) == Str.ofString ">")
        (gd (List.length errs)
         (gd (List.length out)
          (P (.d (.none)) (HH TAB signs closed ret serr (pos + 1) (S "data") (out ++ [.tuple [.str (S "doctype"), nm, pb, .str (x), .bool (true)]]) (errs ++ [.tuple [.str (S "abrupt-doctype-system-identifier"), .int (pos + 1 - 1)]]) false done dN (DD (nm) (pb) (.str (x)) true)))))
        (gd (Str.length x + Str.length (one (List.getD signs (Int.toNat pos) 0)))
         (P (.d (.none)) (HH TAB signs closed ret serr (pos + 1) (S "DOCTYPE system identifier (single-quoted)") out errs false done (.obj 7) (DD (nm) (pb) (.str ((x ++ one (List.getD signs (Int.toNat pos) 0)))) qk))))))))
    (gd (List.length errs)
     (gd (List.length out)
      (gd (List.length (out ++ [Dat.tuple [Dat.str (Str.ofString "doctype"), nm, pb, Dat.str x, Dat.bool true]]))
       (P (.d (.none)) (HH TAB signs closed ret serr (pos + 1) (S "DOCTYPE system identifier (single-quoted)") ((out ++ [.tuple [.str (S "doctype"), nm, pb, .str (x), .bool (true)]]) ++ [.tuple [.str (S "eof")]]) (errs ++ [.tuple [.str (S "eof-in-doctype"), .int (pos + 1 - 1)]]) false true dN (DD (nm) (pb) (.str (x)) true))))))))
   := by kernel_rfl
theorem v_after_sys : (EV w (P2 TAB signs closed) 60).c 545 [.obj 1] (HH TAB signs closed ret serr pos (S "after DOCTYPE system identifier") out errs wait done (.obj 7) (DD nm pb sy qk)) P =
  (gd (List.length signs)
   (cond (decide (pos < (↑(List.length signs) : Int)))
    ((0 ≤ pos ∧ pos < (↑(List.length signs) : Int) ∧ List.length signs ≤ szLine) ∧
     (cond (List.any [Str.ofString "\t", Str.ofString "\n", Str.ofString "\x0c", Str.ofString " "] fun y => y == one (List.getD signs (Int.toNat pos) 0))
      (P (.d (.none)) (HH TAB signs closed ret serr (pos + 1) (S "after DOCTYPE system identifier") out errs false done (.obj 7) (DD (nm) (pb) (sy) qk)))
      (cond (one (List.getD signs (Int.toNat pos) 0) == Str.ofString ">")
       (gd (List.length out)
        (P (.d (.none)) (HH TAB signs closed ret serr (pos + 1) (S "data") (out ++ [.tuple [.str (S "doctype"), nm, pb, sy, .bool (qk)]]) errs false done dN (DD (nm) (pb) (sy) qk))))
       (gd (List.length errs)
        (P (.d (.none)) (HH TAB signs closed ret serr (pos + 1 - 1) (S "bogus DOCTYPE") out (errs ++ [.tuple [.str (S "unexpected-character-after-doctype-system-identifier"), .int (pos + 1 - 1)]]) false done (.obj 7) (DD (nm) (pb) (sy) qk)))))))
    (gd (List.length errs)
     (gd (List.length out)
      (gd (List.length (out ++ [Dat.tuple [Dat.str (Str.ofString "doctype"), nm, pb, sy, Dat.bool true]]))
       (P (.d (.none)) (HH TAB signs closed ret serr (pos + 1) (S "after DOCTYPE system identifier") ((out ++ [.tuple [.str (S "doctype"), nm, pb, sy, .bool (true)]]) ++ [.tuple [.str (S "eof")]]) (errs ++ [.tuple [.str (S "eof-in-doctype"), .int (pos + 1 - 1)]]) false true dN (DD (nm) (pb) (sy) true))))))))
   := by kernel_rfl
theorem v_bogus : (EV w (P2 TAB signs closed) 60).c 545 [.obj 1] (HH TAB signs closed ret serr pos (S "bogus DOCTYPE") out errs wait done (.obj 7) (DD nm pb sy qk)) P =
  (gd (List.length signs)
   (cond (decide (pos < (↑(List.length signs) : Int)))
    ((0 ≤ pos ∧ pos < (↑(List.length signs) : Int) ∧ List.length signs ≤ szLine) ∧
     (cond (one (List.getD signs (Int.toNat pos) 0) == Str.ofString ">")
      (gd (List.length out)
       (P (.d (.none)) (HH TAB signs closed ret serr (pos + 1) (S "data") (out ++ [.tuple [.str (S "doctype"), nm, pb, sy, .bool (qk)]]) errs false done dN (DD (nm) (pb) (sy) qk))))
      (cond (one (List.getD signs (Int.toNat pos) 0) == Str.ofString "\x00")
       (gd (List.length errs)
        (P (.d (.none)) (HH TAB signs closed ret serr (pos + 1) (S "bogus DOCTYPE") out (errs ++ [.tuple [.str (S "unexpected-null-character"), .int (pos + 1 - 1)]]) false done (.obj 7) (DD (nm) (pb) (sy) qk))))
       (P (.d (.none)) (HH TAB signs closed ret serr (pos + 1) (S "bogus DOCTYPE") out errs false done (.obj 7) (DD (nm) (pb) (sy) qk))))))
    (gd (List.length out)
     (gd (List.length (out ++ [Dat.tuple [Dat.str (Str.ofString "doctype"), nm, pb, sy, Dat.bool qk]]))
      (P (.d (.none)) (HH TAB signs closed ret serr (pos + 1) (S "bogus DOCTYPE") ((out ++ [.tuple [.str (S "doctype"), nm, pb, sy, .bool (qk)]]) ++ [.tuple [.str (S "eof")]]) errs false true dN (DD (nm) (pb) (sy) qk)))))))
   := by kernel_rfl
end
end Mine
end
section
open PySem PySem.W PyProof.Rows PySem.Calls
set_option maxRecDepth 100000
set_option maxHeartbeats 8000000
namespace Mine
section
variable {prog : Program} {w : World} {Γ : GE} {K K' : Frag}
noncomputable def FC.down (hK : ∀ h, K'.In h → K.In h) (c : FC K' Γ) : FC K Γ := ⟨c.A, c.cn, c.cs, c.a, c.ccd, c.cl, c.outer, c.A₀, c.base, c.h₀, c.L, c.B, hK _ c.X, c.T, c.hA, c.hh, c.hk, c.t0⟩
theorem pm_up (hK : ∀ h, K'.In h → K.In h) {Pr : Pm} {n : Nat} (h : PmOk prog w K Γ Pr n) : PmOk prog w K' Γ Pr n := by
  intro f sp hf c m adr rest news H s lvs vs P R G hr S hm hs r
  exact h f sp hf (c := c.down hK) (m := m) (adr := adr) (rest := rest) (news := news) (H := H) (s := s) ⟨G.dbg, G.loc, G.cel, G.fre⟩ hr ⟨S.F, S.N, S.R, S.tk⟩ hm hs fun b a adr' rest' news' H' h' tk' e1 e2 S' q1 q2 => r b a adr' rest' news' H' h' tk' e1 e2 ⟨S'.F, S'.N, S'.R, S'.tk⟩ q1 q2
end
noncomputable abbrev EX (w : World) (Y : Frag) (Pr : Pm) (n : Nat) : Ev := Ev.run (KX w Y) TT Pr n
end Mine
end
section
open PySem PySem.W PyProof.Rows PySem.Calls
set_option maxRecDepth 100000
set_option maxHeartbeats 8000000
namespace Mine
theorem v_lower {w : World} {k : Nat} {H : Hp} {P : KV} : ((EV w noPm 20).c 42 [.d (.str (one k))] H P) =
  (cond (!decide (Array.toList (Str.cps (one k)) < Array.toList (Str.cps (Str.ofString "A"))))
   (cond (!decide (Array.toList (Str.cps (Str.ofString "Z")) < Array.toList (Str.cps (one k))))
    ((0 ≤ (↑k : Int) + 32 ∧ (↑k : Int) + 32 ≤ 1114111) ∧
     (P (.d (.str (one (Int.toNat ((↑k : Int) + 32))))) H))
    (P (.d (.str (one k))) H))
   (P (.d (.str (one k))) H))
   := by kernel_rfl
theorem v_lk1 {w : World} {tab : List (Str × Addr)} {signs : List Nat} {closed ret : Bool} {serr : List Dat} {pos : Int} {state : Str} {out errs : List Dat} {wait done : Bool} {dv : LV} {D : Hp} {wd : Str} {P : Fl → Mine.Loc → Hp → Prop} : ((EV w P1 20).s (scopeOf (KF w) 510) ((bodyOf (KF w) 510).take 1) ([S "self", S "word", S "is_folded"].zip [.obj 1, .d (.str wd), .d (.bool true)]).reverse (HH tab signs closed ret serr pos state out errs wait done dv D) P) =
  (P .next [(S "signs", .obj 3), (S "is_folded", .d (.bool (true))), (S "word", .d (.str (wd))), (S "self", .obj 1)] (HH tab signs closed ret serr pos state out errs wait done dv D))
   := by kernel_rfl
theorem v_lk2 {w : World} {H : Hp} {wd : Str} {l : Mine.Loc} {P : KV} : ((EV w P1 20).e (scopeOf (KF w) 510) (rgA 0 (nth (bodyOf (KF w) 510) 1)) ((S "signs", .obj 3) :: (S "is_folded", .d (.bool true)) :: (S "word", .d (.str wd)) :: l) H P) =
  (gd (Str.length wd)
   (P (.d (.int ((↑(Str.length wd) : Int)))) H))
   := by kernel_rfl
theorem v_lk3 {w : World} {tab : List (Str × Addr)} {signs : List Nat} {closed ret : Bool} {serr : List Dat} {pos : Int} {state : Str} {out errs : List Dat} {wait done : Bool} {dv : LV} {D : Hp} {wd : Str} {i : Nat} {P : Fl → Mine.Loc → Hp → Prop} : ((EV w P1 20).s (scopeOf (KF w) 510) (lpB (nth (bodyOf (KF w) 510) 1)) [(S "i", .d (.int (i : Int))), (S "signs", .obj 3), (S "is_folded", .d (.bool true)), (S "word", .d (.str wd)), (S "self", .obj 1)] (HH tab signs closed ret serr pos state out errs wait done dv D) P) =
  (gd (List.length signs)
   (cond (decide ((↑(List.length signs) : Int) ≤ pos + (↑i : Int)))
    (cond (closed)
     (P (.ret (.d (.int (0)))) [(S "i", .d (.int ((↑i : Int)))), (S "signs", .obj 3), (S "is_folded", .d (.bool (true))), (S "word", .d (.str (wd))), (S "self", .obj 1)] (HH tab signs closed ret serr pos state out errs wait done dv D))
     (P (.ret (.d (.int (-1)))) [(S "i", .d (.int ((↑i : Int)))), (S "signs", .obj 3), (S "is_folded", .d (.bool (true))), (S "word", .d (.str (wd))), (S "self", .obj 1)] (HH tab signs closed ret serr pos state out errs wait done dv D)))
    ((0 ≤ pos + (↑i : Int) ∧ pos + (↑i : Int) < (↑(List.length signs) : Int) ∧ List.length signs ≤ szLine) ∧
     ((0 ≤ (↑i : Int) ∧ (↑i : Int) < (↑(Str.length wd) : Int) ∧ Str.length wd ≤ szLine) ∧
      (cond (one (lowN (List.getD signs (Int.toNat (pos + (↑i : Int))) 0)) != one (List.getD (Array.toList (Str.cps wd)) (Int.toNat (↑i : Int)) 0))
       (P (.ret (.d (.int (0)))) [(S "sign", .d (.str (one (lowN (List.getD signs (Int.toNat (pos + (↑i : Int))) 0))))), (S "sign", .d (.str (one (List.getD signs (Int.toNat (pos + (↑i : Int))) 0)))), (S "i", .d (.int ((↑i : Int)))), (S "signs", .obj 3), (S "is_folded", .d (.bool (true))), (S "word", .d (.str (wd))), (S "self", .obj 1)] (HH tab signs closed ret serr pos state out errs wait done dv D))
       (P .next [(S "sign", .d (.str (one (lowN (List.getD signs (Int.toNat (pos + (↑i : Int))) 0))))), (S "sign", .d (.str (one (List.getD signs (Int.toNat (pos + (↑i : Int))) 0)))), (S "i", .d (.int ((↑i : Int)))), (S "signs", .obj 3), (S "is_folded", .d (.bool (true))), (S "word", .d (.str (wd))), (S "self", .obj 1)] (HH tab signs closed ret serr pos state out errs wait done dv D)))))))
   := by kernel_rfl
theorem v_lk4 {w : World} {H : Hp} {l : Mine.Loc} {P : Fl → Mine.Loc → Hp → Prop} : ((EV w P1 20).s (scopeOf (KF w) 510) ((bodyOf (KF w) 510).drop 2) l H P) =
  (P (.ret (.d (.int (1)))) (l) H)
   := by kernel_rfl
section
variable {prog : Program} {w : World} {K : Frag} {Γ : GE}
theorem noPm_ok : PmOk prog w K Γ noPm 0 := fun f sp h => by cases h
theorem lt1 (a b : Nat) : (([a] : List Nat) < [b]) ↔ a < b := by
  rw [List.cons_lt_cons_iff]
  simp
theorem gd_i {n : Nat} {X : Prop} (h : n ≤ szLine) (x : X) : gd n X := by
  unfold gd
  rw [Nat.ble_eq_true_of_le h]; exact x
theorem cond_i {b : Bool} {X Y : Prop} (h1 : b = true → X) (h2 : b = false → Y) : cond b X Y := by
  induction b with
  | true => exact h1 rfl
  | false => exact h2 rfl
theorem low_is {k : Nat} {H : Hp} {P : KV} (h : P (.d (.str (one (lowN k)))) H) : (EV w noPm 20).c 42 [.d (.str (one k))] H P := by
  have eA : Array.toList (Str.cps (Str.ofString "A")) = [65] := by decide +kernel
  have eZ : Array.toList (Str.cps (Str.ofString "Z")) = [90] := by decide +kernel
  have ek : Array.toList (Str.cps (one k)) = [k] := rfl
  rw [v_lower, eA, eZ, ek]
  unfold lowN at h
  refine cond_i (fun h1 => cond_i (fun h2 => ⟨⟨?_, ?_⟩, ?_⟩) fun h2 => ?_) fun h1 => ?_
  all_goals simp only [Bool.not_eq_true', Bool.not_eq_false', decide_eq_true_eq, decide_eq_false_iff_not, lt1] at h1
  all_goals try simp only [Bool.not_eq_true', Bool.not_eq_false', decide_eq_true_eq, decide_eq_false_iff_not, lt1] at h2
  · lia
  · lia
  · rw [Nat.ble_eq_true_of_le (show 65 ≤ k by lia), Nat.ble_eq_true_of_le (show k ≤ 90 by lia)] at h
    have : Int.toNat ((k : Int) + 32) = k + 32 := by lia
    rw [this]; exact h
  · rw [show Nat.ble k 90 = false from by rw [Bool.eq_false_iff]; intro e; have := Nat.le_of_ble_eq_true e; lia, Bool.and_false] at h
    exact h
  · rw [show Nat.ble 65 k = false from by rw [Bool.eq_false_iff]; intro e; have := Nat.le_of_ble_eq_true e; lia, Bool.false_and] at h
    exact h
theorem low_ok {lvs : List LV} {H : Hp} {P : KV} (h : spLow lvs H P) : (EV w noPm 20).c 42 lvs H P := by
  obtain ⟨v, rfl, h1⟩ := uA.inv h
  obtain ⟨k, t, ek, h2⟩ := uc.inv h1
  obtain ⟨rfl, h3⟩ := un.inv h2
  show (EV w noPm 20).c 42 [.d (.str v.1)] H P
  rw [str_one ek]
  exact low_is h3
theorem p1_ok : PmOk prog w (KF w) Γ P1 21 := pm_cons (po_ev (tt_ok w) noPm_ok (k := 20) (by decide) low_ok) pm_nil
theorem drop_cons {l : List Nat} {i : Nat} (h : i < l.length) : l.drop i = l.getD i 0 :: l.drop (i + 1) := by
  rw [List.drop_eq_getElem_cons h, List.getD_eq_getElem?_getD, List.getElem?_eq_getElem h]; rfl
theorem one_bne (a b : Nat) : (one a != one b) = !(a == b) := by
  by_cases h : a = b
  · subst h; simp
  · have : one a ≠ one b := fun e => h (by injection e with e; simpa using e)
    rw [bne_iff_ne.mpr this, show (a == b) = false from beq_eq_false_iff_ne.mpr h]; rfl
theorem spLook.inv {tab : List (Str × Addr)} {signs : List Nat} {closed : Bool} {lvs : List LV} {H : Hp} {P : KV} (h : spLook tab signs closed lvs H P) : ∃ (wd : Str) (q : Nat) (ret : Bool) (serr : List Dat) (state : Str) (out errs : List Dat) (wait done : Bool) (dv : LV) (D : Hp), lvs = [.obj 1, .d (.str wd), .d (.bool true)] ∧ H = HH tab signs closed ret serr (q : Int) state out errs wait done dv D ∧ Nat.ble wd.length 100 = true ∧ signs.length ≤ szLine ∧ P (.d (.int (lkI signs closed (q : Int) wd))) H := by
  obtain ⟨v, rfl, h1⟩ := uA.inv h
  obtain ⟨hw, hlo, hP⟩ := cond_f h1
  generalize atOf H = pos at hlo hP
  obtain ⟨h0, hs, ret, serr, state, out, errs, wait, done, dv, D, rfl⟩ := hlo
  obtain ⟨q, rfl⟩ : ∃ q : Nat, pos = (q : Int) := ⟨pos.toNat, by lia⟩
  exact ⟨v.2.1, q, ret, serr, state, out, errs, wait, done, dv, D, rfl, rfl, hw, hs, hP⟩
theorem look_ok {tab : List (Str × Addr)} {signs : List Nat} {closed : Bool} : POne prog w (KF w) Γ 510 (spLook tab signs closed) 42 := by
  intro c m adr rest news H s lvs vs P R G hr SA hm h r
  obtain ⟨wd, q, ret, serr, state, out, errs, wait, done, dv, D, rfl, rfl, hw, hs, hP⟩ := spLook.inv h
  have hw := Nat.le_of_ble_eq_true hw
  have hq : Int.toNat (q : Int) = q := by lia
  have big : szLine = 16777216 := rfl
  have hwl : wd.cps.toList.length = wd.length := by rw [Array.length_toList]; rfl
  refine def_loop (Pr := P1) (D := 21) (k := 20) 1 (tt_ok w) p1_ok (tk_looks w) G hr SA hm rfl r (by kernel_rfl) (l1 := []) (H1 := []) (PL := fun l' H' => l' = [(S "signs", .obj 3), (S "is_folded", .d (.bool true)), (S "word", .d (.str wd)), (S "self", .obj 1)] ∧ H' = HH tab signs closed ret serr (q : Int) state out errs wait done dv D) ?_ ?_
  · rw [v_lk1]
    exact ⟨rfl, rfl, rfl⟩
  · rintro c' m' adr' rest' news' H' s' E' Q' l' ⟨rfl, rfl⟩ ec hE G' hr' S' hl' r'
    refine for_r1 (run_sound (tt_ok w) p1_ok 20) G' hr' (N := wd.length) (by kernel_rfl) (fun i H' => H' = HH tab signs closed ret serr (q : Int) state out errs wait done dv D ∧ lkN signs closed (wd.cps.toList.drop i) (q + i) = lkI signs closed (q : Int) wd) hE (by rw [ec]; kernel_rfl) (by rw [ec]; kernel_rfl) (by kernel_rfl) S' hl' ?_ (by lia) ?_ ?_ r'
    · rw [ec, v_lk2]
      refine gd_i (by lia) ⟨rfl, rfl, ?_⟩
      unfold lkI; rw [hq]; rfl
    · rintro i _ hi ⟨rfl, hlk⟩
      rw [ec]
      have e3 : lpX (nth (bodyOf (KF w) 510) 1) = S "i" := by kernel_rfl
      rw [e3, v_lk3]
      rw [drop_cons (by lia)] at hlk
      unfold lkN at hlk
      refine gd_i hs (cond_i (fun h1 => ?_) fun h1 => ?_)
      · have h1 := of_decide_eq_true h1
        rw [Nat.ble_eq_true_of_le (show signs.length ≤ q + i by lia)] at hlk
        refine cond_i (fun hc => ?_) fun hc => ?_
        · rw [hc] at hlk
          dsimp only
          rw [show (0 : Int) = lkI signs closed (q : Int) wd from hc ▸ hlk]; exact hP
        · rw [hc] at hlk
          dsimp only
          rw [show (-1 : Int) = lkI signs closed (q : Int) wd from hc ▸ hlk]; exact hP
      · have h1 := of_decide_eq_false h1
        rw [show Nat.ble signs.length (q + i) = false from by rw [Bool.eq_false_iff]; intro e; have := Nat.le_of_ble_eq_true e; lia] at hlk
        refine ⟨⟨by lia, by lia, hs⟩, ⟨by lia, by lia, by lia⟩, ?_⟩
        have e4 : Int.toNat ((q : Int) + (i : Int)) = q + i := by lia
        have e5 : Int.toNat (i : Int) = i := by lia
        rw [e4, e5, one_bne]
        refine cond_i (fun hc => ?_) fun hc => ?_
        · have hc : (lowN (signs.getD (q + i) 0) == wd.cps.toList.getD i 0) = false := by simpa using hc
          rw [hc] at hlk
          dsimp only
          rw [show (0 : Int) = lkI signs closed (q : Int) wd from hlk]; exact hP
        · have hc : (lowN (signs.getD (q + i) 0) == wd.cps.toList.getD i 0) = true := by simpa using hc
          rw [hc] at hlk
          exact ⟨⟨rfl, by rw [← hlk, Nat.add_assoc]; rfl⟩, keeps_pre (pre := [_, _, _]) (by kernel_rfl)⟩
    · rintro _ ⟨rfl, hlk⟩
      rw [v_lk4]
      rw [List.drop_eq_nil_of_le (by lia)] at hlk
      dsimp only
      rw [show (1 : Int) = lkI signs closed (q : Int) wd from hlk]; exact hP
theorem p2_ok {tab : List (Str × Addr)} {signs : List Nat} {closed : Bool} : PmOk prog w (KF w) Γ (P2 tab signs closed) 42 :=
  pm_cons (po_ev (tt_ok w) noPm_ok (k := 20) (by decide) low_ok) (pm_cons look_ok pm_nil)
end
end Mine
end
section
open PySem PySem.W PyProof.Rows PySem.Calls
set_option maxRecDepth 100000
set_option maxHeartbeats 8000000
namespace Mine
/-! the plain machine -/
inductive Q
  | doctype | beforeName | name | afterName | afterPk | beforePub | pubD | pubS | afterPub | between | afterSk | beforeSys | sysD | sysS | afterSys | bogus | data
  deriving DecidableEq
noncomputable def Q.nm : Q → Str
  | .doctype => S "DOCTYPE" | .beforeName => S "before DOCTYPE name" | .name => S "DOCTYPE name" | .afterName => S "after DOCTYPE name" | .afterPk => S "after DOCTYPE public keyword" | .beforePub => S "before DOCTYPE public identifier"
  | .pubD => S "DOCTYPE public identifier (double-quoted)" | .pubS => S "DOCTYPE public identifier (single-quoted)" | .afterPub => S "after DOCTYPE public identifier" | .between => S "between DOCTYPE public and system identifiers"
  | .afterSk => S "after DOCTYPE system keyword" | .beforeSys => S "before DOCTYPE system identifier" | .sysD => S "DOCTYPE system identifier (double-quoted)" | .sysS => S "DOCTYPE system identifier (single-quoted)" | .afterSys => S "after DOCTYPE system identifier" | .bogus => S "bogus DOCTYPE" | .data => S "data"
structure CS where
  q : Q
  p : Int
  nm : Dat
  pb : Dat
  sy : Dat
  qk : Bool
  errs : List Dat
  out : List Dat
  wait : Bool
  done : Bool
  live : Bool
  has : Bool
noncomputable def tokF (signs : List Nat) (closed ret : Bool) (serr : List Dat) (c : CS) : Hp := HH TAB signs closed ret serr c.p c.q.nm c.out c.errs c.wait c.done (cond c.live (.obj 7) dN) (cond c.has (DD c.nm c.pb c.sy c.qk) [])
noncomputable abbrev CS.nx (c : CS) : CS := { c with p := c.p + 1, wait := false }
noncomputable abbrev CS.to (q : Q) (c : CS) : CS := { c with q := q }
noncomputable abbrev CS.err (code : String) (c : CS) : CS := { c with errs := c.errs ++ [eD (S code) (c.p - 1)] }
noncomputable abbrev CS.again (q : Q) (c : CS) : CS := { c with p := c.p - 1, q := q }
noncomputable abbrev CS.quirk (c : CS) : CS := { c with qk := true }
noncomputable abbrev CS.emit (c : CS) : CS := { c with live := false, out := c.out ++ [docD c.nm c.pb c.sy c.qk] }
noncomputable abbrev CS.eof (c : CS) : CS := { c with out := c.out ++ [eofD], done := true }
noncomputable abbrev CS.give (c : CS) : CS := (c.to .data).emit
noncomputable abbrev CS.endW (c : CS) : CS := ((c.err "eof-in-doctype").quirk.emit).eof
noncomputable abbrev CS.begin (n : Dat) (c : CS) : CS := { c with live := true, has := true, nm := n, pb := .none, sy := .none, qk := false }
noncomputable abbrev CS.spoil (code : String) (c : CS) : CS := ((c.err code).quirk).again .bogus
noncomputable abbrev cq (k : Nat) (s : String) : Bool := one k == Str.ofString s
noncomputable abbrev bk (k : Nat) : Bool := List.any [Str.ofString "\t", Str.ofString "\n", Str.ofString "\x0c", Str.ofString " "] fun y => y == one k
noncomputable abbrev CS.openP (k : Nat) (c : CS) : CS := cond (cq k "\"") { c with pb := .str (S ""), q := .pubD } { c with pb := .str (S ""), q := .pubS }
noncomputable abbrev CS.openS (k : Nat) (c : CS) : CS := cond (cq k "\"") { c with sy := .str (S ""), q := .sysD } { c with sy := .str (S ""), q := .sysS }
noncomputable abbrev CS.noId (sort : String) (k : Nat) (c : CS) : CS := cond (cq k ">") ((c.err ("missing-doctype-" ++ sort ++ "-identifier")).quirk.give) (c.spoil ("missing-quote-before-doctype-" ++ sort ++ "-identifier"))
noncomputable abbrev CS.noSecond (k : Nat) (c : CS) : CS := cond (cq k ">") c.give (c.spoil "missing-quote-before-doctype-system-identifier")
noncomputable abbrev addS (d : Dat) (x : Str) : Dat := match d with | .str y => .str (y ++ x) | d => d
noncomputable def ch_doctype (k : Nat) (c : CS) : CS := cond (bk k) (c.nx.to .beforeName) (cond (cq k ">") (c.nx.again .beforeName) ((c.nx.err "missing-whitespace-before-doctype-name").again .beforeName))
noncomputable def ch_before_name (k : Nat) (c : CS) : CS := cond (bk k) c.nx (cond (cq k "\x00") (((c.nx.err "unexpected-null-character").begin (.str (S "\ufffd"))).to .name) (cond (cq k ">") ((((c.nx.err "missing-doctype-name").begin .none).quirk).give) ((c.nx.begin (.str (one (lowN k)))).to .name)))
noncomputable def ch_name (k : Nat) (c : CS) : CS := cond (bk k) (c.nx.to .afterName) (cond (cq k ">") c.nx.give (cond (cq k "\x00") { c.nx.err "unexpected-null-character" with nm := addS c.nm (S "\ufffd") } { c.nx with nm := addS c.nm (one (lowN k)) }))
noncomputable def ch_after_name (signs : List Nat) (closed : Bool) (k : Nat) (c : CS) : CS := cond (bk k) c.nx (cond (cq k ">") c.nx.give
  (cond (lkI signs closed (c.p + 1 - 1) (Str.ofString "public") == 1) { c.nx with p := c.p + 1 - 1 + 6, q := .afterPk }
  (cond (lkI signs closed (c.p + 1 - 1) (Str.ofString "system") == 1) { c.nx with p := c.p + 1 - 1 + 6, q := .afterSk }
  (cond (lkI signs closed (c.p + 1 - 1) (Str.ofString "public") == -1) { c with wait := true }
  (cond (lkI signs closed (c.p + 1 - 1) (Str.ofString "system") == -1) { c with wait := true }
  ({ c with p := c.p + 1 - 1 + 1, wait := false }.spoil "invalid-character-sequence-after-doctype-name"))))))
noncomputable def ch_after_kw (pub : Bool) (k : Nat) (c : CS) : CS := match pub with
  | true => cond (bk k) (c.nx.to .beforePub) (cond (cq k "\"") ((c.nx.err "missing-whitespace-after-doctype-public-keyword").openP k) (cond (cq k "'") ((c.nx.err "missing-whitespace-after-doctype-public-keyword").openP k) (c.nx.noId "public" k)))
  | false => cond (bk k) (c.nx.to .beforeSys) (cond (cq k "\"") ((c.nx.err "missing-whitespace-after-doctype-system-keyword").openS k) (cond (cq k "'") ((c.nx.err "missing-whitespace-after-doctype-system-keyword").openS k) (c.nx.noId "system" k)))
noncomputable def ch_before_id (pub : Bool) (k : Nat) (c : CS) : CS := match pub with
  | true => cond (bk k) c.nx (cond (cq k "\"") (c.nx.openP k) (cond (cq k "'") (c.nx.openP k) (c.nx.noId "public" k)))
  | false => cond (bk k) c.nx (cond (cq k "\"") (c.nx.openS k) (cond (cq k "'") (c.nx.openS k) (c.nx.noId "system" k)))
noncomputable def ch_in_pub (quote : String) (k : Nat) (c : CS) : CS := cond (cq k quote) (c.nx.to .afterPub) (cond (cq k "\x00") { c.nx.err "unexpected-null-character" with pb := addS c.pb (S "\ufffd") } (cond (cq k ">") ((c.nx.err "abrupt-doctype-public-identifier").quirk.give) { c.nx with pb := addS c.pb (one k) }))
noncomputable def ch_in_sys (quote : String) (k : Nat) (c : CS) : CS := cond (cq k quote) (c.nx.to .afterSys) (cond (cq k "\x00") { c.nx.err "unexpected-null-character" with sy := addS c.sy (S "\ufffd") } (cond (cq k ">") ((c.nx.err "abrupt-doctype-system-identifier").quirk.give) { c.nx with sy := addS c.sy (one k) }))
noncomputable def ch_after_pub (k : Nat) (c : CS) : CS := cond (bk k) (c.nx.to .between) (cond (cq k "\"") ((c.nx.err "missing-whitespace-between-doctype-public-and-system-identifiers").openS k) (cond (cq k "'") ((c.nx.err "missing-whitespace-between-doctype-public-and-system-identifiers").openS k) (c.nx.noSecond k)))
noncomputable def ch_between (k : Nat) (c : CS) : CS := cond (bk k) c.nx (cond (cq k "\"") (c.nx.openS k) (cond (cq k "'") (c.nx.openS k) (c.nx.noSecond k)))
noncomputable def ch_after_sys (k : Nat) (c : CS) : CS := cond (bk k) c.nx (cond (cq k ">") c.nx.give ((c.nx.err "unexpected-character-after-doctype-system-identifier").again .bogus))
noncomputable def ch_bogus (k : Nat) (c : CS) : CS := cond (cq k ">") c.nx.give (cond (cq k "\x00") (c.nx.err "unexpected-null-character") c.nx)
noncomputable def chP (signs : List Nat) (closed : Bool) (k : Nat) (c : CS) : CS := match c.q with
  | .doctype => ch_doctype k c | .beforeName => ch_before_name k c | .name => ch_name k c | .afterName => ch_after_name signs closed k c | .afterPk => ch_after_kw true k c | .beforePub => ch_before_id true k c
  | .pubD => ch_in_pub "\"" k c | .pubS => ch_in_pub "'" k c | .afterPub => ch_after_pub k c | .between => ch_between k c | .afterSk => ch_after_kw false k c | .beforeSys => ch_before_id false k c
  | .sysD => ch_in_sys "\"" k c | .sysS => ch_in_sys "'" k c | .afterSys => ch_after_sys k c | .bogus => ch_bogus k c | .data => c
noncomputable def eoP (c : CS) : CS := match c.q with
  | .doctype => (c.nx.begin .none).endW | .beforeName => (c.nx.begin .none).endW | .bogus => c.nx.emit.eof | .data => c | _ => c.nx.endW
theorem push2 {α : Type} {b : Bool} {x y : α} {R : α → Prop} {X Y : Prop} (h : R (cond b x y)) (hx : R x → X) (hy : R y → Y) : cond b X Y := by
  induction b with
  | true => exact hx h
  | false => exact hy h
section
variable {w : World} {signs : List Nat} {closed ret : Bool} {serr : List Dat} {p : Int} {nm pb sy : Dat} {x : Str} {qk wait : Bool} {errs out : List Dat} {P : KV}
theorem len1 {α : Type} {l : List α} {a : α} (h : l.length + 1 ≤ szLine) : (l ++ [a]).length ≤ szLine := by simpa using h
theorem lk_ok {c : CS} (h0 : 0 ≤ c.p) (hs : signs.length ≤ szLine) : LookOk TAB signs closed c.p (tokF signs closed ret serr c) := ⟨h0, hs, _, _, _, _, _, _, _, _, _, rfl⟩
theorem r_doctype (hs : signs.length ≤ szLine) (he : errs.length ≤ szLine) (ho : out.length + 1 ≤ szLine) (h0 : 0 ≤ p)
    (h1 : p < signs.length → P (.d .none) (tokF signs closed ret serr (chP signs closed (signs.getD p.toNat 0) ⟨.doctype, p, nm, pb, sy, qk, errs, out, wait, false, false, false⟩))) (h2 : ¬ p < signs.length → P (.d .none) (tokF signs closed ret serr (eoP ⟨.doctype, p, nm, pb, sy, qk, errs, out, wait, false, false, false⟩))) :
    (EV w (P2 TAB signs closed) 60).c 545 [.obj 1] (tokF signs closed ret serr ⟨.doctype, p, nm, pb, sy, qk, errs, out, wait, false, false, false⟩) P := by
  have ho1 : out.length ≤ szLine := Nat.le_of_succ_le ho
  refine Eq.mpr v_doctype ?_
  refine gd_i hs (cond_i (fun hp => ⟨⟨h0, of_decide_eq_true hp, hs⟩, ?_⟩) fun hp => ?_)
  · have h := h1 (of_decide_eq_true hp)
    unfold chP at h
    dsimp only at h
    unfold ch_doctype at h
    repeat' first
      | exact h
      | (refine gd_i ?_ ?_; (first | assumption | exact len1 ho))
      | (refine And.intro (lk_ok (c := ⟨.afterName, p + 1 - 1, nm, pb, sy, qk, errs, out, false, false, true, true⟩) (by show (0 : Int) ≤ p + 1 - 1; lia) hs) ?_)
      | (refine push2 (R := fun c => P (.d .none) (tokF signs closed ret serr c)) h (fun h => ?_) (fun h => ?_))
  · have h := h2 (of_decide_eq_false hp)
    unfold eoP at h
    dsimp only at h
    repeat' first
      | exact h
      | (refine gd_i ?_ ?_; (first | assumption | exact len1 ho))
theorem r_before_name (hs : signs.length ≤ szLine) (he : errs.length ≤ szLine) (ho : out.length + 1 ≤ szLine) (h0 : 0 ≤ p)
    (h1 : p < signs.length → P (.d .none) (tokF signs closed ret serr (chP signs closed (signs.getD p.toNat 0) ⟨.beforeName, p, nm, pb, sy, qk, errs, out, wait, false, false, false⟩))) (h2 : ¬ p < signs.length → P (.d .none) (tokF signs closed ret serr (eoP ⟨.beforeName, p, nm, pb, sy, qk, errs, out, wait, false, false, false⟩))) :
    (EV w (P2 TAB signs closed) 60).c 545 [.obj 1] (tokF signs closed ret serr ⟨.beforeName, p, nm, pb, sy, qk, errs, out, wait, false, false, false⟩) P := by
  have ho1 : out.length ≤ szLine := Nat.le_of_succ_le ho
  refine Eq.mpr v_before_name ?_
  refine gd_i hs (cond_i (fun hp => ⟨⟨h0, of_decide_eq_true hp, hs⟩, ?_⟩) fun hp => ?_)
  · have h := h1 (of_decide_eq_true hp)
    unfold chP at h
    dsimp only at h
    unfold ch_before_name at h
    repeat' first
      | exact h
      | (refine gd_i ?_ ?_; (first | assumption | exact len1 ho))
      | (refine And.intro (lk_ok (c := ⟨.afterName, p + 1 - 1, nm, pb, sy, qk, errs, out, false, false, true, true⟩) (by show (0 : Int) ≤ p + 1 - 1; lia) hs) ?_)
      | (refine push2 (R := fun c => P (.d .none) (tokF signs closed ret serr c)) h (fun h => ?_) (fun h => ?_))
  · have h := h2 (of_decide_eq_false hp)
    unfold eoP at h
    dsimp only at h
    repeat' first
      | exact h
      | (refine gd_i ?_ ?_; (first | assumption | exact len1 ho))
theorem r_name (hs : signs.length ≤ szLine) (he : errs.length ≤ szLine) (ho : out.length + 1 ≤ szLine) (hx : x.length + 1 ≤ szLine) (h0 : 0 ≤ p)
    (h1 : p < signs.length → P (.d .none) (tokF signs closed ret serr (chP signs closed (signs.getD p.toNat 0) ⟨.name, p, (.str x), pb, sy, qk, errs, out, wait, false, true, true⟩))) (h2 : ¬ p < signs.length → P (.d .none) (tokF signs closed ret serr (eoP ⟨.name, p, (.str x), pb, sy, qk, errs, out, wait, false, true, true⟩))) :
    (EV w (P2 TAB signs closed) 60).c 545 [.obj 1] (tokF signs closed ret serr ⟨.name, p, (.str x), pb, sy, qk, errs, out, wait, false, true, true⟩) P := by
  have ho1 : out.length ≤ szLine := Nat.le_of_succ_le ho
  refine Eq.mpr v_name ?_
  refine gd_i hs (cond_i (fun hp => ⟨⟨h0, of_decide_eq_true hp, hs⟩, ?_⟩) fun hp => ?_)
  · have h := h1 (of_decide_eq_true hp)
    unfold chP at h
    dsimp only at h
    unfold ch_name at h
    repeat' first
      | exact h
      | (refine gd_i ?_ ?_; (first | assumption | exact len1 ho))
      | (refine And.intro (lk_ok (c := ⟨.afterName, p + 1 - 1, nm, pb, sy, qk, errs, out, false, false, true, true⟩) (by show (0 : Int) ≤ p + 1 - 1; lia) hs) ?_)
      | (refine push2 (R := fun c => P (.d .none) (tokF signs closed ret serr c)) h (fun h => ?_) (fun h => ?_))
  · have h := h2 (of_decide_eq_false hp)
    unfold eoP at h
    dsimp only at h
    repeat' first
      | exact h
      | (refine gd_i ?_ ?_; (first | assumption | exact len1 ho))
theorem r_after_name (hs : signs.length ≤ szLine) (he : errs.length ≤ szLine) (ho : out.length + 1 ≤ szLine) (h0 : 0 ≤ p)
    (h1 : p < signs.length → P (.d .none) (tokF signs closed ret serr (chP signs closed (signs.getD p.toNat 0) ⟨.afterName, p, nm, pb, sy, qk, errs, out, wait, false, true, true⟩))) (h2 : ¬ p < signs.length → P (.d .none) (tokF signs closed ret serr (eoP ⟨.afterName, p, nm, pb, sy, qk, errs, out, wait, false, true, true⟩))) :
    (EV w (P2 TAB signs closed) 60).c 545 [.obj 1] (tokF signs closed ret serr ⟨.afterName, p, nm, pb, sy, qk, errs, out, wait, false, true, true⟩) P := by
  have ho1 : out.length ≤ szLine := Nat.le_of_succ_le ho
  refine Eq.mpr v_after_name ?_
  refine gd_i hs (cond_i (fun hp => ⟨⟨h0, of_decide_eq_true hp, hs⟩, ?_⟩) fun hp => ?_)
  · have h := h1 (of_decide_eq_true hp)
    unfold chP at h
    dsimp only at h
    unfold ch_after_name at h
    repeat' first
      | exact h
      | (refine gd_i ?_ ?_; (first | assumption | exact len1 ho))
      | (refine And.intro (lk_ok (c := ⟨.afterName, p + 1 - 1, nm, pb, sy, qk, errs, out, false, false, true, true⟩) (by show (0 : Int) ≤ p + 1 - 1; lia) hs) ?_)
      | (refine push2 (R := fun c => P (.d .none) (tokF signs closed ret serr c)) h (fun h => ?_) (fun h => ?_))
  · have h := h2 (of_decide_eq_false hp)
    unfold eoP at h
    dsimp only at h
    repeat' first
      | exact h
      | (refine gd_i ?_ ?_; (first | assumption | exact len1 ho))
theorem r_after_pk (hs : signs.length ≤ szLine) (he : errs.length ≤ szLine) (ho : out.length + 1 ≤ szLine) (h0 : 0 ≤ p)
    (h1 : p < signs.length → P (.d .none) (tokF signs closed ret serr (chP signs closed (signs.getD p.toNat 0) ⟨.afterPk, p, nm, pb, sy, qk, errs, out, wait, false, true, true⟩))) (h2 : ¬ p < signs.length → P (.d .none) (tokF signs closed ret serr (eoP ⟨.afterPk, p, nm, pb, sy, qk, errs, out, wait, false, true, true⟩))) :
    (EV w (P2 TAB signs closed) 60).c 545 [.obj 1] (tokF signs closed ret serr ⟨.afterPk, p, nm, pb, sy, qk, errs, out, wait, false, true, true⟩) P := by
  have ho1 : out.length ≤ szLine := Nat.le_of_succ_le ho
  refine Eq.mpr v_after_pk ?_
  refine gd_i hs (cond_i (fun hp => ⟨⟨h0, of_decide_eq_true hp, hs⟩, ?_⟩) fun hp => ?_)
  · have h := h1 (of_decide_eq_true hp)
    unfold chP at h
    dsimp only at h
    unfold ch_after_kw at h
    repeat' first
      | exact h
      | (refine gd_i ?_ ?_; (first | assumption | exact len1 ho))
      | (refine And.intro (lk_ok (c := ⟨.afterName, p + 1 - 1, nm, pb, sy, qk, errs, out, false, false, true, true⟩) (by show (0 : Int) ≤ p + 1 - 1; lia) hs) ?_)
      | (refine push2 (R := fun c => P (.d .none) (tokF signs closed ret serr c)) h (fun h => ?_) (fun h => ?_))
  · have h := h2 (of_decide_eq_false hp)
    unfold eoP at h
    dsimp only at h
    repeat' first
      | exact h
      | (refine gd_i ?_ ?_; (first | assumption | exact len1 ho))
theorem r_before_pub (hs : signs.length ≤ szLine) (he : errs.length ≤ szLine) (ho : out.length + 1 ≤ szLine) (h0 : 0 ≤ p)
    (h1 : p < signs.length → P (.d .none) (tokF signs closed ret serr (chP signs closed (signs.getD p.toNat 0) ⟨.beforePub, p, nm, pb, sy, qk, errs, out, wait, false, true, true⟩))) (h2 : ¬ p < signs.length → P (.d .none) (tokF signs closed ret serr (eoP ⟨.beforePub, p, nm, pb, sy, qk, errs, out, wait, false, true, true⟩))) :
    (EV w (P2 TAB signs closed) 60).c 545 [.obj 1] (tokF signs closed ret serr ⟨.beforePub, p, nm, pb, sy, qk, errs, out, wait, false, true, true⟩) P := by
  have ho1 : out.length ≤ szLine := Nat.le_of_succ_le ho
  refine Eq.mpr v_before_pub ?_
  refine gd_i hs (cond_i (fun hp => ⟨⟨h0, of_decide_eq_true hp, hs⟩, ?_⟩) fun hp => ?_)
  · have h := h1 (of_decide_eq_true hp)
    unfold chP at h
    dsimp only at h
    unfold ch_before_id at h
    repeat' first
      | exact h
      | (refine gd_i ?_ ?_; (first | assumption | exact len1 ho))
      | (refine And.intro (lk_ok (c := ⟨.afterName, p + 1 - 1, nm, pb, sy, qk, errs, out, false, false, true, true⟩) (by show (0 : Int) ≤ p + 1 - 1; lia) hs) ?_)
      | (refine push2 (R := fun c => P (.d .none) (tokF signs closed ret serr c)) h (fun h => ?_) (fun h => ?_))
  · have h := h2 (of_decide_eq_false hp)
    unfold eoP at h
    dsimp only at h
    repeat' first
      | exact h
      | (refine gd_i ?_ ?_; (first | assumption | exact len1 ho))
theorem r_pub_d (hs : signs.length ≤ szLine) (he : errs.length ≤ szLine) (ho : out.length + 1 ≤ szLine) (hx : x.length + 1 ≤ szLine) (h0 : 0 ≤ p)
    (h1 : p < signs.length → P (.d .none) (tokF signs closed ret serr (chP signs closed (signs.getD p.toNat 0) ⟨.pubD, p, nm, (.str x), sy, qk, errs, out, wait, false, true, true⟩))) (h2 : ¬ p < signs.length → P (.d .none) (tokF signs closed ret serr (eoP ⟨.pubD, p, nm, (.str x), sy, qk, errs, out, wait, false, true, true⟩))) :
    (EV w (P2 TAB signs closed) 60).c 545 [.obj 1] (tokF signs closed ret serr ⟨.pubD, p, nm, (.str x), sy, qk, errs, out, wait, false, true, true⟩) P := by
  have ho1 : out.length ≤ szLine := Nat.le_of_succ_le ho
  refine Eq.mpr v_pub_d ?_
  refine gd_i hs (cond_i (fun hp => ⟨⟨h0, of_decide_eq_true hp, hs⟩, ?_⟩) fun hp => ?_)
  · have h := h1 (of_decide_eq_true hp)
    unfold chP at h
    dsimp only at h
    unfold ch_in_pub at h
    repeat' first
      | exact h
      | (refine gd_i ?_ ?_; (first | assumption | exact len1 ho))
      | (refine And.intro (lk_ok (c := ⟨.afterName, p + 1 - 1, nm, pb, sy, qk, errs, out, false, false, true, true⟩) (by show (0 : Int) ≤ p + 1 - 1; lia) hs) ?_)
      | (refine push2 (R := fun c => P (.d .none) (tokF signs closed ret serr c)) h (fun h => ?_) (fun h => ?_))
  · have h := h2 (of_decide_eq_false hp)
    unfold eoP at h
    dsimp only at h
    repeat' first
      | exact h
      | (refine gd_i ?_ ?_; (first | assumption | exact len1 ho))
theorem r_pub_s (hs : signs.length ≤ szLine) (he : errs.length ≤ szLine) (ho : out.length + 1 ≤ szLine) (hx : x.length + 1 ≤ szLine) (h0 : 0 ≤ p)
    (h1 : p < signs.length → P (.d .none) (tokF signs closed ret serr (chP signs closed (signs.getD p.toNat 0) ⟨.pubS, p, nm, (.str x), sy, qk, errs, out, wait, false, true, true⟩))) (h2 : ¬ p < signs.length → P (.d .none) (tokF signs closed ret serr (eoP ⟨.pubS, p, nm, (.str x), sy, qk, errs, out, wait, false, true, true⟩))) :
    (EV w (P2 TAB signs closed) 60).c 545 [.obj 1] (tokF signs closed ret serr ⟨.pubS, p, nm, (.str x), sy, qk, errs, out, wait, false, true, true⟩) P := by
  have ho1 : out.length ≤ szLine := Nat.le_of_succ_le ho
  refine Eq.mpr v_pub_s ?_
  refine gd_i hs (cond_i (fun hp => ⟨⟨h0, of_decide_eq_true hp, hs⟩, ?_⟩) fun hp => ?_)
  · have h := h1 (of_decide_eq_true hp)
    unfold chP at h
    dsimp only at h
    unfold ch_in_pub at h
    repeat' first
      | exact h
      | (refine gd_i ?_ ?_; (first | assumption | exact len1 ho))
      | (refine And.intro (lk_ok (c := ⟨.afterName, p + 1 - 1, nm, pb, sy, qk, errs, out, false, false, true, true⟩) (by show (0 : Int) ≤ p + 1 - 1; lia) hs) ?_)
      | (refine push2 (R := fun c => P (.d .none) (tokF signs closed ret serr c)) h (fun h => ?_) (fun h => ?_))
  · have h := h2 (of_decide_eq_false hp)
    unfold eoP at h
    dsimp only at h
    repeat' first
      | exact h
      | (refine gd_i ?_ ?_; (first | assumption | exact len1 ho))
theorem r_after_pub (hs : signs.length ≤ szLine) (he : errs.length ≤ szLine) (ho : out.length + 1 ≤ szLine) (h0 : 0 ≤ p)
    (h1 : p < signs.length → P (.d .none) (tokF signs closed ret serr (chP signs closed (signs.getD p.toNat 0) ⟨.afterPub, p, nm, pb, sy, qk, errs, out, wait, false, true, true⟩))) (h2 : ¬ p < signs.length → P (.d .none) (tokF signs closed ret serr (eoP ⟨.afterPub, p, nm, pb, sy, qk, errs, out, wait, false, true, true⟩))) :
    (EV w (P2 TAB signs closed) 60).c 545 [.obj 1] (tokF signs closed ret serr ⟨.afterPub, p, nm, pb, sy, qk, errs, out, wait, false, true, true⟩) P := by
  have ho1 : out.length ≤ szLine := Nat.le_of_succ_le ho
  refine Eq.mpr v_after_pub ?_
  refine gd_i hs (cond_i (fun hp => ⟨⟨h0, of_decide_eq_true hp, hs⟩, ?_⟩) fun hp => ?_)
  · have h := h1 (of_decide_eq_true hp)
    unfold chP at h
    dsimp only at h
    unfold ch_after_pub at h
    repeat' first
      | exact h
      | (refine gd_i ?_ ?_; (first | assumption | exact len1 ho))
      | (refine And.intro (lk_ok (c := ⟨.afterName, p + 1 - 1, nm, pb, sy, qk, errs, out, false, false, true, true⟩) (by show (0 : Int) ≤ p + 1 - 1; lia) hs) ?_)
      | (refine push2 (R := fun c => P (.d .none) (tokF signs closed ret serr c)) h (fun h => ?_) (fun h => ?_))
  · have h := h2 (of_decide_eq_false hp)
    unfold eoP at h
    dsimp only at h
    repeat' first
      | exact h
      | (refine gd_i ?_ ?_; (first | assumption | exact len1 ho))
theorem r_between (hs : signs.length ≤ szLine) (he : errs.length ≤ szLine) (ho : out.length + 1 ≤ szLine) (h0 : 0 ≤ p)
    (h1 : p < signs.length → P (.d .none) (tokF signs closed ret serr (chP signs closed (signs.getD p.toNat 0) ⟨.between, p, nm, pb, sy, qk, errs, out, wait, false, true, true⟩))) (h2 : ¬ p < signs.length → P (.d .none) (tokF signs closed ret serr (eoP ⟨.between, p, nm, pb, sy, qk, errs, out, wait, false, true, true⟩))) :
    (EV w (P2 TAB signs closed) 60).c 545 [.obj 1] (tokF signs closed ret serr ⟨.between, p, nm, pb, sy, qk, errs, out, wait, false, true, true⟩) P := by
  have ho1 : out.length ≤ szLine := Nat.le_of_succ_le ho
  refine Eq.mpr v_between ?_
  refine gd_i hs (cond_i (fun hp => ⟨⟨h0, of_decide_eq_true hp, hs⟩, ?_⟩) fun hp => ?_)
  · have h := h1 (of_decide_eq_true hp)
    unfold chP at h
    dsimp only at h
    unfold ch_between at h
    repeat' first
      | exact h
      | (refine gd_i ?_ ?_; (first | assumption | exact len1 ho))
      | (refine And.intro (lk_ok (c := ⟨.afterName, p + 1 - 1, nm, pb, sy, qk, errs, out, false, false, true, true⟩) (by show (0 : Int) ≤ p + 1 - 1; lia) hs) ?_)
      | (refine push2 (R := fun c => P (.d .none) (tokF signs closed ret serr c)) h (fun h => ?_) (fun h => ?_))
  · have h := h2 (of_decide_eq_false hp)
    unfold eoP at h
    dsimp only at h
    repeat' first
      | exact h
      | (refine gd_i ?_ ?_; (first | assumption | exact len1 ho))
theorem r_after_sk (hs : signs.length ≤ szLine) (he : errs.length ≤ szLine) (ho : out.length + 1 ≤ szLine) (h0 : 0 ≤ p)
    (h1 : p < signs.length → P (.d .none) (tokF signs closed ret serr (chP signs closed (signs.getD p.toNat 0) ⟨.afterSk, p, nm, pb, sy, qk, errs, out, wait, false, true, true⟩))) (h2 : ¬ p < signs.length → P (.d .none) (tokF signs closed ret serr (eoP ⟨.afterSk, p, nm, pb, sy, qk, errs, out, wait, false, true, true⟩))) :
    (EV w (P2 TAB signs closed) 60).c 545 [.obj 1] (tokF signs closed ret serr ⟨.afterSk, p, nm, pb, sy, qk, errs, out, wait, false, true, true⟩) P := by
  have ho1 : out.length ≤ szLine := Nat.le_of_succ_le ho
  refine Eq.mpr v_after_sk ?_
  refine gd_i hs (cond_i (fun hp => ⟨⟨h0, of_decide_eq_true hp, hs⟩, ?_⟩) fun hp => ?_)
  · have h := h1 (of_decide_eq_true hp)
    unfold chP at h
    dsimp only at h
    unfold ch_after_kw at h
    repeat' first
      | exact h
      | (refine gd_i ?_ ?_; (first | assumption | exact len1 ho))
      | (refine And.intro (lk_ok (c := ⟨.afterName, p + 1 - 1, nm, pb, sy, qk, errs, out, false, false, true, true⟩) (by show (0 : Int) ≤ p + 1 - 1; lia) hs) ?_)
      | (refine push2 (R := fun c => P (.d .none) (tokF signs closed ret serr c)) h (fun h => ?_) (fun h => ?_))
  · have h := h2 (of_decide_eq_false hp)
    unfold eoP at h
    dsimp only at h
    repeat' first
      | exact h
      | (refine gd_i ?_ ?_; (first | assumption | exact len1 ho))
theorem r_before_sys (hs : signs.length ≤ szLine) (he : errs.length ≤ szLine) (ho : out.length + 1 ≤ szLine) (h0 : 0 ≤ p)
    (h1 : p < signs.length → P (.d .none) (tokF signs closed ret serr (chP signs closed (signs.getD p.toNat 0) ⟨.beforeSys, p, nm, pb, sy, qk, errs, out, wait, false, true, true⟩))) (h2 : ¬ p < signs.length → P (.d .none) (tokF signs closed ret serr (eoP ⟨.beforeSys, p, nm, pb, sy, qk, errs, out, wait, false, true, true⟩))) :
    (EV w (P2 TAB signs closed) 60).c 545 [.obj 1] (tokF signs closed ret serr ⟨.beforeSys, p, nm, pb, sy, qk, errs, out, wait, false, true, true⟩) P := by
  have ho1 : out.length ≤ szLine := Nat.le_of_succ_le ho
  refine Eq.mpr v_before_sys ?_
  refine gd_i hs (cond_i (fun hp => ⟨⟨h0, of_decide_eq_true hp, hs⟩, ?_⟩) fun hp => ?_)
  · have h := h1 (of_decide_eq_true hp)
    unfold chP at h
    dsimp only at h
    unfold ch_before_id at h
    repeat' first
      | exact h
      | (refine gd_i ?_ ?_; (first | assumption | exact len1 ho))
      | (refine And.intro (lk_ok (c := ⟨.afterName, p + 1 - 1, nm, pb, sy, qk, errs, out, false, false, true, true⟩) (by show (0 : Int) ≤ p + 1 - 1; lia) hs) ?_)
      | (refine push2 (R := fun c => P (.d .none) (tokF signs closed ret serr c)) h (fun h => ?_) (fun h => ?_))
  · have h := h2 (of_decide_eq_false hp)
    unfold eoP at h
    dsimp only at h
    repeat' first
      | exact h
      | (refine gd_i ?_ ?_; (first | assumption | exact len1 ho))
theorem r_sys_d (hs : signs.length ≤ szLine) (he : errs.length ≤ szLine) (ho : out.length + 1 ≤ szLine) (hx : x.length + 1 ≤ szLine) (h0 : 0 ≤ p)
    (h1 : p < signs.length → P (.d .none) (tokF signs closed ret serr (chP signs closed (signs.getD p.toNat 0) ⟨.sysD, p, nm, pb, (.str x), qk, errs, out, wait, false, true, true⟩))) (h2 : ¬ p < signs.length → P (.d .none) (tokF signs closed ret serr (eoP ⟨.sysD, p, nm, pb, (.str x), qk, errs, out, wait, false, true, true⟩))) :
    (EV w (P2 TAB signs closed) 60).c 545 [.obj 1] (tokF signs closed ret serr ⟨.sysD, p, nm, pb, (.str x), qk, errs, out, wait, false, true, true⟩) P := by
  have ho1 : out.length ≤ szLine := Nat.le_of_succ_le ho
  refine Eq.mpr v_sys_d ?_
  refine gd_i hs (cond_i (fun hp => ⟨⟨h0, of_decide_eq_true hp, hs⟩, ?_⟩) fun hp => ?_)
  · have h := h1 (of_decide_eq_true hp)
    unfold chP at h
    dsimp only at h
    unfold ch_in_sys at h
    repeat' first
      | exact h
      | (refine gd_i ?_ ?_; (first | assumption | exact len1 ho))
      | (refine And.intro (lk_ok (c := ⟨.afterName, p + 1 - 1, nm, pb, sy, qk, errs, out, false, false, true, true⟩) (by show (0 : Int) ≤ p + 1 - 1; lia) hs) ?_)
      | (refine push2 (R := fun c => P (.d .none) (tokF signs closed ret serr c)) h (fun h => ?_) (fun h => ?_))
  · have h := h2 (of_decide_eq_false hp)
    unfold eoP at h
    dsimp only at h
    repeat' first
      | exact h
      | (refine gd_i ?_ ?_; (first | assumption | exact len1 ho))
theorem r_sys_s (hs : signs.length ≤ szLine) (he : errs.length ≤ szLine) (ho : out.length + 1 ≤ szLine) (hx : x.length + 1 ≤ szLine) (h0 : 0 ≤ p)
    (h1 : p < signs.length → P (.d .none) (tokF signs closed ret serr (chP signs closed (signs.getD p.toNat 0) ⟨.sysS, p, nm, pb, (.str x), qk, errs, out, wait, false, true, true⟩))) (h2 : ¬ p < signs.length → P (.d .none) (tokF signs closed ret serr (eoP ⟨.sysS, p, nm, pb, (.str x), qk, errs, out, wait, false, true, true⟩))) :
    (EV w (P2 TAB signs closed) 60).c 545 [.obj 1] (tokF signs closed ret serr ⟨.sysS, p, nm, pb, (.str x), qk, errs, out, wait, false, true, true⟩) P := by
  have ho1 : out.length ≤ szLine := Nat.le_of_succ_le ho
  refine Eq.mpr v_sys_s ?_
  refine gd_i hs (cond_i (fun hp => ⟨⟨h0, of_decide_eq_true hp, hs⟩, ?_⟩) fun hp => ?_)
  · have h := h1 (of_decide_eq_true hp)
    unfold chP at h
    dsimp only at h
    unfold ch_in_sys at h
    repeat' first
      | exact h
      | (refine gd_i ?_ ?_; (first | assumption | exact len1 ho))
      | (refine And.intro (lk_ok (c := ⟨.afterName, p + 1 - 1, nm, pb, sy, qk, errs, out, false, false, true, true⟩) (by show (0 : Int) ≤ p + 1 - 1; lia) hs) ?_)
      | (refine push2 (R := fun c => P (.d .none) (tokF signs closed ret serr c)) h (fun h => ?_) (fun h => ?_))
  · have h := h2 (of_decide_eq_false hp)
    unfold eoP at h
    dsimp only at h
    repeat' first
      | exact h
      | (refine gd_i ?_ ?_; (first | assumption | exact len1 ho))
theorem r_after_sys (hs : signs.length ≤ szLine) (he : errs.length ≤ szLine) (ho : out.length + 1 ≤ szLine) (h0 : 0 ≤ p)
    (h1 : p < signs.length → P (.d .none) (tokF signs closed ret serr (chP signs closed (signs.getD p.toNat 0) ⟨.afterSys, p, nm, pb, sy, qk, errs, out, wait, false, true, true⟩))) (h2 : ¬ p < signs.length → P (.d .none) (tokF signs closed ret serr (eoP ⟨.afterSys, p, nm, pb, sy, qk, errs, out, wait, false, true, true⟩))) :
    (EV w (P2 TAB signs closed) 60).c 545 [.obj 1] (tokF signs closed ret serr ⟨.afterSys, p, nm, pb, sy, qk, errs, out, wait, false, true, true⟩) P := by
  have ho1 : out.length ≤ szLine := Nat.le_of_succ_le ho
  refine Eq.mpr v_after_sys ?_
  refine gd_i hs (cond_i (fun hp => ⟨⟨h0, of_decide_eq_true hp, hs⟩, ?_⟩) fun hp => ?_)
  · have h := h1 (of_decide_eq_true hp)
    unfold chP at h
    dsimp only at h
    unfold ch_after_sys at h
    repeat' first
      | exact h
      | (refine gd_i ?_ ?_; (first | assumption | exact len1 ho))
      | (refine And.intro (lk_ok (c := ⟨.afterName, p + 1 - 1, nm, pb, sy, qk, errs, out, false, false, true, true⟩) (by show (0 : Int) ≤ p + 1 - 1; lia) hs) ?_)
      | (refine push2 (R := fun c => P (.d .none) (tokF signs closed ret serr c)) h (fun h => ?_) (fun h => ?_))
  · have h := h2 (of_decide_eq_false hp)
    unfold eoP at h
    dsimp only at h
    repeat' first
      | exact h
      | (refine gd_i ?_ ?_; (first | assumption | exact len1 ho))
theorem r_bogus (hs : signs.length ≤ szLine) (he : errs.length ≤ szLine) (ho : out.length + 1 ≤ szLine) (h0 : 0 ≤ p)
    (h1 : p < signs.length → P (.d .none) (tokF signs closed ret serr (chP signs closed (signs.getD p.toNat 0) ⟨.bogus, p, nm, pb, sy, qk, errs, out, wait, false, true, true⟩))) (h2 : ¬ p < signs.length → P (.d .none) (tokF signs closed ret serr (eoP ⟨.bogus, p, nm, pb, sy, qk, errs, out, wait, false, true, true⟩))) :
    (EV w (P2 TAB signs closed) 60).c 545 [.obj 1] (tokF signs closed ret serr ⟨.bogus, p, nm, pb, sy, qk, errs, out, wait, false, true, true⟩) P := by
  have ho1 : out.length ≤ szLine := Nat.le_of_succ_le ho
  refine Eq.mpr v_bogus ?_
  refine gd_i hs (cond_i (fun hp => ⟨⟨h0, of_decide_eq_true hp, hs⟩, ?_⟩) fun hp => ?_)
  · have h := h1 (of_decide_eq_true hp)
    unfold chP at h
    dsimp only at h
    unfold ch_bogus at h
    repeat' first
      | exact h
      | (refine gd_i ?_ ?_; (first | assumption | exact len1 ho))
      | (refine And.intro (lk_ok (c := ⟨.afterName, p + 1 - 1, nm, pb, sy, qk, errs, out, false, false, true, true⟩) (by show (0 : Int) ≤ p + 1 - 1; lia) hs) ?_)
      | (refine push2 (R := fun c => P (.d .none) (tokF signs closed ret serr c)) h (fun h => ?_) (fun h => ?_))
  · have h := h2 (of_decide_eq_false hp)
    unfold eoP at h
    dsimp only at h
    repeat' first
      | exact h
      | (refine gd_i ?_ ?_; (first | assumption | exact len1 ho))
end
end Mine
end
section
open PySem PySem.W PyProof.Rows PySem.Calls
set_option maxRecDepth 100000
set_option maxHeartbeats 8000000
namespace Mine
noncomputable def stepP (signs : List Nat) (closed : Bool) (c : CS) : CS := cond (decide (c.p < signs.length)) (chP signs closed (signs.getD c.p.toNat 0) c) (eoP c)
noncomputable def isS : Dat → Prop
  | .str x => x.length + 1 ≤ szLine
  | _ => False
/-- what a step asks of the state -/
structure StepOk (c : CS) : Prop where
  p0 : 0 ≤ c.p
  er : c.errs.length ≤ szLine
  ot : c.out.length + 1 ≤ szLine
  dn : c.done = false
  sh : match c.q with
    | .doctype => c.live = false ∧ c.has = false
    | .beforeName => c.live = false ∧ c.has = false
    | .data => False
    | .name => c.live = true ∧ c.has = true ∧ isS c.nm
    | .pubD => c.live = true ∧ c.has = true ∧ isS c.pb
    | .pubS => c.live = true ∧ c.has = true ∧ isS c.pb
    | .sysD => c.live = true ∧ c.has = true ∧ isS c.sy
    | .sysS => c.live = true ∧ c.has = true ∧ isS c.sy
    | _ => c.live = true ∧ c.has = true
theorem isS_ex {d : Dat} (h : isS d) : ∃ x, d = .str x ∧ x.length + 1 ≤ szLine := by
  cases d with
  | str x => exact ⟨x, rfl, h⟩
  | _ => exact h.elim
theorem step_ok {w : World} {signs : List Nat} {closed ret : Bool} {serr : List Dat} {c : CS} {P : KV} (hs : signs.length ≤ szLine) (O : StepOk c) (h : P (.d .none) (tokF signs closed ret serr (stepP signs closed c))) :
    (EV w (P2 TAB signs closed) 60).c 545 [.obj 1] (tokF signs closed ret serr c) P := by
  obtain ⟨q, p, nm, pb, sy, qk, errs, out, wait, done, live, has⟩ := c
  obtain ⟨p0, er, ot, dn, sh⟩ := O
  dsimp only at p0 er ot dn sh
  subst dn
  have h1 : p < signs.length → P (.d .none) (tokF signs closed ret serr (chP signs closed (signs.getD p.toNat 0) ⟨q, p, nm, pb, sy, qk, errs, out, wait, false, live, has⟩)) := fun hp => by
    unfold stepP at h
    rw [decide_eq_true hp] at h; exact h
  have h2 : ¬ p < signs.length → P (.d .none) (tokF signs closed ret serr (eoP ⟨q, p, nm, pb, sy, qk, errs, out, wait, false, live, has⟩)) := fun hp => by
    unfold stepP at h
    rw [decide_eq_false hp] at h; exact h
  induction q with
  | data => exact sh.elim
  | doctype => obtain ⟨rfl, rfl⟩ := sh; exact r_doctype hs er ot p0 h1 h2
  | beforeName => obtain ⟨rfl, rfl⟩ := sh; exact r_before_name hs er ot p0 h1 h2
  | name => obtain ⟨rfl, rfl, hx⟩ := sh; obtain ⟨x, rfl, hx⟩ := isS_ex hx; exact r_name hs er ot hx p0 h1 h2
  | afterName => obtain ⟨rfl, rfl⟩ := sh; exact r_after_name hs er ot p0 h1 h2
  | afterPk => obtain ⟨rfl, rfl⟩ := sh; exact r_after_pk hs er ot p0 h1 h2
  | beforePub => obtain ⟨rfl, rfl⟩ := sh; exact r_before_pub hs er ot p0 h1 h2
  | pubD => obtain ⟨rfl, rfl, hx⟩ := sh; obtain ⟨x, rfl, hx⟩ := isS_ex hx; exact r_pub_d hs er ot hx p0 h1 h2
  | pubS => obtain ⟨rfl, rfl, hx⟩ := sh; obtain ⟨x, rfl, hx⟩ := isS_ex hx; exact r_pub_s hs er ot hx p0 h1 h2
  | afterPub => obtain ⟨rfl, rfl⟩ := sh; exact r_after_pub hs er ot p0 h1 h2
  | between => obtain ⟨rfl, rfl⟩ := sh; exact r_between hs er ot p0 h1 h2
  | afterSk => obtain ⟨rfl, rfl⟩ := sh; exact r_after_sk hs er ot p0 h1 h2
  | beforeSys => obtain ⟨rfl, rfl⟩ := sh; exact r_before_sys hs er ot p0 h1 h2
  | sysD => obtain ⟨rfl, rfl, hx⟩ := sh; obtain ⟨x, rfl, hx⟩ := isS_ex hx; exact r_sys_d hs er ot hx p0 h1 h2
  | sysS => obtain ⟨rfl, rfl, hx⟩ := sh; obtain ⟨x, rfl, hx⟩ := isS_ex hx; exact r_sys_s hs er ot hx p0 h1 h2
  | afterSys => obtain ⟨rfl, rfl⟩ := sh; exact r_after_sys hs er ot p0 h1 h2
  | bogus => obtain ⟨rfl, rfl⟩ := sh; exact r_bogus hs er ot p0 h1 h2
noncomputable def charD (k : Nat) : Dat := .tuple [.str (S "char"), .str (one k)]
noncomputable def dataP (signs : List Nat) (c : CS) : CS := cond (decide (c.p < signs.length)) (cond (one (signs.getD c.p.toNat 0) == Str.ofString "!") (c.nx.to .doctype) { c.nx with out := c.out ++ [charD (signs.getD c.p.toNat 0)] }) { c.nx with out := c.out ++ [eofD], done := true }
noncomputable def stepR (signs : List Nat) (closed : Bool) (c : CS) : CS := match c.q with
  | .data => dataP signs c
  | _ => stepP signs closed c
noncomputable def nrm (c : CS) : CS := { c with has := c.live }
/-- a step of the law's machine; a draft given out is forgotten -/
noncomputable def stepQ (signs : List Nat) (closed : Bool) (c : CS) : CS := nrm (stepR signs closed c)
structure StepOk1 (c : CS) : Prop where
  p0 : 0 ≤ c.p
  er : c.errs.length ≤ szLine
  ot : c.out.length + 1 ≤ szLine
  dn : c.done = false
  sh : match c.q with
    | .doctype => c.live = false ∧ c.has = false
    | .beforeName => c.live = false ∧ c.has = false
    | .data => c.live = false ∧ c.has = false
    | .name => c.live = true ∧ c.has = true ∧ isS c.nm
    | .pubD => c.live = true ∧ c.has = true ∧ isS c.pb
    | .pubS => c.live = true ∧ c.has = true ∧ isS c.pb
    | .sysD => c.live = true ∧ c.has = true ∧ isS c.sy
    | .sysS => c.live = true ∧ c.has = true ∧ isS c.sy
    | _ => c.live = true ∧ c.has = true
theorem v_data {w : World} {signs : List Nat} {closed ret : Bool} {serr : List Dat} {pos : Int} {out errs : List Dat} {wait done : Bool} {P : KV} : ((EV w (P2 TAB signs closed) 60).c 545 [.obj 1] (HH TAB signs closed ret serr pos (S "data") out errs wait done dN []) P) =
  (gd (List.length signs)
   (cond (decide (pos < (↑(List.length signs) : Int)))
    ((0 ≤ pos ∧ pos < (↑(List.length signs) : Int) ∧ List.length signs ≤ szLine) ∧
     (cond (one (List.getD signs (Int.toNat pos) 0) == Str.ofString "!")
      (P (.d (.none)) (HH TAB signs closed ret serr (pos + 1) (S "DOCTYPE") out errs false done dN []))
      (gd (List.length out)
       (P (.d (.none)) (HH TAB signs closed ret serr (pos + 1) (S "data") (out ++ [.tuple [.str (S "char"), .str (one (List.getD signs (Int.toNat pos) 0))]]) errs false done dN [])))))
    (gd (List.length out)
     (P (.d (.none)) (HH TAB signs closed ret serr (pos + 1) (S "data") (out ++ [.tuple [.str (S "eof")]]) errs false true dN [])))))
   := by kernel_rfl
theorem step1_ok {w : World} {signs : List Nat} {closed ret : Bool} {serr : List Dat} {c : CS} {P : KV} (hs : signs.length ≤ szLine) (O : StepOk1 c) (h : P (.d .none) (tokF signs closed ret serr (stepR signs closed c))) :
    (EV w (P2 TAB signs closed) 60).c 545 [.obj 1] (tokF signs closed ret serr c) P := by
  by_cases hq : c.q = .data
  · obtain ⟨q, p, nm, pb, sy, qk, errs, out, wait, done, live, has⟩ := c
    obtain ⟨p0, er, ot, dn, sh⟩ := O
    dsimp only at p0 er ot dn sh hq
    subst hq dn
    obtain ⟨rfl, rfl⟩ := sh
    refine Eq.mpr v_data (gd_i hs ?_)
    unfold stepR dataP at h
    dsimp only at h
    refine cond_i (fun h1 => ⟨⟨p0, of_decide_eq_true h1, hs⟩, ?_⟩) fun h1 => gd_i (Nat.le_of_succ_le ot) ?_
    · rw [h1] at h
      refine cond_i (fun h2 => ?_) fun h2 => gd_i (Nat.le_of_succ_le ot) ?_
      · rw [h2] at h; exact h
      · rw [h2] at h; exact h
    · rw [h1] at h; exact h
  · refine step_ok hs ⟨O.p0, O.er, O.ot, O.dn, ?_⟩ ?_
    · have sh := O.sh
      generalize c.q = q at sh hq
      cases q <;> first | exact sh | exact absurd rfl hq
    · unfold stepR at h
      generalize hqq : c.q = q at h hq
      cases q <;> first | exact absurd rfl hq | exact h
noncomputable def spStep (signs : List Nat) (closed ret : Bool) (serr : List Dat) (lvs : List LV) (H : Hp) (P : KV) : Prop :=
  lvs = [.obj 1] ∧ signs.length ≤ szLine ∧ ∃ c, H = tokF signs closed ret serr c ∧ StepOk1 c ∧ P (.d .none) (tokF signs closed ret serr (stepR signs closed c))
noncomputable def P3 (signs : List Nat) (closed ret : Bool) (serr : List Dat) : Pm := fun f => cond (Nat.beq f 545) (some (spStep signs closed ret serr)) none
theorem p3_ok {prog : Program} {w : World} {Γ : GE} {signs : List Nat} {closed ret : Bool} {serr : List Dat} : PmOk prog w (KF w) Γ (P3 signs closed ret serr) 102 :=
  pm_cons (po_ev (tt_ok w) (p2_ok (tab := TAB) (signs := signs) (closed := closed)) (k := 60) (by decide) fun {lvs H P} h => by
    obtain ⟨rfl, hs, c0, rfl, O, hP⟩ := h
    exact step1_ok hs O hP) pm_nil
theorem v_run1 {w : World} {signs sg : List Nat} {closed cl ret rt : Bool} {serr se : List Dat} {pos : Int} {state : Str} {out errs : List Dat} {wait done : Bool} {dv : LV} {D : Hp} {P : Bool → Hp → Prop} : ((EV w (P3 sg cl rt se) 20).b (scopeOf (KF w) 559) (lpI (nth (bodyOf (KF w) 559) 0)) [(S "self", .obj 1)] (HH TAB signs closed ret serr pos state out errs wait done dv D) P) =
  (cond (done)
   (P (false) (HH TAB signs closed ret serr pos state out errs wait done dv D))
   (cond (wait)
    (P (false) (HH TAB signs closed ret serr pos state out errs wait done dv D))
    (cond (!List.any TAB fun t => Prod.fst t == state)
     (P (false) (HH TAB signs closed ret serr pos state out errs wait done dv D))
     (cond (closed)
      (P (true) (HH TAB signs closed ret serr pos state out errs wait done dv D))
      (gd (List.length signs)
       (P (decide (pos < (↑(List.length signs) : Int))) (HH TAB signs closed ret serr pos state out errs wait done dv D)))))))
   := by kernel_rfl
theorem v_run3 {w : World} {signs sg : List Nat} {closed cl ret rt : Bool} {serr se : List Dat} {pos : Int} {state : Str} {out errs : List Dat} {wait done : Bool} {dv : LV} {D : Hp} {P : Fl → Mine.Loc → Hp → Prop} : ((EV w (P3 sg cl rt se) 20).s (scopeOf (KF w) 559) ((bodyOf (KF w) 559).drop 1) [(S "self", .obj 1)] (HH TAB signs closed ret serr pos state out errs wait done dv D) P) =
  (P (.ret (.d (.bool (done)))) [(S "self", .obj 1)] (HH TAB signs closed ret serr pos state out errs wait done dv D))
   := by kernel_rfl
theorem v_run2 {w : World} {signs sg : List Nat} {closed cl ret rt : Bool} {serr se : List Dat} {pos : Int} {state : Str} {out errs : List Dat} {wait done : Bool} {dv : LV} {D : Hp} {P : Fl → Mine.Loc → Hp → Prop} : ((EV w (P3 sg cl rt se) 20).s (scopeOf (KF w) 559) (lpB (nth (bodyOf (KF w) 559) 0)) [(S "self", .obj 1)] (HH TAB signs closed ret serr pos state out errs wait done dv D) P) =
  spStep sg cl rt se [.obj 1] (HH TAB signs closed ret serr pos state out errs wait done dv D) (fun Z H1 => P .next [(S "self", .obj 1)] H1) := by kernel_rfl
theorem tab_q1 (q : Q) : (List.any TAB fun t => t.1 == q.nm) = true := by cases q <;> kernel_rfl
noncomputable def ReadyC (signs : List Nat) (closed : Bool) (c : CS) : Bool := !c.done && !c.wait && (closed || decide (c.p < signs.length))
noncomputable def Lv (c : CS) : Prop := c.live = true → c.has = true
theorem cut_tok {signs : List Nat} {closed ret : Bool} {serr : List Dat} {d : CS} (h : Lv d) : CutTo [(S "self", .obj 1)] (tokF signs closed ret serr d) (tokF signs closed ret serr (nrm d)) ∧ 7 ≤ (tokF signs closed ret serr (nrm d)).length := by
  obtain ⟨q, p, nm, pb, sy, qk, errs, out, wait, done, live, has⟩ := d
  have hl : ∀ {n : Nat}, 7 ≤ n → ∀ (y : Str) (v : LV), ([(S "self", .obj 1)] : Mine.Loc).lookup y = some v → v.small n = true := fun {n} hn y v e => by
    rw [List.lookup_cons] at e
    cases g : y == S "self" with
    | true => rw [g] at e; cases e; exact Nat.ble_eq_true_of_le (Nat.le_trans (by decide) hn)
    | false => rw [g] at e; cases e
  cases live with
  | true =>
    have h : has = true := h rfl
    subst h
    exact ⟨⟨⟨[], (List.append_nil _).symm⟩, by rfl, hl (by decide : 7 ≤ 9)⟩, (by decide : 7 ≤ 9)⟩
  | false =>
    refine ⟨⟨⟨cond has (DD nm pb sy qk) [], ?_⟩, by rfl, hl (by decide : 7 ≤ 7)⟩, (by decide : 7 ≤ 7)⟩
    cases has <;> rfl
theorem run_ok {prog : Program} {w : World} {Γ : GE} {signs : List Nat} {closed ret : Bool} {serr : List Dat} (hs : signs.length ≤ szLine) (I : CS → Prop) (μ : CS → Nat)
    (hI : ∀ c, I c → ReadyC signs closed c = true → StepOk1 c ∧ Lv (stepR signs closed c) ∧ I (stepQ signs closed c) ∧ μ (stepQ signs closed c) < μ c) {c₀ : CS} (h0 : I c₀)
    {c : FC (KF w) Γ} {m : Str → Option Value} {adr adr₀ : List Addr} {rest news : Led} {s : Shared} {vs : List Value} {P : KV} {R : Result → Shared → Prop} (G : FG c) (hr : Room c.A 130) (e0 : adr₀ <+: adr) (h7 : adr₀.length ≤ 7) (SA : AtS prog w c m adr rest news (tokF signs closed ret serr c₀) s) (hm : MtL adr rest [.obj 1] vs)
    (hP : ∀ c, I c → ReadyC signs closed c = false → P (.d (.bool c.done)) (tokF signs closed ret serr c)) (r : Ret prog w Mt c m adr₀ rest s P (fun v s' => R (.ok (.ret v)) s')) : codeAny (model prog w) c.A (.call (.ref 559) ⟨vs, []⟩) R s := by
  refine enter (n := 122) ((tt_ok w).fn 559 [S "self"] [] (by kernel_rfl)) G (hr.le (by decide)) SA hm rfl r fun c' m' s' E' Q' ec hE Z G' hr' S' hl' r' => ?_
  have IH := run_sound (prog := prog) (Γ := Γ) (tt_ok w) (p3_ok (signs := signs) (closed := closed) (ret := ret) (serr := serr)) 20
  have eb : bodyOf (KF w) 559 = nth (bodyOf (KF w) 559) 0 :: (bodyOf (KF w) 559).drop 1 := by kernel_rfl
  rw [eb]
  refine wpAny_execs_cons (while_c IH G' hr' (by kernel_rfl) (P := fun fl l2 H2 => match fl with | .next => (EV w (P3 signs closed ret serr) 20).s (scopeOf (KF w) 559) ((bodyOf (KF w) 559).drop 1) l2 H2 (fun fl Z H1 => match fl with | .next => P (.d .none) H1 | .ret v => P v H1) | .ret v => P v H2)
    (fun k l' H' => l' = [(S "self", .obj 1)] ∧ ∃ c, H' = tokF signs closed ret serr c ∧ I c ∧ k = μ c) e0 hE S' hl' ⟨rfl, c₀, rfl, h0, rfl⟩ ?_ ?_)
  · rintro k _ _ ⟨rfl, c1, rfl, hi, rfl⟩
    rw [ec]
    have fin : ReadyC signs closed c1 = false → (EV w (P3 signs closed ret serr) 20).s (scopeOf (KF w) 559) ((bodyOf (KF w) 559).drop 1) [(S "self", .obj 1)] (tokF signs closed ret serr c1) (fun fl Z H1 => match fl with | .next => P (.d .none) H1 | .ret v => P v H1) := fun hb =>
      Eq.mpr v_run3 (hP c1 hi hb)
    refine Eq.mpr v_run1 ?_
    refine cond_i (fun h1 => fin (by unfold ReadyC; rw [h1]; rfl)) fun h1 => cond_i (fun h2 => fin (by unfold ReadyC; rw [h1, h2]; rfl)) fun h2 => cond_i (fun h3 => ?_) fun h3 => ?_
    · rw [tab_q1] at h3; cases h3
    have go : ReadyC signs closed c1 = true → (EV w (P3 signs closed ret serr) 20).s (scopeOf (KF w) 559) (lpB (nth (bodyOf (KF w) 559) 0)) [(S "self", .obj 1)] (tokF signs closed ret serr c1) (fun fl l2 H2 => match fl with
        | .next => ∃ k', k' < μ c1 ∧ ∃ l3, Keeps l3 l2 ∧ ∃ H3, CutTo l3 H2 H3 ∧ adr₀.length ≤ H3.length ∧ l3 = [(S "self", .obj 1)] ∧ ∃ c, H3 = tokF signs closed ret serr c ∧ I c ∧ k' = μ c | .ret u => P u H2) := fun hb => by
      obtain ⟨O, i1, i2, m2⟩ := hI c1 hi hb
      obtain ⟨q1, q2⟩ := cut_tok (signs := signs) (closed := closed) (ret := ret) (serr := serr) i1
      exact Eq.mpr v_run2 ⟨rfl, hs, c1, rfl, O, _, m2, _, fun Z Z e => e, _, q1, Nat.le_trans h7 q2, rfl, _, rfl, i2, rfl⟩
    refine cond_i (fun h4 => ?_) fun h4 => gd_i hs ?_
    · exact go (by unfold ReadyC; rw [h1, h2, h4]; rfl)
    · cases h5 : decide (c1.p < signs.length) with
      | true => exact go (by unfold ReadyC; rw [h1, h2, h5]; simp)
      | false => exact fin (by unfold ReadyC; rw [h4, h5]; simp)
  · intro fl f' l3 m3 adr3 rest3 news3 H3 h3 tk3 e3 e4 S3 L3 hmf hp
    cases fl with
    | next =>
      cases hmf
      dsimp only at hp
      rw [← ec] at hp
      exact IH.s G' hr' S3 L3 hp (r'.then e3 e4)
    | ret v =>
      obtain ⟨u, rfl, hu⟩ := hmf
      exact (r'.then e3 e4).now S3 L3 (mRet hu) hp
end Mine
end
section
open PySem PySem.W PyProof.Rows PySem.Calls
set_option maxRecDepth 100000
set_option maxHeartbeats 8000000
namespace Mine
theorem one_eq (k : Nat) (x : Str) (a : Nat) (h : x = one a) : (one k == x) = (k == a) := by
  subst h
  by_cases h : k = a
  · subst h; simp
  · have : one k ≠ one a := fun e => h (by injection e with e; simpa using e)
    rw [show (k == a) = false from beq_eq_false_iff_ne.mpr h, show (one k == one a) = false from beq_eq_false_iff_ne.mpr this]
theorem to_nat {a : Int} (h : 0 ≤ a) : ∃ k : Nat, a = k := ⟨a.toNat, (Int.toNat_of_nonneg h).symm⟩
/-! the stream's feed -/
noncomputable abbrev CTRL : Dat := .str (S "control-character-in-input-stream")
noncomputable def ieS (k : Nat) : Str := cond (k == 127) (S "control-character-in-input-stream") (S "")
noncomputable def okSign (k : Nat) : Bool := Nat.beq k 0 || Nat.beq k 9 || Nat.beq k 10 || Nat.beq k 12 || Nat.beq k 13 || (Nat.ble 32 k && Nat.ble k 127) || (Nat.ble 160 k && Nat.ble k 40000)
noncomputable def ieB (i : Int) (H : Hp) (P : KV) : Prop := (0 ≤ i ∧ okSign i.toNat = true) ∧ P (.d (.str (ieS i.toNat))) H
noncomputable def spIe (lvs : List LV) (H : Hp) (P : KV) : Prop := uA [.i] lvs fun v => ieB v.1 H P
noncomputable def P4 : Pm := fun f => cond (Nat.beq f 361) (some spIe) none
theorem v_ie {w : World} {k : Nat} {H : Hp} {P : KV} : ((EV w noPm 20).c 361 [.d (.int (k : Int))] H P) =
  (cond (decide (55296 ≤ (↑k : Int)))
   (cond (decide ((↑k : Int) ≤ 57343))
    (P (.d (.str (S "surrogate-in-input-stream"))) H)
    (cond (decide (64976 ≤ (↑k : Int)))
     (cond (decide ((↑k : Int) ≤ 65007))
      (P (.d (.str (S "noncharacter-in-input-stream"))) H)
      (cond (decide ((↑k : Int) ≤ 1114111))
       (cond (decide (65534 ≤ Int.fmod (↑k : Int) 65536))
        (P (.d (.str (S "noncharacter-in-input-stream"))) H)
        (cond (decide ((↑k : Int) ≤ 31))
         (cond (!List.any [0, 9, 10, 12, 13] fun y => y == (↑k : Int))
          (P (.d (.str (S "control-character-in-input-stream"))) H)
          (P (.d (.str (S ""))) H))
         (cond (decide (127 ≤ (↑k : Int)))
          (cond (decide ((↑k : Int) ≤ 159))
           (cond (!List.any [0, 9, 10, 12, 13] fun y => y == (↑k : Int))
            (P (.d (.str (S "control-character-in-input-stream"))) H)
            (P (.d (.str (S ""))) H))
           (P (.d (.str (S ""))) H))
          (P (.d (.str (S ""))) H))))
       (cond (decide ((↑k : Int) ≤ 31))
        (cond (!List.any [0, 9, 10, 12, 13] fun y => y == (↑k : Int))
         (P (.d (.str (S "control-character-in-input-stream"))) H)
         (P (.d (.str (S ""))) H))
        (cond (decide (127 ≤ (↑k : Int)))
         (cond (decide ((↑k : Int) ≤ 159))
          (cond (!List.any [0, 9, 10, 12, 13] fun y => y == (↑k : Int))
           (P (.d (.str (S "control-character-in-input-stream"))) H)
           (P (.d (.str (S ""))) H))
          (P (.d (.str (S ""))) H))
         (P (.d (.str (S ""))) H)))))
     (cond (decide ((↑k : Int) ≤ 1114111))
      (cond (decide (65534 ≤ Int.fmod (↑k : Int) 65536))
       (P (.d (.str (S "noncharacter-in-input-stream"))) H)
       (cond (decide ((↑k : Int) ≤ 31))
        (cond (!List.any [0, 9, 10, 12, 13] fun y => y == (↑k : Int))
         (P (.d (.str (S "control-character-in-input-stream"))) H)
         (P (.d (.str (S ""))) H))
        (cond (decide (127 ≤ (↑k : Int)))
         (cond (decide ((↑k : Int) ≤ 159))
          (cond (!List.any [0, 9, 10, 12, 13] fun y => y == (↑k : Int))
           (P (.d (.str (S "control-character-in-input-stream"))) H)
           (P (.d (.str (S ""))) H))
          (P (.d (.str (S ""))) H))
         (P (.d (.str (S ""))) H))))
      (cond (decide ((↑k : Int) ≤ 31))
       (cond (!List.any [0, 9, 10, 12, 13] fun y => y == (↑k : Int))
        (P (.d (.str (S "control-character-in-input-stream"))) H)
        (P (.d (.str (S ""))) H))
       (cond (decide (127 ≤ (↑k : Int)))
        (cond (decide ((↑k : Int) ≤ 159))
         (cond (!List.any [0, 9, 10, 12, 13] fun y => y == (↑k : Int))
          (P (.d (.str (S "control-character-in-input-stream"))) H)
          (P (.d (.str (S ""))) H))
         (P (.d (.str (S ""))) H))
        (P (.d (.str (S ""))) H))))))
   (cond (decide (64976 ≤ (↑k : Int)))
    (cond (decide ((↑k : Int) ≤ 65007))
     (P (.d (.str (S "noncharacter-in-input-stream"))) H)
     (cond (decide ((↑k : Int) ≤ 1114111))
      (cond (decide (65534 ≤ Int.fmod (↑k : Int) 65536))
       (P (.d (.str (S "noncharacter-in-input-stream"))) H)
       (cond (decide ((↑k : Int) ≤ 31))
        (cond (!List.any [0, 9, 10, 12, 13] fun y => y == (↑k : Int))
         (P (.d (.str (S "control-character-in-input-stream"))) H)
         (P (.d (.str (S ""))) H))
        (cond (decide (127 ≤ (↑k : Int)))
         (cond (decide ((↑k : Int) ≤ 159))
          (cond (!List.any [0, 9, 10, 12, 13] fun y => y == (↑k : Int))
           (P (.d (.str (S "control-character-in-input-stream"))) H)
           (P (.d (.str (S ""))) H))
          (P (.d (.str (S ""))) H))
         (P (.d (.str (S ""))) H))))
      (cond (decide ((↑k : Int) ≤ 31))
       (cond (!List.any [0, 9, 10, 12, 13] fun y => y == (↑k : Int))
        (P (.d (.str (S "control-character-in-input-stream"))) H)
        (P (.d (.str (S ""))) H))
       (cond (decide (127 ≤ (↑k : Int)))
        (cond (decide ((↑k : Int) ≤ 159))
         (cond (!List.any [0, 9, 10, 12, 13] fun y => y == (↑k : Int))
          (P (.d (.str (S "control-character-in-input-stream"))) H)
          (P (.d (.str (S ""))) H))
         (P (.d (.str (S ""))) H))
        (P (.d (.str (S ""))) H)))))
    (cond (decide ((↑k : Int) ≤ 1114111))
     (cond (decide (65534 ≤ Int.fmod (↑k : Int) 65536))
      (P (.d (.str (S "noncharacter-in-input-stream"))) H)
      (cond (decide ((↑k : Int) ≤ 31))
       (cond (!List.any [0, 9, 10, 12, 13] fun y => y == (↑k : Int))
        (P (.d (.str (S "control-character-in-input-stream"))) H)
        (P (.d (.str (S ""))) H))
       (cond (decide (127 ≤ (↑k : Int)))
        (cond (decide ((↑k : Int) ≤ 159))
         (cond (!List.any [0, 9, 10, 12, 13] fun y => y == (↑k : Int))
          (P (.d (.str (S "control-character-in-input-stream"))) H)
          (P (.d (.str (S ""))) H))
         (P (.d (.str (S ""))) H))
        (P (.d (.str (S ""))) H))))
     (cond (decide ((↑k : Int) ≤ 31))
      (cond (!List.any [0, 9, 10, 12, 13] fun y => y == (↑k : Int))
       (P (.d (.str (S "control-character-in-input-stream"))) H)
       (P (.d (.str (S ""))) H))
      (cond (decide (127 ≤ (↑k : Int)))
       (cond (decide ((↑k : Int) ≤ 159))
        (cond (!List.any [0, 9, 10, 12, 13] fun y => y == (↑k : Int))
         (P (.d (.str (S "control-character-in-input-stream"))) H)
         (P (.d (.str (S ""))) H))
        (P (.d (.str (S ""))) H))
       (P (.d (.str (S ""))) H))))))
   := by kernel_rfl
theorem v_f1 {w : World} {signs : List Nat} {closed ret : Bool} {serr : List Dat} {pos : Int} {state : Str} {out errs : List Dat} {wait done : Bool} {dv : LV} {D : Hp} {text : Str} {P : Fl → Mine.Loc → Hp → Prop} : ((EV w P4 30).s (scopeOf (KF w) 382) ((bodyOf (KF w) 382).take 1) [(S "text", .d (.str text)), (S "self", .obj 2)] (HH TAB signs false ret serr pos state out errs wait done dv D) P) =
  (P .next [(S "text", .d (.str (text))), (S "self", .obj 2)] (HH TAB signs false ret serr pos state out errs wait done dv D))
   := by kernel_rfl
theorem v_f2 {w : World} {signs : List Nat} {closed ret : Bool} {serr : List Dat} {pos : Int} {state : Str} {out errs : List Dat} {wait done : Bool} {dv : LV} {D : Hp} {text : Str} {P : KV} : ((EV w P4 30).e (scopeOf (KF w) 382) (lpI (nth (bodyOf (KF w) 382) 1)) [(S "text", .d (.str text)), (S "self", .obj 2)] (HH TAB signs closed ret serr pos state out errs wait done dv D) P) =
  (P (.d (.str (text))) (HH TAB signs closed ret serr pos state out errs wait done dv D))
   := by kernel_rfl
theorem v_f3a {w : World} {signs : List Nat} {closed ret : Bool} {serr : List Dat} {pos : Int} {state : Str} {out errs : List Dat} {wait done : Bool} {dv : LV} {text : Str} {k : Nat} {P : Fl → Mine.Loc → Hp → Prop} : ((EV w P4 30).s (scopeOf (KF w) 382) (lpB (nth (bodyOf (KF w) 382) 1)) [(S "c", .d (.str (one k))), (S "text", .d (.str text)), (S "self", .obj 2)] (HH TAB signs closed ret serr pos state out errs wait done dv []) P) =
  (cond (one k == Str.ofString "\x0d")
   (gd (List.length signs)
    (P .next [(S "c", .d (.str (one k))), (S "text", .d (.str (text))), (S "self", .obj 2)] (HH TAB (signs ++ [10]) closed (one k == Str.ofString "\x0d") serr (pos) (state) out errs wait done (dv) [])))
   (cond (one k != Str.ofString "\n")
    ((0 ≤ (↑k : Int) ∧ okSign (Int.toNat (↑k : Int)) = true) ∧
     (cond (ieS (Int.toNat (↑k : Int)) != Str.ofString "")
      (gd (List.length signs)
       (gd (List.length serr)
        (gd (List.length signs)
         (P .next [(S "code", .d (.str (ieS (Int.toNat (↑k : Int))))), (S "c", .d (.str (one k))), (S "text", .d (.str (text))), (S "self", .obj 2)] (HH TAB (signs ++ [k]) closed (one k == Str.ofString "\x0d") (serr ++ [.tuple [.str (ieS (Int.toNat (↑k : Int))), .int ((↑(List.length signs) : Int))]]) (pos) (state) out errs wait done (dv) [])))))
      (gd (List.length signs)
       (P .next [(S "code", .d (.str (ieS (Int.toNat (↑k : Int))))), (S "c", .d (.str (one k))), (S "text", .d (.str (text))), (S "self", .obj 2)] (HH TAB (signs ++ [k]) closed (one k == Str.ofString "\x0d") serr (pos) (state) out errs wait done (dv) [])))))
    (cond (!ret)
     ((0 ≤ (↑k : Int) ∧ okSign (Int.toNat (↑k : Int)) = true) ∧
      (cond (ieS (Int.toNat (↑k : Int)) != Str.ofString "")
       (gd (List.length signs)
        (gd (List.length serr)
         (gd (List.length signs)
          (P .next [(S "code", .d (.str (ieS (Int.toNat (↑k : Int))))), (S "c", .d (.str (one k))), (S "text", .d (.str (text))), (S "self", .obj 2)] (HH TAB (signs ++ [k]) closed (one k == Str.ofString "\x0d") (serr ++ [.tuple [.str (ieS (Int.toNat (↑k : Int))), .int ((↑(List.length signs) : Int))]]) (pos) (state) out errs wait done (dv) [])))))
       (gd (List.length signs)
        (P .next [(S "code", .d (.str (ieS (Int.toNat (↑k : Int))))), (S "c", .d (.str (one k))), (S "text", .d (.str (text))), (S "self", .obj 2)] (HH TAB (signs ++ [k]) closed (one k == Str.ofString "\x0d") serr (pos) (state) out errs wait done (dv) [])))))
     (P .next [(S "c", .d (.str (one k))), (S "text", .d (.str (text))), (S "self", .obj 2)] (HH TAB signs closed (one k == Str.ofString "\x0d") serr (pos) (state) out errs wait done (dv) [])))))
   := by kernel_rfl
theorem v_f3b {w : World} {signs : List Nat} {closed ret : Bool} {serr : List Dat} {pos : Int} {state : Str} {out errs : List Dat} {wait done : Bool} {dv : LV} {nm pb sy : Dat} {qk : Bool} {text : Str} {k : Nat} {P : Fl → Mine.Loc → Hp → Prop} : ((EV w P4 30).s (scopeOf (KF w) 382) (lpB (nth (bodyOf (KF w) 382) 1)) [(S "c", .d (.str (one k))), (S "text", .d (.str text)), (S "self", .obj 2)] (HH TAB signs closed ret serr pos state out errs wait done dv (DD nm pb sy qk)) P) =
  (cond (one k == Str.ofString "\x0d")
   (gd (List.length signs)
    (P .next [(S "c", .d (.str (one k))), (S "text", .d (.str (text))), (S "self", .obj 2)] (HH TAB (signs ++ [10]) closed (one k == Str.ofString "\x0d") serr (pos) (state) out errs wait done (dv) (DD (nm) (pb) (sy) qk))))
   (cond (one k != Str.ofString "\n")
    ((0 ≤ (↑k : Int) ∧ okSign (Int.toNat (↑k : Int)) = true) ∧
     (cond (ieS (Int.toNat (↑k : Int)) != Str.ofString "")
      (gd (List.length signs)
       (gd (List.length serr)
        (gd (List.length signs)
         (P .next [(S "code", .d (.str (ieS (Int.toNat (↑k : Int))))), (S "c", .d (.str (one k))), (S "text", .d (.str (text))), (S "self", .obj 2)] (HH TAB (signs ++ [k]) closed (one k == Str.ofString "\x0d") (serr ++ [.tuple [.str (ieS (Int.toNat (↑k : Int))), .int ((↑(List.length signs) : Int))]]) (pos) (state) out errs wait done (dv) (DD (nm) (pb) (sy) qk))))))
      (gd (List.length signs)
       (P .next [(S "code", .d (.str (ieS (Int.toNat (↑k : Int))))), (S "c", .d (.str (one k))), (S "text", .d (.str (text))), (S "self", .obj 2)] (HH TAB (signs ++ [k]) closed (one k == Str.ofString "\x0d") serr (pos) (state) out errs wait done (dv) (DD (nm) (pb) (sy) qk))))))
    (cond (!ret)
     ((0 ≤ (↑k : Int) ∧ okSign (Int.toNat (↑k : Int)) = true) ∧
      (cond (ieS (Int.toNat (↑k : Int)) != Str.ofString "")
       (gd (List.length signs)
        (gd (List.length serr)
         (gd (List.length signs)
          (P .next [(S "code", .d (.str (ieS (Int.toNat (↑k : Int))))), (S "c", .d (.str (one k))), (S "text", .d (.str (text))), (S "self", .obj 2)] (HH TAB (signs ++ [k]) closed (one k == Str.ofString "\x0d") (serr ++ [.tuple [.str (ieS (Int.toNat (↑k : Int))), .int ((↑(List.length signs) : Int))]]) (pos) (state) out errs wait done (dv) (DD (nm) (pb) (sy) qk))))))
       (gd (List.length signs)
        (P .next [(S "code", .d (.str (ieS (Int.toNat (↑k : Int))))), (S "c", .d (.str (one k))), (S "text", .d (.str (text))), (S "self", .obj 2)] (HH TAB (signs ++ [k]) closed (one k == Str.ofString "\x0d") serr (pos) (state) out errs wait done (dv) (DD (nm) (pb) (sy) qk))))))
     (P .next [(S "c", .d (.str (one k))), (S "text", .d (.str (text))), (S "self", .obj 2)] (HH TAB signs closed (one k == Str.ofString "\x0d") serr (pos) (state) out errs wait done (dv) (DD (nm) (pb) (sy) qk))))))
   := by kernel_rfl
theorem v_f4 {w : World} {H : Hp} {l : Mine.Loc} {P : Fl → Mine.Loc → Hp → Prop} : ((EV w P4 30).s (scopeOf (KF w) 382) ((bodyOf (KF w) 382).drop 2) l H P) =
  (P .next (l) H)
   := by kernel_rfl
theorem v_tenda {w : World} {signs : List Nat} {closed ret : Bool} {serr : List Dat} {pos : Int} {state : Str} {out errs : List Dat} {wait done : Bool} {dv : LV} {P : KV} : ((EV w noPm 30).c 432 [.obj 1] (HH TAB signs closed ret serr pos state out errs wait done dv []) P) =
  (P (.d (.none)) (HH TAB signs true ret serr (pos) (state) out errs false done (dv) []))
   := by kernel_rfl
theorem v_tendb {w : World} {signs : List Nat} {closed ret : Bool} {serr : List Dat} {pos : Int} {state : Str} {out errs : List Dat} {wait done : Bool} {dv : LV} {nm pb sy : Dat} {qk : Bool} {P : KV} : ((EV w noPm 30).c 432 [.obj 1] (HH TAB signs closed ret serr pos state out errs wait done dv (DD nm pb sy qk)) P) =
  (P (.d (.none)) (HH TAB signs true ret serr (pos) (state) out errs false done (dv) (DD (nm) (pb) (sy) qk)))
   := by kernel_rfl
theorem ie0 {k : Nat} (h : k ≠ 127) : ieS k = S "" := by
  unfold ieS
  rw [beq_eq_false_iff_ne.mpr h]; rfl
theorem dle_t {a b : Nat} (h : a ≤ b) : decide ((a : Int) ≤ (b : Int)) = true := decide_eq_true (Int.ofNat_le.mpr h)
theorem dle_f {a b : Nat} (h : b < a) : decide ((a : Int) ≤ (b : Int)) = false := decide_eq_false (Int.not_le.mpr (Int.ofNat_lt.mpr h))
theorem cf {b : Bool} {X Y : Prop} (h : b = false) (y : Y) : cond b X Y := by rw [h]; exact y
theorem ct {b : Bool} {X Y : Prop} (h : b = true) (x : X) : cond b X Y := by rw [h]; exact x
theorem or_c {a b : Bool} {G : Prop} (h : (a || b) = true) (h1 : a = true → G) (h2 : b = true → G) : G := (Bool.or_eq_true_iff.mp h).elim h1 h2
theorem ie_is {w : World} {k : Nat} {H : Hp} {P : KV} (ok : okSign k = true) (h : P (.d (.str (ieS k))) H) : (EV w noPm 20).c 361 [.d (.int (k : Int))] H P := by
  rw [v_ie]
  have hk : k < 50000 → Int.fmod (k : Int) 65536 = k := fun hk => by
    rw [Int.fmod_eq_emod_of_nonneg _ (by decide), Int.emod_eq_of_lt (Int.natCast_nonneg k) (show (k : Int) < 65536 from Int.ofNat_lt.mpr (Nat.lt_trans hk (by decide : 50000 < 65536)))]
  have pre : ∀ {X1 X2 X3 X5 Z : Prop}, k < 50000 → Z → cond (decide ((55296 : Int) ≤ (k : Int))) X1 (cond (decide ((64976 : Int) ≤ (k : Int))) X2 (cond (decide ((k : Int) ≤ 1114111)) (cond (decide ((65534 : Int) ≤ Int.fmod (k : Int) 65536)) X3 Z) X5)) := fun lt z =>
    cf (dle_f (a := 55296) (Nat.lt_trans lt (by decide))) (cf (dle_f (a := 64976) (Nat.lt_trans lt (by decide))) (ct (dle_t (b := 1114111) (Nat.le_of_lt (Nat.lt_trans lt (by decide)))) (cf (by rw [hk lt]; exact dle_f (a := 65534) (Nat.lt_trans lt (by decide))) z)))
  refine or_c ok (fun ok => or_c ok (fun ok => or_c ok (fun ok => or_c ok (fun ok => or_c ok (fun ok => or_c ok (fun e => by cases Nat.eq_of_beq_eq_true e; exact pre (by decide) (ct rfl (cf rfl h))) fun e => by cases Nat.eq_of_beq_eq_true e; exact pre (by decide) (ct rfl (cf rfl h))) fun e => by cases Nat.eq_of_beq_eq_true e; exact pre (by decide) (ct rfl (cf rfl h))) fun e => by cases Nat.eq_of_beq_eq_true e; exact pre (by decide) (ct rfl (cf rfl h))) fun e => by cases Nat.eq_of_beq_eq_true e; exact pre (by decide) (ct rfl (cf rfl h))) fun e => ?_) fun e => ?_
  · obtain ⟨e1, e2⟩ := Bool.and_eq_true_iff.mp e
    replace e1 := Nat.le_of_ble_eq_true e1
    replace e2 := Nat.le_of_ble_eq_true e2
    refine pre (Nat.lt_of_le_of_lt e2 (by decide)) (cf (dle_f (b := 31) e1) ?_)
    rcases Nat.lt_or_eq_of_le e2 with lt | rfl
    · rw [ie0 (Nat.ne_of_lt lt)] at h
      exact cf (dle_f (a := 127) lt) h
    · exact ct rfl (ct rfl (ct rfl h))
  · obtain ⟨e1, e2⟩ := Bool.and_eq_true_iff.mp e
    replace e1 := Nat.le_of_ble_eq_true e1
    replace e2 := Nat.le_of_ble_eq_true e2
    rw [ie0 (Nat.ne_of_gt (Nat.lt_of_lt_of_le (by decide) e1))] at h
    exact pre (Nat.lt_of_le_of_lt e2 (by decide)) (cf (dle_f (b := 31) (Nat.lt_of_lt_of_le (by decide) e1)) (ct (dle_t (a := 127) (Nat.le_trans (by decide) e1)) (cf (dle_f (b := 159) e1) h)))
theorem p4_ok {prog : Program} {w : World} {Γ : GE} : PmOk prog w (KF w) Γ P4 21 :=
  pm_cons (po_ev (tt_ok w) noPm_ok (k := 20) (by decide) fun {lvs H P} h => by
    obtain ⟨⟨i, Z⟩, rfl, ⟨h0, h1⟩, h2⟩ := uA.inv h
    obtain ⟨k, rfl⟩ := to_nat h0
    exact ie_is h1 h2) pm_nil
structure FS where
  signs : List Nat
  ret : Bool
  serr : List Dat
noncomputable def feed1 (σ : FS) (k : Nat) : FS := cond (k == 13) ⟨σ.signs ++ [10], true, σ.serr⟩ (cond (k == 10 && σ.ret) ⟨σ.signs, false, σ.serr⟩ ⟨σ.signs ++ [k], false, cond (k == 127) (σ.serr ++ [eD (S "control-character-in-input-stream") σ.signs.length]) σ.serr⟩)
noncomputable def feedL (σ : FS) (ks : List Nat) : FS := ks.foldl feed1 σ
theorem feed1_le (σ : FS) (k : Nat) : (feed1 σ k).signs.length ≤ σ.signs.length + 1 ∧ (feed1 σ k).serr.length ≤ σ.serr.length + 1 := by
  unfold feed1
  cases k == 13 <;> cases k == 10 <;> cases σ.ret <;> cases k == 127 <;> simp [cond]
theorem feedL_le : ∀ (ks : List Nat) (σ : FS), (feedL σ ks).signs.length ≤ σ.signs.length + ks.length ∧ (feedL σ ks).serr.length ≤ σ.serr.length + ks.length
  | [], σ => ⟨Nat.le_refl _, Nat.le_refl _⟩
  | k :: ks, σ => by
    have h1 := feed1_le σ k
    have h2 := feedL_le ks (feed1 σ k)
    have : feedL σ (k :: ks) = feedL (feed1 σ k) ks := rfl
    rw [this, List.length_cons]; lia
noncomputable def DOk (D : Hp) : Prop := D = [] ∨ ∃ nm pb sy qk, D = DD nm pb sy qk
noncomputable def FH (closed : Bool) (σ : FS) (pos : Int) (state : Str) (out errs : List Dat) (wait done : Bool) (dv : LV) (D : Hp) : Hp := HH TAB σ.signs closed σ.ret σ.serr pos state out errs wait done dv D
section
variable {w : World} {signs : List Nat} {σ : FS} {closed ret : Bool} {serr : List Dat} {pos : Int} {state : Str} {out errs : List Dat} {wait done : Bool} {dv : LV} {D : Hp}
theorem f3_ok {text : Str} {k : Nat} {P : Fl → Mine.Loc → Hp → Prop} (hD : DOk D) (ok : okSign k = true) (hs : σ.signs.length ≤ szLine) (he : σ.serr.length ≤ szLine)
    (h : ∀ pre : Mine.Loc, (pre.all fun p => (([(S "text", LV.d (.str text)), (S "self", .obj 2)] : Mine.Loc).lookup p.1).isNone) = true → P .next (pre ++ [(S "text", .d (.str text)), (S "self", .obj 2)]) (FH closed (feed1 σ k) pos state out errs wait done dv D)) :
    (EV w P4 30).s (scopeOf (KF w) 382) (lpB (nth (bodyOf (KF w) 382) 1)) [(S "c", .d (.str (one k))), (S "text", .d (.str text)), (S "self", .obj 2)] (FH closed σ pos state out errs wait done dv D) P := by
  have e13 : (one k == Str.ofString "\x0d") = (k == 13) := one_eq k _ 13 (by decide +kernel)
  have e10 : (one k != Str.ofString "\n") = !(k == 10) := congrArg Bool.not (one_eq k _ 10 (by decide +kernel))
  have ek : Int.toNat (k : Int) = k := by lia
  have h2 := h [(S "code", .d (.str (ieS k))), (S "c", .d (.str (one k)))] (by kernel_rfl)
  have h1 := h [(S "c", .d (.str (one k)))] (by kernel_rfl)
  have hk : (0 ≤ (k : Int) ∧ okSign (Int.toNat (k : Int)) = true) := ⟨by lia, by rw [ek]; exact ok⟩
  have hie : ∀ b, (k == 127) = b → (ieS k != Str.ofString "") = b := by
    intro b e; unfold ieS; rw [e]; cases b <;> kernel_rfl
  have hie2 : (k == 127) = true → ieS k = S "control-character-in-input-stream" := by
    intro e; unfold ieS; rw [e]; rfl
  unfold feed1 at h1 h2
  rcases hD with rfl | ⟨nm, pb, sy, qk, rfl⟩
  · refine Eq.mpr v_f3a ?_
    rw [e13, e10, ek]
    cases c13 : k == 13 <;> rw [c13] at h1 h2
    · cases c10 : k == 10 <;> rw [c10] at h1 h2
      · refine ⟨hk, ?_⟩
        cases c7 : k == 127 <;> rw [c7] at h2 <;> rw [hie _ c7]
        · exact gd_i hs h2
        · refine gd_i hs (gd_i he (gd_i hs ?_))
          rw [← hie2 c7] at h2; exact h2
      · cases hr : σ.ret <;> rw [hr] at h1 h2
        · refine ⟨hk, ?_⟩
          cases c7 : k == 127 <;> rw [c7] at h2 <;> rw [hie _ c7]
          · exact gd_i hs h2
          · refine gd_i hs (gd_i he (gd_i hs ?_))
            rw [← hie2 c7] at h2; exact h2
        · exact h1
    · exact gd_i hs h1
  · refine Eq.mpr v_f3b ?_
    rw [e13, e10, ek]
    cases c13 : k == 13 <;> rw [c13] at h1 h2
    · cases c10 : k == 10 <;> rw [c10] at h1 h2
      · refine ⟨hk, ?_⟩
        cases c7 : k == 127 <;> rw [c7] at h2 <;> rw [hie _ c7]
        · exact gd_i hs h2
        · refine gd_i hs (gd_i he (gd_i hs ?_))
          rw [← hie2 c7] at h2; exact h2
      · cases hr : σ.ret <;> rw [hr] at h1 h2
        · refine ⟨hk, ?_⟩
          cases c7 : k == 127 <;> rw [c7] at h2 <;> rw [hie _ c7]
          · exact gd_i hs h2
          · refine gd_i hs (gd_i he (gd_i hs ?_))
            rw [← hie2 c7] at h2; exact h2
        · exact h1
    · exact gd_i hs h1
noncomputable def spFeed (lvs : List LV) (H : Hp) (P : KV) : Prop := ∃ text σ pos state out errs wait done dv D, lvs = [.obj 2, .d (.str text)] ∧ H = FH false σ pos state out errs wait done dv D ∧ DOk D ∧ (∀ k ∈ text.cps.toList, okSign k = true) ∧ σ.signs.length + text.length ≤ szLine ∧ σ.serr.length + text.length ≤ szLine ∧ P (.d .none) (FH false (feedL σ text.cps.toList) pos state out errs wait done dv D)
noncomputable def P5 : Pm := fun f => cond (Nat.beq f 382) (some spFeed) none
theorem feed_ok {prog : Program} {w : World} {Γ : GE} : POne prog w (KF w) Γ 382 spFeed 60 := by
  intro c m adr rest news H s lvs vs P R G hr SA hm h r
  obtain ⟨text, σ, pos, state, out, errs, wait, done, dv, D, rfl, rfl, hD, hok, hs, he, hP⟩ := h
  have htl : text.cps.toList.length = text.length := by rw [Array.length_toList]; rfl
  refine def_loop (Pr := P4) (D := 21) (k := 30) 1 (tt_ok w) p4_ok ((tt_ok w).fn 382 [S "self", S "text"] [] (by kernel_rfl)) G (hr.le (by decide)) SA hm rfl r (by kernel_rfl) (l1 := []) (H1 := []) (PL := fun l' H' => l' = [(S "text", .d (.str text)), (S "self", .obj 2)] ∧ H' = FH false σ pos state out errs wait done dv D) (Eq.mpr (v_f1 (closed := false)) ⟨rfl, rfl, rfl⟩) ?_
  rintro c' m' adr' rest' news' H' s' E' Q' l' ⟨rfl, rfl⟩ ec hE G' hr' S' hl' r'
  refine for_s (run_sound (tt_ok w) p4_ok 30) G' hr' (by kernel_rfl) (text := text) (fun i H' => H' = FH false (feedL σ (text.cps.toList.take i)) pos state out errs wait done dv D) hE (by rw [ec]; kernel_rfl) S' hl' (by rw [ec]; exact Eq.mpr v_f2 ⟨rfl, rfl⟩) ?_ ?_ r'
  · rintro i k _ hk rfl
    rw [ec]
    have e3 : lpX (nth (bodyOf (KF w) 382) 1) = S "c" := by kernel_rfl
    rw [e3]
    have hk' : text.cps.toList[i]? = some k := by rw [Array.getElem?_toList]; exact hk
    have hi : i < text.cps.toList.length := (List.getElem?_eq_some_iff.mp hk').1
    have ht : text.cps.toList.take (i + 1) = text.cps.toList.take i ++ [k] := by rw [List.take_succ, hk']; rfl
    have hl := feedL_le (text.cps.toList.take i) σ
    rw [List.length_take] at hl
    refine f3_ok hD (hok k (List.mem_of_getElem? hk')) (by lia) (by lia) fun pre hp => ⟨?_, keeps_pre hp⟩
    unfold feedL
    rw [ht, List.foldl_append]; rfl
  · rintro _ rfl
    rw [show text.cps.size = text.cps.toList.length from (Array.length_toList).symm, List.take_length]
    exact Eq.mpr v_f4 hP
theorem p5_ok {prog : Program} {w : World} {Γ : GE} : PmOk prog w (KF w) Γ P5 60 := pm_cons feed_ok pm_nil
theorem v_tf2a {w : World} {signs : List Nat} {closed ret : Bool} {serr : List Dat} {pos : Int} {state : Str} {out errs : List Dat} {wait done : Bool} {dv : LV} {text : Str} {P : Fl → Mine.Loc → Hp → Prop} : ((EV w P5 28).s (scopeOf (KF w) 425) ((bodyOf (KF w) 425).drop 1) [(S "text", .d (.str text)), (S "self", .obj 1)] (HH TAB signs closed ret serr pos state out errs wait done dv []) P) =
  (P .next [(S "text", .d (.str (text))), (S "self", .obj 1)] (HH TAB signs closed ret serr (pos) (state) out errs false done (dv) []))
   := by kernel_rfl
theorem v_tf2b {w : World} {signs : List Nat} {closed ret : Bool} {serr : List Dat} {pos : Int} {state : Str} {out errs : List Dat} {wait done : Bool} {dv : LV} {nm pb sy : Dat} {qk : Bool} {text : Str} {P : Fl → Mine.Loc → Hp → Prop} : ((EV w P5 28).s (scopeOf (KF w) 425) ((bodyOf (KF w) 425).drop 1) [(S "text", .d (.str text)), (S "self", .obj 1)] (HH TAB signs closed ret serr pos state out errs wait done dv (DD nm pb sy qk)) P) =
  (P .next [(S "text", .d (.str (text))), (S "self", .obj 1)] (HH TAB signs closed ret serr (pos) (state) out errs false done (dv) (DD (nm) (pb) (sy) qk)))
   := by kernel_rfl
theorem v_tf1 {text : Str} {P : KV} : ((EV w P5 30).c 425 [.obj 1, .d (.str text)] (HH TAB signs closed ret serr pos state out errs wait done dv D) P) =
  spFeed [.obj 2, .d (.str text)] (HH TAB signs closed ret serr pos state out errs wait done dv D) (fun Z H1 => (EV w P5 28).s (scopeOf (KF w) 425) ((bodyOf (KF w) 425).drop 1) [(S "text", .d (.str text)), (S "self", .obj 1)] H1 (fun fl Z H2 => match fl with | .next => P (.d .none) H2 | .ret v => P v H2)) := by kernel_rfl
theorem tfeed_ok {text : Str} {P : KV} (hD : DOk D) (hok : ∀ k ∈ text.cps.toList, okSign k = true) (hs : σ.signs.length + text.length ≤ szLine) (he : σ.serr.length + text.length ≤ szLine)
    (h : P (.d .none) (FH false (feedL σ text.cps.toList) pos state out errs false done dv D)) : (EV w P5 30).c 425 [.obj 1, .d (.str text)] (FH false σ pos state out errs wait done dv D) P := by
  refine Eq.mpr v_tf1 ⟨text, σ, pos, state, out, errs, wait, done, dv, D, rfl, rfl, hD, hok, hs, he, ?_⟩
  rcases hD with rfl | ⟨nm, pb, sy, qk, rfl⟩
  · exact Eq.mpr v_tf2a h
  · exact Eq.mpr v_tf2b h
theorem tend_ok {P : KV} (hD : DOk D) (h : P (.d .none) (FH true σ pos state out errs false done dv D)) : (EV w noPm 30).c 432 [.obj 1] (FH closed σ pos state out errs wait done dv D) P := by
  rcases hD with rfl | ⟨nm, pb, sy, qk, rfl⟩
  · exact Eq.mpr v_tenda h
  · exact Eq.mpr v_tendb h
end
end Mine
end
section
open PySem PySem.W PyProof.Rows PySem.Calls
set_option maxRecDepth 100000
set_option maxHeartbeats 8000000
namespace Mine
/-! the law's drawers -/
noncomputable def BLS : List Str := [S "\t", S "\n", S "\x0c", S " ", S "\x0d", S "\x0d\n"]
noncomputable def BLK : List Dat := [.str (S "\t"), .str (S "\n"), .str (S "\x0c"), .str (S " "), .str (S "\x0d"), .str (S "\x0d\n")]
/-- least to most parts out of a list, joined -/
noncomputable def Drawn (ss : List Str) (lo hi : Nat) (y : Str) : Prop := ∃ ps : List Str, lo ≤ ps.length ∧ ps.length ≤ hi ∧ (∀ p ∈ ps, p ∈ ss) ∧ y = Txt.join (Str.ofString "") ps
theorem v_dr1 {w : World} {dg le mo : Int} {sg : LV} {P : Fl → Mine.Loc → Hp → Prop} : ((EV w noPm 20).s (scopeOf (KF w) 580) ((bodyOf (KF w) 580).take 3) [(S "most", .d (.int mo)), (S "least", .d (.int le)), (S "signs", sg), (S "digit", .d (.int dg))] [] P) =
  (cond (mo - le + 1 == 0) False (cond (Nat.blt 0 (Int.toNat (mo - le + 1)) && Nat.ble (Int.toNat (mo - le + 1)) 65536)
    (P .next [(S "out", .obj 0), (S "digit", .d (.int (Int.fdiv dg (mo - le + 1)))), (S "many", .d (.int (le + Int.fmod dg (mo - le + 1)))), (S "most", .d (.int (mo))), (S "least", .d (.int (le))), (S "signs", sg), (S "digit", .d (.int (dg)))] [.list []]) False)) := by kernel_rfl
theorem v_dr1l {w : World} {dg le mo : Int} {sg : LV} {ds : List Dat} {P : Fl → Mine.Loc → Hp → Prop} : ((EV w noPm 20).s (scopeOf (KF w) 580) ((bodyOf (KF w) 580).take 3) [(S "most", .d (.int mo)), (S "least", .d (.int le)), (S "signs", sg), (S "digit", .d (.int dg))] [.list ds] P) =
  (cond (mo - le + 1 == 0) False (cond (Nat.blt 0 (Int.toNat (mo - le + 1)) && Nat.ble (Int.toNat (mo - le + 1)) 65536)
    (P .next [(S "out", .obj 1), (S "digit", .d (.int (Int.fdiv dg (mo - le + 1)))), (S "many", .d (.int (le + Int.fmod dg (mo - le + 1)))), (S "most", .d (.int (mo))), (S "least", .d (.int (le))), (S "signs", sg), (S "digit", .d (.int (dg)))] [.list ds, .list []]) False)) := by kernel_rfl
theorem v_dr2 {w : World} {mn : Int} {sg ot dg : LV} {H : Hp} {P : KV} : ((EV w noPm 20).e (scopeOf (KF w) 580) (rgA 0 (nth (bodyOf (KF w) 580) 3)) [(S "digit", dg), (S "many", .d (.int mn)), (S "signs", sg), (S "out", ot)] H P) = P (.d (.int (mn))) H := by kernel_rfl
theorem v_dr3 {w : World} {i dg mn : Int} {x : Str} {ps : List Dat} {P : Fl → Mine.Loc → Hp → Prop} : ((EV w noPm 20).s (scopeOf (KF w) 580) (lpB (nth (bodyOf (KF w) 580) 3)) [(S "k", .d (.int i)), (S "digit", .d (.int dg)), (S "many", .d (.int mn)), (S "signs", .d (.str x)), (S "out", .obj 0)] [.list ps] P) =
  (gd (Str.length x) (cond (((Str.length x : Nat) : Int) == 0) False
    ((0 ≤ Int.fmod dg ((Str.length x : Nat) : Int) ∧ Int.fmod dg ((Str.length x : Nat) : Int) < ((Str.length x : Nat) : Int) ∧ Str.length x ≤ szLine) ∧
     (gd (List.length ps) (gd (Str.length x) (cond (Nat.blt 0 (Int.toNat ((Str.length x : Nat) : Int)) && Nat.ble (Int.toNat ((Str.length x : Nat) : Int)) 65536)
        (P .next [(S "digit", .d (.int (Int.fdiv dg ((Str.length x : Nat) : Int)))), (S "k", .d (.int (i))), (S "digit", .d (.int (dg))), (S "many", .d (.int (mn))), (S "signs", .d (.str (x))), (S "out", .obj 0)] [.list (ps ++ [.str (one (List.getD (Array.toList (Str.cps x)) (Int.toNat (Int.fmod dg ((Str.length x : Nat) : Int))) 0))])])
        False)))))) := by kernel_rfl
theorem v_dr3b {w : World} {i dg mn : Int} {ps : List Dat} {P : Fl → Mine.Loc → Hp → Prop} : ((EV w noPm 20).s (scopeOf (KF w) 580) (lpB (nth (bodyOf (KF w) 580) 3)) [(S "k", .d (.int i)), (S "digit", .d (.int dg)), (S "many", .d (.int mn)), (S "signs", .obj 0), (S "out", .obj 1)] [.list BLK, .list ps] P) =
  ((0 ≤ Int.fmod dg 6 ∧ Int.fmod dg 6 < 6 ∧ 6 ≤ szLine) ∧ ∀ x3 : Str, BLS[Int.toNat (Int.fmod dg 6)]? = some x3 →
     gd (List.length ps) (P .next [(S "digit", .d (.int (Int.fdiv dg 6))), (S "k", .d (.int (i))), (S "digit", .d (.int (dg))), (S "many", .d (.int (mn))), (S "signs", .obj 0), (S "out", .obj 1)] [.list BLK, .list (ps ++ [.str (x3)])])) := by kernel_rfl
theorem v_dr4 {w : World} {ps : List Dat} {dg sg mn : LV} {P : Fl → Mine.Loc → Hp → Prop} : ((EV w noPm 20).s (scopeOf (KF w) 580) ((bodyOf (KF w) 580).drop 4) [(S "digit", dg), (S "many", mn), (S "signs", sg), (S "out", .obj 0)] [.list ps] P) =
  (∃ xs, strsOf ps = some xs ∧ (xs.map (·.length)).sum + xs.length ≤ 1048576 ∧ P (.ret (.d (.str (Txt.join (Str.ofString "") xs)))) [(S "digit", dg), (S "many", mn), (S "signs", sg), (S "out", .obj 0)] [.list ps]) := by kernel_rfl
theorem v_dr4l {w : World} {ds ps : List Dat} {dg sg mn : LV} {P : Fl → Mine.Loc → Hp → Prop} : ((EV w noPm 20).s (scopeOf (KF w) 580) ((bodyOf (KF w) 580).drop 4) [(S "digit", dg), (S "many", mn), (S "signs", sg), (S "out", .obj 1)] [.list ds, .list ps] P) =
  (∃ xs, strsOf ps = some xs ∧ (xs.map (·.length)).sum + xs.length ≤ 1048576 ∧ P (.ret (.d (.str (Txt.join (Str.ofString "") xs)))) [(S "digit", dg), (S "many", mn), (S "signs", sg), (S "out", .obj 1)] [.list ds, .list ps]) := by kernel_rfl
theorem v_ra1 {w : World} {dg : Int} {x : Str} {P : Fl → Mine.Loc → Hp → Prop} : ((EV w noPm 20).s (scopeOf (KF w) 594) ((bodyOf (KF w) 594).take 1) [(S "digit", .d (.int dg)), (S "text", .d (.str x))] [] P) =
  (P .next [(S "out", .obj 0), (S "digit", .d (.int (dg))), (S "text", .d (.str (x)))] [.list []]) := by kernel_rfl
theorem v_ra2 {w : World} {x : Str} {dg ot : LV} {H : Hp} {P : KV} : ((EV w noPm 20).e (scopeOf (KF w) 594) (lpI (nth (bodyOf (KF w) 594) 1)) [(S "digit", dg), (S "out", ot), (S "text", .d (.str x))] H P) = (P (.d (.str (x))) H) := by kernel_rfl
theorem v_ra3 {w : World} {dg : Int} {k : Nat} {tx : LV} {ps : List Dat} {P : Fl → Mine.Loc → Hp → Prop} : ((EV w noPm 20).s (scopeOf (KF w) 594) (lpB (nth (bodyOf (KF w) 594) 1)) [(S "c", .d (.str (one k))), (S "digit", .d (.int dg)), (S "out", .obj 0), (S "text", tx)] [.list ps] P) =
  (cond (!decide (Array.toList (Str.cps (one k)) < Array.toList (Str.cps (Str.ofString "a"))))
   (cond (!decide (Array.toList (Str.cps (Str.ofString "z")) < Array.toList (Str.cps (one k))))
    (cond (Int.fmod dg 2 == 1)
     ((0 ≤ (k : Int) - 32 ∧ (k : Int) - 32 ≤ 1114111) ∧
      (gd (List.length ps) (P .next [(S "digit", .d (.int (Int.fdiv dg 2))), (S "c", .d (.str (one k))), (S "digit", .d (.int (dg))), (S "out", .obj 0), (S "text", tx)] [.list (ps ++ [.str (one (Int.toNat ((k : Int) - 32)))])])))
     (gd (List.length ps) (P .next [(S "digit", .d (.int (Int.fdiv dg 2))), (S "c", .d (.str (one k))), (S "digit", .d (.int (dg))), (S "out", .obj 0), (S "text", tx)] [.list (ps ++ [.str (one k)])])))
    (gd (List.length ps) (P .next [(S "digit", .d (.int (Int.fdiv dg 2))), (S "c", .d (.str (one k))), (S "digit", .d (.int (dg))), (S "out", .obj 0), (S "text", tx)] [.list (ps ++ [.str (one k)])])))
   (gd (List.length ps) (P .next [(S "digit", .d (.int (Int.fdiv dg 2))), (S "c", .d (.str (one k))), (S "digit", .d (.int (dg))), (S "out", .obj 0), (S "text", tx)] [.list (ps ++ [.str (one k)])]))) := by kernel_rfl
theorem v_ra4 {w : World} {ps : List Dat} {dg tx : LV} {P : Fl → Mine.Loc → Hp → Prop} : ((EV w noPm 20).s (scopeOf (KF w) 594) ((bodyOf (KF w) 594).drop 2) [(S "digit", dg), (S "out", .obj 0), (S "text", tx)] [.list ps] P) =
  (∃ xs, strsOf ps = some xs ∧ (xs.map (·.length)).sum + xs.length ≤ 1048576 ∧ P (.ret (.d (.str (Txt.join (Str.ofString "") xs)))) [(S "digit", dg), (S "out", .obj 0), (S "text", tx)] [.list ps]) := by kernel_rfl
end Mine
end
section
open PySem PySem.W PyProof.Rows PySem.Calls
set_option maxRecDepth 100000
set_option maxHeartbeats 8000000
namespace Mine
theorem keeps_nil {l : Loc} : Keeps [] l := fun Z Z e => by cases e
theorem keeps_cons {n : Str} {v : LV} {l l' : Loc} (h1 : l'.lookup n = some v) (h2 : Keeps l l') : Keeps ((n, v) :: l) l' := fun y z e => by
  rw [List.lookup_cons] at e
  cases q : y == n with
  | true => rw [q] at e; cases e; rw [beq_iff_eq.mp q]; exact h1
  | false => rw [q] at e; exact h2 y z e
theorem lenL (x : Str) : x.cps.toList.length = x.length := by rw [Array.length_toList]; rfl
theorem strsOf_map : ∀ ps : List Str, strsOf (ps.map Dat.str) = some ps
  | [] => rfl
  | p :: ps => by
    show (match strsOf (ps.map Dat.str) with | some l => some (p :: l) | none => none) = _
    rw [strsOf_map ps]
theorem sum_le {k : Nat} : ∀ {ps : List Str}, (∀ p ∈ ps, p.length ≤ k) → (ps.map (·.length)).sum ≤ k * ps.length
  | [], _ => Nat.zero_le _
  | p :: ps, h => by
    have h1 := h p (.head _)
    have h2 := sum_le fun q hq => h q (.tail _ hq)
    show p.length + (ps.map (·.length)).sum ≤ k * (ps.length + 1)
    rw [Nat.mul_succ]; omega
theorem Ret.imp {α β : Type} {prog : Program} {w : World} {K : Frag} {Γ : GE} {M : List Addr → Led → β → α → Prop} {c : FC K Γ} {m : Str → Option Value} {adr : List Addr} {rest : Led} {s : Shared} {P P' : β → Hp → Prop} {Q : α → Shared → Prop} (r : Ret prog w M c m adr rest s P Q) (h : ∀ b H, P' b H → P b H) : Ret prog w M c m adr rest s P' Q :=
  fun b a adr' rest' news' H' h' tk' e1 e2 S hm hp => r b a adr' rest' news' H' h' tk' e1 e2 S hm (h b H' hp)
section
variable {prog : Program} {w : World} {Γ : GE} {c : FC (KF w) Γ} {m : Str → Option Value} {rest news : Led} {s : Shared} {vs : List Value} {R : Result → Shared → Prop}
theorem fmod_lt {dg : Int} {n : Nat} (h : 0 < n) : 0 ≤ Int.fmod dg (n : Int) ∧ Int.fmod dg (n : Int) < (n : Int) := ⟨Int.fmod_nonneg_of_pos _ (by omega), Int.fmod_lt_of_pos _ (by omega)⟩
/-- drawn out of a text's signs -/
theorem drawn_str {dg : Int} {x : Str} {le mo : Nat} (h0 : 0 < x.length) (h1 : x.length ≤ 1000) (hlm : le ≤ mo) (hmo : mo ≤ 1000) (G : FG c) (hr : Room c.A 21) (S0 : AtS prog w c m [] rest news [] s) (hm : MtL [] rest [.d (.int dg), .d (.str x), .d (.int (le : Int)), .d (.int (mo : Int))] vs)
    (r : Ret prog w Mt c m [] rest s (fun v Z => ∃ y, v = .d (.str y) ∧ Drawn (x.cps.toList.map one) le mo y) (fun v s' => R (.ok (.ret v)) s')) : codeAny (model prog w) c.A (.call (.ref 580) ⟨vs, []⟩) R s := by
  have big : szLine = 16777216 := rfl
  obtain ⟨N, hN⟩ : ∃ N : Nat, (mo : Int) - le + 1 = (N : Int) := ⟨mo - le + 1, by omega⟩
  have hN0 : 0 < N := by omega
  obtain ⟨f1, f2⟩ := fmod_lt (dg := dg) hN0
  obtain ⟨M, hM⟩ : ∃ M : Nat, (le : Int) + Int.fmod dg N = (M : Int) := ⟨((le : Int) + Int.fmod dg N).toNat, by omega⟩
  have hM1 : le ≤ M := by omega
  have hM2 : M ≤ mo := by omega
  refine def_loop (Pr := noPm) (D := 0) (k := 20) 3 (tt_ok w) noPm_ok ((tt_ok w).fn 580 [S "digit", S "signs", S "least", S "most"] [] (by kernel_rfl)) G hr S0 hm rfl r (by kernel_rfl) (l1 := []) (H1 := [])
    (PL := fun l' H' => l' = [(S "out", .obj 0), (S "digit", .d (.int (Int.fdiv dg N))), (S "many", .d (.int (M : Int))), (S "most", .d (.int (mo : Int))), (S "least", .d (.int (le : Int))), (S "signs", .d (.str x)), (S "digit", .d (.int dg))] ∧ H' = [.list []]) ?_ ?_
  · refine Eq.mpr v_dr1 ?_
    rw [hN, hM]
    have e1 : ((N : Int) == 0) = false := beq_eq_false_iff_ne.mpr (by omega)
    have e2 : (Nat.blt 0 (Int.toNat (N : Int)) && Nat.ble (Int.toNat (N : Int)) 65536) = true := by
      rw [Int.toNat_natCast]
      exact Bool.and_eq_true_iff.mpr ⟨Nat.ble_eq_true_of_le (by omega), Nat.ble_eq_true_of_le (by omega)⟩
    rw [e1, e2]
    exact ⟨rfl, rfl, rfl⟩
  · rintro c' m' adr' rest' news' H' s' E' Q' l' ⟨rfl, rfl⟩ ec hE G' hr' S' hl' r'
    have hl2 : LocOk c'.cl adr' rest' [(S "digit", .d (.int (Int.fdiv dg N))), (S "many", .d (.int (M : Int))), (S "signs", .d (.str x)), (S "out", .obj 0)] m' :=
      hl'.keeps (keeps_cons (by kernel_rfl) (keeps_cons (by kernel_rfl) (keeps_cons (by kernel_rfl) (keeps_cons (by kernel_rfl) keeps_nil))))
    have e3 : lpX (nth (bodyOf (KF w) 580) 3) = S "k" := by kernel_rfl
    refine for_r1l (run_sound (tt_ok w) noPm_ok 20) G' hr' (by kernel_rfl) (N := M)
      (fun i l' H' => ∃ d : Int, l' = [(S "digit", .d (.int d)), (S "many", .d (.int (M : Int))), (S "signs", .d (.str x)), (S "out", .obj 0)] ∧ ∃ ps : List Str, H' = [.list (ps.map Dat.str)] ∧ ps.length = i ∧ ∀ p ∈ ps, p ∈ x.cps.toList.map one) hE (by rw [ec]; kernel_rfl) (by rw [ec]; kernel_rfl) (by kernel_rfl) S' hl2 ?_ (by omega) ?_ ?_ r'
    · rw [ec, v_dr2]
      exact ⟨rfl, _, rfl, [], rfl, rfl, fun p hp => by cases hp⟩
    · rintro i _ _ hi ⟨d, rfl, ps, rfl, rfl, hps⟩
      rw [ec, e3]
      obtain ⟨g1, g2⟩ := fmod_lt (dg := d) h0
      have e1 : (((Str.length x : Nat) : Int) == 0) = false := beq_eq_false_iff_ne.mpr (by omega)
      have e2 : (Nat.blt 0 (Int.toNat ((Str.length x : Nat) : Int)) && Nat.ble (Int.toNat ((Str.length x : Nat) : Int)) 65536) = true := by
        rw [Int.toNat_natCast]
        exact Bool.and_eq_true_iff.mpr ⟨Nat.ble_eq_true_of_le h0, Nat.ble_eq_true_of_le (by omega)⟩
      refine Eq.mpr v_dr3 (gd_i (by omega) ?_)
      rw [e1, e2]
      refine ⟨⟨g1, g2, by omega⟩, gd_i (by rw [List.length_map]; omega) (gd_i (by omega) ?_)⟩
      refine ⟨_, keeps_cons (by kernel_rfl) (keeps_cons (by kernel_rfl) (keeps_cons (by kernel_rfl) (keeps_cons (by kernel_rfl) keeps_nil))), Int.fdiv d ((Str.length x : Nat) : Int), rfl, ps ++ [one (x.cps.toList.getD (Int.toNat (Int.fmod d ((Str.length x : Nat) : Int))) 0)], ?_, ?_, ?_⟩
      · rw [List.map_append]; rfl
      · rw [List.length_append]; rfl
      · intro p hp
        rcases List.mem_append.mp hp with hp | hp
        · exact hps p hp
        · cases List.mem_singleton.mp hp
          refine List.mem_map_of_mem ?_
          have hlt : Int.toNat (Int.fmod d ((Str.length x : Nat) : Int)) < x.cps.toList.length := by rw [lenL]; omega
          rw [List.getD_eq_getElem?_getD, List.getElem?_eq_getElem hlt]
          exact List.getElem_mem hlt
    · rintro _ _ ⟨d, rfl, ps, rfl, hl, hps⟩
      refine Eq.mpr v_dr4 ⟨ps, strsOf_map ps, ?_, _, rfl, ps, by omega, by omega, hps, rfl⟩
      have h2 := sum_le (k := 1) (ps := ps) fun p hp => by
        obtain ⟨k, _, rfl⟩ := List.mem_map.mp (hps p hp)
        exact Nat.le_refl 1
      omega
/-- drawn out of the blanks -/
theorem drawn_bl {dg : Int} {le mo : Nat} (hlm : le ≤ mo) (hmo : mo ≤ 1000) (G : FG c) (hr : Room c.A 21) {adr : List Addr} (S0 : AtS prog w c m adr rest news [.list BLK] s) (hm : MtL adr rest [.d (.int dg), .obj 0, .d (.int (le : Int)), .d (.int (mo : Int))] vs)
    (r : Ret prog w Mt c m adr rest s (fun v H1 => ∃ y X, v = .d (.str y) ∧ H1 = [.list BLK] ++ X ∧ Drawn BLS le mo y) (fun v s' => R (.ok (.ret v)) s')) : codeAny (model prog w) c.A (.call (.ref 580) ⟨vs, []⟩) R s := by
  have big : szLine = 16777216 := rfl
  obtain ⟨N, hN⟩ : ∃ N : Nat, (mo : Int) - le + 1 = (N : Int) := ⟨mo - le + 1, by omega⟩
  have hN0 : 0 < N := by omega
  obtain ⟨f1, f2⟩ := fmod_lt (dg := dg) hN0
  obtain ⟨M, hM⟩ : ∃ M : Nat, (le : Int) + Int.fmod dg N = (M : Int) := ⟨((le : Int) + Int.fmod dg N).toNat, by omega⟩
  have hM1 : le ≤ M := by omega
  have hM2 : M ≤ mo := by omega
  refine def_loop (Pr := noPm) (D := 0) (k := 20) 3 (tt_ok w) noPm_ok ((tt_ok w).fn 580 [S "digit", S "signs", S "least", S "most"] [] (by kernel_rfl)) G hr S0 hm rfl r (by kernel_rfl) (l1 := []) (H1 := [])
    (PL := fun l' H' => l' = [(S "out", .obj 1), (S "digit", .d (.int (Int.fdiv dg N))), (S "many", .d (.int (M : Int))), (S "most", .d (.int (mo : Int))), (S "least", .d (.int (le : Int))), (S "signs", .obj 0), (S "digit", .d (.int dg))] ∧ H' = [.list BLK, .list []]) ?_ ?_
  · refine Eq.mpr v_dr1l ?_
    rw [hN, hM]
    have e1 : ((N : Int) == 0) = false := beq_eq_false_iff_ne.mpr (by omega)
    have e2 : (Nat.blt 0 (Int.toNat (N : Int)) && Nat.ble (Int.toNat (N : Int)) 65536) = true := by
      rw [Int.toNat_natCast]
      exact Bool.and_eq_true_iff.mpr ⟨Nat.ble_eq_true_of_le (by omega), Nat.ble_eq_true_of_le (by omega)⟩
    rw [e1, e2]
    exact ⟨rfl, rfl, rfl⟩
  · rintro c' m' adr' rest' news' H' s' E' Q' l' ⟨rfl, rfl⟩ ec hE G' hr' S' hl' r'
    have hl2 : LocOk c'.cl adr' rest' [(S "digit", .d (.int (Int.fdiv dg N))), (S "many", .d (.int (M : Int))), (S "signs", .obj 0), (S "out", .obj 1)] m' :=
      hl'.keeps (keeps_cons (by kernel_rfl) (keeps_cons (by kernel_rfl) (keeps_cons (by kernel_rfl) (keeps_cons (by kernel_rfl) keeps_nil))))
    have e3 : lpX (nth (bodyOf (KF w) 580) 3) = S "k" := by kernel_rfl
    refine for_r1l (run_sound (tt_ok w) noPm_ok 20) G' hr' (by kernel_rfl) (N := M)
      (fun i l' H' => ∃ d : Int, l' = [(S "digit", .d (.int d)), (S "many", .d (.int (M : Int))), (S "signs", .obj 0), (S "out", .obj 1)] ∧ ∃ ps : List Str, H' = [.list BLK, .list (ps.map Dat.str)] ∧ ps.length = i ∧ ∀ p ∈ ps, p ∈ BLS) hE (by rw [ec]; kernel_rfl) (by rw [ec]; kernel_rfl) (by kernel_rfl) S' hl2 ?_ (by omega) ?_ ?_ r'
    · rw [ec, v_dr2]
      exact ⟨rfl, _, rfl, [], rfl, rfl, fun p hp => by cases hp⟩
    · rintro i _ _ hi ⟨d, rfl, ps, rfl, rfl, hps⟩
      rw [ec, e3]
      obtain ⟨g1, g2⟩ := fmod_lt (dg := d) (n := 6) (by decide)
      refine Eq.mpr v_dr3b ⟨⟨g1, g2, by decide⟩, fun x3 hx3 => gd_i (by rw [List.length_map]; omega) ?_⟩
      refine ⟨_, keeps_cons (by kernel_rfl) (keeps_cons (by kernel_rfl) (keeps_cons (by kernel_rfl) (keeps_cons (by kernel_rfl) keeps_nil))), Int.fdiv d 6, rfl, ps ++ [x3], ?_, ?_, ?_⟩
      · rw [List.map_append]; rfl
      · rw [List.length_append]; rfl
      · intro p hp
        rcases List.mem_append.mp hp with hp | hp
        · exact hps p hp
        · cases List.mem_singleton.mp hp
          exact List.mem_of_getElem? hx3
    · rintro _ _ ⟨d, rfl, ps, rfl, hl, hps⟩
      refine Eq.mpr v_dr4l ⟨ps, strsOf_map ps, ?_, _, [.list (ps.map Dat.str)], rfl, rfl, ps, by omega, by omega, hps, rfl⟩
      have h2 := sum_le (k := 2) (ps := ps) fun p hp => by
        have h3 : ∀ q ∈ BLS, q.length ≤ 2 := by decide +kernel
        exact h3 p (hps p hp)
      omega
end
end Mine
end
section
open PySem PySem.W PyProof.Rows PySem.Calls
set_option maxRecDepth 100000
set_option maxHeartbeats 8000000
namespace Mine
noncomputable abbrev mkS (l : List Nat) : Str := ⟨l.toArray⟩
theorem join_list (xs : List Str) : (Str.join (Str.ofString "") xs).cps.toList = xs.flatMap fun x => x.cps.toList := by
  have z : (Str.ofString "").cps = #[] := by decide +kernel
  induction xs with
  | nil => rfl
  | cons x r ih =>
    induction r with
    | nil => show x.cps.toList = _; simp
    | cons y r =>
      show ((x.cps ++ (Str.ofString "").cps) ++ (Str.join (Str.ofString "") (y :: r)).cps).toList = _
      rw [z, Array.append_empty, Array.toList_append, ih]; rfl
theorem join_mk (xs : List Str) : Txt.join (Str.ofString "") xs = mkS (xs.flatMap fun x => x.cps.toList) := by
  show Builtin.Str.glued (Str.ofString "") xs = _
  rw [StrLaws.glued_eq_join]
  refine Str.ext' ?_
  show _ = (List.flatMap (fun x => x.cps.toList) xs).toArray
  rw [← join_list, Array.toArray_toList]

/-- some of the small ASCII letters raised -/
noncomputable def UpR (k k' : Nat) : Prop := k' = k ∨ (97 ≤ k ∧ k ≤ 122 ∧ k' = k - 32)
noncomputable def Raised (x y : Str) : Prop := All2 UpR x.cps.toList y.cps.toList
section
variable {prog : Program} {w : World} {Γ : GE} {c : FC (KF w) Γ} {m : Str → Option Value} {rest news : Led} {s : Shared} {vs : List Value} {R : Result → Shared → Prop}
theorem ones_flat : ∀ ks : List Nat, (ks.map one).flatMap (fun x => x.cps.toList) = ks
  | [] => rfl
  | k :: ks => by rw [List.map_cons, List.flatMap_cons, ones_flat ks]; rfl
theorem raised0 {dg : Int} {x : Str} (hx : x.length ≤ 1000) (G : FG c) (hr : Room c.A 21) (S0 : AtS prog w c m [] rest news [] s) (hm : MtL [] rest [.d (.str x), .d (.int dg)] vs)
    (r : Ret prog w Mt c m [] rest s (fun v Z => ∃ y, v = .d (.str y) ∧ Raised x y) (fun v s' => R (.ok (.ret v)) s')) : codeAny (model prog w) c.A (.call (.ref 594) ⟨vs, []⟩) R s := by
  have big : szLine = 16777216 := rfl
  have htl := lenL x
  refine def_loop (Pr := noPm) (D := 0) (k := 20) 1 (tt_ok w) noPm_ok ((tt_ok w).fn 594 [S "text", S "digit"] [] (by kernel_rfl)) G hr S0 hm rfl r (by kernel_rfl) (l1 := []) (H1 := [])
    (PL := fun l' H' => l' = [(S "out", .obj 0), (S "digit", .d (.int dg)), (S "text", .d (.str x))] ∧ H' = [.list []]) (Eq.mpr v_ra1 ⟨rfl, rfl, rfl⟩) ?_
  rintro c' m' adr' rest' news' H' s' E' Q' l' ⟨rfl, rfl⟩ ec hE G' hr' S' hl' r'
  have hl2 : LocOk c'.cl adr' rest' [(S "digit", .d (.int dg)), (S "out", .obj 0), (S "text", .d (.str x))] m' :=
    hl'.keeps (keeps_cons (by kernel_rfl) (keeps_cons (by kernel_rfl) (keeps_cons (by kernel_rfl) keeps_nil)))
  have e3 : lpX (nth (bodyOf (KF w) 594) 1) = S "c" := by kernel_rfl
  have eA : Array.toList (Str.cps (Str.ofString "a")) = [97] := by decide +kernel
  have eZ : Array.toList (Str.cps (Str.ofString "z")) = [122] := by decide +kernel
  refine for_sl (run_sound (tt_ok w) noPm_ok 20) G' hr' (by kernel_rfl) (text := x)
    (fun i l' H' => ∃ d : Int, l' = [(S "digit", .d (.int d)), (S "out", .obj 0), (S "text", .d (.str x))] ∧ ∃ ks : List Nat, H' = [.list ((ks.map one).map Dat.str)] ∧ All2 UpR (x.cps.toList.take i) ks) hE (by rw [ec]; kernel_rfl) S' hl2 ?_ ?_ ?_ r'
  · rw [ec]
    exact Eq.mpr v_ra2 ⟨rfl, _, rfl, [], rfl, .nil⟩
  · rintro i k _ _ hk ⟨d, rfl, ks, rfl, hks⟩
    rw [ec, e3]
    have hk' : x.cps.toList[i]? = some k := by rw [Array.getElem?_toList]; exact hk
    have hi : i < x.cps.toList.length := (List.getElem?_eq_some_iff.mp hk').1
    have etk : x.cps.toList.take (i + 1) = x.cps.toList.take i ++ [k] := by rw [List.take_add_one, hk']; rfl
    have hlen : ks.length ≤ x.length := by
      have := hks.length
      rw [List.length_take] at this
      omega
    have step : ∀ k' : Nat, UpR k k' → gd (List.length ((ks.map one).map Dat.str)) ((fun fl l2 H2 => match fl with
        | .next => ∃ l3, Keeps l3 l2 ∧ ∃ d : Int, l3 = [(S "digit", .d (.int d)), (S "out", .obj 0), (S "text", .d (.str x))] ∧ ∃ ks : List Nat, H2 = [.list ((ks.map one).map Dat.str)] ∧ All2 UpR (x.cps.toList.take (i + 1)) ks
        | .ret u => (match (Fl.ret u : Fl) with | .next => (EV w noPm 20).s (scopeOf (KF w) 594) ((bodyOf (KF w) 594).drop (1 + 1)) l2 H2 (fun fl Z H1 => match fl with | .next => (fun v Z => ∃ y, v = LV.d (.str y) ∧ Raised x y) (.d .none) H1 | .ret v => (fun v Z => ∃ y, v = LV.d (.str y) ∧ Raised x y) v H1) | .ret v => (fun v Z => ∃ y, v = LV.d (.str y) ∧ Raised x y) v H2) : Fl → Mine.Loc → Hp → Prop)
        .next [(S "digit", .d (.int (Int.fdiv d 2))), (S "c", .d (.str (one k))), (S "digit", .d (.int d)), (S "out", .obj 0), (S "text", .d (.str x))] [.list ((ks.map one).map Dat.str ++ [.str (one k')])]) := fun k' hu =>
      gd_i (by rw [List.length_map, List.length_map]; omega) ⟨_, keeps_cons (by kernel_rfl) (keeps_cons (by kernel_rfl) (keeps_cons (by kernel_rfl) keeps_nil)), Int.fdiv d 2, rfl, ks ++ [k'], by rw [List.map_append, List.map_append]; rfl, etk ▸ All2.append hks (.cons hu .nil)⟩
    refine Eq.mpr v_ra3 ?_
    rw [eA, eZ]
    have ek : Array.toList (Str.cps (one k)) = [k] := rfl
    rw [ek]
    refine cond_i (fun h1 => cond_i (fun h2 => cond_i (fun h3 => ⟨⟨?_, ?_⟩, ?_⟩) fun h3 => step k (.inl rfl)) fun h2 => step k (.inl rfl)) fun h1 => step k (.inl rfl)
    all_goals simp only [Bool.not_eq_true', decide_eq_false_iff_not, lt1] at h1 h2
    · omega
    · omega
    · have : Int.toNat ((k : Int) - 32) = k - 32 := by omega
      rw [this]
      exact step (k - 32) (.inr ⟨by omega, by omega, rfl⟩)
  · rintro _ _ ⟨d, rfl, ks, rfl, hks⟩
    have hl : ks.length ≤ x.length := by
      have := hks.length
      rw [List.length_take] at this
      omega
    refine Eq.mpr v_ra4 ⟨ks.map one, strsOf_map _, ?_, _, rfl, ?_⟩
    · have h2 := sum_le (k := 1) (ps := ks.map one) fun p hp => by
        obtain ⟨k, _, rfl⟩ := List.mem_map.mp hp
        exact Nat.le_refl 1
      rw [List.length_map] at h2 ⊢
      omega
    · rw [join_mk, ones_flat]
      have : x.cps.toList.take x.cps.size = x.cps.toList := List.take_of_length_le (Nat.le_of_eq Array.length_toList)
      rw [this] at hks
      exact hks
end
end Mine
end
section
open PySem PySem.W PyProof.Rows PySem.Calls
set_option maxRecDepth 100000
set_option maxHeartbeats 8000000
namespace Mine
/-! the drawers as prims -/
noncomputable def drawB (dg : Int) (x : Str) (le mo : Int) (k : Str → Prop) : Prop := (0 < x.length ∧ x.length ≤ 1000 ∧ 0 ≤ le ∧ le ≤ mo ∧ mo ≤ 1000) ∧ ∀ y : Str, Drawn (x.cps.toList.map one) le.toNat mo.toNat y → k y
noncomputable def spDraw (lvs : List LV) (H : Hp) (P : KV) : Prop := uA [.i, .s, .i, .i] lvs fun v => drawB v.1 v.2.1 v.2.2.1 v.2.2.2.1 fun y => P (.d (.str y)) H
noncomputable def drawK (le mo : Int) (k : Str → Prop) : Prop := (0 ≤ le ∧ le ≤ mo ∧ mo ≤ 1000) ∧ ∀ y : Str, Drawn BLS le.toNat mo.toNat y → k y
noncomputable def spDrawK (lvs : List LV) (H : Hp) (P : KV) : Prop := uA [.i, .o 0, .i, .i] lvs fun v => H = [.list BLK] ∧ drawK v.2.2.1 v.2.2.2.1 fun y => P (.d (.str y)) H
noncomputable def raisedB (x : Str) (k : Str → Prop) : Prop := x.length ≤ 1000 ∧ ∀ y : Str, Raised x y → k y
noncomputable def spRaised (lvs : List LV) (H : Hp) (P : KV) : Prop := uA [.s, .i] lvs fun v => raisedB v.1 fun y => P (.d (.str y)) H
noncomputable def blanksB (le : Int) (k : Str → Prop) : Prop := (0 ≤ le ∧ le ≤ 900) ∧ ∀ y : Str, Drawn BLS le.toNat (le.toNat + 1) y → k y
noncomputable def spBlanks (lvs : List LV) (H : Hp) (P : KV) : Prop := uA [.i, .i] lvs fun v => blanksB v.2.1 fun y => P (.d (.str y)) H
noncomputable def P15 : Pm := fun f => cond (Nat.beq f 580) (some spDrawK) none
noncomputable def P16 : Pm := fun f => cond (Nat.beq f 580) (some spDraw) none
section
variable {prog : Program} {w : World} {Γ : GE}
theorem p15_ok : PmOk prog w (KF w) Γ P15 21 := by
  refine pm_cons ?_ pm_nil
  intro c m adr rest news H s lvs vs P R G hr SA hm h r
  obtain ⟨⟨dg, Z, le, mo, Z⟩, rfl, rfl, ⟨h0, h1, h2⟩, h3⟩ := uA.inv h
  obtain ⟨le, rfl⟩ := to_nat h0
  obtain ⟨mo, rfl⟩ := to_nat (Int.le_trans h0 h1)
  refine drawn_bl (Int.ofNat_le.mp h1) (Int.ofNat_le.mp h2) G hr SA hm (Ret.imp (Ret.cutH SA r) ?_)
  rintro b H1 ⟨y, X, rfl, rfl, hd⟩
  exact ⟨⟨_, rfl⟩, ⟨X, rfl⟩, h3 y hd⟩
theorem draw_ok : POne prog w (KF w) Γ 580 spDraw 21 := by
  intro c m adr rest news H s lvs vs P R G hr SA hm h r
  obtain ⟨⟨dg, x, le, mo, Z⟩, rfl, ⟨g0, g1, h0, h1, h2⟩, h3⟩ := uA.inv h
  obtain ⟨le, rfl⟩ := to_nat h0
  obtain ⟨mo, rfl⟩ := to_nat (Int.le_trans h0 h1)
  obtain ⟨own, S0, m0, r0⟩ := frz SA hm (by rfl) r
  refine drawn_str g0 g1 (Int.ofNat_le.mp h1) (Int.ofNat_le.mp h2) G hr S0 m0 (Ret.imp r0 ?_)
  rintro b H1 ⟨y, rfl, hd⟩
  exact ⟨y, rfl, h3 y hd⟩
theorem p16_ok : PmOk prog w (KF w) Γ P16 21 := pm_cons draw_ok pm_nil
theorem raised_ok : POne prog w (KF w) Γ 594 spRaised 21 := by
  intro c m adr rest news H s lvs vs P R G hr SA hm h r
  obtain ⟨⟨x, dg, Z⟩, rfl, h1, h3⟩ := uA.inv h
  obtain ⟨own, S0, m0, r0⟩ := frz SA hm (by rfl) r
  refine raised0 h1 G hr S0 m0 (Ret.imp r0 ?_)
  rintro b H1 ⟨y, rfl, hd⟩
  exact ⟨y, rfl, h3 y hd⟩
theorem v_bl {w : World} {dg le : Int} {P : KV} : (EV w P15 20).c 587 [.d (.int dg), .d (.int le)] [] P = spDrawK [.d (.int dg), .obj 0, .d (.int le), .d (.int (le + 1))] [.list BLK] P := by kernel_rfl
theorem blanks_ok : POne prog w (KF w) Γ 587 spBlanks 42 := by
  intro c m adr rest news H s lvs vs P R G hr SA hm h r
  obtain ⟨⟨dg, le, Z⟩, rfl, ⟨h0, h1⟩, h3⟩ := uA.inv h
  obtain ⟨le, rfl⟩ := to_nat h0
  obtain ⟨own, S0, m0, r0⟩ := frz SA hm (by rfl) r
  have g1 : (le : Int) ≤ 900 := h1
  refine (run_sound (tt_ok w) p15_ok 20).c G (hr.le (by decide)) S0 m0 (Eq.mpr v_bl ⟨rfl, ⟨h0, by show (le : Int) ≤ (le : Int) + 1; omega, by show (le : Int) + 1 ≤ 1000; omega⟩, fun y hd => ?_⟩) (Ret.imp (Ret.cutH S0 r0) (P' := fun v H1 => (∃ d, v = .d d) ∧ (∃ X, H1 = [] ++ X) ∧ ∃ y, v = .d (.str y) ∧ P v H) fun b H1 q => q)
  refine ⟨⟨_, rfl⟩, ⟨_, rfl⟩, y, rfl, h3 y ?_⟩
  obtain ⟨ps, q1, q2, q3⟩ := hd
  exact ⟨ps, q1, q2, q3⟩
end
end Mine
end
section
open PySem PySem.W PyProof.Rows PySem.Calls
set_option maxRecDepth 100000
set_option maxHeartbeats 8000000
namespace Mine
/-! an identifier's signs; newlines made one -/
theorem drawn_ones : ∀ {ps : List Str} {l : List Nat}, (∀ p ∈ ps, p ∈ l.map one) → ∃ ks : List Nat, ps = ks.map one ∧ ∀ k ∈ ks, k ∈ l
  | [], _, _ => ⟨[], rfl, fun k hk => by cases hk⟩
  | p :: ps, l, h => by
    obtain ⟨k, hk, rfl⟩ := List.mem_map.mp (h p (.head _))
    obtain ⟨ks, rfl, h2⟩ := drawn_ones fun q hq => h q (.tail _ hq)
    refine ⟨k :: ks, rfl, fun z hz => ?_⟩
    rcases List.mem_cons.mp hz with rfl | hz
    · exact hk
    · exact h2 z hz
theorem drawn_chars {x y : Str} {lo hi : Nat} (h : Drawn (x.cps.toList.map one) lo hi y) : lo ≤ y.cps.toList.length ∧ y.cps.toList.length ≤ hi ∧ ∀ k ∈ y.cps.toList, k ∈ x.cps.toList := by
  obtain ⟨ps, h1, h2, h3, rfl⟩ := h
  obtain ⟨ks, rfl, h4⟩ := drawn_ones h3
  rw [join_mk, ones_flat]
  rw [List.length_map] at h1 h2
  exact ⟨h1, h2, h4⟩
noncomputable def idS (o : Str) : Str := Str.ofString "aZ" ++ o ++ Str.ofString "é<&-/ \n\x0d\x40["
/-- the signs of an identifier -/
noncomputable def IDL : List Nat := [97, 90, 34, 39, 233, 60, 38, 45, 47, 32, 10, 13, 64, 91]
noncomputable def Ident (q : Nat) (y : Str) : Prop := y.cps.toList.length ≤ 5 ∧ ∀ k ∈ y.cps.toList, k ∈ IDL ∧ k ≠ q
noncomputable def identB (x : Str) (k : Str → Prop) : Prop := uc x.cps.toList fun q t => un t ((q = 39 ∨ q = 34) ∧ ∀ y : Str, Ident q y → k y)
noncomputable def spIdent (lvs : List LV) (H : Hp) (P : KV) : Prop := uA [.i, .s] lvs fun v => identB v.2.1 fun y => P (.d (.str y)) H
theorem v_id1 {w : World} {dg : Int} {H : Hp} {P : KV} : (EV w P16 20).c 608 [.d (.int dg), .d (.str (S "'"))] H P = drawB dg (idS (S "\"")) 0 5 fun y => P (.d (.str y)) H := by kernel_rfl
theorem v_id2 {w : World} {dg : Int} {H : Hp} {P : KV} : (EV w P16 20).c 608 [.d (.int dg), .d (.str (S "\""))] H P = drawB dg (idS (S "'")) 0 5 fun y => P (.d (.str y)) H := by kernel_rfl
section
variable {prog : Program} {w : World} {Γ : GE}
theorem ident_ok : POne prog w (KF w) Γ 608 spIdent 42 := po_ev (tt_ok w) p16_ok (k := 20) (by decide) fun {lvs H P} h => by
  obtain ⟨⟨dg, x, Z⟩, rfl, g⟩ := uA.inv h
  obtain ⟨q, t, eq, g1⟩ := uc.inv g
  obtain ⟨rfl, hq, h3⟩ := un.inv g1
  have e : x = one q := str_one eq
  subst e
  rcases hq with rfl | rfl
  · have e1 : one 39 = S "'" := by decide +kernel
    show (EV w P16 20).c 608 [.d (.int dg), .d (.str (one 39))] H P
    rw [e1]
    refine Eq.mpr v_id1 ⟨⟨by decide +kernel, by decide +kernel, by decide, by decide, by decide⟩, fun y hy => h3 y ?_⟩
    obtain ⟨_, h5, h6⟩ := drawn_chars hy
    have all : ∀ k ∈ (idS (S "\"")).cps.toList, k ∈ IDL ∧ k ≠ 39 := by decide +kernel
    exact ⟨h5, fun k hk => all k (h6 k hk)⟩
  · have e1 : one 34 = S "\"" := by decide +kernel
    show (EV w P16 20).c 608 [.d (.int dg), .d (.str (one 34))] H P
    rw [e1]
    refine Eq.mpr v_id2 ⟨⟨by decide +kernel, by decide +kernel, by decide, by decide, by decide⟩, fun y hy => h3 y ?_⟩
    obtain ⟨_, h5, h6⟩ := drawn_chars hy
    have all : ∀ k ∈ (idS (S "'")).cps.toList, k ∈ IDL ∧ k ≠ 34 := by decide +kernel
    exact ⟨h5, fun k hk => all k (h6 k hk)⟩
noncomputable def nlT (x : Str) : Str := Txt.replace (Txt.replace x (Str.ofString "\x0d\n") (Str.ofString "\n")) (Str.ofString "\x0d") (Str.ofString "\n")
noncomputable def oneB (x : Str) (k : Str → Prop) : Prop := (x.length ≤ 100000 ∧ (Txt.replace x (Str.ofString "\x0d\n") (Str.ofString "\n")).length ≤ 1048576) ∧ k (nlT x)
noncomputable def spOne (lvs : List LV) (H : Hp) (P : KV) : Prop := uA [.s] lvs fun v => oneB v.1 fun y => P (.d (.str y)) H
theorem one_ok : POne prog w (KF w) Γ 601 spOne 21 := by
  intro c m adr rest news H s lvs vs P R G hr SA hm h r
  obtain ⟨⟨x, Z⟩, rfl, ⟨h1, h2⟩, h3⟩ := uA.inv h
  refine enter (n := 20) ((tt_ok w).fn 601 [S "text"] [] (by kernel_rfl)) G hr SA hm rfl r fun c' m' s' E' Q' ec hE ht0 G' hr' S' hl' r' => ?_
  have nm := nmk (prog := prog) (w := w) G' hl'
  have k3 : c'.cs.names.lookup (Str.ofString "text") = some .local := by rw [ec]; kernel_rfl
  refine ret1 (by kernel_rfl) ?_
  refine replace_x (y := Str.ofString "\x0d") (z := Str.ofString "\n") (by kernel_rfl) (by decide +kernel) (by decide +kernel) ht0 S'.tk ?_
  refine replace_x (y := Str.ofString "\x0d\n") (z := Str.ofString "\n") (by kernel_rfl) (by decide +kernel) (by decide +kernel) ht0 S'.tk ?_
  obtain ⟨q, e0⟩ := pNm.inv (show pNm (Str.ofString "text") (replO (replO (retE1 (bodyOf (KF w) 601)))) = true by kernel_rfl)
  rw [e0]
  refine nm.loc List.prefix_rfl Sub.rfl S' k3 rfl fun u hu ht => ?_
  obtain ⟨t, rfl⟩ := dInv hu
  refine ⟨x, t, rfl, by have : x.length ≤ 100000 := h1
                        omega, fun t' k hk hk2 => ?_⟩
  refine ⟨_, t', rfl, h2, fun t'' k' hk' => ?_⟩
  exact (r'.then (h' := s'.heap) (tk' := k') List.prefix_rfl Sub.rfl).now (S'.toks hk') hl' (mRet mStr) h3
end
end Mine
end
section
open PySem PySem.W PyProof.Rows PySem.Spec PySem.Calls
set_option maxRecDepth 100000
namespace Mine
/-! y = [elt for x in range(e)], the elements known by a property -/
section
variable {prog : Program} {w : World} {K : Frag} {Γ : GE}
variable {c : FC K Γ} {T : Tabs} {ih : Ev} {n : Nat} {A : Around} {m : Str → Option Value} {adr adr' : List Addr} {rest rest' news : Led} {H : Hp} {s : Shared} {E : Value → Shared → Prop} {l : Loc}
theorem asg_compR (IH : Sound prog w K Γ ih n) (G : FG c) (hr : Room c.A n) {elt : Expr} {px py pr po pos spos : Pos} {e : Expr} {x y : Str} {scope : Scope} {cl' : List (Str × Addr)} {N : Nat} {lf : Loc} {Pr : Nat → Dat → Prop} {P : Fl → Loc → Hp → Prop} {Q : Flow → Shared → Prop}
    (S : AtS prog w c m adr rest news H s) (hl : LocOk c.cl adr rest l m)
    (hsw : swapsWith (.ListComp elt [⟨.Name x px, .Call (.Name (Str.ofString "range") pr) [e] [] po, [], 0⟩] scope pos) (some (.Name y py)) spos.line c.env = pure true)
    (hclos : closureFor scope c.env = pure cl') (hcell : ∀ y ∈ scope.names, y.2 ≠ .cell) (hk : scope.kind = .function) (hnames : ∀ y ∈ scope.names, y.2 = .local → scope.names.lookup y.1 = some .local) (hx : scope.names.lookup x = some .local) (hy : c.cs.names.lookup y = some .local)
    (h1 : ∀ y, (rlS scope c.cs).names.lookup y = some .local → y = x ∨ lf.lookup y = none) (h2 : ∀ y, (rlS scope c.cs).names.lookup y = some .cell → y ≠ x) (hd : (rlS scope c.cs).names.lookup DBG = none)
    (hg : c.cs.names.lookup (Str.ofString "range") = some .globalImplicit) (hn : nsIn K mainGlobals (Str.ofString "range") = some none) (he : isStar e = false)
    (hi : ih.e c.cs e l H (fun v H1 => v = .d (.int (N : Int)) ∧ N ≤ szLine ∧ (∀ ds : List Dat, ds.length = N → (∀ i d, ds[i]? = some d → Pr i d) → P .next ((y, .obj H1.length) :: l) (H1 ++ [.list ds])) ∧
      ∀ y v, lf.lookup y = some v → ∃ i a, isFix v = true ∧ l.lookup y = some (.obj i) ∧ H1[i]? = some (.cell (some v)) ∧ cl'.lookup y = some a ∧ c.cl.lookup y = some a))
    (helt : ∀ k, k < N → ih.e (rlS scope c.cs) elt ((x, .d (.int (k : Int))) :: lf) [] (fun v Z => ∃ d, v = .d d ∧ flatD d = true ∧ Pr k d))
    (r : RetS prog w c adr rest s P Q) : wpAny (model prog w) c.A (exec (.Assign [.Name y py] (.ListComp elt [⟨.Name x px, .Call (.Name (Str.ofString "range") pr) [e] [] po, [], 0⟩] scope pos) spos) c.env) Q E s := by
  refine with_toks S.tk ?_
  refine LCg.Assign_ListComp_U S.F rfl hsw hclos hcell hk hnames hx hy (by show (c.cs.kind == .class || (c.cs.kind == .module && _)) = false; rw [c.hk]; rfl) ?_ (fun Z => rfl)
  refine Call_ (nameX_B S.F c.X (topRead_of c.T) hn boot_range (by decide +kernel) ?_ c.hk hg (by decide +kernel))
  refine Pv.callWith_type1 (args_cons (IH.e G hr S (nmk G hl) hi fun v u adr1 rest1 news1 H1 hh1 tk1 e1 e2 S1 hm hp => args_nil ?_) (starEach_cons he)) (starEach_cons he) rfl
  obtain ⟨rfl, hz, hP, hcl⟩ := hp
  obtain ⟨_, rfl⟩ := dInv hm
  obtain ⟨own, O, Sb, D⟩ := S1.R
  refine range1_rows S1.F S1.N fun h' tk t₁ u₁ v₁ hR F' N' Z => ?_
  have hcl2 : ∀ y v, lf.lookup y = some v → ∃ a o u, isFix v = true ∧ cl'.lookup y = some a ∧ (a, o) ∈ own ++ rest1 ∧ o.data = .cell (some u) ∧ Mt [] (own ++ rest1) v u := fun y v hy => by
    obtain ⟨i, a, hfx, e3, e4, e5, e6⟩ := hcl y v hy
    obtain ⟨i', q1, q2⟩ := ((hl.mono e1 e2) y _ e3).2 a e6
    cases q1
    obtain ⟨b, pre, l', post, z1, z2, ⟨o, u, rfl, hd', hm'⟩, _⟩ := O.split e4
    rw [q2] at z1; cases z1
    refine ⟨a, o, u, hfx, e5, ?_, hd', ?_⟩
    · rw [z2]; simp
    · cases v with
      | d x => exact DatIn.mono (fun p hp => List.mem_append_right _ hp) hm'
      | top b => exact hm'
      | _ => cases hfx
  have big : szLine = 16777216 := rfl
  refine LCg.CompSrc.range c.hh F' (newsSub N' (a := own ++ rest1) (fun p hp => ?_)) hR (small_lt (Int.le_refl _) (by omega) (Int.natCast_nonneg N)) (by have := rangeSize_nat 0 N; simpa using this) (show N ≤ sizeLine from hz) fun g' => ?_
  · first | exact Sb p hp | exact .tail _ (Sb p hp)
  have key : ∀ (j i : Nat) (ys : List Value) (ds : List Dat), i + j = N → ds.length = i → (∀ k d, ds[k]? = some d → Pr k d) → DatAll rest1 ys ds →
      LCg.CompRest prog w c.A c.h₀ c.L m c.env elt x scope cl' { s with heap := g', toks := tk } (fun Z => True) (fun i v => ∃ t, v = .int (0 + (i : Int)) t) (LCg.FinA c.h₀ c.L m { s with heap := g', toks := tk } y fun a s' => c.t0 ≤ s'.toks → Q a s') j i ys (own ++ rest1) := by
    intro j
    induction j with
    | zero =>
      intro i ys ds hi' hlen hpr hy'
      have : i = N := by omega
      subst this
      refine LCg.CompRest.zero fun D' h tk F N off ht => ?_
      have R' : RepH prog w (adr1 ++ [D']) (H1 ++ [.list ds]) rest1 ((D', listOf ys.toArray ys.length) :: (own ++ rest1)) := RepH.allocL ⟨own, O, Sub.rfl, D⟩ (off1_mem off) hy'
      have hv : Mt (adr1 ++ [D']) rest1 (.obj H1.length) (.ref D') := ⟨D', by rw [← O.len, List.getElem?_append_right (Nat.le_refl _), Nat.sub_self]; rfl, rfl⟩
      exact r .next .next _ _ _ rest1 _ _ h tk (e1.trans (List.prefix_append _ _)) e2 ⟨F, N, R', ht⟩ ((hl.mono (e1.trans (List.prefix_append _ _)) e2).put (G.loc _ hy) hv) mNext (hP ds hlen hpr)
    | succ j ihj =>
      intro i ys ds hi' hlen hpr hy'
      refine LCg.CompRest.succ ?_
      intro v I oI C oC D' m₂ h tk E' hv hC hx' F N off ne
      obtain ⟨t, rfl⟩ := hv
      rw [Int.zero_add] at hx'
      have R₀ : RepH prog w [] [] ((I, oI) :: (C, oC) :: (D', LCg.lst ys) :: (own ++ rest1)) ((I, oI) :: (C, oC) :: (D', LCg.lst ys) :: (own ++ rest1)) := ⟨[], .nil, Sub.rfl, off_dn D off ne⟩
      have hnm := comp_nm (prog := prog) (w := w) (c := { c with t0 := 0 }) (m := m) (adr := []) (rest := (I, oI) :: (C, oC) :: (D', LCg.lst ys) :: (own ++ rest1)) (lf := lf) (cl' := cl') hC (.tail _ (.head _)) hx' mInt hk h1 h2 (fun y v hy' => by
        obtain ⟨a, o, u, z1, z2, z3, z4, z5⟩ := hcl2 y v hy'
        exact ⟨a, o, u, z1, z2, .tail _ (.tail _ (.tail _ z3)), z4, z5.mono List.prefix_rfl fun p hp => .tail _ (.tail _ (.tail _ hp))⟩) hd
      refine IH.e (c := { c with t0 := 0 }) (env := compEnvC scope cl' C c.env) (cs := rlS scope c.cs) (m := m) (adr := []) (rest := (I, oI) :: (C, oC) :: (D', LCg.lst ys) :: (own ++ rest1)) (news := (I, oI) :: (C, oC) :: (D', LCg.lst ys) :: (own ++ rest1)) (H := []) (l := (x, .d (.int (i : Int))) :: lf) ⟨G.dbg, G.loc, G.cel, G.fre⟩ hr ⟨F, N, R₀, Nat.zero_le _⟩ hnm (helt i (by omega)) fun b a adr2 rest2 news2 H2 hh2 tk2 q1 q2 S2 hm2 hp2 => ?_
      obtain ⟨d, rfl, hf, hpd⟩ := hp2
      refine ⟨hh2, tk2, own ++ rest1, rfl, S2.F, fun p hp => S2.N p (S2.R.rest_sub p (q2 p hp)), off, trivial, ihj (i + 1) _ (ds ++ [d]) (by omega) (by rw [List.length_append, hlen]; rfl) (fun k d' hk' => ?_) (hy'.append (DatAll.one (flat_dat hf hm2)))⟩
      rcases Nat.lt_or_ge k ds.length with lt | ge
      · rw [List.getElem?_append_left lt] at hk'; exact hpr k d' hk'
      · rw [List.getElem?_append_right ge] at hk'
        have : k = i := by
          rcases Nat.lt_or_ge (k - ds.length) 1 with q | q
          · omega
          · rw [List.getElem?_eq_none (by simpa using q)] at hk'; cases hk'
        subst this
        rw [show k - ds.length = 0 by omega] at hk'
        cases hk'; exact hpd
  exact key _ 0 [] [] (by omega) rfl (fun k d hk => by cases hk) .nil
end
noncomputable def acG0 (cs : Scope) (y : Str) (py : Pos) (g : Comprehension) (scope : Scope) (pos : Pos) : Bool :=
  pName (scOk scope cs) g.target && (pCall rgS (l1 nSt) g.iter && (l0 g.ifs && (decide (g.is_async = 0) && ((py.line == pos.line) && (!(scope.names.any fun (n, k) => n == y && (k == .local || k == .cell)) && (decide (cs.names.lookup y = some .local) && decide (cs.names.lookup (Str.ofString "range") = some .globalImplicit)))))))
noncomputable def acT0 (cs : Scope) (v t : Expr) : Bool := eC t (fun y py => pLC (fun el g scope pos => acG0 cs y py g scope pos) v) (fun Z Z Z Z => false) (fun Z Z Z => false) (fun Z Z Z => false) (fun Z Z Z Z => false) (fun Z Z Z Z => false) (fun Z Z Z => false) (fun Z Z Z Z => false) (fun Z Z Z => false)
theorem acT0.inv {cs : Scope} {v t : Expr} (h : acT0 cs v t = true) : ∃ y py el g scope pos, t = .Name y py ∧ v = .ListComp el [g] scope pos ∧ acG0 cs y py g scope pos = true :=
  eC.el (M := fun t => ∃ y py el g scope pos, t = .Name y py ∧ v = .ListComp el [g] scope pos ∧ acG0 cs y py g scope pos = true) h (fun y py h => by
    obtain ⟨el, g, scope, pos, e1, hh⟩ := pLC.inv h
    exact ⟨y, py, el, g, scope, pos, rfl, e1, hh⟩) (fun Z Z Z Z h => (Bool.false_ne_true h).elim) (fun Z Z Z h => (Bool.false_ne_true h).elim) (fun Z Z Z h => (Bool.false_ne_true h).elim) (fun Z Z Z Z h => (Bool.false_ne_true h).elim) (fun Z Z Z Z h => (Bool.false_ne_true h).elim) (fun Z Z Z h => (Bool.false_ne_true h).elim) (fun Z Z Z Z h => (Bool.false_ne_true h).elim) (fun Z Z Z h => (Bool.false_ne_true h).elim)
noncomputable def ac0Ok (cs : Scope) (st : Stmt) : Bool := sC st (fun Z Z => false) (fun ts v Z => l1 (acT0 cs v) ts) (fun Z Z Z Z Z => false) (fun Z Z Z Z => false) (fun Z Z Z Z => false)
theorem acG0.inv {cs : Scope} {y : Str} {py : Pos} {g : Comprehension} {scope : Scope} {pos : Pos} (h : acG0 cs y py g scope pos = true) : ∃ x px pr e po, g = ⟨.Name x px, .Call (.Name (Str.ofString "range") pr) [e] [] po, [], 0⟩ ∧ scOk scope cs x = true ∧ isStar e = false ∧ (py.line == pos.line) = true ∧
    (scope.names.any fun (n, k) => n == y && (k == .local || k == .cell)) = false ∧ cs.names.lookup y = some .local ∧ cs.names.lookup (Str.ofString "range") = some .globalImplicit := by
  obtain ⟨t, i, fs, as⟩ := g
  obtain ⟨h1, h2, h3⟩ := and3 h
  obtain ⟨h3, h4, h5⟩ := and3 h3
  obtain ⟨h5, h6, h7⟩ := and3 h5
  obtain ⟨h7, h8⟩ := Bool.and_eq_true_iff.mp h7
  obtain ⟨x, px, e1, g1⟩ := pName.inv h1
  obtain ⟨f, ar, po, e2, g2, g3⟩ := pCall.inv h2
  obtain ⟨pr, e4⟩ := pNm.inv g2
  obtain ⟨e, e5, g4⟩ := l1.inv g3
  have e3 := l0.inv h3
  have e1 : t = .Name x px := e1
  have e2 : i = .Call f ar [] po := e2
  have e3 : fs = [] := e3
  have e6 : as = 0 := of_decide_eq_true h4
  rw [e1, e2, e3, e4, e5, e6]
  exact ⟨x, px, pr, e, po, rfl, g1, nSt.is g4, h5, (Bool.not_eq_true' _).mp h6, of_decide_eq_true h7, of_decide_eq_true h8⟩
theorem ac0Ok.inv {cs : Scope} {st : Stmt} (h : ac0Ok cs st = true) : ∃ y py el x px pr e po scope pos p, st = .Assign [.Name y py] (.ListComp el [⟨.Name x px, .Call (.Name (Str.ofString "range") pr) [e] [] po, [], 0⟩] scope pos) p ∧ scOk scope cs x = true ∧ isStar e = false ∧
    (py.line == pos.line) = true ∧ (scope.names.any fun (n, k) => n == y && (k == .local || k == .cell)) = false ∧ cs.names.lookup y = some .local ∧ cs.names.lookup (Str.ofString "range") = some .globalImplicit :=
  sC.el (M := fun st => ∃ y py el x px pr e po scope pos p, st = .Assign [.Name y py] (.ListComp el [⟨.Name x px, .Call (.Name (Str.ofString "range") pr) [e] [] po, [], 0⟩] scope pos) p ∧ scOk scope cs x = true ∧ isStar e = false ∧
    (py.line == pos.line) = true ∧ (scope.names.any fun (n, k) => n == y && (k == .local || k == .cell)) = false ∧ cs.names.lookup y = some .local ∧ cs.names.lookup (Str.ofString "range") = some .globalImplicit) h (fun Z Z h => (Bool.false_ne_true h).elim) (fun ts v p h => by
    obtain ⟨t, e1, h1⟩ := l1.inv h
    obtain ⟨y, py, el, g, scope, pos, e2, e3, h3⟩ := acT0.inv h1
    obtain ⟨x, px, pr, e, po, e5, h5⟩ := acG0.inv h3
    rw [e1, e2, e3, e5]
    exact ⟨y, py, el, x, px, pr, e, po, scope, pos, p, rfl, h5⟩) (fun Z Z Z Z Z h => (Bool.false_ne_true h).elim) (fun Z Z Z Z h => (Bool.false_ne_true h).elim) (fun Z Z Z Z h => (Bool.false_ne_true h).elim)
noncomputable def acL : Stmt → Expr
  | .Assign _ (.ListComp e _ _ _) _ => e
  | _ => .Constant .none 0 ⟨0, 0, 0, 0⟩
section
variable {prog : Program} {w : World} {K : Frag} {Γ : GE}
variable {c : FC K Γ} {ih : Ev} {n : Nat} {m : Str → Option Value} {adr : List Addr} {rest news : Led} {H : Hp} {s : Shared} {E : Value → Shared → Prop} {l : Loc}
theorem asg_comp_r (IH : Sound prog w K Γ ih n) (G : FG c) (hr : Room c.A n) {st : Stmt} (ho : ac0Ok c.cs st = true) {cl' : List (Str × Addr)} {N : Nat} {lf : Loc} {Pr : Nat → Dat → Prop} {P : Fl → Loc → Hp → Prop} {Q : Flow → Shared → Prop} (h0 : lf.lookup (Str.ofString ".0") = none)
    (S : AtS prog w c m adr rest news H s) (hl : LocOk c.cl adr rest l m) (hclos : closureFor (acS st) c.env = pure cl') (hn : nsIn K mainGlobals (Str.ofString "range") = some none)
    (hi : ih.e c.cs (acE st) l H (fun v H1 => v = .d (.int (N : Int)) ∧ N ≤ szLine ∧ (∀ ds : List Dat, ds.length = N → (∀ i d, ds[i]? = some d → Pr i d) → P .next ((acY st, .obj H1.length) :: l) (H1 ++ [.list ds])) ∧
      ∀ y v, lf.lookup y = some v → ∃ i a, isFix v = true ∧ l.lookup y = some (.obj i) ∧ H1[i]? = some (.cell (some v)) ∧ cl'.lookup y = some a ∧ c.cl.lookup y = some a))
    (helt : ∀ k, k < N → ih.e (rlS (acS st) c.cs) (acL st) ((acX st, .d (.int (k : Int))) :: lf) [] (fun v Z => ∃ d, v = .d d ∧ flatD d = true ∧ Pr k d))
    (r : RetS prog w c adr rest s P Q) : wpAny (model prog w) c.A (exec st c.env) Q E s := by
  obtain ⟨y, py, el, x, px, pr, e, po, scope, pos, p1, rfl, a0, a2, a4, a5, a10, a13⟩ := ac0Ok.inv ho
  obtain ⟨a6, a7, a8, a9, b1, b2, a12⟩ := scOk.inv h0 a0
  refine asg_compR IH G hr S hl ?_ hclos a6 a7 a8 a9 a10 b1 b2 a12 a13 hn a2 hi helt r
  show (pure (_ && _ && _ && !_) : Sem Bool) = pure true
  refine congrArg _ ?_
  simp only [Bool.and_eq_true, Bool.not_eq_true']
  refine ⟨⟨⟨?_, ?_⟩, ?_⟩, a5⟩
  · show ((if c.cs.kind.isAnnotationScope then ScopeKind.function else c.cs.kind) == .function) = true
    rw [c.hk]; rfl
  · show (c.cs.names.lookup _ == some .local) = true
    rw [a10]; rfl
  · show (_ == _) = true
    rw [beq_iff_eq.mp a4]; exact beq_self_eq_true _
end
end Mine
end
section
open PySem PySem.W PyProof.Rows PySem.Spec PySem.Calls
set_option maxRecDepth 100000
namespace Mine
/-! for k in range(n), k a cell, the turn by hand, the heap cut behind each turn -/
section
variable {prog : Program} {w : World} {K : Frag} {Γ : GE}
variable {c : FC K Γ} {ih : Ev} {n : Nat} {m : Str → Option Value} {adr : List Addr} {rest news : Led} {H : Hp} {s : Shared} {E : Value → Shared → Prop} {l : Loc}
noncomputable abbrev FC.t00 (c : FC K Γ) : FC K Γ := { c with t0 := 0 }
theorem for_rc (IH : Sound prog w K Γ ih n) (G : FG c) (hr : Room c.A n) {st : Stmt} (ho : r1Ok st = true) {N : Nat} {P : Fl → Loc → Hp → Prop} {Q : Flow → Shared → Prop} (Jh : Nat → Loc → Hp → Prop)
    (hE : PassesOwn (model prog w) c.A c.env E) (hx : c.cs.names.lookup (lpX st) = some .cell) (hg : c.cs.names.lookup (Str.ofString "range") = some .globalImplicit) (hn : nsIn K mainGlobals (Str.ofString "range") = some none) (S : AtS prog w c m adr rest news H s) (hl : LocOk c.cl adr rest l m)
    (hi : ih.e c.cs (rgA 0 st) l H (fun v H1 => v = .d (.int (N : Int)) ∧ Jh 0 l H1)) (hN : (N : Int) < 2 ^ 60)
    (hcell : ∀ i l' H', Jh i l' H' → ∃ jx o, l'.lookup (lpX st) = some (.obj jx) ∧ H'[jx]? = some (.cell o))
    (turn : ∀ (i jx : Nat) (l' : Loc) (adr' : List Addr) (rest' news' : Led) (H' : Hp) (m' : Str → Option Value) (s' : Shared) (Q' : Flow → Shared → Prop), i < N → adr <+: adr' → Jh i l' H' → l'.lookup (lpX st) = some (.obj jx) → AtS prog w c.t00 m' adr' rest' news' (H'.set jx (.cell (some (.d (.int (i : Int)))))) s' → LocOk c.cl adr' rest' l' m' →
      RetS prog w c.t00 adr' rest' s' (fun fl l2 H2 => fl = .next ∧ ∃ l3, Keeps l3 l2 ∧ ∃ H3, CutTo l3 H2 H3 ∧ adr.length ≤ H3.length ∧ Jh (i + 1) l3 H3) Q' → wpAny (model prog w) c.A (execs (lpB st) c.env) Q' E s')
    (done : ∀ l' H', Jh N l' H' → P .next l' H') (r : RetS prog w c adr rest s P Q) : wpAny (model prog w) c.A (exec st c.env) Q E s := by
  obtain ⟨x, px, pr, e, po, body, pos, rfl, he⟩ := r1Ok.inv ho
  refine with_toks S.tk ?_
  refine For_invTF S.F ?_ (fun Z => rfl) hE
  refine Call_ (nameX_B S.F c.X (topRead_of c.T) hn boot_range (by decide +kernel) ?_ c.hk hg (by decide +kernel))
  refine Pv.callWith_type1 (args_cons (IH.e G hr S (nmk G hl) hi fun v u adr1 rest1 news1 H1 h1 tk1 e1 e2 S1 hm hp => args_nil ?_) (starEach_cons he)) (starEach_cons he) rfl
  obtain ⟨rfl, hj⟩ := hp
  obtain ⟨_, rfl⟩ := dInv hm
  refine range1_rows S1.F S1.N fun h' tk t₁ u₁ v₁ hR F' N' Z => ?_
  have hsz : Builtin.Range.rangeSize 0 (N : Int) 1 = ((N : Nat) : Int) := by have := rangeSize_nat 0 N; simpa using this
  refine wpAny_pyIter_range hR (small_lt (Int.le_refl _) hN (Int.natCast_nonneg N)) ?_
  have lt : ∀ p ∈ news1, p.1 < h'.objs.size := fun p hp => Heap.lt_size (N' p (by first | exact hp | exact .tail _ hp)).1
  have lt2 : ∀ q ∈ rest1, q.1 ≠ h'.objs.size := fun q hq => Nat.ne_of_lt (lt q (S1.R.rest_sub q hq))
  refine ⟨h'.objs.size, [h'.objs.size], [h'.objs.size], N, _, _, m, _, (fun i m nx => ∃ l', JH prog w c.cl l' adr rest1 (Jh i l') m nx), rfl, Walks.range c.hh h'.objs.size 0 1 N, fun hh => Nat.ne_of_lt F'.ns.lt (List.mem_singleton.mp hh), fun b hb => by rw [List.mem_singleton.mp hb]; exact next_is_new F',
    fun p hp hb => Nat.ne_of_lt (Heap.lt_size (N' p hp).1) (List.mem_singleton.mp hb), (by show IsRangeIter _ _ _ _ _; rw [hsz]; simpa using Heap.get?_push_size _ rfl), F'.push _, (fun p hp => ⟨Heap.get?_push_of_some _ (N' p hp).1, (N' p hp).2⟩), (fun i s' v Q' a b => ?_), ?_, ?_, ?_⟩
  · exact wpAny_pure b
  · exact ⟨l, adr1, rest1, H1, e1, Sub.rfl, (by first | exact S1.R | exact S1.R.grow (fun q hq => Nat.ne_of_lt (lt q hq))), hl.mono e1 e2, hj⟩
  · rintro i v m₁ news₁ s₁ own hlt ⟨t, rfl⟩ ⟨l', adr2, rest2, H2, q1, q2, R2, L2, hj2⟩ hoff hown hget hfp hst' F₁ N₁
    have ei : (0 : Int) + (i : Int) * 1 = (i : Int) := by omega
    rw [ei]
    obtain ⟨oI, hoI, hns⟩ : ∃ o, s₁.heap.get? h'.objs.size = some o ∧ NotSeq o := ⟨_, hst', ⟨fun e => by injection e with e; exact absurd e (by decide), fun e => by injection e with e; exact absurd e (by decide)⟩⟩
    have hIown : (h'.objs.size, oI) ∈ own := hfp _ (List.mem_singleton.mpr rfl) (next_is_new F') _ hoI
    have hall : ∀ p ∈ own, p = (h'.objs.size, oI) := fun p hp => by
      obtain ⟨a, o⟩ := p
      have e1 : a = h'.objs.size := List.mem_singleton.mp (hown _ hp)
      subst e1
      have e2 := hget _ hp
      rw [hoI] at e2
      cases e2; rfl
    have hne : ∀ q ∈ news₁, q.1 ≠ h'.objs.size := fun q hq e => hoff q hq (List.mem_singleton.mpr e)
    have N₂ : News c.h₀ c.L s₁.heap ((h'.objs.size, oI) :: news₁) := fun p hp => by
      rcases List.mem_cons.mp hp with e | e
      · exact N₁ p (List.mem_append_left _ (e ▸ hIown))
      · exact N₁ p (List.mem_append_right _ e)
    have S0 : AtS prog w c.t00 m₁ adr2 ((h'.objs.size, oI) :: rest2) ((h'.objs.size, oI) :: news₁) H2 s₁ := ⟨F₁, N₂, R2.grow hne, Nat.zero_le _⟩
    obtain ⟨jx, o, hjx, hoj⟩ := hcell i l' H2 hj2
    obtain ⟨a, ha⟩ := G.cel x hx
    obtain ⟨j, z1, z2⟩ := (L2 x _ hjx).2 a ha
    cases z1
    refine wpAny_assign_Name (op_setCell (c := c.t00) (P := fun X H4 => H4 = H2.set jx (.cell (some (.d (.int (i : Int)))))) S0 ha z2 mInt hx hoj rfl ?_)
    rintro b a' adr4 rest4 news4 H4 h4 tk4 e3 e4 S4 Z rfl
    refine turn i jx l' adr4 rest4 news4 H2 m₁ _ _ hlt (q1.trans e3) hj2 hjx S4 (L2.mono e3 fun z hz => e4 z (.tail _ hz)) ?_
    rintro fl f l2 m' adr5 rest5 news5 H5 h5 tk5 e5 e6 S5 L5 hmf ⟨rfl, l3, hk, H3, ⟨⟨X, rfl⟩, hc1, hc2⟩, hlen, hj3⟩
    cases hmf
    obtain ⟨ownc, R6, _⟩ := S5.R.cut hc1
    have hI : (h'.objs.size, oI) ∈ ownc ++ rest5 := List.mem_append_right _ (e6 _ (e4 _ (.head _)))
    have hrs := R6.rest_sub
    obtain ⟨own6, O6, Sb6, D6⟩ := R6
    have D' : DN (ownc ++ rest5) := DN.sub (List.sublist_append_right _ _) D6
    have hu : ∀ a o, (a, o) ∈ ownc ++ rest5 → a = h'.objs.size → o = oI := fun a o h e => by subst e; exact DN.fn D' h hI
    have L6 : LocOk c.cl (adr5.take H3.length) (ownc ++ rest5) l3 m' := ((L5.keeps hk).cut hc2).mono List.prefix_rfl fun z hz => List.mem_append_right _ hz
    refine ⟨rfl, h5, tk5, m', without h'.objs.size news5, rfl, S5.F, fun q hq => ?_, fun q hq e => without_ne q hq (List.mem_singleton.mp e), l3, adr5.take H3.length, without h'.objs.size (ownc ++ rest5), H3, pre_take ((q1.trans e3).trans e5) hlen, fun z hz => mem_without (List.mem_append_right _ (e6 z (e4 z (.tail _ (q2 z hz))))) (lt2 z hz), RepH.drop ⟨own6, O6, Sb6, D6⟩ hI hns, L6.drop hu hns, hj3⟩
    rcases List.mem_append.mp hq with e | e
    · rw [hall q e]; exact S5.N _ (hrs _ hI)
    · exact S5.N q (without_sub q e)
  · rintro h2 tk2 m' nx F2 N2 hoff ⟨l', adr2, rest2, H2, q1, q2, R2, L2, hj2⟩ ht
    exact r .next .next l' m' adr2 rest2 nx H2 h2 tk2 q1 (e2.trans q2) ⟨F2, N2, R2, ht⟩ L2 mNext (done l' H2 hj2)
end
end Mine
end
section
open PySem PySem.W PyProof.Rows PySem.Spec PySem.Calls
set_option maxRecDepth 100000
namespace Mine
/-! newlines made one -/
theorem map_free {c d : Nat} {l : List Nat} (h : c ∉ l) : (l.map fun a => cond (a == c) d a) = l := by
  conv => rhs; rw [← List.map_id l]
  refine List.map_congr_left fun a ha => ?_
  have : (a == c) = false := beq_eq_false_iff_ne.mpr fun e => h (e ▸ ha)
  rw [this]; rfl
theorem join_map {c d : Nat} : ∀ ps : List Str, (∀ p ∈ ps, c ∉ p.cps.toList) → (Str.join (one d) ps).cps.toList = (Str.join (one c) ps).cps.toList.map fun a => cond (a == c) d a
  | [], _ => rfl
  | [p], h => (map_free (h p (.head _))).symm
  | p :: q :: r, h => by
    have ih := join_map (c := c) (d := d) (q :: r) fun x hx => h x (.tail _ hx)
    show ((p.cps ++ (one d).cps) ++ (Str.join (one d) (q :: r)).cps).toList = List.map _ ((p.cps ++ (one c).cps) ++ (Str.join (one c) (q :: r)).cps).toList
    rw [Array.toList_append, Array.toList_append, Array.toList_append, Array.toList_append, List.map_append, List.map_append, ih, map_free (h p (.head _))]
    simp
theorem replace_map (x : Str) (c d : Nat) : Txt.replace x (one c) (one d) = mkS (x.cps.toList.map fun a => cond (a == c) d a) := by
  have h := StrLaws.replace_one x (one d) c
  refine Str.ext' ?_
  show _ = (List.map _ x.cps.toList).toArray
  rw [show Txt.replace x (one c) (one d) = Str.join (one d) (Txt.split x (one c)) from h]
  have e := join_map (c := c) (d := d) (Txt.split x (one c)) (StrLaws.split_free x c)
  rw [StrLaws.join_split x (one c)] at e
  rw [← e, Array.toArray_toList]
theorem beqF {k a : Nat} (h : k ≠ a) : (k == a) = false := beq_eq_false_iff_ne.mpr h
noncomputable def crlf : List Nat → List Nat
  | [] => []
  | [c] => [c]
  | c :: d :: r => cond (c == 13 && d == 10) (10 :: crlf r) (c :: crlf (d :: r))
noncomputable def fx (c : Nat) : Nat := cond (c == 13) 10 c
noncomputable def skipNl : List Nat → List Nat
  | [] => []
  | c :: r => cond (c == 10) r (c :: r)
theorem crlf_cons {c : Nat} {r : List Nat} (h : c = 13 → r.head? ≠ some 10) : crlf (c :: r) = c :: crlf r := by
  induction r with
  | nil => rfl
  | cons d r =>
    have e : crlf (c :: d :: r) = cond (c == 13 && d == 10) (10 :: crlf r) (c :: crlf (d :: r)) := by rw [crlf]
    rw [e]
    by_cases hc : c = 13
    · have hd : d ≠ 10 := fun e => h hc (by rw [e]; rfl)
      rw [beqF hd, Bool.and_false]; rfl
    · rw [beqF hc, Bool.false_and]; rfl
theorem crlf_le : ∀ l : List Nat, (crlf l).length ≤ l.length
  | [] => Nat.le_refl _
  | [c] => Nat.le_refl _
  | c :: d :: r => by
    have e : crlf (c :: d :: r) = cond (c == 13 && d == 10) (10 :: crlf r) (c :: crlf (d :: r)) := by rw [crlf]
    rw [e]
    have h1 := crlf_le r
    have h2 := crlf_le (d :: r)
    cases (c == 13 && d == 10)
    · show (crlf (d :: r)).length + 1 ≤ (d :: r).length + 1
      lia
    · show (crlf r).length + 1 ≤ r.length + 1 + 1
      lia
theorem crlf_cr (r : List Nat) : (crlf (13 :: r)).map fx = 10 :: (crlf (skipNl r)).map fx := by
  induction r with
  | nil => rfl
  | cons d r =>
    by_cases hd : d = 10
    · subst hd; rfl
    · show _ = 10 :: (crlf (cond (d == 10) r (d :: r))).map fx
      rw [beqF hd, crlf_cons (c := 13) (r := d :: r) (fun Z e => hd (by injection e))]; rfl
theorem feed_nl : ∀ (ks : List Nat) (s : List Nat) (e : List Dat), (feedL ⟨s, false, e⟩ ks).signs = s ++ (crlf ks).map fx ∧ (feedL ⟨s, true, e⟩ ks).signs = s ++ (crlf (skipNl ks)).map fx
  | [], s, e => ⟨(List.append_nil _).symm, (List.append_nil _).symm⟩
  | k :: r, s, e => by
    have st : ∀ σ, feedL σ (k :: r) = feedL (feed1 σ k) r := fun σ => rfl
    rw [st, st]
    by_cases h13 : k = 13
    · subst h13
      have e1 : ∀ b, feed1 ⟨s, b, e⟩ 13 = ⟨s ++ [10], true, e⟩ := fun b => rfl
      rw [e1, e1]
      have ih := (feed_nl r (s ++ [10]) e).2
      refine ⟨?_, ?_⟩
      · rw [ih, crlf_cr, List.append_assoc]; rfl
      · rw [ih]
        show _ = s ++ (crlf (13 :: r)).map fx
        rw [crlf_cr, List.append_assoc]; rfl
    · have hk : (k == 13) = false := beqF h13
      have hfx : fx k = k := by unfold fx; rw [hk]; rfl
      have hc : (crlf (k :: r)).map fx = k :: (crlf r).map fx := by rw [crlf_cons fun q => absurd q h13, List.map_cons, hfx]
      have plain : ∀ b, (k == 10 && b) = false → (feedL (feed1 ⟨s, b, e⟩ k) r).signs = s ++ (crlf (k :: r)).map fx := fun b hb => by
        have : feed1 ⟨s, b, e⟩ k = ⟨s ++ [k], false, cond (k == 127) (e ++ [eD (S "control-character-in-input-stream") s.length]) e⟩ := by
          unfold feed1; rw [hk]
          show cond (k == 10 && b) _ _ = _
          rw [hb]; rfl
        rw [this, (feed_nl r _ _).1, hc, List.append_assoc]; rfl
      refine ⟨plain false (Bool.and_false _), ?_⟩
      by_cases h10 : k = 10
      · subst h10
        have : feed1 ⟨s, true, e⟩ 10 = ⟨s, false, e⟩ := rfl
        rw [this, (feed_nl r s e).1]; rfl
      · rw [plain true (by rw [beqF h10]; rfl)]
        show _ = s ++ (crlf (cond (k == 10) r (k :: r))).map fx
        rw [beqF h10]; rfl
open Builtin.Str in
theorem at_two {x : Str} {i : Nat} : StrLaws.At x ⟨#[13, 10]⟩ x.length i ↔ (x.cps.toList.drop i).take 2 = [13, 10] := by
  have el := lenL x
  unfold StrLaws.At
  have e : subAt x ⟨#[13, 10]⟩ i = ((x.cps.toList.drop i).take 2 == [13, 10]) := by
    rw [StrLaws.subAt_eq]; rfl
  rw [e, beq_iff_eq]
  refine ⟨fun h => h.2, fun h => ⟨?_, h⟩⟩
  have := congrArg List.length h
  rw [List.length_take, List.length_drop] at this
  show i + 2 ≤ x.length
  simp only [List.length_cons, List.length_nil] at this
  lia
theorem crlf_skip {l : List Nat} : ∀ (n a : Nat), a + n ≤ l.length → (∀ k, a ≤ k → k < a + n → (l.drop k).take 2 ≠ [13, 10]) → crlf (l.drop a) = (l.drop a).take n ++ crlf (l.drop (a + n))
  | 0, a, _, _ => rfl
  | n + 1, a, h, hk => by
    have ha : a < l.length := by lia
    rw [drop_cons ha, List.take_succ_cons, crlf_cons (r := l.drop (a + 1)) fun e q => ?_, crlf_skip n (a + 1) (by lia) fun k h1 h2 => hk k (by lia) (by lia), show a + 1 + n = a + (n + 1) by lia]
    · rfl
    · refine hk a (Nat.le_refl _) (by lia) ?_
      rw [drop_cons ha, e, List.take_succ_cons]
      cases hd : l.drop (a + 1) with
      | nil => rw [hd] at q; cases q
      | cons d r => rw [hd] at q; cases q; rfl
theorem crlf_two {l : List Nat} {c : Nat} (h : (l.drop c).take 2 = [13, 10]) : crlf (l.drop c) = 10 :: crlf (l.drop (c + 2)) := by
  cases hd : l.drop c with
  | nil => rw [hd] at h; cases h
  | cons a r =>
    induction r with
    | nil => rw [hd] at h; cases h
    | cons b r =>
      rw [hd] at h; cases h
      have : l.drop (c + 2) = r := by rw [← List.drop_drop, hd]; rfl
      rw [this]; rfl
open Builtin.Str in
theorem join_crlf {x : Str} : ∀ (cuts : List Nat) (a f : Nat), StrLaws.ChainG x ⟨#[13, 10]⟩ x.length a cuts f → (∀ k, f ≤ k → ¬ StrLaws.At x ⟨#[13, 10]⟩ x.length k) → a ≤ x.length → (Str.join (one 10) (StrLaws.partsFrom x 2 a cuts)).cps.toList = crlf (x.cps.toList.drop a)
  | [], a, f, h, hf, ha => by
    have h : f = a := h
    subst h
    have el := lenL x
    show (strSub x f x.length).cps.toList = _
    rw [StrLaws.strSub_toList, crlf_skip (x.length - f) f (by lia) (fun k h1 Z q => hf k h1 (at_two.mpr q)), List.drop_eq_nil_of_le (show x.cps.toList.length ≤ f + (x.length - f) by lia)]
    show _ = _ ++ []
    rw [List.append_nil]
  | c :: r, a, f, h, hf, ha => by
    obtain ⟨h1, h2, h3, h4⟩ := h
    have el := lenL x
    have hc : c + 2 ≤ x.length := h2.1
    have ih := join_crlf r (c + 2) f h4 hf hc
    obtain ⟨p, q, hp⟩ := StrLaws.partsFrom_ne x 2 (c + 2) r
    show (Str.join (one 10) (strSub x a c :: StrLaws.partsFrom x 2 (c + 2) r)).cps.toList = _
    rw [hp] at ih ⊢
    show ((strSub x a c).cps ++ (one 10).cps ++ (Str.join (one 10) (p :: q)).cps).toList = _
    rw [Array.toList_append, Array.toList_append, ih, StrLaws.strSub_toList, crlf_skip (c - a) a (by lia) (fun k g1 g2 q => h3 k g1 (by lia) (at_two.mpr q)), show a + (c - a) = c by lia, crlf_two (at_two.mp h2), List.append_assoc]
    rfl
set_option tactic.hygienic true in
theorem nl_two (x : Str) : (Txt.replace x (Str.ofString "\x0d\n") (Str.ofString "\n")).cps.toList = crlf x.cps.toList := by
  have e1 : Str.ofString "\x0d\n" = ⟨#[13, 10]⟩ := by decide +kernel
  have e2 : Str.ofString "\n" = one 10 := by decide +kernel
  rw [e1, e2]
  obtain ⟨f, h, hf⟩ := StrLaws.occ_tight x ⟨#[13, 10]⟩ (by decide)
  have J := join_crlf _ 0 f h hf (Nat.zero_le _)
  rw [List.drop_zero] at J
  unfold Txt.replace
  split
  · rename_i hc
    have hc : (Builtin.Str.occurrences x ⟨#[13, 10]⟩ 0 x.length (x.length + 1)).isEmpty = true := by
      rcases Bool.or_eq_true_iff.mp hc with h | h
      · exact h
      · cases h
    have hc := List.isEmpty_iff.mp hc
    rw [hc] at J
    rw [← J]
    show x.cps.toList = (Builtin.Str.strSub x 0 x.length).cps.toList
    rw [StrLaws.strSub_toList, List.drop_zero]
    have el := lenL x
    rw [List.take_of_length_le (by lia)]
  · rw [StrLaws.glued_eq_join, StrLaws.partsBetween_eq]
    exact J
theorem nl_is (x : Str) : (nlT x).cps.toList = (feedL ⟨[], false, []⟩ x.cps.toList).signs := by
  have e2 : Str.ofString "\n" = one 10 := by decide +kernel
  have e3 : Str.ofString "\x0d" = one 13 := by decide +kernel
  rw [(feed_nl x.cps.toList [] []).1, List.nil_append]
  unfold nlT
  rw [e3]
  conv => lhs; rw [e2]
  rw [replace_map]
  show (Txt.replace x _ (one 10)).cps.toList.map _ = _
  rw [← e2, nl_two]
  rfl
end Mine
end
section
open PySem PySem.W PyProof.Rows PySem.Calls
set_option maxRecDepth 100000
set_option maxHeartbeats 8000000
namespace Mine
/-! one DOCTYPE, written: the words -/
theorem po_le {prog : Program} {w : World} {K : Frag} {Γ : GE} {a n k : Nat} {sp : List LV → Hp → KV → Prop} (h : POne prog w K Γ a sp n) (hn : n ≤ k) : POne prog w K Γ a sp k := fun G hr => h G (hr.le hn)
noncomputable def P17 : Pm := fun f => cond (Nat.beq f 580) (some spDraw) (cond (Nat.beq f 587) (some spBlanks) (cond (Nat.beq f 594) (some spRaised) (cond (Nat.beq f 601) (some spOne) (cond (Nat.beq f 608) (some spIdent) none))))
theorem p17_ok {prog : Program} {w : World} {Γ : GE} : PmOk prog w (KF w) Γ P17 42 :=
  pm_cons (po_le draw_ok (by decide)) (pm_cons blanks_ok (pm_cons (po_le raised_ok (by decide)) (pm_cons (po_le one_ok (by decide)) (pm_cons ident_ok pm_nil))))
theorem cn_doc {w : World} : (cellsFrom 0 (scopeOf (KF w) 613).names []).map (·.1) = [S "k", S "digits"] := by kernel_rfl
noncomputable def DGs (d : Nat → Int) : List Dat := [.int (d 0), .int (d 1), .int (d 2), .int (d 3), .int (d 4), .int (d 5), .int (d 6)]
noncomputable def BKs (b : Nat → Str) : List Dat := [.str (b 0), .str (b 1), .str (b 2), .str (b 3), .str (b 4)]
noncomputable def HC0 (A0 A1 A2 : AO) (k : Int) (d : Nat → Int) : Hp := [A0, A1, A2, .cell (some (.d (.int k))), .cell (some (.d (.list (DGs d))))]
noncomputable def HC (A0 A1 A2 : AO) (k : Int) (d : Nat → Int) (b : Nat → Str) : Hp := [A0, A1, A2, .cell (some (.d (.int k))), .cell (some (.d (.list (DGs d)))), .list (BKs b)]
noncomputable def LC0 : Mine.Loc := [(S "k", .obj 3), (S "digits", .obj 4)]
noncomputable def LC2 (qs fm : Int) : Mine.Loc := (S "quotes", .d (.int qs)) :: (S "form", .d (.int fm)) :: LC0
noncomputable def LC3 (qs fm : Int) : Mine.Loc := (S "blanks", .obj 5) :: LC2 qs fm
noncomputable def LC5 (rs : Int) (nm : Str) (qs fm : Int) : Mine.Loc := (S "raised", .d (.int rs)) :: (S "name", .d (.str nm)) :: LC3 qs fm
noncomputable def LC8 (sy pb : Dat) (wr : Str) (rs : Int) (nm : Str) (qs fm : Int) : Mine.Loc := (S "system", .d sy) :: (S "public", .d pb) :: (S "written", .d (.str wr)) :: LC5 rs nm qs fm
noncomputable def NMS : Str := Str.ofString "htmlazé\x40[\u212a\"'/<"
noncomputable def qch (i : Int) : Nat := List.getD (Array.toList (Str.cps (Str.ofString "\"'"))) (Int.toNat i) 0
section
variable {w : World} {A0 A1 A2 : AO} {d : Nat → Int} {b : Nat → Str} {k qs fm rs : Int} {wr nm px : Str} {pb sy : Dat} {P : Fl → Mine.Loc → Hp → Prop} {Q : KV}
theorem v_dt1 : (EV w P17 30).s (scopeOf (KF w) 613) ((bodyOf (KF w) 613).take 2) LC0 (HC0 A0 A1 A2 k d) P = P .next (LC2 (Int.fdiv (d 0) 4 + k) (Int.fmod (d 0 + 3 + k) 4)) (HC0 A0 A1 A2 k d) := by kernel_rfl
theorem v_dte0 : (EV w P17 30).e (rlS (acS (nth (bodyOf (KF w) 613) 2)) (scopeOf (KF w) 613)) (acL (nth (bodyOf (KF w) 613) 2)) [(S "j", .d (.int 0)), (S "k", .d (.int k)), (S "digits", .d (.list (DGs d)))] [] Q = blanksB 1 fun y => Q (.d (.str y)) [] := by kernel_rfl
theorem v_dte1 : (EV w P17 30).e (rlS (acS (nth (bodyOf (KF w) 613) 2)) (scopeOf (KF w) 613)) (acL (nth (bodyOf (KF w) 613) 2)) [(S "j", .d (.int 1)), (S "k", .d (.int k)), (S "digits", .d (.list (DGs d)))] [] Q = blanksB 1 fun y => Q (.d (.str y)) [] := by kernel_rfl
theorem v_dte2 : (EV w P17 30).e (rlS (acS (nth (bodyOf (KF w) 613) 2)) (scopeOf (KF w) 613)) (acL (nth (bodyOf (KF w) 613) 2)) [(S "j", .d (.int 2)), (S "k", .d (.int k)), (S "digits", .d (.list (DGs d)))] [] Q = blanksB 1 fun y => Q (.d (.str y)) [] := by kernel_rfl
theorem v_dte3 : (EV w P17 30).e (rlS (acS (nth (bodyOf (KF w) 613) 2)) (scopeOf (KF w) 613)) (acL (nth (bodyOf (KF w) 613) 2)) [(S "j", .d (.int 3)), (S "k", .d (.int k)), (S "digits", .d (.list (DGs d)))] [] Q = blanksB 1 fun y => Q (.d (.str y)) [] := by kernel_rfl
theorem v_dte4 : (EV w P17 30).e (rlS (acS (nth (bodyOf (KF w) 613) 2)) (scopeOf (KF w) 613)) (acL (nth (bodyOf (KF w) 613) 2)) [(S "j", .d (.int 4)), (S "k", .d (.int k)), (S "digits", .d (.list (DGs d)))] [] Q = blanksB 0 fun y => Q (.d (.str y)) [] := by kernel_rfl
theorem v_dtr {l : Mine.Loc} {H : Hp} : (EV w P17 30).e (scopeOf (KF w) 613) (acE (nth (bodyOf (KF w) 613) 2)) l H Q = Q (.d (.int 5)) H := by kernel_rfl
theorem v_dt3 : (EV w P17 30).s (scopeOf (KF w) 613) (((bodyOf (KF w) 613).drop 3).take 2) (LC3 qs fm) (HC A0 A1 A2 k d b) P = drawB (d 2 + 4321 + 777 * k) NMS 1 4 fun y => P .next (LC5 (d 3 + 10 + k) y qs fm) (HC A0 A1 A2 k d b) := by kernel_rfl
theorem v_dt5 : (EV w P17 30).s (scopeOf (KF w) 613) (((bodyOf (KF w) 613).drop 5).take 3) (LC5 rs nm qs fm) (HC A0 A1 A2 k d b) P = raisedB nm fun y => gd ((b 0).length + y.length) (P .next (LC8 .none .none (b 0 ++ y) rs nm qs fm) (HC A0 A1 A2 k d b)) := by kernel_rfl
theorem v_dt8 : (EV w P17 30).s (scopeOf (KF w) 613) (((bodyOf (KF w) 613).drop 8).take 1) (LC8 sy pb wr rs nm qs fm) (HC A0 A1 A2 k d b) P =
  cond (decide (1 < fm)) ((0 ≤ Int.fmod qs 2 ∧ Int.fmod qs 2 < 2 ∧ 2 ≤ szLine) ∧ (qch (Int.fmod qs 2) = 39 ∨ qch (Int.fmod qs 2) = 34) ∧ ∀ y : Str, Ident (qch (Int.fmod qs 2)) y → gd (wr.length + (b 1).length) (raisedB (S "public") fun z =>
    gd ((wr ++ b 1).length + z.length) (gd ((wr ++ b 1 ++ z).length + (b 2).length) (gd ((wr ++ b 1 ++ z ++ b 2).length + (one (qch (Int.fmod qs 2))).length) (gd ((wr ++ b 1 ++ z ++ b 2 ++ one (qch (Int.fmod qs 2))).length + y.length) (gd ((wr ++ b 1 ++ z ++ b 2 ++ one (qch (Int.fmod qs 2)) ++ y).length + (one (qch (Int.fmod qs 2))).length)
      (P .next ((S "written", .d (.str (wr ++ b 1 ++ z ++ b 2 ++ one (qch (Int.fmod qs 2)) ++ y ++ one (qch (Int.fmod qs 2))))) :: (S "written", .d (.str (wr ++ b 1 ++ z))) :: (S "public", .d (.str y)) :: (S "quote", .d (.str (one (qch (Int.fmod qs 2))))) :: LC8 sy pb wr rs nm qs fm) (HC A0 A1 A2 k d b))))))))
    (P .next (LC8 sy pb wr rs nm qs fm) (HC A0 A1 A2 k d b)) := by kernel_rfl
theorem v_dt9 : (EV w P17 30).s (scopeOf (KF w) 613) (((bodyOf (KF w) 613).drop 9).take 1) (LC8 sy pb wr rs nm qs fm) (HC A0 A1 A2 k d b) P =
  cond (fm == 1) (gd (wr.length + (b 1).length) (raisedB (S "system") fun z => gd ((wr ++ b 1).length + z.length) (P .next ((S "written", .d (.str (wr ++ b 1 ++ z))) :: LC8 sy pb wr rs nm qs fm) (HC A0 A1 A2 k d b))))
    (P .next (LC8 sy pb wr rs nm qs fm) (HC A0 A1 A2 k d b)) := by kernel_rfl
theorem v_dt10 : (EV w P17 30).s (scopeOf (KF w) 613) (((bodyOf (KF w) 613).drop 10).take 1) (LC8 sy pb wr rs nm qs fm) (HC A0 A1 A2 k d b) P =
  cond (Int.fmod fm 2 == 1) ((0 ≤ Int.fmod (Int.fdiv qs 2) 2 ∧ Int.fmod (Int.fdiv qs 2) 2 < 2 ∧ 2 ≤ szLine) ∧ (qch (Int.fmod (Int.fdiv qs 2) 2) = 39 ∨ qch (Int.fmod (Int.fdiv qs 2) 2) = 34) ∧ ∀ y : Str, Ident (qch (Int.fmod (Int.fdiv qs 2) 2)) y → gd (wr.length + (b 3).length) (gd ((wr ++ b 3).length + (one (qch (Int.fmod (Int.fdiv qs 2) 2))).length)
    (gd ((wr ++ b 3 ++ one (qch (Int.fmod (Int.fdiv qs 2) 2))).length + y.length) (gd ((wr ++ b 3 ++ one (qch (Int.fmod (Int.fdiv qs 2) 2)) ++ y).length + (one (qch (Int.fmod (Int.fdiv qs 2) 2))).length)
      (P .next ((S "written", .d (.str (wr ++ b 3 ++ one (qch (Int.fmod (Int.fdiv qs 2) 2)) ++ y ++ one (qch (Int.fmod (Int.fdiv qs 2) 2))))) :: (S "system", .d (.str y)) :: (S "quote", .d (.str (one (qch (Int.fmod (Int.fdiv qs 2) 2))))) :: LC8 sy pb wr rs nm qs fm) (HC A0 A1 A2 k d b))))))
    (P .next (LC8 sy pb wr rs nm qs fm) (HC A0 A1 A2 k d b)) := by kernel_rfl
theorem v_dt11n : (EV w P17 30).s (scopeOf (KF w) 613) (((bodyOf (KF w) 613).drop 11).take 1) (LC8 sy .none wr rs nm qs fm) (HC A0 A1 A2 k d b) P = P .next (LC8 sy .none wr rs nm qs fm) (HC A0 A1 A2 k d b) := by kernel_rfl
theorem v_dt11s : (EV w P17 30).s (scopeOf (KF w) 613) (((bodyOf (KF w) 613).drop 11).take 1) (LC8 sy (.str px) wr rs nm qs fm) (HC A0 A1 A2 k d b) P = oneB px fun y => P .next ((S "public", .d (.str y)) :: LC8 sy (.str px) wr rs nm qs fm) (HC A0 A1 A2 k d b) := by kernel_rfl
theorem v_dt12n : (EV w P17 30).s (scopeOf (KF w) 613) (((bodyOf (KF w) 613).drop 12).take 1) (LC8 .none pb wr rs nm qs fm) (HC A0 A1 A2 k d b) P = P .next (LC8 .none pb wr rs nm qs fm) (HC A0 A1 A2 k d b) := by kernel_rfl
theorem v_dt12s : (EV w P17 30).s (scopeOf (KF w) 613) (((bodyOf (KF w) 613).drop 12).take 1) (LC8 (.str px) pb wr rs nm qs fm) (HC A0 A1 A2 k d b) P = oneB px fun y => P .next ((S "system", .d (.str y)) :: LC8 (.str px) pb wr rs nm qs fm) (HC A0 A1 A2 k d b) := by kernel_rfl
theorem v_dt13 : (EV w P17 30).s (scopeOf (KF w) 613) ((bodyOf (KF w) 613).drop 13) (LC8 sy pb wr rs nm qs fm) (HC A0 A1 A2 k d b) P =
  gd (wr.length + (b 4).length) (gd ((wr ++ b 4).length + (S ">").length) (P (.ret (.d (.tuple [.str (wr ++ b 4 ++ S ">"), .tuple [.str (S "doctype"), .str nm, pb, sy, .bool false]]))) (LC8 sy pb wr rs nm qs fm) (HC A0 A1 A2 k d b))) := by kernel_rfl
end
end Mine
end
section
open PySem PySem.W PyProof.Rows PySem.Calls
set_option maxRecDepth 100000
set_option maxHeartbeats 8000000
namespace Mine
/-! one DOCTYPE, written: what it is -/
section
variable {prog : Program} {w : World} {K : Frag} {Γ : GE} {T : Tabs} {c : FC K Γ} {m : Str → Option Value} {adr : List Addr} {rest news : Led} {H : Hp} {s : Shared} {E : Value → Shared → Prop} {l : Loc}
theorem seg {Pr : Pm} {D k : Nat} (TO : T.Ok K) (PO : PmOk prog w K Γ Pr D) (G : FG c) (hr : Room c.A (k + D)) {pre rest₀ : List Stmt} (S : AtS prog w c m adr rest news H s) (hl : LocOk c.cl adr rest l m) (J : Loc → Hp → Prop) {P : Fl → Loc → Hp → Prop} {Q : Flow → Shared → Prop}
    (h : (Ev.run K T Pr k).s c.cs pre l H (fun fl l' H' => fl = .next ∧ ∃ l0, Keeps l0 l' ∧ J l0 H'))
    (cont : ∀ {l0 m1 adr1 rest1 news1 H1 s1}, J l0 H1 → AtS prog w c m1 adr1 rest1 news1 H1 s1 → LocOk c.cl adr1 rest1 l0 m1 → RetS prog w c adr1 rest1 s1 P Q → wpAny (model prog w) c.A (execs rest₀ c.env) Q E s1)
    (r : RetS prog w c adr rest s P Q) : wpAny (model prog w) c.A (execs (pre ++ rest₀) c.env) Q E s := by
  refine pre_ok TO PO G k hr S hl h ?_
  rintro fl f l1 m1 adr1 rest1 news1 H1 h1 tk1 e1 e2 S1 L1 hmf ⟨rfl, l0, hk, hj⟩
  cases hmf
  exact cont hj S1 (L1.keeps hk) (r.then e1 e2)
end
noncomputable def keeps_refl (l : Loc) : Keeps l l := fun Z Z e => e
/-- blanks, lo at least -/
noncomputable def BLC : List Nat := [9, 10, 12, 13, 32]
noncomputable def Bl (lo : Nat) (y : Str) : Prop := lo ≤ y.cps.toList.length ∧ y.cps.toList.length ≤ 4 ∧ ∀ k ∈ y.cps.toList, k ∈ BLC
theorem drawn_bls {lo hi : Nat} {y : Str} (h : Drawn BLS lo hi y) (hh : hi ≤ 2) : Bl lo y := by
  obtain ⟨ps, h1, h2, h3, rfl⟩ := h
  have h4 : ∀ q ∈ BLS, 1 ≤ q.cps.toList.length ∧ q.cps.toList.length ≤ 2 ∧ ∀ k ∈ q.cps.toList, k ∈ BLC := by decide +kernel
  have key : ∀ qs : List Str, (∀ p ∈ qs, p ∈ BLS) → qs.length ≤ (qs.flatMap fun x => x.cps.toList).length ∧ (qs.flatMap fun x => x.cps.toList).length ≤ 2 * qs.length ∧ ∀ k ∈ qs.flatMap fun x => x.cps.toList, k ∈ BLC := by
    intro qs
    induction qs with
    | nil => exact fun Z => ⟨Nat.le_refl _, Nat.le_refl _, fun k hk => by cases hk⟩
    | cons q qs ih =>
      intro hq
      obtain ⟨i1, i2, i3⟩ := ih fun p hp => hq p (.tail _ hp)
      obtain ⟨j1, j2, j3⟩ := h4 q (hq q (.head _))
      rw [List.flatMap_cons, List.length_append, List.length_cons]
      refine ⟨by omega, by omega, fun k hk => ?_⟩
      rcases List.mem_append.mp hk with hk | hk
      · exact j3 k hk
      · exact i3 k hk
  obtain ⟨i1, i2, i3⟩ := key ps h3
  rw [join_mk]
  exact ⟨Nat.le_trans h1 i1, by show (ps.flatMap fun x => x.cps.toList).length ≤ 4; omega, i3⟩
noncomputable abbrev cl (x : Str) : List Nat := x.cps.toList
noncomputable def PubT (t : List Nat) (x : Str) : Prop := ∃ (b1 kw b2 : Str) (q : Nat), Bl 1 b1 ∧ Raised (S "public") kw ∧ Bl 1 b2 ∧ (q = 39 ∨ q = 34) ∧ Ident q x ∧ t = cl b1 ++ cl kw ++ cl b2 ++ [q] ++ cl x ++ [q]
noncomputable def SysT (t : List Nat) (x : Str) : Prop := ∃ (b3 : Str) (q : Nat), Bl 1 b3 ∧ (q = 39 ∨ q = 34) ∧ Ident q x ∧ t = cl b3 ++ [q] ++ cl x ++ [q]
noncomputable def KwT (t : List Nat) : Prop := ∃ (b1 kw : Str), Bl 1 b1 ∧ Raised (S "system") kw ∧ t = cl b1 ++ cl kw
noncomputable def T1 (fm : Int) (t : List Nat) (d : Dat) : Prop := (¬ 1 < fm ∧ t = [] ∧ d = .none) ∨ (1 < fm ∧ ∃ x, PubT t x ∧ d = .str x)
noncomputable def T2 (fm : Int) (t : List Nat) : Prop := (fm ≠ 1 ∧ t = []) ∨ (fm = 1 ∧ KwT t)
noncomputable def T3 (fm : Int) (t : List Nat) (d : Dat) : Prop := (Int.fmod fm 2 ≠ 1 ∧ t = [] ∧ d = .none) ∨ (Int.fmod fm 2 = 1 ∧ ∃ x, SysT t x ∧ d = .str x)
noncomputable def nlD : Dat → Dat
  | .str x => .str (nlT x)
  | d => d
noncomputable def NmOf (nm : Str) : Prop := 1 ≤ (cl nm).length ∧ (cl nm).length ≤ 4 ∧ ∀ k ∈ cl nm, k ∈ cl NMS
/-- a DOCTYPE as the law writes it, and its token -/
noncomputable def DocW (wr : Str) (tok : Dat) : Prop := ∃ (fm : Int) (b0 nm rn b4 : Str) (t1 t2 t3 : List Nat) (pb sy : Dat), 0 ≤ fm ∧ fm < 4 ∧ Bl 1 b0 ∧ NmOf nm ∧ Raised nm rn ∧ Bl 0 b4 ∧ T1 fm t1 pb ∧ T2 fm t2 ∧ T3 fm t3 sy ∧
  cl wr = cl b0 ++ cl rn ++ t1 ++ t2 ++ t3 ++ cl b4 ++ [62] ∧ wr.length ≤ 100 ∧ tok = .tuple [.str (S "doctype"), .str nm, nlD pb, nlD sy, .bool false]
theorem catL (a b : Str) : cl (a ++ b) = cl a ++ cl b := Array.toList_append ..
theorem lenA (a b : Str) : (a ++ b).length = a.length + b.length := Array.size_append ..
theorem qch_is {i : Int} (h0 : 0 ≤ i) (h1 : i < 2) : qch i = 39 ∨ qch i = 34 := by
  have : i = 0 ∨ i = 1 := by omega
  rcases this with rfl | rfl
  · exact .inr (by decide +kernel)
  · exact .inl (by decide +kernel)
theorem raised_len {x y : Str} (h : Raised x y) : y.length = x.length := by
  have := h.length
  rw [lenL, lenL] at this
  exact this.symm
theorem bl_len {lo : Nat} {y : Str} (h : Bl lo y) : y.length ≤ 4 := by have := h.2.1; rw [lenL] at this; exact this
theorem id_len {q : Nat} {y : Str} (h : Ident q y) : y.length ≤ 5 := by have := h.1; rw [lenL] at this; exact this
theorem one_b {x : Str} {k : Str → Prop} (hx : x.length ≤ 1000) (h : k (nlT x)) : oneB x k := by
  have h1 := congrArg List.length (nl_two x)
  have h2 := crlf_le x.cps.toList
  rw [lenL] at h1 h2
  exact ⟨⟨by omega, by omega⟩, h⟩
noncomputable abbrev DT (w : World) : List Stmt := bodyOf (KF w) 613
section
variable {prog : Program} {w : World} {Γ : GE} {c : FC (KF w) Γ} {m : Str → Option Value} {rest news : Led} {s : Shared} {vs : List Value} {R : Result → Shared → Prop}
theorem doc0 {d : Nat → Int} {k : Int} {A0 A1 A2 : AO} {adr : List Addr} (G : FG c) (hr : Room c.A 74) (S0 : AtS prog w c m adr rest news [A0, A1, A2] s) (hm : MtL adr rest [.d (.list (DGs d)), .d (.int k)] vs)
    (r : Ret prog w Mt c m adr rest s (fun v H1 => H1 = [A0, A1, A2] ∧ ∃ wr tok, v = .d (.tuple [.str wr, tok]) ∧ DocW wr tok) (fun v s' => R (.ok (.ret v)) s')) : codeAny (model prog w) c.A (.call (.ref 613) ⟨vs, []⟩) R s := by
  have big : szLine = 16777216 := rfl
  refine enterC (n := 73) (f := 613) (names := [S "digits", S "k"]) (fnOkC_of (by kernel_rfl)) (by decide +kernel) G hr S0 hm rfl (P := fun v H1 => (∃ X, H1 = [A0, A1, A2] ++ X) ∧ ∃ wr tok, v = .d (.tuple [.str wr, tok]) ∧ DocW wr tok) ?_ ?_
  · refine Ret.imp (Ret.cutH S0 r) ?_
    rintro v H1 ⟨⟨X, e⟩, wr, tok, e2, hD⟩
    exact ⟨⟨_, e2⟩, ⟨X, e⟩, rfl, wr, tok, e2, hD⟩
  · intro c' m' adr' news' s' E' Q' cn ecn ec ecl hE G' hr' hpre S' hl' r'
    have ecn' : cn = [S "k", S "digits"] := ecn.trans cn_doc
    subst ecn'
    have ecl' : c'.cl = [(S "k", c'.L + 2), (S "digits", c'.L + 1)] := ecl.trans (by kernel_rfl)
    have hbody : DT w = (DT w).take 2 ++ (nth (DT w) 2 :: (((DT w).drop 3).take 2 ++ (((DT w).drop 5).take 3 ++ (((DT w).drop 8).take 1 ++ (((DT w).drop 9).take 1 ++ (((DT w).drop 10).take 1 ++ (((DT w).drop 11).take 1 ++ (((DT w).drop 12).take 1 ++ (DT w).drop 13)))))))) := by kernel_rfl
    have hcell : (([S "k", S "digits"] : List Str).map fun q => AO.cell (some (((([S "digits", S "k"] : List Str).zip [LV.d (.list (DGs d)), LV.d (.int k)]).lookup q).getD (.d .none)))) = [.cell (some (.d (.int k))), .cell (some (.d (.list (DGs d))))] := by kernel_rfl
    rw [hcell] at S'
    replace S' : AtS prog w c' m' adr' rest news' (HC0 A0 A1 A2 k d) s' := S'
    have hl0 : LocOk c'.cl adr' rest LC0 m' := hl'
    have IH := run_sound (prog := prog) (Γ := Γ) (tt_ok w) (p17_ok (w := w)) 30
    show wpAny (model prog w) c'.A (execs (DT w) c'.env) Q' E' s'
    rw [hbody]
    refine seg (k := 30) (tt_ok w) p17_ok G' (hr'.le (by decide)) S' hl0 (fun l0 H1 => ∃ qs fm : Int, 0 ≤ fm ∧ fm < 4 ∧ l0 = LC2 qs fm ∧ H1 = HC0 A0 A1 A2 k d) ?_ ?_ r'
    · rw [ec]
      obtain ⟨f1, f2⟩ := fmod_lt (dg := d 0 + 3 + k) (n := 4) (by decide)
      exact Eq.mpr v_dt1 ⟨rfl, _, keeps_refl _, _, _, f1, f2, rfl, rfl⟩
    rintro l1 m1 adr1 rest1 news1 H1 s1 ⟨qs, fm, hf0, hf4, rfl, rfl⟩ S1 L1 r1
    have hacY : acY (nth (DT w) 2) = S "blanks" := by kernel_rfl
    have hacX : acX (nth (DT w) 2) = S "j" := by kernel_rfl
    refine wpAny_execs_cons ?_
    refine asg_comp_r IH G' (hr'.le (by decide)) (st := nth (DT w) 2) (by rw [ec]; kernel_rfl) (cl' := [(S "k", c'.L + 2), (S "digits", c'.L + 1)]) (N := 5) (lf := [(S "k", .d (.int k)), (S "digits", .d (.list (DGs d)))]) (Pr := fun i x => ∃ y : Str, x = .str y ∧ Bl (cond (Nat.blt i 4) 1 0) y) (by kernel_rfl) S1 L1 ?_ (by kernel_rfl)
      (P := fun fl l' H' => fl = .next ∧ ∃ b : Nat → Str, (∀ i, i < 4 → Bl 1 (b i)) ∧ Bl 0 (b 4) ∧ l' = LC3 qs fm ∧ H' = HC A0 A1 A2 k d b) ?_ ?_ ?_
    · show closureFor _ (envX c'.cn c'.cs c'.L c'.a c'.ccd c'.cl) = _
      rw [ecl', ec]
      kernel_rfl
    · rw [ec]
      refine Eq.mpr v_dtr ⟨rfl, by decide, fun ds hlen hpr => ?_, ?_⟩
      · rw [hacY]
        obtain ⟨y0, e0, g0⟩ := hpr 0 (ds[0]'(by omega)) (List.getElem?_eq_getElem _)
        obtain ⟨y1, e1, g1⟩ := hpr 1 (ds[1]'(by omega)) (List.getElem?_eq_getElem _)
        obtain ⟨y2, e2, g2⟩ := hpr 2 (ds[2]'(by omega)) (List.getElem?_eq_getElem _)
        obtain ⟨y3, e3, g3⟩ := hpr 3 (ds[3]'(by omega)) (List.getElem?_eq_getElem _)
        obtain ⟨y4, e4, g4⟩ := hpr 4 (ds[4]'(by omega)) (List.getElem?_eq_getElem _)
        have eds : ds = BKs fun i => match i with | 0 => y0 | 1 => y1 | 2 => y2 | 3 => y3 | _ => y4 := by
          match ds, hlen, e0, e1, e2, e3, e4 with
          | [a0, a1, a2, a3, a4], _, e0, e1, e2, e3, e4 =>
            cases e0; cases e1; cases e2; cases e3; cases e4; rfl
        refine ⟨rfl, (fun i => match i with | 0 => y0 | 1 => y1 | 2 => y2 | 3 => y3 | _ => y4), fun i hi => ?_, g4, rfl, by rw [eds]; rfl⟩
        match i, hi with
        | 0, _ => exact g0
        | 1, _ => exact g1
        | 2, _ => exact g2
        | 3, _ => exact g3
      · intro y v hy
        rw [List.lookup_cons] at hy
        refine bool_ft (b := y == S "k") (fun q => ?_) fun q => ?_
        · rw [q] at hy
          rw [List.lookup_cons] at hy
          refine bool_ft (b := y == S "digits") (fun q2 => ?_) fun q2 => ?_
          · rw [q2] at hy; cases hy
          · rw [q2] at hy; cases hy
            rw [beq_iff_eq.mp q2]
            exact ⟨4, c'.L + 1, rfl, by kernel_rfl, rfl, by kernel_rfl, by rw [ecl']; kernel_rfl⟩
        · rw [q] at hy; cases hy
          rw [beq_iff_eq.mp q]
          exact ⟨3, c'.L + 2, rfl, by kernel_rfl, rfl, by kernel_rfl, by rw [ecl']; kernel_rfl⟩
    · intro i hi
      rw [ec, hacX]
      have fin : ∀ (lo : Int) (n : Nat), lo = (n : Int) → n ≤ 1 → (cond (Nat.blt i 4) 1 0) = n → blanksB lo fun y => ∃ x, (LV.d (.str y)) = .d x ∧ flatD x = true ∧ ∃ z : Str, x = .str z ∧ Bl (cond (Nat.blt i 4) 1 0) z := fun lo n e hn1 hn => by
        subst e
        exact ⟨⟨by omega, by omega⟩, fun y hy => ⟨_, rfl, rfl, y, rfl, by rw [hn]; exact drawn_bls hy (by rw [Int.toNat_natCast]; omega)⟩⟩
      match i, hi with
      | 0, _ => exact Eq.mpr v_dte0 (fin 1 1 rfl (by decide) rfl)
      | 1, _ => exact Eq.mpr v_dte1 (fin 1 1 rfl (by decide) rfl)
      | 2, _ => exact Eq.mpr v_dte2 (fin 1 1 rfl (by decide) rfl)
      | 3, _ => exact Eq.mpr v_dte3 (fin 1 1 rfl (by decide) rfl)
      | 4, _ => exact Eq.mpr v_dte4 (fin 0 0 rfl (by decide) rfl)
    rintro fl f l2 m2 adr2 rest2 news2 H2 h2 tk2 q1 q2 S2 L2 hmf2 ⟨rfl, b, hb, hb4, rfl, rfl⟩
    cases hmf2
    have r2 := r1.then (h' := h2) (tk' := tk2) q1 q2
    have LB0 := bl_len (hb 0 (by decide))
    have LB1 := bl_len (hb 1 (by decide))
    have LB2 := bl_len (hb 2 (by decide))
    have LB3 := bl_len (hb 3 (by decide))
    have LB4 := bl_len hb4
    refine seg (k := 30) (tt_ok w) p17_ok G' (hr'.le (by decide)) S2 L2 (fun l0 H1 => ∃ (rs : Int) (nm : Str), NmOf nm ∧ l0 = LC5 rs nm qs fm ∧ H1 = HC A0 A1 A2 k d b) ?_ ?_ r2
    · rw [ec]
      exact Eq.mpr v_dt3 ⟨⟨by decide +kernel, by decide +kernel, by decide, by decide, by decide⟩, fun y hy => ⟨rfl, _, keeps_refl _, _, y, drawn_chars hy, rfl, rfl⟩⟩
    rintro l3 m3 adr3 rest3 news3 H3 s3 ⟨rs, nm, hnm, rfl, rfl⟩ S3 L3 r3
    have lnm : nm.length ≤ 4 := by have := hnm.2.1; rw [lenL] at this; exact this
    refine seg (k := 30) (tt_ok w) p17_ok G' (hr'.le (by decide)) S3 L3 (fun l0 H1 => ∃ rn : Str, Raised nm rn ∧ l0 = LC8 .none .none (b 0 ++ rn) rs nm qs fm ∧ H1 = HC A0 A1 A2 k d b) ?_ ?_ r3
    · rw [ec]
      refine Eq.mpr v_dt5 ⟨by omega, fun y hy => ?_⟩
      have := raised_len hy
      exact gd_i (by omega) ⟨rfl, _, keeps_refl _, y, hy, rfl, rfl⟩
    rintro l4 m4 adr4 rest4 news4 H4 s4 ⟨rn, hrn, rfl, rfl⟩ S4 L4 r4
    have lrn := raised_len hrn
    refine seg (k := 30) (tt_ok w) p17_ok G' (hr'.le (by decide)) S4 L4 (fun l0 H1 => ∃ (wr : Str) (t1 : List Nat) (pb : Dat), T1 fm t1 pb ∧ (∀ x, pb = .str x → x.length ≤ 5) ∧ cl wr = cl (b 0) ++ cl rn ++ t1 ∧ wr.length ≤ 30 ∧ l0 = LC8 .none pb wr rs nm qs fm ∧ H1 = HC A0 A1 A2 k d b) ?_ ?_ r4
    · rw [ec]
      obtain ⟨f1, f2⟩ := fmod_lt (dg := qs) (n := 2) (by decide)
      have hq := qch_is f1 f2
      refine Eq.mpr v_dt8 (cond_i (fun h1 => ⟨⟨f1, f2, by decide⟩, hq, fun y hy => ?_⟩) fun h1 => ?_)
      · have h1 := of_decide_eq_true h1
        have ly := id_len hy
        generalize qch (Int.fmod qs 2) = q at hq hy
        refine gd_i (by rw [lenA]; omega) ⟨by decide +kernel, fun z hz => ?_⟩
        have lz : z.length = 6 := (raised_len hz).trans (by decide +kernel)
        have l1 : (one q).length = 1 := rfl
        refine gd_i (by simp only [lenA]; omega) (gd_i (by simp only [lenA]; omega) (gd_i (by simp only [lenA]; omega) (gd_i (by simp only [lenA]; omega) (gd_i (by simp only [lenA]; omega) ?_))))
        refine ⟨rfl, LC8 .none (.str y) (b 0 ++ rn ++ b 1 ++ z ++ b 2 ++ one q ++ y ++ one q) rs nm qs fm, ?_, _, cl (b 1) ++ cl z ++ cl (b 2) ++ [q] ++ cl y ++ [q], .str y, .inr ⟨h1, y, ⟨b 1, z, b 2, q, hb 1 (by decide), hz, hb 2 (by decide), hq, hy, rfl⟩, rfl⟩, fun x e => by cases e; exact ly, ?_, ?_, rfl, rfl⟩
        · exact keeps_cons (by kernel_rfl) (keeps_cons (by kernel_rfl) (keeps_cons (by kernel_rfl) (keeps_cons (by kernel_rfl) (keeps_cons (by kernel_rfl) (keeps_cons (by kernel_rfl) (keeps_cons (by kernel_rfl) (keeps_cons (by kernel_rfl) (keeps_cons (by kernel_rfl) (keeps_cons (by kernel_rfl) keeps_nil)))))))))
        · simp only [catL, List.append_assoc]
        · simp only [lenA]; omega
      · have h1 := of_decide_eq_false h1
        exact ⟨rfl, _, keeps_refl _, _, [], .none, .inl ⟨h1, rfl, rfl⟩, fun x e => (nomatch e), by rw [catL, List.append_nil], by rw [lenA]; omega, rfl, rfl⟩
    rintro l5 m5 adr5 rest5 news5 H5 s5 ⟨wr, t1, pb, hT1, hpb, hwr, lwr, rfl, rfl⟩ S5 L5 r5
    refine seg (k := 30) (tt_ok w) p17_ok G' (hr'.le (by decide)) S5 L5 (fun l0 H1 => ∃ (wr : Str) (t2 : List Nat), T2 fm t2 ∧ cl wr = cl (b 0) ++ cl rn ++ t1 ++ t2 ∧ wr.length ≤ 45 ∧ l0 = LC8 .none pb wr rs nm qs fm ∧ H1 = HC A0 A1 A2 k d b) ?_ ?_ r5
    · rw [ec]
      refine Eq.mpr v_dt9 (cond_i (fun h1 => gd_i (by omega) ⟨by decide +kernel, fun z hz => ?_⟩) fun h1 => ?_)
      · have lz : z.length = 6 := (raised_len hz).trans (by decide +kernel)
        refine gd_i (by rw [lenA]; omega) ⟨rfl, LC8 .none pb (wr ++ b 1 ++ z) rs nm qs fm, ?_, _, cl (b 1) ++ cl z, .inr ⟨beq_iff_eq.mp h1, b 1, z, hb 1 (by decide), hz, rfl⟩, ?_, ?_, rfl, rfl⟩
        · exact keeps_cons (by kernel_rfl) (keeps_cons (by kernel_rfl) (keeps_cons (by kernel_rfl) (keeps_cons (by kernel_rfl) (keeps_cons (by kernel_rfl) (keeps_cons (by kernel_rfl) (keeps_cons (by kernel_rfl) (keeps_cons (by kernel_rfl) (keeps_cons (by kernel_rfl) (keeps_cons (by kernel_rfl) keeps_nil)))))))))
        · simp only [catL, hwr, List.append_assoc]
        · simp only [lenA]; omega
      · exact ⟨rfl, _, keeps_refl _, wr, [], .inl ⟨beq_eq_false_iff_ne.mp h1, rfl⟩, by rw [List.append_nil]; exact hwr, by omega, rfl, rfl⟩
    rintro l6 m6 adr6 rest6 news6 H6 s6 ⟨wr, t2, hT2, hwr, lwr, rfl, rfl⟩ S6 L6 r6
    refine seg (k := 30) (tt_ok w) p17_ok G' (hr'.le (by decide)) S6 L6 (fun l0 H1 => ∃ (wr : Str) (t3 : List Nat) (sy : Dat), T3 fm t3 sy ∧ (∀ x, sy = .str x → x.length ≤ 5) ∧ cl wr = cl (b 0) ++ cl rn ++ t1 ++ t2 ++ t3 ∧ wr.length ≤ 60 ∧ l0 = LC8 sy pb wr rs nm qs fm ∧ H1 = HC A0 A1 A2 k d b) ?_ ?_ r6
    · rw [ec]
      obtain ⟨f1, f2⟩ := fmod_lt (dg := Int.fdiv qs 2) (n := 2) (by decide)
      have hq := qch_is f1 f2
      refine Eq.mpr v_dt10 (cond_i (fun h1 => ⟨⟨f1, f2, by decide⟩, hq, fun y hy => ?_⟩) fun h1 => ?_)
      · have ly := id_len hy
        generalize qch (Int.fmod (Int.fdiv qs 2) 2) = q at hq hy
        have l1 : (one q).length = 1 := rfl
        refine gd_i (by omega) (gd_i (by simp only [lenA]; omega) (gd_i (by simp only [lenA]; omega) (gd_i (by simp only [lenA]; omega) ?_)))
        refine ⟨rfl, LC8 (.str y) pb (wr ++ b 3 ++ one q ++ y ++ one q) rs nm qs fm, ?_, _, cl (b 3) ++ [q] ++ cl y ++ [q], .str y, .inr ⟨beq_iff_eq.mp h1, y, ⟨b 3, q, hb 3 (by decide), hq, hy, rfl⟩, rfl⟩, fun x e => by cases e; exact ly, ?_, ?_, rfl, rfl⟩
        · exact keeps_cons (by kernel_rfl) (keeps_cons (by kernel_rfl) (keeps_cons (by kernel_rfl) (keeps_cons (by kernel_rfl) (keeps_cons (by kernel_rfl) (keeps_cons (by kernel_rfl) (keeps_cons (by kernel_rfl) (keeps_cons (by kernel_rfl) (keeps_cons (by kernel_rfl) (keeps_cons (by kernel_rfl) keeps_nil)))))))))
        · simp only [catL, hwr, List.append_assoc]
        · simp only [lenA]; omega
      · exact ⟨rfl, _, keeps_refl _, wr, [], .none, .inl ⟨beq_eq_false_iff_ne.mp h1, rfl, rfl⟩, fun x e => (nomatch e), by rw [List.append_nil]; exact hwr, by omega, rfl, rfl⟩
    rintro l7 m7 adr7 rest7 news7 H7 s7 ⟨wr, t3, sy, hT3, hsy, hwr, lwr, rfl, rfl⟩ S7 L7 r7
    refine seg (k := 30) (tt_ok w) p17_ok G' (hr'.le (by decide)) S7 L7 (fun l0 H1 => l0 = LC8 sy (nlD pb) wr rs nm qs fm ∧ H1 = HC A0 A1 A2 k d b) ?_ ?_ r7
    · rw [ec]
      rcases hT1 with ⟨_, _, rfl⟩ | ⟨_, x, _, rfl⟩
      · exact Eq.mpr v_dt11n ⟨rfl, _, keeps_refl _, rfl, rfl⟩
      · have := hpb x rfl
        refine Eq.mpr v_dt11s (one_b (by omega) ⟨rfl, LC8 sy (.str (nlT x)) wr rs nm qs fm, ?_, rfl, rfl⟩)
        exact keeps_cons (by kernel_rfl) (keeps_cons (by kernel_rfl) (keeps_cons (by kernel_rfl) (keeps_cons (by kernel_rfl) (keeps_cons (by kernel_rfl) (keeps_cons (by kernel_rfl) (keeps_cons (by kernel_rfl) (keeps_cons (by kernel_rfl) (keeps_cons (by kernel_rfl) (keeps_cons (by kernel_rfl) keeps_nil)))))))))
    rintro l8 m8 adr8 rest8 news8 H8 s8 ⟨rfl, rfl⟩ S8 L8 r8
    refine seg (k := 30) (tt_ok w) p17_ok G' (hr'.le (by decide)) S8 L8 (fun l0 H1 => l0 = LC8 (nlD sy) (nlD pb) wr rs nm qs fm ∧ H1 = HC A0 A1 A2 k d b) ?_ ?_ r8
    · rw [ec]
      rcases hT3 with ⟨_, _, rfl⟩ | ⟨_, x, _, rfl⟩
      · exact Eq.mpr v_dt12n ⟨rfl, _, keeps_refl _, rfl, rfl⟩
      · have := hsy x rfl
        refine Eq.mpr v_dt12s (one_b (by omega) ⟨rfl, LC8 (.str (nlT x)) (nlD pb) wr rs nm qs fm, ?_, rfl, rfl⟩)
        exact keeps_cons (by kernel_rfl) (keeps_cons (by kernel_rfl) (keeps_cons (by kernel_rfl) (keeps_cons (by kernel_rfl) (keeps_cons (by kernel_rfl) (keeps_cons (by kernel_rfl) (keeps_cons (by kernel_rfl) (keeps_cons (by kernel_rfl) (keeps_cons (by kernel_rfl) (keeps_cons (by kernel_rfl) keeps_nil)))))))))
    rintro l9 m9 adr9 rest9 news9 H9 s9 ⟨rfl, rfl⟩ S9 L9 r9
    refine tail_ev (k := 30) (tt_ok w) p17_ok G' (hr'.le (by decide)) S9 L9 ?_ r9
    rw [ec]
    have l1 : (S ">").length = 1 := by decide +kernel
    refine Eq.mpr v_dt13 (gd_i (by omega) (gd_i (by rw [lenA]; omega) ⟨⟨_, rfl⟩, _, _, rfl, fm, b 0, nm, rn, b 4, t1, t2, t3, pb, sy, hf0, hf4, hb 0 (by decide), hnm, hrn, hb4, hT1, hT2, hT3, ?_, by simp only [lenA]; omega, rfl⟩))
    have e62 : cl (S ">") = [62] := by decide +kernel
    simp only [catL, hwr, e62, List.append_assoc]
end
end Mine
end
section
open PySem PySem.W PyProof.Rows PySem.Spec PySem.Calls
set_option maxRecDepth 100000
set_option maxHeartbeats 8000000
namespace Mine
section
variable {prog : Program} {w : World} {K : Frag} {Γ : GE}
variable {c : FC K Γ} {n : Nat} {m : Str → Option Value} {adr : List Addr} {rest news : Led} {H : Hp} {s : Shared}
noncomputable def FC.tk (c : FC K Γ) (k : Nat) : FC K Γ := { c with t0 := k }
end
/-! the script -/
structure Scr (w : World) (Y : Frag) (a : Addr) : Prop where
  ex : ∃ (o : Obj) (vs : List Value) (ns : List Int) (n : Nat), (KX w Y).lookup a = some o ∧ o.cls = .type "list" ∧ o.data = .seq vs.toArray n ∧ IntsAre vs ns ∧ vs.length ≤ 1000
theorem intsAre_get : ∀ {vs : List Value} {ns : List Int}, IntsAre vs ns → ∀ {i : Nat}, i < vs.length → ∃ x t, vs[i]? = some (.int x t)
  | _, _, .nil, i, h => by cases h
  | _, _, .cons x t r, 0, _ => ⟨x, t, rfl⟩
  | _, _, .cons x t r, i + 1, h => intsAre_get r (i := i) (by simpa using h)
noncomputable def pPl : Expr → Bool := pNm (Str.ofString "place")
noncomputable def pSc : Expr → Bool := pNm (Str.ofString "script")
noncomputable def digOk : List Stmt → Bool := l1 (sRet (pIfE (pCmp pPl .Lt (pCall (pNm (Str.ofString "len")) (l1 pSc))) (pSub pSc pPl) (pCon cInt)))
theorem digOk.inv {b : List Stmt} (h : digOk b = true) : ∃ q1 q2 q3 q4 q5 q6 q7 q8 q9 n k q10 q11 q12, b = [.Return (some (.IfExp (.Compare (.Name (Str.ofString "place") q1) [.Lt] [.Call (.Name (Str.ofString "len") q2) [.Name (Str.ofString "script") q3] [] q4] q5)
    (.Subscript (.Name (Str.ofString "script") q6) (.Name (Str.ofString "place") q7) q8) (.Constant (.int n) k q9) q10)) q11] ∧ q12 = 0 := by
  obtain ⟨st, rfl, h1⟩ := l1.inv h
  obtain ⟨e, q11, rfl, h2⟩ := sRet.inv h1
  obtain ⟨t, u, v, q10, rfl, h3, h4, h5⟩ := pIfE.inv h2
  obtain ⟨a, b, q5, rfl, h6, h7⟩ := pCmp.inv h3
  obtain ⟨q1, rfl⟩ := pNm.inv h6
  obtain ⟨f, as, q4, rfl, h8, h9⟩ := pCall.inv h7
  obtain ⟨q2, rfl⟩ := pNm.inv h8
  obtain ⟨g, rfl, h10⟩ := l1.inv h9
  obtain ⟨q3, rfl⟩ := pNm.inv h10
  obtain ⟨c, d, q8, rfl, h11, h12⟩ := pSub.inv h4
  obtain ⟨q6, rfl⟩ := pNm.inv h11
  obtain ⟨q7, rfl⟩ := pNm.inv h12
  obtain ⟨cc, k, q9, rfl, h13⟩ := pCon.inv h5
  obtain ⟨n, rfl⟩ := cInt.inv h13
  exact ⟨q1, q2, q3, q4, q5, q6, q7, q8, q9, n, k, q10, q11, 0, rfl, rfl⟩
noncomputable def digB (a b : Addr) (j : Int) (H : Hp) (P : KV) : Prop := (b = a ∧ 0 ≤ j) ∧ ∀ d : Int, P (.d (.int d)) H
noncomputable def spDigit (a : Addr) (lvs : List LV) (H : Hp) (P : KV) : Prop := uA [.p, .i] lvs fun v => digB a v.1 v.2.1 H P
section
variable {prog : Program} {w : World} {Y : Frag} {Γ : GE}
variable {c : FC (KX w Y) Γ} {m : Str → Option Value} {adr : List Addr} {rest news : Led} {H : Hp} {s : Shared} {vs : List Value} {P : KV} {R : Result → Shared → Prop}
theorem digit_ok {a : Addr} {j : Int} (hY : Scr w Y a) (G : FG c) (hr : Room c.A 1) (SA : AtS prog w c m adr rest news H s) (hm : MtL adr rest [.top a, .d (.int j)] vs) (h0 : 0 ≤ j)
    (hP : ∀ d : Int, P (.d (.int d)) H) (r : Ret prog w Mt c m adr rest s P (fun v s' => R (.ok (.ret v)) s')) : codeAny (model prog w) c.A (.call (.ref 573) ⟨vs, []⟩) R s := by
  obtain ⟨o, us, ns, n, hY1, hY2, hY3, hY4, hY5⟩ := hY.ex
  refine enter ((tt_okX w Y).fn 573 [S "script", S "place"] [] (by kernel_rfl)) G hr SA hm rfl r fun c' m' s' E' Q' ec hE ht0 G' hr' S' hl' r' => ?_
  have ok : digOk (bodyOf (KX w Y) 573) = true := by kernel_rfl
  generalize bodyOf (KX w Y) 573 = body at ok
  obtain ⟨q1, q2, q3, q4, q5, q6, q7, q8, q9, n0, kc, q10, q11, q12, rfl, _⟩ := digOk.inv ok
  · have hI : ∀ (s1 : Shared), (∀ b o, c'.h₀.get? b = some o → s1.heap.get? b = some o) → s1.heap.IsList a us.toArray := fun s1 k => ⟨o, k _ _ (c'.X _ _ hY1), hY2, n, hY3⟩
    have nm := nmk (prog := prog) (w := w) G' hl'
    have k1 : c'.cs.names.lookup (Str.ofString "place") = some .local := by rw [ec]; kernel_rfl
    have k2 : c'.cs.names.lookup (Str.ofString "script") = some .local := by rw [ec]; kernel_rfl
    have k3 : c'.cs.names.lookup (Str.ofString "len") = some .globalImplicit := by rw [ec]; kernel_rfl
    have l1 : ([S "script", S "place"].zip [LV.top a, LV.d (.int j)]).reverse.lookup (Str.ofString "place") = some (.d (.int j)) := by kernel_rfl
    have l2 : ([S "script", S "place"].zip [LV.top a, LV.d (.int j)]).reverse.lookup (Str.ofString "script") = some (.top a) := by kernel_rfl
    have big : us.toArray.size ≤ 1000 := by rw [List.size_toArray]; exact hY5
    refine wpAny_execs_cons (wpAny_Return_some (IfExp_ (wpAny_isTrue_Compare1 (nm.loc List.prefix_rfl Sub.rfl S' k1 l1 fun u hu => ?_) rfl)))
    obtain ⟨_, rfl⟩ := dInv hu
    refine Call_ (nm.bi List.prefix_rfl Sub.rfl S' k3 (id := "len") ((tt_okX w Y).glob (Str.ofString "len") (.bi "len") (by kernel_rfl)) ?_)
    refine PyProof.Rows.callWith_builtin1 (args_cons (nm.loc List.prefix_rfl Sub.rfl S' k2 l2 fun u hu => args_nil ?_) rfl) rfl rfl
    cases hu
    refine Calls.call_len_list (hI _ S'.F.keep) (by lia) ?_
    refine vCmp_sound (op := .Lt) (x := .d (.int j)) (y := .d (.int (us.toArray.size : Nat))) (P := fun b => b = decide (j < (us.toArray.size : Nat))) (H := H) (c := c') (m := m') (adr := adr) (rest := rest) (news := news) ⟨S'.F, S'.N, S'.R, S'.up2⟩ mInt mInt rfl fun b k hk hb => wpAny_truthy_bool ?_
    have S2 := S'.toks hk
    have fin : ∀ (d : Int) (t : Tok) (k : Nat), c'.t0 ≤ k → Q' (.ret (.int d t)) { s' with toks := k } := fun d t k hk => r' (.ret (.d (.int d))) _ _ m' adr rest news H s'.heap k List.prefix_rfl Sub.rfl ⟨S'.F, S'.N, S'.R, hk⟩ hl' (mRet mInt) (hP d)
    induction b with
    | false =>
      rw [if_neg (by decide)]
      exact wpAny_Constant_int (fin _ _ _ (Nat.le_succ_of_le hk))
    | true =>
      rw [if_pos rfl]
      have hj : j < (us.toArray.size : Nat) := of_decide_eq_true hb.symm
      refine Subscript_ (nm.loc List.prefix_rfl Sub.rfl S2 k2 l2 fun u hu => ?_)
      cases hu
      refine nm.loc List.prefix_rfl Sub.rfl S2 k1 l1 fun u hu => ?_
      obtain ⟨_, rfl⟩ := dInv hu
      have I := hI { s' with toks := k } S'.F.keep
      obtain ⟨x, t, hx⟩ := intsAre_get hY4 (i := j.toNat) (by rw [List.size_toArray] at hj; lia)
      exact tail_any I.typeIs slot_list_getitem.lookup (wpAny_getItem_list I h0 (by lia) (by simpa using hx) (fin _ _ _ hk)) (sub_plain rfl _ _)
end
end Mine
end
section
open PySem PySem.W PyProof.Rows PySem.Calls
set_option maxRecDepth 100000
set_option maxHeartbeats 8000000
namespace Mine
/-! the law's first loop: the words -/
noncomputable def asLs (x : Dat) (k : List Dat → Prop) : Prop := match x with
  | .list ds => k ds
  | _ => False
theorem asLs.inv {x : Dat} {k : List Dat → Prop} (h : asLs x k) : ∃ ds, x = .list ds ∧ k ds := by
  induction x using Dat.casesOn with
  | list ds => exact ⟨ds, rfl, h⟩
  | _ => exact h.elim
noncomputable def docB (ds : List Dat) (H : Hp) (P : KV) : Prop := (∃ d, ds = DGs d) ∧ (∃ A0 A1 A2, H = [A0, A1, A2]) ∧ ∀ (wr : Str) (tok : Dat), DocW wr tok → P (.d (.tuple [.str wr, tok])) H
noncomputable def spDoc (lvs : List LV) (H : Hp) (P : KV) : Prop := uc lvs fun v l => asD v fun x => asLs x fun ds => uc l fun v2 l => asD v2 fun y => asI y fun k => un l (docB ds H P)
theorem doc_ok {prog : Program} {w : World} {Γ : GE} : POne prog w (KF w) Γ 613 spDoc 74 := by
  intro c m adr rest news H s lvs vs P R G hr SA hm h r
  obtain ⟨v, l1, rfl, g1⟩ := uc.inv h
  obtain ⟨x, rfl, g2⟩ := asD.inv g1
  obtain ⟨ds, rfl, g3⟩ := asLs.inv g2
  obtain ⟨v2, l2, rfl, g4⟩ := uc.inv g3
  obtain ⟨y, rfl, g5⟩ := asD.inv g4
  obtain ⟨k, rfl, g6⟩ := asI.inv g5
  obtain ⟨rfl, ⟨d, rfl⟩, ⟨A0, A1, A2, rfl⟩, hP⟩ := un.inv g6
  refine doc0 G hr SA hm (Ret.imp r ?_)
  rintro b H1 ⟨rfl, wr, tok, rfl, hD⟩
  exact hP wr tok hD
noncomputable def P18 : Pm := fun f => cond (Nat.beq f 613) (some spDoc) (cond (Nat.beq f 580) (some spDraw) none)
theorem p18_ok {prog : Program} {w : World} {Γ : GE} : PmOk prog w (KF w) Γ P18 74 := pm_cons doc_ok (pm_cons (po_le draw_ok (by decide)) pm_nil)
theorem digit_one {prog : Program} {w : World} {Y : Frag} {Γ : GE} {a : Addr} (hY : Scr w Y a) : POne prog w (KX w Y) Γ 573 (spDigit a) 1 := by
  intro c m adr rest news H s lvs vs P R G hr SA hm h r
  obtain ⟨⟨b, j, Z⟩, rfl, ⟨h0, h1⟩, h2⟩ := uA.inv h
  cases h0
  exact digit_ok hY G hr SA hm h1 h2 r
noncomputable def P19 (a : Addr) : Pm := fun f => cond (Nat.beq f 573) (some (spDigit a)) none
theorem p19_ok {prog : Program} {w : World} {Y : Frag} {Γ : GE} {a : Addr} (hY : Scr w Y a) : PmOk prog w (KX w Y) Γ (P19 a) 1 := pm_cons (digit_one hY) pm_nil
noncomputable def as1E : Stmt → Expr
  | .Assign _ e _ => e
  | _ => .Constant .none 0 ⟨0, 0, 0, 0⟩
end Mine
end
section
open PySem PySem.W PyProof.Rows PySem.Spec PySem.Calls
set_option maxRecDepth 100000
set_option maxHeartbeats 8000000
namespace Mine
/-! the law's first loop -/
section
variable {prog : Program} {w : World} {K : Frag} {Γ : GE} {c : FC K Γ} {m : Str → Option Value} {adr : List Addr} {rest news : Led} {s : Shared}
/-- the last object is a list of a local: laid to rest -/
theorem frz_last {H1 : Hp} {ds : List Dat} {x : Str} {l : Mine.Loc} (SA : AtS prog w c m adr rest news (H1 ++ [.list ds]) s) (hl : LocOk c.cl adr rest ((x, .obj H1.length) :: l) m) (hs : H1.all (AO.small H1.length) = true)
    (hls : ∀ y v, l.lookup y = some v → v.small H1.length = true) (hx : c.cl.lookup x = none) :
    ∃ own, AtS prog w c m (adr.take H1.length) (own ++ rest) news H1 s ∧ LocOk c.cl (adr.take H1.length) (own ++ rest) ((x, .d (.list ds)) :: l) m := by
  obtain ⟨own, R1, O1⟩ := SA.R.cut hs
  obtain ⟨a, ea⟩ : ∃ a, adr.drop H1.length = [a] := List.length_eq_one_iff.mp (by rw [List.length_drop, SA.R.len, List.length_append]; exact Nat.add_sub_cancel_left ..)
  rw [ea] at O1
  obtain ⟨vs, n, rfl, hd⟩ : ∃ vs n, own = [(a, listOf vs.toArray n)] ∧ DatAll rest vs ds := by
    cases O1 with
    | cons h r => cases r; obtain ⟨vs, n, e, hd⟩ := h; exact ⟨vs, n, by rw [e]; rfl, hd⟩
  refine ⟨_, ⟨SA.F, SA.N, R1, SA.tk⟩, fun y v e => ?_⟩
  rw [List.lookup_cons] at e
  refine bool_tf (b := y == x) (fun q => ?_) fun q => ?_
  · rw [q] at e
    cases e
    have e3 := beq_iff_eq.mp q
    subst e3
    refine ⟨fun Z => ?_, fun b hb => by rw [hx] at hb; cases hb⟩
    obtain ⟨u, e1, b, e2, rfl⟩ := (hl y (.obj H1.length) (by rw [List.lookup_cons, q])).1 hx
    have e4 : b = a := by
      have e5 : (adr.drop H1.length)[0]? = some b := by rw [List.getElem?_drop]; exact e2
      rw [ea] at e5
      cases e5; rfl
    subst e4
    exact ⟨_, e1, DatIn.list (.head _) (hd.mono fun z hz => .tail _ hz)⟩
  · rw [q] at e
    obtain ⟨h1, h2⟩ := hl y v (by rw [List.lookup_cons, q]; exact e)
    refine ⟨fun z => ?_, fun b hb => ?_⟩
    · obtain ⟨u, e1, e2⟩ := h1 z
      exact ⟨u, e1, (e2.cut (hls y v e)).mono List.prefix_rfl fun z hz => List.mem_append_right _ hz⟩
    · obtain ⟨i, rfl, e2⟩ := h2 b hb
      refine ⟨i, rfl, ?_⟩
      rw [List.getElem?_take_of_lt (Nat.le_of_ble_eq_true (hls y _ e))]; exact e2
end
noncomputable abbrev LBd (w : World) (Y : Frag) : List Stmt := lpB (nth (bodyOf (KX w Y) 625) 2)
noncomputable def G1 (i : Int) (a : Addr) (ds : List Dat) : Hp := [.cell (some (.d (.int i))), .cell (some (.top a)), .list ds]
noncomputable def LG (x : Str) : Mine.Loc := [(S "due", .obj 2), (S "text", .d (.str x)), (S "k", .obj 0), (S "script", .obj 1)]
noncomputable def LGt (x : Str) : Mine.Loc := [(S "text", .d (.str x)), (S "due", .obj 2), (S "k", .obj 0), (S "script", .obj 1)]
noncomputable def BTS : Str := Str.ofString "a>bé"
section
variable {w : World} {Y : Frag} {a : Addr} {i : Int} {x wr bt : Str} {tok : Dat} {d : Nat → Int} {ds : List Dat} {ch : Nat} {l : Mine.Loc} {H : Hp} {P : Fl → Mine.Loc → Hp → Prop} {PV : KV}
theorem v_g0 : (EX w Y P18 30).s (scopeOf (KX w Y) 625) ((bodyOf (KX w Y) 625).take 2) [(S "k", .obj 0), (S "script", .obj 1)] [.cell none, .cell (some (.top a))] P = P .next (LG (S "")) [.cell none, .cell (some (.top a)), .list []] := by kernel_rfl
theorem v_gr : (EX w Y P18 30).e (scopeOf (KX w Y) 625) (rgA 0 (nth (bodyOf (KX w Y) 625) 2)) l H PV = PV (.d (.int 5)) H := by kernel_rfl
theorem v_gcr : (EX w Y (P19 a) 30).e (scopeOf (KX w Y) 625) (acE (nth (LBd w Y) 0)) l H PV = PV (.d (.int 7)) H := by kernel_rfl
theorem v_gce {j : Int} : (EX w Y (P19 a) 30).e (rlS (acS (nth (LBd w Y) 0)) (scopeOf (KX w Y) 625)) (acL (nth (LBd w Y) 0)) [(S "j", .d (.int j)), (S "k", .d (.int i)), (S "script", .top a)] [] PV =
  ((a = a ∧ 0 ≤ 7 * i + j) ∧ ∀ z : Int, PV (.d (.int z)) []) := by kernel_rfl
theorem v_g1 : (EX w Y P18 30).s (scopeOf (KX w Y) 625) (((LBd w Y).drop 1).take 1) ((S "digits", .d (.list (DGs d))) :: LGt x) (G1 i a ds) P =
  ((∃ d1, DGs d = DGs d1) ∧ (∃ A0 A1 A2, G1 i a ds = [A0, A1, A2]) ∧ ∀ (wr : Str) (tok : Dat), DocW wr tok → P .next ((S "token", .d tok) :: (S "written", .d (.str wr)) :: (S "digits", .d (.list (DGs d))) :: LGt x) (G1 i a ds)) := by kernel_rfl
theorem v_g2 : (EX w Y P18 30).s (scopeOf (KX w Y) 625) (((LBd w Y).drop 2).take 3) ((S "token", .d tok) :: (S "written", .d (.str wr)) :: (S "digits", .d (.list (DGs d))) :: LGt x) (G1 i a ds) P =
  drawB (d 6 + i) BTS 0 1 fun y => gd (x.length + (Str.ofString "!").length) (gd ((x ++ Str.ofString "!").length + wr.length) (gd ((x ++ Str.ofString "!" ++ wr).length + y.length) (gd ds.length
    (P .next ((S "text", .d (.str (x ++ Str.ofString "!" ++ wr ++ y))) :: (S "between", .d (.str y)) :: (S "token", .d tok) :: (S "written", .d (.str wr)) :: (S "digits", .d (.list (DGs d))) :: LGt x) (G1 i a (ds ++ [tok])))))) := by kernel_rfl
theorem v_g3i {bt : Str} : (EX w Y P18 30).e (scopeOf (KX w Y) 625) (lpI (nth (LBd w Y) 5)) ((S "between", .d (.str bt)) :: LGt x) (G1 i a ds) PV = PV (.d (.str bt)) (G1 i a ds) := by kernel_rfl
theorem v_g3 : (EX w Y P18 30).s (scopeOf (KX w Y) 625) (lpB (nth (LBd w Y) 5)) ((S "sign", .d (.str (one ch))) :: (S "between", .d (.str bt)) :: LGt x) (G1 i a ds) P =
  gd ds.length (P .next ((S "sign", .d (.str (one ch))) :: (S "between", .d (.str bt)) :: LGt x) (G1 i a (ds ++ [.tuple [.str (S "char"), .str (one ch)]]))) := by kernel_rfl
end
end Mine
end
section
open PySem PySem.W PyProof.Rows PySem.Spec PySem.Calls
set_option maxRecDepth 100000
set_option maxHeartbeats 8000000
namespace Mine
/-! a turn of the law's first loop -/
theorem look_small : ∀ {l : Mine.Loc} {k : Nat} {y : Str} {v : LV}, (l.all fun q => q.2.small k) = true → l.lookup y = some v → v.small k = true
  | [], _, _, _, _, h => by cases h
  | q :: l, k, y, v, ha, h => by
    obtain ⟨h1, h2⟩ := Bool.and_eq_true_iff.mp ha
    rw [List.lookup_cons] at h
    refine bool_tf (b := y == q.1) (fun e => ?_) fun e => ?_
    · rw [e] at h; cases h; exact h1
    · rw [e] at h; exact look_small h2 h
noncomputable def chT (k : Nat) : Dat := .tuple [.str (S "char"), .str (one k)]
noncomputable def Btw (y : Str) : Prop := (cl y).length ≤ 1 ∧ ∀ k ∈ cl y, k ∈ cl BTS
/-- what is written after i turns, and what is due -/
noncomputable def Wrt (i : Nat) (x : Str) (ds : List Dat) : Prop := ∃ ps : List (Str × Dat × Str), ps.length = i ∧ (∀ p ∈ ps, DocW p.1 p.2.1 ∧ Btw p.2.2) ∧ cl x = ps.flatMap (fun p => 33 :: (cl p.1 ++ cl p.2.2)) ∧ ds = ps.flatMap (fun p => p.2.1 :: (cl p.2.2).map chT)
theorem Wrt.nil : Wrt 0 (S "") [] := ⟨[], rfl, (by intro p hp; cases hp), by decide +kernel, rfl⟩
theorem docW_len {wr : Str} {tok : Dat} (h : DocW wr tok) : wr.length ≤ 100 := by
  obtain ⟨fm, b0, nm, rn, b4, t1, t2, t3, pb, sy, h1, h2, h3, h4, h5, h6, h7, h8, h9, h10, h11, h12⟩ := h
  exact h11
theorem parts_len : ∀ ps : List (Str × Dat × Str), (∀ p ∈ ps, DocW p.1 p.2.1 ∧ Btw p.2.2) → (ps.flatMap fun p => 33 :: (cl p.1 ++ cl p.2.2)).length ≤ 102 * ps.length ∧ (ps.flatMap fun p => p.2.1 :: (cl p.2.2).map chT).length ≤ 2 * ps.length
  | [], _ => ⟨Nat.le_refl _, Nat.le_refl _⟩
  | p :: ps, h => by
    obtain ⟨i1, i2⟩ := parts_len ps fun q hq => h q (.tail _ hq)
    obtain ⟨h1, h2⟩ := h p (.head _)
    have l1 := docW_len h1
    have l2 := h2.1
    have l3 : (cl p.1).length = p.1.length := Array.length_toList
    simp only [List.flatMap_cons, List.length_append, List.length_cons, List.length_map]
    omega
theorem Wrt.len {i : Nat} {x : Str} {ds : List Dat} (h : Wrt i x ds) : x.length ≤ 102 * i ∧ ds.length ≤ 2 * i := by
  obtain ⟨ps, rfl, h1, h2, rfl⟩ := h
  obtain ⟨i1, i2⟩ := parts_len ps h1
  have l3 : (cl x).length = x.length := Array.length_toList
  rw [← h2] at i1
  omega
theorem Wrt.step {i : Nat} {x wr y : Str} {tok : Dat} {ds : List Dat} (h : Wrt i x ds) (hD : DocW wr tok) (hy : Btw y) : Wrt (i + 1) (x ++ Str.ofString "!" ++ wr ++ y) (ds ++ tok :: (cl y).map chT) := by
  obtain ⟨ps, rfl, h1, h2, rfl⟩ := h
  refine ⟨ps ++ [(wr, tok, y)], by rw [List.length_append]; rfl, fun p hp => ?_, ?_, ?_⟩
  · rcases List.mem_append.mp hp with hp | hp
    · exact h1 p hp
    · rw [List.mem_singleton.mp hp]; exact ⟨hD, hy⟩
  · have e : cl (Str.ofString "!") = [33] := by decide +kernel
    simp only [catL, h2, e, List.flatMap_append, List.flatMap_cons, List.flatMap_nil, List.append_nil, List.append_assoc, List.cons_append, List.nil_append]
  · simp only [List.flatMap_append, List.flatMap_cons, List.flatMap_nil, List.append_nil]
theorem drawn_btw {y : Str} (h : Drawn (BTS.cps.toList.map one) 0 1 y) : Btw y := by
  obtain ⟨h1, h2, h3⟩ := drawn_chars h
  exact ⟨h2, h3⟩
section
variable {prog : Program} {w : World} {Y : Frag} {Γ : GE}
variable {c : FC (KX w Y) Γ} {m : Str → Option Value} {adr : List Addr} {rest news : Led} {s : Shared} {E : Value → Shared → Prop} {a ak as : Addr} {i : Nat} {x : Str} {ds : List Dat}
theorem turn_law (hY : Scr w Y a) (G : FG c) (hr : Room c.A 110) (ec : c.cs = scopeOf (KX w Y) 625) (ecl : c.cl = [(S "k", ak), (S "script", as)]) (hE : PassesOwn (model prog w) c.A c.env E) (hi : i < 5) (hW : Wrt i x ds)
    (SA : AtS prog w c m adr rest news (G1 (i : Int) a ds) s) (hl : LocOk c.cl adr rest (LGt x) m) {Q : Flow → Shared → Prop}
    (r : RetS prog w c adr rest s (fun fl l2 H2 => fl = .next ∧ ∃ x' ds', Wrt (i + 1) x' ds' ∧ Keeps (LGt x') l2 ∧ H2 = G1 (i : Int) a ds') Q) : wpAny (model prog w) c.A (execs (LBd w Y) c.env) Q E s := by
  have IH := run_sound (prog := prog) (Γ := Γ) (tt_okX w Y) (p19_ok hY) 30
  have P18k : PmOk prog w (KX w Y) Γ P18 74 := pm_up (fun h => kx_in) p18_ok
  have IH2 := run_sound (prog := prog) (Γ := Γ) (tt_okX w Y) P18k 30
  obtain ⟨hx1, hx2⟩ := hW.len
  have big : szLine = 16777216 := rfl
  have hb : LBd w Y = nth (LBd w Y) 0 :: (((LBd w Y).drop 1).take 1 ++ (((LBd w Y).drop 2).take 3 ++ [nth (LBd w Y) 5])) := by kernel_rfl
  rw [hb]
  have clx : ∀ y, y ≠ S "k" → y ≠ S "script" → c.cl.lookup y = none := fun y h1 h2 => by
    rw [ecl, List.lookup_cons, beq_eq_false_iff_ne.mpr h1, List.lookup_cons, beq_eq_false_iff_ne.mpr h2]; rfl
  refine wpAny_execs_cons ?_
  refine asg_comp_r IH G (hr.le (by decide)) (st := nth (LBd w Y) 0) (by rw [ec]; kernel_rfl) (cl' := [(S "script", as), (S "k", ak)]) (N := 7) (lf := [(S "k", .d (.int (i : Int))), (S "script", .top a)]) (Pr := fun Z x => ∃ z : Int, x = .int z) (by kernel_rfl) SA hl ?_ (by kernel_rfl)
    (P := fun fl l' H' => fl = .next ∧ ∃ d, l' = (S "digits", .obj 3) :: LGt x ∧ H' = G1 (i : Int) a ds ++ [.list (DGs d)]) ?_ ?_ ?_
  · show closureFor _ (envX c.cn c.cs c.L c.a c.ccd c.cl) = _
    rw [ecl, ec]
    kernel_rfl
  · rw [ec]
    refine Eq.mpr v_gcr ⟨rfl, by decide, fun es hlen hpr => ?_, ?_⟩
    · obtain ⟨z0, e0⟩ := hpr 0 (es[0]'(by omega)) (List.getElem?_eq_getElem _)
      obtain ⟨z1, e1⟩ := hpr 1 (es[1]'(by omega)) (List.getElem?_eq_getElem _)
      obtain ⟨z2, e2⟩ := hpr 2 (es[2]'(by omega)) (List.getElem?_eq_getElem _)
      obtain ⟨z3, e3⟩ := hpr 3 (es[3]'(by omega)) (List.getElem?_eq_getElem _)
      obtain ⟨z4, e4⟩ := hpr 4 (es[4]'(by omega)) (List.getElem?_eq_getElem _)
      obtain ⟨z5, e5⟩ := hpr 5 (es[5]'(by omega)) (List.getElem?_eq_getElem _)
      obtain ⟨z6, e6⟩ := hpr 6 (es[6]'(by omega)) (List.getElem?_eq_getElem _)
      have eds : es = DGs fun i => match i with | 0 => z0 | 1 => z1 | 2 => z2 | 3 => z3 | 4 => z4 | 5 => z5 | _ => z6 := by
        match es, hlen, e0, e1, e2, e3, e4, e5, e6 with
        | [a0, a1, a2, a3, a4, a5, a6], _, e0, e1, e2, e3, e4, e5, e6 =>
          cases e0; cases e1; cases e2; cases e3; cases e4; cases e5; cases e6; rfl
      have hacY : acY (nth (LBd w Y) 0) = S "digits" := by kernel_rfl
      rw [hacY]
      exact ⟨rfl, _, rfl, by rw [eds]⟩
    · intro y v hy
      rw [List.lookup_cons] at hy
      refine bool_ft (b := y == S "k") (fun q => ?_) fun q => ?_
      · rw [q] at hy
        rw [List.lookup_cons] at hy
        refine bool_ft (b := y == S "script") (fun q2 => ?_) fun q2 => ?_
        · rw [q2] at hy; cases hy
        · rw [q2] at hy; cases hy
          rw [beq_iff_eq.mp q2]
          exact ⟨1, as, rfl, by kernel_rfl, rfl, by kernel_rfl, by rw [ecl]; kernel_rfl⟩
      · rw [q] at hy; cases hy
        rw [beq_iff_eq.mp q]
        exact ⟨0, ak, rfl, by kernel_rfl, rfl, by kernel_rfl, by rw [ecl]; kernel_rfl⟩
  · intro j hj
    have hacX : acX (nth (LBd w Y) 0) = S "j" := by kernel_rfl
    rw [ec, hacX]
    exact Eq.mpr v_gce ⟨⟨rfl, by omega⟩, fun z => ⟨_, rfl, rfl, z, rfl⟩⟩
  rintro fl f l2 m2 adr2 rest2 news2 H2 h2 tk2 q1 q2 S2 L2 hmf2 ⟨rfl, d, rfl, rfl⟩
  cases hmf2
  have e3 : (G1 (i : Int) a ds).length = 3 := rfl
  obtain ⟨own, S3, L3⟩ := frz_last (H1 := G1 (i : Int) a ds) S2 L2 rfl (fun y v hy => look_small (l := LGt x) (k := 3) rfl hy) (clx _ (by decide +kernel) (by decide +kernel))
  · have r3 := r.then (h' := h2) (tk' := tk2) (pre_take q1 (k := (G1 (i : Int) a ds).length) (by rw [SA.R.len]; exact Nat.le_refl _)) (fun z hz => List.mem_append_right own (q2 z hz))
    refine seg (k := 30) (tt_okX w Y) P18k G (hr.le (by decide)) S3 L3 (fun l0 H1 => ∃ wr tok, DocW wr tok ∧ l0 = (S "token", .d tok) :: (S "written", .d (.str wr)) :: (S "digits", .d (.list (DGs d))) :: LGt x ∧ H1 = G1 (i : Int) a ds) ?_ ?_ r3
    · rw [ec]
      exact Eq.mpr v_g1 ⟨⟨d, rfl⟩, ⟨_, _, _, rfl⟩, fun wr tok hD => ⟨rfl, _, keeps_refl _, wr, tok, hD, rfl, rfl⟩⟩
    rintro l4 m4 adr4 rest4 news4 H4 s4 ⟨wr, tok, hD, rfl, rfl⟩ S4 L4 r4
    have hlw := docW_len hD
    have l1 : (Str.ofString "!").length = 1 := by decide +kernel
    refine seg (k := 30) (tt_okX w Y) P18k G (hr.le (by decide)) S4 L4 (fun l0 H1 => ∃ y, Btw y ∧ l0 = (S "between", .d (.str y)) :: LGt (x ++ Str.ofString "!" ++ wr ++ y) ∧ H1 = G1 (i : Int) a (ds ++ [tok])) ?_ ?_ r4
    · rw [ec]
      refine Eq.mpr v_g2 ⟨⟨by decide +kernel, by decide +kernel, by decide, by decide, by decide⟩, fun y hy => ?_⟩
      have hy := drawn_btw hy
      have l2 : y.length ≤ 1 := by have := hy.1; rwa [Array.length_toList] at this
      refine gd_i (by omega) (gd_i (by simp only [lenA]; omega) (gd_i (by simp only [lenA]; omega) (gd_i (by omega) ⟨rfl, _, ?_, y, hy, rfl, rfl⟩)))
      exact keeps_cons (by kernel_rfl) (keeps_cons (by kernel_rfl) (keeps_cons (by kernel_rfl) (keeps_cons (by kernel_rfl) (keeps_cons (by kernel_rfl) keeps_nil))))
    rintro l5 m5 adr5 rest5 news5 H5 s5 ⟨y, hy, rfl, rfl⟩ S5 L5 r5
    have l2 : y.cps.size ≤ 1 := by have := hy.1; rwa [Array.length_toList] at this
    refine wpAny_execs_cons (for_s IH2 G (hr.le (by decide)) (st := nth (LBd w Y) 5) (by kernel_rfl) (text := y) (P := fun fl l' H' => fl = .next ∧ l' = (S "between", .d (.str y)) :: LGt (x ++ Str.ofString "!" ++ wr ++ y) ∧ H' = G1 (i : Int) a (ds ++ tok :: (cl y).map chT))
      (fun j H => H = G1 (i : Int) a (ds ++ tok :: ((cl y).take j).map chT)) hE (by rw [ec]; kernel_rfl) S5 L5 ?_ ?_ ?_ ?_)
    · rw [ec]; exact Eq.mpr v_g3i ⟨rfl, rfl⟩
    · rintro j k H' hj rfl
      rw [ec]
      have hk : (cl y)[j]? = some k := by rw [Array.getElem?_toList]; exact hj
      rw [show lpX (nth (LBd w Y) 5) = S "sign" by kernel_rfl]
      refine Eq.mpr v_g3 ?_
      refine gd_i ?_ ⟨?_, ?_⟩
      · have : ((cl y).take j).length ≤ 1 := Nat.le_trans (by rw [List.length_take]; exact Nat.min_le_right _ _) hy.1
        simp only [List.length_append, List.length_cons, List.length_map]; omega
      · rw [List.take_add_one, hk]
        simp only [Option.toList, List.map_append, List.map_cons, List.map_nil, List.append_assoc, List.cons_append]
        rfl
      · exact keeps_pre (pre := [_]) (by kernel_rfl)
    · rintro H' rfl
      exact ⟨rfl, rfl, by rw [List.take_of_length_le (by rw [Array.length_toList]; exact Nat.le_refl _)]⟩
    · rintro fl f l6 m6 adr6 rest6 news6 H6 h6 tk6 q3 q4 S6 L6 hmf6 ⟨rfl, rfl, rfl⟩
      cases hmf6
      refine wpAny_execs_nil (r5 .next .next _ m6 adr6 rest6 news6 _ h6 tk6 q3 q4 S6 L6 mNext ⟨rfl, _, _, hW.step hD hy, ?_, rfl⟩)
      exact keeps_pre (pre := [_]) (by kernel_rfl)
end
end Mine
end
section
open PySem PySem.W PyProof.Rows PySem.Spec PySem.Calls
set_option maxRecDepth 100000
set_option maxHeartbeats 8000000
namespace Mine
/-! the law's first loop -/
noncomputable def G2 (o : Option LV) (a : Addr) (ds : List Dat) : Hp := [.cell o, .cell (some (.top a)), .list ds]
noncomputable def JG (a : Addr) (i : Nat) (l : Mine.Loc) (H : Hp) : Prop := ∃ x ds o, Wrt i x ds ∧ o.all (LV.small 2) = true ∧ l = LGt x ∧ H = G2 o a ds
section
variable {prog : Program} {w : World} {Y : Frag} {Γ : GE}
variable {c : FC (KX w Y) Γ} {m : Str → Option Value} {adr : List Addr} {rest news : Led} {s : Shared} {E : Value → Shared → Prop} {a ak as : Addr} {i : Nat} {x : Str} {ds : List Dat}
theorem loop_law (hY : Scr w Y a) (G : FG c) (hr : Room c.A 110) (ec : c.cs = scopeOf (KX w Y) 625) (ecl : c.cl = [(S "k", ak), (S "script", as)]) (hE : PassesOwn (model prog w) c.A c.env E)
    (SA : AtS prog w c m adr rest news (G2 .none a []) s) (hl : LocOk c.cl adr rest (LG (S "")) m) {Q : Flow → Shared → Prop}
    (r : RetS prog w c adr rest s (fun fl l2 H2 => fl = .next ∧ JG a 5 l2 H2) Q) : wpAny (model prog w) c.A (exec (nth (bodyOf (KX w Y) 625) 2) c.env) Q E s := by
  have P18k : PmOk prog w (KX w Y) Γ P18 74 := pm_up (fun h => kx_in) p18_ok
  have IH2 := run_sound (prog := prog) (Γ := Γ) (tt_okX w Y) P18k 30
  have ex : lpX (nth (bodyOf (KX w Y) 625) 2) = S "k" := by kernel_rfl
  have hl2 : LocOk c.cl adr rest (LGt (S "")) m := hl.keeps (keeps_cons (by kernel_rfl) (keeps_cons (by kernel_rfl) (keeps_cons (by kernel_rfl) (keeps_cons (by kernel_rfl) keeps_nil))))
  refine for_rc IH2 G (hr.le (by decide)) (st := nth (bodyOf (KX w Y) 625) 2) (by kernel_rfl) (N := 5) (JG a) hE (by rw [ec, ex]; kernel_rfl) (by rw [ec]; kernel_rfl) (by kernel_rfl) SA hl2 ?_ (by decide) ?_ ?_ ?_ r
  · rw [ec]; exact Eq.mpr v_gr ⟨rfl, _, _, _, .nil, rfl, rfl, rfl⟩
  · rintro j l' H' ⟨x, ds, o, hW, ho, rfl, rfl⟩
    rw [ex]
    exact ⟨0, o, by kernel_rfl, rfl⟩
  · rintro j jx l' adr' rest' news' H' m' s' Q' hj hpre ⟨x, ds, o, hW, ho, rfl, rfl⟩ hjx S' L' r'
    rw [ex] at hjx
    have e0 : (LGt x).lookup (S "k") = some (.obj 0) := by kernel_rfl
    rw [e0] at hjx
    cases hjx
    have hlen : adr.length ≤ 3 := by rw [SA.R.len]; exact Nat.le_refl _
    refine turn_law hY (c := c.t00) ⟨G.dbg, G.loc, G.cel, G.fre⟩ hr ec ecl hE hj hW S' L' ?_
    rintro fl f l2 m2 adr2 rest2 news2 H2 h2 tk2 q1 q2 S2 L2 hmf2 ⟨rfl, x', ds', hW', hk, rfl⟩
    exact r' .next f l2 m2 adr2 rest2 news2 _ h2 tk2 q1 q2 S2 L2 hmf2 ⟨rfl, _, hk, _, ⟨⟨[], (List.append_nil _).symm⟩, rfl, fun y v hy => look_small (l := LGt x') rfl hy⟩, hlen, x', ds', _, hW', rfl, rfl, rfl⟩
  · rintro l' H' hj
    exact ⟨rfl, hj⟩
end
end Mine
end
section
open PySem PySem.W PyProof.Rows PySem.Spec PySem.Calls
set_option maxRecDepth 100000
set_option maxHeartbeats 8000000
namespace Mine
/-! text and due stand: the cells and the list are laid to rest -/
section
variable {prog : Program} {w : World} {Y : Frag} {Γ : GE}
variable {c : FC (KX w Y) Γ} {m : Str → Option Value} {adr : List Addr} {rest news : Led} {s : Shared} {E : Value → Shared → Prop} {a ak as : Addr} {i : Nat} {x : Str} {ds : List Dat}
noncomputable def LGz (x : Str) (ds : List Dat) : Mine.Loc := [(S "due", .d (.list ds)), (S "text", .d (.str x))]
theorem frz_law (ecl : c.cl = [(S "k", ak), (S "script", as)]) {o : Option LV} (SA : AtS prog w c m adr rest news (G2 o a ds) s) (hl : LocOk c.cl adr rest (LGt x) m) (ho : o.all (LV.small 2) = true) :
    ∃ own, AtS prog w c m [] (own ++ rest) news [] s ∧ LocOk c.cl [] (own ++ rest) (LGz x ds) m ∧ ∃ b, (as, b) ∈ own ∧ b.data = .cell (some (.ref a)) := by
  have clx : ∀ y, y ≠ S "k" → y ≠ S "script" → c.cl.lookup y = none := fun y h1 h2 => by
    rw [ecl, List.lookup_cons, beq_eq_false_iff_ne.mpr h1, List.lookup_cons, beq_eq_false_iff_ne.mpr h2]; rfl
  obtain ⟨i1, e1, e2⟩ := (hl (S "script") (.obj 1) (by kernel_rfl)).2 as (by rw [ecl]; kernel_rfl)
  cases e1
  have hl2 : LocOk c.cl adr rest ((S "due", .obj 2) :: [(S "text", .d (.str x))]) m := hl.keeps (keeps_cons (by kernel_rfl) (keeps_cons (by kernel_rfl) keeps_nil))
  obtain ⟨own1, S1, L1⟩ := frz_last (H1 := [.cell o, .cell (some (.top a))]) SA hl2 (by
    show (AO.small 2 (.cell o) && _) = true
    induction o with
    | none => rfl
    | some v => exact Bool.and_eq_true_iff.mpr ⟨ho, rfl⟩) (fun y v hy => look_small (l := [(S "text", .d (.str x))]) (k := 2) rfl hy) (clx _ (by decide +kernel) (by decide +kernel))
  obtain ⟨own, O, Sb, D⟩ := S1.R
  have e3 : (adr.take 2)[1]? = some as := by rw [List.getElem?_take_of_lt (by decide)]; exact e2
  have hcell : ∃ b, (as, b) ∈ own ∧ b.data = .cell (some (.ref a)) := by
    obtain ⟨a', pre, l, post, f1, f2, f3, _⟩ := O.split (i := 1) (o := .cell (some (.top a))) rfl
    have f4 : a' = as := by
      have f5 : (adr.take 2)[1]? = some a' := f1
      rw [e3] at f5
      cases f5; rfl
    subst f4
    obtain ⟨b, u, f6, f7, f8⟩ := f3
    have f9 : u = .ref a := f8
    subst f9
    exact ⟨b, by rw [f2, f6]; exact List.mem_append_right _ (.head _), f7⟩
  obtain ⟨b, hb1, hb2⟩ := hcell
  refine ⟨own ++ own1, ⟨S1.F, S1.N, ⟨[], .nil, by rw [List.append_assoc]; exact Sb, by rw [List.append_assoc]; exact D⟩, S1.tk⟩, ?_, b, List.mem_append_left _ hb1, hb2⟩
  have L2 := L1.cut (k := 0) fun y v hy => look_small (l := LGz x ds) (k := 0) rfl hy
  exact (show LocOk c.cl [] (own1 ++ rest) (LGz x ds) m from L2).mono List.prefix_rfl fun z hz => by rw [List.append_assoc]; exact List.mem_append_right _ hz
end
end Mine
end
section
open PySem PySem.W PyProof.Rows PySem.Spec PySem.Calls
set_option maxRecDepth 100000
set_option maxHeartbeats 8000000
namespace Mine
/-! the law up to text and due -/
section
variable {prog : Program} {w : World} {K : Frag} {Γ : GE} {T : Tabs}
variable {c : FC K Γ} {m : Str → Option Value} {adr : List Addr} {rest news : Led} {H : Hp} {s : Shared} {E : Value → Shared → Prop} {l : Mine.Loc}
/-- as seg, the way back held from the start -/
theorem lseg0 {Pr : Pm} {D k : Nat} (TO : T.Ok K) (PO : PmOk prog w K Γ Pr D) (G : FG c) (hr : Room c.A (k + D)) {pre rest₀ : List Stmt} (SA : AtS prog w c m adr rest news H s) (hl : LocOk c.cl adr rest l m) (J : Mine.Loc → Hp → Prop) {P : Fl → Mine.Loc → Hp → Prop} {Q : Flow → Shared → Prop}
    (h : (Ev.run K T Pr k).s c.cs pre l H (fun fl l' H' => fl = .next ∧ ∃ l0, Keeps l0 l' ∧ J l0 H'))
    (cont : ∀ {l0 m1 adr1 rest1 news1 H1 s1}, J l0 H1 → adr <+: adr1 → Sub rest rest1 → AtS prog w c m1 adr1 rest1 news1 H1 s1 → LocOk c.cl adr1 rest1 l0 m1 → RetS prog w c [] [] s1 P Q → wpAny (model prog w) c.A (execs rest₀ c.env) Q E s1)
    (r : RetS prog w c [] [] s P Q) : wpAny (model prog w) c.A (execs (pre ++ rest₀) c.env) Q E s := by
  refine pre_ok TO PO G k hr SA hl h ?_
  rintro fl f l1 m1 adr1 rest1 news1 H1 h1 tk1 e1 e2 S1 L1 hmf ⟨rfl, l0, hk, hj⟩
  cases hmf
  exact cont hj e1 e2 S1 (L1.keeps hk) (r.then List.prefix_rfl Sub.rfl)
end
noncomputable def eofT : Dat := .tuple [.str (S "eof")]
noncomputable abbrev PTrue (fl : Fl) (_ : Mine.Loc) (_ : Hp) : Prop := fl = .ret (.d (.bool true))
section
variable {w : World} {Y : Frag} {a : Addr} {x : Str} {ds : List Dat} {o : Option LV} {P : Fl → Mine.Loc → Hp → Prop}
theorem v_g4o : (EX w Y P18 30).s (scopeOf (KX w Y) 625) (((bodyOf (KX w Y) 625).drop 3).take 1) (LGt x) (G2 o a ds) P = gd ds.length (P .next (LGt x) (G2 o a (ds ++ [eofT]))) := by kernel_rfl
end
section
variable {prog : Program} {w : World} {Y : Frag} {Γ : GE}
variable {c : FC (KX w Y) Γ} {m : Str → Option Value} {adr : List Addr} {rest news : Led} {s : Shared} {E : Value → Shared → Prop} {a ak as : Addr}
theorem law_pre (hY : Scr w Y a) (G : FG c) (hr : Room c.A 110) (ec : c.cs = scopeOf (KX w Y) 625) (ecl : c.cl = [(S "k", ak), (S "script", as)]) (hE : PassesOwn (model prog w) c.A c.env E)
    (SA : AtS prog w c m adr rest news [.cell none, .cell (some (.top a))] s) (hl : LocOk c.cl adr rest [(S "k", .obj 0), (S "script", .obj 1)] m) {Q : Flow → Shared → Prop}
    (cont : ∀ {x ds m1 rest1 news1 s1}, Wrt 5 x ds → AtS prog w c m1 [] rest1 news1 [] s1 → LocOk c.cl [] rest1 (LGz x (ds ++ [eofT])) m1 → (∃ b, (as, b) ∈ rest1 ∧ b.data = .cell (some (.ref a))) → RetS prog w c [] [] s1 PTrue Q → wpAny (model prog w) c.A (execs ((bodyOf (KX w Y) 625).drop 4) c.env) Q E s1)
    (r : RetS prog w c [] [] s PTrue Q) : wpAny (model prog w) c.A (execs (bodyOf (KX w Y) 625) c.env) Q E s := by
  have P18k : PmOk prog w (KX w Y) Γ P18 74 := pm_up (fun h => kx_in) p18_ok
  have hb : bodyOf (KX w Y) 625 = (bodyOf (KX w Y) 625).take 2 ++ (nth (bodyOf (KX w Y) 625) 2 :: (((bodyOf (KX w Y) 625).drop 3).take 1 ++ (bodyOf (KX w Y) 625).drop 4)) := by kernel_rfl
  rw [hb]
  refine lseg0 (k := 30) (tt_okX w Y) P18k G (hr.le (by decide)) SA hl (fun l0 H1 => l0 = LG (S "") ∧ H1 = G2 .none a []) ?_ ?_ r
  · rw [ec]; exact Eq.mpr v_g0 ⟨rfl, _, keeps_refl _, rfl, rfl⟩
  rintro l1 m1 adr1 rest1 news1 H1 s1 ⟨rfl, rfl⟩ q1 q2 S1 L1 r1
  refine wpAny_execs_cons (loop_law hY G hr ec ecl hE S1 L1 ?_)
  rintro fl f l2 m2 adr2 rest2 news2 H2 h2 tk2 q3 q4 S2 L2 hmf2 ⟨rfl, x, ds, o, hW, ho, rfl, rfl⟩
  cases hmf2
  obtain ⟨hx1, hx2⟩ := hW.len
  have big : szLine = 16777216 := rfl
  refine lseg0 (k := 30) (tt_okX w Y) P18k G (hr.le (by decide)) S2 L2 (fun l0 H1 => l0 = LGt x ∧ H1 = G2 o a (ds ++ [eofT])) ?_ ?_ (r1.then (h' := h2) (tk' := tk2) List.prefix_rfl Sub.rfl)
  · rw [ec]; exact Eq.mpr v_g4o (gd_i (by omega) ⟨rfl, _, keeps_refl _, rfl, rfl⟩)
  rintro l3 m3 adr3 rest3 news3 H3 s3 ⟨rfl, rfl⟩ q5 q6 S3 L3 r3
  obtain ⟨own, S4, L4, b, hb1, hb2⟩ := frz_law ecl S3 L3 ho
  exact cont hW S4 L4 ⟨b, List.mem_append_left _ hb1, hb2⟩ r3
end
end Mine
end
section
open PySem PySem.W PyProof.Rows PySem.Spec PySem.Calls
set_option maxRecDepth 100000
set_option maxHeartbeats 8000000
namespace Mine
/-! a name put into a table -/
section
variable {prog : Program} {w : World} {K : Frag} {Γ : GE}
variable {c : FC K Γ} {m : Str → Option Value} {adr : List Addr} {rest news : Led} {H : Hp} {s : Shared} {E : Value → Shared → Prop} {l : Mine.Loc}
theorem op_setTab {i : Nat} {x : Str} {k : Tok} {f : Addr} {v : Value} {ts : List (Str × Addr)} {P : Unit → Hp → Prop} {Q : Unit → Shared → Prop} (SA : AtS prog w c m adr rest news H s) (hv : Mt adr rest (.obj i) v)
    (ho : H[i]? = some (.tab ts)) (hx : (ts.any fun p => decide (p.1 = x)) = false) (hz : ts.length ≤ szLine) (hp : P () (H.set i (.tab (ts ++ [(x, f)])))) (r : Ret prog w MU c m adr rest s P Q) :
    wpAny (model prog w) c.A (setItem v (.str x k) (.ref f)) Q E s := by
  obtain ⟨a, ha, rfl⟩ := hv
  obtain ⟨own, O, Sb, D⟩ := SA.R
  obtain ⟨b, pre, l, post, e1, e2, ⟨o, rfl, hd, hsys⟩, hs⟩ := O.split ho
  rw [ha] at e1; cases e1
  subst e2
  have N1 := newsSub SA.N Sb
  have e3 : ∀ o, pre ++ ([(a, o)] ++ post) ++ rest = pre ++ (a, o) :: (post ++ rest) := fun o => by simp
  rw [e3] at N1 D
  have hap : ∀ p ∈ pre ++ (post ++ rest), p.1 ≠ a := fun p hp e => by
    unfold DN at D
    rw [List.map_append, List.map_cons] at D
    have hn := List.nodup_append.mp D
    rcases List.mem_append.mp hp with hp | hp
    · exact hn.2.2 p.1 (List.mem_map.mpr ⟨p, hp, rfl⟩) a (.head _) e
    · exact (List.nodup_cons.mp hn.2.1).1 (List.mem_map.mpr ⟨p, hp, e⟩)
  have N' : News c.h₀ c.L s.heap ((a, o) :: (pre ++ (post ++ rest))) := N1.perm fun _ hp => mem_mid.mp hp
  have hm := N' _ (.head _)
  have big : szLine = 16777216 := rfl
  have et : stored (TABV ts) x (.ref f) = TABV (ts ++ [(x, f)]) := by
    unfold stored
    have e4 : ((TABV ts).any fun kv => decide (kv.1 = x)) = false := by unfold TABV; rw [List.any_map]; exact hx
    rw [e4, if_neg Bool.false_ne_true]
    unfold TABV; rw [List.map_append]; rfl
  refine wpAny_setItem_pairs (knd := PySem.strKind prog w) (strKind_is prog w x k) (Heap.dictOf_iff.mpr ⟨o, hm.1, hd⟩) (fun h' hmm hs' => ?_) (by unfold TABV; rw [List.length_map, sizeLine_eq]; exact hz)
  obtain ⟨o', ho', hd'⟩ := Heap.dictOf_iff.mp hmm
  rw [et] at hd'
  have D' := (D.upd (o' := o')).2
  refine r () () adr rest _ _ h' (s.toks + 1) List.prefix_rfl Sub.rfl ⟨SA.F.change hs' hm.2.1 hm.2.2, (N'.setHead hap hs' ho').perm fun _ hp => mem_mid.mpr hp, ⟨_, hs (.tab (ts ++ [(x, f)])) [(a, o')] ⟨o', rfl, hd', hsys⟩, ?_, ?_⟩, Nat.le_succ_of_le SA.tk⟩ trivial hp
  · intro q hq; rw [e3] at hq; exact hq
  · rw [e3]; exact D'
end
end Mine
end
section
open PySem PySem.W PyProof.Rows PySem.Spec PySem.Calls
set_option maxRecDepth 100000
set_option maxHeartbeats 8000000
namespace Mine
theorem range3_size {b st : Nat} (hst : 1 ≤ st) : Builtin.Range.rangeSize 0 (b : Int) (st : Int) = (((b + st - 1) / st : Nat) : Int) := by
  unfold Builtin.Range.rangeSize
  rw [if_pos (by lia)]
  by_cases h : b = 0
  · subst h
    rw [if_neg (by decide), Nat.div_eq_of_lt (by lia)]; rfl
  · rw [if_pos (by lia)]
    have e1 : (b : Int) - 0 - 1 = ((b - 1 : Nat) : Int) := by lia
    have e2 : b + st - 1 = b - 1 + st := by lia
    rw [e1, e2, Nat.add_div_right _ (by lia)]
    rfl
theorem small3 {b st : Nat} (hst : 1 ≤ st) (hst2 : st ≤ 1000) (hb : b ≤ 1000000) : Builtin.Range.small 0 (b : Int) (st : Int) = true := by
  have hN : (b + st - 1) / st ≤ b + st := Nat.le_trans (Nat.div_le_self _ _) (by lia)
  have hpos : ((st : Int) > 0) = True := eq_true (by lia)
  unfold Builtin.Range.small
  rw [range3_size hst]
  generalize (b + st - 1) / st = N at hN
  simp only [Builtin.Range.rangeFitsLong, Bool.and_eq_true, Bool.or_eq_true, decide_eq_true_eq, beq_iff_eq, hpos, if_true]
  lia
section
variable {prog : Program} {w : World} {K : Frag} {Γ : GE}
variable {c : FC K Γ} {T : Tabs} {ih : Ev} {n : Nat} {A : Around} {m : Str → Option Value} {adr adr' : List Addr} {rest rest' news : Led} {H : Hp} {s : Shared} {E : Value → Shared → Prop} {l : Loc}
end
noncomputable def r3Ok : Stmt → Bool := sFor (pCall rgS (lc nSt (lc nSt (l1 nSt))))
theorem r3Ok.inv {st : Stmt} (h : r3Ok st = true) : ∃ x q r e e' e'' p1 b p, st = .For (.Name x q) (.Call (.Name (Str.ofString "range") r) [e, e', e''] [] p1) b [] p ∧ isStar e = false ∧ isStar e' = false ∧ isStar e'' = false := by
  obtain ⟨x, q, i, b, p, rfl, h1⟩ := sFor.inv h
  obtain ⟨f, as, p1, rfl, h2, h3⟩ := pCall.inv h1
  obtain ⟨r, rfl⟩ := pNm.inv h2
  obtain ⟨e, t, rfl, h4, h5⟩ := lc.inv h3
  obtain ⟨e', t', rfl, h6, h7⟩ := lc.inv h5
  obtain ⟨e'', rfl, h8⟩ := l1.inv h7
  exact ⟨x, q, r, e, e', e'', p1, b, p, rfl, nSt.is h4, nSt.is h6, nSt.is h8⟩
section
variable {prog : Program} {w : World} {K : Frag} {Γ : GE}
variable {c : FC K Γ} {T : Tabs} {ih : Ev} {n : Nat} {A : Around} {m : Str → Option Value} {adr adr' : List Addr} {rest rest' news : Led} {H : Hp} {s : Shared} {E : Value → Shared → Prop} {l : Loc}
end
end Mine
end
section
open PySem PySem.W PyProof.Rows PySem.Spec PySem.Calls
set_option maxRecDepth 100000
set_option maxHeartbeats 8000000
namespace Mine
/-! what the law calls -/
noncomputable def TAB0 : List (Str × Addr) := TAB.take 16
noncomputable def spStates (lvs : List LV) (H : Hp) (P : KV) : Prop := un lvs (lenK H 0 fun k => forceK (H ++ [.tab TAB0]) (P (.obj k)))
noncomputable def spTFeed (lvs : List LV) (H : Hp) (P : KV) : Prop := ∃ (text : Str) (σ : FS) (pos : Int) (state : Str) (out errs : List Dat) (wait done : Bool) (dv : LV) (D : Hp), lvs = [.obj 1, .d (.str text)] ∧ H = FH false σ pos state out errs wait done dv D ∧ DOk D ∧ (∀ k ∈ text.cps.toList, okSign k = true) ∧
  σ.signs.length + text.length ≤ szLine ∧ σ.serr.length + text.length ≤ szLine ∧ P (.d .none) (FH false (feedL σ text.cps.toList) pos state out errs false done dv D)
noncomputable def spEnd (lvs : List LV) (H : Hp) (P : KV) : Prop := ∃ (closed : Bool) (σ : FS) (pos : Int) (state : Str) (out errs : List Dat) (wait done : Bool) (dv : LV) (D : Hp), lvs = [.obj 1] ∧ H = FH closed σ pos state out errs wait done dv D ∧ DOk D ∧ P (.d .none) (FH true σ pos state out errs false done dv D)
noncomputable def P11 : Pm := fun f => cond (Nat.beq f 322) (some spStates) (cond (Nat.beq f 425) (some spTFeed) (cond (Nat.beq f 432) (some spEnd) none))
section
variable {prog : Program} {w : World} {Γ : GE}
variable {c : FC (KF w) Γ} {m : Str → Option Value} {adr : List Addr} {rest news : Led} {H : Hp} {s : Shared} {vs : List Value} {P : KV} {R : Result → Shared → Prop}
theorem merged_tab : merged [] (TABV TAB0) = TABV TAB0 := by decide +kernel
set_option tactic.hygienic true in
theorem states_ok (G : FG c) (hr : Room c.A 1) (SA : AtS prog w c m adr rest news H s) (hm : MtL adr rest [] vs) (hP : P (.obj H.length) (H ++ [.tab TAB0]))
    (r : Ret prog w Mt c m adr rest s P (fun v s' => R (.ok (.ret v)) s')) : codeAny (model prog w) c.A (.call (.ref 322) ⟨vs, []⟩) R s := by
  refine enter ((tt_ok w).fn 322 [] [] (by kernel_rfl)) G hr SA hm rfl r fun c' m' s' E' Q' ec hE ht0 G' hr' S' hl' r' => ?_
  have hr1 : isRet1 (bodyOf (KF w) 322) = true := by kernel_rfl
  have hd : isDict (retE1 (bodyOf (KF w) 322)) = true := by kernel_rfl
  have ht : dTab TT c'.cs (dK (retE1 (bodyOf (KF w) 322))) (dV (retE1 (bodyOf (KF w) 322))) = some TAB0 := by rw [ec]; kernel_rfl
  generalize bodyOf (KF w) 322 = body at hr1 hd ht
  refine ret1 hr1 ?_
  generalize retE1 body = e at hd ht
  unfold isDict at hd
  split at hd
  · rename_i ks vs' pos
    obtain ⟨h1, h2, h3, h4⟩ := dTab_ok (prog := prog) (w := w) (E := E') (m := m') (pos := pos) (tt_ok w) G' ht
    have e16 : TAB0.length = 16 := by kernel_rfl
    refine with_toks S'.tk ?_
    refine dict_long h2 (h3.trans e16) (h4.trans e16) h1 (by unfold TABV; rw [List.length_map, e16]; decide) S'.F S'.N (topRead_of c'.T).nolimit fun d o h' tk F' N' lt hsys hdict ht => ?_
    rw [merged_tab] at hdict
    have R' := S'.R.allocT (x := d) (o := o) (ts := TAB0) (fun q hq => Nat.ne_of_lt (lt q hq)) hdict hsys
    have hv : Mt (adr ++ [d]) rest (.obj H.length) (.ref d) := ⟨d, by rw [← S'.R.len, List.getElem?_append_right (Nat.le_refl _), Nat.sub_self]; rfl, rfl⟩
    exact r' (.ret (.obj H.length)) _ _ m' (adr ++ [d]) rest _ _ h' tk (List.prefix_append _ _) Sub.rfl ⟨F', N', R', ht⟩ (hl'.mono (List.prefix_append _ _) Sub.rfl) (mRet hv) hP
  · cases hd
theorem p11_ok : PmOk prog w (KF w) Γ P11 130 := by
  refine pm_cons ?_ (pm_cons (po_ev (tt_ok w) p5_ok (k := 30) (by decide) fun {lvs H P} h => ?_) (pm_cons (po_ev (tt_ok w) noPm_ok (k := 30) (by decide) fun {lvs H P} h => ?_) pm_nil))
  · intro c m adr rest news H s lvs vs P R G hr SA hm h r
    obtain ⟨rfl, h1⟩ := un.inv h
    rw [lenK_0, forceK_eq] at h1
    exact states_ok G (hr.le (by decide)) SA hm h1 r
  · obtain ⟨text, σ, pos, state, out, errs, wait, done, dv, D, rfl, rfl, hD, hok, hs, he, hP⟩ := h
    exact tfeed_ok hD hok hs he hP
  · obtain ⟨closed, σ, pos, state, out, errs, wait, done, dv, D, rfl, rfl, hD, hP⟩ := h
    exact tend_ok hD hP
end
/-! the stream's text, taken piece by piece -/
theorem feedL_app (σ : FS) (a b : List Nat) : feedL σ (a ++ b) = feedL (feedL σ a) b := by unfold feedL; rw [List.foldl_append]
theorem feed1_pre (σ : FS) (k : Nat) : ∃ t, (feed1 σ k).signs = σ.signs ++ t := by
  unfold feed1
  cases k == 13
  · cases (k == 10 && σ.ret)
    · exact ⟨[k], rfl⟩
    · exact ⟨[], by simp [cond]⟩
  · exact ⟨[10], rfl⟩
theorem feedL_pre : ∀ (ks : List Nat) (σ : FS), ∃ t, (feedL σ ks).signs = σ.signs ++ t
  | [], σ => ⟨[], (List.append_nil _).symm⟩
  | k :: ks, σ => by
    obtain ⟨t, ht⟩ := feed1_pre σ k
    obtain ⟨u, hu⟩ := feedL_pre ks (feed1 σ k)
    have : feedL σ (k :: ks) = feedL (feed1 σ k) ks := rfl
    exact ⟨t ++ u, by rw [this, hu, ht, List.append_assoc]⟩
noncomputable def σ₀ : FS := ⟨[], false, []⟩
noncomputable def cutF (l : List Nat) (i e : Nat) : List Nat := (l.drop i).take (e - i)
theorem slice_cut {x : Str} {i e : Nat} (h : i ≤ e) (he : e ≤ x.length) : Txt.slice x (some (i : Int)) (some (e : Int)) = mkS (cutF x.cps.toList i e) := by
  show StrLaws.sliceText x (some (i : Int)) (some (e : Int)) = _
  rw [StrLaws.sliceText_nat x h he]
  rfl
theorem sliceIdx_beyond (len i : Nat) {j : Int} (h : (len : Int) ≤ j) : Builtin.Str.strSliceIndices (some (i : Int)) (some j) 1 len = Builtin.Str.strSliceIndices (some (i : Int)) (some (len : Int)) 1 len := by
  have a1 : ¬ j < 0 := by lia
  have a2 : ¬ ((len : Int) < 0) := by lia
  have e1 : max (0 : Int) (min j (len : Int)) = len := by lia
  have e2 : max (0 : Int) (min (len : Int) (len : Int)) = len := by lia
  simp [Builtin.Str.strSliceIndices, a1, a2, e1, e2]
theorem piece_cut {x : Str} {i n : Nat} (h : i ≤ x.length) : Txt.slice x (some (i : Int)) (some ((i : Int) + (n : Int))) = mkS ((x.cps.toList.drop i).take n) := by
  by_cases h2 : i + n ≤ x.length
  · have e : ((i : Int) + (n : Int)) = ((i + n : Nat) : Int) := by lia
    rw [e, slice_cut (by lia) h2]
    unfold cutF; rw [show i + n - i = n by lia]
  · have e : Txt.slice x (some (i : Int)) (some ((i : Int) + (n : Int))) = Txt.slice x (some (i : Int)) (some (x.length : Int)) := by
      show StrLaws.sliceText x _ _ = StrLaws.sliceText x _ _
      unfold StrLaws.sliceText
      rw [sliceIdx_beyond x.length i (by lia)]
    rw [e, slice_cut h (Nat.le_refl _)]
    unfold cutF
    have el := lenL x
    rw [List.take_of_length_le (by rw [List.length_drop]; lia), List.take_of_length_le (by rw [List.length_drop]; lia)]
theorem take_piece (l : List Nat) (i n : Nat) : l.take (i + n) = l.take i ++ (l.drop i).take n := List.take_add
/-- the empty list that holds signs -/
theorem chars0 {prog : Program} {w : World} {adr0 : List Addr} {rest : Led} : ∀ {os1 : Hp} {as : List Addr} {os2 : Hp} {ls : Led}, Own prog w adr0 rest as (os1 ++ .list [] :: os2) ls → Own prog w adr0 rest as (os1 ++ .chars [] :: os2) ls
  | [], _, os2, _, .cons h r => by
    obtain ⟨vs, n, e, q⟩ := h
    cases q
    exact .cons ⟨[], n, e, .nil⟩ r
  | o :: os1, _, os2, _, .cons h r => .cons h (chars0 r)
end Mine
end
section
open PySem PySem.W PyProof.Rows PySem.Spec PySem.Calls
set_option maxRecDepth 100000
set_option maxHeartbeats 8000000
namespace Mine
/-! the law from the states on: the words -/
noncomputable def LGw (x : Str) (ds : List Dat) : Mine.Loc := (S "t", .obj 1) :: LGz x ds
noncomputable def LGv (n : Int) (x : Str) (ds : List Dat) : Mine.Loc := (S "size", .d (.int n)) :: LGw x ds
section
variable {w : World} {Y : Frag} {a : Addr} {x : Str} {n : Nat} {ds : List Dat} {H : Hp} {P : Fl → Mine.Loc → Hp → Prop} {PV : KV}
theorem v_h4 : (EX w Y P11 30).s (scopeOf (KX w Y) 625) (((bodyOf (KX w Y) 625).drop 4).take 1) (LGz x ds) [] P = P .next ((S "states", .obj 0) :: LGz x ds) [.tab TAB0] := by kernel_rfl
theorem v_h6 : (EX w Y P11 30).s (scopeOf (KX w Y) 625) (((bodyOf (KX w Y) 625).drop 6).take 1) ((S "states", .obj 0) :: LGz x ds) [.tab TAB] P = P .next ((S "t", .obj 1) :: (S "states", .obj 0) :: LGz x ds) ((HH TAB [] false false [] 0 (S "data") [] [] false false dN []).set 3 (.list [])) := by kernel_rfl
theorem v_h8a : (EX w Y P11 30).e (scopeOf (KX w Y) 625) (rgA 1 (nth (bodyOf (KX w Y) 625) 8)) (LGv n x ds) H PV = gd x.length (PV (.d (.int (x.length : Nat))) H) := by kernel_rfl
theorem v_h8b : (EX w Y P11 30).e (scopeOf (KX w Y) 625) (rgA 2 (nth (bodyOf (KX w Y) 625) 8)) (LGv n x ds) H PV = PV (.d (.int (n : Int))) H := by kernel_rfl
theorem v_h8c : (EX w Y P11 30).e (scopeOf (KX w Y) 625) (rgA 0 (nth (bodyOf (KX w Y) 625) 8)) (LGv n x ds) H PV = PV (.d (.int 0)) H := by kernel_rfl
end
section
variable {w : World} {Y : Frag} {a : Addr} {x : Str} {n : Nat} {i : Int} {ds : List Dat} {signs : List Nat} {closed ret : Bool} {serr : List Dat} {pos : Int} {state : Str} {out errs : List Dat} {wait done : Bool} {dv : LV} {D : Hp} {P : Fl → Mine.Loc → Hp → Prop}
theorem v_h9a : (EX w Y P11 30).s (scopeOf (KX w Y) 625) ((lpB (nth (bodyOf (KX w Y) 625) 8)).take 1) ((S "first", .d (.int i)) :: LGv n x ds) (HH TAB signs closed ret serr pos state out errs wait done dv D) P =
  (x.length ≤ szLine ∧ spTFeed [.obj 1, .d (.str (Txt.slice x (some i) (some (i + (n : Int)))))] (HH TAB signs closed ret serr pos state out errs wait done dv D) (fun Z H1 => P .next ((S "first", .d (.int i)) :: LGv n x ds) H1)) := by kernel_rfl
theorem v_h9c : (EX w Y P11 30).s (scopeOf (KX w Y) 625) ((lpB (nth (bodyOf (KX w Y) 625) 8)).drop 2) ((S "first", .d (.int i)) :: LGv n x ds) (HH TAB signs closed ret serr pos state out errs wait done dv D) P =
  gd signs.length (cond (state == Str.ofString "after DOCTYPE name")
    (cond (decide (5 < ((signs.length : Nat) : Int) - pos)) (P (.ret (.d (.bool false))) ((S "first", .d (.int i)) :: LGv n x ds) (HH TAB signs closed ret serr pos state out errs wait done dv D)) (P .next ((S "first", .d (.int i)) :: LGv n x ds) (HH TAB signs closed ret serr pos state out errs wait done dv D)))
    (cond (decide (0 < ((signs.length : Nat) : Int) - pos)) (P (.ret (.d (.bool false))) ((S "first", .d (.int i)) :: LGv n x ds) (HH TAB signs closed ret serr pos state out errs wait done dv D)) (P .next ((S "first", .d (.int i)) :: LGv n x ds) (HH TAB signs closed ret serr pos state out errs wait done dv D)))) := by kernel_rfl
theorem v_h10 : (EX w Y P11 30).s (scopeOf (KX w Y) 625) (((bodyOf (KX w Y) 625).drop 9).take 1) (LGv n x ds) (HH TAB signs closed ret serr pos state out errs wait done dv D) P = spEnd [.obj 1] (HH TAB signs closed ret serr pos state out errs wait done dv D) (fun Z H1 => P .next (LGv n x ds) H1) := by kernel_rfl
end
end Mine
end
section
open PySem PySem.W PyProof.Rows PySem.Spec PySem.Calls
set_option maxRecDepth 100000
set_option maxHeartbeats 8000000
namespace Mine
/-! states['data'] = _law_data -/
noncomputable def tbOk (st : Stmt) : Bool := sC st (fun Z Z => false) (fun ts v Z => l1 (pSub (fun Z => true) (fun Z => true)) ts && noComp v) (fun Z Z Z Z Z => false) (fun Z Z Z Z => false) (fun Z Z Z Z => false)
theorem tbOk.inv {st : Stmt} (h : tbOk st = true) : ∃ o i q v p, st = .Assign [.Subscript o i q] v p ∧ noComp v = true :=
  sC.el (M := fun st => ∃ o i q v p, st = .Assign [.Subscript o i q] v p ∧ noComp v = true) h (fun Z Z h => (Bool.false_ne_true h).elim) (fun ts v p h => by
    obtain ⟨h1, h2⟩ := Bool.and_eq_true_iff.mp h
    obtain ⟨t, e1, h3⟩ := l1.inv h1
    obtain ⟨o, i, q, e2, _, _⟩ := pSub.inv h3
    rw [e1, e2]
    exact ⟨o, i, q, v, p, rfl, h2⟩) (fun Z Z Z Z Z h => (Bool.false_ne_true h).elim) (fun Z Z Z Z h => (Bool.false_ne_true h).elim) (fun Z Z Z Z h => (Bool.false_ne_true h).elim)
noncomputable def tbO : Stmt → Expr
  | .Assign [.Subscript o _ _] _ _ => o
  | _ => .Constant .none 0 ⟨0, 0, 0, 0⟩
noncomputable def tbI : Stmt → Expr
  | .Assign [.Subscript _ i _] _ _ => i
  | _ => .Constant .none 0 ⟨0, 0, 0, 0⟩
section
variable {prog : Program} {w : World} {K : Frag} {Γ : GE}
variable {c : FC K Γ} {ih : Ev} {n : Nat} {m : Str → Option Value} {adr : List Addr} {rest news : Led} {H : Hp} {s : Shared} {E : Value → Shared → Prop} {l : Mine.Loc}
theorem tb_ok (IH : Sound prog w K Γ ih n) (G : FG c) (hr : Room c.A n) {st : Stmt} (ho : tbOk st = true) {i : Nat} {f : Addr} {x : Str} {ts : List (Str × Addr)} {Q : Flow → Shared → Prop} {P : Fl → Mine.Loc → Hp → Prop} (SA : AtS prog w c m adr rest news H s) (hl : LocOk c.cl adr rest l m)
    (hv : ∀ PV : KV, PV (.top f) H → ih.e c.cs (as1E st) l H PV) (hO : ∀ PV : KV, PV (.obj i) H → ih.e c.cs (tbO st) l H PV) (hI : ∀ PV : KV, PV (.d (.str x)) H → ih.e c.cs (tbI st) l H PV)
    (ht : H[i]? = some (.tab ts)) (hx : (ts.any fun p => decide (p.1 = x)) = false) (hz : ts.length ≤ szLine) (hp : P .next l (H.set i (.tab (ts ++ [(x, f)])))) (r : RetS prog w c adr rest s P Q) : wpAny (model prog w) c.A (exec st c.env) Q E s := by
  obtain ⟨o, iv, q, v, p1, rfl, hc⟩ := tbOk.inv ho
  refine wpAny_Assign_Subscript (IH.e G hr SA (nmk G hl) (hv (fun v H1 => v = .top f ∧ H1 = H) ⟨rfl, rfl⟩) fun v1 u1 adr1 rest1 news1 H1 h1 tk1 e1 e2 S1 hm1 h2 => ?_) (swap_no hc _ _ _)
  obtain ⟨rfl, q2⟩ := h2
  rw [q2] at S1
  refine IH.e G hr S1 (nmk G (hl.mono e1 e2)) (hO (fun v H1 => v = .obj i ∧ H1 = H) ⟨rfl, rfl⟩) fun v2 u2 adr2 rest2 news2 H2 h2 tk2 e3 e4 S2 hm2 h3 => ?_
  obtain ⟨rfl, q3⟩ := h3
  rw [q3] at S2
  refine IH.e G hr S2 (nmk G ((hl.mono e1 e2).mono e3 e4)) (hI (fun v H1 => v = .d (.str x) ∧ H1 = H) ⟨rfl, rfl⟩) fun v3 u3 adr3 rest3 news3 H3 h3 tk3 e5 e6 S3 hm3 h4 => ?_
  obtain ⟨rfl, q4⟩ := h4
  rw [q4] at S3
  obtain ⟨t3, rfl⟩ := dInv hm3
  have hf : u1 = .ref f := hm1
  rw [hf]
  refine op_setTab (P := fun X H4 => H4 = H.set i (.tab (ts ++ [(x, f)]))) S3 (hm2.mono e5 e6) ht hx hz rfl ?_
  rintro b a' adr4 rest4 news4 H4 h4 tk4 e7 e8 S4 Z rfl
  exact r .next .next l m adr4 rest4 news4 _ h4 tk4 (((e1.trans e3).trans e5).trans e7) (((e2.trans e4).trans e6).trans e8) S4 ((((hl.mono e1 e2).mono e3 e4).mono e5 e6).mono e7 e8) mNext hp
end
section
variable {w : World} {Y : Frag} {x : Str} {ds : List Dat} {H : Hp} {PV : KV}
theorem v_h5v : (EX w Y P11 30).e (scopeOf (KX w Y) 625) (as1E (nth (bodyOf (KX w Y) 625) 5)) ((S "states", .obj 0) :: LGz x ds) H PV = PV (.top 620) H := by kernel_rfl
theorem v_h5o : (EX w Y P11 30).e (scopeOf (KX w Y) 625) (tbO (nth (bodyOf (KX w Y) 625) 5)) ((S "states", .obj 0) :: LGz x ds) H PV = PV (.obj 0) H := by kernel_rfl
theorem v_h5i : (EX w Y P11 30).e (scopeOf (KX w Y) 625) (tbI (nth (bodyOf (KX w Y) 625) 5)) ((S "states", .obj 0) :: LGz x ds) H PV = PV (.d (.str (S "data"))) H := by kernel_rfl
end
end Mine
end
section
open PySem PySem.W PyProof.Rows PySem.Spec PySem.Calls
set_option maxRecDepth 100000
set_option maxHeartbeats 8000000
namespace Mine
/-! the law's tokenizer -/
section
variable {prog : Program} {w : World} {Y : Frag} {Γ : GE}
variable {c : FC (KX w Y) Γ} {m : Str → Option Value} {rest news : Led} {s : Shared} {E : Value → Shared → Prop} {x : Str} {ds : List Dat}
noncomputable abbrev H00 : Hp := HH TAB [] false false [] 0 (S "data") [] [] false false dN []
theorem law_states (G : FG c) (hr : Room c.A 170) (ec : c.cs = scopeOf (KX w Y) 625) (SA : AtS prog w c m [] rest news [] s) (hl : LocOk c.cl [] rest (LGz x ds) m) {Q : Flow → Shared → Prop}
    (cont : ∀ {m1 adr1 rest1 news1 s1}, Sub rest rest1 → AtS prog w c m1 adr1 rest1 news1 H00 s1 → LocOk c.cl adr1 rest1 (LGw x ds) m1 → RetS prog w c [] [] s1 PTrue Q → wpAny (model prog w) c.A (execs ((bodyOf (KX w Y) 625).drop 7) c.env) Q E s1)
    (r : RetS prog w c [] [] s PTrue Q) : wpAny (model prog w) c.A (execs ((bodyOf (KX w Y) 625).drop 4) c.env) Q E s := by
  have P11k : PmOk prog w (KX w Y) Γ P11 130 := pm_up (fun h => kx_in) p11_ok
  have IH := run_sound (prog := prog) (Γ := Γ) (tt_okX w Y) P11k 30
  have hb : (bodyOf (KX w Y) 625).drop 4 = ((bodyOf (KX w Y) 625).drop 4).take 1 ++ (nth (bodyOf (KX w Y) 625) 5 :: (((bodyOf (KX w Y) 625).drop 6).take 1 ++ (bodyOf (KX w Y) 625).drop 7)) := by kernel_rfl
  rw [hb]
  refine lseg0 (k := 30) (tt_okX w Y) P11k G (hr.le (by decide)) SA hl (fun l0 H1 => l0 = (S "states", .obj 0) :: LGz x ds ∧ H1 = [.tab TAB0]) ?_ ?_ r
  · rw [ec]; exact Eq.mpr v_h4 ⟨rfl, _, keeps_refl _, rfl, rfl⟩
  rintro l1 m1 adr1 rest1 news1 H1 s1 ⟨rfl, rfl⟩ q1 q2 S1 L1 r1
  refine wpAny_execs_cons (tb_ok IH G (hr.le (by decide)) (st := nth (bodyOf (KX w Y) 625) 5) (by kernel_rfl) (i := 0) (f := 620) (x := S "data") (ts := TAB0) (P := fun fl l' H' => fl = .next ∧ l' = (S "states", .obj 0) :: LGz x ds ∧ H' = [.tab TAB]) S1 L1 ?_ ?_ ?_ rfl (by kernel_rfl) (by decide +kernel) ⟨rfl, rfl, by kernel_rfl⟩ ?_)
  · intro PV h; rw [ec]; exact Eq.mpr v_h5v h
  · intro PV h; rw [ec]; exact Eq.mpr v_h5o h
  · intro PV h; rw [ec]; exact Eq.mpr v_h5i h
  rintro fl f l2 m2 adr2 rest2 news2 H2 h2 tk2 q3 q4 S2 L2 hmf2 ⟨rfl, rfl, rfl⟩
  cases hmf2
  refine lseg0 (k := 30) (tt_okX w Y) P11k G (hr.le (by decide)) S2 L2 (fun l0 H1 => l0 = LGw x ds ∧ H1 = H00.set 3 (.list [])) ?_ ?_ (r1.then (h' := h2) (tk' := tk2) List.prefix_rfl Sub.rfl)
  · rw [ec]
    refine Eq.mpr v_h6 ⟨rfl, LGw x ds, ?_, rfl, rfl⟩
    exact keeps_cons (by kernel_rfl) (keeps_cons (by kernel_rfl) (keeps_cons (by kernel_rfl) keeps_nil))
  rintro l3 m3 adr3 rest3 news3 H3 s3 ⟨rfl, rfl⟩ q5 q6 S3 L3 r3
  obtain ⟨own, O, Sb, D⟩ := S3.R
  have O2 : Own prog w adr3 rest3 adr3 H00 own := chars0 (os1 := H00.take 3) (os2 := H00.drop 4) O
  exact cont (fun z hz => q6 z (q4 z (q2 z hz))) ⟨S3.F, S3.N, ⟨own, O2, Sb, D⟩, S3.tk⟩ L3 r3
end
end Mine
end
section
open PySem PySem.W PyProof.Rows PySem.Spec PySem.Calls
set_option maxRecDepth 100000
set_option maxHeartbeats 8000000
namespace Mine
/-! a cell at rest, read by its name; the size of the pieces -/
section
variable {prog : Program} {w : World} {K : Frag} {Γ : GE}
variable {c : FC K Γ} {m : Str → Option Value} {adr : List Addr} {rest news : Led} {H : Hp} {s : Shared} {E : Value → Shared → Prop} {l : Mine.Loc}
theorem nmk_rest (G : FG c) (hl : LocOk c.cl adr rest l m) {y : Str} {as a : Addr} {b : Obj} (hy : c.cs.names.lookup y = some .cell) (ha : c.cl.lookup y = some as) (hb : (as, b) ∈ rest) (hd : b.data = .cell (some (.ref a)))
    (hno : ∀ z v, c.cs.names.lookup z = some .cell → l.lookup z = some v → False) : NmOk prog w c c.env c.cs adr rest ((y, .top a) :: l) m := by
  have nm := nmk (prog := prog) (w := w) G hl
  have nd : ∀ x k, c.cs.names.lookup x = some k → (x == DBG) = false := fun x k e => beq_eq_false_iff_ne.mpr fun q => by rw [q, G.dbg] at e; cases e
  refine ⟨fun {_ _ _ _ _ _ _ x _ _ _} q1 q2 S e ev h => ?_, fun {_ _ _ _ _ _ _ x _ _ _ _} q1 q2 S e ev hv h => ?_, fun {_ _ _ _ _ _ _ x _ _ _} q1 q2 S e ev hf h => ?_, fun q1 q2 S e g h => nm.top q1 q2 S e g h, fun q1 q2 S e g h => nm.bi q1 q2 S e g h⟩
  · rw [List.lookup_cons] at ev
    refine bool_tf (b := x == y) (fun q => ?_) fun q => ?_
    · rw [beq_iff_eq.mp q, hy] at e; cases e
    · rw [q] at ev; exact nm.loc q1 q2 S e ev h
  · rw [List.lookup_cons] at ev
    refine bool_tf (b := x == y) (fun q => ?_) fun q => ?_
    · rw [q] at ev; cases ev
    · rw [q] at ev; exact (hno _ _ e ev).elim
  · rw [List.lookup_cons] at ev
    refine bool_tf (b := x == y) (fun q => ?_) fun q => ?_
    · rw [q] at ev; cases ev
      have e3 := beq_iff_eq.mp q
      subst e3
      exact nameX_C S.N ha (S.R.rest_sub _ (q2 _ hb)) hd (h _ rfl) c.hk e (nd _ _ e)
    · rw [q] at ev; exact (hno _ _ e ev).elim
end
end Mine
end
section
open PySem PySem.W PyProof.Rows PySem.Spec PySem.Calls
set_option maxRecDepth 100000
set_option maxHeartbeats 8000000
namespace Mine
/-! the size of the pieces -/
noncomputable def szOk : Stmt → Bool := sAs (fun Z => true) noComp
noncomputable def szX : Stmt → Str
  | .Assign [.Name x _] _ _ => x
  | _ => Str.ofString ""
section
variable {prog : Program} {w : World} {K : Frag} {Γ : GE}
variable {c : FC K Γ} {ih : Ev} {n : Nat} {m : Str → Option Value} {adr : List Addr} {rest news : Led} {H : Hp} {s : Shared} {E : Value → Shared → Prop} {l l' : Mine.Loc}
theorem asg_nm (IH : Sound prog w K Γ ih n) (G : FG c) (hr : Room c.A n) {st : Stmt} (ho : szOk st = true) {P : Fl → Mine.Loc → Hp → Prop} {Q : Flow → Shared → Prop} (SA : AtS prog w c m adr rest news H s) (hl : LocOk c.cl adr rest l m) (nm : NmOk prog w c c.env c.cs adr rest l' m) (hx : c.cs.names.lookup (szX st) = some .local)
    (h : ih.e c.cs (as1E st) l' H (fun v H1 => P .next ((szX st, v) :: l) H1)) (r : RetS prog w (c.tk 1) adr rest s P Q) : wpAny (model prog w) c.A (exec st c.env) Q E s := by
  obtain ⟨x, q, v, p1, rfl, _, h1⟩ := sAs.inv ho
  refine wpAny_Assign_Name (IH.e G hr SA nm h fun v u adr1 rest1 news1 H1 h1' tk1 e1 e2 S1 hm h2 => ?_) (swap_no h1 _ _ _)
  refine storeX_L S1.F S1.N (fun h' F' N' => ?_) c.hk hx
  exact (r.then e1 e2) .next .next _ _ adr1 rest1 news1 H1 h' (tk1 + 1) List.prefix_rfl Sub.rfl ⟨F', N', S1.R, Nat.le_add_left _ _⟩ ((hl.mono e1 e2).put (G.loc _ hx) hm) mNext h2
end
noncomputable def SZs : List Dat := [.int 1, .int 2, .int 3, .int 7, .int 19, .int 500]
section
variable {prog : Program} {w : World} {Y : Frag} {Γ : GE}
variable {c : FC (KX w Y) Γ} {m : Str → Option Value} {adr : List Addr} {rest news : Led} {s : Shared} {E : Value → Shared → Prop} {x : Str} {ds : List Dat} {a ak as : Addr} {PV : KV}
theorem v_h7x : (EX w Y (P19 a) 30).e (scopeOf (KX w Y) 625) (as1E (nth (bodyOf (KX w Y) 625) 7)) ((S "script", .top a) :: LGw x ds) H00 PV =
  ((a = a ∧ (0 : Int) ≤ 35) ∧ ∀ d : Int, ((0 ≤ Int.fmod d 6 ∧ Int.fmod d 6 < ((SZs.length : Nat) : Int) ∧ SZs.length ≤ szLine) ∧
    ∀ z : Int, ([1, 2, 3, 7, 19, 500][Int.toNat (Int.fmod d 6)]? = some z) → PV (.d (.int z)) (H00 ++ [.list SZs]))) := by kernel_rfl
/-- the size of a piece -/
noncomputable def SzOk (n : Nat) : Prop := n = 1 ∨ n = 2 ∨ n = 3 ∨ n = 7 ∨ n = 19 ∨ n = 500
theorem law_size (hY : Scr w Y a) (G : FG c) (hr : Room c.A 110) (ec : c.cs = scopeOf (KX w Y) 625) (ecl : c.cl = [(S "k", ak), (S "script", as)]) (SA : AtS prog w c m adr rest news H00 s) (hl : LocOk c.cl adr rest (LGw x ds) m) (hb : ∃ b, (as, b) ∈ rest ∧ b.data = .cell (some (.ref a))) {Q : Flow → Shared → Prop}
    (cont : ∀ {n m1 adr1 rest1 news1 s1}, SzOk n → adr1.length = 7 → Sub rest rest1 → AtS prog w (c.tk 1) m1 adr1 rest1 news1 H00 s1 → LocOk c.cl adr1 rest1 (LGv (n : Nat) x ds) m1 → RetS prog w c [] [] s1 PTrue Q → wpAny (model prog w) c.A (execs ((bodyOf (KX w Y) 625).drop 8) c.env) Q E s1)
    (r : RetS prog w c [] [] s PTrue Q) : wpAny (model prog w) c.A (execs ((bodyOf (KX w Y) 625).drop 7) c.env) Q E s := by
  have IH := run_sound (prog := prog) (Γ := Γ) (tt_okX w Y) (p19_ok hY) 30
  obtain ⟨b, hb1, hb2⟩ := hb
  have hbd : (bodyOf (KX w Y) 625).drop 7 = nth (bodyOf (KX w Y) 625) 7 :: (bodyOf (KX w Y) 625).drop 8 := by kernel_rfl
  rw [hbd]
  have clx : c.cl.lookup (S "size") = none := by rw [ecl]; kernel_rfl
  have nm := nmk_rest (prog := prog) (w := w) G hl (y := S "script") (a := a) (as := as) (by rw [ec]; kernel_rfl) (by rw [ecl]; kernel_rfl) hb1 hb2 (fun z v h1 h2 => by
    rw [ec] at h1
    have h3 : (LGw x ds).lookup z = some v := h2
    unfold LGw LGz at h3
    rw [List.lookup_cons] at h3
    refine bool_tf (b := z == S "t") (fun q => ?_) fun q => ?_
    · rw [beq_iff_eq.mp q] at h1
      have : (scopeOf (KX w Y) 625).names.lookup (S "t") = some .local := by kernel_rfl
      rw [this] at h1; cases h1
    rw [q] at h3
    rw [List.lookup_cons] at h3
    refine bool_tf (b := z == S "due") (fun q => ?_) fun q => ?_
    · rw [beq_iff_eq.mp q] at h1
      have : (scopeOf (KX w Y) 625).names.lookup (S "due") = some .local := by kernel_rfl
      rw [this] at h1; cases h1
    rw [q] at h3
    rw [List.lookup_cons] at h3
    refine bool_tf (b := z == S "text") (fun q => ?_) fun q => ?_
    · rw [beq_iff_eq.mp q] at h1
      have : (scopeOf (KX w Y) 625).names.lookup (S "text") = some .local := by kernel_rfl
      rw [this] at h1; cases h1
    rw [q] at h3; cases h3)
  have hsx : szX (nth (bodyOf (KX w Y) 625) 7) = S "size" := by kernel_rfl
  refine wpAny_execs_cons (asg_nm IH G (hr.le (by decide)) (st := nth (bodyOf (KX w Y) 625) 7) (by kernel_rfl) (P := fun fl l' H' => fl = .next ∧ ∃ n : Nat, SzOk n ∧ l' = LGv n x ds ∧ H' = H00 ++ [.list SZs]) SA hl nm (by rw [ec, hsx]; kernel_rfl) ?_ ?_)
  · rw [ec, hsx]
    refine Eq.mpr v_h7x ⟨⟨rfl, by decide⟩, fun d => ?_⟩
    obtain ⟨f1, f2⟩ := fmod_lt (dg := d) (n := 6) (by decide)
    refine ⟨⟨f1, f2, by decide⟩, fun z hz => ?_⟩
    generalize Int.toNat (Int.fmod d 6) = k at hz
    match k, hz with
    | 0, hz => cases hz; exact ⟨rfl, 1, .inl rfl, rfl, rfl⟩
    | 1, hz => cases hz; exact ⟨rfl, 2, .inr (.inl rfl), rfl, rfl⟩
    | 2, hz => cases hz; exact ⟨rfl, 3, .inr (.inr (.inl rfl)), rfl, rfl⟩
    | 3, hz => cases hz; exact ⟨rfl, 7, .inr (.inr (.inr (.inl rfl))), rfl, rfl⟩
    | 4, hz => cases hz; exact ⟨rfl, 19, .inr (.inr (.inr (.inr (.inl rfl)))), rfl, rfl⟩
    | 5, hz => cases hz; exact ⟨rfl, 500, .inr (.inr (.inr (.inr (.inr rfl)))), rfl, rfl⟩
    | k + 6, hz => cases hz
  rintro fl f l2 m2 adr2 rest2 news2 H2 h2 tk2 q1 q2 S2 L2 hmf2 ⟨rfl, n, hn, rfl, rfl⟩
  cases hmf2
  obtain ⟨own, R3, _⟩ := S2.R.cut (H1 := H00) (by kernel_rfl)
  have L3 : LocOk c.cl (adr2.take 7) (own ++ rest2) (LGv n x ds) m2 := (L2.cut (k := 7) fun y v hy => look_small (l := LGv n x ds) (k := 7) (by kernel_rfl) hy).mono List.prefix_rfl fun z hz => List.mem_append_right _ hz
  exact cont hn (by rw [R3.len]; rfl) (fun z hz => List.mem_append_right _ (q2 z hz)) ⟨S2.F, S2.N, R3, S2.tk⟩ L3 (r.then (h' := h2) (tk' := tk2) List.prefix_rfl Sub.rfl)
end
end Mine
end
section
open PySem PySem.W PyProof.Rows PySem.Spec PySem.Calls
set_option maxRecDepth 100000
set_option maxHeartbeats 8000000
namespace Mine
/-! for x in range(0, b, step), the turn by hand, the way back held from the loop's start -/
section
variable {prog : Program} {w : World} {K : Frag} {Γ : GE}
variable {c : FC K Γ} {ih : Ev} {n : Nat} {m : Str → Option Value} {adr : List Addr} {rest news : Led} {H : Hp} {s : Shared} {E : Value → Shared → Prop} {l : Mine.Loc}
theorem for_r3h (IH : Sound prog w K Γ ih n) (G : FG c) (hr : Room c.A n) {stm : Stmt} (ho : r3Ok stm = true) {b st N : Nat} {P : Fl → Mine.Loc → Hp → Prop} {Q : Flow → Shared → Prop} (Jh : Nat → Hp → Prop)
    (hE : PassesOwn (model prog w) c.A c.env E) (hx : c.cs.names.lookup (lpX stm) = some .local) (hg : c.cs.names.lookup (Str.ofString "range") = some .globalImplicit) (hn : nsIn K mainGlobals (Str.ofString "range") = some none) (SA : AtS prog w c m adr rest news H s) (hl : LocOk c.cl adr rest l m)
    (hi : ih.e c.cs (rgA 0 stm) l H (fun v H1 => v = .d (.int 0) ∧ ih.e c.cs (rgA 1 stm) l H1 (fun v H1 => v = .d (.int (b : Int)) ∧ ih.e c.cs (rgA 2 stm) l H1 (fun v H1 => v = .d (.int (st : Int)) ∧ Jh 0 H1)))) (hst : 1 ≤ st) (hst2 : st ≤ 1000) (hb2 : b ≤ 1000000) (hN : N = (b + st - 1) / st)
    (turn : ∀ (i : Nat) (adr' : List Addr) (rest' news' : Led) (H' : Hp) (m' : Str → Option Value) (s' : Shared) (Q' : Flow → Shared → Prop), i < N → adr <+: adr' → Jh i H' → AtS prog w c.t00 m' adr' rest' news' H' s' → LocOk c.cl adr' rest' ((lpX stm, .d (.int ((i * st : Nat) : Int))) :: l) m' →
      RetS prog w c.t00 adr rest' s' (fun fl l' H'' => fl = .next ∧ Jh (i + 1) H'' ∧ Keeps l l') Q' → wpAny (model prog w) c.A (execs (lpB stm) c.env) Q' E s')
    (done : ∀ H', Jh N H' → P .next l H') (r : RetS prog w c adr rest s P Q) : wpAny (model prog w) c.A (exec stm c.env) Q E s := by
  obtain ⟨x, q, r1, e, e', e'', p1, body, p2, rfl, he, he', he''⟩ := r3Ok.inv ho
  refine with_toks SA.tk ?_
  refine For_invVF SA.F hx (by show (c.cs.kind == .class || (c.cs.kind == .module && _)) = false; rw [c.hk]; rfl) ?_ (fun Z => rfl) hE
  refine Call_ (nameX_B SA.F c.X (topRead_of c.T) hn boot_range (by decide +kernel) ?_ c.hk hg (by decide +kernel))
  refine Pv.callWith_type1 (args_cons (IH.e G hr SA (nmk G hl) hi fun v u adr1 rest1 news1 H1 h1 tk1 e1 e2 S1 hm hp => args_cons (IH.e G hr S1 (nmk G (hl.mono e1 e2)) hp.2 fun v' u' adr2 rest2 news2 H2 h2 tk2 e3 e4 S2 hm2 hp2 => args_cons (IH.e G hr S2 (nmk G ((hl.mono e1 e2).mono e3 e4)) hp2.2 fun v'' u'' adr3 rest3 news3 H3 h3 tk3 e5 e6 S3 hm3 hp3 => args_nil ?_) (starEach_cons he'')) (starEach_cons he')) (starEach_cons he)) (starEach_cons he) (by rw [starEach_cons he', starEach_cons he'']; rfl)
  obtain ⟨rfl, _⟩ := hp
  obtain ⟨rfl, _⟩ := hp2
  obtain ⟨rfl, hj⟩ := hp3
  obtain ⟨_, rfl⟩ := dInv hm
  obtain ⟨_, rfl⟩ := dInv hm2
  cases hm3
  refine range3_rows S3.F S3.N (by lia) (fun h' tk t₁ u₁ v₁ hR F' N' Z => ?_) (.inl (PyProof.noPylong_small (by lia)))
  refine for_range (s := { s with heap := h', toks := tk }) (n := N) (fun i => JH prog w c.cl l adr rest3 (Jh i)) c.hh hR (small3 hst hst2 hb2) (by rw [hN]; exact range3_size hst) F' N' ⟨adr3, rest3, H3, (e1.trans e3).trans e5, Sub.rfl, S3.R, ((hl.mono e1 e2).mono e3 e4).mono e5 e6, hj⟩ ?_ ?_
  · intro i t m₁ nx h tk I oI hk hns hlt hne hJ F₁ N₁
    have ei : (0 : Int) + (i : Int) * (st : Int) = ((i * st : Nat) : Int) := by rw [Int.zero_add, Int.natCast_mul]
    rw [ei] at F₁
    have hrI : ∀ q ∈ rest3, q.1 ≠ I := fun q hq => Nat.ne_of_lt (hlt q (S3.R.rest_sub q hq))
    obtain ⟨adr4, rest4, H4, g1, g2, R1, L1, hj4⟩ := hJ
    have R2 := R1.grow (x := I) (o := oI) hne
    refine turn i adr4 ((I, oI) :: rest4) ((I, oI) :: nx) H4 (fun y => if y = x then some _ else m₁ y) _ _ hk g1 hj4 ⟨F₁, N₁, R2, Nat.zero_le _⟩ ((L1.mono List.prefix_rfl Sub.cons).put (G.loc _ hx) mInt) ?_
    rintro fl f l' m' adr5 rest5 news5 H5 h5 tk5 q1 q2 S5 L5 hmf ⟨rfl, hp1, hp2⟩
    cases hmf
    have hI : (I, oI) ∈ rest5 := q2 _ (.head _)
    obtain ⟨own, O, Sb, D⟩ := S5.R
    have D' : DN rest5 := DN.sub (List.sublist_append_right _ _) D
    have hu : ∀ a o, (a, o) ∈ rest5 → a = I → o = oI := fun a o h e => by subst e; exact DN.fn D' h hI
    refine ⟨h5, tk5, m', without I news5, rfl, S5.F, ?_, without_ne, adr5, without I rest5, H5, q1, fun z hz => mem_without (q2 z (.tail _ (g2 z hz))) (hrI z hz), RepH.drop ⟨own, O, Sb, D⟩ hI hns, (L5.drop hu hns).keeps hp2, hp1⟩
    intro q hq
    rcases List.mem_cons.mp hq with e | e
    · exact e ▸ S5.N _ (Sb _ (List.mem_append_right _ hI))
    · exact S5.N q (without_sub q e)
  · rintro m' nx h tk ⟨adr4, rest4, H4, q1, q2, R4, L4, hj4⟩ F' N' ht
    exact r .next .next l m' adr4 rest4 nx H4 h tk q1 (((e2.trans e4).trans e6).trans q2) ⟨F', N', R4, ht⟩ L4 mNext (done H4 hj4)
end
end Mine
end
section
open PySem PySem.W PyProof.Rows PySem.Calls
set_option maxRecDepth 100000
namespace Mine
/-! the plain machine over the whole text: single steps -/
noncomputable def st (q : Q) (p : Nat) (nm pb sy : Dat) (out : List Dat) (live : Bool) : CS := ⟨q, (p : Int), nm, pb, sy, false, [], out, false, false, live, live⟩
section
variable {L : List Nat} {q : Q} {p k : Nat} {nm pb sy : Dat} {out : List Dat} {live : Bool}
theorem stepP_ch {c : CS} (hc : c.p = (p : Int)) (h : L[p]? = some k) {b : Bool} : stepP L b c = chP L b k c := by
  obtain ⟨hl, hk⟩ := List.getElem?_eq_some_iff.mp h
  unfold stepP
  rw [hc, decide_eq_true (show (p : Int) < (L.length : Int) by omega), Int.toNat_natCast, List.getD_eq_getElem?_getD, h]
  rfl
theorem stepQ_ch (h : L[p]? = some k) (hq : q ≠ .data) : stepQ L true (st q p nm pb sy out live) = nrm (chP L true k (st q p nm pb sy out live)) := by
  have e : stepR L true (st q p nm pb sy out live) = stepP L true (st q p nm pb sy out live) := by
    unfold stepR st
    cases q <;> first | rfl | exact absurd rfl hq
  unfold stepQ
  rw [e, stepP_ch rfl h]
theorem s_bang (h : L[p]? = some 33) : stepQ L true (st .data p nm pb sy out false) = st .doctype (p + 1) nm pb sy out false := by
  obtain ⟨hl, hk⟩ := List.getElem?_eq_some_iff.mp h
  show nrm (dataP L (st .data p nm pb sy out false)) = _
  unfold dataP
  rw [decide_eq_true (show (st .data p nm pb sy out false).p < (L.length : Int) by show (p : Int) < _; omega)]
  have e : L.getD (st .data p nm pb sy out false).p.toNat 0 = 33 := by
    show L.getD (p : Int).toNat 0 = 33
    rw [Int.toNat_natCast, List.getD_eq_getElem?_getD, h]; rfl
  rw [e, show (one 33 == Str.ofString "!") = true by decide +kernel]
  rfl
theorem s_char (h : L[p]? = some k) (hk : k ≠ 33) : stepQ L true (st .data p nm pb sy out false) = st .data (p + 1) nm pb sy (out ++ [charD k]) false := by
  obtain ⟨hl, _⟩ := List.getElem?_eq_some_iff.mp h
  show nrm (dataP L (st .data p nm pb sy out false)) = _
  unfold dataP
  rw [decide_eq_true (show (st .data p nm pb sy out false).p < (L.length : Int) by show (p : Int) < _; omega)]
  have e : L.getD (st .data p nm pb sy out false).p.toNat 0 = k := by
    show L.getD (p : Int).toNat 0 = k
    rw [Int.toNat_natCast, List.getD_eq_getElem?_getD, h]; rfl
  rw [e, show (one k == Str.ofString "!") = false by rw [one_eq k _ 33 (by decide +kernel)]; exact beq_eq_false_iff_ne.mpr hk]
  rfl
theorem s_eof (h : L.length ≤ p) : stepQ L true (st .data p nm pb sy out false) = { st .data (p + 1) nm pb sy (out ++ [eofD]) false with done := true } := by
  show nrm (dataP L (st .data p nm pb sy out false)) = _
  unfold dataP
  rw [decide_eq_false (show ¬ (st .data p nm pb sy out false).p < (L.length : Int) by show ¬ (p : Int) < _; omega)]
  rfl
theorem cq_is (k : Nat) (x : String) (a : Nat) (h : Str.ofString x = one a) : cq k x = (k == a) := one_eq k _ a h
theorem cq_f {x : String} (a : Nat) (h : Str.ofString x = one a) (hk : k ≠ a) : cq k x = false := by rw [cq_is k x a h]; exact beq_eq_false_iff_ne.mpr hk
theorem cq_gt (hk : k ≠ 62) : cq k ">" = false := cq_f 62 (by decide +kernel) hk
theorem cq_dq (hk : k ≠ 34) : cq k "\"" = false := cq_f 34 (by decide +kernel) hk
theorem cq_sq (hk : k ≠ 39) : cq k "'" = false := cq_f 39 (by decide +kernel) hk
theorem cq_nul (hk : k ≠ 0) : cq k "\x00" = false := cq_f 0 (by decide +kernel) hk
noncomputable def BK4 : List Nat := [9, 10, 12, 32]
theorem bk_t (hk : k ∈ BK4) : bk k = true := by
  have h : ∀ k ∈ BK4, bk k = true := by decide +kernel
  exact h k hk
theorem bk_f (hk : k ∉ BK4) : bk k = false := by
  have e : ∀ (x : Str) (a : Nat), x = one a → k ≠ a → (x == one k) = false := fun x a h hne => by
    rw [show (x == one k) = (one k == x) from BEq.comm, one_eq k x a h]; exact beq_eq_false_iff_ne.mpr hne
  have hn : ∀ a ∈ BK4, k ≠ a := fun a ha e => hk (e ▸ ha)
  show ((Str.ofString "\t" == one k) || ((Str.ofString "\n" == one k) || ((Str.ofString "\x0c" == one k) || ((Str.ofString " " == one k) || false)))) = _
  rw [e _ 9 (by decide +kernel) (hn _ (by decide)), e _ 10 (by decide +kernel) (hn _ (by decide)), e _ 12 (by decide +kernel) (hn _ (by decide)), e _ 32 (by decide +kernel) (hn _ (by decide))]
  rfl
theorem s_doctype (h : L[p]? = some k) (hb : bk k = true) : stepQ L true (st .doctype p nm pb sy out false) = st .beforeName (p + 1) nm pb sy out false := by
  rw [stepQ_ch h (by decide)]; show nrm (ch_doctype k _) = _; unfold ch_doctype; rw [hb]; rfl
theorem s_bn_bk (h : L[p]? = some k) (hb : bk k = true) : stepQ L true (st .beforeName p nm pb sy out false) = st .beforeName (p + 1) nm pb sy out false := by
  rw [stepQ_ch h (by decide)]; show nrm (ch_before_name k _) = _; unfold ch_before_name; rw [hb]; rfl
theorem s_bn_ch (h : L[p]? = some k) (hb : bk k = false) (h0 : k ≠ 0) (h1 : k ≠ 62) : stepQ L true (st .beforeName p nm pb sy out false) = st .name (p + 1) (.str (one (lowN k))) .none .none out true := by
  rw [stepQ_ch h (by decide)]; show nrm (ch_before_name k _) = _; unfold ch_before_name; rw [hb, cq_nul h0, cq_gt h1]; rfl
theorem s_n_bk (h : L[p]? = some k) (hb : bk k = true) : stepQ L true (st .name p nm pb sy out true) = st .afterName (p + 1) nm pb sy out true := by
  rw [stepQ_ch h (by decide)]; show nrm (ch_name k _) = _; unfold ch_name; rw [hb]; rfl
theorem s_n_gt (h : L[p]? = some 62) : stepQ L true (st .name p nm pb sy out true) = st .data (p + 1) nm pb sy (out ++ [docD nm pb sy false]) false := by
  rw [stepQ_ch h (by decide)]; show nrm (ch_name 62 _) = _; unfold ch_name; rw [show bk 62 = false by decide +kernel, show cq 62 ">" = true by decide +kernel]; rfl
theorem s_n_ch (h : L[p]? = some k) (hb : bk k = false) (h0 : k ≠ 0) (h1 : k ≠ 62) : stepQ L true (st .name p nm pb sy out true) = st .name (p + 1) (addS nm (one (lowN k))) pb sy out true := by
  rw [stepQ_ch h (by decide)]; show nrm (ch_name k _) = _; unfold ch_name; rw [hb, cq_nul h0, cq_gt h1]; rfl
theorem s_an_bk (h : L[p]? = some k) (hb : bk k = true) : stepQ L true (st .afterName p nm pb sy out true) = st .afterName (p + 1) nm pb sy out true := by
  rw [stepQ_ch h (by decide)]; show nrm (ch_after_name L true k _) = _; unfold ch_after_name; rw [hb]; rfl
theorem s_an_gt (h : L[p]? = some 62) : stepQ L true (st .afterName p nm pb sy out true) = st .data (p + 1) nm pb sy (out ++ [docD nm pb sy false]) false := by
  rw [stepQ_ch h (by decide)]; show nrm (ch_after_name L true 62 _) = _; unfold ch_after_name; rw [show bk 62 = false by decide +kernel, show cq 62 ">" = true by decide +kernel]; rfl
theorem s_pk_bk (h : L[p]? = some k) (hb : bk k = true) : stepQ L true (st .afterPk p nm pb sy out true) = st .beforePub (p + 1) nm pb sy out true := by
  rw [stepQ_ch h (by decide)]; show nrm (ch_after_kw true k _) = _; unfold ch_after_kw; rw [hb]; rfl
theorem s_sk_bk (h : L[p]? = some k) (hb : bk k = true) : stepQ L true (st .afterSk p nm pb sy out true) = st .beforeSys (p + 1) nm pb sy out true := by
  rw [stepQ_ch h (by decide)]; show nrm (ch_after_kw false k _) = _; unfold ch_after_kw; rw [hb]; rfl
theorem s_bp_bk (h : L[p]? = some k) (hb : bk k = true) : stepQ L true (st .beforePub p nm pb sy out true) = st .beforePub (p + 1) nm pb sy out true := by
  rw [stepQ_ch h (by decide)]; show nrm (ch_before_id true k _) = _; unfold ch_before_id; rw [hb]; rfl
theorem s_bs_bk (h : L[p]? = some k) (hb : bk k = true) : stepQ L true (st .beforeSys p nm pb sy out true) = st .beforeSys (p + 1) nm pb sy out true := by
  rw [stepQ_ch h (by decide)]; show nrm (ch_before_id false k _) = _; unfold ch_before_id; rw [hb]; rfl
theorem s_bp_d (h : L[p]? = some 34) : stepQ L true (st .beforePub p nm pb sy out true) = st .pubD (p + 1) nm (.str (S "")) sy out true := by
  rw [stepQ_ch h (by decide)]; show nrm (ch_before_id true 34 _) = _; unfold ch_before_id; rw [show bk 34 = false by decide +kernel, show cq 34 "\"" = true by decide +kernel]; rfl
theorem s_bp_s (h : L[p]? = some 39) : stepQ L true (st .beforePub p nm pb sy out true) = st .pubS (p + 1) nm (.str (S "")) sy out true := by
  rw [stepQ_ch h (by decide)]; show nrm (ch_before_id true 39 _) = _; unfold ch_before_id; rw [show bk 39 = false by decide +kernel, show cq 39 "\"" = false by decide +kernel, show cq 39 "'" = true by decide +kernel]; rfl
theorem s_bs_d (h : L[p]? = some 34) : stepQ L true (st .beforeSys p nm pb sy out true) = st .sysD (p + 1) nm pb (.str (S "")) out true := by
  rw [stepQ_ch h (by decide)]; show nrm (ch_before_id false 34 _) = _; unfold ch_before_id; rw [show bk 34 = false by decide +kernel, show cq 34 "\"" = true by decide +kernel]; rfl
theorem s_bs_s (h : L[p]? = some 39) : stepQ L true (st .beforeSys p nm pb sy out true) = st .sysS (p + 1) nm pb (.str (S "")) out true := by
  rw [stepQ_ch h (by decide)]; show nrm (ch_before_id false 39 _) = _; unfold ch_before_id; rw [show bk 39 = false by decide +kernel, show cq 39 "\"" = false by decide +kernel, show cq 39 "'" = true by decide +kernel]; rfl
theorem s_pubD_q (h : L[p]? = some 34) : stepQ L true (st .pubD p nm pb sy out true) = st .afterPub (p + 1) nm pb sy out true := by
  rw [stepQ_ch h (by decide)]; show nrm (ch_in_pub "\"" 34 _) = _; unfold ch_in_pub; rw [show cq 34 "\"" = true by decide +kernel]; rfl
theorem s_pubD_c (h : L[p]? = some k) (h2 : k ≠ 34) (h0 : k ≠ 0) (h1 : k ≠ 62) : stepQ L true (st .pubD p nm pb sy out true) = st .pubD (p + 1) nm (addS pb (one k)) sy out true := by
  rw [stepQ_ch h (by decide)]; show nrm (ch_in_pub "\"" k _) = _; unfold ch_in_pub; rw [cq_dq h2, cq_nul h0, cq_gt h1]; rfl
theorem s_pubS_q (h : L[p]? = some 39) : stepQ L true (st .pubS p nm pb sy out true) = st .afterPub (p + 1) nm pb sy out true := by
  rw [stepQ_ch h (by decide)]; show nrm (ch_in_pub "'" 39 _) = _; unfold ch_in_pub; rw [show cq 39 "'" = true by decide +kernel]; rfl
theorem s_pubS_c (h : L[p]? = some k) (h2 : k ≠ 39) (h0 : k ≠ 0) (h1 : k ≠ 62) : stepQ L true (st .pubS p nm pb sy out true) = st .pubS (p + 1) nm (addS pb (one k)) sy out true := by
  rw [stepQ_ch h (by decide)]; show nrm (ch_in_pub "'" k _) = _; unfold ch_in_pub; rw [cq_sq h2, cq_nul h0, cq_gt h1]; rfl
theorem s_sysD_q (h : L[p]? = some 34) : stepQ L true (st .sysD p nm pb sy out true) = st .afterSys (p + 1) nm pb sy out true := by
  rw [stepQ_ch h (by decide)]; show nrm (ch_in_sys "\"" 34 _) = _; unfold ch_in_sys; rw [show cq 34 "\"" = true by decide +kernel]; rfl
theorem s_sysD_c (h : L[p]? = some k) (h2 : k ≠ 34) (h0 : k ≠ 0) (h1 : k ≠ 62) : stepQ L true (st .sysD p nm pb sy out true) = st .sysD (p + 1) nm pb (addS sy (one k)) out true := by
  rw [stepQ_ch h (by decide)]; show nrm (ch_in_sys "\"" k _) = _; unfold ch_in_sys; rw [cq_dq h2, cq_nul h0, cq_gt h1]; rfl
theorem s_sysS_q (h : L[p]? = some 39) : stepQ L true (st .sysS p nm pb sy out true) = st .afterSys (p + 1) nm pb sy out true := by
  rw [stepQ_ch h (by decide)]; show nrm (ch_in_sys "'" 39 _) = _; unfold ch_in_sys; rw [show cq 39 "'" = true by decide +kernel]; rfl
theorem s_sysS_c (h : L[p]? = some k) (h2 : k ≠ 39) (h0 : k ≠ 0) (h1 : k ≠ 62) : stepQ L true (st .sysS p nm pb sy out true) = st .sysS (p + 1) nm pb (addS sy (one k)) out true := by
  rw [stepQ_ch h (by decide)]; show nrm (ch_in_sys "'" k _) = _; unfold ch_in_sys; rw [cq_sq h2, cq_nul h0, cq_gt h1]; rfl
theorem s_afterPub_bk (h : L[p]? = some k) (hb : bk k = true) : stepQ L true (st .afterPub p nm pb sy out true) = st .between (p + 1) nm pb sy out true := by
  rw [stepQ_ch h (by decide)]; show nrm (ch_after_pub k _) = _; unfold ch_after_pub; rw [hb]; rfl
theorem s_afterPub_gt (h : L[p]? = some 62) : stepQ L true (st .afterPub p nm pb sy out true) = st .data (p + 1) nm pb sy (out ++ [docD nm pb sy false]) false := by
  rw [stepQ_ch h (by decide)]; show nrm (ch_after_pub 62 _) = _; unfold ch_after_pub; rw [show bk 62 = false by decide +kernel, show cq 62 "\"" = false by decide +kernel, show cq 62 "'" = false by decide +kernel]; show nrm (CS.noSecond 62 _) = _; unfold CS.noSecond; rw [show cq 62 ">" = true by decide +kernel]; rfl
theorem s_between_bk (h : L[p]? = some k) (hb : bk k = true) : stepQ L true (st .between p nm pb sy out true) = st .between (p + 1) nm pb sy out true := by
  rw [stepQ_ch h (by decide)]; show nrm (ch_between k _) = _; unfold ch_between; rw [hb]; rfl
theorem s_between_gt (h : L[p]? = some 62) : stepQ L true (st .between p nm pb sy out true) = st .data (p + 1) nm pb sy (out ++ [docD nm pb sy false]) false := by
  rw [stepQ_ch h (by decide)]; show nrm (ch_between 62 _) = _; unfold ch_between; rw [show bk 62 = false by decide +kernel, show cq 62 "\"" = false by decide +kernel, show cq 62 "'" = false by decide +kernel]; show nrm (CS.noSecond 62 _) = _; unfold CS.noSecond; rw [show cq 62 ">" = true by decide +kernel]; rfl
theorem s_afterSys_bk (h : L[p]? = some k) (hb : bk k = true) : stepQ L true (st .afterSys p nm pb sy out true) = st .afterSys (p + 1) nm pb sy out true := by
  rw [stepQ_ch h (by decide)]; show nrm (ch_after_sys k _) = _; unfold ch_after_sys; rw [hb]; rfl
theorem s_afterSys_gt (h : L[p]? = some 62) : stepQ L true (st .afterSys p nm pb sy out true) = st .data (p + 1) nm pb sy (out ++ [docD nm pb sy false]) false := by
  rw [stepQ_ch h (by decide)]; show nrm (ch_after_sys 62 _) = _; unfold ch_after_sys; rw [show bk 62 = false by decide +kernel, show cq 62 ">" = true by decide +kernel]; rfl
theorem s_between_d (h : L[p]? = some 34) : stepQ L true (st .between p nm pb sy out true) = st .sysD (p + 1) nm pb (.str (S "")) out true := by
  rw [stepQ_ch h (by decide)]; show nrm (ch_between 34 _) = _; unfold ch_between; rw [show bk 34 = false by decide +kernel, show cq 34 "\"" = true by decide +kernel]; rfl
theorem s_between_s (h : L[p]? = some 39) : stepQ L true (st .between p nm pb sy out true) = st .sysS (p + 1) nm pb (.str (S "")) out true := by
  rw [stepQ_ch h (by decide)]; show nrm (ch_between 39 _) = _; unfold ch_between; rw [show bk 39 = false by decide +kernel, show cq 39 "\"" = false by decide +kernel, show cq 39 "'" = true by decide +kernel]; rfl
theorem lk_match {cl : Bool} : ∀ {ks : List Nat} {p : Nat}, ks <+: L.drop p → lkN L cl (ks.map lowN) p = 1
  | [], p, _ => rfl
  | k :: ks, p, ⟨r, hr⟩ => by
    have hl : p < L.length := by
      have := congrArg List.length hr
      rw [List.length_drop, List.cons_append, List.length_cons] at this
      omega
    have e1 : L.drop p = L[p] :: L.drop (p + 1) := List.drop_eq_getElem_cons hl
    rw [e1, List.cons_append] at hr
    injection hr with h1 h2
    rw [List.map_cons, lkN, show Nat.ble L.length p = false by exact Bool.eq_false_iff.mpr fun h => by have := Nat.le_of_ble_eq_true h; omega]
    have e2 : L.getD p 0 = k := by rw [List.getD_eq_getElem?_getD, List.getElem?_eq_getElem hl, ← h1]; rfl
    rw [e2, show (lowN k == lowN k) = true from beq_self_eq_true _]
    exact lk_match ⟨r, h2⟩
theorem lk_no {cl : Bool} {c : Nat} {ws : List Nat} (h : L[p]? = some k) (hk : lowN k ≠ c) : lkN L cl (c :: ws) p = 0 := by
  obtain ⟨hl, _⟩ := List.getElem?_eq_some_iff.mp h
  rw [lkN, show Nat.ble L.length p = false by exact Bool.eq_false_iff.mpr fun h => by have := Nat.le_of_ble_eq_true h; omega]
  have e2 : L.getD p 0 = k := by rw [List.getD_eq_getElem?_getD, h]; rfl
  rw [e2, show (lowN k == c) = false from beq_eq_false_iff_ne.mpr hk]
  rfl
theorem low_bk (h : lowN k = 112 ∨ lowN k = 115) : bk k = false ∧ cq k ">" = false := by
  have h1 : ∀ a ∈ BK4, lowN a ≠ 112 ∧ lowN a ≠ 115 := by decide +kernel
  have h2 : lowN 62 ≠ 112 ∧ lowN 62 ≠ 115 := by decide +kernel
  refine ⟨bk_f fun hk => ?_, cq_gt fun hk => ?_⟩
  · rcases h with h | h
    · exact (h1 k hk).1 h
    · exact (h1 k hk).2 h
  · subst hk
    rcases h with h | h
    · exact h2.1 h
    · exact h2.2 h
theorem pre_get {ks : List Nat} (h : k :: ks <+: L.drop p) : L[p]? = some k := by
  obtain ⟨r, hr⟩ := h
  have := congrArg (fun x => x[0]?) hr
  simpa using this.symm
theorem p11 : ((p : Int) + 1 - 1).toNat = p := by omega
theorem s_an_pub {ks : List Nat} (h : ks <+: L.drop p) (hk : ks.map lowN = (Str.ofString "public").cps.toList) : stepQ L true (st .afterName p nm pb sy out true) = st .afterPk (p + 6) nm pb sy out true := by
  have e : (Str.ofString "public").cps.toList = [112, 117, 98, 108, 105, 99] := by decide +kernel
  match ks, h, hk with
  | [], h, hk => rw [e] at hk; cases hk
  | k :: ks, h, hk =>
    have h1 := pre_get h
    have h2 : lowN k = 112 := by rw [e] at hk; injection hk
    obtain ⟨b1, b2⟩ := low_bk (.inl h2)
    have h3 : lkI L true ((p : Int) + 1 - 1) (Str.ofString "public") = 1 := by unfold lkI; rw [p11, ← hk]; exact lk_match h
    rw [stepQ_ch h1 (by decide)]; show nrm (ch_after_name L true k _) = _; unfold ch_after_name
    rw [b1, b2, show lkI L true ((st .afterName p nm pb sy out true).p + 1 - 1) (Str.ofString "public") = 1 from h3]
    show (⟨.afterPk, (p : Int) + 1 - 1 + 6, nm, pb, sy, false, [], out, false, false, true, true⟩ : CS) = ⟨.afterPk, ((p + 6 : Nat) : Int), nm, pb, sy, false, [], out, false, false, true, true⟩
    rw [show (p : Int) + 1 - 1 + 6 = ((p + 6 : Nat) : Int) by omega]
theorem s_an_sys {ks : List Nat} (h : ks <+: L.drop p) (hk : ks.map lowN = (Str.ofString "system").cps.toList) : stepQ L true (st .afterName p nm pb sy out true) = st .afterSk (p + 6) nm pb sy out true := by
  have e : (Str.ofString "system").cps.toList = [115, 121, 115, 116, 101, 109] := by decide +kernel
  have e0 : (Str.ofString "public").cps.toList = [112, 117, 98, 108, 105, 99] := by decide +kernel
  match ks, h, hk with
  | [], h, hk => rw [e] at hk; cases hk
  | k :: ks, h, hk =>
    have h1 := pre_get h
    have h2 : lowN k = 115 := by rw [e] at hk; injection hk
    obtain ⟨b1, b2⟩ := low_bk (.inr h2)
    have h3 : lkI L true ((p : Int) + 1 - 1) (Str.ofString "system") = 1 := by unfold lkI; rw [p11, ← hk]; exact lk_match h
    have h4 : lkI L true ((p : Int) + 1 - 1) (Str.ofString "public") = 0 := by unfold lkI; rw [p11, e0]; exact lk_no h1 (by rw [h2]; decide)
    rw [stepQ_ch h1 (by decide)]; show nrm (ch_after_name L true k _) = _; unfold ch_after_name
    rw [b1, b2, show lkI L true ((st .afterName p nm pb sy out true).p + 1 - 1) (Str.ofString "public") = 0 from h4, show lkI L true ((st .afterName p nm pb sy out true).p + 1 - 1) (Str.ofString "system") = 1 from h3]
    show (⟨.afterSk, (p : Int) + 1 - 1 + 6, nm, pb, sy, false, [], out, false, false, true, true⟩ : CS) = ⟨.afterSk, ((p + 6 : Nat) : Int), nm, pb, sy, false, [], out, false, false, true, true⟩
    rw [show (p : Int) + 1 - 1 + 6 = ((p + 6 : Nat) : Int) by omega]
end
end Mine
end
section
open PySem PySem.W PyProof.Rows PySem.Calls
set_option maxRecDepth 100000
namespace Mine
/-! the plain machine over the whole text: runs -/
theorem lv_cond {b : Bool} {x y : CS} (h1 : Lv x) (h2 : Lv y) : Lv (cond b x y) := by
  cases b
  · exact h2
  · exact h1
theorem lv_chP {L : List Nat} {b : Bool} {k : Nat} {c : CS} (hc : Lv c) : Lv (chP L b k c) := by
  obtain ⟨q, p, nm, pb, sy, qk, errs, out, wait, done, live, has⟩ := c
  cases q <;> (show Lv (chP _ _ _ _); unfold chP; dsimp only; first | unfold ch_doctype | unfold ch_before_name | unfold ch_name | unfold ch_after_name | unfold ch_after_kw | unfold ch_before_id | unfold ch_in_pub | unfold ch_in_sys | unfold ch_after_pub | unfold ch_between | unfold ch_after_sys | unfold ch_bogus | skip) <;> (try dsimp only) <;> (repeat' apply lv_cond) <;> first | exact hc | exact fun h => rfl | exact fun h => (Bool.false_ne_true h).elim
theorem lv_eoP {c : CS} (hc : Lv c) : Lv (eoP c) := by
  obtain ⟨q, p, nm, pb, sy, qk, errs, out, wait, done, live, has⟩ := c
  cases q <;> first | exact hc | exact fun h => (Bool.false_ne_true h).elim
theorem lv_dataP {L : List Nat} {c : CS} (hc : Lv c) : Lv (dataP L c) := by
  unfold dataP
  exact lv_cond (lv_cond hc hc) hc
theorem lv_stepP {L : List Nat} {b : Bool} {c : CS} (hc : Lv c) : Lv (stepP L b c) := lv_cond (lv_chP hc) (lv_eoP hc)
theorem lv_stepR {L : List Nat} {b : Bool} {c : CS} (hc : Lv c) : Lv (stepR L b c) := by
  unfold stepR
  split
  · exact lv_dataP hc
  · exact lv_stepP hc
noncomputable def strLe (n : Nat) : Dat → Prop
  | .str x => x.length ≤ n
  | _ => False
/-- the shape of a state on the way -/
noncomputable def Shp (q : Q) (p : Nat) (nm pb sy : Dat) (live : Bool) : Prop := match q with
  | .doctype => live = false
  | .beforeName => live = false
  | .data => live = false
  | .name => live = true ∧ strLe p nm
  | .pubD => live = true ∧ strLe p pb
  | .pubS => live = true ∧ strLe p pb
  | .sysD => live = true ∧ strLe p sy
  | .sysS => live = true ∧ strLe p sy
  | _ => live = true
noncomputable def Good (L : List Nat) (c : CS) : Prop := ∃ q p nm pb sy out live, c = st q p nm pb sy out live ∧ p ≤ L.length ∧ out.length ≤ p ∧ Shp q p nm pb sy live
inductive Run (L : List Nat) : Nat → CS → CS → Prop
  | refl (c : CS) : Run L 0 c c
  | step {n : Nat} {c d : CS} : Good L c → Run L n (stepQ L true c) d → Run L (n + 1) c d
theorem Run.trans {L : List Nat} {n m : Nat} {a b c : CS} (h : Run L n a b) (k : Run L m b c) : Run L (n + m) a c := by
  induction h with
  | refl _ => rw [Nat.zero_add]; exact k
  | step g _ ih => rw [Nat.add_right_comm]; exact .step g (ih k)
theorem isS_of {n : Nat} {d : Dat} (h : strLe n d) (hn : n + 1 ≤ szLine) : isS d := by
  cases d with
  | str x => exact Nat.le_trans (Nat.succ_le_succ h) hn
  | _ => exact h.elim
theorem Good.ok {L : List Nat} {c : CS} (h : Good L c) (hL : L.length ≤ 100000) : StepOk1 c ∧ (∀ b L', Lv (stepR L' b c)) ∧ c.wait = false ∧ c.done = false := by
  obtain ⟨q, p, nm, pb, sy, out, live, rfl, h1, h2, h3⟩ := h
  have big : szLine = 16777216 := rfl
  refine ⟨⟨Int.natCast_nonneg p, Nat.zero_le _, by show out.length + 1 ≤ _; omega, rfl, ?_⟩, fun b L' => lv_stepR fun h => h, rfl, rfl⟩
  have hp : p + 1 ≤ szLine := by omega
  cases q <;> first
    | exact ⟨h3, h3⟩
    | exact ⟨h3.1, h3.1, isS_of h3.2 hp⟩
end Mine
end
section
open PySem PySem.W PyProof.Rows PySem.Calls
set_option maxRecDepth 100000
namespace Mine
/-! a step over what has come so far -/
theorem lk_open {a b : List Nat} : ∀ (ws : List Nat) (p : Nat), (lkN a false ws p = -1 ∧ a.length < p + ws.length ∧ ∀ c r, ws = c :: r → p < a.length → lowN (a.getD p 0) = c) ∨ lkN a false ws p = lkN (a ++ b) true ws p
  | [], p => .inr rfl
  | c :: ws, p => by
    by_cases hp : a.length ≤ p
    · left
      rw [lkN, show Nat.ble a.length p = true from Nat.ble_eq_true_of_le hp]
      exact ⟨rfl, by rw [List.length_cons]; omega, fun c' r e h => by omega⟩
    · have e1 : Nat.ble a.length p = false := Bool.eq_false_iff.mpr fun h => hp (Nat.le_of_ble_eq_true h)
      have e2 : Nat.ble (a ++ b).length p = false := Bool.eq_false_iff.mpr fun h => by have := Nat.le_of_ble_eq_true h; rw [List.length_append] at this; omega
      have e3 : (a ++ b).getD p 0 = a.getD p 0 := by rw [List.getD_eq_getElem?_getD, List.getD_eq_getElem?_getD, List.getElem?_append_left (by omega)]
      rw [lkN, e1, lkN, e2, e3]
      by_cases hc : lowN (a.getD p 0) = c
      · rw [show (lowN (a.getD p 0) == c) = true from beq_iff_eq.mpr hc]
        rcases lk_open (b := b) ws (p + 1) with ⟨h1, h2, _⟩ | h
        · exact .inl ⟨h1, by rw [List.length_cons]; omega, fun c' r e _ => by injection e with e1 _; rw [← e1]; exact hc⟩
        · exact .inr h
      · rw [show (lowN (a.getD p 0) == c) = false from beq_eq_false_iff_ne.mpr hc]
        exact .inr rfl
theorem stepQ_open {a b : List Nat} {c : CS} (hg : Good (a ++ b) c) (hq0 : c.p < a.length) : stepQ a false c = stepQ (a ++ b) true c ∨ (c.q = .afterName ∧ stepQ a false c = { c with wait := true } ∧ (a.length : Int) - c.p ≤ 5) := by
  obtain ⟨q, p, nm, pb, sy, out, live, rfl, h1, h2, h3⟩ := hg
  have hp : p < a.length := by have : (p : Int) < (a.length : Int) := hq0; omega
  have k1 : a[p]? = some a[p] := List.getElem?_eq_getElem hp
  have k2 : (a ++ b)[p]? = some a[p] := by rw [List.getElem?_append_left hp]; exact k1
  have eP1 := stepP_ch (c := st q p nm pb sy out live) rfl k1 (b := false)
  have eP2 := stepP_ch (c := st q p nm pb sy out live) rfl k2 (b := true)
  by_cases hq : q = .afterName
  · subst hq
    have hl : live = true := h3
    subst hl
    show nrm (stepP a false _) = nrm (stepP (a ++ b) true _) ∨ _
    have gp : a.getD p 0 = a[p] := by rw [List.getD_eq_getElem?_getD, k1]; rfl
    have w1 : (Str.ofString "public").cps.toList = [112, 117, 98, 108, 105, 99] := by decide +kernel
    have w2 : (Str.ofString "system").cps.toList = [115, 121, 115, 116, 101, 109] := by decide +kernel
    have u : ∀ (A : List Nat) (cl : Bool) (wd : Str), lkI A cl ((st .afterName p nm pb sy out true).p + 1 - 1) wd = lkN A cl wd.cps.toList p := fun A cl wd => by unfold lkI; rw [show ((st .afterName p nm pb sy out true).p + 1 - 1).toNat = p from p11]
    rw [eP1, eP2]
    show nrm (ch_after_name a false a[p] _) = nrm (ch_after_name (a ++ b) true a[p] _) ∨ _ = _ ∧ nrm (stepP a false _) = _ ∧ _
    rw [eP1]
    show nrm (ch_after_name a false a[p] _) = nrm (ch_after_name (a ++ b) true a[p] _) ∨ _ = _ ∧ nrm (ch_after_name a false a[p] _) = _ ∧ _
    unfold ch_after_name
    rw [u, u, u, u, w1, w2]
    cases bk a[p]
    · cases cq a[p] ">"
      · rcases lk_open (a := a) (b := b) [112, 117, 98, 108, 105, 99] p with ⟨n1, n2, n3⟩ | n1
        · have l0 : lowN (a.getD p 0) = 112 := n3 _ _ rfl hp
          have n4 : lkN a false [115, 121, 115, 116, 101, 109] p = 0 := lk_no k1 (by rw [← gp, l0]; decide)
          rw [n1, n4]
          exact .inr ⟨rfl, rfl, by show (a.length : Int) - (p : Int) ≤ 5; have : a.length < p + 6 := n2; omega⟩
        · rcases lk_open (a := a) (b := b) [115, 121, 115, 116, 101, 109] p with ⟨m1, m2, m3⟩ | m1
          · have l0 : lowN (a.getD p 0) = 115 := m3 _ _ rfl hp
            have n4 : lkN a false [112, 117, 98, 108, 105, 99] p = 0 := lk_no k1 (by rw [← gp, l0]; decide)
            rw [m1, n4]
            exact .inr ⟨rfl, rfl, by show (a.length : Int) - (p : Int) ≤ 5; have : a.length < p + 6 := m2; omega⟩
          · rw [n1, m1]; exact .inl rfl
      · exact .inl rfl
    · exact .inl rfl
  · left
    by_cases hd : q = .data
    · subst hd
      show nrm (dataP a _) = nrm (dataP (a ++ b) _)
      unfold dataP
      have g1 : a.getD (st .data p nm pb sy out live).p.toNat 0 = a[p] := by show a.getD (p : Int).toNat 0 = _; rw [Int.toNat_natCast, List.getD_eq_getElem?_getD, k1]; rfl
      have g2 : (a ++ b).getD (st .data p nm pb sy out live).p.toNat 0 = a[p] := by show (a ++ b).getD (p : Int).toNat 0 = _; rw [Int.toNat_natCast, List.getD_eq_getElem?_getD, k2]; rfl
      rw [g1, g2, decide_eq_true (show (st .data p nm pb sy out live).p < (a.length : Int) by show (p : Int) < _; omega), decide_eq_true (show (st .data p nm pb sy out live).p < ((a ++ b).length : Int) by show (p : Int) < _; rw [List.length_append]; omega)]
    · have e1 : stepR a false (st q p nm pb sy out live) = stepP a false (st q p nm pb sy out live) := by
        unfold stepR st; cases q <;> first | rfl | exact absurd rfl hd
      have e2 : stepR (a ++ b) true (st q p nm pb sy out live) = stepP (a ++ b) true (st q p nm pb sy out live) := by
        unfold stepR st; cases q <;> first | rfl | exact absurd rfl hd
      unfold stepQ
      rw [e1, e2, eP1, eP2]
      unfold st
      cases q <;> first | rfl | exact absurd rfl hq
end Mine
end
section
open PySem PySem.W PyProof.Rows PySem.Calls
set_option maxRecDepth 100000
namespace Mine
/-! run's premises -/
theorem Good.nd {L : List Nat} {c : CS} (h : Good L c) : c.done = false ∧ c.wait = false := by
  obtain ⟨q, p, nm, pb, sy, out, live, rfl, _⟩ := h
  exact ⟨rfl, rfl⟩
theorem Run.det {L : List Nat} {e : CS} (he : e.done = true) {n m : Nat} {c : CS} (h : Run L n c e) (k : Run L m c e) : n = m := by
  induction h generalizing m with
  | refl c => cases k with
    | refl _ => rfl
    | step g _ => rw [g.nd.1] at he; cases he
  | step g _ ih => cases k with
    | refl _ => rw [g.nd.1] at he; cases he
    | step _ k' => rw [ih he k']
noncomputable def IC (L : List Nat) (e c : CS) : Prop := ∃ n, Run L n c e
noncomputable def IO (L a : List Nat) (e c : CS) : Prop := IC L e c ∨ ∃ c', c = { c' with wait := true } ∧ c'.wait = false ∧ c'.q = .afterName ∧ (a.length : Int) - c'.p ≤ 5 ∧ IC L e c'
noncomputable def lft (L : List Nat) (e c : CS) : Nat := by classical exact if h : ∃ n, Run L n c e then Classical.choose h else 0
theorem lft_is {L : List Nat} {e c : CS} (he : e.done = true) {n : Nat} (h : Run L n c e) : lft L e c = n := by
  unfold lft
  have hx : ∃ n, Run L n c e := ⟨n, h⟩
  rw [dif_pos hx]
  exact (Classical.choose_spec hx).det he h
noncomputable def muO (L : List Nat) (e c : CS) : Nat := cond c.wait 0 (lft L e c + 1)
theorem inv_closed {L : List Nat} {e : CS} (hL : L.length ≤ 100000) (he : e.done = true) : ∀ c, IC L e c → ReadyC L true c = true → StepOk1 c ∧ Lv (stepR L true c) ∧ IC L e (stepQ L true c) ∧ lft L e (stepQ L true c) < lft L e c := by
  rintro c ⟨n, h⟩ hr
  cases h with
  | refl _ =>
    unfold ReadyC at hr
    rw [he] at hr; cases hr
  | step g k =>
    obtain ⟨g1, g2, g3, g4⟩ := g.ok hL
    refine ⟨g1, g2 _ _, ⟨_, k⟩, ?_⟩
    rw [lft_is he k, lft_is he (.step g k)]
    exact Nat.lt_succ_self _
theorem inv_open {a b : List Nat} {e : CS} (hL : (a ++ b).length ≤ 100000) (he : e.done = true) : ∀ c, IO (a ++ b) a e c → ReadyC a false c = true → StepOk1 c ∧ Lv (stepR a false c) ∧ IO (a ++ b) a e (stepQ a false c) ∧ muO (a ++ b) e (stepQ a false c) < muO (a ++ b) e c := by
  rintro c (⟨n, h⟩ | ⟨c', rfl, _⟩) hr
  · cases h with
    | refl _ =>
      unfold ReadyC at hr
      rw [he] at hr; cases hr
    | step g k =>
      obtain ⟨g1, g2, g3, g4⟩ := g.ok hL
      have hp : c.p < a.length := by
        unfold ReadyC at hr
        rw [g3, g4] at hr
        exact of_decide_eq_true hr
      refine ⟨g1, g2 _ _, ?_⟩
      rcases stepQ_open g hp with e1 | ⟨e1, e2, e3⟩
      · rw [e1]
        refine ⟨.inl ⟨_, k⟩, ?_⟩
        unfold muO
        rw [g3, lft_is he (.step g k), lft_is he k]
        cases (stepQ (a ++ b) true c).wait
        · exact Nat.succ_lt_succ (Nat.lt_succ_self _)
        · exact Nat.succ_pos _
      · rw [e2]
        refine ⟨.inr ⟨c, rfl, g3, e1, e3, _, .step g k⟩, ?_⟩
        unfold muO
        rw [g3]
        exact Nat.succ_pos _
  · unfold ReadyC at hr
    rw [show ({ c' with wait := true } : CS).wait = true from rfl] at hr
    cases hd : ({ c' with wait := true } : CS).done <;> (rw [hd] at hr; cases hr)
end Mine
end
section
open PySem PySem.W PyProof.Rows PySem.Calls
set_option maxRecDepth 100000
namespace Mine
/-! the path over the parts of a DOCTYPE -/
noncomputable def RR (L : List Nat) (c d : CS) : Prop := ∃ n, Run L n c d
theorem RR.refl {L : List Nat} {c : CS} : RR L c c := ⟨0, .refl c⟩
theorem RR.trans {L : List Nat} {a b c : CS} (h : RR L a b) (k : RR L b c) : RR L a c := by
  obtain ⟨n, h⟩ := h; obtain ⟨m, k⟩ := k; exact ⟨_, h.trans k⟩
theorem RR.one {L : List Nat} {c d : CS} (g : Good L c) (e : stepQ L true c = d) : RR L c d := ⟨1, .step g (e ▸ .refl _)⟩
section
variable {L r : List Nat} {q q' : Q} {p k : Nat} {nm pb sy : Dat} {out : List Dat} {live : Bool}
theorem dr (h : L.drop p = k :: r) : L[p]? = some k ∧ L.drop (p + 1) = r ∧ p < L.length := by
  have hl : p < L.length := by
    have := congrArg List.length h
    rw [List.length_drop, List.length_cons] at this
    omega
  have e1 : L.drop p = L[p] :: L.drop (p + 1) := List.drop_eq_getElem_cons hl
  rw [e1] at h
  injection h with h1 h2
  exact ⟨by rw [List.getElem?_eq_getElem hl, h1], h2, hl⟩
theorem good_st (hd : L.drop p = k :: r) (ho : out.length ≤ p) (hs : Shp q p nm pb sy live) : Good L (st q p nm pb sy out live) := ⟨q, p, nm, pb, sy, out, live, rfl, Nat.le_of_lt (dr hd).2.2, ho, hs⟩
theorem one_go {d : CS} (hd : L.drop p = k :: r) (ho : out.length ≤ p) (hs : Shp q p nm pb sy live) (e : L[p]? = some k → stepQ L true (st q p nm pb sy out live) = d) : RR L (st q p nm pb sy out live) d := .one (good_st hd ho hs) (e (dr hd).1)
/-- blanks that change nothing -/
theorem bk_go (hq : ∀ p k, L[p]? = some k → bk k = true → stepQ L true (st q p nm pb sy out live) = st q (p + 1) nm pb sy out live) (hs : ∀ p, Shp q p nm pb sy live) : ∀ (t : List Nat) (p : Nat), (∀ k ∈ t, k ∈ BK4) → L.drop p = t ++ r → out.length ≤ p → RR L (st q p nm pb sy out live) (st q (p + t.length) nm pb sy out live)
  | [], p, _, _, _ => .refl
  | k :: t, p, hb, hd, ho => by
    have h2 := bk_go hq hs t (p + 1) (fun k hk => hb k (.tail _ hk)) (dr hd).2.1 (Nat.le_succ_of_le ho)
    rw [show p + 1 + t.length = p + (k :: t).length by rw [List.length_cons]; omega] at h2
    exact (one_go hd ho (hs p) fun e => hq p k e (bk_t (hb k (.head _)))).trans h2
theorem strLe_add {n : Nat} {d : Dat} {y : Nat} (h : strLe n d) : strLe (n + 1) (addS d (one y)) := by
  cases d with
  | str x => show (x ++ one y).length ≤ n + 1; rw [show (x ++ one y).length = x.length + (one y).length from Array.size_append ..]; exact Nat.succ_le_succ h
  | _ => exact h.elim
noncomputable def addL (d : Dat) (t : List Nat) : Dat := t.foldl (fun d k => addS d (one k)) d
/-- a name's signs -/
theorem name_go : ∀ (t : List Nat) (p : Nat) (nm : Dat), (∀ k ∈ t, k ∉ BK4 ∧ k ≠ 0 ∧ k ≠ 62) → L.drop p = t ++ r → out.length ≤ p → strLe p nm → RR L (st .name p nm pb sy out true) (st .name (p + t.length) (addL nm (t.map lowN)) pb sy out true)
  | [], p, nm, _, _, _, _ => .refl
  | k :: t, p, nm, hb, hd, ho, hn => by
    obtain ⟨h1, h2, h3⟩ := hb k (.head _)
    have h4 := name_go t (p + 1) (addS nm (one (lowN k))) (fun k hk => hb k (.tail _ hk)) (dr hd).2.1 (Nat.le_succ_of_le ho) (strLe_add hn)
    rw [show p + 1 + t.length = p + (k :: t).length by rw [List.length_cons]; omega] at h4
    exact (one_go (q := .name) (live := true) hd ho ⟨rfl, hn⟩ fun e => s_n_ch e (bk_f h1) h2 h3).trans h4
theorem pubD_go : ∀ (t : List Nat) (p : Nat) (pb : Dat), (∀ k ∈ t, k ≠ 34 ∧ k ≠ 0 ∧ k ≠ 62) → L.drop p = t ++ r → out.length ≤ p → strLe p pb → RR L (st .pubD p nm pb sy out true) (st .pubD (p + t.length) nm (addL pb t) sy out true)
  | [], p, pb, _, _, _, _ => .refl
  | k :: t, p, pb, hb, hd, ho, hn => by
    obtain ⟨h1, h2, h3⟩ := hb k (.head _)
    have h4 := pubD_go t (p + 1) (addS pb (one k)) (fun k hk => hb k (.tail _ hk)) (dr hd).2.1 (Nat.le_succ_of_le ho) (strLe_add hn)
    rw [show p + 1 + t.length = p + (k :: t).length by rw [List.length_cons]; omega] at h4
    exact (one_go (q := .pubD) (live := true) hd ho ⟨rfl, hn⟩ fun e => s_pubD_c e h1 h2 h3).trans h4
theorem pubS_go : ∀ (t : List Nat) (p : Nat) (pb : Dat), (∀ k ∈ t, k ≠ 39 ∧ k ≠ 0 ∧ k ≠ 62) → L.drop p = t ++ r → out.length ≤ p → strLe p pb → RR L (st .pubS p nm pb sy out true) (st .pubS (p + t.length) nm (addL pb t) sy out true)
  | [], p, pb, _, _, _, _ => .refl
  | k :: t, p, pb, hb, hd, ho, hn => by
    obtain ⟨h1, h2, h3⟩ := hb k (.head _)
    have h4 := pubS_go t (p + 1) (addS pb (one k)) (fun k hk => hb k (.tail _ hk)) (dr hd).2.1 (Nat.le_succ_of_le ho) (strLe_add hn)
    rw [show p + 1 + t.length = p + (k :: t).length by rw [List.length_cons]; omega] at h4
    exact (one_go (q := .pubS) (live := true) hd ho ⟨rfl, hn⟩ fun e => s_pubS_c e h1 h2 h3).trans h4
theorem sysD_go : ∀ (t : List Nat) (p : Nat) (sy : Dat), (∀ k ∈ t, k ≠ 34 ∧ k ≠ 0 ∧ k ≠ 62) → L.drop p = t ++ r → out.length ≤ p → strLe p sy → RR L (st .sysD p nm pb sy out true) (st .sysD (p + t.length) nm pb (addL sy t) out true)
  | [], p, sy, _, _, _, _ => .refl
  | k :: t, p, sy, hb, hd, ho, hn => by
    obtain ⟨h1, h2, h3⟩ := hb k (.head _)
    have h4 := sysD_go t (p + 1) (addS sy (one k)) (fun k hk => hb k (.tail _ hk)) (dr hd).2.1 (Nat.le_succ_of_le ho) (strLe_add hn)
    rw [show p + 1 + t.length = p + (k :: t).length by rw [List.length_cons]; omega] at h4
    exact (one_go (q := .sysD) (live := true) hd ho ⟨rfl, hn⟩ fun e => s_sysD_c e h1 h2 h3).trans h4
theorem sysS_go : ∀ (t : List Nat) (p : Nat) (sy : Dat), (∀ k ∈ t, k ≠ 39 ∧ k ≠ 0 ∧ k ≠ 62) → L.drop p = t ++ r → out.length ≤ p → strLe p sy → RR L (st .sysS p nm pb sy out true) (st .sysS (p + t.length) nm pb (addL sy t) out true)
  | [], p, sy, _, _, _, _ => .refl
  | k :: t, p, sy, hb, hd, ho, hn => by
    obtain ⟨h1, h2, h3⟩ := hb k (.head _)
    have h4 := sysS_go t (p + 1) (addS sy (one k)) (fun k hk => hb k (.tail _ hk)) (dr hd).2.1 (Nat.le_succ_of_le ho) (strLe_add hn)
    rw [show p + 1 + t.length = p + (k :: t).length by rw [List.length_cons]; omega] at h4
    exact (one_go (q := .sysS) (live := true) hd ho ⟨rfl, hn⟩ fun e => s_sysS_c e h1 h2 h3).trans h4
end
end Mine
end
section
open PySem PySem.W PyProof.Rows PySem.Calls
set_option maxRecDepth 100000
namespace Mine
/-! the path over one DOCTYPE -/
noncomputable def Go (L r : List Nat) (p : Nat) (c : CS) (f : Nat → CS) : Prop := ∃ p', p ≤ p' ∧ p' ≤ L.length ∧ L.drop p' = r ∧ RR L c (f p')
section
variable {L r r' : List Nat} {q q' : Q} {p k : Nat} {nm pb sy : Dat} {out : List Dat} {live : Bool} {c : CS} {f g : Nat → CS}
theorem Go.bind (h : Go L r p c f) (k : ∀ p', p ≤ p' → p' ≤ L.length → L.drop p' = r → Go L r' p' (f p') g) : Go L r' p c g := by
  obtain ⟨p1, h1, h2, h3, h4⟩ := h
  obtain ⟨p2, k1, k2, k3, k4⟩ := k p1 h1 h2 h3
  exact ⟨p2, Nat.le_trans h1 k1, k2, k3, h4.trans k4⟩
theorem drop_app {t : List Nat} (h : L.drop p = t ++ r) (hp : p ≤ L.length) : L.drop (p + t.length) = r ∧ p + t.length ≤ L.length := by
  refine ⟨by rw [← List.drop_drop, h, List.drop_left], ?_⟩
  have := congrArg List.length h
  rw [List.length_drop, List.length_append] at this
  omega
theorem Go.one {c : CS} (hd : L.drop p = k :: r) (g : Good L c) (e : L[p]? = some k → stepQ L true c = f (p + 1)) : Go L r p c f :=
  ⟨p + 1, Nat.le_succ p, (dr hd).2.2, (dr hd).2.1, .one g (e (dr hd).1)⟩
theorem Go.of {t : List Nat} {c : CS} (hd : L.drop p = t ++ r) (hp : p ≤ L.length) (h : RR L c (f (p + t.length))) : Go L r p c f :=
  ⟨p + t.length, Nat.le_add_right _ _, (drop_app hd hp).2, (drop_app hd hp).1, h⟩
noncomputable def AllB (t : List Nat) : Prop := ∀ k ∈ t, k ∈ BK4
noncomputable def AllN (t : List Nat) : Prop := ∀ k ∈ t, k ∉ BK4 ∧ k ≠ 0 ∧ k ≠ 62
noncomputable def AllQ (a : Nat) (t : List Nat) : Prop := ∀ k ∈ t, k ≠ a ∧ k ≠ 0 ∧ k ≠ 62
theorem go_bk {t : List Nat} (hq : ∀ p k, L[p]? = some k → bk k = true → stepQ L true (st q p nm pb sy out live) = st q (p + 1) nm pb sy out live) (hs : ∀ p, Shp q p nm pb sy live) (hb : AllB t) (hd : L.drop p = t ++ r) (hp : p ≤ L.length) (ho : out.length ≤ p) :
    Go L r p (st q p nm pb sy out live) (fun p => st q p nm pb sy out live) := Go.of hd hp (bk_go hq hs t p hb hd ho)
/-- one blank into the next state, then blanks there -/
theorem go_bk1 {t : List Nat} (hs0 : Shp q p nm pb sy live) (h0 : ∀ k, L[p]? = some k → bk k = true → stepQ L true (st q p nm pb sy out live) = st q' (p + 1) nm pb sy out live)
    (hq : ∀ p k, L[p]? = some k → bk k = true → stepQ L true (st q' p nm pb sy out live) = st q' (p + 1) nm pb sy out live) (hs : ∀ p, Shp q' p nm pb sy live) (hb : AllB t) (h1 : 1 ≤ t.length) (hd : L.drop p = t ++ r) (ho : out.length ≤ p) :
    Go L r p (st q p nm pb sy out live) (fun p => st q' p nm pb sy out live) := by
  match t, h1, hb, hd with
  | k :: t, _, hb, hd =>
    refine (Go.one (f := fun p => st q' p nm pb sy out live) hd (good_st hd ho hs0) fun e => h0 k e (bk_t (hb k (.head _)))).bind fun p' k1 k2 k3 => ?_
    exact go_bk hq hs (fun k hk => hb k (.tail _ hk)) k3 k2 (Nat.le_trans ho k1)
theorem go_head {B N : List Nat} {n0 : Nat} (hB : AllB B) (hB1 : 1 ≤ B.length) (hN : AllN (n0 :: N)) (hd : L.drop p = 33 :: (B ++ n0 :: (N ++ r))) (ho : out.length ≤ p) :
    Go L r p (st .data p nm pb sy out false) (fun p => st .name p (addL (.str (one (lowN n0))) (N.map lowN)) .none .none out true) := by
  refine (Go.one (f := fun p => st .doctype p nm pb sy out false) hd (good_st (q := .data) (live := false) hd ho rfl) fun e => s_bang e).bind fun p1 a1 a2 a3 => ?_
  refine (go_bk1 (q := .doctype) (q' := .beforeName) (live := false) rfl (fun k e hb => s_doctype e hb) (fun p k e hb => s_bn_bk e hb) (fun p => rfl) hB hB1 a3 (Nat.le_trans ho a1)).bind fun p2 b1 b2 b3 => ?_
  obtain ⟨n1, n2, n3⟩ := hN n0 (.head _)
  have ho2 := Nat.le_trans (Nat.le_trans ho a1) b1
  refine (Go.one (f := fun p => st .name p (.str (one (lowN n0))) .none .none out true) b3 (good_st (q := .beforeName) (live := false) b3 ho2 rfl) fun e => s_bn_ch e (bk_f n1) n2 n3).bind fun p3 c1 c2 c3 => ?_
  have h1 : 1 ≤ p3 := by
    have := (dr b3).2.2
    rcases Nat.eq_zero_or_pos p3 with h | h
    · subst h
      have e := c3
      have e0 : p2 = 0 := Nat.le_zero.mp c1
      subst e0
      rw [b3] at c3
      have := congrArg List.length c3
      rw [List.length_cons] at this
      omega
    · exact h
  exact Go.of c3 c2 (name_go N p3 _ (fun k hk => hN k (.tail _ hk)) c3 (Nat.le_trans ho2 c1) (show (one (lowN n0)).length ≤ p3 from h1))
end
end Mine
end
section
open PySem PySem.W PyProof.Rows PySem.Calls
set_option maxRecDepth 100000
namespace Mine
/-! the path: identifiers and the end -/
section
variable {L r r' : List Nat} {q q' : Q} {p k : Nat} {nm pb sy : Dat} {out : List Dat} {live : Bool} {c : CS} {f g : Nat → CS}
theorem go_end {B : List Nat} (hs0 : Shp q p nm pb sy true) (h0 : ∀ k, L[p]? = some k → bk k = true → stepQ L true (st q p nm pb sy out true) = st q' (p + 1) nm pb sy out true)
    (hq : ∀ p k, L[p]? = some k → bk k = true → stepQ L true (st q' p nm pb sy out true) = st q' (p + 1) nm pb sy out true) (hs : ∀ p, Shp q' p nm pb sy true)
    (g0 : L[p]? = some 62 → stepQ L true (st q p nm pb sy out true) = st .data (p + 1) nm pb sy (out ++ [docD nm pb sy false]) false) (g1 : ∀ p, L[p]? = some 62 → stepQ L true (st q' p nm pb sy out true) = st .data (p + 1) nm pb sy (out ++ [docD nm pb sy false]) false)
    (hB : AllB B) (hd : L.drop p = B ++ 62 :: r) (ho : out.length ≤ p) : Go L r (p + 1) (st q p nm pb sy out true) (fun p => st .data p nm pb sy (out ++ [docD nm pb sy false]) false) := by
  match B, hB, hd with
  | [], _, hd => exact ⟨p + 1, Nat.le_refl _, (dr hd).2.2, (dr hd).2.1, .one (good_st hd ho hs0) (g0 (dr hd).1)⟩
  | b :: B, hB, hd =>
    obtain ⟨p1, a1, a2, a3, a4⟩ := go_bk1 (q := q) (q' := q') (t := b :: B) (r := 62 :: r) hs0 h0 hq hs hB (Nat.succ_pos _) hd ho
    exact ⟨p1 + 1, Nat.succ_le_succ a1, (dr a3).2.2, (dr a3).2.1, a4.trans (.one (good_st a3 (Nat.le_trans ho a1) (hs p1)) (g1 p1 (dr a3).1))⟩
theorem lenE : (S "").length = 0 := by decide +kernel
theorem sl0 {n : Nat} : strLe n (.str (S "")) := by show (S "").length ≤ n; rw [lenE]; exact Nat.zero_le _
theorem strLe_addL : ∀ {t : List Nat} {n : Nat} {d : Dat}, strLe n d → strLe (n + t.length) (addL d t)
  | [], n, d, h => h
  | k :: t, n, d, h => by
    have := strLe_addL (t := t) (strLe_add (y := k) h)
    rw [show n + 1 + t.length = n + (k :: t).length by rw [List.length_cons]; omega] at this
    exact this
theorem go_pub {a : Nat} {x : List Nat} (ha : a = 39 ∨ a = 34) (hx : AllQ a x) (hd : L.drop p = a :: (x ++ a :: r)) (ho : out.length ≤ p) : Go L r p (st .beforePub p nm pb sy out true) (fun p => st .afterPub p nm (addL (.str (S "")) x) sy out true) := by
  rcases ha with rfl | rfl
  · refine (Go.one (f := fun p => st .pubS p nm (.str (S "")) sy out true) hd (good_st (q := .beforePub) (live := true) hd ho rfl) fun e => s_bp_s e).bind fun p1 a1 a2 a3 => ?_
    obtain ⟨e1, e2⟩ := drop_app a3 a2
    refine (Go.of (f := fun p => st .pubS p nm (addL (.str (S "")) x) sy out true) a3 a2 (pubS_go x p1 _ hx a3 (Nat.le_trans ho a1) sl0)).bind fun p2 b1 b2 b3 => ?_
    exact Go.one (f := fun p => st .afterPub p nm (addL (.str (S "")) x) sy out true) b3 (good_st (q := .pubS) (live := true) b3 (Nat.le_trans (Nat.le_trans ho a1) b1) ⟨rfl, by
      have hl : x.length ≤ p2 := by
        have h1 := congrArg List.length b3
        have h2 := congrArg List.length a3
        rw [List.length_drop, List.length_cons] at h1
        rw [List.length_drop, List.length_append, List.length_cons] at h2
        omega
      have := strLe_addL (t := x) (n := p2 - x.length) (d := .str (S "")) sl0
      rwa [Nat.sub_add_cancel hl] at this⟩) fun e => s_pubS_q e
  · refine (Go.one (f := fun p => st .pubD p nm (.str (S "")) sy out true) hd (good_st (q := .beforePub) (live := true) hd ho rfl) fun e => s_bp_d e).bind fun p1 a1 a2 a3 => ?_
    refine (Go.of (f := fun p => st .pubD p nm (addL (.str (S "")) x) sy out true) a3 a2 (pubD_go x p1 _ hx a3 (Nat.le_trans ho a1) sl0)).bind fun p2 b1 b2 b3 => ?_
    exact Go.one (f := fun p => st .afterPub p nm (addL (.str (S "")) x) sy out true) b3 (good_st (q := .pubD) (live := true) b3 (Nat.le_trans (Nat.le_trans ho a1) b1) ⟨rfl, by
      have hl : x.length ≤ p2 := by
        have h1 := congrArg List.length b3
        have h2 := congrArg List.length a3
        rw [List.length_drop, List.length_cons] at h1
        rw [List.length_drop, List.length_append, List.length_cons] at h2
        omega
      have := strLe_addL (t := x) (n := p2 - x.length) (d := .str (S "")) sl0
      rwa [Nat.sub_add_cancel hl] at this⟩) fun e => s_pubD_q e
/-- a system identifier, from a state that opens it -/
theorem go_sys {a : Nat} {x : List Nat} (hs : Shp q p nm pb sy true) (hD : L[p]? = some 34 → stepQ L true (st q p nm pb sy out true) = st .sysD (p + 1) nm pb (.str (S "")) out true) (hS : L[p]? = some 39 → stepQ L true (st q p nm pb sy out true) = st .sysS (p + 1) nm pb (.str (S "")) out true)
    (ha : a = 39 ∨ a = 34) (hx : AllQ a x) (hd : L.drop p = a :: (x ++ a :: r)) (ho : out.length ≤ p) : Go L r p (st q p nm pb sy out true) (fun p => st .afterSys p nm pb (addL (.str (S "")) x) out true) := by
  rcases ha with rfl | rfl
  · refine (Go.one (f := fun p => st .sysS p nm pb (.str (S "")) out true) hd (good_st (q := q) (live := true) hd ho hs) fun e => hS e).bind fun p1 a1 a2 a3 => ?_
    refine (Go.of (f := fun p => st .sysS p nm pb (addL (.str (S "")) x) out true) a3 a2 (sysS_go x p1 _ hx a3 (Nat.le_trans ho a1) sl0)).bind fun p2 b1 b2 b3 => ?_
    exact Go.one (f := fun p => st .afterSys p nm pb (addL (.str (S "")) x) out true) b3 (good_st (q := .sysS) (live := true) b3 (Nat.le_trans (Nat.le_trans ho a1) b1) ⟨rfl, by
      have hl : x.length ≤ p2 := by
        have h1 := congrArg List.length b3
        have h2 := congrArg List.length a3
        rw [List.length_drop, List.length_cons] at h1
        rw [List.length_drop, List.length_append, List.length_cons] at h2
        omega
      have := strLe_addL (t := x) (n := p2 - x.length) (d := .str (S "")) sl0
      rwa [Nat.sub_add_cancel hl] at this⟩) fun e => s_sysS_q e
  · refine (Go.one (f := fun p => st .sysD p nm pb (.str (S "")) out true) hd (good_st (q := q) (live := true) hd ho hs) fun e => hD e).bind fun p1 a1 a2 a3 => ?_
    refine (Go.of (f := fun p => st .sysD p nm pb (addL (.str (S "")) x) out true) a3 a2 (sysD_go x p1 _ hx a3 (Nat.le_trans ho a1) sl0)).bind fun p2 b1 b2 b3 => ?_
    exact Go.one (f := fun p => st .afterSys p nm pb (addL (.str (S "")) x) out true) b3 (good_st (q := .sysD) (live := true) b3 (Nat.le_trans (Nat.le_trans ho a1) b1) ⟨rfl, by
      have hl : x.length ≤ p2 := by
        have h1 := congrArg List.length b3
        have h2 := congrArg List.length a3
        rw [List.length_drop, List.length_cons] at h1
        rw [List.length_drop, List.length_append, List.length_cons] at h2
        omega
      have := strLe_addL (t := x) (n := p2 - x.length) (d := .str (S "")) sl0
      rwa [Nat.sub_add_cancel hl] at this⟩) fun e => s_sysD_q e
end
end Mine
end
section
open PySem PySem.W PyProof.Rows PySem.Calls
set_option maxRecDepth 100000
namespace Mine
/-! the path over one DOCTYPE, whole -/
section
variable {L r r' : List Nat} {q q' : Q} {p k : Nat} {nm pb sy : Dat} {out : List Dat} {live : Bool} {c : CS} {f g : Nat → CS}
theorem kw_len {kw : List Nat} {x : Str} (h : kw.map lowN = x.cps.toList) : kw.length = x.cps.toList.length := by rw [← h, List.length_map]
theorem go_kwp {B1 kw B2 : List Nat} (h1 : AllB B1) (l1 : 1 ≤ B1.length) (hk : kw.map lowN = (Str.ofString "public").cps.toList) (h2 : AllB B2) (l2 : 1 ≤ B2.length) (hn : strLe p nm) (hd : L.drop p = B1 ++ (kw ++ (B2 ++ r))) (ho : out.length ≤ p) :
    Go L r p (st .name p nm pb sy out true) (fun p => st .beforePub p nm pb sy out true) := by
  refine (go_bk1 (q := .name) (q' := .afterName) (live := true) ⟨rfl, hn⟩ (fun k e hb => s_n_bk e hb) (fun p k e hb => s_an_bk e hb) (fun p => rfl) h1 l1 hd ho).bind fun p1 a1 a2 a3 => ?_
  have l6 : kw.length = 6 := (kw_len hk).trans (by decide +kernel)
  obtain ⟨b1, b2⟩ := drop_app a3 a2
  rw [l6] at b1 b2
  have ne : ∃ k0 r0, L.drop p1 = k0 :: r0 := by
    rw [a3]
    match kw, l6 with
    | k0 :: kw, _ => exact ⟨k0, _, rfl⟩
  obtain ⟨k0, r0, hk0⟩ := ne
  have ho1 := Nat.le_trans ho a1
  refine Go.bind (r := B2 ++ r) (f := fun p => st .afterPk p nm pb sy out true) ⟨p1 + 6, Nat.le_add_right _ _, b2, b1, .one (good_st (q := .afterName) (live := true) hk0 ho1 rfl) (s_an_pub ⟨_, a3.symm⟩ hk)⟩ fun p2 c1 c2 c3 => ?_
  exact go_bk1 (q := .afterPk) (q' := .beforePub) (live := true) rfl (fun k e hb => s_pk_bk e hb) (fun p k e hb => s_bp_bk e hb) (fun p => rfl) h2 l2 c3 (Nat.le_trans ho1 c1)
theorem go_kws {B1 kw B2 : List Nat} (h1 : AllB B1) (l1 : 1 ≤ B1.length) (hk : kw.map lowN = (Str.ofString "system").cps.toList) (h2 : AllB B2) (l2 : 1 ≤ B2.length) (hn : strLe p nm) (hd : L.drop p = B1 ++ (kw ++ (B2 ++ r))) (ho : out.length ≤ p) :
    Go L r p (st .name p nm pb sy out true) (fun p => st .beforeSys p nm pb sy out true) := by
  refine (go_bk1 (q := .name) (q' := .afterName) (live := true) ⟨rfl, hn⟩ (fun k e hb => s_n_bk e hb) (fun p k e hb => s_an_bk e hb) (fun p => rfl) h1 l1 hd ho).bind fun p1 a1 a2 a3 => ?_
  have l6 : kw.length = 6 := (kw_len hk).trans (by decide +kernel)
  obtain ⟨b1, b2⟩ := drop_app a3 a2
  rw [l6] at b1 b2
  have ne : ∃ k0 r0, L.drop p1 = k0 :: r0 := by
    rw [a3]
    match kw, l6 with
    | k0 :: kw, _ => exact ⟨k0, _, rfl⟩
  obtain ⟨k0, r0, hk0⟩ := ne
  have ho1 := Nat.le_trans ho a1
  refine Go.bind (r := B2 ++ r) (f := fun p => st .afterSk p nm pb sy out true) ⟨p1 + 6, Nat.le_add_right _ _, b2, b1, .one (good_st (q := .afterName) (live := true) hk0 ho1 rfl) (s_an_sys ⟨_, a3.symm⟩ hk)⟩ fun p2 c1 c2 c3 => ?_
  exact go_bk1 (q := .afterSk) (q' := .beforeSys) (live := true) rfl (fun k e hb => s_sk_bk e hb) (fun p k e hb => s_bs_bk e hb) (fun p => rfl) h2 l2 c3 (Nat.le_trans ho1 c1)
noncomputable abbrev stD (nm pb sy : Dat) (out : List Dat) (p : Nat) : CS := st .data p nm pb sy out false
theorem go_e0 {B : List Nat} (hn : strLe p nm) (hB : AllB B) (hd : L.drop p = B ++ 62 :: r) (ho : out.length ≤ p) : Go L r (p + 1) (st .name p nm pb sy out true) (stD nm pb sy (out ++ [docD nm pb sy false])) :=
  go_end (q := .name) (q' := .afterName) ⟨rfl, hn⟩ (fun k e hb => s_n_bk e hb) (fun p k e hb => s_an_bk e hb) (fun p => rfl) s_n_gt (fun p e => s_an_gt e) hB hd ho
theorem go_eP {B : List Nat} (hB : AllB B) (hd : L.drop p = B ++ 62 :: r) (ho : out.length ≤ p) : Go L r (p + 1) (st .afterPub p nm pb sy out true) (stD nm pb sy (out ++ [docD nm pb sy false])) :=
  go_end (q := .afterPub) (q' := .between) rfl (fun k e hb => s_afterPub_bk e hb) (fun p k e hb => s_between_bk e hb) (fun p => rfl) s_afterPub_gt (fun p e => s_between_gt e) hB hd ho
theorem go_eS {B : List Nat} (hB : AllB B) (hd : L.drop p = B ++ 62 :: r) (ho : out.length ≤ p) : Go L r (p + 1) (st .afterSys p nm pb sy out true) (stD nm pb sy (out ++ [docD nm pb sy false])) :=
  go_end (q := .afterSys) (q' := .afterSys) rfl (fun k e hb => s_afterSys_bk e hb) (fun p k e hb => s_afterSys_bk e hb) (fun p => rfl) s_afterSys_gt (fun p e => s_afterSys_gt e) hB hd ho
/-- what stands behind the name: its signs, the public and the system identifier -/
inductive TailD : List Nat → Dat → Dat → Prop
  | none {B : List Nat} : AllB B → TailD (B ++ [62]) .none .none
  | sys {B1 kw B3 x B : List Nat} {a : Nat} : AllB B1 → 1 ≤ B1.length → kw.map lowN = (Str.ofString "system").cps.toList → AllB B3 → 1 ≤ B3.length → (a = 39 ∨ a = 34) → AllQ a x → AllB B → TailD (B1 ++ (kw ++ (B3 ++ (a :: (x ++ a :: (B ++ [62])))))) .none (addL (.str (S "")) x)
  | pub {B1 kw B2 x B : List Nat} {a : Nat} : AllB B1 → 1 ≤ B1.length → kw.map lowN = (Str.ofString "public").cps.toList → AllB B2 → 1 ≤ B2.length → (a = 39 ∨ a = 34) → AllQ a x → AllB B → TailD (B1 ++ (kw ++ (B2 ++ (a :: (x ++ a :: (B ++ [62])))))) (addL (.str (S "")) x) .none
  | both {B1 kw B2 x B3 y B : List Nat} {a b : Nat} : AllB B1 → 1 ≤ B1.length → kw.map lowN = (Str.ofString "public").cps.toList → AllB B2 → 1 ≤ B2.length → (a = 39 ∨ a = 34) → AllQ a x → AllB B3 → 1 ≤ B3.length → (b = 39 ∨ b = 34) → AllQ b y → AllB B →
    TailD (B1 ++ (kw ++ (B2 ++ (a :: (x ++ a :: (B3 ++ (b :: (y ++ b :: (B ++ [62])))))))) ) (addL (.str (S "")) x) (addL (.str (S "")) y)
theorem go_tail {t : List Nat} {pb sy : Dat} (h : TailD t pb sy) (hn : ∀ p', p ≤ p' → strLe p' nm) (hd : L.drop p = t ++ r) (ho : out.length ≤ p) : Go L r (p + 1) (st .name p nm .none .none out true) (stD nm pb sy (out ++ [docD nm pb sy false])) := by
  induction h with
  | none hB => exact go_e0 (hn p (Nat.le_refl _)) hB (by rw [hd]; simp only [List.append_assoc, List.cons_append, List.nil_append]) ho
  | sys h1 l1 hk h3 l3 ha hx hB =>
    obtain ⟨p1, a1, a2, a3, a4⟩ := go_kws (pb := .none) (sy := .none) h1 l1 hk h3 l3 (hn p (Nat.le_refl _)) (by rw [hd]; simp only [List.append_assoc, List.cons_append, List.nil_append]; rfl) ho
    obtain ⟨p2, b1, b2, b3, b4⟩ := go_sys (q := .beforeSys) rfl s_bs_d s_bs_s ha hx a3 (Nat.le_trans ho a1)
    obtain ⟨p3, c1, c2, c3, c4⟩ := go_eS hB b3 (Nat.le_trans (Nat.le_trans ho a1) b1)
    exact ⟨p3, by omega, c2, c3, (a4.trans b4).trans c4⟩
  | pub h1 l1 hk h3 l3 ha hx hB =>
    obtain ⟨p1, a1, a2, a3, a4⟩ := go_kwp (pb := .none) (sy := .none) h1 l1 hk h3 l3 (hn p (Nat.le_refl _)) (by rw [hd]; simp only [List.append_assoc, List.cons_append, List.nil_append]; rfl) ho
    obtain ⟨p2, b1, b2, b3, b4⟩ := go_pub ha hx a3 (Nat.le_trans ho a1)
    obtain ⟨p3, c1, c2, c3, c4⟩ := go_eP hB b3 (Nat.le_trans (Nat.le_trans ho a1) b1)
    exact ⟨p3, by omega, c2, c3, (a4.trans b4).trans c4⟩
  | both h1 l1 hk h2 l2 ha hx h3 l3 hb hy hB =>
    obtain ⟨p1, a1, a2, a3, a4⟩ := go_kwp (pb := .none) (sy := .none) h1 l1 hk h2 l2 (hn p (Nat.le_refl _)) (by rw [hd]; simp only [List.append_assoc, List.cons_append, List.nil_append]; rfl) ho
    obtain ⟨p2, b1, b2, b3, b4⟩ := go_pub ha hx a3 (Nat.le_trans ho a1)
    obtain ⟨p3, c1, c2, c3, c4⟩ := go_bk1 (q := .afterPub) (q' := .between) (live := true) rfl (fun k e hb => s_afterPub_bk e hb) (fun p k e hb => s_between_bk e hb) (fun p => rfl) h3 l3 b3 (Nat.le_trans (Nat.le_trans ho a1) b1)
    obtain ⟨p4, d1, d2, d3, d4⟩ := go_sys (q := .between) rfl s_between_d s_between_s hb hy c3 (Nat.le_trans (Nat.le_trans (Nat.le_trans ho a1) b1) c1)
    obtain ⟨p5, e1, e2, e3, e4⟩ := go_eS hB d3 (Nat.le_trans (Nat.le_trans (Nat.le_trans (Nat.le_trans ho a1) b1) c1) d1)
    exact ⟨p5, by omega, e2, e3, (((a4.trans b4).trans c4).trans d4).trans e4⟩
end
end Mine
end
section
open PySem PySem.W PyProof.Rows PySem.Calls
set_option maxRecDepth 100000
namespace Mine
/-! the signs of a text, part by part -/
noncomputable def nl (t : List Nat) : List Nat := (feedL ⟨[], false, []⟩ t).signs
theorem nl_ret : ∀ (t s : List Nat) (b : Bool) (e : List Dat), (t.head? ≠ some 10 ∨ b = false) → (feedL ⟨s, b, e⟩ t).signs = s ++ nl t := by
  intro t s b e h
  have e0 : nl t = (crlf t).map fx := by have := (feed_nl t [] []).1; rwa [List.nil_append] at this
  rw [e0]
  cases b with
  | false => exact (feed_nl t s e).1
  | true =>
    rw [(feed_nl t s e).2]
    rcases h with h | h
    · cases t with
      | nil => rfl
      | cons k t =>
        have : k ≠ 10 := fun e => h (by rw [e]; rfl)
        rw [show skipNl (k :: t) = k :: t by show cond (k == 10) t (k :: t) = _; rw [beqF this]; rfl]
    · cases h
theorem nl_app {a b : List Nat} (h : b.head? ≠ some 10) : nl (a ++ b) = nl a ++ nl b := by
  show (feedL _ (a ++ b)).signs = _
  rw [feedL_app]
  obtain ⟨s, r, e, hs⟩ : ∃ s r e, feedL ⟨[], false, []⟩ a = ⟨s, r, e⟩ := ⟨_, _, _, rfl⟩
  have e1 : nl a = s := by unfold nl; rw [hs]
  rw [hs, e1]
  exact nl_ret b s r e (.inl h)
theorem nl_cons {k : Nat} {b : List Nat} (h : k ≠ 13) : nl (k :: b) = k :: nl b := by
  have e1 : feed1 ⟨[], false, []⟩ k = ⟨[k], false, cond (k == 127) ([] ++ [eD (S "control-character-in-input-stream") ((0 : Nat) : Int)]) []⟩ := by
    unfold feed1
    rw [beqF h, Bool.and_false]; rfl
  show (feedL (feed1 ⟨[], false, []⟩ k) b).signs = _
  rw [e1]
  exact nl_ret b [k] false _ (.inr rfl)
theorem nl_nil : nl [] = [] := rfl
theorem nl_free : ∀ {t : List Nat}, (∀ k ∈ t, k ≠ 13) → nl t = t
  | [], _ => rfl
  | k :: t, h => by rw [nl_cons (h k (.head _)), nl_free fun k hk => h k (.tail _ hk)]
theorem feed_mem : ∀ (t : List Nat) (σ : FS) (k : Nat), k ∈ (feedL σ t).signs → k ∈ σ.signs ∨ k = 10 ∨ (k ∈ t ∧ k ≠ 13)
  | [], σ, k, h => .inl h
  | c :: t, σ, k, h => by
    rcases feed_mem t (feed1 σ c) k h with h1 | h1 | h1
    · unfold feed1 at h1
      by_cases hc : c = 13
      · subst hc
        rcases List.mem_append.mp (show k ∈ σ.signs ++ [10] from h1) with h2 | h2
        · exact .inl h2
        · exact .inr (.inl (List.mem_singleton.mp h2))
      · rw [beqF hc] at h1
        cases hb : (c == 10 && σ.ret) with
        | true => rw [hb] at h1; exact .inl h1
        | false =>
          rw [hb] at h1
          rcases List.mem_append.mp (show k ∈ σ.signs ++ [c] from h1) with h2 | h2
          · exact .inl h2
          · rw [List.mem_singleton.mp h2]; exact .inr (.inr ⟨.head _, hc⟩)
    · exact .inr (.inl h1)
    · exact .inr (.inr ⟨.tail _ h1.1, h1.2⟩)
theorem nl_mem {t : List Nat} {k : Nat} (h : k ∈ nl t) : k = 10 ∨ (k ∈ t ∧ k ≠ 13) := by
  rcases feed_mem t _ k h with h | h
  · cases h
  · exact h
theorem nl_ne : ∀ {t : List Nat}, 1 ≤ t.length → 1 ≤ (nl t).length
  | k :: t, _ => by
    by_cases hk : k = 13
    · subst hk
      obtain ⟨u, hu⟩ := feedL_pre t (feed1 ⟨[], false, []⟩ 13)
      have : nl (13 :: t) = [10] ++ u := hu
      rw [this, List.length_append]; exact Nat.le_add_right 1 _
    · rw [nl_cons hk]; exact Nat.succ_pos _
end Mine
end
section
open PySem PySem.W PyProof.Rows PySem.Calls
set_option maxRecDepth 100000
namespace Mine
/-! one DOCTYPE as the law writes it: its signs, newlines made one -/
theorem addL_str : ∀ (t : List Nat) (x : Str), addL (.str x) t = .str ⟨(x.cps.toList ++ t).toArray⟩
  | [], x => by
    show Dat.str x = _
    rw [List.append_nil, Array.toArray_toList]
  | k :: t, x => by
    show addL (addS (.str x) (one k)) t = _
    rw [show addS (.str x) (one k) = .str (x ++ one k) from rfl, addL_str t, show (x ++ one k).cps.toList = x.cps.toList ++ [k] from Array.toList_append .., List.append_assoc]
    rfl
theorem str_cl {x : Str} {t : List Nat} (h : cl x = t) : (Dat.str x) = .str ⟨t.toArray⟩ := by
  subst h; rw [Array.toArray_toList]
theorem cl_e : (S "").cps.toList = [] := by decide +kernel
theorem addL_id {x : Str} {t : List Nat} (h : cl x = t) : addL (.str (S "")) t = .str x := by
  rw [addL_str, cl_e, List.nil_append]; exact (str_cl h).symm
theorem nl_bl {lo : Nat} {b : Str} (h : Bl lo b) : AllB (nl (cl b)) := by
  intro k hk
  have all : ∀ k ∈ BLC, k ≠ 13 → k ∈ BK4 := by decide +kernel
  rcases nl_mem hk with rfl | ⟨h1, h2⟩
  · decide +kernel
  · exact all k (h.2.2 k h1) h2
theorem nl_bl1 {b : Str} (h : Bl 1 b) : 1 ≤ (nl (cl b)).length := nl_ne h.1
theorem up_low {k k' : Nat} (hk : k ∈ cl NMS) (h : UpR k k') : lowN k' = k ∧ k' ∉ BK4 ∧ k' ≠ 0 ∧ k' ≠ 62 ∧ k' ≠ 13 ∧ k' ≠ 10 := by
  have a1 : ∀ k ∈ cl NMS, lowN k = k ∧ k ∉ BK4 ∧ k ≠ 0 ∧ k ≠ 62 ∧ k ≠ 13 ∧ k ≠ 10 := by decide +kernel
  have a2 : ∀ k ∈ cl NMS, 97 ≤ k → k ≤ 122 → lowN (k - 32) = k ∧ (k - 32) ∉ BK4 ∧ (k - 32) ≠ 0 ∧ (k - 32) ≠ 62 ∧ (k - 32) ≠ 13 ∧ (k - 32) ≠ 10 := by decide +kernel
  rcases h with rfl | ⟨h1, h2, rfl⟩
  · exact a1 _ hk
  · exact a2 k hk h1 h2
theorem up_word {k k' : Nat} {ws : List Nat} (hw : ∀ k ∈ ws, 97 ≤ k ∧ k ≤ 122) (hk : k ∈ ws) (h : UpR k k') : lowN k' = k ∧ k' ≠ 13 ∧ k' ≠ 10 := by
  have a1 : ∀ k, k < 123 → 97 ≤ k → lowN k = k ∧ lowN (k - 32) = k := by decide +kernel
  obtain ⟨h1, h2⟩ := hw k hk
  obtain ⟨b1, b2⟩ := a1 k (by omega) h1
  rcases h with rfl | ⟨_, _, rfl⟩
  · exact ⟨b1, by omega, by omega⟩
  · exact ⟨b2, by omega, by omega⟩
theorem all2_low : ∀ {xs ys : List Nat} {p : Nat → Prop}, All2 UpR xs ys → (∀ k ∈ xs, ∀ k', UpR k k' → lowN k' = k ∧ p k') → ys.map lowN = xs ∧ ∀ k ∈ ys, p k
  | _, _, _, .nil, _ => ⟨rfl, fun k hk => by cases hk⟩
  | _, _, _, .cons h r, hp => by
    obtain ⟨i1, i2⟩ := all2_low r fun k hk => hp k (.tail _ hk)
    obtain ⟨j1, j2⟩ := hp _ (.head _) _ h
    refine ⟨by rw [List.map_cons, i1, j1], fun k hk => ?_⟩
    rcases List.mem_cons.mp hk with rfl | hk
    · exact j2
    · exact i2 k hk
theorem word_kw {w kw : Str} (hw : ∀ k ∈ cl w, 97 ≤ k ∧ k ≤ 122) (h : Raised w kw) : (cl kw).map lowN = cl w ∧ ∀ k ∈ cl kw, k ≠ 13 ∧ k ≠ 10 :=
  all2_low h fun k hk k' hu => up_word hw hk hu
theorem head_ne : ∀ {t : List Nat} {r : List Nat}, (∀ k ∈ t, k ≠ 10) → 1 ≤ t.length → (t ++ r).head? ≠ some 10
  | k :: t, r, h, _ => fun e => h k (.head _) (by injection e)
theorem id_q {q : Nat} {x : Str} (hq : q = 39 ∨ q = 34) (h : Ident q x) : AllQ q (nl (cl x)) := by
  intro k hk
  have all : ∀ k ∈ IDL, k ≠ 0 ∧ k ≠ 62 := by decide +kernel
  rcases nl_mem hk with rfl | ⟨h1, h2⟩
  · rcases hq with rfl | rfl <;> decide
  · obtain ⟨h3, h4⟩ := h.2 k h1
    exact ⟨h4, all k h3⟩
theorem q_ne {q : Nat} (hq : q = 39 ∨ q = 34) : q ≠ 13 ∧ q ≠ 10 := by rcases hq with rfl | rfl <;> decide
theorem head_q {q : Nat} {t : List Nat} (h : q ≠ 10) : (q :: t).head? ≠ some 10 := fun e => h (by injection e)
/-- a quoted identifier and what is behind it -/
theorem nl_id {q : Nat} {x : Str} {r : List Nat} (hq : q = 39 ∨ q = 34) : nl (q :: (cl x ++ q :: r)) = q :: (nl (cl x) ++ q :: nl r) := by
  obtain ⟨h1, h2⟩ := q_ne hq
  rw [nl_cons h1, nl_app (head_q h2), nl_cons h1]
theorem nl_kw {kw : Str} {r : List Nat} (h : ∀ k ∈ cl kw, k ≠ 13 ∧ k ≠ 10) (hr : r.head? ≠ some 10 ∨ cl kw ≠ []) : nl (cl kw ++ r) = cl kw ++ nl r := by
  generalize cl kw = t at h hr
  clear hr
  induction t with
  | nil => rfl
  | cons k t ih =>
    rw [List.cons_append, nl_cons (h k (.head _)).1, ih fun k hk => h k (.tail _ hk)]; rfl
theorem rz_len {w kw : Str} (h : Raised w kw) (hw : 1 ≤ (cl w).length) : 1 ≤ (cl kw).length := by rw [← h.length]; exact hw
theorem pub_low : ∀ k ∈ cl (S "public"), 97 ≤ k ∧ k ≤ 122 := by decide +kernel
theorem sys_low : ∀ k ∈ cl (S "system"), 97 ≤ k ∧ k ≤ 122 := by decide +kernel
theorem nl_gt {b : Str} : nl (cl b ++ [62]) = nl (cl b) ++ [62] := by
  rw [nl_app (head_q (by decide)), nl_cons (by decide)]; rfl
theorem nlT_cl (x : Str) : cl (nlT x) = nl (cl x) := nl_is x
/-- a word between blanks, then what is behind it -/
theorem nl_word {b kw : Str} {r : List Nat} (h : ∀ k ∈ cl kw, k ≠ 13 ∧ k ≠ 10) (h1 : 1 ≤ (cl kw).length) : nl (cl b ++ (cl kw ++ r)) = nl (cl b) ++ (cl kw ++ nl r) := by
  rw [nl_app (head_ne (fun k hk => (h k hk).2) h1), nl_kw h (.inr fun e => by rw [e] at h1; cases h1)]
theorem nl_bq {b x : Str} {q : Nat} {r : List Nat} (hq : q = 39 ∨ q = 34) : nl (cl b ++ (q :: (cl x ++ q :: r))) = nl (cl b) ++ (q :: (nl (cl x) ++ q :: nl r)) := by
  rw [nl_app (head_q (q_ne hq).2), nl_id hq]
theorem tail_none {b4 : Str} (h4 : Bl 0 b4) : TailD (nl (cl b4 ++ [62])) .none .none := by
  rw [nl_gt]; exact .none (nl_bl h4)
theorem tail_sys {b1 kw b3 x b4 : Str} {q : Nat} (h1 : Bl 1 b1) (hk : Raised (S "system") kw) (h3 : Bl 1 b3) (hq : q = 39 ∨ q = 34) (hx : Ident q x) (h4 : Bl 0 b4) :
    TailD (nl (cl b1 ++ (cl kw ++ (cl b3 ++ (q :: (cl x ++ q :: (cl b4 ++ [62]))))))) .none (.str (nlT x)) := by
  obtain ⟨k1, k2⟩ := word_kw sys_low hk
  rw [nl_word k2 (rz_len hk (by decide +kernel)), nl_bq hq, nl_gt, ← addL_id (nlT_cl x)]
  exact .sys (nl_bl h1) (nl_bl1 h1) k1 (nl_bl h3) (nl_bl1 h3) hq (id_q hq hx) (nl_bl h4)
theorem tail_pub {b1 kw b2 x b4 : Str} {q : Nat} (h1 : Bl 1 b1) (hk : Raised (S "public") kw) (h2 : Bl 1 b2) (hq : q = 39 ∨ q = 34) (hx : Ident q x) (h4 : Bl 0 b4) :
    TailD (nl (cl b1 ++ (cl kw ++ (cl b2 ++ (q :: (cl x ++ q :: (cl b4 ++ [62]))))))) (.str (nlT x)) .none := by
  obtain ⟨k1, k2⟩ := word_kw pub_low hk
  rw [nl_word k2 (rz_len hk (by decide +kernel)), nl_bq hq, nl_gt, ← addL_id (nlT_cl x)]
  exact .pub (nl_bl h1) (nl_bl1 h1) k1 (nl_bl h2) (nl_bl1 h2) hq (id_q hq hx) (nl_bl h4)
theorem tail_both {b1 kw b2 x b3 y b4 : Str} {q q2 : Nat} (h1 : Bl 1 b1) (hk : Raised (S "public") kw) (h2 : Bl 1 b2) (hq : q = 39 ∨ q = 34) (hx : Ident q x) (h3 : Bl 1 b3) (hq2 : q2 = 39 ∨ q2 = 34) (hy : Ident q2 y) (h4 : Bl 0 b4) :
    TailD (nl (cl b1 ++ (cl kw ++ (cl b2 ++ (q :: (cl x ++ q :: (cl b3 ++ (q2 :: (cl y ++ q2 :: (cl b4 ++ [62])))))))))) (.str (nlT x)) (.str (nlT y)) := by
  obtain ⟨k1, k2⟩ := word_kw pub_low hk
  rw [nl_word k2 (rz_len hk (by decide +kernel)), nl_bq hq, nl_bq hq2, nl_gt, ← addL_id (nlT_cl x), ← addL_id (nlT_cl y)]
  exact .both (nl_bl h1) (nl_bl1 h1) k1 (nl_bl h2) (nl_bl1 h2) hq (id_q hq hx) (nl_bl h3) (nl_bl1 h3) hq2 (id_q hq2 hy) (nl_bl h4)
theorem doc_tail {fm : Int} {t1 t2 t3 : List Nat} {pb sy : Dat} {b4 : Str} (f0 : 0 ≤ fm) (f4 : fm < 4) (g1 : T1 fm t1 pb) (g2 : T2 fm t2) (g3 : T3 fm t3 sy) (h4 : Bl 0 b4) : TailD (nl (t1 ++ (t2 ++ (t3 ++ (cl b4 ++ [62]))))) (nlD pb) (nlD sy) := by
  have hf : fm = 0 ∨ fm = 1 ∨ fm = 2 ∨ fm = 3 := by omega
  rcases g1 with ⟨a1, rfl, rfl⟩ | ⟨a1, x, ⟨b1, kw, b2, q, p1, p2, p3, p4, p5, rfl⟩, rfl⟩
  · rcases g2 with ⟨a2, rfl⟩ | ⟨a2, b1, kw, p1, p2, rfl⟩
    · rcases g3 with ⟨a3, rfl, rfl⟩ | ⟨a3, y, ⟨b3, q2, r1, r2, r3, rfl⟩, rfl⟩
      · exact tail_none h4
      · rcases hf with rfl | rfl | rfl | rfl
        · exact absurd a3 (by decide)
        · exact absurd rfl a2
        · exact absurd a3 (by decide)
        · exact absurd (by decide) a1
    · rcases g3 with ⟨a3, rfl, rfl⟩ | ⟨a3, y, ⟨b3, q2, r1, r2, r3, rfl⟩, rfl⟩
      · subst a2; exact absurd (by decide) a3
      · have := tail_sys p1 p2 r1 r2 r3 h4
        show TailD _ .none (.str _)
        simpa only [List.append_assoc, List.cons_append, List.nil_append] using this
  · rcases g2 with ⟨a2, rfl⟩ | ⟨a2, _⟩
    · rcases g3 with ⟨a3, rfl, rfl⟩ | ⟨a3, y, ⟨b3, q2, r1, r2, r3, rfl⟩, rfl⟩
      · have := tail_pub p1 p2 p3 p4 p5 h4
        show TailD _ (.str _) .none
        simpa only [List.append_assoc, List.cons_append, List.nil_append] using this
      · have := tail_both p1 p2 p3 p4 p5 r1 r2 r3 h4
        show TailD _ (.str _) (.str _)
        simpa only [List.append_assoc, List.cons_append, List.nil_append] using this
    · subst a2; exact absurd a1 (by decide)
theorem nl_name {b0 rn : Str} {t : List Nat} (h : ∀ k ∈ cl rn, k ≠ 13 ∧ k ≠ 10) (h1 : 1 ≤ (cl rn).length) : nl (cl b0 ++ (cl rn ++ t)) = nl (cl b0) ++ (cl rn ++ nl t) := nl_word h h1
/-- the signs of a DOCTYPE, and its token -/
theorem doc_nl {wr : Str} {tok : Dat} (h : DocW wr tok) : ∃ (B : List Nat) (n0 : Nat) (N t : List Nat) (pb sy : Dat), AllB B ∧ 1 ≤ B.length ∧ AllN (n0 :: N) ∧ TailD t pb sy ∧ nl (cl wr) = B ++ n0 :: (N ++ t) ∧ tok = docD (addL (.str (one (lowN n0))) (N.map lowN)) pb sy false := by
  obtain ⟨fm, b0, nm, rn, b4, t1, t2, t3, pb, sy, f0, f4, h0, hnm, hrn, h4, g1, g2, g3, ew, _, rfl⟩ := h
  obtain ⟨n1, n2⟩ := all2_low (p := fun k => k ∉ BK4 ∧ k ≠ 0 ∧ k ≠ 62 ∧ k ≠ 13 ∧ k ≠ 10) hrn fun k hk k' hu => up_low (hnm.2.2 k hk) hu
  have n1 : (cl rn).map lowN = cl nm := n1
  have hl : 1 ≤ (cl rn).length := by rw [← hrn.length]; exact hnm.1
  have e1 : nl (cl wr) = nl (cl b0) ++ (cl rn ++ nl (t1 ++ (t2 ++ (t3 ++ (cl b4 ++ [62]))))) := by
    rw [ew, ← nl_name (fun k hk => (n2 k hk).2.2.2) hl]
    simp only [List.append_assoc]
  have n2 : ∀ k ∈ cl rn, k ∉ BK4 ∧ k ≠ 0 ∧ k ≠ 62 ∧ k ≠ 13 ∧ k ≠ 10 := n2
  generalize cl rn = rs at n1 n2 hl e1
  match rs, hl with
  | n0 :: N, _ =>
    refine ⟨_, n0, N, _, _, _, nl_bl h0, nl_bl1 h0, fun k hk => ⟨(n2 k hk).1, (n2 k hk).2.1, (n2 k hk).2.2.1⟩, doc_tail f0 f4 g1 g2 g3 h4, e1, ?_⟩
    have : addL (.str (one (lowN n0))) (N.map lowN) = .str nm := by
      rw [addL_str]; exact (str_cl (x := nm) (by rw [← n1]; rfl)).symm
    rw [this]
end Mine
end
section
open PySem PySem.W PyProof.Rows PySem.Calls
set_option maxRecDepth 100000
namespace Mine
/-! the path over the whole text -/
section
variable {L r : List Nat} {p : Nat} {nm pb sy : Dat} {out : List Dat}
theorem drop_len {t r : List Nat} {p p' : Nat} (h : L.drop p = t ++ r) (hp : p ≤ L.length) (h' : L.drop p' = r) (hp' : p' ≤ L.length) : p' = p + t.length := by
  have e1 := congrArg List.length h
  have e2 := congrArg List.length h'
  rw [List.length_drop, List.length_append] at e1
  rw [List.length_drop] at e2
  omega
theorem addL_le {x : Str} {t : List Nat} {n : Nat} (h : x.length + t.length ≤ n) : strLe n (addL (.str x) t) := by
  rw [addL_str]
  show (x.cps.toList ++ t).toArray.size ≤ n
  rw [List.size_toArray, List.length_append, lenL]
  exact h
theorem go_doc {wr : Str} {tok : Dat} (h : DocW wr tok) (hd : L.drop p = 33 :: (nl (cl wr) ++ r)) (hp : p ≤ L.length) (ho : out.length ≤ p) : ∃ nm' pb' sy', Go L r (p + 1) (st .data p nm pb sy out false) (stD nm' pb' sy' (out ++ [tok])) := by
  obtain ⟨B, n0, N, t, pb', sy', hB, hB1, hN, hT, e, rfl⟩ := doc_nl h
  refine ⟨addL (.str (one (lowN n0))) (N.map lowN), pb', sy', ?_⟩
  have hd1 : L.drop p = 33 :: (B ++ n0 :: (N ++ (t ++ r))) := by
    rw [hd, e]; simp only [List.append_assoc, List.cons_append]
  obtain ⟨p1, a1, a2, a3, a4⟩ := go_head (r := t ++ r) (nm := nm) (pb := pb) (sy := sy) hB hB1 hN hd1 ho
  have el : p1 = p + (33 :: (B ++ n0 :: N)).length := drop_len (by rw [hd1]; simp only [List.append_assoc, List.cons_append]) hp a3 a2
  have hl : p + N.length + 2 ≤ p1 := by
    rw [el]; simp only [List.length_cons, List.length_append]; omega
  obtain ⟨p2, b1, b2, b3, b4⟩ := go_tail (p := p1) (out := out) hT (nm := addL (.str (one (lowN n0))) (N.map lowN)) (fun p' hp' => addL_le (by rw [List.length_map, show (one (lowN n0)).length = 1 from rfl]; omega)) a3 (Nat.le_trans ho a1)
  exact ⟨p2, by omega, b2, b3, a4.trans b4⟩
theorem chars_go : ∀ (t : List Nat) (p : Nat) (out : List Dat), (∀ k ∈ t, k ≠ 33) → L.drop p = t ++ r → out.length ≤ p → RR L (st .data p nm pb sy out false) (st .data (p + t.length) nm pb sy (out ++ t.map chT) false)
  | [], p, out, _, _, _ => by rw [List.map_nil, List.append_nil]; exact .refl
  | k :: t, p, out, hb, hd, ho => by
    have h2 := chars_go t (p + 1) (out ++ [charD k]) (fun k hk => hb k (.tail _ hk)) (dr hd).2.1 (by rw [List.length_append]; exact Nat.succ_le_succ ho)
    rw [show p + 1 + t.length = p + (k :: t).length by rw [List.length_cons]; omega, List.append_assoc] at h2
    exact (one_go (q := .data) (live := false) hd ho rfl fun e => s_char e (hb k (.head _))).trans h2
end
noncomputable abbrev PW (p : Str × Dat × Str) : List Nat := 33 :: (cl p.1 ++ cl p.2.2)
noncomputable abbrev PD (p : Str × Dat × Str) : List Dat := p.2.1 :: (cl p.2.2).map chT
theorem pw_head : ∀ ps : List (Str × Dat × Str), (ps.flatMap PW).head? ≠ some 10
  | [] => fun e => nomatch e
  | p :: ps => fun e => by
    have : (33 : Nat) = 10 := by injection e
    exact absurd this (by decide)
theorem btw_all {y : Str} (h : Btw y) : ∀ k ∈ cl y, k ≠ 33 ∧ k ≠ 13 ∧ k ≠ 10 := by
  have a : ∀ k ∈ cl BTS, k ≠ 33 ∧ k ≠ 13 ∧ k ≠ 10 := by decide +kernel
  exact fun k hk => a k (h.2 k hk)
theorem nl_part {p : Str × Dat × Str} {z : List Nat} (hy : Btw p.2.2) (hz : z.head? ≠ some 10) : nl (PW p ++ z) = 33 :: (nl (cl p.1) ++ (cl p.2.2 ++ nl z)) := by
  have a := btw_all hy
  have h1 : (cl p.2.2 ++ z).head? ≠ some 10 := by
    cases h : cl p.2.2 with
    | nil => exact hz
    | cons k t =>
      rw [h] at a
      exact fun e => (a k (.head _)).2.2 (by injection e)
  have h2 : nl (cl p.2.2 ++ z) = cl p.2.2 ++ nl z := by
    rw [nl_app hz, nl_free fun k hk => (a k hk).2.1]
  show nl (33 :: (cl p.1 ++ cl p.2.2) ++ z) = _
  rw [List.cons_append, nl_cons (by decide), List.append_assoc, nl_app h1, h2]
theorem parts_go {L : List Nat} : ∀ (ps : List (Str × Dat × Str)) (p : Nat) (nm pb sy : Dat) (out : List Dat), (∀ p ∈ ps, DocW p.1 p.2.1 ∧ Btw p.2.2) → L.drop p = nl (ps.flatMap PW) → p ≤ L.length → out.length ≤ p →
    ∃ nm' pb' sy', RR L (st .data p nm pb sy out false) (st .data L.length nm' pb' sy' (out ++ ps.flatMap PD) false) ∧ (out ++ ps.flatMap PD).length ≤ L.length
  | [], p, nm, pb, sy, out, _, hd, hp, ho => by
    have e : p = L.length := by
      have := congrArg List.length hd
      rw [List.length_drop] at this
      have h0 : (nl (([] : List (Str × Dat × Str)).flatMap PW)).length = 0 := rfl
      omega
    subst e
    refine ⟨nm, pb, sy, ?_, ?_⟩
    · rw [List.flatMap_nil, List.append_nil]; exact .refl
    · rw [List.flatMap_nil, List.append_nil]; exact ho
  | q :: ps, p, nm, pb, sy, out, hq, hd, hp, ho => by
    obtain ⟨hD, hy⟩ := hq q (.head _)
    rw [List.flatMap_cons, nl_part hy (pw_head ps)] at hd
    obtain ⟨nm1, pb1, sy1, p1, a1, a2, a3, a4⟩ := go_doc (nm := nm) (pb := pb) (sy := sy) hD hd hp ho
    have ho1 : (out ++ [q.2.1]).length ≤ p1 := by rw [List.length_append]; show out.length + 1 ≤ p1; omega
    have b4 := chars_go (nm := nm1) (pb := pb1) (sy := sy1) (cl q.2.2) p1 (out ++ [q.2.1]) (fun k hk => (btw_all hy k hk).1) a3 ho1
    obtain ⟨b3, b2⟩ := drop_app a3 a2
    obtain ⟨nm2, pb2, sy2, c4, c5⟩ := parts_go ps (p1 + (cl q.2.2).length) nm1 pb1 sy1 (out ++ [q.2.1] ++ (cl q.2.2).map chT) (fun z hz => hq z (.tail _ hz)) b3 b2 (by rw [List.length_append, List.length_map]; omega)
    have eo : out ++ [q.2.1] ++ (cl q.2.2).map chT ++ ps.flatMap PD = out ++ (q :: ps).flatMap PD := by
      rw [List.flatMap_cons]; simp only [List.append_assoc, List.cons_append, List.nil_append]
    rw [eo] at c4 c5
    exact ⟨nm2, pb2, sy2, (a4.trans b4).trans c4, c5⟩
/-- the state at the end -/
noncomputable def eE (L : List Nat) (nm pb sy : Dat) (ds : List Dat) : CS := { st .data (L.length + 1) nm pb sy ds false with done := true }
noncomputable def c00 : CS := st .data 0 .none .none .none [] false
theorem text_run {i : Nat} {x : Str} {ds : List Dat} (h : Wrt i x ds) : ∃ nm pb sy, RR (nl (cl x)) c00 (eE (nl (cl x)) nm pb sy (ds ++ [eofT])) := by
  obtain ⟨ps, rfl, h1, h2, rfl⟩ := h
  rw [h2]
  obtain ⟨nm, pb, sy, a1, a2⟩ := parts_go (L := nl (ps.flatMap PW)) ps 0 .none .none .none [] h1 rfl (Nat.zero_le _) (Nat.le_refl _)
  rw [List.nil_append] at a1 a2
  exact ⟨nm, pb, sy, a1.trans (.one ⟨.data, _, nm, pb, sy, _, false, rfl, Nat.le_refl _, a2, rfl⟩ (s_eof (Nat.le_refl _)))⟩
/-! the text's signs -/
noncomputable def okS (k : Nat) : Bool := okSign k && !Nat.beq k 127
theorem ok_mem {t : List Nat} {l : List Nat} (h : ∀ k ∈ t, k ∈ l) (a : ∀ k ∈ l, okS k = true) : ∀ k ∈ t, okS k = true := fun k hk => a k (h k hk)
theorem ok_raised : ∀ {xs ys : List Nat}, All2 UpR xs ys → (∀ k ∈ xs, okS k = true ∧ (97 ≤ k → k ≤ 122 → okS (k - 32) = true)) → ∀ k ∈ ys, okS k = true
  | _, _, .nil, _ => fun k hk => by cases hk
  | _, _, .cons h r, a => fun k hk => by
    rcases List.mem_cons.mp hk with rfl | hk
    · rcases h with rfl | ⟨h1, h2, rfl⟩
      · exact (a _ (.head _)).1
      · exact (a _ (.head _)).2 h1 h2
    · exact ok_raised r (fun k hk => a k (.tail _ hk)) k hk
theorem ok_app {a b : List Nat} (h1 : ∀ k ∈ a, okS k = true) (h2 : ∀ k ∈ b, okS k = true) : ∀ k ∈ a ++ b, okS k = true := fun k hk => by
  rcases List.mem_append.mp hk with hk | hk
  · exact h1 k hk
  · exact h2 k hk
theorem ok_q {q : Nat} (hq : q = 39 ∨ q = 34) : ∀ k ∈ [q], okS k = true := fun k hk => by
  rw [List.mem_singleton.mp hk]; rcases hq with rfl | rfl <;> decide +kernel
theorem ok_bl {lo : Nat} {b : Str} (h : Bl lo b) : ∀ k ∈ cl b, okS k = true := ok_mem h.2.2 (by decide +kernel)
theorem ok_id {q : Nat} {x : Str} (h : Ident q x) : ∀ k ∈ cl x, okS k = true := ok_mem (fun k hk => (h.2 k hk).1) (by decide +kernel)
theorem ok_nil : ∀ k ∈ ([] : List Nat), okS k = true := fun k hk => by cases hk
theorem ok_doc {wr : Str} {tok : Dat} (h : DocW wr tok) : ∀ k ∈ cl wr, okS k = true := by
  obtain ⟨fm, b0, nm, rn, b4, t1, t2, t3, pb, sy, f0, f4, h0, hnm, hrn, h4, g1, g2, g3, ew, _, _⟩ := h
  have a1 : ∀ k ∈ cl (S "public"), okS k = true ∧ (97 ≤ k → k ≤ 122 → okS (k - 32) = true) := by decide +kernel
  have a2 : ∀ k ∈ cl (S "system"), okS k = true ∧ (97 ≤ k → k ≤ 122 → okS (k - 32) = true) := by decide +kernel
  have a3 : ∀ k ∈ cl NMS, okS k = true ∧ (97 ≤ k → k ≤ 122 → okS (k - 32) = true) := by decide +kernel
  have o1 : ∀ k ∈ t1, okS k = true := by
    rcases g1 with ⟨_, rfl, _⟩ | ⟨_, x, ⟨b1, kw, b2, q, p1, p2, p3, p4, p5, rfl⟩, _⟩
    · exact ok_nil
    · exact ok_app (ok_app (ok_app (ok_app (ok_app (ok_bl p1) (ok_raised p2 a1)) (ok_bl p3)) (ok_q p4)) (ok_id p5)) (ok_q p4)
  have o2 : ∀ k ∈ t2, okS k = true := by
    rcases g2 with ⟨_, rfl⟩ | ⟨_, b1, kw, p1, p2, rfl⟩
    · exact ok_nil
    · exact ok_app (ok_bl p1) (ok_raised p2 a2)
  have o3 : ∀ k ∈ t3, okS k = true := by
    rcases g3 with ⟨_, rfl, _⟩ | ⟨_, y, ⟨b3, q2, r1, r2, r3, rfl⟩, _⟩
    · exact ok_nil
    · exact ok_app (ok_app (ok_app (ok_bl r1) (ok_q r2)) (ok_id r3)) (ok_q r2)
  rw [ew]
  exact ok_app (ok_app (ok_app (ok_app (ok_app (ok_app (ok_bl h0) (ok_raised hrn fun k hk => a3 k (hnm.2.2 k hk))) o1) o2) o3) (ok_bl h4)) (by decide +kernel)
theorem Wrt.ok {i : Nat} {x : Str} {ds : List Dat} (h : Wrt i x ds) : ∀ k ∈ cl x, okS k = true := by
  obtain ⟨ps, rfl, h1, h2, rfl⟩ := h
  rw [h2]
  intro k hk
  obtain ⟨p, hp, hk⟩ := List.mem_flatMap.mp hk
  obtain ⟨hD, hy⟩ := h1 p hp
  rcases List.mem_cons.mp hk with rfl | hk
  · decide +kernel
  · exact ok_app (ok_doc hD) (ok_mem hy.2 (by decide +kernel)) k hk
theorem okS_is {k : Nat} (h : okS k = true) : okSign k = true ∧ k ≠ 127 := by
  obtain ⟨h1, h2⟩ := Bool.and_eq_true_iff.mp h
  exact ⟨h1, fun e => by subst e; cases h2⟩
theorem feed_serr : ∀ (t : List Nat) (σ : FS), (∀ k ∈ t, okS k = true) → σ.serr = [] → (feedL σ t).serr = []
  | [], _, _, h => h
  | k :: t, σ, ha, h => by
    have hk := (okS_is (ha k (.head _))).2
    refine feed_serr t (feed1 σ k) (fun k hk => ha k (.tail _ hk)) ?_
    unfold feed1
    rw [show (k == 127) = false from beq_eq_false_iff_ne.mpr hk]
    cases k == 13
    · cases (k == 10 && σ.ret)
      · exact h
      · exact h
    · exact h
end Mine
end
section
open PySem PySem.W PyProof.Rows PySem.Spec PySem.Calls
set_option maxRecDepth 100000
set_option maxHeartbeats 8000000
namespace Mine
/-! t.run(), by hand: a draft given out may be forgotten -/
noncomputable def runE : Expr → Bool := pMeth (pNm (Str.ofString "t")) (Str.ofString "run") l0
theorem cls_run : ∃ fs ms, TT.cls.lookup 562 = some (fs, ms) ∧ ms.lookup (Str.ofString "run") = some 559 := by
  have h : ((TT.cls.lookup 562).bind fun q => q.2.lookup (Str.ofString "run")) = some 559 := by kernel_rfl
  generalize TT.cls.lookup 562 = o at h
  match o, h with
  | some (fs, ms), h => exact ⟨fs, ms, rfl, h⟩
section
variable {prog : Program} {w : World} {Y : Frag} {Γ : GE}
variable {c : FC (KX w Y) Γ} {m : Str → Option Value} {adr adr₀ : List Addr} {rest news : Led} {s : Shared} {E : Value → Shared → Prop} {l : Mine.Loc}
theorem tok_inst {signs : List Nat} {closed ret : Bool} {serr : List Dat} (d : CS) : ∃ fs, (tokF signs closed ret serr d)[1]? = some (.inst 562 fs) ∧ fs.lookup (Str.ofString "run") = none := ⟨_, rfl, by kernel_rfl⟩
theorem eval_run {e : Expr} (he : runE e = true) {signs : List Nat} {closed ret : Bool} {serr : List Dat} (hs : signs.length ≤ szLine) (I : CS → Prop) (μ : CS → Nat)
    (hI : ∀ c, I c → ReadyC signs closed c = true → StepOk1 c ∧ Lv (stepR signs closed c) ∧ I (stepQ signs closed c) ∧ μ (stepQ signs closed c) < μ c) {c₀ : CS} (h0 : I c₀) (G : FG c) (hr : Room c.A 130) (e0 : adr₀ <+: adr) (h7 : adr₀.length ≤ 7)
    (SA : AtS prog w c m adr rest news (tokF signs closed ret serr c₀) s) (hl : LocOk c.cl adr rest l m) (ht : l.lookup (Str.ofString "t") = some (.obj 1)) (hn : c.cs.names.lookup (Str.ofString "t") = some .local) {P : KV} {Q : Value → Shared → Prop}
    (hP : ∀ c, I c → ReadyC signs closed c = false → P (.d (.bool c.done)) (tokF signs closed ret serr c)) (r : Ret prog w Mt c m adr₀ rest s P Q) : wpAny (model prog w) c.A (eval e c.env) Q E s := by
  obtain ⟨v, n, q, as, p, rfl, h1, h2, h3, h4⟩ := pMeth.inv he
  obtain ⟨qv, rfl⟩ := pNm.inv h3
  have h4 := l0.inv h4
  subst h4
  rw [beq_iff_eq.mp h1]
  refine MethodCall_ ?_ (eval_mcall rfl h2 rfl (by decide))
  refine (nmk G hl).loc List.prefix_rfl Sub.rfl SA hn ht fun u hu => ?_
  obtain ⟨fs, f1, f2⟩ := tok_inst (signs := signs) (closed := closed) (ret := ret) (serr := serr) c₀
  obtain ⟨fds, ms, g1, g2⟩ := cls_run
  have TO := tt_okX w Y
  obtain ⟨a1, a2, a3⟩ := TO.cls _ _ _ g1
  obtain ⟨b1, b2⟩ := a3 _ _ g2
  refine op_meth SA hu f1 f2 a1 b1 b2 ?_
  refine callWith_K0 (c.X.keeps SA.F.keep) (fn_keep (TO.fn 559 [S "self"] [] (by kernel_rfl))) (wpAny_call ?_)
  exact run_ok hs I μ hI h0 (c := c.down fun h => kx_in) ⟨G.dbg, G.loc, G.cel, G.fre⟩ hr e0 h7 ⟨SA.F, SA.N, SA.R, SA.tk⟩ (.cons hu .nil) hP fun b a adr' rest' news' H' h' tk' e1 e2 S' q1 q2 => r b a adr' rest' news' H' h' tk' e1 e2 ⟨S'.F, S'.N, S'.R, S'.tk⟩ q1 q2
end
/-! a step that has a sign ends nothing -/
theorem dn_cond {b : Bool} {x y : CS} {t : Bool} (h1 : x.done = t) (h2 : y.done = t) : (cond b x y).done = t := by
  cases b
  · exact h2
  · exact h1
theorem dn_chP {L : List Nat} {b : Bool} {k : Nat} {c : CS} : (chP L b k c).done = c.done := by
  obtain ⟨q, p, nm, pb, sy, qk, errs, out, wait, done, live, has⟩ := c
  cases q <;> (show (chP _ _ _ _).done = _; unfold chP; dsimp only; first | unfold ch_doctype | unfold ch_before_name | unfold ch_name | unfold ch_after_name | unfold ch_after_kw | unfold ch_before_id | unfold ch_in_pub | unfold ch_in_sys | unfold ch_after_pub | unfold ch_between | unfold ch_after_sys | unfold ch_bogus | skip) <;> (try dsimp only) <;> (repeat' apply dn_cond) <;> rfl
theorem dn_stepR {L : List Nat} {b : Bool} {c : CS} (h : c.p < L.length) : (stepR L b c).done = c.done := by
  have hP : (stepP L b c).done = c.done := by
    unfold stepP
    rw [decide_eq_true h]
    exact dn_chP
  have hD : (dataP L c).done = c.done := by
    unfold dataP
    rw [decide_eq_true h]
    show (cond _ (c.nx.to .doctype) _).done = _
    exact dn_cond rfl rfl
  unfold stepR
  split
  · exact hD
  · exact hP
/-! the pieces -/
noncomputable def JO (L a : List Nat) (e d : CS) : Prop := IO L a e d ∧ d.done = false
theorem cs_nw {d : CS} (h : d.wait = false) : ({ d with wait := false } : CS) = d := by
  obtain ⟨q, p, nm, pb, sy, qk, errs, out, wait, done, live, has⟩ := d
  cases h
  rfl
theorem Good.nw {L : List Nat} {c : CS} (h : Good L c) : c.wait = false := by
  obtain ⟨q, p, nm, pb, sy, out, live, rfl, _⟩ := h
  rfl
theorem ic_nw {L : List Nat} {e d : CS} (he : e.wait = false) (h : IC L e d) : d.wait = false := by
  obtain ⟨n, h⟩ := h
  cases h with
  | refl _ => exact he
  | step g k => exact g.nw
theorem io_wait {L a : List Nat} {e d : CS} (he : e.wait = false) (h : IO L a e d) : IC L e { d with wait := false } := by
  rcases h with h | ⟨c', rfl, h1, _, _, h4⟩
  · rw [cs_nw (ic_nw he h)]; exact h
  · show IC L e { c' with wait := false }
    rw [cs_nw h1]; exact h4
theorem ready_open {a : List Nat} {c : CS} (hr : ReadyC a false c = true) : c.p < a.length := by
  unfold ReadyC at hr
  have := (Bool.and_eq_true_iff.mp hr).2
  rw [Bool.false_or] at this
  exact of_decide_eq_true this
theorem jo_step {a b : List Nat} {e : CS} (hL : (a ++ b).length ≤ 100000) (he : e.done = true) : ∀ c, JO (a ++ b) a e c → ReadyC a false c = true → StepOk1 c ∧ Lv (stepR a false c) ∧ JO (a ++ b) a e (stepQ a false c) ∧ muO (a ++ b) e (stepQ a false c) < muO (a ++ b) e c := by
  rintro c ⟨h1, h2⟩ hr
  obtain ⟨g1, g2, g3, g4⟩ := inv_open hL he c h1 hr
  exact ⟨g1, g2, ⟨g3, (dn_stepR (ready_open hr)).trans h2⟩, g4⟩
theorem jo_end {L a : List Nat} {e c : CS} (he : e.wait = false) (h : JO L a e c) (hr : ReadyC a false c = false) : (a.length : Int) - c.p ≤ 0 ∨ (c.q = .afterName ∧ (a.length : Int) - c.p ≤ 5) := by
  obtain ⟨h1, h2⟩ := h
  rcases h1 with h1 | ⟨c', rfl, _, k2, k3, _⟩
  · have h3 := ic_nw he h1
    unfold ReadyC at hr
    rw [h2, h3] at hr
    have : decide (c.p < (a.length : Int)) = false := hr
    have := of_decide_eq_false this
    left; omega
  · exact .inr ⟨k2, k3⟩
end Mine
end
section
open PySem PySem.W PyProof.Rows PySem.Spec PySem.Calls
set_option maxRecDepth 100000
set_option maxHeartbeats 8000000
namespace Mine
/-! the loop that feeds -/
noncomputable abbrev sg (x : Str) (k : Nat) : FS := feedL σ₀ ((cl x).take k)
noncomputable def JF (x : Str) (n : Nat) (e : CS) (i : Nat) (H : Hp) : Prop := ∃ d, H = tokF (sg x (i * n)).signs false (sg x (i * n)).ret (sg x (i * n)).serr d ∧ JO (nl (cl x)) (sg x (i * n)).signs e d
theorem dok (c : CS) : DOk (cond c.has (DD c.nm c.pb c.sy c.qk) []) := by
  cases c.has
  · exact .inl rfl
  · exact .inr ⟨_, _, _, _, rfl⟩
theorem sg_pre (x : Str) (k : Nat) : ∃ b, nl (cl x) = (sg x k).signs ++ b := by
  obtain ⟨t, ht⟩ := feedL_pre ((cl x).drop k) (sg x k)
  refine ⟨t, ?_⟩
  rw [← ht, ← feedL_app, List.take_append_drop]
  rfl
theorem nl_len (x : Str) : (nl (cl x)).length ≤ x.length := by
  have h := (feedL_le (cl x) σ₀).1
  have el := lenL x
  have h0 : σ₀.signs.length = 0 := rfl
  show (feedL σ₀ (cl x)).signs.length ≤ _
  rw [el] at h
  omega
theorem sz_n {n : Nat} (h : SzOk n) : 1 ≤ n ∧ n ≤ 500 := by
  rcases h with h | h | h | h | h | h <;> omega
structure End (e : CS) : Prop where
  dn : e.done = true
  wt : e.wait = false
section
variable {prog : Program} {w : World} {Y : Frag} {Γ : GE}
variable {c : FC (KX w Y) Γ} {m : Str → Option Value} {adr adr₀ : List Addr} {rest news : Led} {s : Shared} {E : Value → Shared → Prop} {x : Str} {ds dt : List Dat} {n i : Nat} {e : CS} {H : Hp} {a ak as : Addr}
theorem feed_piece {P : Fl → Mine.Loc → Hp → Prop} (hW : Wrt 5 x ds) (hi : i * n ≤ x.length) (hJ : JF x n e i H) (he : End e)
    (hP : ∀ d, IC (nl (cl x)) e d → d.done = false → P .next ((S "first", .d (.int ((i * n : Nat) : Int))) :: LGv n x dt) (tokF (sg x ((i + 1) * n)).signs false (sg x ((i + 1) * n)).ret (sg x ((i + 1) * n)).serr d)) :
    (EX w Y P11 30).s (scopeOf (KX w Y) 625) ((lpB (nth (bodyOf (KX w Y) 625) 8)).take 1) ((S "first", .d (.int ((i * n : Nat) : Int))) :: LGv n x dt) H P := by
  obtain ⟨d, rfl, hio, hdn⟩ := hJ
  obtain ⟨hx, _⟩ := hW.len
  have el : (cl x).length = x.length := lenL x
  have big : szLine = 16777216 := rfl
  refine Eq.mpr v_h9a ⟨by omega, ?_⟩
  have epc : Txt.slice x (some ((i * n : Nat) : Int)) (some (((i * n : Nat) : Int) + (n : Int))) = mkS (((cl x).drop (i * n)).take n) := piece_cut hi
  rw [epc]
  have hfl : (sg x (i * n)).signs.length ≤ σ₀.signs.length + ((cl x).take (i * n)).length ∧ (sg x (i * n)).serr.length ≤ σ₀.serr.length + ((cl x).take (i * n)).length := feedL_le ((cl x).take (i * n)) σ₀
  rw [List.length_take] at hfl
  have hpl : (mkS (((cl x).drop (i * n)).take n)).length ≤ x.length := by
    show (((cl x).drop (i * n)).take n).toArray.size ≤ _
    rw [List.size_toArray, List.length_take, List.length_drop]; omega
  have z0 : σ₀.signs.length = 0 := rfl
  have z1 : σ₀.serr.length = 0 := rfl
  refine ⟨_, sg x (i * n), d.p, d.q.nm, d.out, d.errs, d.wait, d.done, _, _, rfl, rfl, dok d, fun ch hch => ?_, by omega, by omega, ?_⟩
  · have hch : ch ∈ ((cl x).drop (i * n)).take n := hch
    exact (okS_is (hW.ok ch (List.mem_of_mem_drop (List.mem_of_mem_take hch)))).1
  have enx : feedL (sg x (i * n)) (((cl x).drop (i * n)).take n) = sg x ((i + 1) * n) := by
    rw [← feedL_app, ← take_piece, Nat.add_mul, Nat.one_mul]
  show P _ _ (FH false (feedL (sg x (i * n)) (((cl x).drop (i * n)).take n)) _ _ _ _ _ _ _ _)
  rw [enx]
  exact hP { d with wait := false } (io_wait he.wt hio) hdn
theorem turn_f (hW : Wrt 5 x ds) (he : End e) (hi : i * n ≤ x.length) (G : FG c) (hr : Room c.A 170) (ec : c.cs = scopeOf (KX w Y) 625) (SA : AtS prog w c m adr rest news H s) (hJ : JF x n e i H) (hl : LocOk c.cl adr rest ((S "first", .d (.int ((i * n : Nat) : Int))) :: LGv n x dt) m)
    (e0 : adr₀ <+: adr) (h7 : adr₀.length = 7) {Q : Flow → Shared → Prop} (r : RetS prog w c adr₀ rest s (fun fl l' H'' => fl = .next ∧ JF x n e (i + 1) H'' ∧ Keeps (LGv n x dt) l') Q) : wpAny (model prog w) c.A (execs (lpB (nth (bodyOf (KX w Y) 625) 8)) c.env) Q E s := by
  have P11k : PmOk prog w (KX w Y) Γ P11 130 := pm_up (fun h => kx_in) p11_ok
  have hb : lpB (nth (bodyOf (KX w Y) 625) 8) = (lpB (nth (bodyOf (KX w Y) 625) 8)).take 1 ++ (nth (lpB (nth (bodyOf (KX w Y) 625) 8)) 1 :: (lpB (nth (bodyOf (KX w Y) 625) 8)).drop 2) := by kernel_rfl
  rw [hb]
  have hrun : sIf runE (fun Z => true) (nth (lpB (nth (bodyOf (KX w Y) 625) 8)) 1) = true := by kernel_rfl
  generalize nth (lpB (nth (bodyOf (KX w Y) 625) 8)) 1 = stR at hrun
  obtain ⟨hx, _⟩ := hW.len
  have big : szLine = 16777216 := rfl
  refine pre_ok (tt_okX w Y) P11k G 30 (hr.le (by decide)) SA hl (P := fun fl l' H' => fl = .next ∧ l' = (S "first", .d (.int ((i * n : Nat) : Int))) :: LGv n x dt ∧ ∃ d, IC (nl (cl x)) e d ∧ d.done = false ∧ H' = tokF (sg x ((i + 1) * n)).signs false (sg x ((i + 1) * n)).ret (sg x ((i + 1) * n)).serr d) ?_ ?_
  · rw [ec]
    exact feed_piece hW hi hJ he fun d h1 h2 => ⟨rfl, rfl, d, h1, h2, rfl⟩
  rintro fl f l1 m1 adr1 rest1 news1 H1 h1 tk1 q1 q2 S1 L1 hmf ⟨rfl, rfl, d, hic, hdn, rfl⟩
  cases hmf
  dsimp only
  obtain ⟨t, b, p, rfl, ht, _⟩ := sIf.inv hrun
  obtain ⟨bb, hbb⟩ := sg_pre x ((i + 1) * n)
  have hLn := nl_len x
  generalize hσ : sg x ((i + 1) * n) = σ at hbb S1
  have hlen : (σ.signs ++ bb).length ≤ 100000 := by rw [← hbb]; omega
  have hsg : σ.signs.length ≤ szLine := by rw [List.length_append] at hlen; omega
  have hmem : plainTest t = true := by
    obtain ⟨v, nn, q, as, pp, rfl, _⟩ := pMeth.inv ht
    rfl
  refine wpAny_execs_cons (wpAny_If (isTrue_plain ?_ (test_plain hmem _ _)))
  have L0 : LocOk c.cl adr₀ rest1 ((S "first", .d (.int ((i * n : Nat) : Int))) :: LGv n x dt) m1 := by
    have h2 := L1.cut (k := 7) fun y v hy => look_small (l := (S "first", .d (.int ((i * n : Nat) : Int))) :: LGv n x dt) (k := 7) (by kernel_rfl) hy
    have h3 : adr1.take 7 = adr₀ := by
      have := List.prefix_iff_eq_take.mp (e0.trans q1)
      rw [h7] at this
      exact this.symm
    rwa [h3] at h2
  refine eval_run ht hsg (JO (σ.signs ++ bb) σ.signs e) (muO (σ.signs ++ bb) e) (jo_step hlen he.dn) (c₀ := d) ⟨.inl (hbb ▸ hic), hdn⟩ G (hr.le (by decide)) (e0.trans q1) (Nat.le_of_eq h7) S1 L1 (by kernel_rfl) (by rw [ec]; kernel_rfl)
    (P := fun v H => ∃ d, JO (σ.signs ++ bb) σ.signs e d ∧ ReadyC σ.signs false d = false ∧ v = .d (.bool false) ∧ H = tokF σ.signs false σ.ret σ.serr d) (fun d h1 h2 => ⟨d, h1, h2, by rw [h1.2], rfl⟩) ?_
  rintro v u adr2 rest2 news2 H2 h2 tk2 q3 q4 S2 hm2 ⟨d2, hj2, hr2, rfl, rfl⟩
  obtain rfl := dInv hm2
  refine wpAny_truthy_bool ?_
  rw [if_neg (by decide)]
  refine wpAny_execs_nil ?_
  dsimp only
  have L2 := L0.mono q3 q4
  refine tail_ev (k := 30) (tt_okX w Y) P11k G (hr.le (by decide)) S2 L2 (P := fun fl l' H' => fl = .next ∧ JF x n e (i + 1) H' ∧ Keeps (LGv n x dt) l') ?_ (r.then (h' := h2) (tk' := tk2) q3 (q2.trans q4))
  rw [ec]
  have fin : JF x n e (i + 1) (tokF σ.signs false σ.ret σ.serr d2) := ⟨d2, by rw [hσ], by rw [hbb, hσ]; exact hj2⟩
  have kp : Keeps (LGv n x dt) ((S "first", .d (.int ((i * n : Nat) : Int))) :: LGv n x dt) := keeps_pre (pre := [_]) (by kernel_rfl)
  refine Eq.mpr v_h9c (gd_i hsg ?_)
  rcases jo_end he.wt hj2 hr2 with h3 | ⟨h3, h4⟩
  · refine cond_i (fun Z => cond_i (fun h5 => ?_) fun h5 => ⟨rfl, fin, kp⟩) fun Z => cond_i (fun h5 => ?_) fun h5 => ⟨rfl, fin, kp⟩
    · have := of_decide_eq_true h5; omega
    · have := of_decide_eq_true h5; omega
  · refine cond_i (fun Z => cond_i (fun h5 => ?_) fun h5 => ⟨rfl, fin, kp⟩) fun h6 => ?_
    · have := of_decide_eq_true h5; omega
    · rw [h3, show (Mine.Q.nm .afterName == Str.ofString "after DOCTYPE name") = true by decide +kernel] at h6; cases h6
end
end Mine
end
section
open PySem PySem.W PyProof.Rows PySem.Spec PySem.Calls
set_option maxRecDepth 100000
set_option maxHeartbeats 4000000
namespace Mine
/-! equal data -/
noncomputable def ddOk : Nat → Dat → Bool
  | _, .none => true
  | _, .bool _ => true
  | _, .int _ => true
  | _, .str x => PyData.strOk x
  | n + 1, .tuple ds => ds.all (ddOk n)
  | n + 1, .list ds => ds.all (ddOk n)
  | _, _ => false
mutual
theorem dd_in {h₀ h : Heap} {L : Addr} {news : Led} (N : News h₀ L h news) : ∀ {v : Value} {d : Dat} (n : Nat), DatIn news v d → ddOk n d = true → ∃ as, Reads h v (kqdP d) as
  | _, _, _, .none, _ => ⟨_, Reads.none⟩
  | _, _, _, .bool b, _ => ⟨_, Reads.bool b⟩
  | _, _, _, .int i t, _ => ⟨_, Reads.int i t⟩
  | _, _, _, .str x t, _ => ⟨_, Reads.str x t⟩
  | _, _, n, .bytes _ _, hk => by cases n <;> simp [ddOk] at hk
  | _, _, 0, .tuple _ _, hk => by simp [ddOk] at hk
  | _, _, 0, .list _ _, hk => by simp [ddOk] at hk
  | _, _, n + 1, .tuple hm r, hk => by
    obtain ⟨as, q⟩ := dd_all N n r (by simpa [ddOk] using hk)
    rw [kqdP]
    exact ⟨as, reads_tuple_at (N.get hm) rfl rfl (by simpa using q)⟩
  | _, _, n + 1, .list hm r, hk => by
    obtain ⟨as, q⟩ := dd_all N n r (by simpa [ddOk] using hk)
    rw [kqdP]
    exact ⟨_, reads_list_at (N.get hm) rfl rfl (by simpa [W.listOf] using q)⟩
theorem dd_all {h₀ h : Heap} {L : Addr} {news : Led} (N : News h₀ L h news) : ∀ {vs : List Value} {ds : List Dat} (n : Nat), DatAll news vs ds → (∀ d ∈ ds, ddOk n d = true) → ∃ as, ReadsAll h vs (kqdPs ds) as
  | _, _, _, .nil, _ => ⟨_, ReadsAll.nil⟩
  | _, _, n, .cons hd r, hk => by
    obtain ⟨as, q⟩ := dd_in N n hd (hk _ (.head _))
    obtain ⟨bs, p⟩ := dd_all N n r fun d hm => hk d (.tail _ hm)
    rw [kqdPs]
    exact ⟨_, ReadsAll.cons q p⟩
end
theorem dd_lay : ∀ (n : Nat) (d : Dat), ddOk n d = true → (kqdP d).canLay0 = true ∧ (kqdP d).depth ≤ n := by
  have all : ∀ (n : Nat), (∀ d, ddOk n d = true → (kqdP d).canLay0 = true ∧ (kqdP d).depth ≤ n) → ∀ ds : List Dat, (∀ d ∈ ds, ddOk n d = true) → PyData.canLayAll0 (kqdPs ds) = true ∧ PyData.depthAll (kqdPs ds) ≤ n := by
    intro n ih ds
    induction ds with
    | nil => intro _; simp [kqdPs, PyData.canLayAll0, PyData.depthAll]
    | cons d ds hi =>
      intro h
      have h1 := ih d (h d (.head _))
      have h2 := hi fun e he => h e (.tail _ he)
      simp only [kqdPs, PyData.canLayAll0, PyData.depthAll, h1.1, h2.1, Bool.and_self, true_and]
      have a1 := h1.2
      have a2 := h2.2
      lia
  intro n
  induction n with
  | zero =>
    intro d h
    cases d <;> simp_all [ddOk, kqdP, PyData.canLay0, PyData.depth]
  | succ n ih =>
    intro d h
    cases d with
    | none => simp [kqdP, PyData.canLay0, PyData.depth]
    | bool b => simp [kqdP, PyData.canLay0, PyData.depth]
    | int i => simp [kqdP, PyData.canLay0, PyData.depth]
    | str x => simp [ddOk] at h; simp [kqdP, PyData.canLay0, PyData.depth, h]
    | bytes b => simp [ddOk] at h
    | tuple ds =>
      have q := all n ih ds (by simpa [ddOk] using h)
      have q2 := q.2
      simp only [kqdP, PyData.canLay0, PyData.depth, q.1, true_and]
      lia
    | list ds =>
      have q := all n ih ds (by simpa [ddOk] using h)
      have q2 := q.2
      simp only [kqdP, PyData.canLay0, PyData.depth, q.1, true_and]
      lia
theorem eq_same {prog : Program} {w : World} {A : Around} {E : Value → Shared → Prop} {s : Shared} {Q : Value → Shared → Prop} {h₀ : Heap} {L : Addr} {news : Led} {u v : Value} {d : Dat} (N : News h₀ L s.heap news) (h1 : DatIn news u d) (h2 : DatIn news v d) (ok : ddOk 8 d = true) (hu : A.units + 64 < cLine) (h : Q (.bool true) s) :
    wpAny (model prog w) A (compareOp .Eq u v) Q E s := by
  obtain ⟨as, ra⟩ := dd_in N 8 h1 ok
  obtain ⟨bs, rb⟩ := dd_in N 8 h2 ok
  have l := dd_lay 8 d ok
  have sh : SeqAt.shaped (kqdP d) = true := by
    unfold SeqAt.shaped; rw [l.1, Bool.true_and]; exact decide_eq_true (Nat.le_trans l.2 (by decide))
  refine eq_dataH ra rb sh sh hu ?_
  rw [SeqAt.eqv_refl _ l.1]; exact h
theorem strOk_ok {y : Str} (h : ∀ k ∈ cl y, okS k = true) : PyData.strOk y = true := by
  unfold PyData.strOk
  rw [← Array.all_toList]
  refine List.all_eq_true.mpr fun k hk => ?_
  have h1 := (okS_is (h k hk)).1
  unfold okSign at h1
  simp only [Bool.or_eq_true, Bool.and_eq_true, Nat.beq_eq, Nat.ble_eq] at h1
  exact decide_eq_true (by omega)
theorem dd_nl {y : Str} (h : ∀ k ∈ cl y, okS k = true) (n : Nat) : ddOk n (.str (nlT y)) = true := by
  have e : ddOk n (.str (nlT y)) = PyData.strOk (nlT y) := by cases n <;> rfl
  rw [e]
  refine strOk_ok fun k hk => ?_
  rw [nlT_cl] at hk
  rcases nl_mem hk with rfl | ⟨h1, _⟩
  · decide +kernel
  · exact h k h1
theorem dd_none (n : Nat) : ddOk n .none = true := by cases n <;> rfl
theorem dd_str {y : Str} (n : Nat) (h : PyData.strOk y = true) : ddOk n (.str y) = true := by cases n <;> exact h
theorem dd_bool (b : Bool) (n : Nat) : ddOk n (.bool b) = true := by cases n <;> rfl
theorem dd_int (b : Int) (n : Nat) : ddOk n (.int b) = true := by cases n <;> rfl
theorem dd_tok {wr : Str} {tok : Dat} (h : DocW wr tok) (n : Nat) : ddOk (n + 1) tok = true := by
  obtain ⟨fm, b0, nm, rn, b4, t1, t2, t3, pb, sy, f0, f4, h0, hnm, hrn, h4, g1, g2, g3, ew, _, rfl⟩ := h
  have e1 : ddOk n (nlD pb) = true := by
    rcases g1 with ⟨_, _, rfl⟩ | ⟨_, x, ⟨b1, kw, b2, q, p1, p2, p3, p4, p5, _⟩, rfl⟩
    · exact dd_none n
    · exact dd_nl (ok_id p5) n
  have e2 : ddOk n (nlD sy) = true := by
    rcases g3 with ⟨_, _, rfl⟩ | ⟨_, y, ⟨b3, q2, r1, r2, r3, _⟩, rfl⟩
    · exact dd_none n
    · exact dd_nl (ok_id r3) n
  show (ddOk n (.str (S "doctype")) && (ddOk n (.str nm) && (ddOk n (nlD pb) && (ddOk n (nlD sy) && (ddOk n (.bool false) && true))))) = true
  rw [e1, e2, dd_bool, dd_str n (show PyData.strOk (S "doctype") = true by decide +kernel), dd_str n (strOk_ok (y := nm) (ok_mem hnm.2.2 (by decide +kernel)))]
  rfl
theorem dd_char {k n : Nat} (h : okS k = true) : ddOk (n + 1) (chT k) = true := by
  show (ddOk n (.str (S "char")) && (ddOk n (.str (one k)) && true)) = true
  rw [dd_str n (show PyData.strOk (S "char") = true by decide +kernel), dd_str n (strOk_ok (y := one k) fun z hz => by rw [List.mem_singleton.mp hz]; exact h)]
  rfl
theorem Wrt.dd {i : Nat} {x : Str} {ds : List Dat} (h : Wrt i x ds) (n : Nat) : ddOk (n + 2) (.list (ds ++ [eofT])) = true := by
  obtain ⟨ps, rfl, h1, h2, rfl⟩ := h
  show (ps.flatMap _ ++ [eofT]).all (ddOk (n + 1)) = true
  refine List.all_eq_true.mpr fun d hd => ?_
  rcases List.mem_append.mp hd with hd | hd
  · obtain ⟨p, hp, hd⟩ := List.mem_flatMap.mp hd
    obtain ⟨hD, hy⟩ := h1 p hp
    rcases List.mem_cons.mp hd with rfl | hd
    · exact dd_tok hD n
    · obtain ⟨k, hk, rfl⟩ := List.mem_map.mp hd
      exact dd_char (ok_mem hy.2 (by decide +kernel) k hk)
  · rw [List.mem_singleton.mp hd]
    show (ddOk n (.str (S "eof")) && true) = true
    rw [dd_str n (show PyData.strOk (S "eof") = true by decide +kernel)]
    rfl
end Mine
end
section
open PySem PySem.W PyProof.Rows PySem.Spec PySem.Calls
set_option maxRecDepth 100000
set_option maxHeartbeats 8000000
namespace Mine
/-! told, and the answer: the words -/
noncomputable def tupT : Stmt → List Expr
  | .Assign _ (.Tuple es _ _) _ => es
  | _ => []
noncomputable def cmpR : Stmt → Expr
  | .Return (some (.Compare _ _ [b] _)) _ => b
  | _ => .Constant .none 0 ⟨0, 0, 0, 0⟩
noncomputable def P20 : Pm := fun f => cond (Nat.beq f 601) (some spOne) none
theorem p20_ok {prog : Program} {w : World} {Y : Frag} {Γ : GE} : PmOk prog w (KX w Y) Γ P20 21 := pm_up (fun h => kx_in) (pm_cons one_ok pm_nil)
section
variable {w : World} {Y : Frag} {x : Str} {n : Nat} {ds : List Dat} {signs : List Nat} {closed ret : Bool} {serr : List Dat} {pos : Int} {state : Str} {out errs : List Dat} {wait done : Bool} {PV : KV} {xs : List LV}
theorem v_i0 {Q : List LV → Hp → Prop} : vArgs (EX w Y P11 29) (scopeOf (KX w Y) 625) ((tupT (nth (bodyOf (KX w Y) 625) 10)).drop 1) (LGv n x ds) (HH TAB signs closed ret serr pos state out errs wait done dN []) Q = Q [.obj 5, .obj 6, .obj 4, .d (.int pos), .d (.str state), dN] (HH TAB signs closed ret serr pos state out errs wait done dN []) := by kernel_rfl
theorem v_i1 : (EX w Y P20 30).e (scopeOf (KX w Y) 625) (cmpR (nth (bodyOf (KX w Y) 625) 11)) ((S "told", .obj 7) :: LGv n x ds) (HH TAB signs closed ret serr pos state out errs wait done dN [.tup xs]) PV =
  oneB x fun y => gd y.length (PV (.obj 10) (HH TAB signs closed ret serr pos state out errs wait done dN [.tup xs, .list [], .list [], .tup [.d (.bool true), .d (.list ds), .obj 8, .obj 9, .d (.int ((y.length : Nat) + 1)), .d (.str (S "data")), dN]])) := by kernel_rfl
end
end Mine
end
section
open PySem PySem.W PyProof.Rows PySem.Spec PySem.Calls
set_option maxRecDepth 100000
set_option maxHeartbeats 8000000
namespace Mine
/-! the answer -/
noncomputable abbrev ansD (L : List Nat) (ds : List Dat) : Dat := .tuple [.bool true, .list ds, .list [], .list [], .int ((L.length : Nat) + 1), .str (S "data"), .none]
/-- the tokenizer at the end -/
noncomputable abbrev HE (L : List Nat) (ret : Bool) (ds : List Dat) (D : Hp) : Hp := HH TAB L true ret [] ((L.length : Nat) + 1) (S "data") ds [] false true dN D
noncomputable abbrev TE (L : List Nat) : List LV := [.d (.bool true), .obj 5, .obj 6, .obj 4, .d (.int ((L.length : Nat) + 1)), .d (.str (S "data")), dN]
noncomputable def finOk : Stmt → Bool := sRet (pCmp (pNm (Str.ofString "told")) .Eq (fun b => !behindInMarks .Eq b))
section
variable {prog : Program} {w : World} {Y : Frag} {Γ : GE}
variable {c : FC (KX w Y) Γ} {m : Str → Option Value} {adr adr₀ : List Addr} {rest news : Led} {s : Shared} {E : Value → Shared → Prop} {x : Str} {ds : List Dat} {n : Nat} {L : List Nat} {ret : Bool} {i : Nat} {nm pb sy : Dat}
theorem law_fin {st : Stmt} (ho : finOk st = true) (hW : Wrt i x ds) (hx : x.length ≤ 1000) (G : FG c) (hr : Room c.A 170) (ec : c.cs = scopeOf (KX w Y) 625) (SA : AtS prog w c m adr rest news (HE (nl (cl x)) ret (ds ++ [eofT]) [.tup (TE (nl (cl x)))]) s) (hl : LocOk c.cl adr rest ((S "told", .obj 7) :: LGv n x (ds ++ [eofT])) m)
    (hv : ∀ PV : KV, (EX w Y P20 30).e (scopeOf (KX w Y) 625) (cmpR st) ((S "told", .obj 7) :: LGv n x (ds ++ [eofT])) (HE (nl (cl x)) ret (ds ++ [eofT]) [.tup (TE (nl (cl x)))]) PV =
      oneB x fun y => gd y.length (PV (.obj 10) (HE (nl (cl x)) ret (ds ++ [eofT]) [.tup (TE (nl (cl x))), .list [], .list [], .tup [.d (.bool true), .d (.list (ds ++ [eofT])), .obj 8, .obj 9, .d (.int ((y.length : Nat) + 1)), .d (.str (S "data")), dN]])))
    {Q : Flow → Shared → Prop} (r : RetS prog w c [] [] s PTrue Q) : wpAny (model prog w) c.A (exec st c.env) Q E s := by
  obtain ⟨e, p, rfl, h1⟩ := sRet.inv ho
  obtain ⟨a, b, p2, rfl, h2, h3⟩ := pCmp.inv h1
  obtain ⟨q, rfl⟩ := pNm.inv h2
  have hnl := nl_len x
  have hy : (nlT x).length = (nl (cl x)).length := by
    have := congrArg List.length (nlT_cl x)
    rw [← this]; exact (lenL (nlT x)).symm
  have big : szLine = 16777216 := rfl
  refine wpAny_Return_some (wpAny_Compare1 ((nmk G hl).loc (v := .obj 7) List.prefix_rfl Sub.rfl SA (by rw [ec]; kernel_rfl) (by kernel_rfl) fun u hu => ?_) (by simpa using h3))
  refine (run_sound (prog := prog) (Γ := Γ) (tt_okX w Y) p20_ok 30).e G (hr.le (by decide)) SA (nmk G hl) (P := fun v H => v = .obj 10 ∧ H = HE (nl (cl x)) ret (ds ++ [eofT]) [.tup (TE (nl (cl x))), .list [], .list [], .tup [.d (.bool true), .d (.list (ds ++ [eofT])), .obj 8, .obj 9, .d (.int (((nl (cl x)).length : Nat) + 1)), .d (.str (S "data")), dN]]) ?_ ?_
  · rw [ec]
    refine Eq.mpr (hv _) (one_b hx (gd_i (by rw [hy]; omega) ⟨rfl, ?_⟩))
    rw [hy]
  rintro v u2 adr2 rest2 news2 H2 h2 tk2 q1 q2 S2 hm2 ⟨rfl, rfl⟩
  obtain ⟨own, O, Sb, D⟩ := S2.R
  have d1 : DatIn (own ++ rest2) u (ansD (nl (cl x)) (ds ++ [eofT])) := flat_tup (xs := TE (nl (cl x))) O (hu.mono q1 q2) rfl rfl
  have d2 : DatIn (own ++ rest2) u2 (ansD (nl (cl x)) (ds ++ [eofT])) := flat_tup (xs := [.d (.bool true), .d (.list (ds ++ [eofT])), .obj 8, .obj 9, .d (.int (((nl (cl x)).length : Nat) + 1)), .d (.str (S "data")), dN]) O hm2 rfl rfl
  have hok : ddOk 8 (ansD (nl (cl x)) (ds ++ [eofT])) = true := by
    show (ddOk 7 (.bool true) && (ddOk 7 (.list (ds ++ [eofT])) && (ddOk 7 (.list []) && (ddOk 7 (.list []) && (ddOk 7 (.int _) && (ddOk 7 (.str (S "data")) && (ddOk 7 .none && true))))))) = true
    rw [hW.dd 5, dd_int, dd_str 7 (show PyData.strOk (S "data") = true by decide +kernel)]
    rfl
  obtain ⟨hr1, hr2⟩ := hr
  refine eq_same S2.N (d1.mono Sb) (d2.mono Sb) hok (by omega) ?_
  exact r (.ret (.d (.bool true))) (.ret (.bool true)) [] m adr2 rest2 news2 _ h2 tk2 (List.nil_prefix) (fun z hz => by cases hz) S2 (fun y v e => nomatch e) (mRet mBool) rfl
end
end Mine
end
section
open PySem PySem.W PyProof.Rows PySem.Spec PySem.Calls
set_option maxRecDepth 100000
set_option maxHeartbeats 8000000
namespace Mine
/-! told -/
noncomputable def toldOk : Stmt → Bool := sAs (fun n => decide (n = S "told")) (pTup (lc (fun e => runE e && nSt e) noStars))
theorem ic_end {L : List Nat} {e d : CS} (h : IC L e d) (hr : ReadyC L true d = false) : d = e := by
  obtain ⟨n, h⟩ := h
  cases h with
  | refl _ => rfl
  | step g k =>
    obtain ⟨q, p, nm, pb, sy, out, live, rfl, _⟩ := g
    cases hr
section
variable {prog : Program} {w : World} {Y : Frag} {Γ : GE}
variable {c : FC (KX w Y) Γ} {m : Str → Option Value} {adr adr₀ : List Addr} {rest news : Led} {s : Shared} {E : Value → Shared → Prop} {x : Str} {ds : List Dat} {n : Nat} {L : List Nat} {ret : Bool} {i : Nat} {nm pb sy : Dat} {d : CS}
theorem law_told {st : Stmt} (ho : toldOk st = true) (hL : L.length ≤ 100000) (hd : IC L (eE L nm pb sy ds) d) (G : FG c) (hr : Room c.A 170) (ec : c.cs = scopeOf (KX w Y) 625) (e0 : adr₀ <+: adr) (h7 : adr₀.length = 7) (SA : AtS prog w c m adr rest news (tokF L true ret [] d) s) (hl : LocOk c.cl adr rest (LGv n x ds) m)
    (hv : ∀ Q : List LV → Hp → Prop, vArgs (EX w Y P11 29) (scopeOf (KX w Y) 625) ((tupT st).drop 1) (LGv n x ds) (HE L ret ds []) Q = Q [.obj 5, .obj 6, .obj 4, .d (.int ((L.length : Nat) + 1)), .d (.str (S "data")), dN] (HE L ret ds []))
    {P : Fl → Mine.Loc → Hp → Prop} {Q : Flow → Shared → Prop} (hP : P .next ((S "told", .obj 7) :: LGv n x ds) (HE L ret ds [.tup (TE L)])) (r : RetS prog w c adr₀ rest s P Q) : wpAny (model prog w) c.A (exec st c.env) Q E s := by
  have P11k : PmOk prog w (KX w Y) Γ P11 130 := pm_up (fun h => kx_in) p11_ok
  have big : szLine = 16777216 := rfl
  obtain ⟨xn, q, v, p, rfl, h1, h2⟩ := sAs.inv ho
  have h1 := of_decide_eq_true h1
  subst h1
  obtain ⟨es, kk, pp, rfl, h3⟩ := pTup.inv h2
  obtain ⟨e, es, rfl, h4, h5⟩ := lc.inv h3
  obtain ⟨h6, h7s⟩ := Bool.and_eq_true_iff.mp h4
  have L0 : LocOk c.cl adr₀ rest (LGv n x ds) m := by
    have g2 := hl.cut (k := 7) fun y v hy => look_small (l := LGv n x ds) (k := 7) (by kernel_rfl) hy
    have g3 : adr.take 7 = adr₀ := by
      have := List.prefix_iff_eq_take.mp e0
      rw [h7] at this
      exact this.symm
    rwa [g3] at g2
  refine wpAny_Assign_Name (Tuple_ (args_cons ?_ (starEach_cons (nSt.is h7s)))) rfl
  refine eval_run h6 (show L.length ≤ szLine by omega) (IC L (eE L nm pb sy ds)) (lft L (eE L nm pb sy ds)) (inv_closed hL rfl) hd G (hr.le (by decide)) e0 (Nat.le_of_eq h7) SA hl (by kernel_rfl) (by rw [ec]; kernel_rfl)
    (P := fun v H => v = .d (.bool true) ∧ H = HE L ret ds []) (fun d h1 h2 => by rw [ic_end h1 h2]; exact ⟨rfl, rfl⟩) ?_
  rintro v u adr1 rest1 news1 H1 h1 tk1 q1 q2 S1 hm1 ⟨rfl, rfl⟩
  have L1 := L0.mono q1 q2
  refine vArgs_sound (run_sound (prog := prog) (Γ := Γ) (tt_okX w Y) P11k 29) G (hr.le (by decide)) (es := es) h5 S1 (nmk G L1) (P := fun vs H => vs = [.obj 5, .obj 6, .obj 4, .d (.int ((L.length : Nat) + 1)), .d (.str (S "data")), dN] ∧ H = HE L ret ds []) ?_ ?_
  · rw [ec]; exact Eq.mpr (hv _) ⟨rfl, rfl⟩
  rintro vs us adr2 rest2 news2 H2 h2 tk2 q3 q4 S2 hm2 ⟨rfl, rfl⟩
  have hmT : MtL adr2 rest2 (TE L) (u :: us) := .cons (hm1.mono q3 q4) hm2
  have hlen := hmT.length
  refine kup_newTuple S2.F S2.N (fun D' h' F' N' lt => ?_) (by rw [← hlen]; show 7 ≤ sizeLine; decide)
  have R' := S2.R.alloc1 (x := D') (o := { cls := .type "tuple", data := .seq (u :: us).toArray }) (O := .tup (TE L)) (fun q hq => Nat.ne_of_lt (lt q hq)) ⟨u :: us, rfl, hmT.mono (List.prefix_append _ _) Sub.rfl⟩
  refine storeX_L F' N' (fun h'' F'' N'' => ?_) c.hk (by rw [ec]; kernel_rfl)
  have L2 := (L1.mono q3 q4).mono (List.prefix_append adr2 [D']) (Sub.rfl : Sub rest2 rest2)
  refine r .next .next _ _ (adr2 ++ [D']) rest2 _ _ h'' (tk2 + 1) ((q1.trans q3).trans (List.prefix_append _ _)) (q2.trans q4) ⟨F'', N'', R', S2.up⟩ (L2.put (v := .obj 7) (G.loc _ (by rw [ec]; kernel_rfl)) ⟨D', ?_, rfl⟩) mNext hP
  have h7b : adr2.length = 7 := S2.R.len
  rw [← h7b, List.getElem?_append_right (Nat.le_refl _), Nat.sub_self]; rfl
end
end Mine
end
section
open PySem PySem.W PyProof.Rows PySem.Spec PySem.Calls
set_option maxRecDepth 100000
set_option maxHeartbeats 8000000
namespace Mine
/-! the law's end -/
section
variable {prog : Program} {w : World} {Y : Frag} {Γ : GE}
variable {c : FC (KX w Y) Γ} {m : Str → Option Value} {adr : List Addr} {rest news : Led} {s : Shared} {E : Value → Shared → Prop} {x : Str} {ds : List Dat} {n : Nat} {nm pb sy : Dat} {e : CS} {H : Hp}
theorem jf_0 (hR : RR (nl (cl x)) c00 e) : JF x n e 0 H00 := by
  refine ⟨c00, ?_, .inl hR, rfl⟩
  rw [Nat.zero_mul]; rfl
theorem jf_N (hn : 1 ≤ n) (he : End e) (h : JF x n e ((x.length + n - 1) / n) H) : ∃ d, H = tokF (nl (cl x)) false (sg x (cl x).length).ret (sg x (cl x).length).serr d ∧ IC (nl (cl x)) e { d with wait := false } := by
  obtain ⟨d, rfl, h1, _⟩ := h
  have el : (cl x).length = x.length := lenL x
  have e2 : (cl x).take ((x.length + n - 1) / n * n) = cl x := by
    refine List.take_of_length_le ?_
    have h2 := Nat.div_add_mod (x.length + n - 1) n
    have h3 := Nat.mod_lt (x.length + n - 1) (show 0 < n by omega)
    rw [Nat.mul_comm] at h2
    omega
  have e3 : sg x ((x.length + n - 1) / n * n) = feedL σ₀ (cl x) := by show feedL σ₀ ((cl x).take _) = _; rw [e2]
  have e4 : sg x (cl x).length = feedL σ₀ (cl x) := by show feedL σ₀ ((cl x).take _) = _; rw [List.take_length]
  rw [e3, e4]
  exact ⟨d, rfl, io_wait he.wt h1⟩
theorem law_end (hW : Wrt 5 x ds) (hn : SzOk n) (G : FG c) (hr : Room c.A 170) (ec : c.cs = scopeOf (KX w Y) 625) (hE : PassesOwn (model prog w) c.A c.env E) (h7 : adr.length = 7) (SA : AtS prog w c m adr rest news H00 s) (hl : LocOk c.cl adr rest (LGv n x (ds ++ [eofT])) m)
    {Q : Flow → Shared → Prop} (r : RetS prog w c [] [] s PTrue Q) : wpAny (model prog w) c.A (execs ((bodyOf (KX w Y) 625).drop 8) c.env) Q E s := by
  have P11k : PmOk prog w (KX w Y) Γ P11 130 := pm_up (fun h => kx_in) p11_ok
  have big : szLine = 16777216 := rfl
  obtain ⟨hx, _⟩ := hW.len
  obtain ⟨n1, n2⟩ := sz_n hn
  obtain ⟨nm, pb, sy, hR⟩ := text_run hW
  have he : End (eE (nl (cl x)) nm pb sy (ds ++ [eofT])) := ⟨rfl, rfl⟩
  have hb : (bodyOf (KX w Y) 625).drop 8 = nth (bodyOf (KX w Y) 625) 8 :: (((bodyOf (KX w Y) 625).drop 9).take 1 ++ [nth (bodyOf (KX w Y) 625) 10, nth (bodyOf (KX w Y) 625) 11]) := by kernel_rfl
  rw [hb]
  have eX : lpX (nth (bodyOf (KX w Y) 625) 8) = S "first" := by kernel_rfl
  refine wpAny_execs_cons (for_r3h (run_sound (prog := prog) (Γ := Γ) (tt_okX w Y) P11k 30) G (hr.le (by decide)) (stm := nth (bodyOf (KX w Y) 625) 8) (by kernel_rfl) (b := x.length) (st := n) (N := (x.length + n - 1) / n) (P := fun fl l' H' => fl = .next ∧ l' = LGv n x (ds ++ [eofT]) ∧ JF x n (eE (nl (cl x)) nm pb sy (ds ++ [eofT])) ((x.length + n - 1) / n) H') (JF x n (eE (nl (cl x)) nm pb sy (ds ++ [eofT])))
    hE (by rw [ec, eX]; kernel_rfl) (by rw [ec]; kernel_rfl) (by kernel_rfl) SA hl ?_ n1 (by omega) (by omega) rfl ?_ (fun H' hJ => ⟨rfl, rfl, hJ⟩) ?_)
  · rw [ec]
    exact Eq.mpr v_h8c ⟨rfl, Eq.mpr v_h8a (gd_i (by omega) ⟨rfl, Eq.mpr v_h8b ⟨rfl, jf_0 hR⟩⟩)⟩
  · intro i adr' rest' news' H' m' s' Q' hi hpre hJ S' L' r'
    rw [eX] at L'
    have hin : i * n ≤ x.length := by
      have h2 : i + 1 ≤ (x.length + n - 1) / n := hi
      have h3 := (Nat.le_div_iff_mul_le (by omega)).mp h2
      rw [Nat.add_mul, Nat.one_mul] at h3
      omega
    exact turn_f (c := c.t00) hW he hin ⟨G.dbg, G.loc, G.cel, G.fre⟩ hr ec S' hJ L' hpre h7 r'
  rintro fl f l1 m1 adr1 rest1 news1 H1 h1 tk1 q1 q2 S1 L1 hmf ⟨rfl, rfl, hJ⟩
  cases hmf
  dsimp only
  obtain ⟨d, rfl, hd⟩ := jf_N n1 he hJ
  have hse : (sg x (cl x).length).serr = [] := feed_serr _ _ (fun k hk => hW.ok k (List.mem_of_mem_take hk)) rfl
  rw [hse] at S1
  generalize (sg x (cl x).length).ret = rt at S1
  refine pre_ok (tt_okX w Y) P11k G 30 (hr.le (by decide)) S1 L1 (P := fun fl l' H' => fl = .next ∧ l' = LGv n x (ds ++ [eofT]) ∧ H' = tokF (nl (cl x)) true rt [] { d with wait := false }) ?_ ?_
  · rw [ec]
    exact Eq.mpr v_h10 ⟨false, ⟨nl (cl x), rt, []⟩, d.p, d.q.nm, d.out, d.errs, d.wait, d.done, _, _, rfl, rfl, dok d, rfl, rfl, rfl⟩
  rintro fl f l2 m2 adr2 rest2 news2 H2 h2 tk2 q3 q4 S2 L2 hmf ⟨rfl, rfl, rfl⟩
  cases hmf
  dsimp only
  have hLn := nl_len x
  refine wpAny_execs_cons (law_told (st := nth (bodyOf (KX w Y) 625) 10) (by kernel_rfl) (show (nl (cl x)).length ≤ 100000 by omega) hd G hr ec (q1.trans q3) h7 S2 L2 (fun Q => v_i0) (P := fun fl l' H' => fl = .next ∧ l' = (S "told", .obj 7) :: LGv n x (ds ++ [eofT]) ∧ H' = HE (nl (cl x)) rt (ds ++ [eofT]) [.tup (TE (nl (cl x)))]) ⟨rfl, rfl, rfl⟩ ?_)
  rintro fl f l3 m3 adr3 rest3 news3 H3 h3 tk3 q5 q6 S3 L3 hmf ⟨rfl, rfl, rfl⟩
  cases hmf
  dsimp only
  refine wpAny_execs_cons (law_fin (st := nth (bodyOf (KX w Y) 625) 11) (by kernel_rfl) hW (by omega) G hr ec S3 L3 (fun PV => v_i1) ?_)
  rintro fl f l4 m4 adr4 rest4 news4 H4 h4 tk4 q7 q8 S4 L4 hmf hp
  have hp : fl = .ret (.d (.bool true)) := hp
  subst hp
  obtain ⟨u, rfl, hu⟩ := hmf
  dsimp only
  exact r (.ret (.d (.bool true))) (.ret u) l4 m4 adr4 rest4 news4 H4 h4 tk4 List.nil_prefix (fun z hz => by cases hz) S4 L4 (mRet hu) rfl
end
end Mine
end
section
open PySem PySem.W PyProof.Rows PySem.Spec PySem.Calls
set_option maxRecDepth 100000
set_option maxHeartbeats 8000000
namespace Mine
/-! the law, whole -/
section
variable {prog : Program} {w : World} {Y : Frag} {Γ : GE}
variable {c : FC (KX w Y) Γ} {m : Str → Option Value} {adr : List Addr} {rest news : Led} {s : Shared} {E : Value → Shared → Prop} {a ak as : Addr}
theorem law_ok (hY : Scr w Y a) (G : FG c) (h0 : c.t0 = 0) (hr : Room c.A 200) (ec : c.cs = scopeOf (KX w Y) 625) (ecl : c.cl = [(S "k", ak), (S "script", as)]) (hE : PassesOwn (model prog w) c.A c.env E)
    (SA : AtS prog w c m adr rest news [.cell none, .cell (some (.top a))] s) (hl : LocOk c.cl adr rest [(S "k", .obj 0), (S "script", .obj 1)] m) {Q : Flow → Shared → Prop}
    (hQ : ∀ m' news' h' tk', Fr c.h₀ c.L h' m' → News c.h₀ c.L h' news' → Q (.ret (.bool true)) { s with heap := h', toks := tk' }) : wpAny (model prog w) c.A (execs (bodyOf (KX w Y) 625) c.env) Q E s := by
  have r : RetS prog w c [] [] s PTrue Q := by
    rintro fl f l m' adr' rest' news' H' h' tk' e1 e2 S' L' hmf hp
    have hp : fl = .ret (.d (.bool true)) := hp
    subst hp
    obtain ⟨u, rfl, hu⟩ := hmf
    obtain rfl := dInv hu
    exact hQ _ _ _ _ S'.F S'.N
  refine law_pre hY G (hr.le (by decide)) ec ecl hE SA hl ?_ r
  rintro x ds m1 rest1 news1 s1 hW S1 L1 ⟨b, hb1, hb2⟩ r1
  refine law_states G (hr.le (by decide)) ec S1 L1 ?_ r1
  intro m2 adr2 rest2 news2 s2 sb S2 L2 r2
  refine law_size hY G (hr.le (by decide)) ec ecl S2 L2 ⟨b, sb _ hb1, hb2⟩ ?_ r2
  intro n m3 adr3 rest3 news3 s3 hn h7 sb3 S3 L3 r3
  exact law_end hW hn G (hr.le (by decide)) ec hE h7 ⟨S3.F, S3.N, S3.R, by rw [h0]; exact Nat.zero_le _⟩ L3 r3
end
end Mine
end
section
open PySem PySem.W PyProof.Rows
set_option maxRecDepth 100000
set_option maxHeartbeats 8000000
namespace Mine

noncomputable def at2 : AT := (.node (Str.mk (Array.mk [116, 121, 112, 101, 46, 95, 95, 115, 117, 98, 99, 108, 97, 115, 115, 101, 115, 95, 95, 46, 69, 120, 99, 101, 112, 116, 105, 111, 110, 46, 48])) (.node (Str.mk (Array.mk [116, 121, 112, 101, 46, 95, 95, 115, 117, 98, 99, 108, 97, 115, 115, 101, 115, 95, 95, 46, 69, 120, 99, 101, 112, 116, 105, 111, 110, 46, 110])) (.node (Str.mk (Array.mk [108, 97, 119, 95, 110, 116, 48, 54, 49, 50, 95, 48, 49])) (.node (Str.mk (Array.mk [95, 95, 115, 112, 101, 99, 95, 95])) (.node (Str.mk (Array.mk [105, 115, 95, 117, 112, 112, 101, 114])) (.node (Str.mk (Array.mk [97, 102, 116, 101, 114, 95, 110, 97, 109, 101, 95, 115, 116, 97, 116, 101])) (.node (Str.mk (Array.mk [108, 97, 119])) (.node (Str.mk (Array.mk [97, 116])) .nil .nil) .nil) (.node (Str.mk (Array.mk [95, 95, 102, 105, 114, 115, 116, 108, 105, 110, 101, 110, 111, 95, 95])) (.node (Str.mk (Array.mk [105, 110, 95, 118, 97, 108, 117, 101])) .nil .nil) .nil)) (.node (Str.mk (Array.mk [97, 102, 116, 101, 114, 95, 115, 121, 115, 116, 101, 109, 95, 115, 116, 97, 116, 101])) (.node (Str.mk (Array.mk [68, 114, 97, 102, 116, 46, 97, 100, 100, 95, 110, 97, 109, 101])) (.node (Str.mk (Array.mk [100, 114, 97, 102, 116])) .nil .nil) .nil) (.node (Str.mk (Array.mk [101, 110, 100])) (.node (Str.mk (Array.mk [105, 115, 95, 119, 97, 105, 116, 105, 110, 103])) .nil .nil) .nil))) (.node (Str.mk (Array.mk [103, 105, 118, 101, 95, 113, 117, 105, 114, 107, 121])) (.node (Str.mk (Array.mk [112, 117, 98, 108, 105, 99, 95, 115, 105, 110, 103, 108, 101, 95, 115, 116, 97, 116, 101])) (.node (Str.mk (Array.mk [110, 97, 109, 101])) (.node (Str.mk (Array.mk [84, 111, 107, 101, 110, 105, 122, 101, 114, 46, 101, 114, 114, 111, 114])) .nil .nil) .nil) (.node (Str.mk (Array.mk [113, 117, 111, 116, 101])) (.node (Str.mk (Array.mk [105, 115, 95, 114, 101, 97, 100, 121])) .nil .nil) .nil)) (.node (Str.mk (Array.mk [95, 108, 97, 119, 95, 100, 105, 103, 105, 116])) (.node (Str.mk (Array.mk [116, 111, 107, 101, 110])) (.node (Str.mk (Array.mk [105, 115, 95, 102, 111, 108, 100, 101, 100])) .nil .nil) .nil) (.node (Str.mk (Array.mk [100, 97, 116, 97])) (.node (Str.mk (Array.mk [111, 116, 104, 101, 114])) .nil .nil) .nil)))) (.node (Str.mk (Array.mk [47, 99, 108, 97, 105, 109, 47, 99, 117, 116, 46, 112, 121])) (.node (Str.mk (Array.mk [105, 115, 95, 99, 111, 110, 116, 114, 111, 108])) (.node (Str.mk (Array.mk [119, 105, 116, 104, 105, 110, 95, 105, 100, 101, 110, 116, 105, 102, 105, 101, 114])) (.node (Str.mk (Array.mk [104, 116, 109, 108, 116, 114, 101, 101, 46, 115, 105, 103, 110, 115])) (.node (Str.mk (Array.mk [84, 111, 107, 101, 110, 105, 122, 101, 114, 46, 116, 111])) .nil .nil) .nil) (.node (Str.mk (Array.mk [116])) (.node (Str.mk (Array.mk [98, 101, 103, 117, 110])) .nil .nil) .nil)) (.node (Str.mk (Array.mk [77, 105, 115, 117, 115, 101, 100])) (.node (Str.mk (Array.mk [99, 104, 101, 99, 107, 95, 97, 116, 116, 114])) (.node (Str.mk (Array.mk [84, 111, 107, 101, 110, 105, 122, 101, 114, 46, 101, 109, 105, 116, 95, 101, 111, 102])) .nil .nil) .nil) (.node (Str.mk (Array.mk [101, 114, 114, 111, 114, 115])) (.node (Str.mk (Array.mk [112, 108, 97, 99, 101])) .nil .nil) .nil))) (.node (Str.mk (Array.mk [111, 112, 101, 110, 95, 105, 100, 101, 110, 116, 105, 102, 105, 101, 114])) (.node (Str.mk (Array.mk [97, 102, 116, 101, 114, 95, 115, 121, 115, 116, 101, 109, 95, 107, 101, 121, 119, 111, 114, 100, 95, 115, 116, 97, 116, 101])) (.node (Str.mk (Array.mk [98, 101, 103, 105, 110, 95, 97, 116, 116, 114])) (.node (Str.mk (Array.mk [101, 109, 105, 116, 95, 115, 105, 103, 110])) .nil .nil) .nil) (.node (Str.mk (Array.mk [104, 116, 109, 108, 116, 114, 101, 101, 46, 115, 116, 114, 101, 97, 109])) (.node (Str.mk (Array.mk [98, 97, 99, 107])) .nil .nil) .nil)) (.node (Str.mk (Array.mk [95, 108, 97, 119, 95, 111, 110, 101])) (.node (Str.mk (Array.mk [105, 115, 95, 113, 117, 105, 114, 107, 115])) (.node (Str.mk (Array.mk [116, 97, 107, 101])) .nil .nil) .nil) (.node (Str.mk (Array.mk [84, 111, 107, 101, 110, 105, 122, 101, 114, 46, 95, 95, 105, 110, 105, 116, 95, 95])) .nil .nil))))) (.node (Str.mk (Array.mk [95, 95, 112, 97, 99, 107, 97, 103, 101, 95, 95])) (.node (Str.mk (Array.mk [95, 95, 98, 117, 105, 108, 116, 105, 110, 115, 95, 95])) (.node (Str.mk (Array.mk [105, 115, 95, 115, 117, 114, 114, 111, 103, 97, 116, 101])) (.node (Str.mk (Array.mk [98, 101, 102, 111, 114, 101, 95, 105, 100, 101, 110, 116, 105, 102, 105, 101, 114])) (.node (Str.mk (Array.mk [95, 95, 109, 97, 105, 110, 95, 95])) (.node (Str.mk (Array.mk [84, 111, 107, 101, 110, 105, 122, 101, 114, 46, 110, 101, 120, 116])) .nil .nil) .nil) (.node (Str.mk (Array.mk [95, 95, 100, 105, 99, 116, 95, 95])) (.node (Str.mk (Array.mk [102, 108, 117, 115, 104])) .nil .nil) .nil)) (.node (Str.mk (Array.mk [100, 111, 99, 116, 121, 112, 101, 95, 115, 116, 97, 116, 101, 115])) (.node (Str.mk (Array.mk [97, 100, 100, 95, 118, 97, 108, 117, 101])) (.node (Str.mk (Array.mk [84, 111, 107, 101, 110, 105, 122, 101, 114, 46, 101, 109, 105, 116, 95, 100, 114, 97, 102, 116])) .nil .nil) .nil) (.node (Str.mk (Array.mk [109, 97, 110, 121])) (.node (Str.mk (Array.mk [115, 116, 114, 101, 97, 109])) .nil .nil) .nil))) (.node (Str.mk (Array.mk [115, 112, 111, 105, 108])) (.node (Str.mk (Array.mk [98, 101, 116, 119, 101, 101, 110, 95, 115, 116, 97, 116, 101])) (.node (Str.mk (Array.mk [68, 114, 97, 102, 116, 46, 95, 95, 105, 110, 105, 116, 95, 95])) (.node (Str.mk (Array.mk [84, 111, 107, 101, 110, 105, 122, 101, 114, 46, 101, 109, 105, 116])) .nil .nil) .nil) (.node (Str.mk (Array.mk [72, 116, 109, 108, 70, 97, 117, 108, 116, 46, 95, 95, 105, 110, 105, 116, 95, 95])) (.node (Str.mk (Array.mk [114, 117, 110])) .nil .nil) .nil)) (.node (Str.mk (Array.mk [95, 108, 97, 119, 95, 98, 108, 97, 110, 107, 115])) (.node (Str.mk (Array.mk [97, 116, 116, 114, 115])) (.node (Str.mk (Array.mk [108, 111, 111, 107, 115])) .nil .nil) .nil) (.node (Str.mk (Array.mk [115, 116, 97, 116, 101, 115])) (.node (Str.mk (Array.mk [95, 95, 113, 117, 97, 108, 110, 97, 109, 101, 95, 95])) .nil .nil) .nil)))) (.node (Str.mk (Array.mk [95, 119, 97, 108, 108])) (.node (Str.mk (Array.mk [98, 101, 103, 105, 110, 95, 100, 111, 99, 116, 121, 112, 101])) (.node (Str.mk (Array.mk [98, 101, 102, 111, 114, 101, 95, 112, 117, 98, 108, 105, 99, 95, 115, 116, 97, 116, 101])) (.node (Str.mk (Array.mk [115, 101, 108, 102])) (.node (Str.mk (Array.mk [84, 111, 107, 101, 110, 105, 122, 101, 114, 46, 97, 103, 97, 105, 110])) .nil .nil) .nil) (.node (Str.mk (Array.mk [99, 111, 100, 101])) (.node (Str.mk (Array.mk [115, 116, 101, 112])) .nil .nil) .nil)) (.node (Str.mk (Array.mk [83, 116, 114, 101, 97, 109])) (.node (Str.mk (Array.mk [107, 101, 112, 116])) (.node (Str.mk (Array.mk [84, 111, 107, 101, 110, 105, 122, 101, 114, 46, 105, 115, 95, 97, 112, 116])) .nil .nil) .nil) (.node (Str.mk (Array.mk [105, 115, 95, 114, 101, 116, 117, 114, 110])) (.node (Str.mk (Array.mk [108, 101, 97, 115, 116])) .nil .nil) .nil))) (.node (Str.mk (Array.mk [98, 101, 102, 111, 114, 101, 95, 110, 97, 109, 101, 95, 115, 116, 97, 116, 101])) (.node (Str.mk (Array.mk [115, 121, 115, 116, 101, 109, 95, 100, 111, 117, 98, 108, 101, 95, 115, 116, 97, 116, 101])) (.node (Str.mk (Array.mk [116, 101, 120, 116])) (.node (Str.mk (Array.mk [101, 109, 105, 116, 95, 116, 101, 120, 116])) .nil .nil) .nil) (.node (Str.mk (Array.mk [102, 101, 101, 100])) (.node (Str.mk (Array.mk [105, 115, 95, 100, 111, 110, 101])) .nil .nil) .nil)) (.node (Str.mk (Array.mk [95, 108, 97, 119, 95, 100, 111, 99, 116, 121, 112, 101])) (.node (Str.mk (Array.mk [115, 121, 115, 116, 101, 109])) (.node (Str.mk (Array.mk [119, 97, 105, 116])) .nil .nil) .nil) (.node (Str.mk (Array.mk [84, 111, 107, 101, 110, 105, 122, 101, 114, 46, 102, 101, 101, 100])) .nil .nil)))))) (.node (Str.mk (Array.mk [95, 95, 110, 97, 109, 101, 95, 95])) (.node (Str.mk (Array.mk [95, 95, 100, 111, 99, 95, 95])) (.node (Str.mk (Array.mk [95, 95, 97, 110, 110, 111, 116, 97, 116, 105, 111, 110, 115, 95, 95])) (.node (Str.mk (Array.mk [108, 111, 119, 101, 114])) (.node (Str.mk (Array.mk [97, 102, 116, 101, 114, 95, 107, 101, 121, 119, 111, 114, 100])) (.node (Str.mk (Array.mk [107])) (.node (Str.mk (Array.mk [110, 101, 120, 116])) .nil .nil) .nil) (.node (Str.mk (Array.mk [95, 95, 115, 116, 97, 116, 105, 99, 95, 97, 116, 116, 114, 105, 98, 117, 116, 101, 115, 95, 95])) (.node (Str.mk (Array.mk [84, 111, 107, 101, 110, 105, 122, 101, 114, 46, 105, 110, 95, 118, 97, 108, 117, 101])) .nil .nil) .nil)) (.node (Str.mk (Array.mk [98, 111, 103, 117, 115, 95, 115, 116, 97, 116, 101])) (.node (Str.mk (Array.mk [108, 97, 115, 116])) (.node (Str.mk (Array.mk [101, 109, 105, 116, 95, 100, 114, 97, 102, 116])) .nil .nil) .nil) (.node (Str.mk (Array.mk [83, 116, 114, 101, 97, 109, 46, 101, 110, 100])) (.node (Str.mk (Array.mk [111, 117, 116])) .nil .nil) .nil))) (.node (Str.mk (Array.mk [101, 110, 100, 95, 119, 105, 116, 104, 105, 110])) (.node (Str.mk (Array.mk [97, 102, 116, 101, 114, 95, 112, 117, 98, 108, 105, 99, 95, 115, 116, 97, 116, 101])) (.node (Str.mk (Array.mk [95, 95, 105, 110, 105, 116, 95, 95])) (.node (Str.mk (Array.mk [101, 109, 105, 116])) .nil .nil) .nil) (.node (Str.mk (Array.mk [119, 104, 121])) (.node (Str.mk (Array.mk [84, 111, 107, 101, 110, 105, 122, 101, 114, 46, 105, 115, 95, 114, 101, 97, 100, 121])) .nil .nil) .nil)) (.node (Str.mk (Array.mk [95, 108, 97, 119, 95, 100, 114, 97, 119, 110])) (.node (Str.mk (Array.mk [68, 114, 97, 102, 116, 46, 116, 111, 107, 101, 110])) (.node (Str.mk (Array.mk [105])) .nil .nil) .nil) (.node (Str.mk (Array.mk [])) (.node (Str.mk (Array.mk [60, 109, 111, 100, 117, 108, 101, 62])) .nil .nil) .nil)))) (.node (Str.mk (Array.mk [95, 95, 99, 97, 99, 104, 101, 100, 95, 95])) (.node (Str.mk (Array.mk [68, 114, 97, 102, 116])) (.node (Str.mk (Array.mk [97, 102, 116, 101, 114, 95, 112, 117, 98, 108, 105, 99, 95, 107, 101, 121, 119, 111, 114, 100, 95, 115, 116, 97, 116, 101])) (.node (Str.mk (Array.mk [110])) (.node (Str.mk (Array.mk [97, 103, 97, 105, 110])) .nil .nil) .nil) (.node (Str.mk (Array.mk [104, 116, 109, 108, 116, 114, 101, 101, 46, 100, 111, 99, 116, 121, 112, 101, 115, 116, 97, 116, 101, 115])) (.node (Str.mk (Array.mk [114, 117, 108, 101])) .nil .nil) .nil)) (.node (Str.mk (Array.mk [105, 110, 112, 117, 116, 95, 101, 114, 114, 111, 114])) (.node (Str.mk (Array.mk [68, 114, 97, 102, 116, 46, 99, 104, 101, 99, 107, 95, 97, 116, 116, 114])) (.node (Str.mk (Array.mk [105, 115, 95, 97, 112, 116])) .nil .nil) .nil) (.node (Str.mk (Array.mk [105, 115, 95, 99, 108, 111, 115, 101, 100])) (.node (Str.mk (Array.mk [100, 105, 103, 105, 116])) .nil .nil) .nil))) (.node (Str.mk (Array.mk [100, 111, 99, 116, 121, 112, 101, 95, 115, 116, 97, 116, 101])) (.node (Str.mk (Array.mk [98, 101, 102, 111, 114, 101, 95, 115, 121, 115, 116, 101, 109, 95, 115, 116, 97, 116, 101])) (.node (Str.mk (Array.mk [68, 114, 97, 102, 116, 46, 98, 101, 103, 105, 110, 95, 97, 116, 116, 114])) (.node (Str.mk (Array.mk [84, 111, 107, 101, 110, 105, 122, 101, 114, 46, 101, 109, 105, 116, 95, 115, 105, 103, 110])) .nil .nil) .nil) (.node (Str.mk (Array.mk [83, 116, 114, 101, 97, 109, 46, 95, 95, 105, 110, 105, 116, 95, 95])) (.node (Str.mk (Array.mk [98, 117, 102, 102, 101, 114])) .nil .nil) .nil)) (.node (Str.mk (Array.mk [95, 108, 97, 119, 95, 105, 100, 101, 110, 116, 105, 102, 105, 101, 114])) (.node (Str.mk (Array.mk [112, 117, 98, 108, 105, 99])) (.node (Str.mk (Array.mk [84, 111, 107, 101, 110, 105, 122, 101, 114, 46, 116, 97, 107, 101])) .nil .nil) .nil) (.node (Str.mk (Array.mk [104, 116, 109, 108, 116, 114, 101, 101, 46, 116, 111, 107, 101, 110, 105, 122, 101, 114])) .nil .nil))))) (.node (Str.mk (Array.mk [95, 95, 108, 111, 97, 100, 101, 114, 95, 95])) (.node (Str.mk (Array.mk [95, 95, 102, 105, 108, 101, 95, 95])) (.node (Str.mk (Array.mk [105, 115, 95, 110, 111, 110, 99, 104, 97, 114, 97, 99, 116, 101, 114])) (.node (Str.mk (Array.mk [110, 111, 95, 105, 100, 101, 110, 116, 105, 102, 105, 101, 114])) (.node (Str.mk (Array.mk [99])) (.node (Str.mk (Array.mk [116, 111])) .nil .nil) .nil) (.node (Str.mk (Array.mk [95, 95, 119, 101, 97, 107, 114, 101, 102, 95, 95])) (.node (Str.mk (Array.mk [84, 111, 107, 101, 110, 105, 122, 101, 114, 46, 102, 108, 117, 115, 104])) .nil .nil) .nil)) (.node (Str.mk (Array.mk [72, 116, 109, 108, 70, 97, 117, 108, 116])) (.node (Str.mk (Array.mk [68, 114, 97, 102, 116, 46, 97, 100, 100, 95, 118, 97, 108, 117, 101])) (.node (Str.mk (Array.mk [101, 109, 105, 116, 95, 101, 111, 102])) .nil .nil) .nil) (.node (Str.mk (Array.mk [83, 116, 114, 101, 97, 109, 46, 109, 97, 110, 121])) (.node (Str.mk (Array.mk [115, 99, 114, 105, 112, 116])) .nil .nil) .nil))) (.node (Str.mk (Array.mk [97, 100, 100, 95, 116, 111, 95, 105, 100, 101, 110, 116, 105, 102, 105, 101, 114])) (.node (Str.mk (Array.mk [110, 111, 95, 115, 101, 99, 111, 110, 100])) (.node (Str.mk (Array.mk [104, 116, 109, 108, 116, 114, 101, 101, 46, 116, 111, 107, 101, 110, 115])) (.node (Str.mk (Array.mk [115, 105, 103, 110])) .nil .nil) .nil) (.node (Str.mk (Array.mk [104, 116, 109, 108, 116, 114, 101, 101, 46, 102, 97, 117, 108, 116, 115])) (.node (Str.mk (Array.mk [84, 111, 107, 101, 110, 105, 122, 101, 114, 46, 114, 117, 110])) .nil .nil) .nil)) (.node (Str.mk (Array.mk [95, 108, 97, 119, 95, 114, 97, 105, 115, 101, 100])) (.node (Str.mk (Array.mk [105, 115, 95, 99, 108, 111, 115, 105, 110, 103])) (.node (Str.mk (Array.mk [84, 111, 107, 101, 110, 105, 122, 101, 114, 46, 108, 111, 111, 107, 115])) .nil .nil) .nil) (.node (Str.mk (Array.mk [115, 116, 97, 116, 101])) .nil .nil)))) (.node (Str.mk (Array.mk [105, 115, 95, 98, 108, 97, 110, 107])) (.node (Str.mk (Array.mk [103, 105, 118, 101, 95, 100, 111, 99, 116, 121, 112, 101])) (.node (Str.mk (Array.mk [112, 117, 98, 108, 105, 99, 95, 100, 111, 117, 98, 108, 101, 95, 115, 116, 97, 116, 101])) (.node (Str.mk (Array.mk [107, 105, 110, 100])) (.node (Str.mk (Array.mk [101, 114, 114, 111, 114])) .nil .nil) .nil) (.node (Str.mk (Array.mk [115, 111, 114, 116])) (.node (Str.mk (Array.mk [84, 111, 107, 101, 110, 105, 122, 101, 114, 46, 115, 116, 101, 112])) .nil .nil) .nil)) (.node (Str.mk (Array.mk [84, 111, 107, 101, 110, 105, 122, 101, 114])) (.node (Str.mk (Array.mk [97, 116, 116, 114])) (.node (Str.mk (Array.mk [119, 111, 114, 100])) .nil .nil) .nil) (.node (Str.mk (Array.mk [115, 105, 103, 110, 115])) (.node (Str.mk (Array.mk [109, 111, 115, 116])) .nil .nil) .nil))) (.node (Str.mk (Array.mk [110, 97, 109, 101, 95, 115, 116, 97, 116, 101])) (.node (Str.mk (Array.mk [115, 121, 115, 116, 101, 109, 95, 115, 105, 110, 103, 108, 101, 95, 115, 116, 97, 116, 101])) (.node (Str.mk (Array.mk [97, 100, 100, 95, 110, 97, 109, 101])) (.node (Str.mk (Array.mk [84, 111, 107, 101, 110, 105, 122, 101, 114, 46, 101, 109, 105, 116, 95, 116, 101, 120, 116])) .nil .nil) .nil) (.node (Str.mk (Array.mk [83, 116, 114, 101, 97, 109, 46, 102, 101, 101, 100])) (.node (Str.mk (Array.mk [105, 115, 95, 102, 111, 114, 101, 105, 103, 110])) .nil .nil) .nil)) (.node (Str.mk (Array.mk [95, 108, 97, 119, 95, 100, 97, 116, 97])) (.node (Str.mk (Array.mk [95, 95, 109, 111, 100, 117, 108, 101, 95, 95])) (.node (Str.mk (Array.mk [84, 111, 107, 101, 110, 105, 122, 101, 114, 46, 119, 97, 105, 116])) .nil .nil) .nil) (.node (Str.mk (Array.mk [84, 111, 107, 101, 110, 105, 122, 101, 114, 46, 101, 110, 100])) .nil .nil)))))))
theorem at_eq : at1 = at2 := by kernel_rfl
noncomputable def p_1 (c : Ctx) (a0 a1 a2 a3 a5 a6 a8 : Nat) (a4 a7 : Int) : Obj := .mk (.type "code") .none (.fields #[.str (c.t a0) a1, .str (c.t a0) a2, .str (c.t 11) a3, .int a4 0, .int 0 0, .int 0 0, .int 0 0, .int 0 0, .ref a5, .bool false, .int 181 0, .ref a6, .none, .none, .none, .none, .int a7 0, .int a4 0, .str (c.t 11) a8]) #[]
noncomputable def p_2 (c : Ctx) (a0 a1 a2 a3 : Nat) : Obj := .mk (.type "frame") .none .plain #[(some (.ref a0)), (some (.ref 3)), (some (.ref a1)), .none, (some (.str (c.t a2) a3)), .none, (some (.ref 0))]
noncomputable def p_5 (c : Ctx) (a0 a1 a2 : Nat) : Obj := .mk .none .none (.func (.mk (c.t a0) (c.t a0) (fP (sd c.g a1)) (.stmts (fB (sd c.g a1))) (fS (sd c.g a2)) 0 [] .none .none .none .none .none .none .none 0)) #[]
noncomputable def p_7 (c : Ctx) (a0 a1 a2 a3 a4 a5 : Nat) : Obj := .mk .none .none (.func (.mk (c.t a0) (c.t a1) (fP (md c.g a2 a3)) (.stmts (fB (md c.g a2 a3))) (fS (md c.g a4 a5)) 0 [] .none .none .none .none .none .none .none 0)) #[]
noncomputable def p_9 (c : Ctx) (a0 : Nat) : Obj := .mk (.type "builtin_function_or_method") .none (.fields #[.builtin "object.__init_subclass__", .ref a0]) #[]
noncomputable def p_15 (c : Ctx) (a0 : Nat) : Obj := .mk (.type "super") .none (.fields #[.ref a0, .ref a0, .ref a0]) #[]
noncomputable def o_45 (c : Ctx) : Obj := p_1 c 184 182 183 184 11 12 186 1 185
noncomputable def o_44 (c : Ctx) : Obj := .mk .none .none (.fields #[]) #[]
noncomputable def o_46 (c : Ctx) : Obj := p_2 c 13 3 65 164
noncomputable def o_83 (c : Ctx) : Obj := p_5 c 17 5 7
noncomputable def o_55 (c : Ctx) : Obj := p_5 c 13 0 0
noncomputable def o_69 (c : Ctx) : Obj := p_5 c 15 3 3
noncomputable def o_97 (c : Ctx) : Obj := p_5 c 19 7 7
noncomputable def o_76 (c : Ctx) : Obj := p_5 c 16 4 4
noncomputable def o_62 (c : Ctx) : Obj := p_5 c 14 2 3
noncomputable def o_90 (c : Ctx) : Obj := p_5 c 18 6 7
noncomputable def o_141 (c : Ctx) : Obj := p_7 c 83 84 9 4 47 12
noncomputable def o_157 (c : Ctx) : Obj := p_9 c 115
noncomputable def o_113 (c : Ctx) : Obj := p_7 c 72 73 9 0 9 0
noncomputable def o_103 (c : Ctx) : Obj := .mk (.type "builtin_function_or_method") .none (.fields #[.builtin "type.__prepare__", .type "type"]) #[]
noncomputable def o_127 (c : Ctx) : Obj := p_7 c 78 79 9 2 9 2
noncomputable def o_107 (c : Ctx) : Obj := p_1 c 20 242 243 244 67 68 246 20 245
noncomputable def o_134 (c : Ctx) : Obj := p_7 c 81 82 9 3 9 3
noncomputable def o_106 (c : Ctx) : Obj := .mk .none .none (.fields #[.int 22 0, .int 4 0, .ref 76, .int 32 0, .int 4 0, .ref 83, .int 35 0, .int 4 0, .ref 90, .int 38 0, .int 4 0, .ref 97, .int 42 0, .int 4 0, .ref 104, .int 45 0, .int 4 0, .ref 111]) #[]
noncomputable def o_104 (c : Ctx) : Obj := .mk (.type "dict") .none (.dict #[(DictEntry.mk (PyData.keyHash c.P (c.t 94)) (.str (c.t 94) 247) (.str (c.t 74) 238)), (DictEntry.mk (PyData.keyHash c.P (c.t 185)) (.str (c.t 185) 249) (.str (c.t 20) 248)), (DictEntry.mk (PyData.keyHash c.P (c.t 95)) (.str (c.t 95) 251) (.int 20 250)), (DictEntry.mk (PyData.keyHash c.P (c.t 72)) (.str (c.t 72) 260) (.ref 77)), (DictEntry.mk (PyData.keyHash c.P (c.t 75)) (.str (c.t 75) 267) (.ref 84)), (DictEntry.mk (PyData.keyHash c.P (c.t 78)) (.str (c.t 78) 275) (.ref 91)), (DictEntry.mk (PyData.keyHash c.P (c.t 81)) (.str (c.t 81) 284) (.ref 98)), (DictEntry.mk (PyData.keyHash c.P (c.t 83)) (.str (c.t 83) 291) (.ref 105)), (DictEntry.mk (PyData.keyHash c.P (c.t 87)) (.str (c.t 87) 300) (.ref 112)), (DictEntry.mk (PyData.keyHash c.P (c.t 96)) (.str (c.t 96) 309) (.ref 113))] 10) #[]
noncomputable def o_120 (c : Ctx) : Obj := p_7 c 75 76 9 1 47 12
noncomputable def o_108 (c : Ctx) : Obj := p_2 c 69 66 74 238
noncomputable def o_156 (c : Ctx) : Obj := p_15 c 115
noncomputable def o_148 (c : Ctx) : Obj := p_7 c 87 88 9 5 9 5
noncomputable def o_158 (c : Ctx) : Obj := .mk (.type "dict") .none (.dict #[(DictEntry.mk (PyData.keyHash c.P (c.t 2)) (.str (c.t 2) 165) (.str (c.t 100) 317)), (DictEntry.mk (PyData.keyHash c.P (c.t 4)) (.str (c.t 4) 166) .none), (DictEntry.mk (PyData.keyHash c.P (c.t 5)) (.str (c.t 5) 167) .none), (DictEntry.mk (PyData.keyHash c.P (c.t 6)) (.str (c.t 6) 168) (.builtin "__main__.__loader__#opaque")), (DictEntry.mk (PyData.keyHash c.P (c.t 7)) (.str (c.t 7) 169) .none), (DictEntry.mk (PyData.keyHash c.P (c.t 8)) (.str (c.t 8) 170) (.ref 6)), (DictEntry.mk (PyData.keyHash c.P (c.t 9)) (.str (c.t 9) 171) (.ref 4)), (DictEntry.mk (PyData.keyHash c.P (c.t 10)) (.str (c.t 10) 173) (.str (c.t 11) 172)), (DictEntry.mk (PyData.keyHash c.P (c.t 12)) (.str (c.t 12) 174) .none), (DictEntry.mk (PyData.keyHash c.P (c.t 13)) (.str (c.t 13) 193) (.ref 21)), (DictEntry.mk (PyData.keyHash c.P (c.t 14)) (.str (c.t 14) 202) (.ref 28)), (DictEntry.mk (PyData.keyHash c.P (c.t 15)) (.str (c.t 15) 209) (.ref 35)), (DictEntry.mk (PyData.keyHash c.P (c.t 16)) (.str (c.t 16) 216) (.ref 42)), (DictEntry.mk (PyData.keyHash c.P (c.t 17)) (.str (c.t 17) 223) (.ref 49)), (DictEntry.mk (PyData.keyHash c.P (c.t 18)) (.str (c.t 18) 230) (.ref 56)), (DictEntry.mk (PyData.keyHash c.P (c.t 19)) (.str (c.t 19) 237) (.ref 63)), (DictEntry.mk (PyData.keyHash c.P (c.t 20)) (.str (c.t 20) 316) (.ref 115)), (DictEntry.mk (PyData.keyHash c.P (c.t 21)) (.str (c.t 21) 326) (.ref 126)), (DictEntry.mk (PyData.keyHash c.P (c.t 22)) (.str (c.t 22) 333) (.ref 133)), (DictEntry.mk (PyData.keyHash c.P (c.t 23)) (.str (c.t 23) 340) (.ref 140)), (DictEntry.mk (PyData.keyHash c.P (c.t 24)) (.str (c.t 24) 347) (.ref 147)), (DictEntry.mk (PyData.keyHash c.P (c.t 25)) (.str (c.t 25) 355) (.ref 154)), (DictEntry.mk (PyData.keyHash c.P (c.t 26)) (.str (c.t 26) 364) (.ref 161)), (DictEntry.mk (PyData.keyHash c.P (c.t 27)) (.str (c.t 27) 373) (.ref 168)), (DictEntry.mk (PyData.keyHash c.P (c.t 28)) (.str (c.t 28) 381) (.ref 175)), (DictEntry.mk (PyData.keyHash c.P (c.t 29)) (.str (c.t 29) 389) (.ref 182)), (DictEntry.mk (PyData.keyHash c.P (c.t 30)) (.str (c.t 30) 397) (.ref 189)), (DictEntry.mk (PyData.keyHash c.P (c.t 31)) (.str (c.t 31) 407) (.ref 196)), (DictEntry.mk (PyData.keyHash c.P (c.t 32)) (.str (c.t 32) 416) (.ref 203)), (DictEntry.mk (PyData.keyHash c.P (c.t 33)) (.str (c.t 33) 425) (.ref 210))] 30) #[]
noncomputable def o_199 (c : Ctx) : Obj := p_5 c 26 16 16
noncomputable def o_171 (c : Ctx) : Obj := p_5 c 22 12 14
noncomputable def o_227 (c : Ctx) : Obj := p_5 c 30 20 20
noncomputable def o_185 (c : Ctx) : Obj := p_5 c 24 14 14
noncomputable def o_241 (c : Ctx) : Obj := p_5 c 32 22 23
noncomputable def o_213 (c : Ctx) : Obj := p_5 c 28 18 18
noncomputable def o_248 (c : Ctx) : Obj := p_5 c 33 23 23
noncomputable def o_192 (c : Ctx) : Obj := p_5 c 25 15 15
noncomputable def o_159 (c : Ctx) : Obj := .mk .none .none (.fields #[.int 1 0, .int 0 0, .ref 20, .int 5 0, .int 0 0, .ref 27, .int 7 0, .int 0 0, .ref 34, .int 9 0, .int 0 0, .ref 41, .int 13 0, .int 0 0, .ref 48, .int 15 0, .int 0 0, .ref 55, .int 17 0, .int 0 0, .ref 62, .int 20 0, .int 0 0, .ref 69, .int 56 0, .int 0 0, .ref 125, .int 58 0, .int 0 0, .ref 132, .int 61 0, .int 0 0, .ref 139, .int 64 0, .int 0 0, .ref 146, .int 69 0, .int 0 0, .ref 153, .int 73 0, .int 0 0, .ref 160, .int 78 0, .int 0 0, .ref 167, .int 87 0, .int 0 0, .ref 174, .int 99 0, .int 0 0, .ref 181, .int 117 0, .int 0 0, .ref 188, .int 130 0, .int 0 0, .ref 195, .int 154 0, .int 0 0, .ref 202, .int 163 0, .int 0 0, .ref 209]) #[]
noncomputable def o_220 (c : Ctx) : Obj := p_5 c 29 19 19
noncomputable def o_164 (c : Ctx) : Obj := p_5 c 21 11 11
noncomputable def o_234 (c : Ctx) : Obj := p_5 c 31 21 21
noncomputable def o_178 (c : Ctx) : Obj := p_5 c 23 13 13
noncomputable def o_206 (c : Ctx) : Obj := p_5 c 27 17 17
noncomputable def o_313 (c : Ctx) : Obj := p_5 c 42 32 32
noncomputable def o_257 (c : Ctx) : Obj := p_5 c 34 24 24
noncomputable def o_285 (c : Ctx) : Obj := p_5 c 38 28 36
noncomputable def o_341 (c : Ctx) : Obj := p_5 c 46 36 36
noncomputable def o_299 (c : Ctx) : Obj := p_5 c 40 30 31
noncomputable def o_271 (c : Ctx) : Obj := p_5 c 36 26 33
noncomputable def o_327 (c : Ctx) : Obj := p_5 c 44 34 34
noncomputable def o_306 (c : Ctx) : Obj := p_5 c 41 31 31
noncomputable def o_334 (c : Ctx) : Obj := p_5 c 45 35 36
noncomputable def o_278 (c : Ctx) : Obj := p_5 c 37 27 34
noncomputable def o_292 (c : Ctx) : Obj := p_5 c 39 29 36
noncomputable def o_320 (c : Ctx) : Obj := p_5 c 43 33 33
noncomputable def o_264 (c : Ctx) : Obj := p_5 c 35 25 25
noncomputable def o_372 (c : Ctx) : Obj := .mk .none .none (.fields #[.int 258 0, .int 4 0, .ref 335]) #[]
noncomputable def o_374 (c : Ctx) : Obj := p_2 c 328 325 106 547
noncomputable def o_358 (c : Ctx) : Obj := p_5 c 48 38 38
noncomputable def o_370 (c : Ctx) : Obj := .mk (.type "dict") .none (.dict #[(DictEntry.mk (PyData.keyHash c.P (c.t 94)) (.str (c.t 94) 556) (.str (c.t 106) 547)), (DictEntry.mk (PyData.keyHash c.P (c.t 185)) (.str (c.t 185) 558) (.str (c.t 50) 557)), (DictEntry.mk (PyData.keyHash c.P (c.t 95)) (.str (c.t 95) 560) (.int 256 559)), (DictEntry.mk (PyData.keyHash c.P (c.t 72)) (.str (c.t 72) 568) (.ref 336)), (DictEntry.mk (PyData.keyHash c.P (c.t 96)) (.str (c.t 96) 570) (.ref 337))] 5) #[]
noncomputable def o_386 (c : Ctx) : Obj := p_15 c 339
noncomputable def o_365 (c : Ctx) : Obj := p_5 c 49 39 39
noncomputable def o_373 (c : Ctx) : Obj := p_1 c 50 551 552 553 326 327 555 256 554
noncomputable def o_351 (c : Ctx) : Obj := p_5 c 47 37 37
noncomputable def o_387 (c : Ctx) : Obj := p_9 c 339
noncomputable def o_379 (c : Ctx) : Obj := p_7 c 72 105 41 0 41 0
noncomputable def o_407 (c : Ctx) : Obj := p_5 c 52 44 44
noncomputable def o_401 (c : Ctx) : Obj := p_15 c 352
noncomputable def o_393 (c : Ctx) : Obj := .mk (.type "dict") .none (.dict #[(DictEntry.mk (PyData.keyHash c.P (c.t 94)) (.str (c.t 94) 585) (.str (c.t 106) 547)), (DictEntry.mk (PyData.keyHash c.P (c.t 185)) (.str (c.t 185) 587) (.str (c.t 51) 586)), (DictEntry.mk (PyData.keyHash c.P (c.t 95)) (.str (c.t 95) 589) (.int 261 588)), (DictEntry.mk (PyData.keyHash c.P (c.t 96)) (.str (c.t 96) 590) (.ref 350))] 4) #[]
noncomputable def o_397 (c : Ctx) : Obj := p_2 c 348 345 106 547
noncomputable def o_396 (c : Ctx) : Obj := p_1 c 51 580 581 582 346 347 584 261 583
noncomputable def o_402 (c : Ctx) : Obj := p_9 c 352
noncomputable def o_410 (c : Ctx) : Obj := .mk (.type "dict") .none (.dict #[(DictEntry.mk (PyData.keyHash c.P (c.t 2)) (.str (c.t 2) 165) (.str (c.t 124) 658)), (DictEntry.mk (PyData.keyHash c.P (c.t 4)) (.str (c.t 4) 166) .none), (DictEntry.mk (PyData.keyHash c.P (c.t 5)) (.str (c.t 5) 167) .none), (DictEntry.mk (PyData.keyHash c.P (c.t 6)) (.str (c.t 6) 168) (.builtin "__main__.__loader__#opaque")), (DictEntry.mk (PyData.keyHash c.P (c.t 7)) (.str (c.t 7) 169) .none), (DictEntry.mk (PyData.keyHash c.P (c.t 8)) (.str (c.t 8) 170) (.ref 6)), (DictEntry.mk (PyData.keyHash c.P (c.t 9)) (.str (c.t 9) 171) (.ref 4)), (DictEntry.mk (PyData.keyHash c.P (c.t 10)) (.str (c.t 10) 173) (.str (c.t 11) 172)), (DictEntry.mk (PyData.keyHash c.P (c.t 12)) (.str (c.t 12) 174) .none), (DictEntry.mk (PyData.keyHash c.P (c.t 13)) (.str (c.t 13) 193) (.ref 21)), (DictEntry.mk (PyData.keyHash c.P (c.t 14)) (.str (c.t 14) 202) (.ref 28)), (DictEntry.mk (PyData.keyHash c.P (c.t 15)) (.str (c.t 15) 209) (.ref 35)), (DictEntry.mk (PyData.keyHash c.P (c.t 16)) (.str (c.t 16) 216) (.ref 42)), (DictEntry.mk (PyData.keyHash c.P (c.t 17)) (.str (c.t 17) 223) (.ref 49)), (DictEntry.mk (PyData.keyHash c.P (c.t 18)) (.str (c.t 18) 230) (.ref 56)), (DictEntry.mk (PyData.keyHash c.P (c.t 19)) (.str (c.t 19) 237) (.ref 63)), (DictEntry.mk (PyData.keyHash c.P (c.t 20)) (.str (c.t 20) 316) (.ref 115)), (DictEntry.mk (PyData.keyHash c.P (c.t 21)) (.str (c.t 21) 326) (.ref 126)), (DictEntry.mk (PyData.keyHash c.P (c.t 22)) (.str (c.t 22) 333) (.ref 133)), (DictEntry.mk (PyData.keyHash c.P (c.t 23)) (.str (c.t 23) 340) (.ref 140)), (DictEntry.mk (PyData.keyHash c.P (c.t 24)) (.str (c.t 24) 347) (.ref 147)), (DictEntry.mk (PyData.keyHash c.P (c.t 25)) (.str (c.t 25) 355) (.ref 154)), (DictEntry.mk (PyData.keyHash c.P (c.t 26)) (.str (c.t 26) 364) (.ref 161)), (DictEntry.mk (PyData.keyHash c.P (c.t 27)) (.str (c.t 27) 373) (.ref 168)), (DictEntry.mk (PyData.keyHash c.P (c.t 28)) (.str (c.t 28) 381) (.ref 175)), (DictEntry.mk (PyData.keyHash c.P (c.t 29)) (.str (c.t 29) 389) (.ref 182)), (DictEntry.mk (PyData.keyHash c.P (c.t 30)) (.str (c.t 30) 397) (.ref 189)), (DictEntry.mk (PyData.keyHash c.P (c.t 31)) (.str (c.t 31) 407) (.ref 196)), (DictEntry.mk (PyData.keyHash c.P (c.t 32)) (.str (c.t 32) 416) (.ref 203)), (DictEntry.mk (PyData.keyHash c.P (c.t 33)) (.str (c.t 33) 425) (.ref 210)), (DictEntry.mk (PyData.keyHash c.P (c.t 34)) (.str (c.t 34) 434) (.ref 217)), (DictEntry.mk (PyData.keyHash c.P (c.t 35)) (.str (c.t 35) 444) (.ref 224)), (DictEntry.mk (PyData.keyHash c.P (c.t 36)) (.str (c.t 36) 451) (.ref 231)), (DictEntry.mk (PyData.keyHash c.P (c.t 37)) (.str (c.t 37) 458) (.ref 238)), (DictEntry.mk (PyData.keyHash c.P (c.t 38)) (.str (c.t 38) 465) (.ref 245)), (DictEntry.mk (PyData.keyHash c.P (c.t 39)) (.str (c.t 39) 472) (.ref 252)), (DictEntry.mk (PyData.keyHash c.P (c.t 40)) (.str (c.t 40) 480) (.ref 259)), (DictEntry.mk (PyData.keyHash c.P (c.t 41)) (.str (c.t 41) 488) (.ref 266)), (DictEntry.mk (PyData.keyHash c.P (c.t 42)) (.str (c.t 42) 496) (.ref 273)), (DictEntry.mk (PyData.keyHash c.P (c.t 43)) (.str (c.t 43) 503) (.ref 280)), (DictEntry.mk (PyData.keyHash c.P (c.t 44)) (.str (c.t 44) 510) (.ref 287)), (DictEntry.mk (PyData.keyHash c.P (c.t 45)) (.str (c.t 45) 517) (.ref 294)), (DictEntry.mk (PyData.keyHash c.P (c.t 46)) (.str (c.t 46) 524) (.ref 301)), (DictEntry.mk (PyData.keyHash c.P (c.t 47)) (.str (c.t 47) 532) (.ref 308)), (DictEntry.mk (PyData.keyHash c.P (c.t 48)) (.str (c.t 48) 540) (.ref 315)), (DictEntry.mk (PyData.keyHash c.P (c.t 49)) (.str (c.t 49) 546) (.ref 322)), (DictEntry.mk (PyData.keyHash c.P (c.t 50)) (.str (c.t 50) 577) (.ref 339)), (DictEntry.mk (PyData.keyHash c.P (c.t 51)) (.str (c.t 51) 593) (.ref 352)), (DictEntry.mk (PyData.keyHash c.P (c.t 52)) (.str (c.t 52) 602) (.ref 361)), (DictEntry.mk (PyData.keyHash c.P (c.t 53)) (.str (c.t 53) 657) (.ref 399))] 50) #[]
noncomputable def o_417 (c : Ctx) : Obj := p_1 c 53 605 606 607 365 366 609 272 608
noncomputable def o_437 (c : Ctx) : Obj := p_7 c 111 112 45 2 47 20
noncomputable def o_453 (c : Ctx) : Obj := p_9 c 399
noncomputable def o_423 (c : Ctx) : Obj := p_7 c 72 108 45 0 47 20
noncomputable def o_418 (c : Ctx) : Obj := p_2 c 367 364 107 594
noncomputable def o_411 (c : Ctx) : Obj := .mk .none .none (.fields #[.int 1 0, .int 0 0, .ref 20, .int 5 0, .int 0 0, .ref 27, .int 7 0, .int 0 0, .ref 34, .int 9 0, .int 0 0, .ref 41, .int 13 0, .int 0 0, .ref 48, .int 15 0, .int 0 0, .ref 55, .int 17 0, .int 0 0, .ref 62, .int 20 0, .int 0 0, .ref 69, .int 56 0, .int 0 0, .ref 125, .int 58 0, .int 0 0, .ref 132, .int 61 0, .int 0 0, .ref 139, .int 64 0, .int 0 0, .ref 146, .int 69 0, .int 0 0, .ref 153, .int 73 0, .int 0 0, .ref 160, .int 78 0, .int 0 0, .ref 167, .int 87 0, .int 0 0, .ref 174, .int 99 0, .int 0 0, .ref 181, .int 117 0, .int 0 0, .ref 188, .int 130 0, .int 0 0, .ref 195, .int 154 0, .int 0 0, .ref 202, .int 163 0, .int 0 0, .ref 209, .int 171 0, .int 0 0, .ref 216, .int 179 0, .int 0 0, .ref 223, .int 193 0, .int 0 0, .ref 230, .int 195 0, .int 0 0, .ref 237, .int 197 0, .int 0 0, .ref 244, .int 199 0, .int 0 0, .ref 251, .int 201 0, .int 0 0, .ref 258, .int 210 0, .int 0 0, .ref 265, .int 218 0, .int 0 0, .ref 272, .int 225 0, .int 0 0, .ref 279, .int 227 0, .int 0 0, .ref 286, .int 229 0, .int 0 0, .ref 293, .int 231 0, .int 0 0, .ref 300, .int 233 0, .int 0 0, .ref 307, .int 244 0, .int 0 0, .ref 314, .int 253 0, .int 0 0, .ref 321, .int 256 0, .int 0 0, .ref 328, .int 261 0, .int 0 0, .ref 348, .int 264 0, .int 0 0, .ref 360, .int 272 0, .int 0 0, .ref 367]) #[]
noncomputable def o_414 (c : Ctx) : Obj := .mk (.type "dict") .none (.dict #[(DictEntry.mk (PyData.keyHash c.P (c.t 94)) (.str (c.t 94) 610) (.str (c.t 107) 594)), (DictEntry.mk (PyData.keyHash c.P (c.t 185)) (.str (c.t 185) 612) (.str (c.t 53) 611)), (DictEntry.mk (PyData.keyHash c.P (c.t 95)) (.str (c.t 95) 614) (.int 272 613)), (DictEntry.mk (PyData.keyHash c.P (c.t 72)) (.str (c.t 72) 621) (.ref 375)), (DictEntry.mk (PyData.keyHash c.P (c.t 109)) (.str (c.t 109) 631) (.ref 382)), (DictEntry.mk (PyData.keyHash c.P (c.t 111)) (.str (c.t 111) 638) (.ref 389)), (DictEntry.mk (PyData.keyHash c.P (c.t 113)) (.str (c.t 113) 645) (.ref 396)), (DictEntry.mk (PyData.keyHash c.P (c.t 96)) (.str (c.t 96) 650) (.ref 397))] 8) #[]
noncomputable def o_430 (c : Ctx) : Obj := p_7 c 109 110 45 1 45 1
noncomputable def o_452 (c : Ctx) : Obj := p_15 c 399
noncomputable def o_444 (c : Ctx) : Obj := p_7 c 113 114 45 3 47 19
noncomputable def o_416 (c : Ctx) : Obj := .mk .none .none (.fields #[.int 274 0, .int 4 0, .ref 374, .int 280 0, .int 4 0, .ref 381, .int 293 0, .int 4 0, .ref 388, .int 296 0, .int 4 0, .ref 395]) #[]
noncomputable def o_595 (c : Ctx) : Obj := p_7 c 165 166 47 18 47 18
noncomputable def o_531 (c : Ctx) : Obj := p_7 c 141 142 47 9 47 9
noncomputable def o_475 (c : Ctx) : Obj := p_7 c 109 125 47 1 47 1
noncomputable def o_567 (c : Ctx) : Obj := p_7 c 155 156 47 14 47 14
noncomputable def o_503 (c : Ctx) : Obj := p_7 c 132 133 47 5 47 5
noncomputable def o_581 (c : Ctx) : Obj := p_7 c 159 160 47 16 47 20
noncomputable def o_517 (c : Ctx) : Obj := p_7 c 136 137 47 7 47 7
noncomputable def o_461 (c : Ctx) : Obj := p_1 c 54 662 663 664 407 408 666 299 665
noncomputable def o_617 (c : Ctx) : Obj := p_15 c 562
noncomputable def o_489 (c : Ctx) : Obj := p_7 c 128 129 47 3 47 3
noncomputable def o_609 (c : Ctx) : Obj := p_7 c 169 170 47 20 47 20
noncomputable def o_545 (c : Ctx) : Obj := p_7 c 146 147 47 11 47 20
noncomputable def o_468 (c : Ctx) : Obj := p_7 c 72 123 47 0 47 0
noncomputable def o_588 (c : Ctx) : Obj := p_7 c 161 162 47 17 47 20
noncomputable def o_460 (c : Ctx) : Obj := .mk .none .none (.fields #[.int 301 0, .int 4 0, .ref 417, .int 317 0, .int 4 0, .ref 424, .int 321 0, .int 4 0, .ref 431, .int 325 0, .int 4 0, .ref 438, .int 332 0, .int 4 0, .ref 445, .int 335 0, .int 4 0, .ref 452, .int 339 0, .int 4 0, .ref 459, .int 342 0, .int 4 0, .ref 466, .int 347 0, .int 4 0, .ref 473, .int 350 0, .int 4 0, .ref 480, .int 354 0, .int 4 0, .ref 487, .int 364 0, .int 4 0, .ref 494, .int 368 0, .int 4 0, .ref 501, .int 371 0, .int 4 0, .ref 509, .int 385 0, .int 4 0, .ref 516, .int 388 0, .int 4 0, .ref 523, .int 391 0, .int 4 0, .ref 530, .int 394 0, .int 4 0, .ref 537, .int 401 0, .int 4 0, .ref 544, .int 411 0, .int 4 0, .ref 551, .int 416 0, .int 4 0, .ref 558]) #[]
noncomputable def o_524 (c : Ctx) : Obj := p_7 c 139 140 47 8 47 8
noncomputable def o_552 (c : Ctx) : Obj := p_7 c 148 149 47 12 47 12
noncomputable def o_496 (c : Ctx) : Obj := p_7 c 130 131 47 4 47 5
noncomputable def o_560 (c : Ctx) : Obj := p_7 c 153 154 47 13 47 13
noncomputable def o_574 (c : Ctx) : Obj := p_7 c 157 158 47 15 47 20
noncomputable def o_510 (c : Ctx) : Obj := p_7 c 134 135 47 6 47 6
noncomputable def o_462 (c : Ctx) : Obj := p_2 c 409 406 124 658
noncomputable def o_602 (c : Ctx) : Obj := p_7 c 167 168 47 19 47 19
noncomputable def o_538 (c : Ctx) : Obj := p_7 c 144 145 47 10 47 10
noncomputable def o_458 (c : Ctx) : Obj := .mk (.type "dict") .none (.dict #[(DictEntry.mk (PyData.keyHash c.P (c.t 94)) (.str (c.t 94) 667) (.str (c.t 124) 658)), (DictEntry.mk (PyData.keyHash c.P (c.t 185)) (.str (c.t 185) 669) (.str (c.t 54) 668)), (DictEntry.mk (PyData.keyHash c.P (c.t 95)) (.str (c.t 95) 671) (.int 299 670)), (DictEntry.mk (PyData.keyHash c.P (c.t 72)) (.str (c.t 72) 683) (.ref 418)), (DictEntry.mk (PyData.keyHash c.P (c.t 109)) (.str (c.t 109) 691) (.ref 425)), (DictEntry.mk (PyData.keyHash c.P (c.t 111)) (.str (c.t 111) 698) (.ref 432)), (DictEntry.mk (PyData.keyHash c.P (c.t 128)) (.str (c.t 128) 706) (.ref 439)), (DictEntry.mk (PyData.keyHash c.P (c.t 130)) (.str (c.t 130) 714) (.ref 446)), (DictEntry.mk (PyData.keyHash c.P (c.t 132)) (.str (c.t 132) 722) (.ref 453)), (DictEntry.mk (PyData.keyHash c.P (c.t 134)) (.str (c.t 134) 730) (.ref 460)), (DictEntry.mk (PyData.keyHash c.P (c.t 136)) (.str (c.t 136) 738) (.ref 467)), (DictEntry.mk (PyData.keyHash c.P (c.t 139)) (.str (c.t 139) 746) (.ref 474)), (DictEntry.mk (PyData.keyHash c.P (c.t 141)) (.str (c.t 141) 755) (.ref 481)), (DictEntry.mk (PyData.keyHash c.P (c.t 144)) (.str (c.t 144) 763) (.ref 488)), (DictEntry.mk (PyData.keyHash c.P (c.t 146)) (.str (c.t 146) 770) (.ref 495)), (DictEntry.mk (PyData.keyHash c.P (c.t 148)) (.str (c.t 148) 777) (.ref 502)), (DictEntry.mk (PyData.keyHash c.P (c.t 153)) (.str (c.t 153) 789) (.ref 510)), (DictEntry.mk (PyData.keyHash c.P (c.t 155)) (.str (c.t 155) 797) (.ref 517)), (DictEntry.mk (PyData.keyHash c.P (c.t 157)) (.str (c.t 157) 804) (.ref 524)), (DictEntry.mk (PyData.keyHash c.P (c.t 159)) (.str (c.t 159) 811) (.ref 531)), (DictEntry.mk (PyData.keyHash c.P (c.t 161)) (.str (c.t 161) 818) (.ref 538)), (DictEntry.mk (PyData.keyHash c.P (c.t 165)) (.str (c.t 165) 827) (.ref 545)), (DictEntry.mk (PyData.keyHash c.P (c.t 167)) (.str (c.t 167) 834) (.ref 552)), (DictEntry.mk (PyData.keyHash c.P (c.t 169)) (.str (c.t 169) 841) (.ref 559)), (DictEntry.mk (PyData.keyHash c.P (c.t 96)) (.str (c.t 96) 856) (.ref 560))] 25) #[]
noncomputable def o_618 (c : Ctx) : Obj := p_9 c 562
noncomputable def o_482 (c : Ctx) : Obj := p_7 c 111 126 47 2 47 20
noncomputable def o_766 (c : Ctx) : Obj := p_5 c 63 57 57
noncomputable def o_742 (c : Ctx) : Obj := p_5 c 59 53 53
noncomputable def o_754 (c : Ctx) : Obj := p_5 c 61 55 55
noncomputable def o_714 (c : Ctx) : Obj := p_5 c 55 49 49
noncomputable def o_728 (c : Ctx) : Obj := p_5 c 57 51 51
noncomputable def o_735 (c : Ctx) : Obj := p_5 c 58 52 52
noncomputable def o_709 (c : Ctx) : Obj := .mk .none .none (.fields #[.int 1 0, .int 0 0, .ref 20, .int 5 0, .int 0 0, .ref 27, .int 7 0, .int 0 0, .ref 34, .int 9 0, .int 0 0, .ref 41, .int 13 0, .int 0 0, .ref 48, .int 15 0, .int 0 0, .ref 55, .int 17 0, .int 0 0, .ref 62, .int 20 0, .int 0 0, .ref 69, .int 56 0, .int 0 0, .ref 125, .int 58 0, .int 0 0, .ref 132, .int 61 0, .int 0 0, .ref 139, .int 64 0, .int 0 0, .ref 146, .int 69 0, .int 0 0, .ref 153, .int 73 0, .int 0 0, .ref 160, .int 78 0, .int 0 0, .ref 167, .int 87 0, .int 0 0, .ref 174, .int 99 0, .int 0 0, .ref 181, .int 117 0, .int 0 0, .ref 188, .int 130 0, .int 0 0, .ref 195, .int 154 0, .int 0 0, .ref 202, .int 163 0, .int 0 0, .ref 209, .int 171 0, .int 0 0, .ref 216, .int 179 0, .int 0 0, .ref 223, .int 193 0, .int 0 0, .ref 230, .int 195 0, .int 0 0, .ref 237, .int 197 0, .int 0 0, .ref 244, .int 199 0, .int 0 0, .ref 251, .int 201 0, .int 0 0, .ref 258, .int 210 0, .int 0 0, .ref 265, .int 218 0, .int 0 0, .ref 272, .int 225 0, .int 0 0, .ref 279, .int 227 0, .int 0 0, .ref 286, .int 229 0, .int 0 0, .ref 293, .int 231 0, .int 0 0, .ref 300, .int 233 0, .int 0 0, .ref 307, .int 244 0, .int 0 0, .ref 314, .int 253 0, .int 0 0, .ref 321, .int 256 0, .int 0 0, .ref 328, .int 261 0, .int 0 0, .ref 348, .int 264 0, .int 0 0, .ref 360, .int 272 0, .int 0 0, .ref 367, .int 299 0, .int 0 0, .ref 409, .int 421 0, .int 0 0, .ref 572, .int 423 0, .int 0 0, .ref 579, .int 431 0, .int 0 0, .ref 586, .int 433 0, .int 0 0, .ref 593, .int 439 0, .int 0 0, .ref 600, .int 441 0, .int 0 0, .ref 607, .int 444 0, .int 0 0, .ref 612, .int 469 0, .int 0 0, .ref 619, .int 477 0, .int 0 0, .ref 624]) #[]
noncomputable def o_721 (c : Ctx) : Obj := p_5 c 56 50 50
noncomputable def o_761 (c : Ctx) : Obj := p_5 c 62 56 56
noncomputable def o_749 (c : Ctx) : Obj := p_5 c 60 54 54
noncomputable def T47 (c : Ctx) : BT := (.node (W.boot_o_0 c.P) (.node (W.boot_o_1 c.P) (.node (W.boot_o_3 c.P) (.node (W.boot_o_7 c.P) .nil .nil) (.node (o_43 c) .nil .nil)) (.node (W.boot_o_5 c.P) (.node (W.boot_o_9 c.P) .nil .nil) (.node (o_45 c) .nil .nil))) (.node (W.boot_o_2 c.P) (.node (W.boot_o_4 c.P) (.node (W.boot_o_8 c.P) .nil .nil) (.node (o_44 c) .nil .nil)) (.node (W.boot_o_6 c.P) (.node (W.boot_o_10 c.P) .nil .nil) (.node (o_46 c) .nil .nil))))
noncomputable def T250 (c : Ctx) : BT := (.node (W.boot_o_0 c.P) (.node (W.boot_o_1 c.P) (.node (o_158 c) (.node (W.boot_o_7 c.P) (.node (o_43 c) (.node (o_67 c) (.node (o_99 c) (.node (o_43 c) .nil .nil) (.node (o_44 c) .nil .nil)) (.node (o_43 c) (.node (o_199 c) .nil .nil) .nil)) (.node (o_83 c) (.node (o_44 c) (.node (o_183 c) .nil .nil) (.node (o_43 c) .nil .nil)) (.node (o_149 c) (.node (o_215 c) .nil .nil) .nil))) (.node (o_44 c) (.node (o_43 c) (.node (o_43 c) (.node (o_44 c) .nil .nil) (.node (o_239 c) .nil .nil)) (.node (o_141 c) (.node (o_207 c) .nil .nil) .nil)) (.node (o_91 c) (.node (o_125 c) (.node (o_43 c) .nil .nil) .nil) (.node (o_157 c) (.node (o_43 c) .nil .nil) .nil)))) (.node (o_43 c) (.node (o_55 c) (.node (o_71 c) (.node (o_43 c) (.node (o_171 c) .nil .nil) (.node (o_235 c) .nil .nil)) (.node (o_43 c) (.node (o_44 c) .nil .nil) .nil)) (.node (o_44 c) (.node (o_121 c) (.node (o_187 c) .nil .nil) .nil) (.node (o_153 c) (.node (o_43 c) .nil .nil) .nil))) (.node (o_63 c) (.node (o_43 c) (.node (o_113 c) (.node (o_179 c) .nil .nil) (.node (o_243 c) .nil .nil)) (.node (o_44 c) (.node (o_211 c) .nil .nil) .nil)) (.node (o_95 c) (.node (o_129 c) (.node (o_43 c) .nil .nil) .nil) (.node (o_43 c) (.node (o_227 c) .nil .nil) .nil))))) (.node (W.boot_o_5 c.P) (.node (W.boot_o_9 c.P) (.node (o_53 c) (.node (o_69 c) (.node (o_103 c) (.node (o_169 c) .nil .nil) (.node (o_43 c) .nil .nil)) (.node (o_135 c) (.node (o_201 c) .nil .nil) .nil)) (.node (o_85 c) (.node (o_43 c) (.node (o_185 c) .nil .nil) (.node (o_249 c) .nil .nil)) (.node (o_151 c) (.node (o_44 c) .nil .nil) .nil))) (.node (o_43 c) (.node (o_77 c) (.node (o_111 c) (.node (o_43 c) .nil .nil) (.node (o_241 c) .nil .nil)) (.node (o_143 c) (.node (o_43 c) .nil .nil) .nil)) (.node (o_43 c) (.node (o_127 c) (.node (o_193 c) .nil .nil) .nil) (.node (o_44 c) (.node (o_225 c) .nil .nil) .nil)))) (.node (o_45 c) (.node (o_57 c) (.node (o_44 c) (.node (o_107 c) (.node (o_173 c) .nil .nil) (.node (o_43 c) .nil .nil)) (.node (o_139 c) (.node (o_43 c) .nil .nil) .nil)) (.node (o_43 c) (.node (o_43 c) (.node (o_44 c) .nil .nil) .nil) (.node (o_155 c) (.node (o_221 c) .nil .nil) .nil))) (.node (o_43 c) (.node (o_81 c) (.node (o_115 c) (.node (o_43 c) .nil .nil) (.node (o_44 c) .nil .nil)) (.node (o_43 c) (.node (o_213 c) .nil .nil) .nil)) (.node (o_97 c) (.node (o_44 c) (.node (o_197 c) .nil .nil) .nil) (.node (o_165 c) (.node (o_229 c) .nil .nil) .nil)))))) (.node (W.boot_o_2 c.P) (.node (W.boot_o_4 c.P) (.node (W.boot_o_8 c.P) (.node (o_44 c) (.node (o_43 c) (.node (o_43 c) (.node (o_44 c) .nil .nil) (.node (o_232 c) .nil .nil)) (.node (o_134 c) (.node (o_200 c) .nil .nil) .nil)) (.node (o_84 c) (.node (o_118 c) (.node (o_43 c) .nil .nil) (.node (o_248 c) .nil .nil)) (.node (o_150 c) (.node (o_43 c) .nil .nil) .nil))) (.node (o_60 c) (.node (o_76 c) (.node (o_44 c) (.node (o_176 c) .nil .nil) (.node (o_43 c) .nil .nil)) (.node (o_142 c) (.node (o_208 c) .nil .nil) .nil)) (.node (o_92 c) (.node (o_43 c) (.node (o_192 c) .nil .nil) .nil) (.node (o_43 c) (.node (o_44 c) .nil .nil) .nil)))) (.node (o_159 c) (.node (o_56 c) (.node (o_43 c) (.node (o_106 c) (.node (o_172 c) .nil .nil) (.node (o_236 c) .nil .nil)) (.node (o_44 c) (.node (o_204 c) .nil .nil) .nil)) (.node (o_88 c) (.node (o_122 c) (.node (o_43 c) .nil .nil) .nil) (.node (o_154 c) (.node (o_220 c) .nil .nil) .nil))) (.node (o_64 c) (.node (o_44 c) (.node (o_114 c) (.node (o_180 c) .nil .nil) (.node (o_43 c) .nil .nil)) (.node (o_146 c) (.node (o_43 c) .nil .nil) .nil)) (.node (o_43 c) (.node (o_43 c) (.node (o_44 c) .nil .nil) .nil) (.node (o_164 c) (.node (o_228 c) .nil .nil) .nil))))) (.node (W.boot_o_6 c.P) (.node (W.boot_o_10 c.P) (.node (o_43 c) (.node (o_70 c) (.node (o_104 c) (.node (o_43 c) .nil .nil) (.node (o_234 c) .nil .nil)) (.node (o_136 c) (.node (o_43 c) .nil .nil) .nil)) (.node (o_43 c) (.node (o_120 c) (.node (o_186 c) .nil .nil) (.node (o_250 c) .nil .nil)) (.node (o_152 c) (.node (o_218 c) .nil .nil) .nil))) (.node (o_62 c) (.node (o_78 c) (.node (o_43 c) (.node (o_178 c) .nil .nil) (.node (o_242 c) .nil .nil)) (.node (o_43 c) (.node (o_44 c) .nil .nil) .nil)) (.node (o_44 c) (.node (o_128 c) (.node (o_194 c) .nil .nil) .nil) (.node (o_162 c) (.node (o_43 c) .nil .nil) .nil)))) (.node (o_46 c) (.node (o_43 c) (.node (o_74 c) (.node (o_108 c) (.node (o_43 c) .nil .nil) (.node (o_44 c) .nil .nil)) (.node (o_43 c) (.node (o_206 c) .nil .nil) .nil)) (.node (o_90 c) (.node (o_44 c) (.node (o_190 c) .nil .nil) .nil) (.node (o_156 c) (.node (o_222 c) .nil .nil) .nil))) (.node (o_44 c) (.node (o_43 c) (.node (o_43 c) (.node (o_44 c) .nil .nil) (.node (o_246 c) .nil .nil)) (.node (o_148 c) (.node (o_214 c) .nil .nil) .nil)) (.node (o_98 c) (.node (o_132 c) (.node (o_43 c) .nil .nil) .nil) (.node (o_166 c) (.node (o_43 c) .nil .nil) .nil)))))))
noncomputable def T453 (c : Ctx) : BT := (.node (W.boot_o_0 c.P) (.node (W.boot_o_1 c.P) (.node (o_410 c) (.node (W.boot_o_7 c.P) (.node (o_43 c) (.node (o_67 c) (.node (o_99 c) (.node (o_43 c) (.node (o_297 c) .nil .nil) (.node (o_43 c) .nil .nil)) (.node (o_44 c) (.node (o_43 c) .nil .nil) .nil)) (.node (o_43 c) (.node (o_199 c) (.node (o_329 c) .nil .nil) .nil) (.node (o_265 c) (.node (o_399 c) .nil .nil) .nil))) (.node (o_83 c) (.node (o_44 c) (.node (o_183 c) (.node (o_313 c) .nil .nil) (.node (o_449 c) .nil .nil)) (.node (o_43 c) (.node (o_380 c) .nil .nil) .nil)) (.node (o_149 c) (.node (o_215 c) (.node (o_44 c) .nil .nil) .nil) (.node (o_43 c) (.node (o_417 c) .nil .nil) .nil)))) (.node (o_44 c) (.node (o_43 c) (.node (o_43 c) (.node (o_44 c) (.node (o_43 c) .nil .nil) (.node (o_44 c) .nil .nil)) (.node (o_239 c) (.node (o_372 c) .nil .nil) .nil)) (.node (o_141 c) (.node (o_207 c) (.node (o_43 c) .nil .nil) .nil) (.node (o_273 c) (.node (o_407 c) .nil .nil) .nil))) (.node (o_91 c) (.node (o_125 c) (.node (o_43 c) (.node (o_321 c) .nil .nil) .nil) (.node (o_257 c) (.node (o_391 c) .nil .nil) .nil)) (.node (o_157 c) (.node (o_43 c) (.node (o_356 c) .nil .nil) .nil) (.node (o_44 c) (.node (o_425 c) .nil .nil) .nil))))) (.node (o_43 c) (.node (o_55 c) (.node (o_71 c) (.node (o_43 c) (.node (o_171 c) (.node (o_301 c) .nil .nil) (.node (o_437 c) .nil .nil)) (.node (o_235 c) (.node (o_368 c) .nil .nil) .nil)) (.node (o_43 c) (.node (o_44 c) (.node (o_43 c) .nil .nil) .nil) (.node (o_269 c) (.node (o_43 c) .nil .nil) .nil))) (.node (o_44 c) (.node (o_121 c) (.node (o_187 c) (.node (o_44 c) .nil .nil) (.node (o_453 c) .nil .nil)) (.node (o_43 c) (.node (o_390 c) .nil .nil) .nil)) (.node (o_153 c) (.node (o_43 c) (.node (o_352 c) .nil .nil) .nil) (.node (o_285 c) (.node (o_421 c) .nil .nil) .nil)))) (.node (o_63 c) (.node (o_43 c) (.node (o_113 c) (.node (o_179 c) (.node (o_43 c) .nil .nil) (.node (o_445 c) .nil .nil)) (.node (o_243 c) (.node (o_44 c) .nil .nil) .nil)) (.node (o_44 c) (.node (o_211 c) (.node (o_341 c) .nil .nil) .nil) (.node (o_43 c) (.node (o_103 c) .nil .nil) .nil))) (.node (o_95 c) (.node (o_129 c) (.node (o_43 c) (.node (o_325 c) .nil .nil) .nil) (.node (o_44 c) (.node (o_44 c) .nil .nil) .nil)) (.node (o_43 c) (.node (o_227 c) (.node (o_360 c) .nil .nil) .nil) (.node (o_293 c) (.node (o_43 c) .nil .nil) .nil)))))) (.node (W.boot_o_5 c.P) (.node (W.boot_o_9 c.P) (.node (o_53 c) (.node (o_69 c) (.node (o_103 c) (.node (o_169 c) (.node (o_299 c) .nil .nil) (.node (o_435 c) .nil .nil)) (.node (o_43 c) (.node (o_366 c) .nil .nil) .nil)) (.node (o_135 c) (.node (o_201 c) (.node (o_44 c) .nil .nil) .nil) (.node (o_43 c) (.node (o_401 c) .nil .nil) .nil))) (.node (o_85 c) (.node (o_43 c) (.node (o_185 c) (.node (o_315 c) .nil .nil) (.node (o_451 c) .nil .nil)) (.node (o_249 c) (.node (o_382 c) .nil .nil) .nil)) (.node (o_151 c) (.node (o_44 c) (.node (o_43 c) .nil .nil) .nil) (.node (o_283 c) (.node (o_43 c) .nil .nil) .nil)))) (.node (o_43 c) (.node (o_77 c) (.node (o_111 c) (.node (o_43 c) (.node (o_307 c) .nil .nil) (.node (o_43 c) .nil .nil)) (.node (o_241 c) (.node (o_374 c) .nil .nil) .nil)) (.node (o_143 c) (.node (o_43 c) (.node (o_339 c) .nil .nil) .nil) (.node (o_44 c) (.node (o_409 c) .nil .nil) .nil))) (.node (o_43 c) (.node (o_127 c) (.node (o_193 c) (.node (o_43 c) .nil .nil) .nil) (.node (o_259 c) (.node (o_393 c) .nil .nil) .nil)) (.node (o_44 c) (.node (o_225 c) (.node (o_358 c) .nil .nil) .nil) (.node (o_43 c) (.node (o_44 c) .nil .nil) .nil))))) (.node (o_45 c) (.node (o_57 c) (.node (o_44 c) (.node (o_107 c) (.node (o_173 c) (.node (o_44 c) .nil .nil) (.node (o_439 c) .nil .nil)) (.node (o_43 c) (.node (o_370 c) .nil .nil) .nil)) (.node (o_139 c) (.node (o_43 c) (.node (o_335 c) .nil .nil) .nil) (.node (o_271 c) (.node (o_405 c) .nil .nil) .nil))) (.node (o_43 c) (.node (o_43 c) (.node (o_44 c) (.node (o_43 c) .nil .nil) .nil) (.node (o_255 c) (.node (o_386 c) .nil .nil) .nil)) (.node (o_155 c) (.node (o_221 c) (.node (o_43 c) .nil .nil) .nil) (.node (o_287 c) (.node (o_423 c) .nil .nil) .nil)))) (.node (o_43 c) (.node (o_81 c) (.node (o_115 c) (.node (o_43 c) (.node (o_311 c) .nil .nil) (.node (o_447 c) .nil .nil)) (.node (o_44 c) (.node (o_43 c) .nil .nil) .nil)) (.node (o_43 c) (.node (o_213 c) (.node (o_343 c) .nil .nil) .nil) (.node (o_279 c) (.node (o_43 c) .nil .nil) .nil))) (.node (o_97 c) (.node (o_44 c) (.node (o_197 c) (.node (o_327 c) .nil .nil) .nil) (.node (o_43 c) (.node (o_397 c) .nil .nil) .nil)) (.node (o_165 c) (.node (o_229 c) (.node (o_44 c) .nil .nil) .nil) (.node (o_43 c) (.node (o_431 c) .nil .nil) .nil))))))) (.node (o_344 c) (.node (W.boot_o_4 c.P) (.node (W.boot_o_8 c.P) (.node (o_44 c) (.node (o_43 c) (.node (o_43 c) (.node (o_44 c) (.node (o_43 c) .nil .nil) (.node (o_44 c) .nil .nil)) (.node (o_232 c) (.node (o_365 c) .nil .nil) .nil)) (.node (o_134 c) (.node (o_200 c) (.node (o_43 c) .nil .nil) .nil) (.node (o_266 c) (.node (o_400 c) .nil .nil) .nil))) (.node (o_84 c) (.node (o_118 c) (.node (o_43 c) (.node (o_314 c) .nil .nil) (.node (o_450 c) .nil .nil)) (.node (o_248 c) (.node (o_381 c) .nil .nil) .nil)) (.node (o_150 c) (.node (o_43 c) (.node (o_349 c) .nil .nil) .nil) (.node (o_44 c) (.node (o_418 c) .nil .nil) .nil)))) (.node (o_60 c) (.node (o_76 c) (.node (o_44 c) (.node (o_176 c) (.node (o_306 c) .nil .nil) (.node (o_442 c) .nil .nil)) (.node (o_43 c) (.node (o_373 c) .nil .nil) .nil)) (.node (o_142 c) (.node (o_208 c) (.node (o_44 c) .nil .nil) .nil) (.node (o_43 c) (.node (o_408 c) .nil .nil) .nil))) (.node (o_92 c) (.node (o_43 c) (.node (o_192 c) (.node (o_322 c) .nil .nil) .nil) (.node (o_258 c) (.node (o_103 c) .nil .nil) .nil)) (.node (o_43 c) (.node (o_44 c) (.node (o_43 c) .nil .nil) .nil) (.node (o_290 c) (.node (o_43 c) .nil .nil) .nil))))) (.node (o_411 c) (.node (o_56 c) (.node (o_43 c) (.node (o_106 c) (.node (o_172 c) (.node (o_43 c) .nil .nil) (.node (o_438 c) .nil .nil)) (.node (o_236 c) (.node (o_103 c) .nil .nil) .nil)) (.node (o_44 c) (.node (o_204 c) (.node (o_334 c) .nil .nil) .nil) (.node (o_43 c) (.node (o_44 c) .nil .nil) .nil))) (.node (o_88 c) (.node (o_122 c) (.node (o_43 c) (.node (o_318 c) .nil .nil) .nil) (.node (o_44 c) (.node (o_385 c) .nil .nil) .nil)) (.node (o_154 c) (.node (o_220 c) (.node (o_353 c) .nil .nil) .nil) (.node (o_286 c) (.node (o_43 c) .nil .nil) .nil)))) (.node (o_64 c) (.node (o_44 c) (.node (o_114 c) (.node (o_180 c) (.node (o_44 c) .nil .nil) (.node (o_446 c) .nil .nil)) (.node (o_43 c) (.node (o_377 c) .nil .nil) .nil)) (.node (o_146 c) (.node (o_43 c) (.node (o_342 c) .nil .nil) .nil) (.node (o_278 c) (.node (o_414 c) .nil .nil) .nil))) (.node (o_43 c) (.node (o_43 c) (.node (o_44 c) (.node (o_43 c) .nil .nil) .nil) (.node (o_262 c) (.node (o_396 c) .nil .nil) .nil)) (.node (o_164 c) (.node (o_228 c) (.node (o_43 c) .nil .nil) .nil) (.node (o_294 c) (.node (o_430 c) .nil .nil) .nil)))))) (.node (W.boot_o_6 c.P) (.node (W.boot_o_10 c.P) (.node (o_43 c) (.node (o_70 c) (.node (o_104 c) (.node (o_43 c) (.node (o_300 c) .nil .nil) (.node (o_43 c) .nil .nil)) (.node (o_234 c) (.node (o_367 c) .nil .nil) .nil)) (.node (o_136 c) (.node (o_43 c) (.node (o_332 c) .nil .nil) .nil) (.node (o_44 c) (.node (o_402 c) .nil .nil) .nil))) (.node (o_43 c) (.node (o_120 c) (.node (o_186 c) (.node (o_43 c) .nil .nil) (.node (o_452 c) .nil .nil)) (.node (o_250 c) (.node (o_383 c) .nil .nil) .nil)) (.node (o_152 c) (.node (o_218 c) (.node (o_351 c) .nil .nil) .nil) (.node (o_43 c) (.node (o_44 c) .nil .nil) .nil)))) (.node (o_62 c) (.node (o_78 c) (.node (o_43 c) (.node (o_178 c) (.node (o_308 c) .nil .nil) (.node (o_444 c) .nil .nil)) (.node (o_242 c) (.node (o_43 c) .nil .nil) .nil)) (.node (o_43 c) (.node (o_44 c) (.node (o_43 c) .nil .nil) .nil) (.node (o_276 c) (.node (o_43 c) .nil .nil) .nil))) (.node (o_44 c) (.node (o_128 c) (.node (o_194 c) (.node (o_44 c) .nil .nil) .nil) (.node (o_43 c) (.node (o_43 c) .nil .nil) .nil)) (.node (o_162 c) (.node (o_43 c) (.node (o_359 c) .nil .nil) .nil) (.node (o_292 c) (.node (o_428 c) .nil .nil) .nil))))) (.node (o_46 c) (.node (o_43 c) (.node (o_74 c) (.node (o_108 c) (.node (o_43 c) (.node (o_304 c) .nil .nil) (.node (o_43 c) .nil .nil)) (.node (o_44 c) (.node (o_43 c) .nil .nil) .nil)) (.node (o_43 c) (.node (o_206 c) (.node (o_336 c) .nil .nil) .nil) (.node (o_272 c) (.node (o_43 c) .nil .nil) .nil))) (.node (o_90 c) (.node (o_44 c) (.node (o_190 c) (.node (o_320 c) .nil .nil) .nil) (.node (o_43 c) (.node (o_387 c) .nil .nil) .nil)) (.node (o_156 c) (.node (o_222 c) (.node (o_44 c) .nil .nil) .nil) (.node (o_43 c) (.node (o_424 c) .nil .nil) .nil)))) (.node (o_44 c) (.node (o_43 c) (.node (o_43 c) (.node (o_44 c) (.node (o_43 c) .nil .nil) (.node (o_448 c) .nil .nil)) (.node (o_246 c) (.node (o_379 c) .nil .nil) .nil)) (.node (o_148 c) (.node (o_214 c) (.node (o_43 c) .nil .nil) .nil) (.node (o_280 c) (.node (o_416 c) .nil .nil) .nil))) (.node (o_98 c) (.node (o_132 c) (.node (o_43 c) (.node (o_328 c) .nil .nil) .nil) (.node (o_264 c) (.node (o_43 c) .nil .nil) .nil)) (.node (o_166 c) (.node (o_43 c) (.node (o_43 c) .nil .nil) .nil) (.node (o_44 c) (.node (o_432 c) .nil .nil) .nil))))))))
noncomputable def T768 (c : Ctx) : BT := (.node (W.boot_o_0 c.P) (.node (W.boot_o_1 c.P) (.node (o_708 c) (.node (W.boot_o_7 c.P) (.node (o_43 c) (.node (o_67 c) (.node (o_99 c) (.node (o_43 c) (.node (o_297 c) (.node (o_43 c) .nil .nil) .nil) (.node (o_43 c) .nil .nil)) (.node (o_44 c) (.node (o_43 c) (.node (o_44 c) .nil .nil) .nil) (.node (o_43 c) .nil .nil))) (.node (o_43 c) (.node (o_199 c) (.node (o_329 c) (.node (o_595 c) .nil .nil) .nil) (.node (o_43 c) .nil .nil)) (.node (o_265 c) (.node (o_399 c) (.node (o_750 c) .nil .nil) .nil) (.node (o_531 c) .nil .nil)))) (.node (o_83 c) (.node (o_44 c) (.node (o_183 c) (.node (o_313 c) (.node (o_579 c) .nil .nil) .nil) (.node (o_449 c) .nil .nil)) (.node (o_43 c) (.node (o_380 c) (.node (o_43 c) .nil .nil) .nil) (.node (o_515 c) .nil .nil))) (.node (o_149 c) (.node (o_215 c) (.node (o_44 c) (.node (o_611 c) .nil .nil) .nil) (.node (o_483 c) .nil .nil)) (.node (o_43 c) (.node (o_417 c) (.node (o_766 c) .nil .nil) .nil) (.node (o_547 c) .nil .nil))))) (.node (o_44 c) (.node (o_43 c) (.node (o_43 c) (.node (o_44 c) (.node (o_43 c) (.node (o_44 c) .nil .nil) .nil) (.node (o_44 c) .nil .nil)) (.node (o_239 c) (.node (o_372 c) (.node (o_726 c) .nil .nil) .nil) (.node (o_44 c) .nil .nil))) (.node (o_141 c) (.node (o_207 c) (.node (o_43 c) (.node (o_603 c) .nil .nil) .nil) (.node (o_475 c) .nil .nil)) (.node (o_273 c) (.node (o_407 c) (.node (o_44 c) .nil .nil) .nil) (.node (o_539 c) .nil .nil)))) (.node (o_91 c) (.node (o_125 c) (.node (o_43 c) (.node (o_321 c) (.node (o_43 c) .nil .nil) .nil) (.node (o_43 c) .nil .nil)) (.node (o_257 c) (.node (o_391 c) (.node (o_742 c) .nil .nil) .nil) (.node (o_43 c) .nil .nil))) (.node (o_157 c) (.node (o_43 c) (.node (o_356 c) (.node (o_43 c) .nil .nil) .nil) (.node (o_491 c) .nil .nil)) (.node (o_44 c) (.node (o_425 c) .nil .nil) (.node (o_555 c) .nil .nil)))))) (.node (o_43 c) (.node (o_55 c) (.node (o_71 c) (.node (o_43 c) (.node (o_171 c) (.node (o_301 c) (.node (o_567 c) .nil .nil) .nil) (.node (o_437 c) .nil .nil)) (.node (o_235 c) (.node (o_368 c) (.node (o_722 c) .nil .nil) .nil) (.node (o_503 c) .nil .nil))) (.node (o_43 c) (.node (o_44 c) (.node (o_43 c) (.node (o_44 c) .nil .nil) .nil) (.node (o_43 c) .nil .nil)) (.node (o_269 c) (.node (o_43 c) (.node (o_754 c) .nil .nil) .nil) (.node (o_44 c) .nil .nil)))) (.node (o_44 c) (.node (o_121 c) (.node (o_187 c) (.node (o_44 c) (.node (o_583 c) .nil .nil) .nil) (.node (o_453 c) .nil .nil)) (.node (o_43 c) (.node (o_390 c) (.node (o_43 c) .nil .nil) .nil) (.node (o_519 c) .nil .nil))) (.node (o_153 c) (.node (o_43 c) (.node (o_352 c) (.node (o_615 c) .nil .nil) .nil) (.node (o_487 c) .nil .nil)) (.node (o_285 c) (.node (o_421 c) .nil .nil) (.node (o_43 c) .nil .nil))))) (.node (o_63 c) (.node (o_43 c) (.node (o_113 c) (.node (o_179 c) (.node (o_43 c) (.node (o_575 c) .nil .nil) .nil) (.node (o_445 c) .nil .nil)) (.node (o_243 c) (.node (o_44 c) (.node (o_730 c) .nil .nil) .nil) (.node (o_511 c) .nil .nil))) (.node (o_44 c) (.node (o_211 c) (.node (o_341 c) (.node (o_607 c) .nil .nil) .nil) (.node (o_44 c) .nil .nil)) (.node (o_43 c) (.node (o_103 c) (.node (o_762 c) .nil .nil) .nil) (.node (o_543 c) .nil .nil)))) (.node (o_95 c) (.node (o_129 c) (.node (o_43 c) (.node (o_325 c) (.node (o_43 c) .nil .nil) .nil) (.node (o_463 c) .nil .nil)) (.node (o_44 c) (.node (o_44 c) (.node (o_44 c) .nil .nil) .nil) (.node (o_43 c) .nil .nil))) (.node (o_43 c) (.node (o_227 c) (.node (o_360 c) (.node (o_714 c) .nil .nil) .nil) (.node (o_43 c) .nil .nil)) (.node (o_293 c) (.node (o_43 c) .nil .nil) (.node (o_43 c) .nil .nil))))))) (.node (W.boot_o_5 c.P) (.node (W.boot_o_9 c.P) (.node (o_53 c) (.node (o_69 c) (.node (o_103 c) (.node (o_169 c) (.node (o_299 c) (.node (o_565 c) .nil .nil) .nil) (.node (o_435 c) .nil .nil)) (.node (o_43 c) (.node (o_366 c) (.node (o_43 c) .nil .nil) .nil) (.node (o_501 c) .nil .nil))) (.node (o_135 c) (.node (o_201 c) (.node (o_44 c) (.node (o_597 c) .nil .nil) .nil) (.node (o_469 c) .nil .nil)) (.node (o_43 c) (.node (o_401 c) (.node (o_43 c) .nil .nil) .nil) (.node (o_533 c) .nil .nil)))) (.node (o_85 c) (.node (o_43 c) (.node (o_185 c) (.node (o_315 c) (.node (o_581 c) .nil .nil) .nil) (.node (o_451 c) .nil .nil)) (.node (o_249 c) (.node (o_382 c) (.node (o_736 c) .nil .nil) .nil) (.node (o_517 c) .nil .nil))) (.node (o_151 c) (.node (o_44 c) (.node (o_43 c) (.node (o_613 c) .nil .nil) .nil) (.node (o_43 c) .nil .nil)) (.node (o_283 c) (.node (o_43 c) (.node (o_768 c) .nil .nil) .nil) (.node (o_44 c) .nil .nil))))) (.node (o_43 c) (.node (o_77 c) (.node (o_111 c) (.node (o_43 c) (.node (o_307 c) (.node (o_43 c) .nil .nil) .nil) (.node (o_43 c) .nil .nil)) (.node (o_241 c) (.node (o_374 c) (.node (o_728 c) .nil .nil) .nil) (.node (o_43 c) .nil .nil))) (.node (o_143 c) (.node (o_43 c) (.node (o_339 c) (.node (o_43 c) .nil .nil) .nil) (.node (o_477 c) .nil .nil)) (.node (o_44 c) (.node (o_409 c) (.node (o_43 c) .nil .nil) .nil) (.node (o_43 c) .nil .nil)))) (.node (o_43 c) (.node (o_127 c) (.node (o_193 c) (.node (o_43 c) (.node (o_589 c) .nil .nil) .nil) (.node (o_461 c) .nil .nil)) (.node (o_259 c) (.node (o_393 c) (.node (o_744 c) .nil .nil) .nil) (.node (o_525 c) .nil .nil))) (.node (o_44 c) (.node (o_225 c) (.node (o_358 c) (.node (o_712 c) .nil .nil) .nil) (.node (o_44 c) .nil .nil)) (.node (o_43 c) (.node (o_44 c) .nil .nil) (.node (o_44 c) .nil .nil)))))) (.node (o_45 c) (.node (o_57 c) (.node (o_44 c) (.node (o_107 c) (.node (o_173 c) (.node (o_44 c) (.node (o_569 c) .nil .nil) .nil) (.node (o_439 c) .nil .nil)) (.node (o_43 c) (.node (o_370 c) (.node (o_43 c) .nil .nil) .nil) (.node (o_505 c) .nil .nil))) (.node (o_139 c) (.node (o_43 c) (.node (o_335 c) (.node (o_43 c) .nil .nil) .nil) (.node (o_473 c) .nil .nil)) (.node (o_271 c) (.node (o_405 c) (.node (o_756 c) .nil .nil) .nil) (.node (o_43 c) .nil .nil)))) (.node (o_43 c) (.node (o_43 c) (.node (o_44 c) (.node (o_43 c) (.node (o_44 c) .nil .nil) .nil) (.node (o_103 c) .nil .nil)) (.node (o_255 c) (.node (o_386 c) (.node (o_740 c) .nil .nil) .nil) (.node (o_44 c) .nil .nil))) (.node (o_155 c) (.node (o_221 c) (.node (o_43 c) (.node (o_617 c) .nil .nil) .nil) (.node (o_489 c) .nil .nil)) (.node (o_287 c) (.node (o_423 c) .nil .nil) (.node (o_553 c) .nil .nil))))) (.node (o_43 c) (.node (o_81 c) (.node (o_115 c) (.node (o_43 c) (.node (o_311 c) (.node (o_43 c) .nil .nil) .nil) (.node (o_447 c) .nil .nil)) (.node (o_44 c) (.node (o_43 c) (.node (o_44 c) .nil .nil) .nil) (.node (o_43 c) .nil .nil))) (.node (o_43 c) (.node (o_213 c) (.node (o_343 c) (.node (o_609 c) .nil .nil) .nil) (.node (o_43 c) .nil .nil)) (.node (o_279 c) (.node (o_43 c) (.node (o_43 c) .nil .nil) .nil) (.node (o_545 c) .nil .nil)))) (.node (o_97 c) (.node (o_44 c) (.node (o_197 c) (.node (o_327 c) (.node (o_593 c) .nil .nil) .nil) (.node (o_44 c) .nil .nil)) (.node (o_43 c) (.node (o_397 c) (.node (o_43 c) .nil .nil) .nil) (.node (o_529 c) .nil .nil))) (.node (o_165 c) (.node (o_229 c) (.node (o_44 c) (.node (o_716 c) .nil .nil) .nil) (.node (o_497 c) .nil .nil)) (.node (o_43 c) (.node (o_431 c) .nil .nil) (.node (o_561 c) .nil .nil)))))))) (.node (o_344 c) (.node (W.boot_o_4 c.P) (.node (W.boot_o_8 c.P) (.node (o_44 c) (.node (o_43 c) (.node (o_43 c) (.node (o_44 c) (.node (o_43 c) (.node (o_44 c) .nil .nil) .nil) (.node (o_44 c) .nil .nil)) (.node (o_232 c) (.node (o_365 c) (.node (o_719 c) .nil .nil) .nil) (.node (o_44 c) .nil .nil))) (.node (o_134 c) (.node (o_200 c) (.node (o_43 c) (.node (o_596 c) .nil .nil) .nil) (.node (o_468 c) .nil .nil)) (.node (o_266 c) (.node (o_400 c) (.node (o_751 c) .nil .nil) .nil) (.node (o_532 c) .nil .nil)))) (.node (o_84 c) (.node (o_118 c) (.node (o_43 c) (.node (o_314 c) (.node (o_43 c) .nil .nil) .nil) (.node (o_450 c) .nil .nil)) (.node (o_248 c) (.node (o_381 c) (.node (o_735 c) .nil .nil) .nil) (.node (o_43 c) .nil .nil))) (.node (o_150 c) (.node (o_43 c) (.node (o_349 c) (.node (o_612 c) .nil .nil) .nil) (.node (o_484 c) .nil .nil)) (.node (o_44 c) (.node (o_418 c) (.node (o_767 c) .nil .nil) .nil) (.node (o_43 c) .nil .nil))))) (.node (o_60 c) (.node (o_76 c) (.node (o_44 c) (.node (o_176 c) (.node (o_306 c) (.node (o_572 c) .nil .nil) .nil) (.node (o_442 c) .nil .nil)) (.node (o_43 c) (.node (o_373 c) (.node (o_43 c) .nil .nil) .nil) (.node (o_508 c) .nil .nil))) (.node (o_142 c) (.node (o_208 c) (.node (o_44 c) (.node (o_604 c) .nil .nil) .nil) (.node (o_476 c) .nil .nil)) (.node (o_43 c) (.node (o_408 c) (.node (o_759 c) .nil .nil) .nil) (.node (o_540 c) .nil .nil)))) (.node (o_92 c) (.node (o_43 c) (.node (o_192 c) (.node (o_322 c) (.node (o_588 c) .nil .nil) .nil) (.node (o_460 c) .nil .nil)) (.node (o_258 c) (.node (o_103 c) (.node (o_743 c) .nil .nil) .nil) (.node (o_524 c) .nil .nil))) (.node (o_43 c) (.node (o_44 c) (.node (o_43 c) (.node (o_44 c) .nil .nil) .nil) (.node (o_43 c) .nil .nil)) (.node (o_290 c) (.node (o_43 c) .nil .nil) (.node (o_43 c) .nil .nil)))))) (.node (o_709 c) (.node (o_56 c) (.node (o_43 c) (.node (o_106 c) (.node (o_172 c) (.node (o_43 c) (.node (o_568 c) .nil .nil) .nil) (.node (o_438 c) .nil .nil)) (.node (o_236 c) (.node (o_103 c) (.node (o_723 c) .nil .nil) .nil) (.node (o_504 c) .nil .nil))) (.node (o_44 c) (.node (o_204 c) (.node (o_334 c) (.node (o_600 c) .nil .nil) .nil) (.node (o_44 c) .nil .nil)) (.node (o_43 c) (.node (o_44 c) (.node (o_755 c) .nil .nil) .nil) (.node (o_536 c) .nil .nil)))) (.node (o_88 c) (.node (o_122 c) (.node (o_43 c) (.node (o_318 c) (.node (o_43 c) .nil .nil) .nil) (.node (o_43 c) .nil .nil)) (.node (o_44 c) (.node (o_385 c) (.node (o_44 c) .nil .nil) .nil) (.node (o_43 c) .nil .nil))) (.node (o_154 c) (.node (o_220 c) (.node (o_353 c) (.node (o_616 c) .nil .nil) .nil) (.node (o_43 c) .nil .nil)) (.node (o_286 c) (.node (o_43 c) .nil .nil) (.node (o_552 c) .nil .nil))))) (.node (o_64 c) (.node (o_44 c) (.node (o_114 c) (.node (o_180 c) (.node (o_44 c) (.node (o_576 c) .nil .nil) .nil) (.node (o_446 c) .nil .nil)) (.node (o_43 c) (.node (o_377 c) (.node (o_43 c) .nil .nil) .nil) (.node (o_512 c) .nil .nil))) (.node (o_146 c) (.node (o_43 c) (.node (o_342 c) (.node (o_43 c) .nil .nil) .nil) (.node (o_480 c) .nil .nil)) (.node (o_278 c) (.node (o_414 c) (.node (o_763 c) .nil .nil) .nil) (.node (o_43 c) .nil .nil)))) (.node (o_43 c) (.node (o_43 c) (.node (o_44 c) (.node (o_43 c) (.node (o_44 c) .nil .nil) .nil) (.node (o_43 c) .nil .nil)) (.node (o_262 c) (.node (o_396 c) (.node (o_747 c) .nil .nil) .nil) (.node (o_44 c) .nil .nil))) (.node (o_164 c) (.node (o_228 c) (.node (o_43 c) (.node (o_715 c) .nil .nil) .nil) (.node (o_496 c) .nil .nil)) (.node (o_294 c) (.node (o_430 c) .nil .nil) (.node (o_560 c) .nil .nil))))))) (.node (W.boot_o_6 c.P) (.node (W.boot_o_10 c.P) (.node (o_43 c) (.node (o_70 c) (.node (o_104 c) (.node (o_43 c) (.node (o_300 c) (.node (o_43 c) .nil .nil) .nil) (.node (o_43 c) .nil .nil)) (.node (o_234 c) (.node (o_367 c) (.node (o_721 c) .nil .nil) .nil) (.node (o_43 c) .nil .nil))) (.node (o_136 c) (.node (o_43 c) (.node (o_332 c) (.node (o_43 c) .nil .nil) .nil) (.node (o_470 c) .nil .nil)) (.node (o_44 c) (.node (o_402 c) (.node (o_44 c) .nil .nil) .nil) (.node (o_43 c) .nil .nil)))) (.node (o_43 c) (.node (o_120 c) (.node (o_186 c) (.node (o_43 c) (.node (o_582 c) .nil .nil) .nil) (.node (o_452 c) .nil .nil)) (.node (o_250 c) (.node (o_383 c) (.node (o_737 c) .nil .nil) .nil) (.node (o_518 c) .nil .nil))) (.node (o_152 c) (.node (o_218 c) (.node (o_351 c) (.node (o_614 c) .nil .nil) .nil) (.node (o_44 c) .nil .nil)) (.node (o_43 c) (.node (o_44 c) .nil .nil) (.node (o_550 c) .nil .nil))))) (.node (o_62 c) (.node (o_78 c) (.node (o_43 c) (.node (o_178 c) (.node (o_308 c) (.node (o_574 c) .nil .nil) .nil) (.node (o_444 c) .nil .nil)) (.node (o_242 c) (.node (o_43 c) (.node (o_729 c) .nil .nil) .nil) (.node (o_510 c) .nil .nil))) (.node (o_43 c) (.node (o_44 c) (.node (o_43 c) (.node (o_44 c) .nil .nil) .nil) (.node (o_43 c) .nil .nil)) (.node (o_276 c) (.node (o_43 c) (.node (o_761 c) .nil .nil) .nil) (.node (o_44 c) .nil .nil)))) (.node (o_44 c) (.node (o_128 c) (.node (o_194 c) (.node (o_44 c) (.node (o_590 c) .nil .nil) .nil) (.node (o_462 c) .nil .nil)) (.node (o_43 c) (.node (o_43 c) (.node (o_43 c) .nil .nil) .nil) (.node (o_526 c) .nil .nil))) (.node (o_162 c) (.node (o_43 c) (.node (o_359 c) (.node (o_43 c) .nil .nil) .nil) (.node (o_494 c) .nil .nil)) (.node (o_292 c) (.node (o_428 c) .nil .nil) (.node (o_558 c) .nil .nil)))))) (.node (o_46 c) (.node (o_43 c) (.node (o_74 c) (.node (o_108 c) (.node (o_43 c) (.node (o_304 c) (.node (o_43 c) .nil .nil) .nil) (.node (o_43 c) .nil .nil)) (.node (o_44 c) (.node (o_43 c) (.node (o_44 c) .nil .nil) .nil) (.node (o_43 c) .nil .nil))) (.node (o_43 c) (.node (o_206 c) (.node (o_336 c) (.node (o_602 c) .nil .nil) .nil) (.node (o_43 c) .nil .nil)) (.node (o_272 c) (.node (o_43 c) (.node (o_43 c) .nil .nil) .nil) (.node (o_538 c) .nil .nil)))) (.node (o_90 c) (.node (o_44 c) (.node (o_190 c) (.node (o_320 c) (.node (o_586 c) .nil .nil) .nil) (.node (o_458 c) .nil .nil)) (.node (o_43 c) (.node (o_387 c) (.node (o_43 c) .nil .nil) .nil) (.node (o_522 c) .nil .nil))) (.node (o_156 c) (.node (o_222 c) (.node (o_44 c) (.node (o_618 c) .nil .nil) .nil) (.node (o_490 c) .nil .nil)) (.node (o_43 c) (.node (o_424 c) .nil .nil) (.node (o_554 c) .nil .nil))))) (.node (o_44 c) (.node (o_43 c) (.node (o_43 c) (.node (o_44 c) (.node (o_43 c) (.node (o_44 c) .nil .nil) .nil) (.node (o_448 c) .nil .nil)) (.node (o_246 c) (.node (o_379 c) (.node (o_733 c) .nil .nil) .nil) (.node (o_44 c) .nil .nil))) (.node (o_148 c) (.node (o_214 c) (.node (o_43 c) (.node (o_610 c) .nil .nil) .nil) (.node (o_482 c) .nil .nil)) (.node (o_280 c) (.node (o_416 c) (.node (o_44 c) .nil .nil) .nil) (.node (o_546 c) .nil .nil)))) (.node (o_98 c) (.node (o_132 c) (.node (o_43 c) (.node (o_328 c) (.node (o_43 c) .nil .nil) .nil) (.node (o_466 c) .nil .nil)) (.node (o_264 c) (.node (o_43 c) (.node (o_749 c) .nil .nil) .nil) (.node (o_43 c) .nil .nil))) (.node (o_166 c) (.node (o_43 c) (.node (o_43 c) (.node (o_43 c) .nil .nil) .nil) (.node (o_498 c) .nil .nil)) (.node (o_44 c) (.node (o_432 c) .nil .nil) (.node (o_562 c) .nil .nil)))))))))
noncomputable def H46 (c : Ctx) : Heap := Heap.mk (Array.mk [W.boot_o_0 c.P, W.boot_o_1 c.P, W.boot_o_2 c.P, W.boot_o_3 c.P, W.boot_o_4 c.P, W.boot_o_5 c.P, W.boot_o_6 c.P, W.boot_o_7 c.P, W.boot_o_8 c.P, W.boot_o_9 c.P, W.boot_o_10 c.P, o_43 c, o_44 c, o_45 c, o_46 c]) (Life.mk [] [] [] 0 [] [] Bool.false #[] [] 0 Bool.false Bool.false Bool.false 0 [2000, 10, 10] Bool.false 0 Bool.true [] [] 0 Bool.false)
noncomputable def H769 (c : Ctx) : Heap := Heap.mk (Array.mk [W.boot_o_0 c.P, W.boot_o_1 c.P, o_344 c, o_708 c, W.boot_o_4 c.P, W.boot_o_5 c.P, W.boot_o_6 c.P, W.boot_o_7 c.P, W.boot_o_8 c.P, W.boot_o_9 c.P, W.boot_o_10 c.P, o_43 c, o_709 c, o_45 c, o_46 c, o_43 c, o_44 c, o_53 c, o_43 c, o_55 c, o_56 c, o_57 c, o_43 c, o_44 c, o_60 c, o_43 c, o_62 c, o_63 c, o_64 c, o_43 c, o_44 c, o_67 c, o_43 c, o_69 c, o_70 c, o_71 c, o_43 c, o_44 c, o_74 c, o_43 c, o_76 c, o_77 c, o_78 c, o_43 c, o_44 c, o_81 c, o_43 c, o_83 c, o_84 c, o_85 c, o_43 c, o_44 c, o_88 c, o_43 c, o_90 c, o_91 c, o_92 c, o_43 c, o_44 c, o_95 c, o_43 c, o_97 c, o_98 c, o_99 c, o_43 c, o_103 c, o_104 c, o_43 c, o_106 c, o_107 c, o_108 c, o_43 c, o_44 c, o_111 c, o_43 c, o_113 c, o_114 c, o_115 c, o_43 c, o_44 c, o_118 c, o_43 c, o_120 c, o_121 c, o_122 c, o_43 c, o_44 c, o_125 c, o_43 c, o_127 c, o_128 c, o_129 c, o_43 c, o_44 c, o_132 c, o_43 c, o_134 c, o_135 c, o_136 c, o_43 c, o_44 c, o_139 c, o_43 c, o_141 c, o_142 c, o_143 c, o_43 c, o_44 c, o_146 c, o_43 c, o_148 c, o_149 c, o_150 c, o_151 c, o_152 c, o_153 c, o_154 c, o_155 c, o_156 c, o_157 c, o_43 c, o_44 c, o_162 c, o_43 c, o_164 c, o_165 c, o_166 c, o_43 c, o_44 c, o_169 c, o_43 c, o_171 c, o_172 c, o_173 c, o_43 c, o_44 c, o_176 c, o_43 c, o_178 c, o_179 c, o_180 c, o_43 c, o_44 c, o_183 c, o_43 c, o_185 c, o_186 c, o_187 c, o_43 c, o_44 c, o_190 c, o_43 c, o_192 c, o_193 c, o_194 c, o_43 c, o_44 c, o_197 c, o_43 c, o_199 c, o_200 c, o_201 c, o_43 c, o_44 c, o_204 c, o_43 c, o_206 c, o_207 c, o_208 c, o_43 c, o_44 c, o_211 c, o_43 c, o_213 c, o_214 c, o_215 c, o_43 c, o_44 c, o_218 c, o_43 c, o_220 c, o_221 c, o_222 c, o_43 c, o_44 c, o_225 c, o_43 c, o_227 c, o_228 c, o_229 c, o_43 c, o_44 c, o_232 c, o_43 c, o_234 c, o_235 c, o_236 c, o_43 c, o_44 c, o_239 c, o_43 c, o_241 c, o_242 c, o_243 c, o_43 c, o_44 c, o_246 c, o_43 c, o_248 c, o_249 c, o_250 c, o_43 c, o_44 c, o_255 c, o_43 c, o_257 c, o_258 c, o_259 c, o_43 c, o_44 c, o_262 c, o_43 c, o_264 c, o_265 c, o_266 c, o_43 c, o_44 c, o_269 c, o_43 c, o_271 c, o_272 c, o_273 c, o_43 c, o_44 c, o_276 c, o_43 c, o_278 c, o_279 c, o_280 c, o_43 c, o_44 c, o_283 c, o_43 c, o_285 c, o_286 c, o_287 c, o_43 c, o_44 c, o_290 c, o_43 c, o_292 c, o_293 c, o_294 c, o_43 c, o_44 c, o_297 c, o_43 c, o_299 c, o_300 c, o_301 c, o_43 c, o_44 c, o_304 c, o_43 c, o_306 c, o_307 c, o_308 c, o_43 c, o_44 c, o_311 c, o_43 c, o_313 c, o_314 c, o_315 c, o_43 c, o_44 c, o_318 c, o_43 c, o_320 c, o_321 c, o_322 c, o_43 c, o_44 c, o_325 c, o_43 c, o_327 c, o_328 c, o_329 c, o_43 c, o_44 c, o_332 c, o_43 c, o_334 c, o_335 c, o_336 c, o_43 c, o_44 c, o_339 c, o_43 c, o_341 c, o_342 c, o_343 c, o_43 c, o_44 c, o_349 c, o_43 c, o_351 c, o_352 c, o_353 c, o_43 c, o_44 c, o_356 c, o_43 c, o_358 c, o_359 c, o_360 c, o_43 c, o_44 c, o_43 c, o_43 c, o_365 c, o_366 c, o_367 c, o_368 c, o_103 c, o_370 c, o_43 c, o_372 c, o_373 c, o_374 c, o_43 c, o_44 c, o_377 c, o_43 c, o_379 c, o_380 c, o_381 c, o_382 c, o_383 c, o_390 c, o_385 c, o_386 c, o_387 c, o_391 c, o_103 c, o_393 c, o_43 c, o_44 c, o_396 c, o_397 c, o_43 c, o_399 c, o_400 c, o_401 c, o_402 c, o_43 c, o_44 c, o_405 c, o_43 c, o_407 c, o_408 c, o_409 c, o_43 c, o_103 c, o_414 c, o_43 c, o_416 c, o_417 c, o_418 c, o_43 c, o_44 c, o_421 c, o_43 c, o_423 c, o_424 c, o_425 c, o_43 c, o_44 c, o_428 c, o_43 c, o_430 c, o_431 c, o_432 c, o_43 c, o_44 c, o_435 c, o_43 c, o_437 c, o_438 c, o_439 c, o_43 c, o_44 c, o_442 c, o_43 c, o_444 c, o_445 c, o_446 c, o_447 c, o_448 c, o_449 c, o_450 c, o_451 c, o_452 c, o_453 c, o_43 c, o_103 c, o_458 c, o_43 c, o_460 c, o_461 c, o_462 c, o_463 c, o_43 c, o_44 c, o_466 c, o_43 c, o_468 c, o_469 c, o_470 c, o_43 c, o_44 c, o_473 c, o_43 c, o_475 c, o_476 c, o_477 c, o_43 c, o_44 c, o_480 c, o_43 c, o_482 c, o_483 c, o_484 c, o_43 c, o_44 c, o_487 c, o_43 c, o_489 c, o_490 c, o_491 c, o_43 c, o_44 c, o_494 c, o_43 c, o_496 c, o_497 c, o_498 c, o_43 c, o_44 c, o_501 c, o_43 c, o_503 c, o_504 c, o_505 c, o_43 c, o_44 c, o_508 c, o_43 c, o_510 c, o_511 c, o_512 c, o_43 c, o_44 c, o_515 c, o_43 c, o_517 c, o_518 c, o_519 c, o_43 c, o_44 c, o_522 c, o_43 c, o_524 c, o_525 c, o_526 c, o_43 c, o_44 c, o_529 c, o_43 c, o_531 c, o_532 c, o_533 c, o_43 c, o_44 c, o_536 c, o_43 c, o_538 c, o_539 c, o_540 c, o_43 c, o_44 c, o_543 c, o_43 c, o_545 c, o_546 c, o_547 c, o_43 c, o_44 c, o_550 c, o_43 c, o_552 c, o_553 c, o_554 c, o_555 c, o_43 c, o_44 c, o_558 c, o_43 c, o_560 c, o_561 c, o_562 c, o_43 c, o_44 c, o_565 c, o_43 c, o_567 c, o_568 c, o_569 c, o_43 c, o_44 c, o_572 c, o_43 c, o_574 c, o_575 c, o_576 c, o_43 c, o_44 c, o_579 c, o_43 c, o_581 c, o_582 c, o_583 c, o_43 c, o_44 c, o_586 c, o_43 c, o_588 c, o_589 c, o_590 c, o_43 c, o_44 c, o_593 c, o_43 c, o_595 c, o_596 c, o_597 c, o_43 c, o_44 c, o_600 c, o_43 c, o_602 c, o_603 c, o_604 c, o_43 c, o_44 c, o_607 c, o_43 c, o_609 c, o_610 c, o_611 c, o_612 c, o_613 c, o_614 c, o_615 c, o_616 c, o_617 c, o_618 c, o_43 c, o_44 c, o_712 c, o_43 c, o_714 c, o_715 c, o_716 c, o_43 c, o_44 c, o_719 c, o_43 c, o_721 c, o_722 c, o_723 c, o_43 c, o_44 c, o_726 c, o_43 c, o_728 c, o_729 c, o_730 c, o_43 c, o_44 c, o_733 c, o_43 c, o_735 c, o_736 c, o_737 c, o_43 c, o_44 c, o_740 c, o_43 c, o_742 c, o_743 c, o_744 c, o_43 c, o_44 c, o_747 c, o_43 c, o_749 c, o_750 c, o_751 c, o_43 c, o_44 c, o_754 c, o_755 c, o_756 c, o_43 c, o_44 c, o_759 c, o_43 c, o_761 c, o_762 c, o_763 c, o_43 c, o_44 c, o_766 c, o_767 c, o_768 c]) (Life.mk [] [] [] 0 [] [] Bool.false #[] [] 0 Bool.false Bool.false Bool.false 0 [2000, 10, 10] Bool.false 0 Bool.true [] [] 0 Bool.false)
noncomputable def pq : Program := PySem.Challenge.pw_nt0612_01
theorem pq_eq : PySem.Challenge.pw_nt0612_01 = pq := rfl
noncomputable def cr (w : World) : Ctx := ⟨at2.get, pq, w.params⟩
noncomputable def envF (g : Program) : Env := { scope := g.main.scope, locals := mainNs, globals := mainNs, cells := [], code := Value.ref 13, frame := some 14 }
noncomputable def cF (g : Program) : Code := Code.body (behindTheImports g) (envF g)
noncomputable def stF (g : Program) (a k : Nat) : List Stmt := ((behindTheImports g).drop a).take k
theorem seg0 : ∀ w : World, (fun os : OsState => segRunT treeTable pq w 11 (some (Value.ref 6)) 1 1016 ⟨T47 (cr w), 15, {}, Array.mk [], {}, 187, os⟩ (piecesOf (stF pq 0 24) (envF pq) (cF pq) ⟨0, 0, 0, 0⟩ [topFrame ⟨0, 0, 0, 0⟩])) =
    fun os => some (Flow.next, ⟨T250 (cr w), 211, {}, Array.mk [], {}, 426, os⟩, cF pq, ⟨163, 0, 170, 33⟩) := by
  rw [PySem.W.Fast.te10110043849684766642, PySem.W.Fast.te14364793385576792824]
  intro w
  kernel_rfl
theorem seg1 : ∀ w : World, (fun os : OsState => segRunT treeTable pq w 11 (some (Value.ref 6)) 1 1294 ⟨T250 (cr w), 211, {}, Array.mk [], {}, 426, os⟩ (piecesOf (stF pq 24 23) (envF pq) (cF pq) ⟨163, 0, 170, 33⟩ [topFrame ⟨0, 0, 0, 0⟩])) =
    fun os => some (Flow.next, ⟨T453 (cr w), 404, {}, Array.mk [], {}, 660, os⟩, cF pq, ⟨298, 0, 298, 8⟩) := by
  rw [PySem.W.Fast.te10110043849684766642, PySem.W.Fast.te14364793385576792824]
  intro w
  kernel_rfl
theorem seg2 : ∀ w : World, (fun os : OsState => segRunT treeTable pq w 11 (some (Value.ref 6)) 1 1159 ⟨T453 (cr w), 404, {}, Array.mk [], {}, 660, os⟩ (piecesOf (stF pq 47 11) (envF pq) (cF pq) ⟨298, 0, 298, 8⟩ [topFrame ⟨0, 0, 0, 0⟩])) =
    fun os => some (Flow.next, ⟨T768 (cr w), 626, {}, Array.mk [], {}, 941, os⟩, cF pq, ⟨477, 0, 501, 77⟩) := by
  rw [PySem.W.Fast.te10110043849684766642, PySem.W.Fast.te14364793385576792824]
  intro w
  kernel_rfl
theorem pre_run : ∀ w : World, (fun os : OsState => topGo treeTable pq w 11 (some (Value.ref 6)) 12 ⟨boot_heap w.params, Array.mk [], boot_drawn, boot_toks, os⟩ (topStub pq)) =
    fun os => some (⟨H46 (cr w), Array.mk [], {}, 187, os⟩, ⟨denote treeTable (cF pq), cF pq, ⟨0, 0, 0, 0⟩, [topFrame ⟨0, 0, 0, 0⟩]⟩) := by
  rw [PySem.W.Fast.te15667345088766844465, PySem.W.Fast.te11892475500146522536, PySem.W.Fast.te14364793385576792824]
  intro w
  kernel_rfl
theorem block_run : ∀ w : World, (fun os : OsState => segRun treeTable pq w 11 (some (Value.ref 6)) 1 1 ⟨H46 (cr w), Array.mk [], {}, 187, os⟩ (blockOf (behindTheImports pq) (envF pq) (cF pq) ⟨0, 0, 0, 0⟩ [topFrame ⟨0, 0, 0, 0⟩])) =
    fun os => some (Flow.next, SharedT.abs ⟨T47 (cr w), 15, {}, Array.mk [], {}, 187, os⟩, cF pq, ⟨0, 0, 0, 0⟩) := by
  rw [PySem.W.Fast.te14374325043358763698, PySem.W.Fast.te14364793385576792824]
  intro w
  kernel_rfl
theorem fin_run : ∀ w : World, (fun os : OsState => topRun treeTable pq w 11 (some (Value.ref 6)) 2 (SharedT.abs ⟨T768 (cr w), 626, {}, Array.mk [], {}, 941, os⟩) ⟨doneF Flow.next, cF pq, ⟨477, 0, 501, 77⟩, [topFrame ⟨0, 0, 0, 0⟩]⟩) =
    fun os => some ⟨H769 (cr w), Array.mk [], {}, 941, os⟩ := by
  rw [PySem.W.Fast.te14082659384304107361, PySem.W.Fast.te14364793385576792824]
  intro w
  kernel_rfl
theorem bimp : behindTheImports pq = stF pq 0 24 ++ (stF pq 24 23 ++ (stF pq 47 11 ++ [])) := by kernel_rfl
theorem the_run (w : World) (os : OsState) : topRun treeTable pq w 11 (some (Value.ref 6)) (12 + (1 + (1016 + (1294 + (1159 + 2))))) ⟨boot_heap w.params, Array.mk [], boot_drawn, boot_toks, os⟩ (topStub pq) = some ⟨H769 (cr w), Array.mk [], {}, 941, os⟩ := by
  refine go_top (n := 12) (N := 1 + (1016 + (1294 + (1159 + 2)))) (congrFun (pre_run w) os) (piece_block (n := 1) (N := (1016 + (1294 + (1159 + 2)))) (congrFun (block_run w) os) ?_)
  rw [bimp]
  exact piece_app (n := 1016) (N := (1294 + (1159 + 2))) (segRun_of (congrFun (seg0 w) os)) (piece_app (n := 1294) (N := (1159 + 2)) (segRun_of (congrFun (seg1 w) os)) (piece_app (n := 1159) (N := 2) (segRun_of (congrFun (seg2 w) os)) (congrFun (fin_run w) os)))
noncomputable def qv : Program := viewOf pq
noncomputable abbrev fs (w : World) (os : OsState) : Shared := ⟨H769 (cr w), Array.mk [], {}, 941, os⟩
theorem look1 : ∀ w : World, (fun os : OsState => (staticsOk (importedModules pq.main.body) (boot_heap w.params) (H769 (cr w)) && namesBound pq (H769 (cr w)) && gensDone (fs w os) && laidKept (boot_heap w.params) (H769 (cr w)))) = fun Z => true := by
  rw [PySem.W.Fast.te5923862056798008813]
  intro w
  kernel_rfl
theorem look2 : ∀ w : World, (fun os : OsState => seen ((recsOf qv).map (·.name)) (ownsOf qv) [] { (fs w os) with gens := #[] }) = fun Z => expectedOf qv := by
  rw [PySem.W.Fast.te5160383126252970620, PySem.W.Fast.te3399658132070893891, PySem.W.Fast.te5991557255702980513]
  intro w
  kernel_rfl
theorem look3 : ∀ w : World, (fun os : OsState => (fs w os).heap.bltView) = fun Z => bltViewBooted := by
  intro w
  kernel_rfl
theorem look4 : ∀ w : World, (fun os : OsState => ((fs w os).heap.keysOk (looseW qv []) ((recsOf qv).map (·.name)) ((litsOf qv).map (·.1)) ((clssOf qv (looseW qv [])).map (·.name)) && (fs w os).heap.accountedOkI (importedModules pq.main.body) && (fs w os).heap.isNs mainGlobals && (fs w os).heap.isNs builtinsNs && tablesOk qv (fs w os).heap && (xlAt qv [] (fs w os) && recOk [] (fs w os)) && (if true = true then (fs w os).gens.size == 0 else !leftWithCleanup (fs w os).gens))) = fun Z => true := by
  rw [PySem.W.Fast.te10880121769531294198, PySem.W.Fast.te821141287760084731, PySem.W.Fast.te3399658132070893891, PySem.W.Fast.te7409074990110511671, PySem.W.Fast.te13664370479719496447, PySem.W.Fast.te14722251495701143533, PySem.W.Fast.te5923862056798008813, PySem.W.Fast.te10994771534591457954]
  intro w
  kernel_rfl
theorem look5 : ∀ w : World, (fun os : OsState => tabsOk qv (fs w os)) = fun Z => true := by
  rw [PySem.W.Fast.te479339242167458305]
  intro w
  kernel_rfl
theorem look6 : ∀ w : World, (fun os : OsState => pinSeenD qv (drecsOf qv) (fs w os)) = fun Z => pinGoodD (drecsOf qv) := by
  rw [PySem.W.Fast.te16090120013241838585, PySem.W.Fast.te3247288618530077131]
  intro w
  kernel_rfl
theorem look7 : ∀ w : World, (fun os : OsState => plainSeenE qv (looseW qv []) (fs w os)) = fun Z => plainGoodE qv (looseW qv []) := by
  rw [PySem.W.Fast.te2386780881361962483, PySem.W.Fast.te821141287760084731]
  intro w
  kernel_rfl
theorem look8 : ∀ w : World, (fun os : OsState => plainSeenD qv [] (fs w os)) = fun Z => plainGoodD qv [] := by
  rw [PySem.W.Fast.te11698064438423848299]
  intro w
  kernel_rfl
theorem look9 : ∀ w : World, (fun os : OsState => wideSeen qv (fs w os)) = fun Z => wideGood qv := by
  rw [PySem.W.Fast.te7317090234206586261]
  intro w
  kernel_rfl
theorem look10 : ∀ w : World, (fun os : OsState => clsSeenW qv [] (fs w os)) = fun Z => clsGoodW qv [] := by
  rw [PySem.W.Fast.te7369524293546568484]
  intro w
  kernel_rfl
theorem kk_eq (P : Params) : kf P = KK ⟨at2.get, pq, P⟩ := by
  unfold kf
  rw [at_eq, pq_eq]
theorem look11 : ∀ w : World, (fun os : OsState => asK.map (fs w os).heap.get?) = fun Z => (KK (cr w)).map fun p => some p.2 := by
  intro w
  kernel_rfl
theorem size_is : ∀ w : World, ((boot_heap w.params).isNs mainGlobals && (Array.mk [] : Array GenState).size == 0, (boot_heap w.params).objs.size, (boot_heap w.params).nsMap mainGlobals "__annotations__") = (true, 11, some (Value.ref 6)) := by
  rw [PySem.W.Fast.te8920871248978507458]
  intro w
  kernel_rfl
theorem open_is : ∀ w : World, (fencedOpening treeTable pq w 7046).map (fun s => (s.heap, s.gens, s.drawn, s.toks)) = some (boot_heap w.params, Array.mk [], boot_drawn, boot_toks) :=
  boot_open (by kernel_rfl) (by kernel_rfl) (fun s => by kernel_rfl)
theorem left_pq : LeftO pq qv [] (fun s => xlAt qv [] s && recOk [] s) (fun s => asK.map s.heap.get?) (fun w => (kf w.params).map fun p => some p.2) 7046 := by
  refine LeftO.of_pieces (H₀ := boot_heap) (H₁ := fun P => H769 ⟨at2.get, pq, P⟩) (gs₀ := Array.mk []) (gs₁ := Array.mk []) (d₀ := boot_drawn) (d₁ := {}) (k₀ := boot_toks) (k₁ := 941) (m₀ := 11) (ann := some (Value.ref 6)) (M := (12 + (1 + (1016 + (1294 + (1159 + 2)))))) open_is size_is the_run (by kernel_rfl) ?_
  intro w
  funext os
  show (_, _, _) = (_, _, _)
  refine looks_pair (congrFun (look1 w) os) (looks_pair ?_ ((congrFun (look11 w) os).trans (by rw [kk_eq]; rfl)))
  show (_, _, _, _, _, _, _, _, _) = (_, _, _, _, _, _, _, _, _)
  refine looks_pair (congrFun (look2 w) os) (looks_pair (congrFun (look3 w) os) (looks_pair ?_ (looks_pair (congrFun (look5 w) os) (looks_pair (congrFun (look6 w) os) (looks_pair (congrFun (look7 w) os) (looks_pair (congrFun (look8 w) os) (looks_pair (congrFun (look9 w) os) (congrFun (look10 w) os))))))))
  exact congrFun (look4 w) os
theorem left : LeftO PySem.Challenge.pw_nt0612_01 view [] (fun s => xlAt view [] s && recOk [] s) (fun s => asK.map s.heap.get?) (fun w => (kf w.params).map fun p => some p.2) 7046 := by
  have h := left_pq
  unfold qv at h
  rw [← pq_eq] at h
  exact h
end Mine
end
section
open PySem PySem.W PyProof.Rows PySem.Spec PySem.Calls
set_option maxRecDepth 100000
set_option maxHeartbeats 4000000
namespace Mine
section
variable {prog : Program} {w : World} {Γ : GE}
theorem law_walk {base h₀ : Heap} {A₀ : Around} {name : Str} {scope : Scope} {L f : Addr} {cdv : Value} {a : Addr} {vs : List Value} {ns : List Int} {m : Str → Option Value} {s : Shared} {E : Value → Shared → Prop} {Q : Flow → Shared → Prop} {body : List Stmt} {c1 c2 : Obj}
    (B : Below A₀ base [] h₀) (X : (KF w).In h₀) (T : Top Γ.p Γ.loose Γ.mean Γ.mg Γ.mb h₀) (hA : A₀.frames = some []) (hh : A₀.handled = none) (hroom : Room (A₀.deeper (envOfC name scope L f cdv)) 200)
    (hs : scope = scopeOf (KF w) 625) (hbody : body = bodyOf (KF w) 625) (hE : PassesOwn (model prog w) (A₀.deeper (envOfC name scope L f cdv)) (envOfC name scope L f cdv) E)
    (F : Fr h₀ L s.heap m) (N : News h₀ L s.heap [(L + 1 + 1, c1), (L + 1, c2)]) (hc1 : c1.data = .cell none) (hc2 : c2.data = .cell (some (.ref a))) (hL : h₀.IsList a vs.toArray) (hI : IntsAre vs ns) (hlen : vs.length ≤ 1000)
    (hQ : ∀ m' news' h' tk', Fr h₀ L h' m' → News h₀ L h' news' → Q (.ret (.bool true)) { s with heap := h', toks := tk' }) :
    wpAny (model prog w) (A₀.deeper (envOfC name scope L f cdv)) (execs body (envOfC name scope L f cdv)) Q E s := by
  obtain ⟨o, ho, hcls, nn, hdata⟩ := hL
  have hlook : (KX w [(a, o)]).lookup a = some o := by
    cases q : (KF w).lookup a with
    | none =>
      unfold KX
      rw [lookup_app_none q, List.lookup_cons, beq_self_eq_true]
    | some o' =>
      have h1 := X a o' q
      rw [ho] at h1; cases h1
      unfold KX
      exact lookup_app q
  have hY : Scr w [(a, o)] a := ⟨o, vs, ns, nn, hlook, hcls, hdata, hI, hlen⟩
  have X' : (KX w [(a, o)]).In h₀ := by
    unfold KX
    intro b ob e
    rcases lookup_app_or e with h | h
    · exact X b ob h
    · rw [List.lookup_cons] at h
      refine bool_ft (b := b == a) (fun q => ?_) fun q => ?_
      · rw [q] at h; cases h
      · rw [q] at h; cases h; rw [beq_iff_eq.mp q]; exact ho
  have hs' : scope = scopeOf (KX w [(a, o)]) 625 := hs.trans (by kernel_rfl)
  have hb' : body = bodyOf (KX w [(a, o)]) 625 := hbody.trans (by kernel_rfl)
  have hkind : scope.kind = .function := by rw [hs']; kernel_rfl
  have hcl : cellsFrom (L + 1) scope.names [] = [(S "k", L + 1 + 1), (S "script", L + 1)] := by rw [hs']; kernel_rfl
  let c : FC (KX w [(a, o)]) Γ := ⟨A₀.deeper (envOfC name scope L f cdv), name, scope, f, cdv, cellsFrom (L + 1) scope.names [], [], A₀, base, h₀, L, B, X', T, Around.frames_deeper hA, hh, hkind, 0⟩
  have ecl : c.cl = [(S "k", L + 1 + 1), (S "script", L + 1)] := hcl
  have hfree : (scope.names.all fun x => decide (x.2 ≠ .free)) = true := by rw [hs']; kernel_rfl
  have hcells : (scope.names.all fun x => decide (x.2 ≠ .cell) || (x.1 == S "k" || x.1 == S "script")) = true := by rw [hs']; kernel_rfl
  have hlocs : (scope.names.all fun x => decide (x.2 ≠ .local) || (!(x.1 == S "k") && !(x.1 == S "script"))) = true := by rw [hs']; kernel_rfl
  have two : ∀ x, c.cl.lookup x = cond (x == S "k") (some (L + 1 + 1)) (cond (x == S "script") (some (L + 1)) none) := fun x => by
    rw [ecl, List.lookup_cons, List.lookup_cons]
    cases x == S "k"
    · cases x == S "script" <;> rfl
    · rfl
  have G : FG c := by
    refine ⟨by show scope.names.lookup DBG = none; rw [hs']; kernel_rfl, fun x e => ?_, fun x e => ?_, fun x e => ?_⟩
    · have h1 := List.all_eq_true.mp hlocs _ (PySem.mem_of_lookup e)
      have h2 : (!(x == S "k") && !(x == S "script")) = true := h1
      obtain ⟨h3, h4⟩ := Bool.and_eq_true_iff.mp h2
      rw [two, (Bool.not_eq_true' _).mp h3, (Bool.not_eq_true' _).mp h4]; rfl
    · have h1 := List.all_eq_true.mp hcells _ (PySem.mem_of_lookup e)
      have h2 : (x == S "k" || x == S "script") = true := h1
      rw [two]
      cases h3 : x == S "k" with
      | true => exact ⟨_, rfl⟩
      | false =>
        rw [h3] at h2
        have h4 : (x == S "script") = true := h2
        rw [h4]; exact ⟨_, rfl⟩
    · have h1 := List.all_eq_true.mp hfree _ (PySem.mem_of_lookup e)
      have h2 : decide (NameKind.free ≠ .free) = true := h1
      exact absurd h2 (by decide)
  have hown : Own prog w [L + 1 + 1, L + 1] [] [L + 1 + 1, L + 1] [.cell none, .cell (some (.top a))] ([(L + 1 + 1, c1)] ++ ([(L + 1, c2)] ++ [])) :=
    .cons ⟨c1, _, rfl, hc1⟩ (.cons ⟨c2, _, rfl, hc2, rfl⟩ .nil)
  subst hb'
  refine law_ok (c := c) (a := a) (m := m) (adr := [L + 1 + 1, L + 1]) (rest := []) (news := [(L + 1 + 1, c1), (L + 1, c2)]) (s := s) hY G rfl hroom hs' ecl hE ⟨F, N, ⟨_, hown, fun z hz => by simpa using hz, ?_⟩, Nat.zero_le _⟩ (fun y v hy => ?_) hQ
  · show (List.map _ _).Nodup
    simp
  · have h1 := two y
    have hy2 : v = cond (y == S "k") (.obj 0) (.obj 1) ∧ (y == S "k" || y == S "script") = true := by
      rw [List.lookup_cons, List.lookup_cons] at hy
      cases h3 : y == S "k" with
      | true => rw [h3] at hy; cases hy; exact ⟨rfl, rfl⟩
      | false =>
        rw [h3] at hy
        cases h4 : y == S "script" with
        | true => rw [h4] at hy; cases hy; exact ⟨rfl, rfl⟩
        | false => rw [h4] at hy; cases hy
    obtain ⟨rfl, hy3⟩ := hy2
    rw [h1]
    cases h3 : y == S "k" with
    | true => exact ⟨fun q => (nomatch q), fun b q => ⟨0, rfl, q⟩⟩
    | false =>
      rw [h3] at hy3
      have h4 : (y == S "script") = true := hy3
      rw [h4]
      exact ⟨fun q => (nomatch q), fun b q => ⟨1, rfl, q⟩⟩
end
theorem room_law {name : Str} {scope : Scope} {L f : Addr} {cdv : Value} : Room (callerA.deeper (envOfC name scope L f cdv)) 200 := ⟨by show callerA.depth + 1 + 200 < recursionLimit; decide +kernel, by show callerA.units + 3 + 4 * 200 < cLine; decide +kernel⟩
local macro_rules | `(tactic| k_qdec) => `(tactic| decide +kernel)
set_option tactic.hygienic true in
theorem la_test : PySem.Challenge.rw_nt0612_01.Holds := top_law left (by
  w_on
  k_go0
  (all_goals try k_fold)
  (rename Frag.In _ _ => X0); (rename Fr _ _ _ _ => F0); (rename News _ _ _ _ => N0); (rename Below _ _ _ _ => B0); (rename Top _ _ _ _ _ _ => T0); (rename Heap.IsList _ _ _ => L0); (rename IntsAre _ _ => I0)
  rename_i left0 right0 _
  refine law_walk (Γ := ⟨_, _, _, _, _⟩) B0 X0 T0 rfl rfl ?_ ?_ ?_ ?_ F0 N0 ?_ ?_ L0 I0 ?_ ?_
  · exact room_law
  · kernel_rfl
  · kernel_rfl
  · exact PassesOwn.leaving
  · exact left0.trans (by kernel_rfl)
  · exact right0.trans (by kernel_rfl)
  · have h1 := I0.length
    omega
  · intro m' news' h' tk' F' N'
    dsimp only
    k_steps)
end Mine
end
theorem PySem.Challenge.cw_nt0612_01_holds : PySem.Challenge.rw_nt0612_01.Holds :=
  Mine.la_test
